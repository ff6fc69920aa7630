import PyProof.Rows.All
import Wide.All
import OpenK.AllK
import Wide.FinOn
import HandS.ForMost
import HandS.Walk
import HandS.Exc
import HandS.ExcOwn
import HandS.Wide
import HandS.TupAny
import HandS.TupMul
import KE.KDictKeyed
import HandS.IsInst
import HandS.Deep
import HandS.Conv
import HandS.SortInts
import KE.DataFind
import KE.DataMinMax
import KE.KTupSum
import KE.SortData
import HandS.Style
import HandS.WordsExc
import HandS.Defaults
import HandS.HeadEnd
import HandS.More
import HandS.Words
import HandS.Head0
import HandS.Head1
import HandS.Head2
import HandS.HeadHook1
import HandS.HeadHook2
import PySem.Challenge.RW_diceboxes_k13_whole_points_by_points
set_option Elab.async false
set_option linter.all false
set_option maxRecDepth 100000
set_option maxHeartbeats 0
/-! EvA: data, store, the small language (IR) and its evaluator. Plain Lean, no machine. -/
namespace EV
open PySem

/-- data: trees; `ref` an object of the store; `scr` the script -/
inductive D where
  | non | bl (b : Bool) | int (i : Int) | str (s : Str)
  | tup (xs : List D) | lst (xs : List D) | scr (ns : List Int) | ref (i : Nat)
  deriving Inhabited

/-- objects of the store -/
inductive O where
  | lst (xs : List D) | dic (kvs : List (D × D)) | lck (kvs : List (D × D)) | ins (c : Nat) (fs : List (Str × D))
  deriving Inhabited

abbrev Store := List O
abbrev Env := List (Option D)

inductive R (α : Type) where
  | ok (a : α) (st : Store) | err (k : Nat) (st : Store) | bad
  deriving Inhabited
def R.bind {α β : Type} (r : R α) (f : α → Store → R β) : R β := match r with
  | .ok a st => f a st
  | .err k st => .err k st
  | .bad => .bad
@[simp] theorem R.bind_ok {α β : Type} (a : α) (st : Store) (f : α → Store → R β) : (R.ok a st).bind f = f a st := rfl
@[simp] theorem R.bind_err {α β : Type} (k : Nat) (st : Store) (f : α → Store → R β) : (R.err k st : R α).bind f = .err k st := rfl
@[simp] theorem R.bind_bad {α β : Type} (f : α → Store → R β) : (R.bad : R α).bind f = .bad := rfl
theorem R.bind_assoc {α β γ : Type} (r : R α) (f : α → Store → R β) (g : β → Store → R γ) : (r.bind f).bind g = r.bind fun a st => (f a st).bind g := by
  cases r <;> rfl
def R.of {α : Type} (o : Option α) (st : Store) : R α := match o with
  | some a => .ok a st
  | none => .bad
@[simp] theorem R.of_some {α : Type} (a : α) (st : Store) : R.of (some a) st = .ok a st := rfl
@[simp] theorem R.of_none {α : Type} (st : Store) : R.of (none : Option α) st = .bad := rfl
/-- no error may come -/
def R.noX {α : Type} (r : R α) : R α := match r with
  | .ok a st => .ok a st
  | _ => .bad
@[simp] theorem R.noX_ok {α : Type} (a : α) (st : Store) : (R.ok a st).noX = .ok a st := rfl
/-- a test of the evaluator's own -/
def R.test {α : Type} (b : Bool) (k : R α) : R α := match b with
  | true => k
  | false => .bad
@[simp] theorem R.test_true {α : Type} (k : R α) : R.test true k = k := rfl
@[simp] theorem R.test_false {α : Type} (k : R α) : R.test false k = .bad := rfl

/-! ### order, equality, depth of data -/
mutual
def D.eqv : D → D → Bool
  | .non, .non => true
  | .bl a, .bl b => a == b
  | .bl a, .int j => (if a then 1 else 0) == j
  | .int i, .bl b => i == (if b then 1 else 0)
  | .int i, .int j => i == j
  | .str x, .str y => x == y
  | .lst xs, .lst ys => D.eqvs xs ys
  | .tup xs, .tup ys => D.eqvs xs ys
  | _, _ => false
def D.eqvs : List D → List D → Bool
  | [], [] => true
  | x :: xs, y :: ys => D.eqv x y && D.eqvs xs ys
  | _, _ => false
end
mutual
/-- can it be read as plain data, of depth at most n? -/
def D.flat : Nat → D → Bool
  | _, .non => true
  | _, .bl _ => true
  | _, .int _ => true
  | _, .str _ => true
  | n + 1, .tup xs => D.flats n xs
  | n + 1, .lst xs => D.flats n xs
  | _, _ => false
def D.flats : Nat → List D → Bool
  | _, [] => true
  | n, x :: xs => D.flat n x && D.flats n xs
end
mutual
def D.alike : D → D → Bool
  | .non, .non => true
  | .bl _, .bl _ => true
  | .int _, .int _ => true
  | .str _, .str _ => true
  | .lst xs, .lst ys => D.alikes xs ys
  | .tup xs, .tup ys => D.alikes xs ys
  | _, _ => false
def D.alikes : List D → List D → Bool
  | x :: xs, y :: ys => D.alike x y && D.alikes xs ys
  | _, _ => true
end
mutual
def D.lt : D → D → Bool
  | .bl a, .bl b => !a && b
  | .int i, .int j => decide (i < j)
  | .str x, .str y => decide (x.cps.toList < y.cps.toList)
  | .lst xs, .lst ys => D.lts xs ys
  | .tup xs, .tup ys => D.lts xs ys
  | _, _ => false
def D.lts : List D → List D → Bool
  | [], _ :: _ => true
  | x :: xs, y :: ys => if D.eqv x y then D.lts xs ys else D.lt x y
  | _, _ => false
end
mutual
/-- no store object from n on is named -/
def D.low (n : Nat) : D → Bool
  | .ref i => decide (i < n)
  | .tup xs => D.lows n xs
  | .lst xs => D.lows n xs
  | _ => true
def D.lows (n : Nat) : List D → Bool
  | [] => true
  | x :: xs => D.low n x && D.lows n xs
end
def lowKv (n : Nat) : List (D × D) → Bool
  | [] => true
  | (k, v) :: r => k.low n && (v.low n && lowKv n r)
def lowFs (n : Nat) : List (Str × D) → Bool
  | [] => true
  | (_, v) :: r => v.low n && lowFs n r
def O.low (n : Nat) : O → Bool
  | .lst xs => D.lows n xs
  | .dic kvs => lowKv n kvs
  | .lck kvs => lowKv n kvs
  | .ins _ fs => lowFs n fs
def lowO (n : Nat) : List O → Bool
  | [] => true
  | o :: r => o.low n && lowO n r
/-! a key of a dict: an int, a text, a tuple of such (no truths); depth at most n -/
mutual
def D.key : Nat → D → Bool
  | _, .int _ => true
  | _, .str _ => true
  | n + 1, .tup xs => D.keys n xs
  | _, _ => false
def D.keys : Nat → List D → Bool
  | _, [] => true
  | n, x :: xs => D.key n x && D.keys n xs
end
def D.isNon : D → Bool
  | .non => true
  | _ => false
def D.isTup : D → Bool
  | .tup _ => true
  | _ => false

/-! ### small helpers -/
def lim : Nat := 16777216
/-- the items of a list, tuple, script -/
def seqOf (st : Store) : D → Option (List D)
  | .tup xs => some xs
  | .lst xs => some xs
  | .scr ns => some (ns.map D.int)
  | .ref i => match st[i]? with
    | some (.lst xs) => some xs
    | _ => none
  | _ => none
def intsOf : List D → Option (List Int)
  | [] => some []
  | .int i :: r => (intsOf r).map (i :: ·)
  | _ :: _ => none
def blsOf : List D → Option (List Bool)
  | [] => some []
  | .bl b :: r => (blsOf r).map (b :: ·)
  | _ :: _ => none
def strsOf : List D → Option (List Str)
  | [] => some []
  | .str b :: r => (strsOf r).map (b :: ·)
  | _ :: _ => none
/-- Python's index -/
def ix (n : Nat) (i : Int) : Option Nat :=
  if 0 ≤ i then (if i < n then some i.toNat else none) else if -(n : Int) ≤ i then some (i + n).toNat else none
def getAt {α : Type} (xs : List α) (i : Int) : Option α := (ix xs.length i).bind fun j => xs[j]?
/-- a slice's end -/
def cutIx (n d : Nat) : Option Int → Nat
  | none => d
  | some v => if v < 0 then (v + n).toNat else min v.toNat n
def cut {α : Type} (xs : List α) (lo hi : Option Int) : List α :=
  (xs.drop (cutIx xs.length 0 lo)).take (cutIx xs.length xs.length hi - cutIx xs.length 0 lo)
def dget (kvs : List (D × D)) (k : D) : Option D := match kvs with
  | [] => none
  | (a, v) :: r => if D.eqv a k then some v else dget r k
def dput (kvs : List (D × D)) (k v : D) : List (D × D) := match kvs with
  | [] => [(k, v)]
  | (a, w) :: r => if D.eqv a k then (a, v) :: r else (a, w) :: dput r k v
def fget (fs : List (Str × D)) (f : Str) : Option D := match fs with
  | [] => none
  | (a, v) :: r => if a = f then some v else fget r f
def fput (fs : List (Str × D)) (f : Str) (v : D) : List (Str × D) := match fs with
  | [] => [(f, v)]
  | (a, w) :: r => if a = f then (a, v) :: r else (a, w) :: fput r f v
def memD (x : D) : List D → Bool
  | [] => false
  | y :: r => D.eqv y x || memD x r
def countD (x : D) : List D → Nat
  | [] => 0
  | y :: r => if D.eqv y x then countD x r + 1 else countD x r

/-! ### operators -/
def binD (op : Operator) (x y : D) (st : Store) : R D := match op, x, y with
  | .Add, .int i, .int j => .ok (.int (i + j)) st
  | .Sub, .int i, .int j => .ok (.int (i - j)) st
  | .Mult, .int i, .int j => R.test (decide (i.natAbs < 2 ^ 4000) && decide (j.natAbs < 2 ^ 4000) || decide (i.natAbs < 2 ^ 63) || decide (j.natAbs < 2 ^ 63)) (.ok (.int (i * j)) st)
  | .FloorDiv, .int i, .int j => R.test (decide (0 < j) && decide (j < 2 ^ 4000)) (.ok (.int (i / j)) st)
  | .Mod, .int i, .int j => R.test (decide (0 < j)) (.ok (.int (i % j)) st)
  | .Add, .str a, .str b => R.test (decide (a.length + b.length ≤ lim)) (.ok (.str (a ++ b)) st)
  | .Add, .tup a, .tup b => R.test (decide (a.length + b.length ≤ lim)) (.ok (.tup (a ++ b)) st)
  | .Mult, .tup a, .int k => R.test (decide (a.length ≤ 1000) && decide (-1000 ≤ k) && decide (k ≤ 1000)) (.ok (.tup (List.replicate k.toNat a).flatten) st)
  | .Add, .lst a, .lst b => R.test (decide (a.length + b.length ≤ lim)) (.ok (.lst (a ++ b)) st)
  | .Mult, .lst a, .int k => R.test (decide (a.length ≤ 1000) && decide (-1000 ≤ k) && decide (k ≤ 1000)) (.ok (.lst (List.replicate k.toNat a).flatten) st)
  | _, _, _ => .bad
/-- is it a plain value of depth at most 20? -/
abbrev D.plain (d : D) : Bool := d.flat 20
def cmpD (op : CmpOp) (x y : D) (st : Store) : R D := match op with
  | .Eq => R.test (x.plain && y.plain) (.ok (.bl (D.eqv x y)) st)
  | .NotEq => R.test (x.plain && y.plain) (.ok (.bl (!D.eqv x y)) st)
  | .Lt => match x, y with
    | .int i, .int j => .ok (.bl (decide (i < j))) st
    | _, _ => .bad
  | .LtE => match x, y with
    | .int i, .int j => .ok (.bl (decide (i ≤ j))) st
    | _, _ => .bad
  | .Gt => match x, y with
    | .int i, .int j => .ok (.bl (decide (j < i))) st
    | _, _ => .bad
  | .GtE => match x, y with
    | .int i, .int j => .ok (.bl (decide (j ≤ i))) st
    | _, _ => .bad
  | .Is => match y with
    | .non => .ok (.bl x.isNon) st
    | .bl b => match x with
      | .bl a => .ok (.bl (a == b)) st
      | _ => .bad
    | _ => .bad
  | .IsNot => match y with
    | .non => .ok (.bl (!x.isNon)) st
    | .bl b => match x with
      | .bl a => .ok (.bl (!(a == b))) st
      | _ => .bad
    | _ => .bad
  | .In => match y with
    | .ref i => match st[i]? with
      | some (.dic kvs) => R.test (x.key 6) (.ok (.bl (dget kvs x).isSome) st)
      | some (.lck kvs) => R.test (x.key 6) (.ok (.bl (dget kvs x).isSome) st)
      | some (.lst xs) => R.test (x.plain && D.flats 20 xs) (.ok (.bl (memD x xs)) st)
      | _ => .bad
    | .tup xs => R.test (x.plain && D.flats 20 xs) (.ok (.bl (memD x xs)) st)
    | .lst xs => R.test (x.plain && D.flats 20 xs) (.ok (.bl (memD x xs)) st)
    | .str t => match x with
      | .str s => match s.cps.toList with
        | [c] => .ok (.bl (decide (c ∈ t.cps.toList))) st
        | _ => .bad
      | _ => .bad
    | _ => .bad
  | .NotIn => match y with
    | .ref i => match st[i]? with
      | some (.dic kvs) => R.test (x.key 6) (.ok (.bl (!(dget kvs x).isSome)) st)
      | some (.lck kvs) => R.test (x.key 6) (.ok (.bl (!(dget kvs x).isSome)) st)
      | some (.lst xs) => R.test (x.plain && D.flats 20 xs) (.ok (.bl (!memD x xs)) st)
      | _ => .bad
    | .tup xs => R.test (x.plain && D.flats 20 xs) (.ok (.bl (!memD x xs)) st)
    | .lst xs => R.test (x.plain && D.flats 20 xs) (.ok (.bl (!memD x xs)) st)
    | .str t => match x with
      | .str s => match s.cps.toList with
        | [c] => .ok (.bl (!decide (c ∈ t.cps.toList))) st
        | _ => .bad
      | _ => .bad
    | _ => .bad
/-- a[i] -/
def idxD (x y : D) (st : Store) : R D := match x with
  | .tup xs => match y with
    | .int i => R.of (getAt xs i) st
    | _ => .bad
  | .lst xs => match y with
    | .int i => R.of (getAt xs i) st
    | _ => .bad
  | .scr ns => match y with
    | .int i => R.of ((getAt ns i).map D.int) st
    | _ => .bad
  | .str s => match y with
    | .int i => R.test (decide (s.length ≤ lim)) (R.of ((getAt s.cps.toList i).map fun c => D.str ⟨#[c]⟩) st)
    | _ => .bad
  | .ref j => match st[j]? with
    | some (.lst xs) => match y with
      | .int i => R.of (getAt xs i) st
      | _ => .bad
    | some (.dic kvs) => R.test (y.key 6) (R.of (dget kvs y) st)
    | some (.lck kvs) => R.test (y.key 6) (R.of (dget kvs y) st)
    | _ => .bad
  | _ => .bad
/-- a[lo:hi] -/
def sliD (x : D) (l h : Option Int) (st : Store) : R D := match x with
  | .tup xs => .ok (.tup (cut xs l h)) st
  | .lst xs => .ok (.lst (cut xs l h)) st
  | .ref i => match st[i]? with
    | some (.lst xs) => .ok (.lst (cut xs l h)) st
    | _ => .bad
  | .str s => R.test (decide (s.length ≤ lim)) (.ok (.str ⟨(cut s.cps.toList l h).toArray⟩) st)
  | _ => .bad

/-! ### builtins -/
/-- kinds of data -/
inductive Kd where
  | non | bl | int | str | tup | lst | dic
  deriving DecidableEq
def D.kd (st : Store) : D → Option Kd
  | .non => some .non
  | .bl _ => some .bl
  | .int _ => some .int
  | .str _ => some .str
  | .tup _ => some .tup
  | .lst _ => some .lst
  | .scr _ => none
  | .ref i => match st[i]? with
    | some (.lst _) => some .lst
    | some (.dic _) => some .dic
    | some (.lck _) => some .dic
    | _ => none
/-- isinstance -/
def Kd.sub : Kd → Kd → Bool
  | .bl, .int => true
  | a, b => decide (a = b)
inductive Blt where
  | len | sum | any | all | sorted | tuple | list | int | str | abs | min2 | max2 | max1 | tupRange | isT (t : Kd)
  deriving DecidableEq
inductive Mth where
  | count | split | join | get2 | append | extend | pop | items
  deriving DecidableEq
/-- sorted -/
def sortI (ns : List Int) : List Int := ns.mergeSort fun a b => decide (a ≤ b)
/-- which of the library's parts are in use -/
def dicOn : Bool := false
def sortOn : Bool := false
def sortD (xs : List D) : Option (List D) := match intsOf xs with
  | some ns => some ((sortI ns).map D.int)
  | none => if (sortOn && D.flats 20 xs && xs.all fun x => xs.all fun y => D.alike x y && !x.isNon) = true then some (xs.mergeSort fun x y => !D.lt y x) else none
def bltD (f : Blt) (xs : List D) (st : Store) : R D := match f with
  | .len => match xs with
    | [.str s] => R.test (decide (s.length ≤ lim)) (.ok (.int s.length) st)
    | [.ref i] => match st[i]? with
      | some (.lst ys) => .ok (.int ys.length) st
      | some (.dic kvs) => .ok (.int kvs.length) st
      | some (.lck kvs) => .ok (.int kvs.length) st
      | _ => .bad
    | [x] => (R.of (seqOf st x) st).bind fun ys st => .ok (.int ys.length) st
    | _ => .bad
  | .sum => match xs with
    | [x] => (R.of ((seqOf st x).bind intsOf) st).bind fun ns st => .ok (.int ns.sum) st
    | _ => .bad
  | .any => match xs with
    | [.lst ys] => (R.of (blsOf ys) st).bind fun bs st => .ok (.bl (bs.any id)) st
    | _ => .bad
  | .all => match xs with
    | [.lst ys] => (R.of (blsOf ys) st).bind fun bs st => .ok (.bl (bs.all id)) st
    | _ => .bad
  | .sorted => match xs with
    | [.ref i] => match st[i]? with
      | some (.lst ys) => (R.of (sortD ys) st).bind fun zs st => .ok (.lst zs) st
      | some (.dic kvs) => R.test sortOn ((R.of (sortD (kvs.map (·.1))) st).bind fun zs st => .ok (.lst zs) st)
      | some (.lck kvs) => R.test sortOn ((R.of (sortD (kvs.map (·.1))) st).bind fun zs st => .ok (.lst zs) st)
      | _ => .bad
    | [.lst ys] => (R.of (sortD ys) st).bind fun zs st => .ok (.lst zs) st
    | [.tup ys] => R.test sortOn ((R.of (sortD ys) st).bind fun zs st => .ok (.lst zs) st)
    | _ => .bad
  | .tuple => match xs with
    | [.tup ys] => .ok (.tup ys) st
    | [.lst ys] => .ok (.tup ys) st
    | [.ref i] => match st[i]? with
      | some (.lst ys) => .ok (.tup ys) st
      | _ => .bad
    | _ => .bad
  | .list => match xs with
    | [.tup ys] => .ok (.lst ys) st
    | [.lst ys] => .ok (.lst ys) st
    | [.ref i] => match st[i]? with
      | some (.lst ys) => .ok (.lst ys) st
      | some (.dic kvs) => .ok (.lst (kvs.map (·.1))) st
      | some (.lck kvs) => .ok (.lst (kvs.map (·.1))) st
      | _ => .bad
    | _ => .bad
  | .int => match xs with
    | [.int i] => .ok (.int i) st
    | [.bl b] => .ok (.int (if b then 1 else 0)) st
    | [.str s] => R.test (decide (s.length ≤ 640)) (R.of ((PySem.intText? s).map D.int) st)
    | _ => .bad
  | .str => match xs with
    | [.int i] => R.test (decide (i.natAbs.log2 < 1920)) (.ok (.str (toString i : String)) st)
    | [.str s] => .ok (.str s) st
    | _ => .bad
  | .abs => match xs with
    | [.int i] => .ok (.int (if i < 0 then -i else i)) st
    | _ => .bad
  | .min2 => match xs with
    | [.int i, .int j] => .ok (.int (if j < i then j else i)) st
    | _ => .bad
  | .max2 => match xs with
    | [.int i, .int j] => .ok (.int (if j > i then j else i)) st
    | _ => .bad
  | .max1 => match xs with
    | [.lst ys] => (R.of (intsOf ys) st).bind fun ns st => match ns with
      | [] => .bad
      | n :: r => .ok (.int (r.foldl max n)) st
    | _ => .bad
  | .tupRange => match xs with
    | [.int n] => R.test (decide (n ≤ 1000000)) (.ok (.tup ((List.range n.toNat).map fun i : Nat => D.int i)) st)
    | _ => .bad
  | .isT t => match xs with
    | [x] => (R.of (x.kd st) st).bind fun k st => .ok (.bl (k.sub t)) st
    | _ => .bad
/-- the receiver's kind -/
def Mth.kd : Mth → Kd
  | .count => .tup
  | .split => .str
  | .join => .str
  | .get2 => .dic
  | .append => .lst
  | .extend => .lst
  | .pop => .lst
  | .items => .dic
def Mth.ok (m : Mth) (d : D) (st : Store) : Bool := decide (d.kd st = some m.kd)
/-- methods of built-in types -/
def mthD (m : Mth) (o : D) (xs : List D) (st : Store) : R D := match m, o, xs with
  | .count, .tup ys, [x] => R.test (x.plain && D.flats 20 ys) (.ok (.int (countD x ys)) st)
  | .split, .str s, [.str t] => R.test (decide (0 < t.length) && decide (s.length + 2 ≤ lim)) (.ok (.lst ((PySem.Txt.split s t).map D.str)) st)
  | .join, .str s, [.lst ys] => (R.of (strsOf ys) st).bind fun zs st => R.test (decide ((zs.map (·.length)).sum + zs.length * s.length ≤ lim)) (.ok (.str (PySem.Txt.join s zs)) st)
  | .get2, .ref i, [k, x] => match st[i]? with
    | some (.dic kvs) => R.test (k.key 6) (.ok ((dget kvs k).getD x) st)
    | some (.lck kvs) => R.test (k.key 6) (.ok ((dget kvs k).getD x) st)
    | _ => .bad
  | .append, .ref i, [x] => match st[i]? with
    | some (.lst ys) => R.test (decide (ys.length < lim)) (.ok .non (st.set i (.lst (ys ++ [x]))))
    | _ => .bad
  | .extend, .ref i, [.lst zs] => match st[i]? with
    | some (.lst ys) => R.test (decide (ys.length + zs.length ≤ lim)) (.ok .non (st.set i (.lst (ys ++ zs))))
    | _ => .bad
  | .pop, .ref i, [] => match st[i]? with
    | some (.lst ys) => match ys.getLast? with
      | some y => .ok y (st.set i (.lst ys.dropLast))
      | none => .bad
    | _ => .bad
  | _, _, _ => .bad

end EV
/-! EvB: the small language and its evaluator. -/
namespace EV
open PySem

/-! ### sameness of data -/
mutual
def D.same : D → D → Bool
  | .non, .non => true
  | .bl a, .bl b => a == b
  | .int i, .int j => i == j
  | .str x, .str y => x == y
  | .lst xs, .lst ys => D.sames xs ys
  | .tup xs, .tup ys => D.sames xs ys
  | .scr ns, .scr ms => ns == ms
  | .ref i, .ref j => i == j
  | _, _ => false
def D.sames : List D → List D → Bool
  | [], [] => true
  | x :: xs, y :: ys => D.same x y && D.sames xs ys
  | _, _ => false
end
def sameKv : List (D × D) → List (D × D) → Bool
  | [], [] => true
  | (k, v) :: xs, (l, w) :: ys => k.same l && (v.same w && sameKv xs ys)
  | _, _ => false
def sameFs : List (Str × D) → List (Str × D) → Bool
  | [], [] => true
  | (k, v) :: xs, (l, w) :: ys => k == l && (v.same w && sameFs xs ys)
  | _, _ => false
def O.same : O → O → Bool
  | .lst xs, .lst ys => D.sames xs ys
  | .dic a, .dic b => sameKv a b
  | .lck a, .lck b => sameKv a b
  | .ins c a, .ins d b => c == d && sameFs a b
  | _, _ => false
def sameO : List O → List O → Bool
  | [], [] => true
  | x :: xs, y :: ys => x.same y && sameO xs ys
  | _, _ => false
mutual
theorem D.same_refl : ∀ d : D, d.same d = true
  | .non => by simp [D.same]
  | .bl _ => by simp [D.same]
  | .int _ => by simp [D.same]
  | .str _ => by simp [D.same]
  | .lst xs => by rw [D.same]; exact D.sames_refl xs
  | .tup xs => by rw [D.same]; exact D.sames_refl xs
  | .scr _ => by simp [D.same]
  | .ref _ => by simp [D.same]
theorem D.sames_refl : ∀ xs : List D, D.sames xs xs = true
  | [] => by simp [D.sames]
  | x :: xs => by rw [D.sames, D.same_refl x, D.sames_refl xs]; rfl
end
mutual
theorem D.of_same : ∀ d e : D, d.same e = true → d = e
  | .non, e, h => by cases e <;> simp [D.same] at h <;> rfl
  | .bl _, e, h => by cases e <;> simp [D.same] at h; rw [h]
  | .int _, e, h => by cases e <;> simp [D.same] at h; rw [h]
  | .str _, e, h => by cases e <;> simp [D.same] at h; rw [h]
  | .lst xs, e, h => by
    cases e <;> simp only [D.same, Bool.false_eq_true] at h
    rw [D.of_sames xs _ h]
  | .tup xs, e, h => by
    cases e <;> simp only [D.same, Bool.false_eq_true] at h
    rw [D.of_sames xs _ h]
  | .scr _, e, h => by cases e <;> simp [D.same] at h; rw [h]
  | .ref _, e, h => by cases e <;> simp [D.same] at h; rw [h]
theorem D.of_sames : ∀ xs ys : List D, D.sames xs ys = true → xs = ys
  | [], ys, h => by cases ys <;> simp [D.sames] at h; rfl
  | x :: xs, ys, h => by
    cases ys with
    | nil => simp [D.sames] at h
    | cons y ys =>
      rw [D.sames, Bool.and_eq_true] at h
      rw [D.of_same x y h.1, D.of_sames xs ys h.2]
end
theorem sameKv_refl : ∀ xs, sameKv xs xs = true
  | [] => rfl
  | (k, v) :: xs => by rw [sameKv, D.same_refl, D.same_refl, sameKv_refl xs]; rfl
theorem of_sameKv : ∀ xs ys, sameKv xs ys = true → xs = ys
  | [], ys, h => by cases ys <;> simp [sameKv] at h; rfl
  | (k, v) :: xs, ys, h => by
    cases ys with
    | nil => simp [sameKv] at h
    | cons y ys =>
      obtain ⟨l, w⟩ := y
      rw [sameKv, Bool.and_eq_true, Bool.and_eq_true] at h
      rw [D.of_same _ _ h.1, D.of_same _ _ h.2.1, of_sameKv xs ys h.2.2]
theorem sameFs_refl : ∀ xs, sameFs xs xs = true
  | [] => rfl
  | (k, v) :: xs => by rw [sameFs, D.same_refl, sameFs_refl xs]; simp
theorem of_sameFs : ∀ xs ys, sameFs xs ys = true → xs = ys
  | [], ys, h => by cases ys <;> simp [sameFs] at h; rfl
  | (k, v) :: xs, ys, h => by
    cases ys with
    | nil => simp [sameFs] at h
    | cons y ys =>
      obtain ⟨l, w⟩ := y
      rw [sameFs, Bool.and_eq_true, Bool.and_eq_true] at h
      have e : k = l := by simpa using h.1
      rw [e, D.of_same _ _ h.2.1, of_sameFs xs ys h.2.2]
theorem O.same_refl (o : O) : o.same o = true := by
  cases o <;> simp [O.same, D.sames_refl, sameKv_refl, sameFs_refl]
theorem O.of_same (o p : O) (h : o.same p = true) : o = p := by
  cases o <;> cases p <;> simp only [O.same, Bool.false_eq_true] at h
  · rw [D.of_sames _ _ h]
  · rw [of_sameKv _ _ h]
  · rw [of_sameKv _ _ h]
  · rw [Bool.and_eq_true] at h
    have e := eq_of_beq h.1
    rw [e, of_sameFs _ _ h.2]
theorem sameO_refl : ∀ xs, sameO xs xs = true
  | [] => rfl
  | x :: xs => by rw [sameO, O.same_refl, sameO_refl xs]; rfl
theorem of_sameO : ∀ xs ys, sameO xs ys = true → xs = ys
  | [], ys, h => by cases ys <;> simp [sameO] at h; rfl
  | x :: xs, ys, h => by
    cases ys with
    | nil => simp [sameO] at h
    | cons y ys =>
      rw [sameO, Bool.and_eq_true] at h
      rw [O.of_same _ _ h.1, of_sameO xs ys h.2]
@[simp] theorem D.sames_self (xs : List D) : D.sames xs xs = true := D.sames_refl xs
@[simp] theorem sameKv_self (xs : List (D × D)) : sameKv xs xs = true := sameKv_refl xs
@[simp] theorem sameO_self (xs : List O) : sameO xs xs = true := sameO_refl xs

/-! ### the language -/
inductive Tg where
  | one (i : Nat) | many (is : List Nat)
  deriving DecidableEq
mutual
inductive E where
  | var (i : Nat) | con (d : D)
  | bin (op : Operator) (a b : E) | neg (a : E)
  | cmp (op : CmpOp) (a b : E) | chn (o1 o2 : CmpOp) (a b c : E)
  | and (a b : E) | or (a b : E) | not (a : E)
  | tup (es : Es) | lst (es : Es) | lstM (es : Es) | dct (ks vs : Es)
  | idx (a b : E) | sli (a : E) (lo hi : Po) | rev (a : E)
  | call (f : Nat) (es : Es) | blt (f : Blt) (es : Es) | mth (m : Mth) (o : E) (es : Es)
  | meth (m : Str) (o : E) (es : Es) | make (c : Nat) (es : Es) | fld (o : E) (f : Str)
  | lc (m : Bool) (own : List Nat) (tg : Tg) (it : It) (cond elt : E)
  | told (e : E)
inductive Es where
  | nil | cons (e : E) (es : Es)
inductive Po where
  | no | is (e : E)
inductive It where
  | seq (e : E) | keys (e : E) | rng1 (a : E) | rng2 (a b : E) | rng3 (a b c : E) | items (e : E) | enum (e : E) | zip (a b : E)
end
mutual
inductive S where
  | set (t : Tg) (e : E) | fld (o : E) (f : Str) (e : E) | put (o k e : E)
  | exp (e : E) | ret (e : E) | retN
  | ite (c : E) (a b : Ss) | whl (c : E) (b : Ss) | for (tg : Tg) (it : It) (b : Ss)
  | pass | brk | cont | raise (k : Nat)
inductive Ss where
  | nil | cons (s : S) (ss : Ss)
end
/-- how a statement ends -/
inductive Fl where
  | nx (env : Env) | rt (d : D) | bk (env : Env) | ct (env : Env)

/-- a def: how many parameters, how many slots, its body -/
structure FDef where
  np : Nat
  ns : Nat
  body : Ss
/-- the program: its defs, its classes' methods and __init__ -/
structure Prg where
  fn : Nat → Option FDef
  meth : Nat → Str → Option Nat
  init : Nat → Option Nat
  wfuel : Nat
/-- the surroundings of an evaluation -/
structure Ctx where
  call : Nat → List D → Store → R D
  meth : Nat → Str → Option Nat
  init : Nat → Option Nat
  wfuel : Nat

/-! ### assignment, loops -/
def asgs : List Nat → List D → Env → Option Env
  | [], [], env => some env
  | i :: is, d :: ds, env => asgs is ds (env.set i (some d))
  | _, _, _ => none
def asg (t : Tg) (d : D) (env : Env) : Option Env := match t with
  | .one i => some (env.set i (some d))
  | .many is => match d with
    | .tup xs => asgs is xs env
    | _ => none
def wipes (env : Env) : List Nat → Env
  | [] => env
  | v :: vs => (wipes env vs).set v none
/-- what must stand still while a loop walks it -/
inductive Grd where
  | no | lst (i : Nat) (xs : List D) | dic (i : Nat) (kvs : List (D × D)) | lck (i : Nat) (kvs : List (D × D))
def Grd.lock : Grd → Store → Store
  | .dic i kvs, st => st.set i (.lck kvs)
  | _, st => st
def Grd.free : Grd → Store → Store
  | .dic i kvs, st => st.set i (.dic kvs)
  | _, st => st
def Grd.holds : Grd → Store → Bool
  | .no, _ => true
  | .lst i xs, st => match st[i]? with
    | some (.lst ys) => D.sames xs ys
    | _ => false
  | .dic i kvs, st => match st[i]? with
    | some (.lck ls) => sameKv kvs ls
    | _ => false
  | .lck i kvs, st => match st[i]? with
    | some (.lck ls) => sameKv kvs ls
    | _ => false
/-- an error may not leave a loop that locks -/
def Grd.out {α : Type} (g : Grd) (r : R α) : R α := match g, r with
  | .dic _ _, .err _ _ => .bad
  | _, .ok a st => R.test (g.holds st) (.ok a (g.free st))
  | _, r => r
def forL (g : Grd) (tg : Tg) (body : Env → Store → R Fl) : List D → Env → Store → R Fl
  | [], env, st => R.test (g.holds st) (.ok (.nx env) st)
  | d :: ds, env, st => R.test (g.holds st) ((R.of (asg tg d env) st).bind fun env st => (body env st).bind fun f st => match f with
    | .nx env => forL g tg body ds env st
    | .ct env => forL g tg body ds env st
    | .bk env => .ok (.nx env) st
    | .rt v => .ok (.rt v) st)
def lcL (g : Grd) (tg : Tg) (cond elt : Env → Store → R D) (env : Env) : List D → Store → R (List D)
  | [], st => R.test (g.holds st) (.ok [] st)
  | d :: ds, st => R.test (g.holds st) ((R.of (asg tg d env) st).bind fun env' st => (cond env' st).bind fun b st => match b with
    | .bl true => (elt env' st).bind fun y st => (lcL g tg cond elt env ds st).bind fun ys st => .ok (y :: ys) st
    | .bl false => lcL g tg cond elt env ds st
    | _ => .bad)
def whlL (c : Env → Store → R D) (body : Env → Store → R Fl) : Nat → Env → Store → R Fl
  | 0, _, _ => .bad
  | n + 1, env, st => (c env st).bind fun b st => match b with
    | .bl true => (body env st).bind fun f st => match f with
      | .nx env => whlL c body n env st
      | .ct env => whlL c body n env st
      | .bk env => .ok (.nx env) st
      | .rt v => .ok (.rt v) st
    | .bl false => .ok (.nx env) st
    | _ => .bad
/-- what a for walks -/
def seqIt (d : D) (st : Store) : R (List D × Grd) := match d with
  | .tup xs => .ok (xs, .no) st
  | .lst xs => .ok (xs, .no) st
  | .scr ns => .ok (ns.map D.int, .no) st
  | .str s => R.test (decide (s.length ≤ lim)) (.ok (s.cps.toList.map fun c => D.str ⟨#[c]⟩, .no) st)
  | .ref i => match st[i]? with
    | some (.lst xs) => .ok (xs, .lst i xs) st
    | _ => .bad
  | _ => .bad
def keysIt (d : D) (st : Store) : R (List D × Grd) := match d with
  | .ref i => match st[i]? with
    | some (.dic kvs) => .ok (kvs.map (·.1), .dic i kvs) st
    | _ => .bad
  | _ => .bad
def itemsIt (d : D) (st : Store) : R (List D × Grd) := match d with
  | .ref i => match st[i]? with
    | some (.dic kvs) => .ok (kvs.map fun kv => D.tup [kv.1, kv.2], .dic i kvs) st
    | _ => .bad
  | _ => .bad
def enumL : Int → List D → List D
  | _, [] => []
  | k, x :: xs => .tup [.int k, x] :: enumL (k + 1) xs
def zipL : List D → List D → List D
  | x :: xs, y :: ys => .tup [x, y] :: zipL xs ys
  | _, _ => []
def rngL (lo hi : Int) : List D := (List.range (hi - lo).toNat).map fun i : Nat => D.int (lo + i)
def rngS (lo hi c : Int) : List D := (List.range ((hi - lo + c - 1) / c).toNat).map fun i : Nat => D.int (lo + i * c)
def rng2 (x y : D) (st : Store) : R (List D × Grd) := match x, y with
  | .int lo, .int hi => R.test (decide (-1000000 ≤ lo) && decide (lo ≤ 1000000) && decide (-1000000 ≤ hi) && decide (hi ≤ 1000000)) (.ok (rngL lo hi, .no) st)
  | _, _ => .bad
def rng3 (x y z : D) (st : Store) : R (List D × Grd) := match x, y, z with
  | .int lo, .int hi, .int c => R.test (decide (-1000000 ≤ lo) && decide (lo ≤ 1000000) && decide (-1000000 ≤ hi) && decide (hi ≤ 1000000) && decide (0 < c) && decide (c ≤ 1000)) (.ok (rngS lo hi c, .no) st)
  | _, _, _ => .bad

/-! ### expressions -/
/-- an exception's class in the law's word for it -/
def toldOf (r : R D) : R D := match r with
  | .ok v st => .ok (.tup [.str "told", v]) st
  | .err k st => .ok (.tup [.str "refused", .int k]) st
  | .bad => .bad
mutual
def evE (C : Ctx) : E → Env → Store → R D
  | .var i, env, st => match env[i]? with
    | some (some d) => .ok d st
    | _ => .bad
  | .con d, _, st => .ok d st
  | .bin op a b, env, st => (evE C a env st).bind fun x st => (evE C b env st).bind fun y st => binD op x y st
  | .neg a, env, st => (evE C a env st).bind fun x st => match x with
    | .int i => .ok (.int (-i)) st
    | _ => .bad
  | .cmp op a b, env, st => (evE C a env st).bind fun x st => (evE C b env st).bind fun y st => cmpD op x y st
  | .chn o1 o2 a b c, env, st => (evE C a env st).bind fun x st => (evE C b env st).bind fun y st => (cmpD o1 x y st).bind fun r st => match r with
    | .bl true => (evE C c env st).bind fun z st => cmpD o2 y z st
    | .bl false => .ok (.bl false) st
    | _ => .bad
  | .and a b, env, st => (evE C a env st).bind fun x st => match x with
    | .bl true => evE C b env st
    | .bl false => .ok (.bl false) st
    | _ => .bad
  | .or a b, env, st => (evE C a env st).bind fun x st => match x with
    | .bl true => .ok (.bl true) st
    | .bl false => evE C b env st
    | _ => .bad
  | .not a, env, st => (evE C a env st).bind fun x st => match x with
    | .bl b => .ok (.bl (!b)) st
    | _ => .bad
  | .tup es, env, st => (evEs C es env st).bind fun xs st => R.test (decide (xs.length ≤ 1000)) (.ok (.tup xs) st)
  | .lst es, env, st => (evEs C es env st).bind fun xs st => R.test (decide (xs.length ≤ 1000)) (.ok (.lst xs) st)
  | .lstM es, env, st => (evEs C es env st).bind fun xs st => R.test (decide (xs.length ≤ 1000)) (.ok (.ref st.length) (st ++ [.lst xs]))
  | .dct ks vs, env, st => .bad
  | .idx a b, env, st => (evE C a env st).bind fun x st => (evE C b env st).bind fun y st => idxD x y st
  | .sli a lo hi, env, st => (evE C a env st).bind fun x st => (evP C lo env st).bind fun l st => (evP C hi env st).bind fun h st => sliD x l h st
  | .rev a, env, st => (evE C a env st).bind fun x st => match x with
    | .lst xs => .ok (.lst xs.reverse) st
    | _ => .bad
  | .call f es, env, st => (evEs C es env st).bind fun xs st => C.call f xs st
  | .blt f es, env, st => (evEs C es env st).bind fun xs st => bltD f xs st
  | .mth m o es, env, st => (evE C o env st).bind fun x st => R.test (m.ok x st) ((evEs C es env st).bind fun xs st => mthD m x xs st)
  | .meth m o es, env, st => (evE C o env st).bind fun x st => match x with
    | .ref i => match st[i]? with
      | some (.ins c fs) => (R.of (C.meth c m) st).bind fun f st => (evEs C es env st).bind fun xs st => C.call f (x :: xs) st
      | _ => .bad
    | _ => .bad
  | .make c es, env, st => (evEs C es env st).bind fun xs st => (R.of (C.init c) st).bind fun f st => (C.call f (.ref st.length :: xs) (st ++ [.ins c []])).bind fun v st' => match v with
    | .non => .ok (.ref st.length) st'
    | _ => .bad
  | .fld o f, env, st => (evE C o env st).bind fun x st => match x with
    | .ref i => match st[i]? with
      | some (.ins _ fs) => R.of (fget fs f) st
      | _ => .bad
    | _ => .bad
  | .lc m own tg it cond elt, env, st => (evI C it env st).bind fun p st => (p.2.out (lcL p.2 tg (evE C cond) (evE C elt) (wipes env own) p.1 (p.2.lock st))).noX.bind fun ys st =>
      if m then .ok (.ref st.length) (st ++ [.lst ys]) else .ok (.lst ys) st
  | .told e, env, st => toldOf (evE C e env st)
def evEs (C : Ctx) : Es → Env → Store → R (List D)
  | .nil, _, st => .ok [] st
  | .cons e es, env, st => (evE C e env st).bind fun x st => (evEs C es env st).bind fun xs st => .ok (x :: xs) st
def evP (C : Ctx) : Po → Env → Store → R (Option Int)
  | .no, _, st => .ok none st
  | .is e, env, st => (evE C e env st).bind fun x st => match x with
    | .int i => .ok (some i) st
    | _ => .bad
def evI (C : Ctx) : It → Env → Store → R (List D × Grd)
  | .seq e, env, st => (evE C e env st).bind fun x st => seqIt x st
  | .keys e, env, st => (evE C e env st).bind fun x st => keysIt x st
  | .rng1 a, env, st => (evE C a env st).bind fun x st => rng2 (.int 0) x st
  | .rng2 a b, env, st => (evE C a env st).bind fun x st => (evE C b env st).bind fun y st => rng2 x y st
  | .rng3 a b c, env, st => (evE C a env st).bind fun x st => (evE C b env st).bind fun y st => (evE C c env st).bind fun z st => rng3 x y z st
  | .items e, env, st => (evE C e env st).bind fun x st => itemsIt x st
  | .enum e, env, st => (evE C e env st).bind fun x st => (R.of (seqOf st x) st).bind fun xs st => .ok (enumL 0 xs, match x with | .ref i => .lst i xs | _ => .no) st
  | .zip a b, env, st => (evE C a env st).bind fun x st => (evE C b env st).bind fun y st => match x, y with
    | .ref _, _ => .bad
    | _, .ref _ => .bad
    | x, y => (R.of (seqOf st x) st).bind fun xs st => (R.of (seqOf st y) st).bind fun ys st => .ok (zipL xs ys, .no) st
end

/-! ### statements -/
mutual
def evS (C : Ctx) : S → Env → Store → R Fl
  | .set t e, env, st => (evE C e env st).bind fun x st => (R.of (asg t x env) st).bind fun env st => .ok (.nx env) st
  | .fld o f e, env, st => (evE C e env st).bind fun v st => (evE C o env st).bind fun x st => match x with
    | .ref i => match st[i]? with
      | some (.ins c fs) => R.test (decide (fs.length < 100)) (.ok (.nx env) (st.set i (.ins c (fput fs f v))))
      | _ => .bad
    | _ => .bad
  | .put o k e, env, st => (evE C e env st).bind fun v st => (evE C o env st).bind fun x st => (evE C k env st).bind fun y st => match x with
    | .ref i => match st[i]? with
      | some (.dic kvs) => R.test (y.key 6 && decide (kvs.length < 1000000)) (.ok (.nx env) (st.set i (.dic (dput kvs y v))))
      | _ => .bad
    | _ => .bad
  | .exp e, env, st => (evE C e env st).bind fun _ st => .ok (.nx env) st
  | .ret e, env, st => (evE C e env st).bind fun v st => .ok (.rt v) st
  | .retN, _, st => .ok (.rt .non) st
  | .ite c a b, env, st => (evE C c env st).bind fun x st => match x with
    | .bl true => evSs C a env st
    | .bl false => evSs C b env st
    | _ => .bad
  | .whl c b, env, st => whlL (evE C c) (evSs C b) C.wfuel env st
  | .for tg it b, env, st => (evI C it env st).bind fun p st => p.2.out (forL p.2 tg (evSs C b) p.1 env (p.2.lock st))
  | .pass, env, st => .ok (.nx env) st
  | .brk, env, st => .ok (.bk env) st
  | .cont, env, st => .ok (.ct env) st
  | .raise k, _, st => .err k st
def evSs (C : Ctx) : Ss → Env → Store → R Fl
  | .nil, env, st => .ok (.nx env) st
  | .cons s ss, env, st => (evS C s env st).bind fun f st => match f with
    | .nx env => evSs C ss env st
    | .rt v => .ok (.rt v) st
    | .bk env => .ok (.bk env) st
    | .ct env => .ok (.ct env) st
end

/-! ### calls -/
/-- behind a call: what the call has made and nobody can name is forgotten -/
def keepN (n : Nat) (st st' : Store) : Bool := sameO (st'.take n) st || lowO n (st'.take n)
def backV (st : Store) (v : D) (st' : Store) : R D := if (v.low st.length && keepN st.length st st') = true then .ok v (st'.take st.length) else .ok v st'
def backX (st : Store) (k : Nat) (st' : Store) : R D := if keepN st.length st st' = true then .err k (st'.take st.length) else .err k st'
def backR (st : Store) (r : R Fl) : R D := match r with
  | .ok (.rt v) st' => backV st v st'
  | .ok (.nx _) st' => backV st .non st'
  | .ok _ _ => .bad
  | .err k st' => backX st k st'
  | .bad => .bad
def FDef.run (d : FDef) (C : Ctx) (args : List D) (st : Store) : R D :=
  if args.length = d.np then backR st (evSs C d.body (args.map some ++ List.replicate (d.ns - d.np) none) st) else .bad
def Prg.call (P : Prg) : Nat → Nat → List D → Store → R D
  | 0, _, _, _ => .bad
  | n + 1, f, args, st => match P.fn f with
    | none => .bad
    | some d => d.run ⟨P.call n, P.meth, P.init, P.wfuel⟩ args st
abbrev Prg.ctx (P : Prg) (n : Nat) : Ctx := ⟨P.call n, P.meth, P.init, P.wfuel⟩
theorem Prg.call_succ (P : Prg) (n f : Nat) (args : List D) (st : Store) {d : FDef} (h : P.fn f = some d) : P.call (n + 1) f args st = d.run (P.ctx n) args st := by
  rw [Prg.call, h]
end EV
/-! EvC: how data and store stand in the machine's heap. -/
namespace EV
open PySem PySem.Spec PyProof.Rows L2

/-- a tuple's object; a tuple as it is tracked here: by its very object -/
abbrev tupOb (us : List Value) : Obj := { cls := .type "tuple", data := .seq us.toArray }
abbrev FT (us : List Value) (xs : List V) : HO := .frz (tupOb us) (.tup xs)
/-- G: the frozen objects; ρ: where the store's objects stand -/
structure Wd where
  G : Hp
  ρ : List Addr
mutual
/-- the value v is the datum d -/
inductive Rep (K : PySem.W.Frag) (W : Wd) : V → D → Prop
  | non : Rep K W .non .non
  | bl (b : Bool) : Rep K W (.bl b) (.bl b)
  | int (i : Int) : Rep K W (.int i) (.int i)
  | str (s : Str) : Rep K W (.str s) (.str s)
  | tup {a : Addr} {us : List Value} {xs : List V} {ds : List D} : W.G a = some (FT us xs) → ds.length ≤ sizeLine → RepL K W xs ds → Rep K W (.ref a) (.tup ds)
  | lst {a : Addr} {xs : List V} {ds : List D} : W.G a = some (.lst xs) → ds.length ≤ sizeLine → RepL K W xs ds → Rep K W (.ref a) (.lst ds)
  | scr {a : Addr} {ns : List Int} : SqL K W.G a (ns.map V.int) → ns.length ≤ sizeLine → Rep K W (.ref a) (.scr ns)
  | ref {a : Addr} {i : Nat} : W.ρ[i]? = some a → Rep K W (.ref a) (.ref i)
inductive RepL (K : PySem.W.Frag) (W : Wd) : List V → List D → Prop
  | nil : RepL K W [] []
  | cons {v : V} {d : D} {vs : List V} {ds : List D} : Rep K W v d → RepL K W vs ds → RepL K W (v :: vs) (d :: ds)
end
section
variable {K : PySem.W.Frag} {W W' : Wd}
theorem RepL.length : ∀ {xs : List V} {ds : List D}, RepL K W xs ds → xs.length = ds.length
  | _, _, .nil => rfl
  | _, _, .cons _ t => by rw [List.length_cons, List.length_cons, RepL.length t]
theorem RepL.get : ∀ {xs : List V} {ds : List D}, RepL K W xs ds → ∀ {i : Nat} {d : D}, ds[i]? = some d → ∃ x, xs[i]? = some x ∧ Rep K W x d
  | _, _, .nil, _, _, e => by simp at e
  | _, _, .cons r t, 0, _, e => by simp at e; subst e; exact ⟨_, rfl, r⟩
  | _, _, .cons _ t, i + 1, d, e => by
    obtain ⟨x, h1, h2⟩ := RepL.get t (i := i) (d := d) (by simpa using e)
    exact ⟨x, by simpa using h1, h2⟩
theorem RepL.getV : ∀ {xs : List V} {ds : List D}, RepL K W xs ds → ∀ {i : Nat} {x : V}, xs[i]? = some x → ∃ d, ds[i]? = some d ∧ Rep K W x d
  | _, _, .nil, _, _, e => by simp at e
  | _, _, .cons r t, 0, _, e => by simp at e; subst e; exact ⟨_, rfl, r⟩
  | _, _, .cons _ t, i + 1, d, e => by
    obtain ⟨x, h1, h2⟩ := RepL.getV t (i := i) (x := d) (by simpa using e)
    exact ⟨x, by simpa using h1, h2⟩
theorem RepL.append : ∀ {xs ys : List V} {ds es : List D}, RepL K W xs ds → RepL K W ys es → RepL K W (xs ++ ys) (ds ++ es)
  | _, _, _, _, .nil, s => s
  | _, _, _, _, .cons r t, s => .cons r (RepL.append t s)
theorem RepL.take : ∀ {xs : List V} {ds : List D} (n : Nat), RepL K W xs ds → RepL K W (xs.take n) (ds.take n)
  | _, _, 0, _ => .nil
  | _, _, _ + 1, .nil => .nil
  | _, _, n + 1, .cons r t => .cons r (RepL.take n t)
theorem RepL.drop : ∀ {xs : List V} {ds : List D} (n : Nat), RepL K W xs ds → RepL K W (xs.drop n) (ds.drop n)
  | _, _, 0, r => r
  | _, _, _ + 1, .nil => .nil
  | _, _, n + 1, .cons _ t => RepL.drop n t
theorem RepL.reps {xs : List V} {ds : List D} (h : RepL K W xs ds) : ∀ k : Nat, RepL K W (List.replicate k xs).flatten (List.replicate k ds).flatten
  | 0 => .nil
  | k + 1 => by
    rw [List.replicate_succ, List.replicate_succ, List.flatten_cons, List.flatten_cons]
    exact h.append (RepL.reps h k)
theorem RepL.dropLast {xs : List V} {ds : List D} (h : RepL K W xs ds) : RepL K W xs.dropLast ds.dropLast := by
  rw [List.dropLast_eq_take, List.dropLast_eq_take, h.length]
  exact h.take _
theorem RepL.one {v : V} {d : D} (h : Rep K W v d) : RepL K W [v] [d] := .cons h .nil
theorem RepL.ints : ∀ (ns : List Int), RepL K W (ns.map V.int) (ns.map D.int)
  | [] => .nil
  | n :: ns => .cons (.int n) (RepL.ints ns)
theorem RepL.bls : ∀ (ns : List Bool), RepL K W (ns.map V.bl) (ns.map D.bl)
  | [] => .nil
  | n :: ns => .cons (.bl n) (RepL.bls ns)
theorem RepL.strs : ∀ (ns : List Str), RepL K W (ns.map V.str) (ns.map D.str)
  | [] => .nil
  | n :: ns => .cons (.str n) (RepL.strs ns)
theorem RepL.of_ints : ∀ {xs : List V} {ds : List D} {ns : List Int}, RepL K W xs ds → intsOf ds = some ns → xs = ns.map V.int
  | _, _, _, .nil, e => by
    simp [intsOf] at e
    subst e; rfl
  | _, _, _, .cons (d := d) r t, e => by
    cases r <;> simp only [intsOf, reduceCtorEq] at e
    case int i =>
      obtain ⟨ms, e1, e2⟩ := Option.map_eq_some_iff.mp e
      subst e2
      rw [RepL.of_ints t e1]
      rfl
theorem RepL.of_bls : ∀ {xs : List V} {ds : List D} {ns : List Bool}, RepL K W xs ds → blsOf ds = some ns → xs = ns.map V.bl
  | _, _, _, .nil, e => by
    simp [blsOf] at e
    subst e; rfl
  | _, _, _, .cons (d := d) r t, e => by
    cases r <;> simp only [blsOf, reduceCtorEq] at e
    case bl i =>
      obtain ⟨ms, e1, e2⟩ := Option.map_eq_some_iff.mp e
      subst e2
      rw [RepL.of_bls t e1]
      rfl
theorem RepL.of_strs : ∀ {xs : List V} {ds : List D} {ns : List Str}, RepL K W xs ds → strsOf ds = some ns → xs = ns.map V.str
  | _, _, _, .nil, e => by
    simp [strsOf] at e
    subst e; rfl
  | _, _, _, .cons (d := d) r t, e => by
    cases r <;> simp only [strsOf, reduceCtorEq] at e
    case str i =>
      obtain ⟨ms, e1, e2⟩ := Option.map_eq_some_iff.mp e
      subst e2
      rw [RepL.of_strs t e1]
      rfl
/-- the world grows -/
structure Wd.Le (W W' : Wd) : Prop where
  g : Same W.G W'.G
  r : ∃ more, W'.ρ = W.ρ ++ more
theorem Wd.Le.refl (W : Wd) : W.Le W := ⟨Same.refl _, [], by simp⟩
theorem Wd.Le.trans {W W1 W2 : Wd} (a : W.Le W1) (b : W1.Le W2) : W.Le W2 := by
  obtain ⟨g1, m1, e1⟩ := a
  obtain ⟨g2, m2, e2⟩ := b
  exact ⟨g1.trans g2, m1 ++ m2, by rw [e2, e1, List.append_assoc]⟩
theorem Wd.Le.at (a : W.Le W') {i : Nat} {x : Addr} (h : W.ρ[i]? = some x) : W'.ρ[i]? = some x := by
  obtain ⟨_, m, e⟩ := a
  have hl : i < W.ρ.length := (List.getElem?_eq_some_iff.mp h).1
  rw [e, List.getElem?_append_left hl]
  exact h
mutual
theorem Rep.mono (le : W.Le W') : ∀ {v : V} {d : D}, Rep K W v d → Rep K W' v d
  | _, _, .non => .non
  | _, _, .bl _ => .bl _
  | _, _, .int _ => .int _
  | _, _, .str _ => .str _
  | _, _, .tup h z l => .tup (le.g _ _ h) z (RepL.mono le l)
  | _, _, .lst h z l => .lst (le.g _ _ h) z (RepL.mono le l)
  | _, _, .scr h z => .scr (le.g.seq h) z
  | _, _, .ref h => .ref (le.at h)
theorem RepL.mono (le : W.Le W') : ∀ {v : List V} {d : List D}, RepL K W v d → RepL K W' v d
  | _, _, .nil => .nil
  | _, _, .cons h t => .cons (Rep.mono le h) (RepL.mono le t)
end
mutual
/-- the store cut at n: what names nothing behind n -/
theorem Rep.cut {n : Nat} : ∀ {v : V} {d : D}, Rep K W v d → d.low n = true → Rep K ⟨W.G, W.ρ.take n⟩ v d
  | _, _, .non, _ => .non
  | _, _, .bl _, _ => .bl _
  | _, _, .int _, _ => .int _
  | _, _, .str _, _ => .str _
  | _, _, .tup h z l, e => .tup h z (RepL.cut l (by simpa [D.low] using e))
  | _, _, .lst h z l, e => .lst h z (RepL.cut l (by simpa [D.low] using e))
  | _, _, .scr h z, _ => .scr h z
  | _, _, .ref (i := i) h, e => .ref (by
      have e' : i < n := by simpa [D.low] using e
      show (W.ρ.take n)[i]? = _
      rw [List.getElem?_take]
      simp [e', h])
theorem RepL.cut {n : Nat} : ∀ {v : List V} {d : List D}, RepL K W v d → D.lows n d = true → RepL K ⟨W.G, W.ρ.take n⟩ v d
  | _, _, .nil, _ => .nil
  | _, _, .cons h t, e => by
    rw [D.lows, Bool.and_eq_true] at e
    exact .cons (Rep.cut h e.1) (RepL.cut t e.2)
end
mutual
theorem Rep.low : ∀ {v : V} {d : D}, Rep K W v d → d.low W.ρ.length = true
  | _, _, .non => by simp [D.low]
  | _, _, .bl _ => by simp [D.low]
  | _, _, .int _ => by simp [D.low]
  | _, _, .str _ => by simp [D.low]
  | _, _, .tup h z l => by rw [D.low]; exact RepL.low l
  | _, _, .lst h z l => by rw [D.low]; exact RepL.low l
  | _, _, .scr h z => by simp [D.low]
  | _, _, .ref h => by
    rw [D.low]
    exact decide_eq_true (List.getElem?_eq_some_iff.mp h).1
theorem RepL.low : ∀ {v : List V} {d : List D}, RepL K W v d → D.lows W.ρ.length d = true
  | _, _, .nil => by simp [D.lows]
  | _, _, .cons h t => by rw [D.lows, Rep.low h, RepL.low t]; rfl
end
end

/-- an instance's attributes -/
inductive RepF (K : PySem.W.Frag) (W : Wd) : List (Str × V) → List (Str × D) → Prop
  | nil : RepF K W [] []
  | cons {f : Str} {v : V} {d : D} {vs : List (Str × V)} {ds : List (Str × D)} : Rep K W v d → RepF K W vs ds → RepF K W ((f, v) :: vs) ((f, d) :: ds)
/-- an entry's value as a value of the layer -/
def valRel (K : PySem.W.Frag) (W : Wd) (u : Value) (d : D) : Prop := ∃ v, RelV v u ∧ Rep K W v d
mutual
/-- a key as the library's nested key -/
def D.nk : D → NestedKey
  | .int i => .num i
  | .str s => .text s
  | .tup xs => .tup (D.nks xs)
  | _ => .none
def D.nks : List D → List NestedKey
  | [] => []
  | x :: xs => D.nk x :: D.nks xs
end
/-- a dict's entries -/
inductive RepE (K : PySem.W.Frag) (w : World) (W : Wd) : List DictEntry → List (D × D) → Prop
  | nil : RepE K w W [] []
  | cons {e : DictEntry} {k v : D} {es : List DictEntry} {kvs : List (D × D)} : k.key 6 = true → valRel K W e.key k → e.hash = NestedKey.hash w k.nk → valRel K W e.val v → RepE K w W es kvs → RepE K w W (e :: es) ((k, v) :: kvs)
/-- the object o is a dict of the entries kvs -/
def DicO (K : PySem.W.Frag) (w : World) (W : Wd) (a : Addr) (o : Obj) (kvs : List (D × D)) : Prop :=
  dicOn = true ∧ (a == sysModules) = false ∧ kvs.length ≤ sizeLine ∧ ∃ es ep, o.ExactDict ∧ o.data = .dict es ep ∧ RepE K w W es.toList kvs ∧ (kvs.map (·.1.nk)).Nodup
abbrev exactly (a : Addr) (o : Obj) : HO := .ext fun h => h.get? a = some o
/-- the store's object o at a -/
def OAt (K : PySem.W.Frag) (w : World) (cls : Nat → Option Addr) (W : Wd) (H : Hp) (a : Addr) : O → Prop
  | .lst ds => ∃ xs, H a = some (.lst xs) ∧ RepL K W xs ds ∧ ds.length ≤ sizeLine
  | .dic kvs => ∃ o, H a = some (exactly a o) ∧ DicO K w W a o kvs
  | .lck kvs => ∃ o, H a = some (.frz o (exactly a o)) ∧ DicO K w W a o kvs
  | .ins c fs => ∃ C dx vs, cls c = some C ∧ H a = some (.ins C dx vs) ∧ RepF K W vs fs
/-- the store stands in the heap -/
structure Ag (K : PySem.W.Frag) (w : World) (cls : Nat → Option Addr) (W : Wd) (st : Store) (H : Hp) : Prop where
  sub : Same W.G H
  len : W.ρ.length = st.length
  nd : W.ρ.Nodup
  out : ∀ a ∈ W.ρ, W.G a = none
  obj : ∀ (i : Nat) (o : O) (a : Addr), st[i]? = some o → W.ρ[i]? = some a → OAt K w cls W H a o
/-- from one state to a later one -/
structure Ext (W : Wd) (H : Hp) (W' : Wd) (H' : Hp) : Prop where
  g : Same W.G W'.G
  r : ∃ more, W'.ρ = W.ρ ++ more ∧ ∀ a ∈ more, H a = none
  fr : ∀ a o, H a = some o → a ∉ W.ρ → H' a = some o
  dom : ∀ a, H a ≠ none → H' a ≠ none
  gn : ∀ a, W'.G a ≠ none → W.G a ≠ none ∨ H a = none
section
variable {K : PySem.W.Frag} {w : World} {cls : Nat → Option Addr} {W W' W1 W2 : Wd} {H H' H1 H2 : Hp} {st : Store}
theorem Ext.refl (W : Wd) (H : Hp) : Ext W H W H := ⟨Same.refl _, ⟨[], by simp, by simp⟩, fun _ _ e _ => e, fun _ h => h, fun _ h => .inl h⟩
theorem Ext.le (x : Ext W H W' H') : W.Le W' := ⟨x.g, let ⟨m, e, _⟩ := x.r; ⟨m, e⟩⟩
theorem Ext.trans (a : Ext W H W1 H1) (b : Ext W1 H1 W2 H2) : Ext W H W2 H2 := by
  obtain ⟨m1, e1, n1⟩ := a.r
  obtain ⟨m2, e2, n2⟩ := b.r
  refine ⟨a.g.trans b.g, ⟨m1 ++ m2, by rw [e2, e1, List.append_assoc], fun c hc => ?_⟩, fun c o e hn => ?_, fun c h => b.dom c (a.dom c h), fun c h => ?_⟩
  · rcases List.mem_append.mp hc with hc | hc
    · exact n1 c hc
    · have := n2 c hc
      exact Classical.byContradiction fun q => a.dom c q this
  · refine b.fr c o (a.fr c o e hn) fun hm => ?_
    rw [e1] at hm
    rcases List.mem_append.mp hm with hm | hm
    · exact hn hm
    · rw [n1 c hm] at e; cases e
  · rcases b.gn c h with q | q
    · exact a.gn c q
    · exact .inr (Classical.byContradiction fun z => a.dom c z q)
theorem RepF.mono (le : W.Le W') : ∀ {vs : List (Str × V)} {ds : List (Str × D)}, RepF K W vs ds → RepF K W' vs ds
  | _, _, .nil => .nil
  | _, _, .cons r t => .cons (r.mono le) (RepF.mono le t)
theorem valRel.mono (le : W.Le W') {u : Value} {d : D} (h : valRel K W u d) : valRel K W' u d := let ⟨v, r, q⟩ := h; ⟨v, r, q.mono le⟩
theorem RepE.mono (le : W.Le W') : ∀ {es : List DictEntry} {kvs : List (D × D)}, RepE K w W es kvs → RepE K w W' es kvs
  | _, _, .nil => .nil
  | _, _, .cons a b c d t => .cons a (b.mono le) c (d.mono le) (RepE.mono le t)
theorem DicO.mono (le : W.Le W') {a : Addr} {o : Obj} {kvs : List (D × D)} (h : DicO K w W a o kvs) : DicO K w W' a o kvs := by
  obtain ⟨on, s, z, es, ep, x, d, r, n⟩ := h
  exact ⟨on, s, z, es, ep, x, d, r.mono le, n⟩
/-- an object that is as it was -/
theorem OAt.keep (le : W.Le W') {a : Addr} {o : O} (h : OAt K w cls W H a o) (e : H' a = H a) : OAt K w cls W' H' a o := by
  cases o with
  | lst ds => obtain ⟨xs, q, r, z⟩ := h; exact ⟨xs, e.trans q, r.mono le, z⟩
  | dic kvs => obtain ⟨ob, q, r⟩ := h; exact ⟨ob, e.trans q, r.mono le⟩
  | lck kvs => obtain ⟨ob, q, r⟩ := h; exact ⟨ob, e.trans q, r.mono le⟩
  | ins c fs => obtain ⟨C, dx, vs, q1, q2, r⟩ := h; exact ⟨C, dx, vs, q1, e.trans q2, r.mono le⟩
theorem OAt.there {a : Addr} {o : O} (h : OAt K w cls W H a o) : H a ≠ none := by
  cases o with
  | lst ds => obtain ⟨xs, q, _⟩ := h; rw [q]; simp
  | dic kvs => obtain ⟨ob, q, _⟩ := h; rw [q]; simp
  | lck kvs => obtain ⟨ob, q, _⟩ := h; rw [q]; simp
  | ins c fs => obtain ⟨C, dx, vs, q1, q2, r⟩ := h; rw [q2]; simp
theorem Ag.at (A : Ag K w cls W st H) {i : Nat} {a : Addr} (h : W.ρ[i]? = some a) : ∃ o, st[i]? = some o ∧ OAt K w cls W H a o := by
  have hl : i < st.length := by rw [← A.len]; exact (List.getElem?_eq_some_iff.mp h).1
  exact ⟨st[i], List.getElem?_eq_getElem hl, A.obj i _ a (List.getElem?_eq_getElem hl) h⟩
theorem Ag.tracked (A : Ag K w cls W st H) {a : Addr} (h : a ∈ W.ρ) : H a ≠ none := by
  obtain ⟨i, hi, e⟩ := List.getElem_of_mem h
  obtain ⟨o, _, q⟩ := A.at (i := i) (a := a) (by rw [List.getElem?_eq_getElem hi, e])
  exact q.there
theorem nodup_at {α : Type} {l : List α} (hd : l.Nodup) {i j : Nat} {x : α} (h1 : l[i]? = some x) (h2 : l[j]? = some x) : i = j := by
  obtain ⟨a1, b1⟩ := List.getElem?_eq_some_iff.mp h1
  obtain ⟨a2, b2⟩ := List.getElem?_eq_some_iff.mp h2
  exact (List.getElem_inj hd).mp (b1.trans b2.symm)
/-- a new object that nobody but the frozen part knows -/
theorem Ag.frozen (A : Ag K w cls W st H) {p : Addr} {o : HO} (hp : H p = none) : Ag K w cls ⟨upd W.G p o, W.ρ⟩ st (upd H p o) ∧ Ext W H ⟨upd W.G p o, W.ρ⟩ (upd H p o) := by
  have gn : W.G p = none := by
    cases q : W.G p with
    | none => rfl
    | some u => rw [A.sub _ _ q] at hp; cases hp
  have x : Ext W H ⟨upd W.G p o, W.ρ⟩ (upd H p o) := by
    refine ⟨fun b u e => ?_, ⟨[], by simp, by simp⟩, fun b u e _ => ?_, fun b h => ?_, fun b h => ?_⟩
    · show upd W.G p o b = some u
      rw [upd_ne (ne_of_none e gn)]; exact e
    · rw [upd_ne (ne_of_none e hp)]; exact e
    · by_cases hb : b = p
      · subst hb; rw [upd_same]; simp
      · rw [upd_ne hb]; exact h
    · by_cases hb : b = p
      · subst hb; exact .inr hp
      · have h' : upd W.G p o b ≠ none := h
        rw [upd_ne hb] at h'
        exact .inl h'
  refine ⟨⟨fun b u e => ?_, A.len, A.nd, fun a ha => ?_, fun i ob a h1 h2 => ?_⟩, x⟩
  · by_cases hb : b = p
    · subst hb
      have e' : upd W.G b o b = some u := e
      rw [upd_same] at e' ⊢; exact e'
    · have e' : upd W.G p o b = some u := e
      rw [upd_ne hb] at e' ⊢
      exact A.sub _ _ e'
  · show upd W.G p o a = none
    have ne : a ≠ p := fun z => A.tracked ha (by rw [z]; exact hp)
    rw [upd_ne ne]
    exact A.out a ha
  · have ne : a ≠ p := fun z => A.tracked (List.mem_of_getElem? h2) (by rw [z]; exact hp)
    exact (A.obj i ob a h1 h2).keep x.le (upd_ne ne)
/-- a new object of the store -/
theorem Ag.newObj (A : Ag K w cls W st H) {p : Addr} {o : O} (hp : H p = none) (kp : ∀ b u, H b = some u → H' b = some u) (hn : H' p ≠ none) (ho : OAt K w cls ⟨W.G, W.ρ ++ [p]⟩ H' p o) :
    Ag K w cls ⟨W.G, W.ρ ++ [p]⟩ (st ++ [o]) H' ∧ Ext W H ⟨W.G, W.ρ ++ [p]⟩ H' := by
  have gn : W.G p = none := by
    cases q : W.G p with
    | none => rfl
    | some u => rw [A.sub _ _ q] at hp; cases hp
  have x : Ext W H ⟨W.G, W.ρ ++ [p]⟩ H' := by
    refine ⟨Same.refl _, ⟨[p], rfl, fun a ha => ?_⟩, fun b u e _ => kp b u e, fun b h => ?_, fun _ h => .inl h⟩
    · have e : a = p := by simpa using ha
      subst e; exact hp
    · cases q : H b with
      | none => exact absurd q h
      | some u => rw [kp b u q]; simp
  refine ⟨⟨fun b u e => kp b u (A.sub b u e), by simp [A.len], ?_, fun a ha => ?_, fun i ob a h1 h2 => ?_⟩, x⟩
  · refine List.nodup_append.mpr ⟨A.nd, by simp, fun a ha b hb e => ?_⟩
    have e' : b = p := by simpa using hb
    subst e'; subst e
    exact A.tracked ha hp
  · rcases List.mem_append.mp ha with ha | ha
    · exact A.out a ha
    · have e : a = p := by simpa using ha
      subst e; exact gn
  · have h2 : (W.ρ ++ [p])[i]? = some a := h2
    by_cases hi : i < W.ρ.length
    · rw [List.getElem?_append_left hi] at h2
      rw [List.getElem?_append_left (by rw [← A.len]; exact hi)] at h1
      have e : H' a = H a := by
        cases q : H a with
        | none => exact absurd q (A.tracked (List.mem_of_getElem? h2))
        | some u => exact kp a u q
      exact (A.obj i ob a h1 h2).keep x.le e
    · rw [List.getElem?_append_right (by omega)] at h2
      rw [List.getElem?_append_right (by rw [← A.len]; omega)] at h1
      have hz : i - W.ρ.length = 0 := by
        have := (List.getElem?_eq_some_iff.mp h2).1
        simp at this; omega
      rw [hz] at h2
      rw [← A.len, hz] at h1
      simp at h1 h2
      subst h1; subst h2
      exact ho
/-- an object of the store is changed -/
theorem Ag.setObj (A : Ag K w cls W st H) {i : Nat} {a : Addr} {o : O} (hi : W.ρ[i]? = some a) (kp : ∀ b, b ≠ a → H' b = H b) (ho : OAt K w cls W H' a o) :
    Ag K w cls W (st.set i o) H' ∧ Ext W H W H' := by
  have am : a ∈ W.ρ := List.mem_of_getElem? hi
  have x : Ext W H W H' := by
    refine ⟨Same.refl _, ⟨[], by simp, by simp⟩, fun b u e hn => ?_, fun b h => ?_, fun _ h => .inl h⟩
    · rw [kp b fun z => hn (z ▸ am)]; exact e
    · by_cases hb : b = a
      · subst hb; exact ho.there
      · rw [kp b hb]; exact h
  refine ⟨⟨fun b u e => ?_, by simp [A.len], A.nd, A.out, fun j ob b h1 h2 => ?_⟩, x⟩
  · rw [kp b fun z => by rw [z, A.out a am] at e; cases e]
    exact A.sub b u e
  · by_cases hj : j = i
    · subst hj
      rw [hi] at h2; cases h2
      rw [List.getElem?_set_self (by rw [← A.len]; exact (List.getElem?_eq_some_iff.mp hi).1)] at h1
      cases h1
      exact ho
    · rw [List.getElem?_set_ne (Ne.symm hj)] at h1
      have ne : b ≠ a := fun z => by
        subst z
        exact hj (nodup_at A.nd h2 hi)
      exact (A.obj j ob b h1 h2).keep (Wd.Le.refl _) (kp b ne)
/-- values in the slots -/
structure EnvOk (K : PySem.W.Frag) (W : Wd) (σ : L2.St) (env : Env) : Prop where
  len : env.length = σ.length
  val : ∀ (i : Nat) (d : D), env[i]? = some (some d) → ∃ v, σ[i]? = some (some v) ∧ Rep K W v d
theorem EnvOk.mono (le : W.Le W') {σ : L2.St} {env : Env} (h : EnvOk K W σ env) : EnvOk K W' σ env := ⟨h.len, fun i d e => let ⟨v, a, b⟩ := h.val i d e; ⟨v, a, b.mono le⟩⟩
theorem EnvOk.set {σ : L2.St} {env : Env} (h : EnvOk K W σ env) {v : V} {d : D} (i : Nat) (r : Rep K W v d) : EnvOk K W (σ.set i (some v)) (env.set i (some d)) := by
  refine ⟨by simp [h.len], fun j e q => ?_⟩
  by_cases hj : i = j
  · subst hj
    by_cases hl : i < env.length
    · rw [List.getElem?_set_self hl] at q
      cases q
      exact ⟨v, List.getElem?_set_self (by rw [← h.len]; exact hl), r⟩
    · rw [List.getElem?_eq_none (by simp; omega)] at q; cases q
  · rw [List.getElem?_set_ne hj] at q ⊢
    exact h.val j e q
theorem EnvOk.setNone {σ : L2.St} {env : Env} (h : EnvOk K W σ env) (i : Nat) : EnvOk K W (σ.set i none) (env.set i none) := by
  refine ⟨by simp [h.len], fun j e q => ?_⟩
  by_cases hj : i = j
  · subst hj
    by_cases hl : i < env.length
    · rw [List.getElem?_set_self hl] at q; cases q
    · rw [List.getElem?_eq_none (by simp; omega)] at q; cases q
  · rw [List.getElem?_set_ne hj] at q ⊢
    exact h.val j e q
theorem EnvOk.wipe {σ : L2.St} {env : Env} (h : EnvOk K W σ env) : ∀ vs : List Nat, EnvOk K W (L2.wipe σ vs) (wipes env vs)
  | [] => h
  | v :: vs => by
    unfold L2.wipe wipes
    exact (EnvOk.wipe h vs).setNone v
end
end EV
/-! EvD: the judgement (an expression's reading by the evaluator), operators. -/
namespace EV
open PySem PySem.Spec PyProof.Rows L2

/-- what is wanted of an exception of the k-th class -/
abbrev XW := Nat → Hp → Prop
section
variable {K : PySem.W.Frag} {w : World} {cls : Nat → Option Addr} {U : XW} {α β γ δ : Type}
/-- behind an evaluation -/
def Aft (K : PySem.W.Frag) (w : World) (cls : Nat → Option Addr) (U : XW) (rel : Wd → β → α → Prop) (W : Wd) (H : Hp) (r : R α) (Q : β → Hp → Prop) : Prop := match r with
  | .ok a st => ∀ b W' H', Ext W H W' H' → Ag K w cls W' st H' → rel W' b a → Q b H'
  | .err k st => ∀ W' H', Ext W H W' H' → Ag K w cls W' st H' → U k H'
  | .bad => False
variable {rel : Wd → β → α → Prop} {rel2 : Wd → δ → γ → Prop} {W W' W1 : Wd} {H H' H1 : Hp}
theorem Aft.mono {r : R α} {Q Q' : β → Hp → Prop} (h : Aft K w cls U rel W H r Q) (m : ∀ b H', Q b H' → Q' b H') : Aft K w cls U rel W H r Q' := by
  cases r with
  | ok a st => exact fun b W' H' x A q => m b H' (h b W' H' x A q)
  | err k st => exact h
  | bad => exact h
theorem Aft.shift {r : R α} {Q : β → Hp → Prop} (x : Ext W H W1 H1) (h : Aft K w cls U rel W H r Q) : Aft K w cls U rel W1 H1 r Q := by
  cases r with
  | ok a st => exact fun b W' H' x' A q => h b W' H' (x.trans x') A q
  | err k st => exact fun W' H' x' A => h W' H' (x.trans x') A
  | bad => exact h
theorem Aft.bind {r : R α} {f : α → Store → R γ} {Q : δ → Hp → Prop} (h : Aft K w cls U rel2 W H (r.bind f) Q) :
    Aft K w cls U rel W H r fun b H1 => ∃ W1 st a, Ext W H W1 H1 ∧ Ag K w cls W1 st H1 ∧ rel W1 b a ∧ Aft K w cls U rel2 W1 H1 (f a st) Q := by
  cases r with
  | ok a st => exact fun b W' H' x A q => ⟨W', st, a, x, A, q, Aft.shift x h⟩
  | err k st => exact h
  | bad => exact h
/-- the readings -/
def tD (K : PySem.W.Frag) (w : World) (cls : Nat → Option Addr) (U : XW) (den : Env → Store → R D) : TE := fun σ H Q => ∃ (W : Wd) (env : Env) (st : Store), EnvOk K W σ env ∧ Ag K w cls W st H ∧ Aft K w cls U (Rep K) W H (den env st) Q
def tDs (K : PySem.W.Frag) (w : World) (cls : Nat → Option Addr) (U : XW) (den : Env → Store → R (List D)) : TA := fun σ H Q => ∃ (W : Wd) (env : Env) (st : Store), EnvOk K W σ env ∧ Ag K w cls W st H ∧ Aft K w cls U (RepL K) W H (den env st) Q
def isB : Wd → Bool → D → Prop := fun _ b d => d = .bl b
def tDT (K : PySem.W.Frag) (w : World) (cls : Nat → Option Addr) (U : XW) (den : Env → Store → R D) : TT := fun σ H Q => ∃ (W : Wd) (env : Env) (st : Store), EnvOk K W σ env ∧ Ag K w cls W st H ∧ (∀ d st', den env st = .ok d st' → ∃ b, d = .bl b) ∧ Aft K w cls U isB W H (den env st) Q
end

theorem PE.mono {X : Cx} {e : Expr} {t t' : TE} (h : PE X e t) (m : ∀ σ H Q, t' σ H Q → t σ H Q) : PE X e t' := ⟨fun pins s σ H Q I q => h.run pins s σ H Q I (m σ H Q q)⟩
theorem PT.mono {X : Cx} {e : Expr} {t t' : TT} (h : PT X e t) (m : ∀ σ H Q, t' σ H Q → t σ H Q) : PT X e t' := ⟨fun pins s σ H Q I q => h.run pins s σ H Q I (m σ H Q q)⟩
theorem PA.mono {X : Cx} {e : List Expr} {t t' : TA} (h : PA X e t) (m : ∀ σ H Q, t' σ H Q → t σ H Q) : PA X e t' := ⟨fun pos pins s σ H Q I q => h.run pos pins s σ H Q I (m σ H Q q)⟩
theorem PS.mono {X : Cx} {e : Stmt} {t t' : TS} (h : PS X e t) (m : ∀ D σ H, t' D σ H → t D σ H) : PS X e t' := ⟨fun pins s σ H D I q => h.run pins s σ H D I (m D σ H q)⟩
theorem PSs.mono {X : Cx} {e : List Stmt} {t t' : TS} (h : PSs X e t) (m : ∀ D σ H, t' D σ H → t D σ H) : PSs X e t' := ⟨fun pins s σ H D I q => h.run pins s σ H D I (m D σ H q)⟩

section
variable {X : Cx} {cls : Nat → Option Addr} {U : XW}
/-! ### inversions -/
theorem Rep.int_inv {K : PySem.W.Frag} {W : Wd} {x : V} {i : Int} (h : Rep K W x (.int i)) : x = .int i := by cases h; rfl
theorem Rep.bl_inv {K : PySem.W.Frag} {W : Wd} {x : V} {i : Bool} (h : Rep K W x (.bl i)) : x = .bl i := by cases h; rfl
theorem Rep.str_inv {K : PySem.W.Frag} {W : Wd} {x : V} {i : Str} (h : Rep K W x (.str i)) : x = .str i := by cases h; rfl
theorem Rep.non_inv {K : PySem.W.Frag} {W : Wd} {x : V} (h : Rep K W x .non) : x = .non := by cases h; rfl
theorem Rep.tup_inv {K : PySem.W.Frag} {W : Wd} {x : V} {ds : List D} (h : Rep K W x (.tup ds)) : ∃ a us xs, x = .ref a ∧ W.G a = some (FT us xs) ∧ ds.length ≤ sizeLine ∧ RepL K W xs ds := by
  cases h with
  | tup a b c => exact ⟨_, _, _, rfl, a, b, c⟩
theorem Rep.lst_inv {K : PySem.W.Frag} {W : Wd} {x : V} {ds : List D} (h : Rep K W x (.lst ds)) : ∃ a xs, x = .ref a ∧ W.G a = some (.lst xs) ∧ ds.length ≤ sizeLine ∧ RepL K W xs ds := by
  cases h with
  | lst a b c => exact ⟨_, _, rfl, a, b, c⟩
theorem Rep.scr_inv {K : PySem.W.Frag} {W : Wd} {x : V} {ds : List Int} (h : Rep K W x (.scr ds)) : ∃ a, x = .ref a ∧ SqL K W.G a (ds.map V.int) ∧ ds.length ≤ sizeLine := by
  cases h with
  | scr a b => exact ⟨_, rfl, a, b⟩
theorem Rep.ref_inv {K : PySem.W.Frag} {W : Wd} {x : V} {i : Nat} (h : Rep K W x (.ref i)) : ∃ a, x = .ref a ∧ W.ρ[i]? = some a := by
  cases h with
  | ref a => exact ⟨_, rfl, a⟩
/-- a new frozen tuple or list -/
theorem Aft.newTup {W : Wd} {H : Hp} {st : Store} {ds : List D} {xs : List V} {Q : VK} (A : Ag X.K X.w cls W st H) (h : Aft X.K X.w cls U (Rep X.K) W H (.ok (.tup ds) st) Q) (r : RepL X.K W xs ds) (hz : ds.length ≤ sizeLine) : ∀ p us, H p = none → Q (.ref p) (upd H p (FT us xs)) := fun p us hp => by
  obtain ⟨A', x⟩ := A.frozen (o := FT us xs) hp
  exact h _ _ _ x A' (.tup (us := us) (xs := xs) upd_same hz (r.mono x.le))
theorem Aft.newLst {W : Wd} {H : Hp} {st : Store} {ds : List D} {xs : List V} {Q : VK} (A : Ag X.K X.w cls W st H) (h : Aft X.K X.w cls U (Rep X.K) W H (.ok (.lst ds) st) Q) (r : RepL X.K W xs ds) (hz : ds.length ≤ sizeLine) : ∀ p, H p = none → Q (.ref p) (upd H p (.lst xs)) := fun p hp => by
  obtain ⟨A', x⟩ := A.frozen (o := .lst xs) hp
  exact h _ _ _ x A' (.lst (xs := xs) upd_same hz (r.mono x.le))
/-- .. a new list of the store -/
theorem Aft.newMut {W : Wd} {H : Hp} {st : Store} {ds : List D} {xs : List V} {Q : VK} (A : Ag X.K X.w cls W st H) (h : Aft X.K X.w cls U (Rep X.K) W H (.ok (.ref st.length) (st ++ [.lst ds])) Q) (r : RepL X.K W xs ds) (hz : ds.length ≤ sizeLine) : ∀ p, H p = none → Q (.ref p) (upd H p (.lst xs)) := fun p hp => by
  have le : W.Le ⟨W.G, W.ρ ++ [p]⟩ := ⟨Same.refl _, [p], rfl⟩
  obtain ⟨A', x⟩ := A.newObj (H' := upd H p (.lst xs)) (o := .lst ds) hp (fun b u e => by rw [upd_ne (ne_of_none e hp)]; exact e) (by rw [upd_same]; simp) ⟨xs, upd_same, r.mono le, hz⟩
  refine h _ _ _ x A' (.ref ?_)
  show (W.ρ ++ [p])[st.length]? = some p
  rw [← A.len, List.getElem?_append_right (Nat.le_refl _)]
  simp
theorem Aft.val {W : Wd} {H : Hp} {st : Store} {d : D} {v : V} {Q : VK} (A : Ag X.K X.w cls W st H) (h : Aft X.K X.w cls U (Rep X.K) W H (.ok d st) Q) (r : Rep X.K W v d) : Q v H := h v W H (Ext.refl _ _) A r
theorem Aft.test {α β : Type} {rel : Wd → β → α → Prop} {W : Wd} {H : Hp} {b : Bool} {r : R α} {Q : β → Hp → Prop} (h : Aft X.K X.w cls U rel W H (R.test b r) Q) : b = true ∧ Aft X.K X.w cls U rel W H r Q := by
  cases b with
  | true => exact ⟨rfl, h⟩
  | false => exact h.elim
theorem sizeLine_lim : lim = sizeLine := by rw [sizeLine_eq]; rfl

/-! ### tuples by their very object -/
theorem SqT_ft {K : PySem.W.Frag} {H : Hp} {a : Addr} {us : List Value} {xs : List V} (h : H a = some (FT us xs)) : SqT K H a xs := .inl (.inr ⟨_, h⟩)
/-- a new tuple -/
theorem _root_.L2.Inv.laidT {pins : List (Addr × Obj)} {σ : L2.St} {H : Hp} {s : Shared} {us : List Value} {xs : List V} {t' : Nat} (I : Inv X pins σ H s) (r : Vals xs us) (hz : xs.length ≤ sizeLine) :
    Inv X pins σ (upd H s.heap.objs.size (FT us xs)) { s with heap := s.heap.push (tupOb us), toks := t' } :=
  I.laid (fun b u e => Heap.get?_push_of_some _ e) (Nat.le_refl _) ⟨Heap.get?_push_size _ rfl, hz, us, r, IsTup.new _ _⟩
def tTupF (t : TA) : TE := fun σ H Q => t σ H fun xs H1 => xs.length ≤ sizeLine ∧ ∀ p us, H1 p = none → Q (.ref p) (upd H1 p (FT us xs))
theorem pe_tupF {es : List Expr} {t : TA} {pos : Pos} {x1} (h : PA X es t) : PE X (.Tuple es x1 pos) (tTupF t) := by
  refine ⟨fun pins s σ H Q I hq => ?_⟩
  refine wpAny_Tuple_spliced (thn (h.run pos pins s σ H _ I hq) fun us s1 ⟨xs, H1, I1, r, z, q⟩ => ⟨by rw [← r.length]; exact z, ?_⟩)
  exact ⟨.ref s1.heap.objs.size, _, I1.laidT (t' := s1.toks) r z, rfl, q _ us (I1.hok.fresh (Nat.le_refl _))⟩
theorem op_catF : OpR X (binaryOp .Add) (fun x y H Q => ∃ a b xs ys, x = .ref a ∧ y = .ref b ∧ SqT X.K H a xs ∧ SqT X.K H b ys ∧ xs.length + ys.length ≤ sizeLine ∧
    (xs = [] → Q (.ref b) H) ∧ (xs ≠ [] → ys = [] → Q (.ref a) H) ∧ (xs ≠ [] → ys ≠ [] → ∀ p us, H p = none → Q (.ref p) (upd H p (FT us (xs ++ ys))))) := by
  intro pins s σ H x y v u Q I rx ry h
  obtain ⟨a, b, xs, ys, rfl, rfl, ha, hb, hz, q0, q1, q2⟩ := h
  cases rx
  cases ry
  obtain ⟨its, r1, p1, _⟩ := I.tuple ha
  obtain ⟨its2, r2, p2, _⟩ := I.tuple hb
  by_cases hx : xs = []
  · subst hx
    cases r1
    exact cat_tup0 p1 p2 ⟨.ref b, H, I, rfl, q0 rfl⟩
  · refine HT.cat_tup p1 p2 (fun z => hx (r1.nil_iff.mp z)) (fun z => ⟨.ref a, H, I, rfl, q1 hx (r2.nil_iff.mp z)⟩) (fun z => ?_) (by rw [← r1.length, ← r2.length]; exact hz)
    exact ⟨.ref s.heap.objs.size, _, I.laidT (t' := s.toks) (r1.append r2) (by rw [List.length_append]; exact hz), rfl, q2 hx (fun w => z (r2.nil_iff.mpr w)) _ _ (I.hok.fresh (Nat.le_refl _))⟩
theorem sl_tupF : SlR X (fun x lo hi H Q => ∃ a xs, x = .ref a ∧ SqT X.K H a xs ∧
    (HT.sIx xs.length 0 lo = 0 ∧ HT.sIx xs.length xs.length hi = xs.length → Q (.ref a) H) ∧ (¬ (HT.sIx xs.length 0 lo = 0 ∧ HT.sIx xs.length xs.length hi = xs.length) → ∀ p us, H p = none → Q (.ref p) (upd H p (FT us (cutV xs lo hi))))) := by
  intro pins s σ H x v vl vu lo hi sl Q I rx hs pl pu h
  obtain ⟨a, xs, rfl, hx, q1, q2⟩ := h
  cases rx
  obtain ⟨its, r, ht, hz⟩ := I.tuple hx
  have hlen : its.toArray.size = xs.length := by rw [List.size_toArray]; exact r.length.symm
  refine ⟨"tuple", _, PyProof.Rows.slot_tuple_getitem.lookup, ht.typeIs, ?_⟩
  by_cases hw : HT.sIx xs.length 0 lo = 0 ∧ HT.sIx xs.length xs.length hi = xs.length
  · exact getItem_tuple_whole ht hs pl pu (by rw [hlen]; exact hw) ⟨.ref a, H, I, rfl, q1 hw⟩
  · refine HT.getItem_tuple_cut ht hs pl pu (by rw [hlen]; exact hw) ?_ (by rw [hlen]; exact hz)
    rw [hlen]
    exact ⟨.ref s.heap.objs.size, _, I.laidT (t' := s.toks) ((r.drop (HT.sIx xs.length 0 lo)).take (HT.sIx xs.length xs.length hi - HT.sIx xs.length 0 lo)) (Nat.le_trans (cutV_length xs lo hi) hz), rfl, q2 hw _ _ (I.hok.fresh (Nat.le_refl _))⟩
theorem call_tupleF : CallR X (.type "tuple") (fun xs H Q => ∃ p ys, xs = [.ref p] ∧ ((SqL X.K H p ys ∧ ∀ l us, H l = none → Q (.ref l) (upd H l (FT us ys))) ∨ (SqT X.K H p ys ∧ Q (.ref p) H))) := by
  intro pins s σ H xs us Q I r h
  obtain ⟨p, ys, rfl, h⟩ := h
  obtain ⟨u, rfl, rx⟩ := vals1 r
  cases rx
  rcases h with ⟨hq, q⟩ | ⟨hq, q⟩
  · obtain ⟨its, r', pl, hz⟩ := I.list hq
    have hlen := r'.length
    refine call_tuple_list pl.isList (fun h' kp => ?_) (by simp only [List.size_toArray] <;> omega)
    have I1 : Inv X pins σ H { s with heap := h' } := I.kept (t' := s.toks) kp
    exact ⟨.ref h'.objs.size, _, I1.laidT (t' := s.toks) r' hz, rfl, q _ _ (I1.hok.fresh (Nat.le_refl _))⟩
  · obtain ⟨its, r', pl, hz⟩ := I.tuple hq
    exact call_tuple_same pl ⟨.ref p, H, I, rfl, q⟩

/-! ### values -/
theorem d_var {i : Nat} {x : Str} {pos : Pos} (hN : X.N[i]? = some x) (hv : Vis X.env.scope x) (hd : (x == ("__debug__" : Str)) = false) (hcd : (x == ("__classdict__" : Str)) = false) (C : Ctx) : PE X (.Name x pos) (tD X.K X.w cls U (evE C (.var i))) := by
  refine PE.mono (pe_var hN hv hd hcd) fun σ H Q h => ?_
  obtain ⟨W, env, st, he, A, q⟩ := h
  rw [evE] at q
  cases e : env[i]? with
  | none => rw [e] at q; exact q.elim
  | some o =>
    cases o with
    | none => rw [e] at q; exact q.elim
    | some d =>
      rw [e] at q
      obtain ⟨v, h1, h2⟩ := he.val i d e
      exact ⟨v, h1, q.val A h2⟩
theorem d_con {e : Expr} {v : V} {d : D} (h : PE X e (tC v)) (r : ∀ W, Rep X.K W v d) (C : Ctx) : PE X e (tD X.K X.w cls U (evE C (.con d))) := by
  refine PE.mono h fun σ H Q h => ?_
  obtain ⟨W, env, st, he, A, q⟩ := h
  rw [evE] at q
  exact q.val A (r W)
theorem d_nil (C : Ctx) : PA X [] (tDs X.K X.w cls U (evEs C .nil)) := by
  refine PA.mono pa_nil fun σ H Q h => ?_
  obtain ⟨W, env, st, he, A, q⟩ := h
  rw [evEs] at q
  exact q [] W H (Ext.refl _ _) A .nil
theorem d_cons {e : Expr} {es : List Expr} {C : Ctx} {i : E} {is : Es} (h : PE X e (tD X.K X.w cls U (evE C i))) (t : PA X es (tDs X.K X.w cls U (evEs C is))) (hs : starEach (e :: es) X.env = (false, eval e X.env) :: starEach es X.env) : PA X (e :: es) (tDs X.K X.w cls U (evEs C (.cons i is))) := by
  refine PA.mono (pa_cons h t hs) fun σ H Q h => ?_
  obtain ⟨W, env, st, he, A, q⟩ := h
  rw [evEs] at q
  refine ⟨W, env, st, he, A, (q.bind).mono fun x H1 ⟨W1, st1, dx, x1, A1, r1, q1⟩ => ?_⟩
  refine ⟨W1, env, st1, he.mono x1.le, A1, (q1.bind).mono fun xs H2 ⟨W2, st2, dxs, x2, A2, r2, q2⟩ => ?_⟩
  exact q2 (x :: xs) W2 H2 (Ext.refl _ _) A2 (.cons (r1.mono x2.le) r2)
/-- two operands, then an operation by values -/
theorem d_two {C : Ctx} {a b : E} {f : D → D → Store → R D} {σ : L2.St} {H : Hp} {Q : VK} {r : R2} {den : Env → Store → R D} (hden : ∀ env st, den env st = (evE C a env st).bind fun x st => (evE C b env st).bind fun y st => f x y st)
    (hr : ∀ x y H Q, (∃ W st dx dy, Ag X.K X.w cls W st H ∧ Rep X.K W x dx ∧ Rep X.K W y dy ∧ Aft X.K X.w cls U (Rep X.K) W H (f dx dy st) Q) → r x y H Q)
    (h : tD X.K X.w cls U den σ H Q) : tOp r (tD X.K X.w cls U (evE C a)) (tD X.K X.w cls U (evE C b)) σ H Q := by
  obtain ⟨W, env, st, he, A, q⟩ := h
  rw [hden] at q
  refine ⟨W, env, st, he, A, (q.bind).mono fun x H1 ⟨W1, st1, dx, x1, A1, r1, q1⟩ => ?_⟩
  refine ⟨W1, env, st1, he.mono x1.le, A1, (q1.bind).mono fun y H2 ⟨W2, st2, dy, x2, A2, r2, q2⟩ => ?_⟩
  exact hr x y H2 Q ⟨W2, st2, dx, dy, A2, r1.mono x2.le, r2, q2⟩
def rBin (X : Cx) (cls : Nat → Option Addr) (U : XW) (f : D → D → Store → R D) : R2 := fun x y H Q => ∃ W st dx dy, Ag X.K X.w cls W st H ∧ Rep X.K W x dx ∧ Rep X.K W y dy ∧ Aft X.K X.w cls U (Rep X.K) W H (f dx dy st) Q

theorem mul_ok {i j : Int} (h : (decide (i.natAbs < 2 ^ 4000) && decide (j.natAbs < 2 ^ 4000) || decide (i.natAbs < 2 ^ 63) || decide (j.natAbs < 2 ^ 63)) = true) : CMul i j ∨ CMulW i j := by
  simp only [Bool.or_eq_true, Bool.and_eq_true, decide_eq_true_eq] at h
  rcases h with (⟨h1, h2⟩ | h) | h
  · exact .inr (wide_mul h1 h2 (by decide) (by decide) (by decide))
  · exact .inl (.inl (by omega))
  · exact .inl (.inr (by omega))

/-! tuple * int below two -/
theorem tuple_mul0 (l : Addr) (items : Array Value) (n : Nat) (dd : Option Addr) (sl : Array (Option Value)) (x : Int) (u : Tok) (c0 : (decide (x < -(2 ^ 63)) || decide (x ≥ 2 ^ 63)) = false) (c1 : (items.isEmpty || x == 1) = true) :
    Meets (Builtin.«tuple.__mul__» ⟨[.ref l, .int x u], []⟩) (fun _ R s => s.heap.get? l = some { cls := .type "tuple", dict := dd, data := .seq items n, slots := sl } ∧ R (.ok (.ret (Value.ref l))) s) :=
  .of_wp fun prog w A R s h => by
    obtain ⟨hp, g, d, tk, os⟩ := s
    obtain ⟨hl, h⟩ := h
    have f1 := AutoSeq1.idx_int
    wp_walk using wpAny_loadPart' hl
    repeat (first
      | (refine wpAny_ite_false (decide_eq_false (by rw [c0]; exact Bool.false_ne_true)) ?_; wp_walk using wpAny_loadPart' hl)
      | (refine wpAny_ite_true (decide_eq_true c1) ?_; wp_walk using wpAny_loadPart' hl))
    exact ⟨_, rfl, h⟩
theorem tuple_mulE (l : Addr) (items : Array Value) (n : Nat) (dd : Option Addr) (sl : Array (Option Value)) (x : Int) (u : Tok) (c0 : (decide (x < -(2 ^ 63)) || decide (x ≥ 2 ^ 63)) = false) (c1 : (items.isEmpty || x == 1) = false) (c2 : (decide (x ≤ 0) || items.isEmpty) = true) :
    Meets (Builtin.«tuple.__mul__» ⟨[.ref l, .int x u], []⟩) (fun _ R s => s.heap.get? l = some { cls := .type "tuple", dict := dd, data := .seq items n, slots := sl } ∧ R (.ok (.ret (Value.ref s.heap.objs.size))) { s with heap := s.heap.push { cls := Value.type "tuple", data := Data.seq #[] }, toks := s.toks }) :=
  .of_wp fun prog w A R s h => by
    obtain ⟨hp, g, d, tk, os⟩ := s
    obtain ⟨hl, h⟩ := h
    have f1 := AutoSeq1.idx_int
    wp_walk using wpAny_loadPart' hl
    repeat (first
      | (refine wpAny_ite_false (decide_eq_false (by rw [c0]; exact Bool.false_ne_true)) ?_; wp_walk using wpAny_loadPart' hl)
      | (refine wpAny_ite_false (decide_eq_false (by rw [c1]; exact Bool.false_ne_true)) ?_; wp_walk using wpAny_loadPart' hl)
      | (refine wpAny_ite_true (decide_eq_true c2) ?_; wp_walk using wpAny_loadPart' hl))
    exact ⟨_, rfl, h⟩
end
end EV
/-! EvE: data as the library's data; operators, comparisons, subscripts. -/
namespace EV
open PySem PySem.Spec PyProof.Rows L2

mutual
def D.py : D → PyData
  | .non => .none
  | .bl b => .bool b
  | .int i => .int i
  | .str s => .str s
  | .tup xs => .tuple (D.pys xs)
  | .lst xs => .list (D.pys xs)
  | .scr _ => .none
  | .ref _ => .none
def D.pys : List D → List PyData
  | [] => []
  | x :: xs => D.py x :: D.pys xs
end
theorem D.pys_map : ∀ xs : List D, D.pys xs = xs.map D.py
  | [] => rfl
  | x :: xs => by rw [D.pys, D.pys_map xs]; rfl
mutual
theorem D.py_plain : ∀ {n : Nat} (d : D), d.flat n = true → d.py.plain = true ∧ d.py.depth ≤ n
  | _, .non, _ => by simp [D.py, PyData.plain, PyData.depth]
  | _, .bl _, _ => by simp [D.py, PyData.plain, PyData.depth]
  | _, .int _, _ => by simp [D.py, PyData.plain, PyData.depth]
  | _, .str _, _ => by simp [D.py, PyData.plain, PyData.depth]
  | 0, .tup xs, h => by simp [D.flat] at h
  | 0, .lst xs, h => by simp [D.flat] at h
  | n + 1, .tup xs, h => by
    rw [D.flat] at h
    have q := D.pys_plain xs h
    rw [D.py, PyData.plain, PyData.depth]
    exact ⟨q.1, Nat.succ_le_succ q.2⟩
  | n + 1, .lst xs, h => by
    rw [D.flat] at h
    have q := D.pys_plain xs h
    rw [D.py, PyData.plain, PyData.depth]
    exact ⟨q.1, Nat.succ_le_succ q.2⟩
  | _, .scr _, h => by simp [D.flat] at h
  | _, .ref _, h => by simp [D.flat] at h
theorem D.pys_plain : ∀ {n : Nat} (ds : List D), D.flats n ds = true → PyData.plainAll (D.pys ds) = true ∧ PyData.depthAll (D.pys ds) ≤ n
  | _, [], _ => by simp [D.pys, PyData.plainAll, PyData.depthAll]
  | n, d :: ds, h => by
    rw [D.flats, Bool.and_eq_true] at h
    have q1 := D.py_plain d h.1
    have q2 := D.pys_plain ds h.2
    rw [D.pys, PyData.plainAll, PyData.depthAll]
    exact ⟨by rw [q1.1, q2.1]; rfl, Nat.max_le.mpr ⟨q1.2, q2.2⟩⟩
end
mutual
theorem D.eqv_py : ∀ {n : Nat} (d e : D), d.flat n = true → e.flat n = true → PyData.eqv d.py e.py = D.eqv d e
  | _, .non, e, _, h => by cases e <;> simp [D.flat, D.py, D.eqv, PyData.eqv] at h ⊢
  | _, .bl _, e, _, h => by cases e <;> simp [D.flat, D.py, D.eqv, PyData.eqv] at h ⊢
  | _, .int _, e, _, h => by cases e <;> simp [D.flat, D.py, D.eqv, PyData.eqv] at h ⊢
  | _, .str _, e, _, h => by cases e <;> simp [D.flat, D.py, D.eqv, PyData.eqv] at h ⊢
  | 0, .tup xs, e, g, h => by simp [D.flat] at g
  | 0, .lst xs, e, g, h => by simp [D.flat] at g
  | n + 1, .tup xs, e, g, h => by
    cases e with
    | tup ys =>
      rw [D.flat] at g h
      simp only [D.py, D.eqv, PyData.eqv]
      exact D.eqvs_py xs ys g h
    | _ => simp [D.flat, D.py, D.eqv, PyData.eqv] at h ⊢
  | n + 1, .lst xs, e, g, h => by
    cases e with
    | lst ys =>
      rw [D.flat] at g h
      simp only [D.py, D.eqv, PyData.eqv]
      exact D.eqvs_py xs ys g h
    | _ => simp [D.flat, D.py, D.eqv, PyData.eqv] at h ⊢
  | _, .scr _, _, h, _ => by simp [D.flat] at h
  | _, .ref _, _, h, _ => by simp [D.flat] at h
theorem D.eqvs_py : ∀ {n : Nat} (ds es : List D), D.flats n ds = true → D.flats n es = true → PyData.eqvAll (D.pys ds) (D.pys es) = D.eqvs ds es
  | _, [], es, _, _ => by cases es <;> simp [D.pys, D.eqvs, PyData.eqvAll]
  | n, d :: ds, es, g, h => by
    cases es with
    | nil => simp [D.pys, D.eqvs, PyData.eqvAll]
    | cons e es =>
      rw [D.flats, Bool.and_eq_true] at g h
      rw [D.pys, D.pys, PyData.eqvAll, D.eqvs, D.eqv_py d e g.1 h.1, D.eqvs_py ds es g.2 h.2]
end
theorem D.flats_mem {n : Nat} : ∀ {xs : List D}, D.flats n xs = true → ∀ x ∈ xs, x.flat n = true
  | [], _, x, hx => by cases hx
  | y :: ys, h, x, hx => by
    rw [D.flats, Bool.and_eq_true] at h
    rcases List.mem_cons.mp hx with rfl | hx
    · exact h.1
    · exact D.flats_mem h.2 x hx
theorem memD_py {n : Nat} {x : D} (hx : x.flat n = true) : ∀ {xs : List D}, D.flats n xs = true → ((D.pys xs).any fun y => PyData.eqv y x.py) = memD x xs
  | [], _ => rfl
  | y :: ys, h => by
    rw [D.flats, Bool.and_eq_true] at h
    rw [D.pys, List.any_cons, memD, D.eqv_py y x h.1 hx, memD_py hx h.2]
theorem countD_py {n : Nat} {x : D} (hx : x.flat n = true) : ∀ {xs : List D}, D.flats n xs = true → ((D.pys xs).countP fun y => PyData.eqv y x.py) = countD x xs
  | [], _ => rfl
  | y :: ys, h => by
    rw [D.flats, Bool.and_eq_true] at h
    rw [D.pys, List.countP_cons, countD, D.eqv_py y x h.1 hx, countD_py hx h.2]
    cases D.eqv y x <;> simp
mutual
theorem Rep.dp {K : PySem.W.Frag} {W : Wd} {H : Hp} (s : Same W.G H) : ∀ {n : Nat} {v : V} {d : D}, Rep K W v d → d.flat n = true → Dp K H v d.py
  | _, _, _, .non, _ => .non
  | _, _, _, .bl _, _ => .bl _
  | _, _, _, .int _, _ => .int _
  | _, _, _, .str _, _ => .str _
  | 0, _, _, .tup _ _ _, h => by simp [D.flat] at h
  | 0, _, _, .lst _ _ _, h => by simp [D.flat] at h
  | n + 1, _, _, .tup g z l, h => .tup (SqT_ft (s _ _ g)) (RepL.dp s l (by rwa [D.flat] at h))
  | n + 1, _, _, .lst g z l, h => .lst (.of (s _ _ g)) (RepL.dp s l (by rwa [D.flat] at h))
  | _, _, _, .scr _ _, h => by simp [D.flat] at h
  | _, _, _, .ref _, h => by simp [D.flat] at h
theorem RepL.dp {K : PySem.W.Frag} {W : Wd} {H : Hp} (s : Same W.G H) : ∀ {n : Nat} {v : List V} {d : List D}, RepL K W v d → D.flats n d = true → DpAll K H v (D.pys d)
  | _, _, _, .nil, _ => .nil
  | _, _, _, .cons h t, e => by
    rw [D.flats, Bool.and_eq_true] at e
    exact .cons (Rep.dp s h e.1) (RepL.dp s t e.2)
end
section
variable {X : Cx} {cls : Nat → Option Addr} {U : XW} {pins : List (Addr × Obj)} {σ : L2.St} {H : Hp} {s : Shared} {W : Wd} {st : Store}
/-- a flat datum is read off the heap -/
theorem Rep.reads (I : Inv X pins σ H s) (A : Ag X.K X.w cls W st H) {v : V} {u : Value} {d : D} {n : Nat} (h : Rep X.K W v d) (hf : d.flat n = true) (r : RelV v u) : ∃ as, Reads s.heap u d.py as :=
  Dp.reads I d.py v u (h.dp A.sub hf) r
theorem RepL.reads (I : Inv X pins σ H s) (A : Ag X.K X.w cls W st H) {v : List V} {u : List Value} {d : List D} {n : Nat} (h : RepL X.K W v d) (hf : D.flats n d = true) (r : Vals v u) : ∃ as, ReadsAll s.heap u (D.pys d) as :=
  Dp.readsAll I (D.pys d) v u (h.dp A.sub hf) r
end

/-! ### operators -/
section
variable {X : Cx} {cls : Nat → Option Addr} {U : XW}
theorem flat_len (xs : List V) (k : Nat) : (List.replicate k xs).flatten.length = k * xs.length := by
  induction k with
  | zero => simp
  | succ k ih => rw [List.replicate_succ, List.flatten_cons, List.length_append, ih, Nat.succ_mul, Nat.add_comm]
theorem flat_lenD (xs : List D) (k : Nat) : (List.replicate k xs).flatten.length = k * xs.length := by
  induction k with
  | zero => simp
  | succ k ih => rw [List.replicate_succ, List.flatten_cons, List.length_append, ih, Nat.succ_mul, Nat.add_comm]
theorem rep_small {ds : List D} {k : Int} (hz : ds.length ≤ 1000) (h2 : k ≤ 1000) : (List.replicate k.toNat ds).flatten.length ≤ sizeLine := by
  rw [flat_lenD, sizeLine_eq]
  have a1 : k.toNat * ds.length ≤ 1000 * 1000 := Nat.mul_le_mul (by omega) hz
  omega
theorem Rep.rep1 {K : PySem.W.Frag} {W : Wd} {v : V} {ds : List D} {k : Int} (h : Rep K W v (.tup ds)) (hw : ds = [] ∨ k = 1) : Rep K W v (.tup (List.replicate k.toNat ds).flatten) := by
  have e : (List.replicate k.toNat ds).flatten = ds := by
    rcases hw with e | e
    · subst e; simp
    · subst e; simp
  rw [e]; exact h
theorem op_repTF : OpR X (binaryOp .Mult) (fun x y H Q => ∃ l k xs, x = .ref l ∧ y = .int k ∧ SqT X.K H l xs ∧ xs ≠ [] ∧ 2 ≤ k ∧ k ≤ 1000 ∧ xs.length ≤ 1000 ∧ ∀ p us, H p = none → Q (.ref p) (upd H p (FT us (List.replicate k.toNat xs).flatten))) := by
  intro pins s σ H x y v u Q I rx ry h
  obtain ⟨l, k, xs, rfl, rfl, hT, hne, h1, h2, hz, q⟩ := h
  cases rx
  obtain ⟨t, rfl⟩ := ry
  obtain ⟨its, r, ⟨⟨cls, dd, data, sl⟩, ho, hc, n, hd⟩, hs⟩ := I.tuple hT
  simp only at hc hd
  subst hc hd
  have hle : its.length = xs.length := r.length.symm
  have hn : its ≠ [] := fun e => hne (by
    rw [e] at hle
    exact List.eq_nil_of_length_eq_zero hle.symm)
  have hi : its.toArray.isEmpty = false := by
    cases its with
    | nil => exact absurd rfl hn
    | cons a b => rfl
  have hsz0 : its.toArray.size = xs.length := by rw [List.size_toArray, hle]
  have hm : ((its.toArray.size : Nat) : Int) * k ≤ 1000000 := by
    rw [hsz0]
    have a1 : ((xs.length : Nat) : Int) * k ≤ 1000 * k := Int.mul_le_mul_of_nonneg_right (by omega) (by omega)
    omega
  have flen : (List.replicate k.toNat its).flatten.length ≤ sizeLine := by
    rw [PyProof.Rows.lm_len_rep_flat, hle, sizeLine_eq]
    have a1 : k.toNat * xs.length ≤ 1000 * 1000 := Nat.mul_le_mul (by omega) hz
    omega
  have c0 : (decide (k < -(2 ^ 63)) || decide (k ≥ 2 ^ 63)) = false := by
    rw [decide_eq_false (by omega), decide_eq_false (by omega)] <;> rfl
  have c1 : (its.toArray.isEmpty || k == 1) = false := by
    rw [hi, Bool.false_or]
    exact beq_eq_false_iff_ne.mpr (by omega)
  have c2 : (decide (k ≤ 0) || its.toArray.isEmpty) = false := by
    rw [hi, Bool.or_false]
    exact decide_eq_false (by omega)
  have c4 : Builtin.Tuple.tupleTooMany (((its.toArray.size : Nat) : Int) * k) = false := by
    unfold Builtin.Tuple.tupleTooMany
    rw [sizeLine_eq]
    exact decide_eq_false (by omega)
  refine wpAny_binaryOp_repeat_ref (T := "tuple") (U := "int") (by decide) ⟨_, ho, rfl⟩ (fun s' => typeIs_int s' k t) noFill_tuple_mul F.fills_int_mul F.slot_int_rmul repeat_tuple F.slot_int_index.lookup
    (call_meets F.slot_int_rmul (typeIs_int s k t) F.entry_int_rmul (F.args_int_rmul_2 _ _) (int_rmul_tuple k t l its.toArray n dd sl)
      ⟨ho, rfl, ⟨_, ho, rfl⟩, call_meets F.slot_tuple_mul ⟨_, ho, rfl⟩ F.entry_tuple_mul (F.args_tuple_mul_2 _ _) (tuple_mulW l its.toArray n dd sl k t c0 c1 c2 (by omega) c4 (by rw [size_rep, List.size_toArray]; exact flen)) ⟨ho, ?_⟩⟩)
  rw [size_rep]
  exact ⟨.ref s.heap.objs.size, _, I.laidT (t' := s.toks) (r.rep k.toNat) (by rw [PyProof.Rows.lm_len_rep_flat, sizeLine_eq]; have a1 : k.toNat * xs.length ≤ 1000 * 1000 := Nat.mul_le_mul (by omega) hz; omega), rfl, q _ _ (I.hok.fresh (Nat.le_refl _))⟩
/-- tuple * int -/
theorem op_repA : OpR X (binaryOp .Mult) (fun x y H Q => ∃ l k xs, x = .ref l ∧ y = .int k ∧ SqT X.K H l xs ∧ xs.length ≤ 1000 ∧ -1000 ≤ k ∧ k ≤ 1000 ∧
    ((xs = [] ∨ k = 1) → Q (.ref l) H) ∧ (¬ (xs = [] ∨ k = 1) → ∀ p us, H p = none → Q (.ref p) (upd H p (FT us (List.replicate k.toNat xs).flatten)))) := by
  intro pins s σ H x y v u Q I rx ry h
  obtain ⟨l, k, xs, rfl, rfl, hT, hz, h1, h2, q1, q2⟩ := h
  by_cases hw : xs = [] ∨ k = 1
  · cases rx
    obtain ⟨t, rfl⟩ := ry
    obtain ⟨its, r, ⟨⟨cls, dd, data, sl⟩, ho, hc, n, hd⟩, hs⟩ := I.tuple hT
    simp only at hc hd
    subst hc hd
    have c0 : (decide (k < -(2 ^ 63)) || decide (k ≥ 2 ^ 63)) = false := by
      rw [decide_eq_false (by omega), decide_eq_false (by omega)] <;> rfl
    have c1 : (its.toArray.isEmpty || k == 1) = true := by
      rcases hw with e | e
      · subst e; cases r; rfl
      · subst e; simp
    refine wpAny_binaryOp_repeat_ref (T := "tuple") (U := "int") (by decide) ⟨_, ho, rfl⟩ (fun s' => typeIs_int s' k t) noFill_tuple_mul F.fills_int_mul F.slot_int_rmul repeat_tuple F.slot_int_index.lookup
      (call_meets F.slot_int_rmul (typeIs_int s k t) F.entry_int_rmul (F.args_int_rmul_2 _ _) (int_rmul_tuple k t l its.toArray n dd sl)
        ⟨ho, rfl, ⟨_, ho, rfl⟩, call_meets F.slot_tuple_mul ⟨_, ho, rfl⟩ F.entry_tuple_mul (F.args_tuple_mul_2 _ _) (tuple_mul0 l its.toArray n dd sl k t c0 c1) ⟨ho, ?_⟩⟩)
    exact ⟨.ref l, H, I, rfl, q1 hw⟩
  · have hne : xs ≠ [] := fun e => hw (.inl e)
    have hk1 : k ≠ 1 := fun e => hw (.inr e)
    by_cases hk : 2 ≤ k
    · exact op_repTF pins s σ H _ _ v u Q I rx ry ⟨l, k, xs, rfl, rfl, hT, hne, hk, h2, hz, q2 hw⟩
    · cases rx
      obtain ⟨t, rfl⟩ := ry
      obtain ⟨its, r, ⟨⟨cls, dd, data, sl⟩, ho, hc, n, hd⟩, hs⟩ := I.tuple hT
      simp only at hc hd
      subst hc hd
      have hi : its.toArray.isEmpty = false := by
        cases its with
        | nil => cases r; exact absurd rfl hne
        | cons a b => rfl
      have c0 : (decide (k < -(2 ^ 63)) || decide (k ≥ 2 ^ 63)) = false := by
        rw [decide_eq_false (by omega), decide_eq_false (by omega)] <;> rfl
      have c1 : (its.toArray.isEmpty || k == 1) = false := by
        rw [hi, Bool.false_or]
        exact beq_eq_false_iff_ne.mpr hk1
      have c2 : (decide (k ≤ 0) || its.toArray.isEmpty) = true := by
        rw [decide_eq_true (by omega)]; rfl
      refine wpAny_binaryOp_repeat_ref (T := "tuple") (U := "int") (by decide) ⟨_, ho, rfl⟩ (fun s' => typeIs_int s' k t) noFill_tuple_mul F.fills_int_mul F.slot_int_rmul repeat_tuple F.slot_int_index.lookup
        (call_meets F.slot_int_rmul (typeIs_int s k t) F.entry_int_rmul (F.args_int_rmul_2 _ _) (int_rmul_tuple k t l its.toArray n dd sl)
          ⟨ho, rfl, ⟨_, ho, rfl⟩, call_meets F.slot_tuple_mul ⟨_, ho, rfl⟩ F.entry_tuple_mul (F.args_tuple_mul_2 _ _) (tuple_mulE l its.toArray n dd sl k t c0 c1 c2) ⟨ho, ?_⟩⟩)
      have e0 : k.toNat = 0 := by omega
      have q := q2 hw s.heap.objs.size [] (I.hok.fresh (Nat.le_refl _))
      rw [e0] at q
      exact ⟨.ref s.heap.objs.size, _, I.laidT (t' := s.toks) (us := []) (xs := []) .nil (Nat.zero_le _), rfl, q⟩
theorem op_binD (op : Operator) : OpR X (binaryOp op) (rBin X cls U (binD op)) := by
  intro pins s σ H x y v u Q I rx ry h
  obtain ⟨W, st, dx, dy, A, r1, r2, q⟩ := h
  have go : ∀ {r : R2}, OpR X (binaryOp op) r → r x y H Q → wpAny (model X.prog X.w) X.A (binaryOp op v u) (EP X pins σ Q) X.xe s := fun hr h => hr pins s σ H x y v u Q I rx ry h
  unfold binD at q
  split at q
  · exact go op_add ⟨_, _, r1.int_inv, r2.int_inv, q.val A (.int _)⟩
  · exact go op_sub ⟨_, _, r1.int_inv, r2.int_inv, q.val A (.int _)⟩
  · obtain ⟨hb, q⟩ := q.test
    rcases mul_ok hb with hm | hm
    · exact go op_mul ⟨_, _, r1.int_inv, r2.int_inv, hm, q.val A (.int _)⟩
    · exact go op_mulW ⟨_, _, r1.int_inv, r2.int_inv, hm, q.val A (.int _)⟩
  · obtain ⟨hb, q⟩ := q.test
    simp only [Bool.and_eq_true, decide_eq_true_eq] at hb
    exact go op_fdivW ⟨_, _, r1.int_inv, r2.int_inv, wide_div (b := 4000) hb.1 (by omega) (by decide) (by decide), q.val A (.int _)⟩
  · obtain ⟨hb, q⟩ := q.test
    simp only [decide_eq_true_eq] at hb
    exact go op_mod ⟨_, _, r1.int_inv, r2.int_inv, hb, q.val A (.int _)⟩
  · obtain ⟨hb, q⟩ := q.test
    simp only [decide_eq_true_eq, sizeLine_lim] at hb
    exact go op_add_str ⟨_, _, r1.str_inv, r2.str_inv, hb, q.val A (.str _)⟩
  · obtain ⟨hb, q⟩ := q.test
    simp only [decide_eq_true_eq, sizeLine_lim] at hb
    obtain ⟨a, us1, xs, e1, g1, z1, l1⟩ := r1.tup_inv
    obtain ⟨b, us2, ys, e2, g2, z2, l2⟩ := r2.tup_inv
    refine go op_catF ⟨a, b, xs, ys, e1, e2, SqT_ft (A.sub _ _ g1), SqT_ft (A.sub _ _ g2), by rw [l1.length, l2.length]; exact hb, fun e => ?_, fun _ e => ?_, fun _ _ => ?_⟩
    · subst e
      cases l1
      rw [List.nil_append] at q
      exact q.val A (.tup g2 z2 l2)
    · subst e
      cases l2
      rw [List.append_nil] at q
      exact q.val A (.tup g1 z1 l1)
    · exact Aft.newTup A q (l1.append l2) (by rw [List.length_append]; exact hb)
  · obtain ⟨hb, q⟩ := q.test
    simp only [Bool.and_eq_true, decide_eq_true_eq, sizeLine_lim] at hb
    obtain ⟨⟨hz, h1⟩, h2⟩ := hb
    obtain ⟨a, us1, xs, e1, g1, z1, l1⟩ := r1.tup_inv
    refine go op_repA ⟨a, _, xs, e1, r2.int_inv, SqT_ft (A.sub _ _ g1), by rw [l1.length]; exact hz, h1, h2, fun hw => ?_, fun _ => ?_⟩
    · refine q.val A (Rep.rep1 (.tup g1 z1 l1) ?_)
      rcases hw with e | e
      · exact .inl (by subst e; cases l1; rfl)
      · exact .inr e
    · exact Aft.newTup A q (l1.reps _) (rep_small hz h2)
  · obtain ⟨hb, q⟩ := q.test
    simp only [decide_eq_true_eq, sizeLine_lim] at hb
    obtain ⟨a, xs, e1, g1, z1, l1⟩ := r1.lst_inv
    obtain ⟨b, ys, e2, g2, z2, l2⟩ := r2.lst_inv
    exact go op_cat ⟨a, b, xs, ys, e1, e2, A.sub _ _ g1, A.sub _ _ g2, by rw [l1.length, l2.length]; exact hb, Aft.newLst A q (l1.append l2) (by rw [List.length_append]; exact hb)⟩
  · obtain ⟨hb, q⟩ := q.test
    simp only [Bool.and_eq_true, decide_eq_true_eq, sizeLine_lim] at hb
    obtain ⟨⟨hz, h1⟩, h2⟩ := hb
    obtain ⟨a, xs, e1, g1, z1, l1⟩ := r1.lst_inv
    have hs := rep_small hz h2
    exact go op_rep ⟨a, _, xs, e1, r2.int_inv, A.sub _ _ g1, by omega, by omega, by rw [l1.length, Nat.mul_comm, ← flat_lenD]; exact hs, Aft.newLst A q (l1.reps _) hs⟩
  · exact q.elim
end
end EV
/-! EvF: comparisons, subscripts, slices, built-in functions and methods by data. -/
namespace EV
open PySem PySem.Spec PyProof.Rows L2

section
variable {X : Cx} {cls : Nat → Option Addr} {U : XW}
/-- a dict of the store, in the hand -/
def DicAt (st : Store) (i : Nat) (kvs : List (D × D)) : Prop := st[i]? = some (.dic kvs) ∨ st[i]? = some (.lck kvs)
/-- the rules for dicts (shown in a file of its own) -/
structure DicR (X : Cx) (cls : Nat → Option Addr) : Prop where
  mem : OpR X (compareOp .In) (fun x y H Q => ∃ W st dx i kvs, Ag X.K X.w cls W st H ∧ Rep X.K W x dx ∧ Rep X.K W y (.ref i) ∧ DicAt st i kvs ∧ dx.key 6 = true ∧ Q (.bl (dget kvs dx).isSome) H)
  nmem : OpR X (compareOp .NotIn) (fun x y H Q => ∃ W st dx i kvs, Ag X.K X.w cls W st H ∧ Rep X.K W x dx ∧ Rep X.K W y (.ref i) ∧ DicAt st i kvs ∧ dx.key 6 = true ∧ Q (.bl (!(dget kvs dx).isSome)) H)
  get : IxR X (fun x y H Q => ∃ W st dy i kvs d, Ag X.K X.w cls W st H ∧ Rep X.K W x (.ref i) ∧ Rep X.K W y dy ∧ DicAt st i kvs ∧ dy.key 6 = true ∧ dget kvs dy = some d ∧ ∀ v, Rep X.K W v d → Q v H)

/-! ### comparisons -/
theorem op_eqP (hu : X.A.units + 64 < cLine) : OpR X (compareOp .Eq) (rBin X cls U (cmpD .Eq)) := by
  intro pins s σ H x y v u Q I rx ry h
  obtain ⟨W, st, dx, dy, A, r1, r2, q⟩ := h
  unfold cmpD at q
  obtain ⟨hb, q⟩ := q.test
  rw [Bool.and_eq_true] at hb
  obtain ⟨as, h1⟩ := r1.reads I A hb.1 rx
  obtain ⟨bs, h2⟩ := r2.reads I A hb.2 ry
  have p1 := D.py_plain dx hb.1
  have p2 := D.py_plain dy hb.2
  refine SeqAt.eq_plain h1 h2 p1.1 p2.1 (by have := Nat.min_le_left dx.py.depth dy.py.depth; omega) ?_
  rw [D.eqv_py dx dy hb.1 hb.2]
  exact ⟨.bl _, H, I, rfl, q.val A (.bl _)⟩
theorem op_neP (hu : X.A.units + 64 < cLine) : OpR X (compareOp .NotEq) (rBin X cls U (cmpD .NotEq)) := by
  intro pins s σ H x y v u Q I rx ry h
  obtain ⟨W, st, dx, dy, A, r1, r2, q⟩ := h
  unfold cmpD at q
  obtain ⟨hb, q⟩ := q.test
  rw [Bool.and_eq_true] at hb
  obtain ⟨as, h1⟩ := r1.reads I A hb.1 rx
  obtain ⟨bs, h2⟩ := r2.reads I A hb.2 ry
  have p1 := D.py_plain dx hb.1
  have p2 := D.py_plain dy hb.2
  refine SeqAt.ne_plain h1 h2 p1.1 p2.1 (by have := Nat.min_le_left dx.py.depth dy.py.depth; omega) ?_
  rw [D.eqv_py dx dy hb.1 hb.2]
  exact ⟨.bl _, H, I, rfl, q.val A (.bl _)⟩
theorem op_ordI {op : CmpOp} {p : Int → Int → Bool} (ho : OpR X (compareOp op) (rI0 fun i j => .bl (p i j))) (he : ∀ x y st, cmpD op x y st = match x, y with | .int i, .int j => .ok (.bl (p i j)) st | _, _ => .bad) : OpR X (compareOp op) (rBin X cls U (cmpD op)) := by
  intro pins s σ H x y v u Q I rx ry h
  obtain ⟨W, st, dx, dy, A, r1, r2, q⟩ := h
  rw [he] at q
  split at q
  · exact ho pins s σ H x y v u Q I rx ry ⟨_, _, r1.int_inv, r2.int_inv, q.val A (.bl _)⟩
  · exact q.elim
theorem op_isBl : OpR X (compareOp .Is) (fun x y H Q => ∃ a b, x = .bl a ∧ y = .bl b ∧ Q (.bl (a == b)) H) := by
  intro pins s σ H x y v u Q I rx ry h
  obtain ⟨a, b, rfl, rfl, q⟩ := h
  cases rx
  cases ry
  exact is_bool ⟨.bl _, H, I, rfl, q⟩
theorem op_isntBl : OpR X (compareOp .IsNot) (fun x y H Q => ∃ a b, x = .bl a ∧ y = .bl b ∧ Q (.bl (!(a == b))) H) := by
  intro pins s σ H x y v u Q I rx ry h
  obtain ⟨a, b, rfl, rfl, q⟩ := h
  cases rx
  cases ry
  exact isnot_bool ⟨.bl _, H, I, rfl, q⟩
theorem rep_non {K : PySem.W.Frag} {W : Wd} {x : V} {d : D} (h : Rep K W x d) : decide (x = .non) = d.isNon := by
  cases h <;> simp [D.isNon]
theorem op_inP (hu : X.A.units + 64 < cLine) (hd : DicR X cls) : OpR X (compareOp .In) (rBin X cls U (cmpD .In)) := by
  intro pins s σ H x y v u Q I rx ry h
  obtain ⟨W, st, dx, dy, A, r1, r2, q⟩ := h
  unfold cmpD at q
  have seq : ∀ {ds : List D} {as : List Addr} {T : List PyData → PyData}, (x : V) → True := fun _ => trivial
  cases dy with
  | ref i =>
    obtain ⟨a, e2, ha⟩ := r2.ref_inv
    obtain ⟨o, ho, oa⟩ := A.at ha
    simp only [ho] at q
    cases o with
    | dic kvs =>
      obtain ⟨hb, q⟩ := q.test
      exact hd.mem pins s σ H x y v u Q I rx ry ⟨W, st, dx, i, kvs, A, r1, r2, .inl ho, hb, q.val A (.bl _)⟩
    | lck kvs =>
      obtain ⟨hb, q⟩ := q.test
      exact hd.mem pins s σ H x y v u Q I rx ry ⟨W, st, dx, i, kvs, A, r1, r2, .inr ho, hb, q.val A (.bl _)⟩
    | lst ds =>
      obtain ⟨hb, q⟩ := q.test
      rw [Bool.and_eq_true] at hb
      obtain ⟨xs, hx, l, z⟩ := oa
      subst e2
      obtain ⟨as, h1⟩ := r1.reads I A hb.1 rx
      have dp : Dp X.K H (.ref a) (.list (D.pys ds)) := .lst (.of hx) (l.dp A.sub hb.2)
      obtain ⟨bs, h2⟩ := Dp.reads I _ _ _ dp ry
      refine SeqAt.in_list_data h2 h1 (D.pys_plain ds hb.2).1 (D.py_plain dx hb.1).1 (by have := Nat.min_le_right (PyData.depthAll (D.pys ds)) dx.py.depth; have := (D.py_plain dx hb.1).2; omega) ?_
      rw [memD_py hb.1 hb.2]
      exact ⟨.bl _, H, I, rfl, q.val A (.bl _)⟩
    | ins c fs => exact q.elim
  | tup ds =>
    obtain ⟨hb, q⟩ := q.test
    rw [Bool.and_eq_true] at hb
    obtain ⟨as, h1⟩ := r1.reads I A hb.1 rx
    obtain ⟨bs, h2⟩ := r2.reads (n := 21) I A (by rw [D.flat]; exact hb.2) ry
    rw [D.py] at h2
    refine SeqAt.in_tuple_data h2 h1 (D.pys_plain ds hb.2).1 (D.py_plain dx hb.1).1 (by have := Nat.min_le_right (PyData.depthAll (D.pys ds)) dx.py.depth; have := (D.py_plain dx hb.1).2; omega) ?_
    rw [memD_py hb.1 hb.2]
    exact ⟨.bl _, H, I, rfl, q.val A (.bl _)⟩
  | lst ds =>
    obtain ⟨hb, q⟩ := q.test
    rw [Bool.and_eq_true] at hb
    obtain ⟨as, h1⟩ := r1.reads I A hb.1 rx
    obtain ⟨bs, h2⟩ := r2.reads (n := 21) I A (by rw [D.flat]; exact hb.2) ry
    rw [D.py] at h2
    refine SeqAt.in_list_data h2 h1 (D.pys_plain ds hb.2).1 (D.py_plain dx hb.1).1 (by have := Nat.min_le_right (PyData.depthAll (D.pys ds)) dx.py.depth; have := (D.py_plain dx hb.1).2; omega) ?_
    rw [memD_py hb.1 hb.2]
    exact ⟨.bl _, H, I, rfl, q.val A (.bl _)⟩
  | str t =>
    cases dx with
    | str z =>
      obtain ⟨⟨l⟩⟩ := z
      cases l with
      | nil => exact q.elim
      | cons c l =>
        cases l with
        | nil => exact op_in_sign pins s σ H x y v u Q I rx ry ⟨c, t, r1.str_inv, r2.str_inv, q.val A (.bl _)⟩
        | cons _ _ => exact q.elim
    | _ => exact q.elim
  | _ => exact q.elim
theorem op_notInP (hu : X.A.units + 64 < cLine) (hd : DicR X cls) : OpR X (compareOp .NotIn) (rBin X cls U (cmpD .NotIn)) := by
  intro pins s σ H x y v u Q I rx ry h
  obtain ⟨W, st, dx, dy, A, r1, r2, q⟩ := h
  unfold cmpD at q
  cases dy with
  | ref i =>
    obtain ⟨a, e2, ha⟩ := r2.ref_inv
    obtain ⟨o, ho, oa⟩ := A.at ha
    simp only [ho] at q
    cases o with
    | dic kvs =>
      obtain ⟨hb, q⟩ := q.test
      exact hd.nmem pins s σ H x y v u Q I rx ry ⟨W, st, dx, i, kvs, A, r1, r2, .inl ho, hb, q.val A (.bl _)⟩
    | lck kvs =>
      obtain ⟨hb, q⟩ := q.test
      exact hd.nmem pins s σ H x y v u Q I rx ry ⟨W, st, dx, i, kvs, A, r1, r2, .inr ho, hb, q.val A (.bl _)⟩
    | lst ds =>
      obtain ⟨hb, q⟩ := q.test
      rw [Bool.and_eq_true] at hb
      obtain ⟨xs, hx, l, z⟩ := oa
      subst e2
      obtain ⟨as, h1⟩ := r1.reads I A hb.1 rx
      have dp : Dp X.K H (.ref a) (.list (D.pys ds)) := .lst (.of hx) (l.dp A.sub hb.2)
      obtain ⟨bs, h2⟩ := Dp.reads I _ _ _ dp ry
      refine SeqAt.notIn_list_data h2 h1 (D.pys_plain ds hb.2).1 (D.py_plain dx hb.1).1 (by have := Nat.min_le_right (PyData.depthAll (D.pys ds)) dx.py.depth; have := (D.py_plain dx hb.1).2; omega) ?_
      rw [memD_py hb.1 hb.2]
      exact ⟨.bl _, H, I, rfl, q.val A (.bl _)⟩
    | ins c fs => exact q.elim
  | tup ds =>
    obtain ⟨hb, q⟩ := q.test
    rw [Bool.and_eq_true] at hb
    obtain ⟨as, h1⟩ := r1.reads I A hb.1 rx
    obtain ⟨bs, h2⟩ := r2.reads (n := 21) I A (by rw [D.flat]; exact hb.2) ry
    rw [D.py] at h2
    refine SeqAt.notIn_tuple_data h2 h1 (D.pys_plain ds hb.2).1 (D.py_plain dx hb.1).1 (by have := Nat.min_le_right (PyData.depthAll (D.pys ds)) dx.py.depth; have := (D.py_plain dx hb.1).2; omega) ?_
    rw [memD_py hb.1 hb.2]
    exact ⟨.bl _, H, I, rfl, q.val A (.bl _)⟩
  | lst ds =>
    obtain ⟨hb, q⟩ := q.test
    rw [Bool.and_eq_true] at hb
    obtain ⟨as, h1⟩ := r1.reads I A hb.1 rx
    obtain ⟨bs, h2⟩ := r2.reads (n := 21) I A (by rw [D.flat]; exact hb.2) ry
    rw [D.py] at h2
    refine SeqAt.notIn_list_data h2 h1 (D.pys_plain ds hb.2).1 (D.py_plain dx hb.1).1 (by have := Nat.min_le_right (PyData.depthAll (D.pys ds)) dx.py.depth; have := (D.py_plain dx hb.1).2; omega) ?_
    rw [memD_py hb.1 hb.2]
    exact ⟨.bl _, H, I, rfl, q.val A (.bl _)⟩
  | str t =>
    cases dx with
    | str z =>
      obtain ⟨⟨l⟩⟩ := z
      cases l with
      | nil => exact q.elim
      | cons c l =>
        cases l with
        | nil => exact op_notIn_sign pins s σ H x y v u Q I rx ry ⟨c, t, r1.str_inv, r2.str_inv, q.val A (.bl _)⟩
        | cons _ _ => exact q.elim
    | _ => exact q.elim
  | _ => exact q.elim
theorem op_cmpD (hu : X.A.units + 64 < cLine) (hd : DicR X cls) (op : CmpOp) : OpR X (compareOp op) (rBin X cls U (cmpD op)) := by
  cases op with
  | Eq => exact op_eqP hu
  | NotEq => exact op_neP hu
  | Lt => exact op_ordI (p := fun i j => decide (i < j)) op_lt fun x y st => rfl
  | LtE => exact op_ordI (p := fun i j => decide (i ≤ j)) op_le fun x y st => rfl
  | Gt => exact op_ordI (p := fun i j => decide (j < i)) op_gt fun x y st => rfl
  | GtE => exact op_ordI (p := fun i j => decide (j ≤ i)) op_ge fun x y st => rfl
  | In => exact op_inP hu hd
  | NotIn => exact op_notInP hu hd
  | Is =>
    intro pins s σ H x y v u Q I rx ry h
    obtain ⟨W, st, dx, dy, A, r1, r2, q⟩ := h
    unfold cmpD at q
    cases dy with
    | non => exact op_isN pins s σ H x y v u Q I rx ry ⟨r2.non_inv, by rw [rep_non r1]; exact q.val A (.bl _)⟩
    | bl b =>
      cases dx with
      | bl a => exact op_isBl pins s σ H x y v u Q I rx ry ⟨a, b, r1.bl_inv, r2.bl_inv, q.val A (.bl _)⟩
      | _ => exact q.elim
    | _ => exact q.elim
  | IsNot =>
    intro pins s σ H x y v u Q I rx ry h
    obtain ⟨W, st, dx, dy, A, r1, r2, q⟩ := h
    unfold cmpD at q
    cases dy with
    | non =>
      refine op_notN pins s σ H x y v u Q I rx ry ⟨r2.non_inv, ?_⟩
      rw [rep_non r1]
      exact q.val A (.bl _)
    | bl b =>
      cases dx with
      | bl a => exact op_isntBl pins s σ H x y v u Q I rx ry ⟨a, b, r1.bl_inv, r2.bl_inv, q.val A (.bl _)⟩
      | _ => exact q.elim
    | _ => exact q.elim

/-! ### subscripts -/
theorem getAt_eq {α : Type} (xs : List α) (i : Int) : getAt xs i = atI xs i := rfl
theorem RepL.at {K : PySem.W.Frag} {W : Wd} {xs : List V} {ds : List D} (l : RepL K W xs ds) {i : Int} {d : D} (h : getAt ds i = some d) : ∃ v, atI xs i = some v ∧ Rep K W v d := by
  unfold getAt at h
  cases e : ix ds.length i with
  | none => rw [e] at h; cases h
  | some j =>
    rw [e] at h
    obtain ⟨v, h1, h2⟩ := l.get (i := j) (d := d) h
    refine ⟨v, ?_, h2⟩
    show (ixN xs.length i).bind (fun j => xs[j]?) = some v
    have e' : ixN xs.length i = some j := by rw [l.length]; exact e
    rw [e']
    exact h1
theorem ix_D (hd : DicR X cls) : IxR X (rBin X cls U idxD) := by
  intro va sl pins s σ H x y v u Q I rx ry h hs
  obtain ⟨W, st, dx, dy, A, r1, r2, q⟩ := h
  unfold idxD at q
  have go : ∀ {r : R2}, IxR X r → r x y H Q → wpAny (model X.prog X.w) X.A (subscriptTail va sl v u) (EP X pins σ Q) X.xe s := fun hr h => hr va sl pins s σ H x y v u Q I rx ry h hs
  cases dx with
  | tup ds =>
    cases dy with
    | int i =>
      obtain ⟨a, us, xs, e1, g1, z1, l1⟩ := r1.tup_inv
      cases e : getAt ds i with
      | none => simp only [e] at q; exact q.elim
      | some d =>
        simp only [e] at q
        obtain ⟨w, h1, h2⟩ := l1.at e
        exact go ix_tup ⟨a, xs, i, w, e1, r2.int_inv, SqT_ft (A.sub _ _ g1), h1, q.val A h2⟩
    | _ => exact q.elim
  | lst ds =>
    cases dy with
    | int i =>
      obtain ⟨a, xs, e1, g1, z1, l1⟩ := r1.lst_inv
      cases e : getAt ds i with
      | none => simp only [e] at q; exact q.elim
      | some d =>
        simp only [e] at q
        obtain ⟨w, h1, h2⟩ := l1.at e
        exact go ix_list ⟨a, xs, i, w, e1, r2.int_inv, SqL.of (A.sub _ _ g1), h1, q.val A h2⟩
    | _ => exact q.elim
  | scr ns =>
    cases dy with
    | int i =>
      obtain ⟨a, e1, g1, z1⟩ := r1.scr_inv
      cases e : getAt ns i with
      | none => simp only [e] at q; exact q.elim
      | some n =>
        simp only [e] at q
        refine go ix_list ⟨a, ns.map V.int, i, .int n, e1, r2.int_inv, A.sub.seq g1, ?_, q.val A (.int n)⟩
        unfold getAt at e
        show (ixN (ns.map V.int).length i).bind (fun j => (ns.map V.int)[j]?) = some (V.int n)
        cases e' : ix ns.length i with
        | none => rw [e'] at e; cases e
        | some j =>
          rw [e'] at e
          have e2 : ixN (ns.map V.int).length i = some j := by rw [List.length_map]; exact e'
          rw [e2]
          show (ns.map V.int)[j]? = _
          have e3 : ns[j]? = some n := e
          rw [List.getElem?_map, e3]
          rfl
    | _ => exact q.elim
  | str z =>
    cases dy with
    | int i =>
      obtain ⟨hb, q⟩ := q.test
      simp only [decide_eq_true_eq, sizeLine_lim] at hb
      cases e : getAt z.cps.toList i with
      | none => simp only [e] at q; exact q.elim
      | some c =>
        simp only [e] at q
        exact go ix_str ⟨z, i, c, r1.str_inv, r2.int_inv, hb, e, q.val A (.str _)⟩
    | _ => exact q.elim
  | ref j =>
    obtain ⟨a, e1, ha⟩ := r1.ref_inv
    obtain ⟨o, ho, oa⟩ := A.at ha
    simp only [ho] at q
    cases o with
    | lst ds =>
      cases dy with
      | int i =>
        obtain ⟨xs, hx, l1, z⟩ := oa
        cases e : getAt ds i with
        | none => simp only [e] at q; exact q.elim
        | some d =>
          simp only [e] at q
          obtain ⟨w, h1, h2⟩ := l1.at e
          exact go ix_list ⟨a, xs, i, w, e1, r2.int_inv, SqL.of hx, h1, q.val A h2⟩
      | _ => exact q.elim
    | dic kvs =>
      obtain ⟨hb, q⟩ := q.test
      cases e : dget kvs dy with
      | none => simp only [e] at q; exact q.elim
      | some d =>
        simp only [e] at q
        exact go hd.get ⟨W, st, dy, j, kvs, d, A, r1, r2, .inl ho, hb, e, fun w r => q.val A r⟩
    | lck kvs =>
      obtain ⟨hb, q⟩ := q.test
      cases e : dget kvs dy with
      | none => simp only [e] at q; exact q.elim
      | some d =>
        simp only [e] at q
        exact go hd.get ⟨W, st, dy, j, kvs, d, A, r1, r2, .inr ho, hb, e, fun w r => q.val A r⟩
    | ins c fs => exact q.elim
  | _ => exact q.elim
/-! ### slices -/
theorem cutIx_eq (n d : Nat) (o : Option Int) : cutIx n d o = HT.sIx n d o := by cases o <;> rfl
theorem RepL.cutV {K : PySem.W.Frag} {W : Wd} {xs : List V} {ds : List D} (l : RepL K W xs ds) (lo hi : Option Int) : RepL K W (L2.cutV xs lo hi) (EV.cut ds lo hi) := by
  unfold L2.cutV EV.cut
  rw [l.length, cutIx_eq, cutIx_eq]
  exact (l.drop _).take _
theorem cut_len {α : Type} (xs : List α) (lo hi : Option Int) : (EV.cut xs lo hi).length ≤ xs.length := by
  unfold EV.cut
  rw [List.length_take, List.length_drop]
  omega
theorem cut_whole {α : Type} (xs : List α) (lo hi : Option Int) (h1 : cutIx xs.length 0 lo = 0) (h2 : cutIx xs.length xs.length hi = xs.length) : EV.cut xs lo hi = xs := by
  unfold EV.cut
  rw [h1, h2]
  simp
/-- x[lo:hi] by values: the bounds have come -/
def rSli (X : Cx) (cls : Nat → Option Addr) (U : XW) : V → Option Int → Option Int → Hp → VK → Prop := fun x lo hi H Q => ∃ W st dx, Ag X.K X.w cls W st H ∧ Rep X.K W x dx ∧ Aft X.K X.w cls U (Rep X.K) W H (sliD dx lo hi st) Q
theorem sl_str' : SlR X (fun x lo hi H Q => ∃ z, x = .str z ∧ z.length ≤ sizeLine ∧ Q (.str ⟨(EV.cut z.cps.toList lo hi).toArray⟩) H) := by
  intro pins s σ H x v vl vu lo hi sl Q I rx hs pl pu h
  obtain ⟨z, rfl, hz, q⟩ := h
  refine sl_str pins s σ H _ v vl vu lo hi sl Q I rx hs pl pu ⟨z, rfl, hz, ?_⟩
  have e : cutS z lo hi = ⟨(EV.cut z.cps.toList lo hi).toArray⟩ := by
    unfold cutS EV.cut
    simp only [cutIx_eq]
    rfl
  rw [e]
  exact q
theorem sl_D : SlR X (rSli X cls U) := by
  intro pins s σ H x v vl vu lo hi sl Q I rx hs pl pu h
  obtain ⟨W, st, dx, A, r1, q⟩ := h
  unfold sliD at q
  cases dx with
  | tup ds =>
    obtain ⟨a, us, xs, e1, g1, z1, l1⟩ := r1.tup_inv
    refine sl_tupF pins s σ H x v vl vu lo hi sl Q I rx hs pl pu ⟨a, xs, e1, SqT_ft (A.sub _ _ g1), fun hw => ?_, fun _ => ?_⟩
    · have e := cut_whole ds lo hi (by rw [cutIx_eq, ← l1.length]; exact hw.1) (by rw [cutIx_eq, ← l1.length]; exact hw.2)
      have q : Aft X.K X.w cls U (Rep X.K) W H (.ok (.tup (EV.cut ds lo hi)) st) Q := q
      rw [e] at q
      rw [e1] at r1
      exact q.val A r1
    · exact Aft.newTup A q (l1.cutV lo hi) (Nat.le_trans (cut_len ds lo hi) z1)
  | lst ds =>
    obtain ⟨a, xs, e1, g1, z1, l1⟩ := r1.lst_inv
    exact sl_list pins s σ H x v vl vu lo hi sl Q I rx hs pl pu ⟨a, xs, e1, SqL.of (A.sub _ _ g1), Aft.newLst A q (l1.cutV lo hi) (Nat.le_trans (cut_len ds lo hi) z1)⟩
  | ref i =>
    obtain ⟨a, e1, ha⟩ := r1.ref_inv
    obtain ⟨o, ho, oa⟩ := A.at ha
    simp only [ho] at q
    cases o with
    | lst ds =>
      obtain ⟨xs, hx, l1, z1⟩ := oa
      exact sl_list pins s σ H x v vl vu lo hi sl Q I rx hs pl pu ⟨a, xs, e1, SqL.of hx, Aft.newLst A q (l1.cutV lo hi) (Nat.le_trans (cut_len ds lo hi) z1)⟩
    | _ => exact q.elim
  | str z =>
    obtain ⟨hb, q⟩ := q.test
    simp only [decide_eq_true_eq, sizeLine_lim] at hb
    exact sl_str' pins s σ H x v vl vu lo hi sl Q I rx hs pl pu ⟨z, r1.str_inv, hb, q.val A (.str _)⟩
  | _ => exact q.elim
end
end EV
/-! EvG: built-in functions and methods by data. -/
namespace EV
open PySem PySem.Spec PyProof.Rows L2

section
variable {X : Cx} {cls : Nat → Option Addr} {U : XW}
def rC (X : Cx) (cls : Nat → Option Addr) (U : XW) (f : List D → Store → R D) : List V → Hp → VK → Prop := fun vs H Q => ∃ W st ds, Ag X.K X.w cls W st H ∧ RepL X.K W vs ds ∧ Aft X.K X.w cls U (Rep X.K) W H (f ds st) Q
def rM (X : Cx) (cls : Nat → Option Addr) (U : XW) (m : Mth) : V → List V → Hp → VK → Prop := fun x vs H Q => ∃ W st dx ds, Ag X.K X.w cls W st H ∧ Rep X.K W x dx ∧ RepL X.K W vs ds ∧ Aft X.K X.w cls U (Rep X.K) W H (mthD m dx ds st) Q
theorem RepL.one_inv {K : PySem.W.Frag} {W : Wd} {vs : List V} {d : D} (h : RepL K W vs [d]) : ∃ v, vs = [v] ∧ Rep K W v d := by
  cases h with
  | cons a b => cases b; exact ⟨_, rfl, a⟩
theorem RepL.two_inv {K : PySem.W.Frag} {W : Wd} {vs : List V} {d e : D} (h : RepL K W vs [d, e]) : ∃ v w, vs = [v, w] ∧ Rep K W v d ∧ Rep K W w e := by
  cases h with
  | cons a b =>
    cases b with
    | cons c d => cases d; exact ⟨_, _, rfl, a, c⟩
theorem RepL.nil_inv {K : PySem.W.Frag} {W : Wd} {vs : List V} (h : RepL K W vs []) : vs = [] := by cases h; rfl
/-- a list or a tuple, as it stands -/
theorem Rep.seq {W : Wd} {H : Hp} {st : Store} (A : Ag X.K X.w cls W st H) {v : V} {d : D} {ys : List D} (r : Rep X.K W v d) (h : seqOf st d = some ys) :
    ∃ a xs, v = .ref a ∧ (SqL X.K H a xs ∨ SqT X.K H a xs) ∧ RepL X.K W xs ys ∧ ys.length ≤ sizeLine := by
  cases r with
  | tup g z l => cases h; exact ⟨_, _, rfl, .inr (SqT_ft (A.sub _ _ g)), l, z⟩
  | lst g z l => cases h; exact ⟨_, _, rfl, .inl (SqL.of (A.sub _ _ g)), l, z⟩
  | scr g z => cases h; exact ⟨_, _, rfl, .inl (A.sub.seq g), RepL.ints _, by rw [List.length_map]; exact z⟩
  | ref g =>
    obtain ⟨o, ho, oa⟩ := A.at g
    simp only [seqOf, ho] at h
    cases o with
    | lst ds => cases h; obtain ⟨xs, hx, l, z⟩ := oa; exact ⟨_, _, rfl, .inl (SqL.of hx), l, z⟩
    | _ => cases h
  | _ => cases h
/-- the rules shown in files of their own -/
structure Lib (X : Cx) (cls : Nat → Option Addr) : Prop extends DicR X cls where
  dlen : CallR X (.builtin "len") (fun xs H Q => ∃ W st i kvs, Ag X.K X.w cls W st H ∧ RepL X.K W xs [.ref i] ∧ DicAt st i kvs ∧ Q (.int kvs.length) H)
  dlist : CallR X (.type "list") (fun xs H Q => ∃ W st i kvs, Ag X.K X.w cls W st H ∧ RepL X.K W xs [.ref i] ∧ DicAt st i kvs ∧ ∀ p vs, H p = none → RepL X.K W vs (kvs.map (·.1)) → kvs.length ≤ sizeLine → Q (.ref p) (upd H p (.lst vs)))
  srt : ∀ U, CallR X (.builtin "sorted") (rC X cls U (bltD .sorted))
  dget2 : MtR X "dict.get" (fun x xs H Q => ∃ W st i kvs dk dx, Ag X.K X.w cls W st H ∧ Rep X.K W x (.ref i) ∧ RepL X.K W xs [dk, dx] ∧ DicAt st i kvs ∧ dk.key 6 = true ∧ ∀ v, Rep X.K W v ((dget kvs dk).getD dx) → Q v H)

theorem cd_len (hd : Lib X cls) : CallR X (.builtin "len") (rC X cls U (bltD .len)) := by
  intro pins s σ H vs us Q I rv h
  obtain ⟨W, st, ds, A, rl, q⟩ := h
  have go : ∀ {r : List V → Hp → VK → Prop}, CallR X (.builtin "len") r → r vs H Q → wpAny (model X.prog X.w) X.A (call (.builtin "len") us) (EP X pins σ Q) X.xe s := fun hr h => hr pins s σ H vs us Q I rv h
  have fin : ∀ {x : D}, RepL X.K W vs [x] → Aft X.K X.w cls U (Rep X.K) W H ((R.of (seqOf st x) st).bind fun ys st => .ok (.int ys.length) st) Q → wpAny (model X.prog X.w) X.A (call (.builtin "len") us) (EP X pins σ Q) X.xe s := fun {x} rl q => by
    obtain ⟨v, rfl, r1⟩ := rl.one_inv
    cases e : seqOf st x with
    | none => rw [e] at q; exact q.elim
    | some ys =>
      rw [e] at q
      obtain ⟨a, xs, e1, hq, l, z⟩ := r1.seq A e
      refine go call_len_seq ⟨a, xs, by rw [e1], hq, ?_⟩
      rw [l.length]
      exact Aft.val A q (.int _)
  cases ds with
  | nil => exact q.elim
  | cons x r =>
    cases r with
    | cons _ _ =>
      unfold bltD at q
      cases x <;> exact q.elim
    | nil =>
      cases x with
      | str z =>
        obtain ⟨v, rfl, r1⟩ := rl.one_inv
        unfold bltD at q
        obtain ⟨hb, q⟩ := Aft.test q
        simp only [decide_eq_true_eq, sizeLine_lim] at hb
        exact go call_len_str ⟨z, by rw [r1.str_inv], hb, q.val A (.int _)⟩
      | ref i =>
        obtain ⟨v, rfl, r1⟩ := rl.one_inv
        obtain ⟨a, e1, ha⟩ := r1.ref_inv
        obtain ⟨o, ho, oa⟩ := A.at ha
        unfold bltD at q
        simp only [ho] at q
        cases o with
        | lst ys =>
          obtain ⟨xs, hx, l, z⟩ := oa
          refine go call_len_seq ⟨a, xs, by rw [e1], .inl (SqL.of hx), ?_⟩
          rw [l.length]
          exact Aft.val A q (.int _)
        | dic kvs => exact go hd.dlen ⟨W, st, i, kvs, A, rl, .inl ho, Aft.val A q (.int _)⟩
        | lck kvs => exact go hd.dlen ⟨W, st, i, kvs, A, rl, .inr ho, Aft.val A q (.int _)⟩
        | ins _ _ => exact q.elim
      | non => exact fin rl q
      | bl _ => exact fin rl q
      | int _ => exact fin rl q
      | tup _ => exact fin rl q
      | lst _ => exact fin rl q
      | scr _ => exact fin rl q
theorem sum_tupF (hc : X.calm = true) : CallR X (.builtin "sum") (fun vs H Q => ∃ (a : Addr) (ns : List Int), vs = [V.ref a] ∧ SqT X.K H a (ns.map V.int) ∧ Q (.int ns.sum) H) := by
  intro pins s σ H xs us Q I r h
  obtain ⟨a, ns, rfl, hq, q⟩ := h
  obtain ⟨u, rfl, rx⟩ := vals1 r
  cases rx
  obtain ⟨its, r', pl, hz⟩ := I.tuple hq
  have hi : IntsAre its ns := intsAre_of r'
  obtain ⟨zs, hx⟩ := hi.allInts.items
  have hn : numsOf its.toArray.toList = ns := by rw [show its.toArray.toList = its from rfl, hi.numsOf]
  rw [hx] at pl hn
  rw [nums_intItems] at hn
  refine PySem.W.ktm_sumG (I.ok.hd hc) pl fun h' tk t' kp => ?_
  rw [preSum_eq, List.take_of_length_le (by simp), hn]
  exact ⟨.int ns.sum, H, I.kept kp, ⟨_, rfl⟩, q⟩
theorem cd_sum (hc : X.calm = true) : CallR X (.builtin "sum") (rC X cls U (bltD .sum)) := by
  intro pins s σ H vs us Q I rv h
  obtain ⟨W, st, ds, A, rl, q⟩ := h
  unfold bltD at q
  cases ds with
  | nil => exact q.elim
  | cons x r =>
    cases r with
    | cons _ _ => exact q.elim
    | nil =>
      obtain ⟨v, rfl, r1⟩ := rl.one_inv
      simp only at q
      cases e : seqOf st x with
      | none => rw [e] at q; exact q.elim
      | some ys =>
        rw [e] at q
        simp only [Option.bind_some] at q
        cases e2 : intsOf ys with
        | none => rw [e2] at q; exact q.elim
        | some ns =>
          rw [e2] at q
          obtain ⟨a, xs, e1, hq, l, z⟩ := r1.seq A e
          have ex := l.of_ints e2
          subst ex
          have q' : Q (.int ns.sum) H := Aft.val A q (.int _)
          rcases hq with hq | hq
          · exact cr_sum hc pins s σ H _ us Q I rv ⟨a, ns, by rw [e1], hq, q'⟩
          · exact sum_tupF hc pins s σ H _ us Q I rv ⟨a, ns, by rw [e1], hq, q'⟩
theorem cd_any (hc : X.calm = true) : CallR X (.builtin "any") (rC X cls U (bltD .any)) := by
  intro pins s σ H vs us Q I rv h
  obtain ⟨W, st, ds, A, rl, q⟩ := h
  simp only [bltD] at q
  split at q
  · obtain ⟨v, rfl, r1⟩ := rl.one_inv
    rename_i ys
    cases e2 : blsOf ys with
    | none => rw [e2] at q; exact q.elim
    | some bs =>
      rw [e2] at q
      obtain ⟨a, xs, e1, g, z, l⟩ := r1.lst_inv
      have ex := l.of_bls e2
      subst ex
      exact cr_any hc pins s σ H _ us Q I rv ⟨a, bs, by rw [e1], SqL.of (A.sub _ _ g), Aft.val A q (.bl _)⟩
  · exact q.elim
theorem cd_all (hc : X.calm = true) : CallR X (.builtin "all") (rC X cls U (bltD .all)) := by
  intro pins s σ H vs us Q I rv h
  obtain ⟨W, st, ds, A, rl, q⟩ := h
  simp only [bltD] at q
  split at q
  · obtain ⟨v, rfl, r1⟩ := rl.one_inv
    rename_i ys
    cases e2 : blsOf ys with
    | none => rw [e2] at q; exact q.elim
    | some bs =>
      rw [e2] at q
      obtain ⟨a, xs, e1, g, z, l⟩ := r1.lst_inv
      have ex := l.of_bls e2
      subst ex
      exact cr_all hc pins s σ H _ us Q I rv ⟨a, bs, by rw [e1], SqL.of (A.sub _ _ g), Aft.val A q (.bl _)⟩
  · exact q.elim
theorem cd_tuple : CallR X (.type "tuple") (rC X cls U (bltD .tuple)) := by
  intro pins s σ H vs us Q I rv h
  obtain ⟨W, st, ds, A, rl, q⟩ := h
  simp only [bltD] at q
  split at q
  · obtain ⟨v, rfl, r1⟩ := rl.one_inv
    obtain ⟨a, us1, xs, e1, g, z, l⟩ := r1.tup_inv
    rw [e1] at r1
    exact call_tupleF pins s σ H _ us Q I rv ⟨a, xs, by rw [e1], .inr ⟨SqT_ft (A.sub _ _ g), Aft.val A q r1⟩⟩
  · obtain ⟨v, rfl, r1⟩ := rl.one_inv
    obtain ⟨a, xs, e1, g, z, l⟩ := r1.lst_inv
    exact call_tupleF pins s σ H _ us Q I rv ⟨a, xs, by rw [e1], .inl ⟨SqL.of (A.sub _ _ g), Aft.newTup A q l z⟩⟩
  · obtain ⟨v, rfl, r1⟩ := rl.one_inv
    obtain ⟨a, e1, ha⟩ := r1.ref_inv
    obtain ⟨o, ho, oa⟩ := A.at ha
    simp only [ho] at q
    cases o with
    | lst ys =>
      obtain ⟨xs, hx, l, z⟩ := oa
      exact call_tupleF pins s σ H _ us Q I rv ⟨a, xs, by rw [e1], .inl ⟨SqL.of hx, Aft.newTup A q l z⟩⟩
    | _ => exact q.elim
  · exact q.elim
theorem cd_list (hd : Lib X cls) : CallR X (.type "list") (rC X cls U (bltD .list)) := by
  intro pins s σ H vs us Q I rv h
  obtain ⟨W, st, ds, A, rl, q⟩ := h
  simp only [bltD] at q
  split at q
  · obtain ⟨v, rfl, r1⟩ := rl.one_inv
    obtain ⟨a, us1, xs, e1, g, z, l⟩ := r1.tup_inv
    exact call_list_of pins s σ H _ us Q I rv ⟨a, xs, by rw [e1], .inr (SqT_ft (A.sub _ _ g)), Aft.newLst A q l z⟩
  · obtain ⟨v, rfl, r1⟩ := rl.one_inv
    obtain ⟨a, xs, e1, g, z, l⟩ := r1.lst_inv
    exact call_list_of pins s σ H _ us Q I rv ⟨a, xs, by rw [e1], .inl (SqL.of (A.sub _ _ g)), Aft.newLst A q l z⟩
  · obtain ⟨v, rfl, r1⟩ := rl.one_inv
    rename_i i
    obtain ⟨a, e1, ha⟩ := r1.ref_inv
    obtain ⟨o, ho, oa⟩ := A.at ha
    simp only [ho] at q
    cases o with
    | lst ys =>
      obtain ⟨xs, hx, l, z⟩ := oa
      exact call_list_of pins s σ H _ us Q I rv ⟨a, xs, by rw [e1], .inl (SqL.of hx), Aft.newLst A q l z⟩
    | dic kvs => exact hd.dlist pins s σ H _ us Q I rv ⟨W, st, i, kvs, A, rl, .inl ho, fun p vs hp l z => Aft.newLst A q l (by rw [List.length_map]; exact z) p hp⟩
    | lck kvs => exact hd.dlist pins s σ H _ us Q I rv ⟨W, st, i, kvs, A, rl, .inr ho, fun p vs hp l z => Aft.newLst A q l (by rw [List.length_map]; exact z) p hp⟩
    | ins _ _ => exact q.elim
  · exact q.elim
theorem cd_int : CallR X (.type "int") (rC X cls U (bltD .int)) := by
  intro pins s σ H vs us Q I rv h
  obtain ⟨W, st, ds, A, rl, q⟩ := h
  simp only [bltD] at q
  split at q
  · obtain ⟨v, rfl, r1⟩ := rl.one_inv
    exact call_int1 pins s σ H _ us Q I rv (.inl ⟨_, by rw [r1.int_inv], Aft.val A q (.int _)⟩)
  · obtain ⟨v, rfl, r1⟩ := rl.one_inv
    exact call_int1 pins s σ H _ us Q I rv (.inr ⟨_, by rw [r1.bl_inv], Aft.val A q (.int _)⟩)
  · obtain ⟨v, rfl, r1⟩ := rl.one_inv
    rename_i z
    obtain ⟨hb, q⟩ := Aft.test q
    simp only [decide_eq_true_eq] at hb
    cases e : PySem.intText? z with
    | none => rw [e] at q; exact q.elim
    | some n =>
      rw [e] at q
      exact call_int_str pins s σ H _ us Q I rv ⟨z, n, by rw [r1.str_inv], e, hb, Aft.val A q (.int _)⟩
  · exact q.elim
theorem call_str_str : CallR X (.type "str") (fun xs H Q => ∃ z, xs = [.str z] ∧ Q (.str z) H) := by
  intro pins s σ H xs us Q I r h
  obtain ⟨z, rfl, q⟩ := h
  obtain ⟨u, rfl, t, rfl⟩ := vals1 r
  exact PySem.P.str_of_str ⟨.str z, H, I, ⟨_, rfl⟩, q⟩
theorem cd_str : CallR X (.type "str") (rC X cls U (bltD .str)) := by
  intro pins s σ H vs us Q I rv h
  obtain ⟨W, st, ds, A, rl, q⟩ := h
  simp only [bltD] at q
  split at q
  · obtain ⟨v, rfl, r1⟩ := rl.one_inv
    obtain ⟨hb, q⟩ := Aft.test q
    simp only [decide_eq_true_eq] at hb
    exact call_str_int pins s σ H _ us Q I rv ⟨_, by rw [r1.int_inv], hb, Aft.val A q (.str _)⟩
  · obtain ⟨v, rfl, r1⟩ := rl.one_inv
    exact call_str_str pins s σ H _ us Q I rv ⟨_, by rw [r1.str_inv], Aft.val A q (.str _)⟩
  · exact q.elim
theorem cd_abs : CallR X (.builtin "abs") (rC X cls U (bltD .abs)) := by
  intro pins s σ H vs us Q I rv h
  obtain ⟨W, st, ds, A, rl, q⟩ := h
  simp only [bltD] at q
  split at q
  · obtain ⟨v, rfl, r1⟩ := rl.one_inv
    exact call_abs pins s σ H _ us Q I rv ⟨_, by rw [r1.int_inv], Aft.val A q (.int _)⟩
  · exact q.elim
theorem cd_min2 (hc : X.calm = true) : CallR X (.builtin "min") (rC X cls U (bltD .min2)) := by
  intro pins s σ H vs us Q I rv h
  obtain ⟨W, st, ds, A, rl, q⟩ := h
  simp only [bltD] at q
  split at q
  · obtain ⟨v, w, rfl, r1, r2⟩ := rl.two_inv
    exact call_min2 hc pins s σ H _ us Q I rv ⟨_, _, by rw [r1.int_inv, r2.int_inv], Aft.val A q (.int _)⟩
  · exact q.elim
theorem cd_max2 (hc : X.calm = true) : CallR X (.builtin "max") (rC X cls U (bltD .max2)) := by
  intro pins s σ H vs us Q I rv h
  obtain ⟨W, st, ds, A, rl, q⟩ := h
  simp only [bltD] at q
  split at q
  · obtain ⟨v, w, rfl, r1, r2⟩ := rl.two_inv
    exact call_max2 hc pins s σ H _ us Q I rv ⟨_, _, by rw [r1.int_inv, r2.int_inv], Aft.val A q (.int _)⟩
  · exact q.elim
theorem foldl_max_mem : ∀ (r : List Int) (n : Int), r.foldl max n ∈ n :: r ∧ ∀ y ∈ n :: r, y ≤ r.foldl max n
  | [], n => by simp
  | a :: r, n => by
    obtain ⟨h1, h2⟩ := foldl_max_mem r (max n a)
    rw [List.foldl_cons]
    refine ⟨?_, fun y hy => ?_⟩
    · rcases List.mem_cons.mp h1 with e | e
      · rw [e]
        rcases Int.le_total n a with h | h
        · rw [Int.max_eq_right h]; simp
        · rw [Int.max_eq_left h]; simp
      · exact List.mem_cons_of_mem _ (List.mem_cons_of_mem _ e)
    · have h3 := h2 (max n a) List.mem_cons_self
      rcases List.mem_cons.mp hy with e | hy
      · rw [e]; have := Int.le_max_left n a; omega
      · rcases List.mem_cons.mp hy with e | hy
        · rw [e]; have := Int.le_max_right n a; omega
        · exact h2 y (List.mem_cons_of_mem _ hy)
theorem cd_max1 (hc : X.calm = true) : CallR X (.builtin "max") (rC X cls U (bltD .max1)) := by
  intro pins s σ H vs us Q I rv h
  obtain ⟨W, st, ds, A, rl, q⟩ := h
  simp only [bltD] at q
  split at q
  · obtain ⟨v, rfl, r1⟩ := rl.one_inv
    rename_i ys
    cases e2 : intsOf ys with
    | none => rw [e2] at q; exact q.elim
    | some ns =>
      rw [e2] at q
      cases ns with
      | nil => exact q.elim
      | cons n r =>
        obtain ⟨a, xs, e1, g, z, l⟩ := r1.lst_inv
        have ex := l.of_ints e2
        subst ex
        obtain ⟨m1, m2⟩ := foldl_max_mem r n
        refine cr_max hc pins s σ H _ us Q I rv ⟨a, n :: r, by rw [e1], SqL.of (A.sub _ _ g), by simp, fun m hm hle => ?_⟩
        have e : m = r.foldl max n := by
          have h1 := m2 m hm
          have h2 := hle _ m1
          omega
        rw [e]
        exact Aft.val A q (.int _)
  · exact q.elim
end
end EV
/-! EvH: isinstance, methods of built-in types, by data. -/
namespace EV
open PySem PySem.Spec PyProof.Rows L2

/-- the name of a kind's type -/
def Kd.nm : Kd → String
  | .non => "NoneType"
  | .bl => "bool"
  | .int => "int"
  | .str => "str"
  | .tup => "tuple"
  | .lst => "list"
  | .dic => "dict"
theorem kit_kd (k t : Kd) (h : t ≠ .non) : kitB k.nm t.nm = some (k.sub t) := by
  cases k <;> cases t <;> first | exact absurd rfl h | decide +kernel
section
variable {X : Cx} {cls : Nat → Option Addr} {U : XW} {pins : List (Addr × Obj)} {σ : L2.St} {H : Hp} {s : Shared} {W : Wd} {st : Store}
theorem DicO.at (I : Inv X pins σ H s) {a : Addr} {kvs : List (D × D)} (oa : OAt X.K X.w cls W H a (.dic kvs) ∨ OAt X.K X.w cls W H a (.lck kvs)) : ∃ o, s.heap.get? a = some o ∧ DicO X.K X.w W a o kvs := by
  rcases oa with ⟨o, h, d⟩ | ⟨o, h, d⟩
  · exact ⟨o, (I.hok a _ h).1, d⟩
  · exact ⟨o, (I.hok a _ h).1, d⟩
/-- what the library's isinstance rules ask -/
theorem Rep.kit (I : Inv X pins σ H s) (A : Ag X.K X.w cls W st H) {x : V} {u : Value} {d : D} {k : Kd} (r : Rep X.K W x d) (hk : d.kd st = some k) (rx : RelV x u) :
    ∃ P : Heap → Prop, PySem.W.KitX X.K u (.type k.nm) P ∧ P s.heap ∧ u ≠ .builtin "__main__.__loader__#opaque" := by
  cases r with
  | non => cases hk; exact kit_of I rx (.base .non)
  | bl b => cases hk; exact kit_of I rx (.base (.bl b))
  | int i => cases hk; exact kit_of I rx (.base (.int i))
  | str z => cases hk; exact kit_of I rx (.base (.str z))
  | tup g _ _ => cases hk; exact kit_of I rx (.fTuple (A.sub _ _ g))
  | lst g _ _ => cases hk; exact kit_of I rx (.base (.lst (A.sub _ _ g)))
  | scr g _ => cases hk
  | @ref a i g =>
    obtain ⟨o, ho, oa⟩ := A.at g
    simp only [D.kd, ho] at hk
    cases o with
    | lst ds => cases hk; obtain ⟨xs, hx, _⟩ := oa; exact kit_of I rx (.base (.lst hx))
    | dic kvs =>
      cases hk
      obtain ⟨o, e, _, _, _, es, ep, ex, _⟩ := DicO.at I (.inl oa)
      cases rx
      exact ⟨_, PySem.W.kitx_dict, ⟨o, e, ex.1⟩, fun z => nomatch z⟩
    | lck kvs =>
      cases hk
      obtain ⟨o, e, _, _, _, es, ep, ex, _⟩ := DicO.at I (.inr oa)
      cases rx
      exact ⟨_, PySem.W.kitx_dict, ⟨o, e, ex.1⟩, fun z => nomatch z⟩
    | ins _ _ => cases hk
/-- a value's type, its instance without a dict -/
theorem Rep.ty (I : Inv X pins σ H s) (A : Ag X.K X.w cls W st H) {x : V} {u : Value} {d : D} {k : Kd} (r : Rep X.K W x d) (hk : d.kd st = some k) (hn : k = .tup ∨ k = .lst ∨ k = .str ∨ k = .dic) (rx : RelV x u) :
    s.TypeIs u k.nm ∧ ∀ a, u = .ref a → ∃ ob, s.heap.get? a = some ob ∧ ob.dict = none := by
  cases r with
  | non => cases hk; simp at hn
  | bl b => cases hk; simp at hn
  | int i => cases hk; simp at hn
  | str z =>
    cases hk
    exact tyV_is (T := "str") I rx rfl
  | tup g _ _ =>
    cases hk
    cases rx
    obtain ⟨e, _⟩ := I.hok _ _ (A.sub _ _ g)
    exact ⟨⟨_, e, rfl⟩, fun a q => by cases q; exact ⟨_, e, rfl⟩⟩
  | lst g _ _ => cases hk; exact tyV_is (T := "list") I rx (.inl ⟨rfl, _, SqL.of (A.sub _ _ g)⟩)
  | scr g _ => cases hk
  | @ref a i g =>
    obtain ⟨o, ho, oa⟩ := A.at g
    simp only [D.kd, ho] at hk
    cases o with
    | lst ds => cases hk; obtain ⟨xs, hx, _⟩ := oa; exact tyV_is (T := "list") I rx (.inl ⟨rfl, _, SqL.of hx⟩)
    | dic kvs =>
      cases hk
      obtain ⟨o, e, _, _, _, es, ep, ex, _⟩ := DicO.at I (.inl oa)
      cases rx
      exact ⟨⟨o, e, ex.1⟩, fun a q => by cases q; exact ⟨o, e, ex.2.1⟩⟩
    | lck kvs =>
      cases hk
      obtain ⟨o, e, _, _, _, es, ep, ex, _⟩ := DicO.at I (.inr oa)
      cases rx
      exact ⟨⟨o, e, ex.1⟩, fun a q => by cases q; exact ⟨o, e, ex.2.1⟩⟩
    | ins _ _ => cases hk
end
section
variable {X : Cx} {cls : Nat → Option Addr} {U : XW}
/-- isinstance(x, T) -/
theorem cd_isT (t : Kd) (ht : t ≠ .non) : CallR X (.builtin "isinstance") (fun vs H Q => ∃ W st v d, vs = [v, .ty t.nm] ∧ Ag X.K X.w cls W st H ∧ Rep X.K W v d ∧ Aft X.K X.w cls U (Rep X.K) W H (bltD (.isT t) [d] st) Q) := by
  intro pins s σ H vs us Q I rv h
  obtain ⟨W, st, v, d, rfl, A, r, q⟩ := h
  obtain ⟨u1, u2, rfl, r1, r2⟩ := vals2 rv
  obtain rfl : u2 = Value.type t.nm := r2
  simp only [bltD] at q
  cases e : d.kd st with
  | none => rw [e] at q; exact q.elim
  | some k =>
    rw [e] at q
    obtain ⟨P, Z, p, hx⟩ := r.kit I A e r1
    exact PySem.W.kia_one Z I.kIn p (kit_ty (kit_kd k t ht)) hx fun tk => ⟨.bl _, H, I.tok tk, rfl, Aft.val A q (.bl _)⟩
/-! ### methods -/
theorem md_count (hu : X.A.units + 64 < cLine) : MtR X "tuple.count" (rM X cls U .count) := by
  intro pins s σ H x xs v us Q I rx rs h
  obtain ⟨W, st, dx, ds, A, r1, rl, q⟩ := h
  unfold mthD at q
  split at q <;> try contradiction
  · rename_i ys d _
    obtain ⟨hb, q⟩ := Aft.test q
    rw [Bool.and_eq_true] at hb
    obtain ⟨w, rfl, r2⟩ := rl.one_inv
    obtain ⟨u, rfl, ru⟩ := rs.one
    obtain ⟨a, us1, zs, e1, g, z, l⟩ := r1.tup_inv
    subst e1
    cases rx
    obtain ⟨its, rv, pl, hz⟩ := I.tuple (SqT_ft (K := X.K) (A.sub _ _ g))
    obtain ⟨as, h1⟩ := r2.reads I A hb.1 ru
    obtain ⟨bs, h2⟩ := l.reads I A hb.2 rv
    have p1 := D.py_plain d hb.1
    have p2 := D.pys_plain ys hb.2
    refine SeqAt.count_tuple_data (vs := its.toArray) pl (by simpa using h2) h1 p2.1 p1.1 (by have := Nat.min_le_right (PyData.depthAll (D.pys ys)) d.py.depth; omega) ?_
    rw [countD_py hb.1 hb.2]
    exact ⟨.int _, H, I.tok _, ⟨_, rfl⟩, Aft.val A q (.int _)⟩
theorem md_split : MtR X "str.split" (rM X cls U .split) := by
  intro pins s σ H x xs v us Q I rx rs h
  obtain ⟨W, st, dx, ds, A, r1, rl, q⟩ := h
  unfold mthD at q
  split at q <;> try contradiction
  · rename_i z t _
    obtain ⟨hb, q⟩ := Aft.test q
    simp only [Bool.and_eq_true, decide_eq_true_eq, sizeLine_lim] at hb
    obtain ⟨w, rfl, r2⟩ := rl.one_inv
    refine mt_split pins s σ H x _ v us Q I rx rs ⟨z, t, r1.str_inv, by rw [r2.str_inv], by simp; omega, hb.2, ?_⟩
    exact Aft.newLst A q (RepL.strs _) (by rw [List.length_map]; exact Nat.le_trans (PyProof.Rows.split_le z t) hb.2)
theorem md_join : MtR X "str.join" (rM X cls U .join) := by
  intro pins s σ H x xs v us Q I rx rs h
  obtain ⟨W, st, dx, ds, A, r1, rl, q⟩ := h
  unfold mthD at q
  split at q <;> try contradiction
  · rename_i z ys _
    obtain ⟨w, rfl, r2⟩ := rl.one_inv
    cases e : strsOf ys with
    | none => rw [e] at q; exact q.elim
    | some zs =>
      rw [e] at q
      obtain ⟨hb, q⟩ := Aft.test q
      simp only [decide_eq_true_eq] at hb
      obtain ⟨a, vs, e1, g, z1, l⟩ := r2.lst_inv
      have ex := l.of_strs e
      subst ex
      exact mt_join pins s σ H x _ v us Q I rx rs ⟨z, a, zs, r1.str_inv, by rw [e1], .inl (SqL.of (A.sub _ _ g)), hb, Aft.val A q (.str _)⟩
theorem upd_eq {H : Hp} {a b : Addr} {o : HO} (h : b ≠ a) : upd H a o b = H b := upd_ne h
theorem md_append : MtR X "list.append" (rM X cls U .append) := by
  intro pins s σ H x xs v us Q I rx rs h
  obtain ⟨W, st, dx, ds, A, r1, rl, q⟩ := h
  unfold mthD at q
  split at q <;> try contradiction
  · rename_i i d _
    obtain ⟨w, rfl, r2⟩ := rl.one_inv
    obtain ⟨a, e1, ha⟩ := r1.ref_inv
    obtain ⟨o, ho, oa⟩ := A.at ha
    simp only [ho] at q
    cases o with
    | lst ys =>
      obtain ⟨hb, q⟩ := Aft.test q
      simp only [decide_eq_true_eq, sizeLine_lim] at hb
      obtain ⟨zs, hx, l, z⟩ := oa
      refine mt_append pins s σ H x _ v us Q I rx rs ⟨a, zs, w, e1, rfl, hx, by rw [l.length]; exact hb, ?_⟩
      obtain ⟨A', x'⟩ := A.setObj (H' := upd H a (.lst (zs ++ [w]))) (o := .lst (ys ++ [d])) ha (fun b hb => upd_ne hb) ⟨_, upd_same, l.append (.one r2), by rw [List.length_append]; exact hb⟩
      exact q _ _ _ x' A' .non
    | _ => exact q.elim
theorem md_extend : MtR X "list.extend" (rM X cls U .extend) := by
  intro pins s σ H x xs v us Q I rx rs h
  obtain ⟨W, st, dx, ds, A, r1, rl, q⟩ := h
  unfold mthD at q
  split at q <;> try contradiction
  · rename_i i es _
    obtain ⟨w, rfl, r2⟩ := rl.one_inv
    obtain ⟨a, e1, ha⟩ := r1.ref_inv
    obtain ⟨o, ho, oa⟩ := A.at ha
    simp only [ho] at q
    cases o with
    | lst ys =>
      obtain ⟨hb, q⟩ := Aft.test q
      simp only [decide_eq_true_eq, sizeLine_lim] at hb
      obtain ⟨zs, hx, l, z⟩ := oa
      obtain ⟨b, vs, e2, g, z2, l2⟩ := r2.lst_inv
      refine mt_extend pins s σ H x _ v us Q I rx rs ⟨a, b, zs, vs, e1, by rw [e2], hx, A.sub _ _ g, by rw [l.length, l2.length]; exact hb, ?_⟩
      obtain ⟨A', x'⟩ := A.setObj (H' := upd H a (.lst (zs ++ vs))) (o := .lst (ys ++ es)) ha (fun b hb => upd_ne hb) ⟨_, upd_same, l.append l2, by rw [List.length_append]; exact hb⟩
      exact q _ _ _ x' A' .non
    | _ => exact q.elim
theorem md_pop : MtR X "list.pop" (rM X cls U .pop) := by
  intro pins s σ H x xs v us Q I rx rs h
  obtain ⟨W, st, dx, ds, A, r1, rl, q⟩ := h
  unfold mthD at q
  split at q <;> try contradiction
  · rename_i i _
    obtain rfl := rl.nil_inv
    obtain ⟨a, e1, ha⟩ := r1.ref_inv
    obtain ⟨o, ho, oa⟩ := A.at ha
    simp only [ho] at q
    cases o with
    | lst ys =>
      obtain ⟨zs, hx, l, z⟩ := oa
      cases e : ys.getLast? with
      | none => simp only [e] at q; exact q.elim
      | some y =>
        simp only [e] at q
        rw [List.getLast?_eq_getElem?] at e
        obtain ⟨w, h1, h2⟩ := l.get e
        refine mt_pop pins s σ H x _ v us Q I rx rs ⟨a, zs, w, e1, rfl, hx, by rw [l.length]; exact h1, ?_⟩
        obtain ⟨A', x'⟩ := A.setObj (H' := upd H a (.lst zs.dropLast)) (o := .lst ys.dropLast) ha (fun b hb => upd_ne hb) ⟨_, upd_same, l.dropLast, by rw [List.length_dropLast]; omega⟩
        exact q _ _ _ x' A' (h2.mono x'.le)
    | _ => exact q.elim
theorem md_get2 (hd : Lib X cls) : MtR X "dict.get" (rM X cls U .get2) := by
  intro pins s σ H x xs v us Q I rx rs h
  obtain ⟨W, st, dx, ds, A, r1, rl, q⟩ := h
  unfold mthD at q
  split at q <;> try contradiction
  · rename_i i dk d _
    obtain ⟨a, e1, ha⟩ := r1.ref_inv
    obtain ⟨o, ho, oa⟩ := A.at ha
    simp only [ho] at q
    cases o with
    | dic kvs =>
      obtain ⟨hb, q⟩ := Aft.test q
      exact hd.dget2 pins s σ H x _ v us Q I rx rs ⟨W, st, i, kvs, dk, d, A, r1, rl, .inl ho, hb, fun w r => Aft.val A q r⟩
    | lck kvs =>
      obtain ⟨hb, q⟩ := Aft.test q
      exact hd.dget2 pins s σ H x _ v us Q I rx rs ⟨W, st, i, kvs, dk, d, A, r1, rl, .inr ho, hb, fun w r => Aft.val A q r⟩
    | _ => exact q.elim
end
end EV
/-! EvI: expressions. -/
namespace EV
open PySem PySem.Spec PyProof.Rows L2

section
variable {X : Cx} {cls : Nat → Option Addr} {U : XW} {C : Ctx} {a b c : Expr} {i j k : E} {pos : Pos}
/-- an expression and its IR, as a value and as a test -/
structure Good (X : Cx) (cls : Nat → Option Addr) (U : XW) (C : Ctx) (e : Expr) (i : E) : Prop where
  pe : PE X e (tD X.K X.w cls U (evE C i))
  pt : PT X e (tDT X.K X.w cls U (evE C i))
theorem tDT_tD {den : Env → Store → R D} {σ : L2.St} {H : Hp} {Q : Bool → Hp → Prop} (h : tDT X.K X.w cls U den σ H Q) : tD X.K X.w cls U den σ H (fun x H1 => ∃ c, x = .bl c ∧ Q c H1) := by
  obtain ⟨W, env, st, he, A, hb, q⟩ := h
  refine ⟨W, env, st, he, A, ?_⟩
  cases e : den env st with
  | ok d st' =>
    rw [e] at q
    obtain ⟨b, rfl⟩ := hb d st' e
    exact fun v W' H' x A' r => ⟨b, r.bl_inv, q b W' H' x A' rfl⟩
  | err k st' => rw [e] at q; exact q
  | bad => rw [e] at q; exact q
theorem good_val (h : PE X a (tD X.K X.w cls U (evE C i))) (he : ∀ whole, isTrue a X.env whole = (do let v ← whole; standAt a.pos; holding [v] (truthy v))) : Good X cls U C a i :=
  ⟨h, PT.mono (pt_val h he) fun σ H Q q => tDT_tD q⟩
theorem g_bin {op : Operator} (ha : Good X cls U C a i) (hb : Good X cls U C b j) : Good X cls U C (.BinOp a op b pos) (.bin op i j) :=
  good_val (PE.mono (pe_op (op_binD (cls := cls) (U := U) op) ha.pe hb.pe) fun σ H Q h => d_two (f := binD op) (fun env st => by rw [evE]) (fun x y H Q q => q) h) fun _ => rfl
theorem g_neg (ha : Good X cls U C a i) : Good X cls U C (.UnaryOp .USub a pos) (.neg i) := by
  refine good_val (PE.mono (pe_un un_neg ha.pe) fun σ H Q h => ?_) fun _ => rfl
  obtain ⟨W, env, st, he, A, q⟩ := h
  rw [evE] at q
  refine ⟨W, env, st, he, A, (q.bind).mono fun x H1 ⟨W1, st1, dx, x1, A1, r1, q1⟩ => ?_⟩
  cases dx with
  | int n => exact ⟨n, r1.int_inv, q1.val A1 (.int _)⟩
  | _ => exact q1.elim
theorem g_cmp {op : CmpOp} (hu : X.A.units + 64 < cLine) (hd : DicR X cls) (ha : Good X cls U C a i) (hb : Good X cls U C b j) (hm : behindInMarks op b = false) : Good X cls U C (.Compare a [op] [b] pos) (.cmp op i j) :=
  ⟨PE.mono (pe_cmpR (op_cmpD (cls := cls) (U := U) hu hd op) ha.pe hb.pe hm) fun σ H Q h => d_two (f := cmpD op) (fun env st => by rw [evE]) (fun x y H Q q => q) h,
   PT.mono (pt_cmpR (op_cmpD (cls := cls) (U := U) hu hd op) ha.pe hb.pe hm) fun σ H Q h => d_two (f := cmpD op) (fun env st => by rw [evE]) (fun x y H Q q => q) (tDT_tD h)⟩
theorem chain_read {o1 o2 : CmpOp} {σ : L2.St} {H : Hp} {Q : VK} (h : tD X.K X.w cls U (evE C (.chn o1 o2 i j k)) σ H Q) :
    tChain (rBin X cls U (cmpD o1)) (rBin X cls U (cmpD o2)) (tD X.K X.w cls U (evE C i)) (tD X.K X.w cls U (evE C j)) (tD X.K X.w cls U (evE C k)) σ H Q := by
  obtain ⟨W, env, st, he, A, q⟩ := h
  rw [evE] at q
  refine ⟨W, env, st, he, A, (q.bind).mono fun x H1 ⟨W1, st1, dx, x1, A1, r1, q1⟩ => ?_⟩
  refine ⟨W1, env, st1, he.mono x1.le, A1, (q1.bind).mono fun y H2 ⟨W2, st2, dy, x2, A2, r2, q2⟩ => ?_⟩
  refine ⟨W2, st2, dx, dy, A2, r1.mono x2.le, r2, (q2.bind).mono fun z H3 ⟨W3, st3, dz, x3, A3, r3, q3⟩ => ?_⟩
  cases dz with
  | bl t =>
    refine ⟨t, r3.bl_inv, ?_⟩
    cases t with
    | true =>
      rw [if_pos rfl]
      exact ⟨W3, env, st3, ((he.mono x1.le).mono x2.le).mono x3.le, A3, (q3.bind).mono fun v H4 ⟨W4, st4, dv, x4, A4, r4, q4⟩ => ⟨W4, st4, dy, dv, A4, (r2.mono x3.le).mono x4.le, r4, q4⟩⟩
    | false =>
      rw [if_neg Bool.false_ne_true]
      exact Aft.val A3 q3 (.bl _)
  | _ => exact q3.elim
theorem g_chn {o1 o2 : CmpOp} (hu : X.A.units + 64 < cLine) (hd : DicR X cls) (ha : Good X cls U C a i) (hb : Good X cls U C b j) (hc : Good X cls U C c k) (hm2 : behindInMarks o2 c = false) :
    Good X cls U C (.Compare a [o1, o2] [b, c] pos) (.chn o1 o2 i j k) :=
  ⟨PE.mono (pe_chain (op_cmpD (cls := cls) (U := U) hu hd o1) (op_cmpD (cls := cls) (U := U) hu hd o2) ha.pe hb.pe hc.pe hm2) fun σ H Q h => chain_read h,
   PT.mono (pt_chain (op_cmpD (cls := cls) (U := U) hu hd o1) (op_cmpD (cls := cls) (U := U) hu hd o2) ha.pe hb.pe hc.pe hm2) fun σ H Q h => chain_read (tDT_tD h)⟩
/-! ### and, or, not -/
theorem and_val {σ : L2.St} {H : Hp} {Q : VK} (h : tD X.K X.w cls U (evE C (.and i j)) σ H Q) : tAndV (tD X.K X.w cls U (evE C i)) (tD X.K X.w cls U (evE C j)) σ H Q := by
  obtain ⟨W, env, st, he, A, q⟩ := h
  rw [evE] at q
  refine ⟨W, env, st, he, A, (q.bind).mono fun x H1 ⟨W1, st1, dx, x1, A1, r1, q1⟩ => ?_⟩
  cases dx with
  | bl t =>
    refine ⟨t, r1.bl_inv, ?_⟩
    cases t with
    | true => rw [if_pos rfl]; exact ⟨W1, env, st1, he.mono x1.le, A1, q1⟩
    | false => rw [if_neg Bool.false_ne_true]; exact Aft.val A1 q1 (.bl _)
  | _ => exact q1.elim
theorem or_val {σ : L2.St} {H : Hp} {Q : VK} (h : tD X.K X.w cls U (evE C (.or i j)) σ H Q) : tOrV (tD X.K X.w cls U (evE C i)) (tD X.K X.w cls U (evE C j)) σ H Q := by
  obtain ⟨W, env, st, he, A, q⟩ := h
  rw [evE] at q
  refine ⟨W, env, st, he, A, (q.bind).mono fun x H1 ⟨W1, st1, dx, x1, A1, r1, q1⟩ => ?_⟩
  cases dx with
  | bl t =>
    refine ⟨t, r1.bl_inv, ?_⟩
    cases t with
    | true => rw [if_pos rfl]; exact Aft.val A1 q1 (.bl _)
    | false => rw [if_neg Bool.false_ne_true]; exact ⟨W1, env, st1, he.mono x1.le, A1, q1⟩
  | _ => exact q1.elim
/-- a test's own reading, from the IR's -/
theorem tst_one {den : Env → Store → R D} {f : D → Store → R D} {W : Wd} {env : Env} {st : Store} {σ : L2.St} {H : Hp} {Q Q' : Bool → Hp → Prop} (he : EnvOk X.K W σ env) (A : Ag X.K X.w cls W st H)
    (hf : ∀ d st', f d st' ≠ .bad → ∃ b, d = .bl b) (q : Aft X.K X.w cls U isB W H ((den env st).bind f) Q)
    (h : ∀ b W1 H1 st1, Ext W H W1 H1 → Ag X.K X.w cls W1 st1 H1 → den env st = .ok (.bl b) st1 → Aft X.K X.w cls U isB W1 H1 (f (.bl b) st1) Q → Q' b H1) : tDT X.K X.w cls U den σ H Q' := by
  refine ⟨W, env, st, he, A, fun d st' e => ?_, ?_⟩
  · rw [e] at q
    exact hf d st' fun z => by rw [R.bind_ok, z] at q; exact q
  · cases e : den env st with
    | ok d st' =>
      rw [e] at q
      obtain ⟨b, rfl⟩ := hf d st' fun z => by rw [R.bind_ok, z] at q; exact q
      intro t W' H' x A' r
      cases r
      exact h _ W' H' st' x A' e (Aft.shift x q)
    | err k st' => rw [e] at q; exact q
    | bad => rw [e] at q; exact q
theorem and_tst {σ : L2.St} {H : Hp} {Q : Bool → Hp → Prop} (h : tDT X.K X.w cls U (evE C (.and i j)) σ H Q) : tAnd (tDT X.K X.w cls U (evE C i)) (tDT X.K X.w cls U (evE C j)) σ H Q := by
  obtain ⟨W, env, st, he, A, hb, q⟩ := h
  rw [evE] at q
  refine tst_one he A (fun d st' hn => ?_) q fun t W1 H1 st1 x A1 e q1 => ?_
  · cases d with
    | bl t => exact ⟨t, rfl⟩
    | _ => exact absurd rfl hn
  · cases t with
    | true =>
      rw [if_pos rfl]
      refine ⟨W1, env, st1, he.mono x.le, A1, fun d st' e2 => ?_, q1⟩
      refine hb d st' ?_
      rw [evE, e]
      exact e2
    | false =>
      rw [if_neg Bool.false_ne_true]
      exact q1 false W1 H1 (Ext.refl _ _) A1 rfl
theorem or_tst {σ : L2.St} {H : Hp} {Q : Bool → Hp → Prop} (h : tDT X.K X.w cls U (evE C (.or i j)) σ H Q) : tOr (tDT X.K X.w cls U (evE C i)) (tDT X.K X.w cls U (evE C j)) σ H Q := by
  obtain ⟨W, env, st, he, A, hb, q⟩ := h
  rw [evE] at q
  refine tst_one he A (fun d st' hn => ?_) q fun t W1 H1 st1 x A1 e q1 => ?_
  · cases d with
    | bl t => exact ⟨t, rfl⟩
    | _ => exact absurd rfl hn
  · cases t with
    | false =>
      rw [if_neg Bool.false_ne_true]
      refine ⟨W1, env, st1, he.mono x.le, A1, fun d st' e2 => ?_, q1⟩
      refine hb d st' ?_
      rw [evE, e]
      exact e2
    | true =>
      rw [if_pos rfl]
      exact q1 true W1 H1 (Ext.refl _ _) A1 rfl
theorem g_not (ha : Good X cls U C a i) : Good X cls U C (.UnaryOp .Not a pos) (.not i) := by
  refine ⟨PE.mono (pe_not ha.pe) fun σ H Q h => ?_, PT.mono (pt_not ha.pt) fun σ H Q h => ?_⟩
  · obtain ⟨W, env, st, he, A, q⟩ := h
    rw [evE] at q
    refine ⟨W, env, st, he, A, (q.bind).mono fun x H1 ⟨W1, st1, dx, x1, A1, r1, q1⟩ => ?_⟩
    cases dx with
    | bl t => exact ⟨t, r1.bl_inv, Aft.val A1 q1 (.bl _)⟩
    | _ => exact q1.elim
  · obtain ⟨W, env, st, he, A, hb, q⟩ := h
    rw [evE] at q
    refine tst_one he A (fun d st' hn => ?_) q fun t W1 H1 st1 x A1 e q1 => ?_
    · cases d with
      | bl t => exact ⟨t, rfl⟩
      | _ => exact absurd rfl hn
    · exact q1 (!t) W1 H1 (Ext.refl _ _) A1 rfl
/-- a row of and, or -/
def andsI : E → List E → E
  | i, [] => i
  | i, j :: r => .and i (andsI j r)
def orsI : E → List E → E
  | i, [] => i
  | i, j :: r => .or i (orsI j r)
/-- expressions and their IRs, one by one -/
inductive Goods (X : Cx) (cls : Nat → Option Addr) (U : XW) (C : Ctx) : List Expr → List E → Prop
  | nil : Goods X cls U C [] []
  | cons {e : Expr} {i : E} {es : List Expr} {is : List E} : Good X cls U C e i → Goods X cls U C es is → Goods X cls U C (e :: es) (i :: is)
theorem ands_ok : ∀ {es : List Expr} {is : List E} {e : Expr} {i : E}, Good X cls U C e i → Goods X cls U C es is →
    PE X (.BoolOp .And (e :: es) pos) (tD X.K X.w cls U (evE C (andsI i is))) ∧ PW X (.BoolOp .And (e :: es) pos) (tDT X.K X.w cls U (evE C (andsI i is)))
  | _, _, _, _, h, .nil => ⟨pe_one h.pe, pw_and1 h.pt⟩
  | _, _, _, _, h, .cons g t => by
    obtain ⟨h1, h2⟩ := ands_ok g t
    exact ⟨PE.mono (pe_and h.pe h1) fun σ H Q q => and_val q, ⟨fun wh pins s σ H Q I q => (pw_and h.pt h2).run wh pins s σ H Q I (and_tst q)⟩⟩
theorem ors_ok : ∀ {es : List Expr} {is : List E} {e : Expr} {i : E}, Good X cls U C e i → Goods X cls U C es is →
    PE X (.BoolOp .Or (e :: es) pos) (tD X.K X.w cls U (evE C (orsI i is))) ∧ PW X (.BoolOp .Or (e :: es) pos) (tDT X.K X.w cls U (evE C (orsI i is)))
  | _, _, _, _, h, .nil => ⟨pe_one h.pe, pw_or1 h.pt⟩
  | _, _, _, _, h, .cons g t => by
    obtain ⟨h1, h2⟩ := ors_ok g t
    exact ⟨PE.mono (pe_or h.pe h1) fun σ H Q q => or_val q, ⟨fun wh pins s σ H Q I q => (pw_or h.pt h2).run wh pins s σ H Q I (or_tst q)⟩⟩
theorem g_ands {es : List Expr} {is : List E} (h : Good X cls U C a i) (t : Goods X cls U C es is) : Good X cls U C (.BoolOp .And (a :: es) pos) (andsI i is) := ⟨(ands_ok h t).1, (ands_ok h t).2.pt⟩
theorem g_ors {es : List Expr} {is : List E} (h : Good X cls U C a i) (t : Goods X cls U C es is) : Good X cls U C (.BoolOp .Or (a :: es) pos) (orsI i is) := ⟨(ors_ok h t).1, (ors_ok h t).2.pt⟩
/-! ### arguments, displays, subscripts -/
def listEs : List E → Es
  | [] => .nil
  | i :: r => .cons i (listEs r)
def noStar : Expr → Bool
  | .Starred _ _ => false
  | _ => true
theorem starEach_no {e : Expr} {es : List Expr} {env : PySem.Env} (h : noStar e = true) : starEach (e :: es) env = (false, eval e env) :: starEach es env := by
  cases e <;> first | rfl | (simp [noStar] at h)
theorem args_ok : ∀ {es : List Expr} {is : List E}, Goods X cls U C es is → es.all noStar = true → PA X es (tDs X.K X.w cls U (evEs C (listEs is)))
  | _, _, .nil, _ => d_nil C
  | _, _, .cons h t, e => by
    rw [List.all_cons, Bool.and_eq_true] at e
    exact d_cons h.pe (args_ok t e.2) (starEach_no e.1)
theorem plain_args {env : PySem.Env} : ∀ {es : List Expr}, es.all noStar = true → (backTo pos (starEach es env)).any (·.1) = false
  | [], _ => rfl
  | e :: es, h => by
    rw [List.all_cons, Bool.and_eq_true] at h
    rw [starEach_no h.1]
    have ih := plain_args (env := env) h.2
    simpa [backTo] using ih
theorem g_tup {es : List Expr} {is : List E} {k1 : Nat} (t : Goods X cls U C es is) (hs : es.all noStar = true) : Good X cls U C (.Tuple es k1 pos) (.tup (listEs is)) := by
  refine good_val (PE.mono (pe_tupF (args_ok t hs)) fun σ H Q h => ?_) fun _ => rfl
  obtain ⟨W, env, st, he, A, q⟩ := h
  rw [evE] at q
  refine ⟨W, env, st, he, A, (q.bind).mono fun xs H1 ⟨W1, st1, ds, x1, A1, r1, q1⟩ => ?_⟩
  obtain ⟨hb, q1⟩ := Aft.test q1
  simp only [decide_eq_true_eq] at hb
  have hz : ds.length ≤ sizeLine := by rw [sizeLine_eq]; omega
  exact ⟨by rw [r1.length]; exact hz, Aft.newTup A1 q1 r1 hz⟩
theorem g_lst {es : List Expr} {is : List E} (t : Goods X cls U C es is) (hs : es.all noStar = true) : Good X cls U C (.List es pos) (.lst (listEs is)) := by
  refine good_val (PE.mono (pe_lst (args_ok t hs)) fun σ H Q h => ?_) fun _ => rfl
  obtain ⟨W, env, st, he, A, q⟩ := h
  rw [evE] at q
  refine ⟨W, env, st, he, A, (q.bind).mono fun xs H1 ⟨W1, st1, ds, x1, A1, r1, q1⟩ => ?_⟩
  obtain ⟨hb, q1⟩ := Aft.test q1
  simp only [decide_eq_true_eq] at hb
  have hz : ds.length ≤ sizeLine := by rw [sizeLine_eq]; omega
  exact ⟨by rw [r1.length]; exact hz, Aft.newLst A1 q1 r1 hz⟩
theorem g_lstM {es : List Expr} {is : List E} (t : Goods X cls U C es is) (hs : es.all noStar = true) : Good X cls U C (.List es pos) (.lstM (listEs is)) := by
  refine good_val (PE.mono (pe_lst (args_ok t hs)) fun σ H Q h => ?_) fun _ => rfl
  obtain ⟨W, env, st, he, A, q⟩ := h
  rw [evE] at q
  refine ⟨W, env, st, he, A, (q.bind).mono fun xs H1 ⟨W1, st1, ds, x1, A1, r1, q1⟩ => ?_⟩
  obtain ⟨hb, q1⟩ := Aft.test q1
  simp only [decide_eq_true_eq] at hb
  have hz : ds.length ≤ sizeLine := by rw [sizeLine_eq]; omega
  exact ⟨by rw [r1.length]; exact hz, Aft.newMut A1 q1 r1 hz⟩
def notSlice : Expr → Bool
  | .Slice _ _ _ _ => false
  | _ => true
theorem plainIx_of (h : notSlice b = true) : PlainIx b := fun o i => by
  cases b <;> first | rfl | (simp [notSlice] at h)
theorem g_idx (hd : DicR X cls) (ha : Good X cls U C a i) (hb : Good X cls U C b j) (hs : notSlice b = true) : Good X cls U C (.Subscript a b pos) (.idx i j) :=
  good_val (PE.mono (pe_ix (ix_D (cls := cls) (U := U) hd) ha.pe hb.pe (plainIx_of hs)) fun σ H Q h => d_two (f := idxD) (fun env st => by rw [evE]) (fun x y H Q q => q) h) fun _ => rfl
/-- a slice's part -/
inductive GoodO (X : Cx) (cls : Nat → Option Addr) (U : XW) (C : Ctx) : Option Expr → Po → Prop
  | none : GoodO X cls U C none .no
  | some {e : Expr} {i : E} : Good X cls U C e i → GoodO X cls U C (some e) (.is i)
def tDO (K : PySem.W.Frag) (w : World) (cls : Nat → Option Addr) (U : XW) (den : Env → Store → R (Option Int)) : TO := fun σ H Q => ∃ (W : Wd) (env : Env) (st : Store), EnvOk K W σ env ∧ Ag K w cls W st H ∧ Aft K w cls U (fun _ o d => d = o) W H (den env st) Q
theorem goodO_po {o : Option Expr} {p : Po} (h : GoodO X cls U C o p) : PO X o (tDO X.K X.w cls U (evP C p)) := by
  cases h with
  | none =>
    refine ⟨fun pins s σ H Q I h => po_none.run pins s σ H Q I ?_⟩
    obtain ⟨W, env, st, he, A, q⟩ := h
    rw [evP] at q
    exact q none W H (Ext.refl _ _) A rfl
  | some g =>
    refine ⟨fun pins s σ H Q I h => (po_some g.pe).run pins s σ H Q I ?_⟩
    obtain ⟨W, env, st, he, A, q⟩ := h
    rw [evP] at q
    refine ⟨W, env, st, he, A, (q.bind).mono fun x H1 ⟨W1, st1, dx, x1, A1, r1, q1⟩ => ?_⟩
    cases dx with
    | int n => exact ⟨n, r1.int_inv, q1 (some n) W1 H1 (Ext.refl _ _) A1 rfl⟩
    | _ => exact q1.elim
theorem g_sli {lo hi : Option Expr} {p q : Po} {p2 : Pos} (ha : Good X cls U C a i) (hl : GoodO X cls U C lo p) (hh : GoodO X cls U C hi q) : Good X cls U C (.Subscript a (.Slice lo hi none p2) pos) (.sli i p q) := by
  refine good_val (PE.mono (pe_slice (sl_D (cls := cls) (U := U)) ha.pe (goodO_po hl) (goodO_po hh)) fun σ H Q h => ?_) fun _ => rfl
  obtain ⟨W, env, st, he, A, q⟩ := h
  rw [evE] at q
  refine ⟨W, env, st, he, A, (q.bind).mono fun x H1 ⟨W1, st1, dx, x1, A1, r1, q1⟩ => ?_⟩
  refine ⟨W1, env, st1, he.mono x1.le, A1, (q1.bind).mono fun l H2 ⟨W2, st2, dl, x2, A2, r2, q2⟩ => ?_⟩
  refine ⟨W2, env, st2, (he.mono x1.le).mono x2.le, A2, (q2.bind).mono fun u H3 ⟨W3, st3, du, x3, A3, r3, q3⟩ => ?_⟩
  cases r2
  cases r3
  exact ⟨W3, st3, dx, A3, (r1.mono x2.le).mono x3.le, q3⟩
/-- xs[::-1] -/
theorem RepL.reverse {K : PySem.W.Frag} {W : Wd} : ∀ {xs : List V} {ds : List D}, RepL K W xs ds → RepL K W xs.reverse ds.reverse
  | _, _, .nil => .nil
  | _, _, .cons h t => by
    rw [List.reverse_cons, List.reverse_cons]
    exact (RepL.reverse t).append (.one h)
theorem g_rev {n : Nat} {p1 p2 p3 : Pos} (ha : Good X cls U C a i) : Good X cls U C (.Subscript a (.Slice none none (some (.UnaryOp .USub (.Constant (.int 1) n p1) p2)) p3) pos) (.rev i) := by
  refine good_val (PE.mono (pe_revL ha.pe) fun σ H Q h => ?_) fun _ => rfl
  obtain ⟨W, env, st, he, A, q⟩ := h
  rw [evE] at q
  refine ⟨W, env, st, he, A, (q.bind).mono fun x H1 ⟨W1, st1, d, x1, A1, r1, q1⟩ => ?_⟩
  cases d with
  | lst ys =>
    obtain ⟨b, xs, e1, g, z, l⟩ := r1.lst_inv
    exact ⟨b, xs, e1, SqL.of (A1.sub _ _ g), Aft.newLst A1 q1 l.reverse (by rw [List.length_reverse]; exact z)⟩
  | _ => exact q1.elim
/-! ### calls of built-in functions -/
theorem g_blt {f : Blt} {id : String} {x : Str} {p : Pos} {es : List Expr} {is : List E} (hc : CallR X (.builtin id) (rC X cls U (bltD f))) (hg : Gl X x) (hm : X.mg x = none) (hv : bootBuiltins x = some (.builtin id)) (hn : x ≠ "__name__") (hdb : (x == ("__debug__" : Str)) = false)
    (h : Good X cls U C a i) (t : Goods X cls U C es is) (hs : (a :: es).all noStar = true) : Good X cls U C (.Call (.Name x p) (a :: es) [] pos) (.blt f (.cons i (listEs is))) := by
  have hs' := hs
  rw [List.all_cons, Bool.and_eq_true] at hs'
  refine good_val (PE.mono (pe_callB hc hg hm hv (args_ok (.cons h t) hs) hn hdb (starEach_no hs'.1) (plain_args hs'.2)) fun σ H Q h => ?_) fun _ => rfl
  obtain ⟨W, env, st, he, A, q⟩ := h
  rw [evE] at q
  exact ⟨W, env, st, he, A, (q.bind).mono fun xs H1 ⟨W1, st1, ds, x1, A1, r1, q1⟩ => ⟨W1, st1, ds, A1, r1, q1⟩⟩
theorem g_bltT {f : Blt} {T : String} {x : Str} {p : Pos} {es : List Expr} {is : List E} (hc : CallR X (.type T) (rC X cls U (bltD f))) (hg : Gl X x) (hm : X.mg x = none) (hv : bootBuiltins x = some (.type T)) (hn : x ≠ "__name__") (hdb : (x == ("__debug__" : Str)) = false)
    (h : Good X cls U C a i) (t : Goods X cls U C es is) (hs : (a :: es).all noStar = true) : Good X cls U C (.Call (.Name x p) (a :: es) [] pos) (.blt f (.cons i (listEs is))) := by
  have hs' := hs
  rw [List.all_cons, Bool.and_eq_true] at hs'
  refine good_val (PE.mono (pe_callTy hc hg hm hv (args_ok (.cons h t) hs) hn hdb (starEach_no hs'.1) (plain_args hs'.2)) fun σ H Q h => ?_) fun _ => rfl
  obtain ⟨W, env, st, he, A, q⟩ := h
  rw [evE] at q
  exact ⟨W, env, st, he, A, (q.bind).mono fun xs H1 ⟨W1, st1, ds, x1, A1, r1, q1⟩ => ⟨W1, st1, ds, A1, r1, q1⟩⟩
/-- isinstance(x, T) -/
theorem g_isT {t : Kd} (ht : t ≠ .non) {x : Str} {p p2 : Pos} (hg : Gl X "isinstance") (hm : X.mg "isinstance" = none) (hg2 : Gl X x) (hm2 : X.mg x = none) (hv2 : bootBuiltins x = some (.type t.nm)) (hn2 : x ≠ "__name__") (hdb2 : (x == ("__debug__" : Str)) = false)
    (h : Good X cls U C a i) (hs : noStar a = true) : Good X cls U C (.Call (.Name "isinstance" p) [a, .Name x p2] [] pos) (.blt (.isT t) (.cons i .nil)) := by
  have hb : PE X (.Name x p2) (tC (.ty t.nm)) := pe_bltn hg2 hm2 hv2 rfl hn2 hdb2
  refine good_val (PE.mono (pe_callB (cd_isT (cls := cls) (U := U) t ht) hg hm (by decide +kernel) (pa_cons h.pe (pa_cons hb pa_nil rfl) (starEach_no hs)) (by decide) (by decide) (starEach_no hs) rfl) fun σ H Q h => ?_) fun _ => rfl
  obtain ⟨W, env, st, he, A, q⟩ := h
  rw [evE, evEs, R.bind_assoc] at q
  refine ⟨W, env, st, he, A, (q.bind).mono fun x H1 ⟨W1, st1, d, x1, A1, r1, q1⟩ => ?_⟩
  rw [evEs] at q1
  exact ⟨W1, st1, x, d, rfl, A1, r1, q1⟩
end
end EV
/-! EvJ: targets, what is walked, comprehensions. -/
namespace EV
open PySem PySem.Spec PyProof.Rows L2

section
variable {K : PySem.W.Frag} {w : World} {cls : Nat → Option Addr} {W W' W0 : Wd} {H H' H0 : Hp} {st : Store}
/-- an object beside the store and the frozen part is laid or changed -/
theorem Ag.aside (A : Ag K w cls W st H) {p : Addr} {o : HO} (h1 : p ∉ W.ρ) (h2 : W.G p = none) : Ag K w cls W st (upd H p o) := by
  refine ⟨fun b u e => ?_, A.len, A.nd, A.out, fun i ob a e1 e2 => ?_⟩
  · rw [upd_ne fun z => by rw [z, h2] at e; cases e]; exact A.sub b u e
  · exact (A.obj i ob a e1 e2).keep (Wd.Le.refl _) (upd_ne fun z => h1 (z ▸ List.mem_of_getElem? e2))
theorem Ag.fresh (A : Ag K w cls W st H) {p : Addr} (hp : H p = none) : p ∉ W.ρ ∧ W.G p = none := by
  refine ⟨fun h => A.tracked h hp, ?_⟩
  cases q : W.G p with
  | none => rfl
  | some u => rw [A.sub _ _ q] at hp; cases hp
theorem Ext.aside (x : Ext W0 H0 W H) {p : Addr} {o : HO} (hp : H0 p = none) : Ext W0 H0 W (upd H p o) := by
  refine ⟨x.g, x.r, fun a u e hn => ?_, fun a h => ?_, x.gn⟩
  · rw [upd_ne (ne_of_none e hp)]; exact x.fr a u e hn
  · by_cases ha : a = p
    · subst ha; rw [upd_same]; simp
    · rw [upd_ne ha]; exact x.dom a h
/-- what is tracked beside the store stays beside it -/
theorem Ext.beside (x : Ext W H W' H') {p : Addr} (h0 : H p ≠ none) (h1 : p ∉ W.ρ) (h2 : W.G p = none) : p ∉ W'.ρ ∧ W'.G p = none := by
  obtain ⟨m, e, hm⟩ := x.r
  refine ⟨fun h => ?_, ?_⟩
  · rw [e] at h
    rcases List.mem_append.mp h with h | h
    · exact h1 h
    · exact h0 (hm p h)
  · cases q : W'.G p with
    | none => rfl
    | some u =>
      rcases x.gn p (by rw [q]; simp) with z | z
      · exact absurd h2 z
      · exact absurd z h0
end

theorem R.test_ok {α : Type} {b : Bool} {r : R α} {a : α} {st : Store} (h : R.test b r = .ok a st) : b = true ∧ r = .ok a st := by
  cases b with
  | true => exact ⟨rfl, h⟩
  | false => simp at h
theorem R.bind_ok_inv {α β : Type} {r : R α} {f : α → Store → R β} {b : β} {st : Store} (h : r.bind f = .ok b st) : ∃ a s1, r = .ok a s1 ∧ f a s1 = .ok b st := by
  cases r with
  | ok a s1 => exact ⟨a, s1, rfl, h⟩
  | err k s1 => simp at h
  | bad => simp at h
theorem R.of_ok {α : Type} {o : Option α} {a : α} {st s1 : Store} (h : R.of o st = .ok a s1) : o = some a ∧ s1 = st := by
  cases o with
  | none => simp at h
  | some b =>
    simp only [R.of_some, R.ok.injEq] at h
    exact ⟨by rw [h.1], h.2.symm⟩
/-! ### targets -/
def tgs : List Nat → TGs
  | [] => gNil
  | i :: is => gCons (gName i) (tgs is)
def tgR (K : PySem.W.Frag) : Tg → TG
  | .one i => gName i
  | .many is => gTup K is.length (tgs is)
def Tg.slots : Tg → List Nat
  | .one i => [i]
  | .many is => is
/-- an item as it comes: a datum, or a new pair of two -/
def ItR (K : PySem.W.Frag) (W : Wd) (H : Hp) (x : V) (d : D) : Prop := Rep K W x d ∨ ∃ T x1 x2 d1 d2, x = .ref T ∧ H T = some (.tup [x1, x2]) ∧ d = .tup [d1, d2] ∧ Rep K W x1 d1 ∧ Rep K W x2 d2
section
variable {K : PySem.W.Frag} {w : World} {cls : Nat → Option Addr} {W : Wd} {H : Hp} {st : Store}
theorem wipe_set {σ : L2.St} {i : Nat} {o : Option V} : ∀ {vs : List Nat}, i ∈ vs → L2.wipe (σ.set i o) vs = L2.wipe σ vs
  | v :: vs, h => by
    unfold L2.wipe
    by_cases hi : i ∈ vs
    · rw [wipe_set hi]
    · have e : i = v := by
        rcases List.mem_cons.mp h with h | h
        · exact h
        · exact absurd h hi
      subst e
      have key : ∀ (vs : List Nat), i ∉ vs → L2.wipe (σ.set i o) vs = (L2.wipe σ vs).set i o := by
        intro vs
        induction vs with
        | nil => intro _; rfl
        | cons u us ih =>
          intro hn
          rw [List.mem_cons, not_or] at hn
          unfold L2.wipe
          rw [ih hn.2, List.set_comm _ _ hn.1]
      rw [key vs hi, List.set_set]
theorem wipe_sub {σ : L2.St} : ∀ {us vs : List Nat}, (∀ u ∈ us, u ∈ vs) → L2.wipe (L2.wipe σ us) vs = L2.wipe σ vs
  | [], _, _ => rfl
  | u :: us, vs, h => by
    rw [L2.wipe, wipe_set (h u List.mem_cons_self), wipe_sub fun v hv => h v (List.mem_cons_of_mem _ hv)]
theorem tgs_run : ∀ {is : List Nat} {xs : List V} {ds : List D} {env env' : Env} {σ : L2.St} {Q : L2.St → Hp → Prop}, RepL K W xs ds → EnvOk K W σ env → asgs is ds env = some env' →
    (∀ σ', EnvOk K W σ' env' → (∀ vs, (∀ i ∈ is, i ∈ vs) → L2.wipe σ' vs = L2.wipe σ vs) → Q σ' H) → tgs is xs σ H Q
  | [], _, _, env, env', σ, Q, l, he, e, h => by
    cases l with
    | nil =>
      simp only [asgs, Option.some.injEq] at e
      subst e
      exact ⟨rfl, h σ he fun _ _ => rfl⟩
    | cons _ _ => simp [asgs] at e
  | i :: is, _, _, env, env', σ, Q, l, he, e, h => by
    cases l with
    | nil => simp [asgs] at e
    | cons r t =>
      rw [asgs] at e
      refine ⟨_, _, rfl, tgs_run t (he.set i r) e fun σ' h1 h2 => h σ' h1 fun vs hv => ?_⟩
      rw [h2 vs fun j hj => hv j (List.mem_cons_of_mem _ hj), wipe_set (hv i List.mem_cons_self)]
theorem asgs_len : ∀ {is : List Nat} {ds : List D} {env env' : Env}, asgs is ds env = some env' → ds.length = is.length
  | [], [], _, _, _ => rfl
  | [], _ :: _, _, _, e => by simp [asgs] at e
  | _ :: _, [], _, _, e => by simp [asgs] at e
  | i :: is, d :: ds, env, env', e => by rw [asgs] at e; rw [List.length_cons, List.length_cons, asgs_len e]
theorem tg_run {t : Tg} {x : V} {d : D} {env env' : Env} {σ : L2.St} {Q : L2.St → Hp → Prop} (A : Same W.G H) (r : ItR K W H x d) (ho : (∃ i, t = .one i) → Rep K W x d) (he : EnvOk K W σ env) (e : asg t d env = some env')
    (h : ∀ σ', EnvOk K W σ' env' → (∀ vs, (∀ i ∈ t.slots, i ∈ vs) → L2.wipe σ' vs = L2.wipe σ vs) → Q σ' H) : tgR K t x σ H Q := by
  cases t with
  | one i =>
    simp only [asg, Option.some.injEq] at e
    subst e
    exact h _ (he.set i (ho ⟨i, rfl⟩)) fun vs hv => wipe_set (hv i (by simp [Tg.slots]))
  | many is =>
    rcases r with r | ⟨T, x1, x2, d1, d2, rfl, hT, rfl, r1, r2⟩
    · cases d with
      | tup ds =>
        obtain ⟨a, us, xs, rfl, g, z, l⟩ := r.tup_inv
        have e' : asgs is ds env = some env' := e
        exact ⟨a, xs, rfl, SqT_ft (A _ _ g), by rw [l.length]; exact asgs_len e', tgs_run l he e' h⟩
      | _ => simp [asg] at e
    · have e' : asgs is [d1, d2] env = some env' := e
      exact ⟨T, [x1, x2], rfl, SqT.of hT, asgs_len (ds := [d1, d2]) e', tgs_run (.cons r1 (.cons r2 .nil)) he e' h⟩
end

/-! ### what is walked -/
def YR (K : PySem.W.Frag) (W : Wd) (H : Hp) (x : V) (H' : Hp) (d : D) : Prop := (H' = H ∧ Rep K W x d) ∨
  ∃ T x1 x2 d1 d2, x = .ref T ∧ H T = none ∧ H' = upd H T (.tup [x1, x2]) ∧ d = .tup [d1, d2] ∧ Rep K W x1 d1 ∧ Rep K W x2 d2
/-- J gives the items, as long as what it walks stands still; pr: the pairs are new ones -/
def WalkD (K : PySem.W.Frag) (w : World) (cls : Nat → Option Addr) (W0 : Wd) (J : L2.It) (items : List D) (g : Grd) (pr : Bool) : Prop := ∀ W st H, W0.Le W → Ag K w cls W st H → g.holds st = true →
  (∀ (i : Nat) (d : D), items[i]? = some d → J.go i H ∧ ∀ x H', J.yld i H x H' → YR K W H x H' d ∧ (pr = false → H' = H ∧ Rep K W x d)) ∧ J.stop items.length H
/-- a lock that is laid ahead of the walk -/
def Grd.isDic : Grd → Bool
  | .dic _ _ => true
  | _ => false
def tDI (K : PySem.W.Frag) (w : World) (cls : Nat → Option Addr) (U : XW) (pr : Bool) (den : Env → Store → R (List D × Grd)) : TI := fun σ H Rr => ∃ (W : Wd) (env : Env) (st : Store), EnvOk K W σ env ∧ Ag K w cls W st H ∧
  (∀ p st', den env st = .ok p st' → p.2.isDic = false) ∧
  Aft K w cls U (fun W' (J : L2.It) p => p.1.length ≤ sizeLine ∧ WalkD K w cls W' J p.1 p.2 pr) W H (den env st) Rr
theorem PI.mono {X : Cx} {tg it : Expr} {t t' : TI} (h : PI X tg it t) (m : ∀ σ H Q, t' σ H Q → t σ H Q) : PI X tg it t' := ⟨fun pins s σ H Q I q => h.run pins s σ H Q I (m σ H Q q)⟩
theorem PI.or {X : Cx} {tg it : Expr} {t t' : TI} (h : PI X tg it t) (h' : PI X tg it t') : PI X tg it (fun σ H Q => t σ H Q ∨ t' σ H Q) := ⟨fun pins s σ H Q I q => q.elim (h.run pins s σ H Q I) (h'.run pins s σ H Q I)⟩
/-- the IR's walk -/
structure GoodI (X : Cx) (cls : Nat → Option Addr) (U : XW) (C : Ctx) (tg it : Expr) (i : It) (pr : Bool) : Prop where
  pi : PI X tg it (tDI X.K X.w cls U pr (evI C i))
section
variable {X : Cx} {cls : Nat → Option Addr} {U : XW} {C : Ctx} {a b c tg : Expr} {i j k : E} {pos : Pos}
theorem holds_lst {g : Nat} {xs : List D} {st : Store} (h : (Grd.lst g xs).holds st = true) : st[g]? = some (.lst xs) := by
  simp only [Grd.holds] at h
  split at h
  · rename_i ys e
    have := D.of_sames _ _ h
    rw [e, this]
  · cases h
theorem holds_lck {g : Nat} {xs : List (D × D)} {st : Store} (h : (Grd.lck g xs).holds st = true) : st[g]? = some (.lck xs) := by
  simp only [Grd.holds] at h
  split at h
  · rename_i ys e
    have := of_sameKv _ _ h
    rw [e, this]
  · cases h
theorem holds_dic {g : Nat} {xs : List (D × D)} {st : Store} (h : (Grd.dic g xs).holds st = true) : st[g]? = some (.lck xs) := holds_lck (g := g) (xs := xs) h
/-- a list, a tuple, a text walked -/
theorem gi_seq (h : Good X cls U C a i) : PI X tg a (fun σ H Rr => ∃ (W : Wd) (env : Env) (st : Store), EnvOk X.K W σ env ∧ Ag X.K X.w cls W st H ∧
    (∀ d st', evE C i env st = .ok d st' → (∀ n, d ≠ .ref n) ∨ ∃ n xs, d = .ref n ∧ st'[n]? = some (.lst xs)) ∧
    Aft X.K X.w cls U (fun W' (J : L2.It) p => p.1.length ≤ sizeLine ∧ WalkD X.K X.w cls W' J p.1 p.2 false) W H (evI C (.seq i) env st) Rr) := by
  refine PI.mono (PI.or (pi_list (tg := tg) h.pe) (PI.or (pi_tup h.pe) (pi_str h.pe))) fun σ H Q q => ?_
  obtain ⟨W, env, st, he, A, hd, q⟩ := q
  rw [evI] at q
  cases e : evE C i env st with
  | bad => rw [e] at q; exact q.elim
  | err k st' =>
    rw [e] at q
    exact .inl ⟨W, env, st, he, A, by rw [e]; exact q⟩
  | ok d st' =>
    have hd' := hd d st' e
    rw [e] at q
    have q : Aft X.K X.w cls U (fun W' (J : L2.It) p => p.1.length ≤ sizeLine ∧ WalkD X.K X.w cls W' J p.1 p.2 false) W H (seqIt d st') Q := q
    cases d with
    | tup ds =>
      refine .inr (.inl ⟨W, env, st, he, A, ?_⟩)
      rw [e]
      intro v W1 H1 x1 A1 r1
      obtain ⟨p, us, xs, rfl, g, z, l⟩ := r1.tup_inv
      refine ⟨p, rfl, ⟨xs, SqT_ft (A1.sub _ _ g)⟩, q _ W1 H1 x1 A1 ⟨z, fun W2 st2 H2 le A2 _ => ?_⟩⟩
      have hq : SqT X.K H2 p xs := SqT_ft (A2.sub _ _ (le.g _ _ g))
      refine ⟨fun n d hn => ?_, ⟨xs, hq, by rw [l.length]; exact Nat.le_refl _⟩⟩
      obtain ⟨y, h1, h2⟩ := l.get hn
      refine ⟨⟨xs, y, hq, h1⟩, fun x H' hy => ?_⟩
      obtain ⟨rfl, hy⟩ := hy
      have := hy xs hq
      rw [h1] at this; cases this
      exact ⟨.inl ⟨rfl, h2.mono le⟩, fun _ => ⟨rfl, h2.mono le⟩⟩
    | lst ds =>
      refine .inl ⟨W, env, st, he, A, ?_⟩
      rw [e]
      intro v W1 H1 x1 A1 r1
      obtain ⟨p, xs, rfl, g, z, l⟩ := r1.lst_inv
      refine ⟨p, rfl, ⟨xs, SqL.of (A1.sub _ _ g)⟩, q _ W1 H1 x1 A1 ⟨z, fun W2 st2 H2 le A2 _ => ?_⟩⟩
      have hq : SqL X.K H2 p xs := SqL.of (A2.sub _ _ (le.g _ _ g))
      refine ⟨fun n d hn => ?_, ⟨xs, hq, by rw [l.length]; exact Nat.le_refl _⟩⟩
      obtain ⟨y, h1, h2⟩ := l.get hn
      refine ⟨⟨xs, y, hq, h1⟩, fun x H' hy => ?_⟩
      obtain ⟨rfl, hy⟩ := hy
      have := hy xs hq
      rw [h1] at this; cases this
      exact ⟨.inl ⟨rfl, h2.mono le⟩, fun _ => ⟨rfl, h2.mono le⟩⟩
    | scr ns =>
      refine .inl ⟨W, env, st, he, A, ?_⟩
      rw [e]
      intro v W1 H1 x1 A1 r1
      obtain ⟨p, rfl, g, z⟩ := r1.scr_inv
      refine ⟨p, rfl, ⟨_, A1.sub.seq g⟩, q _ W1 H1 x1 A1 ⟨by rw [List.length_map]; exact z, fun W2 st2 H2 le A2 _ => ?_⟩⟩
      have hq : SqL X.K H2 p (ns.map V.int) := A2.sub.seq (le.g.seq g)
      refine ⟨fun n d hn => ?_, ⟨_, hq, by simp⟩⟩
      obtain ⟨y, h1, h2⟩ := (RepL.ints (K := X.K) (W := W2) ns).get hn
      refine ⟨⟨_, y, hq, h1⟩, fun x H' hy => ?_⟩
      obtain ⟨rfl, hy⟩ := hy
      have := hy _ hq
      rw [h1] at this; cases this
      exact ⟨.inl ⟨rfl, h2⟩, fun _ => ⟨rfl, h2⟩⟩
    | str z =>
      refine .inr (.inr ⟨W, env, st, he, A, ?_⟩)
      rw [e]
      intro v W1 H1 x1 A1 r1
      refine ⟨z, r1.str_inv, ?_⟩
      have q : Aft X.K X.w cls U (fun W' (J : L2.It) p => p.1.length ≤ sizeLine ∧ WalkD X.K X.w cls W' J p.1 p.2 false) W H (R.test (decide (z.length ≤ lim)) (.ok (z.cps.toList.map fun c => D.str ⟨#[c]⟩, .no) st')) Q := q
      obtain ⟨hz, q⟩ := Aft.test q
      simp only [decide_eq_true_eq, sizeLine_lim] at hz
      refine q _ W1 H1 x1 A1 ⟨by rw [List.length_map, Array.length_toList]; exact hz, fun W2 st2 H2 le A2 _ => ⟨fun n d hn => ?_, ?_⟩⟩
      · simp only [List.getElem?_map, Option.map_eq_some_iff] at hn
        obtain ⟨c, h1, rfl⟩ := hn
        have hlt : n < z.cps.size := by
          have := (List.getElem?_eq_some_iff.mp h1).1
          simpa using this
        refine ⟨hlt, fun x H' hy => ?_⟩
        obtain ⟨rfl, c', h2, rfl⟩ := hy
        rw [Array.getElem?_toList] at h1
        rw [h1] at h2; cases h2
        exact ⟨.inl ⟨rfl, .str _⟩, fun _ => ⟨rfl, .str _⟩⟩
      · show z.cps.size ≤ _
        simp
    | ref n =>
      rcases hd' with hd' | ⟨n', xs, e1, e2⟩
      · exact absurd rfl (hd' n)
      · cases e1
        refine .inl ⟨W, env, st, he, A, ?_⟩
        rw [e]
        simp only [seqIt, e2] at q
        intro v W1 H1 x1 A1 r1
        obtain ⟨p, rfl, hp⟩ := r1.ref_inv
        obtain ⟨vs, hv, l, z⟩ := A1.obj n _ p e2 hp
        refine ⟨p, rfl, ⟨vs, SqL.of hv⟩, q _ W1 H1 x1 A1 ⟨z, fun W2 st2 H2 le A2 hh => ?_⟩⟩
        obtain ⟨us, hu, l2, z2⟩ := A2.obj n _ p (holds_lst hh) (le.at hp)
        have hq : SqL X.K H2 p us := SqL.of hu
        refine ⟨fun m d hn => ?_, ⟨us, hq, by rw [l2.length]; exact Nat.le_refl _⟩⟩
        obtain ⟨y, h1, h2⟩ := l2.get hn
        refine ⟨⟨us, y, hq, h1⟩, fun x H' hy => ?_⟩
        obtain ⟨rfl, hy⟩ := hy
        have := hy us hq
        rw [h1] at this; cases this
        exact ⟨.inl ⟨rfl, h2⟩, fun _ => ⟨rfl, h2⟩⟩
    | non => exact q.elim
    | bl _ => exact q.elim
    | int _ => exact q.elim
theorem gi_seq' (h : Good X cls U C a i) : PI X tg a (tDI X.K X.w cls U false (evI C (.seq i))) := by
  refine PI.mono (gi_seq h) fun σ H Q q => ?_
  obtain ⟨W, env, st, he, A, hd, q⟩ := q
  refine ⟨W, env, st, he, A, fun d st' e => ?_, q⟩
  cases d with
  | ref n =>
    refine .inr ?_
    rw [evI, e] at q
    simp only [R.bind_ok, seqIt] at q
    cases e2 : st'[n]? with
    | none =>
      simp only [e2] at q
      exact q.elim
    | some o =>
      cases o with
      | lst xs => exact ⟨n, xs, rfl, e2⟩
      | dic kvs => simp only [e2] at q; exact q.elim
      | lck kvs => simp only [e2] at q; exact q.elim
      | ins _ _ => simp only [e2] at q; exact q.elim
  | _ => exact .inl fun n z => nomatch z
/-- no dict is walked -/
def It.plain : It → Bool
  | .keys _ => false
  | .items _ => false
  | _ => true
theorem seqIt_nodic {d : D} {st st' : Store} {p : List D × Grd} (h : seqIt d st = .ok p st') : p.2.isDic = false := by
  unfold seqIt at h
  split at h
  · simp only [R.ok.injEq] at h; rw [← h.1]; rfl
  · simp only [R.ok.injEq] at h; rw [← h.1]; rfl
  · simp only [R.ok.injEq] at h; rw [← h.1]; rfl
  · obtain ⟨_, h⟩ := R.test_ok h
    simp only [R.ok.injEq] at h; rw [← h.1]; rfl
  · split at h
    · simp only [R.ok.injEq] at h; rw [← h.1]; rfl
    · exact absurd h (by simp)
  · exact absurd h (by simp)
theorem rng2_nodic {x y : D} {st st' : Store} {p : List D × Grd} (h : rng2 x y st = .ok p st') : p.2.isDic = false := by
  unfold rng2 at h
  split at h
  · obtain ⟨_, h⟩ := R.test_ok h
    simp only [R.ok.injEq] at h; rw [← h.1]; rfl
  · exact absurd h (by simp)
theorem rng3_nodic {x y z : D} {st st' : Store} {p : List D × Grd} (h : rng3 x y z st = .ok p st') : p.2.isDic = false := by
  unfold rng3 at h
  split at h
  · obtain ⟨_, h⟩ := R.test_ok h
    simp only [R.ok.injEq] at h; rw [← h.1]; rfl
  · exact absurd h (by simp)
theorem evI_nodic {it : It} (hp : it.plain = true) {env : Env} {st st' : Store} {p : List D × Grd} (h : evI C it env st = .ok p st') : p.2.isDic = false := by
  cases it with
  | keys _ => simp [It.plain] at hp
  | items _ => simp [It.plain] at hp
  | seq e =>
    rw [evI] at h
    obtain ⟨_, _, _, h⟩ := R.bind_ok_inv h
    exact seqIt_nodic h
  | rng1 e =>
    rw [evI] at h
    obtain ⟨_, _, _, h⟩ := R.bind_ok_inv h
    exact rng2_nodic h
  | rng2 e f =>
    rw [evI] at h
    obtain ⟨_, _, _, h⟩ := R.bind_ok_inv h
    obtain ⟨_, _, _, h⟩ := R.bind_ok_inv h
    exact rng2_nodic h
  | rng3 e f g =>
    rw [evI] at h
    obtain ⟨_, _, _, h⟩ := R.bind_ok_inv h
    obtain ⟨_, _, _, h⟩ := R.bind_ok_inv h
    obtain ⟨_, _, _, h⟩ := R.bind_ok_inv h
    exact rng3_nodic h
  | enum e =>
    rw [evI] at h
    obtain ⟨x, _, _, h⟩ := R.bind_ok_inv h
    obtain ⟨_, _, _, h⟩ := R.bind_ok_inv h
    simp only [R.ok.injEq] at h
    rw [← h.1]
    cases x <;> rfl
  | zip e f =>
    rw [evI] at h
    obtain ⟨x, _, _, h⟩ := R.bind_ok_inv h
    obtain ⟨y, _, _, h⟩ := R.bind_ok_inv h
    split at h
    · exact absurd h (by simp)
    · exact absurd h (by simp)
    · obtain ⟨_, _, _, h⟩ := R.bind_ok_inv h
      obtain ⟨_, _, _, h⟩ := R.bind_ok_inv h
      simp only [R.ok.injEq] at h
      rw [← h.1]; rfl
theorem range_get {n m k : Nat} (h : (List.range n)[k]? = some m) : k < n ∧ m = k := by
  obtain ⟨h1, h2⟩ := List.getElem?_eq_some_iff.mp h
  rw [List.length_range] at h1
  rw [List.getElem_range] at h2
  exact ⟨h1, h2.symm⟩
theorem rngL_get {lo hi : Int} {n : Nat} {d : D} (h : (rngL lo hi)[n]? = some d) : n < (hi - lo).toNat ∧ d = .int (lo + n) := by
  unfold rngL at h
  rw [List.getElem?_map] at h
  obtain ⟨m, h1, rfl⟩ := Option.map_eq_some_iff.mp h
  obtain ⟨h2, rfl⟩ := range_get h1
  exact ⟨h2, rfl⟩
theorem rngL_len (lo hi : Int) : (rngL lo hi).length = (hi - lo).toNat := by simp [rngL]
theorem walk_rng {W0 : Wd} {lo hi : Int} : WalkD X.K X.w cls W0 (Itr lo (hi - lo).toNat) (rngL lo hi) .no false := fun W st H le A _ =>
  ⟨fun n d hn => by
    obtain ⟨h1, rfl⟩ := rngL_get hn
    refine ⟨h1, fun x H' hy => ?_⟩
    obtain ⟨rfl, rfl⟩ := hy
    exact ⟨.inl ⟨rfl, .int _⟩, fun _ => ⟨rfl, .int _⟩⟩, by rw [rngL_len]; exact Nat.le_refl _⟩
theorem gi_rng1 {p : Pos} (h : Good X cls U C a i) (hg : Gl X "range") (hm : X.mg "range" = none) (hs : noStar a = true) : PI X tg (.Call (.Name "range" p) [a] [] pos) (tDI X.K X.w cls U false (evI C (.rng1 i))) := by
  refine PI.mono (pi_range1 (tg := tg) hg hm (pa_cons h.pe pa_nil (starEach_no hs)) (starEach_no hs)) fun σ H Q q => ?_
  obtain ⟨W, env, st, he, A, _, q⟩ := q
  rw [evI] at q
  refine ⟨W, env, st, he, A, (q.bind).mono fun x H1 ⟨W1, st1, d, x1, A1, r1, q1⟩ => ?_⟩
  cases d with
  | int n =>
    have q1 : Aft X.K X.w cls U (fun W' (J : L2.It) p => p.1.length ≤ sizeLine ∧ WalkD X.K X.w cls W' J p.1 p.2 false) W1 H1 (rng2 (.int 0) (.int n) st1) Q := q1
    simp only [rng2] at q1
    obtain ⟨hb, q1⟩ := Aft.test q1
    simp only [Bool.and_eq_true, decide_eq_true_eq] at hb
    refine ⟨n, by rw [r1.int_inv], by omega, by omega, q1 _ W1 H1 (Ext.refl _ _) A1 ⟨by rw [rngL_len, sizeLine_eq]; omega, ?_⟩⟩
    have e : (n - 0).toNat = n.toNat := by omega
    have := walk_rng (X := X) (cls := cls) (W0 := W1) (lo := 0) (hi := n)
    rw [e] at this
    exact this
  | _ => exact q1.elim
theorem gi_rng2 {p : Pos} (h : Good X cls U C a i) (h2 : Good X cls U C b j) (hg : Gl X "range") (hm : X.mg "range" = none) (hs : noStar a = true) (hs2 : noStar b = true) : PI X tg (.Call (.Name "range" p) [a, b] [] pos) (tDI X.K X.w cls U false (evI C (.rng2 i j))) := by
  refine PI.mono (pi_range2 (tg := tg) hg hm (pa_cons h.pe (pa_cons h2.pe pa_nil (starEach_no hs2)) (starEach_no hs)) (by rw [starEach_no hs, starEach_no hs2]; rfl) (starEach_no hs2)) fun σ H Q q => ?_
  obtain ⟨W, env, st, he, A, _, q⟩ := q
  rw [evI] at q
  refine ⟨W, env, st, he, A, (q.bind).mono fun x H1 ⟨W1, st1, d, x1, A1, r1, q1⟩ => ?_⟩
  refine ⟨W1, env, st1, he.mono x1.le, A1, (q1.bind).mono fun y H2 ⟨W2, st2, d2, x2, A2, r2, q2⟩ => ?_⟩
  have q2 : Aft X.K X.w cls U (fun W' (J : L2.It) p => p.1.length ≤ sizeLine ∧ WalkD X.K X.w cls W' J p.1 p.2 false) W2 H2 (rng2 d d2 st2) Q := q2
  cases d with
  | int lo =>
    cases d2 with
    | int hi =>
      simp only [rng2] at q2
      obtain ⟨hb, q2⟩ := Aft.test q2
      simp only [Bool.and_eq_true, decide_eq_true_eq] at hb
      exact ⟨lo, hi, by rw [(r1.mono x2.le).int_inv, r2.int_inv], by omega, q2 _ W2 H2 (Ext.refl _ _) A2 ⟨by rw [rngL_len, sizeLine_eq]; omega, walk_rng⟩⟩
    | _ => exact q2.elim
  | _ => exact q2.elim

/-! ### comprehensions -/
/-- the comprehension's block: its target, tests and element in every block of X -/
structure GoodB (X : Cx) (cls : Nat → Option Addr) (C : Ctx) (scope : Scope) (tg : Expr) (t : Tg) (ifs : List Expr) (elt : Expr) (cond ie : E) : Prop where
  g : ∀ (s : Shared) (H : Hp) (D : Addr) (cl : List (Str × Addr)) (fp : List Addr), PG (X.blk s H scope (compEnvC scope cl D X.env) fp) tg (tgR X.K t)
  c : ∀ (s : Shared) (H : Hp) (D : Addr) (cl : List (Str × Addr)) (fp : List Addr), PTs (X.blk s H scope (compEnvC scope cl D X.env) fp) ifs (tDT X.K X.w cls (fun _ _ => False) (evE C cond))
  e : ∀ (s : Shared) (H : Hp) (D : Addr) (cl : List (Str × Addr)) (fp : List Addr), PE (X.blk s H scope (compEnvC scope cl D X.env) fp) elt (tD X.K X.w cls (fun _ _ => False) (evE C ie))
/-- a tracked object is taken into the frozen part, or into the store -/
theorem Ag.freeze {K : PySem.W.Frag} {w : World} {W W0 : Wd} {H H0 : Hp} {st : Store} (A : Ag K w cls W st H) (x : Ext W0 H0 W H) {p : Addr} {o : HO} (h0 : H0 p = none) (hp : H p = some o) (h1 : p ∉ W.ρ) (h2 : W.G p = none) :
    Ag K w cls ⟨upd W.G p o, W.ρ⟩ st H ∧ Ext W0 H0 ⟨upd W.G p o, W.ρ⟩ H ∧ W.Le ⟨upd W.G p o, W.ρ⟩ := by
  have le : W.Le ⟨upd W.G p o, W.ρ⟩ := ⟨fun b u e => by
    show upd W.G p o b = some u
    rw [upd_ne (ne_of_none e h2)]; exact e, [], by simp⟩
  refine ⟨⟨fun b u e => ?_, A.len, A.nd, fun a ha => ?_, fun i ob a e1 e2 => (A.obj i ob a e1 e2).keep le rfl⟩, ⟨fun b u e => le.g b u (x.g b u e), x.r, x.fr, x.dom, fun a h => ?_⟩, le⟩
  · by_cases hb : b = p
    · subst hb
      have e' : upd W.G b o b = some u := e
      rw [upd_same] at e'
      rw [hp]; exact e'
    · have e' : upd W.G p o b = some u := e
      rw [upd_ne hb] at e'
      exact A.sub b u e'
  · show upd W.G p o a = none
    have ne : a ≠ p := fun z => h1 (by rw [← z]; exact ha)
    rw [upd_ne ne]
    exact A.out a ha
  · by_cases hb : a = p
    · subst hb; exact .inr h0
    · have h' : upd W.G p o a ≠ none := h
      rw [upd_ne hb] at h'
      exact x.gn a h'
theorem Ag.adopt {K : PySem.W.Frag} {w : World} {W W0 : Wd} {H H0 : Hp} {st : Store} (A : Ag K w cls W st H) (x : Ext W0 H0 W H) {p : Addr} {o : O} (h0 : H0 p = none) (h1 : p ∉ W.ρ) (h2 : W.G p = none) (ho : OAt K w cls ⟨W.G, W.ρ ++ [p]⟩ H p o) :
    Ag K w cls ⟨W.G, W.ρ ++ [p]⟩ (st ++ [o]) H ∧ Ext W0 H0 ⟨W.G, W.ρ ++ [p]⟩ H := by
  have le : W.Le ⟨W.G, W.ρ ++ [p]⟩ := ⟨Same.refl _, [p], rfl⟩
  obtain ⟨m, em, hm⟩ := x.r
  refine ⟨⟨A.sub, by simp [A.len], ?_, fun a ha => ?_, fun i ob a e1 e2 => ?_⟩, ⟨x.g, ⟨m ++ [p], by show W.ρ ++ [p] = _; rw [em, List.append_assoc], fun a ha => ?_⟩, x.fr, x.dom, x.gn⟩⟩
  · refine List.nodup_append.mpr ⟨A.nd, by simp, fun a ha b hb e => ?_⟩
    have e' : b = p := by simpa using hb
    subst e'; subst e
    exact h1 ha
  · rcases List.mem_append.mp ha with ha | ha
    · exact A.out a ha
    · have e : a = p := by simpa using ha
      subst e; exact h2
  · have e2 : (W.ρ ++ [p])[i]? = some a := e2
    by_cases hi : i < W.ρ.length
    · rw [List.getElem?_append_left hi] at e2
      rw [List.getElem?_append_left (by rw [← A.len]; exact hi)] at e1
      exact (A.obj i ob a e1 e2).keep le rfl
    · rw [List.getElem?_append_right (by omega)] at e2
      rw [List.getElem?_append_right (by rw [← A.len]; omega)] at e1
      have hz : i - W.ρ.length = 0 := by
        have := (List.getElem?_eq_some_iff.mp e2).1
        simp at this; omega
      rw [hz] at e2
      rw [← A.len, hz] at e1
      simp at e1 e2
      subst e1; subst e2
      exact ho
  · rcases List.mem_append.mp ha with ha | ha
    · exact hm a ha
    · have e : a = p := by simpa using ha
      subst e; exact h0
/-- the turns of a comprehension's loop, from the evaluator's own -/
theorem lc_turns {t : Tg} {cond ie : E} {own : List Nat} {pr : Bool} {σ : L2.St} {Q : VK} {J : L2.It} {H1 : Hp} {W1 : Wd} {env : Env} {st1 : Store} {items : List D} {g : Grd} {ys : List D} {stE : Store} {p : Addr}
    (ht : ∀ s ∈ t.slots, s ∈ own) (hp : pr = true → ∃ is, t = .many is) (he : EnvOk X.K W1 σ env) (A1 : Ag X.K X.w cls W1 st1 H1) (hz : items.length ≤ sizeLine) (wk : WalkD X.K X.w cls W1 J items g pr)
    (run : lcL g t (evE C cond) (evE C ie) (wipes env own) items st1 = .ok ys stE) (hp1 : H1 p = none)
    (fin : ∀ H acc W2, Ext W1 H1 W2 H → Ag X.K X.w cls W2 stE H → H p = some (.lst acc) → p ∉ W2.ρ → W2.G p = none → RepL X.K W2 acc ys → ys.length ≤ sizeLine → Q (.ref p) H) :
    ∃ Wv : Nat → Nat → Hp → Prop, (∃ m, Wv 0 m (upd H1 p (.lst []))) ∧ ∀ i m H, Wv i m H → (J.stop i H ∧ Q (.ref p) H) ∨ (J.go i H ∧ ∃ Nx : Hp → Prop, (∀ H', Nx H' → ∃ m', m' < m ∧ Wv (i + 1) m' H') ∧
      ∀ x H', J.yld i H x H' → tgR X.K t x (L2.wipe σ own) H' fun σ2 H2 => L2.wipe σ2 own = L2.wipe σ own ∧ tDT X.K X.w cls (fun _ _ => False) (evE C cond) σ2 H2 fun b H3 =>
        if b = true then tD X.K X.w cls (fun _ _ => False) (evE C ie) σ2 H3 fun y H4 => ∃ acc, H4 p = some (.lst acc) ∧ acc.length < sizeLine ∧ Nx (upd H4 p (.lst (acc ++ [y]))) else Nx H3) := by
  let Iv : Nat → Hp → Prop := fun i H => ∃ W2 st2 acc dacc rest, Ext W1 H1 W2 H ∧ Ag X.K X.w cls W2 st2 H ∧ H p = some (.lst acc) ∧ p ∉ W2.ρ ∧ W2.G p = none ∧ RepL X.K W2 acc dacc ∧ dacc.length ≤ i ∧
    lcL g t (evE C cond) (evE C ie) (wipes env own) (items.drop i) st2 = .ok rest stE ∧ ys = dacc ++ rest
  refine ⟨fun i m H => m = items.length - i ∧ i ≤ items.length ∧ Iv i H, ⟨items.length, by simp, Nat.zero_le _, ?_⟩, ?_⟩
  · obtain ⟨f1, f2⟩ := A1.fresh hp1
    exact ⟨W1, st1, [], [], ys, (Ext.refl W1 H1).aside hp1, A1.aside f1 f2, upd_same, f1, f2, .nil, Nat.zero_le _, run, rfl⟩
  · rintro i m H ⟨rfl, hi, W2, st2, acc, dacc, rest, x2, A2, hacc, hr, hg, l, hl, hrun, hys⟩
    by_cases hlt : i < items.length
    · have hd : items[i]? = some items[i] := List.getElem?_eq_getElem hlt
      rw [List.drop_eq_getElem_cons hlt, lcL] at hrun
      obtain ⟨hh, hrun1⟩ := R.test_ok hrun
      obtain ⟨env2, s1, h0, hrun2⟩ := R.bind_ok_inv hrun1
      obtain ⟨h1, es⟩ := R.of_ok h0
      obtain ⟨bd, st3, h3, hrun⟩ := R.bind_ok_inv hrun2
      rw [es] at h3
      clear hrun1 hrun2 h0 es
      obtain ⟨go, _⟩ := wk W2 st2 H x2.le A2 hh
      obtain ⟨go1, yl⟩ := go i _ hd
      refine .inr ⟨go1, Iv (i + 1), fun H' h => ⟨items.length - (i + 1), by omega, rfl, hlt, h⟩, fun x H' hy => ?_⟩
      obtain ⟨yr, yp⟩ := yl x H' hy
      -- the heap in which the target is assigned
      obtain ⟨A2', x2', hacc', hir⟩ : Ag X.K X.w cls W2 st2 H' ∧ Ext W2 H W2 H' ∧ H' p = some (.lst acc) ∧ ItR X.K W2 H' x items[i] := by
        rcases yr with ⟨rfl, r⟩ | ⟨T, y1, y2, d1, d2, rfl, hT, rfl, e, r1, r2⟩
        · exact ⟨A2, Ext.refl _ _, hacc, .inl r⟩
        · obtain ⟨f1, f2⟩ := A2.fresh hT
          exact ⟨A2.aside f1 f2, (Ext.refl W2 H).aside hT, by rw [upd_ne (ne_of_none hacc hT)]; exact hacc, .inr ⟨T, y1, y2, d1, d2, rfl, upd_same, e, r1, r2⟩⟩
      have ho : (∃ i, t = .one i) → Rep X.K W2 x items[i] := fun ⟨k, e⟩ => by
        cases pr with
        | true => obtain ⟨is, e2⟩ := hp rfl; rw [e] at e2; cases e2
        | false => exact (yp rfl).2
      refine tg_run A2'.sub hir ho ((he.mono x2.le).wipe own) h1 fun σ2 he2 hw => ⟨by rw [hw own ht]; exact wipe_sub (fun _ h => h), ?_⟩
      have hbl : ∃ b, bd = .bl b := by
        cases bd with
        | bl b => exact ⟨b, rfl⟩
        | _ => simp at hrun
      obtain ⟨b, rfl⟩ := hbl
      refine ⟨W2, env2, _, he2, A2', fun d st' e => ?_, ?_⟩
      · rw [h3] at e
        simp only [R.ok.injEq] at e
        exact ⟨b, e.1.symm⟩
      · rw [h3]
        intro b' W3 H3 x3 A3 eb
        cases eb
        obtain ⟨b3, g3⟩ := x3.beside (p := p) (by rw [hacc']; simp) hr hg
        have hacc3 : H3 p = some (.lst acc) := x3.fr p _ hacc' hr
        have x3' : Ext W1 H1 W3 H3 := (x2.trans x2').trans x3
        cases b with
        | false =>
          rw [if_neg Bool.false_ne_true]
          exact ⟨W3, st3, acc, dacc, rest, x3', A3, hacc3, b3, g3, l.mono x3.le, by omega, hrun, hys⟩
        | true =>
          rw [if_pos rfl]
          simp only at hrun
          obtain ⟨dy, st4, h4, hrun⟩ := R.bind_ok_inv hrun
          obtain ⟨rest', st5, h5, hrun⟩ := R.bind_ok_inv hrun
          simp only [R.ok.injEq] at hrun
          obtain ⟨er, es⟩ := hrun
          subst es
          refine ⟨W3, env2, st3, he2.mono x3.le, A3, ?_⟩
          rw [h4]
          intro y W4 H4 x4 A4 ry
          obtain ⟨b4, g4⟩ := x4.beside (p := p) (by rw [hacc3]; simp) b3 g3
          have hacc4 : H4 p = some (.lst acc) := x4.fr p _ hacc3 b3
          refine ⟨acc, hacc4, by rw [l.length]; omega, ?_⟩
          refine ⟨W4, st4, acc ++ [y], dacc ++ [dy], rest', (x3'.trans x4).aside hp1, A4.aside b4 g4, upd_same, b4, g4, ((l.mono x3.le).mono x4.le).append (.one ry), by rw [List.length_append]; simp; omega, h5, ?_⟩
          rw [hys, ← er]
          simp
    · have e : i = items.length := by omega
      subst e
      rw [List.drop_length, lcL] at hrun
      obtain ⟨hh, hrun⟩ := R.test_ok hrun
      simp only [R.ok.injEq] at hrun
      obtain ⟨rfl, rfl⟩ := hrun
      rw [List.append_nil] at hys
      subst hys
      exact .inl ⟨(wk W2 st2 H x2.le A2 hh).2, fin H acc W2 x2 A2 hacc hr hg l (by omega)⟩
theorem Grd.out_plain {α : Type} {g : Grd} (hg : g.isDic = false) {r : R α} {a : α} {st : Store} (h : (g.out r).noX = .ok a st) : r = .ok a st := by
  cases r with
  | ok b s1 =>
    cases g with
    | dic _ _ => simp [Grd.isDic] at hg
    | no => simpa [Grd.out, Grd.holds, Grd.free] using h
    | lst i xs =>
      simp only [Grd.out] at h
      cases e : (Grd.lst i xs).holds s1 with
      | true => rw [e] at h; simpa [Grd.free] using h
      | false => rw [e] at h; simp [R.noX] at h
    | lck i xs =>
      simp only [Grd.out] at h
      cases e : (Grd.lck i xs).holds s1 with
      | true => rw [e] at h; simpa [Grd.free] using h
      | false => rw [e] at h; simp [R.noX] at h
  | err k s1 => cases g <;> simp [Grd.out, R.noX] at h
  | bad => cases g <;> simp [Grd.out, R.noX] at h
theorem Grd.lock_plain {g : Grd} (hg : g.isDic = false) (st : Store) : g.lock st = st := by
  cases g <;> first | rfl | (simp [Grd.isDic] at hg)
theorem lc_tD {m : Bool} {it : It} {t : Tg} {cond ie : E} {own : List Nat} {pr : Bool} {σ : L2.St} {H : Hp} {Q : VK} (hp : it.plain = true) (ht : ∀ s ∈ t.slots, s ∈ own) (hpr : pr = true → ∃ is, t = .many is)
    (h : tD X.K X.w cls U (evE C (.lc m own t it cond ie)) σ H Q) : tLc (tDI X.K X.w cls U pr (evI C it)) (tgR X.K t) (tDT X.K X.w cls (fun _ _ => False) (evE C cond)) (tD X.K X.w cls (fun _ _ => False) (evE C ie)) own σ H Q := by
  obtain ⟨W, env, st, he, A, q⟩ := h
  rw [evE] at q
  refine ⟨W, env, st, he, A, fun p st' e => evI_nodic hp e, ?_⟩
  cases e : evI C it env st with
  | bad => rw [e] at q; exact q
  | err k st' => rw [e] at q; exact q
  | ok pp st1 =>
    have hg := evI_nodic hp e
    rw [e] at q
    obtain ⟨items, g⟩ := pp
    have q : Aft X.K X.w cls U (Rep X.K) W H (((g.out (lcL g t (evE C cond) (evE C ie) (wipes env own) items (g.lock st1))).noX).bind fun ys st => if m then .ok (.ref st.length) (st ++ [.lst ys]) else .ok (.lst ys) st) Q := q
    rw [Grd.lock_plain hg] at q
    intro J W1 H1 x1 A1 hw p hp1
    cases e2 : (g.out (lcL g t (evE C cond) (evE C ie) (wipes env own) items st1)).noX with
    | bad => rw [e2] at q; exact q.elim
    | err k s2 =>
      exfalso
      revert e2
      unfold R.noX
      split <;> simp
    | ok ys stE =>
      rw [e2] at q
      have run := Grd.out_plain hg e2
      refine lc_turns (pr := pr) ht hpr (he.mono x1.le) A1 hw.1 hw.2 run hp1 fun H2 acc W2 x2 A2 hacc hr hg2 l hz => ?_
      have q : Aft X.K X.w cls U (Rep X.K) W H (if m then .ok (.ref stE.length) (stE ++ [.lst ys]) else .ok (.lst ys) stE) Q := q
      cases m with
      | false =>
        obtain ⟨A3, x3, le⟩ := A2.freeze (x1.trans x2) (p := p) (Classical.byContradiction fun z => x1.dom p z hp1) hacc hr hg2
        exact q _ _ _ x3 A3 (.lst (xs := acc) upd_same hz (l.mono le))
      | true =>
        have le : W2.Le ⟨W2.G, W2.ρ ++ [p]⟩ := ⟨Same.refl _, [p], rfl⟩
        obtain ⟨A3, x3⟩ := A2.adopt (x1.trans x2) (p := p) (o := .lst ys) (Classical.byContradiction fun z => x1.dom p z hp1) hr hg2 ⟨acc, hacc, l.mono le, hz⟩
        refine q _ _ _ x3 A3 (.ref ?_)
        show (W2.ρ ++ [p])[stE.length]? = some p
        rw [← A2.len, List.getElem?_append_right (Nat.le_refl _)]
        simp
/-- [elt for target in iter if ..] -/
theorem g_lc {m : Bool} {it : It} {t : Tg} {cond ie : E} {own : List (Str × Nat)} {pr : Bool} {elt iter : Expr} {ifs : List Expr} {scope : Scope} (hc : X.calm = true) (hN : X.N.Nodup) (hp : it.plain = true)
    (hi : PI X tg iter (tDI X.K X.w cls U pr (evI C it))) (ok : BlkOk X.N X.env.scope scope own) (gb : GoodB X cls C scope tg t ifs elt cond ie) (ht : ∀ s ∈ t.slots, s ∈ own.map (·.2)) (hpr : pr = true → ∃ is, t = .many is)
    (hs : ∀ x, foldedSetIterable iter X.env x = pure x) : PE X (.ListComp elt [⟨tg, iter, ifs, 0⟩] scope pos) (tD X.K X.w cls U (evE C (.lc m (own.map (·.2)) t it cond ie))) := by
  refine PE.mono (pe_lc hc hN hi ok gb.g gb.c gb.e hs) fun σ H Q q => lc_tD hp ht hpr q
end
end EV
/-! EvK: statements. -/
namespace EV
open PySem PySem.Spec PyProof.Rows L2

def AftS (K : PySem.W.Frag) (w : World) (cls : Nat → Option Addr) (U : XW) (W : Wd) (H : Hp) (r : R Fl) (D : Ends) : Prop := match r with
  | .ok (.nx env) st => ∀ σ W' H', Ext W H W' H' → Ag K w cls W' st H' → EnvOk K W' σ env → D.nx σ H'
  | .ok (.rt d) st => ∀ v W' H', Ext W H W' H' → Ag K w cls W' st H' → Rep K W' v d → D.rt v H'
  | .ok (.bk env) st => ∀ σ W' H', Ext W H W' H' → Ag K w cls W' st H' → EnvOk K W' σ env → D.bk σ H'
  | .ok (.ct env) st => ∀ σ W' H', Ext W H W' H' → Ag K w cls W' st H' → EnvOk K W' σ env → D.ct σ H'
  | .err k st => ∀ W' H', Ext W H W' H' → Ag K w cls W' st H' → U k H'
  | .bad => False
def tDS (K : PySem.W.Frag) (w : World) (cls : Nat → Option Addr) (U : XW) (den : Env → Store → R Fl) : TS := fun D σ H => ∃ (W : Wd) (env : Env) (st : Store), EnvOk K W σ env ∧ Ag K w cls W st H ∧ AftS K w cls U W H (den env st) D
section
variable {K : PySem.W.Frag} {w : World} {cls : Nat → Option Addr} {U : XW} {W W1 : Wd} {H H1 : Hp} {α β : Type} {rel : Wd → β → α → Prop}
theorem AftS.shift {r : R Fl} {D : Ends} (x : Ext W H W1 H1) (h : AftS K w cls U W H r D) : AftS K w cls U W1 H1 r D := by
  cases r with
  | ok f st => cases f <;> exact fun σ W' H' x' => h σ W' H' (x.trans x')
  | err k st => exact fun W' H' x' => h W' H' (x.trans x')
  | bad => exact h
theorem AftS.bind {r : R α} {f : α → Store → R Fl} {D : Ends} (h : AftS K w cls U W H (r.bind f) D) :
    Aft K w cls U rel W H r fun b H1 => ∃ W1 st a, Ext W H W1 H1 ∧ Ag K w cls W1 st H1 ∧ rel W1 b a ∧ AftS K w cls U W1 H1 (f a st) D := by
  cases r with
  | ok a st => exact fun b W' H' x A q => ⟨W', st, a, x, A, q, AftS.shift x h⟩
  | err k st => exact h
  | bad => exact h
theorem AftS.test {b : Bool} {r : R Fl} {D : Ends} (h : AftS K w cls U W H (R.test b r) D) : b = true ∧ AftS K w cls U W H r D := by
  cases b with
  | true => exact ⟨rfl, h⟩
  | false => exact h.elim
theorem AftS.next {env : Env} {st : Store} {D : Ends} {σ : L2.St} (h : AftS K w cls U W H (.ok (.nx env) st) D) (A : Ag K w cls W st H) (he : EnvOk K W σ env) : D.nx σ H := h σ W H (Ext.refl _ _) A he
end
section
variable {X : Cx} {cls : Nat → Option Addr} {U : XW} {C : Ctx} {a b c : Expr} {i j k : E} {pos : Pos}
def GoodS (X : Cx) (cls : Nat → Option Addr) (U : XW) (C : Ctx) (s : Stmt) (i : S) : Prop := PS X s (tDS X.K X.w cls U (evS C i))
def GoodSs (X : Cx) (cls : Nat → Option Addr) (U : XW) (C : Ctx) (s : List Stmt) (i : Ss) : Prop := PSs X s (tDS X.K X.w cls U (evSs C i))
theorem s_nil : GoodSs X cls U C [] .nil := by
  refine PSs.mono pss_nil fun D σ H h => ?_
  obtain ⟨W, env, st, he, A, q⟩ := h
  rw [evSs] at q
  exact q.next A he
theorem s_cons {s : Stmt} {ss : List Stmt} {x : S} {xs : Ss} (h : GoodS X cls U C s x) (t : GoodSs X cls U C ss xs) : GoodSs X cls U C (s :: ss) (.cons x xs) := by
  refine PSs.mono (pss_cons h t) fun D σ H h => ?_
  obtain ⟨W, env, st, he, A, q⟩ := h
  rw [evSs] at q
  refine ⟨W, env, st, he, A, ?_⟩
  cases e : evS C x env st with
  | bad => rw [e] at q; exact q
  | err k s1 => rw [e] at q; exact q
  | ok f s1 =>
    rw [e] at q
    cases f with
    | nx env1 => exact fun σ1 W1 H1 x1 A1 he1 => ⟨W1, env1, s1, he1, A1, AftS.shift x1 q⟩
    | rt d => exact q
    | bk env1 => exact q
    | ct env1 => exact q
theorem s_ret (h : Good X cls U C a i) : GoodS X cls U C (.Return (some a) pos) (.ret i) := by
  refine PS.mono (ps_ret h.pe) fun D σ H h => ?_
  obtain ⟨W, env, st, he, A, q⟩ := h
  rw [evS] at q
  exact ⟨W, env, st, he, A, (q.bind).mono fun x H1 ⟨W1, st1, d, x1, A1, r1, q1⟩ => q1 x W1 H1 (Ext.refl _ _) A1 r1⟩
theorem s_retN : GoodS X cls U C (.Return none pos) .retN := by
  refine PS.mono ps_retN fun D σ H h => ?_
  obtain ⟨W, env, st, he, A, q⟩ := h
  rw [evS] at q
  exact q .non W H (Ext.refl _ _) A .non
/-- an expression that is no comprehension is never swapped -/
def notComp : Expr → Bool
  | .ListComp .. => false
  | .SetComp .. => false
  | .DictComp .. => false
  | _ => true
theorem noswap {t : Option Expr} {l : Nat} {env : PySem.Env} (h : notComp a = true) : swapsWith a t l env = pure false := by
  cases a <;> first | rfl | (simp [notComp] at h)
theorem s_exp (h : Good X cls U C a i) (hs : notComp a = true) : GoodS X cls U C (.Expr a pos) (.exp i) := by
  refine PS.mono (ps_expr h.pe (noswap hs)) fun D σ H h => ?_
  obtain ⟨W, env, st, he, A, q⟩ := h
  rw [evS] at q
  exact ⟨W, env, st, he, A, (q.bind).mono fun x H1 ⟨W1, st1, d, x1, A1, r1, q1⟩ => q1.next A1 (he.mono x1.le)⟩
theorem s_pass : GoodS X cls U C (.Pass pos) .pass := by
  refine PS.mono ps_pass fun D σ H h => ?_
  obtain ⟨W, env, st, he, A, q⟩ := h
  rw [evS] at q
  exact q.next A he
theorem s_brk : GoodS X cls U C (.Break pos) .brk := by
  refine PS.mono ps_break fun D σ H h => ?_
  obtain ⟨W, env, st, he, A, q⟩ := h
  rw [evS] at q
  exact q σ W H (Ext.refl _ _) A he
theorem s_cont : GoodS X cls U C (.Continue pos) .cont := by
  refine PS.mono ps_continue fun D σ H h => ?_
  obtain ⟨W, env, st, he, A, q⟩ := h
  rw [evS] at q
  exact q σ W H (Ext.refl _ _) A he
/-- a test, then what follows -/
theorem tst_S {f : D → Store → R Fl} {W : Wd} {env : Env} {st : Store} {σ : L2.St} {H : Hp} {D0 : Ends} {Q' : Bool → Hp → Prop} (he : EnvOk X.K W σ env) (A : Ag X.K X.w cls W st H)
    (hf : ∀ d st', f d st' ≠ .bad → ∃ b, d = .bl b) (q : AftS X.K X.w cls U W H ((evE C i env st).bind f) D0)
    (h : ∀ b W1 H1 st1, Ext W H W1 H1 → Ag X.K X.w cls W1 st1 H1 → AftS X.K X.w cls U W1 H1 (f (.bl b) st1) D0 → Q' b H1) : tDT X.K X.w cls U (evE C i) σ H Q' := by
  refine ⟨W, env, st, he, A, fun d st' e => ?_, ?_⟩
  · rw [e] at q
    exact hf d st' fun z => by rw [R.bind_ok, z] at q; exact q
  · cases e : evE C i env st with
    | ok d st' =>
      rw [e] at q
      obtain ⟨b, rfl⟩ := hf d st' fun z => by rw [R.bind_ok, z] at q; exact q
      intro t W' H' x A' r
      cases r
      exact h _ W' H' st' x A' (AftS.shift x q)
    | err k st' => rw [e] at q; exact q
    | bad => rw [e] at q; exact q
theorem s_ite {sa sb : List Stmt} {xa xb : Ss} (h : Good X cls U C a i) (ha : GoodSs X cls U C sa xa) (hb : GoodSs X cls U C sb xb) : GoodS X cls U C (.If a sa sb pos) (.ite i xa xb) := by
  refine PS.mono (ps_if h.pt ha hb) fun D σ H h => ?_
  obtain ⟨W, env, st, he, A, q⟩ := h
  rw [evS] at q
  refine tst_S he A (fun d st' hn => ?_) q fun b W1 H1 st1 x1 A1 q1 => ?_
  · cases d with
    | bl t => exact ⟨t, rfl⟩
    | _ => exact absurd rfl hn
  · cases b with
    | true => rw [if_pos rfl]; exact ⟨W1, env, st1, he.mono x1.le, A1, q1⟩
    | false => rw [if_neg Bool.false_ne_true]; exact ⟨W1, env, st1, he.mono x1.le, A1, q1⟩
theorem s_whl {sb : List Stmt} {xb : Ss} (hpo : PassesOwn (model X.prog X.w) X.A X.env X.xe) (h : Good X cls U C a i) (hb : GoodSs X cls U C sb xb) : GoodS X cls U C (.While a sb [] pos) (.whl i xb) := by
  refine PS.mono (ps_while hpo h.pt hb) fun D σ H h => ?_
  obtain ⟨W, env, st, he, A, q⟩ := h
  rw [evS] at q
  refine ⟨fun m σ H => ∃ W env st, EnvOk X.K W σ env ∧ Ag X.K X.w cls W st H ∧ AftS X.K X.w cls U W H (whlL (evE C i) (evSs C xb) m env st) D, ⟨C.wfuel, W, env, st, he, A, q⟩, ?_⟩
  rintro m σ H ⟨W, env, st, he, A, q⟩
  cases m with
  | zero => exact q.elim
  | succ m =>
    rw [whlL] at q
    refine tst_S he A (fun d st' hn => ?_) q fun b W1 H1 st1 x1 A1 q1 => ?_
    · cases d with
      | bl t => exact ⟨t, rfl⟩
      | _ => exact absurd rfl hn
    · cases b with
      | false => rw [if_neg Bool.false_ne_true]; exact q1.next A1 (he.mono x1.le)
      | true =>
        rw [if_pos rfl]
        refine ⟨fun σ' H' => ∃ W env st, EnvOk X.K W σ' env ∧ Ag X.K X.w cls W st H' ∧ AftS X.K X.w cls U W H' (whlL (evE C i) (evSs C xb) m env st) D, fun σ' H' h => ⟨m, Nat.lt_succ_self _, h⟩, W1, env, st1, he.mono x1.le, A1, ?_⟩
        simp only at q1
        cases e : evSs C xb env st1 with
        | bad => rw [e] at q1; exact q1
        | err k s1 => rw [e] at q1; exact q1
        | ok f s1 =>
          rw [e] at q1
          cases f with
          | nx env1 => exact fun σ2 W2 H2 x2 A2 he2 => ⟨W2, env1, s1, he2, A2, AftS.shift x2 q1⟩
          | ct env1 => exact fun σ2 W2 H2 x2 A2 he2 => ⟨W2, env1, s1, he2, A2, AftS.shift x2 q1⟩
          | bk env1 => exact q1
          | rt d => exact q1
/-! ### targets by names -/
structure NmOk (X : Cx) (x : Str) (i : Nat) : Prop where
  hi : X.N[i]? = some x
  hx : Loc X.env.scope x
  hf : X.fn x = true ∨ X.env.scope.names.lookup x = some .local
inductive NmsOk (X : Cx) : List Expr → List Nat → Prop
  | nil : NmsOk X [] []
  | cons {x : Str} {p : Pos} {i : Nat} {es : List Expr} {is : List Nat} : NmOk X x i → NmsOk X es is → NmsOk X (.Name x p :: es) (i :: is)
theorem pgs_ok (hN : X.N.Nodup) : ∀ {es : List Expr} {is : List Nat}, NmsOk X es is → PGs X es (tgs is) ∧ (assignEach es X.env).length = is.length ∧ (assignEach es X.env).findIdx? (·.1) = none
  | _, _, .nil => ⟨pgs_nil, rfl, rfl⟩
  | _, _, .cons (x := x) (p := p) (es := es) n t => by
    obtain ⟨h1, h2, h3⟩ := pgs_ok hN t
    have e : assignEach (.Name x p :: es) X.env = (false, assign (.Name x p) X.env) :: assignEach es X.env := rfl
    refine ⟨pgs_cons (pg_name hN n.hi n.hx n.hf) h1 (by rw [e]; rfl), by rw [e, List.length_cons, h2]; rfl, ?_⟩
    rw [e, List.findIdx?_cons]
    simp [h3]
inductive TgOk (X : Cx) : Expr → Tg → Prop
  | one {x : Str} {p : Pos} {i : Nat} : NmOk X x i → TgOk X (.Name x p) (.one i)
  | many {es : List Expr} {is : List Nat} {k1 : Nat} {p : Pos} : NmsOk X es is → TgOk X (.Tuple es k1 p) (.many is)
theorem tg_pg (hc : X.calm = true) (hN : X.N.Nodup) {tg : Expr} {t : Tg} (h : TgOk X tg t) : PG X tg (tgR X.K t) := by
  cases h with
  | one n => exact pg_name hN n.hi n.hx n.hf
  | many n =>
    obtain ⟨h1, h2, h3⟩ := pgs_ok hN n
    exact pg_tup hc h1 h2 h3
/-! ### assignment -/
theorem s_set1 {x : Str} {n : Nat} {py : Pos} (hN : X.N.Nodup) (hn : NmOk X x n) (h : Good X cls U C a i) (hs : swapsWith a (some (.Name x py)) pos.line X.env = pure false) : GoodS X cls U C (.Assign [.Name x py] a pos) (.set (.one n) i) := by
  refine PS.mono (ps_set hN hn.hi hn.hx h.pe hs hn.hf) fun D σ H h => ?_
  obtain ⟨W, env, st, he, A, q⟩ := h
  rw [evS] at q
  exact ⟨W, env, st, he, A, (q.bind).mono fun v H1 ⟨W1, st1, d, x1, A1, r1, q1⟩ => q1.next A1 ((he.mono x1.le).set n r1)⟩
theorem s_setM {es : List Expr} {k1 : Nat} {pt : Pos} {is : List Nat} (hc : X.calm = true) (hN : X.N.Nodup) (hn : NmsOk X es is) (h : Good X cls U C a i) (hs : notComp a = true) (hw : swappedStores [.Tuple es k1 pt] a X.env = pure none) :
    GoodS X cls U C (.Assign [.Tuple es k1 pt] a pos) (.set (.many is) i) := by
  refine PS.mono (ps_asg h.pe (tg_pg hc hN (.many hn)) (by rw [swapsWithSole]; exact noswap hs) hw rfl) fun D σ H h => ?_
  obtain ⟨W, env, st, he, A, q⟩ := h
  rw [evS] at q
  refine ⟨W, env, st, he, A, (q.bind).mono fun v H1 ⟨W1, st1, d, x1, A1, r1, q1⟩ => ?_⟩
  cases e : asg (.many is) d env with
  | none => rw [e] at q1; exact q1.elim
  | some env1 =>
    rw [e] at q1
    exact tg_run A1.sub (.inl r1) (fun _ => r1) (he.mono x1.le) e fun σ1 he1 _ => q1.next A1 he1
/-- a, b = x, y with two locals -/
theorem s_par {x y : Str} {px py pt pt2 : Pos} {kt k2 n m : Nat} (hc : X.calm = true) (hN : X.N.Nodup) (hn : X.N[n]? = some x) (hm : X.N[m]? = some y) (hnm : n ≠ m) (hx : X.env.scope.names.lookup x = some .local) (hy : X.env.scope.names.lookup y = some .local)
    (ha : Good X cls U C a i) (hb : Good X cls U C b j) (hsa : noStar a = true) (hsb : noStar b = true)
    (hw : swappedStores [.Tuple [.Name x px, .Name y py] kt pt] (.Tuple [a, b] k2 pt2) X.env = pure (some [x, y])) :
    GoodS X cls U C (.Assign [.Tuple [.Name x px, .Name y py] kt pt] (.Tuple [a, b] k2 pt2) pos) (.set (.many [n, m]) (.tup (.cons i (.cons j .nil)))) := by
  refine PS.mono (ps_par hc hN hn hm hnm hx hy (pa_cons ha.pe (pa_cons hb.pe pa_nil (starEach_no hsb)) (starEach_no hsa)) hw rfl) fun D σ H h => ?_
  obtain ⟨W, env, st, he, A, q⟩ := h
  rw [evS, evE, evEs] at q
  simp only [R.bind_assoc] at q
  refine ⟨W, env, st, he, A, (q.bind).mono fun v H1 ⟨W1, st1, d, x1, A1, r1, q1⟩ => ?_⟩
  rw [evEs] at q1
  simp only [R.bind_assoc] at q1
  refine ⟨W1, env, st1, he.mono x1.le, A1, (q1.bind).mono fun u H2 ⟨W2, st2, d2, x2, A2, r2, q2⟩ => ?_⟩
  rw [evEs] at q2
  simp only [R.bind_ok] at q2
  exact ⟨v, u, rfl, AftS.next q2 A2 ((((he.mono x1.le).mono x2.le).set n (r1.mono x2.le)).set m r2)⟩
/-! ### for -/
theorem Grd.out_S {K : PySem.W.Frag} {w : World} {g : Grd} (hg : g.isDic = false) {r : R Fl} {W : Wd} {H : Hp} {D : Ends} (h : AftS K w cls U W H (g.out r) D) : AftS K w cls U W H r D := by
  cases r with
  | ok f st =>
    cases g with
    | dic _ _ => simp [Grd.isDic] at hg
    | no => exact h
    | lst n xs => exact (AftS.test h).2
    | lck n xs => exact (AftS.test h).2
  | err k st =>
    cases g with
    | dic _ _ => simp [Grd.isDic] at hg
    | _ => exact h
  | bad => cases g <;> exact h
theorem for_turns {t : Tg} {xb : Ss} {pr : Bool} {σ0 : L2.St} {D0 : Ends} {J : L2.It} {H1 : Hp} {W1 : Wd} {env : Env} {st1 : Store} {items : List D} {g : Grd}
    (hp : pr = true → ∃ is, t = .many is) (he : EnvOk X.K W1 σ0 env) (A1 : Ag X.K X.w cls W1 st1 H1) (wk : WalkD X.K X.w cls W1 J items g pr) (q : AftS X.K X.w cls U W1 H1 (forL g t (evSs C xb) items env st1) D0) :
    ∃ Wv : Nat → Nat → L2.St → Hp → Prop, (∃ m, Wv 0 m σ0 H1) ∧ ∀ i m σ H, Wv i m σ H → (J.stop i H ∧ D0.nx σ H) ∨ (J.go i H ∧ ∃ N : L2.St → Hp → Prop, (∀ σ' H', N σ' H' → ∃ m', m' < m ∧ Wv (i + 1) m' σ' H') ∧
      ∀ x H', J.yld i H x H' → tgR X.K t x σ H' fun σ2 H2 => tDS X.K X.w cls U (evSs C xb) { D0 with nx := N, ct := N, bk := D0.nx } σ2 H2) := by
  let Iv : Nat → L2.St → Hp → Prop := fun i σ H => ∃ W2 env2 st2, W1.Le W2 ∧ EnvOk X.K W2 σ env2 ∧ Ag X.K X.w cls W2 st2 H ∧ AftS X.K X.w cls U W2 H (forL g t (evSs C xb) (items.drop i) env2 st2) D0
  refine ⟨fun i m σ H => m = items.length - i ∧ i ≤ items.length ∧ Iv i σ H, ⟨items.length, by simp, Nat.zero_le _, W1, env, st1, Wd.Le.refl _, he, A1, q⟩, ?_⟩
  rintro i m σ H ⟨rfl, hi, W2, env2, st2, le, he2, A2, q2⟩
  by_cases hlt : i < items.length
  · have hd : items[i]? = some items[i] := List.getElem?_eq_getElem hlt
    rw [List.drop_eq_getElem_cons hlt, forL] at q2
    obtain ⟨hh, q2⟩ := AftS.test q2
    obtain ⟨go, _⟩ := wk W2 st2 H le A2 hh
    obtain ⟨go1, yl⟩ := go i _ hd
    refine .inr ⟨go1, Iv (i + 1), fun σ' H' h => ⟨items.length - (i + 1), by omega, rfl, hlt, h⟩, fun x H' hy => ?_⟩
    obtain ⟨yr, yp⟩ := yl x H' hy
    obtain ⟨A2', x2', hir⟩ : Ag X.K X.w cls W2 st2 H' ∧ Ext W2 H W2 H' ∧ ItR X.K W2 H' x items[i] := by
      rcases yr with ⟨rfl, r⟩ | ⟨T, y1, y2, d1, d2, rfl, hT, rfl, e, r1, r2⟩
      · exact ⟨A2, Ext.refl _ _, .inl r⟩
      · obtain ⟨f1, f2⟩ := A2.fresh hT
        exact ⟨A2.aside f1 f2, (Ext.refl W2 H).aside hT, .inr ⟨T, y1, y2, d1, d2, rfl, upd_same, e, r1, r2⟩⟩
    have ho : (∃ i, t = .one i) → Rep X.K W2 x items[i] := fun ⟨k, e⟩ => by
      cases pr with
      | true => obtain ⟨is, e2⟩ := hp rfl; rw [e] at e2; cases e2
      | false => exact (yp rfl).2
    cases e : asg t items[i] env2 with
    | none => rw [e] at q2; exact q2.elim
    | some env3 =>
      rw [e] at q2
      refine tg_run A2'.sub hir ho he2 e fun σ2 he3 _ => ⟨W2, env3, st2, he3, A2', ?_⟩
      simp only [R.of_some, R.bind_ok] at q2
      have q2 := AftS.shift x2' q2
      cases e3 : evSs C xb env3 st2 with
      | bad => rw [e3] at q2; exact q2
      | err k s1 => rw [e3] at q2; exact q2
      | ok f s1 =>
        rw [e3] at q2
        cases f with
        | nx env4 => exact fun σ3 W3 H3 x3 A3 he4 => ⟨W3, env4, s1, le.trans x3.le, he4, A3, AftS.shift x3 q2⟩
        | ct env4 => exact fun σ3 W3 H3 x3 A3 he4 => ⟨W3, env4, s1, le.trans x3.le, he4, A3, AftS.shift x3 q2⟩
        | bk env4 => exact q2
        | rt d => exact q2
  · have e : i = items.length := by omega
    subst e
    rw [List.drop_length, forL] at q2
    obtain ⟨hh, q2⟩ := AftS.test q2
    exact .inl ⟨(wk W2 st2 H le A2 hh).2, q2.next A2 he2⟩
theorem s_for {tg iter : Expr} {t : Tg} {it : It} {sb : List Stmt} {xb : Ss} {pr : Bool} (hpo : PassesOwn (model X.prog X.w) X.A X.env X.xe) (hc : X.calm = true) (hN : X.N.Nodup) (hp : it.plain = true) (hi : PI X tg iter (tDI X.K X.w cls U pr (evI C it))) (ht : TgOk X tg t)
    (hpr : pr = true → ∃ is, t = .many is) (hb : GoodSs X cls U C sb xb) (hs : ∀ x, foldedSetIterable iter X.env x = pure x) : GoodS X cls U C (.For tg iter sb [] pos) (.for t it xb) := by
  refine PS.mono (ps_for hpo hc hi (tg_pg hc hN ht) hb hs) fun D σ H h => ?_
  obtain ⟨W, env, st, he, A, q⟩ := h
  rw [evS] at q
  refine ⟨W, env, st, he, A, fun p st' e => evI_nodic hp e, ?_⟩
  cases e : evI C it env st with
  | bad => rw [e] at q; exact q
  | err k st' => rw [e] at q; exact q
  | ok pp st1 =>
    have hg := evI_nodic hp e
    rw [e] at q
    intro J W1 H1 x1 A1 hw
    have q := Grd.out_S hg (AftS.shift x1 q)
    rw [Grd.lock_plain hg] at q
    exact for_turns hpr (he.mono x1.le) A1 hw.2 q
/-- name = [..] -/
theorem s_setLc {y : Str} {n : Nat} {py spos : Pos} {m : Bool} {it : It} {t : Tg} {cond ie : E} {own : List (Str × Nat)} {pr : Bool} {elt iter tg : Expr} {ifs : List Expr} {scope : Scope} (hc : X.calm = true) (hN : X.N.Nodup) (hy : X.N[n]? = some y) (hyl : X.env.scope.names.lookup y = some .local)
    (hsw : swapsWith (.ListComp elt [⟨tg, iter, ifs, 0⟩] scope pos) (some (.Name y py)) spos.line X.env = pure true) (hp : it.plain = true)
    (hi : PI X tg iter (tDI X.K X.w cls U pr (evI C it))) (ok : BlkOk X.N X.env.scope scope own) (gb : GoodB X cls C scope tg t ifs elt cond ie) (ht : ∀ s ∈ t.slots, s ∈ own.map (·.2)) (hpr : pr = true → ∃ is, t = .many is)
    (hs : ∀ x, foldedSetIterable iter X.env x = pure x) : GoodS X cls U C (.Assign [.Name y py] (.ListComp elt [⟨tg, iter, ifs, 0⟩] scope pos) spos) (.set (.one n) (.lc m (own.map (·.2)) t it cond ie)) := by
  refine PS.mono (ps_setLc hc hN hy hyl hsw hi ok gb.g gb.c gb.e hs) fun D σ H h => ?_
  obtain ⟨W, env, st, he, A, q⟩ := h
  rw [evS] at q
  refine lc_tD (m := m) hp ht hpr ⟨W, env, st, he, A, (q.bind).mono fun v H1 ⟨W1, st1, d, x1, A1, r1, q1⟩ => ?_⟩
  exact q1.next A1 ((he.mono x1.le).set n r1)
end
end EV
/-! EvL: methods of built-in types, calls of the program's own defs. -/
namespace EV
open PySem PySem.Spec PyProof.Rows L2

section
variable {X : Cx} {cls : Nat → Option Addr} {U : XW} {C : Ctx} {a b c : Expr} {i j k : E} {pos : Pos}
/-- no bare call f() -/
def notSup : Expr → Bool
  | .Call (.Name _ _) [] [] _ => false
  | _ => true
theorem notSup_base {o : Expr} {name : Str} {env : PySem.Env} {wh : Sem Value} (h : notSup o = true) : attributeBase o name env wh = wh := by
  unfold attributeBase
  split
  · simp [notSup] at h
  · rfl
/-- a method of a built-in type -/
structure MthOk (X : Cx) (cls : Nat → Option Addr) (U : XW) (m : Mth) (name : Str) (id : String) : Prop where
  pa : PlainAttrs m.kd.nm
  sl : Slot m.kd.nm name id
  ty : typeOf (.builtin id) = pure (.type "method_descriptor")
  run : MtR X id (rM X cls U m)
theorem few_args {es : List Expr} {env : PySem.Env} (hs : es.all noStar = true) (hl : es.length < 29) :
    ((backTo pos (starEach es env)).all (fun x => !x.1) && (backToKw pos (keywordEach [] env)).all (fun x => x.1.isSome) && decide (es.length + ([] : List Keyword).length + (if ([] : List Keyword).isEmpty then 0 else 1) < 30)) = true := by
  have h1 : (backTo pos (starEach es env)).all (fun x => !x.1) = true := by
    have := plain_args (pos := pos) (env := env) hs
    rw [List.all_eq_true]
    rw [List.any_eq_false] at this
    intro x hx
    simpa using this x hx
  have h2 : (backToKw pos (keywordEach [] env)).all (fun x => x.1.isSome) = true := rfl
  rw [h1, h2]
  simp
  omega
theorem g_mth {m : Mth} {name : Str} {id : String} {apos : Pos} {es : List Expr} {is : List E} (hm : MthOk X cls U m name id) (ho : Good X cls U C a i) (t : Goods X cls U C es is) (hs : es.all noStar = true) (hl : es.length < 29) (hb : notSup a = true)
    (hline : (apos.endLine == pos.line) = true) : Good X cls U C (.Call (.Attribute a name apos) es [] pos) (.mth m i (listEs is)) := by
  refine good_val ⟨fun pins s σ H Q I h => ?_⟩ fun _ => rfl
  obtain ⟨W, env, st, he, A, q⟩ := h
  rw [evE] at q
  have h0 := ho.pe.run pins s σ H _ I ⟨W, env, st, he, A, Aft.bind (rel := Rep X.K) q⟩
  refine wpAny_Call_method_late (notSup_base hb) (few_args hs hl) hline rfl (thn h0 fun v s1 ⟨x, H1, I1, r1, W1, st1, d, x1, A1, rx, q1⟩ => ?_)
  obtain ⟨hok, q1⟩ := Aft.test q1
  obtain ⟨h1, h2⟩ := rx.ty I1 A1 (of_decide_eq_true hok) (by cases m <;> simp [Mth.kd]) r1
  refine ⟨m.kd.nm, id, hm.pa, hm.sl, hm.ty, h1, h2, ?_⟩
  cases t with
  | nil =>
    refine Calls.callWith_builtin (plain_args hs) ?_
    rw [listEs, evEs] at q1
    exact PySem.evalArgs_none (hm.run pins s1 σ H1 x [] v [] Q I1 r1 .nil ⟨W1, st1, d, [], A1, rx, .nil, q1⟩)
  | @cons e ie es is g t =>
    have hA := (args_ok (.cons g t) hs).run pos pins s1 σ H1 (fun vs H2 => rM X cls U m x vs H2 Q) I1 ⟨W1, env, st1, he.mono x1.le, A1, (q1.bind).mono fun vs H2 ⟨W2, st2, ds, x2, A2, r2, q2⟩ => ⟨W2, st2, d, ds, A2, rx.mono x2.le, r2, q2⟩⟩
    refine Calls.callWith_builtin (plain_args hs) ?_
    rw [List.all_cons, Bool.and_eq_true] at hs
    rw [starEach_no hs.1] at hA ⊢
    refine Calls.evalArgs_plain ?_
    exact thn hA fun us s2 ⟨vs, H2, I2, r2, q2⟩ => hm.run pins s2 σ H2 x vs v us Q I2 r1 r2 q2
/-! ### calls of own defs -/
/-- a def's promise: what the evaluator tells of it -/
def spD (K : PySem.W.Frag) (w : World) (cls : Nat → Option Addr) (xa : Nat → Addr) (call : List D → Store → R D) : Sp := fun vs H Q E => ∃ W st ds, Ag K w cls W st H ∧ RepL K W vs ds ∧ Aft K w cls (fun k H' => E (.ref (xa k)) none H') (Rep K) W H (call ds st) Q
/-- the wish of exceptions, by numbers of classes -/
def wU (xa : Nat → Addr) (U : XW) : XK := fun c d H => ∃ k, c = .ref (xa k) ∧ d = none ∧ U k H
theorem passes_U {xa : Nat → Addr} (tk : Takes X (fun c d _ H => wU xa U c d H)) : Passes (L2.CX X.prog X.w) X (wU xa U) := passes_call tk fun _ _ _ _ h => h
theorem Aft.impU {K : PySem.W.Frag} {w : World} {α β : Type} {rel : Wd → β → α → Prop} {W : Wd} {H : Hp} {U U' : XW} {r : R α} {Q : β → Hp → Prop} (h : Aft K w cls U rel W H r Q) (hU : ∀ k H, U k H → U' k H) : Aft K w cls U' rel W H r Q := by
  cases r with
  | ok a st => exact h
  | err k st => exact fun W' H' x A => hU k H' (h W' H' x A)
  | bad => exact h
theorem g_call {n f : Nat} {fa : Addr} {fd : FuncData} {ps : List Str} {xa : Nat → Addr} {x : Str} {p : Pos} {es : List Expr} {is : List E} (F : FnOk X.prog X.w X.K X.mg X.base (L2.CX X.prog X.w) n fa fd ps (spD X.K X.w cls xa (C.call f)))
    (hr : Room n X.A) (hg : Gl X x) (hm : X.mg x = some (.ref fa)) (hk : PySem.W.keepIn X.K (.ref fa) = true) (hb : Binds X.K fd ps []) (tk : Takes X (fun c d _ H => wU xa U c d H)) (hdb : (x == ("__debug__" : Str)) = false)
    (t : Goods X cls U C es is) (hs : es.all noStar = true) : Good X cls U C (.Call (.Name x p) es [] pos) (.call f (listEs is)) := by
  cases t with
  | nil =>
    refine good_val (PE.mono (pe_call0 F hr hg hm hk hb .nil (passes_U tk) hdb) fun σ H Q h => ?_) fun _ => rfl
    obtain ⟨W, env, st, he, A, q⟩ := h
    rw [evE, listEs, evEs] at q
    exact ⟨W, st, [], A, .nil, Aft.impU q fun k H u => ⟨k, rfl, rfl, u⟩⟩
  | @cons e ie es is g t =>
    have hs' := hs
    rw [List.all_cons, Bool.and_eq_true] at hs'
    refine good_val (PE.mono (pe_call F hr hg hm hk hb .nil (passes_U tk) (args_ok (.cons g t) hs) hdb (starEach_no hs'.1) (plain_args hs'.2)) fun σ H Q h => ?_) fun _ => rfl
    obtain ⟨W, env, st, he, A, q⟩ := h
    rw [evE] at q
    refine ⟨W, env, st, he, A, (q.bind).mono fun vs H1 ⟨W1, st1, ds, x1, A1, r1, q1⟩ => ?_⟩
    rw [List.append_nil]
    exact ⟨W1, st1, ds, A1, r1, Aft.impU q1 fun k H u => ⟨k, rfl, rfl, u⟩⟩
end
end EV
/-! EvM: a def keeps its promise. -/
namespace EV
open PySem PySem.Spec PyProof.Rows L2

section
variable {K : PySem.W.Frag} {w : World} {cls : Nat → Option Addr} {W W' : Wd} {H H' : Hp} {st st' : Store} {n : Nat}
theorem RepF.cut : ∀ {vs : List (Str × V)} {ds : List (Str × D)}, RepF K W vs ds → lowFs n ds = true → RepF K ⟨W.G, W.ρ.take n⟩ vs ds
  | _, _, .nil, _ => .nil
  | _, _, .cons h t, e => by
    rw [lowFs, Bool.and_eq_true] at e
    exact .cons (h.cut e.1) (RepF.cut t e.2)
theorem RepF.low : ∀ {vs : List (Str × V)} {ds : List (Str × D)}, RepF K W vs ds → lowFs W.ρ.length ds = true
  | _, _, .nil => rfl
  | _, _, .cons h t => by rw [lowFs, h.low, RepF.low t]; rfl
theorem RepE.cut : ∀ {es : List DictEntry} {kvs : List (D × D)}, RepE K w W es kvs → lowKv n kvs = true → RepE K w ⟨W.G, W.ρ.take n⟩ es kvs
  | _, _, .nil, _ => .nil
  | _, _, .cons hk ⟨k, rk, qk⟩ hh ⟨v, rv, qv⟩ t, e => by
    rw [lowKv, Bool.and_eq_true, Bool.and_eq_true] at e
    exact .cons hk ⟨k, rk, qk.cut e.1⟩ hh ⟨v, rv, qv.cut e.2.1⟩ (RepE.cut t e.2.2)
theorem RepE.low : ∀ {es : List DictEntry} {kvs : List (D × D)}, RepE K w W es kvs → lowKv W.ρ.length kvs = true
  | _, _, .nil => rfl
  | _, _, .cons hk ⟨k, rk, qk⟩ hh ⟨v, rv, qv⟩ t => by rw [lowKv, qk.low, qv.low, RepE.low t]; rfl
theorem OAt.cut {a : Addr} {o : O} (h : OAt K w cls W H a o) (e : o.low n = true) : OAt K w cls ⟨W.G, W.ρ.take n⟩ H a o := by
  cases o with
  | lst ds => obtain ⟨xs, h1, h2, h3⟩ := h; exact ⟨xs, h1, h2.cut e, h3⟩
  | dic kvs => obtain ⟨o, h1, on, h2, h3, es, ep, h4, h5, h6, h7⟩ := h; exact ⟨o, h1, on, h2, h3, es, ep, h4, h5, h6.cut e, h7⟩
  | lck kvs => obtain ⟨o, h1, on, h2, h3, es, ep, h4, h5, h6, h7⟩ := h; exact ⟨o, h1, on, h2, h3, es, ep, h4, h5, h6.cut e, h7⟩
  | ins c fs => obtain ⟨C, dx, vs, h1, h2, h3⟩ := h; exact ⟨C, dx, vs, h1, h2, h3.cut e⟩
theorem OAt.low {a : Addr} {o : O} (h : OAt K w cls W H a o) : o.low W.ρ.length = true := by
  cases o with
  | lst ds => obtain ⟨xs, h1, h2, h3⟩ := h; exact h2.low
  | dic kvs => obtain ⟨o, h1, on, h2, h3, es, ep, h4, h5, h6, h7⟩ := h; exact h6.low
  | lck kvs => obtain ⟨o, h1, on, h2, h3, es, ep, h4, h5, h6, h7⟩ := h; exact h6.low
  | ins c fs => obtain ⟨C, dx, vs, h1, h2, h3⟩ := h; exact h3.low
theorem lowO_of : ∀ {l : List O}, (∀ o ∈ l, o.low n = true) → lowO n l = true
  | [], _ => rfl
  | o :: r, h => by rw [lowO, h o (by simp), lowO_of fun x hx => h x (by simp [hx])]; rfl
theorem of_lowO : ∀ {l : List O}, lowO n l = true → ∀ o ∈ l, o.low n = true
  | [], _, o, ho => by simp at ho
  | p :: r, h, o, ho => by
    rw [lowO, Bool.and_eq_true] at h
    rcases List.mem_cons.mp ho with rfl | z
    · exact h.1
    · exact of_lowO h.2 o z
theorem Ag.low (A : Ag K w cls W st H) : lowO st.length st = true := lowO_of fun o ho => by
  obtain ⟨i, hi, e⟩ := List.getElem_of_mem ho
  have hl : i < W.ρ.length := by rw [A.len]; exact hi
  rw [← A.len]
  exact (A.obj i o _ (by rw [List.getElem?_eq_getElem hi, e]) (List.getElem?_eq_getElem hl)).low
theorem Ag.cut (A : Ag K w cls W st H) (hl : lowO n (st.take n) = true) : Ag K w cls ⟨W.G, W.ρ.take n⟩ (st.take n) H := by
  refine ⟨A.sub, by rw [List.length_take, List.length_take, A.len], A.nd.sublist (List.take_sublist _ _), fun a ha => A.out a (List.mem_of_mem_take ha), fun i o a h1 h2 => ?_⟩
  have ho : o ∈ st.take n := List.mem_of_getElem? h1
  rw [List.getElem?_take] at h1 h2
  split at h1
  · rename_i hi
    rw [if_pos hi] at h2
    exact (A.obj i o a h1 h2).cut (of_lowO hl o ho)
  · cases h1
theorem Ext.cut (x : Ext W H W' H') (hn : W.ρ.length = n) : Ext W H ⟨W'.G, W'.ρ.take n⟩ H' := by
  refine ⟨x.g, ⟨[], ?_, by simp⟩, x.fr, x.dom, x.gn⟩
  obtain ⟨more, e, _⟩ := x.r
  rw [e, List.append_nil, ← hn]
  simp
theorem keepN_low (A : Ag K w cls W st H) (h : keepN st.length st st' = true) : lowO st.length (st'.take st.length) = true := by
  rw [keepN, Bool.or_eq_true] at h
  rcases h with h | h
  · rw [of_sameO _ _ h]
    exact A.low
  · exact h
/-- behind a body -/
theorem back_ok {U : XW} {r : R Fl} {Q : VK} (A : Ag K w cls W st H) (q : Aft K w cls U (Rep K) W H (backR st r) Q) : AftS K w cls U W H r { nx := fun _ H' => Q .non H', rt := Q } := by
  have val : ∀ v st', Aft K w cls U (Rep K) W H (backV st v st') Q → ∀ x W' H', Ext W H W' H' → Ag K w cls W' st' H' → Rep K W' x v → Q x H' := by
    intro v st' q x W' H' e A' r
    rw [backV] at q
    split at q
    · rename_i hb
      rw [Bool.and_eq_true] at hb
      exact q x _ H' (e.cut A.len) (A'.cut (keepN_low A hb.2)) (r.cut hb.1)
    · exact q x W' H' e A' r
  cases r with
  | ok f st' =>
    cases f with
    | rt v => exact val v st' q
    | nx env => exact fun σ W' H' e A' he => val .non st' q .non W' H' e A' .non
    | bk env => exact q.elim
    | ct env => exact q.elim
  | err k st' =>
    intro W' H' e A'
    have q : Aft K w cls U (Rep K) W H (backX st k st') Q := q
    rw [backX] at q
    split at q
    · rename_i hb
      exact q _ H' (e.cut A.len) (A'.cut (keepN_low A hb))
    · exact q W' H' e A'
  | bad => exact q
theorem env_start {N : List Str} {vs : List V} {ds : List D} (r : RepL K W vs ds) : EnvOk K W (L2.start N vs) (ds.map some ++ List.replicate (N.length - ds.length) none) := by
  refine ⟨by simp [L2.start, r.length], fun i d e => ?_⟩
  rw [L2.start]
  by_cases hi : i < ds.length
  · rw [List.getElem?_append_left (by simpa using hi), List.getElem?_map] at e
    cases e2 : ds[i]? with
    | none => rw [e2] at e; cases e
    | some d2 =>
      rw [e2] at e
      cases e
      obtain ⟨x, h1, h2⟩ := r.get e2
      refine ⟨x, ?_, h2⟩
      rw [List.getElem?_append_left (by rw [List.length_map, r.length]; exact hi), List.getElem?_map, h1]
      rfl
  · rw [List.getElem?_append_right (by simpa using hi), List.getElem?_replicate] at e
    split at e <;> cases e
end
/-- THE RULE of a def -/
theorem fn_D {P : Program} {w : World} {K : PySem.W.Frag} {mg : Str → Option Value} {base : Heap} {cls : Nat → Option Addr} {xa : Nat → Addr} {x qual : Str} {params : Arguments} {body : List Stmt} {scope : Scope} {dvs : List V} {kws : List (Str × V)} {f : Addr} {fd : FuncData} {N ps : List Str} {n : Nat} {C : Ctx} {d : FDef}
    (F : FunD K x qual params body scope dvs kws f fd) (S : FnScope N ps scope) (hp : d.np = ps.length) (hs : d.ns = N.length)
    (hb : ∀ (cdv : Value) (A : Around) (outer : List PySem.Env) (s : Shared) (H : Hp) (E : XK), Room n (A.deeper (envOfC qual scope s.heap.objs.size f cdv)) →
      GoodSs (cxOf (L2.CX P w) P w K mg base N qual scope f cdv A outer s H E) cls (fun k H => E (.ref (xa k)) none H) C body d.body) :
    FnOk P w K mg base (L2.CX P w) (n + 1) f fd ps (spD K w cls xa (d.run C)) := by
  refine F.ok S (fun vs H Q E h => ?_) fun cdv A outer s H vs Q E hr h => ?_
  · obtain ⟨W, st, ds, A, r, q⟩ := h
    rw [FDef.run] at q
    split at q
    · rename_i e
      rw [r.length, e, hp]
    · exact q.elim
  · obtain ⟨W, st, ds, Ag, r, q⟩ := h
    rw [FDef.run] at q
    split at q
    · rename_i e
      refine ⟨_, hb cdv A outer s H E hr, W, _, st, env_start r, Ag, ?_⟩
      rw [hs, ← e] at q
      exact back_ok Ag q
    · exact q.elim
end EV
/-! EvN: from the model's syntax to the small language: expressions. -/
namespace EV
open PySem PySem.Spec PyProof.Rows L2

def mapO {α β : Type} (f : α → Option β) : List α → Option (List β)
  | [] => some []
  | x :: xs => match f x, mapO f xs with
    | some y, some ys => some (y :: ys)
    | _, _ => none
def guardO {α : Type} (b : Bool) (x : Option α) : Option α := match b with
  | true => x
  | false => none
theorem guardO_some {α : Type} {b : Bool} {x : Option α} {y : α} (h : guardO b x = some y) : b = true ∧ x = some y := by
  cases b with
  | true => exact ⟨rfl, h⟩
  | false => cases h
/-- what is known ahead: the slots' names, own defs by name, the names of built-in things that are not bound -/
structure Tab where
  N : List Str
  fn : List (Str × Nat)
  free : List Str
  nums : List (Str × Int)
structure TabOk (X : Cx) (cls : Nat → Option Addr) (xa : Nat → Addr) (C : Ctx) (T : Tab) : Prop where
  N : X.N = T.N
  nd : X.N.Nodup
  hu : X.A.units + 64 < cLine
  calm : X.calm = true
  lib : ∀ X' : Cx, X'.calm = true → X'.A.units + 64 < cLine → Lib X' cls
  fns : ∀ x f, T.fn.lookup x = some f → ∃ n fa fd ps, FnOk X.prog X.w X.K X.mg X.base (L2.CX X.prog X.w) n fa fd ps (spD X.K X.w cls xa (C.call f)) ∧ Room n X.A ∧ X.mg x = some (.ref fa) ∧ PySem.W.keepIn X.K (.ref fa) = true ∧ Binds X.K fd ps []
  free : ∀ x, T.free.contains x = true → X.mg x = none
  nums : ∀ x i, T.nums.lookup x = some i → ∃ t, X.mg x = some (.int i t)
structure Pre (X : Cx) (cls : Nat → Option Addr) (xa : Nat → Addr) (U : XW) (C : Ctx) (T : Tab) (sc : Scope) : Prop where
  tb : TabOk X cls xa C T
  sc : X.env.scope = sc
  tk : Takes X (fun c d _ H => wU xa U c d H)
abbrev Rec := Scope → Expr → Option E
def RecOk (cls : Nat → Option Addr) (xa : Nat → Addr) (C : Ctx) (T : Tab) (rec : Rec) : Prop := ∀ X U sc e i, Pre X cls xa U C T sc → rec sc e = some i → Good X cls U C e i
/-- a comprehension's scope as it runs -/
def relS (scope sc : Scope) : Scope := relabel scope (envOfC "" sc 0 0 .none)
/-! ### names -/
def nmC (N : List Str) (sc : Scope) (fnb : Str → Bool) (x : Str) : Option Nat :=
  guardO (decide (N[N.idxOf x]? = some x) && (decide (sc.names.lookup x = some .local) || (decide (sc.names.lookup x = some .cell) && fnb x))) (some (N.idxOf x))
def nmsC (N : List Str) (sc : Scope) (fnb : Str → Bool) : List Expr → Option (List Nat)
  | [] => some []
  | .Name x _ :: es => match nmC N sc fnb x, nmsC N sc fnb es with
    | some i, some is => some (i :: is)
    | _, _ => none
  | _ => none
def tgC (N : List Str) (sc : Scope) (fnb : Str → Bool) : Expr → Option Tg
  | .Name x _ => (nmC N sc fnb x).map .one
  | .Tuple es _ _ => (nmsC N sc fnb es).map .many
  | _ => none
def visC (sc : Scope) (x : Str) : Bool := decide (sc.names.lookup x = some .local) || decide (sc.names.lookup x = some .cell) || decide (sc.names.lookup x = some .free)
def glC (sc : Scope) (x : Str) : Bool := decide (sc.names.lookup x = some .globalImplicit)
def conC : Const → Option D
  | .none => some .non
  | .bool b => some (.bl b)
  | .int i => some (.int i)
  | .str s => some (.str s)
  | _ => none
def cName (T : Tab) (sc : Scope) (x : Str) : Option E := match glC sc x with
  | false => guardO (decide (T.N[T.N.idxOf x]? = some x) && visC sc x && !(x == ("__debug__" : Str)) && !(x == ("__classdict__" : Str))) (some (.var (T.N.idxOf x)))
  | true => guardO (!(x == ("__debug__" : Str))) ((T.nums.lookup x).map fun i => .con (.int i))
/-! ### forms -/
def cUn (rec : Rec) (sc : Scope) : UnaryOp → Expr → Option E
  | .USub, a => (rec sc a).map .neg
  | .Not, a => (rec sc a).map .not
  | _, _ => none
def cCmp (rec : Rec) (sc : Scope) (a : Expr) : List CmpOp → List Expr → Option E
  | [op], [b] => guardO (!behindInMarks op b) (match rec sc a, rec sc b with
    | some i, some j => some (.cmp op i j)
    | _, _ => none)
  | [o1, o2], [b, c] => guardO (!behindInMarks o2 c) (match rec sc a, rec sc b, rec sc c with
    | some i, some j, some k => some (.chn o1 o2 i j k)
    | _, _, _ => none)
  | _, _ => none
def cBool (rec : Rec) (sc : Scope) : BoolOp → List Expr → Option E
  | .And, a :: es => match rec sc a, mapO (rec sc) es with
    | some i, some is => some (andsI i is)
    | _, _ => none
  | .Or, a :: es => match rec sc a, mapO (rec sc) es with
    | some i, some is => some (orsI i is)
    | _, _ => none
  | _, _ => none
def cPo (rec : Rec) (sc : Scope) : Option Expr → Option Po
  | none => some .no
  | some e => (rec sc e).map .is
def cSub (rec : Rec) (sc : Scope) (a : Expr) : Expr → Option E
  | .Slice lo hi none _ => match rec sc a, cPo rec sc lo, cPo rec sc hi with
    | some i, some l, some h => some (.sli i l h)
    | _, _, _ => none
  | .Slice none none (some (.UnaryOp .USub (.Constant (.int 1) _ _) _)) _ => (rec sc a).map .rev
  | b => guardO (notSlice b) (match rec sc a, rec sc b with
    | some i, some j => some (.idx i j)
    | _, _ => none)
def notSet : Expr → Bool
  | .Set _ _ _ => false
  | _ => true
/-- what a for walks -/
def cIt (T : Tab) (rec : Rec) (sc : Scope) : Expr → Option It
  | .Call (.Name x p) [a] [] q => match (x == ("range" : Str)) with
    | true => guardO (glC sc x && T.free.contains x && noStar a) ((rec sc a).map .rng1)
    | false => (rec sc (.Call (.Name x p) [a] [] q)).map .seq
  | .Call (.Name x p) [a, b] [] q => match (x == ("range" : Str)) with
    | true => guardO (glC sc x && T.free.contains x && noStar a && noStar b) (match rec sc a, rec sc b with
      | some i, some j => some (.rng2 i j)
      | _, _ => none)
    | false => (rec sc (.Call (.Name x p) [a, b] [] q)).map .seq
  | e => (rec sc e).map .seq
def cCond (rec : Rec) (sc : Scope) : List Expr → Option E
  | [] => some (.con (.bl true))
  | [c] => rec sc c
  | _ => none
def ownC (N : List Str) (scope : Scope) : List (Str × Nat) := (scope.names.filter fun y => (y.2 == .local || y.2 == .cell) && N.contains y.1).map fun y => (y.1, N.idxOf y.1)
def Tg.slotsIn (t : Tg) (own : List (Str × Nat)) : Bool := t.slots.all fun s => (own.map (·.2)).contains s
def cLc (T : Tab) (rec : Rec) (sc : Scope) (m : Bool) (elt : Expr) (scope : Scope) : List Comprehension → Option E
  | [⟨tg, iter, ifs, 0⟩] =>
    match tgC T.N (relS scope sc) (fun x => scope.names.lookup x == some .cell) tg, cIt T rec sc iter, cCond rec (relS scope sc) ifs, rec (relS scope sc) elt with
    | some t, some it, some c, some e => guardO (notSet iter && blkC T.N sc scope (ownC T.N scope) && t.slotsIn (ownC T.N scope)) (some (.lc m ((ownC T.N scope).map (·.2)) t it c e))
    | _, _, _, _ => none
  | _ => none
/-! ### calls -/
def Blt.nm : Blt → Str
  | .len => "len" | .sum => "sum" | .any => "any" | .all => "all" | .sorted => "sorted" | .tuple => "tuple" | .list => "list" | .int => "int" | .str => "str" | .abs => "abs" | .min2 => "min" | .max2 => "max" | .max1 => "max"
  | .tupRange => "" | .isT _ => ""
def Blt.ar : Blt → Nat
  | .min2 => 2 | .max2 => 2 | .tupRange => 0 | .isT _ => 0 | _ => 1
def bltAll : List Blt := [.len, .sum, .any, .all, .sorted, .tuple, .list, .int, .str, .abs, .min2, .max2, .max1]
def kdOf (x : Str) : Option Kd := if (x == ("int" : Str)) = true then some .int else if (x == ("bool" : Str)) = true then some .bl else if (x == ("str" : Str)) = true then some .str else if (x == ("tuple" : Str)) = true then some .tup
  else if (x == ("list" : Str)) = true then some .lst else if (x == ("dict" : Str)) = true then some .dic else none
def cIsT (T : Tab) (rec : Rec) (sc : Scope) : List Expr → Option E
  | [a, .Name x _] => match kdOf x, rec sc a with
    | some t, some i => guardO (glC sc "isinstance" && T.free.contains "isinstance" && glC sc x && T.free.contains x && noStar a) (some (.blt (.isT t) (.cons i .nil)))
    | _, _ => none
  | _ => none
def cBlt (T : Tab) (rec : Rec) (sc : Scope) (x : Str) (es : List Expr) : Option E :=
  match bltAll.find? fun b => (b.nm == x && b.ar == es.length) with
  | none => none
  | some b => match mapO (rec sc) es with
    | some is => guardO (glC sc x && T.free.contains x && es.all noStar) (some (.blt b (listEs is)))
    | none => none
def cCall (T : Tab) (rec : Rec) (sc : Scope) (x : Str) (es : List Expr) : Option E :=
  match T.fn.lookup x with
  | some f => match mapO (rec sc) es with
    | some is => guardO (glC sc x && es.all noStar && !(x == ("__debug__" : Str))) (some (.call f (listEs is)))
    | none => none
  | none => match (x == ("isinstance" : Str)) with
    | true => cIsT T rec sc es
    | false => cBlt T rec sc x es
def Mth.nm : Mth → Str
  | .count => "count" | .split => "split" | .join => "join" | .get2 => "get" | .append => "append" | .extend => "extend" | .pop => "pop" | .items => ""
def mthAll : List Mth := [.count, .split, .join, .get2, .append, .extend, .pop]
def cMth (T : Tab) (rec : Rec) (sc : Scope) (o : Expr) (name : Str) (apos : Pos) (es : List Expr) (pos : Pos) : Option E :=
  match mthAll.find? fun m => m.nm == name with
  | some m => match rec sc o, mapO (rec sc) es with
    | some i, some is => guardO (es.all noStar && decide (es.length < 29) && notSup o && (apos.endLine == pos.line)) (some (.mth m i (listEs is)))
    | _, _ => none
  | none => none
def stepE (T : Tab) (rec : Rec) (sc : Scope) : Expr → Option E
  | .Name x _ => cName T sc x
  | .Constant c _ _ => (conC c).map .con
  | .BinOp a op b _ => match rec sc a, rec sc b with
    | some i, some j => some (.bin op i j)
    | _, _ => none
  | .UnaryOp op a _ => cUn rec sc op a
  | .Compare a ops bs _ => cCmp rec sc a ops bs
  | .BoolOp op es _ => cBool rec sc op es
  | .Tuple es _ _ => guardO (es.all noStar) ((mapO (rec sc) es).map fun is => .tup (listEs is))
  | .List es _ => guardO (es.all noStar) ((mapO (rec sc) es).map fun is => .lst (listEs is))
  | .Subscript a b _ => cSub rec sc a b
  | .ListComp elt gs scope _ => cLc T rec sc false elt scope gs
  | .Call (.Name x _) es [] _ => cCall T rec sc x es
  | .Call (.Attribute o name apos) es [] pos => cMth T rec sc o name apos es pos
  | _ => none
def cE (T : Tab) : Nat → Rec
  | 0, _, _ => none
  | n + 1, sc, e => stepE T (cE T n) sc e
end EV
/-! EvO: what EvN makes is sound: expressions. -/
namespace EV
open PySem PySem.Spec PyProof.Rows L2

section
variable {X : Cx} {cls : Nat → Option Addr} {xa : Nat → Addr} {U : XW} {C : Ctx} {T : Tab} {sc : Scope} {rec : Rec} {a b c : Expr} {i j k : E} {pos : Pos}
theorem goods_of (h : RecOk cls xa C T rec) (p : Pre X cls xa U C T sc) : ∀ {es : List Expr} {is : List E}, mapO (rec sc) es = some is → Goods X cls U C es is
  | [], is, e => by cases e; exact .nil
  | x :: xs, is, e => by
    rw [mapO] at e
    split at e
    · rename_i y ys h1 h2
      cases e
      exact .cons (h X U sc x y p h1) (goods_of h p h2)
    · cases e
theorem mapO_length {α β : Type} {f : α → Option β} : ∀ {xs : List α} {ys : List β}, mapO f xs = some ys → xs.length = ys.length
  | [], ys, e => by cases e; rfl
  | x :: xs, ys, e => by
    rw [mapO] at e
    split at e
    · rename_i y zs h1 h2
      cases e
      simp [mapO_length h2]
    · cases e
theorem gl_of (p : Pre X cls xa U C T sc) {x : Str} (h : glC sc x = true) : Gl X x := by
  rw [← p.sc] at h
  exact (of_decide_eq_true h : X.env.scope.names.lookup x = some .globalImplicit)
theorem nmC_ok {fnb : Str → Bool} (hN : X.N = T.N) (hsc : X.env.scope = sc) (hf : ∀ x, fnb x = true → X.fn x = true) {x : Str} {n : Nat} (h : nmC T.N sc fnb x = some n) : NmOk X x n := by
  obtain ⟨h1, h2⟩ := guardO_some h
  cases h2
  simp only [Bool.and_eq_true, Bool.or_eq_true, decide_eq_true_eq] at h1
  rw [← hsc, ← hN] at h1
  refine ⟨by rw [← hN]; exact h1.1, h1.2.imp id (·.1), ?_⟩
  rcases h1.2 with z | z
  · exact .inr z
  · exact .inl (hf x z.2)
theorem nmsC_ok {fnb : Str → Bool} (hN : X.N = T.N) (hsc : X.env.scope = sc) (hf : ∀ x, fnb x = true → X.fn x = true) : ∀ {es : List Expr} {is : List Nat}, nmsC T.N sc fnb es = some is → NmsOk X es is
  | [], is, e => by cases e; exact .nil
  | x :: xs, is, e => by
    unfold nmsC at e
    split at e
    · cases e; rename_i h; cases h
    · rename_i h
      cases h
      split at e
      · rename_i h1 h2
        cases e
        exact .cons (nmC_ok hN hsc hf h1) (nmsC_ok hN hsc hf h2)
      · cases e
    · cases e
theorem tgC_ok {fnb : Str → Bool} (hN : X.N = T.N) (hsc : X.env.scope = sc) (hf : ∀ x, fnb x = true → X.fn x = true) {tg : Expr} {t : Tg} (h : tgC T.N sc fnb tg = some t) : TgOk X tg t := by
  unfold tgC at h
  split at h
  · cases e : nmC T.N sc fnb ‹_› with
    | none => rw [e] at h; cases h
    | some n => rw [e] at h; cases h; exact .one (nmC_ok hN hsc hf e)
  · cases e : nmsC T.N sc fnb ‹_› with
    | none => rw [e] at h; cases h
    | some n => rw [e] at h; cases h; exact .many (nmsC_ok hN hsc hf e)
  · cases h
theorem o_name {x : Str} (p : Pre X cls xa U C T sc) (h : cName T sc x = some i) : Good X cls U C (.Name x pos) i := by
  unfold cName at h
  split at h
  · obtain ⟨h1, h2⟩ := guardO_some h
    cases h2
    simp only [Bool.and_eq_true, decide_eq_true_eq, Bool.not_eq_true'] at h1
    have hv := h1.1.1.2
    rw [← p.sc] at hv
    simp only [visC, Bool.or_eq_true, decide_eq_true_eq] at hv
    refine good_val (d_var (by rw [p.tb.N]; exact h1.1.1.1) (hv.elim (fun q => q.elim .inl fun z => .inr (.inl z)) fun z => .inr (.inr z)) h1.1.2 h1.2 C) fun _ => rfl
  · rename_i hg
    obtain ⟨h1, h2⟩ := guardO_some h
    cases e : T.nums.lookup x with
    | none => rw [e] at h2; cases h2
    | some n =>
      rw [e] at h2
      cases h2
      obtain ⟨t, hm⟩ := p.tb.nums x n e
      have pe : PE X (.Name x pos) (tC (.int n)) := ⟨fun pins s σ H Q I q => ld_glob I (gl_of p hg) hm ⟨.int n, H, I, ⟨t, rfl⟩, q⟩ (by simpa using h1)⟩
      exact good_val (d_con pe (fun _ => .int _) C) fun _ => rfl
theorem o_con {v : Const} {n : Nat} (h : (conC v).map E.con = some i) : Good X cls U C (.Constant v n pos) i := by
  cases v with
  | none => cases h; exact good_val (d_con pe_non (fun _ => .non) C) fun _ => rfl
  | bool b => cases h; exact good_val (d_con pe_bl (fun _ => .bl _) C) fun _ => rfl
  | int b => cases h; exact good_val (d_con pe_int (fun _ => .int _) C) fun _ => rfl
  | str b => cases h; exact good_val (d_con pe_str (fun _ => .str _) C) fun _ => rfl
  | _ => cases h
theorem o_un {op : UnaryOp} (hr : RecOk cls xa C T rec) (p : Pre X cls xa U C T sc) (h : cUn rec sc op a = some i) : Good X cls U C (.UnaryOp op a pos) i := by
  cases op with
  | USub =>
    rw [cUn] at h
    cases e : rec sc a with
    | none => rw [e] at h; cases h
    | some j => rw [e] at h; cases h; exact g_neg (hr X U sc a j p e)
  | Not =>
    rw [cUn] at h
    cases e : rec sc a with
    | none => rw [e] at h; cases h
    | some j => rw [e] at h; cases h; exact g_not (hr X U sc a j p e)
  | _ => cases h
theorem Pre.lib (p : Pre X cls xa U C T sc) : Lib X cls := p.tb.lib X p.tb.calm p.tb.hu
theorem o_cmp {ops : List CmpOp} {bs : List Expr} (hr : RecOk cls xa C T rec) (p : Pre X cls xa U C T sc) (h : cCmp rec sc a ops bs = some i) : Good X cls U C (.Compare a ops bs pos) i := by
  unfold cCmp at h
  split at h
  · obtain ⟨h1, h2⟩ := guardO_some h
    split at h2
    · rename_i e1 e2
      cases h2
      exact g_cmp p.tb.hu p.lib.toDicR (hr X U sc _ _ p e1) (hr X U sc _ _ p e2) (by simpa using h1)
    · cases h2
  · obtain ⟨h1, h2⟩ := guardO_some h
    split at h2
    · rename_i e1 e2 e3
      cases h2
      exact g_chn p.tb.hu p.lib.toDicR (hr X U sc _ _ p e1) (hr X U sc _ _ p e2) (hr X U sc _ _ p e3) (by simpa using h1)
    · cases h2
  · cases h
theorem o_bool {op : BoolOp} {es : List Expr} (hr : RecOk cls xa C T rec) (p : Pre X cls xa U C T sc) (h : cBool rec sc op es = some i) : Good X cls U C (.BoolOp op es pos) i := by
  unfold cBool at h
  split at h
  · split at h
    · rename_i e1 e2
      cases h
      exact g_ands (hr X U sc _ _ p e1) (goods_of hr p e2)
    · cases h
  · split at h
    · rename_i e1 e2
      cases h
      exact g_ors (hr X U sc _ _ p e1) (goods_of hr p e2)
    · cases h
  · cases h
theorem o_po {o : Option Expr} {q : Po} (hr : RecOk cls xa C T rec) (p : Pre X cls xa U C T sc) (h : cPo rec sc o = some q) : GoodO X cls U C o q := by
  cases o with
  | none => cases h; exact .none
  | some e =>
    rw [cPo] at h
    cases z : rec sc e with
    | none => rw [z] at h; cases h
    | some j => rw [z] at h; cases h; exact .some (hr X U sc _ _ p z)
theorem o_sub (hr : RecOk cls xa C T rec) (p : Pre X cls xa U C T sc) (h : cSub rec sc a b = some i) : Good X cls U C (.Subscript a b pos) i := by
  unfold cSub at h
  split at h
  · split at h
    · rename_i e1 e2 e3
      cases h
      exact g_sli (hr X U sc _ _ p e1) (o_po hr p e2) (o_po hr p e3)
    · cases h
  · cases e : rec sc a with
    | none => rw [e] at h; cases h
    | some j => rw [e] at h; cases h; exact g_rev (hr X U sc _ _ p e)
  · obtain ⟨h1, h2⟩ := guardO_some h
    split at h2
    · rename_i e1 e2
      cases h2
      exact g_idx p.lib.toDicR (hr X U sc _ _ p e1) (hr X U sc _ _ p e2) h1
    · cases h2
/-! ### blocks -/
theorem relS_eq {scope : Scope} {env : PySem.Env} (h : env.scope = sc) : relabel scope env = relS scope sc := by
  subst h
  rfl
theorem Pre.blk (p : Pre X cls xa U C T sc) (s : Shared) (H : Hp) (scope : Scope) (cl : List (Str × Addr)) (D : Addr) (fp : List Addr) : Pre (X.blk s H scope (compEnvC scope cl D X.env) fp) cls xa (fun _ _ => False) C T (relS scope sc) :=
  ⟨⟨p.tb.N, p.tb.nd, p.tb.hu, p.tb.calm, p.tb.lib, p.tb.fns, p.tb.free, p.tb.nums⟩, relS_eq p.sc, takes0.imp fun c d σ H ⟨_, _, _, z⟩ => z⟩
theorem o_it {tg iter : Expr} {it : It} (hr : RecOk cls xa C T rec) (p : Pre X cls xa U C T sc) (h : cIt T rec sc iter = some it) : PI X tg iter (tDI X.K X.w cls U false (evI C it)) ∧ it.plain = true := by
  have seq : ∀ e, (rec sc e).map It.seq = some it → PI X tg e (tDI X.K X.w cls U false (evI C it)) ∧ it.plain = true := fun e h => by
    cases z : rec sc e with
    | none => rw [z] at h; cases h
    | some j => rw [z] at h; cases h; exact ⟨gi_seq' (hr X U sc _ _ p z), rfl⟩
  unfold cIt at h
  split at h
  · split at h
    · rename_i hx
      have hx := eq_of_beq hx
      subst hx
      obtain ⟨h1, h2⟩ := guardO_some h
      simp only [Bool.and_eq_true] at h1
      cases z : rec sc ‹_› with
      | none => rw [z] at h2; cases h2
      | some j => rw [z] at h2; cases h2; exact ⟨gi_rng1 (hr X U sc _ _ p z) (gl_of p h1.1.1) (p.tb.free _ h1.1.2) h1.2, rfl⟩
    · exact seq _ h
  · split at h
    · rename_i hx
      have hx := eq_of_beq hx
      subst hx
      obtain ⟨h1, h2⟩ := guardO_some h
      simp only [Bool.and_eq_true] at h1
      split at h2
      · rename_i e1 e2
        cases h2
        exact ⟨gi_rng2 (hr X U sc _ _ p e1) (hr X U sc _ _ p e2) (gl_of p h1.1.1.1) (p.tb.free _ h1.1.1.2) h1.1.2 h1.2, rfl⟩
      · cases h2
    · exact seq _ h
  · exact seq _ h
theorem notSet_fold {iter : Expr} {env : PySem.Env} (h : notSet iter = true) : ∀ x, foldedSetIterable iter env x = pure x := fun x => by
  cases iter <;> first | rfl | (simp [notSet] at h)
theorem o_cond {ifs : List Expr} (hr : RecOk cls xa C T rec) (p : Pre X cls xa U C T sc) (h : cCond rec sc ifs = some i) : PTs X ifs (tDT X.K X.w cls U (evE C i)) := by
  unfold cCond at h
  split at h
  · cases h
    refine ⟨fun pins s σ H Q I q => pts_nil.run pins s σ H Q I ?_⟩
    obtain ⟨W, env, st, he, A, hb, q⟩ := q
    rw [evE] at q
    exact q true W H (Ext.refl _ _) A rfl
  · exact pts_one (hr X U sc _ _ p h).pt
  · cases h
/-- the parts of a comprehension -/
theorem o_lc {m : Bool} {elt : Expr} {scope : Scope} {gs : List Comprehension} (hr : RecOk cls xa C T rec) (p : Pre X cls xa U C T sc) (h : cLc T rec sc m elt scope gs = some i) :
    ∃ tg iter ifs own t it cd ie, gs = [⟨tg, iter, ifs, 0⟩] ∧ i = .lc m (own.map (·.2)) t it cd ie ∧ it.plain = true ∧ PI X tg iter (tDI X.K X.w cls U false (evI C it)) ∧ BlkOk X.N X.env.scope scope own ∧ GoodB X cls C scope tg t ifs elt cd ie ∧
      (∀ s ∈ t.slots, s ∈ own.map (·.2)) ∧ notSet iter = true := by
  unfold cLc at h
  split at h
  · rename_i tg iter ifs
    split at h
    · rename_i t it cd ie e1 e2 e3 e4
      obtain ⟨h1, h2⟩ := guardO_some h
      cases h2
      simp only [Bool.and_eq_true] at h1
      obtain ⟨hi, hp⟩ := o_it (tg := tg) hr p e2
      refine ⟨tg, iter, ifs, ownC T.N scope, t, it, cd, ie, rfl, rfl, hp, hi, ?_, ⟨fun s H D cl fp => ?_, fun s H D cl fp => ?_, fun s H D cl fp => ?_⟩, fun s hs => ?_, h1.1.1⟩
      · rw [p.tb.N, p.sc]
        exact blkOk_by h1.1.2
      · have p' := p.blk s H scope cl D fp
        exact tg_pg p'.tb.calm p'.tb.nd (tgC_ok (T := T) p'.tb.N p'.sc (fun x hx => hx) e1)
      · exact o_cond hr (p.blk s H scope cl D fp) e3
      · exact (hr _ _ _ _ _ (p.blk s H scope cl D fp) e4).pe
      · have z := h1.2
        rw [Tg.slotsIn, List.all_eq_true] at z
        exact List.elem_iff.mp (z s hs)
    · cases h
  · cases h
/-! ### calls -/
theorem kdOf_ok {x : Str} {t : Kd} (h : kdOf x = some t) : t ≠ .non ∧ bootBuiltins x = some (.type t.nm) ∧ x ≠ "__name__" ∧ (x == ("__debug__" : Str)) = false := by
  unfold kdOf at h
  repeat' split at h
  all_goals first | (cases h; rename_i hx; have hx := eq_of_beq hx; subst hx; exact ⟨by decide, by decide +kernel, by decide, by decide⟩) | cases h
theorem o_isT {es : List Expr} {q : Pos} (hr : RecOk cls xa C T rec) (p : Pre X cls xa U C T sc) (h : cIsT T rec sc es = some i) : Good X cls U C (.Call (.Name "isinstance" q) es [] pos) i := by
  unfold cIsT at h
  split at h
  · split at h
    · rename_i e1 e2
      obtain ⟨h1, h2⟩ := guardO_some h
      cases h2
      simp only [Bool.and_eq_true] at h1
      obtain ⟨k1, k2, k3, k4⟩ := kdOf_ok e1
      exact g_isT k1 (gl_of p h1.1.1.1.1) (p.tb.free _ h1.1.1.1.2) (gl_of p h1.1.1.2) (p.tb.free _ h1.1.2) k2 k3 k4 (hr X U sc _ _ p e2) h1.2
    · cases h
  · cases h
theorem o_blt {x : Str} {es : List Expr} {q : Pos} (hr : RecOk cls xa C T rec) (p : Pre X cls xa U C T sc) (h : cBlt T rec sc x es = some i) : Good X cls U C (.Call (.Name x q) es [] pos) i := by
  unfold cBlt at h
  split at h
  · cases h
  · rename_i b hb
    have hm := List.mem_of_find?_eq_some hb
    have hx := List.find?_some hb
    simp only [Bool.and_eq_true, beq_iff_eq] at hx
    obtain ⟨rfl, hx⟩ := hx
    split at h
    · rename_i is e1
      obtain ⟨h1, h2⟩ := guardO_some h
      cases h2
      simp only [Bool.and_eq_true] at h1
      have t := goods_of hr p e1
      have hl := mapO_length e1
      cases t with
      | nil => cases b <;> simp [Blt.ar] at hx <;> simp [bltAll] at hm
      | @cons e ie es is g t =>
        have hg := gl_of p h1.1.1
        have hf := p.tb.free _ h1.1.2
        cases b with
        | len => exact g_blt (cd_len p.lib) hg hf (by decide +kernel) (by decide) (by decide) g t h1.2
        | sum => exact g_blt (cd_sum p.tb.calm) hg hf (by decide +kernel) (by decide) (by decide) g t h1.2
        | any => exact g_blt (cd_any p.tb.calm) hg hf (by decide +kernel) (by decide) (by decide) g t h1.2
        | all => exact g_blt (cd_all p.tb.calm) hg hf (by decide +kernel) (by decide) (by decide) g t h1.2
        | sorted => exact g_blt (p.lib.srt U) hg hf (by decide +kernel) (by decide) (by decide) g t h1.2
        | tuple => exact g_bltT cd_tuple hg hf (by decide +kernel) (by decide) (by decide) g t h1.2
        | list => exact g_bltT (cd_list p.lib) hg hf (by decide +kernel) (by decide) (by decide) g t h1.2
        | int => exact g_bltT cd_int hg hf (by decide +kernel) (by decide) (by decide) g t h1.2
        | str => exact g_bltT cd_str hg hf (by decide +kernel) (by decide) (by decide) g t h1.2
        | abs => exact g_blt cd_abs hg hf (by decide +kernel) (by decide) (by decide) g t h1.2
        | min2 => exact g_blt (cd_min2 p.tb.calm) hg hf (by decide +kernel) (by decide) (by decide) g t h1.2
        | max2 => exact g_blt (cd_max2 p.tb.calm) hg hf (by decide +kernel) (by decide) (by decide) g t h1.2
        | max1 => exact g_blt (cd_max1 p.tb.calm) hg hf (by decide +kernel) (by decide) (by decide) g t h1.2
        | tupRange => simp [bltAll] at hm
        | isT t => simp [bltAll] at hm
    · cases h
theorem o_call {x : Str} {es : List Expr} {q : Pos} (hr : RecOk cls xa C T rec) (p : Pre X cls xa U C T sc) (h : cCall T rec sc x es = some i) : Good X cls U C (.Call (.Name x q) es [] pos) i := by
  unfold cCall at h
  split at h
  · rename_i f hf
    split at h
    · rename_i is e1
      obtain ⟨h1, h2⟩ := guardO_some h
      cases h2
      simp only [Bool.and_eq_true, Bool.not_eq_true'] at h1
      obtain ⟨n, fa, fd, ps, F, hroom, hm, hk, hb⟩ := p.tb.fns x f hf
      exact g_call F hroom (gl_of p h1.1.1) hm hk hb p.tk h1.2 (goods_of hr p e1) h1.1.2
    · cases h
  · split at h
    · rename_i hx
      have hx := eq_of_beq hx
      subst hx
      exact o_isT hr p h
    · exact o_blt hr p h
theorem mth_ok (p : Pre X cls xa U C T sc) {m : Mth} (hm : m ∈ mthAll) : ∃ id, MthOk X cls U m m.nm id := by
  cases m with
  | count => exact ⟨_, F.plainAttrs_tuple, F.slot_tuple_count, F.type_tuple_count, md_count p.tb.hu⟩
  | split => exact ⟨_, F.plainAttrs_str, F.slot_str_split, F.type_str_split, md_split⟩
  | join => exact ⟨_, F.plainAttrs_str, F.slot_str_join, F.type_str_join, md_join⟩
  | get2 => exact ⟨_, F.plainAttrs_dict, F.slot_dict_get, F.type_dict_get, md_get2 p.lib⟩
  | append => exact ⟨_, F.plainAttrs_list, F.slot_list_append, F.type_list_append, md_append⟩
  | extend => exact ⟨_, F.plainAttrs_list, F.slot_list_extend, F.type_list_extend, md_extend⟩
  | pop => exact ⟨_, F.plainAttrs_list, F.slot_list_pop, F.type_list_pop, md_pop⟩
  | items => simp [mthAll] at hm
theorem o_mth {o : Expr} {name : Str} {apos : Pos} {es : List Expr} (hr : RecOk cls xa C T rec) (p : Pre X cls xa U C T sc) (h : cMth T rec sc o name apos es pos = some i) : Good X cls U C (.Call (.Attribute o name apos) es [] pos) i := by
  unfold cMth at h
  split at h
  · rename_i m hb
    have hm := List.mem_of_find?_eq_some hb
    have hx := List.find?_some hb
    have hx := eq_of_beq hx
    subst hx
    split at h
    · rename_i e1 e2
      obtain ⟨h1, h2⟩ := guardO_some h
      cases h2
      simp only [Bool.and_eq_true, decide_eq_true_eq] at h1
      obtain ⟨id, ok⟩ := mth_ok p hm
      exact g_mth ok (hr X U sc _ _ p e1) (goods_of hr p e2) h1.1.1.1 h1.1.1.2 h1.1.2 h1.2
    · cases h
  · cases h
theorem step_ok (hr : RecOk cls xa C T rec) : RecOk cls xa C T (stepE T rec) := by
  intro X U sc e i p h
  unfold stepE at h
  split at h
  · exact o_name p h
  · exact o_con h
  · split at h
    · rename_i e1 e2
      cases h
      exact g_bin (hr X U sc _ _ p e1) (hr X U sc _ _ p e2)
    · cases h
  · exact o_un hr p h
  · exact o_cmp hr p h
  · exact o_bool hr p h
  · obtain ⟨h1, h2⟩ := guardO_some h
    cases z : mapO (rec sc) ‹_› with
    | none => rw [z] at h2; cases h2
    | some is => rw [z] at h2; cases h2; exact g_tup (goods_of hr p z) h1
  · obtain ⟨h1, h2⟩ := guardO_some h
    cases z : mapO (rec sc) ‹_› with
    | none => rw [z] at h2; cases h2
    | some is => rw [z] at h2; cases h2; exact g_lst (goods_of hr p z) h1
  · exact o_sub hr p h
  · obtain ⟨tg, iter, ifs, own, t, it, cd, ie, rfl, rfl, hp, hi, ok, gb, ht, hs⟩ := o_lc hr p h
    exact good_val (g_lc p.tb.calm p.tb.nd hp hi ok gb ht (fun z => by cases z) (notSet_fold hs)) fun _ => rfl
  · exact o_call hr p h
  · exact o_mth hr p h
  · cases h
theorem cE_ok : ∀ n, RecOk cls xa C T (cE T n)
  | 0 => fun _ _ _ _ _ _ h => by cases h
  | n + 1 => step_ok (cE_ok n)
end
end EV
/-! EvP: statements: made and sound; defs. -/
namespace EV
open PySem PySem.Spec PyProof.Rows L2

def notTup : Expr → Bool
  | .Tuple _ _ _ => false
  | _ => true
/-- name = e -/
def cAsg1 (T : Tab) (rec : Rec) (mu : List Str) (sc : Scope) (x : Str) (e : Expr) : Option S :=
  match nmC T.N sc (fun _ => true) x with
  | none => none
  | some n => match e with
    | .ListComp elt gs scope _ => (cLc T rec sc (mu.contains x) elt scope gs).map fun i => .set (.one n) i
    | .List es _ => match mu.contains x with
      | true => guardO (es.all noStar) ((mapO (rec sc) es).map fun is => .set (.one n) (.lstM (listEs is)))
      | false => (rec sc e).map fun i => .set (.one n) i
    | e => guardO (notComp e) ((rec sc e).map fun i => .set (.one n) i)
def parC (sc : Scope) (x y : Str) (px py : Pos) (a b : Expr) : Bool := decide (sc.names.lookup x = some .local) && decide (sc.names.lookup y = some .local) && (px.line == py.line) && !(x == y) && noStar a && noStar b &&
  !([a, b].all (foldedForSure 8)) && !([a, b].all (constantsAlone 8))
/-- a, b, .. = e -/
def cAsgT (T : Tab) (rec : Rec) (sc : Scope) (ts : List Expr) (e : Expr) : Option S :=
  match nmsC T.N sc (fun _ => true) ts with
  | none => none
  | some is => match ts, e with
    | [.Name x px, .Name y py], .Tuple [a, b] _ _ => match rec sc a, rec sc b, is with
      | some i, some j, [n, m] => guardO (parC sc x y px py a b && !(n == m)) (some (.set (.many [n, m]) (.tup (.cons i (.cons j .nil)))))
      | _, _, _ => none
    | _, e => guardO (notTup e && notComp e) ((rec sc e).map fun i => .set (.many is) i)
abbrev RecS := Stmt → Option S
def cSs (rs : RecS) : List Stmt → Option Ss
  | [] => some .nil
  | s :: ss => match rs s, cSs rs ss with
    | some x, some xs => some (.cons x xs)
    | _, _ => none
def stepS (T : Tab) (rec : Rec) (mu : List Str) (sc : Scope) (rs : RecS) : Stmt → Option S
  | .Return none _ => some .retN
  | .Return (some e) _ => (rec sc e).map .ret
  | .Expr e _ => guardO (notComp e) ((rec sc e).map .exp)
  | .Pass _ => some .pass
  | .Break _ => some .brk
  | .Continue _ => some .cont
  | .If c a b _ => match rec sc c, cSs rs a, cSs rs b with
    | some i, some x, some y => some (.ite i x y)
    | _, _, _ => none
  | .While c b [] _ => match rec sc c, cSs rs b with
    | some i, some x => some (.whl i x)
    | _, _ => none
  | .For tg iter b [] _ => match tgC T.N sc (fun _ => true) tg, cIt T rec sc iter, cSs rs b with
    | some t, some it, some x => guardO (notSet iter) (some (.for t it x))
    | _, _, _ => none
  | .Assign [.Name x _] e _ => cAsg1 T rec mu sc x e
  | .Assign [.Tuple ts _ _] e _ => cAsgT T rec sc ts e
  | _ => none
def cS (T : Tab) (rec : Rec) (mu : List Str) (sc : Scope) : Nat → RecS
  | 0, _ => none
  | n + 1, s => stepS T rec mu sc (cS T rec mu sc n) s
section
variable {X : Cx} {cls : Nat → Option Addr} {xa : Nat → Addr} {U : XW} {C : Ctx} {T : Tab} {sc : Scope} {rec : Rec} {mu : List Str} {rs : RecS}
/-- a def's body -/
structure PreS (X : Cx) (cls : Nat → Option Addr) (xa : Nat → Addr) (U : XW) (C : Ctx) (T : Tab) (sc : Scope) : Prop extends Pre X cls xa U C T sc where
  fn : ∀ x, X.fn x = true
  own : PassesOwn (model X.prog X.w) X.A X.env X.xe
  bk : X.env.blockKind = .function
def RecSOk (X : Cx) (cls : Nat → Option Addr) (U : XW) (C : Ctx) (rs : RecS) : Prop := ∀ s i, rs s = some i → GoodS X cls U C s i
theorem cSs_ok (h : RecSOk X cls U C rs) : ∀ {ss : List Stmt} {x : Ss}, cSs rs ss = some x → GoodSs X cls U C ss x
  | [], x, e => by cases e; exact s_nil
  | s :: ss, x, e => by
    rw [cSs] at e
    split at e
    · rename_i e1 e2
      cases e
      exact s_cons (h _ _ e1) (cSs_ok h e2)
    · cases e
theorem swp_none {ts : List Expr} {k : Nat} {p : Pos} {e : Expr} {env : PySem.Env} (h : notTup e = true) : swappedStores [.Tuple ts k p] e env = pure none := by
  cases e <;> first | rfl | (simp [notTup] at h)
theorem swp_par {x y : Str} {px py pt p2 : Pos} {kt k2 : Nat} {a b : Expr} {env : PySem.Env} (hb : env.blockKind = .function) (h : parC env.scope x y px py a b = true) :
    swappedStores [.Tuple [.Name x px, .Name y py] kt pt] (.Tuple [a, b] k2 p2) env = pure (some [x, y]) := by
  simp only [parC, Bool.and_eq_true, decide_eq_true_eq, Bool.not_eq_true', beq_eq_false_iff_ne, beq_iff_eq] at h
  obtain ⟨⟨⟨⟨⟨⟨⟨h1, h2⟩, h3⟩, h4⟩, h5⟩, h6⟩, h7⟩, h8⟩ := h
  have e1 : env.kindOf x = some .local := h1
  have e2 : env.kindOf y = some .local := h2
  unfold swappedStores
  simp only [hb]
  rw [if_neg (by simp), if_neg (fun hc => ?_), if_neg (by simp [e1, e2, h3, Expr.pos, List.eraseDups_cons, h4, Ne.symm h4]), if_neg (by rw [h7]; simp), if_neg (by rw [h8]; simp)]
  · simp [e1, e2, h3, Expr.pos]
  · simp only [List.any_cons, List.any_nil, Bool.or_false, Bool.or_eq_true] at hc
    rcases hc with hc | hc
    · split at hc
      · simp [noStar] at h5
      · cases hc
    · split at hc
      · simp [noStar] at h6
      · cases hc
theorem o_asg1 {x : Str} {e : Expr} {py pos : Pos} {i : S} (hr : RecOk cls xa C T rec) (p : PreS X cls xa U C T sc) (h : cAsg1 T rec mu sc x e = some i) : GoodS X cls U C (.Assign [.Name x py] e pos) i := by
  unfold cAsg1 at h
  split at h
  · cases h
  · rename_i n hn
    have nm : NmOk X x n := nmC_ok (T := T) p.tb.N p.sc (fun x _ => p.fn x) hn
    have nd := p.tb.nd
    split at h
    · rename_i elt gs scope cp
      cases z : cLc T rec sc (mu.contains x) elt scope gs with
      | none => rw [z] at h; cases h
      | some j =>
        rw [z] at h
        cases h
        obtain ⟨tg, iter, ifs, own, t, it, cd, ie, rfl, rfl, hp, hi, ok, gb, ht, hs⟩ := o_lc hr p.toPre z
        have hsw : swapsWith (.ListComp elt [⟨tg, iter, ifs, 0⟩] scope cp) (some (.Name x py)) pos.line X.env = pure (X.env.blockKind == .function && X.env.kindOf x == some .local && py.line == (Expr.ListComp elt [⟨tg, iter, ifs, 0⟩] scope cp).pos.line && !(scope.names.any fun (n, k) => n == x && (k == .local || k == .cell))) := rfl
        cases hb : (X.env.blockKind == .function && X.env.kindOf x == some .local && py.line == (Expr.ListComp elt [⟨tg, iter, ifs, 0⟩] scope cp).pos.line && !(scope.names.any fun (n, k) => n == x && (k == .local || k == .cell))) with
        | true =>
          rw [hb] at hsw
          simp only [Bool.and_eq_true, beq_iff_eq] at hb
          exact s_setLc p.tb.calm nd nm.hi hb.1.1.2 hsw hp hi ok gb ht (fun z => by cases z) (notSet_fold hs)
        | false =>
          rw [hb] at hsw
          exact s_set1 nd nm (good_val (g_lc p.tb.calm nd hp hi ok gb ht (fun z => by cases z) (notSet_fold hs)) fun _ => rfl) hsw
    · rename_i es q
      split at h
      · obtain ⟨h1, h2⟩ := guardO_some h
        cases z : mapO (rec sc) es with
        | none => rw [z] at h2; cases h2
        | some is => rw [z] at h2; cases h2; exact s_set1 nd nm (g_lstM (goods_of hr p.toPre z) h1) rfl
      · cases z : rec sc (.List es q) with
        | none => rw [z] at h; cases h
        | some j => rw [z] at h; cases h; exact s_set1 nd nm (hr X U sc _ _ p.toPre z) rfl
    · obtain ⟨h1, h2⟩ := guardO_some h
      cases z : rec sc e with
      | none => rw [z] at h2; cases h2
      | some j => rw [z] at h2; cases h2; exact s_set1 nd nm (hr X U sc _ _ p.toPre z) (noswap h1)
theorem o_asgT {ts : List Expr} {kt : Nat} {e : Expr} {pt pos : Pos} {i : S} (hr : RecOk cls xa C T rec) (p : PreS X cls xa U C T sc) (h : cAsgT T rec sc ts e = some i) : GoodS X cls U C (.Assign [.Tuple ts kt pt] e pos) i := by
  unfold cAsgT at h
  split at h
  · cases h
  · rename_i is hn
    have nms : NmsOk X ts is := nmsC_ok (T := T) p.tb.N p.sc (fun x _ => p.fn x) hn
    split at h
    · rename_i x px y py a b k2 p2
      split at h
      · rename_i i j n m e1 e2
        obtain ⟨h1, h2⟩ := guardO_some h
        cases h2
        rw [Bool.and_eq_true] at h1
        have hq := h1.1
        rw [← p.sc] at hq
        have hw := swp_par (kt := kt) (pt := pt) (k2 := k2) (p2 := p2) p.bk hq
        simp only [parC, Bool.and_eq_true, decide_eq_true_eq] at hq
        cases nms with
        | cons n1 t1 => cases t1 with
          | cons n2 t2 => exact s_par p.tb.calm p.tb.nd n1.hi n2.hi (by simpa using h1.2) hq.1.1.1.1.1.1.1 hq.1.1.1.1.1.1.2 (hr X U sc _ _ p.toPre e1) (hr X U sc _ _ p.toPre e2) hq.1.1.1.2 hq.1.1.2 hw
      · cases h
    · obtain ⟨h1, h2⟩ := guardO_some h
      rw [Bool.and_eq_true] at h1
      cases z : rec sc e with
      | none => rw [z] at h2; cases h2
      | some j => rw [z] at h2; cases h2; exact s_setM p.tb.calm p.tb.nd nms (hr X U sc _ _ p.toPre z) h1.2 (swp_none h1.1)
theorem stepS_ok (hr : RecOk cls xa C T rec) (p : PreS X cls xa U C T sc) (hs : RecSOk X cls U C rs) : RecSOk X cls U C (stepS T rec mu sc rs) := by
  intro s i h
  unfold stepS at h
  split at h
  · cases h; exact s_retN
  · cases z : rec sc ‹_› with
    | none => rw [z] at h; cases h
    | some j => rw [z] at h; cases h; exact s_ret (hr X U sc _ _ p.toPre z)
  · obtain ⟨h1, h2⟩ := guardO_some h
    cases z : rec sc ‹_› with
    | none => rw [z] at h2; cases h2
    | some j => rw [z] at h2; cases h2; exact s_exp (hr X U sc _ _ p.toPre z) h1
  · cases h; exact s_pass
  · cases h; exact s_brk
  · cases h; exact s_cont
  · split at h
    · rename_i e1 e2 e3
      cases h
      exact s_ite (hr X U sc _ _ p.toPre e1) (cSs_ok hs e2) (cSs_ok hs e3)
    · cases h
  · split at h
    · rename_i e1 e2
      cases h
      exact s_whl p.own (hr X U sc _ _ p.toPre e1) (cSs_ok hs e2)
    · cases h
  · split at h
    · rename_i e1 e2 e3
      obtain ⟨h1, h2⟩ := guardO_some h
      cases h2
      obtain ⟨hi, hp⟩ := o_it hr p.toPre e2
      exact s_for p.own p.tb.calm p.tb.nd hp hi (tgC_ok (T := T) p.tb.N p.sc (fun x _ => p.fn x) e1) (fun z => by cases z) (cSs_ok hs e3) (notSet_fold h1)
    · cases h
  · exact o_asg1 hr p h
  · exact o_asgT hr p h
  · cases h
theorem cS_ok (hr : RecOk cls xa C T rec) (p : PreS X cls xa U C T sc) : ∀ n, RecSOk X cls U C (cS T rec mu sc n)
  | 0 => fun _ _ h => by cases h
  | n + 1 => stepS_ok hr p (cS_ok hr p n)
end
end EV
/-! EvQ: a program's defs keep what the evaluator tells of them. -/
namespace EV
open PySem PySem.Spec PyProof.Rows L2

/-- a def as it stands in the text; ps its parameters, N its slots' names, mu the names of lists that grow -/
structure DefS where
  x : Str
  qual : Str
  params : Arguments
  body : List Stmt
  scope : Scope
  ps : List Str
  N : List Str
  mu : List Str
def DefS.comp (fn : List (Str × Nat)) (free : List Str) (nums : List (Str × Int)) (fuel : Nat) (d : DefS) : Option FDef :=
  (cSs (cS ⟨d.N, fn, free, nums⟩ (cE ⟨d.N, fn, free, nums⟩ fuel) d.mu d.scope fuel) d.body).map fun b => ⟨d.ps.length, d.N.length, b⟩
def DefS.scopeC (d : DefS) : Bool := (match d.scope.kind with | .function => true | _ => false) && !d.scope.isCoroutine && !d.scope.isGenerator && decide d.N.Nodup && decide (d.N.take d.ps.length = d.ps) &&
  (d.ps.all fun x => decide (d.scope.names.lookup x = some .local) || decide (d.scope.names.lookup x = some .cell)) && (d.scope.names.all fun y => decide (y.2 ≠ .free))
theorem DefS.scope_ok {d : DefS} (h : d.scopeC = true) : FnScope d.N d.ps d.scope := by
  simp only [scopeC, Bool.and_eq_true, Bool.not_eq_true', decide_eq_true_eq, List.all_eq_true, Bool.or_eq_true] at h
  obtain ⟨⟨⟨⟨⟨⟨h1, h2⟩, h3⟩, h4⟩, h5⟩, h6⟩, h7⟩ := h
  refine ⟨?_, h2, h3, h4, h5, h6, h7⟩
  split at h1
  · assumption
  · cases h1
structure Sys (K : PySem.W.Frag) (mg : Str → Option Value) (dl : Nat → Option DefS) (fn : List (Str × Nat)) (free : List Str) (nums : List (Str × Int)) (fa : Nat → Addr) (fd : Nat → FuncData) : Prop where
  def_ : ∀ (f : Nat) (d : DefS), dl f = some d → FunD K d.x d.qual d.params d.body d.scope [] [] (fa f) (fd f)
  bind : ∀ (f : Nat) (d : DefS), dl f = some d → Binds K (fd f) d.ps []
  scp : ∀ (f : Nat) (d : DefS), dl f = some d → d.scopeC = true
  glo : ∀ x f, fn.lookup x = some f → mg x = some (.ref (fa f))
  has : ∀ x f, fn.lookup x = some f → ∃ d, dl f = some d
  free : ∀ x, free.contains x = true → mg x = none
  nums : ∀ x i, nums.lookup x = some i → ∃ t, mg x = some (.int i t)
section
variable {P : Program} {w : World} {K : PySem.W.Frag} {mg : Str → Option Value} {base : Heap} {cls : Nat → Option Addr} {xa : Nat → Addr} {G : Prg} {dl : Nat → Option DefS} {fn : List (Str × Nat)} {free : List Str} {nums : List (Str × Int)} {fuel : Nat} {fa : Nat → Addr} {fd : Nat → FuncData}
theorem fn_bad {k : Nat} {f : Addr} {fdd : FuncData} {ps : List Str} {sp : Sp} (h : ∀ vs H Q E, ¬ sp vs H Q E) : FnOk P w K mg base (L2.CX P w) k f fdd ps sp :=
  ⟨fun vs H Q E q => (h vs H Q E q).elim, fun A outer s H args us vs Q E _ _ _ _ q => (h vs H Q E q).elim⟩
theorem spD_bad {call : List D → Store → R D} (h : ∀ ds st, call ds st = .bad) : ∀ vs H Q E, ¬ spD K w cls xa call vs H Q E := fun vs H Q E ⟨W, st, ds, A, r, q⟩ => by
  rw [h] at q
  exact q
theorem prog_ok (hlib : ∀ X' : Cx, X'.calm = true → X'.A.units + 64 < cLine → Lib X' cls) (S : Sys K mg dl fn free nums fa fd) (hG : ∀ (f : Nat) (d : DefS) (fdef : FDef), dl f = some d → G.fn f = some fdef → d.comp fn free nums fuel = some fdef) :
    ∀ (n f : Nat) (d : DefS), dl f = some d → FnOk P w K mg base (L2.CX P w) (2 * n) (fa f) (fd f) d.ps (spD K w cls xa (G.call n f))
  | 0, f, d, hd => fn_bad (spD_bad fun ds st => rfl)
  | n + 1, f, d, hd => by
    cases e : G.fn f with
    | none => exact fn_bad (spD_bad fun ds st => by rw [Prg.call, e])
    | some fdef =>
      have hc := hG f d fdef hd e
      have eq : G.call (n + 1) f = fdef.run (G.ctx n) := by funext ds st; exact G.call_succ n f ds st e
      rw [eq]
      rw [DefS.comp] at hc
      cases z : cSs (cS ⟨d.N, fn, free, nums⟩ (cE ⟨d.N, fn, free, nums⟩ fuel) d.mu d.scope fuel) d.body with
      | none => rw [z] at hc; cases hc
      | some b =>
        rw [z] at hc
        cases hc
        have sc := DefS.scope_ok (S.scp f d hd)
        refine fn_D (n := 2 * n + 1) (S.def_ f d hd) sc rfl rfl fun cdv A outer s H E hr => ?_
        refine cSs_ok (cS_ok (xa := xa) (sc := d.scope) (cE_ok fuel) ⟨⟨⟨rfl, sc.nd, hr.units, rfl, hlib, fun x g hx => ?_, S.free, S.nums⟩, rfl, ?_⟩, fun _ => rfl, passes_of rfl, ?_⟩ fuel) z
        · obtain ⟨d2, hd2⟩ := S.has x g hx
          exact ⟨2 * n, fa g, fd g, d2.ps, prog_ok hlib S hG n g d2 hd2, hr.mono (by omega), S.glo x g hx, (S.def_ g d2 hd2).kp, S.bind g d2 hd2⟩
        · refine (takes_of rfl rfl rfl rfl).imp fun c dd σ H ⟨k, e1, e2, u⟩ => ?_
          subst e1 e2
          exact u
        · show (if d.scope.kind.isAnnotationScope then ScopeKind.function else d.scope.kind) = .function
          rw [sc.kind]
          rfl
/-- the law's own promise -/
theorem law_sp {n f : Nat} {N0 : Nat} (hp : ∀ ns : List Int, ns.length ≤ N0 → ∃ st, G.call n f [.scr ns] [] = .ok (.bl true) st) (H : Hp) (a : Addr) (ns : List Int) (hl : ns.length ≤ N0) (hO : Only H) (hS : SqL K H a (ns.map V.int)) (hz : N0 ≤ sizeLine) :
    spD K w cls xa (G.call n f) [.ref a] H (fun v _ => v = .bl true) fun _ _ _ => False := by
  obtain ⟨st, e⟩ := hp ns hl
  refine ⟨⟨H, []⟩, [], [.scr ns], ⟨Same.refl _, rfl, List.nodup_nil, fun a ha => by simp at ha, fun i o a h => by simp at h⟩, .one (.scr hS (by omega)), ?_⟩
  rw [e]
  exact fun v W' H' _ _ r => r.bl_inv
end
end EV
/-! EvR: from the head's facts to the defs' promises. -/
namespace EV
open PySem PySem.Spec PyProof.Rows L2

def mkDef (x : Str) (st : Stmt) (ps N mu : List Str) : DefS := ⟨x, x, defArgs st, defBody st, defScope st, ps, N, mu⟩
def DefS.toD (d : DefS) : He.DefD := ⟨(d.x, none), d.x, d.qual, d.params, d.body, d.scope, [], []⟩
abbrev Defs := List (Nat × DefS)
def dlOf : Defs → Nat → Option DefS
  | [], _ => none
  | (k, d) :: r, f => if f = k then some d else dlOf r f
def fnOfD (defs : Defs) : List (Str × Nat) := defs.map fun p => (p.2.x, p.1)
theorem dlOf_mem : ∀ {defs : Defs} {f : Nat} {d : DefS}, dlOf defs f = some d → (f, d) ∈ defs
  | [], f, d, h => by cases h
  | (k, e) :: r, f, d, h => by
    rw [dlOf] at h
    split at h
    · cases h; rename_i e; subst e; simp
    · exact List.mem_cons_of_mem _ (dlOf_mem h)
def DefS.BindOk (d : DefS) : Prop := ∀ (kV doc pm : Value) (an : Option Addr) (cdv ct : Value) (us : List Value), us.length = d.ps.length → bindArgs (PySem.W.fnOf d.x d.qual d.params d.body d.scope .none kV doc pm an cdv ct) ⟨us, []⟩ = pure (d.ps.zip us)
def faOf (defs : Defs) (free : List Str) (nums : List (Str × Int)) : List He.Fa := defs.map (fun p => .glo p.2.x) ++ (free.map .free ++ nums.map fun p => .int p.1 p.2)
section
variable {K : PySem.W.Frag} {h : Heap} {mg : Str → Option Value} {defs : Defs} {free : List Str} {nums : List (Str × Int)}
theorem says_fact {fa : List He.Fa} {fn : List He.DefD} (c : He.SaysD fa fn K) {f : He.Fa} (hf : f ∈ fa) : f.ok K = true := by
  obtain ⟨i, hi⟩ := List.mem_iff_getElem?.mp hf
  exact c.fact i hi
theorem sys_of (X : K.In h) (G : h.Ns mainGlobals mg) (c : He.SaysD (faOf defs free nums) (defs.map fun p => p.2.toD) K) (hb : ∀ p ∈ defs, p.2.BindOk) (hs : ∀ p ∈ defs, p.2.scopeC = true) (hn : ∀ p ∈ defs, dlOf defs p.1 = some p.2) :
    ∃ fa fd, Sys K mg (dlOf defs) (fnOfD defs) free nums fa fd ∧ ∀ f d, dlOf defs f = some d → fa f = He.ga K d.x := by
  have ex : ∀ f : Nat, ∃ fd : FuncData, ∀ d : DefS, dlOf defs f = some d → FunD K d.x d.qual d.params d.body d.scope [] [] (He.ga K d.x) fd := fun f => by
    cases e : dlOf defs f with
    | none => exact ⟨default, fun d z => by cases z⟩
    | some d =>
      obtain ⟨i, hi⟩ := List.mem_iff_getElem?.mp (dlOf_mem e)
      obtain ⟨fd, F⟩ := c.def_ i (d := d.toD) (by rw [List.getElem?_map, hi]; rfl)
      exact ⟨fd, fun d2 z => by cases z; exact F⟩
  have hg : ∀ (f : Nat) (d : DefS), dlOf defs f = some d → mg d.x = some (.ref (He.ga K d.x)) := fun f d e =>
    He.glo_ok X G (says_fact c (List.mem_append_left _ (List.mem_map.mpr ⟨(f, d), dlOf_mem e, rfl⟩)))
  obtain ⟨fdf, hfd⟩ := Classical.axiomOfChoice ex
  have lk : ∀ x f, (fnOfD defs).lookup x = some f → ∃ d, dlOf defs f = some d ∧ d.x = x := fun x f e => by
    obtain ⟨p, hp, e2⟩ := List.mem_map.mp (PySem.mem_of_lookup e)
    cases e2
    exact ⟨p.2, hn p hp, rfl⟩
  refine ⟨fun f => match dlOf defs f with | some d => He.ga K d.x | none => 0, fdf, ⟨fun f d e => ?_, fun f d e => ?_, fun f d e => hs (f, d) (dlOf_mem e), fun x f e => ?_, fun x f e => ?_, fun x hx => ?_, fun x i hx => ?_⟩, fun f d e => by simp only [e]⟩
  · have z := hfd f d e
    simp only [e]
    exact z
  · have z := hfd f d e
    exact FunD.bindsN z (hb (f, d) (dlOf_mem e))
  · obtain ⟨d, h1, rfl⟩ := lk x f e
    simp only [h1]
    exact hg f d h1
  · obtain ⟨d, h1, _⟩ := lk x f e
    exact ⟨d, h1⟩
  · exact He.free_ok X G (says_fact c (List.mem_append_right _ (List.mem_append_left _ (List.mem_map.mpr ⟨x, List.elem_iff.mp hx, rfl⟩))))
  · exact He.int_ok X G (says_fact c (List.mem_append_right _ (List.mem_append_right _ (List.mem_map.mpr ⟨(x, i), PySem.mem_of_lookup hx, rfl⟩))))
/-- exceptions behind a call, in whatever world -/
def cxAny (P : Program) : CXT := fun outer H s E e s' => ∃ w, L2.CX P w outer H s E e s'
theorem cxAny_no {P : Program} (H : Hp) (s : Shared) (e : Value) (s' : Shared) (h : cxAny P [] H s (fun _ _ _ => False) e s') : False := by
  obtain ⟨_, _, _, _, _, _, _, _, _, _, _, _, _, z⟩ := h
  exact z
theorem FnOk.any {P : Program} {w : World} {base : Heap} {k : Nat} {f : Addr} {fd : FuncData} {ps : List Str} {sp : Sp} (F : FnOk P w K mg base (L2.CX P w) k f fd ps sp) : FnOk P w K mg base (cxAny P) k f fd ps sp :=
  ⟨F.len, fun A outer s H args us vs Q E hr he hb hv hs => codeAny_mono (F.run A outer s H args us vs Q E hr he hb hv hs) fun r s' q => by
    cases r with
    | error e => exact ⟨w, q⟩
    | ok fl => cases fl <;> exact q⟩
/-- THE LAW by its defs: n the depth of calls, f the law's number -/
theorem law_of {P : Program} {w : World} {cls : Nat → Option Addr} {xa : Nat → Addr} {G : Prg} {fuel n f N0 : Nat} {d : DefS} {x : Str} {fa : Addr} (hlib : ∀ X' : Cx, X'.calm = true → X'.A.units + 64 < cLine → Lib X' cls)
    (KX : K.In h) (Gn : h.Ns mainGlobals mg) (c : He.SaysD (faOf defs free nums) (defs.map fun p => p.2.toD) K) (hb : ∀ p ∈ defs, p.2.BindOk) (hs : ∀ p ∈ defs, p.2.scopeC = true) (hn : ∀ p ∈ defs, dlOf defs p.1 = some p.2)
    (hG : ∀ p ∈ defs, ∀ fdef : FDef, G.fn p.1 = some fdef → p.2.comp (fnOfD defs) free nums fuel = some fdef) (hd : dlOf defs f = some d) (hps : d.ps = [x]) (hfa : mg d.x = some (.ref fa)) (hz : N0 ≤ sizeLine)
    (hp : ∀ ns : List Int, ns.length ≤ N0 → ∃ st, G.call n f [.scr ns] [] = .ok (.bl true) st) :
    ∃ (K : PySem.W.Frag) (fd : FuncData) (sp : Sp), K.In h ∧ (∀ (s : Shared) (u : Value), BindsTo s fd ⟨[u], []⟩ [(x, u)]) ∧
        (∀ (H : Hp) (a : Addr) (ns : List Int), ns.length ≤ N0 → Only H → SqL K H a (ns.map V.int) → sp [.ref a] H (fun v _ => v = .bl true) fun _ _ _ => False) ∧
        ∀ base : Heap, K.In base → base.Ns mainGlobals mg → FnOk P w K mg base (cxAny P) (2 * n) fa fd [x] sp := by
  obtain ⟨fas, fds, S, hga⟩ := sys_of KX Gn c hb hs hn
  have ea : fas f = fa := by
    have e1 := He.glo_ok KX Gn (says_fact c (List.mem_append_left _ (List.mem_map.mpr ⟨(f, d), dlOf_mem hd, rfl⟩)))
    rw [hfa] at e1
    cases e1
    exact hga f d hd
  have F := S.def_ f d hd
  rw [ea] at F
  have bA := FunD.bindsA F (hb (f, d) (dlOf_mem hd))
  refine ⟨K, fds f, spD K w cls xa (G.call n f), KX, fun s u => ?_, fun H a ns hl hO hS => law_sp hp H a ns hl hO hS hz, fun base _ _ => ?_⟩
  · have z := bA s [u] (by rw [hps]; rfl)
    rw [hps] at z
    exact z
  · have z := prog_ok (P := P) (w := w) (base := base) (xa := xa) (fuel := fuel) hlib S (fun f d fdef h1 h2 => hG (f, d) (dlOf_mem h1) fdef h2) n f d hd
    rw [ea, hps] at z
    exact FnOk.any z
end
end EV
/-! EvS: the library's part, first stage: no dicts, sorted of ints. -/
namespace EV
open PySem PySem.Spec PyProof.Rows L2

section
variable {X : Cx} {cls : Nat → Option Addr} {U : XW}
theorem no_dic {K : PySem.W.Frag} {w : World} {W : Wd} {st : Store} {H : Hp} {x : V} {i : Nat} {kvs : List (D × D)} (A : Ag K w cls W st H) (r : Rep K W x (.ref i)) (h : DicAt st i kvs) : False := by
  obtain ⟨a, rfl, ha⟩ := r.ref_inv
  obtain ⟨o, ho, oa⟩ := A.at ha
  rcases h with h | h
  · rw [h] at ho
    cases ho
    obtain ⟨o, _, on, _⟩ := oa
    cases on
  · rw [h] at ho
    cases ho
    obtain ⟨o, _, on, _⟩ := oa
    cases on
theorem sorted_unique : ∀ {l m : List Int}, l.Perm m → l.Pairwise (· ≤ ·) → m.Pairwise (· ≤ ·) → l = m
  | [], m, p, _, _ => (List.nil_perm.mp p).symm
  | a :: l, [], p, _, _ => (List.perm_nil.mp p)
  | a :: l, b :: m, p, h1, h2 => by
    rw [List.pairwise_cons] at h1 h2
    have ab : a = b := by
      have m1 : a ∈ b :: m := p.subset (List.mem_cons_self ..)
      have m2 : b ∈ a :: l := p.symm.subset (List.mem_cons_self ..)
      rcases List.mem_cons.mp m1 with z | z
      · exact z
      · rcases List.mem_cons.mp m2 with y | y
        · exact y.symm
        · exact Int.le_antisymm (h1.1 b y) (h2.1 a z)
    subst ab
    rw [sorted_unique (List.Perm.cons_inv p) h1.2 h2.2]
theorem sortI_perm (ns : List Int) : (sortI ns).Perm ns := List.mergeSort_perm _ _
theorem sortI_sorted (ns : List Int) : (sortI ns).Pairwise (· ≤ ·) := by
  have z := List.pairwise_mergeSort (le := fun a b : Int => decide (a ≤ b)) (fun a b c h1 h2 => by simp only [decide_eq_true_eq] at *; omega) (fun a b => by simp only [Bool.or_eq_true, decide_eq_true_eq]; omega) ns
  exact z.imp fun h => by simpa using h
theorem cd_sorted : CallR X (.builtin "sorted") (rC X cls U (bltD .sorted)) := by
  intro pins s σ H vs us Q I rv h
  obtain ⟨W, st, ds, A, rl, q⟩ := h
  simp only [bltD] at q
  have go : ∀ {a : Addr} {ys : List D} {xs : List V}, vs = [.ref a] → SqL X.K H a xs → RepL X.K W xs ys → ys.length ≤ sizeLine → Aft X.K X.w cls U (Rep X.K) W H ((R.of (sortD ys) st).bind fun zs st => .ok (.lst zs) st) Q → wpAny (model X.prog X.w) X.A (call (.builtin "sorted") us) (EP X pins σ Q) X.xe s := by
    intro a ys xs e hq l z q
    subst e
    cases e : intsOf ys with
    | none =>
      exfalso
      rw [sortD, e] at q
      simp [sortOn] at q
      exact q
    | some ns =>
      have ex := l.of_ints e
      subst ex
      have hl : ns.length = ys.length := by have := l.length; rw [List.length_map] at this; exact this
      rw [sortD, e] at q
      refine cr_sortedI pins s σ H _ us Q I rv ⟨a, ns, rfl, hq, fun ns' p h1 h2 hp => ?_⟩
      have e2 : ns' = sortI ns := sorted_unique (h1.trans (sortI_perm ns).symm) h2 (sortI_sorted ns)
      subst e2
      exact Aft.newLst A q (RepL.ints _) (by rw [List.length_map, (sortI_perm ns).length_eq, hl]; exact z) p hp
  split at q
  · rename_i i
    obtain ⟨v, rfl, r⟩ := rl.one_inv
    obtain ⟨a, rfl, ha⟩ := r.ref_inv
    obtain ⟨o, ho, oa⟩ := A.at ha
    simp only [ho] at q
    cases o with
    | lst ys =>
      obtain ⟨xs, hx, l, z⟩ := oa
      exact go rfl (SqL.of hx) l z q
    | dic kvs => exact absurd (Aft.test q).1 (by decide)
    | lck kvs => exact absurd (Aft.test q).1 (by decide)
    | _ => exact q.elim
  · rename_i ys
    obtain ⟨v, rfl, r⟩ := rl.one_inv
    obtain ⟨a, xs, rfl, g, z, l⟩ := r.lst_inv
    exact go rfl (SqL.of (A.sub _ _ g)) l z q
  · exact absurd (Aft.test q).1 (by decide)
  · exact q.elim
theorem lib_ok (X : Cx) (cls : Nat → Option Addr) : Lib X cls where
  mem := by
    intro pins s σ H x y u v Q I r1 r2 h
    obtain ⟨W, st, dx, i, kvs, A, h1, h2, h3, _⟩ := h
    exact (no_dic A h2 h3).elim
  nmem := by
    intro pins s σ H x y u v Q I r1 r2 h
    obtain ⟨W, st, dx, i, kvs, A, h1, h2, h3, _⟩ := h
    exact (no_dic A h2 h3).elim
  get := by
    intro value slice pins s σ H x y u v Q I r1 r2 h
    obtain ⟨W, st, dx, i, kvs, d, A, h1, h2, h3, _⟩ := h
    exact (no_dic A h1 h3).elim
  dlen := by
    intro pins s σ H xs us Q I r h
    obtain ⟨W, st, i, kvs, A, h1, h3, _⟩ := h
    obtain ⟨v, _, r⟩ := h1.one_inv
    exact (no_dic A r h3).elim
  dlist := by
    intro pins s σ H xs us Q I r h
    obtain ⟨W, st, i, kvs, A, h1, h3, _⟩ := h
    obtain ⟨v, _, r⟩ := h1.one_inv
    exact (no_dic A r h3).elim
  srt := fun U => cd_sorted
  dget2 := by
    intro pins s σ H x xs v us Q I r1 r2 h
    obtain ⟨W, st, i, kvs, dk, dx, A, h1, h2, h3, _⟩ := h
    exact (no_dic A h1 h3).elim
end
end EV
/-! EvIR: the defs, compiled. Printed by gen.py. -/
namespace EV
open PySem
def ir_is_whole : FDef := ⟨3, 3, (.cons (.ret (.and (.blt (.isT .int) (.cons (.var 0) .nil)) (.and (.not (.blt (.isT .bl) (.cons (.var 0) .nil))) (.chn .LtE .LtE (.var 1) (.var 0) (.var 2))))) .nil)⟩
def ir_is_game : FDef := ⟨1, 2, (.cons (.ite (.or (.not (.blt (.isT .tup) (.cons (.var 0) .nil))) (.or (.cmp .NotEq (.blt .len (.cons (.var 0) .nil)) (.con (.int (4)))) (.not (.blt (.isT .tup) (.cons (.idx (.var 0) (.con (.int (3)))) .nil))))) (.cons (.ret (.con (.bl false))) .nil) .nil) (.cons (.ite (.or (.not (.call 0 (.cons (.idx (.var 0) (.con (.int (0)))) (.cons (.con (.int (1))) (.cons (.con (.int (4))) .nil))))) (.not (.call 0 (.cons (.idx (.var 0) (.con (.int (1)))) (.cons (.con (.int (2))) (.cons (.con (.int (6))) .nil)))))) (.cons (.ret (.con (.bl false))) .nil) .nil) (.cons (.ite (.or (.not (.call 0 (.cons (.idx (.var 0) (.con (.int (2)))) (.cons (.con (.int (1))) (.cons (.con (.int (3))) .nil))))) (.not (.chn .LtE .LtE (.con (.int (1))) (.blt .len (.cons (.idx (.var 0) (.con (.int (3)))) .nil)) (.con (.int (4)))))) (.cons (.ret (.con (.bl false))) .nil) .nil) (.cons (.ret (.blt .all (.cons (.lc false [1] (.one 1) (.seq (.idx (.var 0) (.con (.int (3))))) (.con (.bl true)) (.call 1 (.cons (.var 1) .nil))) .nil))) .nil))))⟩
def ir__law_cell_at : FDef := ⟨2, 2, (.cons (.ite (.cmp .Lt (.var 1) (.blt .len (.cons (.var 0) .nil))) (.cons (.ret (.idx (.var 0) (.var 1))) .nil) .nil) (.cons (.ret (.con (.int (0)))) .nil))⟩
def ir__law_mixed : FDef := ⟨2, 3, (.cons (.set (.one 2) (.bin .Mod (.bin .Mult (.bin .Add (.bin .Add (.call 3 (.cons (.var 0) (.cons (.var 1) .nil))) (.bin .Mult (.con (.int (7919))) (.var 1))) (.con (.int (1)))) (.con (.int (48271)))) (.con (.int (2147483647))))) (.cons (.ret (.bin .Mod (.bin .Add (.bin .Add (.bin .Mult (.var 2) (.var 2)) (.bin .Mult (.con (.int (7))) (.var 2))) (.var 1)) (.con (.int (2147483629))))) .nil))⟩
def ir__law_drawn : FDef := ⟨2, 3, (.cons (.set (.one 2) (.bin .Mod (.bin .Mult (.bin .Add (.bin .Add (.var 0) (.bin .Mult (.con (.int (104729))) (.var 1))) (.con (.int (17)))) (.con (.int (69621)))) (.con (.int (2147483647))))) (.cons (.ret (.bin .Mod (.bin .Add (.bin .Add (.bin .Mult (.var 2) (.var 2)) (.bin .Mult (.con (.int (3))) (.var 2))) (.var 1)) (.con (.int (2147483629))))) .nil))⟩
def ir__law_box : FDef := ⟨1, 3, (.cons (.set (.one 1) (.bin .Mod (.var 0) (.con (.int (6))))) (.cons (.set (.one 2) (.lst (.cons (.tup (.cons (.con (.str (Str.ofString "face"))) (.cons (.bin .Add (.con (.int (1))) (.bin .Mod (.bin .FloorDiv (.var 0) (.con (.int (6)))) (.con (.int (6))))) .nil))) (.cons (.tup (.cons (.con (.str (Str.ofString "all"))) .nil)) (.cons (.tup (.cons (.con (.str (Str.ofString "alike"))) (.cons (.bin .Add (.con (.int (2))) (.bin .Mod (.bin .FloorDiv (.var 0) (.con (.int (6)))) (.con (.int (3))))) (.cons (.bin .Add (.con (.int (1))) (.bin .Mod (.bin .FloorDiv (.var 0) (.con (.int (64)))) (.con (.int (50))))) .nil)))) .nil))))) (.cons (.set (.one 2) (.bin .Add (.var 2) (.lst (.cons (.tup (.cons (.con (.str (Str.ofString "run"))) (.cons (.bin .Add (.con (.int (2))) (.bin .Mod (.bin .FloorDiv (.var 0) (.con (.int (6)))) (.con (.int (3))))) (.cons (.bin .Add (.con (.int (1))) (.bin .Mod (.bin .FloorDiv (.var 0) (.con (.int (64)))) (.con (.int (50))))) .nil)))) (.cons (.tup (.cons (.con (.str (Str.ofString "under"))) (.cons (.bin .Add (.con (.int (1))) (.bin .Mod (.bin .FloorDiv (.var 0) (.con (.int (6)))) (.con (.int (24))))) .nil))) .nil))))) (.cons (.ret (.idx (.bin .Add (.var 2) (.lst (.cons (.tup (.cons (.con (.str (Str.ofString "even"))) (.cons (.bin .Add (.con (.int (1))) (.bin .Mod (.bin .FloorDiv (.var 0) (.con (.int (6)))) (.con (.int (50))))) .nil))) .nil))) (.var 1))) .nil))))⟩
def ir__law_game : FDef := ⟨2, 7, (.cons (.set (.one 2) (.idx (.tup (.cons (.con (.int (2))) (.cons (.con (.int (1))) (.cons (.con (.int (3))) (.cons (.con (.int (2))) .nil))))) (.bin .Mod (.var 0) (.con (.int (4)))))) (.cons (.set (.one 3) (.idx (.tup (.cons (.con (.int (2))) (.cons (.con (.int (3))) (.cons (.con (.int (4))) (.cons (.con (.int (2))) .nil))))) (.bin .Mod (.bin .FloorDiv (.var 0) (.con (.int (4)))) (.con (.int (4)))))) (.cons (.set (.one 4) (.idx (.tup (.cons (.con (.int (1))) (.cons (.con (.int (2))) (.cons (.con (.int (3))) (.cons (.con (.int (2))) .nil))))) (.bin .Mod (.bin .FloorDiv (.var 0) (.con (.int (16)))) (.con (.int (4)))))) (.cons (.set (.one 5) (.blt .tuple (.cons (.lc false [6] (.one 6) (.rng1 (.idx (.tup (.cons (.con (.int (1))) (.cons (.con (.int (2))) (.cons (.con (.int (2))) (.cons (.con (.int (3))) .nil))))) (.bin .Mod (.bin .FloorDiv (.var 0) (.con (.int (64)))) (.con (.int (4)))))) (.con (.bl true)) (.call 6 (.cons (.bin .FloorDiv (.call 5 (.cons (.var 0) (.cons (.var 6) .nil))) (.con (.int (4)))) .nil))) .nil))) (.cons (.ite (.cmp .Eq (.var 1) (.con (.int (1)))) (.cons (.ret (.tup (.cons (.bin .Add (.con (.int (1))) (.bin .Mod (.bin .FloorDiv (.var 0) (.con (.int (256)))) (.con (.int (4))))) (.cons (.bin .Add (.con (.int (2))) (.bin .Mod (.bin .FloorDiv (.var 0) (.con (.int (1024)))) (.con (.int (5))))) (.cons (.var 4) (.cons (.var 5) .nil)))))) .nil) .nil) (.cons (.ite (.or (.and (.cmp .Eq (.var 2) (.con (.int (3)))) (.cmp .Eq (.var 3) (.con (.int (4))))) (.and (.cmp .Eq (.blt .len (.cons (.var 5) .nil)) (.con (.int (3)))) (.cmp .Gt (.bin .Mult (.bin .Mult (.var 2) (.var 3)) (.var 4)) (.con (.int (12)))))) (.cons (.ret (.tup (.cons (.con (.int (2))) (.cons (.blt .min2 (.cons (.var 3) (.cons (.con (.int (3))) .nil))) (.cons (.blt .min2 (.cons (.var 4) (.cons (.con (.int (2))) .nil))) (.cons (.var 5) .nil)))))) .nil) .nil) (.cons (.ret (.tup (.cons (.var 2) (.cons (.var 3) (.cons (.var 4) (.cons (.var 5) .nil)))))) .nil)))))))⟩
def ir__law_dice : FDef := ⟨2, 3, (.cons (.ret (.blt .tuple (.cons (.blt .sorted (.cons (.lc false [2] (.one 2) (.rng1 (.idx (.var 0) (.con (.int (0))))) (.con (.bl true)) (.bin .Add (.con (.int (1))) (.bin .Mod (.bin .FloorDiv (.call 5 (.cons (.var 1) (.cons (.bin .Add (.con (.int (30))) (.var 2)) .nil))) (.con (.int (4)))) (.idx (.var 0) (.con (.int (1))))))) .nil)) .nil))) .nil)⟩
def ir__law_from : FDef := ⟨3, 3, (.cons (.ret (.and (.blt (.isT .int) (.cons (.var 0) .nil)) (.and (.not (.blt (.isT .bl) (.cons (.var 0) .nil))) (.chn .LtE .LtE (.var 1) (.var 0) (.var 2))))) .nil)⟩
def ir__law_is_game : FDef := ⟨1, 2, (.cons (.ite (.or (.not (.blt (.isT .tup) (.cons (.var 0) .nil))) (.or (.cmp .NotEq (.blt .len (.cons (.var 0) .nil)) (.con (.int (4)))) (.not (.blt (.isT .tup) (.cons (.idx (.var 0) (.con (.int (3)))) .nil))))) (.cons (.ret (.con (.bl false))) .nil) .nil) (.cons (.ite (.or (.not (.call 10 (.cons (.idx (.var 0) (.con (.int (0)))) (.cons (.con (.int (1))) (.cons (.con (.int (4))) .nil))))) (.or (.not (.call 10 (.cons (.idx (.var 0) (.con (.int (1)))) (.cons (.con (.int (2))) (.cons (.con (.int (6))) .nil))))) (.not (.call 10 (.cons (.idx (.var 0) (.con (.int (2)))) (.cons (.con (.int (1))) (.cons (.con (.int (3))) .nil))))))) (.cons (.ret (.con (.bl false))) .nil) .nil) (.cons (.ret (.and (.chn .LtE .LtE (.con (.int (1))) (.blt .len (.cons (.idx (.var 0) (.con (.int (3)))) .nil)) (.con (.int (4)))) (.cmp .Eq (.lc false [1] (.one 1) (.seq (.idx (.var 0) (.con (.int (3))))) (.not (.call 11 (.cons (.var 1) .nil))) (.var 1)) (.lst .nil)))) .nil)))⟩
def ir__law_odd : FDef := ⟨1, 2, (.cons (.set (.one 1) (.lst (.cons (.neg (.con (.int (1)))) (.cons (.con (.int (0))) (.cons (.con (.int (1))) (.cons (.con (.int (2))) (.cons (.con (.int (3))) (.cons (.con (.int (4))) (.cons (.con (.int (5))) (.cons (.con (.int (6))) (.cons (.con (.int (7))) (.cons (.con (.int (24))) (.cons (.con (.int (25))) (.cons (.con (.int (50))) (.cons (.con (.int (51))) (.cons (.con (.bl true)) (.cons (.con (.bl false)) (.cons (.con .non) (.cons (.con (.str (Str.ofString ""))) (.cons (.con (.str (Str.ofString "all"))) (.cons (.con (.str (Str.ofString "face"))) (.cons (.con (.str (Str.ofString "run"))) (.cons (.tup .nil) (.cons (.lst .nil) (.cons (.tup (.cons (.con (.str (Str.ofString "all"))) .nil)) .nil))))))))))))))))))))))))) (.cons (.set (.one 1) (.bin .Add (.var 1) (.lst (.cons (.tup (.cons (.con (.str (Str.ofString "all"))) (.cons (.con (.int (1))) .nil))) (.cons (.tup (.cons (.con (.str (Str.ofString "face"))) (.cons (.con (.int (7))) .nil))) (.cons (.tup (.cons (.con (.str (Str.ofString "run"))) (.cons (.con (.int (1))) (.cons (.con (.int (5))) .nil)))) (.cons (.tup (.cons (.con (.str (Str.ofString "alike"))) (.cons (.con (.int (5))) (.cons (.con (.int (1))) .nil)))) (.cons (.tup (.cons (.con (.str (Str.ofString "under"))) (.cons (.con (.int (25))) .nil))) (.cons (.tup (.cons (.con (.str (Str.ofString "even"))) (.cons (.con (.int (0))) .nil))) (.cons (.con (.str (Str.ofString "2"))) .nil)))))))))) (.cons (.ret (.idx (.bin .Add (.var 1) (.lst (.cons (.lst (.cons (.con (.str (Str.ofString "all"))) .nil)) .nil))) (.bin .Mod (.var 0) (.con (.int (31)))))) .nil)))⟩
def ir__law_spoilt : FDef := ⟨3, 5, (.cons (.ite (.and (.cmp .Gt (.var 2) (.con (.int (0)))) (.and (.blt (.isT .tup) (.cons (.var 0) .nil)) (.and (.cmp .Gt (.blt .len (.cons (.var 0) .nil)) (.con (.int (0)))) (.cmp .Gt (.bin .Mod (.var 1) (.con (.int (6)))) (.con (.int (0))))))) (.cons (.set (.one 3) (.bin .Mod (.bin .FloorDiv (.var 1) (.con (.int (6)))) (.blt .len (.cons (.var 0) .nil)))) (.cons (.set (.one 4) (.call 14 (.cons (.idx (.var 0) (.var 3)) (.cons (.bin .FloorDiv (.call 5 (.cons (.var 1) (.cons (.var 2) .nil))) (.con (.int (4)))) (.cons (.bin .Sub (.var 2) (.con (.int (1)))) .nil))))) (.cons (.ret (.bin .Add (.bin .Add (.sli (.var 0) .no (.is (.var 3))) (.tup (.cons (.var 4) .nil))) (.sli (.var 0) (.is (.bin .Add (.var 3) (.con (.int (1))))) .no))) .nil))) .nil) (.cons (.ite (.and (.blt (.isT .tup) (.cons (.var 0) .nil)) (.and (.cmp .Gt (.blt .len (.cons (.var 0) .nil)) (.con (.int (0)))) (.cmp .Eq (.bin .Mod (.bin .FloorDiv (.var 1) (.con (.int (6)))) (.con (.int (2)))) (.con (.int (0)))))) (.cons (.ret (.idx (.lst (.cons (.blt .list (.cons (.var 0) .nil)) (.cons (.sli (.var 0) .no (.is (.neg (.con (.int (1)))))) (.cons (.bin .Add (.var 0) (.sli (.var 0) (.is (.neg (.con (.int (1))))) .no)) (.cons (.sli (.var 0) (.is (.con (.int (1)))) .no) (.cons (.rev (.var 0)) (.cons (.bin .Mult (.var 0) (.con (.int (3)))) .nil))))))) (.bin .Mod (.bin .FloorDiv (.var 1) (.con (.int (12)))) (.con (.int (6)))))) .nil) .nil) (.cons (.ite (.and (.blt (.isT .int) (.cons (.var 0) .nil)) (.cmp .Eq (.bin .Mod (.bin .FloorDiv (.var 1) (.con (.int (6)))) (.con (.int (2)))) (.con (.int (0))))) (.cons (.ret (.idx (.lst (.cons (.blt .str (.cons (.var 0) .nil)) (.cons (.neg (.var 0)) (.cons (.bin .Add (.var 0) (.con (.int (1)))) (.cons (.cmp .Eq (.var 0) (.con (.int (1)))) (.cons (.bin .Sub (.var 0) (.con (.int (1)))) (.cons (.bin .Add (.var 0) (.con (.int (5)))) .nil))))))) (.bin .Mod (.bin .FloorDiv (.var 1) (.con (.int (12)))) (.con (.int (6)))))) .nil) .nil) (.cons (.ret (.call 13 (.cons (.bin .FloorDiv (.var 1) (.con (.int (6)))) .nil))) .nil))))⟩
def ir_law_k01 : FDef := ⟨1, 5, (.cons (.set (.one 1) (.call 4 (.cons (.var 0) (.cons (.con (.int (0))) .nil)))) (.cons (.set (.one 2) (.call 7 (.cons (.call 4 (.cons (.var 0) (.cons (.con (.int (1))) .nil))) (.cons (.con (.int (1))) .nil)))) (.cons (.ite (.cmp .Eq (.bin .Mod (.var 1) (.con (.int (2)))) (.con (.int (1)))) (.cons (.set (.one 2) (.call 14 (.cons (.var 2) (.cons (.call 4 (.cons (.var 0) (.cons (.con (.int (2))) .nil))) (.cons (.bin .Mod (.bin .FloorDiv (.var 1) (.con (.int (2)))) (.con (.int (4)))) .nil))))) .nil) .nil) (.cons (.ite (.cmp .Eq (.bin .Mod (.bin .FloorDiv (.var 1) (.con (.int (64)))) (.con (.int (4)))) (.con (.int (1)))) (.cons (.set (.one 2) (.call 7 (.cons (.call 4 (.cons (.var 0) (.cons (.con (.int (1))) .nil))) (.cons (.con (.int (1))) .nil)))) (.cons (.set (.one 4) (.lst (.cons (.bin .Add (.tup (.cons (.con (.int (5))) .nil)) (.sli (.var 2) (.is (.con (.int (1)))) .no)) (.cons (.bin .Add (.bin .Add (.sli (.var 2) .no (.is (.con (.int (1))))) (.tup (.cons (.con (.int (7))) .nil))) (.sli (.var 2) (.is (.con (.int (2)))) .no)) (.cons (.bin .Add (.bin .Add (.sli (.var 2) .no (.is (.con (.int (2))))) (.tup (.cons (.con (.int (0))) .nil))) (.sli (.var 2) (.is (.con (.int (3)))) .no)) (.cons (.bin .Add (.tup (.cons (.con (.int (0))) .nil)) (.sli (.var 2) (.is (.con (.int (1)))) .no)) .nil)))))) (.cons (.set (.one 4) (.bin .Add (.var 4) (.lst (.cons (.bin .Add (.bin .Add (.sli (.var 2) .no (.is (.con (.int (2))))) (.tup (.cons (.con (.int (4))) .nil))) (.sli (.var 2) (.is (.con (.int (3)))) .no)) (.cons (.bin .Add (.bin .Add (.sli (.var 2) .no (.is (.con (.int (1))))) (.tup (.cons (.con (.int (1))) .nil))) (.sli (.var 2) (.is (.con (.int (2)))) .no)) (.cons (.bin .Add (.sli (.var 2) .no (.is (.con (.int (3))))) (.tup (.cons (.bin .Mult (.idx (.var 2) (.con (.int (3)))) (.con (.int (5)))) .nil))) .nil)))))) (.cons (.set (.one 2) (.idx (.var 4) (.bin .Mod (.bin .FloorDiv (.var 1) (.con (.int (256)))) (.con (.int (7)))))) .nil)))) .nil) (.cons (.set (.one 3) (.call 2 (.cons (.var 2) .nil))) (.cons (.ite (.or (.not (.blt (.isT .bl) (.cons (.var 3) .nil))) (.cmp .NotEq (.var 3) (.call 12 (.cons (.var 2) .nil)))) (.cons (.ret (.con (.bl false))) .nil) .nil) (.cons (.set (.one 2) (.call 6 (.cons (.call 4 (.cons (.var 0) (.cons (.con (.int (3))) .nil))) .nil))) (.cons (.ite (.cmp .Eq (.bin .Mod (.bin .FloorDiv (.var 1) (.con (.int (8)))) (.con (.int (2)))) (.con (.int (1)))) (.cons (.set (.one 2) (.call 14 (.cons (.var 2) (.cons (.call 4 (.cons (.var 0) (.cons (.con (.int (4))) .nil))) (.cons (.bin .Mod (.bin .FloorDiv (.var 1) (.con (.int (16)))) (.con (.int (2)))) .nil))))) .nil) .nil) (.cons (.ite (.cmp .Eq (.bin .Mod (.bin .FloorDiv (.var 1) (.con (.int (2048)))) (.con (.int (4)))) (.con (.int (1)))) (.cons (.set (.one 4) (.lst (.cons (.tup (.cons (.con (.str (Str.ofString "face"))) (.cons (.con (.int (7))) .nil))) (.cons (.tup (.cons (.con (.str (Str.ofString "face"))) (.cons (.con (.int (6))) .nil))) (.cons (.tup (.cons (.con (.str (Str.ofString "even"))) (.cons (.con (.int (51))) .nil))) (.cons (.tup (.cons (.con (.str (Str.ofString "even"))) (.cons (.con (.int (50))) .nil))) (.cons (.tup (.cons (.con (.str (Str.ofString "run"))) (.cons (.con (.int (5))) (.cons (.con (.int (3))) .nil)))) (.cons (.tup (.cons (.con (.str (Str.ofString "alike"))) (.cons (.con (.int (2))) (.cons (.con (.int (51))) .nil)))) (.cons (.tup (.cons (.con (.str (Str.ofString "run"))) (.cons (.con (.int (4))) (.cons (.con (.int (50))) .nil)))) .nil))))))))) (.cons (.set (.one 2) (.idx (.bin .Add (.var 4) (.lst (.cons (.tup (.cons (.con (.str (Str.ofString "under"))) (.cons (.con (.int (24))) .nil))) (.cons (.tup (.cons (.con (.str (Str.ofString "under"))) (.cons (.con (.int (25))) .nil))) (.cons (.tup (.cons (.con (.str (Str.ofString "alike"))) (.cons (.con (.int (1))) (.cons (.con (.int (5))) .nil)))) .nil))))) (.bin .Mod (.bin .FloorDiv (.var 1) (.con (.int (8192)))) (.con (.int (10)))))) .nil)) .nil) (.cons (.set (.one 3) (.call 1 (.cons (.var 2) .nil))) (.cons (.ret (.and (.blt (.isT .bl) (.cons (.var 3) .nil)) (.cmp .Eq (.var 3) (.call 11 (.cons (.var 2) .nil))))) .nil)))))))))))⟩
def ir_of_many : FDef := ⟨3, 3, (.cons (.ite (.cmp .Eq (.var 0) (.con (.int (1)))) (.cons (.ret (.bin .Add (.bin .Add (.blt .str (.cons (.var 0) .nil)) (.con (.str (Str.ofString " ")))) (.var 1))) .nil) .nil) (.cons (.ret (.bin .Add (.bin .Add (.blt .str (.cons (.var 0) .nil)) (.con (.str (Str.ofString " ")))) (.var 2))) .nil))⟩
def ir_box_text : FDef := ⟨1, 2, (.cons (.ret (.mth .join (.con (.str (Str.ofString " "))) (.cons (.lc false [1] (.one 1) (.seq (.var 0)) (.con (.bl true)) (.blt .str (.cons (.var 1) .nil))) .nil))) .nil)⟩
def ir_written : FDef := ⟨1, 7, (.cons (.set (.many [2, 3, 4, 5]) (.var 0)) (.cons (.set (.one 1) (.bin .Add (.bin .Add (.bin .Add (.bin .Add (.call 16 (.cons (.var 2) (.cons (.con (.str (Str.ofString "die"))) (.cons (.con (.str (Str.ofString "dice"))) .nil)))) (.con (.str (Str.ofString " of ")))) (.blt .str (.cons (.var 3) .nil))) (.con (.str (Str.ofString ", ")))) (.call 16 (.cons (.var 4) (.cons (.con (.str (Str.ofString "throw"))) (.cons (.con (.str (Str.ofString "throws"))) .nil)))))) (.cons (.ret (.mth .join (.con (.str (Str.ofString "; "))) (.cons (.bin .Add (.lst (.cons (.var 1) .nil)) (.lc false [6] (.one 6) (.seq (.var 5)) (.con (.bl true)) (.call 17 (.cons (.var 6) .nil)))) .nil))) .nil)))⟩
def ir__law_text : FDef := ⟨1, 8, (.cons (.set (.many [2, 3, 4, 5]) (.var 0)) (.cons (.set (.one 1) (.bin .Add (.bin .Add (.bin .Add (.blt .str (.cons (.var 2) .nil)) (.idx (.lst (.cons (.con (.str (Str.ofString " dice of "))) (.cons (.con (.str (Str.ofString " die of "))) .nil))) (.blt .int (.cons (.cmp .Eq (.var 2) (.con (.int (1)))) .nil)))) (.blt .str (.cons (.var 3) .nil))) (.con (.str (Str.ofString ", "))))) (.cons (.set (.one 1) (.bin .Add (.bin .Add (.var 1) (.blt .str (.cons (.var 4) .nil))) (.idx (.lst (.cons (.con (.str (Str.ofString " throws"))) (.cons (.con (.str (Str.ofString " throw"))) .nil))) (.blt .int (.cons (.cmp .Eq (.var 4) (.con (.int (1)))) .nil))))) (.cons (.ret (.mth .join (.con (.str (Str.ofString "; "))) (.cons (.bin .Add (.lst (.cons (.var 1) .nil)) (.lc false [6] (.one 6) (.seq (.var 5)) (.con (.bl true)) (.mth .join (.con (.str (Str.ofString " "))) (.cons (.lc false [7] (.one 7) (.seq (.var 6)) (.con (.bl true)) (.blt .str (.cons (.var 7) .nil))) .nil)))) .nil))) .nil))))⟩
def ir_law_k02 : FDef := ⟨1, 2, (.cons (.set (.one 1) (.call 7 (.cons (.call 4 (.cons (.var 0) (.cons (.con (.int (0))) .nil))) (.cons (.con (.int (1))) .nil)))) (.cons (.ret (.cmp .Eq (.call 18 (.cons (.var 1) .nil)) (.call 19 (.cons (.var 1) .nil)))) .nil))⟩
def ir_has_run : FDef := ⟨2, 4, (.cons (.ret (.blt .any (.cons (.lc false [2] (.one 2) (.seq (.var 0)) (.con (.bl true)) (.blt .all (.cons (.lc false [3] (.one 3) (.rng1 (.var 1)) (.con (.bl true)) (.cmp .In (.bin .Add (.var 2) (.var 3)) (.var 0))) .nil))) .nil))) .nil)⟩
def ir_points : FDef := ⟨2, 4, (.cons (.set (.one 2) (.idx (.var 0) (.con (.int (0))))) (.cons (.ite (.cmp .Eq (.var 2) (.con (.str (Str.ofString "face")))) (.cons (.ret (.bin .Mult (.idx (.var 0) (.con (.int (1)))) (.mth .count (.var 1) (.cons (.idx (.var 0) (.con (.int (1)))) .nil)))) .nil) .nil) (.cons (.ite (.cmp .Eq (.var 2) (.con (.str (Str.ofString "all")))) (.cons (.ret (.blt .sum (.cons (.var 1) .nil))) .nil) .nil) (.cons (.ite (.cmp .Eq (.var 2) (.con (.str (Str.ofString "alike")))) (.cons (.ret (.bin .Mult (.idx (.var 0) (.con (.int (2)))) (.blt .int (.cons (.blt .any (.cons (.lc false [3] (.one 3) (.seq (.var 1)) (.con (.bl true)) (.cmp .GtE (.mth .count (.var 1) (.cons (.var 3) .nil)) (.idx (.var 0) (.con (.int (1)))))) .nil)) .nil)))) .nil) .nil) (.cons (.ite (.cmp .Eq (.var 2) (.con (.str (Str.ofString "run")))) (.cons (.ret (.bin .Mult (.idx (.var 0) (.con (.int (2)))) (.blt .int (.cons (.call 38 (.cons (.var 1) (.cons (.idx (.var 0) (.con (.int (1)))) .nil))) .nil)))) .nil) .nil) (.cons (.ite (.cmp .Eq (.var 2) (.con (.str (Str.ofString "under")))) (.cons (.ret (.bin .Mult (.blt .sum (.cons (.var 1) .nil)) (.blt .int (.cons (.cmp .LtE (.blt .sum (.cons (.var 1) .nil)) (.idx (.var 0) (.con (.int (1))))) .nil)))) .nil) .nil) (.cons (.ret (.bin .Mult (.idx (.var 0) (.con (.int (1)))) (.blt .int (.cons (.blt .all (.cons (.lc false [3] (.one 3) (.seq (.var 1)) (.con (.bl true)) (.cmp .Eq (.bin .Mod (.var 3) (.con (.int (2)))) (.con (.int (0))))) .nil)) .nil)))) .nil)))))))⟩
def ir__law_points : FDef := ⟨2, 8, (.cons (.set (.one 2) (.idx (.var 0) (.con (.int (0))))) (.cons (.set (.one 3) (.lc false [5] (.one 5) (.rng1 (.con (.int (7)))) (.con (.bl true)) (.blt .len (.cons (.lc false [7] (.one 7) (.seq (.var 1)) (.cmp .Eq (.var 7) (.var 5)) (.var 7)) .nil)))) (.cons (.ite (.cmp .Eq (.var 2) (.con (.str (Str.ofString "face")))) (.cons (.ret (.bin .Mult (.idx (.var 0) (.con (.int (1)))) (.idx (.var 3) (.idx (.var 0) (.con (.int (1))))))) .nil) .nil) (.cons (.ite (.cmp .Eq (.var 2) (.con (.str (Str.ofString "alike")))) (.cons (.ret (.bin .Mult (.idx (.var 0) (.con (.int (2)))) (.blt .int (.cons (.cmp .GtE (.blt .max1 (.cons (.var 3) .nil)) (.idx (.var 0) (.con (.int (1))))) .nil)))) .nil) .nil) (.cons (.ite (.cmp .Eq (.var 2) (.con (.str (Str.ofString "run")))) (.cons (.set (.one 4) (.lc false [6] (.one 6) (.rng1 (.bin .Sub (.con (.int (7))) (.idx (.var 0) (.con (.int (1)))))) (.cmp .NotIn (.con (.int (0))) (.sli (.var 3) (.is (.bin .Add (.var 6) (.con (.int (1))))) (.is (.bin .Add (.bin .Add (.var 6) (.con (.int (1)))) (.idx (.var 0) (.con (.int (1)))))))) (.var 6))) (.cons (.ret (.bin .Mult (.idx (.var 0) (.con (.int (2)))) (.blt .int (.cons (.cmp .NotEq (.var 4) (.lst .nil)) .nil)))) .nil)) .nil) (.cons (.ite (.cmp .Eq (.var 2) (.con (.str (Str.ofString "even")))) (.cons (.ret (.bin .Mult (.idx (.var 0) (.con (.int (1)))) (.blt .int (.cons (.cmp .Eq (.lc false [7] (.one 7) (.seq (.var 1)) (.cmp .Eq (.bin .Mod (.var 7) (.con (.int (2)))) (.con (.int (1)))) (.var 7)) (.lst .nil)) .nil)))) .nil) .nil) (.cons (.ite (.and (.cmp .Eq (.var 2) (.con (.str (Str.ofString "under")))) (.cmp .Gt (.blt .sum (.cons (.var 1) .nil)) (.idx (.var 0) (.con (.int (1)))))) (.cons (.ret (.con (.int (0)))) .nil) .nil) (.cons (.ret (.blt .sum (.cons (.var 1) .nil))) .nil))))))))⟩
def ir_law_k10 : FDef := ⟨1, 6, (.cons (.set (.one 1) (.call 7 (.cons (.call 4 (.cons (.var 0) (.cons (.con (.int (0))) .nil))) (.cons (.con (.int (1))) .nil)))) (.cons (.set (.one 2) (.call 8 (.cons (.var 1) (.cons (.call 4 (.cons (.var 0) (.cons (.con (.int (1))) .nil))) .nil)))) (.cons (.ite (.cmp .Eq (.bin .Mod (.call 4 (.cons (.var 0) (.cons (.con (.int (2))) .nil))) (.con (.int (3)))) (.con (.int (1)))) (.cons (.set (.one 2) (.bin .Add (.bin .Mult (.sli (.var 2) .no (.is (.con (.int (1))))) (.bin .Sub (.blt .len (.cons (.var 2) .nil)) (.con (.int (1))))) (.sli (.var 2) (.is (.neg (.con (.int (1))))) .no))) .nil) .nil) (.cons (.for (.one 3) (.rng1 (.con (.int (4)))) (.cons (.set (.one 4) (.call 6 (.cons (.call 4 (.cons (.var 0) (.cons (.bin .Add (.con (.int (3))) (.var 3)) .nil))) .nil))) (.cons (.set (.one 5) (.call 39 (.cons (.var 4) (.cons (.var 2) .nil)))) (.cons (.ite (.or (.cmp .NotEq (.var 5) (.call 40 (.cons (.var 4) (.cons (.var 2) .nil)))) (.blt (.isT .bl) (.cons (.var 5) .nil))) (.cons (.ret (.con (.bl false))) .nil) .nil) .nil)))) (.cons (.ret (.con (.bl true))) .nil)))))⟩
def ir_plain : FDef := ⟨2, 4, (.cons (.set (.one 2) (.blt .abs (.cons (.var 0) .nil))) (.cons (.set (.one 3) (.var 1)) (.cons (.whl (.cmp .Gt (.var 2) (.con (.int (0)))) (.cons (.set (.many [2, 3]) (.tup (.cons (.bin .Mod (.var 3) (.var 2)) (.cons (.var 2) .nil)))) .nil)) (.cons (.ret (.tup (.cons (.bin .FloorDiv (.var 0) (.var 3)) (.cons (.bin .FloorDiv (.var 1) (.var 3)) .nil)))) .nil))))⟩
def ir_throws_of : FDef := ⟨2, 5, (.cons (.set (.many [2, 3]) (.call 43 (.cons (.var 0) (.cons (.var 1) .nil)))) (.cons (.ret (.blt .tuple (.cons (.lc false [4] (.one 4) (.seq (.blt .sorted (.cons (.var 2) .nil))) (.con (.bl true)) (.tup (.cons (.var 4) (.cons (.call 42 (.cons (.idx (.var 2) (.var 4)) (.cons (.var 3) .nil))) .nil)))) .nil))) .nil))⟩
def ir_after : FDef := ⟨2, 5, (.cons (.set (.one 2) (.lc false [3, 4] (.many [3, 4]) (.seq (.call 44 (.cons (.bin .Sub (.idx (.var 0) (.con (.int (0)))) (.blt .len (.cons (.var 1) .nil))) (.cons (.idx (.var 0) (.con (.int (1)))) .nil)))) (.con (.bl true)) (.tup (.cons (.blt .tuple (.cons (.blt .sorted (.cons (.bin .Add (.var 1) (.var 3)) .nil)) .nil)) (.cons (.var 4) .nil))))) (.cons (.ret (.blt .tuple (.cons (.blt .sorted (.cons (.var 2) .nil)) .nil))) .nil))⟩
def ir__law_plain : FDef := ⟨2, 4, (.cons (.set (.one 2) (.blt .abs (.cons (.var 0) .nil))) (.cons (.set (.one 3) (.var 1)) (.cons (.whl (.cmp .Gt (.var 2) (.con (.int (0)))) (.cons (.set (.many [2, 3]) (.tup (.cons (.bin .Mod (.var 3) (.var 2)) (.cons (.var 2) .nil)))) .nil)) (.cons (.ret (.tup (.cons (.bin .FloorDiv (.var 0) (.var 3)) (.cons (.bin .FloorDiv (.var 1) (.var 3)) .nil)))) .nil))))⟩
def ir_law_k11 : FDef := ⟨1, 5, (.cons (.set (.one 1) (.call 7 (.cons (.call 4 (.cons (.var 0) (.cons (.con (.int (0))) .nil))) (.cons (.con (.int (1))) .nil)))) (.cons (.set (.one 1) (.bin .Add (.tup (.cons (.idx (.var 1) (.con (.int (0)))) (.cons (.blt .min2 (.cons (.idx (.var 1) (.con (.int (1)))) (.cons (.con (.int (5))) .nil))) .nil))) (.sli (.var 1) (.is (.con (.int (2)))) .no))) (.cons (.ite (.cmp .NotEq (.call 44 (.cons (.idx (.var 1) (.con (.int (0)))) (.cons (.idx (.var 1) (.con (.int (1)))) .nil))) (.blt .tuple (.cons (.call 49 (.cons (.var 1) (.cons (.tup .nil) .nil))) .nil))) (.cons (.ret (.con (.bl false))) .nil) .nil) (.cons (.set (.one 2) (.call 8 (.cons (.var 1) (.cons (.call 4 (.cons (.var 0) (.cons (.con (.int (1))) .nil))) .nil)))) (.cons (.set (.one 3) (.call 50 (.cons (.var 2) .nil))) (.cons (.ite (.cmp .NotEq (.call 45 (.cons (.var 2) .nil)) (.blt .tuple (.cons (.var 3) .nil))) (.cons (.ret (.con (.bl false))) .nil) .nil) (.cons (.set (.one 4) (.idx (.var 3) (.bin .Mod (.call 4 (.cons (.var 0) (.cons (.con (.int (2))) .nil))) (.blt .len (.cons (.var 3) .nil))))) (.cons (.ret (.and (.cmp .Eq (.call 46 (.cons (.var 1) (.cons (.var 4) .nil))) (.blt .tuple (.cons (.call 49 (.cons (.var 1) (.cons (.var 4) .nil))) .nil))) (.cmp .Eq (.call 44 (.cons (.con (.int (0))) (.cons (.idx (.var 1) (.con (.int (1)))) .nil))) (.tup (.cons (.tup (.cons (.tup .nil) (.cons (.tup (.cons (.con (.int (1))) (.cons (.con (.int (1))) .nil))) .nil))) .nil))))) .nil))))))))⟩
def ir_law_k13 : FDef := ⟨1, 13, (.cons (.set (.one 1) (.call 7 (.cons (.call 4 (.cons (.var 0) (.cons (.con (.int (0))) .nil))) (.cons (.con (.int (1))) .nil)))) (.cons (.set (.one 2) (.call 8 (.cons (.var 1) (.cons (.call 4 (.cons (.var 0) (.cons (.con (.int (1))) .nil))) .nil)))) (.cons (.set (.one 3) (.call 39 (.cons (.tup (.cons (.con (.str (Str.ofString "all"))) .nil)) (.cons (.var 2) .nil)))) (.cons (.ite (.or (.cmp .NotEq (.var 3) (.blt .sum (.cons (.var 2) .nil))) (.cmp .NotEq (.var 3) (.blt .sum (.cons (.lc false [4] (.one 4) (.rng2 (.con (.int (1))) (.con (.int (7)))) (.con (.bl true)) (.call 39 (.cons (.tup (.cons (.con (.str (Str.ofString "face"))) (.cons (.var 4) .nil))) (.cons (.var 2) .nil)))) .nil)))) (.cons (.ret (.con (.bl false))) .nil) .nil) (.cons (.for (.one 4) (.rng2 (.con (.int (1))) (.con (.int (25)))) (.cons (.ite (.cmp .NotEq (.call 39 (.cons (.tup (.cons (.con (.str (Str.ofString "under"))) (.cons (.var 4) .nil))) (.cons (.var 2) .nil))) (.bin .Mult (.var 3) (.blt .int (.cons (.cmp .LtE (.var 3) (.var 4)) .nil)))) (.cons (.ret (.con (.bl false))) .nil) .nil) .nil)) (.cons (.for (.one 5) (.seq (.tup (.cons (.con (.int (1))) (.cons (.con (.int (7))) (.cons (.con (.int (50))) .nil))))) (.cons (.for (.one 6) (.seq (.tup (.cons (.con (.str (Str.ofString "alike"))) (.cons (.con (.str (Str.ofString "run"))) .nil)))) (.cons (.set (.one 10) (.lc false [11] (.one 11) (.seq (.tup (.cons (.con (.int (2))) (.cons (.con (.int (3))) (.cons (.con (.int (4))) .nil))))) (.con (.bl true)) (.call 39 (.cons (.tup (.cons (.var 6) (.cons (.var 11) (.cons (.var 5) .nil)))) (.cons (.var 2) .nil))))) (.cons (.ite (.or (.cmp .NotEq (.var 10) (.rev (.blt .sorted (.cons (.var 10) .nil)))) (.cmp .NotEq (.lc false [12] (.one 12) (.seq (.var 10)) (.cmp .NotIn (.var 12) (.tup (.cons (.con (.int (0))) (.cons (.var 5) .nil)))) (.var 12)) (.lst .nil))) (.cons (.ret (.con (.bl false))) .nil) .nil) .nil))) (.cons (.set (.one 7) (.blt .max1 (.cons (.lc false [4] (.one 4) (.seq (.var 2)) (.con (.bl true)) (.mth .count (.var 2) (.cons (.var 4) .nil))) .nil))) (.cons (.ite (.cmp .NotEq (.call 39 (.cons (.tup (.cons (.con (.str (Str.ofString "alike"))) (.cons (.con (.int (2))) (.cons (.var 5) .nil)))) (.cons (.var 2) .nil))) (.bin .Mult (.var 5) (.blt .int (.cons (.cmp .Gt (.var 7) (.con (.int (1)))) .nil)))) (.cons (.ret (.con (.bl false))) .nil) .nil) (.cons (.set (.one 8) (.lc false [4] (.one 4) (.seq (.var 2)) (.cmp .In (.bin .Add (.var 4) (.con (.int (1)))) (.var 2)) (.var 4))) (.cons (.ite (.cmp .NotEq (.call 39 (.cons (.tup (.cons (.con (.str (Str.ofString "run"))) (.cons (.con (.int (2))) (.cons (.var 5) .nil)))) (.cons (.var 2) .nil))) (.bin .Mult (.var 5) (.blt .int (.cons (.cmp .NotEq (.var 8) (.lst .nil)) .nil)))) (.cons (.ret (.con (.bl false))) .nil) .nil) (.cons (.set (.one 9) (.lc false [4] (.one 4) (.seq (.var 2)) (.cmp .Eq (.bin .Mod (.var 4) (.con (.int (2)))) (.con (.int (1)))) (.var 4))) (.cons (.ite (.cmp .NotEq (.call 39 (.cons (.tup (.cons (.con (.str (Str.ofString "even"))) (.cons (.var 5) .nil))) (.cons (.var 2) .nil))) (.bin .Mult (.var 5) (.blt .int (.cons (.cmp .Eq (.var 9) (.lst .nil)) .nil)))) (.cons (.ret (.con (.bl false))) .nil) .nil) .nil)))))))) (.cons (.ret (.con (.bl true))) .nil)))))))⟩
def gfn : Nat → Option FDef
  | 0 => some ir_is_whole
  | 2 => some ir_is_game
  | 3 => some ir__law_cell_at
  | 4 => some ir__law_mixed
  | 5 => some ir__law_drawn
  | 6 => some ir__law_box
  | 7 => some ir__law_game
  | 8 => some ir__law_dice
  | 10 => some ir__law_from
  | 12 => some ir__law_is_game
  | 13 => some ir__law_odd
  | 14 => some ir__law_spoilt
  | 15 => some ir_law_k01
  | 16 => some ir_of_many
  | 17 => some ir_box_text
  | 18 => some ir_written
  | 19 => some ir__law_text
  | 20 => some ir_law_k02
  | 38 => some ir_has_run
  | 39 => some ir_points
  | 40 => some ir__law_points
  | 41 => some ir_law_k10
  | 42 => some ir_plain
  | 44 => some ir_throws_of
  | 46 => some ir_after
  | 47 => some ir__law_plain
  | 51 => some ir_law_k11
  | 54 => some ir_law_k13
  | _ => none
def G : Prg := ⟨gfn, fun _ _ => none, fun _ => none, 100000⟩
end EV
/-! Pu1: plain laws: what the laws' own small functions compute. -/
namespace EV
open PySem

/-! ### calls that keep the store -/
theorem keepN_self (st : Store) : keepN st.length st st = true := by simp [keepN]
@[simp] theorem backV_self (st : Store) (v : D) : backV st v st = .ok v st := by
  unfold backV
  split <;> simp
@[simp] theorem backR_rt (st : Store) (v : D) : backR st (.ok (.rt v) st) = .ok v st := backV_self st v
@[simp] theorem backR_err (st : Store) (k : Nat) : backR st (.err k st) = .err k st := by
  simp only [backR, backX]
  split <;> simp
theorem call_of {n f : Nat} {d : FDef} {args : List D} {st : Store} (h : G.fn f = some d) (ha : args.length = d.np) :
    G.call (n + 1) f args st = backR st (evSs (G.ctx n) d.body (args.map some ++ List.replicate (d.ns - d.np) none) st) := by
  rw [Prg.call_succ G n f args st h, FDef.run, if_pos ha]
/-! ### the evaluator's equations, but that of comprehensions -/
section
variable {C : Ctx} {env : Env} {st : Store}
@[simp] theorem e_var (i : Nat) : evE C (.var i) env st = match env[i]? with | some (some d) => .ok d st | _ => .bad := by rw [evE] <;> rfl
@[simp] theorem e_con (d : D) : evE C (.con d) env st = .ok d st := by rw [evE]
@[simp] theorem e_bin (op : Operator) (a b : E) : evE C (.bin op a b) env st = (evE C a env st).bind fun x st => (evE C b env st).bind fun y st => binD op x y st := by rw [evE]
@[simp] theorem e_cmp (op : CmpOp) (a b : E) : evE C (.cmp op a b) env st = (evE C a env st).bind fun x st => (evE C b env st).bind fun y st => cmpD op x y st := by rw [evE]
@[simp] theorem e_and (a b : E) : evE C (.and a b) env st = (evE C a env st).bind fun x st => match x with
    | .bl true => evE C b env st
    | .bl false => .ok (.bl false) st
    | _ => .bad := by rw [evE] <;> rfl
@[simp] theorem e_or (a b : E) : evE C (.or a b) env st = (evE C a env st).bind fun x st => match x with
    | .bl true => .ok (.bl true) st
    | .bl false => evE C b env st
    | _ => .bad := by rw [evE] <;> rfl
@[simp] theorem e_not (a : E) : evE C (.not a) env st = (evE C a env st).bind fun x st => match x with
    | .bl b => .ok (.bl (!b)) st
    | _ => .bad := by rw [evE] <;> rfl
@[simp] theorem e_neg (a : E) : evE C (.neg a) env st = (evE C a env st).bind fun x st => match x with
    | .int i => .ok (.int (-i)) st
    | _ => .bad := by rw [evE] <;> rfl
@[simp] theorem e_tup (es : Es) : evE C (.tup es) env st = (evEs C es env st).bind fun xs st => R.test (decide (xs.length ≤ 1000)) (.ok (.tup xs) st) := by rw [evE]
@[simp] theorem e_lst (es : Es) : evE C (.lst es) env st = (evEs C es env st).bind fun xs st => R.test (decide (xs.length ≤ 1000)) (.ok (.lst xs) st) := by rw [evE]
@[simp] theorem e_idx (a b : E) : evE C (.idx a b) env st = (evE C a env st).bind fun x st => (evE C b env st).bind fun y st => idxD x y st := by rw [evE]
@[simp] theorem e_sli (a : E) (l h : Po) : evE C (.sli a l h) env st = (evE C a env st).bind fun x st => (evP C l env st).bind fun l st => (evP C h env st).bind fun h st => sliD x l h st := by rw [evE]
@[simp] theorem e_rev (a : E) : evE C (.rev a) env st = (evE C a env st).bind fun x st => match x with
    | .lst xs => .ok (.lst xs.reverse) st
    | _ => .bad := by rw [evE] <;> rfl
@[simp] theorem e_call (f : Nat) (es : Es) : evE C (.call f es) env st = (evEs C es env st).bind fun xs st => C.call f xs st := by rw [evE]
@[simp] theorem e_blt (f : Blt) (es : Es) : evE C (.blt f es) env st = (evEs C es env st).bind fun xs st => bltD f xs st := by rw [evE]
@[simp] theorem e_mth (m : Mth) (o : E) (es : Es) : evE C (.mth m o es) env st = (evE C o env st).bind fun x st => R.test (m.ok x st) ((evEs C es env st).bind fun xs st => mthD m x xs st) := by rw [evE]
@[simp] theorem es_nil : evEs C .nil env st = .ok [] st := by rw [evEs]
@[simp] theorem es_cons (e : E) (es : Es) : evEs C (.cons e es) env st = (evE C e env st).bind fun x st => (evEs C es env st).bind fun xs st => .ok (x :: xs) st := by rw [evEs]
@[simp] theorem p_no : evP C .no env st = .ok none st := by rw [evP]
@[simp] theorem p_is (e : E) : evP C (.is e) env st = (evE C e env st).bind fun x st => match x with
    | .int i => .ok (some i) st
    | _ => .bad := by rw [evP] <;> rfl
@[simp] theorem i_seq (e : E) : evI C (.seq e) env st = (evE C e env st).bind fun x st => seqIt x st := by rw [evI]
@[simp] theorem i_rng1 (e : E) : evI C (.rng1 e) env st = (evE C e env st).bind fun x st => rng2 (.int 0) x st := by rw [evI]
@[simp] theorem i_rng2 (a b : E) : evI C (.rng2 a b) env st = (evE C a env st).bind fun x st => (evE C b env st).bind fun y st => rng2 x y st := by rw [evI]
@[simp] theorem s_setE (t : Tg) (e : E) : evS C (.set t e) env st = (evE C e env st).bind fun x st => (R.of (asg t x env) st).bind fun env st => .ok (.nx env) st := by rw [evS]
@[simp] theorem s_retE (e : E) : evS C (.ret e) env st = (evE C e env st).bind fun v st => .ok (.rt v) st := by rw [evS]
@[simp] theorem s_iteE (c : E) (a b : Ss) : evS C (.ite c a b) env st = (evE C c env st).bind fun x st => match x with
    | .bl true => evSs C a env st
    | .bl false => evSs C b env st
    | _ => .bad := by rw [evS] <;> rfl
@[simp] theorem ss_nilE : evSs C .nil env st = .ok (.nx env) st := by rw [evSs]
@[simp] theorem ss_consE (s : S) (ss : Ss) : evSs C (.cons s ss) env st = (evS C s env st).bind fun f st => match f with
    | .nx env => evSs C ss env st
    | .rt v => .ok (.rt v) st
    | .bk env => .ok (.bk env) st
    | .ct env => .ok (.ct env) st := by rw [evSs] <;> rfl
end
theorem big1 (j : Int) (h : j.natAbs < 2 ^ 63) (i : Int) (st : Store) : binD .Mult (.int i) (.int j) st = .ok (.int (i * j)) st := by
  simp only [binD]
  simp [h]
theorem big0 (i : Int) (h : i.natAbs < 2 ^ 63) (j : Int) (st : Store) : binD .Mult (.int i) (.int j) st = .ok (.int (i * j)) st := by
  simp only [binD]
  simp [h]
theorem mod1 (i j : Int) (h : 0 < j) (st : Store) : binD .Mod (.int i) (.int j) st = .ok (.int (i % j)) st := by
  simp only [binD]
  simp [h]
theorem div1 (i j : Int) (h : 0 < j) (h2 : j < 2 ^ 63) (st : Store) : binD .FloorDiv (.int i) (.int j) st = .ok (.int (i / j)) st := by
  simp only [binD]
  have : j < 2 ^ 4000 := Int.lt_trans h2 (by decide +kernel)
  simp [h, this]
@[simp] theorem add1 (i j : Int) (st : Store) : binD .Add (.int i) (.int j) st = .ok (.int (i + j)) st := rfl
@[simp] theorem sub1 (i j : Int) (st : Store) : binD .Sub (.int i) (.int j) st = .ok (.int (i - j)) st := rfl
@[simp] theorem addL (a b : List D) (st : Store) : binD .Add (.lst a) (.lst b) st = R.test (decide (a.length + b.length ≤ lim)) (.ok (.lst (a ++ b)) st) := rfl
@[simp] theorem addT (a b : List D) (st : Store) : binD .Add (.tup a) (.tup b) st = R.test (decide (a.length + b.length ≤ lim)) (.ok (.tup (a ++ b)) st) := rfl
@[simp] theorem addS (a b : Str) (st : Store) : binD .Add (.str a) (.str b) st = R.test (decide (a.length + b.length ≤ lim)) (.ok (.str (a ++ b)) st) := rfl
theorem getAt_nat {α : Type} (xs : List α) (k : Nat) (h : k < xs.length) : getAt xs (k : Int) = some xs[k] := by
  simp [getAt, ix, h]
/-- script's number -/
def cellAt (ns : List Int) (k : Nat) : Int := ns.getD k 0
theorem p_cell (n : Nat) (ns : List Int) (k : Nat) (st : Store) : G.call (n + 1) 3 [.scr ns, .int k] st = .ok (.int (cellAt ns k)) st := by
  rw [call_of (d := ir__law_cell_at) rfl rfl]
  simp only [ir__law_cell_at]
  by_cases h : k < ns.length
  · simp [h, bltD, cmpD, seqOf, idxD, getAt_nat, cellAt]
  · simp [h, bltD, cmpD, seqOf, cellAt]
def mix1 (x : Int) (k : Nat) : Int := (x + 7919 * k + 1) * 48271 % 2147483647
def mixed (ns : List Int) (k : Nat) : Int := (mix1 (cellAt ns k) k * mix1 (cellAt ns k) k + 7 * mix1 (cellAt ns k) k + k) % 2147483629
theorem p_mixed (n : Nat) (ns : List Int) (k : Nat) (st : Store) : G.call (n + 2) 4 [.scr ns, .int k] st = .ok (.int (mixed ns k)) st := by
  rw [call_of (d := ir__law_mixed) rfl rfl]
  have hb : (mix1 (cellAt ns k) k).natAbs < 2 ^ 63 := by
    have h1 : 0 ≤ mix1 (cellAt ns k) k := Int.emod_nonneg _ (by decide)
    have h2 : mix1 (cellAt ns k) k < 2147483647 := Int.emod_lt_of_pos _ (by decide)
    omega
  simp only [ir__law_mixed]
  simp [p_cell, big1, big0, mod1, asg]
  rw [show ((cellAt ns k + 7919 * ↑k + 1) * 48271 % 2147483647) = mix1 (cellAt ns k) k from rfl, big0 _ hb]
  simp [mod1, mixed]
def drw1 (x : Int) (k : Nat) : Int := (x + 104729 * k + 17) * 69621 % 2147483647
def drawn (x : Int) (k : Nat) : Int := (drw1 x k * drw1 x k + 3 * drw1 x k + k) % 2147483629
theorem p_drawn (n : Nat) (x : Int) (k : Nat) (st : Store) : G.call (n + 1) 5 [.int x, .int k] st = .ok (.int (drawn x k)) st := by
  rw [call_of (d := ir__law_drawn) rfl rfl]
  have hb : (drw1 x k).natAbs < 2 ^ 63 := by
    have h1 : 0 ≤ drw1 x k := Int.emod_nonneg _ (by decide)
    have h2 : drw1 x k < 2147483647 := Int.emod_lt_of_pos _ (by decide)
    omega
  simp only [ir__law_drawn]
  simp [big1, big0, mod1, asg]
  rw [show ((x + 104729 * ↑k + 17) * 69621 % 2147483647) = drw1 x k from rfl, big0 _ hb]
  simp [mod1, drawn]
theorem drawn_nonneg (x : Int) (k : Nat) : 0 ≤ drawn x k := Int.emod_nonneg _ (by decide)
theorem mixed_nonneg (ns : List Int) (k : Nat) : 0 ≤ mixed ns k := Int.emod_nonneg _ (by decide)
/-! ### boxes -/
inductive Bx where
  | face (n : Int) | all | alike (n p : Int) | run (n p : Int) | under (n : Int) | even (p : Int)
abbrev sD (s : String) : D := .str (Str.ofString s)
def Bx.parts : Bx → List D
  | .face n => [sD "face", .int n]
  | .all => [sD "all"]
  | .alike n p => [sD "alike", .int n, .int p]
  | .run n p => [sD "run", .int n, .int p]
  | .under n => [sD "under", .int n]
  | .even p => [sD "even", .int p]
def Bx.d (b : Bx) : D := .tup b.parts
def boxOf (x : Int) : Bx := if x % 6 = 0 then .face (1 + x / 6 % 6) else if x % 6 = 1 then .all else if x % 6 = 2 then .alike (2 + x / 6 % 3) (1 + x / 64 % 50) else if x % 6 = 3 then .run (2 + x / 6 % 3) (1 + x / 64 % 50)
  else if x % 6 = 4 then .under (1 + x / 6 % 24) else .even (1 + x / 6 % 50)
theorem p_box (n : Nat) (x : Int) (st : Store) : G.call (n + 1) 6 [.int x] st = .ok (boxOf x).d st := by
  rw [call_of (d := ir__law_box) rfl rfl]
  simp only [ir__law_box]
  have h : x % 6 = 0 ∨ x % 6 = 1 ∨ x % 6 = 2 ∨ x % 6 = 3 ∨ x % 6 = 4 ∨ x % 6 = 5 := by omega
  rcases h with h | h | h | h | h | h <;> simp [h, mod1, div1, asg, lim, idxD, getAt, ix, boxOf, Bx.d, Bx.parts]
/-! ### comprehensions -/
theorem lcL_fm {t : Tg} {cond elt : Env → Store → R D} {env : Env} {st : Store} {α : Type} (e : α → D) (p : α → Bool) (f : α → D) : ∀ {xs : List α}, (∀ x ∈ xs, ∃ env', asg t (e x) env = some env' ∧ cond env' st = .ok (.bl (p x)) st ∧ (p x = true → elt env' st = .ok (f x) st)) →
    lcL .no t cond elt env (xs.map e) st = .ok ((xs.filter p).map f) st
  | [], _ => rfl
  | x :: xs, h => by
    obtain ⟨env', h1, h2, h3⟩ := h x (by simp)
    have ih := lcL_fm e p f (xs := xs) fun y hy => h y (by simp [hy])
    rw [List.map_cons, lcL, h1]
    simp only [Grd.holds, R.test_true, R.of_some, R.bind_ok, h2]
    cases hp : p x with
    | true => simp [h3 hp, ih, hp]
    | false => simp [ih, hp]
theorem lcL_map {t : Tg} {cond elt : Env → Store → R D} {env : Env} {st : Store} {α : Type} (e : α → D) (f : α → D) {xs : List α} (h : ∀ x ∈ xs, ∃ env', asg t (e x) env = some env' ∧ cond env' st = .ok (.bl true) st ∧ elt env' st = .ok (f x) st) :
    lcL .no t cond elt env (xs.map e) st = .ok (xs.map f) st := by
  have z := lcL_fm (t := t) (cond := cond) (elt := elt) (env := env) (st := st) e (fun _ => true) f (xs := xs) fun x hx => by
    obtain ⟨env', h1, h2, h3⟩ := h x hx
    exact ⟨env', h1, h2, fun _ => h3⟩
  rw [z, List.filter_eq_self.mpr (by simp)]
/-! ### games -/
def pick4 (a b c d y : Int) : Int := if y % 4 = 0 then a else if y % 4 = 1 then b else if y % 4 = 2 then c else d
theorem idx4 (a b c d y : Int) (st : Store) : idxD (.tup [.int a, .int b, .int c, .int d]) (.int (y % 4)) st = .ok (.int (pick4 a b c d y)) st := by
  have h : y % 4 = 0 ∨ y % 4 = 1 ∨ y % 4 = 2 ∨ y % 4 = 3 := by omega
  rcases h with h | h | h | h <;> simp [h, idxD, getAt, ix, pick4]
structure Gm where
  many : Int
  sides : Int
  throws : Int
  boxes : List Bx
def Gm.d (g : Gm) : D := .tup [.int g.many, .int g.sides, .int g.throws, .tup (g.boxes.map Bx.d)]
def boxesOf (x : Int) : List Bx := (List.range (pick4 1 2 2 3 (x / 64)).toNat).map fun k => boxOf (drawn x k / 4)
def gameOf1 (x : Int) : Gm := ⟨1 + x / 256 % 4, 2 + x / 1024 % 5, pick4 1 2 3 2 (x / 16), boxesOf x⟩
theorem pick_le (x : Int) : pick4 1 2 2 3 x ≤ 3 ∧ 1 ≤ pick4 1 2 2 3 x := by
  simp only [pick4]
  split
  · omega
  · split
    · omega
    · split <;> omega
theorem rngL_nat (m : Int) : rngL 0 m = (List.range m.toNat).map fun k : Nat => D.int k := by
  simp [rngL]
theorem ev_lc {C : Ctx} {own : List Nat} {t : Tg} {it : It} {cond elt : E} {env : Env} {st : Store} {α : Type} (e : α → D) (p : α → Bool) (f : α → D) {xs : List α} (hI : evI C it env st = .ok (xs.map e, .no) st)
    (h : ∀ x ∈ xs, ∃ env', asg t (e x) (wipes env own) = some env' ∧ evE C cond env' st = .ok (.bl (p x)) st ∧ (p x = true → evE C elt env' st = .ok (f x) st)) :
    evE C (.lc false own t it cond elt) env st = .ok (.lst ((xs.filter p).map f)) st := by
  rw [evE, hI]
  simp only [R.bind_ok, Grd.lock]
  rw [lcL_fm e p f h]
  simp [Grd.out, Grd.holds, Grd.free]
theorem ev_lcm {C : Ctx} {own : List Nat} {t : Tg} {it : It} {elt : E} {env : Env} {st : Store} {α : Type} (e : α → D) (f : α → D) {xs : List α} (hI : evI C it env st = .ok (xs.map e, .no) st)
    (h : ∀ x ∈ xs, ∃ env', asg t (e x) (wipes env own) = some env' ∧ evE C elt env' st = .ok (f x) st) :
    evE C (.lc false own t it (.con (.bl true)) elt) env st = .ok (.lst (xs.map f)) st := by
  rw [evE, hI]
  simp only [R.bind_ok, Grd.lock]
  rw [lcL_map e f fun x hx => ?_]
  · simp [Grd.out, Grd.holds, Grd.free]
  · obtain ⟨env', h1, h2⟩ := h x hx
    exact ⟨env', h1, by simp, h2⟩
theorem p_game1 (n : Nat) (x : Int) (st : Store) : G.call (n + 2) 7 [.int x, .int 1] st = .ok (gameOf1 x).d st := by
  rw [call_of (d := ir__law_game) rfl rfl]
  simp only [ir__law_game]
  have hp := pick_le (x / 64)
  simp [mod1, div1, asg, idx4]
  rw [ev_lcm (fun k : Nat => D.int k) (fun k => (boxOf (drawn x k / 4)).d) (xs := List.range (pick4 1 2 2 3 (x / 64)).toNat) ?_ fun k hk => ⟨_, rfl, ?_⟩]
  · simp [bltD, cmpD, D.flat, D.eqv, mod1, div1, gameOf1, Gm.d, boxesOf]
  · simp [mod1, div1, idx4, rng2, rngL_nat, show -1000000 ≤ pick4 1 2 2 3 (x / 64) by omega, show pick4 1 2 2 3 (x / 64) ≤ 1000000 by omega]
  · simp [wipes, p_drawn, div1, p_box]
end EV
/-! Pu2: dice and points. -/
namespace EV
open PySem

abbrev iT (ds : List Int) : D := .tup (ds.map D.int)
abbrev iL (ds : List Int) : D := .lst (ds.map D.int)
@[simp] theorem int_bl (b : Bool) (st : Store) : bltD .int [.bl b] st = .ok (.int (if b then 1 else 0)) st := rfl
theorem eq_int (i j : Int) (st : Store) : cmpD .Eq (.int i) (.int j) st = .ok (.bl (i == j)) st := by simp [cmpD, D.flat, D.eqv]
theorem ne_int (i j : Int) (st : Store) : cmpD .NotEq (.int i) (.int j) st = .ok (.bl (!(i == j))) st := by simp [cmpD, D.flat, D.eqv]
theorem eq_str (i j : Str) (st : Store) : cmpD .Eq (.str i) (.str j) st = .ok (.bl (i == j)) st := by simp [cmpD, D.flat, D.eqv]
@[simp] theorem lt_int (i j : Int) (st : Store) : cmpD .Lt (.int i) (.int j) st = .ok (.bl (decide (i < j))) st := rfl
@[simp] theorem le_int (i j : Int) (st : Store) : cmpD .LtE (.int i) (.int j) st = .ok (.bl (decide (i ≤ j))) st := rfl
@[simp] theorem gt_int (i j : Int) (st : Store) : cmpD .Gt (.int i) (.int j) st = .ok (.bl (decide (j < i))) st := rfl
@[simp] theorem ge_int (i j : Int) (st : Store) : cmpD .GtE (.int i) (.int j) st = .ok (.bl (decide (j ≤ i))) st := rfl
@[simp] theorem idx_0 (x : D) (xs : List D) (st : Store) : idxD (.tup (x :: xs)) (.int 0) st = .ok x st := by
  have : (0 : Int) < (xs.length : Int) + 1 := by omega
  simp [idxD, getAt, ix, this]
@[simp] theorem idx_1 (x y : D) (xs : List D) (st : Store) : idxD (.tup (x :: y :: xs)) (.int 1) st = .ok y st := by
  have : (1 : Int) < (xs.length : Int) + 1 + 1 := by omega
  simp [idxD, getAt, ix, this]
@[simp] theorem idx_2 (x y z : D) (xs : List D) (st : Store) : idxD (.tup (x :: y :: z :: xs)) (.int 2) st = .ok z st := by
  have : (2 : Int) < (xs.length : Int) + 1 + 1 + 1 := by omega
  simp [idxD, getAt, ix, this]
@[simp] theorem idx_3 (x y z u : D) (xs : List D) (st : Store) : idxD (.tup (x :: y :: z :: u :: xs)) (.int 3) st = .ok u st := by
  have : (3 : Int) < (xs.length : Int) + 1 + 1 + 1 + 1 := by omega
  simp [idxD, getAt, ix, this]
theorem rng_ok (m : Int) (h0 : -1000 ≤ m) (h1 : m ≤ 1000) (st : Store) : rng2 (.int 0) (.int m) st = .ok ((List.range m.toNat).map (fun k : Nat => D.int k), .no) st := by
  have e1 : -1000000 ≤ m := by omega
  have e2 : m ≤ 1000000 := by omega
  simp only [rng2, rngL_nat]
  simp [e1, e2]
theorem flats_int (n : Nat) : ∀ ds : List Int, D.flats n (ds.map D.int) = true
  | [] => by simp [D.flats]
  | d :: ds => by rw [List.map_cons, D.flats, D.flat, flats_int n ds]; rfl
theorem flat_iL (n : Nat) (ds : List Int) : (iL ds).flat (n + 1) = true := by rw [D.flat]; exact flats_int n ds
theorem flat_iT (n : Nat) (ds : List Int) : (iT ds).flat (n + 1) = true := by rw [D.flat]; exact flats_int n ds
theorem eqvs_int : ∀ xs ys : List Int, D.eqvs (xs.map D.int) (ys.map D.int) = decide (xs = ys)
  | [], [] => by simp [D.eqvs]
  | [], _ :: _ => by simp [D.eqvs]
  | _ :: _, [] => by simp [D.eqvs]
  | x :: xs, y :: ys => by
    rw [List.map_cons, List.map_cons, D.eqvs, eqvs_int xs ys, D.eqv]
    by_cases h : x = y <;> by_cases h2 : xs = ys <;> simp [h, h2]
theorem memD_int (x : Int) : ∀ ds : List Int, memD (.int x) (ds.map D.int) = decide (x ∈ ds)
  | [] => by simp [memD]
  | d :: ds => by
    rw [List.map_cons, memD, memD_int x ds, D.eqv]
    by_cases h : d = x
    · simp [h]
    · have h' : ¬ x = d := fun z => h z.symm
      simp [h, h']
theorem countD_int (x : Int) : ∀ ds : List Int, countD (.int x) (ds.map D.int) = ds.count x
  | [] => rfl
  | d :: ds => by
    rw [List.map_cons, countD, countD_int x ds, D.eqv, List.count_cons]
    by_cases h : d = x <;> simp [h]
theorem intsOf_map : ∀ ds : List Int, intsOf (ds.map D.int) = some ds
  | [] => rfl
  | d :: ds => by rw [List.map_cons, intsOf, intsOf_map ds]; rfl
theorem blsOf_map : ∀ bs : List Bool, blsOf (bs.map D.bl) = some bs
  | [] => rfl
  | d :: ds => by rw [List.map_cons, blsOf, blsOf_map ds]; rfl
theorem in_int (x : Int) (ds : List Int) (st : Store) : cmpD .In (.int x) (iT ds) st = .ok (.bl (decide (x ∈ ds))) st := by
  simp [cmpD, D.flat, flats_int, memD_int]
theorem notin_int (x : Int) (ds : List Int) (st : Store) : cmpD .NotIn (.int x) (iL ds) st = .ok (.bl (!decide (x ∈ ds))) st := by
  simp [cmpD, D.flat, flats_int, memD_int]
theorem count_int (x : Int) (ds : List Int) (st : Store) : mthD .count (iT ds) [.int x] st = .ok (.int (ds.count x)) st := by
  simp [mthD, D.flat, flats_int, countD_int]
theorem count_ok (ds : List Int) (st : Store) : Mth.count.ok (iT ds) st = true := by simp [Mth.ok, Mth.kd, D.kd]
theorem sum_int (ds : List Int) (st : Store) : bltD .sum [iT ds] st = .ok (.int ds.sum) st := by
  simp [bltD, seqOf, intsOf_map]
theorem len_iT (ds : List Int) (st : Store) : bltD .len [iT ds] st = .ok (.int ds.length) st := by
  simp [bltD, seqOf]
theorem any_bl (bs : List Bool) (st : Store) : bltD .any [.lst (bs.map D.bl)] st = .ok (.bl (bs.any id)) st := by
  simp [bltD, blsOf_map]
theorem all_bl (bs : List Bool) (st : Store) : bltD .all [.lst (bs.map D.bl)] st = .ok (.bl (bs.all id)) st := by
  simp [bltD, blsOf_map]
theorem any_bl' {α : Type} (xs : List α) (f : α → Bool) (st : Store) : bltD .any [.lst (xs.map fun x => D.bl (f x))] st = .ok (.bl (xs.any f)) st := by
  have e : (xs.map fun x => D.bl (f x)) = (xs.map f).map D.bl := by simp
  rw [e, any_bl, List.any_map]
  rfl
theorem all_bl' {α : Type} (xs : List α) (f : α → Bool) (st : Store) : bltD .all [.lst (xs.map fun x => D.bl (f x))] st = .ok (.bl (xs.all f)) st := by
  have e : (xs.map fun x => D.bl (f x)) = (xs.map f).map D.bl := by simp
  rw [e, all_bl, List.all_map]
  rfl
/-! ### dice -/
def diceOf (g : Gm) (x : Int) : List Int := sortI ((List.range g.many.toNat).map fun k => 1 + drawn x (30 + k) / 4 % g.sides)
theorem sorted_int (ds : List Int) (st : Store) : bltD .sorted [iL ds] st = .ok (iL (sortI ds)) st := by
  simp [bltD, sortD, intsOf_map]
theorem p_dice (n : Nat) (g : Gm) (h0 : 0 ≤ g.many) (h1 : g.many ≤ 1000) (hs : 0 < g.sides) (x : Int) (st : Store) : G.call (n + 2) 8 [g.d, .int x] st = .ok (iT (diceOf g x)) st := by
  rw [call_of (d := ir__law_dice) rfl rfl]
  simp only [ir__law_dice]
  simp only [ss_consE, s_retE, e_blt, es_cons, es_nil]
  rw [ev_lcm (fun k : Nat => D.int k) (fun k => D.int (1 + drawn x (30 + k) / 4 % g.sides)) (xs := List.range g.many.toNat) ?_ fun k hk => ⟨_, rfl, ?_⟩]
  · have e : ((List.range g.many.toNat).map fun k => D.int (1 + drawn x (30 + k) / 4 % g.sides)) = ((List.range g.many.toNat).map fun k => 1 + drawn x (30 + k) / 4 % g.sides).map D.int := by simp
    rw [e]
    simp only [R.bind_ok]
    rw [sorted_int]
    simp [bltD, diceOf]
  · simp [Gm.d, rng_ok g.many (by omega) (by omega)]
  · have e : (30 : Int) + (k : Int) = ((30 + k : Nat) : Int) := by omega
    simp [wipes, Gm.d]
    rw [e, p_drawn]
    simp [div1, mod1 _ _ hs]
theorem dice_len (g : Gm) (x : Int) : (diceOf g x).length = g.many.toNat := by
  rw [diceOf, (sortI_perm _).length_eq]
  simp
theorem dice_mem (g : Gm) (x : Int) (hs : 0 < g.sides) : ∀ d ∈ diceOf g x, 1 ≤ d ∧ d ≤ g.sides := fun d hd => by
  have hd := (sortI_perm _).subset hd
  obtain ⟨k, _, rfl⟩ := List.mem_map.mp hd
  have h1 := Int.emod_nonneg (drawn x (30 + k) / 4) (show g.sides ≠ 0 by omega)
  have h2 := Int.emod_lt_of_pos (drawn x (30 + k) / 4) hs
  omega
/-! ### points -/
def hasRun (ds : List Int) (n : Int) : Bool := ds.any fun f => (List.range n.toNat).all fun k => decide (f + k ∈ ds)
theorem p_has_run (n : Nat) (ds : List Int) (m : Int) (h0 : -1000 ≤ m) (h1 : m ≤ 1000) (st : Store) : G.call (n + 1) 38 [iT ds, .int m] st = .ok (.bl (hasRun ds m)) st := by
  rw [call_of (d := ir_has_run) rfl rfl]
  simp only [ir_has_run]
  simp only [ss_consE, s_retE, e_blt, es_cons, es_nil]
  rw [ev_lcm (fun d : Int => D.int d) (fun d => D.bl ((List.range m.toNat).all fun k => decide (d + k ∈ ds))) (xs := ds) ?_ fun d hd => ⟨_, rfl, ?_⟩]
  · simp only [R.bind_ok]
    rw [any_bl']
    simp [hasRun]
  · simp [seqIt]
  · simp only [e_blt, es_cons, es_nil]
    rw [ev_lcm (fun k : Nat => D.int k) (fun k => D.bl (decide (d + k ∈ ds))) (xs := List.range m.toNat) ?_ fun k hk => ⟨_, rfl, ?_⟩]
    · simp only [R.bind_ok]
      rw [all_bl']
    · simp [wipes, rng_ok m (by omega) (by omega)]
    · simp [wipes]
      exact in_int _ _ _
def b2i (b : Bool) : Int := if b then 1 else 0
def pts : Bx → List Int → Int
  | .face n, ds => n * ds.count n
  | .all, ds => ds.sum
  | .alike n p, ds => p * b2i (ds.any fun d => decide (n ≤ ds.count d))
  | .run n p, ds => p * b2i (hasRun ds n)
  | .under n, ds => ds.sum * b2i (decide (ds.sum ≤ n))
  | .even p, ds => p * b2i (ds.all fun d => d % 2 == 0)
/-- a box with numbers of common size -/
def Bx.Fit : Bx → Prop
  | .face n => n.natAbs < 1000
  | .all => True
  | .alike n p => n.natAbs < 1000 ∧ p.natAbs < 1000
  | .run n p => n.natAbs < 1000 ∧ p.natAbs < 1000
  | .under n => n.natAbs < 1000
  | .even p => p.natAbs < 1000
theorem big3 (i j : Int) (h : i.natAbs < 1000) (st : Store) : binD .Mult (.int i) (.int j) st = .ok (.int (i * j)) st := big0 i (by omega) j st
theorem big4 (i : Int) (b : Bool) (st : Store) : binD .Mult (.int i) (.int (if b then 1 else 0)) st = .ok (.int (i * b2i b)) st := by
  rw [big1 _ (by cases b <;> decide) i st]
  rfl
theorem p_points (n : Nat) (b : Bx) (hb : b.Fit) (ds : List Int) (st : Store) : G.call (n + 2) 39 [b.d, iT ds] st = .ok (.int (pts b ds)) st := by
  rw [call_of (d := ir_points) rfl rfl]
  simp only [ir_points]
  have w : ∀ a c : String, (Str.ofString a == Str.ofString c) = decide (Str.ofString a = Str.ofString c) := fun a c => by
    by_cases h : Str.ofString a = Str.ofString c <;> simp [h]
  have w1 : (Str.ofString "all" == Str.ofString "face") = false := by decide +kernel
  have w2 : (Str.ofString "alike" == Str.ofString "face") = false := by decide +kernel
  have w3 : (Str.ofString "alike" == Str.ofString "all") = false := by decide +kernel
  have w4 : (Str.ofString "run" == Str.ofString "face") = false := by decide +kernel
  have w5 : (Str.ofString "run" == Str.ofString "all") = false := by decide +kernel
  have w6 : (Str.ofString "run" == Str.ofString "alike") = false := by decide +kernel
  have w7 : (Str.ofString "under" == Str.ofString "face") = false := by decide +kernel
  have w8 : (Str.ofString "under" == Str.ofString "all") = false := by decide +kernel
  have w9 : (Str.ofString "under" == Str.ofString "alike") = false := by decide +kernel
  have w10 : (Str.ofString "under" == Str.ofString "run") = false := by decide +kernel
  have w11 : (Str.ofString "even" == Str.ofString "face") = false := by decide +kernel
  have w12 : (Str.ofString "even" == Str.ofString "all") = false := by decide +kernel
  have w13 : (Str.ofString "even" == Str.ofString "alike") = false := by decide +kernel
  have w14 : (Str.ofString "even" == Str.ofString "run") = false := by decide +kernel
  have w15 : (Str.ofString "even" == Str.ofString "under") = false := by decide +kernel
  cases b with
  | face m =>
    simp [Bx.d, Bx.parts, sD, asg, eq_str, count_ok, count_int, big3 _ _ hb, pts]
  | all =>
    simp [Bx.d, Bx.parts, sD, asg, eq_str, w1, sum_int, pts]
  | alike m p =>
    simp [Bx.d, Bx.parts, sD, asg, eq_str, w2, w3]
    rw [ev_lcm (fun d : Int => D.int d) (fun d => D.bl (decide (m ≤ ds.count d))) (xs := ds) ?_ fun d hd => ⟨_, rfl, ?_⟩]
    · simp only [R.bind_ok]
      rw [any_bl']
      simp only [R.bind_ok]
      rw [int_bl]
      simp only [R.bind_ok]
      rw [big4]
      simp [pts]
    · simp [seqIt]
    · simp [wipes, count_ok, count_int]
  | run m p =>
    simp [Bx.d, Bx.parts, sD, asg, eq_str, w4, w5, w6, p_has_run _ _ m (by have := hb.1; omega) (by have := hb.1; omega), big4, pts]
  | under m =>
    simp [Bx.d, Bx.parts, sD, asg, eq_str, w7, w8, w9, w10, sum_int]
    rw [show (if ds.sum ≤ m then (1 : Int) else 0) = (if (decide (ds.sum ≤ m)) = true then 1 else 0) by simp]
    rw [big4]
    simp [pts]
  | even p =>
    simp [Bx.d, Bx.parts, sD, asg, eq_str, w11, w12, w13, w14, w15]
    rw [ev_lcm (fun d : Int => D.int d) (fun d => D.bl (d % 2 == 0)) (xs := ds) ?_ fun d hd => ⟨_, rfl, ?_⟩]
    · simp only [R.bind_ok]
      rw [all_bl']
      simp only [R.bind_ok]
      rw [int_bl]
      simp only [R.bind_ok]
      rw [big4]
      simp [pts]
    · simp [seqIt]
    · simp [wipes, mod1, eq_int]
end EV
/-! Pu3: more plain lemmas: lists, loops, all dice. -/
namespace EV
open PySem

def Bx.In : Bx → Prop
  | .face n => 1 ≤ n ∧ n ≤ 6
  | .all => True
  | .alike n p => 2 ≤ n ∧ n ≤ 4 ∧ 1 ≤ p ∧ p ≤ 50
  | .run n p => 2 ≤ n ∧ n ≤ 4 ∧ 1 ≤ p ∧ p ≤ 50
  | .under n => 1 ≤ n ∧ n ≤ 24
  | .even p => 1 ≤ p ∧ p ≤ 50
theorem Bx.In.fit {b : Bx} (h : b.In) : b.Fit := by
  cases b <;> simp only [Bx.In, Bx.Fit] at * <;> first | trivial | omega
theorem len_iL (ds : List Int) (st : Store) : bltD .len [iL ds] st = .ok (.int ds.length) st := by
  simp [bltD, seqOf]
theorem sum_iL (ds : List Int) (st : Store) : bltD .sum [iL ds] st = .ok (.int ds.sum) st := by
  simp [bltD, seqOf, intsOf_map]
theorem cut_map {α β : Type} (f : α → β) (xs : List α) (l h : Option Int) : cut (xs.map f) l h = (cut xs l h).map f := by
  simp [cut, List.map_take, List.map_drop]
theorem ne_iL (xs ys : List Int) (st : Store) : cmpD .NotEq (iL xs) (iL ys) st = .ok (.bl (!decide (xs = ys))) st := by
  simp [cmpD, D.flat, flats_int, D.eqv, eqvs_int]
theorem eq_iL (xs ys : List Int) (st : Store) : cmpD .Eq (iL xs) (iL ys) st = .ok (.bl (decide (xs = ys))) st := by
  simp [cmpD, D.flat, flats_int, D.eqv, eqvs_int]
def maxOf (ns : List Int) : Int := match ns with
  | [] => 0
  | n :: r => r.foldl max n
theorem max_iL (ns : List Int) (h : ns ≠ []) (st : Store) : bltD .max1 [iL ns] st = .ok (.int (maxOf ns)) st := by
  cases ns with
  | nil => exact absurd rfl h
  | cons n r => simp [bltD, maxOf, intsOf, intsOf_map]
theorem rng12 (a b : Int) (h0 : -1000 ≤ a) (h1 : a ≤ 1000) (h2 : -1000 ≤ b) (h3 : b ≤ 1000) (st : Store) : rng2 (.int a) (.int b) st = .ok ((List.range (b - a).toNat).map (fun k : Nat => D.int (a + k)), .no) st := by
  have e1 : -1000000 ≤ a := by omega
  have e2 : a ≤ 1000000 := by omega
  have e3 : -1000000 ≤ b := by omega
  have e4 : b ≤ 1000000 := by omega
  simp [rng2, rngL, e1, e2, e3, e4]
/-! ### all dice -/
def allL : Nat → List (List Int)
  | 0 => [[]]
  | k + 1 => [1, 2, 3, 4, 5, 6].flatMap fun d : Int => (allL k).map fun r => d :: r
theorem mem_allL : ∀ (k : Nat) (ds : List Int), ds.length = k → (∀ d ∈ ds, 1 ≤ d ∧ d ≤ 6) → ds ∈ allL k
  | 0, ds, hl, _ => by rw [List.length_eq_zero_iff.mp hl]; simp [allL]
  | k + 1, [], hl, _ => by simp at hl
  | k + 1, d :: ds, hl, h => by
    have ih := mem_allL k ds (by simpa using hl) fun x hx => h x (by simp [hx])
    have hd := h d (by simp)
    rw [allL, List.mem_flatMap]
    exact ⟨d, by simp; omega, List.mem_map.mpr ⟨ds, ih, rfl⟩⟩
/-! ### loops -/
theorem forL_keep {t : Tg} {body : Env → Store → R Fl} {st : Store} {α : Type} (e : α → D) (P : Env → Prop) : ∀ {xs : List α} {env : Env}, (∀ x ∈ xs, ∀ env, P env → ∃ env1 env2, asg t (e x) env = some env1 ∧ body env1 st = .ok (.nx env2) st ∧ P env2) → P env →
    ∃ env', forL .no t body (xs.map e) env st = .ok (.nx env') st ∧ P env'
  | [], env, _, hp => ⟨env, rfl, hp⟩
  | x :: xs, env, h, hp => by
    obtain ⟨env1, env2, h1, h2, h3⟩ := h x (by simp) env hp
    obtain ⟨env', h4, h5⟩ := forL_keep e P (xs := xs) (fun y hy => h y (by simp [hy])) h3
    refine ⟨env', ?_, h5⟩
    rw [List.map_cons, forL, h1]
    simp [Grd.holds, h2, h4]
/-- a for over what stands still, that ends with its last turn -/
theorem ev_for {C : Ctx} {t : Tg} {it : It} {b : Ss} {st : Store} {α : Type} (e : α → D) (P : Env → Prop) {xs : List α} {env : Env} (hI : evI C it env st = .ok (xs.map e, .no) st)
    (h : ∀ x ∈ xs, ∀ env, P env → ∃ env1 env2, asg t (e x) env = some env1 ∧ evSs C b env1 st = .ok (.nx env2) st ∧ P env2) (hp : P env) : ∃ env', evS C (.for t it b) env st = .ok (.nx env') st ∧ P env' := by
  obtain ⟨env', h1, h2⟩ := forL_keep e P h hp
  refine ⟨env', ?_, h2⟩
  rw [evS, hI]
  simp only [R.bind_ok, Grd.lock]
  rw [h1]
  simp [Grd.out, Grd.holds, Grd.free]
/-- a statement, then the others -/
theorem ss_next {C : Ctx} {s : S} {ss : Ss} {env env' : Env} {st st' : Store} (h : evS C s env st = .ok (.nx env') st') : evSs C (.cons s ss) env st = evSs C ss env' st' := by
  rw [evSs, h]
  rfl
end EV
namespace K13
open PySem PySem.Spec PyProof.Rows L2 EV
def top (i : Nat) : Stmt := PySem.Challenge.pw_diceboxes_k13_whole_points_by_points.main.body.getD i (.Pass ⟨0, 0, 0, 0⟩)
def d38 : DefS := mkDef "has_run" (top 1) ["dice", "many"] ["dice", "many", "first", "k"] []
def d39 : DefS := mkDef "points" (top 2) ["box", "dice"] ["box", "dice", "word", "die"] []
def d3 : DefS := mkDef "_law_cell_at" (top 4) ["script", "k"] ["script", "k"] []
def d4 : DefS := mkDef "_law_mixed" (top 5) ["script", "k"] ["script", "k", "drawn"] []
def d5 : DefS := mkDef "_law_drawn" (top 6) ["number", "k"] ["number", "k", "drawn"] []
def d6 : DefS := mkDef "_law_box" (top 7) ["number"] ["number", "kind", "some"] []
def d7 : DefS := mkDef "_law_game" (top 8) ["number", "great"] ["number", "great", "many", "sides", "throws", "boxes", "k"] []
def d8 : DefS := mkDef "_law_dice" (top 9) ["game", "number"] ["game", "number", "k"] []
def d54 : DefS := mkDef "law" (top 10) ["script"] ["script", "game", "dice", "whole", "n", "worth_one", "word", "often", "near", "odd", "some", "k", "one"] []
def defs : Defs := [(38, d38), (39, d39), (3, d3), (4, d4), (5, d5), (6, d6), (7, d7), (8, d8), (54, d54)]
def free : List Str := ["all", "any", "int", "len", "max", "min", "range", "sorted", "sum", "tuple"]
def nums : List (Str × Int) := []

theorem c38 : d38.comp (fnOfD defs) free nums 60 = some ir_has_run := by kernel_rfl
theorem c39 : d39.comp (fnOfD defs) free nums 60 = some ir_points := by kernel_rfl
theorem c3 : d3.comp (fnOfD defs) free nums 60 = some ir__law_cell_at := by kernel_rfl
theorem c4 : d4.comp (fnOfD defs) free nums 60 = some ir__law_mixed := by kernel_rfl
theorem c5 : d5.comp (fnOfD defs) free nums 60 = some ir__law_drawn := by kernel_rfl
theorem c6 : d6.comp (fnOfD defs) free nums 60 = some ir__law_box := by kernel_rfl
theorem c7 : d7.comp (fnOfD defs) free nums 60 = some ir__law_game := by kernel_rfl
theorem c8 : d8.comp (fnOfD defs) free nums 60 = some ir__law_dice := by kernel_rfl
theorem c54 : d54.comp (fnOfD defs) free nums 60 = some ir_law_k13 := by kernel_rfl
theorem hG : ∀ p ∈ defs, ∀ fdef : FDef, G.fn p.1 = some fdef → p.2.comp (fnOfD defs) free nums 60 = some fdef := by
  intro p hp
  simp only [defs, List.mem_cons, List.mem_nil_iff, or_false] at hp
  rcases hp with rfl | rfl | rfl | rfl | rfl | rfl | rfl | rfl | rfl
  · intro fdef h; cases h; exact c38
  · intro fdef h; cases h; exact c39
  · intro fdef h; cases h; exact c3
  · intro fdef h; cases h; exact c4
  · intro fdef h; cases h; exact c5
  · intro fdef h; cases h; exact c6
  · intro fdef h; cases h; exact c7
  · intro fdef h; cases h; exact c8
  · intro fdef h; cases h; exact c54
theorem hs : ∀ p ∈ defs, p.2.scopeC = true := by
  intro p hp
  simp only [defs, List.mem_cons, List.mem_nil_iff, or_false] at hp
  rcases hp with rfl | rfl | rfl | rfl | rfl | rfl | rfl | rfl | rfl <;> decide +kernel
theorem hn : ∀ p ∈ defs, dlOf defs p.1 = some p.2 := by
  intro p hp
  simp only [defs, List.mem_cons, List.mem_nil_iff, or_false] at hp
  rcases hp with rfl | rfl | rfl | rfl | rfl | rfl | rfl | rfl | rfl <;> rfl
theorem b38 : d38.BindOk := fun _ _ _ _ _ _ us hl => match us, hl with | [_, _], _ => rfl
theorem b39 : d39.BindOk := fun _ _ _ _ _ _ us hl => match us, hl with | [_, _], _ => rfl
theorem b3 : d3.BindOk := fun _ _ _ _ _ _ us hl => match us, hl with | [_, _], _ => rfl
theorem b4 : d4.BindOk := fun _ _ _ _ _ _ us hl => match us, hl with | [_, _], _ => rfl
theorem b5 : d5.BindOk := fun _ _ _ _ _ _ us hl => match us, hl with | [_, _], _ => rfl
theorem b6 : d6.BindOk := fun _ _ _ _ _ _ us hl => match us, hl with | [_], _ => rfl
theorem b7 : d7.BindOk := fun _ _ _ _ _ _ us hl => match us, hl with | [_, _], _ => rfl
theorem b8 : d8.BindOk := fun _ _ _ _ _ _ us hl => match us, hl with | [_, _], _ => rfl
theorem b54 : d54.BindOk := fun _ _ _ _ _ _ us hl => match us, hl with | [_], _ => rfl
theorem hb : ∀ p ∈ defs, p.2.BindOk := by
  intro p hp
  simp only [defs, List.mem_cons, List.mem_nil_iff, or_false] at hp
  rcases hp with rfl | rfl | rfl | rfl | rfl | rfl | rfl | rfl | rfl
  · exact b38
  · exact b39
  · exact b3
  · exact b4
  · exact b5
  · exact b6
  · exact b7
  · exact b8
  · exact b54
abbrev fa : List He.Fa := faOf defs free nums
abbrev fnD : List He.DefD := defs.map fun p => p.2.toD
abbrev Rw : PySem.W.OpenRow := PySem.W.OpenLaw.row PySem.Challenge.rw_diceboxes_k13_whole_points_by_points
abbrev hk : PySem.W.Hook := He.hookD 4 fa fnD
def ob (s : PySem.W.SharedT) : He.AlD := He.obsDG 4 fa fnD (HandSHeadRun.getT s)
theorem ob_eq (s : PySem.W.SharedT) : ob s = hk.obs s.abs := He.obsDG_eq (HandSHeadRun.getT_eq s)
def loose : List Str := ["__name__", "has_run", "points", "_law_cell_at", "_law_mixed", "_law_drawn", "_law_box", "_law_game", "_law_dice"]
theorem run (w : World) : HandSHeadRun.RunEq Rw (PySem.W.view Rw.prog [10]) hk ob 6000 loose w := by
  intro os
  kernel_rfl
end K13
open PySem PySem.W PySem.Calls PyProof.Rows in
theorem K13.holds (n : Nat) (hn : 2 * n ≤ 200) (hp : ∀ ns : List Int, ns.length ≤ 63 → ∃ st, EV.G.call n 54 [.scr ns] [] = .ok (.bl true) st) : PySem.Challenge.rw_diceboxes_k13_whole_points_by_points.Holds := by
  w_on; o_law
  refine HandSHeadRun.head_any (r := OpenLaw.row PySem.Challenge.rw_diceboxes_k13_whole_points_by_points) (q := view (OpenLaw.row PySem.Challenge.rw_diceboxes_k13_whole_points_by_points).prog [10]) (H := K13.hk) (ob := K13.ob) (M := 6000) (loose := K13.loose) (d := HandSHeadRun.topDef (OpenLaw.row PySem.Challenge.rw_diceboxes_k13_whole_points_by_points).prog 10) (kwd := []) K13.ob_eq
    (by kernel_rfl) (fun s => by kernel_rfl) K13.run (by kernel_rfl) (by kernel_rfl) (by kernel_rfl) (by rfl) (by first | assumption | decide +kernel) (by decide +kernel) ⟨rfl, rfl, rfl, rfl, rfl, by decide +kernel⟩ ?hw ?hc
  case hw => w_witness2
  case hc =>
    refine L2.walk_ofE (l := PySem.Challenge.rw_diceboxes_k13_whole_points_by_points) (n := 63) (k := 2 * n) (x := "script") (CX := EV.cxAny (PySem.Challenge.rw_diceboxes_k13_whole_points_by_points).prog) rfl (by decide) (by kernel_rfl) (L2.Room.mono ⟨rfl, by decide, by decide⟩ hn) ?F EV.cxAny_no
    intro w mg fa h Y Gn hmg0
    obtain ⟨K, KX, c⟩ := Y
    have hmg : mg ("law" : PySem.Str) = some (.ref fa) := by
      have e : (HandSHeadRun.topDef (OpenLaw.row PySem.Challenge.rw_diceboxes_k13_whole_points_by_points).prog 10).name = ("law" : PySem.Str) := by kernel_rfl
      rw [← e]
      exact hmg0
    exact EV.law_of (cls := fun _ => none) (xa := fun _ => 0) (fuel := 60) (f := 54) (d := K13.d54) (fun X' _ _ => EV.lib_ok X' _) KX Gn c K13.hb K13.hs K13.hn K13.hG rfl rfl hmg (by decide) hp
/-! the law k13: plain part -/
namespace EV
open PySem

abbrev bUnder : Ss := (.cons (.ite (.cmp .NotEq (.call 39 (.cons (.tup (.cons (.con (.str (Str.ofString "under"))) (.cons (.var 4) .nil))) (.cons (.var 2) .nil))) (.bin .Mult (.var 3) (.blt .int (.cons (.cmp .LtE (.var 3) (.var 4)) .nil)))) (.cons (.ret (.con (.bl false))) .nil) .nil) .nil)
abbrev bWorth : Ss := (.cons (.for (.one 6) (.seq (.tup (.cons (.con (.str (Str.ofString "alike"))) (.cons (.con (.str (Str.ofString "run"))) .nil)))) (.cons (.set (.one 10) (.lc false [11] (.one 11) (.seq (.tup (.cons (.con (.int (2))) (.cons (.con (.int (3))) (.cons (.con (.int (4))) .nil))))) (.con (.bl true)) (.call 39 (.cons (.tup (.cons (.var 6) (.cons (.var 11) (.cons (.var 5) .nil)))) (.cons (.var 2) .nil))))) (.cons (.ite (.or (.cmp .NotEq (.var 10) (.rev (.blt .sorted (.cons (.var 10) .nil)))) (.cmp .NotEq (.lc false [12] (.one 12) (.seq (.var 10)) (.cmp .NotIn (.var 12) (.tup (.cons (.con (.int (0))) (.cons (.var 5) .nil)))) (.var 12)) (.lst .nil))) (.cons (.ret (.con (.bl false))) .nil) .nil) .nil))) (.cons (.set (.one 7) (.blt .max1 (.cons (.lc false [4] (.one 4) (.seq (.var 2)) (.con (.bl true)) (.mth .count (.var 2) (.cons (.var 4) .nil))) .nil))) (.cons (.ite (.cmp .NotEq (.call 39 (.cons (.tup (.cons (.con (.str (Str.ofString "alike"))) (.cons (.con (.int (2))) (.cons (.var 5) .nil)))) (.cons (.var 2) .nil))) (.bin .Mult (.var 5) (.blt .int (.cons (.cmp .Gt (.var 7) (.con (.int (1)))) .nil)))) (.cons (.ret (.con (.bl false))) .nil) .nil) (.cons (.set (.one 8) (.lc false [4] (.one 4) (.seq (.var 2)) (.cmp .In (.bin .Add (.var 4) (.con (.int (1)))) (.var 2)) (.var 4))) (.cons (.ite (.cmp .NotEq (.call 39 (.cons (.tup (.cons (.con (.str (Str.ofString "run"))) (.cons (.con (.int (2))) (.cons (.var 5) .nil)))) (.cons (.var 2) .nil))) (.bin .Mult (.var 5) (.blt .int (.cons (.cmp .NotEq (.var 8) (.lst .nil)) .nil)))) (.cons (.ret (.con (.bl false))) .nil) .nil) (.cons (.set (.one 9) (.lc false [4] (.one 4) (.seq (.var 2)) (.cmp .Eq (.bin .Mod (.var 4) (.con (.int (2)))) (.con (.int (1)))) (.var 4))) (.cons (.ite (.cmp .NotEq (.call 39 (.cons (.tup (.cons (.con (.str (Str.ofString "even"))) (.cons (.var 5) .nil))) (.cons (.var 2) .nil))) (.bin .Mult (.var 5) (.blt .int (.cons (.cmp .Eq (.var 9) (.lst .nil)) .nil)))) (.cons (.ret (.con (.bl false))) .nil) .nil) .nil)))))))
abbrev bWord : Ss := (.cons (.set (.one 10) (.lc false [11] (.one 11) (.seq (.tup (.cons (.con (.int (2))) (.cons (.con (.int (3))) (.cons (.con (.int (4))) .nil))))) (.con (.bl true)) (.call 39 (.cons (.tup (.cons (.var 6) (.cons (.var 11) (.cons (.var 5) .nil)))) (.cons (.var 2) .nil))))) (.cons (.ite (.or (.cmp .NotEq (.var 10) (.rev (.blt .sorted (.cons (.var 10) .nil)))) (.cmp .NotEq (.lc false [12] (.one 12) (.seq (.var 10)) (.cmp .NotIn (.var 12) (.tup (.cons (.con (.int (0))) (.cons (.var 5) .nil)))) (.var 12)) (.lst .nil))) (.cons (.ret (.con (.bl false))) .nil) .nil) .nil))

def alk (ds : List Int) (n : Int) : Bool := ds.any fun d => decide (n ≤ ds.count d)
def chk (ds : List Int) : Bool := (((List.range 6).map fun k : Nat => (1 + (k : Int)) * ds.count (1 + (k : Int))).sum == ds.sum) && (alk ds 2 == decide (1 < maxOf (ds.map fun d => (ds.count d : Int)))) &&
  (hasRun ds 2 == !decide (ds.filter (fun d => decide (d + 1 ∈ ds)) = [])) && (!alk ds 3 || alk ds 2) && (!alk ds 4 || alk ds 3) && (!hasRun ds 3 || hasRun ds 2) && (!hasRun ds 4 || hasRun ds 3)
theorem chk_all : ∀ k ∈ [1, 2, 3, 4], (allL k).all chk = true := by decide +kernel
theorem notin_iT (x : Int) (ds : List Int) (st : Store) : cmpD .NotIn (.int x) (iT ds) st = .ok (.bl (!decide (x ∈ ds))) st := by
  simp [cmpD, D.flat, flats_int, memD_int]
theorem desc {w : Int} (hw : w = 1 ∨ w = 7 ∨ w = 50) {a b c : Bool} (h1 : (!b || a) = true) (h2 : (!c || b) = true) :
    (sortI [w * b2i a, w * b2i b, w * b2i c]).reverse = [w * b2i a, w * b2i b, w * b2i c] ∧ ([w * b2i a, w * b2i b, w * b2i c].filter fun x => !decide (x ∈ [0, w])) = [] := by
  have srt : ∀ xs : List Int, xs.reverse.Pairwise (· ≤ ·) → (sortI xs).reverse = xs := fun xs h => by
    rw [sorted_unique ((sortI_perm xs).trans (List.reverse_perm xs).symm) (sortI_sorted xs) h, List.reverse_reverse]
  rcases hw with rfl | rfl | rfl <;> cases a <;> cases b <;> cases c <;> first | (simp at h1; done) | (simp at h2; done) | exact ⟨srt _ (by decide), by decide⟩
section
variable (n : Nat) (st : Store) (scr gd : D) (ds : List Int)
theorem c_face (m : Int) (h : m.natAbs < 1000) : G.call (n + 2) 39 [.tup [.str (Str.ofString "face"), .int m], iT ds] st = .ok (.int (m * ds.count m)) st := p_points n (.face m) h ds st
theorem c_all : G.call (n + 2) 39 [.tup [.str (Str.ofString "all")], iT ds] st = .ok (.int ds.sum) st := p_points n .all trivial ds st
theorem c_alike (m p : Int) (h : m.natAbs < 1000 ∧ p.natAbs < 1000) : G.call (n + 2) 39 [.tup [.str (Str.ofString "alike"), .int m, .int p], iT ds] st = .ok (.int (p * b2i (alk ds m))) st := p_points n (.alike m p) h ds st
theorem c_run (m p : Int) (h : m.natAbs < 1000 ∧ p.natAbs < 1000) : G.call (n + 2) 39 [.tup [.str (Str.ofString "run"), .int m, .int p], iT ds] st = .ok (.int (p * b2i (hasRun ds m))) st := p_points n (.run m p) h ds st
theorem c_under (m : Int) (h : m.natAbs < 1000) : G.call (n + 2) 39 [.tup [.str (Str.ofString "under"), .int m], iT ds] st = .ok (.int (ds.sum * b2i (decide (ds.sum ≤ m)))) st := p_points n (.under m) h ds st
theorem c_even (p : Int) (h : p.natAbs < 1000) : G.call (n + 2) 39 [.tup [.str (Str.ofString "even"), .int p], iT ds] st = .ok (.int (p * b2i (ds.all fun d => d % 2 == 0))) st := p_points n (.even p) h ds st
def P13 : Env → Prop := fun env => ∃ a4 a5 a6 a7 a8 a9 a10 a11 a12, env = [some scr, some gd, some (iT ds), some (.int ds.sum), a4, a5, a6, a7, a8, a9, a10, a11, a12]
def Q13 (w : Int) : Env → Prop := fun env => ∃ a4 a6 a7 a8 a9 a10 a11 a12, env = [some scr, some gd, some (iT ds), some (.int ds.sum), a4, some (.int w), a6, a7, a8, a9, a10, a11, a12]
theorem t_under (k : Nat) (hk : k < 24) (env : Env) (h : P13 scr gd ds env) : ∃ env1 env2, asg (.one 4) (.int (1 + k)) env = some env1 ∧ evSs (G.ctx (n + 2)) bUnder env1 st = .ok (.nx env2) st ∧ P13 scr gd ds env2 := by
  obtain ⟨a4, a5, a6, a7, a8, a9, a10, a11, a12, rfl⟩ := h
  refine ⟨_, [some scr, some gd, some (iT ds), some (.int ds.sum), some (.int (1 + k)), a5, a6, a7, a8, a9, a10, a11, a12], rfl, ?_, _, _, _, _, _, _, _, _, _, rfl⟩
  have hu := c_under n st ds (1 + k) (by omega)
  simp only [bUnder, ss_consE, ss_nilE, s_iteE, e_cmp, e_call, es_cons, es_nil, e_var, e_con, e_tup, e_bin, e_blt, R.bind_ok, List.getElem?_cons_zero, List.getElem?_cons_succ, List.set_cons_zero, List.set_cons_succ]
  simp only [List.length_cons, List.length_nil, show decide (0 + 1 + 1 ≤ 1000) = true from rfl, R.test_true, R.bind_ok]
  rw [hu]
  simp only [R.bind_ok, le_int]
  rw [int_bl]
  simp only [R.bind_ok]
  rw [big4]
  simp [ne_int]
theorem t_word (w : Int) (hw : w = 1 ∨ w = 7 ∨ w = 50) (hc : chk ds = true) (s : String) (hs : s ∈ ["alike", "run"]) (env : Env) (h : Q13 scr gd ds w env) : ∃ env1 env2, asg (.one 6) (.str (Str.ofString s)) env = some env1 ∧ evSs (G.ctx (n + 2)) bWord env1 st = .ok (.nx env2) st ∧ Q13 scr gd ds w env2 := by
  obtain ⟨a4, a6, a7, a8, a9, a10, a11, a12, rfl⟩ := h
  simp only [chk, Bool.and_eq_true] at hc
  have hw2 : w.natAbs < 1000 := by omega
  obtain ⟨f, hf, d1, d2⟩ : ∃ f : Int → Bool, (∀ m : Int, m.natAbs < 1000 → G.call (n + 2) 39 [.tup [.str (Str.ofString s), .int m, .int w], iT ds] st = .ok (.int (w * b2i (f m))) st) ∧ (!f 3 || f 2) = true ∧ (!f 4 || f 3) = true := by
    rcases List.mem_cons.mp hs with rfl | hs
    · exact ⟨alk ds, fun m hm => c_alike n st ds m w ⟨hm, hw2⟩, hc.1.1.1.2, hc.1.1.2⟩
    · have e : s = "run" := by simpa using hs
      subst e
      exact ⟨hasRun ds, fun m hm => c_run n st ds m w ⟨hm, hw2⟩, hc.1.2, hc.2⟩
  obtain ⟨k1, k2⟩ := desc hw d1 d2
  refine ⟨_, [some scr, some gd, some (iT ds), some (.int ds.sum), a4, some (.int w), some (.str (Str.ofString s)), a7, a8, a9, some (iL [w * b2i (f 2), w * b2i (f 3), w * b2i (f 4)]), a11, a12], rfl, ?_, _, _, _, _, _, _, _, _, rfl⟩
  simp only [bWord, ss_consE, ss_nilE, s_setE]
  rw [ev_lcm (fun m : Int => D.int m) (fun m => D.int (w * b2i (f m))) (xs := [2, 3, 4]) ?_ fun m hm => ⟨_, rfl, ?_⟩]
  · simp only [R.bind_ok, asg, R.of_some, List.set_cons_zero, List.set_cons_succ, s_iteE, e_or, e_cmp, e_rev, e_blt, es_cons, es_nil, e_var, List.getElem?_cons_zero, List.getElem?_cons_succ, List.map_cons, List.map_nil]
    rw [show ([D.int (w * b2i (f 2)), D.int (w * b2i (f 3)), D.int (w * b2i (f 4))] : List D) = [w * b2i (f 2), w * b2i (f 3), w * b2i (f 4)].map D.int from rfl]
    rw [sorted_int]
    simp only [R.bind_ok]
    rw [← List.map_reverse, k1, ne_iL]
    simp only [decide_true, Bool.not_true, R.bind_ok]
    rw [ev_lc (fun m : Int => D.int m) (fun x => !decide (x ∈ [0, w])) D.int (xs := [w * b2i (f 2), w * b2i (f 3), w * b2i (f 4)]) ?_ fun m hm => ⟨_, rfl, ?_, fun _ => ?_⟩]
    · rw [k2]
      simp
      rw [show cmpD .NotEq (.lst []) (.lst []) st = .ok (.bl false) st from rfl]
      simp
    · simp [seqIt]
    · simp [wipes]
      have z : cmpD .NotIn (.int m) (.tup [.int 0, .int w]) st = .ok (.bl (!decide (m ∈ [0, w]))) st := notin_iT m [0, w] st
      simpa using z
    · simp [wipes]
  · simp [seqIt]
  · have hm2 : m.natAbs < 1000 := by
      simp only [List.mem_cons, List.mem_nil_iff, or_false] at hm
      omega
    simp [wipes, hf m hm2]
theorem t_worth (w : Int) (hw : w = 1 ∨ w = 7 ∨ w = 50) (hd : ds ≠ []) (hc : chk ds = true) (env : Env) (h : P13 scr gd ds env) : ∃ env1 env2, asg (.one 5) (.int w) env = some env1 ∧ evSs (G.ctx (n + 2)) bWorth env1 st = .ok (.nx env2) st ∧ P13 scr gd ds env2 := by
  obtain ⟨a4, a5, a6, a7, a8, a9, a10, a11, a12, rfl⟩ := h
  have hw2 : w.natAbs < 1000 := by omega
  refine ⟨[some scr, some gd, some (iT ds), some (.int ds.sum), a4, some (.int w), a6, a7, a8, a9, a10, a11, a12], ?_⟩
  have start : Q13 scr gd ds w [some scr, some gd, some (iT ds), some (.int ds.sum), a4, some (.int w), a6, a7, a8, a9, a10, a11, a12] := ⟨_, _, _, _, _, _, _, _, rfl⟩
  obtain ⟨env', e1, b4, b6, b7, b8, b9, b10, b11, b12, rfl⟩ := ev_for (C := G.ctx (n + 2)) (t := .one 6) (it := .seq (.tup (.cons (.con (.str (Str.ofString "alike"))) (.cons (.con (.str (Str.ofString "run"))) .nil)))) (b := bWord) (st := st) (fun s : String => D.str (Str.ofString s)) (Q13 scr gd ds w) (xs := ["alike", "run"])
    (by simp [seqIt]) (fun s hs env he => t_word n st scr gd ds w hw hc s hs env he) start
  refine ⟨[some scr, some gd, some (iT ds), some (.int ds.sum), b4, some (.int w), b6, some (.int (maxOf (ds.map fun d => (ds.count d : Int)))), some (iL (ds.filter fun d => decide (d + 1 ∈ ds))), some (iL (ds.filter fun d => d % 2 == 1)), b10, b11, b12], rfl, ?_, _, _, _, _, _, _, _, _, _, rfl⟩
  simp only [chk, Bool.and_eq_true, beq_iff_eq] at hc
  have q1 := hc.1.1.1.1.1.2
  have q2 := hc.1.1.1.1.2
  simp only [bWorth, List.set_cons_zero, List.set_cons_succ]
  rw [ss_next e1]
  simp only [ss_consE, ss_nilE, s_setE, e_blt, es_cons, es_nil]
  rw [ev_lcm (fun d : Int => D.int d) (fun d => D.int (ds.count d)) (xs := ds) ?_ fun d hd => ⟨_, rfl, ?_⟩]
  · have e2 : (ds.map fun d => D.int (ds.count d)) = (ds.map fun d => (ds.count d : Int)).map D.int := by simp
    simp only [R.bind_ok]
    rw [e2, max_iL _ (by simpa using hd)]
    simp only [R.bind_ok, asg, R.of_some, List.set_cons_zero, List.set_cons_succ, s_iteE, e_cmp, e_call, es_cons, es_nil, e_var, e_con, e_tup, e_bin, e_blt, List.getElem?_cons_zero, List.getElem?_cons_succ, List.length_cons, List.length_nil]
    simp only [show decide (0 + 1 + 1 + 1 ≤ 1000) = true from rfl, show decide (0 + 1 + 1 ≤ 1000) = true from rfl, R.test_true, R.bind_ok]
    rw [c_alike n st ds 2 w ⟨by decide, hw2⟩]
    simp only [R.bind_ok, gt_int]
    rw [int_bl]
    simp only [R.bind_ok]
    rw [big4]
    simp only [R.bind_ok]
    rw [ne_int, q1]
    simp only [beq_self_eq_true, Bool.not_true, ss_nilE, R.bind_ok]
    rw [ev_lc (fun d : Int => D.int d) (fun d => decide (d + 1 ∈ ds)) D.int (xs := ds) ?_ fun d hd => ⟨_, rfl, ?_, fun _ => ?_⟩]
    · simp only [R.bind_ok, R.of_some, List.set_cons_zero, List.set_cons_succ, List.getElem?_cons_zero, List.getElem?_cons_succ]
      simp only [List.length_cons, List.length_nil, show decide (0 + 1 + 1 + 1 ≤ 1000) = true from rfl, R.test_true, R.bind_ok]
      rw [c_run n st ds 2 w ⟨by decide, hw2⟩]
      simp only [R.bind_ok, e_lst, es_nil, List.length_nil, show decide (0 ≤ 1000) = true from rfl, R.test_true]
      rw [show cmpD .NotEq (iL (ds.filter fun d => decide (d + 1 ∈ ds))) (.lst []) st = _ from ne_iL _ [] st]
      simp only [R.bind_ok]
      rw [int_bl]
      simp only [R.bind_ok]
      rw [big4]
      simp only [R.bind_ok]
      rw [ne_int, q2]
      simp only [beq_self_eq_true, Bool.not_true, ss_nilE, R.bind_ok]
      rw [ev_lc (fun d : Int => D.int d) (fun d => d % 2 == 1) D.int (xs := ds) ?_ fun d hd => ⟨_, rfl, ?_, fun _ => ?_⟩]
      · simp only [R.bind_ok, R.of_some, List.set_cons_zero, List.set_cons_succ, List.getElem?_cons_zero, List.getElem?_cons_succ]
        simp only [List.length_cons, List.length_nil, show decide (0 + 1 + 1 ≤ 1000) = true from rfl, R.test_true, R.bind_ok]
        rw [c_even n st ds w hw2]
        simp only [R.bind_ok]
        rw [show cmpD .Eq (iL (ds.filter fun d => d % 2 == 1)) (.lst []) st = _ from eq_iL _ [] st]
        simp only [R.bind_ok]
        rw [int_bl]
        simp only [R.bind_ok]
        rw [big4]
        simp only [R.bind_ok]
        have q3 : (ds.all fun d => d % 2 == 0) = decide ((ds.filter fun d => d % 2 == 1) = []) := by
          rw [Bool.eq_iff_iff]
          simp only [List.all_eq_true, beq_iff_eq, decide_eq_true_eq, List.filter_eq_nil_iff]
          constructor
          · intro z d hd; have := z d hd; omega
          · intro z d hd; have := z d hd; omega
        rw [ne_int, q3]
        simp
      · simp [seqIt]
      · simp [wipes, mod1, eq_int]
      · simp [wipes]
    · simp [seqIt]
    · simp [wipes]
      exact in_int _ _ _
    · simp [wipes]
  · simp [seqIt]
  · simp [wipes, count_ok, count_int]
theorem p_law13 (n : Nat) (ns : List Int) (st : Store) : G.call (n + 4) 54 [.scr ns] st = .ok (.bl true) st := by
  rw [call_of (d := ir_law_k13) rfl rfl]
  simp only [ir_law_k13]
  have m0 : G.call (n + 3) 4 [.scr ns, .int 0] st = .ok (.int (mixed ns 0)) st := p_mixed (n + 1) ns 0 st
  have m1 : G.call (n + 3) 4 [.scr ns, .int 1] st = .ok (.int (mixed ns 1)) st := p_mixed (n + 1) ns 1 st
  obtain ⟨g, hg⟩ : ∃ g, g = gameOf1 (mixed ns 0) := ⟨_, rfl⟩
  have g0 : 1 ≤ g.many ∧ g.many ≤ 4 := by rw [hg, gameOf1]; simp only; omega
  have g1 : 2 ≤ g.sides ∧ g.sides ≤ 6 := by rw [hg, gameOf1]; simp only; omega
  have hgm : G.call (n + 3) 7 [.int (mixed ns 0), .int 1] st = .ok g.d st := by rw [hg]; exact p_game1 (n + 1) _ st
  have hdc := p_dice (n + 1) g (by omega) (by omega) (by omega) (mixed ns 1) st
  obtain ⟨ds, hds⟩ : ∃ ds, ds = diceOf g (mixed ns 1) := ⟨_, rfl⟩
  rw [← hds] at hdc
  have dl : ds.length = g.many.toNat := by rw [hds]; exact dice_len _ _
  have dm : ∀ d ∈ ds, 1 ≤ d ∧ d ≤ 6 := fun d hd => by
    rw [hds] at hd
    have := dice_mem g (mixed ns 1) (by omega) d hd
    omega
  have hc : chk ds = true := by
    have z := chk_all ds.length (by simp; omega)
    rw [List.all_eq_true] at z
    exact z ds (mem_allL _ ds rfl dm)
  have hne : ds ≠ [] := fun z => by rw [z] at dl; simp at dl; omega
  have hca := c_all (n + 1) st ds
  have q0 : ((List.range 6).map fun k : Nat => (1 + (k : Int)) * ds.count (1 + (k : Int))).sum = ds.sum := by
    have z := hc
    simp only [chk, Bool.and_eq_true, beq_iff_eq] at z
    exact z.1.1.1.1.1.1
  simp only [ss_consE, s_setE, e_call, es_cons, es_nil, e_var, e_con, e_tup, R.bind_ok, List.map, List.replicate, List.cons_append, List.nil_append, List.getElem?_cons_zero, List.getElem?_cons_succ]
  rw [m0]
  simp only [R.bind_ok]
  rw [hgm]
  simp only [R.bind_ok, asg, R.of_some, List.set_cons_zero, List.set_cons_succ, List.getElem?_cons_zero, List.getElem?_cons_succ]
  rw [m1]
  simp only [R.bind_ok]
  rw [hdc]
  simp only [R.bind_ok, asg, R.of_some, List.set_cons_zero, List.set_cons_succ, List.getElem?_cons_zero, List.getElem?_cons_succ, List.length_cons, List.length_nil, show decide (0 + 1 ≤ 1000) = true from rfl, R.test_true]
  rw [hca]
  simp only [R.bind_ok, asg, R.of_some, List.set_cons_zero, List.set_cons_succ, List.getElem?_cons_zero, List.getElem?_cons_succ, s_iteE, e_or, e_cmp, e_blt, es_cons, es_nil, e_var]
  rw [sum_int]
  simp only [R.bind_ok]
  rw [ne_int]
  simp only [beq_self_eq_true, Bool.not_true, R.bind_ok]
  rw [ev_lcm (fun k : Nat => D.int (1 + k)) (fun k : Nat => D.int ((1 + (k : Int)) * ds.count (1 + (k : Int)))) (xs := List.range 6) ?_ fun k hk => ⟨_, rfl, ?_⟩]
  · have e2 : ((List.range 6).map fun k : Nat => D.int ((1 + (k : Int)) * ds.count (1 + (k : Int)))) = ((List.range 6).map fun k : Nat => (1 + (k : Int)) * ds.count (1 + (k : Int))).map D.int := by simp only [List.map_map]; rfl
    simp only [R.bind_ok]
    rw [e2, sum_iL]
    simp only [R.bind_ok]
    rw [ne_int, q0]
    simp only [beq_self_eq_true, Bool.not_true, ss_nilE, R.bind_ok]
    obtain ⟨env1, e1, p1⟩ := ev_for (C := G.ctx (n + 1 + 2)) (t := .one 4) (it := .rng2 (.con (.int (1))) (.con (.int (25)))) (b := bUnder) (st := st) (fun k : Nat => D.int (1 + k)) (P13 (.scr ns) g.d ds) (xs := List.range 24) (env := [some (D.scr ns), some g.d, some (iT ds), some (D.int ds.sum), none, none, none, none, none, none, none, none, none])
      (by simp [rng12]) (fun k hk env he => t_under (n + 1) st (.scr ns) g.d ds k (by simpa using hk) env he) ⟨_, _, _, _, _, _, _, _, _, rfl⟩
    rw [e1]
    simp only [R.bind_ok]
    obtain ⟨env2, e3, p2⟩ := ev_for (C := G.ctx (n + 1 + 2)) (t := .one 5) (it := .seq (.tup (.cons (.con (.int (1))) (.cons (.con (.int (7))) (.cons (.con (.int (50))) .nil))))) (b := bWorth) (st := st) (fun w : Int => D.int w) (P13 (.scr ns) g.d ds) (xs := [1, 7, 50]) (env := env1)
      (by simp [seqIt]) (fun w hw env he => t_worth (n + 1) st (.scr ns) g.d ds w (by simpa using hw) hne hc env he) p1
    rw [e3]
    simp
  · simp [rng12]
  · simp only [e_call, e_tup, es_cons, es_nil, e_con, e_var, wipes, List.set_cons_zero, List.set_cons_succ, List.getElem?_cons_zero, List.getElem?_cons_succ, R.bind_ok, List.length_cons, List.length_nil, show decide (0 + 1 + 1 ≤ 1000) = true from rfl, R.test_true]
    exact c_face (n + 1) st ds (1 + k) (by have := List.mem_range.mp hk; omega)
end
end EV
theorem PySem.Challenge.cw_diceboxes_k13_whole_points_by_points_holds : PySem.Challenge.rw_diceboxes_k13_whole_points_by_points.Holds :=
  K13.holds 4 (by decide) fun ns _ => ⟨_, EV.p_law13 0 ns []⟩
