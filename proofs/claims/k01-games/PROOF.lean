import PyProof.Rows.All
import Wide.All
import OpenK.AllK
import Wide.FinOn
import HandS.ForMost
import HandS.Walk
import HandS.Exc
import HandS.ExcOwn
import HandS.Wide
import HandS.TupAny
import HandS.TupMul
import KE.KDictKeyed
import HandS.IsInst
import HandS.Deep
import HandS.Conv
import HandS.SortInts
import KE.DataFind
import KE.DataMinMax
import KE.KTupSum
import KE.SortData
import HandS.Style
import HandS.Dict
import KE.KDictCopyH
import KE.KDictList
import PyProof.DictTruth
import KE.DataEq
import HandS.More
import HandS.DictTup
import KE.KDictSum
import HandS.WordsExc
import HandS.Defaults
import KE.KDictDisplayH
import KE.GoesMore
import KE.GoesEnum
import HandS.Zip
import HandS.HeadEnd
import HandS.Words
import HandS.Head0
import HandS.Head1
import HandS.Head2
import HandS.HeadHook1
import HandS.HeadHook2
import PySem.Challenge.RW_diceboxes_k01_games
set_option Elab.async false
set_option linter.all false
set_option maxRecDepth 100000
set_option maxHeartbeats 0
/-! EvA: data, store, the small language (IR) and its evaluator. Plain Lean, no machine. -/
namespace EV
open PySem

/-- data: trees; `ref` an object of the store; `scr` the script -/
inductive D where
  | non | bl (b : Bool) | int (i : Int) | str (s : Str)
  | tup (xs : List D) | lst (xs : List D) | scr (ns : List Int) | ref (i : Nat)
  deriving Inhabited

/-- objects of the store -/
inductive O where
  | lst (xs : List D) | dic (kvs : List (D × D)) | lck (kvs : List (D × D)) | ins (c : Nat) (fs : List (Str × D))
  deriving Inhabited

abbrev Store := List O
abbrev Env := List (Option D)

inductive R (α : Type) where
  | ok (a : α) (st : Store) | err (k : Nat) (st : Store) | bad
  deriving Inhabited
def R.bind {α β : Type} (r : R α) (f : α → Store → R β) : R β := match r with
  | .ok a st => f a st
  | .err k st => .err k st
  | .bad => .bad
@[simp] theorem R.bind_ok {α β : Type} (a : α) (st : Store) (f : α → Store → R β) : (R.ok a st).bind f = f a st := rfl
@[simp] theorem R.bind_err {α β : Type} (k : Nat) (st : Store) (f : α → Store → R β) : (R.err k st : R α).bind f = .err k st := rfl
@[simp] theorem R.bind_bad {α β : Type} (f : α → Store → R β) : (R.bad : R α).bind f = .bad := rfl
theorem R.bind_assoc {α β γ : Type} (r : R α) (f : α → Store → R β) (g : β → Store → R γ) : (r.bind f).bind g = r.bind fun a st => (f a st).bind g := by
  cases r <;> rfl
def R.of {α : Type} (o : Option α) (st : Store) : R α := match o with
  | some a => .ok a st
  | none => .bad
@[simp] theorem R.of_some {α : Type} (a : α) (st : Store) : R.of (some a) st = .ok a st := rfl
@[simp] theorem R.of_none {α : Type} (st : Store) : R.of (none : Option α) st = .bad := rfl
/-- no error may come -/
def R.noX {α : Type} (r : R α) : R α := match r with
  | .ok a st => .ok a st
  | _ => .bad
@[simp] theorem R.noX_ok {α : Type} (a : α) (st : Store) : (R.ok a st).noX = .ok a st := rfl
/-- a test of the evaluator's own -/
def R.test {α : Type} (b : Bool) (k : R α) : R α := match b with
  | true => k
  | false => .bad
@[simp] theorem R.test_true {α : Type} (k : R α) : R.test true k = k := rfl
@[simp] theorem R.test_false {α : Type} (k : R α) : R.test false k = .bad := rfl

/-! ### order, equality, depth of data -/
mutual
def D.eqv : D → D → Bool
  | .non, .non => true
  | .bl a, .bl b => a == b
  | .bl a, .int j => (if a then 1 else 0) == j
  | .int i, .bl b => i == (if b then 1 else 0)
  | .int i, .int j => i == j
  | .str x, .str y => x == y
  | .lst xs, .lst ys => D.eqvs xs ys
  | .tup xs, .tup ys => D.eqvs xs ys
  | _, _ => false
def D.eqvs : List D → List D → Bool
  | [], [] => true
  | x :: xs, y :: ys => D.eqv x y && D.eqvs xs ys
  | _, _ => false
end
mutual
/-- can it be read as plain data, of depth at most n? -/
def D.flat : Nat → D → Bool
  | _, .non => true
  | _, .bl _ => true
  | _, .int _ => true
  | _, .str _ => true
  | n + 1, .tup xs => D.flats n xs
  | n + 1, .lst xs => D.flats n xs
  | _, _ => false
def D.flats : Nat → List D → Bool
  | _, [] => true
  | n, x :: xs => D.flat n x && D.flats n xs
end
mutual
/-- can the two be compared, at all places -/
def D.alike : D → D → Bool
  | .non, .non => true
  | .bl _, .bl _ => true
  | .int _, .int _ => true
  | .str _, .str _ => true
  | .lst xs, .lst ys => D.alikes xs ys
  | .tup xs, .tup ys => D.alikes xs ys
  | _, _ => false
def D.alikes : List D → List D → Bool
  | x :: xs, y :: ys => D.alike x y && D.alikes xs ys
  | _, _ => true
end
/-- .. up to the first place that differs -/
def D.cmpT : List D → List D → Bool
  | x :: xs, y :: ys => D.alike x y && (!D.eqv x y || D.cmpT xs ys)
  | _, _ => true
mutual
def D.lt : D → D → Bool
  | .bl a, .bl b => !a && b
  | .int i, .int j => decide (i < j)
  | .str x, .str y => decide (x.cps.toList < y.cps.toList)
  | .lst xs, .lst ys => D.lts xs ys
  | .tup xs, .tup ys => D.lts xs ys
  | _, _ => false
def D.lts : List D → List D → Bool
  | [], _ :: _ => true
  | x :: xs, y :: ys => if D.eqv x y then D.lts xs ys else D.lt x y
  | _, _ => false
end
mutual
/-- no store object from n on is named -/
def D.low (n : Nat) : D → Bool
  | .ref i => decide (i < n)
  | .tup xs => D.lows n xs
  | .lst xs => D.lows n xs
  | _ => true
def D.lows (n : Nat) : List D → Bool
  | [] => true
  | x :: xs => D.low n x && D.lows n xs
end
def lowKv (n : Nat) : List (D × D) → Bool
  | [] => true
  | (k, v) :: r => k.low n && (v.low n && lowKv n r)
def lowFs (n : Nat) : List (Str × D) → Bool
  | [] => true
  | (_, v) :: r => v.low n && lowFs n r
def O.low (n : Nat) : O → Bool
  | .lst xs => D.lows n xs
  | .dic kvs => lowKv n kvs
  | .lck kvs => lowKv n kvs
  | .ins _ fs => lowFs n fs
def lowO (n : Nat) : List O → Bool
  | [] => true
  | o :: r => o.low n && lowO n r
/-! a key of a dict: an int, a text, a tuple of such (no truths); depth at most n -/
mutual
def D.key : Nat → D → Bool
  | _, .int _ => true
  | _, .str _ => true
  | n + 1, .tup xs => D.keys n xs
  | _, _ => false
def D.keys : Nat → List D → Bool
  | _, [] => true
  | n, x :: xs => D.key n x && D.keys n xs
end
def D.isNon : D → Bool
  | .non => true
  | _ => false
def D.isTup : D → Bool
  | .tup _ => true
  | _ => false
def D.isLeaf : D → Bool
  | .int _ => true
  | .str _ => true
  | _ => false

/-! ### small helpers -/
def lim : Nat := 16777216
/-- the items of a list, tuple, script -/
def seqOf (st : Store) : D → Option (List D)
  | .tup xs => some xs
  | .lst xs => some xs
  | .scr ns => some (ns.map D.int)
  | .ref i => match st[i]? with
    | some (.lst xs) => some xs
    | _ => none
  | _ => none
def intsOf : List D → Option (List Int)
  | [] => some []
  | .int i :: r => (intsOf r).map (i :: ·)
  | _ :: _ => none
def blsOf : List D → Option (List Bool)
  | [] => some []
  | .bl b :: r => (blsOf r).map (b :: ·)
  | _ :: _ => none
def strsOf : List D → Option (List Str)
  | [] => some []
  | .str b :: r => (strsOf r).map (b :: ·)
  | _ :: _ => none
/-- Python's index -/
def ix (n : Nat) (i : Int) : Option Nat :=
  if 0 ≤ i then (if i < n then some i.toNat else none) else if -(n : Int) ≤ i then some (i + n).toNat else none
def getAt {α : Type} (xs : List α) (i : Int) : Option α := (ix xs.length i).bind fun j => xs[j]?
/-- a slice's end -/
def cutIx (n d : Nat) : Option Int → Nat
  | none => d
  | some v => if v < 0 then (v + n).toNat else min v.toNat n
def cut {α : Type} (xs : List α) (lo hi : Option Int) : List α :=
  (xs.drop (cutIx xs.length 0 lo)).take (cutIx xs.length xs.length hi - cutIx xs.length 0 lo)
def dget (kvs : List (D × D)) (k : D) : Option D := match kvs with
  | [] => none
  | (a, v) :: r => if D.eqv a k then some v else dget r k
def dput (kvs : List (D × D)) (k v : D) : List (D × D) := match kvs with
  | [] => [(k, v)]
  | (a, w) :: r => if D.eqv a k then (a, v) :: r else (a, w) :: dput r k v
def fget (fs : List (Str × D)) (f : Str) : Option D := match fs with
  | [] => none
  | (a, v) :: r => if a = f then some v else fget r f
def fput (fs : List (Str × D)) (f : Str) (v : D) : List (Str × D) := match fs with
  | [] => [(f, v)]
  | (a, w) :: r => if a = f then (a, v) :: r else (a, w) :: fput r f v
def memD (x : D) : List D → Bool
  | [] => false
  | y :: r => D.eqv y x || memD x r
def countD (x : D) : List D → Nat
  | [] => 0
  | y :: r => if D.eqv y x then countD x r + 1 else countD x r

/-- may the key be looked for in that dict? all keys are tuples, or all are ints and texts -/
def keyOk (kvs : List (D × D)) (k : D) : Bool := k.key 6 && ((k.isTup && kvs.all fun p => p.1.isTup) || (k.isLeaf && kvs.all fun p => p.1.isLeaf))
/-- the entries of a display, of dict(..), of update, one behind the other -/
def dputs : List (D × D) → List (D × D) → List (D × D)
  | kvs, [] => kvs
  | kvs, (k, v) :: r => dputs (dput kvs k v) r
def keysOk (ps : List (D × D)) : Bool := (ps.all fun p => p.1.key 6) && ((ps.all fun p => p.1.isTup) || ps.all fun p => p.1.isLeaf)
def pairsOf : List D → Option (List (D × D))
  | [] => some []
  | .tup [k, v] :: r => (pairsOf r).map ((k, v) :: ·)
  | _ :: _ => none
/-! ### operators -/
def binD (op : Operator) (x y : D) (st : Store) : R D := match op, x, y with
  | .Add, .int i, .int j => .ok (.int (i + j)) st
  | .Sub, .int i, .int j => .ok (.int (i - j)) st
  | .Mult, .int i, .int j => R.test (decide (i.natAbs < 2 ^ 4000) && decide (j.natAbs < 2 ^ 4000) || decide (i.natAbs < 2 ^ 63) || decide (j.natAbs < 2 ^ 63)) (.ok (.int (i * j)) st)
  | .FloorDiv, .int i, .int j => R.test (decide (0 < j) && decide (j < 2 ^ 4000)) (.ok (.int (i / j)) st)
  | .Mod, .int i, .int j => R.test (decide (0 < j)) (.ok (.int (i % j)) st)
  | .Add, .str a, .str b => R.test (decide (a.length + b.length ≤ lim)) (.ok (.str (a ++ b)) st)
  | .Add, .tup a, .tup b => R.test (decide (a.length + b.length ≤ lim)) (.ok (.tup (a ++ b)) st)
  | .Mult, .tup a, .int k => R.test (decide (a.length ≤ 1000) && decide (-1000 ≤ k) && decide (k ≤ 1000)) (.ok (.tup (List.replicate k.toNat a).flatten) st)
  | .Add, .lst a, .lst b => R.test (decide (a.length + b.length ≤ lim)) (.ok (.lst (a ++ b)) st)
  | .Mult, .lst a, .int k => R.test (decide (a.length ≤ 1000) && decide (-1000 ≤ k) && decide (k ≤ 1000)) (.ok (.lst (List.replicate k.toNat a).flatten) st)
  | _, _, _ => .bad
/-- is it a plain value of depth at most 20? -/
abbrev D.plain (d : D) : Bool := d.flat 20
def cmpD (op : CmpOp) (x y : D) (st : Store) : R D := match op with
  | .Eq => R.test (x.plain && y.plain) (.ok (.bl (D.eqv x y)) st)
  | .NotEq => R.test (x.plain && y.plain) (.ok (.bl (!D.eqv x y)) st)
  | .Lt => match x, y with
    | .int i, .int j => .ok (.bl (decide (i < j))) st
    | _, _ => .bad
  | .LtE => match x, y with
    | .int i, .int j => .ok (.bl (decide (i ≤ j))) st
    | _, _ => .bad
  | .Gt => match x, y with
    | .int i, .int j => .ok (.bl (decide (j < i))) st
    | _, _ => .bad
  | .GtE => match x, y with
    | .int i, .int j => .ok (.bl (decide (j ≤ i))) st
    | _, _ => .bad
  | .Is => match y with
    | .non => .ok (.bl x.isNon) st
    | .bl b => match x with
      | .bl a => .ok (.bl (a == b)) st
      | _ => .bad
    | _ => .bad
  | .IsNot => match y with
    | .non => .ok (.bl (!x.isNon)) st
    | .bl b => match x with
      | .bl a => .ok (.bl (!(a == b))) st
      | _ => .bad
    | _ => .bad
  | .In => match y with
    | .ref i => match st[i]? with
      | some (.dic kvs) => R.test (keyOk kvs x) (.ok (.bl (dget kvs x).isSome) st)
      | some (.lck kvs) => R.test (keyOk kvs x) (.ok (.bl (dget kvs x).isSome) st)
      | some (.lst xs) => R.test (x.plain && D.flats 20 xs) (.ok (.bl (memD x xs)) st)
      | _ => .bad
    | .tup xs => R.test (x.plain && D.flats 20 xs) (.ok (.bl (memD x xs)) st)
    | .lst xs => R.test (x.plain && D.flats 20 xs) (.ok (.bl (memD x xs)) st)
    | .str t => match x with
      | .str s => match s.cps.toList with
        | [c] => .ok (.bl (decide (c ∈ t.cps.toList))) st
        | _ => .bad
      | _ => .bad
    | _ => .bad
  | .NotIn => match y with
    | .ref i => match st[i]? with
      | some (.dic kvs) => R.test (keyOk kvs x) (.ok (.bl (!(dget kvs x).isSome)) st)
      | some (.lck kvs) => R.test (keyOk kvs x) (.ok (.bl (!(dget kvs x).isSome)) st)
      | some (.lst xs) => R.test (x.plain && D.flats 20 xs) (.ok (.bl (!memD x xs)) st)
      | _ => .bad
    | .tup xs => R.test (x.plain && D.flats 20 xs) (.ok (.bl (!memD x xs)) st)
    | .lst xs => R.test (x.plain && D.flats 20 xs) (.ok (.bl (!memD x xs)) st)
    | .str t => match x with
      | .str s => match s.cps.toList with
        | [c] => .ok (.bl (!decide (c ∈ t.cps.toList))) st
        | _ => .bad
      | _ => .bad
    | _ => .bad
/-- a[i] -/
def idxD (x y : D) (st : Store) : R D := match x with
  | .tup xs => match y with
    | .int i => R.of (getAt xs i) st
    | _ => .bad
  | .lst xs => match y with
    | .int i => R.of (getAt xs i) st
    | _ => .bad
  | .scr ns => match y with
    | .int i => R.of ((getAt ns i).map D.int) st
    | _ => .bad
  | .str s => match y with
    | .int i => R.test (decide (s.length ≤ lim)) (R.of ((getAt s.cps.toList i).map fun c => D.str ⟨#[c]⟩) st)
    | _ => .bad
  | .ref j => match st[j]? with
    | some (.lst xs) => match y with
      | .int i => R.of (getAt xs i) st
      | _ => .bad
    | some (.dic kvs) => R.test (keyOk kvs y) (R.of (dget kvs y) st)
    | some (.lck kvs) => R.test (keyOk kvs y) (R.of (dget kvs y) st)
    | _ => .bad
  | _ => .bad
/-- a[lo:hi] -/
def sliD (x : D) (l h : Option Int) (st : Store) : R D := match x with
  | .tup xs => .ok (.tup (cut xs l h)) st
  | .lst xs => .ok (.lst (cut xs l h)) st
  | .ref i => match st[i]? with
    | some (.lst xs) => .ok (.lst (cut xs l h)) st
    | _ => .bad
  | .str s => R.test (decide (s.length ≤ lim)) (.ok (.str ⟨(cut s.cps.toList l h).toArray⟩) st)
  | _ => .bad

/-! ### builtins -/
/-- kinds of data -/
inductive Kd where
  | non | bl | int | str | tup | lst | dic
  deriving DecidableEq
def D.kd (st : Store) : D → Option Kd
  | .non => some .non
  | .bl _ => some .bl
  | .int _ => some .int
  | .str _ => some .str
  | .tup _ => some .tup
  | .lst _ => some .lst
  | .scr _ => none
  | .ref i => match st[i]? with
    | some (.lst _) => some .lst
    | some (.dic _) => some .dic
    | some (.lck _) => some .dic
    | _ => none
/-- isinstance -/
def Kd.sub : Kd → Kd → Bool
  | .bl, .int => true
  | a, b => decide (a = b)
inductive Blt where
  | len | sum | any | all | sorted | srtI | dict | tuple | list | int | str | abs | min2 | max2 | max1 | tupRange | isT (t : Kd)
  deriving DecidableEq
inductive Mth where
  | count | split | join | get2 | append | extend | pop | items | update
  deriving DecidableEq
/-- sorted -/
def insL {α : Type} (le : α → α → Bool) (x : α) : List α → List α
  | [] => [x]
  | y :: r => if le x y then x :: y :: r else y :: insL le x r
def isort {α : Type} (le : α → α → Bool) : List α → List α
  | [] => []
  | x :: r => insL le x (isort le r)
def sortI (ns : List Int) : List Int := isort (fun a b => decide (a ≤ b)) ns
def dicOn : Bool := true
def D.its : D → List D
  | .tup xs => xs
  | _ => []
def D.neT : D → Bool
  | .tup (_ :: _) => true
  | _ => false
def sortOk (xs : List D) : Bool := D.flats 20 xs && (xs.all fun x => x.isTup) && (if (xs.all fun x => x.neT) = true then xs.all fun x => xs.all fun y => D.cmpT x.its y.its else xs.all fun x => xs.all fun y => D.alikes x.its y.its)
def sortT (xs : List D) : List D := isort (fun x y => !D.lt y x) xs
def sortD (xs : List D) : Option (List D) := match intsOf xs with
  | some ns => some ((sortI ns).map D.int)
  | none => match sortOk xs with
    | true => some (sortT xs)
    | false => none
def itemsL (kvs : List (D × D)) : List D := kvs.map fun kv => .tup [kv.1, kv.2]
def bltD (f : Blt) (xs : List D) (st : Store) : R D := match f with
  | .len => match xs with
    | [.str s] => R.test (decide (s.length ≤ lim)) (.ok (.int s.length) st)
    | [.ref i] => match st[i]? with
      | some (.lst ys) => .ok (.int ys.length) st
      | some (.dic kvs) => .ok (.int kvs.length) st
      | some (.lck kvs) => .ok (.int kvs.length) st
      | _ => .bad
    | [x] => (R.of (seqOf st x) st).bind fun ys st => .ok (.int ys.length) st
    | _ => .bad
  | .sum => match xs with
    | [x] => (R.of ((seqOf st x).bind intsOf) st).bind fun ns st => .ok (.int ns.sum) st
    | _ => .bad
  | .any => match xs with
    | [.lst ys] => (R.of (blsOf ys) st).bind fun bs st => .ok (.bl (bs.any id)) st
    | _ => .bad
  | .all => match xs with
    | [.lst ys] => (R.of (blsOf ys) st).bind fun bs st => .ok (.bl (bs.all id)) st
    | _ => .bad
  | .sorted => match xs with
    | [.ref i] => match st[i]? with
      | some (.lst ys) => (R.of (sortD ys) st).bind fun zs st => .ok (.lst zs) st
      | some (.dic kvs) => (R.of (sortD (kvs.map (·.1))) st).bind fun zs st => .ok (.lst zs) st
      | some (.lck kvs) => (R.of (sortD (kvs.map (·.1))) st).bind fun zs st => .ok (.lst zs) st
      | _ => .bad
    | [.lst ys] => (R.of (sortD ys) st).bind fun zs st => .ok (.lst zs) st
    | [.tup ys] => (R.of (sortD ys) st).bind fun zs st => .ok (.lst zs) st
    | _ => .bad
  | .srtI => match xs with
    | [.ref i] => match st[i]? with
      | some (.dic kvs) => (R.of (sortD (itemsL kvs)) st).bind fun zs st => .ok (.lst zs) st
      | some (.lck kvs) => (R.of (sortD (itemsL kvs)) st).bind fun zs st => .ok (.lst zs) st
      | _ => .bad
    | _ => .bad
  | .dict => match xs with
    | [.tup ys] => (R.of (pairsOf ys) st).bind fun ps st => R.test (keysOk ps) (.ok (.ref st.length) (st ++ [.dic (dputs [] ps)]))
    | [.ref i] => match st[i]? with
      | some (.dic kvs) => R.test (keysOk kvs && kvs.all fun p => p.1.isLeaf) (.ok (.ref st.length) (st ++ [.dic kvs]))
      | _ => .bad
    | _ => .bad
  | .tuple => match xs with
    | [.tup ys] => .ok (.tup ys) st
    | [.lst ys] => .ok (.tup ys) st
    | [.ref i] => match st[i]? with
      | some (.lst ys) => .ok (.tup ys) st
      | _ => .bad
    | _ => .bad
  | .list => match xs with
    | [.tup ys] => .ok (.lst ys) st
    | [.lst ys] => .ok (.lst ys) st
    | [.ref i] => match st[i]? with
      | some (.lst ys) => .ok (.lst ys) st
      | some (.dic kvs) => .ok (.lst (kvs.map (·.1))) st
      | some (.lck kvs) => .ok (.lst (kvs.map (·.1))) st
      | _ => .bad
    | _ => .bad
  | .int => match xs with
    | [.int i] => .ok (.int i) st
    | [.bl b] => .ok (.int (if b then 1 else 0)) st
    | [.str s] => R.test (decide (s.length ≤ 640)) (R.of ((PySem.intText? s).map D.int) st)
    | _ => .bad
  | .str => match xs with
    | [.int i] => R.test (decide (i.natAbs.log2 < 1920)) (.ok (.str (toString i : String)) st)
    | [.str s] => .ok (.str s) st
    | _ => .bad
  | .abs => match xs with
    | [.int i] => .ok (.int (if i < 0 then -i else i)) st
    | _ => .bad
  | .min2 => match xs with
    | [.int i, .int j] => .ok (.int (if j < i then j else i)) st
    | _ => .bad
  | .max2 => match xs with
    | [.int i, .int j] => .ok (.int (if j > i then j else i)) st
    | _ => .bad
  | .max1 => match xs with
    | [.lst ys] => (R.of (intsOf ys) st).bind fun ns st => match ns with
      | [] => .bad
      | n :: r => .ok (.int (r.foldl max n)) st
    | _ => .bad
  | .tupRange => match xs with
    | [.int n] => R.test (decide (n ≤ 1000000)) (.ok (.tup ((List.range n.toNat).map fun i : Nat => D.int i)) st)
    | _ => .bad
  | .isT t => match xs with
    | [x] => (R.of (x.kd st) st).bind fun k st => .ok (.bl (k.sub t)) st
    | _ => .bad
/-- the receiver's kind -/
def Mth.kd : Mth → Kd
  | .count => .tup
  | .split => .str
  | .join => .str
  | .get2 => .dic
  | .append => .lst
  | .extend => .lst
  | .pop => .lst
  | .items => .dic
  | .update => .dic
def Mth.ok (m : Mth) (d : D) (st : Store) : Bool := decide (d.kd st = some m.kd)
/-- methods of built-in types -/
def mthD (m : Mth) (o : D) (xs : List D) (st : Store) : R D := match m, o, xs with
  | .count, .tup ys, [x] => R.test (x.plain && D.flats 20 ys) (.ok (.int (countD x ys)) st)
  | .split, .str s, [.str t] => R.test (decide (0 < t.length) && decide (s.length + 2 ≤ lim)) (.ok (.lst ((PySem.Txt.split s t).map D.str)) st)
  | .join, .str s, [.lst ys] => (R.of (strsOf ys) st).bind fun zs st => R.test (decide ((zs.map (·.length)).sum + zs.length * s.length ≤ lim)) (.ok (.str (PySem.Txt.join s zs)) st)
  | .get2, .ref i, [k, x] => match st[i]? with
    | some (.dic kvs) => R.test (keyOk kvs k) (.ok ((dget kvs k).getD x) st)
    | some (.lck kvs) => R.test (keyOk kvs k) (.ok ((dget kvs k).getD x) st)
    | _ => .bad
  | .append, .ref i, [x] => match st[i]? with
    | some (.lst ys) => R.test (decide (ys.length < lim)) (.ok .non (st.set i (.lst (ys ++ [x]))))
    | _ => .bad
  | .extend, .ref i, [.lst zs] => match st[i]? with
    | some (.lst ys) => R.test (decide (ys.length + zs.length ≤ lim)) (.ok .non (st.set i (.lst (ys ++ zs))))
    | _ => .bad
  | .pop, .ref i, [] => match st[i]? with
    | some (.lst ys) => match ys.getLast? with
      | some y => .ok y (st.set i (.lst ys.dropLast))
      | none => .bad
    | _ => .bad
  | .update, .ref i, [.ref j] => match st[i]?, st[j]? with
    | some (.dic kvs), some (.dic ps) => R.test (decide (i ≠ j) && keysOk kvs && keysOk ps && (kvs.all fun p => p.1.isLeaf) && (ps.all fun p => p.1.isLeaf) && decide (kvs.length + ps.length < 1000)) (.ok .non (st.set i (.dic (dputs kvs ps))))
    | _, _ => .bad
  | _, _, _ => .bad

end EV
/-! EvB: the small language and its evaluator. -/
namespace EV
open PySem

/-! ### sameness of data -/
mutual
def D.same : D → D → Bool
  | .non, .non => true
  | .bl a, .bl b => a == b
  | .int i, .int j => i == j
  | .str x, .str y => x == y
  | .lst xs, .lst ys => D.sames xs ys
  | .tup xs, .tup ys => D.sames xs ys
  | .scr ns, .scr ms => ns == ms
  | .ref i, .ref j => i == j
  | _, _ => false
def D.sames : List D → List D → Bool
  | [], [] => true
  | x :: xs, y :: ys => D.same x y && D.sames xs ys
  | _, _ => false
end
def sameKv : List (D × D) → List (D × D) → Bool
  | [], [] => true
  | (k, v) :: xs, (l, w) :: ys => k.same l && (v.same w && sameKv xs ys)
  | _, _ => false
def sameFs : List (Str × D) → List (Str × D) → Bool
  | [], [] => true
  | (k, v) :: xs, (l, w) :: ys => k == l && (v.same w && sameFs xs ys)
  | _, _ => false
def O.same : O → O → Bool
  | .lst xs, .lst ys => D.sames xs ys
  | .dic a, .dic b => sameKv a b
  | .lck a, .lck b => sameKv a b
  | .ins c a, .ins d b => c == d && sameFs a b
  | _, _ => false
def sameO : List O → List O → Bool
  | [], [] => true
  | x :: xs, y :: ys => x.same y && sameO xs ys
  | _, _ => false
mutual
theorem D.same_refl : ∀ d : D, d.same d = true
  | .non => by simp [D.same]
  | .bl _ => by simp [D.same]
  | .int _ => by simp [D.same]
  | .str _ => by simp [D.same]
  | .lst xs => by rw [D.same]; exact D.sames_refl xs
  | .tup xs => by rw [D.same]; exact D.sames_refl xs
  | .scr _ => by simp [D.same]
  | .ref _ => by simp [D.same]
theorem D.sames_refl : ∀ xs : List D, D.sames xs xs = true
  | [] => by simp [D.sames]
  | x :: xs => by rw [D.sames, D.same_refl x, D.sames_refl xs]; rfl
end
mutual
theorem D.of_same : ∀ d e : D, d.same e = true → d = e
  | .non, e, h => by cases e <;> simp [D.same] at h <;> rfl
  | .bl _, e, h => by cases e <;> simp [D.same] at h; rw [h]
  | .int _, e, h => by cases e <;> simp [D.same] at h; rw [h]
  | .str _, e, h => by cases e <;> simp [D.same] at h; rw [h]
  | .lst xs, e, h => by
    cases e <;> simp only [D.same, Bool.false_eq_true] at h
    rw [D.of_sames xs _ h]
  | .tup xs, e, h => by
    cases e <;> simp only [D.same, Bool.false_eq_true] at h
    rw [D.of_sames xs _ h]
  | .scr _, e, h => by cases e <;> simp [D.same] at h; rw [h]
  | .ref _, e, h => by cases e <;> simp [D.same] at h; rw [h]
theorem D.of_sames : ∀ xs ys : List D, D.sames xs ys = true → xs = ys
  | [], ys, h => by cases ys <;> simp [D.sames] at h; rfl
  | x :: xs, ys, h => by
    cases ys with
    | nil => simp [D.sames] at h
    | cons y ys =>
      rw [D.sames, Bool.and_eq_true] at h
      rw [D.of_same x y h.1, D.of_sames xs ys h.2]
end
theorem sameKv_refl : ∀ xs, sameKv xs xs = true
  | [] => rfl
  | (k, v) :: xs => by rw [sameKv, D.same_refl, D.same_refl, sameKv_refl xs]; rfl
theorem of_sameKv : ∀ xs ys, sameKv xs ys = true → xs = ys
  | [], ys, h => by cases ys <;> simp [sameKv] at h; rfl
  | (k, v) :: xs, ys, h => by
    cases ys with
    | nil => simp [sameKv] at h
    | cons y ys =>
      obtain ⟨l, w⟩ := y
      rw [sameKv, Bool.and_eq_true, Bool.and_eq_true] at h
      rw [D.of_same _ _ h.1, D.of_same _ _ h.2.1, of_sameKv xs ys h.2.2]
theorem sameFs_refl : ∀ xs, sameFs xs xs = true
  | [] => rfl
  | (k, v) :: xs => by rw [sameFs, D.same_refl, sameFs_refl xs]; simp
theorem of_sameFs : ∀ xs ys, sameFs xs ys = true → xs = ys
  | [], ys, h => by cases ys <;> simp [sameFs] at h; rfl
  | (k, v) :: xs, ys, h => by
    cases ys with
    | nil => simp [sameFs] at h
    | cons y ys =>
      obtain ⟨l, w⟩ := y
      rw [sameFs, Bool.and_eq_true, Bool.and_eq_true] at h
      have e : k = l := by simpa using h.1
      rw [e, D.of_same _ _ h.2.1, of_sameFs xs ys h.2.2]
theorem O.same_refl (o : O) : o.same o = true := by
  cases o <;> simp [O.same, D.sames_refl, sameKv_refl, sameFs_refl]
theorem O.of_same (o p : O) (h : o.same p = true) : o = p := by
  cases o <;> cases p <;> simp only [O.same, Bool.false_eq_true] at h
  · rw [D.of_sames _ _ h]
  · rw [of_sameKv _ _ h]
  · rw [of_sameKv _ _ h]
  · rw [Bool.and_eq_true] at h
    have e := eq_of_beq h.1
    rw [e, of_sameFs _ _ h.2]
theorem sameO_refl : ∀ xs, sameO xs xs = true
  | [] => rfl
  | x :: xs => by rw [sameO, O.same_refl, sameO_refl xs]; rfl
theorem of_sameO : ∀ xs ys, sameO xs ys = true → xs = ys
  | [], ys, h => by cases ys <;> simp [sameO] at h; rfl
  | x :: xs, ys, h => by
    cases ys with
    | nil => simp [sameO] at h
    | cons y ys =>
      rw [sameO, Bool.and_eq_true] at h
      rw [O.of_same _ _ h.1, of_sameO xs ys h.2]
@[simp] theorem D.sames_self (xs : List D) : D.sames xs xs = true := D.sames_refl xs
@[simp] theorem sameKv_self (xs : List (D × D)) : sameKv xs xs = true := sameKv_refl xs
@[simp] theorem sameO_self (xs : List O) : sameO xs xs = true := sameO_refl xs

/-! ### the language -/
inductive Tg where
  | one (i : Nat) | many (is : List Nat)
  deriving DecidableEq
mutual
inductive E where
  | var (i : Nat) | con (d : D)
  | bin (op : Operator) (a b : E) | neg (a : E)
  | cmp (op : CmpOp) (a b : E) | chn (o1 o2 : CmpOp) (a b c : E)
  | and (a b : E) | or (a b : E) | not (a : E)
  | tup (es : Es) | lst (es : Es) | lstM (es : Es) | dct (es : Es)
  | idx (a b : E) | sli (a : E) (lo hi : Po) | stp (a : E) (lo hi : Po) (c : E) | rev (a : E)
  | call (f : Nat) (es : Es) | blt (f : Blt) (es : Es) | mth (m : Mth) (o : E) (es : Es)
  | meth (m : Str) (o : E) (es : Es) | make (c : Nat) (es : Es) | fld (o : E) (f : Str)
  | lc (m : Bool) (own : List Nat) (tg : Tg) (it : It) (cond elt : E)
  | told (e : E)
inductive Es where
  | nil | cons (e : E) (es : Es)
inductive Po where
  | no | is (e : E)
inductive It where
  | seq (e : E) | keys (e : E) | rng1 (a : E) | rng2 (a b : E) | rng3 (a b c : E) | items (e : E) | enum (e : E) | zip (a b : E)
end
mutual
inductive S where
  | set (t : Tg) (e : E) | fld (o : E) (f : Str) (e : E) | put (o k e : E)
  | exp (e : E) | ret (e : E) | retN
  | ite (c : E) (a b : Ss) | whl (c : E) (b : Ss) | for (tg : Tg) (it : It) (b : Ss)
  | pass | brk | cont | raise (k : Nat)
inductive Ss where
  | nil | cons (s : S) (ss : Ss)
end
/-- how a statement ends -/
inductive Fl where
  | nx (env : Env) | rt (d : D) | bk (env : Env) | ct (env : Env)

/-- a def: how many parameters, how many slots, its body -/
structure FDef where
  np : Nat
  ns : Nat
  body : Ss
/-- the program: its defs, its classes' methods and __init__ -/
structure Prg where
  fn : Nat → Option FDef
  meth : Nat → Str → Option Nat
  init : Nat → Option Nat
  wfuel : Nat
/-- the surroundings of an evaluation -/
structure Ctx where
  call : Nat → List D → Store → R D
  meth : Nat → Str → Option Nat
  init : Nat → Option Nat
  wfuel : Nat

/-- a[lo:hi:c] -/
def stepL {α : Type} (xs : List α) (lo hi : Option Int) (c : Int) : List α :=
  (List.range (PySem.Builtin.Slice.slicePlaces (PySem.Builtin.Slice.sliceAdjust lo hi c xs.length).1 (PySem.Builtin.Slice.sliceAdjust lo hi c xs.length).2 c)).filterMap fun k : Nat => xs[((PySem.Builtin.Slice.sliceAdjust lo hi c xs.length).1 + (k : Int) * c).toNat]?
def stpD (x : D) (l h : Option Int) (k : D) (st : Store) : R D := match x, k with
  | .tup xs, .int k => R.test (decide (k ≠ 0) && decide ((stepL xs l h k).length ≤ lim)) (.ok (.tup (stepL xs l h k)) st)
  | _, _ => .bad
/-- keys and values of a display, from the left -/
def pairUp : List D → Option (List (D × D))
  | [] => some []
  | k :: v :: r => (pairUp r).map ((k, v) :: ·)
  | [_] => none
/-! ### assignment, loops -/
def asgs : List Nat → List D → Env → Option Env
  | [], [], env => some env
  | i :: is, d :: ds, env => asgs is ds (env.set i (some d))
  | _, _, _ => none
def asg (t : Tg) (d : D) (env : Env) : Option Env := match t with
  | .one i => some (env.set i (some d))
  | .many is => match d with
    | .tup xs => asgs is xs env
    | _ => none
def wipes (env : Env) : List Nat → Env
  | [] => env
  | v :: vs => (wipes env vs).set v none
/-- what must stand still while a loop walks it -/
inductive Grd where
  | no | lst (i : Nat) (xs : List D) | dic (i : Nat) (kvs : List (D × D)) | lck (i : Nat) (kvs : List (D × D))
def Grd.lock : Grd → Store → Store
  | .dic i kvs, st => st.set i (.lck kvs)
  | _, st => st
def Grd.free : Grd → Store → Store
  | .dic i kvs, st => st.set i (.dic kvs)
  | _, st => st
def Grd.holds : Grd → Store → Bool
  | .no, _ => true
  | .lst i xs, st => match st[i]? with
    | some (.lst ys) => D.sames xs ys
    | _ => false
  | .dic i kvs, st => match st[i]? with
    | some (.lck ls) => sameKv kvs ls
    | _ => false
  | .lck i kvs, st => match st[i]? with
    | some (.lck ls) => sameKv kvs ls
    | _ => false
/-- an error may not leave a loop that locks -/
def Grd.out {α : Type} (g : Grd) (r : R α) : R α := match g, r with
  | .dic _ _, .err _ _ => .bad
  | _, .ok a st => R.test (g.holds st) (.ok a (g.free st))
  | _, r => r
def forL (g : Grd) (tg : Tg) (body : Env → Store → R Fl) : List D → Env → Store → R Fl
  | [], env, st => R.test (g.holds st) (.ok (.nx env) st)
  | d :: ds, env, st => R.test (g.holds st) ((R.of (asg tg d env) st).bind fun env st => (body env st).bind fun f st => match f with
    | .nx env => forL g tg body ds env st
    | .ct env => forL g tg body ds env st
    | .bk env => .ok (.nx env) st
    | .rt v => .ok (.rt v) st)
def lcL (g : Grd) (tg : Tg) (cond elt : Env → Store → R D) (env : Env) : List D → Store → R (List D)
  | [], st => R.test (g.holds st) (.ok [] st)
  | d :: ds, st => R.test (g.holds st) ((R.of (asg tg d env) st).bind fun env' st => (cond env' st).bind fun b st => match b with
    | .bl true => (elt env' st).bind fun y st => (lcL g tg cond elt env ds st).bind fun ys st => .ok (y :: ys) st
    | .bl false => lcL g tg cond elt env ds st
    | _ => .bad)
def whlL (c : Env → Store → R D) (body : Env → Store → R Fl) : Nat → Env → Store → R Fl
  | 0, _, _ => .bad
  | n + 1, env, st => (c env st).bind fun b st => match b with
    | .bl true => (body env st).bind fun f st => match f with
      | .nx env => whlL c body n env st
      | .ct env => whlL c body n env st
      | .bk env => .ok (.nx env) st
      | .rt v => .ok (.rt v) st
    | .bl false => .ok (.nx env) st
    | _ => .bad
/-- what a for walks -/
def seqIt (d : D) (st : Store) : R (List D × Grd) := match d with
  | .tup xs => .ok (xs, .no) st
  | .lst xs => .ok (xs, .no) st
  | .scr ns => .ok (ns.map D.int, .no) st
  | .str s => R.test (decide (s.length ≤ lim)) (.ok (s.cps.toList.map fun c => D.str ⟨#[c]⟩, .no) st)
  | .ref i => match st[i]? with
    | some (.lst xs) => .ok (xs, .lst i xs) st
    | _ => .bad
  | _ => .bad
def keysIt (d : D) (st : Store) : R (List D × Grd) := match d with
  | .ref i => match st[i]? with
    | some (.dic kvs) => .ok (kvs.map (·.1), .dic i kvs) st
    | _ => .bad
  | _ => .bad
def itemsIt (d : D) (st : Store) : R (List D × Grd) := match d with
  | .ref i => match st[i]? with
    | some (.dic kvs) => .ok (kvs.map fun kv => D.tup [kv.1, kv.2], .dic i kvs) st
    | _ => .bad
  | _ => .bad
def enumL : Int → List D → List D
  | _, [] => []
  | k, x :: xs => .tup [.int k, x] :: enumL (k + 1) xs
def zipL : List D → List D → List D
  | x :: xs, y :: ys => .tup [x, y] :: zipL xs ys
  | _, _ => []
def rngL (lo hi : Int) : List D := (List.range (hi - lo).toNat).map fun i : Nat => D.int (lo + i)
def rngS (lo hi c : Int) : List D := (List.range ((hi - lo + c - 1) / c).toNat).map fun i : Nat => D.int (lo + i * c)
def rng2 (x y : D) (st : Store) : R (List D × Grd) := match x, y with
  | .int lo, .int hi => R.test (decide (-1000000 ≤ lo) && decide (lo ≤ 1000000) && decide (-1000000 ≤ hi) && decide (hi ≤ 1000000)) (.ok (rngL lo hi, .no) st)
  | _, _ => .bad
def rng3 (x y z : D) (st : Store) : R (List D × Grd) := match x, y, z with
  | .int lo, .int hi, .int c => R.test (decide (-1000000 ≤ lo) && decide (lo ≤ 1000000) && decide (-1000000 ≤ hi) && decide (hi ≤ 1000000) && decide (0 < c) && decide (c ≤ 1000)) (.ok (rngS lo hi c, .no) st)
  | _, _, _ => .bad

/-! ### expressions -/
/-- an exception's class in the law's word for it -/
def toldOf (r : R D) : R D := match r with
  | .ok v st => .ok (.tup [.str "told", v]) st
  | .err k st => .ok (.tup [.str "refused", .int k]) st
  | .bad => .bad
mutual
def evE (C : Ctx) : E → Env → Store → R D
  | .var i, env, st => match env[i]? with
    | some (some d) => .ok d st
    | _ => .bad
  | .con d, _, st => .ok d st
  | .bin op a b, env, st => (evE C a env st).bind fun x st => (evE C b env st).bind fun y st => binD op x y st
  | .neg a, env, st => (evE C a env st).bind fun x st => match x with
    | .int i => .ok (.int (-i)) st
    | _ => .bad
  | .cmp op a b, env, st => (evE C a env st).bind fun x st => (evE C b env st).bind fun y st => cmpD op x y st
  | .chn o1 o2 a b c, env, st => (evE C a env st).bind fun x st => (evE C b env st).bind fun y st => (cmpD o1 x y st).bind fun r st => match r with
    | .bl true => (evE C c env st).bind fun z st => cmpD o2 y z st
    | .bl false => .ok (.bl false) st
    | _ => .bad
  | .and a b, env, st => (evE C a env st).bind fun x st => match x with
    | .bl true => evE C b env st
    | .bl false => .ok (.bl false) st
    | _ => .bad
  | .or a b, env, st => (evE C a env st).bind fun x st => match x with
    | .bl true => .ok (.bl true) st
    | .bl false => evE C b env st
    | _ => .bad
  | .not a, env, st => (evE C a env st).bind fun x st => match x with
    | .bl b => .ok (.bl (!b)) st
    | _ => .bad
  | .tup es, env, st => (evEs C es env st).bind fun xs st => R.test (decide (xs.length ≤ 1000)) (.ok (.tup xs) st)
  | .lst es, env, st => (evEs C es env st).bind fun xs st => R.test (decide (xs.length ≤ 1000)) (.ok (.lst xs) st)
  | .lstM es, env, st => (evEs C es env st).bind fun xs st => R.test (decide (xs.length ≤ 1000)) (.ok (.ref st.length) (st ++ [.lst xs]))
  | .dct es, env, st => (evEs C es env (st ++ [.dic []])).bind fun xs st' => (R.of (pairUp xs) st').bind fun ps st' => match st'[st.length]? with
    | some (.dic []) => R.test (keysOk ps && decide (ps.length ≤ 15)) (.ok (.ref st.length) (st'.set st.length (.dic (dputs [] ps))))
    | _ => .bad
  | .idx a b, env, st => (evE C a env st).bind fun x st => (evE C b env st).bind fun y st => idxD x y st
  | .sli a lo hi, env, st => (evE C a env st).bind fun x st => (evP C lo env st).bind fun l st => (evP C hi env st).bind fun h st => sliD x l h st
  | .stp a lo hi c, env, st => (evE C a env st).bind fun x st => (evP C lo env st).bind fun l st => (evP C hi env st).bind fun h st => (evE C c env st).bind fun k st => stpD x l h k st
  | .rev a, env, st => (evE C a env st).bind fun x st => match x with
    | .lst xs => .ok (.lst xs.reverse) st
    | .tup xs => .ok (.tup xs.reverse) st
    | _ => .bad
  | .call f es, env, st => (evEs C es env st).bind fun xs st => C.call f xs st
  | .blt f es, env, st => (evEs C es env st).bind fun xs st => bltD f xs st
  | .mth m o es, env, st => (evE C o env st).bind fun x st => R.test (m.ok x st) ((evEs C es env st).bind fun xs st => mthD m x xs st)
  | .meth m o es, env, st => (evE C o env st).bind fun x st => match x with
    | .ref i => match st[i]? with
      | some (.ins c fs) => (R.of (C.meth c m) st).bind fun f st => (evEs C es env st).bind fun xs st => C.call f (x :: xs) st
      | _ => .bad
    | _ => .bad
  | .make c es, env, st => (evEs C es env st).bind fun xs st => (R.of (C.init c) st).bind fun f st => (C.call f (.ref st.length :: xs) (st ++ [.ins c []])).bind fun v st' => match v with
    | .non => .ok (.ref st.length) st'
    | _ => .bad
  | .fld o f, env, st => (evE C o env st).bind fun x st => match x with
    | .ref i => match st[i]? with
      | some (.ins _ fs) => R.of (fget fs f) st
      | _ => .bad
    | _ => .bad
  | .lc m own tg it cond elt, env, st => (evI C it env st).bind fun p st => (p.2.out (lcL p.2 tg (evE C cond) (evE C elt) (wipes env own) p.1 (p.2.lock st))).noX.bind fun ys st =>
      if m then .ok (.ref st.length) (st ++ [.lst ys]) else .ok (.lst ys) st
  | .told e, env, st => toldOf (evE C e env st)
def evEs (C : Ctx) : Es → Env → Store → R (List D)
  | .nil, _, st => .ok [] st
  | .cons e es, env, st => (evE C e env st).bind fun x st => (evEs C es env st).bind fun xs st => .ok (x :: xs) st
def evP (C : Ctx) : Po → Env → Store → R (Option Int)
  | .no, _, st => .ok none st
  | .is e, env, st => (evE C e env st).bind fun x st => match x with
    | .int i => .ok (some i) st
    | _ => .bad
def evI (C : Ctx) : It → Env → Store → R (List D × Grd)
  | .seq e, env, st => (evE C e env st).bind fun x st => seqIt x st
  | .keys e, env, st => (evE C e env st).bind fun x st => keysIt x st
  | .rng1 a, env, st => (evE C a env st).bind fun x st => rng2 (.int 0) x st
  | .rng2 a b, env, st => (evE C a env st).bind fun x st => (evE C b env st).bind fun y st => rng2 x y st
  | .rng3 a b c, env, st => (evE C a env st).bind fun x st => (evE C b env st).bind fun y st => (evE C c env st).bind fun z st => rng3 x y z st
  | .items e, env, st => (evE C e env st).bind fun x st => itemsIt x st
  | .enum e, env, st => (evE C e env st).bind fun x st => match x with
    | .tup xs => .ok (enumL 0 xs, .no) st
    | .lst xs => .ok (enumL 0 xs, .no) st
    | _ => .bad
  | .zip a b, env, st => (evE C a env st).bind fun x st => (evE C b env st).bind fun y st => match x, y with
    | .tup xs, .tup ys => .ok (zipL xs ys, .no) st
    | .tup xs, .lst ys => .ok (zipL xs ys, .no) st
    | .lst xs, .lst ys => .ok (zipL xs ys, .no) st
    | _, _ => .bad
end

/-! ### statements -/
mutual
def evS (C : Ctx) : S → Env → Store → R Fl
  | .set t e, env, st => (evE C e env st).bind fun x st => (R.of (asg t x env) st).bind fun env st => .ok (.nx env) st
  | .fld o f e, env, st => (evE C e env st).bind fun v st => (evE C o env st).bind fun x st => match x with
    | .ref i => match st[i]? with
      | some (.ins c fs) => R.test (decide (fs.length < 100)) (.ok (.nx env) (st.set i (.ins c (fput fs f v))))
      | _ => .bad
    | _ => .bad
  | .put o k e, env, st => (evE C e env st).bind fun v st => (evE C o env st).bind fun x st => (evE C k env st).bind fun y st => match x with
    | .ref i => match st[i]? with
      | some (.dic kvs) => R.test (keyOk kvs y && decide (kvs.length < 1000000)) (.ok (.nx env) (st.set i (.dic (dput kvs y v))))
      | _ => .bad
    | _ => .bad
  | .exp e, env, st => (evE C e env st).bind fun _ st => .ok (.nx env) st
  | .ret e, env, st => (evE C e env st).bind fun v st => .ok (.rt v) st
  | .retN, _, st => .ok (.rt .non) st
  | .ite c a b, env, st => (evE C c env st).bind fun x st => match x with
    | .bl true => evSs C a env st
    | .bl false => evSs C b env st
    | _ => .bad
  | .whl c b, env, st => whlL (evE C c) (evSs C b) C.wfuel env st
  | .for tg it b, env, st => (evI C it env st).bind fun p st => p.2.out (forL p.2 tg (evSs C b) p.1 env (p.2.lock st))
  | .pass, env, st => .ok (.nx env) st
  | .brk, env, st => .ok (.bk env) st
  | .cont, env, st => .ok (.ct env) st
  | .raise k, _, st => .err k st
def evSs (C : Ctx) : Ss → Env → Store → R Fl
  | .nil, env, st => .ok (.nx env) st
  | .cons s ss, env, st => (evS C s env st).bind fun f st => match f with
    | .nx env => evSs C ss env st
    | .rt v => .ok (.rt v) st
    | .bk env => .ok (.bk env) st
    | .ct env => .ok (.ct env) st
end

/-! ### calls -/
/-- behind a call: what the call has made and nobody can name is forgotten -/
def keepN (n : Nat) (st st' : Store) : Bool := sameO (st'.take n) st || lowO n (st'.take n)
def backV (st : Store) (v : D) (st' : Store) : R D := if (v.low st.length && keepN st.length st st') = true then .ok v (st'.take st.length) else .ok v st'
def backX (st : Store) (k : Nat) (st' : Store) : R D := if keepN st.length st st' = true then .err k (st'.take st.length) else .err k st'
def backR (st : Store) (r : R Fl) : R D := match r with
  | .ok (.rt v) st' => backV st v st'
  | .ok (.nx _) st' => backV st .non st'
  | .ok _ _ => .bad
  | .err k st' => backX st k st'
  | .bad => .bad
def FDef.run (d : FDef) (C : Ctx) (args : List D) (st : Store) : R D :=
  if args.length = d.np then backR st (evSs C d.body (args.map some ++ List.replicate (d.ns - d.np) none) st) else .bad
def Prg.call (P : Prg) : Nat → Nat → List D → Store → R D
  | 0, _, _, _ => .bad
  | n + 1, f, args, st => match P.fn f with
    | none => .bad
    | some d => d.run ⟨P.call n, P.meth, P.init, P.wfuel⟩ args st
abbrev Prg.ctx (P : Prg) (n : Nat) : Ctx := ⟨P.call n, P.meth, P.init, P.wfuel⟩
theorem Prg.call_succ (P : Prg) (n f : Nat) (args : List D) (st : Store) {d : FDef} (h : P.fn f = some d) : P.call (n + 1) f args st = d.run (P.ctx n) args st := by
  rw [Prg.call, h]
end EV
/-! EvC: how data and store stand in the machine's heap. -/
namespace EV
open PySem PySem.Spec PyProof.Rows L2

/-- a tuple's object; a tuple as it is tracked here: by its very object -/
abbrev tupOb (us : List Value) : Obj := { cls := .type "tuple", data := .seq us.toArray }
abbrev FT (us : List Value) (xs : List V) : HO := .frz (tupOb us) (.tup xs)
/-- G: the frozen objects; ρ: where the store's objects stand -/
structure Wd where
  G : Hp
  ρ : List Addr
mutual
/-- the value v is the datum d -/
inductive Rep (K : PySem.W.Frag) (W : Wd) : V → D → Prop
  | non : Rep K W .non .non
  | bl (b : Bool) : Rep K W (.bl b) (.bl b)
  | int (i : Int) : Rep K W (.int i) (.int i)
  | str (s : Str) : Rep K W (.str s) (.str s)
  | tup {a : Addr} {us : List Value} {xs : List V} {ds : List D} : W.G a = some (FT us xs) → ds.length ≤ sizeLine → RepL K W xs ds → Rep K W (.ref a) (.tup ds)
  | lst {a : Addr} {xs : List V} {ds : List D} : W.G a = some (.lst xs) → ds.length ≤ sizeLine → RepL K W xs ds → Rep K W (.ref a) (.lst ds)
  | scr {a : Addr} {ns : List Int} : SqL K W.G a (ns.map V.int) → ns.length ≤ sizeLine → Rep K W (.ref a) (.scr ns)
  | ref {a : Addr} {i : Nat} : W.ρ[i]? = some a → Rep K W (.ref a) (.ref i)
inductive RepL (K : PySem.W.Frag) (W : Wd) : List V → List D → Prop
  | nil : RepL K W [] []
  | cons {v : V} {d : D} {vs : List V} {ds : List D} : Rep K W v d → RepL K W vs ds → RepL K W (v :: vs) (d :: ds)
end
section
variable {K : PySem.W.Frag} {W W' : Wd}
theorem RepL.length : ∀ {xs : List V} {ds : List D}, RepL K W xs ds → xs.length = ds.length
  | _, _, .nil => rfl
  | _, _, .cons _ t => by rw [List.length_cons, List.length_cons, RepL.length t]
theorem RepL.get : ∀ {xs : List V} {ds : List D}, RepL K W xs ds → ∀ {i : Nat} {d : D}, ds[i]? = some d → ∃ x, xs[i]? = some x ∧ Rep K W x d
  | _, _, .nil, _, _, e => by simp at e
  | _, _, .cons r t, 0, _, e => by simp at e; subst e; exact ⟨_, rfl, r⟩
  | _, _, .cons _ t, i + 1, d, e => by
    obtain ⟨x, h1, h2⟩ := RepL.get t (i := i) (d := d) (by simpa using e)
    exact ⟨x, by simpa using h1, h2⟩
theorem RepL.getV : ∀ {xs : List V} {ds : List D}, RepL K W xs ds → ∀ {i : Nat} {x : V}, xs[i]? = some x → ∃ d, ds[i]? = some d ∧ Rep K W x d
  | _, _, .nil, _, _, e => by simp at e
  | _, _, .cons r t, 0, _, e => by simp at e; subst e; exact ⟨_, rfl, r⟩
  | _, _, .cons _ t, i + 1, d, e => by
    obtain ⟨x, h1, h2⟩ := RepL.getV t (i := i) (x := d) (by simpa using e)
    exact ⟨x, by simpa using h1, h2⟩
theorem RepL.append : ∀ {xs ys : List V} {ds es : List D}, RepL K W xs ds → RepL K W ys es → RepL K W (xs ++ ys) (ds ++ es)
  | _, _, _, _, .nil, s => s
  | _, _, _, _, .cons r t, s => .cons r (RepL.append t s)
theorem RepL.take : ∀ {xs : List V} {ds : List D} (n : Nat), RepL K W xs ds → RepL K W (xs.take n) (ds.take n)
  | _, _, 0, _ => .nil
  | _, _, _ + 1, .nil => .nil
  | _, _, n + 1, .cons r t => .cons r (RepL.take n t)
theorem RepL.drop : ∀ {xs : List V} {ds : List D} (n : Nat), RepL K W xs ds → RepL K W (xs.drop n) (ds.drop n)
  | _, _, 0, r => r
  | _, _, _ + 1, .nil => .nil
  | _, _, n + 1, .cons _ t => RepL.drop n t
theorem RepL.reps {xs : List V} {ds : List D} (h : RepL K W xs ds) : ∀ k : Nat, RepL K W (List.replicate k xs).flatten (List.replicate k ds).flatten
  | 0 => .nil
  | k + 1 => by
    rw [List.replicate_succ, List.replicate_succ, List.flatten_cons, List.flatten_cons]
    exact h.append (RepL.reps h k)
theorem RepL.dropLast {xs : List V} {ds : List D} (h : RepL K W xs ds) : RepL K W xs.dropLast ds.dropLast := by
  rw [List.dropLast_eq_take, List.dropLast_eq_take, h.length]
  exact h.take _
theorem RepL.one {v : V} {d : D} (h : Rep K W v d) : RepL K W [v] [d] := .cons h .nil
theorem RepL.ints : ∀ (ns : List Int), RepL K W (ns.map V.int) (ns.map D.int)
  | [] => .nil
  | n :: ns => .cons (.int n) (RepL.ints ns)
theorem RepL.bls : ∀ (ns : List Bool), RepL K W (ns.map V.bl) (ns.map D.bl)
  | [] => .nil
  | n :: ns => .cons (.bl n) (RepL.bls ns)
theorem RepL.strs : ∀ (ns : List Str), RepL K W (ns.map V.str) (ns.map D.str)
  | [] => .nil
  | n :: ns => .cons (.str n) (RepL.strs ns)
theorem RepL.of_ints : ∀ {xs : List V} {ds : List D} {ns : List Int}, RepL K W xs ds → intsOf ds = some ns → xs = ns.map V.int
  | _, _, _, .nil, e => by
    simp [intsOf] at e
    subst e; rfl
  | _, _, _, .cons (d := d) r t, e => by
    cases r <;> simp only [intsOf, reduceCtorEq] at e
    case int i =>
      obtain ⟨ms, e1, e2⟩ := Option.map_eq_some_iff.mp e
      subst e2
      rw [RepL.of_ints t e1]
      rfl
theorem RepL.of_bls : ∀ {xs : List V} {ds : List D} {ns : List Bool}, RepL K W xs ds → blsOf ds = some ns → xs = ns.map V.bl
  | _, _, _, .nil, e => by
    simp [blsOf] at e
    subst e; rfl
  | _, _, _, .cons (d := d) r t, e => by
    cases r <;> simp only [blsOf, reduceCtorEq] at e
    case bl i =>
      obtain ⟨ms, e1, e2⟩ := Option.map_eq_some_iff.mp e
      subst e2
      rw [RepL.of_bls t e1]
      rfl
theorem RepL.of_strs : ∀ {xs : List V} {ds : List D} {ns : List Str}, RepL K W xs ds → strsOf ds = some ns → xs = ns.map V.str
  | _, _, _, .nil, e => by
    simp [strsOf] at e
    subst e; rfl
  | _, _, _, .cons (d := d) r t, e => by
    cases r <;> simp only [strsOf, reduceCtorEq] at e
    case str i =>
      obtain ⟨ms, e1, e2⟩ := Option.map_eq_some_iff.mp e
      subst e2
      rw [RepL.of_strs t e1]
      rfl
/-- the world grows -/
structure Wd.Le (W W' : Wd) : Prop where
  g : Same W.G W'.G
  r : ∃ more, W'.ρ = W.ρ ++ more
theorem Wd.Le.refl (W : Wd) : W.Le W := ⟨Same.refl _, [], by simp⟩
theorem Wd.Le.trans {W W1 W2 : Wd} (a : W.Le W1) (b : W1.Le W2) : W.Le W2 := by
  obtain ⟨g1, m1, e1⟩ := a
  obtain ⟨g2, m2, e2⟩ := b
  exact ⟨g1.trans g2, m1 ++ m2, by rw [e2, e1, List.append_assoc]⟩
theorem Wd.Le.at (a : W.Le W') {i : Nat} {x : Addr} (h : W.ρ[i]? = some x) : W'.ρ[i]? = some x := by
  obtain ⟨_, m, e⟩ := a
  have hl : i < W.ρ.length := (List.getElem?_eq_some_iff.mp h).1
  rw [e, List.getElem?_append_left hl]
  exact h
mutual
theorem Rep.mono (le : W.Le W') : ∀ {v : V} {d : D}, Rep K W v d → Rep K W' v d
  | _, _, .non => .non
  | _, _, .bl _ => .bl _
  | _, _, .int _ => .int _
  | _, _, .str _ => .str _
  | _, _, .tup h z l => .tup (le.g _ _ h) z (RepL.mono le l)
  | _, _, .lst h z l => .lst (le.g _ _ h) z (RepL.mono le l)
  | _, _, .scr h z => .scr (le.g.seq h) z
  | _, _, .ref h => .ref (le.at h)
theorem RepL.mono (le : W.Le W') : ∀ {v : List V} {d : List D}, RepL K W v d → RepL K W' v d
  | _, _, .nil => .nil
  | _, _, .cons h t => .cons (Rep.mono le h) (RepL.mono le t)
end
mutual
/-- the store cut at n: what names nothing behind n -/
theorem Rep.cut {n : Nat} : ∀ {v : V} {d : D}, Rep K W v d → d.low n = true → Rep K ⟨W.G, W.ρ.take n⟩ v d
  | _, _, .non, _ => .non
  | _, _, .bl _, _ => .bl _
  | _, _, .int _, _ => .int _
  | _, _, .str _, _ => .str _
  | _, _, .tup h z l, e => .tup h z (RepL.cut l (by simpa [D.low] using e))
  | _, _, .lst h z l, e => .lst h z (RepL.cut l (by simpa [D.low] using e))
  | _, _, .scr h z, _ => .scr h z
  | _, _, .ref (i := i) h, e => .ref (by
      have e' : i < n := by simpa [D.low] using e
      show (W.ρ.take n)[i]? = _
      rw [List.getElem?_take]
      simp [e', h])
theorem RepL.cut {n : Nat} : ∀ {v : List V} {d : List D}, RepL K W v d → D.lows n d = true → RepL K ⟨W.G, W.ρ.take n⟩ v d
  | _, _, .nil, _ => .nil
  | _, _, .cons h t, e => by
    rw [D.lows, Bool.and_eq_true] at e
    exact .cons (Rep.cut h e.1) (RepL.cut t e.2)
end
mutual
theorem Rep.low : ∀ {v : V} {d : D}, Rep K W v d → d.low W.ρ.length = true
  | _, _, .non => by simp [D.low]
  | _, _, .bl _ => by simp [D.low]
  | _, _, .int _ => by simp [D.low]
  | _, _, .str _ => by simp [D.low]
  | _, _, .tup h z l => by rw [D.low]; exact RepL.low l
  | _, _, .lst h z l => by rw [D.low]; exact RepL.low l
  | _, _, .scr h z => by simp [D.low]
  | _, _, .ref h => by
    rw [D.low]
    exact decide_eq_true (List.getElem?_eq_some_iff.mp h).1
theorem RepL.low : ∀ {v : List V} {d : List D}, RepL K W v d → D.lows W.ρ.length d = true
  | _, _, .nil => by simp [D.lows]
  | _, _, .cons h t => by rw [D.lows, Rep.low h, RepL.low t]; rfl
end
end

/-- an instance's attributes -/
inductive RepF (K : PySem.W.Frag) (W : Wd) : List (Str × V) → List (Str × D) → Prop
  | nil : RepF K W [] []
  | cons {f : Str} {v : V} {d : D} {vs : List (Str × V)} {ds : List (Str × D)} : Rep K W v d → RepF K W vs ds → RepF K W ((f, v) :: vs) ((f, d) :: ds)
/-- an entry's value as a value of the layer -/
def valRel (K : PySem.W.Frag) (W : Wd) (u : Value) (d : D) : Prop := ∃ v, RelV v u ∧ Rep K W v d
mutual
/-- a key as the library's nested key -/
def D.nk : D → NestedKey
  | .int i => .num i
  | .str s => .text s
  | .tup xs => .tup (D.nks xs)
  | _ => .none
def D.nks : List D → List NestedKey
  | [] => []
  | x :: xs => D.nk x :: D.nks xs
end
/-- a dict's entries -/
inductive RepE (K : PySem.W.Frag) (w : World) (W : Wd) : List DictEntry → List (D × D) → Prop
  | nil : RepE K w W [] []
  | cons {e : DictEntry} {k v : D} {es : List DictEntry} {kvs : List (D × D)} : k.key 6 = true → valRel K W e.key k → e.hash = NestedKey.hash w k.nk → valRel K W e.val v → RepE K w W es kvs → RepE K w W (e :: es) ((k, v) :: kvs)
/-- the object o is a dict of the entries kvs -/
def DicO (K : PySem.W.Frag) (w : World) (W : Wd) (a : Addr) (o : Obj) (kvs : List (D × D)) : Prop :=
  dicOn = true ∧ (a == sysModules) = false ∧ kvs.length ≤ sizeLine ∧ ∃ es ep, o.ExactDict ∧ o.data = .dict es ep ∧ RepE K w W es.toList kvs ∧ (kvs.map (·.1.nk)).Nodup
abbrev exactly (a : Addr) (o : Obj) : HO := .ext fun h => h.get? a = some o
/-- the store's object o at a -/
def OAt (K : PySem.W.Frag) (w : World) (cls : Nat → Option Addr) (W : Wd) (H : Hp) (a : Addr) : O → Prop
  | .lst ds => ∃ xs, H a = some (.lst xs) ∧ RepL K W xs ds ∧ ds.length ≤ sizeLine
  | .dic kvs => ∃ o, H a = some (exactly a o) ∧ DicO K w W a o kvs
  | .lck kvs => ∃ o od, H a = some (.frz od (exactly a o)) ∧ DicO K w W a o kvs
  | .ins c fs => ∃ C dx vs, cls c = some C ∧ H a = some (.ins C dx vs) ∧ RepF K W vs fs
/-- the store stands in the heap -/
structure Ag (K : PySem.W.Frag) (w : World) (cls : Nat → Option Addr) (W : Wd) (st : Store) (H : Hp) : Prop where
  sub : Same W.G H
  len : W.ρ.length = st.length
  nd : W.ρ.Nodup
  out : ∀ a ∈ W.ρ, W.G a = none
  obj : ∀ (i : Nat) (o : O) (a : Addr), st[i]? = some o → W.ρ[i]? = some a → OAt K w cls W H a o
/-- from one state to a later one -/
structure Ext (W : Wd) (H : Hp) (W' : Wd) (H' : Hp) : Prop where
  g : Same W.G W'.G
  r : ∃ more, W'.ρ = W.ρ ++ more ∧ ∀ a ∈ more, H a = none
  fr : ∀ a o, H a = some o → a ∉ W.ρ → H' a = some o
  dom : ∀ a, H a ≠ none → H' a ≠ none
  gn : ∀ a, W'.G a ≠ none → W.G a ≠ none ∨ H a = none
  fz : ∀ a o u, H a = some (.frz o u) → H' a = some (.frz o u)
section
variable {K : PySem.W.Frag} {w : World} {cls : Nat → Option Addr} {W W' W1 W2 : Wd} {H H' H1 H2 : Hp} {st : Store}
theorem Ext.refl (W : Wd) (H : Hp) : Ext W H W H := ⟨Same.refl _, ⟨[], by simp, by simp⟩, fun _ _ e _ => e, fun _ h => h, fun _ h => .inl h, fun _ _ _ e => e⟩
theorem Ext.le (x : Ext W H W' H') : W.Le W' := ⟨x.g, let ⟨m, e, _⟩ := x.r; ⟨m, e⟩⟩
theorem Ext.trans (a : Ext W H W1 H1) (b : Ext W1 H1 W2 H2) : Ext W H W2 H2 := by
  obtain ⟨m1, e1, n1⟩ := a.r
  obtain ⟨m2, e2, n2⟩ := b.r
  refine ⟨a.g.trans b.g, ⟨m1 ++ m2, by rw [e2, e1, List.append_assoc], fun c hc => ?_⟩, fun c o e hn => ?_, fun c h => b.dom c (a.dom c h), fun c h => ?_, fun c o u e => b.fz c o u (a.fz c o u e)⟩
  · rcases List.mem_append.mp hc with hc | hc
    · exact n1 c hc
    · have := n2 c hc
      exact Classical.byContradiction fun q => a.dom c q this
  · refine b.fr c o (a.fr c o e hn) fun hm => ?_
    rw [e1] at hm
    rcases List.mem_append.mp hm with hm | hm
    · exact hn hm
    · rw [n1 c hm] at e; cases e
  · rcases b.gn c h with q | q
    · exact a.gn c q
    · exact .inr (Classical.byContradiction fun z => a.dom c z q)
theorem RepF.mono (le : W.Le W') : ∀ {vs : List (Str × V)} {ds : List (Str × D)}, RepF K W vs ds → RepF K W' vs ds
  | _, _, .nil => .nil
  | _, _, .cons r t => .cons (r.mono le) (RepF.mono le t)
theorem valRel.mono (le : W.Le W') {u : Value} {d : D} (h : valRel K W u d) : valRel K W' u d := let ⟨v, r, q⟩ := h; ⟨v, r, q.mono le⟩
theorem RepE.mono (le : W.Le W') : ∀ {es : List DictEntry} {kvs : List (D × D)}, RepE K w W es kvs → RepE K w W' es kvs
  | _, _, .nil => .nil
  | _, _, .cons a b c d t => .cons a (b.mono le) c (d.mono le) (RepE.mono le t)
theorem DicO.mono (le : W.Le W') {a : Addr} {o : Obj} {kvs : List (D × D)} (h : DicO K w W a o kvs) : DicO K w W' a o kvs := by
  obtain ⟨on, s, z, es, ep, x, d, r, n⟩ := h
  exact ⟨on, s, z, es, ep, x, d, r.mono le, n⟩
/-- an object that is as it was -/
theorem OAt.keep (le : W.Le W') {a : Addr} {o : O} (h : OAt K w cls W H a o) (e : H' a = H a) : OAt K w cls W' H' a o := by
  cases o with
  | lst ds => obtain ⟨xs, q, r, z⟩ := h; exact ⟨xs, e.trans q, r.mono le, z⟩
  | dic kvs => obtain ⟨ob, q, r⟩ := h; exact ⟨ob, e.trans q, r.mono le⟩
  | lck kvs => obtain ⟨ob, od, q, r⟩ := h; exact ⟨ob, od, e.trans q, r.mono le⟩
  | ins c fs => obtain ⟨C, dx, vs, q1, q2, r⟩ := h; exact ⟨C, dx, vs, q1, e.trans q2, r.mono le⟩
theorem OAt.there {a : Addr} {o : O} (h : OAt K w cls W H a o) : H a ≠ none := by
  cases o with
  | lst ds => obtain ⟨xs, q, _⟩ := h; rw [q]; simp
  | dic kvs => obtain ⟨ob, q, _⟩ := h; rw [q]; simp
  | lck kvs => obtain ⟨ob, od, q, _⟩ := h; rw [q]; simp
  | ins c fs => obtain ⟨C, dx, vs, q1, q2, r⟩ := h; rw [q2]; simp
theorem Ag.at (A : Ag K w cls W st H) {i : Nat} {a : Addr} (h : W.ρ[i]? = some a) : ∃ o, st[i]? = some o ∧ OAt K w cls W H a o := by
  have hl : i < st.length := by rw [← A.len]; exact (List.getElem?_eq_some_iff.mp h).1
  exact ⟨st[i], List.getElem?_eq_getElem hl, A.obj i _ a (List.getElem?_eq_getElem hl) h⟩
theorem Ag.tracked (A : Ag K w cls W st H) {a : Addr} (h : a ∈ W.ρ) : H a ≠ none := by
  obtain ⟨i, hi, e⟩ := List.getElem_of_mem h
  obtain ⟨o, _, q⟩ := A.at (i := i) (a := a) (by rw [List.getElem?_eq_getElem hi, e])
  exact q.there
theorem nodup_at {α : Type} {l : List α} (hd : l.Nodup) {i j : Nat} {x : α} (h1 : l[i]? = some x) (h2 : l[j]? = some x) : i = j := by
  obtain ⟨a1, b1⟩ := List.getElem?_eq_some_iff.mp h1
  obtain ⟨a2, b2⟩ := List.getElem?_eq_some_iff.mp h2
  exact (List.getElem_inj hd).mp (b1.trans b2.symm)
/-- a new object that nobody but the frozen part knows -/
theorem Ag.frozen (A : Ag K w cls W st H) {p : Addr} {o : HO} (hp : H p = none) : Ag K w cls ⟨upd W.G p o, W.ρ⟩ st (upd H p o) ∧ Ext W H ⟨upd W.G p o, W.ρ⟩ (upd H p o) := by
  have gn : W.G p = none := by
    cases q : W.G p with
    | none => rfl
    | some u => rw [A.sub _ _ q] at hp; cases hp
  have x : Ext W H ⟨upd W.G p o, W.ρ⟩ (upd H p o) := by
    refine ⟨fun b u e => ?_, ⟨[], by simp, by simp⟩, fun b u e _ => ?_, fun b h => ?_, fun b h => ?_, fun b u v e => by rw [upd_ne (ne_of_none e hp)]; exact e⟩
    · show upd W.G p o b = some u
      rw [upd_ne (ne_of_none e gn)]; exact e
    · rw [upd_ne (ne_of_none e hp)]; exact e
    · by_cases hb : b = p
      · subst hb; rw [upd_same]; simp
      · rw [upd_ne hb]; exact h
    · by_cases hb : b = p
      · subst hb; exact .inr hp
      · have h' : upd W.G p o b ≠ none := h
        rw [upd_ne hb] at h'
        exact .inl h'
  refine ⟨⟨fun b u e => ?_, A.len, A.nd, fun a ha => ?_, fun i ob a h1 h2 => ?_⟩, x⟩
  · by_cases hb : b = p
    · subst hb
      have e' : upd W.G b o b = some u := e
      rw [upd_same] at e' ⊢; exact e'
    · have e' : upd W.G p o b = some u := e
      rw [upd_ne hb] at e' ⊢
      exact A.sub _ _ e'
  · show upd W.G p o a = none
    have ne : a ≠ p := fun z => A.tracked ha (by rw [z]; exact hp)
    rw [upd_ne ne]
    exact A.out a ha
  · have ne : a ≠ p := fun z => A.tracked (List.mem_of_getElem? h2) (by rw [z]; exact hp)
    exact (A.obj i ob a h1 h2).keep x.le (upd_ne ne)
/-- a new object of the store -/
theorem Ag.newObj (A : Ag K w cls W st H) {p : Addr} {o : O} (hp : H p = none) (kp : ∀ b u, H b = some u → H' b = some u) (hn : H' p ≠ none) (ho : OAt K w cls ⟨W.G, W.ρ ++ [p]⟩ H' p o) :
    Ag K w cls ⟨W.G, W.ρ ++ [p]⟩ (st ++ [o]) H' ∧ Ext W H ⟨W.G, W.ρ ++ [p]⟩ H' := by
  have gn : W.G p = none := by
    cases q : W.G p with
    | none => rfl
    | some u => rw [A.sub _ _ q] at hp; cases hp
  have x : Ext W H ⟨W.G, W.ρ ++ [p]⟩ H' := by
    refine ⟨Same.refl _, ⟨[p], rfl, fun a ha => ?_⟩, fun b u e _ => kp b u e, fun b h => ?_, fun _ h => .inl h, fun b u v e => kp b _ e⟩
    · have e : a = p := by simpa using ha
      subst e; exact hp
    · cases q : H b with
      | none => exact absurd q h
      | some u => rw [kp b u q]; simp
  refine ⟨⟨fun b u e => kp b u (A.sub b u e), by simp [A.len], ?_, fun a ha => ?_, fun i ob a h1 h2 => ?_⟩, x⟩
  · refine List.nodup_append.mpr ⟨A.nd, by simp, fun a ha b hb e => ?_⟩
    have e' : b = p := by simpa using hb
    subst e'; subst e
    exact A.tracked ha hp
  · rcases List.mem_append.mp ha with ha | ha
    · exact A.out a ha
    · have e : a = p := by simpa using ha
      subst e; exact gn
  · have h2 : (W.ρ ++ [p])[i]? = some a := h2
    by_cases hi : i < W.ρ.length
    · rw [List.getElem?_append_left hi] at h2
      rw [List.getElem?_append_left (by rw [← A.len]; exact hi)] at h1
      have e : H' a = H a := by
        cases q : H a with
        | none => exact absurd q (A.tracked (List.mem_of_getElem? h2))
        | some u => exact kp a u q
      exact (A.obj i ob a h1 h2).keep x.le e
    · rw [List.getElem?_append_right (by omega)] at h2
      rw [List.getElem?_append_right (by rw [← A.len]; omega)] at h1
      have hz : i - W.ρ.length = 0 := by
        have := (List.getElem?_eq_some_iff.mp h2).1
        simp at this; omega
      rw [hz] at h2
      rw [← A.len, hz] at h1
      simp at h1 h2
      subst h1; subst h2
      exact ho
/-- an object of the store is changed -/
theorem Ag.setObj (A : Ag K w cls W st H) {i : Nat} {a : Addr} {o : O} (hi : W.ρ[i]? = some a) (kp : ∀ b, b ≠ a → H' b = H b) (ho : OAt K w cls W H' a o) (nf : ∀ x y, H a ≠ some (.frz x y)) :
    Ag K w cls W (st.set i o) H' ∧ Ext W H W H' := by
  have am : a ∈ W.ρ := List.mem_of_getElem? hi
  have x : Ext W H W H' := by
    refine ⟨Same.refl _, ⟨[], by simp, by simp⟩, fun b u e hn => ?_, fun b h => ?_, fun _ h => .inl h, fun b u v e => by rw [kp b fun z => nf u v (z ▸ e)]; exact e⟩
    · rw [kp b fun z => hn (z ▸ am)]; exact e
    · by_cases hb : b = a
      · subst hb; exact ho.there
      · rw [kp b hb]; exact h
  refine ⟨⟨fun b u e => ?_, by simp [A.len], A.nd, A.out, fun j ob b h1 h2 => ?_⟩, x⟩
  · rw [kp b fun z => by rw [z, A.out a am] at e; cases e]
    exact A.sub b u e
  · by_cases hj : j = i
    · subst hj
      rw [hi] at h2; cases h2
      rw [List.getElem?_set_self (by rw [← A.len]; exact (List.getElem?_eq_some_iff.mp hi).1)] at h1
      cases h1
      exact ho
    · rw [List.getElem?_set_ne (Ne.symm hj)] at h1
      have ne : b ≠ a := fun z => by
        subst z
        exact hj (nodup_at A.nd h2 hi)
      exact (A.obj j ob b h1 h2).keep (Wd.Le.refl _) (kp b ne)
/-- values in the slots -/
structure EnvOk (K : PySem.W.Frag) (W : Wd) (σ : L2.St) (env : Env) : Prop where
  len : env.length = σ.length
  val : ∀ (i : Nat) (d : D), env[i]? = some (some d) → ∃ v, σ[i]? = some (some v) ∧ Rep K W v d
theorem EnvOk.mono (le : W.Le W') {σ : L2.St} {env : Env} (h : EnvOk K W σ env) : EnvOk K W' σ env := ⟨h.len, fun i d e => let ⟨v, a, b⟩ := h.val i d e; ⟨v, a, b.mono le⟩⟩
theorem EnvOk.set {σ : L2.St} {env : Env} (h : EnvOk K W σ env) {v : V} {d : D} (i : Nat) (r : Rep K W v d) : EnvOk K W (σ.set i (some v)) (env.set i (some d)) := by
  refine ⟨by simp [h.len], fun j e q => ?_⟩
  by_cases hj : i = j
  · subst hj
    by_cases hl : i < env.length
    · rw [List.getElem?_set_self hl] at q
      cases q
      exact ⟨v, List.getElem?_set_self (by rw [← h.len]; exact hl), r⟩
    · rw [List.getElem?_eq_none (by simp; omega)] at q; cases q
  · rw [List.getElem?_set_ne hj] at q ⊢
    exact h.val j e q
theorem EnvOk.setNone {σ : L2.St} {env : Env} (h : EnvOk K W σ env) (i : Nat) : EnvOk K W (σ.set i none) (env.set i none) := by
  refine ⟨by simp [h.len], fun j e q => ?_⟩
  by_cases hj : i = j
  · subst hj
    by_cases hl : i < env.length
    · rw [List.getElem?_set_self hl] at q; cases q
    · rw [List.getElem?_eq_none (by simp; omega)] at q; cases q
  · rw [List.getElem?_set_ne hj] at q ⊢
    exact h.val j e q
theorem EnvOk.wipe {σ : L2.St} {env : Env} (h : EnvOk K W σ env) : ∀ vs : List Nat, EnvOk K W (L2.wipe σ vs) (wipes env vs)
  | [] => h
  | v :: vs => by
    unfold L2.wipe wipes
    exact (EnvOk.wipe h vs).setNone v
end
end EV
/-! EvD: the judgement (an expression's reading by the evaluator), operators. -/
namespace EV
open PySem PySem.Spec PyProof.Rows L2

/-- what is wanted of an exception of the k-th class -/
abbrev XW := Nat → Hp → Prop
section
variable {K : PySem.W.Frag} {w : World} {cls : Nat → Option Addr} {U : XW} {α β γ δ : Type}
/-- behind an evaluation -/
def Aft (K : PySem.W.Frag) (w : World) (cls : Nat → Option Addr) (U : XW) (rel : Wd → β → α → Prop) (W : Wd) (H : Hp) (r : R α) (Q : β → Hp → Prop) : Prop := match r with
  | .ok a st => ∀ b W' H', Ext W H W' H' → Ag K w cls W' st H' → rel W' b a → Q b H'
  | .err k st => ∀ W' H', Ext W H W' H' → Ag K w cls W' st H' → U k H'
  | .bad => False
variable {rel : Wd → β → α → Prop} {rel2 : Wd → δ → γ → Prop} {W W' W1 : Wd} {H H' H1 : Hp}
theorem Aft.mono {r : R α} {Q Q' : β → Hp → Prop} (h : Aft K w cls U rel W H r Q) (m : ∀ b H', Q b H' → Q' b H') : Aft K w cls U rel W H r Q' := by
  cases r with
  | ok a st => exact fun b W' H' x A q => m b H' (h b W' H' x A q)
  | err k st => exact h
  | bad => exact h
theorem Aft.shift {r : R α} {Q : β → Hp → Prop} (x : Ext W H W1 H1) (h : Aft K w cls U rel W H r Q) : Aft K w cls U rel W1 H1 r Q := by
  cases r with
  | ok a st => exact fun b W' H' x' A q => h b W' H' (x.trans x') A q
  | err k st => exact fun W' H' x' A => h W' H' (x.trans x') A
  | bad => exact h
theorem Aft.bind {r : R α} {f : α → Store → R γ} {Q : δ → Hp → Prop} (h : Aft K w cls U rel2 W H (r.bind f) Q) :
    Aft K w cls U rel W H r fun b H1 => ∃ W1 st a, Ext W H W1 H1 ∧ Ag K w cls W1 st H1 ∧ rel W1 b a ∧ Aft K w cls U rel2 W1 H1 (f a st) Q := by
  cases r with
  | ok a st => exact fun b W' H' x A q => ⟨W', st, a, x, A, q, Aft.shift x h⟩
  | err k st => exact h
  | bad => exact h
/-- the readings -/
def tD (K : PySem.W.Frag) (w : World) (cls : Nat → Option Addr) (U : XW) (den : Env → Store → R D) : TE := fun σ H Q => ∃ (W : Wd) (env : Env) (st : Store), EnvOk K W σ env ∧ Ag K w cls W st H ∧ Aft K w cls U (Rep K) W H (den env st) Q
def tDs (K : PySem.W.Frag) (w : World) (cls : Nat → Option Addr) (U : XW) (den : Env → Store → R (List D)) : TA := fun σ H Q => ∃ (W : Wd) (env : Env) (st : Store), EnvOk K W σ env ∧ Ag K w cls W st H ∧ Aft K w cls U (RepL K) W H (den env st) Q
def isB : Wd → Bool → D → Prop := fun _ b d => d = .bl b
def tDT (K : PySem.W.Frag) (w : World) (cls : Nat → Option Addr) (U : XW) (den : Env → Store → R D) : TT := fun σ H Q => ∃ (W : Wd) (env : Env) (st : Store), EnvOk K W σ env ∧ Ag K w cls W st H ∧ (∀ d st', den env st = .ok d st' → ∃ b, d = .bl b) ∧ Aft K w cls U isB W H (den env st) Q
end

theorem PE.mono {X : Cx} {e : Expr} {t t' : TE} (h : PE X e t) (m : ∀ σ H Q, t' σ H Q → t σ H Q) : PE X e t' := ⟨fun pins s σ H Q I q => h.run pins s σ H Q I (m σ H Q q)⟩
theorem PT.mono {X : Cx} {e : Expr} {t t' : TT} (h : PT X e t) (m : ∀ σ H Q, t' σ H Q → t σ H Q) : PT X e t' := ⟨fun pins s σ H Q I q => h.run pins s σ H Q I (m σ H Q q)⟩
theorem PA.mono {X : Cx} {e : List Expr} {t t' : TA} (h : PA X e t) (m : ∀ σ H Q, t' σ H Q → t σ H Q) : PA X e t' := ⟨fun pos pins s σ H Q I q => h.run pos pins s σ H Q I (m σ H Q q)⟩
theorem PS.mono {X : Cx} {e : Stmt} {t t' : TS} (h : PS X e t) (m : ∀ D σ H, t' D σ H → t D σ H) : PS X e t' := ⟨fun pins s σ H D I q => h.run pins s σ H D I (m D σ H q)⟩
theorem PSs.mono {X : Cx} {e : List Stmt} {t t' : TS} (h : PSs X e t) (m : ∀ D σ H, t' D σ H → t D σ H) : PSs X e t' := ⟨fun pins s σ H D I q => h.run pins s σ H D I (m D σ H q)⟩

section
variable {X : Cx} {cls : Nat → Option Addr} {U : XW}
/-! ### inversions -/
theorem Rep.int_inv {K : PySem.W.Frag} {W : Wd} {x : V} {i : Int} (h : Rep K W x (.int i)) : x = .int i := by cases h; rfl
theorem Rep.bl_inv {K : PySem.W.Frag} {W : Wd} {x : V} {i : Bool} (h : Rep K W x (.bl i)) : x = .bl i := by cases h; rfl
theorem Rep.str_inv {K : PySem.W.Frag} {W : Wd} {x : V} {i : Str} (h : Rep K W x (.str i)) : x = .str i := by cases h; rfl
theorem Rep.non_inv {K : PySem.W.Frag} {W : Wd} {x : V} (h : Rep K W x .non) : x = .non := by cases h; rfl
theorem Rep.tup_inv {K : PySem.W.Frag} {W : Wd} {x : V} {ds : List D} (h : Rep K W x (.tup ds)) : ∃ a us xs, x = .ref a ∧ W.G a = some (FT us xs) ∧ ds.length ≤ sizeLine ∧ RepL K W xs ds := by
  cases h with
  | tup a b c => exact ⟨_, _, _, rfl, a, b, c⟩
theorem Rep.lst_inv {K : PySem.W.Frag} {W : Wd} {x : V} {ds : List D} (h : Rep K W x (.lst ds)) : ∃ a xs, x = .ref a ∧ W.G a = some (.lst xs) ∧ ds.length ≤ sizeLine ∧ RepL K W xs ds := by
  cases h with
  | lst a b c => exact ⟨_, _, rfl, a, b, c⟩
theorem Rep.scr_inv {K : PySem.W.Frag} {W : Wd} {x : V} {ds : List Int} (h : Rep K W x (.scr ds)) : ∃ a, x = .ref a ∧ SqL K W.G a (ds.map V.int) ∧ ds.length ≤ sizeLine := by
  cases h with
  | scr a b => exact ⟨_, rfl, a, b⟩
theorem Rep.ref_inv {K : PySem.W.Frag} {W : Wd} {x : V} {i : Nat} (h : Rep K W x (.ref i)) : ∃ a, x = .ref a ∧ W.ρ[i]? = some a := by
  cases h with
  | ref a => exact ⟨_, rfl, a⟩
/-- a new frozen tuple or list -/
theorem Aft.newTup {W : Wd} {H : Hp} {st : Store} {ds : List D} {xs : List V} {Q : VK} (A : Ag X.K X.w cls W st H) (h : Aft X.K X.w cls U (Rep X.K) W H (.ok (.tup ds) st) Q) (r : RepL X.K W xs ds) (hz : ds.length ≤ sizeLine) : ∀ p us, H p = none → Q (.ref p) (upd H p (FT us xs)) := fun p us hp => by
  obtain ⟨A', x⟩ := A.frozen (o := FT us xs) hp
  exact h _ _ _ x A' (.tup (us := us) (xs := xs) upd_same hz (r.mono x.le))
theorem Aft.newLst {W : Wd} {H : Hp} {st : Store} {ds : List D} {xs : List V} {Q : VK} (A : Ag X.K X.w cls W st H) (h : Aft X.K X.w cls U (Rep X.K) W H (.ok (.lst ds) st) Q) (r : RepL X.K W xs ds) (hz : ds.length ≤ sizeLine) : ∀ p, H p = none → Q (.ref p) (upd H p (.lst xs)) := fun p hp => by
  obtain ⟨A', x⟩ := A.frozen (o := .lst xs) hp
  exact h _ _ _ x A' (.lst (xs := xs) upd_same hz (r.mono x.le))
/-- .. a new list of the store -/
theorem Aft.newMut {W : Wd} {H : Hp} {st : Store} {ds : List D} {xs : List V} {Q : VK} (A : Ag X.K X.w cls W st H) (h : Aft X.K X.w cls U (Rep X.K) W H (.ok (.ref st.length) (st ++ [.lst ds])) Q) (r : RepL X.K W xs ds) (hz : ds.length ≤ sizeLine) : ∀ p, H p = none → Q (.ref p) (upd H p (.lst xs)) := fun p hp => by
  have le : W.Le ⟨W.G, W.ρ ++ [p]⟩ := ⟨Same.refl _, [p], rfl⟩
  obtain ⟨A', x⟩ := A.newObj (H' := upd H p (.lst xs)) (o := .lst ds) hp (fun b u e => by rw [upd_ne (ne_of_none e hp)]; exact e) (by rw [upd_same]; simp) ⟨xs, upd_same, r.mono le, hz⟩
  refine h _ _ _ x A' (.ref ?_)
  show (W.ρ ++ [p])[st.length]? = some p
  rw [← A.len, List.getElem?_append_right (Nat.le_refl _)]
  simp
theorem Aft.val {W : Wd} {H : Hp} {st : Store} {d : D} {v : V} {Q : VK} (A : Ag X.K X.w cls W st H) (h : Aft X.K X.w cls U (Rep X.K) W H (.ok d st) Q) (r : Rep X.K W v d) : Q v H := h v W H (Ext.refl _ _) A r
theorem Aft.test {α β : Type} {rel : Wd → β → α → Prop} {W : Wd} {H : Hp} {b : Bool} {r : R α} {Q : β → Hp → Prop} (h : Aft X.K X.w cls U rel W H (R.test b r) Q) : b = true ∧ Aft X.K X.w cls U rel W H r Q := by
  cases b with
  | true => exact ⟨rfl, h⟩
  | false => exact h.elim
theorem sizeLine_lim : lim = sizeLine := by rw [sizeLine_eq]; rfl

/-! ### tuples by their very object -/
theorem SqT_ft {K : PySem.W.Frag} {H : Hp} {a : Addr} {us : List Value} {xs : List V} (h : H a = some (FT us xs)) : SqT K H a xs := .inl (.inr ⟨_, h⟩)
/-- a new tuple -/
theorem _root_.L2.Inv.laidT {pins : List (Addr × Obj)} {σ : L2.St} {H : Hp} {s : Shared} {us : List Value} {xs : List V} {t' : Nat} (I : Inv X pins σ H s) (r : Vals xs us) (hz : xs.length ≤ sizeLine) :
    Inv X pins σ (upd H s.heap.objs.size (FT us xs)) { s with heap := s.heap.push (tupOb us), toks := t' } :=
  I.laid (fun b u e => Heap.get?_push_of_some _ e) (Nat.le_refl _) ⟨Heap.get?_push_size _ rfl, hz, us, r, IsTup.new _ _⟩
def tTupF (t : TA) : TE := fun σ H Q => t σ H fun xs H1 => xs.length ≤ sizeLine ∧ ∀ p us, H1 p = none → Q (.ref p) (upd H1 p (FT us xs))
theorem pe_tupF {es : List Expr} {t : TA} {pos : Pos} {x1} (h : PA X es t) : PE X (.Tuple es x1 pos) (tTupF t) := by
  refine ⟨fun pins s σ H Q I hq => ?_⟩
  refine wpAny_Tuple_spliced (thn (h.run pos pins s σ H _ I hq) fun us s1 ⟨xs, H1, I1, r, z, q⟩ => ⟨by rw [← r.length]; exact z, ?_⟩)
  exact ⟨.ref s1.heap.objs.size, _, I1.laidT (t' := s1.toks) r z, rfl, q _ us (I1.hok.fresh (Nat.le_refl _))⟩
theorem op_catF : OpR X (binaryOp .Add) (fun x y H Q => ∃ a b xs ys, x = .ref a ∧ y = .ref b ∧ SqT X.K H a xs ∧ SqT X.K H b ys ∧ xs.length + ys.length ≤ sizeLine ∧
    (xs = [] → Q (.ref b) H) ∧ (xs ≠ [] → ys = [] → Q (.ref a) H) ∧ (xs ≠ [] → ys ≠ [] → ∀ p us, H p = none → Q (.ref p) (upd H p (FT us (xs ++ ys))))) := by
  intro pins s σ H x y v u Q I rx ry h
  obtain ⟨a, b, xs, ys, rfl, rfl, ha, hb, hz, q0, q1, q2⟩ := h
  cases rx
  cases ry
  obtain ⟨its, r1, p1, _⟩ := I.tuple ha
  obtain ⟨its2, r2, p2, _⟩ := I.tuple hb
  by_cases hx : xs = []
  · subst hx
    cases r1
    exact cat_tup0 p1 p2 ⟨.ref b, H, I, rfl, q0 rfl⟩
  · refine HT.cat_tup p1 p2 (fun z => hx (r1.nil_iff.mp z)) (fun z => ⟨.ref a, H, I, rfl, q1 hx (r2.nil_iff.mp z)⟩) (fun z => ?_) (by rw [← r1.length, ← r2.length]; exact hz)
    exact ⟨.ref s.heap.objs.size, _, I.laidT (t' := s.toks) (r1.append r2) (by rw [List.length_append]; exact hz), rfl, q2 hx (fun w => z (r2.nil_iff.mpr w)) _ _ (I.hok.fresh (Nat.le_refl _))⟩
theorem sl_tupF : SlR X (fun x lo hi H Q => ∃ a xs, x = .ref a ∧ SqT X.K H a xs ∧
    (HT.sIx xs.length 0 lo = 0 ∧ HT.sIx xs.length xs.length hi = xs.length → Q (.ref a) H) ∧ (¬ (HT.sIx xs.length 0 lo = 0 ∧ HT.sIx xs.length xs.length hi = xs.length) → ∀ p us, H p = none → Q (.ref p) (upd H p (FT us (cutV xs lo hi))))) := by
  intro pins s σ H x v vl vu lo hi sl Q I rx hs pl pu h
  obtain ⟨a, xs, rfl, hx, q1, q2⟩ := h
  cases rx
  obtain ⟨its, r, ht, hz⟩ := I.tuple hx
  have hlen : its.toArray.size = xs.length := by rw [List.size_toArray]; exact r.length.symm
  refine ⟨"tuple", _, PyProof.Rows.slot_tuple_getitem.lookup, ht.typeIs, ?_⟩
  by_cases hw : HT.sIx xs.length 0 lo = 0 ∧ HT.sIx xs.length xs.length hi = xs.length
  · exact getItem_tuple_whole ht hs pl pu (by rw [hlen]; exact hw) ⟨.ref a, H, I, rfl, q1 hw⟩
  · refine HT.getItem_tuple_cut ht hs pl pu (by rw [hlen]; exact hw) ?_ (by rw [hlen]; exact hz)
    rw [hlen]
    exact ⟨.ref s.heap.objs.size, _, I.laidT (t' := s.toks) ((r.drop (HT.sIx xs.length 0 lo)).take (HT.sIx xs.length xs.length hi - HT.sIx xs.length 0 lo)) (Nat.le_trans (cutV_length xs lo hi) hz), rfl, q2 hw _ _ (I.hok.fresh (Nat.le_refl _))⟩
theorem call_tupleF : CallR X (.type "tuple") (fun xs H Q => ∃ p ys, xs = [.ref p] ∧ ((SqL X.K H p ys ∧ ∀ l us, H l = none → Q (.ref l) (upd H l (FT us ys))) ∨ (SqT X.K H p ys ∧ Q (.ref p) H))) := by
  intro pins s σ H xs us Q I r h
  obtain ⟨p, ys, rfl, h⟩ := h
  obtain ⟨u, rfl, rx⟩ := vals1 r
  cases rx
  rcases h with ⟨hq, q⟩ | ⟨hq, q⟩
  · obtain ⟨its, r', pl, hz⟩ := I.list hq
    have hlen := r'.length
    refine call_tuple_list pl.isList (fun h' kp => ?_) (by simp only [List.size_toArray] <;> omega)
    have I1 : Inv X pins σ H { s with heap := h' } := I.kept (t' := s.toks) kp
    exact ⟨.ref h'.objs.size, _, I1.laidT (t' := s.toks) r' hz, rfl, q _ _ (I1.hok.fresh (Nat.le_refl _))⟩
  · obtain ⟨its, r', pl, hz⟩ := I.tuple hq
    exact call_tuple_same pl ⟨.ref p, H, I, rfl, q⟩

/-! ### values -/
theorem d_var {i : Nat} {x : Str} {pos : Pos} (hN : X.N[i]? = some x) (hv : Vis X.env.scope x) (hd : (x == ("__debug__" : Str)) = false) (hcd : (x == ("__classdict__" : Str)) = false) (C : Ctx) : PE X (.Name x pos) (tD X.K X.w cls U (evE C (.var i))) := by
  refine PE.mono (pe_var hN hv hd hcd) fun σ H Q h => ?_
  obtain ⟨W, env, st, he, A, q⟩ := h
  rw [evE] at q
  cases e : env[i]? with
  | none => rw [e] at q; exact q.elim
  | some o =>
    cases o with
    | none => rw [e] at q; exact q.elim
    | some d =>
      rw [e] at q
      obtain ⟨v, h1, h2⟩ := he.val i d e
      exact ⟨v, h1, q.val A h2⟩
theorem d_con {e : Expr} {v : V} {d : D} (h : PE X e (tC v)) (r : ∀ W, Rep X.K W v d) (C : Ctx) : PE X e (tD X.K X.w cls U (evE C (.con d))) := by
  refine PE.mono h fun σ H Q h => ?_
  obtain ⟨W, env, st, he, A, q⟩ := h
  rw [evE] at q
  exact q.val A (r W)
theorem d_nil (C : Ctx) : PA X [] (tDs X.K X.w cls U (evEs C .nil)) := by
  refine PA.mono pa_nil fun σ H Q h => ?_
  obtain ⟨W, env, st, he, A, q⟩ := h
  rw [evEs] at q
  exact q [] W H (Ext.refl _ _) A .nil
theorem d_cons {e : Expr} {es : List Expr} {C : Ctx} {i : E} {is : Es} (h : PE X e (tD X.K X.w cls U (evE C i))) (t : PA X es (tDs X.K X.w cls U (evEs C is))) (hs : starEach (e :: es) X.env = (false, eval e X.env) :: starEach es X.env) : PA X (e :: es) (tDs X.K X.w cls U (evEs C (.cons i is))) := by
  refine PA.mono (pa_cons h t hs) fun σ H Q h => ?_
  obtain ⟨W, env, st, he, A, q⟩ := h
  rw [evEs] at q
  refine ⟨W, env, st, he, A, (q.bind).mono fun x H1 ⟨W1, st1, dx, x1, A1, r1, q1⟩ => ?_⟩
  refine ⟨W1, env, st1, he.mono x1.le, A1, (q1.bind).mono fun xs H2 ⟨W2, st2, dxs, x2, A2, r2, q2⟩ => ?_⟩
  exact q2 (x :: xs) W2 H2 (Ext.refl _ _) A2 (.cons (r1.mono x2.le) r2)
/-- two operands, then an operation by values -/
theorem d_two {C : Ctx} {a b : E} {f : D → D → Store → R D} {σ : L2.St} {H : Hp} {Q : VK} {r : R2} {den : Env → Store → R D} (hden : ∀ env st, den env st = (evE C a env st).bind fun x st => (evE C b env st).bind fun y st => f x y st)
    (hr : ∀ x y H Q, (∃ W st dx dy, Ag X.K X.w cls W st H ∧ Rep X.K W x dx ∧ Rep X.K W y dy ∧ Aft X.K X.w cls U (Rep X.K) W H (f dx dy st) Q) → r x y H Q)
    (h : tD X.K X.w cls U den σ H Q) : tOp r (tD X.K X.w cls U (evE C a)) (tD X.K X.w cls U (evE C b)) σ H Q := by
  obtain ⟨W, env, st, he, A, q⟩ := h
  rw [hden] at q
  refine ⟨W, env, st, he, A, (q.bind).mono fun x H1 ⟨W1, st1, dx, x1, A1, r1, q1⟩ => ?_⟩
  refine ⟨W1, env, st1, he.mono x1.le, A1, (q1.bind).mono fun y H2 ⟨W2, st2, dy, x2, A2, r2, q2⟩ => ?_⟩
  exact hr x y H2 Q ⟨W2, st2, dx, dy, A2, r1.mono x2.le, r2, q2⟩
def rBin (X : Cx) (cls : Nat → Option Addr) (U : XW) (f : D → D → Store → R D) : R2 := fun x y H Q => ∃ W st dx dy, Ag X.K X.w cls W st H ∧ Rep X.K W x dx ∧ Rep X.K W y dy ∧ Aft X.K X.w cls U (Rep X.K) W H (f dx dy st) Q

theorem mul_ok {i j : Int} (h : (decide (i.natAbs < 2 ^ 4000) && decide (j.natAbs < 2 ^ 4000) || decide (i.natAbs < 2 ^ 63) || decide (j.natAbs < 2 ^ 63)) = true) : CMul i j ∨ CMulW i j := by
  simp only [Bool.or_eq_true, Bool.and_eq_true, decide_eq_true_eq] at h
  rcases h with (⟨h1, h2⟩ | h) | h
  · exact .inr (wide_mul h1 h2 (by decide) (by decide) (by decide))
  · exact .inl (.inl (by omega))
  · exact .inl (.inr (by omega))

/-! tuple * int below two -/
theorem tuple_mul0 (l : Addr) (items : Array Value) (n : Nat) (dd : Option Addr) (sl : Array (Option Value)) (x : Int) (u : Tok) (c0 : (decide (x < -(2 ^ 63)) || decide (x ≥ 2 ^ 63)) = false) (c1 : (items.isEmpty || x == 1) = true) :
    Meets (Builtin.«tuple.__mul__» ⟨[.ref l, .int x u], []⟩) (fun _ R s => s.heap.get? l = some { cls := .type "tuple", dict := dd, data := .seq items n, slots := sl } ∧ R (.ok (.ret (Value.ref l))) s) :=
  .of_wp fun prog w A R s h => by
    obtain ⟨hp, g, d, tk, os⟩ := s
    obtain ⟨hl, h⟩ := h
    have f1 := AutoSeq1.idx_int
    wp_walk using wpAny_loadPart' hl
    repeat (first
      | (refine wpAny_ite_false (decide_eq_false (by rw [c0]; exact Bool.false_ne_true)) ?_; wp_walk using wpAny_loadPart' hl)
      | (refine wpAny_ite_true (decide_eq_true c1) ?_; wp_walk using wpAny_loadPart' hl))
    exact ⟨_, rfl, h⟩
theorem tuple_mulE (l : Addr) (items : Array Value) (n : Nat) (dd : Option Addr) (sl : Array (Option Value)) (x : Int) (u : Tok) (c0 : (decide (x < -(2 ^ 63)) || decide (x ≥ 2 ^ 63)) = false) (c1 : (items.isEmpty || x == 1) = false) (c2 : (decide (x ≤ 0) || items.isEmpty) = true) :
    Meets (Builtin.«tuple.__mul__» ⟨[.ref l, .int x u], []⟩) (fun _ R s => s.heap.get? l = some { cls := .type "tuple", dict := dd, data := .seq items n, slots := sl } ∧ R (.ok (.ret (Value.ref s.heap.objs.size))) { s with heap := s.heap.push { cls := Value.type "tuple", data := Data.seq #[] }, toks := s.toks }) :=
  .of_wp fun prog w A R s h => by
    obtain ⟨hp, g, d, tk, os⟩ := s
    obtain ⟨hl, h⟩ := h
    have f1 := AutoSeq1.idx_int
    wp_walk using wpAny_loadPart' hl
    repeat (first
      | (refine wpAny_ite_false (decide_eq_false (by rw [c0]; exact Bool.false_ne_true)) ?_; wp_walk using wpAny_loadPart' hl)
      | (refine wpAny_ite_false (decide_eq_false (by rw [c1]; exact Bool.false_ne_true)) ?_; wp_walk using wpAny_loadPart' hl)
      | (refine wpAny_ite_true (decide_eq_true c2) ?_; wp_walk using wpAny_loadPart' hl))
    exact ⟨_, rfl, h⟩
end
end EV
/-! EvE: data as the library's data; operators, comparisons, subscripts. -/
namespace EV
open PySem PySem.Spec PyProof.Rows L2

mutual
def D.py : D → PyData
  | .non => .none
  | .bl b => .bool b
  | .int i => .int i
  | .str s => .str s
  | .tup xs => .tuple (D.pys xs)
  | .lst xs => .list (D.pys xs)
  | .scr _ => .none
  | .ref _ => .none
def D.pys : List D → List PyData
  | [] => []
  | x :: xs => D.py x :: D.pys xs
end
theorem D.pys_map : ∀ xs : List D, D.pys xs = xs.map D.py
  | [] => rfl
  | x :: xs => by rw [D.pys, D.pys_map xs]; rfl
mutual
theorem D.py_plain : ∀ {n : Nat} (d : D), d.flat n = true → d.py.plain = true ∧ d.py.depth ≤ n
  | _, .non, _ => by simp [D.py, PyData.plain, PyData.depth]
  | _, .bl _, _ => by simp [D.py, PyData.plain, PyData.depth]
  | _, .int _, _ => by simp [D.py, PyData.plain, PyData.depth]
  | _, .str _, _ => by simp [D.py, PyData.plain, PyData.depth]
  | 0, .tup xs, h => by simp [D.flat] at h
  | 0, .lst xs, h => by simp [D.flat] at h
  | n + 1, .tup xs, h => by
    rw [D.flat] at h
    have q := D.pys_plain xs h
    rw [D.py, PyData.plain, PyData.depth]
    exact ⟨q.1, Nat.succ_le_succ q.2⟩
  | n + 1, .lst xs, h => by
    rw [D.flat] at h
    have q := D.pys_plain xs h
    rw [D.py, PyData.plain, PyData.depth]
    exact ⟨q.1, Nat.succ_le_succ q.2⟩
  | _, .scr _, h => by simp [D.flat] at h
  | _, .ref _, h => by simp [D.flat] at h
theorem D.pys_plain : ∀ {n : Nat} (ds : List D), D.flats n ds = true → PyData.plainAll (D.pys ds) = true ∧ PyData.depthAll (D.pys ds) ≤ n
  | _, [], _ => by simp [D.pys, PyData.plainAll, PyData.depthAll]
  | n, d :: ds, h => by
    rw [D.flats, Bool.and_eq_true] at h
    have q1 := D.py_plain d h.1
    have q2 := D.pys_plain ds h.2
    rw [D.pys, PyData.plainAll, PyData.depthAll]
    exact ⟨by rw [q1.1, q2.1]; rfl, Nat.max_le.mpr ⟨q1.2, q2.2⟩⟩
end
mutual
theorem D.eqv_py : ∀ {n : Nat} (d e : D), d.flat n = true → e.flat n = true → PyData.eqv d.py e.py = D.eqv d e
  | _, .non, e, _, h => by cases e <;> simp [D.flat, D.py, D.eqv, PyData.eqv] at h ⊢
  | _, .bl _, e, _, h => by cases e <;> simp [D.flat, D.py, D.eqv, PyData.eqv] at h ⊢
  | _, .int _, e, _, h => by cases e <;> simp [D.flat, D.py, D.eqv, PyData.eqv] at h ⊢
  | _, .str _, e, _, h => by cases e <;> simp [D.flat, D.py, D.eqv, PyData.eqv] at h ⊢
  | 0, .tup xs, e, g, h => by simp [D.flat] at g
  | 0, .lst xs, e, g, h => by simp [D.flat] at g
  | n + 1, .tup xs, e, g, h => by
    cases e with
    | tup ys =>
      rw [D.flat] at g h
      simp only [D.py, D.eqv, PyData.eqv]
      exact D.eqvs_py xs ys g h
    | _ => simp [D.flat, D.py, D.eqv, PyData.eqv] at h ⊢
  | n + 1, .lst xs, e, g, h => by
    cases e with
    | lst ys =>
      rw [D.flat] at g h
      simp only [D.py, D.eqv, PyData.eqv]
      exact D.eqvs_py xs ys g h
    | _ => simp [D.flat, D.py, D.eqv, PyData.eqv] at h ⊢
  | _, .scr _, _, h, _ => by simp [D.flat] at h
  | _, .ref _, _, h, _ => by simp [D.flat] at h
theorem D.eqvs_py : ∀ {n : Nat} (ds es : List D), D.flats n ds = true → D.flats n es = true → PyData.eqvAll (D.pys ds) (D.pys es) = D.eqvs ds es
  | _, [], es, _, _ => by cases es <;> simp [D.pys, D.eqvs, PyData.eqvAll]
  | n, d :: ds, es, g, h => by
    cases es with
    | nil => simp [D.pys, D.eqvs, PyData.eqvAll]
    | cons e es =>
      rw [D.flats, Bool.and_eq_true] at g h
      rw [D.pys, D.pys, PyData.eqvAll, D.eqvs, D.eqv_py d e g.1 h.1, D.eqvs_py ds es g.2 h.2]
end
theorem D.flats_mem {n : Nat} : ∀ {xs : List D}, D.flats n xs = true → ∀ x ∈ xs, x.flat n = true
  | [], _, x, hx => by cases hx
  | y :: ys, h, x, hx => by
    rw [D.flats, Bool.and_eq_true] at h
    rcases List.mem_cons.mp hx with rfl | hx
    · exact h.1
    · exact D.flats_mem h.2 x hx
theorem memD_py {n : Nat} {x : D} (hx : x.flat n = true) : ∀ {xs : List D}, D.flats n xs = true → ((D.pys xs).any fun y => PyData.eqv y x.py) = memD x xs
  | [], _ => rfl
  | y :: ys, h => by
    rw [D.flats, Bool.and_eq_true] at h
    rw [D.pys, List.any_cons, memD, D.eqv_py y x h.1 hx, memD_py hx h.2]
theorem countD_py {n : Nat} {x : D} (hx : x.flat n = true) : ∀ {xs : List D}, D.flats n xs = true → ((D.pys xs).countP fun y => PyData.eqv y x.py) = countD x xs
  | [], _ => rfl
  | y :: ys, h => by
    rw [D.flats, Bool.and_eq_true] at h
    rw [D.pys, List.countP_cons, countD, D.eqv_py y x h.1 hx, countD_py hx h.2]
    cases D.eqv y x <;> simp
mutual
theorem Rep.dp {K : PySem.W.Frag} {W : Wd} {H : Hp} (s : Same W.G H) : ∀ {n : Nat} {v : V} {d : D}, Rep K W v d → d.flat n = true → Dp K H v d.py
  | _, _, _, .non, _ => .non
  | _, _, _, .bl _, _ => .bl _
  | _, _, _, .int _, _ => .int _
  | _, _, _, .str _, _ => .str _
  | 0, _, _, .tup _ _ _, h => by simp [D.flat] at h
  | 0, _, _, .lst _ _ _, h => by simp [D.flat] at h
  | n + 1, _, _, .tup g z l, h => .tup (SqT_ft (s _ _ g)) (RepL.dp s l (by rwa [D.flat] at h))
  | n + 1, _, _, .lst g z l, h => .lst (.of (s _ _ g)) (RepL.dp s l (by rwa [D.flat] at h))
  | _, _, _, .scr _ _, h => by simp [D.flat] at h
  | _, _, _, .ref _, h => by simp [D.flat] at h
theorem RepL.dp {K : PySem.W.Frag} {W : Wd} {H : Hp} (s : Same W.G H) : ∀ {n : Nat} {v : List V} {d : List D}, RepL K W v d → D.flats n d = true → DpAll K H v (D.pys d)
  | _, _, _, .nil, _ => .nil
  | _, _, _, .cons h t, e => by
    rw [D.flats, Bool.and_eq_true] at e
    exact .cons (Rep.dp s h e.1) (RepL.dp s t e.2)
end
section
variable {X : Cx} {cls : Nat → Option Addr} {U : XW} {pins : List (Addr × Obj)} {σ : L2.St} {H : Hp} {s : Shared} {W : Wd} {st : Store}
/-- a flat datum is read off the heap -/
theorem Rep.reads (I : Inv X pins σ H s) (A : Ag X.K X.w cls W st H) {v : V} {u : Value} {d : D} {n : Nat} (h : Rep X.K W v d) (hf : d.flat n = true) (r : RelV v u) : ∃ as, Reads s.heap u d.py as :=
  Dp.reads I d.py v u (h.dp A.sub hf) r
theorem RepL.reads (I : Inv X pins σ H s) (A : Ag X.K X.w cls W st H) {v : List V} {u : List Value} {d : List D} {n : Nat} (h : RepL X.K W v d) (hf : D.flats n d = true) (r : Vals v u) : ∃ as, ReadsAll s.heap u (D.pys d) as :=
  Dp.readsAll I (D.pys d) v u (h.dp A.sub hf) r
end

/-! ### operators -/
section
variable {X : Cx} {cls : Nat → Option Addr} {U : XW}
theorem flat_len (xs : List V) (k : Nat) : (List.replicate k xs).flatten.length = k * xs.length := by
  induction k with
  | zero => simp
  | succ k ih => rw [List.replicate_succ, List.flatten_cons, List.length_append, ih, Nat.succ_mul, Nat.add_comm]
theorem flat_lenD (xs : List D) (k : Nat) : (List.replicate k xs).flatten.length = k * xs.length := by
  induction k with
  | zero => simp
  | succ k ih => rw [List.replicate_succ, List.flatten_cons, List.length_append, ih, Nat.succ_mul, Nat.add_comm]
theorem rep_small {ds : List D} {k : Int} (hz : ds.length ≤ 1000) (h2 : k ≤ 1000) : (List.replicate k.toNat ds).flatten.length ≤ sizeLine := by
  rw [flat_lenD, sizeLine_eq]
  have a1 : k.toNat * ds.length ≤ 1000 * 1000 := Nat.mul_le_mul (by omega) hz
  omega
theorem Rep.rep1 {K : PySem.W.Frag} {W : Wd} {v : V} {ds : List D} {k : Int} (h : Rep K W v (.tup ds)) (hw : ds = [] ∨ k = 1) : Rep K W v (.tup (List.replicate k.toNat ds).flatten) := by
  have e : (List.replicate k.toNat ds).flatten = ds := by
    rcases hw with e | e
    · subst e; simp
    · subst e; simp
  rw [e]; exact h
theorem op_repTF : OpR X (binaryOp .Mult) (fun x y H Q => ∃ l k xs, x = .ref l ∧ y = .int k ∧ SqT X.K H l xs ∧ xs ≠ [] ∧ 2 ≤ k ∧ k ≤ 1000 ∧ xs.length ≤ 1000 ∧ ∀ p us, H p = none → Q (.ref p) (upd H p (FT us (List.replicate k.toNat xs).flatten))) := by
  intro pins s σ H x y v u Q I rx ry h
  obtain ⟨l, k, xs, rfl, rfl, hT, hne, h1, h2, hz, q⟩ := h
  cases rx
  obtain ⟨t, rfl⟩ := ry
  obtain ⟨its, r, ⟨⟨cls, dd, data, sl⟩, ho, hc, n, hd⟩, hs⟩ := I.tuple hT
  simp only at hc hd
  subst hc hd
  have hle : its.length = xs.length := r.length.symm
  have hn : its ≠ [] := fun e => hne (by
    rw [e] at hle
    exact List.eq_nil_of_length_eq_zero hle.symm)
  have hi : its.toArray.isEmpty = false := by
    cases its with
    | nil => exact absurd rfl hn
    | cons a b => rfl
  have hsz0 : its.toArray.size = xs.length := by rw [List.size_toArray, hle]
  have hm : ((its.toArray.size : Nat) : Int) * k ≤ 1000000 := by
    rw [hsz0]
    have a1 : ((xs.length : Nat) : Int) * k ≤ 1000 * k := Int.mul_le_mul_of_nonneg_right (by omega) (by omega)
    omega
  have flen : (List.replicate k.toNat its).flatten.length ≤ sizeLine := by
    rw [PyProof.Rows.lm_len_rep_flat, hle, sizeLine_eq]
    have a1 : k.toNat * xs.length ≤ 1000 * 1000 := Nat.mul_le_mul (by omega) hz
    omega
  have c0 : (decide (k < -(2 ^ 63)) || decide (k ≥ 2 ^ 63)) = false := by
    rw [decide_eq_false (by omega), decide_eq_false (by omega)] <;> rfl
  have c1 : (its.toArray.isEmpty || k == 1) = false := by
    rw [hi, Bool.false_or]
    exact beq_eq_false_iff_ne.mpr (by omega)
  have c2 : (decide (k ≤ 0) || its.toArray.isEmpty) = false := by
    rw [hi, Bool.or_false]
    exact decide_eq_false (by omega)
  have c4 : Builtin.Tuple.tupleTooMany (((its.toArray.size : Nat) : Int) * k) = false := by
    unfold Builtin.Tuple.tupleTooMany
    rw [sizeLine_eq]
    exact decide_eq_false (by omega)
  refine wpAny_binaryOp_repeat_ref (T := "tuple") (U := "int") (by decide) ⟨_, ho, rfl⟩ (fun s' => typeIs_int s' k t) noFill_tuple_mul F.fills_int_mul F.slot_int_rmul repeat_tuple F.slot_int_index.lookup
    (call_meets F.slot_int_rmul (typeIs_int s k t) F.entry_int_rmul (F.args_int_rmul_2 _ _) (int_rmul_tuple k t l its.toArray n dd sl)
      ⟨ho, rfl, ⟨_, ho, rfl⟩, call_meets F.slot_tuple_mul ⟨_, ho, rfl⟩ F.entry_tuple_mul (F.args_tuple_mul_2 _ _) (tuple_mulW l its.toArray n dd sl k t c0 c1 c2 (by omega) c4 (by rw [size_rep, List.size_toArray]; exact flen)) ⟨ho, ?_⟩⟩)
  rw [size_rep]
  exact ⟨.ref s.heap.objs.size, _, I.laidT (t' := s.toks) (r.rep k.toNat) (by rw [PyProof.Rows.lm_len_rep_flat, sizeLine_eq]; have a1 : k.toNat * xs.length ≤ 1000 * 1000 := Nat.mul_le_mul (by omega) hz; omega), rfl, q _ _ (I.hok.fresh (Nat.le_refl _))⟩
/-- tuple * int -/
theorem op_repA : OpR X (binaryOp .Mult) (fun x y H Q => ∃ l k xs, x = .ref l ∧ y = .int k ∧ SqT X.K H l xs ∧ xs.length ≤ 1000 ∧ -1000 ≤ k ∧ k ≤ 1000 ∧
    ((xs = [] ∨ k = 1) → Q (.ref l) H) ∧ (¬ (xs = [] ∨ k = 1) → ∀ p us, H p = none → Q (.ref p) (upd H p (FT us (List.replicate k.toNat xs).flatten)))) := by
  intro pins s σ H x y v u Q I rx ry h
  obtain ⟨l, k, xs, rfl, rfl, hT, hz, h1, h2, q1, q2⟩ := h
  by_cases hw : xs = [] ∨ k = 1
  · cases rx
    obtain ⟨t, rfl⟩ := ry
    obtain ⟨its, r, ⟨⟨cls, dd, data, sl⟩, ho, hc, n, hd⟩, hs⟩ := I.tuple hT
    simp only at hc hd
    subst hc hd
    have c0 : (decide (k < -(2 ^ 63)) || decide (k ≥ 2 ^ 63)) = false := by
      rw [decide_eq_false (by omega), decide_eq_false (by omega)] <;> rfl
    have c1 : (its.toArray.isEmpty || k == 1) = true := by
      rcases hw with e | e
      · subst e; cases r; rfl
      · subst e; simp
    refine wpAny_binaryOp_repeat_ref (T := "tuple") (U := "int") (by decide) ⟨_, ho, rfl⟩ (fun s' => typeIs_int s' k t) noFill_tuple_mul F.fills_int_mul F.slot_int_rmul repeat_tuple F.slot_int_index.lookup
      (call_meets F.slot_int_rmul (typeIs_int s k t) F.entry_int_rmul (F.args_int_rmul_2 _ _) (int_rmul_tuple k t l its.toArray n dd sl)
        ⟨ho, rfl, ⟨_, ho, rfl⟩, call_meets F.slot_tuple_mul ⟨_, ho, rfl⟩ F.entry_tuple_mul (F.args_tuple_mul_2 _ _) (tuple_mul0 l its.toArray n dd sl k t c0 c1) ⟨ho, ?_⟩⟩)
    exact ⟨.ref l, H, I, rfl, q1 hw⟩
  · have hne : xs ≠ [] := fun e => hw (.inl e)
    have hk1 : k ≠ 1 := fun e => hw (.inr e)
    by_cases hk : 2 ≤ k
    · exact op_repTF pins s σ H _ _ v u Q I rx ry ⟨l, k, xs, rfl, rfl, hT, hne, hk, h2, hz, q2 hw⟩
    · cases rx
      obtain ⟨t, rfl⟩ := ry
      obtain ⟨its, r, ⟨⟨cls, dd, data, sl⟩, ho, hc, n, hd⟩, hs⟩ := I.tuple hT
      simp only at hc hd
      subst hc hd
      have hi : its.toArray.isEmpty = false := by
        cases its with
        | nil => cases r; exact absurd rfl hne
        | cons a b => rfl
      have c0 : (decide (k < -(2 ^ 63)) || decide (k ≥ 2 ^ 63)) = false := by
        rw [decide_eq_false (by omega), decide_eq_false (by omega)] <;> rfl
      have c1 : (its.toArray.isEmpty || k == 1) = false := by
        rw [hi, Bool.false_or]
        exact beq_eq_false_iff_ne.mpr hk1
      have c2 : (decide (k ≤ 0) || its.toArray.isEmpty) = true := by
        rw [decide_eq_true (by omega)]; rfl
      refine wpAny_binaryOp_repeat_ref (T := "tuple") (U := "int") (by decide) ⟨_, ho, rfl⟩ (fun s' => typeIs_int s' k t) noFill_tuple_mul F.fills_int_mul F.slot_int_rmul repeat_tuple F.slot_int_index.lookup
        (call_meets F.slot_int_rmul (typeIs_int s k t) F.entry_int_rmul (F.args_int_rmul_2 _ _) (int_rmul_tuple k t l its.toArray n dd sl)
          ⟨ho, rfl, ⟨_, ho, rfl⟩, call_meets F.slot_tuple_mul ⟨_, ho, rfl⟩ F.entry_tuple_mul (F.args_tuple_mul_2 _ _) (tuple_mulE l its.toArray n dd sl k t c0 c1 c2) ⟨ho, ?_⟩⟩)
      have e0 : k.toNat = 0 := by omega
      have q := q2 hw s.heap.objs.size [] (I.hok.fresh (Nat.le_refl _))
      rw [e0] at q
      exact ⟨.ref s.heap.objs.size, _, I.laidT (t' := s.toks) (us := []) (xs := []) .nil (Nat.zero_le _), rfl, q⟩
theorem op_binD (op : Operator) : OpR X (binaryOp op) (rBin X cls U (binD op)) := by
  intro pins s σ H x y v u Q I rx ry h
  obtain ⟨W, st, dx, dy, A, r1, r2, q⟩ := h
  have go : ∀ {r : R2}, OpR X (binaryOp op) r → r x y H Q → wpAny (model X.prog X.w) X.A (binaryOp op v u) (EP X pins σ Q) X.xe s := fun hr h => hr pins s σ H x y v u Q I rx ry h
  unfold binD at q
  split at q
  · exact go op_add ⟨_, _, r1.int_inv, r2.int_inv, q.val A (.int _)⟩
  · exact go op_sub ⟨_, _, r1.int_inv, r2.int_inv, q.val A (.int _)⟩
  · obtain ⟨hb, q⟩ := q.test
    rcases mul_ok hb with hm | hm
    · exact go op_mul ⟨_, _, r1.int_inv, r2.int_inv, hm, q.val A (.int _)⟩
    · exact go op_mulW ⟨_, _, r1.int_inv, r2.int_inv, hm, q.val A (.int _)⟩
  · obtain ⟨hb, q⟩ := q.test
    simp only [Bool.and_eq_true, decide_eq_true_eq] at hb
    exact go op_fdivW ⟨_, _, r1.int_inv, r2.int_inv, wide_div (b := 4000) hb.1 (by omega) (by decide) (by decide), q.val A (.int _)⟩
  · obtain ⟨hb, q⟩ := q.test
    simp only [decide_eq_true_eq] at hb
    exact go op_mod ⟨_, _, r1.int_inv, r2.int_inv, hb, q.val A (.int _)⟩
  · obtain ⟨hb, q⟩ := q.test
    simp only [decide_eq_true_eq, sizeLine_lim] at hb
    exact go op_add_str ⟨_, _, r1.str_inv, r2.str_inv, hb, q.val A (.str _)⟩
  · obtain ⟨hb, q⟩ := q.test
    simp only [decide_eq_true_eq, sizeLine_lim] at hb
    obtain ⟨a, us1, xs, e1, g1, z1, l1⟩ := r1.tup_inv
    obtain ⟨b, us2, ys, e2, g2, z2, l2⟩ := r2.tup_inv
    refine go op_catF ⟨a, b, xs, ys, e1, e2, SqT_ft (A.sub _ _ g1), SqT_ft (A.sub _ _ g2), by rw [l1.length, l2.length]; exact hb, fun e => ?_, fun _ e => ?_, fun _ _ => ?_⟩
    · subst e
      cases l1
      rw [List.nil_append] at q
      exact q.val A (.tup g2 z2 l2)
    · subst e
      cases l2
      rw [List.append_nil] at q
      exact q.val A (.tup g1 z1 l1)
    · exact Aft.newTup A q (l1.append l2) (by rw [List.length_append]; exact hb)
  · obtain ⟨hb, q⟩ := q.test
    simp only [Bool.and_eq_true, decide_eq_true_eq, sizeLine_lim] at hb
    obtain ⟨⟨hz, h1⟩, h2⟩ := hb
    obtain ⟨a, us1, xs, e1, g1, z1, l1⟩ := r1.tup_inv
    refine go op_repA ⟨a, _, xs, e1, r2.int_inv, SqT_ft (A.sub _ _ g1), by rw [l1.length]; exact hz, h1, h2, fun hw => ?_, fun _ => ?_⟩
    · refine q.val A (Rep.rep1 (.tup g1 z1 l1) ?_)
      rcases hw with e | e
      · exact .inl (by subst e; cases l1; rfl)
      · exact .inr e
    · exact Aft.newTup A q (l1.reps _) (rep_small hz h2)
  · obtain ⟨hb, q⟩ := q.test
    simp only [decide_eq_true_eq, sizeLine_lim] at hb
    obtain ⟨a, xs, e1, g1, z1, l1⟩ := r1.lst_inv
    obtain ⟨b, ys, e2, g2, z2, l2⟩ := r2.lst_inv
    exact go op_cat ⟨a, b, xs, ys, e1, e2, A.sub _ _ g1, A.sub _ _ g2, by rw [l1.length, l2.length]; exact hb, Aft.newLst A q (l1.append l2) (by rw [List.length_append]; exact hb)⟩
  · obtain ⟨hb, q⟩ := q.test
    simp only [Bool.and_eq_true, decide_eq_true_eq, sizeLine_lim] at hb
    obtain ⟨⟨hz, h1⟩, h2⟩ := hb
    obtain ⟨a, xs, e1, g1, z1, l1⟩ := r1.lst_inv
    have hs := rep_small hz h2
    exact go op_rep ⟨a, _, xs, e1, r2.int_inv, A.sub _ _ g1, by omega, by omega, by rw [l1.length, Nat.mul_comm, ← flat_lenD]; exact hs, Aft.newLst A q (l1.reps _) hs⟩
  · exact q.elim
end
end EV
/-! EvF: comparisons, subscripts, slices, built-in functions and methods by data. -/
namespace EV
open PySem PySem.Spec PyProof.Rows L2

section
variable {X : Cx} {cls : Nat → Option Addr} {U : XW}
/-- a dict of the store, in the hand -/
def DicAt (st : Store) (i : Nat) (kvs : List (D × D)) : Prop := st[i]? = some (.dic kvs) ∨ st[i]? = some (.lck kvs)
/-- the rules for dicts (shown in a file of its own) -/
structure DicR (X : Cx) (cls : Nat → Option Addr) : Prop where
  mem : OpR X (compareOp .In) (fun x y H Q => ∃ W st dx i kvs, Ag X.K X.w cls W st H ∧ Rep X.K W x dx ∧ Rep X.K W y (.ref i) ∧ DicAt st i kvs ∧ keyOk kvs dx = true ∧ Q (.bl (dget kvs dx).isSome) H)
  nmem : OpR X (compareOp .NotIn) (fun x y H Q => ∃ W st dx i kvs, Ag X.K X.w cls W st H ∧ Rep X.K W x dx ∧ Rep X.K W y (.ref i) ∧ DicAt st i kvs ∧ keyOk kvs dx = true ∧ Q (.bl (!(dget kvs dx).isSome)) H)
  get : IxR X (fun x y H Q => ∃ W st dy i kvs d, Ag X.K X.w cls W st H ∧ Rep X.K W x (.ref i) ∧ Rep X.K W y dy ∧ DicAt st i kvs ∧ keyOk kvs dy = true ∧ dget kvs dy = some d ∧ ∀ v, Rep X.K W v d → Q v H)

/-! ### comparisons -/
theorem op_eqP (hu : X.A.units + 64 < cLine) : OpR X (compareOp .Eq) (rBin X cls U (cmpD .Eq)) := by
  intro pins s σ H x y v u Q I rx ry h
  obtain ⟨W, st, dx, dy, A, r1, r2, q⟩ := h
  unfold cmpD at q
  obtain ⟨hb, q⟩ := q.test
  rw [Bool.and_eq_true] at hb
  obtain ⟨as, h1⟩ := r1.reads I A hb.1 rx
  obtain ⟨bs, h2⟩ := r2.reads I A hb.2 ry
  have p1 := D.py_plain dx hb.1
  have p2 := D.py_plain dy hb.2
  refine SeqAt.eq_plain h1 h2 p1.1 p2.1 (by have := Nat.min_le_left dx.py.depth dy.py.depth; omega) ?_
  rw [D.eqv_py dx dy hb.1 hb.2]
  exact ⟨.bl _, H, I, rfl, q.val A (.bl _)⟩
theorem op_neP (hu : X.A.units + 64 < cLine) : OpR X (compareOp .NotEq) (rBin X cls U (cmpD .NotEq)) := by
  intro pins s σ H x y v u Q I rx ry h
  obtain ⟨W, st, dx, dy, A, r1, r2, q⟩ := h
  unfold cmpD at q
  obtain ⟨hb, q⟩ := q.test
  rw [Bool.and_eq_true] at hb
  obtain ⟨as, h1⟩ := r1.reads I A hb.1 rx
  obtain ⟨bs, h2⟩ := r2.reads I A hb.2 ry
  have p1 := D.py_plain dx hb.1
  have p2 := D.py_plain dy hb.2
  refine SeqAt.ne_plain h1 h2 p1.1 p2.1 (by have := Nat.min_le_left dx.py.depth dy.py.depth; omega) ?_
  rw [D.eqv_py dx dy hb.1 hb.2]
  exact ⟨.bl _, H, I, rfl, q.val A (.bl _)⟩
theorem op_ordI {op : CmpOp} {p : Int → Int → Bool} (ho : OpR X (compareOp op) (rI0 fun i j => .bl (p i j))) (he : ∀ x y st, cmpD op x y st = match x, y with | .int i, .int j => .ok (.bl (p i j)) st | _, _ => .bad) : OpR X (compareOp op) (rBin X cls U (cmpD op)) := by
  intro pins s σ H x y v u Q I rx ry h
  obtain ⟨W, st, dx, dy, A, r1, r2, q⟩ := h
  rw [he] at q
  split at q
  · exact ho pins s σ H x y v u Q I rx ry ⟨_, _, r1.int_inv, r2.int_inv, q.val A (.bl _)⟩
  · exact q.elim
theorem op_isBl : OpR X (compareOp .Is) (fun x y H Q => ∃ a b, x = .bl a ∧ y = .bl b ∧ Q (.bl (a == b)) H) := by
  intro pins s σ H x y v u Q I rx ry h
  obtain ⟨a, b, rfl, rfl, q⟩ := h
  cases rx
  cases ry
  exact is_bool ⟨.bl _, H, I, rfl, q⟩
theorem op_isntBl : OpR X (compareOp .IsNot) (fun x y H Q => ∃ a b, x = .bl a ∧ y = .bl b ∧ Q (.bl (!(a == b))) H) := by
  intro pins s σ H x y v u Q I rx ry h
  obtain ⟨a, b, rfl, rfl, q⟩ := h
  cases rx
  cases ry
  exact isnot_bool ⟨.bl _, H, I, rfl, q⟩
theorem rep_non {K : PySem.W.Frag} {W : Wd} {x : V} {d : D} (h : Rep K W x d) : decide (x = .non) = d.isNon := by
  cases h <;> simp [D.isNon]
theorem op_inP (hu : X.A.units + 64 < cLine) (hd : DicR X cls) : OpR X (compareOp .In) (rBin X cls U (cmpD .In)) := by
  intro pins s σ H x y v u Q I rx ry h
  obtain ⟨W, st, dx, dy, A, r1, r2, q⟩ := h
  unfold cmpD at q
  have seq : ∀ {ds : List D} {as : List Addr} {T : List PyData → PyData}, (x : V) → True := fun _ => trivial
  cases dy with
  | ref i =>
    obtain ⟨a, e2, ha⟩ := r2.ref_inv
    obtain ⟨o, ho, oa⟩ := A.at ha
    simp only [ho] at q
    cases o with
    | dic kvs =>
      obtain ⟨hb, q⟩ := q.test
      exact hd.mem pins s σ H x y v u Q I rx ry ⟨W, st, dx, i, kvs, A, r1, r2, .inl ho, hb, q.val A (.bl _)⟩
    | lck kvs =>
      obtain ⟨hb, q⟩ := q.test
      exact hd.mem pins s σ H x y v u Q I rx ry ⟨W, st, dx, i, kvs, A, r1, r2, .inr ho, hb, q.val A (.bl _)⟩
    | lst ds =>
      obtain ⟨hb, q⟩ := q.test
      rw [Bool.and_eq_true] at hb
      obtain ⟨xs, hx, l, z⟩ := oa
      subst e2
      obtain ⟨as, h1⟩ := r1.reads I A hb.1 rx
      have dp : Dp X.K H (.ref a) (.list (D.pys ds)) := .lst (.of hx) (l.dp A.sub hb.2)
      obtain ⟨bs, h2⟩ := Dp.reads I _ _ _ dp ry
      refine SeqAt.in_list_data h2 h1 (D.pys_plain ds hb.2).1 (D.py_plain dx hb.1).1 (by have := Nat.min_le_right (PyData.depthAll (D.pys ds)) dx.py.depth; have := (D.py_plain dx hb.1).2; omega) ?_
      rw [memD_py hb.1 hb.2]
      exact ⟨.bl _, H, I, rfl, q.val A (.bl _)⟩
    | ins c fs => exact q.elim
  | tup ds =>
    obtain ⟨hb, q⟩ := q.test
    rw [Bool.and_eq_true] at hb
    obtain ⟨as, h1⟩ := r1.reads I A hb.1 rx
    obtain ⟨bs, h2⟩ := r2.reads (n := 21) I A (by rw [D.flat]; exact hb.2) ry
    rw [D.py] at h2
    refine SeqAt.in_tuple_data h2 h1 (D.pys_plain ds hb.2).1 (D.py_plain dx hb.1).1 (by have := Nat.min_le_right (PyData.depthAll (D.pys ds)) dx.py.depth; have := (D.py_plain dx hb.1).2; omega) ?_
    rw [memD_py hb.1 hb.2]
    exact ⟨.bl _, H, I, rfl, q.val A (.bl _)⟩
  | lst ds =>
    obtain ⟨hb, q⟩ := q.test
    rw [Bool.and_eq_true] at hb
    obtain ⟨as, h1⟩ := r1.reads I A hb.1 rx
    obtain ⟨bs, h2⟩ := r2.reads (n := 21) I A (by rw [D.flat]; exact hb.2) ry
    rw [D.py] at h2
    refine SeqAt.in_list_data h2 h1 (D.pys_plain ds hb.2).1 (D.py_plain dx hb.1).1 (by have := Nat.min_le_right (PyData.depthAll (D.pys ds)) dx.py.depth; have := (D.py_plain dx hb.1).2; omega) ?_
    rw [memD_py hb.1 hb.2]
    exact ⟨.bl _, H, I, rfl, q.val A (.bl _)⟩
  | str t =>
    cases dx with
    | str z =>
      obtain ⟨⟨l⟩⟩ := z
      cases l with
      | nil => exact q.elim
      | cons c l =>
        cases l with
        | nil => exact op_in_sign pins s σ H x y v u Q I rx ry ⟨c, t, r1.str_inv, r2.str_inv, q.val A (.bl _)⟩
        | cons _ _ => exact q.elim
    | _ => exact q.elim
  | _ => exact q.elim
theorem op_notInP (hu : X.A.units + 64 < cLine) (hd : DicR X cls) : OpR X (compareOp .NotIn) (rBin X cls U (cmpD .NotIn)) := by
  intro pins s σ H x y v u Q I rx ry h
  obtain ⟨W, st, dx, dy, A, r1, r2, q⟩ := h
  unfold cmpD at q
  cases dy with
  | ref i =>
    obtain ⟨a, e2, ha⟩ := r2.ref_inv
    obtain ⟨o, ho, oa⟩ := A.at ha
    simp only [ho] at q
    cases o with
    | dic kvs =>
      obtain ⟨hb, q⟩ := q.test
      exact hd.nmem pins s σ H x y v u Q I rx ry ⟨W, st, dx, i, kvs, A, r1, r2, .inl ho, hb, q.val A (.bl _)⟩
    | lck kvs =>
      obtain ⟨hb, q⟩ := q.test
      exact hd.nmem pins s σ H x y v u Q I rx ry ⟨W, st, dx, i, kvs, A, r1, r2, .inr ho, hb, q.val A (.bl _)⟩
    | lst ds =>
      obtain ⟨hb, q⟩ := q.test
      rw [Bool.and_eq_true] at hb
      obtain ⟨xs, hx, l, z⟩ := oa
      subst e2
      obtain ⟨as, h1⟩ := r1.reads I A hb.1 rx
      have dp : Dp X.K H (.ref a) (.list (D.pys ds)) := .lst (.of hx) (l.dp A.sub hb.2)
      obtain ⟨bs, h2⟩ := Dp.reads I _ _ _ dp ry
      refine SeqAt.notIn_list_data h2 h1 (D.pys_plain ds hb.2).1 (D.py_plain dx hb.1).1 (by have := Nat.min_le_right (PyData.depthAll (D.pys ds)) dx.py.depth; have := (D.py_plain dx hb.1).2; omega) ?_
      rw [memD_py hb.1 hb.2]
      exact ⟨.bl _, H, I, rfl, q.val A (.bl _)⟩
    | ins c fs => exact q.elim
  | tup ds =>
    obtain ⟨hb, q⟩ := q.test
    rw [Bool.and_eq_true] at hb
    obtain ⟨as, h1⟩ := r1.reads I A hb.1 rx
    obtain ⟨bs, h2⟩ := r2.reads (n := 21) I A (by rw [D.flat]; exact hb.2) ry
    rw [D.py] at h2
    refine SeqAt.notIn_tuple_data h2 h1 (D.pys_plain ds hb.2).1 (D.py_plain dx hb.1).1 (by have := Nat.min_le_right (PyData.depthAll (D.pys ds)) dx.py.depth; have := (D.py_plain dx hb.1).2; omega) ?_
    rw [memD_py hb.1 hb.2]
    exact ⟨.bl _, H, I, rfl, q.val A (.bl _)⟩
  | lst ds =>
    obtain ⟨hb, q⟩ := q.test
    rw [Bool.and_eq_true] at hb
    obtain ⟨as, h1⟩ := r1.reads I A hb.1 rx
    obtain ⟨bs, h2⟩ := r2.reads (n := 21) I A (by rw [D.flat]; exact hb.2) ry
    rw [D.py] at h2
    refine SeqAt.notIn_list_data h2 h1 (D.pys_plain ds hb.2).1 (D.py_plain dx hb.1).1 (by have := Nat.min_le_right (PyData.depthAll (D.pys ds)) dx.py.depth; have := (D.py_plain dx hb.1).2; omega) ?_
    rw [memD_py hb.1 hb.2]
    exact ⟨.bl _, H, I, rfl, q.val A (.bl _)⟩
  | str t =>
    cases dx with
    | str z =>
      obtain ⟨⟨l⟩⟩ := z
      cases l with
      | nil => exact q.elim
      | cons c l =>
        cases l with
        | nil => exact op_notIn_sign pins s σ H x y v u Q I rx ry ⟨c, t, r1.str_inv, r2.str_inv, q.val A (.bl _)⟩
        | cons _ _ => exact q.elim
    | _ => exact q.elim
  | _ => exact q.elim
theorem op_cmpD (hu : X.A.units + 64 < cLine) (hd : DicR X cls) (op : CmpOp) : OpR X (compareOp op) (rBin X cls U (cmpD op)) := by
  cases op with
  | Eq => exact op_eqP hu
  | NotEq => exact op_neP hu
  | Lt => exact op_ordI (p := fun i j => decide (i < j)) op_lt fun x y st => rfl
  | LtE => exact op_ordI (p := fun i j => decide (i ≤ j)) op_le fun x y st => rfl
  | Gt => exact op_ordI (p := fun i j => decide (j < i)) op_gt fun x y st => rfl
  | GtE => exact op_ordI (p := fun i j => decide (j ≤ i)) op_ge fun x y st => rfl
  | In => exact op_inP hu hd
  | NotIn => exact op_notInP hu hd
  | Is =>
    intro pins s σ H x y v u Q I rx ry h
    obtain ⟨W, st, dx, dy, A, r1, r2, q⟩ := h
    unfold cmpD at q
    cases dy with
    | non => exact op_isN pins s σ H x y v u Q I rx ry ⟨r2.non_inv, by rw [rep_non r1]; exact q.val A (.bl _)⟩
    | bl b =>
      cases dx with
      | bl a => exact op_isBl pins s σ H x y v u Q I rx ry ⟨a, b, r1.bl_inv, r2.bl_inv, q.val A (.bl _)⟩
      | _ => exact q.elim
    | _ => exact q.elim
  | IsNot =>
    intro pins s σ H x y v u Q I rx ry h
    obtain ⟨W, st, dx, dy, A, r1, r2, q⟩ := h
    unfold cmpD at q
    cases dy with
    | non =>
      refine op_notN pins s σ H x y v u Q I rx ry ⟨r2.non_inv, ?_⟩
      rw [rep_non r1]
      exact q.val A (.bl _)
    | bl b =>
      cases dx with
      | bl a => exact op_isntBl pins s σ H x y v u Q I rx ry ⟨a, b, r1.bl_inv, r2.bl_inv, q.val A (.bl _)⟩
      | _ => exact q.elim
    | _ => exact q.elim

/-! ### subscripts -/
theorem getAt_eq {α : Type} (xs : List α) (i : Int) : getAt xs i = atI xs i := rfl
theorem RepL.at {K : PySem.W.Frag} {W : Wd} {xs : List V} {ds : List D} (l : RepL K W xs ds) {i : Int} {d : D} (h : getAt ds i = some d) : ∃ v, atI xs i = some v ∧ Rep K W v d := by
  unfold getAt at h
  cases e : ix ds.length i with
  | none => rw [e] at h; cases h
  | some j =>
    rw [e] at h
    obtain ⟨v, h1, h2⟩ := l.get (i := j) (d := d) h
    refine ⟨v, ?_, h2⟩
    show (ixN xs.length i).bind (fun j => xs[j]?) = some v
    have e' : ixN xs.length i = some j := by rw [l.length]; exact e
    rw [e']
    exact h1
theorem ix_D (hd : DicR X cls) : IxR X (rBin X cls U idxD) := by
  intro va sl pins s σ H x y v u Q I rx ry h hs
  obtain ⟨W, st, dx, dy, A, r1, r2, q⟩ := h
  unfold idxD at q
  have go : ∀ {r : R2}, IxR X r → r x y H Q → wpAny (model X.prog X.w) X.A (subscriptTail va sl v u) (EP X pins σ Q) X.xe s := fun hr h => hr va sl pins s σ H x y v u Q I rx ry h hs
  cases dx with
  | tup ds =>
    cases dy with
    | int i =>
      obtain ⟨a, us, xs, e1, g1, z1, l1⟩ := r1.tup_inv
      cases e : getAt ds i with
      | none => simp only [e] at q; exact q.elim
      | some d =>
        simp only [e] at q
        obtain ⟨w, h1, h2⟩ := l1.at e
        exact go ix_tup ⟨a, xs, i, w, e1, r2.int_inv, SqT_ft (A.sub _ _ g1), h1, q.val A h2⟩
    | _ => exact q.elim
  | lst ds =>
    cases dy with
    | int i =>
      obtain ⟨a, xs, e1, g1, z1, l1⟩ := r1.lst_inv
      cases e : getAt ds i with
      | none => simp only [e] at q; exact q.elim
      | some d =>
        simp only [e] at q
        obtain ⟨w, h1, h2⟩ := l1.at e
        exact go ix_list ⟨a, xs, i, w, e1, r2.int_inv, SqL.of (A.sub _ _ g1), h1, q.val A h2⟩
    | _ => exact q.elim
  | scr ns =>
    cases dy with
    | int i =>
      obtain ⟨a, e1, g1, z1⟩ := r1.scr_inv
      cases e : getAt ns i with
      | none => simp only [e] at q; exact q.elim
      | some n =>
        simp only [e] at q
        refine go ix_list ⟨a, ns.map V.int, i, .int n, e1, r2.int_inv, A.sub.seq g1, ?_, q.val A (.int n)⟩
        unfold getAt at e
        show (ixN (ns.map V.int).length i).bind (fun j => (ns.map V.int)[j]?) = some (V.int n)
        cases e' : ix ns.length i with
        | none => rw [e'] at e; cases e
        | some j =>
          rw [e'] at e
          have e2 : ixN (ns.map V.int).length i = some j := by rw [List.length_map]; exact e'
          rw [e2]
          show (ns.map V.int)[j]? = _
          have e3 : ns[j]? = some n := e
          rw [List.getElem?_map, e3]
          rfl
    | _ => exact q.elim
  | str z =>
    cases dy with
    | int i =>
      obtain ⟨hb, q⟩ := q.test
      simp only [decide_eq_true_eq, sizeLine_lim] at hb
      cases e : getAt z.cps.toList i with
      | none => simp only [e] at q; exact q.elim
      | some c =>
        simp only [e] at q
        exact go ix_str ⟨z, i, c, r1.str_inv, r2.int_inv, hb, e, q.val A (.str _)⟩
    | _ => exact q.elim
  | ref j =>
    obtain ⟨a, e1, ha⟩ := r1.ref_inv
    obtain ⟨o, ho, oa⟩ := A.at ha
    simp only [ho] at q
    cases o with
    | lst ds =>
      cases dy with
      | int i =>
        obtain ⟨xs, hx, l1, z⟩ := oa
        cases e : getAt ds i with
        | none => simp only [e] at q; exact q.elim
        | some d =>
          simp only [e] at q
          obtain ⟨w, h1, h2⟩ := l1.at e
          exact go ix_list ⟨a, xs, i, w, e1, r2.int_inv, SqL.of hx, h1, q.val A h2⟩
      | _ => exact q.elim
    | dic kvs =>
      obtain ⟨hb, q⟩ := q.test
      cases e : dget kvs dy with
      | none => simp only [e] at q; exact q.elim
      | some d =>
        simp only [e] at q
        exact go hd.get ⟨W, st, dy, j, kvs, d, A, r1, r2, .inl ho, hb, e, fun w r => q.val A r⟩
    | lck kvs =>
      obtain ⟨hb, q⟩ := q.test
      cases e : dget kvs dy with
      | none => simp only [e] at q; exact q.elim
      | some d =>
        simp only [e] at q
        exact go hd.get ⟨W, st, dy, j, kvs, d, A, r1, r2, .inr ho, hb, e, fun w r => q.val A r⟩
    | ins c fs => exact q.elim
  | _ => exact q.elim
/-! ### slices -/
theorem cutIx_eq (n d : Nat) (o : Option Int) : cutIx n d o = HT.sIx n d o := by cases o <;> rfl
theorem RepL.cutV {K : PySem.W.Frag} {W : Wd} {xs : List V} {ds : List D} (l : RepL K W xs ds) (lo hi : Option Int) : RepL K W (L2.cutV xs lo hi) (EV.cut ds lo hi) := by
  unfold L2.cutV EV.cut
  rw [l.length, cutIx_eq, cutIx_eq]
  exact (l.drop _).take _
theorem cut_len {α : Type} (xs : List α) (lo hi : Option Int) : (EV.cut xs lo hi).length ≤ xs.length := by
  unfold EV.cut
  rw [List.length_take, List.length_drop]
  omega
theorem cut_whole {α : Type} (xs : List α) (lo hi : Option Int) (h1 : cutIx xs.length 0 lo = 0) (h2 : cutIx xs.length xs.length hi = xs.length) : EV.cut xs lo hi = xs := by
  unfold EV.cut
  rw [h1, h2]
  simp
/-- x[lo:hi] by values: the bounds have come -/
def rSli (X : Cx) (cls : Nat → Option Addr) (U : XW) : V → Option Int → Option Int → Hp → VK → Prop := fun x lo hi H Q => ∃ W st dx, Ag X.K X.w cls W st H ∧ Rep X.K W x dx ∧ Aft X.K X.w cls U (Rep X.K) W H (sliD dx lo hi st) Q
theorem sl_str' : SlR X (fun x lo hi H Q => ∃ z, x = .str z ∧ z.length ≤ sizeLine ∧ Q (.str ⟨(EV.cut z.cps.toList lo hi).toArray⟩) H) := by
  intro pins s σ H x v vl vu lo hi sl Q I rx hs pl pu h
  obtain ⟨z, rfl, hz, q⟩ := h
  refine sl_str pins s σ H _ v vl vu lo hi sl Q I rx hs pl pu ⟨z, rfl, hz, ?_⟩
  have e : cutS z lo hi = ⟨(EV.cut z.cps.toList lo hi).toArray⟩ := by
    unfold cutS EV.cut
    simp only [cutIx_eq]
    rfl
  rw [e]
  exact q
theorem sl_D : SlR X (rSli X cls U) := by
  intro pins s σ H x v vl vu lo hi sl Q I rx hs pl pu h
  obtain ⟨W, st, dx, A, r1, q⟩ := h
  unfold sliD at q
  cases dx with
  | tup ds =>
    obtain ⟨a, us, xs, e1, g1, z1, l1⟩ := r1.tup_inv
    refine sl_tupF pins s σ H x v vl vu lo hi sl Q I rx hs pl pu ⟨a, xs, e1, SqT_ft (A.sub _ _ g1), fun hw => ?_, fun _ => ?_⟩
    · have e := cut_whole ds lo hi (by rw [cutIx_eq, ← l1.length]; exact hw.1) (by rw [cutIx_eq, ← l1.length]; exact hw.2)
      have q : Aft X.K X.w cls U (Rep X.K) W H (.ok (.tup (EV.cut ds lo hi)) st) Q := q
      rw [e] at q
      rw [e1] at r1
      exact q.val A r1
    · exact Aft.newTup A q (l1.cutV lo hi) (Nat.le_trans (cut_len ds lo hi) z1)
  | lst ds =>
    obtain ⟨a, xs, e1, g1, z1, l1⟩ := r1.lst_inv
    exact sl_list pins s σ H x v vl vu lo hi sl Q I rx hs pl pu ⟨a, xs, e1, SqL.of (A.sub _ _ g1), Aft.newLst A q (l1.cutV lo hi) (Nat.le_trans (cut_len ds lo hi) z1)⟩
  | ref i =>
    obtain ⟨a, e1, ha⟩ := r1.ref_inv
    obtain ⟨o, ho, oa⟩ := A.at ha
    simp only [ho] at q
    cases o with
    | lst ds =>
      obtain ⟨xs, hx, l1, z1⟩ := oa
      exact sl_list pins s σ H x v vl vu lo hi sl Q I rx hs pl pu ⟨a, xs, e1, SqL.of hx, Aft.newLst A q (l1.cutV lo hi) (Nat.le_trans (cut_len ds lo hi) z1)⟩
    | _ => exact q.elim
  | str z =>
    obtain ⟨hb, q⟩ := q.test
    simp only [decide_eq_true_eq, sizeLine_lim] at hb
    exact sl_str' pins s σ H x v vl vu lo hi sl Q I rx hs pl pu ⟨z, r1.str_inv, hb, q.val A (.str _)⟩
  | _ => exact q.elim
end
end EV
/-! EvG: built-in functions and methods by data. -/
namespace EV
open PySem PySem.Spec PyProof.Rows L2

section
variable {X : Cx} {cls : Nat → Option Addr} {U : XW}
def rC (X : Cx) (cls : Nat → Option Addr) (U : XW) (f : List D → Store → R D) : List V → Hp → VK → Prop := fun vs H Q => ∃ W st ds, Ag X.K X.w cls W st H ∧ RepL X.K W vs ds ∧ Aft X.K X.w cls U (Rep X.K) W H (f ds st) Q
def rM (X : Cx) (cls : Nat → Option Addr) (U : XW) (m : Mth) : V → List V → Hp → VK → Prop := fun x vs H Q => ∃ W st dx ds, Ag X.K X.w cls W st H ∧ Rep X.K W x dx ∧ RepL X.K W vs ds ∧ Aft X.K X.w cls U (Rep X.K) W H (mthD m dx ds st) Q
theorem RepL.one_inv {K : PySem.W.Frag} {W : Wd} {vs : List V} {d : D} (h : RepL K W vs [d]) : ∃ v, vs = [v] ∧ Rep K W v d := by
  cases h with
  | cons a b => cases b; exact ⟨_, rfl, a⟩
theorem RepL.two_inv {K : PySem.W.Frag} {W : Wd} {vs : List V} {d e : D} (h : RepL K W vs [d, e]) : ∃ v w, vs = [v, w] ∧ Rep K W v d ∧ Rep K W w e := by
  cases h with
  | cons a b =>
    cases b with
    | cons c d => cases d; exact ⟨_, _, rfl, a, c⟩
theorem RepL.nil_inv {K : PySem.W.Frag} {W : Wd} {vs : List V} (h : RepL K W vs []) : vs = [] := by cases h; rfl
/-- a list or a tuple, as it stands -/
theorem Rep.seq {W : Wd} {H : Hp} {st : Store} (A : Ag X.K X.w cls W st H) {v : V} {d : D} {ys : List D} (r : Rep X.K W v d) (h : seqOf st d = some ys) :
    ∃ a xs, v = .ref a ∧ (SqL X.K H a xs ∨ SqT X.K H a xs) ∧ RepL X.K W xs ys ∧ ys.length ≤ sizeLine := by
  cases r with
  | tup g z l => cases h; exact ⟨_, _, rfl, .inr (SqT_ft (A.sub _ _ g)), l, z⟩
  | lst g z l => cases h; exact ⟨_, _, rfl, .inl (SqL.of (A.sub _ _ g)), l, z⟩
  | scr g z => cases h; exact ⟨_, _, rfl, .inl (A.sub.seq g), RepL.ints _, by rw [List.length_map]; exact z⟩
  | ref g =>
    obtain ⟨o, ho, oa⟩ := A.at g
    simp only [seqOf, ho] at h
    cases o with
    | lst ds => cases h; obtain ⟨xs, hx, l, z⟩ := oa; exact ⟨_, _, rfl, .inl (SqL.of hx), l, z⟩
    | _ => cases h
  | _ => cases h
/-- the rules shown in files of their own -/
structure Lib (X : Cx) (cls : Nat → Option Addr) : Prop extends DicR X cls where
  dlen : CallR X (.builtin "len") (fun xs H Q => ∃ W st i kvs, Ag X.K X.w cls W st H ∧ RepL X.K W xs [.ref i] ∧ DicAt st i kvs ∧ Q (.int kvs.length) H)
  dlist : CallR X (.type "list") (fun xs H Q => ∃ W st i kvs, Ag X.K X.w cls W st H ∧ RepL X.K W xs [.ref i] ∧ DicAt st i kvs ∧ ∀ p vs, H p = none → RepL X.K W vs (kvs.map (·.1)) → kvs.length ≤ sizeLine → Q (.ref p) (upd H p (.lst vs)))
  srt : ∀ U, CallR X (.builtin "sorted") (rC X cls U (bltD .sorted))
  dget2 : MtR X "dict.get" (fun x xs H Q => ∃ W st i kvs dk dx, Ag X.K X.w cls W st H ∧ Rep X.K W x (.ref i) ∧ RepL X.K W xs [dk, dx] ∧ DicAt st i kvs ∧ keyOk kvs dk = true ∧ ∀ v, Rep X.K W v ((dget kvs dk).getD dx) → Q v H)

theorem cd_len (hd : Lib X cls) : CallR X (.builtin "len") (rC X cls U (bltD .len)) := by
  intro pins s σ H vs us Q I rv h
  obtain ⟨W, st, ds, A, rl, q⟩ := h
  have go : ∀ {r : List V → Hp → VK → Prop}, CallR X (.builtin "len") r → r vs H Q → wpAny (model X.prog X.w) X.A (call (.builtin "len") us) (EP X pins σ Q) X.xe s := fun hr h => hr pins s σ H vs us Q I rv h
  have fin : ∀ {x : D}, RepL X.K W vs [x] → Aft X.K X.w cls U (Rep X.K) W H ((R.of (seqOf st x) st).bind fun ys st => .ok (.int ys.length) st) Q → wpAny (model X.prog X.w) X.A (call (.builtin "len") us) (EP X pins σ Q) X.xe s := fun {x} rl q => by
    obtain ⟨v, rfl, r1⟩ := rl.one_inv
    cases e : seqOf st x with
    | none => rw [e] at q; exact q.elim
    | some ys =>
      rw [e] at q
      obtain ⟨a, xs, e1, hq, l, z⟩ := r1.seq A e
      refine go call_len_seq ⟨a, xs, by rw [e1], hq, ?_⟩
      rw [l.length]
      exact Aft.val A q (.int _)
  cases ds with
  | nil => exact q.elim
  | cons x r =>
    cases r with
    | cons _ _ =>
      unfold bltD at q
      cases x <;> exact q.elim
    | nil =>
      cases x with
      | str z =>
        obtain ⟨v, rfl, r1⟩ := rl.one_inv
        unfold bltD at q
        obtain ⟨hb, q⟩ := Aft.test q
        simp only [decide_eq_true_eq, sizeLine_lim] at hb
        exact go call_len_str ⟨z, by rw [r1.str_inv], hb, q.val A (.int _)⟩
      | ref i =>
        obtain ⟨v, rfl, r1⟩ := rl.one_inv
        obtain ⟨a, e1, ha⟩ := r1.ref_inv
        obtain ⟨o, ho, oa⟩ := A.at ha
        unfold bltD at q
        simp only [ho] at q
        cases o with
        | lst ys =>
          obtain ⟨xs, hx, l, z⟩ := oa
          refine go call_len_seq ⟨a, xs, by rw [e1], .inl (SqL.of hx), ?_⟩
          rw [l.length]
          exact Aft.val A q (.int _)
        | dic kvs => exact go hd.dlen ⟨W, st, i, kvs, A, rl, .inl ho, Aft.val A q (.int _)⟩
        | lck kvs => exact go hd.dlen ⟨W, st, i, kvs, A, rl, .inr ho, Aft.val A q (.int _)⟩
        | ins _ _ => exact q.elim
      | non => exact fin rl q
      | bl _ => exact fin rl q
      | int _ => exact fin rl q
      | tup _ => exact fin rl q
      | lst _ => exact fin rl q
      | scr _ => exact fin rl q
theorem sum_tupF (hc : X.calm = true) : CallR X (.builtin "sum") (fun vs H Q => ∃ (a : Addr) (ns : List Int), vs = [V.ref a] ∧ SqT X.K H a (ns.map V.int) ∧ Q (.int ns.sum) H) := by
  intro pins s σ H xs us Q I r h
  obtain ⟨a, ns, rfl, hq, q⟩ := h
  obtain ⟨u, rfl, rx⟩ := vals1 r
  cases rx
  obtain ⟨its, r', pl, hz⟩ := I.tuple hq
  have hi : IntsAre its ns := intsAre_of r'
  obtain ⟨zs, hx⟩ := hi.allInts.items
  have hn : numsOf its.toArray.toList = ns := by rw [show its.toArray.toList = its from rfl, hi.numsOf]
  rw [hx] at pl hn
  rw [nums_intItems] at hn
  refine PySem.W.ktm_sumG (I.ok.hd hc) pl fun h' tk t' kp => ?_
  rw [preSum_eq, List.take_of_length_le (by simp), hn]
  exact ⟨.int ns.sum, H, I.kept kp, ⟨_, rfl⟩, q⟩
theorem cd_sum (hc : X.calm = true) : CallR X (.builtin "sum") (rC X cls U (bltD .sum)) := by
  intro pins s σ H vs us Q I rv h
  obtain ⟨W, st, ds, A, rl, q⟩ := h
  unfold bltD at q
  cases ds with
  | nil => exact q.elim
  | cons x r =>
    cases r with
    | cons _ _ => exact q.elim
    | nil =>
      obtain ⟨v, rfl, r1⟩ := rl.one_inv
      simp only at q
      cases e : seqOf st x with
      | none => rw [e] at q; exact q.elim
      | some ys =>
        rw [e] at q
        simp only [Option.bind_some] at q
        cases e2 : intsOf ys with
        | none => rw [e2] at q; exact q.elim
        | some ns =>
          rw [e2] at q
          obtain ⟨a, xs, e1, hq, l, z⟩ := r1.seq A e
          have ex := l.of_ints e2
          subst ex
          have q' : Q (.int ns.sum) H := Aft.val A q (.int _)
          rcases hq with hq | hq
          · exact cr_sum hc pins s σ H _ us Q I rv ⟨a, ns, by rw [e1], hq, q'⟩
          · exact sum_tupF hc pins s σ H _ us Q I rv ⟨a, ns, by rw [e1], hq, q'⟩
theorem cd_any (hc : X.calm = true) : CallR X (.builtin "any") (rC X cls U (bltD .any)) := by
  intro pins s σ H vs us Q I rv h
  obtain ⟨W, st, ds, A, rl, q⟩ := h
  simp only [bltD] at q
  split at q
  · obtain ⟨v, rfl, r1⟩ := rl.one_inv
    rename_i ys
    cases e2 : blsOf ys with
    | none => rw [e2] at q; exact q.elim
    | some bs =>
      rw [e2] at q
      obtain ⟨a, xs, e1, g, z, l⟩ := r1.lst_inv
      have ex := l.of_bls e2
      subst ex
      exact cr_any hc pins s σ H _ us Q I rv ⟨a, bs, by rw [e1], SqL.of (A.sub _ _ g), Aft.val A q (.bl _)⟩
  · exact q.elim
theorem cd_all (hc : X.calm = true) : CallR X (.builtin "all") (rC X cls U (bltD .all)) := by
  intro pins s σ H vs us Q I rv h
  obtain ⟨W, st, ds, A, rl, q⟩ := h
  simp only [bltD] at q
  split at q
  · obtain ⟨v, rfl, r1⟩ := rl.one_inv
    rename_i ys
    cases e2 : blsOf ys with
    | none => rw [e2] at q; exact q.elim
    | some bs =>
      rw [e2] at q
      obtain ⟨a, xs, e1, g, z, l⟩ := r1.lst_inv
      have ex := l.of_bls e2
      subst ex
      exact cr_all hc pins s σ H _ us Q I rv ⟨a, bs, by rw [e1], SqL.of (A.sub _ _ g), Aft.val A q (.bl _)⟩
  · exact q.elim
theorem cd_tuple : CallR X (.type "tuple") (rC X cls U (bltD .tuple)) := by
  intro pins s σ H vs us Q I rv h
  obtain ⟨W, st, ds, A, rl, q⟩ := h
  simp only [bltD] at q
  split at q
  · obtain ⟨v, rfl, r1⟩ := rl.one_inv
    obtain ⟨a, us1, xs, e1, g, z, l⟩ := r1.tup_inv
    rw [e1] at r1
    exact call_tupleF pins s σ H _ us Q I rv ⟨a, xs, by rw [e1], .inr ⟨SqT_ft (A.sub _ _ g), Aft.val A q r1⟩⟩
  · obtain ⟨v, rfl, r1⟩ := rl.one_inv
    obtain ⟨a, xs, e1, g, z, l⟩ := r1.lst_inv
    exact call_tupleF pins s σ H _ us Q I rv ⟨a, xs, by rw [e1], .inl ⟨SqL.of (A.sub _ _ g), Aft.newTup A q l z⟩⟩
  · obtain ⟨v, rfl, r1⟩ := rl.one_inv
    obtain ⟨a, e1, ha⟩ := r1.ref_inv
    obtain ⟨o, ho, oa⟩ := A.at ha
    simp only [ho] at q
    cases o with
    | lst ys =>
      obtain ⟨xs, hx, l, z⟩ := oa
      exact call_tupleF pins s σ H _ us Q I rv ⟨a, xs, by rw [e1], .inl ⟨SqL.of hx, Aft.newTup A q l z⟩⟩
    | _ => exact q.elim
  · exact q.elim
theorem cd_list (hd : Lib X cls) : CallR X (.type "list") (rC X cls U (bltD .list)) := by
  intro pins s σ H vs us Q I rv h
  obtain ⟨W, st, ds, A, rl, q⟩ := h
  simp only [bltD] at q
  split at q
  · obtain ⟨v, rfl, r1⟩ := rl.one_inv
    obtain ⟨a, us1, xs, e1, g, z, l⟩ := r1.tup_inv
    exact call_list_of pins s σ H _ us Q I rv ⟨a, xs, by rw [e1], .inr (SqT_ft (A.sub _ _ g)), Aft.newLst A q l z⟩
  · obtain ⟨v, rfl, r1⟩ := rl.one_inv
    obtain ⟨a, xs, e1, g, z, l⟩ := r1.lst_inv
    exact call_list_of pins s σ H _ us Q I rv ⟨a, xs, by rw [e1], .inl (SqL.of (A.sub _ _ g)), Aft.newLst A q l z⟩
  · obtain ⟨v, rfl, r1⟩ := rl.one_inv
    rename_i i
    obtain ⟨a, e1, ha⟩ := r1.ref_inv
    obtain ⟨o, ho, oa⟩ := A.at ha
    simp only [ho] at q
    cases o with
    | lst ys =>
      obtain ⟨xs, hx, l, z⟩ := oa
      exact call_list_of pins s σ H _ us Q I rv ⟨a, xs, by rw [e1], .inl (SqL.of hx), Aft.newLst A q l z⟩
    | dic kvs => exact hd.dlist pins s σ H _ us Q I rv ⟨W, st, i, kvs, A, rl, .inl ho, fun p vs hp l z => Aft.newLst A q l (by rw [List.length_map]; exact z) p hp⟩
    | lck kvs => exact hd.dlist pins s σ H _ us Q I rv ⟨W, st, i, kvs, A, rl, .inr ho, fun p vs hp l z => Aft.newLst A q l (by rw [List.length_map]; exact z) p hp⟩
    | ins _ _ => exact q.elim
  · exact q.elim
theorem cd_int : CallR X (.type "int") (rC X cls U (bltD .int)) := by
  intro pins s σ H vs us Q I rv h
  obtain ⟨W, st, ds, A, rl, q⟩ := h
  simp only [bltD] at q
  split at q
  · obtain ⟨v, rfl, r1⟩ := rl.one_inv
    exact call_int1 pins s σ H _ us Q I rv (.inl ⟨_, by rw [r1.int_inv], Aft.val A q (.int _)⟩)
  · obtain ⟨v, rfl, r1⟩ := rl.one_inv
    exact call_int1 pins s σ H _ us Q I rv (.inr ⟨_, by rw [r1.bl_inv], Aft.val A q (.int _)⟩)
  · obtain ⟨v, rfl, r1⟩ := rl.one_inv
    rename_i z
    obtain ⟨hb, q⟩ := Aft.test q
    simp only [decide_eq_true_eq] at hb
    cases e : PySem.intText? z with
    | none => rw [e] at q; exact q.elim
    | some n =>
      rw [e] at q
      exact call_int_str pins s σ H _ us Q I rv ⟨z, n, by rw [r1.str_inv], e, hb, Aft.val A q (.int _)⟩
  · exact q.elim
theorem call_str_str : CallR X (.type "str") (fun xs H Q => ∃ z, xs = [.str z] ∧ Q (.str z) H) := by
  intro pins s σ H xs us Q I r h
  obtain ⟨z, rfl, q⟩ := h
  obtain ⟨u, rfl, t, rfl⟩ := vals1 r
  exact PySem.P.str_of_str ⟨.str z, H, I, ⟨_, rfl⟩, q⟩
theorem cd_str : CallR X (.type "str") (rC X cls U (bltD .str)) := by
  intro pins s σ H vs us Q I rv h
  obtain ⟨W, st, ds, A, rl, q⟩ := h
  simp only [bltD] at q
  split at q
  · obtain ⟨v, rfl, r1⟩ := rl.one_inv
    obtain ⟨hb, q⟩ := Aft.test q
    simp only [decide_eq_true_eq] at hb
    exact call_str_int pins s σ H _ us Q I rv ⟨_, by rw [r1.int_inv], hb, Aft.val A q (.str _)⟩
  · obtain ⟨v, rfl, r1⟩ := rl.one_inv
    exact call_str_str pins s σ H _ us Q I rv ⟨_, by rw [r1.str_inv], Aft.val A q (.str _)⟩
  · exact q.elim
theorem cd_abs : CallR X (.builtin "abs") (rC X cls U (bltD .abs)) := by
  intro pins s σ H vs us Q I rv h
  obtain ⟨W, st, ds, A, rl, q⟩ := h
  simp only [bltD] at q
  split at q
  · obtain ⟨v, rfl, r1⟩ := rl.one_inv
    exact call_abs pins s σ H _ us Q I rv ⟨_, by rw [r1.int_inv], Aft.val A q (.int _)⟩
  · exact q.elim
theorem cd_min2 (hc : X.calm = true) : CallR X (.builtin "min") (rC X cls U (bltD .min2)) := by
  intro pins s σ H vs us Q I rv h
  obtain ⟨W, st, ds, A, rl, q⟩ := h
  simp only [bltD] at q
  split at q
  · obtain ⟨v, w, rfl, r1, r2⟩ := rl.two_inv
    exact call_min2 hc pins s σ H _ us Q I rv ⟨_, _, by rw [r1.int_inv, r2.int_inv], Aft.val A q (.int _)⟩
  · exact q.elim
theorem cd_max2 (hc : X.calm = true) : CallR X (.builtin "max") (rC X cls U (bltD .max2)) := by
  intro pins s σ H vs us Q I rv h
  obtain ⟨W, st, ds, A, rl, q⟩ := h
  simp only [bltD] at q
  split at q
  · obtain ⟨v, w, rfl, r1, r2⟩ := rl.two_inv
    exact call_max2 hc pins s σ H _ us Q I rv ⟨_, _, by rw [r1.int_inv, r2.int_inv], Aft.val A q (.int _)⟩
  · exact q.elim
theorem foldl_max_mem : ∀ (r : List Int) (n : Int), r.foldl max n ∈ n :: r ∧ ∀ y ∈ n :: r, y ≤ r.foldl max n
  | [], n => by simp
  | a :: r, n => by
    obtain ⟨h1, h2⟩ := foldl_max_mem r (max n a)
    rw [List.foldl_cons]
    refine ⟨?_, fun y hy => ?_⟩
    · rcases List.mem_cons.mp h1 with e | e
      · rw [e]
        rcases Int.le_total n a with h | h
        · rw [Int.max_eq_right h]; simp
        · rw [Int.max_eq_left h]; simp
      · exact List.mem_cons_of_mem _ (List.mem_cons_of_mem _ e)
    · have h3 := h2 (max n a) List.mem_cons_self
      rcases List.mem_cons.mp hy with e | hy
      · rw [e]; have := Int.le_max_left n a; omega
      · rcases List.mem_cons.mp hy with e | hy
        · rw [e]; have := Int.le_max_right n a; omega
        · exact h2 y (List.mem_cons_of_mem _ hy)
theorem cd_max1 (hc : X.calm = true) : CallR X (.builtin "max") (rC X cls U (bltD .max1)) := by
  intro pins s σ H vs us Q I rv h
  obtain ⟨W, st, ds, A, rl, q⟩ := h
  simp only [bltD] at q
  split at q
  · obtain ⟨v, rfl, r1⟩ := rl.one_inv
    rename_i ys
    cases e2 : intsOf ys with
    | none => rw [e2] at q; exact q.elim
    | some ns =>
      rw [e2] at q
      cases ns with
      | nil => exact q.elim
      | cons n r =>
        obtain ⟨a, xs, e1, g, z, l⟩ := r1.lst_inv
        have ex := l.of_ints e2
        subst ex
        obtain ⟨m1, m2⟩ := foldl_max_mem r n
        refine cr_max hc pins s σ H _ us Q I rv ⟨a, n :: r, by rw [e1], SqL.of (A.sub _ _ g), by simp, fun m hm hle => ?_⟩
        have e : m = r.foldl max n := by
          have h1 := m2 m hm
          have h2 := hle _ m1
          omega
        rw [e]
        exact Aft.val A q (.int _)
  · exact q.elim
end
end EV
/-! EvH: isinstance, methods of built-in types, by data. -/
namespace EV
open PySem PySem.Spec PyProof.Rows L2

/-- the name of a kind's type -/
def Kd.nm : Kd → String
  | .non => "NoneType"
  | .bl => "bool"
  | .int => "int"
  | .str => "str"
  | .tup => "tuple"
  | .lst => "list"
  | .dic => "dict"
theorem kit_kd (k t : Kd) (h : t ≠ .non) : kitB k.nm t.nm = some (k.sub t) := by
  cases k <;> cases t <;> first | exact absurd rfl h | decide +kernel
section
variable {X : Cx} {cls : Nat → Option Addr} {U : XW} {pins : List (Addr × Obj)} {σ : L2.St} {H : Hp} {s : Shared} {W : Wd} {st : Store}
theorem DicO.at (I : Inv X pins σ H s) {a : Addr} {kvs : List (D × D)} (oa : OAt X.K X.w cls W H a (.dic kvs) ∨ OAt X.K X.w cls W H a (.lck kvs)) : ∃ o, s.heap.get? a = some o ∧ DicO X.K X.w W a o kvs := by
  rcases oa with ⟨o, h, d⟩ | ⟨o, od, h, d⟩
  · exact ⟨o, (I.hok a _ h).1, d⟩
  · exact ⟨o, (I.hok a _ h).2.1, d⟩
/-- what the library's isinstance rules ask -/
theorem Rep.kit (I : Inv X pins σ H s) (A : Ag X.K X.w cls W st H) {x : V} {u : Value} {d : D} {k : Kd} (r : Rep X.K W x d) (hk : d.kd st = some k) (rx : RelV x u) :
    ∃ P : Heap → Prop, PySem.W.KitX X.K u (.type k.nm) P ∧ P s.heap ∧ u ≠ .builtin "__main__.__loader__#opaque" := by
  cases r with
  | non => cases hk; exact kit_of I rx (.base .non)
  | bl b => cases hk; exact kit_of I rx (.base (.bl b))
  | int i => cases hk; exact kit_of I rx (.base (.int i))
  | str z => cases hk; exact kit_of I rx (.base (.str z))
  | tup g _ _ => cases hk; exact kit_of I rx (.fTuple (A.sub _ _ g))
  | lst g _ _ => cases hk; exact kit_of I rx (.base (.lst (A.sub _ _ g)))
  | scr g _ => cases hk
  | @ref a i g =>
    obtain ⟨o, ho, oa⟩ := A.at g
    simp only [D.kd, ho] at hk
    cases o with
    | lst ds => cases hk; obtain ⟨xs, hx, _⟩ := oa; exact kit_of I rx (.base (.lst hx))
    | dic kvs =>
      cases hk
      obtain ⟨o, e, _, _, _, es, ep, ex, _⟩ := DicO.at I (.inl oa)
      cases rx
      exact ⟨_, PySem.W.kitx_dict, ⟨o, e, ex.1⟩, fun z => nomatch z⟩
    | lck kvs =>
      cases hk
      obtain ⟨o, e, _, _, _, es, ep, ex, _⟩ := DicO.at I (.inr oa)
      cases rx
      exact ⟨_, PySem.W.kitx_dict, ⟨o, e, ex.1⟩, fun z => nomatch z⟩
    | ins _ _ => cases hk
/-- a value's type, its instance without a dict -/
theorem Rep.ty (I : Inv X pins σ H s) (A : Ag X.K X.w cls W st H) {x : V} {u : Value} {d : D} {k : Kd} (r : Rep X.K W x d) (hk : d.kd st = some k) (hn : k = .tup ∨ k = .lst ∨ k = .str ∨ k = .dic) (rx : RelV x u) :
    s.TypeIs u k.nm ∧ ∀ a, u = .ref a → ∃ ob, s.heap.get? a = some ob ∧ ob.dict = none := by
  cases r with
  | non => cases hk; simp at hn
  | bl b => cases hk; simp at hn
  | int i => cases hk; simp at hn
  | str z =>
    cases hk
    exact tyV_is (T := "str") I rx rfl
  | tup g _ _ =>
    cases hk
    cases rx
    obtain ⟨e, _⟩ := I.hok _ _ (A.sub _ _ g)
    exact ⟨⟨_, e, rfl⟩, fun a q => by cases q; exact ⟨_, e, rfl⟩⟩
  | lst g _ _ => cases hk; exact tyV_is (T := "list") I rx (.inl ⟨rfl, _, SqL.of (A.sub _ _ g)⟩)
  | scr g _ => cases hk
  | @ref a i g =>
    obtain ⟨o, ho, oa⟩ := A.at g
    simp only [D.kd, ho] at hk
    cases o with
    | lst ds => cases hk; obtain ⟨xs, hx, _⟩ := oa; exact tyV_is (T := "list") I rx (.inl ⟨rfl, _, SqL.of hx⟩)
    | dic kvs =>
      cases hk
      obtain ⟨o, e, _, _, _, es, ep, ex, _⟩ := DicO.at I (.inl oa)
      cases rx
      exact ⟨⟨o, e, ex.1⟩, fun a q => by cases q; exact ⟨o, e, ex.2.1⟩⟩
    | lck kvs =>
      cases hk
      obtain ⟨o, e, _, _, _, es, ep, ex, _⟩ := DicO.at I (.inr oa)
      cases rx
      exact ⟨⟨o, e, ex.1⟩, fun a q => by cases q; exact ⟨o, e, ex.2.1⟩⟩
    | ins _ _ => cases hk
end
section
variable {X : Cx} {cls : Nat → Option Addr} {U : XW}
/-- isinstance(x, T) -/
theorem cd_isT (t : Kd) (ht : t ≠ .non) : CallR X (.builtin "isinstance") (fun vs H Q => ∃ W st v d, vs = [v, .ty t.nm] ∧ Ag X.K X.w cls W st H ∧ Rep X.K W v d ∧ Aft X.K X.w cls U (Rep X.K) W H (bltD (.isT t) [d] st) Q) := by
  intro pins s σ H vs us Q I rv h
  obtain ⟨W, st, v, d, rfl, A, r, q⟩ := h
  obtain ⟨u1, u2, rfl, r1, r2⟩ := vals2 rv
  obtain rfl : u2 = Value.type t.nm := r2
  simp only [bltD] at q
  cases e : d.kd st with
  | none => rw [e] at q; exact q.elim
  | some k =>
    rw [e] at q
    obtain ⟨P, Z, p, hx⟩ := r.kit I A e r1
    exact PySem.W.kia_one Z I.kIn p (kit_ty (kit_kd k t ht)) hx fun tk => ⟨.bl _, H, I.tok tk, rfl, Aft.val A q (.bl _)⟩
/-! ### methods -/
theorem md_count (hu : X.A.units + 64 < cLine) : MtR X "tuple.count" (rM X cls U .count) := by
  intro pins s σ H x xs v us Q I rx rs h
  obtain ⟨W, st, dx, ds, A, r1, rl, q⟩ := h
  unfold mthD at q
  split at q <;> try contradiction
  · rename_i ys d _
    obtain ⟨hb, q⟩ := Aft.test q
    rw [Bool.and_eq_true] at hb
    obtain ⟨w, rfl, r2⟩ := rl.one_inv
    obtain ⟨u, rfl, ru⟩ := rs.one
    obtain ⟨a, us1, zs, e1, g, z, l⟩ := r1.tup_inv
    subst e1
    cases rx
    obtain ⟨its, rv, pl, hz⟩ := I.tuple (SqT_ft (K := X.K) (A.sub _ _ g))
    obtain ⟨as, h1⟩ := r2.reads I A hb.1 ru
    obtain ⟨bs, h2⟩ := l.reads I A hb.2 rv
    have p1 := D.py_plain d hb.1
    have p2 := D.pys_plain ys hb.2
    refine SeqAt.count_tuple_data (vs := its.toArray) pl (by simpa using h2) h1 p2.1 p1.1 (by have := Nat.min_le_right (PyData.depthAll (D.pys ys)) d.py.depth; omega) ?_
    rw [countD_py hb.1 hb.2]
    exact ⟨.int _, H, I.tok _, ⟨_, rfl⟩, Aft.val A q (.int _)⟩
theorem md_split : MtR X "str.split" (rM X cls U .split) := by
  intro pins s σ H x xs v us Q I rx rs h
  obtain ⟨W, st, dx, ds, A, r1, rl, q⟩ := h
  unfold mthD at q
  split at q <;> try contradiction
  · rename_i z t _
    obtain ⟨hb, q⟩ := Aft.test q
    simp only [Bool.and_eq_true, decide_eq_true_eq, sizeLine_lim] at hb
    obtain ⟨w, rfl, r2⟩ := rl.one_inv
    refine mt_split pins s σ H x _ v us Q I rx rs ⟨z, t, r1.str_inv, by rw [r2.str_inv], by simp; omega, hb.2, ?_⟩
    exact Aft.newLst A q (RepL.strs _) (by rw [List.length_map]; exact Nat.le_trans (PyProof.Rows.split_le z t) hb.2)
theorem md_join : MtR X "str.join" (rM X cls U .join) := by
  intro pins s σ H x xs v us Q I rx rs h
  obtain ⟨W, st, dx, ds, A, r1, rl, q⟩ := h
  unfold mthD at q
  split at q <;> try contradiction
  · rename_i z ys _
    obtain ⟨w, rfl, r2⟩ := rl.one_inv
    cases e : strsOf ys with
    | none => rw [e] at q; exact q.elim
    | some zs =>
      rw [e] at q
      obtain ⟨hb, q⟩ := Aft.test q
      simp only [decide_eq_true_eq] at hb
      obtain ⟨a, vs, e1, g, z1, l⟩ := r2.lst_inv
      have ex := l.of_strs e
      subst ex
      exact mt_join pins s σ H x _ v us Q I rx rs ⟨z, a, zs, r1.str_inv, by rw [e1], .inl (SqL.of (A.sub _ _ g)), hb, Aft.val A q (.str _)⟩
theorem upd_eq {H : Hp} {a b : Addr} {o : HO} (h : b ≠ a) : upd H a o b = H b := upd_ne h
theorem md_append : MtR X "list.append" (rM X cls U .append) := by
  intro pins s σ H x xs v us Q I rx rs h
  obtain ⟨W, st, dx, ds, A, r1, rl, q⟩ := h
  unfold mthD at q
  split at q <;> try contradiction
  · rename_i i d _
    obtain ⟨w, rfl, r2⟩ := rl.one_inv
    obtain ⟨a, e1, ha⟩ := r1.ref_inv
    obtain ⟨o, ho, oa⟩ := A.at ha
    simp only [ho] at q
    cases o with
    | lst ys =>
      obtain ⟨hb, q⟩ := Aft.test q
      simp only [decide_eq_true_eq, sizeLine_lim] at hb
      obtain ⟨zs, hx, l, z⟩ := oa
      refine mt_append pins s σ H x _ v us Q I rx rs ⟨a, zs, w, e1, rfl, hx, by rw [l.length]; exact hb, ?_⟩
      obtain ⟨A', x'⟩ := A.setObj (H' := upd H a (.lst (zs ++ [w]))) (o := .lst (ys ++ [d])) ha (fun b hb => upd_ne hb) ⟨_, upd_same, l.append (.one r2), by rw [List.length_append]; exact hb⟩ (fun _ _ z => by rw [hx] at z; cases z)
      exact q _ _ _ x' A' .non
    | _ => exact q.elim
theorem md_extend : MtR X "list.extend" (rM X cls U .extend) := by
  intro pins s σ H x xs v us Q I rx rs h
  obtain ⟨W, st, dx, ds, A, r1, rl, q⟩ := h
  unfold mthD at q
  split at q <;> try contradiction
  · rename_i i es _
    obtain ⟨w, rfl, r2⟩ := rl.one_inv
    obtain ⟨a, e1, ha⟩ := r1.ref_inv
    obtain ⟨o, ho, oa⟩ := A.at ha
    simp only [ho] at q
    cases o with
    | lst ys =>
      obtain ⟨hb, q⟩ := Aft.test q
      simp only [decide_eq_true_eq, sizeLine_lim] at hb
      obtain ⟨zs, hx, l, z⟩ := oa
      obtain ⟨b, vs, e2, g, z2, l2⟩ := r2.lst_inv
      refine mt_extend pins s σ H x _ v us Q I rx rs ⟨a, b, zs, vs, e1, by rw [e2], hx, A.sub _ _ g, by rw [l.length, l2.length]; exact hb, ?_⟩
      obtain ⟨A', x'⟩ := A.setObj (H' := upd H a (.lst (zs ++ vs))) (o := .lst (ys ++ es)) ha (fun b hb => upd_ne hb) ⟨_, upd_same, l.append l2, by rw [List.length_append]; exact hb⟩ (fun _ _ z => by rw [hx] at z; cases z)
      exact q _ _ _ x' A' .non
    | _ => exact q.elim
theorem md_pop : MtR X "list.pop" (rM X cls U .pop) := by
  intro pins s σ H x xs v us Q I rx rs h
  obtain ⟨W, st, dx, ds, A, r1, rl, q⟩ := h
  unfold mthD at q
  split at q <;> try contradiction
  · rename_i i _
    obtain rfl := rl.nil_inv
    obtain ⟨a, e1, ha⟩ := r1.ref_inv
    obtain ⟨o, ho, oa⟩ := A.at ha
    simp only [ho] at q
    cases o with
    | lst ys =>
      obtain ⟨zs, hx, l, z⟩ := oa
      cases e : ys.getLast? with
      | none => simp only [e] at q; exact q.elim
      | some y =>
        simp only [e] at q
        rw [List.getLast?_eq_getElem?] at e
        obtain ⟨w, h1, h2⟩ := l.get e
        refine mt_pop pins s σ H x _ v us Q I rx rs ⟨a, zs, w, e1, rfl, hx, by rw [l.length]; exact h1, ?_⟩
        obtain ⟨A', x'⟩ := A.setObj (H' := upd H a (.lst zs.dropLast)) (o := .lst ys.dropLast) ha (fun b hb => upd_ne hb) ⟨_, upd_same, l.dropLast, by rw [List.length_dropLast]; omega⟩ (fun _ _ z => by rw [hx] at z; cases z)
        exact q _ _ _ x' A' (h2.mono x'.le)
    | _ => exact q.elim
theorem md_get2 (hd : Lib X cls) : MtR X "dict.get" (rM X cls U .get2) := by
  intro pins s σ H x xs v us Q I rx rs h
  obtain ⟨W, st, dx, ds, A, r1, rl, q⟩ := h
  unfold mthD at q
  split at q <;> try contradiction
  · rename_i i dk d _
    obtain ⟨a, e1, ha⟩ := r1.ref_inv
    obtain ⟨o, ho, oa⟩ := A.at ha
    simp only [ho] at q
    cases o with
    | dic kvs =>
      obtain ⟨hb, q⟩ := Aft.test q
      exact hd.dget2 pins s σ H x _ v us Q I rx rs ⟨W, st, i, kvs, dk, d, A, r1, rl, .inl ho, hb, fun w r => Aft.val A q r⟩
    | lck kvs =>
      obtain ⟨hb, q⟩ := Aft.test q
      exact hd.dget2 pins s σ H x _ v us Q I rx rs ⟨W, st, i, kvs, dk, d, A, r1, rl, .inr ho, hb, fun w r => Aft.val A q r⟩
    | _ => exact q.elim
end
end EV
/-! EvSt: tuples cut with a step. -/
namespace EV
open PySem PySem.Spec PyProof.Rows L2 HT

section
variable {prog : Program} {w : World} {A : Around} {E : Value → Shared → Prop} {s : Shared}
abbrev adj (lo hi : Option Int) (c : Int) (n : Nat) : Int × Int := Builtin.Slice.sliceAdjust lo hi c n
abbrev plc (lo hi : Option Int) (c : Int) (n : Nat) : Nat := Builtin.Slice.slicePlaces (adj lo hi c n).1 (adj lo hi c n).2 c
theorem applied_step {sl : Addr} {vl vu vc : Value} {lo hi : Option Int} {c : Int} {n : Nat} {Q : Int × Int × Nat → Shared → Prop} (hs : s.heap.IsSliceOf sl vl vu vc) (pl : IsPart vl lo) (pu : IsPart vu hi) (pc : IsPart vc (some c)) (h0 : c ≠ 0)
    (h : Q ((adj lo hi c n).1, c, plc lo hi c n) s) : wpAny (model prog w) A (Builtin.Slice.sliceApplied (.ref sl) (pure (n : Int))) Q E s := by
  obtain ⟨os, hos, hcs, hds⟩ := id hs
  unfold Builtin.Slice.sliceApplied Builtin.Slice.sliceFields
  refine wpAny_bind (wpAny_bind (wpAny_field hos hds (x := vl) rfl (wpAny_bind (wpAny_field hos hds (x := vu) rfl (wpAny_bind (wpAny_field hos hds (x := vc) rfl (wpAny_pure ?_)))))))
  refine wpAny_bind (slicePart_ pc ?_)
  show wpAny _ _ (if (c == 0) = true then _ else _) _ _ s
  rw [if_neg (by simpa using h0)]
  exact wpAny_bind (slicePart_ pl (wpAny_bind (slicePart_ pu (wpAny_bind (wpAny_pure (wpAny_pure h))))))
theorem getItem_tup_step {t sl : Addr} {items : List Value} {vl vu vc : Value} {lo hi : Option Int} {c : Int} {Q : Value → Shared → Prop} (ht : IsTup s.heap t items.toArray) (hs : s.heap.IsSliceOf sl vl vu vc) (pl : IsPart vl lo) (pu : IsPart vu hi) (pc : IsPart vc (some c)) (h0 : c ≠ 0)
    (hw : ((adj lo hi c items.length).1 = 0 ∧ c = 1 ∧ plc lo hi c items.length = items.length) → Q (.ref t) s)
    (hn : ¬ ((adj lo hi c items.length).1 = 0 ∧ c = 1 ∧ plc lo hi c items.length = items.length) → Q (.ref s.heap.objs.size) { s with heap := s.heap.push { cls := .type "tuple", data := .seq (stepL items lo hi c).toArray } })
    (hsz : (stepL items lo hi c).length ≤ sizeLine) : wpAny (model prog w) A (getItem (.ref t) (.ref sl)) Q E s := by
  obtain ⟨os, hos, hcs, hds⟩ := id hs
  have hTs : s.TypeIs (.ref sl) "slice" := ⟨os, hos, hcs⟩
  have hsize : items.toArray.size = items.length := List.size_toArray
  unfold getItem
  try with_reducible refine wpAny_holding ?_
  first | refine wpAny_bind (wpAny_pure ?_) | skip
  refine wpAny_bind (wpAny_sequenceKey ht.typeIs (by decide) ?_)
  refine wpAny_bind (wpAny_callSpecial?_slot (name := Str.ofString "__getitem__") ht.typeIs PyProof.Rows.slot_tuple_getitem
    (wpAny_call_entry PyProof.Rows.slot_tuple_getitem ht.typeIs entry_tuple_getitem ?_ (args_tuple_getitem _ _)))
  show wpAny _ _ (Builtin.Tuple.tupleItemsOf (.ref t) >>= _) _ _ s
  refine wpAny_bind (tupleItemsOf_ ht (wpAny_bind (wpAny_typeOf hTs ?_)))
  rw [if_pos (by decide), hsize]
  refine wpAny_bind (applied_step hs pl pu pc h0 ?_)
  show wpAny _ _ (if ((adj lo hi c items.length).1 == 0 && c == 1 && plc lo hi c items.length == items.toArray.size) = true then _ else _) _ _ s
  rw [hsize]
  by_cases hb : (adj lo hi c items.length).1 = 0 ∧ c = 1 ∧ plc lo hi c items.length = items.length
  · have hyes : ((adj lo hi c items.length).1 == 0 && c == 1 && plc lo hi c items.length == items.length) = true := by
      rw [Bool.and_eq_true, Bool.and_eq_true, beq_iff_eq, beq_iff_eq, beq_iff_eq]
      exact ⟨⟨hb.1, hb.2.1⟩, hb.2.2⟩
    rw [if_pos hyes]
    refine wpAny_bind ?_
    show wpAny _ _ (typeOf (.ref t) >>= fun T => pure (T == .type "tuple")) _ _ s
    refine wpAny_bind (wpAny_typeOf ht.typeIs (wpAny_pure ?_))
    rw [if_pos (by decide)]
    first
      | exact wpAny_bind (wpAny_rule (wpAny_pure ⟨_, rfl, wpAny_pure (hw hb)⟩))
      | exact wpAny_bind (wpAny_rule (wpAny_bind (wpAny_pure (wpAny_pure ⟨_, rfl, wpAny_pure (hw hb)⟩))))
  · have hno : ¬ (((adj lo hi c items.length).1 == 0 && c == 1 && plc lo hi c items.length == items.length) = true) := by
      rw [Bool.and_eq_true, Bool.and_eq_true, beq_iff_eq, beq_iff_eq, beq_iff_eq]
      exact fun z => hb ⟨z.1.1, z.1.2, z.2⟩
    rw [if_neg hno]
    have hpick : ((List.range (plc lo hi c items.length)).filterMap fun k : Nat => items.toArray[((adj lo hi c items.length).1 + (k : Int) * c).toNat]?).toArray = (stepL items lo hi c).toArray := by
      unfold stepL
      simp only [List.getElem?_toArray]
    rw [hpick]
    have q := hn hb
    have hok : sizeOk (.seq (stepL items lo hi c).toArray) := by
      show (stepL items lo hi c).toArray.size ≤ sizeLine
      rw [List.size_toArray]
      exact hsz
    first
      | exact wpAny_bind (m := Builtin.Tuple.tupleExact _) (wpAny_newObj_type (wpAny_pure ⟨_, rfl, wpAny_pure q⟩) hok)
      | exact wpAny_bind (m := Builtin.Tuple.tupleExact _) (wpAny_newObj_type (wpAny_bind (wpAny_pure (wpAny_pure ⟨_, rfl, wpAny_pure q⟩))) hok)
      | exact wpAny_bind (wpAny_bind (m := Builtin.Tuple.tupleExact _) (wpAny_newObj_type (wpAny_pure (wpAny_pure ⟨_, rfl, wpAny_pure q⟩)) hok))
      | exact wpAny_bind (wpAny_bind (m := Builtin.Tuple.tupleExact _) (wpAny_newObj_type (wpAny_pure ⟨_, rfl, wpAny_pure q⟩) hok))
end
/-! ### places picked -/
theorem RepL.pick {K : PySem.W.Frag} {W : Wd} {xs : List V} {ds : List D} (l : RepL K W xs ds) (f : Nat → Nat) : ∀ is : List Nat, RepL K W (is.filterMap fun i => xs[f i]?) (is.filterMap fun i => ds[f i]?)
  | [] => .nil
  | i :: is => by
    rw [List.filterMap_cons, List.filterMap_cons]
    have ih := RepL.pick l f is
    cases e : ds[f i]? with
    | none =>
      have e2 : xs[f i]? = none := by
        rw [List.getElem?_eq_none_iff] at e ⊢
        rw [l.length]; exact e
      rw [e2]
      exact ih
    | some d =>
      obtain ⟨x, h1, h2⟩ := l.get e
      rw [h1]
      exact .cons h2 ih
theorem vals_pick {xs : List V} {us : List Value} (r : Vals xs us) (f : Nat → Nat) : ∀ is : List Nat, Vals (is.filterMap fun i => xs[f i]?) (is.filterMap fun i => us[f i]?)
  | [] => .nil
  | i :: is => by
    rw [List.filterMap_cons, List.filterMap_cons]
    have ih := vals_pick r f is
    cases e : xs[f i]? with
    | none =>
      have e2 : us[f i]? = none := by
        rw [List.getElem?_eq_none_iff] at e ⊢
        rw [← r.length]; exact e
      rw [e2]
      exact ih
    | some d =>
      obtain ⟨x, h1, h2⟩ := r.get e
      rw [h1]
      exact .cons h2 ih
theorem range_take {α : Type} (xs : List α) : ∀ k : Nat, ((List.range k).filterMap fun i => xs[i]?) = xs.take k
  | 0 => rfl
  | k + 1 => by
    rw [List.range_succ, List.filterMap_append, range_take xs k, List.take_succ]
    congr 1
theorem stepL_whole {α : Type} (xs : List α) (lo hi : Option Int) (h1 : (adj lo hi 1 xs.length).1 = 0) (h2 : plc lo hi 1 xs.length = xs.length) : stepL xs lo hi 1 = xs := by
  unfold stepL
  show ((List.range (plc lo hi 1 xs.length)).filterMap fun k : Nat => xs[((adj lo hi 1 xs.length).1 + (k : Int) * 1).toNat]?) = xs
  rw [h1, h2]
  have e : (fun k : Nat => xs[((0 : Int) + (k : Int) * 1).toNat]?) = fun k => xs[k]? := by
    funext k
    have : ((0 : Int) + (k : Int) * 1).toNat = k := by omega
    rw [this]
  rw [e, range_take, List.take_length]
theorem plc_rev (n : Nat) : plc none none (-1) n = n := by
  show Builtin.Slice.slicePlaces ((n : Int) - 1) (-1) (-1) = n
  unfold Builtin.Slice.slicePlaces
  rw [if_neg (by decide)]
  split
  · have e : (- -1 : Int) = 1 := rfl
    rw [e, Int.ediv_one]
    omega
  · omega
theorem stepL_rev {α : Type} (xs : List α) : stepL xs none none (-1) = xs.reverse := by
  unfold stepL
  show ((List.range (plc none none (-1) xs.length)).filterMap fun k : Nat => xs[(((xs.length : Int) - 1) + (k : Int) * (-1)).toNat]?) = xs.reverse
  rw [plc_rev]
  have e : ((List.range xs.length).filterMap fun k : Nat => xs[(((xs.length : Int) - 1) + (k : Int) * (-1)).toNat]?) = ((List.range xs.length).filterMap fun k => xs.reverse[k]?) := by
    have go : ∀ is : List Nat, (∀ k ∈ is, k < xs.length) → (is.filterMap fun k : Nat => xs[(((xs.length : Int) - 1) + (k : Int) * (-1)).toNat]?) = is.filterMap fun k => xs.reverse[k]? := by
      intro is
      induction is with
      | nil => intro _; rfl
      | cons k is ih =>
        intro h
        have hk := h k (List.mem_cons_self ..)
        have e : (((xs.length : Int) - 1) + (k : Int) * (-1)).toNat = xs.length - 1 - k := by omega
        rw [List.filterMap_cons, List.filterMap_cons, ih fun j hj => h j (List.mem_cons_of_mem _ hj), List.getElem?_reverse hk, e]
    exact go _ fun k hk => List.mem_range.mp hk
  have z := range_take xs.reverse xs.length
  rw [e, z, List.take_of_length_le (by rw [List.length_reverse]; exact Nat.le_refl _)]
/-! ### the rule -/
section
variable {X : Cx} {cls : Nat → Option Addr} {U : XW}
/-- t[lo:hi:c] by the heap -/
theorem sl_step {value slice : Expr} {pins : List (Addr × Obj)} {s : Shared} {σ : L2.St} {H : Hp} {a sl : Addr} {xs : List V} {vl vu vc : Value} {lo hi : Option Int} {c : Int} {Q : VK} (I : Inv X pins σ H s) (hx : SqT X.K H a xs) (hs : s.heap.IsSliceOf sl vl vu vc) (pl : IsPart vl lo) (pu : IsPart vu hi) (pc : IsPart vc (some c)) (h0 : c ≠ 0)
    (hsz : (stepL xs lo hi c).length ≤ sizeLine) (q1 : stepL xs lo hi c = xs → Q (.ref a) H) (q2 : ∀ p us, H p = none → Q (.ref p) (upd H p (FT us (stepL xs lo hi c))))
    (hsub : subscripted slice false (.ref a) (.ref sl) = operate [.ref a, .ref sl] (getItem (.ref a) (.ref sl))) :
    wpAny (model X.prog X.w) X.A (subscriptTail value slice (.ref a) (.ref sl)) (EP X pins σ Q) X.xe s := by
  obtain ⟨its, r, ht, hz⟩ := I.tuple hx
  have hl := r.length
  refine tail_any (ops := [.ref a, .ref sl]) ht.typeIs PyProof.Rows.slot_tuple_getitem.lookup ?_ hsub
  have rs : Vals (stepL xs lo hi c) (stepL its lo hi c) := by
    unfold stepL
    rw [hl]
    exact vals_pick r (fun k => ((adj lo hi c its.length).1 + (k : Int) * c).toNat) _
  refine getItem_tup_step ht hs pl pu pc h0 (fun hw => ?_) (fun hn => ?_) (by rw [← rs.length]; exact hsz)
  · obtain ⟨h1, h2, h3⟩ := hw
    subst h2
    rw [← hl] at h1 h3
    exact ⟨.ref a, H, I, rfl, q1 (stepL_whole xs lo hi h1 h3)⟩
  · exact ⟨.ref s.heap.objs.size, _, I.laidT (t' := s.toks) rs hsz, rfl, q2 _ _ (I.hok.fresh (Nat.le_refl _))⟩
end
end EV
/-! EvI: expressions. -/
namespace EV
open PySem PySem.Spec PyProof.Rows L2

section
variable {X : Cx} {cls : Nat → Option Addr} {U : XW} {C : Ctx} {a b c : Expr} {i j k : E} {pos : Pos}
/-- an expression and its IR, as a value and as a test -/
structure Good (X : Cx) (cls : Nat → Option Addr) (U : XW) (C : Ctx) (e : Expr) (i : E) : Prop where
  pe : PE X e (tD X.K X.w cls U (evE C i))
  pt : PT X e (tDT X.K X.w cls U (evE C i))
theorem tDT_tD {den : Env → Store → R D} {σ : L2.St} {H : Hp} {Q : Bool → Hp → Prop} (h : tDT X.K X.w cls U den σ H Q) : tD X.K X.w cls U den σ H (fun x H1 => ∃ c, x = .bl c ∧ Q c H1) := by
  obtain ⟨W, env, st, he, A, hb, q⟩ := h
  refine ⟨W, env, st, he, A, ?_⟩
  cases e : den env st with
  | ok d st' =>
    rw [e] at q
    obtain ⟨b, rfl⟩ := hb d st' e
    exact fun v W' H' x A' r => ⟨b, r.bl_inv, q b W' H' x A' rfl⟩
  | err k st' => rw [e] at q; exact q
  | bad => rw [e] at q; exact q
theorem good_val (h : PE X a (tD X.K X.w cls U (evE C i))) (he : ∀ whole, isTrue a X.env whole = (do let v ← whole; standAt a.pos; holding [v] (truthy v))) : Good X cls U C a i :=
  ⟨h, PT.mono (pt_val h he) fun σ H Q q => tDT_tD q⟩
theorem g_bin {op : Operator} (ha : Good X cls U C a i) (hb : Good X cls U C b j) : Good X cls U C (.BinOp a op b pos) (.bin op i j) :=
  good_val (PE.mono (pe_op (op_binD (cls := cls) (U := U) op) ha.pe hb.pe) fun σ H Q h => d_two (f := binD op) (fun env st => by rw [evE]) (fun x y H Q q => q) h) fun _ => rfl
theorem g_neg (ha : Good X cls U C a i) : Good X cls U C (.UnaryOp .USub a pos) (.neg i) := by
  refine good_val (PE.mono (pe_un un_neg ha.pe) fun σ H Q h => ?_) fun _ => rfl
  obtain ⟨W, env, st, he, A, q⟩ := h
  rw [evE] at q
  refine ⟨W, env, st, he, A, (q.bind).mono fun x H1 ⟨W1, st1, dx, x1, A1, r1, q1⟩ => ?_⟩
  cases dx with
  | int n => exact ⟨n, r1.int_inv, q1.val A1 (.int _)⟩
  | _ => exact q1.elim
theorem g_cmp {op : CmpOp} (hu : X.A.units + 64 < cLine) (hd : DicR X cls) (ha : Good X cls U C a i) (hb : Good X cls U C b j) (hm : behindInMarks op b = false) : Good X cls U C (.Compare a [op] [b] pos) (.cmp op i j) :=
  ⟨PE.mono (pe_cmpR (op_cmpD (cls := cls) (U := U) hu hd op) ha.pe hb.pe hm) fun σ H Q h => d_two (f := cmpD op) (fun env st => by rw [evE]) (fun x y H Q q => q) h,
   PT.mono (pt_cmpR (op_cmpD (cls := cls) (U := U) hu hd op) ha.pe hb.pe hm) fun σ H Q h => d_two (f := cmpD op) (fun env st => by rw [evE]) (fun x y H Q q => q) (tDT_tD h)⟩
theorem chain_read {o1 o2 : CmpOp} {σ : L2.St} {H : Hp} {Q : VK} (h : tD X.K X.w cls U (evE C (.chn o1 o2 i j k)) σ H Q) :
    tChain (rBin X cls U (cmpD o1)) (rBin X cls U (cmpD o2)) (tD X.K X.w cls U (evE C i)) (tD X.K X.w cls U (evE C j)) (tD X.K X.w cls U (evE C k)) σ H Q := by
  obtain ⟨W, env, st, he, A, q⟩ := h
  rw [evE] at q
  refine ⟨W, env, st, he, A, (q.bind).mono fun x H1 ⟨W1, st1, dx, x1, A1, r1, q1⟩ => ?_⟩
  refine ⟨W1, env, st1, he.mono x1.le, A1, (q1.bind).mono fun y H2 ⟨W2, st2, dy, x2, A2, r2, q2⟩ => ?_⟩
  refine ⟨W2, st2, dx, dy, A2, r1.mono x2.le, r2, (q2.bind).mono fun z H3 ⟨W3, st3, dz, x3, A3, r3, q3⟩ => ?_⟩
  cases dz with
  | bl t =>
    refine ⟨t, r3.bl_inv, ?_⟩
    cases t with
    | true =>
      rw [if_pos rfl]
      exact ⟨W3, env, st3, ((he.mono x1.le).mono x2.le).mono x3.le, A3, (q3.bind).mono fun v H4 ⟨W4, st4, dv, x4, A4, r4, q4⟩ => ⟨W4, st4, dy, dv, A4, (r2.mono x3.le).mono x4.le, r4, q4⟩⟩
    | false =>
      rw [if_neg Bool.false_ne_true]
      exact Aft.val A3 q3 (.bl _)
  | _ => exact q3.elim
theorem g_chn {o1 o2 : CmpOp} (hu : X.A.units + 64 < cLine) (hd : DicR X cls) (ha : Good X cls U C a i) (hb : Good X cls U C b j) (hc : Good X cls U C c k) (hm2 : behindInMarks o2 c = false) :
    Good X cls U C (.Compare a [o1, o2] [b, c] pos) (.chn o1 o2 i j k) :=
  ⟨PE.mono (pe_chain (op_cmpD (cls := cls) (U := U) hu hd o1) (op_cmpD (cls := cls) (U := U) hu hd o2) ha.pe hb.pe hc.pe hm2) fun σ H Q h => chain_read h,
   PT.mono (pt_chain (op_cmpD (cls := cls) (U := U) hu hd o1) (op_cmpD (cls := cls) (U := U) hu hd o2) ha.pe hb.pe hc.pe hm2) fun σ H Q h => chain_read (tDT_tD h)⟩
/-! ### and, or, not -/
theorem and_val {σ : L2.St} {H : Hp} {Q : VK} (h : tD X.K X.w cls U (evE C (.and i j)) σ H Q) : tAndV (tD X.K X.w cls U (evE C i)) (tD X.K X.w cls U (evE C j)) σ H Q := by
  obtain ⟨W, env, st, he, A, q⟩ := h
  rw [evE] at q
  refine ⟨W, env, st, he, A, (q.bind).mono fun x H1 ⟨W1, st1, dx, x1, A1, r1, q1⟩ => ?_⟩
  cases dx with
  | bl t =>
    refine ⟨t, r1.bl_inv, ?_⟩
    cases t with
    | true => rw [if_pos rfl]; exact ⟨W1, env, st1, he.mono x1.le, A1, q1⟩
    | false => rw [if_neg Bool.false_ne_true]; exact Aft.val A1 q1 (.bl _)
  | _ => exact q1.elim
theorem or_val {σ : L2.St} {H : Hp} {Q : VK} (h : tD X.K X.w cls U (evE C (.or i j)) σ H Q) : tOrV (tD X.K X.w cls U (evE C i)) (tD X.K X.w cls U (evE C j)) σ H Q := by
  obtain ⟨W, env, st, he, A, q⟩ := h
  rw [evE] at q
  refine ⟨W, env, st, he, A, (q.bind).mono fun x H1 ⟨W1, st1, dx, x1, A1, r1, q1⟩ => ?_⟩
  cases dx with
  | bl t =>
    refine ⟨t, r1.bl_inv, ?_⟩
    cases t with
    | true => rw [if_pos rfl]; exact Aft.val A1 q1 (.bl _)
    | false => rw [if_neg Bool.false_ne_true]; exact ⟨W1, env, st1, he.mono x1.le, A1, q1⟩
  | _ => exact q1.elim
/-- a test's own reading, from the IR's -/
theorem tst_one {den : Env → Store → R D} {f : D → Store → R D} {W : Wd} {env : Env} {st : Store} {σ : L2.St} {H : Hp} {Q Q' : Bool → Hp → Prop} (he : EnvOk X.K W σ env) (A : Ag X.K X.w cls W st H)
    (hf : ∀ d st', f d st' ≠ .bad → ∃ b, d = .bl b) (q : Aft X.K X.w cls U isB W H ((den env st).bind f) Q)
    (h : ∀ b W1 H1 st1, Ext W H W1 H1 → Ag X.K X.w cls W1 st1 H1 → den env st = .ok (.bl b) st1 → Aft X.K X.w cls U isB W1 H1 (f (.bl b) st1) Q → Q' b H1) : tDT X.K X.w cls U den σ H Q' := by
  refine ⟨W, env, st, he, A, fun d st' e => ?_, ?_⟩
  · rw [e] at q
    exact hf d st' fun z => by rw [R.bind_ok, z] at q; exact q
  · cases e : den env st with
    | ok d st' =>
      rw [e] at q
      obtain ⟨b, rfl⟩ := hf d st' fun z => by rw [R.bind_ok, z] at q; exact q
      intro t W' H' x A' r
      cases r
      exact h _ W' H' st' x A' e (Aft.shift x q)
    | err k st' => rw [e] at q; exact q
    | bad => rw [e] at q; exact q
theorem and_tst {σ : L2.St} {H : Hp} {Q : Bool → Hp → Prop} (h : tDT X.K X.w cls U (evE C (.and i j)) σ H Q) : tAnd (tDT X.K X.w cls U (evE C i)) (tDT X.K X.w cls U (evE C j)) σ H Q := by
  obtain ⟨W, env, st, he, A, hb, q⟩ := h
  rw [evE] at q
  refine tst_one he A (fun d st' hn => ?_) q fun t W1 H1 st1 x A1 e q1 => ?_
  · cases d with
    | bl t => exact ⟨t, rfl⟩
    | _ => exact absurd rfl hn
  · cases t with
    | true =>
      rw [if_pos rfl]
      refine ⟨W1, env, st1, he.mono x.le, A1, fun d st' e2 => ?_, q1⟩
      refine hb d st' ?_
      rw [evE, e]
      exact e2
    | false =>
      rw [if_neg Bool.false_ne_true]
      exact q1 false W1 H1 (Ext.refl _ _) A1 rfl
theorem or_tst {σ : L2.St} {H : Hp} {Q : Bool → Hp → Prop} (h : tDT X.K X.w cls U (evE C (.or i j)) σ H Q) : tOr (tDT X.K X.w cls U (evE C i)) (tDT X.K X.w cls U (evE C j)) σ H Q := by
  obtain ⟨W, env, st, he, A, hb, q⟩ := h
  rw [evE] at q
  refine tst_one he A (fun d st' hn => ?_) q fun t W1 H1 st1 x A1 e q1 => ?_
  · cases d with
    | bl t => exact ⟨t, rfl⟩
    | _ => exact absurd rfl hn
  · cases t with
    | false =>
      rw [if_neg Bool.false_ne_true]
      refine ⟨W1, env, st1, he.mono x.le, A1, fun d st' e2 => ?_, q1⟩
      refine hb d st' ?_
      rw [evE, e]
      exact e2
    | true =>
      rw [if_pos rfl]
      exact q1 true W1 H1 (Ext.refl _ _) A1 rfl
theorem g_not (ha : Good X cls U C a i) : Good X cls U C (.UnaryOp .Not a pos) (.not i) := by
  refine ⟨PE.mono (pe_not ha.pe) fun σ H Q h => ?_, PT.mono (pt_not ha.pt) fun σ H Q h => ?_⟩
  · obtain ⟨W, env, st, he, A, q⟩ := h
    rw [evE] at q
    refine ⟨W, env, st, he, A, (q.bind).mono fun x H1 ⟨W1, st1, dx, x1, A1, r1, q1⟩ => ?_⟩
    cases dx with
    | bl t => exact ⟨t, r1.bl_inv, Aft.val A1 q1 (.bl _)⟩
    | _ => exact q1.elim
  · obtain ⟨W, env, st, he, A, hb, q⟩ := h
    rw [evE] at q
    refine tst_one he A (fun d st' hn => ?_) q fun t W1 H1 st1 x A1 e q1 => ?_
    · cases d with
      | bl t => exact ⟨t, rfl⟩
      | _ => exact absurd rfl hn
    · exact q1 (!t) W1 H1 (Ext.refl _ _) A1 rfl
/-- a row of and, or -/
def andsI : E → List E → E
  | i, [] => i
  | i, j :: r => .and i (andsI j r)
def orsI : E → List E → E
  | i, [] => i
  | i, j :: r => .or i (orsI j r)
/-- expressions and their IRs, one by one -/
inductive Goods (X : Cx) (cls : Nat → Option Addr) (U : XW) (C : Ctx) : List Expr → List E → Prop
  | nil : Goods X cls U C [] []
  | cons {e : Expr} {i : E} {es : List Expr} {is : List E} : Good X cls U C e i → Goods X cls U C es is → Goods X cls U C (e :: es) (i :: is)
theorem ands_ok : ∀ {es : List Expr} {is : List E} {e : Expr} {i : E}, Good X cls U C e i → Goods X cls U C es is →
    PE X (.BoolOp .And (e :: es) pos) (tD X.K X.w cls U (evE C (andsI i is))) ∧ PW X (.BoolOp .And (e :: es) pos) (tDT X.K X.w cls U (evE C (andsI i is)))
  | _, _, _, _, h, .nil => ⟨pe_one h.pe, pw_and1 h.pt⟩
  | _, _, _, _, h, .cons g t => by
    obtain ⟨h1, h2⟩ := ands_ok g t
    exact ⟨PE.mono (pe_and h.pe h1) fun σ H Q q => and_val q, ⟨fun wh pins s σ H Q I q => (pw_and h.pt h2).run wh pins s σ H Q I (and_tst q)⟩⟩
theorem ors_ok : ∀ {es : List Expr} {is : List E} {e : Expr} {i : E}, Good X cls U C e i → Goods X cls U C es is →
    PE X (.BoolOp .Or (e :: es) pos) (tD X.K X.w cls U (evE C (orsI i is))) ∧ PW X (.BoolOp .Or (e :: es) pos) (tDT X.K X.w cls U (evE C (orsI i is)))
  | _, _, _, _, h, .nil => ⟨pe_one h.pe, pw_or1 h.pt⟩
  | _, _, _, _, h, .cons g t => by
    obtain ⟨h1, h2⟩ := ors_ok g t
    exact ⟨PE.mono (pe_or h.pe h1) fun σ H Q q => or_val q, ⟨fun wh pins s σ H Q I q => (pw_or h.pt h2).run wh pins s σ H Q I (or_tst q)⟩⟩
theorem g_ands {es : List Expr} {is : List E} (h : Good X cls U C a i) (t : Goods X cls U C es is) : Good X cls U C (.BoolOp .And (a :: es) pos) (andsI i is) := ⟨(ands_ok h t).1, (ands_ok h t).2.pt⟩
theorem g_ors {es : List Expr} {is : List E} (h : Good X cls U C a i) (t : Goods X cls U C es is) : Good X cls U C (.BoolOp .Or (a :: es) pos) (orsI i is) := ⟨(ors_ok h t).1, (ors_ok h t).2.pt⟩
/-! ### arguments, displays, subscripts -/
def listEs : List E → Es
  | [] => .nil
  | i :: r => .cons i (listEs r)
def noStar : Expr → Bool
  | .Starred _ _ => false
  | _ => true
theorem starEach_no {e : Expr} {es : List Expr} {env : PySem.Env} (h : noStar e = true) : starEach (e :: es) env = (false, eval e env) :: starEach es env := by
  cases e <;> first | rfl | (simp [noStar] at h)
theorem args_ok : ∀ {es : List Expr} {is : List E}, Goods X cls U C es is → es.all noStar = true → PA X es (tDs X.K X.w cls U (evEs C (listEs is)))
  | _, _, .nil, _ => d_nil C
  | _, _, .cons h t, e => by
    rw [List.all_cons, Bool.and_eq_true] at e
    exact d_cons h.pe (args_ok t e.2) (starEach_no e.1)
theorem plain_args {env : PySem.Env} : ∀ {es : List Expr}, es.all noStar = true → (backTo pos (starEach es env)).any (·.1) = false
  | [], _ => rfl
  | e :: es, h => by
    rw [List.all_cons, Bool.and_eq_true] at h
    rw [starEach_no h.1]
    have ih := plain_args (env := env) h.2
    simpa [backTo] using ih
theorem g_tup {es : List Expr} {is : List E} {k1 : Nat} (t : Goods X cls U C es is) (hs : es.all noStar = true) : Good X cls U C (.Tuple es k1 pos) (.tup (listEs is)) := by
  refine good_val (PE.mono (pe_tupF (args_ok t hs)) fun σ H Q h => ?_) fun _ => rfl
  obtain ⟨W, env, st, he, A, q⟩ := h
  rw [evE] at q
  refine ⟨W, env, st, he, A, (q.bind).mono fun xs H1 ⟨W1, st1, ds, x1, A1, r1, q1⟩ => ?_⟩
  obtain ⟨hb, q1⟩ := Aft.test q1
  simp only [decide_eq_true_eq] at hb
  have hz : ds.length ≤ sizeLine := by rw [sizeLine_eq]; omega
  exact ⟨by rw [r1.length]; exact hz, Aft.newTup A1 q1 r1 hz⟩
theorem g_lst {es : List Expr} {is : List E} (t : Goods X cls U C es is) (hs : es.all noStar = true) : Good X cls U C (.List es pos) (.lst (listEs is)) := by
  refine good_val (PE.mono (pe_lst (args_ok t hs)) fun σ H Q h => ?_) fun _ => rfl
  obtain ⟨W, env, st, he, A, q⟩ := h
  rw [evE] at q
  refine ⟨W, env, st, he, A, (q.bind).mono fun xs H1 ⟨W1, st1, ds, x1, A1, r1, q1⟩ => ?_⟩
  obtain ⟨hb, q1⟩ := Aft.test q1
  simp only [decide_eq_true_eq] at hb
  have hz : ds.length ≤ sizeLine := by rw [sizeLine_eq]; omega
  exact ⟨by rw [r1.length]; exact hz, Aft.newLst A1 q1 r1 hz⟩
theorem g_lstM {es : List Expr} {is : List E} (t : Goods X cls U C es is) (hs : es.all noStar = true) : Good X cls U C (.List es pos) (.lstM (listEs is)) := by
  refine good_val (PE.mono (pe_lst (args_ok t hs)) fun σ H Q h => ?_) fun _ => rfl
  obtain ⟨W, env, st, he, A, q⟩ := h
  rw [evE] at q
  refine ⟨W, env, st, he, A, (q.bind).mono fun xs H1 ⟨W1, st1, ds, x1, A1, r1, q1⟩ => ?_⟩
  obtain ⟨hb, q1⟩ := Aft.test q1
  simp only [decide_eq_true_eq] at hb
  have hz : ds.length ≤ sizeLine := by rw [sizeLine_eq]; omega
  exact ⟨by rw [r1.length]; exact hz, Aft.newMut A1 q1 r1 hz⟩
def notSlice : Expr → Bool
  | .Slice _ _ _ _ => false
  | _ => true
theorem plainIx_of (h : notSlice b = true) : PlainIx b := fun o i => by
  cases b <;> first | rfl | (simp [notSlice] at h)
theorem g_idx (hd : DicR X cls) (ha : Good X cls U C a i) (hb : Good X cls U C b j) (hs : notSlice b = true) : Good X cls U C (.Subscript a b pos) (.idx i j) :=
  good_val (PE.mono (pe_ix (ix_D (cls := cls) (U := U) hd) ha.pe hb.pe (plainIx_of hs)) fun σ H Q h => d_two (f := idxD) (fun env st => by rw [evE]) (fun x y H Q q => q) h) fun _ => rfl
/-- a slice's part -/
inductive GoodO (X : Cx) (cls : Nat → Option Addr) (U : XW) (C : Ctx) : Option Expr → Po → Prop
  | none : GoodO X cls U C none .no
  | some {e : Expr} {i : E} : Good X cls U C e i → GoodO X cls U C (some e) (.is i)
def tDO (K : PySem.W.Frag) (w : World) (cls : Nat → Option Addr) (U : XW) (den : Env → Store → R (Option Int)) : TO := fun σ H Q => ∃ (W : Wd) (env : Env) (st : Store), EnvOk K W σ env ∧ Ag K w cls W st H ∧ Aft K w cls U (fun _ o d => d = o) W H (den env st) Q
theorem goodO_po {o : Option Expr} {p : Po} (h : GoodO X cls U C o p) : PO X o (tDO X.K X.w cls U (evP C p)) := by
  cases h with
  | none =>
    refine ⟨fun pins s σ H Q I h => po_none.run pins s σ H Q I ?_⟩
    obtain ⟨W, env, st, he, A, q⟩ := h
    rw [evP] at q
    exact q none W H (Ext.refl _ _) A rfl
  | some g =>
    refine ⟨fun pins s σ H Q I h => (po_some g.pe).run pins s σ H Q I ?_⟩
    obtain ⟨W, env, st, he, A, q⟩ := h
    rw [evP] at q
    refine ⟨W, env, st, he, A, (q.bind).mono fun x H1 ⟨W1, st1, dx, x1, A1, r1, q1⟩ => ?_⟩
    cases dx with
    | int n => exact ⟨n, r1.int_inv, q1 (some n) W1 H1 (Ext.refl _ _) A1 rfl⟩
    | _ => exact q1.elim
theorem g_sli {lo hi : Option Expr} {p q : Po} {p2 : Pos} (ha : Good X cls U C a i) (hl : GoodO X cls U C lo p) (hh : GoodO X cls U C hi q) : Good X cls U C (.Subscript a (.Slice lo hi none p2) pos) (.sli i p q) := by
  refine good_val (PE.mono (pe_slice (sl_D (cls := cls) (U := U)) ha.pe (goodO_po hl) (goodO_po hh)) fun σ H Q h => ?_) fun _ => rfl
  obtain ⟨W, env, st, he, A, q⟩ := h
  rw [evE] at q
  refine ⟨W, env, st, he, A, (q.bind).mono fun x H1 ⟨W1, st1, dx, x1, A1, r1, q1⟩ => ?_⟩
  refine ⟨W1, env, st1, he.mono x1.le, A1, (q1.bind).mono fun l H2 ⟨W2, st2, dl, x2, A2, r2, q2⟩ => ?_⟩
  refine ⟨W2, env, st2, (he.mono x1.le).mono x2.le, A2, (q2.bind).mono fun u H3 ⟨W3, st3, du, x3, A3, r3, q3⟩ => ?_⟩
  cases r2
  cases r3
  exact ⟨W3, st3, dx, A3, (r1.mono x2.le).mono x3.le, q3⟩
/-- xs[::-1] -/
theorem RepL.reverse {K : PySem.W.Frag} {W : Wd} : ∀ {xs : List V} {ds : List D}, RepL K W xs ds → RepL K W xs.reverse ds.reverse
  | _, _, .nil => .nil
  | _, _, .cons h t => by
    rw [List.reverse_cons, List.reverse_cons]
    exact (RepL.reverse t).append (.one h)
theorem g_rev {n : Nat} {p1 p2 p3 : Pos} (ha : Good X cls U C a i) : Good X cls U C (.Subscript a (.Slice none none (some (.UnaryOp .USub (.Constant (.int 1) n p1) p2)) p3) pos) (.rev i) := by
  refine good_val ⟨fun pins s σ H Q I h => ?_⟩ fun _ => rfl
  obtain ⟨W, env, st, he, A, q⟩ := h
  rw [evE] at q
  refine Subscript_ (thn (ha.pe.run pins s σ H _ I ⟨W, env, st, he, A, q.bind⟩) fun v s1 ⟨x, H1, I1, r1, W1, st1, d, x1, A1, rd, q1⟩ => ?_)
  have hst : PO X (some (.UnaryOp .USub (.Constant (.int 1) n p1) p2)) (tPart (tUn (rU fun i => .int (-i)) (tC (.int 1)))) := po_some (pe_un un_neg pe_int)
  refine wpAny_Slice (thn (po_none.run pins s1 σ H1 (fun o H2 => o = none ∧ H2 = H1) I1 ⟨rfl, rfl⟩) fun vl s2 ⟨l, H2, I2, pl, el, e2⟩ => ?_)
  subst el e2
  refine thn (po_none.run pins s2 σ H2 (fun o H3 => o = none ∧ H3 = H2) I2 ⟨rfl, rfl⟩) fun vu s3 ⟨u, H3, I3, pu, eu, e3⟩ => ?_
  subst eu e3
  refine thn (hst.run pins s3 σ H3 (fun o H4 => o = some (-1) ∧ H4 = H3) I3 ⟨1, rfl, -1, rfl, rfl, rfl⟩) fun vs s4 ⟨o, H4, I4, ps, eo, e4⟩ => ?_
  subst eo e4
  have I5 : Inv X pins σ H4 { s4 with heap := s4.heap.push { cls := .type "slice", data := .fields #[vl, vu, vs] } } := I4.kept (t' := s4.toks) fun b ob q => Heap.get?_push_of_some _ q
  cases d with
  | lst ys =>
    obtain ⟨b, xs, e1, g, z, l⟩ := rd.lst_inv
    subst e1
    cases r1
    obtain ⟨its, r, ht, hz⟩ := I5.list (SqL.of (A1.sub _ _ g))
    have hlen := r.length
    refine tail_any (ops := [.ref b, .ref s4.heap.objs.size]) ht.isList.typeIs (PySem.slot_list_getitem.lookup) ?_ (by with_unfolding_all rfl)
    refine wpAny_getItem_list_slice ht.isList (Heap.IsSliceOf.new _ vl vu vs) pl pu ps (by decide) ?_ (by rw [List.size_toArray]; omega)
    rw [PySem.W.krv_pick]
    refine ⟨.ref _, _, I5.laid (t' := s4.toks) (o := .lst xs.reverse) (fun b ob q => Heap.get?_push_of_some _ q) (Nat.le_refl _) ?_, rfl, Aft.newLst A1 q1 l.reverse (by rw [List.length_reverse]; exact z) _ (I5.hok.fresh (Nat.le_refl _))⟩
    exact ⟨by rw [List.length_reverse]; exact hz, _, 0, r.reverse, Heap.get?_push_size _ rfl⟩
  | tup ys =>
    obtain ⟨b, us, xs, e1, g, z, l⟩ := rd.tup_inv
    subst e1
    cases r1
    have hr : stepL xs none none (-1) = xs.reverse := stepL_rev xs
    refine sl_step I5 (SqT_ft (A1.sub _ _ g)) (Heap.IsSliceOf.new _ vl vu vs) pl pu ps (by decide) (by rw [hr, List.length_reverse, l.length]; exact z) (fun e => ?_) (fun p us hp => ?_) (by with_unfolding_all rfl)
    · rw [hr] at e
      exact q1.val A1 (.tup g (by rw [List.length_reverse]; exact z) (by have := l.reverse; rw [e] at this; exact this))
    · rw [hr]
      exact Aft.newTup A1 q1 l.reverse (by rw [List.length_reverse]; exact z) p us hp
  | _ => exact q1.elim
theorem g_stp {lo hi : Option Expr} {p q : Po} {p3 : Pos} (ha : Good X cls U C a i) (hl : GoodO X cls U C lo p) (hh : GoodO X cls U C hi q) (hc : Good X cls U C c k) : Good X cls U C (.Subscript a (.Slice lo hi (some c) p3) pos) (.stp i p q k) := by
  refine good_val ⟨fun pins s σ H Q I h => ?_⟩ fun _ => rfl
  obtain ⟨W, env, st, he, A, q⟩ := h
  rw [evE] at q
  refine Subscript_ (thn (ha.pe.run pins s σ H _ I ⟨W, env, st, he, A, q.bind⟩) fun v s1 ⟨x, H1, I1, r1, W1, st1, d, x1, A1, rd, q1⟩ => ?_)
  refine wpAny_Slice (thn ((goodO_po hl).run pins s1 σ H1 _ I1 ⟨W1, env, st1, he.mono x1.le, A1, q1.bind⟩) fun vl s2 ⟨l, H2, I2, pl, W2, st2, dl, x2, A2, el, q2⟩ => ?_)
  subst el
  refine thn ((goodO_po hh).run pins s2 σ H2 _ I2 ⟨W2, env, st2, (he.mono x1.le).mono x2.le, A2, q2.bind⟩) fun vu s3 ⟨u, H3, I3, pu, W3, st3, du, x3, A3, eu, q3⟩ => ?_
  subst eu
  have hv : tPart (tD X.K X.w cls U (evE C k)) σ H3 fun o H4 => ∃ n W4 st4, o = some n ∧ Ext W3 H3 W4 H4 ∧ Ag X.K X.w cls W4 st4 H4 ∧ Aft X.K X.w cls U (Rep X.K) W4 H4 (stpD d dl du (.int n) st4) Q := by
    refine ⟨W3, env, st3, ((he.mono x1.le).mono x2.le).mono x3.le, A3, (q3.bind).mono fun y H4 ⟨W4, st4, dk, x4, A4, rk, q4⟩ => ?_⟩
    cases dk with
    | int n => exact ⟨n, rk.int_inv, n, W4, st4, rfl, x4, A4, q4⟩
    | _ => cases d <;> (unfold stpD at q4; exact q4.elim)
  refine thn ((po_some hc.pe).run pins s3 σ H3 _ I3 hv) fun vs s4 ⟨o, H4, I4, ps, n, W4, st4, eo, x4, A4, q4⟩ => ?_
  subst eo
  have I5 : Inv X pins σ H4 { s4 with heap := s4.heap.push { cls := .type "slice", data := .fields #[vl, vu, vs] } } := I4.kept (t' := s4.toks) fun b ob q => Heap.get?_push_of_some _ q
  unfold stpD at q4
  cases d with
  | tup ys =>
    obtain ⟨hb, q4⟩ := Aft.test q4
    rw [Bool.and_eq_true, decide_eq_true_eq, decide_eq_true_eq, sizeLine_lim] at hb
    obtain ⟨b, us, xs, e1, g, z, l⟩ := (((rd.mono x2.le).mono x3.le).mono x4.le).tup_inv
    subst e1
    cases r1
    have ls : RepL X.K W4 (stepL xs dl du n) (stepL ys dl du n) := by
      unfold stepL
      rw [l.length]
      exact l.pick (fun k => ((adj dl du n ys.length).1 + (k : Int) * n).toNat) _
    refine sl_step I5 (SqT_ft (A4.sub _ _ g)) (Heap.IsSliceOf.new _ vl vu vs) pl pu ps hb.1 (by rw [ls.length]; exact hb.2) (fun e => ?_) (fun p us hp => ?_) (by with_unfolding_all rfl)
    · exact q4.val A4 (.tup g hb.2 (by rw [e] at ls; exact ls))
    · exact Aft.newTup A4 q4 ls hb.2 p us hp
  | _ => exact q4.elim
/-! ### calls of built-in functions -/
theorem g_blt {f : Blt} {id : String} {x : Str} {p : Pos} {es : List Expr} {is : List E} (hc : CallR X (.builtin id) (rC X cls U (bltD f))) (hg : Gl X x) (hm : X.mg x = none) (hv : bootBuiltins x = some (.builtin id)) (hn : x ≠ "__name__") (hdb : (x == ("__debug__" : Str)) = false)
    (h : Good X cls U C a i) (t : Goods X cls U C es is) (hs : (a :: es).all noStar = true) : Good X cls U C (.Call (.Name x p) (a :: es) [] pos) (.blt f (.cons i (listEs is))) := by
  have hs' := hs
  rw [List.all_cons, Bool.and_eq_true] at hs'
  refine good_val (PE.mono (pe_callB hc hg hm hv (args_ok (.cons h t) hs) hn hdb (starEach_no hs'.1) (plain_args hs'.2)) fun σ H Q h => ?_) fun _ => rfl
  obtain ⟨W, env, st, he, A, q⟩ := h
  rw [evE] at q
  exact ⟨W, env, st, he, A, (q.bind).mono fun xs H1 ⟨W1, st1, ds, x1, A1, r1, q1⟩ => ⟨W1, st1, ds, A1, r1, q1⟩⟩
theorem g_bltT {f : Blt} {T : String} {x : Str} {p : Pos} {es : List Expr} {is : List E} (hc : CallR X (.type T) (rC X cls U (bltD f))) (hg : Gl X x) (hm : X.mg x = none) (hv : bootBuiltins x = some (.type T)) (hn : x ≠ "__name__") (hdb : (x == ("__debug__" : Str)) = false)
    (h : Good X cls U C a i) (t : Goods X cls U C es is) (hs : (a :: es).all noStar = true) : Good X cls U C (.Call (.Name x p) (a :: es) [] pos) (.blt f (.cons i (listEs is))) := by
  have hs' := hs
  rw [List.all_cons, Bool.and_eq_true] at hs'
  refine good_val (PE.mono (pe_callTy hc hg hm hv (args_ok (.cons h t) hs) hn hdb (starEach_no hs'.1) (plain_args hs'.2)) fun σ H Q h => ?_) fun _ => rfl
  obtain ⟨W, env, st, he, A, q⟩ := h
  rw [evE] at q
  exact ⟨W, env, st, he, A, (q.bind).mono fun xs H1 ⟨W1, st1, ds, x1, A1, r1, q1⟩ => ⟨W1, st1, ds, A1, r1, q1⟩⟩
/-- isinstance(x, T) -/
theorem g_isT {t : Kd} (ht : t ≠ .non) {x : Str} {p p2 : Pos} (hg : Gl X "isinstance") (hm : X.mg "isinstance" = none) (hg2 : Gl X x) (hm2 : X.mg x = none) (hv2 : bootBuiltins x = some (.type t.nm)) (hn2 : x ≠ "__name__") (hdb2 : (x == ("__debug__" : Str)) = false)
    (h : Good X cls U C a i) (hs : noStar a = true) : Good X cls U C (.Call (.Name "isinstance" p) [a, .Name x p2] [] pos) (.blt (.isT t) (.cons i .nil)) := by
  have hb : PE X (.Name x p2) (tC (.ty t.nm)) := pe_bltn hg2 hm2 hv2 rfl hn2 hdb2
  refine good_val (PE.mono (pe_callB (cd_isT (cls := cls) (U := U) t ht) hg hm (by decide +kernel) (pa_cons h.pe (pa_cons hb pa_nil rfl) (starEach_no hs)) (by decide) (by decide) (starEach_no hs) rfl) fun σ H Q h => ?_) fun _ => rfl
  obtain ⟨W, env, st, he, A, q⟩ := h
  rw [evE, evEs, R.bind_assoc] at q
  refine ⟨W, env, st, he, A, (q.bind).mono fun x H1 ⟨W1, st1, d, x1, A1, r1, q1⟩ => ?_⟩
  rw [evEs] at q1
  exact ⟨W1, st1, x, d, rfl, A1, r1, q1⟩
end
end EV
/-! EvJ: targets, what is walked, comprehensions. -/
namespace EV
open PySem PySem.Spec PyProof.Rows L2

section
variable {K : PySem.W.Frag} {w : World} {cls : Nat → Option Addr} {W W' W0 : Wd} {H H' H0 : Hp} {st : Store}
/-- an object beside the store and the frozen part is laid or changed -/
theorem Ag.aside (A : Ag K w cls W st H) {p : Addr} {o : HO} (h1 : p ∉ W.ρ) (h2 : W.G p = none) : Ag K w cls W st (upd H p o) := by
  refine ⟨fun b u e => ?_, A.len, A.nd, A.out, fun i ob a e1 e2 => ?_⟩
  · rw [upd_ne fun z => by rw [z, h2] at e; cases e]; exact A.sub b u e
  · exact (A.obj i ob a e1 e2).keep (Wd.Le.refl _) (upd_ne fun z => h1 (z ▸ List.mem_of_getElem? e2))
theorem Ag.fresh (A : Ag K w cls W st H) {p : Addr} (hp : H p = none) : p ∉ W.ρ ∧ W.G p = none := by
  refine ⟨fun h => A.tracked h hp, ?_⟩
  cases q : W.G p with
  | none => rfl
  | some u => rw [A.sub _ _ q] at hp; cases hp
theorem Ext.aside (x : Ext W0 H0 W H) {p : Addr} {o : HO} (hp : H0 p = none) : Ext W0 H0 W (upd H p o) := by
  refine ⟨x.g, x.r, fun a u e hn => ?_, fun a h => ?_, x.gn, fun a u v e => by rw [upd_ne (ne_of_none e hp)]; exact x.fz a u v e⟩
  · rw [upd_ne (ne_of_none e hp)]; exact x.fr a u e hn
  · by_cases ha : a = p
    · subst ha; rw [upd_same]; simp
    · rw [upd_ne ha]; exact x.dom a h
/-- what is tracked beside the store stays beside it -/
theorem Ext.beside (x : Ext W H W' H') {p : Addr} (h0 : H p ≠ none) (h1 : p ∉ W.ρ) (h2 : W.G p = none) : p ∉ W'.ρ ∧ W'.G p = none := by
  obtain ⟨m, e, hm⟩ := x.r
  refine ⟨fun h => ?_, ?_⟩
  · rw [e] at h
    rcases List.mem_append.mp h with h | h
    · exact h1 h
    · exact h0 (hm p h)
  · cases q : W'.G p with
    | none => rfl
    | some u =>
      rcases x.gn p (by rw [q]; simp) with z | z
      · exact absurd h2 z
      · exact absurd z h0
end

theorem R.test_ok {α : Type} {b : Bool} {r : R α} {a : α} {st : Store} (h : R.test b r = .ok a st) : b = true ∧ r = .ok a st := by
  cases b with
  | true => exact ⟨rfl, h⟩
  | false => simp at h
theorem R.bind_ok_inv {α β : Type} {r : R α} {f : α → Store → R β} {b : β} {st : Store} (h : r.bind f = .ok b st) : ∃ a s1, r = .ok a s1 ∧ f a s1 = .ok b st := by
  cases r with
  | ok a s1 => exact ⟨a, s1, rfl, h⟩
  | err k s1 => simp at h
  | bad => simp at h
theorem R.of_ok {α : Type} {o : Option α} {a : α} {st s1 : Store} (h : R.of o st = .ok a s1) : o = some a ∧ s1 = st := by
  cases o with
  | none => simp at h
  | some b =>
    simp only [R.of_some, R.ok.injEq] at h
    exact ⟨by rw [h.1], h.2.symm⟩
/-! ### targets -/
def tgs : List Nat → TGs
  | [] => gNil
  | i :: is => gCons (gName i) (tgs is)
def tgR (K : PySem.W.Frag) : Tg → TG
  | .one i => gName i
  | .many is => gTup K is.length (tgs is)
def Tg.slots : Tg → List Nat
  | .one i => [i]
  | .many is => is
/-- an item as it comes: a datum, or a new pair of two -/
def ItR (K : PySem.W.Frag) (W : Wd) (H : Hp) (x : V) (d : D) : Prop := Rep K W x d ∨ ∃ T x1 x2 d1 d2, x = .ref T ∧ H T = some (.tup [x1, x2]) ∧ d = .tup [d1, d2] ∧ Rep K W x1 d1 ∧ Rep K W x2 d2
section
variable {K : PySem.W.Frag} {w : World} {cls : Nat → Option Addr} {W : Wd} {H : Hp} {st : Store}
theorem wipe_set {σ : L2.St} {i : Nat} {o : Option V} : ∀ {vs : List Nat}, i ∈ vs → L2.wipe (σ.set i o) vs = L2.wipe σ vs
  | v :: vs, h => by
    unfold L2.wipe
    by_cases hi : i ∈ vs
    · rw [wipe_set hi]
    · have e : i = v := by
        rcases List.mem_cons.mp h with h | h
        · exact h
        · exact absurd h hi
      subst e
      have key : ∀ (vs : List Nat), i ∉ vs → L2.wipe (σ.set i o) vs = (L2.wipe σ vs).set i o := by
        intro vs
        induction vs with
        | nil => intro _; rfl
        | cons u us ih =>
          intro hn
          rw [List.mem_cons, not_or] at hn
          unfold L2.wipe
          rw [ih hn.2, List.set_comm _ _ hn.1]
      rw [key vs hi, List.set_set]
theorem wipe_sub {σ : L2.St} : ∀ {us vs : List Nat}, (∀ u ∈ us, u ∈ vs) → L2.wipe (L2.wipe σ us) vs = L2.wipe σ vs
  | [], _, _ => rfl
  | u :: us, vs, h => by
    rw [L2.wipe, wipe_set (h u List.mem_cons_self), wipe_sub fun v hv => h v (List.mem_cons_of_mem _ hv)]
theorem tgs_run : ∀ {is : List Nat} {xs : List V} {ds : List D} {env env' : Env} {σ : L2.St} {Q : L2.St → Hp → Prop}, RepL K W xs ds → EnvOk K W σ env → asgs is ds env = some env' →
    (∀ σ', EnvOk K W σ' env' → (∀ vs, (∀ i ∈ is, i ∈ vs) → L2.wipe σ' vs = L2.wipe σ vs) → Q σ' H) → tgs is xs σ H Q
  | [], _, _, env, env', σ, Q, l, he, e, h => by
    cases l with
    | nil =>
      simp only [asgs, Option.some.injEq] at e
      subst e
      exact ⟨rfl, h σ he fun _ _ => rfl⟩
    | cons _ _ => simp [asgs] at e
  | i :: is, _, _, env, env', σ, Q, l, he, e, h => by
    cases l with
    | nil => simp [asgs] at e
    | cons r t =>
      rw [asgs] at e
      refine ⟨_, _, rfl, tgs_run t (he.set i r) e fun σ' h1 h2 => h σ' h1 fun vs hv => ?_⟩
      rw [h2 vs fun j hj => hv j (List.mem_cons_of_mem _ hj), wipe_set (hv i List.mem_cons_self)]
theorem asgs_len : ∀ {is : List Nat} {ds : List D} {env env' : Env}, asgs is ds env = some env' → ds.length = is.length
  | [], [], _, _, _ => rfl
  | [], _ :: _, _, _, e => by simp [asgs] at e
  | _ :: _, [], _, _, e => by simp [asgs] at e
  | i :: is, d :: ds, env, env', e => by rw [asgs] at e; rw [List.length_cons, List.length_cons, asgs_len e]
theorem tg_run {t : Tg} {x : V} {d : D} {env env' : Env} {σ : L2.St} {Q : L2.St → Hp → Prop} (A : Same W.G H) (r : ItR K W H x d) (ho : (∃ i, t = .one i) → Rep K W x d) (he : EnvOk K W σ env) (e : asg t d env = some env')
    (h : ∀ σ', EnvOk K W σ' env' → (∀ vs, (∀ i ∈ t.slots, i ∈ vs) → L2.wipe σ' vs = L2.wipe σ vs) → Q σ' H) : tgR K t x σ H Q := by
  cases t with
  | one i =>
    simp only [asg, Option.some.injEq] at e
    subst e
    exact h _ (he.set i (ho ⟨i, rfl⟩)) fun vs hv => wipe_set (hv i (by simp [Tg.slots]))
  | many is =>
    rcases r with r | ⟨T, x1, x2, d1, d2, rfl, hT, rfl, r1, r2⟩
    · cases d with
      | tup ds =>
        obtain ⟨a, us, xs, rfl, g, z, l⟩ := r.tup_inv
        have e' : asgs is ds env = some env' := e
        exact ⟨a, xs, rfl, SqT_ft (A _ _ g), by rw [l.length]; exact asgs_len e', tgs_run l he e' h⟩
      | _ => simp [asg] at e
    · have e' : asgs is [d1, d2] env = some env' := e
      exact ⟨T, [x1, x2], rfl, SqT.of hT, asgs_len (ds := [d1, d2]) e', tgs_run (.cons r1 (.cons r2 .nil)) he e' h⟩
end

/-! ### what is walked -/
def YR (K : PySem.W.Frag) (W : Wd) (H : Hp) (x : V) (H' : Hp) (d : D) : Prop := (H' = H ∧ Rep K W x d) ∨
  ∃ T x1 x2 d1 d2, x = .ref T ∧ H T = none ∧ H' = upd H T (.tup [x1, x2]) ∧ d = .tup [d1, d2] ∧ Rep K W x1 d1 ∧ Rep K W x2 d2
/-- J gives the items, as long as what it walks stands still; pr: the pairs are new ones -/
def WalkD (K : PySem.W.Frag) (w : World) (cls : Nat → Option Addr) (W0 : Wd) (J : L2.It) (items : List D) (g : Grd) (pr : Bool) (P : Hp → Prop := fun _ => True) : Prop := ∀ W st H, W0.Le W → Ag K w cls W st H → g.holds st = true → P H →
  (∀ (i : Nat) (d : D), items[i]? = some d → J.go i H ∧ ∀ x H', J.yld i H x H' → YR K W H x H' d ∧ (pr = false → H' = H ∧ Rep K W x d)) ∧ J.stop items.length H
/-- a lock that is laid ahead of the walk -/
def Grd.isDic : Grd → Bool
  | .dic _ _ => true
  | _ => false
def tDI (K : PySem.W.Frag) (w : World) (cls : Nat → Option Addr) (U : XW) (pr : Bool) (den : Env → Store → R (List D × Grd)) : TI := fun σ H Rr => ∃ (W : Wd) (env : Env) (st : Store), EnvOk K W σ env ∧ Ag K w cls W st H ∧
  (∀ p st', den env st = .ok p st' → p.2.isDic = false) ∧
  Aft K w cls U (fun W' (J : L2.It) p => p.1.length ≤ sizeLine ∧ WalkD K w cls W' J p.1 p.2 pr) W H (den env st) Rr
theorem PI.mono {X : Cx} {tg it : Expr} {t t' : TI} (h : PI X tg it t) (m : ∀ σ H Q, t' σ H Q → t σ H Q) : PI X tg it t' := ⟨fun pins s σ H Q I q => h.run pins s σ H Q I (m σ H Q q)⟩
theorem PI.or {X : Cx} {tg it : Expr} {t t' : TI} (h : PI X tg it t) (h' : PI X tg it t') : PI X tg it (fun σ H Q => t σ H Q ∨ t' σ H Q) := ⟨fun pins s σ H Q I q => q.elim (h.run pins s σ H Q I) (h'.run pins s σ H Q I)⟩
/-- the IR's walk -/
structure GoodI (X : Cx) (cls : Nat → Option Addr) (U : XW) (C : Ctx) (tg it : Expr) (i : It) (pr : Bool) : Prop where
  pi : PI X tg it (tDI X.K X.w cls U pr (evI C i))
section
variable {X : Cx} {cls : Nat → Option Addr} {U : XW} {C : Ctx} {a b c tg : Expr} {i j k : E} {pos : Pos}
theorem holds_lst {g : Nat} {xs : List D} {st : Store} (h : (Grd.lst g xs).holds st = true) : st[g]? = some (.lst xs) := by
  simp only [Grd.holds] at h
  split at h
  · rename_i ys e
    have := D.of_sames _ _ h
    rw [e, this]
  · cases h
theorem holds_lck {g : Nat} {xs : List (D × D)} {st : Store} (h : (Grd.lck g xs).holds st = true) : st[g]? = some (.lck xs) := by
  simp only [Grd.holds] at h
  split at h
  · rename_i ys e
    have := of_sameKv _ _ h
    rw [e, this]
  · cases h
theorem holds_dic {g : Nat} {xs : List (D × D)} {st : Store} (h : (Grd.dic g xs).holds st = true) : st[g]? = some (.lck xs) := holds_lck (g := g) (xs := xs) h
/-- a list, a tuple, a text walked -/
theorem gi_seq (h : Good X cls U C a i) : PI X tg a (fun σ H Rr => ∃ (W : Wd) (env : Env) (st : Store), EnvOk X.K W σ env ∧ Ag X.K X.w cls W st H ∧
    (∀ d st', evE C i env st = .ok d st' → (∀ n, d ≠ .ref n) ∨ ∃ n xs, d = .ref n ∧ st'[n]? = some (.lst xs)) ∧
    Aft X.K X.w cls U (fun W' (J : L2.It) p => p.1.length ≤ sizeLine ∧ WalkD X.K X.w cls W' J p.1 p.2 false) W H (evI C (.seq i) env st) Rr) := by
  refine PI.mono (PI.or (pi_list (tg := tg) h.pe) (PI.or (pi_tup h.pe) (pi_str h.pe))) fun σ H Q q => ?_
  obtain ⟨W, env, st, he, A, hd, q⟩ := q
  rw [evI] at q
  cases e : evE C i env st with
  | bad => rw [e] at q; exact q.elim
  | err k st' =>
    rw [e] at q
    exact .inl ⟨W, env, st, he, A, by rw [e]; exact q⟩
  | ok d st' =>
    have hd' := hd d st' e
    rw [e] at q
    have q : Aft X.K X.w cls U (fun W' (J : L2.It) p => p.1.length ≤ sizeLine ∧ WalkD X.K X.w cls W' J p.1 p.2 false) W H (seqIt d st') Q := q
    cases d with
    | tup ds =>
      refine .inr (.inl ⟨W, env, st, he, A, ?_⟩)
      rw [e]
      intro v W1 H1 x1 A1 r1
      obtain ⟨p, us, xs, rfl, g, z, l⟩ := r1.tup_inv
      refine ⟨p, rfl, ⟨xs, SqT_ft (A1.sub _ _ g)⟩, q _ W1 H1 x1 A1 ⟨z, fun W2 st2 H2 le A2 _ _ => ?_⟩⟩
      have hq : SqT X.K H2 p xs := SqT_ft (A2.sub _ _ (le.g _ _ g))
      refine ⟨fun n d hn => ?_, ⟨xs, hq, by rw [l.length]; exact Nat.le_refl _⟩⟩
      obtain ⟨y, h1, h2⟩ := l.get hn
      refine ⟨⟨xs, y, hq, h1⟩, fun x H' hy => ?_⟩
      obtain ⟨rfl, hy⟩ := hy
      have := hy xs hq
      rw [h1] at this; cases this
      exact ⟨.inl ⟨rfl, h2.mono le⟩, fun _ => ⟨rfl, h2.mono le⟩⟩
    | lst ds =>
      refine .inl ⟨W, env, st, he, A, ?_⟩
      rw [e]
      intro v W1 H1 x1 A1 r1
      obtain ⟨p, xs, rfl, g, z, l⟩ := r1.lst_inv
      refine ⟨p, rfl, ⟨xs, SqL.of (A1.sub _ _ g)⟩, q _ W1 H1 x1 A1 ⟨z, fun W2 st2 H2 le A2 _ _ => ?_⟩⟩
      have hq : SqL X.K H2 p xs := SqL.of (A2.sub _ _ (le.g _ _ g))
      refine ⟨fun n d hn => ?_, ⟨xs, hq, by rw [l.length]; exact Nat.le_refl _⟩⟩
      obtain ⟨y, h1, h2⟩ := l.get hn
      refine ⟨⟨xs, y, hq, h1⟩, fun x H' hy => ?_⟩
      obtain ⟨rfl, hy⟩ := hy
      have := hy xs hq
      rw [h1] at this; cases this
      exact ⟨.inl ⟨rfl, h2.mono le⟩, fun _ => ⟨rfl, h2.mono le⟩⟩
    | scr ns =>
      refine .inl ⟨W, env, st, he, A, ?_⟩
      rw [e]
      intro v W1 H1 x1 A1 r1
      obtain ⟨p, rfl, g, z⟩ := r1.scr_inv
      refine ⟨p, rfl, ⟨_, A1.sub.seq g⟩, q _ W1 H1 x1 A1 ⟨by rw [List.length_map]; exact z, fun W2 st2 H2 le A2 _ _ => ?_⟩⟩
      have hq : SqL X.K H2 p (ns.map V.int) := A2.sub.seq (le.g.seq g)
      refine ⟨fun n d hn => ?_, ⟨_, hq, by simp⟩⟩
      obtain ⟨y, h1, h2⟩ := (RepL.ints (K := X.K) (W := W2) ns).get hn
      refine ⟨⟨_, y, hq, h1⟩, fun x H' hy => ?_⟩
      obtain ⟨rfl, hy⟩ := hy
      have := hy _ hq
      rw [h1] at this; cases this
      exact ⟨.inl ⟨rfl, h2⟩, fun _ => ⟨rfl, h2⟩⟩
    | str z =>
      refine .inr (.inr ⟨W, env, st, he, A, ?_⟩)
      rw [e]
      intro v W1 H1 x1 A1 r1
      refine ⟨z, r1.str_inv, ?_⟩
      have q : Aft X.K X.w cls U (fun W' (J : L2.It) p => p.1.length ≤ sizeLine ∧ WalkD X.K X.w cls W' J p.1 p.2 false) W H (R.test (decide (z.length ≤ lim)) (.ok (z.cps.toList.map fun c => D.str ⟨#[c]⟩, .no) st')) Q := q
      obtain ⟨hz, q⟩ := Aft.test q
      simp only [decide_eq_true_eq, sizeLine_lim] at hz
      refine q _ W1 H1 x1 A1 ⟨by rw [List.length_map, Array.length_toList]; exact hz, fun W2 st2 H2 le A2 _ _ => ⟨fun n d hn => ?_, ?_⟩⟩
      · simp only [List.getElem?_map, Option.map_eq_some_iff] at hn
        obtain ⟨c, h1, rfl⟩ := hn
        have hlt : n < z.cps.size := by
          have := (List.getElem?_eq_some_iff.mp h1).1
          simpa using this
        refine ⟨hlt, fun x H' hy => ?_⟩
        obtain ⟨rfl, c', h2, rfl⟩ := hy
        rw [Array.getElem?_toList] at h1
        rw [h1] at h2; cases h2
        exact ⟨.inl ⟨rfl, .str _⟩, fun _ => ⟨rfl, .str _⟩⟩
      · show z.cps.size ≤ _
        simp
    | ref n =>
      rcases hd' with hd' | ⟨n', xs, e1, e2⟩
      · exact absurd rfl (hd' n)
      · cases e1
        refine .inl ⟨W, env, st, he, A, ?_⟩
        rw [e]
        simp only [seqIt, e2] at q
        intro v W1 H1 x1 A1 r1
        obtain ⟨p, rfl, hp⟩ := r1.ref_inv
        obtain ⟨vs, hv, l, z⟩ := A1.obj n _ p e2 hp
        refine ⟨p, rfl, ⟨vs, SqL.of hv⟩, q _ W1 H1 x1 A1 ⟨z, fun W2 st2 H2 le A2 hh _ => ?_⟩⟩
        obtain ⟨us, hu, l2, z2⟩ := A2.obj n _ p (holds_lst hh) (le.at hp)
        have hq : SqL X.K H2 p us := SqL.of hu
        refine ⟨fun m d hn => ?_, ⟨us, hq, by rw [l2.length]; exact Nat.le_refl _⟩⟩
        obtain ⟨y, h1, h2⟩ := l2.get hn
        refine ⟨⟨us, y, hq, h1⟩, fun x H' hy => ?_⟩
        obtain ⟨rfl, hy⟩ := hy
        have := hy us hq
        rw [h1] at this; cases this
        exact ⟨.inl ⟨rfl, h2⟩, fun _ => ⟨rfl, h2⟩⟩
    | non => exact q.elim
    | bl _ => exact q.elim
    | int _ => exact q.elim
theorem gi_seq' (h : Good X cls U C a i) : PI X tg a (tDI X.K X.w cls U false (evI C (.seq i))) := by
  refine PI.mono (gi_seq h) fun σ H Q q => ?_
  obtain ⟨W, env, st, he, A, hd, q⟩ := q
  refine ⟨W, env, st, he, A, fun d st' e => ?_, q⟩
  cases d with
  | ref n =>
    refine .inr ?_
    rw [evI, e] at q
    simp only [R.bind_ok, seqIt] at q
    cases e2 : st'[n]? with
    | none =>
      simp only [e2] at q
      exact q.elim
    | some o =>
      cases o with
      | lst xs => exact ⟨n, xs, rfl, e2⟩
      | dic kvs => simp only [e2] at q; exact q.elim
      | lck kvs => simp only [e2] at q; exact q.elim
      | ins _ _ => simp only [e2] at q; exact q.elim
  | _ => exact .inl fun n z => nomatch z
/-- no dict is walked -/
def It.plain : It → Bool
  | .keys _ => false
  | .items _ => false
  | _ => true
theorem seqIt_nodic {d : D} {st st' : Store} {p : List D × Grd} (h : seqIt d st = .ok p st') : p.2.isDic = false := by
  unfold seqIt at h
  split at h
  · simp only [R.ok.injEq] at h; rw [← h.1]; rfl
  · simp only [R.ok.injEq] at h; rw [← h.1]; rfl
  · simp only [R.ok.injEq] at h; rw [← h.1]; rfl
  · obtain ⟨_, h⟩ := R.test_ok h
    simp only [R.ok.injEq] at h; rw [← h.1]; rfl
  · split at h
    · simp only [R.ok.injEq] at h; rw [← h.1]; rfl
    · exact absurd h (by simp)
  · exact absurd h (by simp)
theorem rng2_nodic {x y : D} {st st' : Store} {p : List D × Grd} (h : rng2 x y st = .ok p st') : p.2.isDic = false := by
  unfold rng2 at h
  split at h
  · obtain ⟨_, h⟩ := R.test_ok h
    simp only [R.ok.injEq] at h; rw [← h.1]; rfl
  · exact absurd h (by simp)
theorem rng3_nodic {x y z : D} {st st' : Store} {p : List D × Grd} (h : rng3 x y z st = .ok p st') : p.2.isDic = false := by
  unfold rng3 at h
  split at h
  · obtain ⟨_, h⟩ := R.test_ok h
    simp only [R.ok.injEq] at h; rw [← h.1]; rfl
  · exact absurd h (by simp)
theorem evI_nodic {it : It} (hp : it.plain = true) {env : Env} {st st' : Store} {p : List D × Grd} (h : evI C it env st = .ok p st') : p.2.isDic = false := by
  cases it with
  | keys _ => simp [It.plain] at hp
  | items _ => simp [It.plain] at hp
  | seq e =>
    rw [evI] at h
    obtain ⟨_, _, _, h⟩ := R.bind_ok_inv h
    exact seqIt_nodic h
  | rng1 e =>
    rw [evI] at h
    obtain ⟨_, _, _, h⟩ := R.bind_ok_inv h
    exact rng2_nodic h
  | rng2 e f =>
    rw [evI] at h
    obtain ⟨_, _, _, h⟩ := R.bind_ok_inv h
    obtain ⟨_, _, _, h⟩ := R.bind_ok_inv h
    exact rng2_nodic h
  | rng3 e f g =>
    rw [evI] at h
    obtain ⟨_, _, _, h⟩ := R.bind_ok_inv h
    obtain ⟨_, _, _, h⟩ := R.bind_ok_inv h
    obtain ⟨_, _, _, h⟩ := R.bind_ok_inv h
    exact rng3_nodic h
  | enum e =>
    rw [evI] at h
    obtain ⟨x, _, _, h⟩ := R.bind_ok_inv h
    cases x <;> simp only [R.ok.injEq, reduceCtorEq] at h
    · rw [← h.1]; rfl
    · rw [← h.1]; rfl
  | zip e f =>
    rw [evI] at h
    obtain ⟨x, _, _, h⟩ := R.bind_ok_inv h
    obtain ⟨y, _, _, h⟩ := R.bind_ok_inv h
    split at h <;> simp only [R.ok.injEq, reduceCtorEq] at h
    · rw [← h.1]; rfl
    · rw [← h.1]; rfl
    · rw [← h.1]; rfl
theorem range_get {n m k : Nat} (h : (List.range n)[k]? = some m) : k < n ∧ m = k := by
  obtain ⟨h1, h2⟩ := List.getElem?_eq_some_iff.mp h
  rw [List.length_range] at h1
  rw [List.getElem_range] at h2
  exact ⟨h1, h2.symm⟩
theorem rngL_get {lo hi : Int} {n : Nat} {d : D} (h : (rngL lo hi)[n]? = some d) : n < (hi - lo).toNat ∧ d = .int (lo + n) := by
  unfold rngL at h
  rw [List.getElem?_map] at h
  obtain ⟨m, h1, rfl⟩ := Option.map_eq_some_iff.mp h
  obtain ⟨h2, rfl⟩ := range_get h1
  exact ⟨h2, rfl⟩
theorem rngL_len (lo hi : Int) : (rngL lo hi).length = (hi - lo).toNat := by simp [rngL]
theorem walk_rng {W0 : Wd} {lo hi : Int} : WalkD X.K X.w cls W0 (Itr lo (hi - lo).toNat) (rngL lo hi) .no false := fun W st H le A _ _ =>
  ⟨fun n d hn => by
    obtain ⟨h1, rfl⟩ := rngL_get hn
    refine ⟨h1, fun x H' hy => ?_⟩
    obtain ⟨rfl, rfl⟩ := hy
    exact ⟨.inl ⟨rfl, .int _⟩, fun _ => ⟨rfl, .int _⟩⟩, by rw [rngL_len]; exact Nat.le_refl _⟩
theorem gi_rng1 {p : Pos} (h : Good X cls U C a i) (hg : Gl X "range") (hm : X.mg "range" = none) (hs : noStar a = true) : PI X tg (.Call (.Name "range" p) [a] [] pos) (tDI X.K X.w cls U false (evI C (.rng1 i))) := by
  refine PI.mono (pi_range1 (tg := tg) hg hm (pa_cons h.pe pa_nil (starEach_no hs)) (starEach_no hs)) fun σ H Q q => ?_
  obtain ⟨W, env, st, he, A, _, q⟩ := q
  rw [evI] at q
  refine ⟨W, env, st, he, A, (q.bind).mono fun x H1 ⟨W1, st1, d, x1, A1, r1, q1⟩ => ?_⟩
  cases d with
  | int n =>
    have q1 : Aft X.K X.w cls U (fun W' (J : L2.It) p => p.1.length ≤ sizeLine ∧ WalkD X.K X.w cls W' J p.1 p.2 false) W1 H1 (rng2 (.int 0) (.int n) st1) Q := q1
    simp only [rng2] at q1
    obtain ⟨hb, q1⟩ := Aft.test q1
    simp only [Bool.and_eq_true, decide_eq_true_eq] at hb
    refine ⟨n, by rw [r1.int_inv], by omega, by omega, q1 _ W1 H1 (Ext.refl _ _) A1 ⟨by rw [rngL_len, sizeLine_eq]; omega, ?_⟩⟩
    have e : (n - 0).toNat = n.toNat := by omega
    have := walk_rng (X := X) (cls := cls) (W0 := W1) (lo := 0) (hi := n)
    rw [e] at this
    exact this
  | _ => exact q1.elim
theorem gi_rng2 {p : Pos} (h : Good X cls U C a i) (h2 : Good X cls U C b j) (hg : Gl X "range") (hm : X.mg "range" = none) (hs : noStar a = true) (hs2 : noStar b = true) : PI X tg (.Call (.Name "range" p) [a, b] [] pos) (tDI X.K X.w cls U false (evI C (.rng2 i j))) := by
  refine PI.mono (pi_range2 (tg := tg) hg hm (pa_cons h.pe (pa_cons h2.pe pa_nil (starEach_no hs2)) (starEach_no hs)) (by rw [starEach_no hs, starEach_no hs2]; rfl) (starEach_no hs2)) fun σ H Q q => ?_
  obtain ⟨W, env, st, he, A, _, q⟩ := q
  rw [evI] at q
  refine ⟨W, env, st, he, A, (q.bind).mono fun x H1 ⟨W1, st1, d, x1, A1, r1, q1⟩ => ?_⟩
  refine ⟨W1, env, st1, he.mono x1.le, A1, (q1.bind).mono fun y H2 ⟨W2, st2, d2, x2, A2, r2, q2⟩ => ?_⟩
  have q2 : Aft X.K X.w cls U (fun W' (J : L2.It) p => p.1.length ≤ sizeLine ∧ WalkD X.K X.w cls W' J p.1 p.2 false) W2 H2 (rng2 d d2 st2) Q := q2
  cases d with
  | int lo =>
    cases d2 with
    | int hi =>
      simp only [rng2] at q2
      obtain ⟨hb, q2⟩ := Aft.test q2
      simp only [Bool.and_eq_true, decide_eq_true_eq] at hb
      exact ⟨lo, hi, by rw [(r1.mono x2.le).int_inv, r2.int_inv], by omega, q2 _ W2 H2 (Ext.refl _ _) A2 ⟨by rw [rngL_len, sizeLine_eq]; omega, walk_rng⟩⟩
    | _ => exact q2.elim
  | _ => exact q2.elim

/-! ### comprehensions -/
/-- the comprehension's block: its target, tests and element in every block of X -/
structure GoodB (X : Cx) (cls : Nat → Option Addr) (C : Ctx) (scope : Scope) (tg : Expr) (t : Tg) (ifs : List Expr) (elt : Expr) (cond ie : E) : Prop where
  g : ∀ (s : Shared) (H : Hp) (D : Addr) (cl : List (Str × Addr)) (fp : List Addr), PG (X.blk s H scope (compEnvC scope cl D X.env) fp) tg (tgR X.K t)
  c : ∀ (s : Shared) (H : Hp) (D : Addr) (cl : List (Str × Addr)) (fp : List Addr), PTs (X.blk s H scope (compEnvC scope cl D X.env) fp) ifs (tDT X.K X.w cls (fun _ _ => False) (evE C cond))
  e : ∀ (s : Shared) (H : Hp) (D : Addr) (cl : List (Str × Addr)) (fp : List Addr), PE (X.blk s H scope (compEnvC scope cl D X.env) fp) elt (tD X.K X.w cls (fun _ _ => False) (evE C ie))
/-- a tracked object is taken into the frozen part, or into the store -/
theorem Ag.freeze {K : PySem.W.Frag} {w : World} {W W0 : Wd} {H H0 : Hp} {st : Store} (A : Ag K w cls W st H) (x : Ext W0 H0 W H) {p : Addr} {o : HO} (h0 : H0 p = none) (hp : H p = some o) (h1 : p ∉ W.ρ) (h2 : W.G p = none) :
    Ag K w cls ⟨upd W.G p o, W.ρ⟩ st H ∧ Ext W0 H0 ⟨upd W.G p o, W.ρ⟩ H ∧ W.Le ⟨upd W.G p o, W.ρ⟩ := by
  have le : W.Le ⟨upd W.G p o, W.ρ⟩ := ⟨fun b u e => by
    show upd W.G p o b = some u
    rw [upd_ne (ne_of_none e h2)]; exact e, [], by simp⟩
  refine ⟨⟨fun b u e => ?_, A.len, A.nd, fun a ha => ?_, fun i ob a e1 e2 => (A.obj i ob a e1 e2).keep le rfl⟩, ⟨fun b u e => le.g b u (x.g b u e), x.r, x.fr, x.dom, fun a h => ?_, x.fz⟩, le⟩
  · by_cases hb : b = p
    · subst hb
      have e' : upd W.G b o b = some u := e
      rw [upd_same] at e'
      rw [hp]; exact e'
    · have e' : upd W.G p o b = some u := e
      rw [upd_ne hb] at e'
      exact A.sub b u e'
  · show upd W.G p o a = none
    have ne : a ≠ p := fun z => h1 (by rw [← z]; exact ha)
    rw [upd_ne ne]
    exact A.out a ha
  · by_cases hb : a = p
    · subst hb; exact .inr h0
    · have h' : upd W.G p o a ≠ none := h
      rw [upd_ne hb] at h'
      exact x.gn a h'
theorem Ag.adopt {K : PySem.W.Frag} {w : World} {W W0 : Wd} {H H0 : Hp} {st : Store} (A : Ag K w cls W st H) (x : Ext W0 H0 W H) {p : Addr} {o : O} (h0 : H0 p = none) (h1 : p ∉ W.ρ) (h2 : W.G p = none) (ho : OAt K w cls ⟨W.G, W.ρ ++ [p]⟩ H p o) :
    Ag K w cls ⟨W.G, W.ρ ++ [p]⟩ (st ++ [o]) H ∧ Ext W0 H0 ⟨W.G, W.ρ ++ [p]⟩ H := by
  have le : W.Le ⟨W.G, W.ρ ++ [p]⟩ := ⟨Same.refl _, [p], rfl⟩
  obtain ⟨m, em, hm⟩ := x.r
  refine ⟨⟨A.sub, by simp [A.len], ?_, fun a ha => ?_, fun i ob a e1 e2 => ?_⟩, ⟨x.g, ⟨m ++ [p], by show W.ρ ++ [p] = _; rw [em, List.append_assoc], fun a ha => ?_⟩, x.fr, x.dom, x.gn, x.fz⟩⟩
  · refine List.nodup_append.mpr ⟨A.nd, by simp, fun a ha b hb e => ?_⟩
    have e' : b = p := by simpa using hb
    subst e'; subst e
    exact h1 ha
  · rcases List.mem_append.mp ha with ha | ha
    · exact A.out a ha
    · have e : a = p := by simpa using ha
      subst e; exact h2
  · have e2 : (W.ρ ++ [p])[i]? = some a := e2
    by_cases hi : i < W.ρ.length
    · rw [List.getElem?_append_left hi] at e2
      rw [List.getElem?_append_left (by rw [← A.len]; exact hi)] at e1
      exact (A.obj i ob a e1 e2).keep le rfl
    · rw [List.getElem?_append_right (by omega)] at e2
      rw [List.getElem?_append_right (by rw [← A.len]; omega)] at e1
      have hz : i - W.ρ.length = 0 := by
        have := (List.getElem?_eq_some_iff.mp e2).1
        simp at this; omega
      rw [hz] at e2
      rw [← A.len, hz] at e1
      simp at e1 e2
      subst e1; subst e2
      exact ho
  · rcases List.mem_append.mp ha with ha | ha
    · exact hm a ha
    · have e : a = p := by simpa using ha
      subst e; exact h0
/-- the turns of a comprehension's loop, from the evaluator's own -/
theorem lc_turns {P : Hp → Prop} {t : Tg} {cond ie : E} {own : List Nat} {pr : Bool} {σ : L2.St} {Q : VK} {J : L2.It} {H1 : Hp} {W1 : Wd} {env : Env} {st1 : Store} {items : List D} {g : Grd} {ys : List D} {stE : Store} {p : Addr}
    (ht : ∀ s ∈ t.slots, s ∈ own) (hp : pr = true → ∃ is, t = .many is) (he : EnvOk X.K W1 σ env) (A1 : Ag X.K X.w cls W1 st1 H1) (hz : items.length ≤ sizeLine) (wk : WalkD X.K X.w cls W1 J items g pr P) (hP : ∀ W2 H, Ext W1 H1 W2 H → P H)
    (run : lcL g t (evE C cond) (evE C ie) (wipes env own) items st1 = .ok ys stE) (hp1 : H1 p = none)
    (fin : ∀ H acc W2, Ext W1 H1 W2 H → Ag X.K X.w cls W2 stE H → H p = some (.lst acc) → p ∉ W2.ρ → W2.G p = none → RepL X.K W2 acc ys → ys.length ≤ sizeLine → Q (.ref p) H) :
    ∃ Wv : Nat → Nat → Hp → Prop, (∃ m, Wv 0 m (upd H1 p (.lst []))) ∧ ∀ i m H, Wv i m H → (J.stop i H ∧ Q (.ref p) H) ∨ (J.go i H ∧ ∃ Nx : Hp → Prop, (∀ H', Nx H' → ∃ m', m' < m ∧ Wv (i + 1) m' H') ∧
      ∀ x H', J.yld i H x H' → tgR X.K t x (L2.wipe σ own) H' fun σ2 H2 => L2.wipe σ2 own = L2.wipe σ own ∧ tDT X.K X.w cls (fun _ _ => False) (evE C cond) σ2 H2 fun b H3 =>
        if b = true then tD X.K X.w cls (fun _ _ => False) (evE C ie) σ2 H3 fun y H4 => ∃ acc, H4 p = some (.lst acc) ∧ acc.length < sizeLine ∧ Nx (upd H4 p (.lst (acc ++ [y]))) else Nx H3) := by
  let Iv : Nat → Hp → Prop := fun i H => ∃ W2 st2 acc dacc rest, Ext W1 H1 W2 H ∧ Ag X.K X.w cls W2 st2 H ∧ H p = some (.lst acc) ∧ p ∉ W2.ρ ∧ W2.G p = none ∧ RepL X.K W2 acc dacc ∧ dacc.length ≤ i ∧
    lcL g t (evE C cond) (evE C ie) (wipes env own) (items.drop i) st2 = .ok rest stE ∧ ys = dacc ++ rest
  refine ⟨fun i m H => m = items.length - i ∧ i ≤ items.length ∧ Iv i H, ⟨items.length, by simp, Nat.zero_le _, ?_⟩, ?_⟩
  · obtain ⟨f1, f2⟩ := A1.fresh hp1
    exact ⟨W1, st1, [], [], ys, (Ext.refl W1 H1).aside hp1, A1.aside f1 f2, upd_same, f1, f2, .nil, Nat.zero_le _, run, rfl⟩
  · rintro i m H ⟨rfl, hi, W2, st2, acc, dacc, rest, x2, A2, hacc, hr, hg, l, hl, hrun, hys⟩
    by_cases hlt : i < items.length
    · have hd : items[i]? = some items[i] := List.getElem?_eq_getElem hlt
      rw [List.drop_eq_getElem_cons hlt, lcL] at hrun
      obtain ⟨hh, hrun1⟩ := R.test_ok hrun
      obtain ⟨env2, s1, h0, hrun2⟩ := R.bind_ok_inv hrun1
      obtain ⟨h1, es⟩ := R.of_ok h0
      obtain ⟨bd, st3, h3, hrun⟩ := R.bind_ok_inv hrun2
      rw [es] at h3
      clear hrun1 hrun2 h0 es
      obtain ⟨go, _⟩ := wk W2 st2 H x2.le A2 hh (hP W2 H x2)
      obtain ⟨go1, yl⟩ := go i _ hd
      refine .inr ⟨go1, Iv (i + 1), fun H' h => ⟨items.length - (i + 1), by omega, rfl, hlt, h⟩, fun x H' hy => ?_⟩
      obtain ⟨yr, yp⟩ := yl x H' hy
      -- the heap in which the target is assigned
      obtain ⟨A2', x2', hacc', hir⟩ : Ag X.K X.w cls W2 st2 H' ∧ Ext W2 H W2 H' ∧ H' p = some (.lst acc) ∧ ItR X.K W2 H' x items[i] := by
        rcases yr with ⟨rfl, r⟩ | ⟨T, y1, y2, d1, d2, rfl, hT, rfl, e, r1, r2⟩
        · exact ⟨A2, Ext.refl _ _, hacc, .inl r⟩
        · obtain ⟨f1, f2⟩ := A2.fresh hT
          exact ⟨A2.aside f1 f2, (Ext.refl W2 H).aside hT, by rw [upd_ne (ne_of_none hacc hT)]; exact hacc, .inr ⟨T, y1, y2, d1, d2, rfl, upd_same, e, r1, r2⟩⟩
      have ho : (∃ i, t = .one i) → Rep X.K W2 x items[i] := fun ⟨k, e⟩ => by
        cases pr with
        | true => obtain ⟨is, e2⟩ := hp rfl; rw [e] at e2; cases e2
        | false => exact (yp rfl).2
      refine tg_run A2'.sub hir ho ((he.mono x2.le).wipe own) h1 fun σ2 he2 hw => ⟨by rw [hw own ht]; exact wipe_sub (fun _ h => h), ?_⟩
      have hbl : ∃ b, bd = .bl b := by
        cases bd with
        | bl b => exact ⟨b, rfl⟩
        | _ => simp at hrun
      obtain ⟨b, rfl⟩ := hbl
      refine ⟨W2, env2, _, he2, A2', fun d st' e => ?_, ?_⟩
      · rw [h3] at e
        simp only [R.ok.injEq] at e
        exact ⟨b, e.1.symm⟩
      · rw [h3]
        intro b' W3 H3 x3 A3 eb
        cases eb
        obtain ⟨b3, g3⟩ := x3.beside (p := p) (by rw [hacc']; simp) hr hg
        have hacc3 : H3 p = some (.lst acc) := x3.fr p _ hacc' hr
        have x3' : Ext W1 H1 W3 H3 := (x2.trans x2').trans x3
        cases b with
        | false =>
          rw [if_neg Bool.false_ne_true]
          exact ⟨W3, st3, acc, dacc, rest, x3', A3, hacc3, b3, g3, l.mono x3.le, by omega, hrun, hys⟩
        | true =>
          rw [if_pos rfl]
          simp only at hrun
          obtain ⟨dy, st4, h4, hrun⟩ := R.bind_ok_inv hrun
          obtain ⟨rest', st5, h5, hrun⟩ := R.bind_ok_inv hrun
          simp only [R.ok.injEq] at hrun
          obtain ⟨er, es⟩ := hrun
          subst es
          refine ⟨W3, env2, st3, he2.mono x3.le, A3, ?_⟩
          rw [h4]
          intro y W4 H4 x4 A4 ry
          obtain ⟨b4, g4⟩ := x4.beside (p := p) (by rw [hacc3]; simp) b3 g3
          have hacc4 : H4 p = some (.lst acc) := x4.fr p _ hacc3 b3
          refine ⟨acc, hacc4, by rw [l.length]; omega, ?_⟩
          refine ⟨W4, st4, acc ++ [y], dacc ++ [dy], rest', (x3'.trans x4).aside hp1, A4.aside b4 g4, upd_same, b4, g4, ((l.mono x3.le).mono x4.le).append (.one ry), by rw [List.length_append]; simp; omega, h5, ?_⟩
          rw [hys, ← er]
          simp
    · have e : i = items.length := by omega
      subst e
      rw [List.drop_length, lcL] at hrun
      obtain ⟨hh, hrun⟩ := R.test_ok hrun
      simp only [R.ok.injEq] at hrun
      obtain ⟨rfl, rfl⟩ := hrun
      rw [List.append_nil] at hys
      subst hys
      exact .inl ⟨(wk W2 st2 H x2.le A2 hh (hP W2 H x2)).2, fin H acc W2 x2 A2 hacc hr hg l (by omega)⟩
theorem Grd.out_plain {α : Type} {g : Grd} (hg : g.isDic = false) {r : R α} {a : α} {st : Store} (h : (g.out r).noX = .ok a st) : r = .ok a st := by
  cases r with
  | ok b s1 =>
    cases g with
    | dic _ _ => simp [Grd.isDic] at hg
    | no => simpa [Grd.out, Grd.holds, Grd.free] using h
    | lst i xs =>
      simp only [Grd.out] at h
      cases e : (Grd.lst i xs).holds s1 with
      | true => rw [e] at h; simpa [Grd.free] using h
      | false => rw [e] at h; simp [R.noX] at h
    | lck i xs =>
      simp only [Grd.out] at h
      cases e : (Grd.lck i xs).holds s1 with
      | true => rw [e] at h; simpa [Grd.free] using h
      | false => rw [e] at h; simp [R.noX] at h
  | err k s1 => cases g <;> simp [Grd.out, R.noX] at h
  | bad => cases g <;> simp [Grd.out, R.noX] at h
theorem Grd.lock_plain {g : Grd} (hg : g.isDic = false) (st : Store) : g.lock st = st := by
  cases g <;> first | rfl | (simp [Grd.isDic] at hg)
theorem lc_tD {m : Bool} {it : It} {t : Tg} {cond ie : E} {own : List Nat} {pr : Bool} {σ : L2.St} {H : Hp} {Q : VK} (hp : it.plain = true) (ht : ∀ s ∈ t.slots, s ∈ own) (hpr : pr = true → ∃ is, t = .many is)
    (h : tD X.K X.w cls U (evE C (.lc m own t it cond ie)) σ H Q) : tLc (tDI X.K X.w cls U pr (evI C it)) (tgR X.K t) (tDT X.K X.w cls (fun _ _ => False) (evE C cond)) (tD X.K X.w cls (fun _ _ => False) (evE C ie)) own σ H Q := by
  obtain ⟨W, env, st, he, A, q⟩ := h
  rw [evE] at q
  refine ⟨W, env, st, he, A, fun p st' e => evI_nodic hp e, ?_⟩
  cases e : evI C it env st with
  | bad => rw [e] at q; exact q
  | err k st' => rw [e] at q; exact q
  | ok pp st1 =>
    have hg := evI_nodic hp e
    rw [e] at q
    obtain ⟨items, g⟩ := pp
    have q : Aft X.K X.w cls U (Rep X.K) W H (((g.out (lcL g t (evE C cond) (evE C ie) (wipes env own) items (g.lock st1))).noX).bind fun ys st => if m then .ok (.ref st.length) (st ++ [.lst ys]) else .ok (.lst ys) st) Q := q
    rw [Grd.lock_plain hg] at q
    intro J W1 H1 x1 A1 hw p hp1
    cases e2 : (g.out (lcL g t (evE C cond) (evE C ie) (wipes env own) items st1)).noX with
    | bad => rw [e2] at q; exact q.elim
    | err k s2 =>
      exfalso
      revert e2
      unfold R.noX
      split <;> simp
    | ok ys stE =>
      rw [e2] at q
      have run := Grd.out_plain hg e2
      refine lc_turns (pr := pr) ht hpr (he.mono x1.le) A1 hw.1 hw.2 (fun _ _ _ => trivial) run hp1 fun H2 acc W2 x2 A2 hacc hr hg2 l hz => ?_
      have q : Aft X.K X.w cls U (Rep X.K) W H (if m then .ok (.ref stE.length) (stE ++ [.lst ys]) else .ok (.lst ys) stE) Q := q
      cases m with
      | false =>
        obtain ⟨A3, x3, le⟩ := A2.freeze (x1.trans x2) (p := p) (Classical.byContradiction fun z => x1.dom p z hp1) hacc hr hg2
        exact q _ _ _ x3 A3 (.lst (xs := acc) upd_same hz (l.mono le))
      | true =>
        have le : W2.Le ⟨W2.G, W2.ρ ++ [p]⟩ := ⟨Same.refl _, [p], rfl⟩
        obtain ⟨A3, x3⟩ := A2.adopt (x1.trans x2) (p := p) (o := .lst ys) (Classical.byContradiction fun z => x1.dom p z hp1) hr hg2 ⟨acc, hacc, l.mono le, hz⟩
        refine q _ _ _ x3 A3 (.ref ?_)
        show (W2.ρ ++ [p])[stE.length]? = some p
        rw [← A2.len, List.getElem?_append_right (Nat.le_refl _)]
        simp
/-- [elt for target in iter if ..] -/
theorem g_lc {m : Bool} {it : It} {t : Tg} {cond ie : E} {own : List (Str × Nat)} {pr : Bool} {elt iter : Expr} {ifs : List Expr} {scope : Scope} (hc : X.calm = true) (hN : X.N.Nodup) (hp : it.plain = true)
    (hi : PI X tg iter (tDI X.K X.w cls U pr (evI C it))) (ok : BlkOk X.N X.env.scope scope own) (gb : GoodB X cls C scope tg t ifs elt cond ie) (ht : ∀ s ∈ t.slots, s ∈ own.map (·.2)) (hpr : pr = true → ∃ is, t = .many is)
    (hs : ∀ x, foldedSetIterable iter X.env x = pure x) : PE X (.ListComp elt [⟨tg, iter, ifs, 0⟩] scope pos) (tD X.K X.w cls U (evE C (.lc m (own.map (·.2)) t it cond ie))) := by
  refine PE.mono (pe_lc hc hN hi ok gb.g gb.c gb.e hs) fun σ H Q q => lc_tD hp ht hpr q
end
end EV
/-! EvT: dicts whose keys are tuples, by the library's DictKeyed. (under way) -/
namespace EV
open PySem PySem.Spec PyProof.Rows L2

section
variable {X : Cx} {cls : Nat → Option Addr} {pins : List (Addr × Obj)} {σ : L2.St} {H : Hp} {s : Shared} {W : Wd} {st : Store}
mutual
theorem Rep.nested (I : Inv X pins σ H s) (A : Ag X.K X.w cls W st H) : ∀ {x : V} {u : Value} {d : D} {n : Nat}, Rep X.K W x d → d.key n = true → RelV x u → NestedIs s.heap d.nk u
  | _, u, _, _, .int i, _, ⟨t, e⟩ => by subst e; rw [D.nk]; exact .int i t
  | _, u, _, _, .str z, _, ⟨t, e⟩ => by subst e; rw [D.nk]; exact .text z t
  | _, u, _, 0, .tup g z l, k, _ => by simp [D.key] at k
  | _, u, _, n + 1, .tup g z l, k, r => by
    cases r
    rw [D.key] at k
    rw [D.nk]
    obtain ⟨its, rv, ⟨o, h1, h2, m, h3⟩, hz⟩ := I.tuple (SqT_ft (K := X.K) (A.sub _ _ g))
    refine .tup h1 h2 h3 ?_
    have q := RepL.nested I A l k rv
    simpa using q
  | _, u, _, _, .non, k, _ => by simp [D.key] at k
  | _, u, _, _, .bl b, k, _ => by simp [D.key] at k
  | _, u, _, _, .lst _ _ _, k, _ => by simp [D.key] at k
  | _, u, _, _, .scr _ _, k, _ => by simp [D.key] at k
  | _, u, _, _, .ref _, k, _ => by simp [D.key] at k
theorem RepL.nested (I : Inv X pins σ H s) (A : Ag X.K X.w cls W st H) : ∀ {xs : List V} {us : List Value} {ds : List D} {n : Nat}, RepL X.K W xs ds → D.keys n ds = true → Vals xs us → NestedAll s.heap (D.nks ds) us
  | _, _, _, _, .nil, _, .nil => by rw [D.nks]; exact .nil
  | _, _, _, _, .cons h t, k, .cons r rs => by
    rw [D.keys, Bool.and_eq_true] at k
    rw [D.nks]
    exact .cons (Rep.nested I A h k.1 r) (RepL.nested I A t k.2 rs)
end
end
end EV
/-! EvT2: dicts whose keys are tuples, by the library's DictKeyed. (under way) -/
namespace EV
open PySem PySem.Spec PyProof.Rows L2

mutual
theorem nk_depth : ∀ (n : Nat) (d : D), d.key n = true → d.nk.depth ≤ n
  | n, .int i, _ => by rw [D.nk, NestedKey.depth]; omega
  | n, .str z, _ => by rw [D.nk, NestedKey.depth]; omega
  | 0, .tup xs, k => by simp [D.key] at k
  | n + 1, .tup xs, k => by
    rw [D.key] at k
    rw [D.nk, NestedKey.depth]
    have := nks_depth n xs k
    omega
  | n, .non, k => by simp [D.key] at k
  | n, .bl _, k => by simp [D.key] at k
  | n, .lst _, k => by simp [D.key] at k
  | n, .scr _, k => by simp [D.key] at k
  | n, .ref _, k => by simp [D.key] at k
theorem nks_depth : ∀ (n : Nat) (ds : List D), D.keys n ds = true → NestedKey.depthAll (D.nks ds) ≤ n
  | n, [], _ => by rw [D.nks, NestedKey.depthAll]; omega
  | n, d :: ds, k => by
    rw [D.keys, Bool.and_eq_true] at k
    rw [D.nks, NestedKey.depthAll]
    have h1 := nk_depth n d k.1
    have h2 := nks_depth n ds k.2
    omega
end
mutual
/-- keys are equal as data just if their nested keys are -/
theorem nk_eqv : ∀ (n : Nat) (d e : D), d.key n = true → e.key n = true → (D.eqv d e = decide (d.nk = e.nk))
  | n, .int i, e, _, k => by
    cases e <;> simp [D.key] at k <;> simp [D.eqv, D.nk]
    by_cases h : i = ‹Int› <;> simp [h]
  | n, .str z, e, _, k => by
    cases e <;> simp [D.key] at k <;> simp [D.eqv, D.nk]
    by_cases h : z = ‹Str› <;> simp [h]
  | 0, .tup xs, e, k, _ => by simp [D.key] at k
  | n + 1, .tup xs, e, k, k2 => by
    cases e with
    | tup ys =>
      rw [D.key] at k k2
      rw [D.eqv, nks_eqv n xs ys k k2]
      simp [D.nk]
    | int _ => simp [D.eqv, D.nk]
    | str _ => simp [D.eqv, D.nk]
    | _ => simp [D.key] at k2
  | n, .non, _, k, _ => by simp [D.key] at k
  | n, .bl _, _, k, _ => by simp [D.key] at k
  | n, .lst _, _, k, _ => by simp [D.key] at k
  | n, .scr _, _, k, _ => by simp [D.key] at k
  | n, .ref _, _, k, _ => by simp [D.key] at k
theorem nks_eqv : ∀ (n : Nat) (ds es : List D), D.keys n ds = true → D.keys n es = true → (D.eqvs ds es = decide (D.nks ds = D.nks es))
  | n, [], [], _, _ => by simp [D.eqvs, D.nks]
  | n, [], _ :: _, _, _ => by simp [D.eqvs, D.nks]
  | n, _ :: _, [], _, _ => by simp [D.eqvs, D.nks]
  | n, d :: ds, e :: es, k, k2 => by
    rw [D.keys, Bool.and_eq_true] at k k2
    rw [D.eqvs, nk_eqv n d e k.1 k2.1, nks_eqv n ds es k.2 k2.2]
    simp [D.nks, Bool.decide_and]
end
end EV
/-! EvT3: dicts whose keys are tuples: entries, looks. (under way) -/
namespace EV
open PySem PySem.Spec PyProof.Rows L2

/-- entries as the library's, and as data -/
inductive KX (K : PySem.W.Frag) (W : Wd) : List (NestedKey × Addr × Value) → List (D × D) → Prop
  | nil : KX K W [] []
  | cons {k v : D} {a : Addr} {u : Value} {xs : List (NestedKey × Addr × Value)} {kvs : List (D × D)} : k.key 6 = true → k.isTup = true → Rep K W (.ref a) k → valRel K W u v → KX K W xs kvs → KX K W ((k.nk, a, u) :: xs) ((k, v) :: kvs)
theorem Rep.tup_ref {K : PySem.W.Frag} {W : Wd} {x : V} {d : D} (h : Rep K W x d) (ht : d.isTup = true) : ∃ a, x = .ref a := by
  cases h <;> simp [D.isTup] at ht
  exact ⟨_, rfl⟩
theorem RepE.kx {P : Program} {K : PySem.W.Frag} {w : World} {W : Wd} : ∀ {es : List DictEntry} {kvs : List (D × D)}, RepE K w W es kvs → (kvs.all fun p => p.1.isTup) = true → ∃ xs, es = xs.map (entryOfKey (nestedKind P w)) ∧ KX K W xs kvs
  | _, _, .nil, _ => ⟨[], rfl, .nil⟩
  | _, _, .cons (e := e) (k := k) hk ⟨x, r, q⟩ hh hv t, ha => by
    rw [List.all_cons, Bool.and_eq_true] at ha
    obtain ⟨a, rfl⟩ := q.tup_ref ha.1
    obtain ⟨xs, h1, h2⟩ := RepE.kx (P := P) t ha.2
    obtain ⟨eh, ek, ev⟩ := e
    have e1 : ek = .ref a := r
    have e2 : eh = NestedKey.hash w k.nk := hh
    subst e1 e2
    exact ⟨(k.nk, a, ev) :: xs, by rw [h1]; rfl, .cons hk ha.1 q hv h2⟩
theorem KX.repE {P : Program} {K : PySem.W.Frag} {w : World} {W : Wd} : ∀ {xs : List (NestedKey × Addr × Value)} {kvs : List (D × D)}, KX K W xs kvs → RepE K w W (xs.map (entryOfKey (nestedKind P w))) kvs
  | _, _, .nil => .nil
  | _, _, .cons hk ht q hv t => .cons hk ⟨.ref _, rfl, q⟩ rfl hv (KX.repE t)
theorem KX.keys {K : PySem.W.Frag} {W : Wd} : ∀ {xs : List (NestedKey × Addr × Value)} {kvs : List (D × D)}, KX K W xs kvs → xs.map (·.1) = kvs.map (·.1.nk) ∧ (kvs.all fun p => p.1.isTup) = true ∧ xs.length = kvs.length
  | _, _, .nil => ⟨rfl, rfl, rfl⟩
  | _, _, .cons hk ht q hv t => by
    obtain ⟨h1, h2, h3⟩ := KX.keys t
    refine ⟨by rw [List.map_cons, List.map_cons, h1], by rw [List.all_cons, ht, h2]; rfl, by rw [List.length_cons, List.length_cons, h3]⟩
theorem KX.get {K : PySem.W.Frag} {W : Wd} {dk : D} (hk : dk.key 6 = true) : ∀ {xs : List (NestedKey × Addr × Value)} {kvs : List (D × D)}, KX K W xs kvs → match dget kvs dk with
    | some v => ∃ u, valueAt (pairsH xs) dk.nk = some u ∧ valRel K W u v
    | none => valueAt (pairsH xs) dk.nk = none
  | _, _, .nil => by simp [dget, valueAt, pairsH]
  | _, _, .cons (k := k) (u := u) (a := a) (xs := xs) (kvs := kvs) hk2 ht q hv t => by
    have ih := KX.get hk t
    rw [dget, nk_eqv 6 k dk hk2 hk]
    by_cases h : k.nk = dk.nk
    · simp only [h, decide_true, if_true]
      exact ⟨u, by simp [valueAt, pairsH, h], hv⟩
    · simp only [h, decide_false]
      have e : valueAt (pairsH ((k.nk, a, u) :: xs)) dk.nk = valueAt (pairsH xs) dk.nk := by simp [valueAt, pairsH, h]
      rw [e]
      exact ih
section
variable {X : Cx} {cls : Nat → Option Addr} {pins : List (Addr × Obj)} {σ : L2.St} {H : Hp} {s : Shared} {W : Wd} {st : Store}
theorem KX.is (I : Inv X pins σ H s) (A : Ag X.K X.w cls W st H) : ∀ {xs : List (NestedKey × Addr × Value)} {kvs : List (D × D)}, KX X.K W xs kvs → ∀ x ∈ xs, (nestedKind X.prog X.w).is s.heap x.1 x.2.1
  | _, _, .nil, x, hx => by simp at hx
  | _, _, .cons hk ht q hv t, x, hx => by
    rcases List.mem_cons.mp hx with rfl | hx
    · exact ⟨q.nested I A hk rfl, Nat.le_trans (nk_depth 6 _ hk) (by decide)⟩
    · exact KX.is I A t x hx
theorem DicO.ofH (I : Inv X pins σ H s) (A : Ag X.K X.w cls W st H) {a : Addr} {o : Obj} {kvs : List (D × D)} (ho : s.heap.get? a = some o) (d : DicO X.K X.w W a o kvs) (ht : (kvs.all fun p => p.1.isTup) = true) :
    ∃ xs, s.heap.DictOfH (nestedKind X.prog X.w) a xs ∧ KX X.K W xs kvs := by
  obtain ⟨_, _, _, es, ep, ex, hd, hr, hn⟩ := d
  obtain ⟨xs, h1, h2⟩ := RepE.kx (P := X.prog) hr ht
  exact ⟨xs, ⟨o, es, ep, ho, ex, hd, h1, KX.is I A h2, by rw [h2.keys.1]; exact hn⟩, h2⟩
end
end EV
/-! EvTl: dicts whose keys are ints and texts. -/
namespace EV
open PySem PySem.Spec PyProof.Rows L2

def D.ky : D → L2.Key
  | .int i => .inl i
  | .str s => .inr s
  | _ => .inl 0
theorem ky_hash {w : World} {d : D} (h : d.isLeaf = true) : keyH w d.ky = NestedKey.hash w d.nk := by
  cases d <;> simp [D.isLeaf] at h <;> simp [D.ky, D.nk, keyH, NestedKey.hash]
theorem ky_rep {K : PySem.W.Frag} {W : Wd} {x : V} {d : D} (r : Rep K W x d) (h : d.isLeaf = true) : x = kV d.ky := by
  cases r <;> simp [D.isLeaf] at h <;> rfl
theorem rep_ky {K : PySem.W.Frag} {W : Wd} {d : D} (h : d.isLeaf = true) : Rep K W (kV d.ky) d := by
  cases d <;> simp [D.isLeaf] at h
  · exact .int _
  · exact .str _
theorem ky_inj {d e : D} (h1 : d.isLeaf = true) (h2 : e.isLeaf = true) : (d.ky = e.ky) ↔ (d.nk = e.nk) := by
  cases d <;> simp [D.isLeaf] at h1 <;> cases e <;> simp [D.isLeaf] at h2 <;> simp [D.ky, D.nk]
theorem ky_eqv {d e : D} (h1 : d.isLeaf = true) (h2 : e.isLeaf = true) : D.eqv d e = decide (d.ky = e.ky) := by
  rw [nk_eqv 6 d e (by cases d <;> simp [D.isLeaf] at h1 <;> simp [D.key]) (by cases e <;> simp [D.isLeaf] at h2 <;> simp [D.key])]
  exact decide_eq_decide.mpr (ky_inj h1 h2).symm
/-- entries by the layer's keys, and as data -/
inductive LX (K : PySem.W.Frag) (W : Wd) : List (L2.Key × Value) → List (D × D) → Prop
  | nil : LX K W [] []
  | cons {k v : D} {u : Value} {xs : List (L2.Key × Value)} {kvs : List (D × D)} : k.isLeaf = true → valRel K W u v → LX K W xs kvs → LX K W ((k.ky, u) :: xs) ((k, v) :: kvs)
theorem LX.keys {K : PySem.W.Frag} {W : Wd} : ∀ {xs : List (L2.Key × Value)} {kvs : List (D × D)}, LX K W xs kvs → xs.map (·.1) = kvs.map (·.1.ky) ∧ (kvs.all fun p => p.1.isLeaf) = true ∧ xs.length = kvs.length
  | _, _, .nil => ⟨rfl, rfl, rfl⟩
  | _, _, .cons hk hv t => by
    obtain ⟨h1, h2, h3⟩ := LX.keys t
    exact ⟨by rw [List.map_cons, List.map_cons, h1], by rw [List.all_cons, hk, h2]; rfl, by rw [List.length_cons, List.length_cons, h3]⟩
theorem RepE.lx {P : Program} {K : PySem.W.Frag} {w : World} {W : Wd} : ∀ {es : List DictEntry} {kvs : List (D × D)}, RepE K w W es kvs → (kvs.all fun p => p.1.isLeaf) = true → ∃ xs, Pairs (mixKind P w) es xs ∧ LX K W xs kvs ∧ ∀ e ∈ es, ∃ k, keyIs k e.key = true ∧ e.hash = keyH w k
  | _, _, .nil, _ => ⟨[], .nil, .nil, fun _ h => by cases h⟩
  | _, _, .cons (e := e) (k := k) (v := v) hk ⟨x, r, q⟩ hh hv t, ha => by
    rw [List.all_cons, Bool.and_eq_true] at ha
    obtain ⟨xs, h1, h2, h3⟩ := RepE.lx (P := P) t ha.2
    have ex := ky_rep q ha.1
    subst ex
    have hi : keyIs k.ky e.key = true := kV_is (P := P) (w := w) r
    refine ⟨(k.ky, e.val) :: xs, .cons hi rfl h1, .cons ha.1 hv h2, fun e2 h => ?_⟩
    rcases List.mem_cons.mp h with rfl | h
    · exact ⟨k.ky, hi, by rw [ky_hash ha.1]; exact hh⟩
    · exact h3 e2 h
theorem LX.repE {P : Program} {K : PySem.W.Frag} {w : World} {W : Wd} : ∀ {es : List DictEntry} {xs : List (L2.Key × Value)} {kvs : List (D × D)}, Pairs (mixKind P w) es xs → (∀ e ∈ es, ∃ k, keyIs k e.key = true ∧ e.hash = keyH w k) → LX K W xs kvs → RepE K w W es kvs
  | _, _, _, .nil, _, l => by cases l; exact .nil
  | _, _, _, .cons (e := e) h1 h2 t, hk, l => by
    cases l with
    | @cons k v u xs kvs hl hv l =>
      have r : RelV (kV k.ky) e.key := relV_key h1
      obtain ⟨k2, g1, g2⟩ := hk e (List.mem_cons_self ..)
      have ek : k2 = k.ky := (mixKind P w).inj _ _ _ g1 h1
      exact .cons (by cases k <;> simp [D.isLeaf] at hl <;> simp [D.key]) ⟨_, r, rep_ky hl⟩ (by rw [g2, ek, ky_hash hl]) (by rw [h2]; exact hv) (LX.repE t (fun e2 h => hk e2 (List.mem_cons_of_mem _ h)) l)
theorem LX.nodup {K : PySem.W.Frag} {W : Wd} : ∀ {xs : List (L2.Key × Value)} {kvs : List (D × D)}, LX K W xs kvs → ((kvs.map (·.1.nk)).Nodup ↔ (xs.map (·.1)).Nodup)
  | _, _, .nil => by simp
  | _, _, .cons (k := k) hk hv t => by
    rw [List.map_cons, List.map_cons, List.nodup_cons, List.nodup_cons, LX.nodup t]
    refine and_congr_left fun _ => not_congr ?_
    have go : ∀ {xs : List (L2.Key × Value)} {kvs : List (D × D)}, LX K W xs kvs → (k.nk ∈ kvs.map (·.1.nk) ↔ k.ky ∈ xs.map (·.1)) := by
      intro xs kvs l
      induction l with
      | nil => simp
      | cons hk2 _ _ ih => rw [List.map_cons, List.map_cons, List.mem_cons, List.mem_cons, ih, ky_inj hk hk2]
    exact go t
theorem LX.get {K : PySem.W.Frag} {W : Wd} {dk : D} (hk : dk.isLeaf = true) : ∀ {xs : List (L2.Key × Value)} {kvs : List (D × D)}, LX K W xs kvs → match dget kvs dk with
    | some v => ∃ u, valueAt xs dk.ky = some u ∧ valRel K W u v
    | none => valueAt xs dk.ky = none
  | _, _, .nil => by simp [dget, valueAt]
  | _, _, .cons (k := k) (u := u) (xs := xs) (kvs := kvs) hk2 hv t => by
    have ih := LX.get hk t
    rw [dget, ky_eqv hk2 hk]
    by_cases h : k.ky = dk.ky
    · simp only [h, decide_true, if_true]
      exact ⟨u, by simp [valueAt], hv⟩
    · simp only [h, decide_false]
      have e : valueAt ((k.ky, u) :: xs) dk.ky = valueAt xs dk.ky := by simp [valueAt, h]
      rw [e]
      exact ih
theorem LX.any {K : PySem.W.Frag} {W : Wd} {dk : D} (hk : dk.isLeaf = true) : ∀ {xs : List (L2.Key × Value)} {kvs : List (D × D)}, LX K W xs kvs → (xs.any fun kv => decide (kv.1 = dk.ky)) = (dget kvs dk).isSome
  | _, _, .nil => by simp [dget]
  | _, _, .cons (k := k) (kvs := kvs) hk2 hv t => by
    rw [List.any_cons, LX.any hk t, dget, ky_eqv hk2 hk]
    by_cases h : k.ky = dk.ky <;> simp [h]
theorem LX.app {K : PySem.W.Frag} {W : Wd} : ∀ {xs ys : List (L2.Key × Value)} {kvs lvs : List (D × D)}, LX K W xs kvs → LX K W ys lvs → LX K W (xs ++ ys) (kvs ++ lvs)
  | _, _, _, _, .nil, h => h
  | _, _, _, _, .cons a b t, h => .cons a b (LX.app t h)
theorem LX.putOld {K : PySem.W.Frag} {W : Wd} {dk v : D} {u : Value} (hk : dk.isLeaf = true) (hv : valRel K W u v) : ∀ {xs : List (L2.Key × Value)} {kvs : List (D × D)}, LX K W xs kvs → (xs.map (·.1)).Nodup → (dget kvs dk).isSome = true →
    LX K W (xs.map fun kv => if kv.1 = dk.ky then (kv.1, u) else kv) (dput kvs dk v)
  | _, _, .nil, _, h => by simp [dget] at h
  | _, _, .cons (k := k) (u := u0) (xs := xs) hk2 hv2 t, nd, h => by
    rw [List.map_cons, List.nodup_cons] at nd
    rw [dget, ky_eqv hk2 hk] at h
    rw [dput, ky_eqv hk2 hk, List.map_cons]
    by_cases e : k.ky = dk.ky
    · rw [if_pos e, if_pos (by simpa using e)]
      have out : ∀ ys : List (L2.Key × Value), k.ky ∉ ys.map (·.1) → ys.map (fun kv => if kv.1 = dk.ky then (kv.1, u) else kv) = ys := by
        intro ys
        induction ys with
        | nil => intro _; rfl
        | cons y ys ih =>
          intro hn
          rw [List.map_cons, List.mem_cons, not_or] at hn
          rw [List.map_cons, ih hn.2, if_neg (fun z => hn.1 (e.trans z.symm))]
      rw [out xs nd.1]
      exact .cons hk2 hv t
    · rw [if_neg e, if_neg (by simpa using e)]
      rw [if_neg (by simpa using e)] at h
      exact .cons hk2 hv2 (LX.putOld hk hv t nd.2 h)
theorem dput_new' {dk v : D} : ∀ {kvs : List (D × D)}, dget kvs dk = none → dput kvs dk v = kvs ++ [(dk, v)]
  | [], _ => rfl
  | (a, w) :: r, h => by
    rw [dget] at h
    split at h
    · cases h
    · rename_i ne
      rw [dput, if_neg ne, dput_new' h]
      rfl
theorem LX.put {K : PySem.W.Frag} {W : Wd} {dk v : D} {u : Value} (hk : dk.isLeaf = true) (hv : valRel K W u v) {xs : List (L2.Key × Value)} {kvs : List (D × D)} (h : LX K W xs kvs) (nd : (xs.map (·.1)).Nodup) : LX K W (stored xs dk.ky u) (dput kvs dk v) := by
  have e := h.any hk
  unfold stored
  cases z : dget kvs dk with
  | none =>
    rw [z] at e
    rw [if_neg (by rw [e]; exact Bool.false_ne_true), dput_new' z]
    exact h.app (.cons hk hv .nil)
  | some d =>
    rw [z] at e
    have e : (xs.any fun kv => decide (kv.1 = dk.ky)) = true := e
    rw [if_pos e]
    exact h.putOld hk hv nd (by rw [z]; rfl)
section
variable {X : Cx} {cls : Nat → Option Addr} {pins : List (Addr × Obj)} {σ : L2.St} {H : Hp} {s : Shared} {W : Wd} {st : Store}
theorem DicO.ofL {h : Heap} {a : Addr} {o : Obj} {kvs : List (D × D)} (ho : h.get? a = some o) (d : DicO X.K X.w W a o kvs) (ht : (kvs.all fun p => p.1.isLeaf) = true) :
    ∃ xs, h.DictOf (mixKind X.prog X.w) a xs ∧ LX X.K W xs kvs := by
  obtain ⟨_, _, _, es, ep, ex, hd, hr, hn⟩ := d
  obtain ⟨xs, h1, h2, h3⟩ := RepE.lx (P := X.prog) hr ht
  exact ⟨xs, ⟨o, es, ep, ho, ex, hd, fun e he => h3 e (by simpa using he), h1, h2.nodup.mp hn⟩, h2⟩
/-- .. and back -/
theorem DicO.fromL {h : Heap} {a : Addr} {xs : List (L2.Key × Value)} {kvs : List (D × D)} (d : h.DictOf (mixKind X.prog X.w) a xs) (l : LX X.K W xs kvs) (hs : (a == sysModules) = false) (hz : kvs.length ≤ sizeLine) : ∃ o, h.get? a = some o ∧ DicO X.K X.w W a o kvs := by
  obtain ⟨o, es, ep, ho, ex, hd, hk, hp, hn⟩ := d
  exact ⟨o, ho, rfl, hs, hz, es, ep, ex, hd, l.repE hp (fun e he => hk e (by simpa using he)), l.nodup.mpr hn⟩
end
end EV
/-! EvT4: dicts: in, not in, d[k], get. -/
namespace EV
open PySem PySem.Spec PyProof.Rows L2

section
variable {X : Cx} {cls : Nat → Option Addr} {pins : List (Addr × Obj)} {σ : L2.St} {H : Hp} {s : Shared} {W : Wd} {st : Store}
theorem dic_at (I : Inv X pins σ H s) (A : Ag X.K X.w cls W st H) {y : V} {i : Nat} {kvs : List (D × D)} (r : Rep X.K W y (.ref i)) (h : DicAt st i kvs) : ∃ a o, y = .ref a ∧ s.heap.get? a = some o ∧ DicO X.K X.w W a o kvs := by
  obtain ⟨a, rfl, ha⟩ := r.ref_inv
  obtain ⟨o, ho, oa⟩ := A.at ha
  rcases h with h | h
  · rw [h] at ho
    cases ho
    obtain ⟨o, e, d⟩ := DicO.at I (.inl oa)
    exact ⟨a, o, rfl, e, d⟩
  · rw [h] at ho
    cases ho
    obtain ⟨o, e, d⟩ := DicO.at I (.inr oa)
    exact ⟨a, o, rfl, e, d⟩
theorem keyOk_cases {kvs : List (D × D)} {k : D} (h : keyOk kvs k = true) : k.key 6 = true ∧ ((k.isTup = true ∧ (kvs.all fun p => p.1.isTup) = true) ∨ (k.isLeaf = true ∧ (kvs.all fun p => p.1.isLeaf) = true)) := by
  simp only [keyOk, Bool.and_eq_true, Bool.or_eq_true] at h
  exact h
theorem key_is (I : Inv X pins σ H s) (A : Ag X.K X.w cls W st H) {a : Addr} {k : D} (r : Rep X.K W (.ref a) k) (hk : k.key 6 = true) : (nestedKind X.prog X.w).is s.heap k.nk a :=
  ⟨r.nested I A hk rfl, Nat.le_trans (nk_depth 6 _ hk) (by decide)⟩
/-- all that is asked of a look -/
theorem look (I : Inv X pins σ H s) (A : Ag X.K X.w cls W st H) {x y : V} {dk : D} {i : Nat} {kvs : List (D × D)} (rx : Rep X.K W x dk) (ry : Rep X.K W y (.ref i)) (h : DicAt st i kvs) (k1 : dk.key 6 = true) (k2 : dk.isTup = true) (k3 : (kvs.all fun p => p.1.isTup) = true) :
    ∃ a b o xs, y = .ref a ∧ x = .ref b ∧ (a == sysModules) = false ∧ s.heap.get? a = some o ∧ kvs.length ≤ sizeLine ∧ s.heap.DictOfH (nestedKind X.prog X.w) a xs ∧ KX X.K W xs kvs ∧ (nestedKind X.prog X.w).is s.heap dk.nk b := by
  obtain ⟨a, o, rfl, ho, d⟩ := dic_at I A ry h
  obtain ⟨b, rfl⟩ := rx.tup_ref k2
  have hs := d.2.1
  have hz := d.2.2.1
  obtain ⟨xs, h1, h2⟩ := d.ofH I A ho k3
  exact ⟨a, b, o, xs, rfl, rfl, hs, ho, hz, h1, h2, key_is I A rx k1⟩
/-- .. where the keys are ints and texts -/
theorem lookL (I : Inv X pins σ H s) (A : Ag X.K X.w cls W st H) {x y : V} {v : Value} {dk : D} {i : Nat} {kvs : List (D × D)} (rx : Rep X.K W x dk) (ru : RelV x v) (ry : Rep X.K W y (.ref i)) (h : DicAt st i kvs) (k2 : dk.isLeaf = true) (k3 : (kvs.all fun p => p.1.isLeaf) = true) :
    ∃ a o xs, y = .ref a ∧ (a == sysModules) = false ∧ s.heap.get? a = some o ∧ kvs.length ≤ sizeLine ∧ s.heap.DictOf (mixKind X.prog X.w) a xs ∧ LX X.K W xs kvs ∧ (mixKind X.prog X.w).is dk.ky v = true := by
  obtain ⟨a, o, rfl, ho, d⟩ := dic_at I A ry h
  have ex := ky_rep rx k2
  subst ex
  have hs := d.2.1
  have hz := d.2.2.1
  obtain ⟨xs, h1, h2⟩ := d.ofL (X := X) ho k3
  exact ⟨a, o, xs, rfl, hs, ho, hz, h1, h2, kV_is ru⟩
theorem isSomeL {K : PySem.W.Frag} {W : Wd} {dk : D} (hk : dk.isLeaf = true) {xs : List (L2.Key × Value)} {kvs : List (D × D)} (h : LX K W xs kvs) : (valueAt xs dk.ky).isSome = (dget kvs dk).isSome := by
  have z := h.get hk
  cases e : dget kvs dk with
  | none =>
    rw [e] at z
    have z : valueAt xs dk.ky = none := z
    simp [z]
  | some v => rw [e] at z; obtain ⟨u, z, _⟩ := z; rw [z]; rfl
theorem isSome_eq {K : PySem.W.Frag} {W : Wd} {dk : D} (hk : dk.key 6 = true) {xs : List (NestedKey × Addr × Value)} {kvs : List (D × D)} (h : KX K W xs kvs) : (valueAt (pairsH xs) dk.nk).isSome = (dget kvs dk).isSome := by
  have z := h.get hk
  cases e : dget kvs dk with
  | none =>
    rw [e] at z
    have z : valueAt (pairsH xs) dk.nk = none := z
    simp [z]
  | some v => rw [e] at z; obtain ⟨u, z, _⟩ := z; rw [z]; rfl
theorem room_in1 (hu : X.A.units + 64 < cLine) : (nestedKind X.prog X.w).room X.A.in1 := by
  show X.A.in1.units + 8 < cLine
  simp only [Around.in1]
  omega
end
section
variable {X : Cx} {cls : Nat → Option Addr} {U : XW}
theorem t_mem (hu : X.A.units + 64 < cLine) : OpR X (compareOp .In) (fun x y H Q => ∃ W st dx i kvs, Ag X.K X.w cls W st H ∧ Rep X.K W x dx ∧ Rep X.K W y (.ref i) ∧ DicAt st i kvs ∧ keyOk kvs dx = true ∧ Q (.bl (dget kvs dx).isSome) H) := by
  intro pins s σ H x y u v Q I rx ry h
  obtain ⟨W, st, dx, i, kvs, A, r1, r2, hd, hk, q⟩ := h
  obtain ⟨k1, ⟨k2, k3⟩ | ⟨k2, k3⟩⟩ := keyOk_cases hk
  · obtain ⟨a, b, o, xs, rfl, rfl, hs, ho, hz, h1, h2, h3⟩ := look I A r1 r2 hd k1 k2 k3
    cases rx
    cases ry
    refine in_keyed (room_in1 hu) h3 hs ⟨xs, h1, rfl⟩ ?_
    rw [isSome_eq k1 h2]
    exact ⟨.bl _, H, I.tok _, rfl, q⟩
  · obtain ⟨a, o, xs, rfl, hs, ho, hz, h1, h2, h3⟩ := lookL I A r1 rx r2 hd k2 k3
    cases ry
    refine wpAny_in_of h3 hs h1.mapOf ?_
    rw [isSomeL k2 h2]
    exact ⟨.bl _, H, I.tok _, rfl, q⟩
theorem t_nmem (hu : X.A.units + 64 < cLine) : OpR X (compareOp .NotIn) (fun x y H Q => ∃ W st dx i kvs, Ag X.K X.w cls W st H ∧ Rep X.K W x dx ∧ Rep X.K W y (.ref i) ∧ DicAt st i kvs ∧ keyOk kvs dx = true ∧ Q (.bl (!(dget kvs dx).isSome)) H) := by
  intro pins s σ H x y u v Q I rx ry h
  obtain ⟨W, st, dx, i, kvs, A, r1, r2, hd, hk, q⟩ := h
  obtain ⟨k1, ⟨k2, k3⟩ | ⟨k2, k3⟩⟩ := keyOk_cases hk
  · obtain ⟨a, b, o, xs, rfl, rfl, hs, ho, hz, h1, h2, h3⟩ := look I A r1 r2 hd k1 k2 k3
    cases rx
    cases ry
    refine notIn_keyed (room_in1 hu) h3 hs ⟨xs, h1, rfl⟩ ?_
    rw [isSome_eq k1 h2]
    exact ⟨.bl _, H, I.tok _, rfl, q⟩
  · obtain ⟨a, o, xs, rfl, hs, ho, hz, h1, h2, h3⟩ := lookL I A r1 rx r2 hd k2 k3
    cases ry
    refine wpAny_notIn_of h3 hs h1.mapOf ?_
    rw [isSomeL k2 h2]
    exact ⟨.bl _, H, I.tok _, rfl, q⟩
theorem t_get (hu : X.A.units + 64 < cLine) : IxR X (fun x y H Q => ∃ W st dy i kvs d, Ag X.K X.w cls W st H ∧ Rep X.K W x (.ref i) ∧ Rep X.K W y dy ∧ DicAt st i kvs ∧ keyOk kvs dy = true ∧ dget kvs dy = some d ∧ ∀ v, Rep X.K W v d → Q v H) := by
  intro value slice pins s σ H x y u v Q I rx ry h hsub
  obtain ⟨W, st, dy, i, kvs, d, A, r1, r2, hd, hk, hg, q⟩ := h
  obtain ⟨k1, ⟨k2, k3⟩ | ⟨k2, k3⟩⟩ := keyOk_cases hk
  · obtain ⟨a, b, o, xs, rfl, rfl, hs, ho, hz, h1, h2, h3⟩ := look I A r2 r1 hd k1 k2 k3
    cases rx
    cases ry
    have z := h2.get k1
    rw [hg] at z
    obtain ⟨w, z1, x, z2, z3⟩ := z
    refine tail_any (ops := [.ref a, .ref b]) h1.typeIs (PySem.F.slot_dict_getitem.lookup) ?_ hsub
    exact getItem_keyed (room_in1 hu) h3 ⟨xs, h1, rfl⟩ z1 ⟨x, H, I.tok _, z2, q x z3⟩
  · obtain ⟨a, o, xs, rfl, hs, ho, hz, h1, h2, h3⟩ := lookL I A r2 ry r1 hd k2 k3
    cases rx
    have z := h2.get k2
    rw [hg] at z
    obtain ⟨w, z1, x, z2, z3⟩ := z
    refine tail_any (ops := [.ref a, v]) h1.typeIs (PySem.F.slot_dict_getitem.lookup) ?_ hsub
    exact wpAny_getItem_of h3 h1.mapOf z1 ⟨x, H, I.tok _, z2, q x z3⟩
theorem t_get2 (hu : X.A.units + 64 < cLine) : MtR X "dict.get" (fun x xs H Q => ∃ W st i kvs dk dx, Ag X.K X.w cls W st H ∧ Rep X.K W x (.ref i) ∧ RepL X.K W xs [dk, dx] ∧ DicAt st i kvs ∧ keyOk kvs dk = true ∧ ∀ v, Rep X.K W v ((dget kvs dk).getD dx) → Q v H) := by
  intro pins s σ H x xs v us Q I rx rs h
  obtain ⟨W, st, i, kvs, dk, dx, A, r1, rl, hd, hk, q⟩ := h
  obtain ⟨x1, x2, rfl, q1, q2⟩ := rl.two_inv
  obtain ⟨u1, u2, rfl, e1, e2⟩ := rs.two
  obtain ⟨k1, ⟨k2, k3⟩ | ⟨k2, k3⟩⟩ := keyOk_cases hk
  · obtain ⟨a, b, o, xs, rfl, rfl, hs, ho, hz, h1, h2, h3⟩ := look I A q1 r1 hd k1 k2 k3
    cases rx
    cases e1
    refine getOr_keyed (room_in1 hu) h3 hs ⟨xs, h1, rfl⟩ ?_
    have z := h2.get k1
    cases e : dget kvs dk with
    | none =>
      rw [e] at z
      rw [z]
      exact ⟨x2, H, I.tok _, e2, q x2 (by rw [e]; exact q2)⟩
    | some d =>
      rw [e] at z
      obtain ⟨w, z1, x, z2, z3⟩ := z
      rw [z1]
      exact ⟨x, H, I.tok _, z2, q x (by rw [e]; exact z3)⟩
  · obtain ⟨a, o, xs, rfl, hs, ho, hz, h1, h2, h3⟩ := lookL I A q1 e1 r1 hd k2 k3
    cases rx
    refine call_meetsIn PySem.F.slot_dict_get h1.typeIs PySem.F.entry_dict_get (PySem.F.args_dict_get_3 _ _ _) (meets_dict_get_default (mixKind X.prog X.w) a h3 hs u2) ⟨_, h1.mapOf, ?_⟩
    have z := h2.get k2
    cases e : dget kvs dk with
    | none =>
      rw [e] at z
      have z : valueAt xs dk.ky = none := z
      rw [z]
      exact ⟨x2, H, I.tok _, e2, q x2 (by rw [e]; exact q2)⟩
    | some d =>
      rw [e] at z
      obtain ⟨w, z1, x, z2, z3⟩ := z
      rw [z1]
      exact ⟨x, H, I.tok _, z2, q x (by rw [e]; exact z3)⟩
end
end EV
/-! EvT5: dicts: len, list. (under way) -/
namespace EV
open PySem PySem.Spec PyProof.Rows L2

theorem len_raw {prog : Program} {w : World} {A : Around} {E : Value → Shared → Prop} {s : Shared} {d : Addr} {es : Array DictEntry} {ep : Nat} {Q : Value → Shared → Prop} (hd : (d == sysModules) = false) (hm : s.heap.DictRaw d es ep) (hz : es.size ≤ sizeLine)
    (h : ∀ t u, Q (.int es.size t) { s with toks := u }) : wpAny (model prog w) A (call (.builtin "len") [.ref d]) Q E s := by
  have hs : (es.size : Int) < 2 ^ 63 := by rw [sizeLine_eq] at hz; omega
  refine Calls.call_function_entry kind_len plain_len entry_len (args_len1 _) ?_
  unfold Builtin.«len»
  refine wpAny_bind (m := oneArg "len" _) (wpAny_pure (wpAny_bind (m := callSpecial? (.ref d) (Str.ofString "__len__")) (wpAny_callSpecial?_slot (name := Str.ofString "__len__") hm.typeIs F.slot_dict_len (call_len_raw hd hm ?_))))
  refine wpAny_bind (wpAny_holding (wpAny_pure (wpAny_bind (wpAny_letGo ?_))))
  show wpAny _ _ (if ((es.size : Nat) : Int) < 0 then _ else if ((es.size : Nat) : Int) ≥ 2 ^ 63 then _ else _) _ _ _
  rw [if_neg (by omega), if_neg (by omega)]
  exact wpAny_bind (wpAny_mkInt (wpAny_pure ⟨_, rfl, h _ _⟩))
theorem RepE.keys {K : PySem.W.Frag} {w : World} {W : Wd} : ∀ {es : List DictEntry} {kvs : List (D × D)}, RepE K w W es kvs → ∃ vs, Vals vs (es.map (·.key)) ∧ RepL K W vs (kvs.map (·.1))
  | _, _, .nil => ⟨[], .nil, .nil⟩
  | _, _, .cons hk ⟨x, r, q⟩ hh hv t => by
    obtain ⟨vs, h1, h2⟩ := RepE.keys t
    exact ⟨x :: vs, .cons r h1, .cons q h2⟩
theorem RepE.len {K : PySem.W.Frag} {w : World} {W : Wd} : ∀ {es : List DictEntry} {kvs : List (D × D)}, RepE K w W es kvs → es.length = kvs.length
  | _, _, .nil => rfl
  | _, _, .cons _ _ _ _ t => by rw [List.length_cons, List.length_cons, RepE.len t]
section
variable {X : Cx} {cls : Nat → Option Addr} {U : XW}
theorem t_len : CallR X (.builtin "len") (fun xs H Q => ∃ W st i kvs, Ag X.K X.w cls W st H ∧ RepL X.K W xs [.ref i] ∧ DicAt st i kvs ∧ Q (.int kvs.length) H) := by
  intro pins s σ H xs us Q I r h
  obtain ⟨W, st, i, kvs, A, rl, hd, q⟩ := h
  obtain ⟨v, rfl, rv⟩ := rl.one_inv
  obtain ⟨a, o, rfl, ho, on, hs, hz, es, ep, ex, hdat, hr, hn⟩ := dic_at I A rv hd
  obtain ⟨u, rfl, ru⟩ := vals1 r
  cases ru
  have hl : es.size = kvs.length := by rw [← hr.len, Array.length_toList]
  refine len_raw hs ⟨o, ho, ex, hdat⟩ (by rw [hl]; exact hz) fun t u => ?_
  rw [hl]
  exact ⟨.int _, H, I.tok _, ⟨t, rfl⟩, q⟩
theorem t_list (hc : X.calm = true) : CallR X (.type "list") (fun xs H Q => ∃ W st i kvs, Ag X.K X.w cls W st H ∧ RepL X.K W xs [.ref i] ∧ DicAt st i kvs ∧ ∀ p vs, H p = none → RepL X.K W vs (kvs.map (·.1)) → kvs.length ≤ sizeLine → Q (.ref p) (upd H p (.lst vs))) := by
  intro pins s σ H xs us Q I r h
  obtain ⟨W, st, i, kvs, A, rl, hd, q⟩ := h
  obtain ⟨v, rfl, rv⟩ := rl.one_inv
  obtain ⟨a, o, rfl, ho, on, hs, hz, es, ep, ex, hdat, hr, hn⟩ := dic_at I A rv hd
  obtain ⟨u, rfl, ru⟩ := vals1 r
  cases ru
  have hl : es.size = kvs.length := by rw [← hr.len, Array.length_toList]
  obtain ⟨vs, h1, h2⟩ := hr.keys
  refine PySem.W.kdl_call (PySem.KdlSrc.rawDict (es := es) (ep := ep) hs) (I.ok.hd hc) ⟨o, ho, ex, hdat⟩ (by rw [hl]; exact hz) fun h' tk acc' c' kp e hacc => ?_
  have ea : acc'.toList = es.toList.map (·.key) := by
    refine List.ext_getElem? fun j => ?_
    rw [List.getElem?_map, Array.getElem?_toList, Array.getElem?_toList]
    by_cases hj : j < acc'.size
    · obtain ⟨hi, z⟩ := hacc.2 j acc'[j] (Array.getElem?_eq_getElem hj)
      rw [Array.getElem?_eq_getElem hj, Array.getElem?_eq_getElem hi, z]
      rfl
    · have hz := hacc.1
      rw [Array.getElem?_eq_none (by omega), Array.getElem?_eq_none (by omega)]
      rfl
  have hvl : vs.length ≤ sizeLine := by rw [h2.length, List.length_map]; exact hz
  exact ⟨.ref s.heap.objs.size, _, I.laid (t' := tk) kp (Nat.le_refl _) (show ObjOk X.prog X.w _ h' _ (.lst vs) from ⟨hvl, acc'.toList, c', by rw [ea]; exact h1, by simpa using e⟩), rfl, q _ _ (I.hok.fresh (Nat.le_refl _)) h2 hz⟩
end
end EV
/-! EvT6: a dict's entries behind d[k] = v. (under way) -/
namespace EV
open PySem PySem.Spec PyProof.Rows L2

theorem KX.app {K : PySem.W.Frag} {W : Wd} : ∀ {xs ys : List (NestedKey × Addr × Value)} {kvs lvs : List (D × D)}, KX K W xs kvs → KX K W ys lvs → KX K W (xs ++ ys) (kvs ++ lvs)
  | _, _, _, _, .nil, h => h
  | _, _, _, _, .cons a b c d t, h => .cons a b c d (KX.app t h)
theorem dput_new {dk v : D} : ∀ {kvs : List (D × D)}, dget kvs dk = none → dput kvs dk v = kvs ++ [(dk, v)]
  | [], _ => rfl
  | (a, w) :: r, h => by
    rw [dget] at h
    split at h
    · cases h
    · rename_i ne
      rw [dput, if_neg ne, dput_new h]
      rfl
theorem KX.mapOut {K : PySem.W.Frag} {W : Wd} {k : NestedKey} {u : Value} : ∀ {xs : List (NestedKey × Addr × Value)}, k ∉ xs.map (·.1) → xs.map (putAt k u) = xs
  | [], _ => rfl
  | x :: xs, h => by
    rw [List.map_cons, List.mem_cons, not_or] at h
    have e : ¬ x.1 = k := fun z => h.1 z.symm
    rw [List.map_cons, KX.mapOut (K := K) (W := W) h.2, putAt, if_neg e]
theorem KX.putOld {K : PySem.W.Frag} {W : Wd} {dk v : D} {u : Value} (hk : dk.key 6 = true) (hv : valRel K W u v) : ∀ {xs : List (NestedKey × Addr × Value)} {kvs : List (D × D)}, KX K W xs kvs → (xs.map (·.1)).Nodup → (dget kvs dk).isSome = true → KX K W (xs.map (putAt dk.nk u)) (dput kvs dk v)
  | _, _, .nil, _, h => by simp [dget] at h
  | _, _, .cons (k := k) (a := a) (u := u0) (xs := xs) hk2 ht q hv2 t, nd, h => by
    rw [List.map_cons, List.nodup_cons] at nd
    rw [dget, nk_eqv 6 k dk hk2 hk] at h
    rw [dput, nk_eqv 6 k dk hk2 hk, List.map_cons, putAt]
    by_cases e : k.nk = dk.nk
    · rw [if_pos e, if_pos (by simpa using e), KX.mapOut (K := K) (W := W) (by rw [← e]; exact nd.1)]
      exact .cons hk2 ht q hv t
    · rw [if_neg e, if_neg (by simpa using e)]
      rw [if_neg (by simpa using e)] at h
      exact .cons hk2 ht q hv2 (KX.putOld hk hv t nd.2 h)
/-- d[k] = v -/
theorem KX.put {K : PySem.W.Frag} {W : Wd} {dk v : D} {u : Value} {b : Addr} (hk : dk.key 6 = true) (ht : dk.isTup = true) (hb : Rep K W (.ref b) dk) (hv : valRel K W u v) {xs : List (NestedKey × Addr × Value)} {kvs : List (D × D)} (h : KX K W xs kvs) (nd : (xs.map (·.1)).Nodup) :
    KX K W (storedH xs dk.nk b u) (dput kvs dk v) := by
  have e := isSome_eq hk h
  rw [valueAt_pairsH, Option.isSome_map] at e
  cases z : dget kvs dk with
  | none =>
    rw [z] at e
    have e2 : atKey xs dk.nk = none := by simpa using e
    rw [storedH_new e2, dput_new z]
    exact h.app (.cons hk ht hb hv .nil)
  | some d =>
    rw [z] at e
    obtain ⟨p, e2⟩ := Option.isSome_iff_exists.mp (e.trans rfl)
    rw [storedH_old e2]
    exact h.putOld hk hv nd (by rw [z]; rfl)
end EV
/-! EvT7: d[k] = v. (under way) -/
namespace EV
open PySem PySem.Spec PyProof.Rows L2

theorem dput_len {k v : D} : ∀ kvs : List (D × D), (dput kvs k v).length ≤ kvs.length + 1
  | [] => Nat.le_refl _
  | (a, w) :: r => by
    rw [dput]
    split
    · simp
    · have := dput_len (k := k) (v := v) r
      simp only [List.length_cons]
      omega
theorem t_put {X : Cx} {cls : Nat → Option Addr} (hu : X.A.units + 64 < cLine) : PSet X (fun o i v H Q => ∃ W st n dk dv kvs, Ag X.K X.w cls W st H ∧ Rep X.K W o (.ref n) ∧ Rep X.K W i dk ∧ Rep X.K W v dv ∧ st[n]? = some (.dic kvs) ∧ keyOk kvs dk = true ∧ kvs.length < 1000000 ∧
    ∀ W' H', Ext W H W' H' → Ag X.K X.w cls W' (st.set n (.dic (dput kvs dk dv))) H' → Q H') := by
  intro pins s σ H o i v ov iv u Q I ro ri rv h
  obtain ⟨W, st, n, dk, dv, kvs, A, r1, r2, r3, hst, hk, hl, q⟩ := h
  have hz2 : (dput kvs dk dv).length ≤ sizeLine := by
    have := dput_len (k := dk) (v := dv) kvs
    rw [sizeLine_eq]
    omega
  obtain ⟨a', e', ha⟩ := r1.ref_inv
  obtain ⟨o0, ho0, oa⟩ := A.at ha
  rw [hst] at ho0
  cases ho0
  obtain ⟨o1, hH, _⟩ := oa
  have fin : ∀ (h' : Heap) (o2 : Obj) (tk : Nat), Heap.SameBut a' s.heap h' → h'.get? a' = some o2 → DicO X.K X.w W a' o2 (dput kvs dk dv) → ∃ H', Inv X pins σ H' { s with heap := h', toks := tk } ∧ Q H' := fun h' o2 tk sb g1 d => by
    obtain ⟨A', x'⟩ := A.setObj (H' := upd H a' (exactly a' o2)) (o := .dic (dput kvs dk dv)) ha (fun b hb => upd_ne hb) ⟨o2, upd_same, d⟩ (fun _ _ z => by rw [hH] at z; cases z)
    exact ⟨upd H a' (exactly a' o2), d_write I (by rw [hH]; exact True.intro) sb ⟨o2, g1⟩ ⟨g1, ⟨o2, g1⟩, fun _ _ p k => k _ p⟩, q _ _ x' A'⟩
  obtain ⟨k1, ⟨k2, k3⟩ | ⟨k2, k3⟩⟩ := keyOk_cases hk
  · obtain ⟨a, b, ob, xs, rfl, rfl, hs, ho, hz, h1, h2, h3⟩ := look I A r2 r1 (.inl hst) k1 k2 k3
    cases e'
    cases ro
    cases ri
    have nd : (xs.map (·.1)).Nodup := by obtain ⟨_, _, _, _, _, _, _, _, nd⟩ := h1; exact nd
    refine wpAny_setItem_heap (room_in1 hu) h3 h1 (fun h' dd' sb => ?_) (by rw [h2.keys.2.2]; exact hz)
    obtain ⟨o2, es, ep, g1, g2, g3, g4, g5, g6⟩ := dd'
    have kx := h2.put k1 k2 r2 ⟨v, rv, r3⟩ nd
    exact fin h' o2 _ sb g1 ⟨rfl, hs, hz2, es, ep, g2, g3, by rw [g4]; exact kx.repE, by rw [← kx.keys.1]; exact g6⟩
  · obtain ⟨a, ob, xs, rfl, hs, ho, hz, h1, h2, h3⟩ := lookL I A r2 ri r1 (.inl hst) k2 k3
    cases e'
    cases ro
    have nd : (xs.map (·.1)).Nodup := by obtain ⟨_, _, _, _, _, _, _, _, nd⟩ := h1; exact nd
    refine wpAny_setItem_pairs (hsz := by rw [h2.keys.2.2]; exact hz) h3 h1 fun h' dd' sb => ?_
    obtain ⟨o2, g1, g2⟩ := DicO.fromL dd' (h2.put k2 ⟨v, rv, r3⟩ nd) hs hz2
    exact fin h' o2 _ sb g1 g2
end EV
/-! EvSo: sorting of tuples: compared up to the first place that differs, empty ones among them. -/
namespace EV
open PySem PySem.Spec PyProof.Rows L2 PySem.W PySem.SeqAt

/-- rows of items that can be compared, up to the first place that differs -/
def cmpP : List PyData → List PyData → Bool
  | x :: xs, y :: ys => alike x y && (!PyData.eqv x y || cmpP xs ys)
  | _, _ => true
theorem cmpP_cons {x y : PyData} {xs ys : List PyData} (h : cmpP (x :: xs) (y :: ys) = true) : alike x y = true ∧ (PyData.eqv x y = true → cmpP xs ys = true) := by
  rw [cmpP, Bool.and_eq_true, Bool.or_eq_true, Bool.not_eq_true'] at h
  exact ⟨h.1, fun e => h.2.elim (fun z => by rw [z] at e; cases e) id⟩
theorem cmpP_alike : ∀ {xs ys : List PyData}, alikeAll xs ys = true → cmpP xs ys = true
  | [], ys, _ => by simp [cmpP]
  | _ :: _, [], _ => by simp [cmpP]
  | x :: xs, y :: ys, h => by
    obtain ⟨h1, h2⟩ := alike_all_cons h
    rw [cmpP, h1, cmpP_alike h2]
    simp
mutual
/-- a value reads as one datum only -/
theorem reads_one {h : Heap} : ∀ (d e : PyData) (v : Value) (as bs : List Addr), d.plain = true → e.plain = true → Reads h v d as → Reads h v e bs → d = e
  | .none, _, _, _, _, _, _, r, q => by cases r; cases q; rfl
  | .bool _, _, _, _, _, _, _, r, q => by cases r; cases q; rfl
  | .int _, _, _, _, _, _, _, r, q => by cases r; cases q; rfl
  | .str _, _, _, _, _, _, _, r, q => by cases r; cases q; rfl
  | .list xs, e, _, _, _, p1, p2, r, q => by
    cases r with
    | list a1 a2 a3 a4 =>
      cases q with
      | list b1 b2 b3 b4 =>
        rw [a1] at b1; cases b1
        rw [a3] at b3; cases b3
        rw [reads_all xs _ _ _ _ (by simpa [PyData.plain] using p1) (by simpa [PyData.plain] using p2) a4 b4]
      | tuple b1 b2 b3 b4 =>
        rw [a1] at b1; cases b1
        rw [a2] at b2
        exact absurd b2 (by decide)
      | dict b1 b2 b3 b4 b5 => exact absurd p2 (by simp [PyData.plain])
  | .tuple xs, e, _, _, _, p1, p2, r, q => by
    cases r with
    | tuple a1 a2 a3 a4 =>
      cases q with
      | tuple b1 b2 b3 b4 =>
        rw [a1] at b1; cases b1
        rw [a3] at b3; cases b3
        rw [reads_all xs _ _ _ _ (by simpa [PyData.plain] using p1) (by simpa [PyData.plain] using p2) a4 b4]
      | list b1 b2 b3 b4 =>
        rw [a1] at b1; cases b1
        rw [a2] at b2
        exact absurd b2 (by decide)
      | dict b1 b2 b3 b4 b5 => exact absurd p2 (by simp [PyData.plain])
  | .dict _, _, _, _, _, p1, _, _, _ => absurd p1 (by simp [PyData.plain])
theorem reads_all {h : Heap} : ∀ (ds es : List PyData) (vs : List Value) (as bs : List Addr), PyData.plainAll ds = true → PyData.plainAll es = true → ReadsAll h vs ds as → ReadsAll h vs es bs → ds = es
  | [], _, _, _, _, _, _, r, q => by cases r; cases q; rfl
  | d :: ds, [], _, _, _, _, _, r, q => by cases q; cases r
  | d :: ds, e :: es, _, _, _, p1, p2, r, q => by
    rw [PyData.plainAll, Bool.and_eq_true] at p1 p2
    cases r with
    | cons a1 a2 =>
      cases q with
      | cons b1 b2 => rw [reads_one d e _ _ _ p1.1 p2.1 a1 b1, reads_all ds es _ _ _ p1.2 p2.2 a2 b2]
end
/-- the kind of keys made by plain data -/
noncomputable def plKind (h : Heap) (ds : List PyData) : PyProof.Rows.KeyKind where
  toKeyOrd := listOrd itemOrd
  keyOf v := open Classical in if q : ∃ d, (d ∈ ds ∧ d.plain = true) ∧ ∃ as, Reads h v d as then some (keyToks q.choose) else none
  dflt := ([] : List (Int ⊕ List Nat))
theorem plKind_yes {h : Heap} {ds : List PyData} {v : Value} {d : PyData} {as : List Addr} (hd : d ∈ ds) (hp : d.plain = true) (r : Reads h v d as) : (plKind h ds).keyOf v = some (keyToks d) := by
  have q : ∃ d, (d ∈ ds ∧ d.plain = true) ∧ ∃ as, Reads h v d as := ⟨d, ⟨hd, hp⟩, as, r⟩
  have e : (plKind h ds).keyOf v = some (keyToks q.choose) := by
    unfold plKind
    simp only [dif_pos q]
  obtain ⟨z1, bs, z2⟩ := q.choose_spec
  rw [e, reads_one _ _ _ _ _ z1.2 hp z2 r]
theorem plKind_inv {h : Heap} {ds : List PyData} {v : Value} {k : List (Int ⊕ List Nat)} (e : (plKind h ds).keyOf v = some k) : ∃ d as, d ∈ ds ∧ d.plain = true ∧ Reads h v d as ∧ k = keyToks d := by
  by_cases q : ∃ d, (d ∈ ds ∧ d.plain = true) ∧ ∃ as, Reads h v d as
  · have e2 : (plKind h ds).keyOf v = some (keyToks q.choose) := by
      unfold plKind
      simp only [dif_pos q]
    obtain ⟨z1, bs, z2⟩ := q.choose_spec
    rw [e2] at e
    exact ⟨_, bs, z1.1, z1.2, z2, (Option.some.inj e).symm⟩
  · have e2 : (plKind h ds).keyOf v = none := by
      unfold plKind
      simp only [dif_neg q]
    rw [e2] at e
    cases e
section
variable {prog : Program} {w : World} {A : Around} {E : Value → Shared → Prop} {s : Shared}
/-- two rows of items, compared as sorting does it -/
theorem katLex_cmp {b fin : Bool} {Q : Bool → Shared → Prop} : ∀ (xs ys : List PyData) (i : Nat) (vs ws : List Value) (as bs : List Addr), ReadsAll s.heap vs xs as → ReadsAll s.heap ws ys bs → cmpP xs ys = true →
    A.units + min (PyData.depthAll xs) (PyData.depthAll ys) < cLine → (b = true → i = 0 → ∀ x r t, xs = x :: r → x ≠ .tuple t) → fin = decide (xs.length < ys.length) → Q (PyProof.Rows.lexLt itemOrd (keyToksAll xs) (keyToksAll ys)) s →
    KatLex prog w A b fin Q (vs.zip ws) i s
  | [], ys, i, vs, ws, as, bs, ra, rb, _, hu, hb, hf, hq => katLex_alike [] ys i vs ws as bs ra rb (by cases ys <;> simp [alikeAll]) hu hb hf hq
  | x :: xs, [], i, vs, ws, as, bs, ra, rb, _, hu, hb, hf, hq => katLex_alike (x :: xs) [] i vs ws as bs ra rb (by simp [alikeAll]) hu hb hf hq
  | x :: xs, y :: ys, i, _, _, _, _, ra, rb, h, hu, hb, hf, hq => by
    obtain ⟨c1, c2⟩ := cmpP_cons h
    have hf2 : fin = decide (xs.length < ys.length) := by
      rw [hf]
      simp
    cases ra with
    | cons r rs =>
      cases rb with
      | cons q qs =>
        rw [List.zip_cons_cons]
        refine kat_cons (eqAt_alike x y A s _ _ _ _ r q c1 (room_head hu) prog w _ _ ?_)
        cases hx : PyData.eqv x y with
        | true =>
          rw [dataLt_all_yes c1 hx] at hq
          exact kat_yes (katLex_cmp xs ys (i + 1) _ _ _ _ rs qs (c2 hx) (room_tail hu) (fun _ z => by cases z) hf2 hq)
        | false =>
          rw [dataLt_all_no c1 hx] at hq
          refine kat_no (oneLt_alike (fun hbi t => ?_) r q c1 (ne_none_of c1 hx) (room_head hu) hq)
          rw [Bool.and_eq_true] at hbi
          exact hb hbi.1 (by simpa using hbi.2) x xs t rfl
theorem call_tup_lt {Q : Value → Shared → Prop} {l b : Addr} {items items2 : Array Value} {e r : Nat → Bool} (hl : s.heap.IsTuple l items) (hb : s.heap.IsTuple b items2)
    (he : ∀ j (h1 : j < items.size) (h2 : j < items2.size), EqAt A.in1 s items[j] items2[j] (e j)) (hr : ∀ j (h1 : j < items.size) (h2 : j < items2.size), e j = false → RcLt A.in1 s items[j] items2[j] (r j))
    (h : Q (.bool (firstLt e r (decide (items.size < items2.size)) (List.range (min items.size items2.size)))) s) : wpAny (model prog w) A (call (.builtin "tuple.__lt__") [.ref l, .ref b]) Q E s := by
  obtain ⟨⟨c1, d1, k1, s1⟩, ho, hc, n, hd⟩ := id hl
  obtain ⟨⟨c2, d2, k2, s2⟩, ho2, hc2, n2, hd2⟩ := id hb
  simp only at hc hd hc2 hd2
  subst hc hd hc2 hd2
  exact call_meets F.slot_tuple_lt ⟨_, ho, rfl⟩ F.entry_tuple_lt (F.args_tuple_lt_2 _ _) (tuple_ltAt l b items items2 n n2 d1 d2 s1 s2 e r) ⟨ho, ho2, he, hr, h⟩
/-- one tuple against another by tuple's own < -/
theorem oneLt_tup {xs ys : List PyData} {a b : Value} {as bs : List Addr} {Q : Bool → Shared → Prop} (ra : Reads s.heap a (.tuple xs) as) (rb : Reads s.heap b (.tuple ys) bs) (h : alikeAll xs ys = true)
    (hu : A.units + min (PyData.tuple xs).depth (PyData.tuple ys).depth < cLine) (hq : Q (dataLt (.tuple xs) (.tuple ys)) s) : wpAny (model prog w) A (oneLt' true a b) Q E s := by
  cases ra with
  | @tuple l o vs n _ as1 a1 a2 a3 a4 =>
    cases rb with
    | @tuple l2 o2 vs2 n2 _ bs1 b1 b2 b3 b4 =>
      have e1 : vs.size = xs.length := by simpa using ReadsAll.length _ _ _ a4
      have e2 : vs2.size = ys.length := by simpa using ReadsAll.length _ _ _ b4
      rw [dataLt_tuple, ← firstLt_toks xs ys h, ← e1, ← e2] at hq
      rw [oneLt'_eq]
      simp only [if_true]
      refine wpAny_bind (wpAny_cRoomFor (room_here hu) ?_)
      refine wpAny_bind (wpAny_callSpecialIfBound?_slot (T := "tuple") ⟨_, a1, a2⟩ F.slot_tuple_lt (call_tup_lt (e := pairEq xs ys) (r := fun j => dataLt (xs.getD j .none) (ys.getD j .none)) ⟨_, a1, a2, _, a3⟩ ⟨_, b1, b2, _, b3⟩ (fun j j1 j2 => ?_) (fun j j1 j2 hj => ?_) ?_))
      · have z := eqAt_alikeAll xs ys A.in1 s vs.toList vs2.toList _ _ a4 b4 h (room_in hu) j (by simpa using j1) (by simpa using j2)
        simpa using z
      · have z := rcLt_alikeAll xs ys A.in1 s vs.toList vs2.toList _ _ a4 b4 h (room_in hu) j (by simpa using j1) (by simpa using j2) hj
        simpa using z
      · exact wpAny_truthy_bool hq
/-- a tuple with an item -/
def neT : PyData → Bool
  | .tuple (_ :: _) => true
  | _ => false
theorem firsts_of : ∀ {vs : List Value} {ds : List PyData}, EachIs (fun v d => ∃ as, Reads s.heap v d as) vs ds → (∀ d ∈ ds, ∃ xs, d = .tuple xs) →
    ∃ rs : List (Option Value), rs.map (·.isSome) = ds.map neT ∧ ∀ (Q : List (Option Value) → Shared → Prop), Q rs s → wpAny (model prog w) A (vs.mapM firstOfTuple') Q E s
  | _, _, .nil, _ => ⟨[], rfl, fun Q h => by rw [List.mapM_nil]; exact wpAny_pure h⟩
  | _, _, .cons (a := v) (b := d) ⟨as, r⟩ t, ht => by
    obtain ⟨rs, e1, e2⟩ := firsts_of t fun d hd => ht d (List.mem_cons_of_mem _ hd)
    obtain ⟨xs, rfl⟩ := ht d (List.mem_cons_self ..)
    cases r with
    | @tuple l o vs n _ as1 a1 a2 a3 a4 =>
      refine ⟨vs[0]? :: rs, ?_, fun Q h => ?_⟩
      · rw [List.map_cons, List.map_cons, e1]
        congr 1
        have hl : vs.size = xs.length := by simpa using ReadsAll.length _ _ _ a4
        cases xs with
        | nil => rw [Array.getElem?_eq_none (by rw [hl]; exact Nat.le_refl _)]; rfl
        | cons x xs => rw [Array.getElem?_eq_getElem (by rw [hl]; exact Nat.succ_pos _)]; rfl
      · rw [List.mapM_cons]
        refine wpAny_bind ?_
        rw [kas_first_eq]
        have hT : Shared.TypeIs s (.ref l) "tuple" := ⟨_, a1, a2⟩
        refine wpAny_bind ((looks_reads (.tuple a1 a2 a3 a4)).here ?_)
        rw [if_neg (by simp [dataType])]
        refine wpAny_bind (listItems_at a1 a3 (wpAny_pure ?_))
        refine wpAny_bind (e2 (fun rs s1 => wpAny (model prog w) A (pure (vs[0]? :: rs)) Q E s1) (wpAny_pure h))
theorem one_type {vs : List Value} {T : Value} {Q : Option Value → Shared → Prop} (h1 : vs ≠ []) (hT : ∀ v ∈ vs, Looks (model prog w) s.heap (typeOf v) T) (hT2 : (T == T) = true) (h : Q (some T) s) : wpAny (model prog w) A (oneTypeOnly' vs.toArray) Q E s := by
  cases vs with
  | nil => exact absurd rfl h1
  | cons v vs =>
    rw [oneTypeOnly'_eq, List.mapM_toArray, map_eq_pure_bind]
    refine wpAny_bind (wpAny_bind (kas_mapM (r := T) _ (fun v hv Q' hq => (hT v hv).here hq) (wpAny_pure ?_)))
    have hall : ((List.map (fun _ => T) (v :: vs)).toArray.all fun x => x == T) = true := by
      simp only [List.all_toArray, List.all_map, List.all_eq_true]
      exact fun _ _ => hT2
    have h0 : (List.map (fun _ => T) (v :: vs)).toArray[0]? = some T := by simp
    rw [h0]
    simp only [hall, if_true]
    exact wpAny_pure h
def emptyKd (ds : List PyData) : SortKind := if (ds.head?.any neT) = true then general' else oneType'
/-- what the choice of a comparison finds in tuples of which one at least is empty -/
theorem kind_some_empty {vs : List Value} {ds : List PyData} {Q : SortKind → Shared → Prop} (e : EachIs (fun v d => ∃ as, Reads s.heap v d as) vs ds) (ht : ∀ d ∈ ds, ∃ xs, d = .tuple xs) (hn : ds.all neT = false) (h : Q (emptyKd ds) s) :
    wpAny (model prog w) A (keyKind' vs.toArray) Q E s := by
  obtain ⟨rs, e1, e2⟩ := firsts_of (prog := prog) (w := w) (A := A) (E := E) e ht
  rw [keyKind'_eq, List.mapM_toArray, map_eq_pure_bind]
  refine wpAny_bind (wpAny_bind (e2 _ (wpAny_pure ?_)))
  have ha : rs.toArray.all (·.isSome) = false := by
    have z : (rs.map (·.isSome)).all id = false := by rw [e1, List.all_map]; exact hn
    rw [List.all_map] at z
    simpa using z
  rw [ha, if_neg (by simp)]
  have hh : (rs.toArray[0]?.bind id).isSome = ds.head?.any neT := by
    cases rs with
    | nil =>
      cases ds with
      | nil => rfl
      | cons d ds => simp at e1
    | cons r rs =>
      cases ds with
      | nil => simp at e1
      | cons d ds =>
        rw [List.map_cons, List.map_cons] at e1
        have z := (List.cons.inj e1).1
        simpa using z
  rw [hh]
  unfold emptyKd at h
  cases q : ds.head?.any neT with
  | true =>
    rw [q] at h
    simp only [if_true] at h ⊢
    exact wpAny_pure h
  | false =>
    rw [q] at h
    simp only [Bool.false_eq_true, if_false] at h ⊢
    refine wpAny_bind (one_type (T := .type "tuple") (fun z => ?_) (fun v hv => ?_) (by decide) (wpAny_pure ?_))
    · subst z
      cases e
      simp at hn
    · obtain ⟨d, hd, as, r⟩ := e.left v hv
      obtain ⟨xs, rfl⟩ := ht d hd
      exact looks_reads r
    · simpa using h
/-- tuples can be sorted: all of them with an item, compared up to the first place that differs; or alike -/
theorem sorts_tup {vs : List Value} {ds : List PyData} (e : EachIs (fun v d => ∃ as, Reads s.heap v d as) vs ds) (hp : ∀ d ∈ ds, d.plain = true) (ht : ∀ d ∈ ds, ∃ xs, d = .tuple xs)
    (hc : (ds.all neT = true ∧ ∀ xs ys, .tuple xs ∈ ds → .tuple ys ∈ ds → cmpP xs ys = true) ∨ (ds.all neT = false ∧ ∀ xs ys, .tuple xs ∈ ds → .tuple ys ∈ ds → alikeAll xs ys = true))
    (hu : ∀ d, d ∈ ds → A.units + d.depth < cLine) : SortsAt prog w A s (plKind s.heap ds) vs := by
  have room : ∀ {d d' : PyData}, d ∈ ds → A.units + min d.depth d'.depth < cLine := fun {d d'} hd => Nat.lt_of_le_of_lt (Nat.add_le_add_left (Nat.min_le_left _ _) _) (hu d hd)
  refine ⟨fun v hv => ?_, ?_⟩
  · obtain ⟨d, hd, as, r⟩ := e.left v hv
    exact ⟨_, plKind_yes hd (hp d hd) r⟩
  rcases hc with ⟨ha, hc⟩ | ⟨ha, hc⟩
  · cases ds with
    | nil =>
      cases e
      exact ⟨general', fun E x y a b Q ha _ _ => (by
        obtain ⟨d, _, hd, _⟩ := plKind_inv ha
        cases hd), fun h2 => absurd h2 (by simp)⟩
    | cons d0 ds0 =>
      have hne : ∀ d ∈ d0 :: ds0, ∃ x r, d = .tuple (x :: r) := fun d hd => by
        obtain ⟨xs, rfl⟩ := ht d hd
        have z := List.all_eq_true.mp ha _ hd
        cases xs with
        | nil => simp [neT] at z
        | cons x r => exact ⟨x, r, rfl⟩
      obtain ⟨x0, r0, e0⟩ := hne d0 (List.mem_cons_self ..)
      have hfirst : ∀ x r, PyData.tuple (x :: r) ∈ d0 :: ds0 → alike x x0 = true := fun x r hm => (cmpP_cons (hc _ (x0 :: r0) hm (by rw [← e0]; exact List.mem_cons_self ..))).1
      refine ⟨tuples' (dataType x0 != Value.type "tuple"), ?_, fun h2 E Q hq => ?_⟩
      · intro E x y a b Q ka kb hq
        obtain ⟨d, as, hd, _, ra, rfl⟩ := plKind_inv ka
        obtain ⟨d', as', hd', _, rb, rfl⟩ := plKind_inv kb
        have hroom := room (d' := d') hd
        obtain ⟨x1, r1, rfl⟩ := hne d hd
        obtain ⟨x2, r2, rfl⟩ := hne d' hd'
        have hq2 : Q (dataLt (.tuple (x1 :: r1)) (.tuple (x2 :: r2))) s := hq
        rw [dataLt_tuple] at hq2
        cases ra with
        | @tuple l o xs n _ _ a1 a2 a3 a4 =>
          cases rb with
          | @tuple l' o' xs' n' _ _ b1 b2 b3 b4 =>
            have n1 : xs.size = (x1 :: r1).length := by simpa using ReadsAll.length _ _ _ a4
            have n2 : xs'.size = (x2 :: r2).length := by simpa using ReadsAll.length _ _ _ b4
            refine kat_lt a1 a3 b1 b3 (katLex_cmp (x1 :: r1) (x2 :: r2) 0 _ _ _ _ a4 b4 (hc _ _ hd hd') (by have q := room_in hroom; omega) (fun hb _ x r t ex => ?_) (by rw [n1, n2]) hq2)
            obtain ⟨rfl, rfl⟩ := List.cons.inj ex
            rw [← dataType_alike (hfirst _ _ hd)] at hb
            exact dataType_tuple hb t
      · obtain ⟨fs, t1, t2, t3⟩ := each_katTups e hne
        refine kat_kind (T := dataType x0) t1 (by omega) (fun f hf => ?_) (beq_self_eq_true _) hq
        obtain ⟨x, r, as, m1, m2⟩ := t3 f hf
        rw [← dataType_alike (hfirst x r m1)]
        exact looks_reads m2
  · refine ⟨emptyKd ds, ?_, fun h2 E Q hq => kind_some_empty e ht ha hq⟩
    intro E x y a b Q ka kb hq
    obtain ⟨d, as, hd, _, ra, rfl⟩ := plKind_inv ka
    obtain ⟨d', as', hd', _, rb, rfl⟩ := plKind_inv kb
    have hroom := room (d' := d') hd
    obtain ⟨xs, rfl⟩ := ht d hd
    obtain ⟨ys, rfl⟩ := ht d' hd'
    have hal := hc _ _ hd hd'
    have hq2 : Q (dataLt (.tuple xs) (.tuple ys)) s := hq
    unfold emptyKd
    split
    · show wpAny _ _ (oneLt' false x y) _ _ _
      exact oneLt_alike (f := false) (fun z => by cases z) ra rb (by simpa [alike] using hal) (fun z => by cases z) hroom hq2
    · rw [keyLt'_oneType]
      exact oneLt_tup ra rb hal hroom hq2
end
end EV
/-! EvSp: sorted. -/
namespace EV
open PySem PySem.Spec PyProof.Rows L2 PySem.W PySem.SeqAt

/-! ### insertion sort and the library's -/
section
variable {α β : Type} {le : α → α → Bool}
theorem mem_insL {x z : α} : ∀ {l : List α}, z ∈ insL le x l ↔ z = x ∨ z ∈ l
  | [] => by simp [insL]
  | y :: r => by
    rw [insL]
    split
    · simp
    · rw [List.mem_cons, mem_insL (l := r), List.mem_cons]
      constructor
      · rintro (h | h | h)
        · exact .inr (.inl h)
        · exact .inl h
        · exact .inr (.inr h)
      · rintro (h | h | h)
        · exact .inr (.inl h)
        · exact .inl h
        · exact .inr (.inr h)
theorem mem_isort {z : α} : ∀ {l : List α}, z ∈ isort le l ↔ z ∈ l
  | [] => Iff.rfl
  | x :: r => by rw [isort, mem_insL, mem_isort (l := r), List.mem_cons]
theorem perm_insL {x : α} : ∀ {l : List α}, (insL le x l).Perm (x :: l)
  | [] => .refl _
  | y :: r => by
    rw [insL]
    split
    · exact .refl _
    · exact (List.Perm.cons y perm_insL).trans (List.Perm.swap x y r)
theorem perm_isort : ∀ {l : List α}, (isort le l).Perm l
  | [] => .refl _
  | x :: r => perm_insL.trans (List.Perm.cons x perm_isort)
theorem insL_sorted (h : TotalLe le) {x : α} : ∀ {l : List α}, l.Pairwise (fun a b => le a b = true) → (insL le x l).Pairwise (fun a b => le a b = true)
  | [], _ => by simp [insL]
  | y :: r, hp => by
    rw [List.pairwise_cons] at hp
    rw [insL]
    split
    · rename_i hx
      refine List.pairwise_cons.mpr ⟨fun z hz => ?_, List.pairwise_cons.mpr hp⟩
      rcases List.mem_cons.mp hz with rfl | hz
      · exact hx
      · exact h.trans _ _ _ hx (hp.1 z hz)
    · rename_i hx
      refine List.pairwise_cons.mpr ⟨fun z hz => ?_, insL_sorted h hp.2⟩
      rcases mem_insL.mp hz with rfl | hz
      · exact (h.total z y).resolve_left hx
      · exact hp.1 z hz
theorem isort_sorted (h : TotalLe le) : ∀ (l : List α), (isort le l).Pairwise (fun a b => le a b = true)
  | [] => List.Pairwise.nil
  | x :: r => insL_sorted h (isort_sorted h r)
theorem insL_filter (h : TotalLe le) {c x : α} : ∀ {l : List α}, (insL le x l).filter (sameRank le c) = (x :: l).filter (sameRank le c)
  | [] => rfl
  | y :: r => by
    rw [insL]
    split
    · rfl
    · rename_i hx
      have ih := insL_filter h (c := c) (x := x) (l := r)
      rw [List.filter_cons, ih, List.filter_cons, List.filter_cons, List.filter_cons]
      by_cases h1 : sameRank le c y = true
      · by_cases h2 : sameRank le c x = true
        · exfalso
          apply hx
          unfold sameRank at h1 h2
          rw [Bool.and_eq_true] at h1 h2
          exact h.trans _ _ _ h2.2 h1.1
        · simp [h1, h2]
      · simp [h1]
theorem isort_filter (h : TotalLe le) {c : α} : ∀ (l : List α), (isort le l).filter (sameRank le c) = l.filter (sameRank le c)
  | [] => rfl
  | x :: r => by rw [isort, insL_filter h, List.filter_cons, isort_filter h r, ← List.filter_cons]
theorem isort_merge (h : TotalLe le) (l : List α) : isort le l = l.mergeSort le := sort_unique h (isort_sorted h l) fun _ => isort_filter h l
theorem insL_congr {r s : α → α → Bool} {x : α} : ∀ {l : List α}, (∀ a ∈ l, r x a = s x a) → insL r x l = insL s x l
  | [], _ => rfl
  | y :: l, h => by
    rw [insL, insL, h y (List.mem_cons_self ..), insL_congr fun a ha => h a (List.mem_cons_of_mem _ ha)]
theorem isort_congr {r s : α → α → Bool} : ∀ {l : List α}, (∀ a ∈ l, ∀ b ∈ l, r a b = s a b) → isort r l = isort s l
  | [], _ => rfl
  | x :: l, h => by
    rw [isort, isort, isort_congr fun a ha b hb => h a (List.mem_cons_of_mem _ ha) b (List.mem_cons_of_mem _ hb)]
    exact insL_congr fun a ha => h x (List.mem_cons_self ..) a (List.mem_cons_of_mem _ (mem_isort.mp ha))
theorem insL_map {r : α → α → Bool} {s : β → β → Bool} {f : α → β} (h : ∀ a b, r a b = s (f a) (f b)) {x : α} : ∀ (l : List α), (insL r x l).map f = insL s (f x) (l.map f)
  | [] => rfl
  | y :: l => by
    rw [insL, List.map_cons, insL, h]
    split
    · rfl
    · rw [List.map_cons, insL_map h l]
theorem isort_map {r : α → α → Bool} {s : β → β → Bool} {f : α → β} (h : ∀ a b, r a b = s (f a) (f b)) : ∀ (l : List α), (isort r l).map f = isort s (l.map f)
  | [] => rfl
  | x :: l => by rw [isort, insL_map h, isort_map h l]; rfl
end
theorem sortI_perm (ns : List Int) : (sortI ns).Perm ns := perm_isort
theorem leI : TotalLe fun a b : Int => decide (a ≤ b) := ⟨fun a b c h1 h2 => by simp only [decide_eq_true_eq] at *; omega, fun a b => by simp only [decide_eq_true_eq]; omega⟩
theorem sortI_sorted (ns : List Int) : (sortI ns).Pairwise (· ≤ ·) := (isort_sorted leI ns).imp fun h => by simpa using h
/-! ### the order of data, by the library's -/
mutual
theorem alike_py : ∀ {n : Nat} (x y : D), x.flat n = true → y.flat n = true → PySem.W.alike x.py y.py = D.alike x y
  | _, .non, y, _, h => by cases y <;> simp [D.flat, D.py, D.alike, PySem.W.alike] at h ⊢
  | _, .bl _, y, _, h => by cases y <;> simp [D.flat, D.py, D.alike, PySem.W.alike] at h ⊢
  | _, .int _, y, _, h => by cases y <;> simp [D.flat, D.py, D.alike, PySem.W.alike] at h ⊢
  | _, .str _, y, _, h => by cases y <;> simp [D.flat, D.py, D.alike, PySem.W.alike] at h ⊢
  | 0, .tup xs, _, g, _ => by simp [D.flat] at g
  | 0, .lst xs, _, g, _ => by simp [D.flat] at g
  | n + 1, .tup xs, y, g, h => by
    cases y with
    | tup ys =>
      rw [D.flat] at g h
      simp only [D.py, D.alike, PySem.W.alike]
      exact alikes_py xs ys g h
    | _ => simp [D.flat, D.py, D.alike, PySem.W.alike] at h ⊢
  | n + 1, .lst xs, y, g, h => by
    cases y with
    | lst ys =>
      rw [D.flat] at g h
      simp only [D.py, D.alike, PySem.W.alike]
      exact alikes_py xs ys g h
    | _ => simp [D.flat, D.py, D.alike, PySem.W.alike] at h ⊢
  | _, .scr _, _, h, _ => by simp [D.flat] at h
  | _, .ref _, _, h, _ => by simp [D.flat] at h
theorem alikes_py : ∀ {n : Nat} (xs ys : List D), D.flats n xs = true → D.flats n ys = true → PySem.W.alikeAll (D.pys xs) (D.pys ys) = D.alikes xs ys
  | _, [], ys, _, _ => by cases ys <;> simp [D.pys, D.alikes, PySem.W.alikeAll]
  | _, x :: xs, [], _, _ => by simp [D.pys, D.alikes, PySem.W.alikeAll]
  | n, x :: xs, y :: ys, g, h => by
    rw [D.flats, Bool.and_eq_true] at g h
    rw [D.pys, D.pys, PySem.W.alikeAll, D.alikes, alike_py x y g.1 h.1, alikes_py xs ys g.2 h.2]
end
theorem cmpT_py : ∀ {n : Nat} (xs ys : List D), D.flats n xs = true → D.flats n ys = true → cmpP (D.pys xs) (D.pys ys) = D.cmpT xs ys
  | _, [], ys, _, _ => by cases ys <;> simp [D.pys, D.cmpT, cmpP]
  | _, x :: xs, [], _, _ => by simp [D.pys, D.cmpT, cmpP]
  | n, x :: xs, y :: ys, g, h => by
    rw [D.flats, Bool.and_eq_true] at g h
    rw [D.pys, D.pys, cmpP, D.cmpT, alike_py x y g.1 h.1, cmpT_py xs ys g.2 h.2, D.eqv_py x y g.1 h.1]
mutual
theorem lt_py : ∀ {n : Nat} (x y : D), x.flat n = true → y.flat n = true → D.alike x y = true → PySem.W.dataLt x.py y.py = D.lt x y
  | _, .non, y, _, h, a => by
    cases y <;> simp [D.alike] at a
    simp [D.py, PySem.W.dataLt, PySem.W.keyToks, D.lt, lex_irrefl]
  | _, .bl b, y, _, h, a => by
    cases y <;> simp [D.alike] at a
    rename_i c
    rw [D.py, D.py, PySem.W.dataLt_bool, D.lt]
    cases b <;> cases c <;> rfl
  | _, .int _, y, _, h, a => by
    cases y <;> simp [D.alike] at a
    rw [D.py, D.py, PySem.W.dataLt_int, D.lt]
  | _, .str _, y, _, h, a => by
    cases y <;> simp [D.alike] at a
    rw [D.py, D.py, PySem.W.dataLt_str, D.lt]
  | 0, .tup xs, _, g, _, _ => by simp [D.flat] at g
  | 0, .lst xs, _, g, _, _ => by simp [D.flat] at g
  | n + 1, .tup xs, y, g, h, a => by
    cases y with
    | tup ys =>
      rw [D.flat] at g h
      rw [D.alike] at a
      rw [D.py, D.py, PySem.W.dataLt_tuple, D.lt]
      exact lts_py xs ys g h a
    | _ => simp [D.alike] at a
  | n + 1, .lst xs, y, g, h, a => by
    cases y with
    | lst ys =>
      rw [D.flat] at g h
      rw [D.alike] at a
      rw [D.py, D.py, PySem.W.dataLt_list, D.lt]
      exact lts_py xs ys g h a
    | _ => simp [D.alike] at a
  | _, .scr _, _, h, _, _ => by simp [D.flat] at h
  | _, .ref _, _, h, _, _ => by simp [D.flat] at h
theorem lts_py : ∀ {n : Nat} (xs ys : List D), D.flats n xs = true → D.flats n ys = true → D.alikes xs ys = true → PyProof.Rows.lexLt itemOrd (keyToksAll (D.pys xs)) (keyToksAll (D.pys ys)) = D.lts xs ys
  | _, [], [], _, _, _ => by simp [D.pys, D.lts, lex_irrefl]
  | _, [], y :: ys, _, _, _ => by
    rw [D.pys, D.pys, toks_all_cons, D.lts]
    simp only [keyToksAll]
    rw [lex_diff (O := itemOrd) (by simp)]
    simp [itemLt]
  | _, x :: xs, [], _, _, _ => by
    rw [D.pys, D.pys, toks_all_cons, D.lts]
    simp only [keyToksAll]
    rw [lex_diff (O := itemOrd) (by simp)]
    simp [itemLt]
    all_goals simp
  | n, x :: xs, y :: ys, g, h, a => by
    rw [D.flats, Bool.and_eq_true] at g h
    rw [D.alikes, Bool.and_eq_true] at a
    have al : PySem.W.alike x.py y.py = true := by rw [alike_py x y g.1 h.1]; exact a.1
    rw [D.pys, D.pys, D.lts]
    cases e : D.eqv x y with
    | true =>
      rw [dataLt_all_yes al (by rw [D.eqv_py x y g.1 h.1]; exact e), if_pos rfl]
      exact lts_py xs ys g.2 h.2 a.2
    | false =>
      rw [dataLt_all_no al (by rw [D.eqv_py x y g.1 h.1]; exact e), if_neg Bool.false_ne_true]
      exact lt_py x y g.1 h.1 a.1
end
theorem ltsT_py : ∀ {n : Nat} (xs ys : List D), D.flats n xs = true → D.flats n ys = true → D.cmpT xs ys = true → PyProof.Rows.lexLt itemOrd (keyToksAll (D.pys xs)) (keyToksAll (D.pys ys)) = D.lts xs ys
  | n, [], ys, g, h, _ => lts_py [] ys g h (by cases ys <;> simp [D.alikes])
  | n, x :: xs, [], g, h, _ => lts_py (x :: xs) [] g h (by simp [D.alikes])
  | n, x :: xs, y :: ys, g, h, a => by
    rw [D.flats, Bool.and_eq_true] at g h
    rw [D.cmpT, Bool.and_eq_true, Bool.or_eq_true] at a
    have al : PySem.W.alike x.py y.py = true := by rw [alike_py x y g.1 h.1]; exact a.1
    rw [D.pys, D.pys, D.lts]
    cases e : D.eqv x y with
    | true =>
      rw [dataLt_all_yes al (by rw [D.eqv_py x y g.1 h.1]; exact e), if_pos rfl]
      exact ltsT_py xs ys g.2 h.2 (by rw [e] at a; simpa using a.2)
    | false =>
      rw [dataLt_all_no al (by rw [D.eqv_py x y g.1 h.1]; exact e), if_neg Bool.false_ne_true]
      exact lt_py x y g.1 h.1 a.1
/-- the library's order of data -/
def leP (x y : D) : Bool := sortLe (listOrd itemOrd) false (fun d : D => keyToks d.py) x y
theorem leP_total : TotalLe leP := sortLe_total (listOrd itemOrd) false fun d : D => keyToks d.py
theorem leP_eq (x y : D) : leP x y = !PySem.W.dataLt y.py x.py := rfl
theorem pys_map : ∀ xs : List D, D.pys xs = xs.map D.py
  | [] => rfl
  | x :: xs => by rw [D.pys, pys_map xs]; rfl
theorem intsOf_map : ∀ {ds : List D} {ns : List Int}, intsOf ds = some ns → ds = ns.map D.int
  | [], ns, e => by simp [intsOf] at e; subst e; rfl
  | d :: ds, ns, e => by
    cases d <;> simp only [intsOf, reduceCtorEq] at e
    obtain ⟨ms, e1, e2⟩ := Option.map_eq_some_iff.mp e
    subst e2
    rw [intsOf_map e1]
    rfl
theorem isTup_its {d : D} (h : d.isTup = true) : d = .tup d.its := by cases d <;> simp [D.isTup] at h; rfl
theorem sortOk_parts {ds : List D} (h : sortOk ds = true) : D.flats 20 ds = true ∧ (∀ d ∈ ds, d = .tup d.its) ∧
    (((∀ d ∈ ds, d.neT = true) ∧ ∀ x ∈ ds, ∀ y ∈ ds, D.cmpT x.its y.its = true) ∨ ((ds.all fun x => x.neT) = false ∧ ∀ x ∈ ds, ∀ y ∈ ds, D.alikes x.its y.its = true)) := by
  rw [sortOk, Bool.and_eq_true, Bool.and_eq_true] at h
  obtain ⟨⟨h1, h2⟩, h3⟩ := h
  refine ⟨h1, fun d hd => isTup_its (List.all_eq_true.mp h2 d hd), ?_⟩
  split at h3
  · rename_i q
    exact .inl ⟨fun d hd => List.all_eq_true.mp q d hd, fun x hx y hy => List.all_eq_true.mp (List.all_eq_true.mp h3 x hx) y hy⟩
  · rename_i q
    exact .inr ⟨by simpa using q, fun x hx y hy => List.all_eq_true.mp (List.all_eq_true.mp h3 x hx) y hy⟩
theorem its_flats {d : D} (h : d.flat 20 = true) (e : d = .tup d.its) : D.flats 19 d.its = true := by
  rw [e, D.flat] at h
  exact h
theorem sortD_merge {ds zs : List D} (h : sortD ds = some zs) : zs = ds.mergeSort leP := by
  rw [← isort_merge leP_total]
  rw [sortD] at h
  split at h
  · rename_i ns e
    cases h
    rw [intsOf_map e]
    exact isort_map (fun a b => by
      rw [leP_eq, D.py, D.py, PySem.W.dataLt_int]
      by_cases z : a ≤ b
      · rw [decide_eq_true z, decide_eq_false (by omega)]; rfl
      · rw [decide_eq_false z, decide_eq_true (by omega)]; rfl) ns
  · split at h
    · rename_i hk
      cases h
      obtain ⟨hf, ht, hc⟩ := sortOk_parts hk
      refine isort_congr fun x hx y hy => ?_
      have ex := ht x hx
      have ey := ht y hy
      have fx := its_flats (D.flats_mem hf x hx) ex
      have fy := its_flats (D.flats_mem hf y hy) ey
      have key : D.lt y x = PySem.W.dataLt y.py x.py := by
        rw [ey, ex, D.py, D.py, PySem.W.dataLt_tuple, D.lt]
        rcases hc with ⟨_, hc⟩ | ⟨_, hc⟩
        · exact (ltsT_py _ _ fy fx (hc y hy x hx)).symm
        · exact (lts_py _ _ fy fx (hc y hy x hx)).symm
      rw [key]
      rfl
    · cases h
/-- the items collected: the sorted list of them -/
theorem sorted_by {X : Cx} {cls : Nat → Option Addr} {pins : List (Addr × Obj)} {σ : L2.St} {s : Shared} {u : Value} {ds zs : List D} {Q : VK} (hu : X.A.units + 64 < cLine) (hs : sortD ds = some zs) (hz : ds.length ≤ sizeLine)
    (hcol : ∀ (R : List Value → Shared → Prop) (E : Value → Shared → Prop), (∀ s1 H1 W1 st1 xs vs, Inv X pins σ H1 s1 → Ag X.K X.w cls W1 st1 H1 → Vals xs vs → RepL X.K W1 xs ds →
      (∀ p ys, H1 p = none → RepL X.K W1 ys zs → zs.length ≤ sizeLine → Q (.ref p) (upd H1 p (.lst ys))) → R vs s1) → wpAny (model X.prog X.w) X.A.in1 (collect u) R E s) :
    wpAny (model X.prog X.w) X.A (call (.builtin "sorted") [u]) (EP X pins σ Q) X.xe s := by
  refine Calls.call_function_entry PyProof.Rows.kind_sorted PyProof.Rows.plain_sorted PyProof.Rows.entry_sorted (PyProof.Rows.args_sorted1 _) ?_
  unfold Builtin.«sorted»
  refine wpAny_bind (m := checkCount "sorted" 1 1 _) (wpAny_pure (wpAny_bind (hcol _ _ fun s1 H1 W1 st1 xs vs I1 A1 r l q => ?_)))
  have hlv : vs.length = ds.length := by rw [← r.length, l.length]
  have hlz : zs.length = ds.length := by rw [sortD_merge hs]; exact (List.mergeSort_perm _ _).length_eq
  refine wpAny_bind (wpAny_newList ?_ (by rw [hlv]; exact hz))
  have hoL : (s1.heap.push (seqObj "list" vs.toArray 0)).get? s1.heap.objs.size = some (seqObj "list" vs.toArray 0) := Heap.get?_push_size _ rfl
  show wpAny _ _ _ _ _ { s1 with heap := s1.heap.push (seqObj "list" vs.toArray 0) }
  -- the heap while the sort runs keeps what stood
  have old : ∀ b o, s1.heap.get? b = some o → (sortingHeap (s1.heap.push (seqObj "list" vs.toArray 0)) s1.heap.objs.size vs).get? b = some o := fun b o e =>
    sortingHeap_old (Nat.ne_of_lt (Heap.lt_size e)) (Heap.get?_push_of_some _ e)
  -- whatever kind of keys serves, the sorted values are the sorted data
  have main : ∀ (κ : PyProof.Rows.KeyKind) (k : V × D → κ.α), SortsAt X.prog X.w X.A.in1.in1 { s1 with heap := sortingHeap (s1.heap.push (seqObj "list" vs.toArray 0)) s1.heap.objs.size vs } κ vs →
      EachIs (fun v b => κ.keyOf v = some (k b)) vs (xs.zip ds) → (sortLe κ.toKeyOrd false k = fun a b => leP a.2 b.2) →
      wpAny (model X.prog X.w) X.A.in1 (holding [.ref s1.heap.objs.size] (call (.builtin "list.sort") [.ref s1.heap.objs.size] []) >>= fun _ => ret (.ref s1.heap.objs.size)) (fun f s' => ∃ v, f = .done (.ret v) ∧ EP X pins σ Q v s') (fun _ _ => False) { s1 with heap := s1.heap.push (seqObj "list" vs.toArray 0) } := by
    intro κ k S hk hle
    have hb : EachIs (fun (v : Value) (b : V × D) => RelV b.1 v ∧ Rep X.K W1 b.1 b.2) vs (xs.zip ds) := by
      have go : ∀ {xs : List V} {ds : List D} {vs : List Value}, Vals xs vs → RepL X.K W1 xs ds → EachIs (fun (v : Value) (b : V × D) => RelV b.1 v ∧ Rep X.K W1 b.1 b.2) vs (xs.zip ds) := by
        intro xs ds vs r
        induction r generalizing ds with
        | nil => intro l; cases l; exact .nil
        | cons r1 _ ih =>
          intro l
          cases l with
          | cons l1 l2 => exact .cons ⟨r1, l1⟩ (ih l2)
      exact go r l
    have srt := sortVals_each (rev := false) k hb hk
    rw [hle] at srt
    have e2 : ((xs.zip ds).mergeSort fun a b => leP a.2 b.2).map Prod.snd = zs := by
      rw [sortD_merge hs, sort_maps (s := leP) Prod.snd (fun _ _ _ _ => rfl), List.map_snd_zip (by rw [l.length]; exact Nat.le_refl _)]
    have vy : ∀ {us : List Value} {bs : List (V × D)}, EachIs (fun (v : Value) (b : V × D) => RelV b.1 v ∧ Rep X.K W1 b.1 b.2) us bs → Vals (bs.map Prod.fst) us ∧ RepL X.K W1 (bs.map Prod.fst) (bs.map Prod.snd) := by
      intro us bs h
      induction h with
      | nil => exact ⟨.nil, .nil⟩
      | cons h1 _ ih => exact ⟨.cons h1.1 ih.1, .cons h1.2 ih.2⟩
    obtain ⟨g1, g2⟩ := vy srt
    rw [e2] at g2
    refine wpAny_bind (wpAny_holding (wpAny_call_entry PyProof.Rows.slot_list_sort ⟨_, hoL, rfl⟩ PyProof.Rows.entry_list_sort
      (list_sort_vals (s := { s1 with heap := s1.heap.push (seqObj "list" vs.toArray 0) }) hoL S (by rw [hlv]; exact hz) ⟨_, rfl, ?_⟩) (PyProof.Rows.args_list_sort _)))
    obtain ⟨e', he'⟩ := PyProof.Rows.sortedHeap_at (vs := vs) (out := (sortVals κ false vs vs).toArray) hoL
    have hlen : (((xs.zip ds).mergeSort fun a b => leP a.2 b.2).map Prod.fst).length ≤ sizeLine := by rw [g2.length, hlz]; exact hz
    refine wpAny_pure ⟨_, rfl, .ref s1.heap.objs.size, _, I1.laid (t' := s1.toks) (fun b o e => ?_) (Nat.le_refl _)
      (show ObjOk X.prog X.w _ _ _ (.lst _) from ⟨hlen, sortVals κ false vs vs, e', g1, he'⟩), rfl, q _ _ (I1.hok.fresh (Nat.le_refl _)) g2 (by rw [hlz]; exact hz)⟩
    have hb : b < s1.heap.objs.size := Heap.lt_size e
    rw [PyProof.Rows.sortedHeap_old (Nat.ne_of_lt hb) (by rw [size_push']; exact Nat.lt_succ_of_lt hb)]
    exact Heap.get?_push_of_some _ e
  have goal : wpAny (model X.prog X.w) X.A.in1 (holding [.ref s1.heap.objs.size] (call (.builtin "list.sort") [.ref s1.heap.objs.size] []) >>= fun _ => ret (.ref s1.heap.objs.size)) (fun f s' => ∃ v, f = .done (.ret v) ∧ EP X pins σ Q v s') (fun _ _ => False) { s1 with heap := s1.heap.push (seqObj "list" vs.toArray 0) } := by
    have hf : D.flats 20 ds = true := by
      rw [sortD] at hs
      split at hs
      · rename_i ns e
        rw [intsOf_map e]
        clear e hs
        induction ns with
        | nil => simp [D.flats]
        | cons n ns ih => rw [List.map_cons, D.flats, ih]; simp [D.flat]
      · split at hs
        · rename_i hk; exact (sortOk_parts hk).1
        · cases hs
    obtain ⟨as, ra⟩ := l.reads I1 A1 hf r
    rw [pys_map] at ra
    have er := (readsAll_each D.py ra).mono fun v b ⟨as, z⟩ => (⟨as, PyProof.Rows.Reads.keeps old z⟩ : ∃ as, Reads (sortingHeap (s1.heap.push (seqObj "list" vs.toArray 0)) s1.heap.objs.size vs) v (D.py b) as)
    have er2 : EachIs (fun v d => ∃ as, Reads (sortingHeap (s1.heap.push (seqObj "list" vs.toArray 0)) s1.heap.objs.size vs) v d as) vs (ds.map D.py) := each_map D.py er
    have hdep : ∀ d ∈ ds.map D.py, X.A.in1.in1.units + d.depth < cLine := fun d hd => by
      obtain ⟨x, hx, rfl⟩ := List.mem_map.mp hd
      have z := (D.py_plain x (D.flats_mem hf x hx)).2
      simp only [Around.in1]
      omega
    have keys : ∀ (key : Value → Option (List (Int ⊕ List Nat))), (∀ v d as, d ∈ ds → Reads (sortingHeap (s1.heap.push (seqObj "list" vs.toArray 0)) s1.heap.objs.size vs) v d.py as → key v = some (keyToks d.py)) → EachIs (fun v (b : V × D) => key v = some (keyToks b.2.py)) vs (xs.zip ds) := by
      intro key hkey
      have hx := l.length
      clear er2 hdep ra hf main q hs hlv hlz hoL r I1 A1
      have go : ∀ {ws : List Value} {es : List D} {ys : List V}, EachIs (fun v b => ∃ as, Reads (sortingHeap (s1.heap.push (seqObj "list" vs.toArray 0)) s1.heap.objs.size vs) v (D.py b) as) ws es → ys.length = es.length → (∀ d ∈ es, d ∈ ds) → EachIs (fun v (b : V × D) => key v = some (keyToks b.2.py)) ws (ys.zip es) := by
        intro ws es ys h
        induction h generalizing ys with
        | nil => intro _ _; rw [List.zip_nil_right]; exact .nil
        | cons h1 _ ih =>
          intro hl hm
          cases ys with
          | nil => simp at hl
          | cons y ys =>
            obtain ⟨as, z⟩ := h1
            exact .cons (hkey _ _ _ (hm _ (List.mem_cons_self ..)) z) (ih (by simpa using hl) fun d hd => hm d (List.mem_cons_of_mem _ hd))
      exact go er hx fun _ h => h
    have hs' := hs
    rw [sortD] at hs'
    split at hs'
    · rename_i ns e
      have hal : AllAlike (ds.map D.py) := fun d hd d' hd' => by
        rw [intsOf_map e] at hd hd'
        simp only [List.map_map, List.mem_map, Function.comp] at hd hd'
        obtain ⟨i, _, rfl⟩ := hd
        obtain ⟨j, _, rfl⟩ := hd'
        simp [D.py, PySem.W.alike]
      have hk : Sortable (ds.map D.py) := .inr fun d hd => by
        rw [intsOf_map e] at hd
        simp only [List.map_map, List.mem_map, Function.comp] at hd
        obtain ⟨i, _, rfl⟩ := hd
        simp [D.py]
      exact main (dataKind _ (ds.map D.py)) (fun b => keyToks b.2.py) (SortsAt.data er2 hal hk hdep) (keys _ fun v d as hd z => dataKind_some hal (List.mem_map.mpr ⟨d, hd, rfl⟩) z) rfl
    · split at hs'
      · rename_i hk
        obtain ⟨_, ht, hc⟩ := sortOk_parts hk
        have pl : ∀ d ∈ ds.map D.py, d.plain = true := fun d hd => by
          obtain ⟨x, hx, rfl⟩ := List.mem_map.mp hd
          exact (D.py_plain x (D.flats_mem hf x hx)).1
        have tp : ∀ d ∈ ds.map D.py, ∃ xs, d = PyData.tuple xs := fun d hd => by
          obtain ⟨x, hx, rfl⟩ := List.mem_map.mp hd
          rw [ht x hx, D.py]
          exact ⟨_, rfl⟩
        have nt : ∀ x ∈ ds, neT x.py = x.neT := fun x hx => by
          rw [ht x hx, D.py]
          cases x.its <;> simp [neT, D.neT, D.pys]
        have from_ : ∀ xs, PyData.tuple xs ∈ ds.map D.py → ∃ x ∈ ds, xs = D.pys x.its ∧ D.flats 19 x.its = true := fun xs hx => by
          obtain ⟨x, hm, e⟩ := List.mem_map.mp hx
          have e2 := ht x hm
          refine ⟨x, hm, ?_, its_flats (D.flats_mem hf x hm) e2⟩
          rw [e2, D.py] at e
          exact (PyData.tuple.inj e).symm
        refine main (plKind _ (ds.map D.py)) (fun b => keyToks b.2.py) (sorts_tup er2 pl tp ?_ hdep) (keys _ fun v d as hd z => plKind_yes (List.mem_map.mpr ⟨d, hd, rfl⟩) (pl _ (List.mem_map.mpr ⟨d, hd, rfl⟩)) z) rfl
        rcases hc with ⟨c1, c2⟩ | ⟨c1, c2⟩
        · refine .inl ⟨?_, fun xs ys hx hy => ?_⟩
          · rw [List.all_map, List.all_eq_true]
            exact fun x hx => (nt x hx).trans (c1 x hx)
          · obtain ⟨x, mx, rfl, fx⟩ := from_ xs hx
            obtain ⟨y, my, rfl, fy⟩ := from_ ys hy
            rw [cmpT_py _ _ fx fy]
            exact c2 x mx y my
        · refine .inr ⟨?_, fun xs ys hx hy => ?_⟩
          · rw [List.all_map, ← c1]
            rw [Bool.eq_iff_iff, List.all_eq_true, List.all_eq_true]
            exact ⟨fun z x hx => by rw [← nt x hx]; exact z x hx, fun z x hx => by rw [Function.comp, nt x hx]; exact z x hx⟩
          · obtain ⟨x, mx, rfl, fx⟩ := from_ xs hx
            obtain ⟨y, my, rfl, fy⟩ := from_ ys hy
            rw [alikes_py _ _ fx fy]
            exact c2 x mx y my
      · cases hs'
  exact wpAny_mono goal (fun f s' ⟨v, e, z⟩ => by subst e; exact ⟨v, rfl, z⟩) fun _ _ z => z.elim
end EV
/-! EvSq: sorted(x) of lists, tuples, dicts, items. -/
namespace EV
open PySem PySem.Spec PyProof.Rows L2

section
variable {X : Cx} {cls : Nat → Option Addr} {U : XW} {pins : List (Addr × Obj)} {σ : L2.St} {H : Hp} {s : Shared} {W : Wd} {st : Store}
theorem Aft.lstQ {ds : List D} {Q : VK} (A : Ag X.K X.w cls W st H) (h : Aft X.K X.w cls U (Rep X.K) W H (.ok (.lst ds) st) Q) : ∀ p ys, H p = none → RepL X.K W ys ds → ds.length ≤ sizeLine → Q (.ref p) (upd H p (.lst ys)) :=
  fun p ys hp r hz => Aft.newLst A h r hz p hp
theorem sort_list (hu : X.A.units + 64 < cLine) {a : Addr} {xs : List V} {ys zs : List D} {Q : VK} (I : Inv X pins σ H s) (A : Ag X.K X.w cls W st H) (hq : SqL X.K H a xs) (l : RepL X.K W xs ys) (z : ys.length ≤ sizeLine) (hs : sortD ys = some zs)
    (q : Aft X.K X.w cls U (Rep X.K) W H (.ok (.lst zs) st) Q) : wpAny (model X.prog X.w) X.A (call (.builtin "sorted") [.ref a]) (EP X pins σ Q) X.xe s := by
  refine sorted_by (cls := cls) hu hs z fun R E h => ?_
  obtain ⟨its, r, pl, hz⟩ := I.list hq
  obtain ⟨o, h1, h2, n, h3⟩ := pl.isList
  refine wpAny_collect_seq a (.inl rfl) h1 h2 h3 (fun h' hk => ?_) (by rw [List.size_toArray, ← r.length]; exact hz)
  exact h _ H W st xs its (I.kept (t' := s.toks) hk) A r l (Aft.lstQ A q)
theorem sort_tup (hu : X.A.units + 64 < cLine) {a : Addr} {xs : List V} {ys zs : List D} {Q : VK} (I : Inv X pins σ H s) (A : Ag X.K X.w cls W st H) (hq : SqT X.K H a xs) (l : RepL X.K W xs ys) (z : ys.length ≤ sizeLine) (hs : sortD ys = some zs)
    (q : Aft X.K X.w cls U (Rep X.K) W H (.ok (.lst zs) st) Q) : wpAny (model X.prog X.w) X.A (call (.builtin "sorted") [.ref a]) (EP X pins σ Q) X.xe s := by
  refine sorted_by (cls := cls) hu hs z fun R E h => ?_
  obtain ⟨its, r, ⟨o, h1, h2, n, h3⟩, hz⟩ := I.tuple hq
  refine wpAny_collect_seq a (.inr rfl) h1 h2 h3 (fun h' hk => ?_) (by rw [List.size_toArray, ← r.length]; exact hz)
  exact h _ H W st xs its (I.kept (t' := s.toks) hk) A r l (Aft.lstQ A q)
theorem acc_keys {es : Array DictEntry} {acc : Array Value} (hacc : ItemsOf (fun i v => ∃ hi : i < es.size, v = es[i].key) acc es.size) : acc.toList = es.toList.map (·.key) := by
  refine List.ext_getElem? fun j => ?_
  rw [List.getElem?_map, Array.getElem?_toList, Array.getElem?_toList]
  by_cases hj : j < acc.size
  · obtain ⟨hi, z⟩ := hacc.2 j acc[j] (Array.getElem?_eq_getElem hj)
    rw [Array.getElem?_eq_getElem hj, Array.getElem?_eq_getElem hi, z]
    rfl
  · have hz := hacc.1
    rw [Array.getElem?_eq_none (by omega), Array.getElem?_eq_none (by omega)]
    rfl
theorem sort_dic (hc : X.calm = true) (hu : X.A.units + 64 < cLine) {y : V} {v : Value} {i : Nat} {kvs : List (D × D)} {zs : List D} {Q : VK} (I : Inv X pins σ H s) (A : Ag X.K X.w cls W st H) (ry : Rep X.K W y (.ref i)) (rv : RelV y v) (hd : DicAt st i kvs) (hs : sortD (kvs.map (·.1)) = some zs)
    (q : Aft X.K X.w cls U (Rep X.K) W H (.ok (.lst zs) st) Q) : wpAny (model X.prog X.w) X.A (call (.builtin "sorted") [v]) (EP X pins σ Q) X.xe s := by
  obtain ⟨a, o, rfl, ho, on, hns, hz, es, ep, ex, hdat, hr, hn⟩ := dic_at I A ry hd
  cases rv
  refine sorted_by (cls := cls) hu hs (by rw [List.length_map]; exact hz) fun R E h => ?_
  have hl : es.size = kvs.length := by rw [← hr.len, Array.length_toList]
  obtain ⟨vs, h1, h2⟩ := hr.keys
  refine PySem.W.kdu_collect (PySem.KdlSrc.rawDict (es := es) (ep := ep) hns) (I.ok.hd hc) ⟨o, ho, ex, hdat⟩ (by rw [hl]; exact hz) fun h' tk acc hk hacc => ?_
  exact h _ H W st vs _ (I.kept (t' := tk) hk) A (by rw [acc_keys hacc]; exact h1) h2 (Aft.lstQ A q)
theorem cd_sorted (hc : X.calm = true) (hu : X.A.units + 64 < cLine) : CallR X (.builtin "sorted") (rC X cls U (bltD .sorted)) := by
  intro pins s σ H vs us Q I rv h
  obtain ⟨W, st, ds, A, rl, q⟩ := h
  simp only [bltD] at q
  have of : ∀ {ys : List D}, Aft X.K X.w cls U (Rep X.K) W H ((R.of (sortD ys) st).bind fun zs st => .ok (.lst zs) st) Q → ∃ zs, sortD ys = some zs ∧ Aft X.K X.w cls U (Rep X.K) W H (.ok (.lst zs) st) Q := fun {ys} q => by
    cases e : sortD ys with
    | none => rw [e] at q; exact q.elim
    | some zs => rw [e] at q; exact ⟨zs, rfl, q⟩
  split at q
  · rename_i i
    obtain ⟨v, rfl, r⟩ := rl.one_inv
    obtain ⟨u, rfl, ru⟩ := vals1 rv
    obtain ⟨a, e, ha⟩ := r.ref_inv
    obtain ⟨o, ho, oa⟩ := A.at ha
    simp only [ho] at q
    cases o with
    | lst ys =>
      obtain ⟨xs, hx, l, z⟩ := oa
      obtain ⟨zs, hs, q⟩ := of q
      subst e
      cases ru
      exact sort_list hu I A (SqL.of hx) l z hs q
    | dic kvs =>
      obtain ⟨zs, hs, q⟩ := of q
      exact sort_dic hc hu I A r ru (.inl ho) hs q
    | lck kvs =>
      obtain ⟨zs, hs, q⟩ := of q
      exact sort_dic hc hu I A r ru (.inr ho) hs q
    | _ => exact q.elim
  · rename_i ys
    obtain ⟨v, rfl, r⟩ := rl.one_inv
    obtain ⟨u, rfl, ru⟩ := vals1 rv
    obtain ⟨a, xs, rfl, g, z, l⟩ := r.lst_inv
    obtain ⟨zs, hs, q⟩ := of q
    cases ru
    exact sort_list hu I A (SqL.of (A.sub _ _ g)) l z hs q
  · rename_i ys
    obtain ⟨v, rfl, r⟩ := rl.one_inv
    obtain ⟨u, rfl, ru⟩ := vals1 rv
    obtain ⟨a, us1, xs, rfl, g, z, l⟩ := r.tup_inv
    obtain ⟨zs, hs, q⟩ := of q
    cases ru
    exact sort_tup hu I A (SqT_ft (A.sub _ _ g)) l z hs q
  · exact q.elim
/-! ### items -/
/-- d.items() -/
theorem t_items : MtR X "dict.items" (fun x xs H Q => ∃ W st i kvs, Ag X.K X.w cls W st H ∧ Rep X.K W x (.ref i) ∧ xs = [] ∧ DicAt st i kvs ∧ ∀ p a, x = .ref a → H p = none → Q (.ref p) (upd H p (L2.DX.itemsO p a))) := by
  intro pins s σ H x xs v us Q I rx rxs h
  obtain ⟨W, st, i, kvs, A, r, rfl, hd, q⟩ := h
  obtain ⟨a, o, rfl, ho, on, hns, hz, es, ep, ex, hdat, hr, hn⟩ := dic_at I A r hd
  cases rx
  cases rxs
  refine DT.callItems (es := es) (ep := ep) hns ⟨o, ho, ex, hdat⟩ ?_
  exact ⟨.ref s.heap.objs.size, _, I.laid (o := L2.DX.itemsO s.heap.objs.size a) (t' := s.toks) (fun b u e => Heap.get?_push_of_some _ e) (Nat.le_refl _) (L2.DX.itemsO_ok (Heap.get?_push_size _ rfl)), rfl, q _ a rfl (I.hok.fresh (Nat.le_refl _))⟩
/-- the pairs that items() has made are tuples from now on -/
theorem take_items {s0 : Shared} {H0 : Hp} {h' : Heap} {tk : Nat} (I0 : Inv X pins σ H0 s0) : ∀ {es : List DictEntry} {kvs : List (D × D)} {W1 : Wd} {H1 : Hp} (as : List Addr), RepE X.K X.w W1 es kvs → Inv X pins σ H1 { s0 with heap := h', toks := tk } → Ag X.K X.w cls W1 st H1 →
    as.length = es.length → (∀ (j : Nat) (a : Addr), as[j]? = some a → ∃ e, es[j]? = some e ∧ h'.get? a = some { cls := .type "tuple", data := .seq #[e.key, e.val] }) → as.Pairwise (· < ·) → (∀ a ∈ as, s0.heap.objs.size ≤ a ∧ H1 a = none) →
    ∃ W2 H2, Inv X pins σ H2 { s0 with heap := h', toks := tk } ∧ Ag X.K X.w cls W2 st H2 ∧ Ext W1 H1 W2 H2 ∧ RepL X.K W2 (as.map V.ref) (itemsL kvs)
  | _, _, W1, H1, as, .nil, I1, A1, hl, _, _, _ => by
    have e : as = [] := List.eq_nil_of_length_eq_zero hl
    subst e
    exact ⟨W1, H1, I1, A1, Ext.refl _ _, .nil⟩
  | _, _, W1, H1, [], .cons _ _ _ _ _, I1, A1, hl, _, _, _ => by simp at hl
  | _, _, W1, H1, a :: as, .cons (e := e) (k := dk) (v := dv) hk ⟨k, rk, qk⟩ hh ⟨v, rv, qv⟩ t, I1, A1, hl, hp, hr, hf => by
    obtain ⟨e2, he, hg⟩ := hp 0 a rfl
    have e3 : e = e2 := by simpa using he
    subst e3
    obtain ⟨f1, f2⟩ := hf a (List.mem_cons_self ..)
    rw [List.pairwise_cons] at hr
    have I2 : Inv X pins σ (upd H1 a (FT [e.key, e.val] [k, v])) { s0 with heap := h', toks := tk } := I1.take (h' := h') (t' := tk) (fun b ob _ z => z) (I0.fpOk f1 f2)
      ⟨hg, by show 2 ≤ sizeLine; decide, [e.key, e.val], .cons rk (.cons rv .nil), ⟨_, hg, rfl, 0, rfl⟩⟩
    obtain ⟨A2, x2⟩ := A1.frozen (o := FT [e.key, e.val] [k, v]) f2
    obtain ⟨W2, H2, I3, A3, x3, l3⟩ := take_items I0 as (t.mono x2.le) I2 A2 (by simpa using hl) (fun j b hb => by
      obtain ⟨e4, h1, h2⟩ := hp (j + 1) b (by simpa using hb)
      exact ⟨e4, by simpa using h1, h2⟩) hr.2 fun b hb => by
        obtain ⟨h1, h2⟩ := hf b (List.mem_cons_of_mem _ hb)
        exact ⟨h1, by rw [upd_ne (fun z => Nat.lt_irrefl _ (z ▸ hr.1 b hb))]; exact h2⟩
    refine ⟨W2, H2, I3, A3, x2.trans x3, .cons ?_ l3⟩
    exact Rep.mono x3.le (.tup (us := [e.key, e.val]) (xs := [k, v]) upd_same (by show 2 ≤ sizeLine; decide) (.cons (qk.mono x2.le) (.cons (qv.mono x2.le) .nil)))
theorem sort_items (hc : X.calm = true) (hu : X.A.units + 64 < cLine) : CallR X (.builtin "sorted") (fun vs H Q => ∃ W st i kvs p a, vs = [.ref p] ∧ H p = some (L2.DX.itemsO p a) ∧ Ag X.K X.w cls W st H ∧ W.ρ[i]? = some a ∧ DicAt st i kvs ∧ Aft X.K X.w cls U (Rep X.K) W H (bltD .srtI [.ref i] st) Q) := by
  intro pins s σ H vs us Q I rv h
  obtain ⟨W, st, i, kvs, p, a, rfl, hp, A, ha, hd, q⟩ := h
  obtain ⟨u, rfl, ru⟩ := vals1 rv
  cases ru
  have view : s.heap.IsItemsView p a := (show ObjOk X.prog X.w H s.heap p (L2.DX.itemsO p a) from I.hok p _ hp).1
  obtain ⟨a2, o, e2, ho, on, hns, hz, es, ep, ex, hdat, hr, hn⟩ := dic_at (y := .ref a) I A (.ref ha) hd
  cases e2
  have q2 : Aft X.K X.w cls U (Rep X.K) W H ((R.of (sortD (itemsL kvs)) st).bind fun zs st => .ok (.lst zs) st) Q := by
    rcases hd with e | e
    · simpa only [bltD, e] using q
    · simpa only [bltD, e] using q
  cases e : sortD (itemsL kvs) with
  | none => rw [e] at q2; exact q2.elim
  | some zs =>
    rw [e] at q2
    have hl : es.size = kvs.length := by rw [← hr.len, Array.length_toList]
    refine sorted_by (cls := cls) hu e (by rw [itemsL, List.length_map]; exact hz) fun R E h => ?_
    refine DT.collectI (es := es) (ep := ep) (I.ok.hd hc) view ⟨o, ho, ex, hdat⟩ (by rw [hl]; exact hz) fun h' tk as hk hlt hla hG => ?_
    obtain ⟨W2, H2, I2, A2, x2, l2⟩ := take_items (cls := cls) (st := st) I as hr (I.kept (t' := tk) hk) A (by rw [hla, Array.length_toList]) (fun j b hb => by
      obtain ⟨en, h1, h2⟩ := hG.pairs j b hb
      exact ⟨en, by rw [Array.getElem?_toList]; exact h1, h2⟩) hG.rise fun b hb => ⟨Nat.le_of_lt (hG.above b hb), I.hok.fresh (Nat.le_of_lt (hG.above b hb))⟩
    refine h _ H2 W2 st _ _ I2 A2 ?_ l2 (Aft.lstQ A2 (Aft.shift x2 q2))
    clear hla hG l2 A2 I2 x2
    induction as with
    | nil => exact .nil
    | cons b as ih => exact .cons rfl ih
end
end EV
/-! EvK: statements. -/
namespace EV
open PySem PySem.Spec PyProof.Rows L2

def AftS (K : PySem.W.Frag) (w : World) (cls : Nat → Option Addr) (U : XW) (W : Wd) (H : Hp) (r : R Fl) (D : Ends) : Prop := match r with
  | .ok (.nx env) st => ∀ σ W' H', Ext W H W' H' → Ag K w cls W' st H' → EnvOk K W' σ env → D.nx σ H'
  | .ok (.rt d) st => ∀ v W' H', Ext W H W' H' → Ag K w cls W' st H' → Rep K W' v d → D.rt v H'
  | .ok (.bk env) st => ∀ σ W' H', Ext W H W' H' → Ag K w cls W' st H' → EnvOk K W' σ env → D.bk σ H'
  | .ok (.ct env) st => ∀ σ W' H', Ext W H W' H' → Ag K w cls W' st H' → EnvOk K W' σ env → D.ct σ H'
  | .err k st => ∀ W' H', Ext W H W' H' → Ag K w cls W' st H' → U k H'
  | .bad => False
def tDS (K : PySem.W.Frag) (w : World) (cls : Nat → Option Addr) (U : XW) (den : Env → Store → R Fl) : TS := fun D σ H => ∃ (W : Wd) (env : Env) (st : Store), EnvOk K W σ env ∧ Ag K w cls W st H ∧ AftS K w cls U W H (den env st) D
section
variable {K : PySem.W.Frag} {w : World} {cls : Nat → Option Addr} {U : XW} {W W1 : Wd} {H H1 : Hp} {α β : Type} {rel : Wd → β → α → Prop}
theorem AftS.shift {r : R Fl} {D : Ends} (x : Ext W H W1 H1) (h : AftS K w cls U W H r D) : AftS K w cls U W1 H1 r D := by
  cases r with
  | ok f st => cases f <;> exact fun σ W' H' x' => h σ W' H' (x.trans x')
  | err k st => exact fun W' H' x' => h W' H' (x.trans x')
  | bad => exact h
theorem AftS.bind {r : R α} {f : α → Store → R Fl} {D : Ends} (h : AftS K w cls U W H (r.bind f) D) :
    Aft K w cls U rel W H r fun b H1 => ∃ W1 st a, Ext W H W1 H1 ∧ Ag K w cls W1 st H1 ∧ rel W1 b a ∧ AftS K w cls U W1 H1 (f a st) D := by
  cases r with
  | ok a st => exact fun b W' H' x A q => ⟨W', st, a, x, A, q, AftS.shift x h⟩
  | err k st => exact h
  | bad => exact h
theorem AftS.test {b : Bool} {r : R Fl} {D : Ends} (h : AftS K w cls U W H (R.test b r) D) : b = true ∧ AftS K w cls U W H r D := by
  cases b with
  | true => exact ⟨rfl, h⟩
  | false => exact h.elim
theorem AftS.next {env : Env} {st : Store} {D : Ends} {σ : L2.St} (h : AftS K w cls U W H (.ok (.nx env) st) D) (A : Ag K w cls W st H) (he : EnvOk K W σ env) : D.nx σ H := h σ W H (Ext.refl _ _) A he
end
section
variable {X : Cx} {cls : Nat → Option Addr} {U : XW} {C : Ctx} {a b c : Expr} {i j k : E} {pos : Pos}
def GoodS (X : Cx) (cls : Nat → Option Addr) (U : XW) (C : Ctx) (s : Stmt) (i : S) : Prop := PS X s (tDS X.K X.w cls U (evS C i))
def GoodSs (X : Cx) (cls : Nat → Option Addr) (U : XW) (C : Ctx) (s : List Stmt) (i : Ss) : Prop := PSs X s (tDS X.K X.w cls U (evSs C i))
theorem s_nil : GoodSs X cls U C [] .nil := by
  refine PSs.mono pss_nil fun D σ H h => ?_
  obtain ⟨W, env, st, he, A, q⟩ := h
  rw [evSs] at q
  exact q.next A he
theorem s_cons {s : Stmt} {ss : List Stmt} {x : S} {xs : Ss} (h : GoodS X cls U C s x) (t : GoodSs X cls U C ss xs) : GoodSs X cls U C (s :: ss) (.cons x xs) := by
  refine PSs.mono (pss_cons h t) fun D σ H h => ?_
  obtain ⟨W, env, st, he, A, q⟩ := h
  rw [evSs] at q
  refine ⟨W, env, st, he, A, ?_⟩
  cases e : evS C x env st with
  | bad => rw [e] at q; exact q
  | err k s1 => rw [e] at q; exact q
  | ok f s1 =>
    rw [e] at q
    cases f with
    | nx env1 => exact fun σ1 W1 H1 x1 A1 he1 => ⟨W1, env1, s1, he1, A1, AftS.shift x1 q⟩
    | rt d => exact q
    | bk env1 => exact q
    | ct env1 => exact q
theorem s_ret (h : Good X cls U C a i) : GoodS X cls U C (.Return (some a) pos) (.ret i) := by
  refine PS.mono (ps_ret h.pe) fun D σ H h => ?_
  obtain ⟨W, env, st, he, A, q⟩ := h
  rw [evS] at q
  exact ⟨W, env, st, he, A, (q.bind).mono fun x H1 ⟨W1, st1, d, x1, A1, r1, q1⟩ => q1 x W1 H1 (Ext.refl _ _) A1 r1⟩
theorem s_retN : GoodS X cls U C (.Return none pos) .retN := by
  refine PS.mono ps_retN fun D σ H h => ?_
  obtain ⟨W, env, st, he, A, q⟩ := h
  rw [evS] at q
  exact q .non W H (Ext.refl _ _) A .non
/-- an expression that is no comprehension is never swapped -/
def notComp : Expr → Bool
  | .ListComp .. => false
  | .SetComp .. => false
  | .DictComp .. => false
  | _ => true
theorem noswap {t : Option Expr} {l : Nat} {env : PySem.Env} (h : notComp a = true) : swapsWith a t l env = pure false := by
  cases a <;> first | rfl | (simp [notComp] at h)
theorem s_exp (h : Good X cls U C a i) (hs : notComp a = true) : GoodS X cls U C (.Expr a pos) (.exp i) := by
  refine PS.mono (ps_expr h.pe (noswap hs)) fun D σ H h => ?_
  obtain ⟨W, env, st, he, A, q⟩ := h
  rw [evS] at q
  exact ⟨W, env, st, he, A, (q.bind).mono fun x H1 ⟨W1, st1, d, x1, A1, r1, q1⟩ => q1.next A1 (he.mono x1.le)⟩
theorem s_pass : GoodS X cls U C (.Pass pos) .pass := by
  refine PS.mono ps_pass fun D σ H h => ?_
  obtain ⟨W, env, st, he, A, q⟩ := h
  rw [evS] at q
  exact q.next A he
theorem s_brk : GoodS X cls U C (.Break pos) .brk := by
  refine PS.mono ps_break fun D σ H h => ?_
  obtain ⟨W, env, st, he, A, q⟩ := h
  rw [evS] at q
  exact q σ W H (Ext.refl _ _) A he
theorem s_cont : GoodS X cls U C (.Continue pos) .cont := by
  refine PS.mono ps_continue fun D σ H h => ?_
  obtain ⟨W, env, st, he, A, q⟩ := h
  rw [evS] at q
  exact q σ W H (Ext.refl _ _) A he
/-- a test, then what follows -/
theorem tst_S {f : D → Store → R Fl} {W : Wd} {env : Env} {st : Store} {σ : L2.St} {H : Hp} {D0 : Ends} {Q' : Bool → Hp → Prop} (he : EnvOk X.K W σ env) (A : Ag X.K X.w cls W st H)
    (hf : ∀ d st', f d st' ≠ .bad → ∃ b, d = .bl b) (q : AftS X.K X.w cls U W H ((evE C i env st).bind f) D0)
    (h : ∀ b W1 H1 st1, Ext W H W1 H1 → Ag X.K X.w cls W1 st1 H1 → AftS X.K X.w cls U W1 H1 (f (.bl b) st1) D0 → Q' b H1) : tDT X.K X.w cls U (evE C i) σ H Q' := by
  refine ⟨W, env, st, he, A, fun d st' e => ?_, ?_⟩
  · rw [e] at q
    exact hf d st' fun z => by rw [R.bind_ok, z] at q; exact q
  · cases e : evE C i env st with
    | ok d st' =>
      rw [e] at q
      obtain ⟨b, rfl⟩ := hf d st' fun z => by rw [R.bind_ok, z] at q; exact q
      intro t W' H' x A' r
      cases r
      exact h _ W' H' st' x A' (AftS.shift x q)
    | err k st' => rw [e] at q; exact q
    | bad => rw [e] at q; exact q
theorem s_ite {sa sb : List Stmt} {xa xb : Ss} (h : Good X cls U C a i) (ha : GoodSs X cls U C sa xa) (hb : GoodSs X cls U C sb xb) : GoodS X cls U C (.If a sa sb pos) (.ite i xa xb) := by
  refine PS.mono (ps_if h.pt ha hb) fun D σ H h => ?_
  obtain ⟨W, env, st, he, A, q⟩ := h
  rw [evS] at q
  refine tst_S he A (fun d st' hn => ?_) q fun b W1 H1 st1 x1 A1 q1 => ?_
  · cases d with
    | bl t => exact ⟨t, rfl⟩
    | _ => exact absurd rfl hn
  · cases b with
    | true => rw [if_pos rfl]; exact ⟨W1, env, st1, he.mono x1.le, A1, q1⟩
    | false => rw [if_neg Bool.false_ne_true]; exact ⟨W1, env, st1, he.mono x1.le, A1, q1⟩
theorem s_whl {sb : List Stmt} {xb : Ss} (hpo : PassesOwn (model X.prog X.w) X.A X.env X.xe) (h : Good X cls U C a i) (hb : GoodSs X cls U C sb xb) : GoodS X cls U C (.While a sb [] pos) (.whl i xb) := by
  refine PS.mono (ps_while hpo h.pt hb) fun D σ H h => ?_
  obtain ⟨W, env, st, he, A, q⟩ := h
  rw [evS] at q
  refine ⟨fun m σ H => ∃ W env st, EnvOk X.K W σ env ∧ Ag X.K X.w cls W st H ∧ AftS X.K X.w cls U W H (whlL (evE C i) (evSs C xb) m env st) D, ⟨C.wfuel, W, env, st, he, A, q⟩, ?_⟩
  rintro m σ H ⟨W, env, st, he, A, q⟩
  cases m with
  | zero => exact q.elim
  | succ m =>
    rw [whlL] at q
    refine tst_S he A (fun d st' hn => ?_) q fun b W1 H1 st1 x1 A1 q1 => ?_
    · cases d with
      | bl t => exact ⟨t, rfl⟩
      | _ => exact absurd rfl hn
    · cases b with
      | false => rw [if_neg Bool.false_ne_true]; exact q1.next A1 (he.mono x1.le)
      | true =>
        rw [if_pos rfl]
        refine ⟨fun σ' H' => ∃ W env st, EnvOk X.K W σ' env ∧ Ag X.K X.w cls W st H' ∧ AftS X.K X.w cls U W H' (whlL (evE C i) (evSs C xb) m env st) D, fun σ' H' h => ⟨m, Nat.lt_succ_self _, h⟩, W1, env, st1, he.mono x1.le, A1, ?_⟩
        simp only at q1
        cases e : evSs C xb env st1 with
        | bad => rw [e] at q1; exact q1
        | err k s1 => rw [e] at q1; exact q1
        | ok f s1 =>
          rw [e] at q1
          cases f with
          | nx env1 => exact fun σ2 W2 H2 x2 A2 he2 => ⟨W2, env1, s1, he2, A2, AftS.shift x2 q1⟩
          | ct env1 => exact fun σ2 W2 H2 x2 A2 he2 => ⟨W2, env1, s1, he2, A2, AftS.shift x2 q1⟩
          | bk env1 => exact q1
          | rt d => exact q1
/-! ### targets by names -/
structure NmOk (X : Cx) (x : Str) (i : Nat) : Prop where
  hi : X.N[i]? = some x
  hx : Loc X.env.scope x
  hf : X.fn x = true ∨ X.env.scope.names.lookup x = some .local
inductive NmsOk (X : Cx) : List Expr → List Nat → Prop
  | nil : NmsOk X [] []
  | cons {x : Str} {p : Pos} {i : Nat} {es : List Expr} {is : List Nat} : NmOk X x i → NmsOk X es is → NmsOk X (.Name x p :: es) (i :: is)
theorem pgs_ok (hN : X.N.Nodup) : ∀ {es : List Expr} {is : List Nat}, NmsOk X es is → PGs X es (tgs is) ∧ (assignEach es X.env).length = is.length ∧ (assignEach es X.env).findIdx? (·.1) = none
  | _, _, .nil => ⟨pgs_nil, rfl, rfl⟩
  | _, _, .cons (x := x) (p := p) (es := es) n t => by
    obtain ⟨h1, h2, h3⟩ := pgs_ok hN t
    have e : assignEach (.Name x p :: es) X.env = (false, assign (.Name x p) X.env) :: assignEach es X.env := rfl
    refine ⟨pgs_cons (pg_name hN n.hi n.hx n.hf) h1 (by rw [e]; rfl), by rw [e, List.length_cons, h2]; rfl, ?_⟩
    rw [e, List.findIdx?_cons]
    simp [h3]
inductive TgOk (X : Cx) : Expr → Tg → Prop
  | one {x : Str} {p : Pos} {i : Nat} : NmOk X x i → TgOk X (.Name x p) (.one i)
  | many {es : List Expr} {is : List Nat} {k1 : Nat} {p : Pos} : NmsOk X es is → TgOk X (.Tuple es k1 p) (.many is)
theorem tg_pg (hc : X.calm = true) (hN : X.N.Nodup) {tg : Expr} {t : Tg} (h : TgOk X tg t) : PG X tg (tgR X.K t) := by
  cases h with
  | one n => exact pg_name hN n.hi n.hx n.hf
  | many n =>
    obtain ⟨h1, h2, h3⟩ := pgs_ok hN n
    exact pg_tup hc h1 h2 h3
/-! ### assignment -/
theorem s_set1 {x : Str} {n : Nat} {py : Pos} (hN : X.N.Nodup) (hn : NmOk X x n) (h : Good X cls U C a i) (hs : swapsWith a (some (.Name x py)) pos.line X.env = pure false) : GoodS X cls U C (.Assign [.Name x py] a pos) (.set (.one n) i) := by
  refine PS.mono (ps_set hN hn.hi hn.hx h.pe hs hn.hf) fun D σ H h => ?_
  obtain ⟨W, env, st, he, A, q⟩ := h
  rw [evS] at q
  exact ⟨W, env, st, he, A, (q.bind).mono fun v H1 ⟨W1, st1, d, x1, A1, r1, q1⟩ => q1.next A1 ((he.mono x1.le).set n r1)⟩
theorem s_setM {es : List Expr} {k1 : Nat} {pt : Pos} {is : List Nat} (hc : X.calm = true) (hN : X.N.Nodup) (hn : NmsOk X es is) (h : Good X cls U C a i) (hs : notComp a = true) (hw : swappedStores [.Tuple es k1 pt] a X.env = pure none) :
    GoodS X cls U C (.Assign [.Tuple es k1 pt] a pos) (.set (.many is) i) := by
  refine PS.mono (ps_asg h.pe (tg_pg hc hN (.many hn)) (by rw [swapsWithSole]; exact noswap hs) hw rfl) fun D σ H h => ?_
  obtain ⟨W, env, st, he, A, q⟩ := h
  rw [evS] at q
  refine ⟨W, env, st, he, A, (q.bind).mono fun v H1 ⟨W1, st1, d, x1, A1, r1, q1⟩ => ?_⟩
  cases e : asg (.many is) d env with
  | none => rw [e] at q1; exact q1.elim
  | some env1 =>
    rw [e] at q1
    exact tg_run A1.sub (.inl r1) (fun _ => r1) (he.mono x1.le) e fun σ1 he1 _ => q1.next A1 he1
/-- a, b = x, y with two locals -/
theorem s_par {x y : Str} {px py pt pt2 : Pos} {kt k2 n m : Nat} (hc : X.calm = true) (hN : X.N.Nodup) (hn : X.N[n]? = some x) (hm : X.N[m]? = some y) (hnm : n ≠ m) (hx : X.env.scope.names.lookup x = some .local) (hy : X.env.scope.names.lookup y = some .local)
    (ha : Good X cls U C a i) (hb : Good X cls U C b j) (hsa : noStar a = true) (hsb : noStar b = true)
    (hw : swappedStores [.Tuple [.Name x px, .Name y py] kt pt] (.Tuple [a, b] k2 pt2) X.env = pure (some [x, y])) :
    GoodS X cls U C (.Assign [.Tuple [.Name x px, .Name y py] kt pt] (.Tuple [a, b] k2 pt2) pos) (.set (.many [n, m]) (.tup (.cons i (.cons j .nil)))) := by
  refine PS.mono (ps_par hc hN hn hm hnm hx hy (pa_cons ha.pe (pa_cons hb.pe pa_nil (starEach_no hsb)) (starEach_no hsa)) hw rfl) fun D σ H h => ?_
  obtain ⟨W, env, st, he, A, q⟩ := h
  rw [evS, evE, evEs] at q
  simp only [R.bind_assoc] at q
  refine ⟨W, env, st, he, A, (q.bind).mono fun v H1 ⟨W1, st1, d, x1, A1, r1, q1⟩ => ?_⟩
  rw [evEs] at q1
  simp only [R.bind_assoc] at q1
  refine ⟨W1, env, st1, he.mono x1.le, A1, (q1.bind).mono fun u H2 ⟨W2, st2, d2, x2, A2, r2, q2⟩ => ?_⟩
  rw [evEs] at q2
  simp only [R.bind_ok] at q2
  exact ⟨v, u, rfl, AftS.next q2 A2 ((((he.mono x1.le).mono x2.le).set n (r1.mono x2.le)).set m r2)⟩
/-! ### for -/
theorem Grd.out_S {K : PySem.W.Frag} {w : World} {g : Grd} (hg : g.isDic = false) {r : R Fl} {W : Wd} {H : Hp} {D : Ends} (h : AftS K w cls U W H (g.out r) D) : AftS K w cls U W H r D := by
  cases r with
  | ok f st =>
    cases g with
    | dic _ _ => simp [Grd.isDic] at hg
    | no => exact h
    | lst n xs => exact (AftS.test h).2
    | lck n xs => exact (AftS.test h).2
  | err k st =>
    cases g with
    | dic _ _ => simp [Grd.isDic] at hg
    | _ => exact h
  | bad => cases g <;> exact h
theorem for_turns {P : Hp → Prop} {t : Tg} {xb : Ss} {pr : Bool} {σ0 : L2.St} {D0 : Ends} {J : L2.It} {H1 : Hp} {W1 : Wd} {env : Env} {st1 : Store} {items : List D} {g : Grd}
    (hp : pr = true → ∃ is, t = .many is) (he : EnvOk X.K W1 σ0 env) (A1 : Ag X.K X.w cls W1 st1 H1) (wk : WalkD X.K X.w cls W1 J items g pr P) (hP : ∀ W2 H, Ext W1 H1 W2 H → P H) (q : AftS X.K X.w cls U W1 H1 (forL g t (evSs C xb) items env st1) D0) :
    ∃ Wv : Nat → Nat → L2.St → Hp → Prop, (∃ m, Wv 0 m σ0 H1) ∧ ∀ i m σ H, Wv i m σ H → (J.stop i H ∧ D0.nx σ H) ∨ (J.go i H ∧ ∃ N : L2.St → Hp → Prop, (∀ σ' H', N σ' H' → ∃ m', m' < m ∧ Wv (i + 1) m' σ' H') ∧
      ∀ x H', J.yld i H x H' → tgR X.K t x σ H' fun σ2 H2 => tDS X.K X.w cls U (evSs C xb) { D0 with nx := N, ct := N, bk := D0.nx } σ2 H2) := by
  let Iv : Nat → L2.St → Hp → Prop := fun i σ H => ∃ W2 env2 st2, Ext W1 H1 W2 H ∧ EnvOk X.K W2 σ env2 ∧ Ag X.K X.w cls W2 st2 H ∧ AftS X.K X.w cls U W2 H (forL g t (evSs C xb) (items.drop i) env2 st2) D0
  refine ⟨fun i m σ H => m = items.length - i ∧ i ≤ items.length ∧ Iv i σ H, ⟨items.length, by simp, Nat.zero_le _, W1, env, st1, Ext.refl _ _, he, A1, q⟩, ?_⟩
  rintro i m σ H ⟨rfl, hi, W2, env2, st2, xe, he2, A2, q2⟩
  by_cases hlt : i < items.length
  · have hd : items[i]? = some items[i] := List.getElem?_eq_getElem hlt
    rw [List.drop_eq_getElem_cons hlt, forL] at q2
    obtain ⟨hh, q2⟩ := AftS.test q2
    obtain ⟨go, _⟩ := wk W2 st2 H xe.le A2 hh (hP W2 H xe)
    obtain ⟨go1, yl⟩ := go i _ hd
    refine .inr ⟨go1, Iv (i + 1), fun σ' H' h => ⟨items.length - (i + 1), by omega, rfl, hlt, h⟩, fun x H' hy => ?_⟩
    obtain ⟨yr, yp⟩ := yl x H' hy
    obtain ⟨A2', x2', hir⟩ : Ag X.K X.w cls W2 st2 H' ∧ Ext W2 H W2 H' ∧ ItR X.K W2 H' x items[i] := by
      rcases yr with ⟨rfl, r⟩ | ⟨T, y1, y2, d1, d2, rfl, hT, rfl, e, r1, r2⟩
      · exact ⟨A2, Ext.refl _ _, .inl r⟩
      · obtain ⟨f1, f2⟩ := A2.fresh hT
        exact ⟨A2.aside f1 f2, (Ext.refl W2 H).aside hT, .inr ⟨T, y1, y2, d1, d2, rfl, upd_same, e, r1, r2⟩⟩
    have ho : (∃ i, t = .one i) → Rep X.K W2 x items[i] := fun ⟨k, e⟩ => by
      cases pr with
      | true => obtain ⟨is, e2⟩ := hp rfl; rw [e] at e2; cases e2
      | false => exact (yp rfl).2
    cases e : asg t items[i] env2 with
    | none => rw [e] at q2; exact q2.elim
    | some env3 =>
      rw [e] at q2
      refine tg_run A2'.sub hir ho he2 e fun σ2 he3 _ => ⟨W2, env3, st2, he3, A2', ?_⟩
      simp only [R.of_some, R.bind_ok] at q2
      have q2 := AftS.shift x2' q2
      cases e3 : evSs C xb env3 st2 with
      | bad => rw [e3] at q2; exact q2
      | err k s1 => rw [e3] at q2; exact q2
      | ok f s1 =>
        rw [e3] at q2
        cases f with
        | nx env4 => exact fun σ3 W3 H3 x3 A3 he4 => ⟨W3, env4, s1, (xe.trans x2').trans x3, he4, A3, AftS.shift x3 q2⟩
        | ct env4 => exact fun σ3 W3 H3 x3 A3 he4 => ⟨W3, env4, s1, (xe.trans x2').trans x3, he4, A3, AftS.shift x3 q2⟩
        | bk env4 => exact q2
        | rt d => exact q2
  · have e : i = items.length := by omega
    subst e
    rw [List.drop_length, forL] at q2
    obtain ⟨hh, q2⟩ := AftS.test q2
    exact .inl ⟨(wk W2 st2 H xe.le A2 hh (hP W2 H xe)).2, q2.next A2 he2⟩
theorem s_for {tg iter : Expr} {t : Tg} {it : It} {sb : List Stmt} {xb : Ss} {pr : Bool} (hpo : PassesOwn (model X.prog X.w) X.A X.env X.xe) (hc : X.calm = true) (hN : X.N.Nodup) (hp : it.plain = true) (hi : PI X tg iter (tDI X.K X.w cls U pr (evI C it))) (ht : TgOk X tg t)
    (hpr : pr = true → ∃ is, t = .many is) (hb : GoodSs X cls U C sb xb) (hs : ∀ x, foldedSetIterable iter X.env x = pure x) : GoodS X cls U C (.For tg iter sb [] pos) (.for t it xb) := by
  refine PS.mono (ps_for hpo hc hi (tg_pg hc hN ht) hb hs) fun D σ H h => ?_
  obtain ⟨W, env, st, he, A, q⟩ := h
  rw [evS] at q
  refine ⟨W, env, st, he, A, fun p st' e => evI_nodic hp e, ?_⟩
  cases e : evI C it env st with
  | bad => rw [e] at q; exact q
  | err k st' => rw [e] at q; exact q
  | ok pp st1 =>
    have hg := evI_nodic hp e
    rw [e] at q
    intro J W1 H1 x1 A1 hw
    have q := Grd.out_S hg (AftS.shift x1 q)
    rw [Grd.lock_plain hg] at q
    exact for_turns hpr (he.mono x1.le) A1 hw.2 (fun _ _ _ => trivial) q
/-- name = [..] -/
theorem s_setLc {y : Str} {n : Nat} {py spos : Pos} {m : Bool} {it : It} {t : Tg} {cond ie : E} {own : List (Str × Nat)} {pr : Bool} {elt iter tg : Expr} {ifs : List Expr} {scope : Scope} (hc : X.calm = true) (hN : X.N.Nodup) (hy : X.N[n]? = some y) (hyl : X.env.scope.names.lookup y = some .local)
    (hsw : swapsWith (.ListComp elt [⟨tg, iter, ifs, 0⟩] scope pos) (some (.Name y py)) spos.line X.env = pure true) (hp : it.plain = true)
    (hi : PI X tg iter (tDI X.K X.w cls U pr (evI C it))) (ok : BlkOk X.N X.env.scope scope own) (gb : GoodB X cls C scope tg t ifs elt cond ie) (ht : ∀ s ∈ t.slots, s ∈ own.map (·.2)) (hpr : pr = true → ∃ is, t = .many is)
    (hs : ∀ x, foldedSetIterable iter X.env x = pure x) : GoodS X cls U C (.Assign [.Name y py] (.ListComp elt [⟨tg, iter, ifs, 0⟩] scope pos) spos) (.set (.one n) (.lc m (own.map (·.2)) t it cond ie)) := by
  refine PS.mono (ps_setLc hc hN hy hyl hsw hi ok gb.g gb.c gb.e hs) fun D σ H h => ?_
  obtain ⟨W, env, st, he, A, q⟩ := h
  rw [evS] at q
  refine lc_tD (m := m) hp ht hpr ⟨W, env, st, he, A, (q.bind).mono fun v H1 ⟨W1, st1, d, x1, A1, r1, q1⟩ => ?_⟩
  exact q1.next A1 ((he.mono x1.le).set n r1)
end
end EV
/-! EvL: methods of built-in types, calls of the program's own defs. -/
namespace EV
open PySem PySem.Spec PyProof.Rows L2

section
variable {X : Cx} {cls : Nat → Option Addr} {U : XW} {C : Ctx} {a b c : Expr} {i j k : E} {pos : Pos}
/-- no bare call f() -/
def notSup : Expr → Bool
  | .Call (.Name _ _) [] [] _ => false
  | _ => true
theorem notSup_base {o : Expr} {name : Str} {env : PySem.Env} {wh : Sem Value} (h : notSup o = true) : attributeBase o name env wh = wh := by
  unfold attributeBase
  split
  · simp [notSup] at h
  · rfl
/-- a method of a built-in type -/
structure MthOk (X : Cx) (cls : Nat → Option Addr) (U : XW) (m : Mth) (name : Str) (id : String) : Prop where
  pa : PlainAttrs m.kd.nm
  sl : Slot m.kd.nm name id
  ty : typeOf (.builtin id) = pure (.type "method_descriptor")
  run : MtR X id (rM X cls U m)
theorem few_args {es : List Expr} {env : PySem.Env} (hs : es.all noStar = true) (hl : es.length < 29) :
    ((backTo pos (starEach es env)).all (fun x => !x.1) && (backToKw pos (keywordEach [] env)).all (fun x => x.1.isSome) && decide (es.length + ([] : List Keyword).length + (if ([] : List Keyword).isEmpty then 0 else 1) < 30)) = true := by
  have h1 : (backTo pos (starEach es env)).all (fun x => !x.1) = true := by
    have := plain_args (pos := pos) (env := env) hs
    rw [List.all_eq_true]
    rw [List.any_eq_false] at this
    intro x hx
    simpa using this x hx
  have h2 : (backToKw pos (keywordEach [] env)).all (fun x => x.1.isSome) = true := rfl
  rw [h1, h2]
  simp
  omega
theorem g_mth {m : Mth} {name : Str} {id : String} {apos : Pos} {es : List Expr} {is : List E} (hm : MthOk X cls U m name id) (ho : Good X cls U C a i) (t : Goods X cls U C es is) (hs : es.all noStar = true) (hl : es.length < 29) (hb : notSup a = true)
    (hline : (apos.endLine == pos.line) = true) : Good X cls U C (.Call (.Attribute a name apos) es [] pos) (.mth m i (listEs is)) := by
  refine good_val ⟨fun pins s σ H Q I h => ?_⟩ fun _ => rfl
  obtain ⟨W, env, st, he, A, q⟩ := h
  rw [evE] at q
  have h0 := ho.pe.run pins s σ H _ I ⟨W, env, st, he, A, Aft.bind (rel := Rep X.K) q⟩
  refine wpAny_Call_method_late (notSup_base hb) (few_args hs hl) hline rfl (thn h0 fun v s1 ⟨x, H1, I1, r1, W1, st1, d, x1, A1, rx, q1⟩ => ?_)
  obtain ⟨hok, q1⟩ := Aft.test q1
  obtain ⟨h1, h2⟩ := rx.ty I1 A1 (of_decide_eq_true hok) (by cases m <;> simp [Mth.kd]) r1
  refine ⟨m.kd.nm, id, hm.pa, hm.sl, hm.ty, h1, h2, ?_⟩
  cases t with
  | nil =>
    refine Calls.callWith_builtin (plain_args hs) ?_
    rw [listEs, evEs] at q1
    exact PySem.evalArgs_none (hm.run pins s1 σ H1 x [] v [] Q I1 r1 .nil ⟨W1, st1, d, [], A1, rx, .nil, q1⟩)
  | @cons e ie es is g t =>
    have hA := (args_ok (.cons g t) hs).run pos pins s1 σ H1 (fun vs H2 => rM X cls U m x vs H2 Q) I1 ⟨W1, env, st1, he.mono x1.le, A1, (q1.bind).mono fun vs H2 ⟨W2, st2, ds, x2, A2, r2, q2⟩ => ⟨W2, st2, d, ds, A2, rx.mono x2.le, r2, q2⟩⟩
    refine Calls.callWith_builtin (plain_args hs) ?_
    rw [List.all_cons, Bool.and_eq_true] at hs
    rw [starEach_no hs.1] at hA ⊢
    refine Calls.evalArgs_plain ?_
    exact thn hA fun us s2 ⟨vs, H2, I2, r2, q2⟩ => hm.run pins s2 σ H2 x vs v us Q I2 r1 r2 q2
/-! ### calls of own defs -/
/-- a def's promise: what the evaluator tells of it -/
def spD (K : PySem.W.Frag) (w : World) (cls : Nat → Option Addr) (xa : Nat → Addr) (call : List D → Store → R D) : Sp := fun vs H Q E => ∃ W st ds, Ag K w cls W st H ∧ RepL K W vs ds ∧ Aft K w cls (fun k H' => E (.ref (xa k)) none H') (Rep K) W H (call ds st) Q
/-- the wish of exceptions, by numbers of classes -/
def wU (xa : Nat → Addr) (U : XW) : XK := fun c d H => ∃ k, c = .ref (xa k) ∧ d = none ∧ U k H
theorem passes_U {xa : Nat → Addr} (tk : Takes X (fun c d _ H => wU xa U c d H)) : Passes (L2.CX X.prog X.w) X (wU xa U) := passes_call tk fun _ _ _ _ h => h
theorem Aft.impU {K : PySem.W.Frag} {w : World} {α β : Type} {rel : Wd → β → α → Prop} {W : Wd} {H : Hp} {U U' : XW} {r : R α} {Q : β → Hp → Prop} (h : Aft K w cls U rel W H r Q) (hU : ∀ k H, U k H → U' k H) : Aft K w cls U' rel W H r Q := by
  cases r with
  | ok a st => exact h
  | err k st => exact fun W' H' x A => hU k H' (h W' H' x A)
  | bad => exact h
theorem g_call {n f : Nat} {fa : Addr} {fd : FuncData} {ps : List Str} {xa : Nat → Addr} {x : Str} {p : Pos} {es : List Expr} {is : List E} (F : FnOk X.prog X.w X.K X.mg X.base (L2.CX X.prog X.w) n fa fd ps (spD X.K X.w cls xa (C.call f)))
    (hr : Room n X.A) (hg : Gl X x) (hm : X.mg x = some (.ref fa)) (hk : PySem.W.keepIn X.K (.ref fa) = true) (hb : Binds X.K fd ps []) (tk : Takes X (fun c d _ H => wU xa U c d H)) (hdb : (x == ("__debug__" : Str)) = false)
    (t : Goods X cls U C es is) (hs : es.all noStar = true) : Good X cls U C (.Call (.Name x p) es [] pos) (.call f (listEs is)) := by
  cases t with
  | nil =>
    refine good_val (PE.mono (pe_call0 F hr hg hm hk hb .nil (passes_U tk) hdb) fun σ H Q h => ?_) fun _ => rfl
    obtain ⟨W, env, st, he, A, q⟩ := h
    rw [evE, listEs, evEs] at q
    exact ⟨W, st, [], A, .nil, Aft.impU q fun k H u => ⟨k, rfl, rfl, u⟩⟩
  | @cons e ie es is g t =>
    have hs' := hs
    rw [List.all_cons, Bool.and_eq_true] at hs'
    refine good_val (PE.mono (pe_call F hr hg hm hk hb .nil (passes_U tk) (args_ok (.cons g t) hs) hdb (starEach_no hs'.1) (plain_args hs'.2)) fun σ H Q h => ?_) fun _ => rfl
    obtain ⟨W, env, st, he, A, q⟩ := h
    rw [evE] at q
    refine ⟨W, env, st, he, A, (q.bind).mono fun vs H1 ⟨W1, st1, ds, x1, A1, r1, q1⟩ => ?_⟩
    rw [List.append_nil]
    exact ⟨W1, st1, ds, A1, r1, Aft.impU q1 fun k H u => ⟨k, rfl, rfl, u⟩⟩
end
end EV
/-! EvW: for over a dict's keys and items; the dict is locked meanwhile. -/
namespace EV
open PySem PySem.Spec PyProof.Rows L2

def NoFz (X : Cx) (d : Addr) : Prop := ∀ o u, X.H_0 d ≠ some (.frz o u)
/-- the keys of the locked dict at d -/
def Itq (d : Addr) (od o : Obj) (xs : List V) : L2.It :=
  ⟨fun i H => H d = some (.frz od (exactly d o)) ∧ i < xs.length, fun i H x H' => H' = H ∧ xs[i]? = some x, fun i H => H d = some (.frz od (exactly d o)) ∧ xs.length ≤ i⟩
/-- its pairs -/
def Itp (d : Addr) (od o : Obj) (xs ys : List V) : L2.It :=
  ⟨fun i H => H d = some (.frz od (exactly d o)) ∧ i < xs.length, fun i H x H' => ∃ T k v, xs[i]? = some k ∧ ys[i]? = some v ∧ x = .ref T ∧ H T = none ∧ H' = upd H T (.tup [k, v]), fun i H => H d = some (.frz od (exactly d o)) ∧ xs.length ≤ i⟩
section
variable {P : Program} {w : World} {K : PySem.W.Frag} {tg : Expr} {d : Addr} {od o : Obj} {es : Array DictEntry} {ep : Nat} {xs ys : List V}
theorem turn_rawK (it : Addr) (hdt : o.data = .dict es ep) (r : Vals xs (es.toList.map (·.key))) : Turn P w K tg (Itq d od o xs) [it] it (fun i h => h.IsKeyIter it d i xs.length ep) where
  mem := by simp
  obj := fun i h st b hb => by
    have e : b = it := by simpa using hb
    subst e
    obtain ⟨oi, e, c, dd⟩ := st
    exact ⟨oi, e, fun v z => by rw [dd] at z; cases z⟩
  keep := fun i h h' st k => st.at fun oi e => k it (by simp) oi e
  item := by
    intro X hP hw hK hc i pins s σ H E I hf st hg
    subst hP hw hK
    obtain ⟨hd, hi⟩ := hg
    obtain ⟨f0, f1, f2, f3, f4, f5⟩ := hf it (by simp)
    have hgd : s.heap.get? d = some o := (I.hok d _ hd).2.1
    have hsz : es.size = xs.length := by have := r.length; rw [List.length_map, Array.length_toList] at this; exact this.symm
    have hen : es[i]? = some es[i] := Array.getElem?_eq_getElem (by rw [hsz]; exact hi)
    obtain ⟨u, hu, ru⟩ := r.get (List.getElem?_eq_getElem hi)
    rw [List.getElem?_map, Array.getElem?_toList, hen] at hu
    cases hu
    refine next_key_item st hgd hdt hsz hen fun h' st' sb => ?_
    have I1 : Inv X pins σ H { s with heap := h' } := I.turned (t' := s.toks) (fun b ob hb e => (sb.2 b hb).trans e) f0 f1 f3 f4 f5
    obtain ⟨oi, e, c, dd⟩ := id st'
    exact ⟨_, rfl, go_of (s := { s with heap := h' }) e c dd (by decide) ⟨xs[i], H, I1, ru, ⟨rfl, List.getElem?_eq_getElem hi⟩, st', fun b hb => (hf b hb).1⟩⟩
  done := by
    intro X hP hw hK hc i pins s σ H E I hf st hg
    subst hP hw hK
    obtain ⟨hd, hi⟩ := hg
    obtain ⟨f0, f1, f2, f3, f4, f5⟩ := hf it (by simp)
    have hgd : s.heap.get? d = some o := (I.hok d _ hd).2.1
    have hsz : es.size = xs.length := by have := r.length; rw [List.length_map, Array.length_toList] at this; exact this.symm
    exact next_key_end (I.ok.hd hc) st hgd hdt hsz hi fun h' eb => ⟨rfl, I.turned (t' := s.toks) (fun b ob hb e => eb b ob hb e) f0 f1 f3 f4 f5⟩
  self := fun A i s Q E st h => wpAny_pyIter_keyiter st h
theorem turn_rawI {elts : List Expr} {kk : Nat} {tpos : Pos} (it : Addr) (hx : o.ExactDict) (hdt : o.data = .dict es ep) (r : Vals xs (es.toList.map (·.key))) (r2 : Vals ys (es.toList.map (·.val))) :
    Turn P w K (.Tuple elts kk tpos) (Itp d od o xs ys) [it] it (fun i h => ∃ ok ov, IsItemIter h it d i xs.length ep ok ov) where
  mem := by simp
  obj := fun i h st b hb => by
    have e : b = it := by simpa using hb
    subst e
    obtain ⟨ok, ov, e⟩ := st
    exact ⟨_, e, fun v z => nomatch z⟩
  keep := fun i h h' st k => let ⟨ok, ov, e⟩ := st; ⟨ok, ov, k it (by simp) _ e⟩
  item := by
    intro X hP hw hK hc i pins s σ H E I hf st hg
    subst hP hw hK
    obtain ⟨hd, hi⟩ := hg
    have hgd : s.heap.get? d = some o := (I.hok d _ hd).2.1
    have hsz : es.size = xs.length := by have := r.length; rw [List.length_map, Array.length_toList] at this; exact this.symm
    have hsz2 : es.size = ys.length := by have := r2.length; rw [List.length_map, Array.length_toList] at this; exact this.symm
    have hie : i < es.size := by rw [hsz]; exact hi
    have hiy : i < ys.length := by rw [← hsz2]; exact hie
    have hen : es[i]? = some es[i] := Array.getElem?_eq_getElem hie
    obtain ⟨u, hu, ru⟩ := r.get (List.getElem?_eq_getElem hi)
    rw [List.getElem?_map, Array.getElem?_toList, hen] at hu
    cases hu
    obtain ⟨u2, hu2, ru2⟩ := r2.get (List.getElem?_eq_getElem hiy)
    rw [List.getElem?_map, Array.getElem?_toList, hen] at hu2
    cases hu2
    obtain ⟨ok, ov, he⟩ := st
    rw [← hsz] at he
    have hlt : it < s.heap.objs.size := Heap.lt_size he
    refine DT.nextI he ⟨o, hgd, hx, hdt⟩ hie fun h' ho hT hz hk => ?_
    refine ⟨_, rfl, wpAny_letOwnedTupleGo_items (s := { s with heap := h' }) ho fun h'' he' sb => ?_⟩
    have hT2 : h''.get? s.heap.objs.size = some { cls := .type "tuple", data := .seq #[es[i].key, es[i].val] } := (sb.2 _ (Nat.ne_of_gt hlt)).trans hT
    have new : ObjOk X.prog X.w (upd H s.heap.objs.size (.tup [xs[i], ys[i]])) h'' s.heap.objs.size (.tup [xs[i], ys[i]]) :=
      ⟨by show 2 ≤ sizeLine; decide, [es[i].key, es[i].val], .cons ru (.cons ru2 .nil), ⟨_, hT2, rfl, _, rfl⟩⟩
    have I1 : Inv X pins σ (upd H s.heap.objs.size (.tup [xs[i], ys[i]])) { s with heap := h'' } :=
      I.turnedNew (t' := s.toks) (ch := [it]) (fun b ob hb e => (sb.2 b (by simpa using hb)).trans (hk b ob (by simpa using hb) e)) hf (Nat.le_refl _) new
    refine ⟨.ref s.heap.objs.size, _, I1, rfl, ⟨_, _, _, List.getElem?_eq_getElem hi, List.getElem?_eq_getElem hiy, rfl, I.hok.fresh (Nat.le_refl _), rfl⟩, ⟨es[i].key, es[i].val, ?_⟩, fun b hb => ?_⟩
    · rw [← hsz]; exact he'
    · have e : b = it := by simpa using hb
      rw [e, upd_ne (Nat.ne_of_lt hlt)]
      exact (hf it (by simp)).1
  done := by
    intro X hP hw hK hc i pins s σ H E I hf st hg
    subst hP hw hK
    obtain ⟨hd, hi⟩ := hg
    obtain ⟨f0, f1, f2, f3, f4, f5⟩ := hf it (by simp)
    have hgd : s.heap.get? d = some o := (I.hok d _ hd).2.1
    have hsz : es.size = xs.length := by have := r.length; rw [List.length_map, Array.length_toList] at this; exact this.symm
    obtain ⟨ok, ov, he⟩ := st
    rw [← hsz] at he
    exact DT.endI (I.ok.hd hc) he ⟨o, hgd, hx, hdt⟩ (by rw [hsz]; exact hi) fun h' eb => ⟨rfl, I.turned (t' := s.toks) (fun b ob hb e => eb b ob hb e) f0 f1 f3 f4 f5⟩
  self := fun A i s Q E st h => let ⟨_, _, e⟩ := st; PySem.W.kcp_self e h
end
section
variable {X : Cx} {tg e : Expr} {td : TE} {apos cpos : Pos}
/-- what is asked of the dict, and what follows once it is locked -/
def askD (X : Cx) (d : Addr) (H1 : Hp) (f : Obj → Array DictEntry → Nat → Obj → Hp → Prop) : Prop := ∃ o es ep, H1 d = some (exactly d o) ∧ (d == sysModules) = false ∧ o.ExactDict ∧ o.data = .dict es ep ∧ ∀ od, NoFz X d → f o es ep od (upd H1 d (.frz od (exactly d o)))
theorem pi_rawK (he : PE X e td) : PI X tg e (fun σ H R => td σ H fun x H1 => ∃ d, x = .ref d ∧ askD X d H1 fun o es ep od H2 => ∃ xs, Vals xs (es.toList.map (·.key)) ∧ R (Itq d od o xs) H2) := by
  refine ⟨fun pins s σ H R I h => ?_⟩
  refine thn (he.run pins s σ H _ I h) fun u s1 ⟨x, H1, I1, rx, d, ex, o, es, ep, hd, hs, hx, hdt, q⟩ => ?_
  subst ex
  obtain rfl : u = Value.ref d := rx
  obtain ⟨od, I2⟩ := I1.lock hd True.intro
  obtain ⟨xs, r, q⟩ := q od (I1.nofrz hd True.intro)
  have hgd : s1.heap.get? d = some o := (I1.hok d _ hd).1
  have hsz : es.size = xs.length := by have := r.length; rw [List.length_map, Array.length_toList] at this; exact this.symm
  refine iter_keys hs hgd hx hdt (pi_one (tk := s1.toks) I2 _ (turn_rawK _ hdt r) ⟨_, Heap.get?_push_size _ rfl, rfl, ?_⟩ q)
  rw [hsz] <;> rfl
theorem pi_rawI {elts : List Expr} {kk : Nat} {tpos : Pos} (he : PE X e td) (hbase : attributeBase e "items" X.env (eval e X.env) = eval e X.env) (hline : (apos.endLine == cpos.line) = true) :
    PI X (.Tuple elts kk tpos) (.Call (.Attribute e "items" apos) [] [] cpos) (fun σ H R => td σ H fun x H1 => ∃ d, x = .ref d ∧ askD X d H1 fun o es ep od H2 => ∃ xs ys, Vals xs (es.toList.map (·.key)) ∧ Vals ys (es.toList.map (·.val)) ∧ R (Itp d od o xs ys) H2) := by
  refine ⟨fun pins s σ H R I h => ?_⟩
  refine wpAny_Call_method (T := "dict") (id := "dict.items") hbase rfl hline F.plainAttrs_dict F.slot_dict_items F.type_dict_items (thn (he.run pins s σ H _ I h) fun u s1 ⟨x, H1, I1, rx, d, ex, o, es, ep, hd, hs, hx, hdt, q⟩ => ?_)
  subst ex
  obtain rfl : u = Value.ref d := rx
  obtain ⟨od, I2⟩ := I1.lock hd True.intro
  obtain ⟨xs, ys, r, r2, q⟩ := q od (I1.nofrz hd True.intro)
  have hgd : s1.heap.get? d = some o := (I1.hok d _ hd).1
  have hsz : es.size = xs.length := by have := r.length; rw [List.length_map, Array.length_toList] at this; exact this.symm
  have hT : s1.TypeIs (.ref d) "dict" := ⟨o, hgd, hx.1⟩
  refine ⟨hT, ?_, ?_⟩
  · intro a ea
    cases ea
    exact ⟨o, hgd, hx.2.1⟩
  have I3 : Inv X pins σ (upd H1 d (.frz od (exactly d o))) { s1 with heap := s1.heap.push { cls := .type "dict_items", data := .fields #[.ref d] } } := I2.kept (t' := s1.toks) fun b ob q => Heap.get?_push_of_some _ q
  have fin : wpAny (model X.prog X.w) X.A (pyIter (.ref s1.heap.objs.size)) (PIE X pins σ (.Tuple elts kk tpos) R) X.xe { s1 with heap := s1.heap.push { cls := .type "dict_items", data := .fields #[.ref d] } } := by
    refine DT.iterI (es := es) (ep := ep) ⟨_, Heap.get?_push_size _ rfl, rfl, rfl⟩ ⟨o, Heap.get?_push_of_some _ hgd, hx, hdt⟩ (pi_one (tk := s1.toks) I3 _ (turn_rawI _ hx hdt r r2) ⟨.none, .none, ?_⟩ q)
    rw [← hsz]
    exact Heap.get?_push_size _ rfl
  show wpAny _ _ (callWith cpos (.builtin "dict.items") [.ref d] [] []) _ X.xe s1
  refine method_meetsIn F.slot_dict_items F.entry_dict_items rfl (PySem.evalArgs_none ⟨rfl, hT, F.args_dict_items_1 _, _, DT.meetsItems (es := es) (ep := ep) hs, ⟨o, hgd, hx, hdt⟩, fin⟩)
/-! ### the lock is taken away behind the loop -/
def unl (X : Cx) (D : Ends) : Ends :=
  ⟨fun σ H => ∃ d od u, H d = some (.frz od u) ∧ NoFz X d ∧ D.nx σ (upd H d u), fun v H => ∃ d od u, H d = some (.frz od u) ∧ NoFz X d ∧ D.rt v (upd H d u), fun σ H => ∃ d od u, H d = some (.frz od u) ∧ NoFz X d ∧ D.bk σ (upd H d u), fun σ H => ∃ d od u, H d = some (.frz od u) ∧ NoFz X d ∧ D.ct σ (upd H d u)⟩
theorem ps_unl {st : Stmt} {t : TS} (h : PS X st t) : PS X st (fun D σ H => t (unl X D) σ H) := by
  refine ⟨fun pins s σ H D I q => thn (h.run pins s σ H _ I q) fun f s1 q1 => ?_⟩
  cases f with
  | next =>
    obtain ⟨σ1, H1, I1, d, od, u, e, nf, q⟩ := q1
    exact ⟨σ1, _, I1.unlock e nf, q⟩
  | ret v =>
    obtain ⟨x, σ1, H1, I1, r, d, od, u, e, nf, q⟩ := q1
    exact ⟨x, σ1, _, I1.unlock e nf, r, q⟩
  | brk =>
    obtain ⟨σ1, H1, I1, d, od, u, e, nf, q⟩ := q1
    exact ⟨σ1, _, I1.unlock e nf, q⟩
  | cont =>
    obtain ⟨σ1, H1, I1, d, od, u, e, nf, q⟩ := q1
    exact ⟨σ1, _, I1.unlock e nf, q⟩
end
section
variable {X : Cx} {cls : Nat → Option Addr} {U : XW} {C : Ctx} {a b c : Expr} {i j k : E} {pos : Pos}
theorem Ext.unlock {W1 W' : Wd} {H1 H' : Hp} {a : Addr} {od : Obj} {u0 u : HO} (x : Ext W1 (upd H1 a (.frz od u0)) W' H') (ha : a ∈ W1.ρ) (h1 : ∃ v, H1 a = some v ∧ ∀ x y, v ≠ .frz x y) : Ext W1 H1 W' (upd H' a u) := by
  obtain ⟨v, hv, nf⟩ := h1
  have none_iff : ∀ b, upd H1 a (.frz od u0) b = none → H1 b = none := fun b h => by
    by_cases hb : b = a
    · subst hb; rw [upd_same] at h; cases h
    · rw [upd_ne hb] at h; exact h
  refine ⟨x.g, ?_, fun b o e hn => ?_, fun b h => ?_, fun b h => ?_, fun b o w e => ?_⟩
  · obtain ⟨m, e, hm⟩ := x.r
    exact ⟨m, e, fun b hb => none_iff b (hm b hb)⟩
  · have hb : b ≠ a := fun z => hn (z ▸ ha)
    rw [upd_ne hb]
    exact x.fr b o (by rw [upd_ne hb]; exact e) hn
  · by_cases hb : b = a
    · subst hb; rw [upd_same]; simp
    · rw [upd_ne hb]
      exact x.dom b (by rw [upd_ne hb]; exact h)
  · rcases x.gn b h with z | z
    · exact .inl z
    · exact .inr (none_iff b z)
  · have hb : b ≠ a := fun z => by
      subst z
      rw [hv] at e
      exact nf _ _ (Option.some.inj e)
    rw [upd_ne hb]
    exact x.fz b o w (by rw [upd_ne hb]; exact e)
theorem out_unl {W1 : Wd} {H1 : Hp} {st1 : Store} {n : Nat} {kvs : List (D × D)} {r : R Fl} {D0 : Ends} {ad : Addr} {od o : Obj} (A1 : Ag X.K X.w cls W1 st1 H1) (ha : W1.ρ[n]? = some ad) (hH : H1 ad = some (exactly ad o)) (nf : NoFz X ad)
    (q : AftS X.K X.w cls U W1 H1 ((Grd.dic n kvs).out r) D0) : AftS X.K X.w cls U W1 (upd H1 ad (.frz od (exactly ad o))) r (unl X D0) := by
  have am : ad ∈ W1.ρ := List.mem_of_getElem? ha
  cases r with
  | bad => exact q
  | err k st => exact q.elim
  | ok f st =>
    have q : AftS X.K X.w cls U W1 H1 (R.test ((Grd.dic n kvs).holds st) (.ok f (st.set n (.dic kvs)))) D0 := q
    obtain ⟨hh, q⟩ := AftS.test q
    have key : ∀ W' H', Ext W1 (upd H1 ad (.frz od (exactly ad o))) W' H' → Ag X.K X.w cls W' st H' → ∃ od' u, H' ad = some (.frz od' u) ∧ Ext W1 H1 W' (upd H' ad u) ∧ Ag X.K X.w cls W' (st.set n (.dic kvs)) (upd H' ad u) := by
      intro W' H' x A'
      have ha' := x.le.at ha
      obtain ⟨o2, od2, h1, d2⟩ := A'.obj n _ ad (holds_dic hh) ha'
      have x2 : Ext W1 H1 W' (upd H' ad (exactly ad o2)) := x.unlock am ⟨_, hH, fun _ _ z => by cases z⟩
      refine ⟨od2, exactly ad o2, h1, x2, ?_⟩
      have am' : ad ∈ W'.ρ := List.mem_of_getElem? ha'
      refine ⟨fun b u e => ?_, by rw [List.length_set]; exact A'.len, A'.nd, A'.out, fun m ob c e1 e2 => ?_⟩
      · rw [upd_ne fun z => by rw [z, A'.out ad am'] at e; cases e]
        exact A'.sub b u e
      · by_cases hm : m = n
        · subst hm
          rw [ha'] at e2
          cases e2
          rw [List.getElem?_set_self (by rw [← A'.len]; exact (List.getElem?_eq_some_iff.mp ha').1)] at e1
          cases e1
          exact ⟨o2, upd_same, d2⟩
        · rw [List.getElem?_set_ne (Ne.symm hm)] at e1
          have ne : c ≠ ad := fun z => by subst z; exact hm (nodup_at A'.nd e2 ha')
          exact (A'.obj m ob c e1 e2).keep (Wd.Le.refl _) (upd_ne ne)
    cases f with
    | nx env => exact fun σ W' H' x A' he => by obtain ⟨od2, u, h1, x2, A2⟩ := key W' H' x A'; exact ⟨ad, od2, u, h1, nf, q σ W' _ x2 A2 he⟩
    | rt v => exact fun y W' H' x A' r => by obtain ⟨od2, u, h1, x2, A2⟩ := key W' H' x A'; exact ⟨ad, od2, u, h1, nf, q y W' _ x2 A2 r⟩
    | bk env => exact fun σ W' H' x A' he => by obtain ⟨od2, u, h1, x2, A2⟩ := key W' H' x A'; exact ⟨ad, od2, u, h1, nf, q σ W' _ x2 A2 he⟩
    | ct env => exact fun σ W' H' x A' he => by obtain ⟨od2, u, h1, x2, A2⟩ := key W' H' x A'; exact ⟨ad, od2, u, h1, nf, q σ W' _ x2 A2 he⟩
theorem s_forK {tg : Expr} {t : Tg} {sb : List Stmt} {xb : Ss} (hpo : PassesOwn (model X.prog X.w) X.A X.env X.xe) (hc : X.calm = true) (hN : X.N.Nodup) (h : Good X cls U C a i) (ht : TgOk X tg t) (hb : GoodSs X cls U C sb xb) (hs : ∀ x, foldedSetIterable a X.env x = pure x) :
    GoodS X cls U C (.For tg a sb [] pos) (.for t (.keys i) xb) := by
  refine PS.mono (ps_unl (ps_for hpo hc (pi_rawK h.pe) (tg_pg hc hN ht) hb hs)) fun D σ H h => ?_
  obtain ⟨W, env, st, he, A, q⟩ := h
  rw [evS, evI, R.bind_assoc] at q
  refine ⟨W, env, st, he, A, (AftS.bind (rel := Rep X.K) q).mono fun x H1 ⟨W1, st1, d, x1, A1, r1, q1⟩ => ?_⟩
  cases d with
  | ref n =>
    obtain ⟨ad, e, ha⟩ := r1.ref_inv
    obtain ⟨ob, ho, oa⟩ := A1.at ha
    simp only [keysIt, ho] at q1
    cases ob with
    | dic kvs =>
      obtain ⟨o, hH, on, hns, hz, es, ep, ex, hdat, hr, hn⟩ := oa
      have q1 : AftS X.K X.w cls U W1 H1 ((Grd.dic n kvs).out (forL (.dic n kvs) t (evSs C xb) (kvs.map (·.1)) env (st1.set n (.lck kvs)))) D := q1
      refine ⟨ad, e, o, es, ep, hH, hns, ex, hdat, fun od nf => ?_⟩
      obtain ⟨vs, k1, k2⟩ := hr.keys
      have q2 := out_unl (od := od) A1 ha hH nf q1
      obtain ⟨A2, x2⟩ := A1.setObj (H' := upd H1 ad (.frz od (exactly ad o))) (o := .lck kvs) ha (fun b hb => upd_ne hb) ⟨o, od, upd_same, on, hns, hz, es, ep, ex, hdat, hr, hn⟩ (fun _ _ z => by rw [hH] at z; cases z)
      refine ⟨vs, k1, for_turns (pr := false) (P := fun H => H ad = some (.frz od (exactly ad o))) (fun z => by cases z) (he.mono x1.le) A2 (fun W2 st2 H2 le A3 hh hp => ⟨fun m d hd => ?_, ?_⟩) (fun W2 H2 x => x.fz _ _ _ upd_same) q2⟩
      · obtain ⟨y, h1, h2⟩ := k2.get hd
        refine ⟨⟨hp, (List.getElem?_eq_some_iff.mp h1).1⟩, fun x H' hy => ?_⟩
        obtain ⟨rfl, hy⟩ := hy
        rw [h1] at hy
        cases hy
        exact ⟨.inl ⟨rfl, h2.mono le⟩, fun _ => ⟨rfl, h2.mono le⟩⟩
      · exact ⟨hp, by rw [k2.length]; exact Nat.le_refl _⟩
    | _ => exact q1.elim
  | _ => exact q1.elim
theorem RepE.vals {K : PySem.W.Frag} {w : World} {W : Wd} : ∀ {es : List DictEntry} {kvs : List (D × D)}, RepE K w W es kvs → ∃ vs, Vals vs (es.map (·.val)) ∧ RepL K W vs (kvs.map (·.2))
  | _, _, .nil => ⟨[], .nil, .nil⟩
  | _, _, .cons hk hv hh ⟨x, r, q⟩ t => by
    obtain ⟨vs, h1, h2⟩ := RepE.vals t
    exact ⟨x :: vs, .cons r h1, .cons q h2⟩
theorem s_forI {elts : List Expr} {kk : Nat} {tpos apos cpos : Pos} {is : List Nat} {sb : List Stmt} {xb : Ss} (hpo : PassesOwn (model X.prog X.w) X.A X.env X.xe) (hc : X.calm = true) (hN : X.N.Nodup) (h : Good X cls U C a i) (ht : TgOk X (.Tuple elts kk tpos) (.many is)) (hb : GoodSs X cls U C sb xb)
    (hsup : notSup a = true) (hline : (apos.endLine == cpos.line) = true) : GoodS X cls U C (.For (.Tuple elts kk tpos) (.Call (.Attribute a "items" apos) [] [] cpos) sb [] pos) (.for (.many is) (.items i) xb) := by
  refine PS.mono (ps_unl (ps_for hpo hc (pi_rawI h.pe (notSup_base hsup) hline) (tg_pg hc hN ht) hb (fun _ => rfl))) fun D σ H h => ?_
  obtain ⟨W, env, st, he, A, q⟩ := h
  rw [evS, evI, R.bind_assoc] at q
  refine ⟨W, env, st, he, A, (AftS.bind (rel := Rep X.K) q).mono fun x H1 ⟨W1, st1, d, x1, A1, r1, q1⟩ => ?_⟩
  cases d with
  | ref n =>
    obtain ⟨ad, e, ha⟩ := r1.ref_inv
    obtain ⟨ob, ho, oa⟩ := A1.at ha
    simp only [itemsIt, ho] at q1
    cases ob with
    | dic kvs =>
      obtain ⟨o, hH, on, hns, hz, es, ep, ex, hdat, hr, hn⟩ := oa
      have q1 : AftS X.K X.w cls U W1 H1 ((Grd.dic n kvs).out (forL (.dic n kvs) (.many is) (evSs C xb) (kvs.map fun kv => EV.D.tup [kv.1, kv.2]) env (st1.set n (.lck kvs)))) D := q1
      refine ⟨ad, e, o, es, ep, hH, hns, ex, hdat, fun od nf => ?_⟩
      obtain ⟨vs, k1, k2⟩ := hr.keys
      obtain ⟨us, v1, v2⟩ := hr.vals
      have q2 := out_unl (od := od) A1 ha hH nf q1
      obtain ⟨A2, x2⟩ := A1.setObj (H' := upd H1 ad (.frz od (exactly ad o))) (o := .lck kvs) ha (fun b hb => upd_ne hb) ⟨o, od, upd_same, on, hns, hz, es, ep, ex, hdat, hr, hn⟩ (fun _ _ z => by rw [hH] at z; cases z)
      refine ⟨vs, us, k1, v1, for_turns (pr := true) (P := fun H => H ad = some (.frz od (exactly ad o))) (fun _ => ⟨is, rfl⟩) (he.mono x1.le) A2 (fun W2 st2 H2 le A3 hh hp => ⟨fun m d hd => ?_, ?_⟩) (fun W2 H2 x => x.fz _ _ _ upd_same) q2⟩
      · rw [List.getElem?_map] at hd
        obtain ⟨kv, hk, rfl⟩ := Option.map_eq_some_iff.mp hd
        obtain ⟨y, h1, h2⟩ := k2.get (i := m) (d := kv.1) (by rw [List.getElem?_map, hk]; rfl)
        obtain ⟨z, h3, h4⟩ := v2.get (i := m) (d := kv.2) (by rw [List.getElem?_map, hk]; rfl)
        refine ⟨⟨hp, (List.getElem?_eq_some_iff.mp h1).1⟩, fun x H' hy => ?_⟩
        obtain ⟨T, k, v, g1, g2, rfl, g3, rfl⟩ := hy
        rw [h1] at g1
        rw [h3] at g2
        cases g1
        cases g2
        exact ⟨.inr ⟨T, _, _, _, _, rfl, g3, rfl, rfl, h2.mono le, h4.mono le⟩, fun z => by cases z⟩
      · exact ⟨hp, by rw [k2.length, List.length_map, List.length_map]; exact Nat.le_refl _⟩
    | _ => exact q1.elim
  | _ => exact q1.elim
end
end EV
/-! EvU: dict displays. -/
namespace EV
open PySem PySem.Spec PyProof.Rows L2

/-! ### keys of a dict behind stores -/
theorem leaf_key {d : D} (h : d.isLeaf = true) : d.key 6 = true := by cases d <;> simp [D.isLeaf] at h <;> simp [D.key]
theorem dput_keys {k v : D} (hk : k.key 6 = true) : ∀ {kvs : List (D × D)}, (∀ p ∈ kvs, p.1.key 6 = true) → ((dput kvs k v).map (·.1.nk) = kvs.map (·.1.nk) ∧ k.nk ∈ kvs.map (·.1.nk)) ∨ (k.nk ∉ kvs.map (·.1.nk) ∧ (dput kvs k v).map (·.1.nk) = kvs.map (·.1.nk) ++ [k.nk])
  | [], _ => .inr ⟨by simp, rfl⟩
  | (a, w) :: r, h => by
    have ha := h (a, w) (List.mem_cons_self ..)
    rw [dput, nk_eqv 6 a k ha hk]
    by_cases e : a.nk = k.nk
    · rw [if_pos (by simpa using e)]
      exact .inl ⟨rfl, by simp [e]⟩
    · rw [if_neg (by simpa using e)]
      rcases dput_keys (v := v) hk (kvs := r) fun p hp => h p (List.mem_cons_of_mem _ hp) with ⟨h1, h2⟩ | ⟨h1, h2⟩
      · exact .inl ⟨by rw [List.map_cons, List.map_cons, h1], List.mem_cons_of_mem _ h2⟩
      · refine .inr ⟨?_, by rw [List.map_cons, List.map_cons, h2]; rfl⟩
        rw [List.map_cons, List.mem_cons, not_or]
        exact ⟨fun z => e z.symm, h1⟩
theorem dput_nodup {k v : D} (hk : k.key 6 = true) {kvs : List (D × D)} (h : ∀ p ∈ kvs, p.1.key 6 = true) (nd : (kvs.map (·.1.nk)).Nodup) : ((dput kvs k v).map (·.1.nk)).Nodup := by
  rcases dput_keys (v := v) hk h with ⟨h1, _⟩ | ⟨h1, h2⟩
  · rw [h1]; exact nd
  · rw [h2]
    exact List.nodup_append.mpr ⟨nd, by simp, fun a ha b hb e => by
      have e2 : b = k.nk := by simpa using hb
      subst e2; subst e
      exact h1 ha⟩
theorem dput_mem {k v : D} : ∀ {kvs : List (D × D)} {p : D × D}, p ∈ dput kvs k v → p.1 = k ∨ ∃ q ∈ kvs, p.1 = q.1
  | [], p, h => by
    have e : p = (k, v) := by simpa [dput] using h
    exact .inl (by rw [e])
  | (a, w) :: r, p, h => by
    rw [dput] at h
    split at h
    · rcases List.mem_cons.mp h with rfl | h
      · exact .inr ⟨(a, w), List.mem_cons_self .., rfl⟩
      · exact .inr ⟨p, List.mem_cons_of_mem _ h, rfl⟩
    · rcases List.mem_cons.mp h with rfl | h
      · exact .inr ⟨(a, w), List.mem_cons_self .., rfl⟩
      · rcases dput_mem h with z | ⟨q, hq, z⟩
        · exact .inl z
        · exact .inr ⟨q, List.mem_cons_of_mem _ hq, z⟩
theorem LX.puts {K : PySem.W.Frag} {W : Wd} : ∀ {ps : List (D × D)} {rs xs : List (L2.Key × Value)} {kvs : List (D × D)}, LX K W rs ps → LX K W xs kvs → (kvs.map (·.1.nk)).Nodup → LX K W (merged xs rs) (dputs kvs ps)
  | _, _, xs, kvs, .nil, h, _ => by rw [dputs]; exact h
  | _, _, xs, kvs, .cons (k := k) (v := v) (u := u) (xs := rs) (kvs := ps) hk hv t, h, nd => by
    rw [dputs]
    show LX K W (merged (stored xs k.ky u) rs) _
    have hall : ∀ p ∈ kvs, p.1.key 6 = true := fun p hp => leaf_key (List.all_eq_true.mp h.keys.2.1 p hp)
    exact LX.puts t (h.put hk hv (h.nodup.mp nd)) (dput_nodup (leaf_key hk) hall nd)
theorem KX.all {K : PySem.W.Frag} {W : Wd} : ∀ {xs : List (NestedKey × Addr × Value)} {kvs : List (D × D)}, KX K W xs kvs → ∀ p ∈ kvs, p.1.key 6 = true
  | _, _, .nil, p, hp => by cases hp
  | _, _, .cons hk ht q hv t, p, hp => by
    rcases List.mem_cons.mp hp with rfl | hp
    · exact hk
    · exact KX.all t p hp
theorem KX.puts {K : PySem.W.Frag} {W : Wd} : ∀ {ps : List (D × D)} {rs xs : List (NestedKey × Addr × Value)} {kvs : List (D × D)}, KX K W rs ps → KX K W xs kvs → (kvs.map (·.1.nk)).Nodup → KX K W (storedAllH xs rs) (dputs kvs ps)
  | _, _, xs, kvs, .nil, h, _ => by rw [dputs]; exact h
  | _, _, xs, kvs, .cons (k := k) (v := v) (a := a) (u := u) (xs := rs) (kvs := ps) hk ht q hv t, h, nd => by
    rw [dputs]
    show KX K W (storedAllH (storedH xs k.nk a u) rs) _
    exact KX.puts t (h.put hk ht q hv (by rw [h.keys.1]; exact nd)) (dput_nodup hk h.all nd)
theorem dputs_len : ∀ (ps kvs : List (D × D)), (dputs kvs ps).length ≤ kvs.length + ps.length
  | [], kvs => by rw [dputs]; simp
  | (k, v) :: r, kvs => by
    rw [dputs]
    have h1 := dputs_len r (dput kvs k v)
    have h2 := dput_len (k := k) (v := v) kvs
    rw [List.length_cons]
    omega
/-! ### the pairs -/
def ilv : List E → List E → List E
  | k :: ks, v :: vs => k :: v :: ilv ks vs
  | _, _ => []
def flat2 : List (V × V) → List V
  | [] => []
  | (x, y) :: r => x :: y :: flat2 r
section
variable {X : Cx} {cls : Nat → Option Addr} {U : XW} {C : Ctx} {pos : Pos}
def trsOf (X : Cx) (cls : Nat → Option Addr) (U : XW) (C : Ctx) : List E → List E → List (TE × TE)
  | k :: ks, v :: vs => (tD X.K X.w cls U (evE C k), tD X.K X.w cls U (evE C v)) :: trsOf X cls U C ks vs
  | _, _ => []
theorem pps_D : ∀ {ks vs : List Expr} {iks ivs : List E}, Goods X cls U C ks iks → Goods X cls U C vs ivs → ks.length = vs.length → PPs X pos (ks.map some) vs (trsOf X cls U C iks ivs)
  | _, _, _, _, .nil, .nil, _ => pps_nil
  | _, _, _, _, .nil, .cons _ _, h => by simp at h
  | _, _, _, _, .cons _ _, .nil, h => by simp at h
  | _, _, _, _, .cons g t, .cons g2 t2, h => pps_cons g.pe g2.pe (pps_D t t2 (by simpa using h))
theorem tPairs_D : ∀ {iks ivs : List E} {σ : L2.St} {H : Hp} {Q : List V → Hp → Prop}, iks.length = ivs.length → tDs X.K X.w cls U (evEs C (listEs (ilv iks ivs))) σ H Q → tPairs (trsOf X cls U C iks ivs) σ H fun ps H2 => Q (flat2 ps) H2
  | [], [], σ, H, Q, _, h => by
    obtain ⟨W, env, st, he, A, q⟩ := h
    rw [ilv, listEs, evEs] at q
    · exact q [] W H (Ext.refl _ _) A .nil
    · simp
  | [], _ :: _, _, _, _, e, _ => by simp at e
  | _ :: _, [], _, _, _, e, _ => by simp at e
  | k :: iks, v :: ivs, σ, H, Q, e, h => by
    obtain ⟨W, env, st, he, A, q⟩ := h
    rw [ilv, listEs, evEs, listEs] at q
    refine ⟨W, env, st, he, A, (q.bind).mono fun x H1 ⟨W1, st1, dx, x1, A1, r1, q1⟩ => ?_⟩
    rw [evEs, R.bind_assoc] at q1
    refine ⟨W1, env, st1, he.mono x1.le, A1, (q1.bind).mono fun y H2 ⟨W2, st2, dy, x2, A2, r2, q2⟩ => ?_⟩
    refine tPairs_D (Q := fun xs H3 => Q (x :: y :: xs) H3) (by simpa using e) ⟨W2, env, st2, (he.mono x1.le).mono x2.le, A2, ?_⟩
    rw [R.bind_assoc] at q2
    refine (Aft.bind (rel := RepL X.K) q2).mono fun xs H3 ⟨W3, st3, ds, x3, A3, r3, q3⟩ => ?_
    exact q3 (x :: y :: xs) W3 H3 (Ext.refl _ _) A3 (.cons ((r1.mono x2.le).mono x3.le) (.cons (r2.mono x3.le) r3))
/-- the pairs as data -/
inductive RepP (K : PySem.W.Frag) (W : Wd) : List (V × V) → List (D × D) → Prop
  | nil : RepP K W [] []
  | cons {x y : V} {k v : D} {ps : List (V × V)} {kvs : List (D × D)} : Rep K W x k → Rep K W y v → RepP K W ps kvs → RepP K W ((x, y) :: ps) ((k, v) :: kvs)
theorem repP_of {K : PySem.W.Frag} {W : Wd} : ∀ {ps : List (V × V)} {ds : List D} {kvs : List (D × D)}, RepL K W (flat2 ps) ds → pairUp ds = some kvs → RepP K W ps kvs
  | [], _, _, l, e => by
    cases l
    simp [pairUp] at e
    subst e
    exact .nil
  | (x, y) :: ps, _, _, l, e => by
    cases l with
    | cons r1 l =>
      cases l with
      | cons r2 l =>
        rw [pairUp] at e
        obtain ⟨r, e1, e2⟩ := Option.map_eq_some_iff.mp e
        subst e2
        exact .cons r1 r2 (repP_of l e1)
theorem RepP.len {K : PySem.W.Frag} {W : Wd} : ∀ {ps : List (V × V)} {kvs : List (D × D)}, RepP K W ps kvs → ps.length = kvs.length
  | _, _, .nil => rfl
  | _, _, .cons _ _ t => by rw [List.length_cons, List.length_cons, RepP.len t]
theorem RepP.lx {P : Program} {K : PySem.W.Frag} {w : World} {W : Wd} : ∀ {ps : List (V × V)} {ws : List (Value × Value)} {kvs : List (D × D)}, RepP K W ps kvs → VV ps ws → (kvs.all fun p => p.1.isLeaf) = true → ∃ rs, Carries (mixKind P w) ws rs ∧ LX K W rs kvs
  | _, _, _, .nil, r, _ => by cases r; exact ⟨[], True.intro, .nil⟩
  | _, _, _, .cons (x := x) (y := y) (k := k) (v := v) r1 r2 t, r, h => by
    rw [List.all_cons, Bool.and_eq_true] at h
    cases r with
    | @cons a b as bs h2 t2 =>
      obtain ⟨rs, c, l⟩ := RepP.lx (P := P) (w := w) t t2 h.2
      obtain ⟨b1, b2⟩ := b
      have e := ky_rep r1 h.1
      subst e
      exact ⟨(k.ky, b2) :: rs, ⟨kV_is h2.1, rfl, c⟩, .cons h.1 ⟨y, h2.2, r2⟩ l⟩
theorem RepP.kx {pins : List (Addr × Obj)} {σ : L2.St} {H : Hp} {s : Shared} {W : Wd} {st : Store} (I : Inv X pins σ H s) (A : Ag X.K X.w cls W st H) : ∀ {ps : List (V × V)} {ws : List (Value × Value)} {kvs : List (D × D)}, RepP X.K W ps kvs → VV ps ws → (kvs.all fun p => p.1.isTup) = true → (kvs.all fun p => p.1.key 6) = true →
    ∃ rs, CarriesH (nestedKind X.prog X.w) s.heap ws rs ∧ KX X.K W rs kvs
  | _, _, _, .nil, r, _, _ => by cases r; exact ⟨[], True.intro, .nil⟩
  | _, _, _, .cons (x := x) (y := y) (k := k) (v := v) r1 r2 t, r, h, hk => by
    rw [List.all_cons, Bool.and_eq_true] at h hk
    cases r with
    | @cons a b as bs h2 t2 =>
      obtain ⟨rs, c, l⟩ := RepP.kx I A t t2 h.2 hk.2
      obtain ⟨b1, b2⟩ := b
      obtain ⟨ad, rfl⟩ := r1.tup_ref h.1
      have e1 : b1 = .ref ad := h2.1
      exact ⟨(k.nk, ad, b2) :: rs, ⟨e1, rfl, key_is I A r1 hk.1, c⟩, .cons hk.1 h.1 r1 ⟨y, h2.2, r2⟩ l⟩
/-- {} as a new object -/
theorem dic_new {W : Wd} {a : Addr} (hs : (a == sysModules) = false) : DicO X.K X.w W a { cls := .type "dict", data := .dict #[] } [] := ⟨rfl, hs, Nat.zero_le _, #[], 0, ⟨rfl, rfl, rfl⟩, rfl, .nil, List.nodup_nil⟩
theorem _root_.L2.Inv.newDic {pins : List (Addr × Obj)} {σ : L2.St} {H : Hp} {s : Shared} (I : Inv X pins σ H s) : (s.heap.objs.size == sysModules) = false ∧ H s.heap.objs.size = none ∧
    Inv X pins σ (upd H s.heap.objs.size (exactly s.heap.objs.size { cls := .type "dict", data := .dict #[] })) { s with heap := s.heap.push { cls := .type "dict", data := .dict #[] } } := by
  have hg : (s.heap.push { cls := .type "dict", data := .dict #[] }).get? s.heap.objs.size = some { cls := .type "dict", data := .dict #[] } := Heap.get?_push_size _ rfl
  exact ⟨beq_eq_false_iff_ne.mpr (Ne.symm (Nat.ne_of_lt I.big)), I.hok.fresh (Nat.le_refl _), I.laid (t' := s.toks) (fun _ _ q => Heap.get?_push_of_some _ q) (Nat.le_refl _) ⟨hg, ⟨_, hg⟩, fun _ _ p k => k _ p⟩⟩
theorem newDicAg {W : Wd} {H : Hp} {st : Store} {p : Addr} {o : Obj} {kvs : List (D × D)} (A : Ag X.K X.w cls W st H) (hp : H p = none) (d : DicO X.K X.w ⟨W.G, W.ρ ++ [p]⟩ p o kvs) :
    Ag X.K X.w cls ⟨W.G, W.ρ ++ [p]⟩ (st ++ [.dic kvs]) (upd H p (exactly p o)) ∧ Ext W H ⟨W.G, W.ρ ++ [p]⟩ (upd H p (exactly p o)) :=
  A.newObj (H' := upd H p (exactly p o)) hp (fun b u e => by rw [upd_ne (ne_of_none e hp)]; exact e) (by rw [upd_same]; simp) ⟨o, upd_same, d⟩
theorem keysOk_cases {ps : List (D × D)} (h : keysOk ps = true) : (ps.all fun p => p.1.key 6) = true ∧ ((ps.all fun p => p.1.isTup) = true ∨ (ps.all fun p => p.1.isLeaf) = true) := by
  simpa [keysOk, Bool.and_eq_true, Bool.or_eq_true] using h
theorem g_dct (hu : X.A.units + 64 < cLine) {ks vs : List Expr} {iks ivs : List E} (hk : Goods X cls U C ks iks) (hv : Goods X cls U C vs ivs) (hl : ks.length = vs.length) (h15 : ks.length ≤ 15) :
    Good X cls U C (.Dict (ks.map some) vs pos) (.dct (listEs (ilv iks ivs))) := by
  have hlen : ∀ {es : List Expr} {is : List E}, Goods X cls U C es is → es.length = is.length := by
    intro es is g
    induction g with
    | nil => rfl
    | cons _ _ ih => simp [ih]
  refine good_val ⟨fun pins s σ H Q I h => ?_⟩ fun _ => rfl
  obtain ⟨W, env, st, he, A, q⟩ := h
  rw [evE] at q
  obtain ⟨hns, hfr, I1⟩ := I.newDic
  obtain ⟨A1, x1⟩ := newDicAg A hfr (dic_new (X := X) (W := ⟨W.G, W.ρ ++ [s.heap.objs.size]⟩) hns)
  have hρ : (W.ρ ++ [s.heap.objs.size])[st.length]? = some s.heap.objs.size := by
    rw [← A.len, List.getElem?_append_right (Nat.le_refl _)]
    simp
  have q := Aft.shift x1 q
  cases hk with
  | nil =>
    cases hv with
    | cons _ _ => simp at hl
    | nil =>
      rw [ilv, listEs, evEs] at q
      · simp only [R.bind_ok, pairUp, R.of_some] at q
        have e0 : (st ++ [O.dic []])[st.length]? = some (.dic []) := by simp
        rw [e0] at q
        have q : Aft X.K X.w cls U (Rep X.K) ⟨W.G, W.ρ ++ [s.heap.objs.size]⟩ _ (.ok (.ref st.length) ((st ++ [O.dic []]).set st.length (.dic []))) Q := q
        have e1 : (st ++ [O.dic []]).set st.length (.dic []) = st ++ [.dic []] := by simp
        rw [e1] at q
        exact wpAny_Dict_empty ⟨.ref s.heap.objs.size, _, I1, rfl, q.val A1 (.ref hρ)⟩
      · simp
  | @cons k0 ik0 ks iks g0 t0 =>
    have shape := zip_pairTrees ((k0 :: ks).map some) vs X.env pos (by simp) (by simpa using hl)
    have tlen := pairTrees_length ((k0 :: ks).map some) vs X.env pos (by simp) (by simpa using hl)
    rw [List.length_map] at tlen
    have tne : pairTrees ((k0 :: ks).map some) vs X.env pos ≠ [] := fun z => by rw [z] at tlen; simp at tlen
    have tl15 : (pairTrees ((k0 :: ks).map some) vs X.env pos).length ≤ 15 := by omega
    have hil : (ik0 :: iks).length = ivs.length := by rw [← hlen (.cons g0 t0), ← hlen hv]; exact hl
    have pp := pps_D (pos := pos) (.cons g0 t0) hv hl
    rw [arm_eval_Dict, shape, dictDisplay_pairs _ tne (by omega)]
    refine wpAny_bind (wpAny_standAt (wpAny_bind ?_))
    cases e : evEs C (listEs (ilv (ik0 :: iks) ivs)) env (st ++ [O.dic []]) with
    | bad => rw [e] at q; exact q.elim
    | err n ste =>
      rw [e] at q
      refine wpAny_subDictH (knd := nestedKind X.prog X.w) (show X.A.units + 8 < cLine by omega) tl15 (thn (pp.run pins _ σ _ (fun _ _ => False) I1 (tPairs_D (Q := fun _ _ => False) hil ⟨_, env, _, he.mono x1.le, A1, ?_⟩)) fun ws s2 ⟨ps, H2, I2, rv, z⟩ => z.elim)
      rw [e]
      exact q
    | ok xs stx =>
      rw [e] at q
      simp only [R.bind_ok] at q
      cases e2 : pairUp xs with
      | none => rw [e2] at q; exact q.elim
      | some dps =>
        rw [e2] at q
        simp only [R.of_some, R.bind_ok] at q
        cases e3 : stx[st.length]? with
        | none => rw [e3] at q; exact q.elim
        | some ob =>
          rw [e3] at q
          cases ob with
          | dic kvs =>
            cases kvs with
            | cons _ _ => exact q.elim
            | nil =>
              obtain ⟨hb, q⟩ := Aft.test q
              rw [Bool.and_eq_true, decide_eq_true_eq] at hb
              obtain ⟨hko, hk15⟩ := hb
              obtain ⟨hk6, hkind⟩ := keysOk_cases hko
              have hz2 : (dputs [] dps).length ≤ sizeLine := by
                have := dputs_len dps []
                rw [sizeLine_eq]
                simp only [List.length_nil] at this
                omega
              have run := pp.run pins _ σ _ (fun ps H2 => ∃ W2, Ext ⟨W.G, W.ρ ++ [s.heap.objs.size]⟩ (upd H s.heap.objs.size (exactly s.heap.objs.size { cls := .type "dict", data := .dict #[] })) W2 H2 ∧ Ag X.K X.w cls W2 stx H2 ∧ RepL X.K W2 (flat2 ps) xs) I1
                (tPairs_D (Q := fun vs H2 => ∃ W2, Ext ⟨W.G, W.ρ ++ [s.heap.objs.size]⟩ (upd H s.heap.objs.size (exactly s.heap.objs.size { cls := .type "dict", data := .dict #[] })) W2 H2 ∧ Ag X.K X.w cls W2 stx H2 ∧ RepL X.K W2 vs xs) hil ⟨_, env, _, he.mono x1.le, A1, by rw [e]; exact fun b W' H' x' A' l => ⟨W', x', A', l⟩⟩)
              have fin : ∀ (s2 : Shared) (H2 : Hp) (W2 : Wd), Inv X pins σ H2 s2 → Ext ⟨W.G, W.ρ ++ [s.heap.objs.size]⟩ (upd H s.heap.objs.size (exactly s.heap.objs.size { cls := .type "dict", data := .dict #[] })) W2 H2 → Ag X.K X.w cls W2 stx H2 →
                  ∃ o2 ep, s2.heap.get? s.heap.objs.size = some o2 ∧ o2.ExactDict ∧ o2.data = .dict #[] ep ∧
                    ∀ (h' : Heap) (tk : Nat) (o3 : Obj), Heap.SameBut s.heap.objs.size s2.heap h' → h'.get? s.heap.objs.size = some o3 → DicO X.K X.w W2 s.heap.objs.size o3 (dputs [] dps) → EP X pins σ Q (.ref s.heap.objs.size) { s2 with heap := h', toks := tk } := by
                intro s2 H2 W2 I2 x2 A2
                have ha := x2.le.at (i := st.length) hρ
                obtain ⟨o2, hH, on, hns2, hz, es, ep, ex, hdat, hr, hn⟩ := A2.obj _ _ _ e3 ha
                have he : es = #[] := by
                  have := hr.len
                  rw [Array.length_toList, List.length_nil] at this
                  exact Array.eq_empty_of_size_eq_zero this
                subst he
                refine ⟨o2, ep, (I2.hok _ _ hH).1, ex, hdat, fun h' tk o3 sb g1 d3 => ?_⟩
                obtain ⟨A3, x3⟩ := A2.setObj (H' := upd H2 s.heap.objs.size (exactly s.heap.objs.size o3)) (o := .dic (dputs [] dps)) ha (fun b hb => upd_ne hb) ⟨o3, upd_same, d3⟩ (fun _ _ z => by rw [hH] at z; cases z)
                refine ⟨.ref s.heap.objs.size, upd H2 s.heap.objs.size (exactly s.heap.objs.size o3), d_write I2 (by rw [hH]; exact True.intro) sb ⟨o3, g1⟩ ⟨g1, ⟨o3, g1⟩, fun _ _ p k => k _ p⟩, rfl, q _ _ _ (x2.trans x3) A3 (.ref ha)⟩
              rcases hkind with htup | hleaf
              · refine wpAny_subDictH (knd := nestedKind X.prog X.w) (show X.A.units + 8 < cLine by omega) tl15 (thn run fun ws s2 ⟨ps, H2, I2, rv, W2, x2, A2, l⟩ => ?_)
                obtain ⟨o2, ep, g1, g2, g3, k⟩ := fin s2 H2 W2 I2 x2 A2
                obtain ⟨rs, c, kx⟩ := (repP_of l e2).kx I2 A2 rv htup hk6
                refine ⟨rs, c, ⟨o2, #[], ep, g1, g2, g3, rfl, (fun x hx => nomatch hx), List.nodup_nil⟩, fun h' tk dd sb => wpAny_pure ?_⟩
                obtain ⟨o3, es, ep3, d1, d2, d3, d4, d5, d6⟩ := dd
                have kx2 := kx.puts (KX.nil (K := X.K) (W := W2)) List.nodup_nil
                exact k h' tk o3 sb d1 ⟨rfl, hns, hz2, es, ep3, d2, d3, by rw [d4]; exact kx2.repE, by rw [← kx2.keys.1]; exact d6⟩
              · refine wpAny_subDict (knd := mixKind X.prog X.w) tl15 (thn run fun ws s2 ⟨ps, H2, I2, rv, W2, x2, A2, l⟩ => ?_)
                obtain ⟨o2, ep, g1, g2, g3, k⟩ := fin s2 H2 W2 I2 x2 A2
                obtain ⟨rs, c, lx⟩ := (repP_of l e2).lx (P := X.prog) (w := X.w) rv hleaf
                refine ⟨rs, c, ⟨o2, #[], ep, g1, g2, g3, fun x hx => by simp at hx, .nil, List.nodup_nil⟩, fun h' dd sb => wpAny_pure ?_⟩
                obtain ⟨o3, d1, d2⟩ := DicO.fromL dd (lx.puts .nil List.nodup_nil) hns hz2
                exact k h' _ o3 sb d1 d2
          | _ => exact q.elim
end
end EV
/-! EvEn: enumerate of tuples. -/
namespace EV
open PySem PySem.Spec PyProof.Rows L2

set_option maxHeartbeats 1000000 in
theorem meets_enum1 {v : Value} {o : Obj} {Hh : Heap → Prop} (B : Begins v o Hh) :
    Meets (Builtin.«enumerate.__new__» ⟨[.type "enumerate", v], []⟩) (fun _ R s => Hh s.heap ∧
      R (.ok (.ret (.ref (s.heap.push o).objs.size))) { s with heap := (s.heap.push o).push { cls := .type "enumerate", data := .fields #[.none, .bool false, .ref s.heap.objs.size, rawInt 0, .none, .none] } }) :=
  .of_wp fun prog w A R s h => by
    obtain ⟨hp, g, d, tk, os⟩ := s; obtain ⟨h1, h⟩ := h
    have hsub := sub_enumerate
    have q1 : ∀ {A' : Around} {E : Value → Shared → Prop} {Q : Value → Shared → Prop}, Q (.ref hp.objs.size) ⟨hp.push o, g, d, tk, os⟩ → wpAny (model prog w) A' (pyIter v) Q E ⟨hp, g, d, tk, os⟩ :=
      fun q => B.iter prog w _ _ ⟨hp, g, d, tk, os⟩ _ h1 q
    wp_walk using q1
    refine wpAny_stack_any fun st => wpAny_pure ?_
    split
    · rename_i c _ _ _ _ _
      cases (c == Value.type "enumerate")
      · wp_walk using q1
        exact ⟨_, rfl, h⟩
      · wp_walk using q1
        exact ⟨_, rfl, h⟩
    · wp_walk using q1
      exact ⟨_, rfl, h⟩
theorem call_enumT {prog : Program} {w : World} {A : Around} {E : Value → Shared → Prop} {s : Shared} {v : Value} {o : Obj} {Hh : Heap → Prop} {Q : Value → Shared → Prop} (B : Begins v o Hh) (h1 : Hh s.heap)
    (h : ∀ h', IsEnum h' (s.heap.objs.size + 1) s.heap.objs.size 0 .none → h'.get? s.heap.objs.size = some o → (∀ b o, s.heap.get? b = some o → h'.get? b = some o) → Q (.ref (s.heap.objs.size + 1)) { s with heap := h' }) :
    wpAny (model prog w) A (call (.type "enumerate") [v]) Q E s := by
  refine callType_new F.called_enumerate (by decide) (F.typeCall_enumerate_1 _) (F.newCall_enumerate_1 _) (fun obj => F.args_object_init_2 obj _) F.entry_enumerate_new (meets_enum1 B) ⟨h1, ?_⟩
  have hz : (s.heap.push o).objs.size = s.heap.objs.size + 1 := Heap.size_push ..
  show _ ∧ _
  rw [hz]
  have he : IsEnum ((s.heap.push o).push { cls := .type "enumerate", data := .fields #[.none, .bool false, .ref s.heap.objs.size, rawInt 0, .none, .none] }) (s.heap.objs.size + 1) s.heap.objs.size 0 .none := by
    have := Heap.get?_push_size (s.heap.push o) (o := { cls := .type "enumerate", data := .fields #[.none, .bool false, .ref s.heap.objs.size, rawInt 0, .none, .none] }) rfl
    rw [hz] at this; exact this
  exact ⟨⟨_, he, rfl⟩, h _ he (Heap.get?_push_of_some _ (Heap.get?_push_size _ B.free)) fun b o x => Heap.get?_push_of_some _ (Heap.get?_push_of_some _ x)⟩
/-- the tuple at a, each item in a new pair -/
def IteT (K : PySem.W.Frag) (a : Addr) : L2.It :=
  ⟨fun i H => ∃ (xs : List V) (x : V), SqT K H a xs ∧ xs[i]? = some x, fun i H v H' => ∃ T x, v = .ref T ∧ H T = none ∧ H' = upd H T (.tup [.int (i : Nat), x]) ∧ ∀ xs, SqT K H a xs → xs[i]? = some x, fun i H => ∃ xs : List V, SqT K H a xs ∧ xs.length = i⟩
theorem turn_enumT {P : Program} {w : World} {K : PySem.W.Frag} {elts : List Expr} {kk : Nat} {tpos : Pos} (a e it : Addr) :
    Turn P w K (.Tuple elts kk tpos) (IteT K a) [e, it] e (fun i h => (∃ old, IsEnum h e it ((i : Nat) : Int) old) ∧ h.IsTupleIter it a i ∧ e ≠ it ∧ a ≠ it ∧ e ≠ a) where
  mem := by simp
  obj := fun i h st b hb => by
    obtain ⟨⟨old, he⟩, ⟨o, ho, hc, hd⟩, _⟩ := st
    have e' : b = e ∨ b = it := by simpa using hb
    rcases e' with z | z
    · rw [z]; exact ⟨_, he, fun v q => nomatch q⟩
    · rw [z]; exact ⟨o, ho, fun v q => by rw [hd] at q; cases q⟩
  keep := fun i h h' st k => let ⟨⟨old, he⟩, hi, hne⟩ := st; ⟨⟨old, k e (by simp) _ he⟩, hi.at fun o q => k it (by simp) o q, hne⟩
  item := by
    intro X hP hw hK hc i pins s σ H E I hf st hg
    subst hP hw hK
    obtain ⟨⟨old, he⟩, hit, hne, hai, hea⟩ := st
    obtain ⟨xs, x, hq, hx⟩ := hg
    obtain ⟨its, rv, p, hz⟩ := I.tuple hq
    obtain ⟨u, hu, ru⟩ := rv.get hx
    have hil : i < its.toArray.size := by rw [List.size_toArray]; exact (List.getElem?_eq_some_iff.mp hu).1
    have hel : e < s.heap.objs.size := Heap.lt_size he
    have hitl : it < s.heap.objs.size := by obtain ⟨_, q, _⟩ := hit; exact Heap.lt_size q
    have hT0 : s.heap.IsTuple a its.toArray := by obtain ⟨o, h1, h2, n, h3⟩ := p; exact ⟨o, h1, h2, n, h3⟩
    refine wpAny_pyNext_enum_itemD (Draws.tuple (A := X.A.in1) (show X.A.in1.handled = none from I.ok.hd hc) it a hai its.toArray) he ⟨hit, hT0⟩ hil hne (by simp [hne, hea]) fun y h' tk hy ho hst hT hsz hk => ?_
    have hyu : y = u := by
      have hy : its.toArray[i]? = some y := hy
      rw [List.getElem?_toArray, hu] at hy
      exact (Option.some.inj hy).symm
    subst hyu
    refine ⟨_, rfl, wpAny_letOwnedTupleGo_enum (s := { s with heap := h', toks := tk + 1 }) ho fun h'' he' sb => ?_⟩
    have hT2 : h''.get? s.heap.objs.size = some { cls := .type "tuple", data := .seq #[.int i tk, y] } := (sb.2 _ (Nat.ne_of_gt hel)).trans hT
    have new : ObjOk X.prog X.w (upd H s.heap.objs.size (.tup [.int (i : Nat), x])) h'' s.heap.objs.size (.tup [.int (i : Nat), x]) :=
      ⟨by show 2 ≤ sizeLine; decide, [.int i tk, y], .cons ⟨_, rfl⟩ (.cons ru .nil), ⟨_, hT2, rfl, _, rfl⟩⟩
    have I1 : Inv X pins σ (upd H s.heap.objs.size (.tup [.int (i : Nat), x])) { s with heap := h'', toks := tk + 1 } :=
      I.turnedNew (ch := [e, it]) (fun b ob hb q => (sb.2 b (fun z => hb (by simp [z]))).trans (hk b ob (fun z => hb (by simp [z])) (fun z => hb (by simp [z])) q)) hf (Nat.le_refl _) new
    refine ⟨.ref s.heap.objs.size, _, I1, rfl, ⟨_, x, rfl, I.hok.fresh (Nat.le_refl _), rfl, fun ys hy => by rw [I.tuple_inj hy hq]; exact hx⟩, ⟨⟨y, ?_⟩, hst.1.at fun o q => (sb.2 it (Ne.symm hne)).trans q, hne, hai, hea⟩, fun b hb => ?_⟩
    · have e1 : ((i + 1 : Nat) : Int) = (i : Int) + 1 := by omega
      rw [e1]; exact he'
    · have hb' : b < s.heap.objs.size := by
        have e' : b = e ∨ b = it := by simpa using hb
        rcases e' with z | z
        · rw [z]; exact hel
        · rw [z]; exact hitl
      rw [upd_ne (Nat.ne_of_lt hb')]
      exact (hf b hb).1
  done := by
    intro X hP hw hK hc i pins s σ H E I hf st hg
    subst hP hw hK
    obtain ⟨⟨old, he⟩, hit, hne, hai, hea⟩ := st
    obtain ⟨xs, hq, hx⟩ := hg
    obtain ⟨its, rv, p, hz⟩ := I.tuple hq
    obtain ⟨f0, f1, f2, f3, f4, f5⟩ := hf it (by simp)
    have hl : its.toArray.size = i := by rw [List.size_toArray, ← rv.length]; exact hx
    have hT0 : s.heap.IsTuple a its.toArray := by obtain ⟨o, h1, h2, n, h3⟩ := p; exact ⟨o, h1, h2, n, h3⟩
    exact wpAny_pyNext_enum_endD (Draws.tuple (A := X.A.in1) (show X.A.in1.handled = none from I.ok.hd hc) it a hai its.toArray) he ⟨by rw [hl]; exact hit, hT0⟩ fun h' eb => ⟨rfl, I.turned (t' := s.toks) (fun b o hb q => eb b o hb q) f0 f1 f3 f4 f5⟩
  self := fun A i s Q E st h => let ⟨⟨_, he⟩, _⟩ := st; wpAny_pyIter_enum he h
theorem pi_enumT {X : Cx} {e : Expr} {ta : TA} {p pos tpos : Pos} {elts : List Expr} {kk : Nat} (hg : Gl X "enumerate") (hm : X.mg "enumerate" = none) (ha : PA X [e] ta) (hs : starEach [e] X.env = [(false, eval e X.env)]) :
    PI X (.Tuple elts kk tpos) (.Call (.Name "enumerate" p) [e] [] pos) (fun σ H R => ta σ H fun vs H1 => ∃ a xs, vs = [.ref a] ∧ SqT X.K H1 a xs ∧ R (IteT X.K a) H1) := by
  refine ⟨fun pins s σ H R I h => ?_⟩
  refine Call_ (ld_blt I hg hm boot_enumerate (PyProof.Rows.callWith_type1 (thn (ha.run pos pins s σ H _ I h) fun us s1 ⟨vs, H1, I1, r1, q1⟩ => ?_) hs rfl))
  obtain ⟨a, xs, ex, hq, q⟩ := q1
  subst ex
  cases r1 with
  | cons r rr =>
    cases rr
    cases r
    obtain ⟨its, rv, p', hz⟩ := I1.tuple hq
    have hT0 : s1.heap.IsTuple a its.toArray := by obtain ⟨o, h1, h2, n, h3⟩ := p'; exact ⟨o, h1, h2, n, h3⟩
    have hal : a < s1.heap.objs.size := by obtain ⟨o, h1, _⟩ := hT0; exact Heap.lt_size h1
    refine call_enumT (begins_tuple a its.toArray) hT0 fun h' he hit hk => wpAny_pyIter_enum he ?_
    have I2 : Inv X pins σ H1 { s1 with heap := h' } := I1.kept (t' := s1.toks) hk
    refine ⟨s1.heap.objs.size + 1, [s1.heap.objs.size + 1, s1.heap.objs.size], _, _, H1, rfl, I2, turn_enumT a (s1.heap.objs.size + 1) s1.heap.objs.size, ⟨⟨.none, he⟩, ⟨_, hit, rfl, rfl⟩, Nat.succ_ne_self _, Nat.ne_of_lt hal, Nat.ne_of_gt (Nat.lt_succ_of_lt hal)⟩, fun b hb => ?_, q⟩
    have e' : b = s1.heap.objs.size + 1 ∨ b = s1.heap.objs.size := by simpa using hb
    have hle : s1.heap.objs.size ≤ b := by
      rcases e' with z | z
      · rw [z]; exact Nat.le_add_right _ _
      · rw [z]; exact Nat.le_refl _
    exact I1.fpOk hle (I1.hok.fresh hle)
section
variable {X : Cx} {cls : Nat → Option Addr} {U : XW} {C : Ctx} {a b c tg : Expr} {i j k : E} {pos : Pos}
theorem enumL_get : ∀ {xs : List D} {k0 : Int} {n : Nat} {d : D}, (enumL k0 xs)[n]? = some d → ∃ x, xs[n]? = some x ∧ d = .tup [.int (k0 + n), x]
  | [], _, _, _, h => by simp [enumL] at h
  | x :: xs, k0, 0, d, h => by
    simp [enumL] at h
    exact ⟨x, rfl, by rw [← h]; simp⟩
  | x :: xs, k0, n + 1, d, h => by
    rw [enumL, List.getElem?_cons_succ] at h
    obtain ⟨y, h1, h2⟩ := enumL_get h
    refine ⟨y, by simpa using h1, ?_⟩
    rw [h2]
    have e : k0 + 1 + (n : Int) = k0 + ((n + 1 : Nat) : Int) := by omega
    rw [e]
theorem enumL_len : ∀ (xs : List D) (k0 : Int), (enumL k0 xs).length = xs.length
  | [], _ => rfl
  | x :: xs, k0 => by rw [enumL, List.length_cons, List.length_cons, enumL_len xs]
/-- for i, x in enumerate(a tuple) -/
theorem gi_enum {p tpos : Pos} {elts : List Expr} {kk : Nat} (h : Good X cls U C a i) (hg : Gl X "enumerate") (hm : X.mg "enumerate" = none) (hs : noStar a = true) :
    PI X (.Tuple elts kk tpos) (.Call (.Name "enumerate" p) [a] [] pos) (tDI X.K X.w cls U true (evI C (.enum i))) := by
  refine PI.mono (PI.or (pi_enumT hg hm (pa_cons h.pe pa_nil (starEach_no hs)) (starEach_no hs)) (pi_enum hg hm (pa_cons h.pe pa_nil (starEach_no hs)) (starEach_no hs))) fun σ H Q q => ?_
  obtain ⟨W, env, st, he, A, _, q⟩ := q
  rw [evI] at q
  cases e : evE C i env st with
  | bad => rw [e] at q; exact q.elim
  | err k st' =>
    rw [e] at q
    exact .inl ⟨W, env, st, he, A, by rw [e]; exact q⟩
  | ok d st1 =>
    rw [e] at q
    cases d with
    | tup ds =>
      refine .inl ⟨W, env, st, he, A, ?_⟩
      rw [e]
      intro v W1 H1 x1 A1 r1
      obtain ⟨ad, us, xs, rfl, g, z, l⟩ := r1.tup_inv
      refine ⟨ad, xs, rfl, SqT_ft (A1.sub _ _ g), ?_⟩
      have q1 : Aft X.K X.w cls U (fun W' (J : L2.It) p => p.1.length ≤ sizeLine ∧ WalkD X.K X.w cls W' J p.1 p.2 true) W H (.ok (enumL 0 ds, .no) st1) Q := q
      refine q1 _ W1 H1 x1 A1 ⟨by rw [enumL_len]; exact z, fun W2 st2 H2 le A2 _ _ => ?_⟩
      have hq : SqT X.K H2 ad xs := SqT_ft (A2.sub _ _ (le.g _ _ g))
      refine ⟨fun n d hn => ?_, ⟨xs, hq, by rw [enumL_len]; exact l.length⟩⟩
      obtain ⟨dx, h1, rfl⟩ := enumL_get hn
      obtain ⟨y, h2, h3⟩ := l.get h1
      refine ⟨⟨xs, y, hq, h2⟩, fun v H' hy => ⟨.inr ?_, fun z => by cases z⟩⟩
      obtain ⟨T, x, rfl, hT, rfl, hx2⟩ := hy
      have hx2 := hx2 xs hq
      rw [h2] at hx2
      cases hx2
      exact ⟨T, _, _, _, _, rfl, hT, rfl, rfl, by rw [Int.zero_add]; exact .int _, h3.mono le⟩
    | lst ds =>
      refine .inr ⟨W, env, st, he, A, ?_⟩
      rw [e]
      intro v W1 H1 x1 A1 r1
      obtain ⟨ad, xs, rfl, g, z, l⟩ := r1.lst_inv
      refine ⟨ad, xs, rfl, SqL.of (A1.sub _ _ g), ?_⟩
      have q1 : Aft X.K X.w cls U (fun W' (J : L2.It) p => p.1.length ≤ sizeLine ∧ WalkD X.K X.w cls W' J p.1 p.2 true) W H (.ok (enumL 0 ds, .no) st1) Q := q
      refine q1 _ W1 H1 x1 A1 ⟨by rw [enumL_len]; exact z, fun W2 st2 H2 le A2 _ _ => ?_⟩
      have hq : SqL X.K H2 ad xs := SqL.of (A2.sub _ _ (le.g _ _ g))
      refine ⟨fun n d hn => ?_, ⟨xs, hq, by rw [enumL_len, l.length]; exact Nat.le_refl _⟩⟩
      obtain ⟨dx, h1, rfl⟩ := enumL_get hn
      obtain ⟨y, h2, h3⟩ := l.get h1
      refine ⟨⟨xs, y, hq, h2⟩, fun v H' hy => ⟨.inr ?_, fun z => by cases z⟩⟩
      obtain ⟨T, x, rfl, hT, rfl, hx2⟩ := hy
      have hx2 := hx2 xs hq
      rw [h2] at hx2
      cases hx2
      exact ⟨T, _, _, _, _, rfl, hT, rfl, rfl, by rw [Int.zero_add]; exact .int _, h3.mono le⟩
    | _ => exact q.elim
end
end EV
/-! EvT8: the statement d[k] = v. (under way) -/
namespace EV
open PySem PySem.Spec PyProof.Rows L2

theorem s_put {X : Cx} {cls : Nat → Option Addr} {U : XW} {C : Ctx} {a b c : Expr} {i j k : E} {p2 pos : Pos} (hu : X.A.units + 64 < cLine) (ha : Good X cls U C a i) (hb : Good X cls U C b j) (hc : Good X cls U C c k) (hn : notSlice b = true) (hs : notComp c = true) :
    GoodS X cls U C (.Assign [.Subscript a b p2] c pos) (.put i j k) := by
  refine PS.mono (ps_asg hc.pe (pg_sub ha.pe hb.pe (t_put (cls := cls) hu) (fun v => by cases b <;> first | rfl | (simp [notSlice] at hn))) (by rw [swapsWithSole]; exact noswap hs) (by cases c <;> rfl) rfl) fun D σ H h => ?_
  obtain ⟨W, env, st, he, A, q⟩ := h
  rw [evS] at q
  refine ⟨W, env, st, he, A, (q.bind).mono fun v H1 ⟨W1, st1, d, x1, A1, r1, q1⟩ => ?_⟩
  refine ⟨W1, env, st1, he.mono x1.le, A1, (q1.bind).mono fun o H2 ⟨W2, st2, d2, x2, A2, r2, q2⟩ => ?_⟩
  refine ⟨W2, env, st2, (he.mono x1.le).mono x2.le, A2, (q2.bind).mono fun y H3 ⟨W3, st3, d3, x3, A3, r3, q3⟩ => ?_⟩
  cases d2 with
  | ref n =>
    cases e : st3[n]? with
    | none => simp only [e] at q3; exact q3.elim
    | some ob =>
      cases ob with
      | dic kvs =>
        simp only [e] at q3
        obtain ⟨hb, q3⟩ := AftS.test q3
        rw [Bool.and_eq_true, decide_eq_true_eq] at hb
        exact ⟨W3, st3, n, d3, d, kvs, A3, r2.mono x3.le, r3, (r1.mono x2.le).mono x3.le, e, hb.1, hb.2, fun W' H' x' A' => q3 σ W' H' x' A' ((((he.mono x1.le).mono x2.le).mono x3.le).mono x'.le)⟩
      | _ => simp only [e] at q3; exact q3.elim
  | _ => exact q3.elim
end EV
/-! EvIt: sorted(d.items()). -/
namespace EV
open PySem PySem.Spec PyProof.Rows L2

section
variable {X : Cx} {cls : Nat → Option Addr} {U : XW} {C : Ctx} {a b c : Expr} {i j k : E} {pos : Pos}
theorem pe_items {apos cpos : Pos} (ho : Good X cls U C a i) (hb : notSup a = true) (hline : (apos.endLine == cpos.line) = true) :
    PE X (.Call (.Attribute a "items" apos) [] [] cpos) (fun σ H Q => ∃ W env st, EnvOk X.K W σ env ∧ Ag X.K X.w cls W st H ∧ Aft X.K X.w cls U (Rep X.K) W H (evE C i env st) fun x H1 => ∃ W1 st1 n kvs, Ag X.K X.w cls W1 st1 H1 ∧ Rep X.K W1 x (.ref n) ∧ DicAt st1 n kvs ∧ ∀ p a, x = .ref a → H1 p = none → Q (.ref p) (upd H1 p (L2.DX.itemsO p a))) := by
  refine ⟨fun pins s σ H Q I h => ?_⟩
  have h0 := ho.pe.run pins s σ H _ I h
  refine wpAny_Call_method_late (notSup_base hb) (few_args (es := []) rfl (by decide)) hline rfl (thn h0 fun v s1 ⟨x, H1, I1, r1, W1, st1, n, kvs, A1, rx, hd, q1⟩ => ?_)
  have hk : (D.ref n).kd st1 = some .dic := by
    rcases hd with e | e
    · simp [D.kd, e]
    · simp [D.kd, e]
  obtain ⟨h1, h2⟩ := rx.ty I1 A1 hk (.inr (.inr (.inr rfl))) r1
  refine ⟨"dict", "dict.items", F.plainAttrs_dict, F.slot_dict_items, F.type_dict_items, h1, h2, ?_⟩
  refine Calls.callWith_builtin (plain_args (es := []) rfl) ?_
  exact PySem.evalArgs_none (t_items (cls := cls) pins s1 σ H1 x [] v [] Q I1 r1 .nil ⟨W1, st1, n, kvs, A1, rx, rfl, hd, q1⟩)
theorem g_srtI {p apos cpos : Pos} (hc : X.calm = true) (hu : X.A.units + 64 < cLine) (ho : Good X cls U C a i) (hb : notSup a = true) (hline : (apos.endLine == cpos.line) = true) (hg : Gl X "sorted") (hm : X.mg "sorted" = none) :
    Good X cls U C (.Call (.Name "sorted" p) [.Call (.Attribute a "items" apos) [] [] cpos] [] pos) (.blt .srtI (.cons i .nil)) := by
  refine good_val (PE.mono (pe_callB (sort_items (cls := cls) (U := U) hc hu) hg hm (by decide +kernel) (pa_cons (pe_items ho hb hline) pa_nil rfl) (by decide) (by decide) rfl rfl) fun σ H Q h => ?_) fun _ => rfl
  obtain ⟨W, env, st, he, A, q⟩ := h
  rw [evE, evEs, R.bind_assoc] at q
  refine ⟨W, env, st, he, A, (q.bind).mono fun x H1 ⟨W1, st1, d, x1, A1, r1, q1⟩ => ?_⟩
  rw [evEs] at q1
  simp only [R.bind_ok] at q1
  cases d with
  | ref n =>
    cases e : st1[n]? with
    | none => simp only [bltD, e] at q1; exact q1.elim
    | some ob =>
      cases ob with
      | dic kvs => exact ⟨W1, st1, n, kvs, A1, r1, .inl e, fun p a ex hp => by
          obtain ⟨a2, e2, ha⟩ := r1.ref_inv
          rw [ex] at e2
          cases e2
          obtain ⟨f1, f2⟩ := A1.fresh hp
          exact ⟨W1, st1, n, kvs, p, a, rfl, upd_same, A1.aside f1 f2, ha, .inl e, Aft.shift ((Ext.refl W1 H1).aside hp) q1⟩⟩
      | lck kvs => exact ⟨W1, st1, n, kvs, A1, r1, .inr e, fun p a ex hp => by
          obtain ⟨a2, e2, ha⟩ := r1.ref_inv
          rw [ex] at e2
          cases e2
          obtain ⟨f1, f2⟩ := A1.fresh hp
          exact ⟨W1, st1, n, kvs, p, a, rfl, upd_same, A1.aside f1 f2, ha, .inr e, Aft.shift ((Ext.refl W1 H1).aside hp) q1⟩⟩
      | _ => simp only [bltD, e] at q1; exact q1.elim
  | _ => simp only [bltD] at q1; exact q1.elim
end
end EV
/-! EvM: a def keeps its promise. -/
namespace EV
open PySem PySem.Spec PyProof.Rows L2

section
variable {K : PySem.W.Frag} {w : World} {cls : Nat → Option Addr} {W W' : Wd} {H H' : Hp} {st st' : Store} {n : Nat}
theorem RepF.cut : ∀ {vs : List (Str × V)} {ds : List (Str × D)}, RepF K W vs ds → lowFs n ds = true → RepF K ⟨W.G, W.ρ.take n⟩ vs ds
  | _, _, .nil, _ => .nil
  | _, _, .cons h t, e => by
    rw [lowFs, Bool.and_eq_true] at e
    exact .cons (h.cut e.1) (RepF.cut t e.2)
theorem RepF.low : ∀ {vs : List (Str × V)} {ds : List (Str × D)}, RepF K W vs ds → lowFs W.ρ.length ds = true
  | _, _, .nil => rfl
  | _, _, .cons h t => by rw [lowFs, h.low, RepF.low t]; rfl
theorem RepE.cut : ∀ {es : List DictEntry} {kvs : List (D × D)}, RepE K w W es kvs → lowKv n kvs = true → RepE K w ⟨W.G, W.ρ.take n⟩ es kvs
  | _, _, .nil, _ => .nil
  | _, _, .cons hk ⟨k, rk, qk⟩ hh ⟨v, rv, qv⟩ t, e => by
    rw [lowKv, Bool.and_eq_true, Bool.and_eq_true] at e
    exact .cons hk ⟨k, rk, qk.cut e.1⟩ hh ⟨v, rv, qv.cut e.2.1⟩ (RepE.cut t e.2.2)
theorem RepE.low : ∀ {es : List DictEntry} {kvs : List (D × D)}, RepE K w W es kvs → lowKv W.ρ.length kvs = true
  | _, _, .nil => rfl
  | _, _, .cons hk ⟨k, rk, qk⟩ hh ⟨v, rv, qv⟩ t => by rw [lowKv, qk.low, qv.low, RepE.low t]; rfl
theorem OAt.cut {a : Addr} {o : O} (h : OAt K w cls W H a o) (e : o.low n = true) : OAt K w cls ⟨W.G, W.ρ.take n⟩ H a o := by
  cases o with
  | lst ds => obtain ⟨xs, h1, h2, h3⟩ := h; exact ⟨xs, h1, h2.cut e, h3⟩
  | dic kvs => obtain ⟨o, h1, on, h2, h3, es, ep, h4, h5, h6, h7⟩ := h; exact ⟨o, h1, on, h2, h3, es, ep, h4, h5, h6.cut e, h7⟩
  | lck kvs => obtain ⟨o, od, h1, on, h2, h3, es, ep, h4, h5, h6, h7⟩ := h; exact ⟨o, od, h1, on, h2, h3, es, ep, h4, h5, h6.cut e, h7⟩
  | ins c fs => obtain ⟨C, dx, vs, h1, h2, h3⟩ := h; exact ⟨C, dx, vs, h1, h2, h3.cut e⟩
theorem OAt.low {a : Addr} {o : O} (h : OAt K w cls W H a o) : o.low W.ρ.length = true := by
  cases o with
  | lst ds => obtain ⟨xs, h1, h2, h3⟩ := h; exact h2.low
  | dic kvs => obtain ⟨o, h1, on, h2, h3, es, ep, h4, h5, h6, h7⟩ := h; exact h6.low
  | lck kvs => obtain ⟨o, od, h1, on, h2, h3, es, ep, h4, h5, h6, h7⟩ := h; exact h6.low
  | ins c fs => obtain ⟨C, dx, vs, h1, h2, h3⟩ := h; exact h3.low
theorem lowO_of : ∀ {l : List O}, (∀ o ∈ l, o.low n = true) → lowO n l = true
  | [], _ => rfl
  | o :: r, h => by rw [lowO, h o (by simp), lowO_of fun x hx => h x (by simp [hx])]; rfl
theorem of_lowO : ∀ {l : List O}, lowO n l = true → ∀ o ∈ l, o.low n = true
  | [], _, o, ho => by simp at ho
  | p :: r, h, o, ho => by
    rw [lowO, Bool.and_eq_true] at h
    rcases List.mem_cons.mp ho with rfl | z
    · exact h.1
    · exact of_lowO h.2 o z
theorem Ag.low (A : Ag K w cls W st H) : lowO st.length st = true := lowO_of fun o ho => by
  obtain ⟨i, hi, e⟩ := List.getElem_of_mem ho
  have hl : i < W.ρ.length := by rw [A.len]; exact hi
  rw [← A.len]
  exact (A.obj i o _ (by rw [List.getElem?_eq_getElem hi, e]) (List.getElem?_eq_getElem hl)).low
theorem Ag.cut (A : Ag K w cls W st H) (hl : lowO n (st.take n) = true) : Ag K w cls ⟨W.G, W.ρ.take n⟩ (st.take n) H := by
  refine ⟨A.sub, by rw [List.length_take, List.length_take, A.len], A.nd.sublist (List.take_sublist _ _), fun a ha => A.out a (List.mem_of_mem_take ha), fun i o a h1 h2 => ?_⟩
  have ho : o ∈ st.take n := List.mem_of_getElem? h1
  rw [List.getElem?_take] at h1 h2
  split at h1
  · rename_i hi
    rw [if_pos hi] at h2
    exact (A.obj i o a h1 h2).cut (of_lowO hl o ho)
  · cases h1
theorem Ext.cut (x : Ext W H W' H') (hn : W.ρ.length = n) : Ext W H ⟨W'.G, W'.ρ.take n⟩ H' := by
  refine ⟨x.g, ⟨[], ?_, by simp⟩, x.fr, x.dom, x.gn, x.fz⟩
  obtain ⟨more, e, _⟩ := x.r
  rw [e, List.append_nil, ← hn]
  simp
theorem keepN_low (A : Ag K w cls W st H) (h : keepN st.length st st' = true) : lowO st.length (st'.take st.length) = true := by
  rw [keepN, Bool.or_eq_true] at h
  rcases h with h | h
  · rw [of_sameO _ _ h]
    exact A.low
  · exact h
/-- behind a body -/
theorem back_ok {U : XW} {r : R Fl} {Q : VK} (A : Ag K w cls W st H) (q : Aft K w cls U (Rep K) W H (backR st r) Q) : AftS K w cls U W H r { nx := fun _ H' => Q .non H', rt := Q } := by
  have val : ∀ v st', Aft K w cls U (Rep K) W H (backV st v st') Q → ∀ x W' H', Ext W H W' H' → Ag K w cls W' st' H' → Rep K W' x v → Q x H' := by
    intro v st' q x W' H' e A' r
    rw [backV] at q
    split at q
    · rename_i hb
      rw [Bool.and_eq_true] at hb
      exact q x _ H' (e.cut A.len) (A'.cut (keepN_low A hb.2)) (r.cut hb.1)
    · exact q x W' H' e A' r
  cases r with
  | ok f st' =>
    cases f with
    | rt v => exact val v st' q
    | nx env => exact fun σ W' H' e A' he => val .non st' q .non W' H' e A' .non
    | bk env => exact q.elim
    | ct env => exact q.elim
  | err k st' =>
    intro W' H' e A'
    have q : Aft K w cls U (Rep K) W H (backX st k st') Q := q
    rw [backX] at q
    split at q
    · rename_i hb
      exact q _ H' (e.cut A.len) (A'.cut (keepN_low A hb))
    · exact q W' H' e A'
  | bad => exact q
theorem env_start {N : List Str} {vs : List V} {ds : List D} (r : RepL K W vs ds) : EnvOk K W (L2.start N vs) (ds.map some ++ List.replicate (N.length - ds.length) none) := by
  refine ⟨by simp [L2.start, r.length], fun i d e => ?_⟩
  rw [L2.start]
  by_cases hi : i < ds.length
  · rw [List.getElem?_append_left (by simpa using hi), List.getElem?_map] at e
    cases e2 : ds[i]? with
    | none => rw [e2] at e; cases e
    | some d2 =>
      rw [e2] at e
      cases e
      obtain ⟨x, h1, h2⟩ := r.get e2
      refine ⟨x, ?_, h2⟩
      rw [List.getElem?_append_left (by rw [List.length_map, r.length]; exact hi), List.getElem?_map, h1]
      rfl
  · rw [List.getElem?_append_right (by simpa using hi), List.getElem?_replicate] at e
    split at e <;> cases e
end
/-- THE RULE of a def -/
theorem fn_D {P : Program} {w : World} {K : PySem.W.Frag} {mg : Str → Option Value} {base : Heap} {cls : Nat → Option Addr} {xa : Nat → Addr} {x qual : Str} {params : Arguments} {body : List Stmt} {scope : Scope} {dvs : List V} {kws : List (Str × V)} {f : Addr} {fd : FuncData} {N ps : List Str} {n : Nat} {C : Ctx} {d : FDef}
    (F : FunD K x qual params body scope dvs kws f fd) (S : FnScope N ps scope) (hp : d.np = ps.length) (hs : d.ns = N.length)
    (hb : ∀ (cdv : Value) (A : Around) (outer : List PySem.Env) (s : Shared) (H : Hp) (E : XK), Room n (A.deeper (envOfC qual scope s.heap.objs.size f cdv)) →
      GoodSs (cxOf (L2.CX P w) P w K mg base N qual scope f cdv A outer s H E) cls (fun k H => E (.ref (xa k)) none H) C body d.body) :
    FnOk P w K mg base (L2.CX P w) (n + 1) f fd ps (spD K w cls xa (d.run C)) := by
  refine F.ok S (fun vs H Q E h => ?_) fun cdv A outer s H vs Q E hr h => ?_
  · obtain ⟨W, st, ds, A, r, q⟩ := h
    rw [FDef.run] at q
    split at q
    · rename_i e
      rw [r.length, e, hp]
    · exact q.elim
  · obtain ⟨W, st, ds, Ag, r, q⟩ := h
    rw [FDef.run] at q
    split at q
    · rename_i e
      refine ⟨_, hb cdv A outer s H E hr, W, _, st, env_start r, Ag, ?_⟩
      rw [hs, ← e] at q
      exact back_ok Ag q
    · exact q.elim
end EV
/-! EvN: from the model's syntax to the small language: expressions. -/
namespace EV
open PySem PySem.Spec PyProof.Rows L2

def mapO {α β : Type} (f : α → Option β) : List α → Option (List β)
  | [] => some []
  | x :: xs => match f x, mapO f xs with
    | some y, some ys => some (y :: ys)
    | _, _ => none
def guardO {α : Type} (b : Bool) (x : Option α) : Option α := match b with
  | true => x
  | false => none
theorem guardO_some {α : Type} {b : Bool} {x : Option α} {y : α} (h : guardO b x = some y) : b = true ∧ x = some y := by
  cases b with
  | true => exact ⟨rfl, h⟩
  | false => cases h
/-- what is known ahead: the slots' names, own defs by name, the names of built-in things that are not bound -/
structure Tab where
  N : List Str
  fn : List (Str × Nat)
  free : List Str
  nums : List (Str × Int)
  dk : List Str
structure TabOk (X : Cx) (cls : Nat → Option Addr) (xa : Nat → Addr) (C : Ctx) (T : Tab) : Prop where
  N : X.N = T.N
  nd : X.N.Nodup
  hu : X.A.units + 64 < cLine
  calm : X.calm = true
  lib : ∀ X' : Cx, X'.calm = true → X'.A.units + 64 < cLine → Lib X' cls
  fns : ∀ x f, T.fn.lookup x = some f → ∃ n fa fd ps, FnOk X.prog X.w X.K X.mg X.base (L2.CX X.prog X.w) n fa fd ps (spD X.K X.w cls xa (C.call f)) ∧ Room n X.A ∧ X.mg x = some (.ref fa) ∧ PySem.W.keepIn X.K (.ref fa) = true ∧ Binds X.K fd ps []
  free : ∀ x, T.free.contains x = true → X.mg x = none
  nums : ∀ x i, T.nums.lookup x = some i → ∃ t, X.mg x = some (.int i t)
structure Pre (X : Cx) (cls : Nat → Option Addr) (xa : Nat → Addr) (U : XW) (C : Ctx) (T : Tab) (sc : Scope) : Prop where
  tb : TabOk X cls xa C T
  sc : X.env.scope = sc
  tk : Takes X (fun c d _ H => wU xa U c d H)
abbrev Rec := Scope → Expr → Option E
def RecOk (cls : Nat → Option Addr) (xa : Nat → Addr) (C : Ctx) (T : Tab) (rec : Rec) : Prop := ∀ X U sc e i, Pre X cls xa U C T sc → rec sc e = some i → Good X cls U C e i
/-- a comprehension's scope as it runs -/
def relS (scope sc : Scope) : Scope := relabel scope (envOfC "" sc 0 0 .none)
/-! ### names -/
def nmC (N : List Str) (sc : Scope) (fnb : Str → Bool) (x : Str) : Option Nat :=
  guardO (decide (N[N.idxOf x]? = some x) && (decide (sc.names.lookup x = some .local) || (decide (sc.names.lookup x = some .cell) && fnb x))) (some (N.idxOf x))
def nmsC (N : List Str) (sc : Scope) (fnb : Str → Bool) : List Expr → Option (List Nat)
  | [] => some []
  | .Name x _ :: es => match nmC N sc fnb x, nmsC N sc fnb es with
    | some i, some is => some (i :: is)
    | _, _ => none
  | _ => none
def tgC (N : List Str) (sc : Scope) (fnb : Str → Bool) : Expr → Option Tg
  | .Name x _ => (nmC N sc fnb x).map .one
  | .Tuple es _ _ => (nmsC N sc fnb es).map .many
  | _ => none
def visC (sc : Scope) (x : Str) : Bool := decide (sc.names.lookup x = some .local) || decide (sc.names.lookup x = some .cell) || decide (sc.names.lookup x = some .free)
def glC (sc : Scope) (x : Str) : Bool := decide (sc.names.lookup x = some .globalImplicit)
def conC : Const → Option D
  | .none => some .non
  | .bool b => some (.bl b)
  | .int i => some (.int i)
  | .str s => some (.str s)
  | _ => none
def cName (T : Tab) (sc : Scope) (x : Str) : Option E := match glC sc x with
  | false => guardO (decide (T.N[T.N.idxOf x]? = some x) && visC sc x && !(x == ("__debug__" : Str)) && !(x == ("__classdict__" : Str))) (some (.var (T.N.idxOf x)))
  | true => guardO (!(x == ("__debug__" : Str))) ((T.nums.lookup x).map fun i => .con (.int i))
/-! ### forms -/
def cUn (rec : Rec) (sc : Scope) : UnaryOp → Expr → Option E
  | .USub, a => (rec sc a).map .neg
  | .Not, a => (rec sc a).map .not
  | _, _ => none
def cCmp (rec : Rec) (sc : Scope) (a : Expr) : List CmpOp → List Expr → Option E
  | [op], [b] => guardO (!behindInMarks op b) (match rec sc a, rec sc b with
    | some i, some j => some (.cmp op i j)
    | _, _ => none)
  | [o1, o2], [b, c] => guardO (!behindInMarks o2 c) (match rec sc a, rec sc b, rec sc c with
    | some i, some j, some k => some (.chn o1 o2 i j k)
    | _, _, _ => none)
  | _, _ => none
def cBool (rec : Rec) (sc : Scope) : BoolOp → List Expr → Option E
  | .And, a :: es => match rec sc a, mapO (rec sc) es with
    | some i, some is => some (andsI i is)
    | _, _ => none
  | .Or, a :: es => match rec sc a, mapO (rec sc) es with
    | some i, some is => some (orsI i is)
    | _, _ => none
  | _, _ => none
def cPo (rec : Rec) (sc : Scope) : Option Expr → Option Po
  | none => some .no
  | some e => (rec sc e).map .is
def cSub (rec : Rec) (sc : Scope) (a : Expr) : Expr → Option E
  | .Slice lo hi none _ => match rec sc a, cPo rec sc lo, cPo rec sc hi with
    | some i, some l, some h => some (.sli i l h)
    | _, _, _ => none
  | .Slice none none (some (.UnaryOp .USub (.Constant (.int 1) _ _) _)) _ => (rec sc a).map .rev
  | .Slice lo hi (some c) _ => match rec sc a, cPo rec sc lo, cPo rec sc hi, rec sc c with
    | some i, some l, some h, some k => some (.stp i l h k)
    | _, _, _, _ => none
  | b => guardO (notSlice b) (match rec sc a, rec sc b with
    | some i, some j => some (.idx i j)
    | _, _ => none)
def notSet : Expr → Bool
  | .Set _ _ _ => false
  | _ => true
/-- what a for walks -/
def cIt (T : Tab) (rec : Rec) (sc : Scope) : Expr → Option It
  | .Call (.Name x p) [a] [] q => match (x == ("range" : Str)) with
    | true => guardO (glC sc x && T.free.contains x && noStar a) ((rec sc a).map .rng1)
    | false => match (x == ("enumerate" : Str)) with
      | true => guardO (glC sc x && T.free.contains x && noStar a) ((rec sc a).map .enum)
      | false => (rec sc (.Call (.Name x p) [a] [] q)).map .seq
  | .Call (.Name x p) [a, b] [] q => match (x == ("range" : Str)) with
    | true => guardO (glC sc x && T.free.contains x && noStar a && noStar b) (match rec sc a, rec sc b with
      | some i, some j => some (.rng2 i j)
      | _, _ => none)
    | false => (rec sc (.Call (.Name x p) [a, b] [] q)).map .seq
  | e => (rec sc e).map .seq
/-- its items are new pairs -/
def It.pair : It → Bool
  | .enum _ => true
  | .zip _ _ => true
  | .items _ => true
  | _ => false
def Tg.isMany : Tg → Bool
  | .many _ => true
  | _ => false
def cCond (rec : Rec) (sc : Scope) : List Expr → Option E
  | [] => some (.con (.bl true))
  | [c] => rec sc c
  | _ => none
def ownC (N : List Str) (scope : Scope) : List (Str × Nat) := (scope.names.filter fun y => (y.2 == .local || y.2 == .cell) && N.contains y.1).map fun y => (y.1, N.idxOf y.1)
def Tg.slotsIn (t : Tg) (own : List (Str × Nat)) : Bool := t.slots.all fun s => (own.map (·.2)).contains s
def cLc (T : Tab) (rec : Rec) (sc : Scope) (m : Bool) (elt : Expr) (scope : Scope) : List Comprehension → Option E
  | [⟨tg, iter, ifs, 0⟩] =>
    match tgC T.N (relS scope sc) (fun x => scope.names.lookup x == some .cell) tg, cIt T rec sc iter, cCond rec (relS scope sc) ifs, rec (relS scope sc) elt with
    | some t, some it, some c, some e => guardO (notSet iter && blkC T.N sc scope (ownC T.N scope) && t.slotsIn (ownC T.N scope) && (!it.pair || t.isMany)) (some (.lc m ((ownC T.N scope).map (·.2)) t it c e))
    | _, _, _, _ => none
  | _ => none
/-! ### calls -/
def Blt.nm : Blt → Str
  | .len => "len" | .sum => "sum" | .any => "any" | .all => "all" | .sorted => "sorted" | .tuple => "tuple" | .list => "list" | .int => "int" | .str => "str" | .abs => "abs" | .min2 => "min" | .max2 => "max" | .max1 => "max"
  | .tupRange => "" | .isT _ => "" | .srtI => "" | .dict => ""
def Blt.ar : Blt → Nat
  | .min2 => 2 | .max2 => 2 | .tupRange => 0 | .isT _ => 0 | .srtI => 0 | .dict => 0 | _ => 1
def bltAll : List Blt := [.len, .sum, .any, .all, .sorted, .tuple, .list, .int, .str, .abs, .min2, .max2, .max1]
def kdOf (x : Str) : Option Kd := if (x == ("int" : Str)) = true then some .int else if (x == ("bool" : Str)) = true then some .bl else if (x == ("str" : Str)) = true then some .str else if (x == ("tuple" : Str)) = true then some .tup
  else if (x == ("list" : Str)) = true then some .lst else if (x == ("dict" : Str)) = true then some .dic else none
def cIsT (T : Tab) (rec : Rec) (sc : Scope) : List Expr → Option E
  | [a, .Name x _] => match kdOf x, rec sc a with
    | some t, some i => guardO (glC sc "isinstance" && T.free.contains "isinstance" && glC sc x && T.free.contains x && noStar a) (some (.blt (.isT t) (.cons i .nil)))
    | _, _ => none
  | _ => none
def cBlt (T : Tab) (rec : Rec) (sc : Scope) (x : Str) (es : List Expr) : Option E :=
  match bltAll.find? fun b => (b.nm == x && b.ar == es.length) with
  | none => none
  | some b => match mapO (rec sc) es with
    | some is => guardO (glC sc x && T.free.contains x && es.all noStar) (some (.blt b (listEs is)))
    | none => none
/-- sorted(d.items()) -/
def cSrtI (T : Tab) (rec : Rec) (sc : Scope) (x : Str) : List Expr → Option E
  | [.Call (.Attribute a m apos) [] [] cpos] => match (x == ("sorted" : Str) && m == ("items" : Str)) with
    | true => guardO (glC sc "sorted" && T.free.contains "sorted" && notSup a && (apos.endLine == cpos.line)) ((rec sc a).map fun i => .blt .srtI (.cons i .nil))
    | false => cBlt T rec sc x [.Call (.Attribute a m apos) [] [] cpos]
  | es => cBlt T rec sc x es
def cCall (T : Tab) (rec : Rec) (sc : Scope) (x : Str) (es : List Expr) : Option E :=
  match T.fn.lookup x with
  | some f => match mapO (rec sc) es with
    | some is => guardO (glC sc x && es.all noStar && !(x == ("__debug__" : Str))) (some (.call f (listEs is)))
    | none => none
  | none => match (x == ("isinstance" : Str)) with
    | true => cIsT T rec sc es
    | false => cSrtI T rec sc x es
def Mth.nm : Mth → Str
  | .count => "count" | .split => "split" | .join => "join" | .get2 => "get" | .append => "append" | .extend => "extend" | .pop => "pop" | .items => "" | .update => ""
def mthAll : List Mth := [.count, .split, .join, .get2, .append, .extend, .pop]
def cMth (T : Tab) (rec : Rec) (sc : Scope) (o : Expr) (name : Str) (apos : Pos) (es : List Expr) (pos : Pos) : Option E :=
  match mthAll.find? fun m => m.nm == name with
  | some m => match rec sc o, mapO (rec sc) es with
    | some i, some is => guardO (es.all noStar && decide (es.length < 29) && notSup o && (apos.endLine == pos.line)) (some (.mth m i (listEs is)))
    | _, _ => none
  | none => none
def someAll : List (Option Expr) → Option (List Expr)
  | [] => some []
  | some e :: r => (someAll r).map (e :: ·)
  | none :: _ => none
def cDct (rec : Rec) (sc : Scope) (ks : List (Option Expr)) (vs : List Expr) : Option E := match someAll ks with
  | none => none
  | some es => match mapO (rec sc) es, mapO (rec sc) vs with
    | some is, some js => guardO (decide (es.length = vs.length) && decide (es.length ≤ 15)) (some (.dct (listEs (ilv is js))))
    | _, _ => none
def stepE (T : Tab) (rec : Rec) (sc : Scope) : Expr → Option E
  | .Name x _ => cName T sc x
  | .Constant c _ _ => (conC c).map .con
  | .BinOp a op b _ => match rec sc a, rec sc b with
    | some i, some j => some (.bin op i j)
    | _, _ => none
  | .UnaryOp op a _ => cUn rec sc op a
  | .Compare a ops bs _ => cCmp rec sc a ops bs
  | .BoolOp op es _ => cBool rec sc op es
  | .Tuple es _ _ => guardO (es.all noStar) ((mapO (rec sc) es).map fun is => .tup (listEs is))
  | .List es _ => guardO (es.all noStar) ((mapO (rec sc) es).map fun is => .lst (listEs is))
  | .Subscript a b _ => cSub rec sc a b
  | .Dict ks vs _ => cDct rec sc ks vs
  | .ListComp elt gs scope _ => cLc T rec sc false elt scope gs
  | .Call (.Name x _) es [] _ => cCall T rec sc x es
  | .Call (.Attribute o name apos) es [] pos => cMth T rec sc o name apos es pos
  | _ => none
def cE (T : Tab) : Nat → Rec
  | 0, _, _ => none
  | n + 1, sc, e => stepE T (cE T n) sc e
end EV
/-! EvO: what EvN makes is sound: expressions. -/
namespace EV
open PySem PySem.Spec PyProof.Rows L2

section
variable {X : Cx} {cls : Nat → Option Addr} {xa : Nat → Addr} {U : XW} {C : Ctx} {T : Tab} {sc : Scope} {rec : Rec} {a b c : Expr} {i j k : E} {pos : Pos}
theorem goods_of (h : RecOk cls xa C T rec) (p : Pre X cls xa U C T sc) : ∀ {es : List Expr} {is : List E}, mapO (rec sc) es = some is → Goods X cls U C es is
  | [], is, e => by cases e; exact .nil
  | x :: xs, is, e => by
    rw [mapO] at e
    split at e
    · rename_i y ys h1 h2
      cases e
      exact .cons (h X U sc x y p h1) (goods_of h p h2)
    · cases e
theorem mapO_length {α β : Type} {f : α → Option β} : ∀ {xs : List α} {ys : List β}, mapO f xs = some ys → xs.length = ys.length
  | [], ys, e => by cases e; rfl
  | x :: xs, ys, e => by
    rw [mapO] at e
    split at e
    · rename_i y zs h1 h2
      cases e
      simp [mapO_length h2]
    · cases e
theorem gl_of (p : Pre X cls xa U C T sc) {x : Str} (h : glC sc x = true) : Gl X x := by
  rw [← p.sc] at h
  exact (of_decide_eq_true h : X.env.scope.names.lookup x = some .globalImplicit)
theorem nmC_ok {fnb : Str → Bool} (hN : X.N = T.N) (hsc : X.env.scope = sc) (hf : ∀ x, fnb x = true → X.fn x = true) {x : Str} {n : Nat} (h : nmC T.N sc fnb x = some n) : NmOk X x n := by
  obtain ⟨h1, h2⟩ := guardO_some h
  cases h2
  simp only [Bool.and_eq_true, Bool.or_eq_true, decide_eq_true_eq] at h1
  rw [← hsc, ← hN] at h1
  refine ⟨by rw [← hN]; exact h1.1, h1.2.imp id (·.1), ?_⟩
  rcases h1.2 with z | z
  · exact .inr z
  · exact .inl (hf x z.2)
theorem nmsC_ok {fnb : Str → Bool} (hN : X.N = T.N) (hsc : X.env.scope = sc) (hf : ∀ x, fnb x = true → X.fn x = true) : ∀ {es : List Expr} {is : List Nat}, nmsC T.N sc fnb es = some is → NmsOk X es is
  | [], is, e => by cases e; exact .nil
  | x :: xs, is, e => by
    unfold nmsC at e
    split at e
    · cases e; rename_i h; cases h
    · rename_i h
      cases h
      split at e
      · rename_i h1 h2
        cases e
        exact .cons (nmC_ok hN hsc hf h1) (nmsC_ok hN hsc hf h2)
      · cases e
    · cases e
theorem tgC_ok {fnb : Str → Bool} (hN : X.N = T.N) (hsc : X.env.scope = sc) (hf : ∀ x, fnb x = true → X.fn x = true) {tg : Expr} {t : Tg} (h : tgC T.N sc fnb tg = some t) : TgOk X tg t := by
  unfold tgC at h
  split at h
  · cases e : nmC T.N sc fnb ‹_› with
    | none => rw [e] at h; cases h
    | some n => rw [e] at h; cases h; exact .one (nmC_ok hN hsc hf e)
  · cases e : nmsC T.N sc fnb ‹_› with
    | none => rw [e] at h; cases h
    | some n => rw [e] at h; cases h; exact .many (nmsC_ok hN hsc hf e)
  · cases h
theorem o_name {x : Str} (p : Pre X cls xa U C T sc) (h : cName T sc x = some i) : Good X cls U C (.Name x pos) i := by
  unfold cName at h
  split at h
  · obtain ⟨h1, h2⟩ := guardO_some h
    cases h2
    simp only [Bool.and_eq_true, decide_eq_true_eq, Bool.not_eq_true'] at h1
    have hv := h1.1.1.2
    rw [← p.sc] at hv
    simp only [visC, Bool.or_eq_true, decide_eq_true_eq] at hv
    refine good_val (d_var (by rw [p.tb.N]; exact h1.1.1.1) (hv.elim (fun q => q.elim .inl fun z => .inr (.inl z)) fun z => .inr (.inr z)) h1.1.2 h1.2 C) fun _ => rfl
  · rename_i hg
    obtain ⟨h1, h2⟩ := guardO_some h
    cases e : T.nums.lookup x with
    | none => rw [e] at h2; cases h2
    | some n =>
      rw [e] at h2
      cases h2
      obtain ⟨t, hm⟩ := p.tb.nums x n e
      have pe : PE X (.Name x pos) (tC (.int n)) := ⟨fun pins s σ H Q I q => ld_glob I (gl_of p hg) hm ⟨.int n, H, I, ⟨t, rfl⟩, q⟩ (by simpa using h1)⟩
      exact good_val (d_con pe (fun _ => .int _) C) fun _ => rfl
theorem o_con {v : Const} {n : Nat} (h : (conC v).map E.con = some i) : Good X cls U C (.Constant v n pos) i := by
  cases v with
  | none => cases h; exact good_val (d_con pe_non (fun _ => .non) C) fun _ => rfl
  | bool b => cases h; exact good_val (d_con pe_bl (fun _ => .bl _) C) fun _ => rfl
  | int b => cases h; exact good_val (d_con pe_int (fun _ => .int _) C) fun _ => rfl
  | str b => cases h; exact good_val (d_con pe_str (fun _ => .str _) C) fun _ => rfl
  | _ => cases h
theorem o_un {op : UnaryOp} (hr : RecOk cls xa C T rec) (p : Pre X cls xa U C T sc) (h : cUn rec sc op a = some i) : Good X cls U C (.UnaryOp op a pos) i := by
  cases op with
  | USub =>
    rw [cUn] at h
    cases e : rec sc a with
    | none => rw [e] at h; cases h
    | some j => rw [e] at h; cases h; exact g_neg (hr X U sc a j p e)
  | Not =>
    rw [cUn] at h
    cases e : rec sc a with
    | none => rw [e] at h; cases h
    | some j => rw [e] at h; cases h; exact g_not (hr X U sc a j p e)
  | _ => cases h
theorem Pre.lib (p : Pre X cls xa U C T sc) : Lib X cls := p.tb.lib X p.tb.calm p.tb.hu
theorem o_cmp {ops : List CmpOp} {bs : List Expr} (hr : RecOk cls xa C T rec) (p : Pre X cls xa U C T sc) (h : cCmp rec sc a ops bs = some i) : Good X cls U C (.Compare a ops bs pos) i := by
  unfold cCmp at h
  split at h
  · obtain ⟨h1, h2⟩ := guardO_some h
    split at h2
    · rename_i e1 e2
      cases h2
      exact g_cmp p.tb.hu p.lib.toDicR (hr X U sc _ _ p e1) (hr X U sc _ _ p e2) (by simpa using h1)
    · cases h2
  · obtain ⟨h1, h2⟩ := guardO_some h
    split at h2
    · rename_i e1 e2 e3
      cases h2
      exact g_chn p.tb.hu p.lib.toDicR (hr X U sc _ _ p e1) (hr X U sc _ _ p e2) (hr X U sc _ _ p e3) (by simpa using h1)
    · cases h2
  · cases h
theorem o_bool {op : BoolOp} {es : List Expr} (hr : RecOk cls xa C T rec) (p : Pre X cls xa U C T sc) (h : cBool rec sc op es = some i) : Good X cls U C (.BoolOp op es pos) i := by
  unfold cBool at h
  split at h
  · split at h
    · rename_i e1 e2
      cases h
      exact g_ands (hr X U sc _ _ p e1) (goods_of hr p e2)
    · cases h
  · split at h
    · rename_i e1 e2
      cases h
      exact g_ors (hr X U sc _ _ p e1) (goods_of hr p e2)
    · cases h
  · cases h
theorem o_po {o : Option Expr} {q : Po} (hr : RecOk cls xa C T rec) (p : Pre X cls xa U C T sc) (h : cPo rec sc o = some q) : GoodO X cls U C o q := by
  cases o with
  | none => cases h; exact .none
  | some e =>
    rw [cPo] at h
    cases z : rec sc e with
    | none => rw [z] at h; cases h
    | some j => rw [z] at h; cases h; exact .some (hr X U sc _ _ p z)
theorem o_sub (hr : RecOk cls xa C T rec) (p : Pre X cls xa U C T sc) (h : cSub rec sc a b = some i) : Good X cls U C (.Subscript a b pos) i := by
  unfold cSub at h
  split at h
  · split at h
    · rename_i e1 e2 e3
      cases h
      exact g_sli (hr X U sc _ _ p e1) (o_po hr p e2) (o_po hr p e3)
    · cases h
  · cases e : rec sc a with
    | none => rw [e] at h; cases h
    | some j => rw [e] at h; cases h; exact g_rev (hr X U sc _ _ p e)
  · split at h
    · rename_i e1 e2 e3 e4
      cases h
      exact g_stp (hr X U sc _ _ p e1) (o_po hr p e2) (o_po hr p e3) (hr X U sc _ _ p e4)
    · cases h
  · obtain ⟨h1, h2⟩ := guardO_some h
    split at h2
    · rename_i e1 e2
      cases h2
      exact g_idx p.lib.toDicR (hr X U sc _ _ p e1) (hr X U sc _ _ p e2) h1
    · cases h2
/-! ### blocks -/
theorem relS_eq {scope : Scope} {env : PySem.Env} (h : env.scope = sc) : relabel scope env = relS scope sc := by
  subst h
  rfl
theorem Pre.blk (p : Pre X cls xa U C T sc) (s : Shared) (H : Hp) (scope : Scope) (cl : List (Str × Addr)) (D : Addr) (fp : List Addr) : Pre (X.blk s H scope (compEnvC scope cl D X.env) fp) cls xa (fun _ _ => False) C T (relS scope sc) :=
  ⟨⟨p.tb.N, p.tb.nd, p.tb.hu, p.tb.calm, p.tb.lib, p.tb.fns, p.tb.free, p.tb.nums⟩, relS_eq p.sc, takes0.imp fun c d σ H ⟨_, _, _, z⟩ => z⟩
theorem tg_tuple {tg : Expr} {t : Tg} {N : List Str} {fnb : Str → Bool} (h : tgC N sc fnb tg = some t) (hm : t.isMany = true) : ∃ es k q is, tg = .Tuple es k q ∧ t = .many is := by
  unfold tgC at h
  split at h
  · rename_i x q
    cases e : nmC N sc fnb x with
    | none => rw [e] at h; cases h
    | some n => rw [e] at h; cases h; simp [Tg.isMany] at hm
  · rename_i es k q
    cases e : nmsC N sc fnb es with
    | none => rw [e] at h; cases h
    | some n => rw [e] at h; cases h; exact ⟨es, k, q, n, rfl, rfl⟩
  · cases h
theorem o_it {tg iter : Expr} {it : It} (hr : RecOk cls xa C T rec) (p : Pre X cls xa U C T sc) (h : cIt T rec sc iter = some it) (htg : it.pair = true → ∃ es k q, tg = .Tuple es k q) : PI X tg iter (tDI X.K X.w cls U it.pair (evI C it)) ∧ it.plain = true := by
  have seq : ∀ e, (rec sc e).map It.seq = some it → PI X tg e (tDI X.K X.w cls U it.pair (evI C it)) ∧ it.plain = true := fun e h => by
    cases z : rec sc e with
    | none => rw [z] at h; cases h
    | some j => rw [z] at h; cases h; exact ⟨gi_seq' (hr X U sc _ _ p z), rfl⟩
  unfold cIt at h
  split at h
  · split at h
    · rename_i hx
      have hx := eq_of_beq hx
      subst hx
      obtain ⟨h1, h2⟩ := guardO_some h
      simp only [Bool.and_eq_true] at h1
      cases z : rec sc ‹_› with
      | none => rw [z] at h2; cases h2
      | some j => rw [z] at h2; cases h2; exact ⟨gi_rng1 (hr X U sc _ _ p z) (gl_of p h1.1.1) (p.tb.free _ h1.1.2) h1.2, rfl⟩
    · split at h
      · rename_i hx
        have hx := eq_of_beq hx
        subst hx
        obtain ⟨h1, h2⟩ := guardO_some h
        simp only [Bool.and_eq_true] at h1
        cases z : rec sc ‹_› with
        | none => rw [z] at h2; cases h2
        | some j =>
          rw [z] at h2
          cases h2
          obtain ⟨es, k, q, rfl⟩ := htg rfl
          exact ⟨gi_enum (hr X U sc _ _ p z) (gl_of p h1.1.1) (p.tb.free _ h1.1.2) h1.2, rfl⟩
      · exact seq _ h
  · split at h
    · rename_i hx
      have hx := eq_of_beq hx
      subst hx
      obtain ⟨h1, h2⟩ := guardO_some h
      simp only [Bool.and_eq_true] at h1
      split at h2
      · rename_i e1 e2
        cases h2
        exact ⟨gi_rng2 (hr X U sc _ _ p e1) (hr X U sc _ _ p e2) (gl_of p h1.1.1.1) (p.tb.free _ h1.1.1.2) h1.1.2 h1.2, rfl⟩
      · cases h2
    · exact seq _ h
  · exact seq _ h
theorem notSet_fold {iter : Expr} {env : PySem.Env} (h : notSet iter = true) : ∀ x, foldedSetIterable iter env x = pure x := fun x => by
  cases iter <;> first | rfl | (simp [notSet] at h)
theorem o_cond {ifs : List Expr} (hr : RecOk cls xa C T rec) (p : Pre X cls xa U C T sc) (h : cCond rec sc ifs = some i) : PTs X ifs (tDT X.K X.w cls U (evE C i)) := by
  unfold cCond at h
  split at h
  · cases h
    refine ⟨fun pins s σ H Q I q => pts_nil.run pins s σ H Q I ?_⟩
    obtain ⟨W, env, st, he, A, hb, q⟩ := q
    rw [evE] at q
    exact q true W H (Ext.refl _ _) A rfl
  · exact pts_one (hr X U sc _ _ p h).pt
  · cases h
/-- the parts of a comprehension -/
theorem o_lc {m : Bool} {elt : Expr} {scope : Scope} {gs : List Comprehension} (hr : RecOk cls xa C T rec) (p : Pre X cls xa U C T sc) (h : cLc T rec sc m elt scope gs = some i) :
    ∃ tg iter ifs own t it cd ie, gs = [⟨tg, iter, ifs, 0⟩] ∧ i = .lc m (own.map (·.2)) t it cd ie ∧ it.plain = true ∧ PI X tg iter (tDI X.K X.w cls U it.pair (evI C it)) ∧ BlkOk X.N X.env.scope scope own ∧ GoodB X cls C scope tg t ifs elt cd ie ∧
      (∀ s ∈ t.slots, s ∈ own.map (·.2)) ∧ notSet iter = true ∧ (it.pair = true → ∃ is, t = .many is) := by
  unfold cLc at h
  split at h
  · rename_i tg iter ifs
    split at h
    · rename_i t it cd ie e1 e2 e3 e4
      obtain ⟨h1, h2⟩ := guardO_some h
      cases h2
      simp only [Bool.and_eq_true, Bool.or_eq_true, Bool.not_eq_true'] at h1
      obtain ⟨h1, hmany⟩ := h1
      have hm : it.pair = true → t.isMany = true := fun z => hmany.elim (fun y => by rw [y] at z; cases z) id
      obtain ⟨hi, hp⟩ := o_it (tg := tg) hr p e2 fun z => let ⟨es, k, q, is, h1, h2⟩ := tg_tuple e1 (hm z); ⟨es, k, q, h1⟩
      refine ⟨tg, iter, ifs, ownC T.N scope, t, it, cd, ie, rfl, rfl, hp, hi, ?_, ⟨fun s H D cl fp => ?_, fun s H D cl fp => ?_, fun s H D cl fp => ?_⟩, fun s hs => ?_, h1.1.1, fun z => let ⟨es, k, q, is, h1, h2⟩ := tg_tuple e1 (hm z); ⟨is, h2⟩⟩
      · rw [p.tb.N, p.sc]
        exact blkOk_by h1.1.2
      · have p' := p.blk s H scope cl D fp
        exact tg_pg p'.tb.calm p'.tb.nd (tgC_ok (T := T) p'.tb.N p'.sc (fun x hx => hx) e1)
      · exact o_cond hr (p.blk s H scope cl D fp) e3
      · exact (hr _ _ _ _ _ (p.blk s H scope cl D fp) e4).pe
      · have z := h1.2
        rw [Tg.slotsIn, List.all_eq_true] at z
        exact List.elem_iff.mp (z s hs)
    · cases h
  · cases h
/-! ### calls -/
theorem kdOf_ok {x : Str} {t : Kd} (h : kdOf x = some t) : t ≠ .non ∧ bootBuiltins x = some (.type t.nm) ∧ x ≠ "__name__" ∧ (x == ("__debug__" : Str)) = false := by
  unfold kdOf at h
  repeat' split at h
  all_goals first | (cases h; rename_i hx; have hx := eq_of_beq hx; subst hx; exact ⟨by decide, by decide +kernel, by decide, by decide⟩) | cases h
theorem o_isT {es : List Expr} {q : Pos} (hr : RecOk cls xa C T rec) (p : Pre X cls xa U C T sc) (h : cIsT T rec sc es = some i) : Good X cls U C (.Call (.Name "isinstance" q) es [] pos) i := by
  unfold cIsT at h
  split at h
  · split at h
    · rename_i e1 e2
      obtain ⟨h1, h2⟩ := guardO_some h
      cases h2
      simp only [Bool.and_eq_true] at h1
      obtain ⟨k1, k2, k3, k4⟩ := kdOf_ok e1
      exact g_isT k1 (gl_of p h1.1.1.1.1) (p.tb.free _ h1.1.1.1.2) (gl_of p h1.1.1.2) (p.tb.free _ h1.1.2) k2 k3 k4 (hr X U sc _ _ p e2) h1.2
    · cases h
  · cases h
theorem o_blt {x : Str} {es : List Expr} {q : Pos} (hr : RecOk cls xa C T rec) (p : Pre X cls xa U C T sc) (h : cBlt T rec sc x es = some i) : Good X cls U C (.Call (.Name x q) es [] pos) i := by
  unfold cBlt at h
  split at h
  · cases h
  · rename_i b hb
    have hm := List.mem_of_find?_eq_some hb
    have hx := List.find?_some hb
    simp only [Bool.and_eq_true, beq_iff_eq] at hx
    obtain ⟨rfl, hx⟩ := hx
    split at h
    · rename_i is e1
      obtain ⟨h1, h2⟩ := guardO_some h
      cases h2
      simp only [Bool.and_eq_true] at h1
      have t := goods_of hr p e1
      have hl := mapO_length e1
      cases t with
      | nil => cases b <;> simp [Blt.ar] at hx <;> simp [bltAll] at hm
      | @cons e ie es is g t =>
        have hg := gl_of p h1.1.1
        have hf := p.tb.free _ h1.1.2
        cases b with
        | len => exact g_blt (cd_len p.lib) hg hf (by decide +kernel) (by decide) (by decide) g t h1.2
        | sum => exact g_blt (cd_sum p.tb.calm) hg hf (by decide +kernel) (by decide) (by decide) g t h1.2
        | any => exact g_blt (cd_any p.tb.calm) hg hf (by decide +kernel) (by decide) (by decide) g t h1.2
        | all => exact g_blt (cd_all p.tb.calm) hg hf (by decide +kernel) (by decide) (by decide) g t h1.2
        | sorted => exact g_blt (cd_sorted p.tb.calm p.tb.hu) hg hf (by decide +kernel) (by decide) (by decide) g t h1.2
        | tuple => exact g_bltT cd_tuple hg hf (by decide +kernel) (by decide) (by decide) g t h1.2
        | list => exact g_bltT (cd_list p.lib) hg hf (by decide +kernel) (by decide) (by decide) g t h1.2
        | int => exact g_bltT cd_int hg hf (by decide +kernel) (by decide) (by decide) g t h1.2
        | str => exact g_bltT cd_str hg hf (by decide +kernel) (by decide) (by decide) g t h1.2
        | abs => exact g_blt cd_abs hg hf (by decide +kernel) (by decide) (by decide) g t h1.2
        | min2 => exact g_blt (cd_min2 p.tb.calm) hg hf (by decide +kernel) (by decide) (by decide) g t h1.2
        | max2 => exact g_blt (cd_max2 p.tb.calm) hg hf (by decide +kernel) (by decide) (by decide) g t h1.2
        | max1 => exact g_blt (cd_max1 p.tb.calm) hg hf (by decide +kernel) (by decide) (by decide) g t h1.2
        | tupRange => simp [bltAll] at hm
        | isT t => simp [bltAll] at hm
        | srtI => simp [bltAll] at hm
        | dict => simp [bltAll] at hm
    · cases h
theorem o_srtI {x : Str} {es : List Expr} {q : Pos} (hr : RecOk cls xa C T rec) (p : Pre X cls xa U C T sc) (h : cSrtI T rec sc x es = some i) : Good X cls U C (.Call (.Name x q) es [] pos) i := by
  unfold cSrtI at h
  split at h
  · split at h
    · rename_i hx
      rw [Bool.and_eq_true] at hx
      have e1 := eq_of_beq hx.1
      have e2 := eq_of_beq hx.2
      subst e1 e2
      obtain ⟨h1, h2⟩ := guardO_some h
      simp only [Bool.and_eq_true] at h1
      cases z : rec sc ‹_› with
      | none => rw [z] at h2; cases h2
      | some j => rw [z] at h2; cases h2; exact g_srtI p.tb.calm p.tb.hu (hr X U sc _ _ p z) h1.1.2 h1.2 (gl_of p h1.1.1.1) (p.tb.free _ h1.1.1.2)
    · exact o_blt hr p h
  · exact o_blt hr p h
theorem o_call {x : Str} {es : List Expr} {q : Pos} (hr : RecOk cls xa C T rec) (p : Pre X cls xa U C T sc) (h : cCall T rec sc x es = some i) : Good X cls U C (.Call (.Name x q) es [] pos) i := by
  unfold cCall at h
  split at h
  · rename_i f hf
    split at h
    · rename_i is e1
      obtain ⟨h1, h2⟩ := guardO_some h
      cases h2
      simp only [Bool.and_eq_true, Bool.not_eq_true'] at h1
      obtain ⟨n, fa, fd, ps, F, hroom, hm, hk, hb⟩ := p.tb.fns x f hf
      exact g_call F hroom (gl_of p h1.1.1) hm hk hb p.tk h1.2 (goods_of hr p e1) h1.1.2
    · cases h
  · split at h
    · rename_i hx
      have hx := eq_of_beq hx
      subst hx
      exact o_isT hr p h
    · exact o_srtI hr p h
theorem mth_ok (p : Pre X cls xa U C T sc) {m : Mth} (hm : m ∈ mthAll) : ∃ id, MthOk X cls U m m.nm id := by
  cases m with
  | count => exact ⟨_, F.plainAttrs_tuple, F.slot_tuple_count, F.type_tuple_count, md_count p.tb.hu⟩
  | split => exact ⟨_, F.plainAttrs_str, F.slot_str_split, F.type_str_split, md_split⟩
  | join => exact ⟨_, F.plainAttrs_str, F.slot_str_join, F.type_str_join, md_join⟩
  | get2 => exact ⟨_, F.plainAttrs_dict, F.slot_dict_get, F.type_dict_get, md_get2 p.lib⟩
  | append => exact ⟨_, F.plainAttrs_list, F.slot_list_append, F.type_list_append, md_append⟩
  | extend => exact ⟨_, F.plainAttrs_list, F.slot_list_extend, F.type_list_extend, md_extend⟩
  | pop => exact ⟨_, F.plainAttrs_list, F.slot_list_pop, F.type_list_pop, md_pop⟩
  | items => simp [mthAll] at hm
  | update => simp [mthAll] at hm
theorem o_mth {o : Expr} {name : Str} {apos : Pos} {es : List Expr} (hr : RecOk cls xa C T rec) (p : Pre X cls xa U C T sc) (h : cMth T rec sc o name apos es pos = some i) : Good X cls U C (.Call (.Attribute o name apos) es [] pos) i := by
  unfold cMth at h
  split at h
  · rename_i m hb
    have hm := List.mem_of_find?_eq_some hb
    have hx := List.find?_some hb
    have hx := eq_of_beq hx
    subst hx
    split at h
    · rename_i e1 e2
      obtain ⟨h1, h2⟩ := guardO_some h
      cases h2
      simp only [Bool.and_eq_true, decide_eq_true_eq] at h1
      obtain ⟨id, ok⟩ := mth_ok p hm
      exact g_mth ok (hr X U sc _ _ p e1) (goods_of hr p e2) h1.1.1.1 h1.1.1.2 h1.1.2 h1.2
    · cases h
  · cases h
theorem someAll_ok : ∀ {ks : List (Option Expr)} {es : List Expr}, someAll ks = some es → ks = es.map some
  | [], es, h => by cases h; rfl
  | some e :: r, es, h => by
    rw [someAll] at h
    obtain ⟨l, h1, h2⟩ := Option.map_eq_some_iff.mp h
    subst h2
    rw [someAll_ok h1]
    rfl
  | none :: r, es, h => by cases h
theorem o_dct {ks : List (Option Expr)} {vs : List Expr} (hr : RecOk cls xa C T rec) (p : Pre X cls xa U C T sc) (h : cDct rec sc ks vs = some i) : Good X cls U C (.Dict ks vs pos) i := by
  unfold cDct at h
  split at h
  · cases h
  · rename_i es he
    rw [someAll_ok he]
    split at h
    · rename_i e1 e2
      obtain ⟨h1, h2⟩ := guardO_some h
      cases h2
      simp only [Bool.and_eq_true, decide_eq_true_eq] at h1
      exact g_dct p.tb.hu (goods_of hr p e1) (goods_of hr p e2) h1.1 h1.2
    · cases h
theorem step_ok (hr : RecOk cls xa C T rec) : RecOk cls xa C T (stepE T rec) := by
  intro X U sc e i p h
  unfold stepE at h
  split at h
  · exact o_name p h
  · exact o_con h
  · split at h
    · rename_i e1 e2
      cases h
      exact g_bin (hr X U sc _ _ p e1) (hr X U sc _ _ p e2)
    · cases h
  · exact o_un hr p h
  · exact o_cmp hr p h
  · exact o_bool hr p h
  · obtain ⟨h1, h2⟩ := guardO_some h
    cases z : mapO (rec sc) ‹_› with
    | none => rw [z] at h2; cases h2
    | some is => rw [z] at h2; cases h2; exact g_tup (goods_of hr p z) h1
  · obtain ⟨h1, h2⟩ := guardO_some h
    cases z : mapO (rec sc) ‹_› with
    | none => rw [z] at h2; cases h2
    | some is => rw [z] at h2; cases h2; exact g_lst (goods_of hr p z) h1
  · exact o_sub hr p h
  · exact o_dct hr p h
  · obtain ⟨tg, iter, ifs, own, t, it, cd, ie, rfl, rfl, hp, hi, ok, gb, ht, hs, hm⟩ := o_lc hr p h
    exact good_val (g_lc p.tb.calm p.tb.nd hp hi ok gb ht hm (notSet_fold hs)) fun _ => rfl
  · exact o_call hr p h
  · exact o_mth hr p h
  · cases h
theorem cE_ok : ∀ n, RecOk cls xa C T (cE T n)
  | 0 => fun _ _ _ _ _ _ h => by cases h
  | n + 1 => step_ok (cE_ok n)
end
end EV
/-! EvP: statements: made and sound; defs. -/
namespace EV
open PySem PySem.Spec PyProof.Rows L2

def notTup : Expr → Bool
  | .Tuple _ _ _ => false
  | _ => true
/-- name = e -/
def cAsg1 (T : Tab) (rec : Rec) (mu : List Str) (sc : Scope) (x : Str) (e : Expr) : Option S :=
  match nmC T.N sc (fun _ => true) x with
  | none => none
  | some n => match e with
    | .ListComp elt gs scope _ => (cLc T rec sc (mu.contains x) elt scope gs).map fun i => .set (.one n) i
    | .List es _ => match mu.contains x with
      | true => guardO (es.all noStar) ((mapO (rec sc) es).map fun is => .set (.one n) (.lstM (listEs is)))
      | false => (rec sc e).map fun i => .set (.one n) i
    | e => guardO (notComp e) ((rec sc e).map fun i => .set (.one n) i)
def parC (sc : Scope) (x y : Str) (px py : Pos) (a b : Expr) : Bool := decide (sc.names.lookup x = some .local) && decide (sc.names.lookup y = some .local) && (px.line == py.line) && !(x == y) && noStar a && noStar b &&
  !([a, b].all (foldedForSure 8)) && !([a, b].all (constantsAlone 8))
/-- a, b, .. = e -/
def cAsgT (T : Tab) (rec : Rec) (sc : Scope) (ts : List Expr) (e : Expr) : Option S :=
  match nmsC T.N sc (fun _ => true) ts with
  | none => none
  | some is => match ts, e with
    | [.Name x px, .Name y py], .Tuple [a, b] _ _ => match rec sc a, rec sc b, is with
      | some i, some j, [n, m] => guardO (parC sc x y px py a b && !(n == m)) (some (.set (.many [n, m]) (.tup (.cons i (.cons j .nil)))))
      | _, _, _ => none
    | _, e => guardO (notTup e && notComp e) ((rec sc e).map fun i => .set (.many is) i)
abbrev RecS := Stmt → Option S
def cSs (rs : RecS) : List Stmt → Option Ss
  | [] => some .nil
  | s :: ss => match rs s, cSs rs ss with
    | some x, some xs => some (.cons x xs)
    | _, _ => none
def cForP (T : Tab) (rec : Rec) (sc : Scope) (rs : RecS) (tg iter : Expr) (b : List Stmt) : Option S := match tgC T.N sc (fun _ => true) tg, cIt T rec sc iter, cSs rs b with
  | some t, some it, some x => guardO (notSet iter && (!it.pair || t.isMany)) (some (.for t it x))
  | _, _, _ => none
def cFor (T : Tab) (rec : Rec) (sc : Scope) (rs : RecS) (tg : Expr) : Expr → List Stmt → Option S
  | .Name y q, b => match T.dk.contains y with
    | true => match tgC T.N sc (fun _ => true) tg, rec sc (.Name y q), cSs rs b with
      | some t, some i, some x => some (.for t (.keys i) x)
      | _, _, _ => none
    | false => cForP T rec sc rs tg (.Name y q) b
  | .Call (.Attribute a m apos) [] [] cpos, b => match (m == ("items" : Str)) with
    | true => match tg, tgC T.N sc (fun _ => true) tg, rec sc a, cSs rs b with
      | .Tuple _ _ _, some (.many is), some i, some x => guardO (notSup a && (apos.endLine == cpos.line)) (some (.for (.many is) (.items i) x))
      | _, _, _, _ => none
    | false => cForP T rec sc rs tg (.Call (.Attribute a m apos) [] [] cpos) b
  | iter, b => cForP T rec sc rs tg iter b
def stepS (T : Tab) (rec : Rec) (mu : List Str) (sc : Scope) (rs : RecS) : Stmt → Option S
  | .Return none _ => some .retN
  | .Return (some e) _ => (rec sc e).map .ret
  | .Expr e _ => guardO (notComp e) ((rec sc e).map .exp)
  | .Pass _ => some .pass
  | .Break _ => some .brk
  | .Continue _ => some .cont
  | .If c a b _ => match rec sc c, cSs rs a, cSs rs b with
    | some i, some x, some y => some (.ite i x y)
    | _, _, _ => none
  | .While c b [] _ => match rec sc c, cSs rs b with
    | some i, some x => some (.whl i x)
    | _, _ => none
  | .For tg iter b [] _ => cFor T rec sc rs tg iter b
  | .Assign [.Subscript a b _] c _ => match rec sc a, rec sc b, rec sc c with
    | some i, some j, some k => guardO (notSlice b && notComp c) (some (.put i j k))
    | _, _, _ => none
  | .Assign [.Name x _] e _ => cAsg1 T rec mu sc x e
  | .Assign [.Tuple ts _ _] e _ => cAsgT T rec sc ts e
  | _ => none
def cS (T : Tab) (rec : Rec) (mu : List Str) (sc : Scope) : Nat → RecS
  | 0, _ => none
  | n + 1, s => stepS T rec mu sc (cS T rec mu sc n) s
section
variable {X : Cx} {cls : Nat → Option Addr} {xa : Nat → Addr} {U : XW} {C : Ctx} {T : Tab} {sc : Scope} {rec : Rec} {mu : List Str} {rs : RecS}
/-- a def's body -/
structure PreS (X : Cx) (cls : Nat → Option Addr) (xa : Nat → Addr) (U : XW) (C : Ctx) (T : Tab) (sc : Scope) : Prop extends Pre X cls xa U C T sc where
  fn : ∀ x, X.fn x = true
  own : PassesOwn (model X.prog X.w) X.A X.env X.xe
  bk : X.env.blockKind = .function
def RecSOk (X : Cx) (cls : Nat → Option Addr) (U : XW) (C : Ctx) (rs : RecS) : Prop := ∀ s i, rs s = some i → GoodS X cls U C s i
theorem cSs_ok (h : RecSOk X cls U C rs) : ∀ {ss : List Stmt} {x : Ss}, cSs rs ss = some x → GoodSs X cls U C ss x
  | [], x, e => by cases e; exact s_nil
  | s :: ss, x, e => by
    rw [cSs] at e
    split at e
    · rename_i e1 e2
      cases e
      exact s_cons (h _ _ e1) (cSs_ok h e2)
    · cases e
theorem swp_none {ts : List Expr} {k : Nat} {p : Pos} {e : Expr} {env : PySem.Env} (h : notTup e = true) : swappedStores [.Tuple ts k p] e env = pure none := by
  cases e <;> first | rfl | (simp [notTup] at h)
theorem swp_par {x y : Str} {px py pt p2 : Pos} {kt k2 : Nat} {a b : Expr} {env : PySem.Env} (hb : env.blockKind = .function) (h : parC env.scope x y px py a b = true) :
    swappedStores [.Tuple [.Name x px, .Name y py] kt pt] (.Tuple [a, b] k2 p2) env = pure (some [x, y]) := by
  simp only [parC, Bool.and_eq_true, decide_eq_true_eq, Bool.not_eq_true', beq_eq_false_iff_ne, beq_iff_eq] at h
  obtain ⟨⟨⟨⟨⟨⟨⟨h1, h2⟩, h3⟩, h4⟩, h5⟩, h6⟩, h7⟩, h8⟩ := h
  have e1 : env.kindOf x = some .local := h1
  have e2 : env.kindOf y = some .local := h2
  unfold swappedStores
  simp only [hb]
  rw [if_neg (by simp), if_neg (fun hc => ?_), if_neg (by simp [e1, e2, h3, Expr.pos, List.eraseDups_cons, h4, Ne.symm h4]), if_neg (by rw [h7]; simp), if_neg (by rw [h8]; simp)]
  · simp [e1, e2, h3, Expr.pos]
  · simp only [List.any_cons, List.any_nil, Bool.or_false, Bool.or_eq_true] at hc
    rcases hc with hc | hc
    · split at hc
      · simp [noStar] at h5
      · cases hc
    · split at hc
      · simp [noStar] at h6
      · cases hc
theorem o_asg1 {x : Str} {e : Expr} {py pos : Pos} {i : S} (hr : RecOk cls xa C T rec) (p : PreS X cls xa U C T sc) (h : cAsg1 T rec mu sc x e = some i) : GoodS X cls U C (.Assign [.Name x py] e pos) i := by
  unfold cAsg1 at h
  split at h
  · cases h
  · rename_i n hn
    have nm : NmOk X x n := nmC_ok (T := T) p.tb.N p.sc (fun x _ => p.fn x) hn
    have nd := p.tb.nd
    split at h
    · rename_i elt gs scope cp
      cases z : cLc T rec sc (mu.contains x) elt scope gs with
      | none => rw [z] at h; cases h
      | some j =>
        rw [z] at h
        cases h
        obtain ⟨tg, iter, ifs, own, t, it, cd, ie, rfl, rfl, hp, hi, ok, gb, ht, hs, hm⟩ := o_lc hr p.toPre z
        have hsw : swapsWith (.ListComp elt [⟨tg, iter, ifs, 0⟩] scope cp) (some (.Name x py)) pos.line X.env = pure (X.env.blockKind == .function && X.env.kindOf x == some .local && py.line == (Expr.ListComp elt [⟨tg, iter, ifs, 0⟩] scope cp).pos.line && !(scope.names.any fun (n, k) => n == x && (k == .local || k == .cell))) := rfl
        cases hb : (X.env.blockKind == .function && X.env.kindOf x == some .local && py.line == (Expr.ListComp elt [⟨tg, iter, ifs, 0⟩] scope cp).pos.line && !(scope.names.any fun (n, k) => n == x && (k == .local || k == .cell))) with
        | true =>
          rw [hb] at hsw
          simp only [Bool.and_eq_true, beq_iff_eq] at hb
          exact s_setLc p.tb.calm nd nm.hi hb.1.1.2 hsw hp hi ok gb ht hm (notSet_fold hs)
        | false =>
          rw [hb] at hsw
          exact s_set1 nd nm (good_val (g_lc p.tb.calm nd hp hi ok gb ht hm (notSet_fold hs)) fun _ => rfl) hsw
    · rename_i es q
      split at h
      · obtain ⟨h1, h2⟩ := guardO_some h
        cases z : mapO (rec sc) es with
        | none => rw [z] at h2; cases h2
        | some is => rw [z] at h2; cases h2; exact s_set1 nd nm (g_lstM (goods_of hr p.toPre z) h1) rfl
      · cases z : rec sc (.List es q) with
        | none => rw [z] at h; cases h
        | some j => rw [z] at h; cases h; exact s_set1 nd nm (hr X U sc _ _ p.toPre z) rfl
    · obtain ⟨h1, h2⟩ := guardO_some h
      cases z : rec sc e with
      | none => rw [z] at h2; cases h2
      | some j => rw [z] at h2; cases h2; exact s_set1 nd nm (hr X U sc _ _ p.toPre z) (noswap h1)
theorem o_asgT {ts : List Expr} {kt : Nat} {e : Expr} {pt pos : Pos} {i : S} (hr : RecOk cls xa C T rec) (p : PreS X cls xa U C T sc) (h : cAsgT T rec sc ts e = some i) : GoodS X cls U C (.Assign [.Tuple ts kt pt] e pos) i := by
  unfold cAsgT at h
  split at h
  · cases h
  · rename_i is hn
    have nms : NmsOk X ts is := nmsC_ok (T := T) p.tb.N p.sc (fun x _ => p.fn x) hn
    split at h
    · rename_i x px y py a b k2 p2
      split at h
      · rename_i i j n m e1 e2
        obtain ⟨h1, h2⟩ := guardO_some h
        cases h2
        rw [Bool.and_eq_true] at h1
        have hq := h1.1
        rw [← p.sc] at hq
        have hw := swp_par (kt := kt) (pt := pt) (k2 := k2) (p2 := p2) p.bk hq
        simp only [parC, Bool.and_eq_true, decide_eq_true_eq] at hq
        cases nms with
        | cons n1 t1 => cases t1 with
          | cons n2 t2 => exact s_par p.tb.calm p.tb.nd n1.hi n2.hi (by simpa using h1.2) hq.1.1.1.1.1.1.1 hq.1.1.1.1.1.1.2 (hr X U sc _ _ p.toPre e1) (hr X U sc _ _ p.toPre e2) hq.1.1.1.2 hq.1.1.2 hw
      · cases h
    · obtain ⟨h1, h2⟩ := guardO_some h
      rw [Bool.and_eq_true] at h1
      cases z : rec sc e with
      | none => rw [z] at h2; cases h2
      | some j => rw [z] at h2; cases h2; exact s_setM p.tb.calm p.tb.nd nms (hr X U sc _ _ p.toPre z) h1.2 (swp_none h1.1)
theorem o_forP {tg iter : Expr} {b : List Stmt} {pos : Pos} {i : S} (hr : RecOk cls xa C T rec) (p : PreS X cls xa U C T sc) (hs : RecSOk X cls U C rs) (h : cForP T rec sc rs tg iter b = some i) : GoodS X cls U C (.For tg iter b [] pos) i := by
  unfold cForP at h
  split at h
  · rename_i t it x e1 e2 e3
    obtain ⟨h1, h2⟩ := guardO_some h
    cases h2
    simp only [Bool.and_eq_true, Bool.or_eq_true, Bool.not_eq_true'] at h1
    have hm : it.pair = true → t.isMany = true := fun z => h1.2.elim (fun y => by rw [y] at z; cases z) id
    obtain ⟨hi, hp⟩ := o_it (tg := tg) hr p.toPre e2 fun z => let ⟨es, k, q, is, h1, h2⟩ := tg_tuple e1 (hm z); ⟨es, k, q, h1⟩
    exact s_for p.own p.tb.calm p.tb.nd hp hi (tgC_ok (T := T) p.tb.N p.sc (fun x _ => p.fn x) e1) (fun z => let ⟨es, k, q, is, h1, h2⟩ := tg_tuple e1 (hm z); ⟨is, h2⟩) (cSs_ok hs e3) (notSet_fold h1.1)
  · cases h
theorem o_for {tg iter : Expr} {b : List Stmt} {pos : Pos} {i : S} (hr : RecOk cls xa C T rec) (p : PreS X cls xa U C T sc) (hs : RecSOk X cls U C rs) (h : cFor T rec sc rs tg iter b = some i) : GoodS X cls U C (.For tg iter b [] pos) i := by
  unfold cFor at h
  split at h
  · split at h
    · split at h
      · rename_i t i x e1 e2 e3
        cases h
        exact s_forK p.own p.tb.calm p.tb.nd (hr X U sc _ _ p.toPre e2) (tgC_ok (T := T) p.tb.N p.sc (fun x _ => p.fn x) e1) (cSs_ok hs e3) (notSet_fold rfl)
      · cases h
    · exact o_forP hr p hs h
  · split at h
    · rename_i hx
      have hx := eq_of_beq hx
      subst hx
      split at h
      · rename_i es k q t e1 e2 e3 e4 e5
        obtain ⟨h1, h2⟩ := guardO_some h
        cases h2
        simp only [Bool.and_eq_true] at h1
        exact s_forI p.own p.tb.calm p.tb.nd (hr X U sc _ _ p.toPre ‹_›) (tgC_ok (T := T) p.tb.N p.sc (fun x _ => p.fn x) ‹_›) (cSs_ok hs ‹_›) h1.1 h1.2
      · cases h
    · exact o_forP hr p hs h
  · exact o_forP hr p hs h
theorem stepS_ok (hr : RecOk cls xa C T rec) (p : PreS X cls xa U C T sc) (hs : RecSOk X cls U C rs) : RecSOk X cls U C (stepS T rec mu sc rs) := by
  intro s i h
  unfold stepS at h
  split at h
  · cases h; exact s_retN
  · cases z : rec sc ‹_› with
    | none => rw [z] at h; cases h
    | some j => rw [z] at h; cases h; exact s_ret (hr X U sc _ _ p.toPre z)
  · obtain ⟨h1, h2⟩ := guardO_some h
    cases z : rec sc ‹_› with
    | none => rw [z] at h2; cases h2
    | some j => rw [z] at h2; cases h2; exact s_exp (hr X U sc _ _ p.toPre z) h1
  · cases h; exact s_pass
  · cases h; exact s_brk
  · cases h; exact s_cont
  · split at h
    · rename_i e1 e2 e3
      cases h
      exact s_ite (hr X U sc _ _ p.toPre e1) (cSs_ok hs e2) (cSs_ok hs e3)
    · cases h
  · split at h
    · rename_i e1 e2
      cases h
      exact s_whl p.own (hr X U sc _ _ p.toPre e1) (cSs_ok hs e2)
    · cases h
  · exact o_for hr p hs h
  · split at h
    · rename_i e1 e2 e3
      obtain ⟨h1, h2⟩ := guardO_some h
      cases h2
      rw [Bool.and_eq_true] at h1
      exact s_put p.tb.hu (hr X U sc _ _ p.toPre e1) (hr X U sc _ _ p.toPre e2) (hr X U sc _ _ p.toPre e3) h1.1 h1.2
    · cases h
  · exact o_asg1 hr p h
  · exact o_asgT hr p h
  · cases h
theorem cS_ok (hr : RecOk cls xa C T rec) (p : PreS X cls xa U C T sc) : ∀ n, RecSOk X cls U C (cS T rec mu sc n)
  | 0 => fun _ _ h => by cases h
  | n + 1 => stepS_ok hr p (cS_ok hr p n)
end
end EV
/-! EvQ: a program's defs keep what the evaluator tells of them. -/
namespace EV
open PySem PySem.Spec PyProof.Rows L2

/-- a def as it stands in the text; ps its parameters, N its slots' names, mu the names of lists that grow -/
structure DefS where
  x : Str
  qual : Str
  params : Arguments
  body : List Stmt
  scope : Scope
  ps : List Str
  N : List Str
  mu : List Str
  dk : List Str
def DefS.comp (fn : List (Str × Nat)) (free : List Str) (nums : List (Str × Int)) (fuel : Nat) (d : DefS) : Option FDef :=
  (cSs (cS ⟨d.N, fn, free, nums, d.dk⟩ (cE ⟨d.N, fn, free, nums, d.dk⟩ fuel) d.mu d.scope fuel) d.body).map fun b => ⟨d.ps.length, d.N.length, b⟩
def DefS.scopeC (d : DefS) : Bool := (match d.scope.kind with | .function => true | _ => false) && !d.scope.isCoroutine && !d.scope.isGenerator && decide d.N.Nodup && decide (d.N.take d.ps.length = d.ps) &&
  (d.ps.all fun x => decide (d.scope.names.lookup x = some .local) || decide (d.scope.names.lookup x = some .cell)) && (d.scope.names.all fun y => decide (y.2 ≠ .free))
theorem DefS.scope_ok {d : DefS} (h : d.scopeC = true) : FnScope d.N d.ps d.scope := by
  simp only [scopeC, Bool.and_eq_true, Bool.not_eq_true', decide_eq_true_eq, List.all_eq_true, Bool.or_eq_true] at h
  obtain ⟨⟨⟨⟨⟨⟨h1, h2⟩, h3⟩, h4⟩, h5⟩, h6⟩, h7⟩ := h
  refine ⟨?_, h2, h3, h4, h5, h6, h7⟩
  split at h1
  · assumption
  · cases h1
structure Sys (K : PySem.W.Frag) (mg : Str → Option Value) (dl : Nat → Option DefS) (fn : List (Str × Nat)) (free : List Str) (nums : List (Str × Int)) (fa : Nat → Addr) (fd : Nat → FuncData) : Prop where
  def_ : ∀ (f : Nat) (d : DefS), dl f = some d → FunD K d.x d.qual d.params d.body d.scope [] [] (fa f) (fd f)
  bind : ∀ (f : Nat) (d : DefS), dl f = some d → Binds K (fd f) d.ps []
  scp : ∀ (f : Nat) (d : DefS), dl f = some d → d.scopeC = true
  glo : ∀ x f, fn.lookup x = some f → mg x = some (.ref (fa f))
  has : ∀ x f, fn.lookup x = some f → ∃ d, dl f = some d
  free : ∀ x, free.contains x = true → mg x = none
  nums : ∀ x i, nums.lookup x = some i → ∃ t, mg x = some (.int i t)
section
variable {P : Program} {w : World} {K : PySem.W.Frag} {mg : Str → Option Value} {base : Heap} {cls : Nat → Option Addr} {xa : Nat → Addr} {G : Prg} {dl : Nat → Option DefS} {fn : List (Str × Nat)} {free : List Str} {nums : List (Str × Int)} {fuel : Nat} {fa : Nat → Addr} {fd : Nat → FuncData}
theorem fn_bad {k : Nat} {f : Addr} {fdd : FuncData} {ps : List Str} {sp : Sp} (h : ∀ vs H Q E, ¬ sp vs H Q E) : FnOk P w K mg base (L2.CX P w) k f fdd ps sp :=
  ⟨fun vs H Q E q => (h vs H Q E q).elim, fun A outer s H args us vs Q E _ _ _ _ q => (h vs H Q E q).elim⟩
theorem spD_bad {call : List D → Store → R D} (h : ∀ ds st, call ds st = .bad) : ∀ vs H Q E, ¬ spD K w cls xa call vs H Q E := fun vs H Q E ⟨W, st, ds, A, r, q⟩ => by
  rw [h] at q
  exact q
theorem prog_ok (hlib : ∀ X' : Cx, X'.calm = true → X'.A.units + 64 < cLine → Lib X' cls) (S : Sys K mg dl fn free nums fa fd) (hG : ∀ (f : Nat) (d : DefS) (fdef : FDef), dl f = some d → G.fn f = some fdef → d.comp fn free nums fuel = some fdef) :
    ∀ (n f : Nat) (d : DefS), dl f = some d → FnOk P w K mg base (L2.CX P w) (2 * n) (fa f) (fd f) d.ps (spD K w cls xa (G.call n f))
  | 0, f, d, hd => fn_bad (spD_bad fun ds st => rfl)
  | n + 1, f, d, hd => by
    cases e : G.fn f with
    | none => exact fn_bad (spD_bad fun ds st => by rw [Prg.call, e])
    | some fdef =>
      have hc := hG f d fdef hd e
      have eq : G.call (n + 1) f = fdef.run (G.ctx n) := by funext ds st; exact G.call_succ n f ds st e
      rw [eq]
      rw [DefS.comp] at hc
      cases z : cSs (cS ⟨d.N, fn, free, nums, d.dk⟩ (cE ⟨d.N, fn, free, nums, d.dk⟩ fuel) d.mu d.scope fuel) d.body with
      | none => rw [z] at hc; cases hc
      | some b =>
        rw [z] at hc
        cases hc
        have sc := DefS.scope_ok (S.scp f d hd)
        refine fn_D (n := 2 * n + 1) (S.def_ f d hd) sc rfl rfl fun cdv A outer s H E hr => ?_
        refine cSs_ok (cS_ok (xa := xa) (sc := d.scope) (cE_ok fuel) ⟨⟨⟨rfl, sc.nd, hr.units, rfl, hlib, fun x g hx => ?_, S.free, S.nums⟩, rfl, ?_⟩, fun _ => rfl, passes_of rfl, ?_⟩ fuel) z
        · obtain ⟨d2, hd2⟩ := S.has x g hx
          exact ⟨2 * n, fa g, fd g, d2.ps, prog_ok hlib S hG n g d2 hd2, hr.mono (by omega), S.glo x g hx, (S.def_ g d2 hd2).kp, S.bind g d2 hd2⟩
        · refine (takes_of rfl rfl rfl rfl).imp fun c dd σ H ⟨k, e1, e2, u⟩ => ?_
          subst e1 e2
          exact u
        · show (if d.scope.kind.isAnnotationScope then ScopeKind.function else d.scope.kind) = .function
          rw [sc.kind]
          rfl
/-- the law's own promise -/
theorem law_sp {n f : Nat} {N0 : Nat} (hp : ∀ ns : List Int, ns.length ≤ N0 → ∃ st, G.call n f [.scr ns] [] = .ok (.bl true) st) (H : Hp) (a : Addr) (ns : List Int) (hl : ns.length ≤ N0) (hO : Only H) (hS : SqL K H a (ns.map V.int)) (hz : N0 ≤ sizeLine) :
    spD K w cls xa (G.call n f) [.ref a] H (fun v _ => v = .bl true) fun _ _ _ => False := by
  obtain ⟨st, e⟩ := hp ns hl
  refine ⟨⟨H, []⟩, [], [.scr ns], ⟨Same.refl _, rfl, List.nodup_nil, fun a ha => by simp at ha, fun i o a h => by simp at h⟩, .one (.scr hS (by omega)), ?_⟩
  rw [e]
  exact fun v W' H' _ _ r => r.bl_inv
end
end EV
/-! EvR: from the head's facts to the defs' promises. -/
namespace EV
open PySem PySem.Spec PyProof.Rows L2

def mkDef (x : Str) (st : Stmt) (ps N mu dk : List Str) : DefS := ⟨x, x, defArgs st, defBody st, defScope st, ps, N, mu, dk⟩
def DefS.toD (d : DefS) : He.DefD := ⟨(d.x, none), d.x, d.qual, d.params, d.body, d.scope, [], []⟩
abbrev Defs := List (Nat × DefS)
def dlOf : Defs → Nat → Option DefS
  | [], _ => none
  | (k, d) :: r, f => if f = k then some d else dlOf r f
def fnOfD (defs : Defs) : List (Str × Nat) := defs.map fun p => (p.2.x, p.1)
theorem dlOf_mem : ∀ {defs : Defs} {f : Nat} {d : DefS}, dlOf defs f = some d → (f, d) ∈ defs
  | [], f, d, h => by cases h
  | (k, e) :: r, f, d, h => by
    rw [dlOf] at h
    split at h
    · cases h; rename_i e; subst e; simp
    · exact List.mem_cons_of_mem _ (dlOf_mem h)
def DefS.BindOk (d : DefS) : Prop := ∀ (kV doc pm : Value) (an : Option Addr) (cdv ct : Value) (us : List Value), us.length = d.ps.length → bindArgs (PySem.W.fnOf d.x d.qual d.params d.body d.scope .none kV doc pm an cdv ct) ⟨us, []⟩ = pure (d.ps.zip us)
def faOf (defs : Defs) (free : List Str) (nums : List (Str × Int)) : List He.Fa := defs.map (fun p => .glo p.2.x) ++ (free.map .free ++ nums.map fun p => .int p.1 p.2)
section
variable {K : PySem.W.Frag} {h : Heap} {mg : Str → Option Value} {defs : Defs} {free : List Str} {nums : List (Str × Int)}
theorem says_fact {fa : List He.Fa} {fn : List He.DefD} (c : He.SaysD fa fn K) {f : He.Fa} (hf : f ∈ fa) : f.ok K = true := by
  obtain ⟨i, hi⟩ := List.mem_iff_getElem?.mp hf
  exact c.fact i hi
theorem sys_of (X : K.In h) (G : h.Ns mainGlobals mg) (c : He.SaysD (faOf defs free nums) (defs.map fun p => p.2.toD) K) (hb : ∀ p ∈ defs, p.2.BindOk) (hs : ∀ p ∈ defs, p.2.scopeC = true) (hn : ∀ p ∈ defs, dlOf defs p.1 = some p.2) :
    ∃ fa fd, Sys K mg (dlOf defs) (fnOfD defs) free nums fa fd ∧ ∀ f d, dlOf defs f = some d → fa f = He.ga K d.x := by
  have ex : ∀ f : Nat, ∃ fd : FuncData, ∀ d : DefS, dlOf defs f = some d → FunD K d.x d.qual d.params d.body d.scope [] [] (He.ga K d.x) fd := fun f => by
    cases e : dlOf defs f with
    | none => exact ⟨default, fun d z => by cases z⟩
    | some d =>
      obtain ⟨i, hi⟩ := List.mem_iff_getElem?.mp (dlOf_mem e)
      obtain ⟨fd, F⟩ := c.def_ i (d := d.toD) (by rw [List.getElem?_map, hi]; rfl)
      exact ⟨fd, fun d2 z => by cases z; exact F⟩
  have hg : ∀ (f : Nat) (d : DefS), dlOf defs f = some d → mg d.x = some (.ref (He.ga K d.x)) := fun f d e =>
    He.glo_ok X G (says_fact c (List.mem_append_left _ (List.mem_map.mpr ⟨(f, d), dlOf_mem e, rfl⟩)))
  obtain ⟨fdf, hfd⟩ := Classical.axiomOfChoice ex
  have lk : ∀ x f, (fnOfD defs).lookup x = some f → ∃ d, dlOf defs f = some d ∧ d.x = x := fun x f e => by
    obtain ⟨p, hp, e2⟩ := List.mem_map.mp (PySem.mem_of_lookup e)
    cases e2
    exact ⟨p.2, hn p hp, rfl⟩
  refine ⟨fun f => match dlOf defs f with | some d => He.ga K d.x | none => 0, fdf, ⟨fun f d e => ?_, fun f d e => ?_, fun f d e => hs (f, d) (dlOf_mem e), fun x f e => ?_, fun x f e => ?_, fun x hx => ?_, fun x i hx => ?_⟩, fun f d e => by simp only [e]⟩
  · have z := hfd f d e
    simp only [e]
    exact z
  · have z := hfd f d e
    exact FunD.bindsN z (hb (f, d) (dlOf_mem e))
  · obtain ⟨d, h1, rfl⟩ := lk x f e
    simp only [h1]
    exact hg f d h1
  · obtain ⟨d, h1, _⟩ := lk x f e
    exact ⟨d, h1⟩
  · exact He.free_ok X G (says_fact c (List.mem_append_right _ (List.mem_append_left _ (List.mem_map.mpr ⟨x, List.elem_iff.mp hx, rfl⟩))))
  · exact He.int_ok X G (says_fact c (List.mem_append_right _ (List.mem_append_right _ (List.mem_map.mpr ⟨(x, i), PySem.mem_of_lookup hx, rfl⟩))))
/-- exceptions behind a call, in whatever world -/
def cxAny (P : Program) : CXT := fun outer H s E e s' => ∃ w, L2.CX P w outer H s E e s'
theorem cxAny_no {P : Program} (H : Hp) (s : Shared) (e : Value) (s' : Shared) (h : cxAny P [] H s (fun _ _ _ => False) e s') : False := by
  obtain ⟨_, _, _, _, _, _, _, _, _, _, _, _, _, z⟩ := h
  exact z
theorem FnOk.any {P : Program} {w : World} {base : Heap} {k : Nat} {f : Addr} {fd : FuncData} {ps : List Str} {sp : Sp} (F : FnOk P w K mg base (L2.CX P w) k f fd ps sp) : FnOk P w K mg base (cxAny P) k f fd ps sp :=
  ⟨F.len, fun A outer s H args us vs Q E hr he hb hv hs => codeAny_mono (F.run A outer s H args us vs Q E hr he hb hv hs) fun r s' q => by
    cases r with
    | error e => exact ⟨w, q⟩
    | ok fl => cases fl <;> exact q⟩
/-- THE LAW by its defs: n the depth of calls, f the law's number -/
theorem law_of {P : Program} {w : World} {cls : Nat → Option Addr} {xa : Nat → Addr} {G : Prg} {fuel n f N0 : Nat} {d : DefS} {x : Str} {fa : Addr} (hlib : ∀ X' : Cx, X'.calm = true → X'.A.units + 64 < cLine → Lib X' cls)
    (KX : K.In h) (Gn : h.Ns mainGlobals mg) (c : He.SaysD (faOf defs free nums) (defs.map fun p => p.2.toD) K) (hb : ∀ p ∈ defs, p.2.BindOk) (hs : ∀ p ∈ defs, p.2.scopeC = true) (hn : ∀ p ∈ defs, dlOf defs p.1 = some p.2)
    (hG : ∀ p ∈ defs, ∀ fdef : FDef, G.fn p.1 = some fdef → p.2.comp (fnOfD defs) free nums fuel = some fdef) (hd : dlOf defs f = some d) (hps : d.ps = [x]) (hfa : mg d.x = some (.ref fa)) (hz : N0 ≤ sizeLine)
    (hp : ∀ ns : List Int, ns.length ≤ N0 → ∃ st, G.call n f [.scr ns] [] = .ok (.bl true) st) :
    ∃ (K : PySem.W.Frag) (fd : FuncData) (sp : Sp), K.In h ∧ (∀ (s : Shared) (u : Value), BindsTo s fd ⟨[u], []⟩ [(x, u)]) ∧
        (∀ (H : Hp) (a : Addr) (ns : List Int), ns.length ≤ N0 → Only H → SqL K H a (ns.map V.int) → sp [.ref a] H (fun v _ => v = .bl true) fun _ _ _ => False) ∧
        ∀ base : Heap, K.In base → base.Ns mainGlobals mg → FnOk P w K mg base (cxAny P) (2 * n) fa fd [x] sp := by
  obtain ⟨fas, fds, S, hga⟩ := sys_of KX Gn c hb hs hn
  have ea : fas f = fa := by
    have e1 := He.glo_ok KX Gn (says_fact c (List.mem_append_left _ (List.mem_map.mpr ⟨(f, d), dlOf_mem hd, rfl⟩)))
    rw [hfa] at e1
    cases e1
    exact hga f d hd
  have F := S.def_ f d hd
  rw [ea] at F
  have bA := FunD.bindsA F (hb (f, d) (dlOf_mem hd))
  refine ⟨K, fds f, spD K w cls xa (G.call n f), KX, fun s u => ?_, fun H a ns hl hO hS => law_sp hp H a ns hl hO hS hz, fun base _ _ => ?_⟩
  · have z := bA s [u] (by rw [hps]; rfl)
    rw [hps] at z
    exact z
  · have z := prog_ok (P := P) (w := w) (base := base) (xa := xa) (fuel := fuel) hlib S (fun f d fdef h1 h2 => hG (f, d) (dlOf_mem h1) fdef h2) n f d hd
    rw [ea, hps] at z
    exact FnOk.any z
end
end EV
/-! EvS: the library's part. -/
namespace EV
open PySem PySem.Spec PyProof.Rows L2
theorem lib_ok (X : Cx) (cls : Nat → Option Addr) (hc : X.calm = true) (hu : X.A.units + 64 < cLine) : Lib X cls :=
  ⟨⟨t_mem hu, t_nmem hu, t_get hu⟩, t_len, t_list hc, fun U => cd_sorted hc hu, t_get2 hu⟩
end EV
/-! EvIR: the defs, compiled. Printed by gen.py. -/
namespace EV
open PySem
def ir_is_whole : FDef := ⟨3, 3, (.cons (.ret (.and (.blt (.isT .int) (.cons (.var 0) .nil)) (.and (.not (.blt (.isT .bl) (.cons (.var 0) .nil))) (.chn .LtE .LtE (.var 1) (.var 0) (.var 2))))) .nil)⟩
def ir_is_box : FDef := ⟨1, 2, (.cons (.ite (.or (.not (.blt (.isT .tup) (.cons (.var 0) .nil))) (.or (.cmp .Eq (.blt .len (.cons (.var 0) .nil)) (.con (.int (0)))) (.not (.blt (.isT .str) (.cons (.idx (.var 0) (.con (.int (0)))) .nil))))) (.cons (.ret (.con (.bl false))) .nil) .nil) (.cons (.ite (.cmp .Eq (.idx (.var 0) (.con (.int (0)))) (.con (.str (Str.ofString "all")))) (.cons (.ret (.cmp .Eq (.blt .len (.cons (.var 0) .nil)) (.con (.int (1))))) .nil) .nil) (.cons (.ite (.cmp .In (.idx (.var 0) (.con (.int (0)))) (.tup (.cons (.con (.str (Str.ofString "alike"))) (.cons (.con (.str (Str.ofString "run"))) .nil)))) (.cons (.ret (.and (.cmp .Eq (.blt .len (.cons (.var 0) .nil)) (.con (.int (3)))) (.and (.call 0 (.cons (.idx (.var 0) (.con (.int (1)))) (.cons (.con (.int (2))) (.cons (.con (.int (4))) .nil)))) (.call 0 (.cons (.idx (.var 0) (.con (.int (2)))) (.cons (.con (.int (1))) (.cons (.con (.int (50))) .nil))))))) .nil) .nil) (.cons (.set (.one 1) (.mth .get2 (.dct (.cons (.con (.str (Str.ofString "face"))) (.cons (.con (.int (6))) (.cons (.con (.str (Str.ofString "under"))) (.cons (.con (.int (24))) (.cons (.con (.str (Str.ofString "even"))) (.cons (.con (.int (50))) .nil))))))) (.cons (.idx (.var 0) (.con (.int (0)))) (.cons (.con (.int (0))) .nil)))) (.cons (.ret (.and (.cmp .Eq (.blt .len (.cons (.var 0) .nil)) (.con (.int (2)))) (.call 0 (.cons (.idx (.var 0) (.con (.int (1)))) (.cons (.con (.int (1))) (.cons (.var 1) .nil)))))) .nil)))))⟩
def ir_is_game : FDef := ⟨1, 2, (.cons (.ite (.or (.not (.blt (.isT .tup) (.cons (.var 0) .nil))) (.or (.cmp .NotEq (.blt .len (.cons (.var 0) .nil)) (.con (.int (4)))) (.not (.blt (.isT .tup) (.cons (.idx (.var 0) (.con (.int (3)))) .nil))))) (.cons (.ret (.con (.bl false))) .nil) .nil) (.cons (.ite (.or (.not (.call 0 (.cons (.idx (.var 0) (.con (.int (0)))) (.cons (.con (.int (1))) (.cons (.con (.int (4))) .nil))))) (.not (.call 0 (.cons (.idx (.var 0) (.con (.int (1)))) (.cons (.con (.int (2))) (.cons (.con (.int (6))) .nil)))))) (.cons (.ret (.con (.bl false))) .nil) .nil) (.cons (.ite (.or (.not (.call 0 (.cons (.idx (.var 0) (.con (.int (2)))) (.cons (.con (.int (1))) (.cons (.con (.int (3))) .nil))))) (.not (.chn .LtE .LtE (.con (.int (1))) (.blt .len (.cons (.idx (.var 0) (.con (.int (3)))) .nil)) (.con (.int (4)))))) (.cons (.ret (.con (.bl false))) .nil) .nil) (.cons (.ret (.blt .all (.cons (.lc false [1] (.one 1) (.seq (.idx (.var 0) (.con (.int (3))))) (.con (.bl true)) (.call 1 (.cons (.var 1) .nil))) .nil))) .nil))))⟩
def ir__law_cell_at : FDef := ⟨2, 2, (.cons (.ite (.cmp .Lt (.var 1) (.blt .len (.cons (.var 0) .nil))) (.cons (.ret (.idx (.var 0) (.var 1))) .nil) .nil) (.cons (.ret (.con (.int (0)))) .nil))⟩
def ir__law_mixed : FDef := ⟨2, 3, (.cons (.set (.one 2) (.bin .Mod (.bin .Mult (.bin .Add (.bin .Add (.call 3 (.cons (.var 0) (.cons (.var 1) .nil))) (.bin .Mult (.con (.int (7919))) (.var 1))) (.con (.int (1)))) (.con (.int (48271)))) (.con (.int (2147483647))))) (.cons (.ret (.bin .Mod (.bin .Add (.bin .Add (.bin .Mult (.var 2) (.var 2)) (.bin .Mult (.con (.int (7))) (.var 2))) (.var 1)) (.con (.int (2147483629))))) .nil))⟩
def ir__law_drawn : FDef := ⟨2, 3, (.cons (.set (.one 2) (.bin .Mod (.bin .Mult (.bin .Add (.bin .Add (.var 0) (.bin .Mult (.con (.int (104729))) (.var 1))) (.con (.int (17)))) (.con (.int (69621)))) (.con (.int (2147483647))))) (.cons (.ret (.bin .Mod (.bin .Add (.bin .Add (.bin .Mult (.var 2) (.var 2)) (.bin .Mult (.con (.int (3))) (.var 2))) (.var 1)) (.con (.int (2147483629))))) .nil))⟩
def ir__law_box : FDef := ⟨1, 3, (.cons (.set (.one 1) (.bin .Mod (.var 0) (.con (.int (6))))) (.cons (.set (.one 2) (.lst (.cons (.tup (.cons (.con (.str (Str.ofString "face"))) (.cons (.bin .Add (.con (.int (1))) (.bin .Mod (.bin .FloorDiv (.var 0) (.con (.int (6)))) (.con (.int (6))))) .nil))) (.cons (.tup (.cons (.con (.str (Str.ofString "all"))) .nil)) (.cons (.tup (.cons (.con (.str (Str.ofString "alike"))) (.cons (.bin .Add (.con (.int (2))) (.bin .Mod (.bin .FloorDiv (.var 0) (.con (.int (6)))) (.con (.int (3))))) (.cons (.bin .Add (.con (.int (1))) (.bin .Mod (.bin .FloorDiv (.var 0) (.con (.int (64)))) (.con (.int (50))))) .nil)))) .nil))))) (.cons (.set (.one 2) (.bin .Add (.var 2) (.lst (.cons (.tup (.cons (.con (.str (Str.ofString "run"))) (.cons (.bin .Add (.con (.int (2))) (.bin .Mod (.bin .FloorDiv (.var 0) (.con (.int (6)))) (.con (.int (3))))) (.cons (.bin .Add (.con (.int (1))) (.bin .Mod (.bin .FloorDiv (.var 0) (.con (.int (64)))) (.con (.int (50))))) .nil)))) (.cons (.tup (.cons (.con (.str (Str.ofString "under"))) (.cons (.bin .Add (.con (.int (1))) (.bin .Mod (.bin .FloorDiv (.var 0) (.con (.int (6)))) (.con (.int (24))))) .nil))) .nil))))) (.cons (.ret (.idx (.bin .Add (.var 2) (.lst (.cons (.tup (.cons (.con (.str (Str.ofString "even"))) (.cons (.bin .Add (.con (.int (1))) (.bin .Mod (.bin .FloorDiv (.var 0) (.con (.int (6)))) (.con (.int (50))))) .nil))) .nil))) (.var 1))) .nil))))⟩
def ir__law_game : FDef := ⟨2, 7, (.cons (.set (.one 2) (.idx (.tup (.cons (.con (.int (2))) (.cons (.con (.int (1))) (.cons (.con (.int (3))) (.cons (.con (.int (2))) .nil))))) (.bin .Mod (.var 0) (.con (.int (4)))))) (.cons (.set (.one 3) (.idx (.tup (.cons (.con (.int (2))) (.cons (.con (.int (3))) (.cons (.con (.int (4))) (.cons (.con (.int (2))) .nil))))) (.bin .Mod (.bin .FloorDiv (.var 0) (.con (.int (4)))) (.con (.int (4)))))) (.cons (.set (.one 4) (.idx (.tup (.cons (.con (.int (1))) (.cons (.con (.int (2))) (.cons (.con (.int (3))) (.cons (.con (.int (2))) .nil))))) (.bin .Mod (.bin .FloorDiv (.var 0) (.con (.int (16)))) (.con (.int (4)))))) (.cons (.set (.one 5) (.blt .tuple (.cons (.lc false [6] (.one 6) (.rng1 (.idx (.tup (.cons (.con (.int (1))) (.cons (.con (.int (2))) (.cons (.con (.int (2))) (.cons (.con (.int (3))) .nil))))) (.bin .Mod (.bin .FloorDiv (.var 0) (.con (.int (64)))) (.con (.int (4)))))) (.con (.bl true)) (.call 6 (.cons (.bin .FloorDiv (.call 5 (.cons (.var 0) (.cons (.var 6) .nil))) (.con (.int (4)))) .nil))) .nil))) (.cons (.ite (.cmp .Eq (.var 1) (.con (.int (1)))) (.cons (.ret (.tup (.cons (.bin .Add (.con (.int (1))) (.bin .Mod (.bin .FloorDiv (.var 0) (.con (.int (256)))) (.con (.int (4))))) (.cons (.bin .Add (.con (.int (2))) (.bin .Mod (.bin .FloorDiv (.var 0) (.con (.int (1024)))) (.con (.int (5))))) (.cons (.var 4) (.cons (.var 5) .nil)))))) .nil) .nil) (.cons (.ite (.or (.and (.cmp .Eq (.var 2) (.con (.int (3)))) (.cmp .Eq (.var 3) (.con (.int (4))))) (.and (.cmp .Eq (.blt .len (.cons (.var 5) .nil)) (.con (.int (3)))) (.cmp .Gt (.bin .Mult (.bin .Mult (.var 2) (.var 3)) (.var 4)) (.con (.int (12)))))) (.cons (.ret (.tup (.cons (.con (.int (2))) (.cons (.blt .min2 (.cons (.var 3) (.cons (.con (.int (3))) .nil))) (.cons (.blt .min2 (.cons (.var 4) (.cons (.con (.int (2))) .nil))) (.cons (.var 5) .nil)))))) .nil) .nil) (.cons (.ret (.tup (.cons (.var 2) (.cons (.var 3) (.cons (.var 4) (.cons (.var 5) .nil)))))) .nil)))))))⟩
def ir__law_dice : FDef := ⟨2, 3, (.cons (.ret (.blt .tuple (.cons (.blt .sorted (.cons (.lc false [2] (.one 2) (.rng1 (.idx (.var 0) (.con (.int (0))))) (.con (.bl true)) (.bin .Add (.con (.int (1))) (.bin .Mod (.bin .FloorDiv (.call 5 (.cons (.var 1) (.cons (.bin .Add (.con (.int (30))) (.var 2)) .nil))) (.con (.int (4)))) (.idx (.var 0) (.con (.int (1))))))) .nil)) .nil))) .nil)⟩
def ir__law_stand : FDef := ⟨2, 4, (.cons (.set (.one 2) (.lc false [3] (.one 3) (.rng1 (.blt .len (.cons (.idx (.var 0) (.con (.int (3)))) .nil))) (.cmp .Eq (.bin .Mod (.bin .FloorDiv (.var 1) (.idx (.tup (.cons (.con (.int (1))) (.cons (.con (.int (2))) (.cons (.con (.int (4))) (.cons (.con (.int (8))) .nil))))) (.var 3))) (.con (.int (2)))) (.con (.int (1)))) (.var 3))) (.cons (.ite (.cmp .Eq (.var 2) (.lst .nil)) (.cons (.set (.one 2) (.lst (.cons (.bin .Mod (.bin .FloorDiv (.var 1) (.con (.int (16)))) (.blt .len (.cons (.idx (.var 0) (.con (.int (3)))) .nil))) .nil))) .nil) .nil) (.cons (.ret (.tup (.cons (.blt .tuple (.cons (.var 2) .nil)) (.cons (.bin .Mod (.bin .FloorDiv (.var 1) (.con (.int (64)))) (.idx (.var 0) (.con (.int (2))))) (.cons (.call 8 (.cons (.var 0) (.cons (.var 1) .nil))) .nil))))) .nil)))⟩
def ir__law_from : FDef := ⟨3, 3, (.cons (.ret (.and (.blt (.isT .int) (.cons (.var 0) .nil)) (.and (.not (.blt (.isT .bl) (.cons (.var 0) .nil))) (.chn .LtE .LtE (.var 1) (.var 0) (.var 2))))) .nil)⟩
def ir__law_is_box : FDef := ⟨1, 2, (.cons (.ite (.or (.not (.blt (.isT .tup) (.cons (.var 0) .nil))) (.or (.cmp .Eq (.var 0) (.tup .nil)) (.not (.blt (.isT .str) (.cons (.idx (.var 0) (.con (.int (0)))) .nil))))) (.cons (.ret (.con (.bl false))) .nil) .nil) (.cons (.ite (.cmp .In (.idx (.var 0) (.con (.int (0)))) (.tup (.cons (.con (.str (Str.ofString "alike"))) (.cons (.con (.str (Str.ofString "run"))) .nil)))) (.cons (.ret (.and (.cmp .Eq (.blt .len (.cons (.var 0) .nil)) (.con (.int (3)))) (.and (.call 10 (.cons (.idx (.var 0) (.con (.int (1)))) (.cons (.con (.int (2))) (.cons (.con (.int (4))) .nil)))) (.call 10 (.cons (.idx (.var 0) (.con (.int (2)))) (.cons (.con (.int (1))) (.cons (.con (.int (50))) .nil))))))) .nil) .nil) (.cons (.ite (.cmp .Eq (.idx (.var 0) (.con (.int (0)))) (.con (.str (Str.ofString "all")))) (.cons (.ret (.cmp .Eq (.blt .len (.cons (.var 0) .nil)) (.con (.int (1))))) .nil) .nil) (.cons (.set (.one 1) (.mth .get2 (.dct (.cons (.con (.str (Str.ofString "face"))) (.cons (.con (.int (6))) (.cons (.con (.str (Str.ofString "under"))) (.cons (.con (.int (24))) (.cons (.con (.str (Str.ofString "even"))) (.cons (.con (.int (50))) .nil))))))) (.cons (.idx (.var 0) (.con (.int (0)))) (.cons (.con (.int (0))) .nil)))) (.cons (.ret (.and (.cmp .Eq (.blt .len (.cons (.var 0) .nil)) (.con (.int (2)))) (.call 10 (.cons (.idx (.var 0) (.con (.int (1)))) (.cons (.con (.int (1))) (.cons (.var 1) .nil)))))) .nil)))))⟩
def ir__law_is_game : FDef := ⟨1, 2, (.cons (.ite (.or (.not (.blt (.isT .tup) (.cons (.var 0) .nil))) (.or (.cmp .NotEq (.blt .len (.cons (.var 0) .nil)) (.con (.int (4)))) (.not (.blt (.isT .tup) (.cons (.idx (.var 0) (.con (.int (3)))) .nil))))) (.cons (.ret (.con (.bl false))) .nil) .nil) (.cons (.ite (.or (.not (.call 10 (.cons (.idx (.var 0) (.con (.int (0)))) (.cons (.con (.int (1))) (.cons (.con (.int (4))) .nil))))) (.or (.not (.call 10 (.cons (.idx (.var 0) (.con (.int (1)))) (.cons (.con (.int (2))) (.cons (.con (.int (6))) .nil))))) (.not (.call 10 (.cons (.idx (.var 0) (.con (.int (2)))) (.cons (.con (.int (1))) (.cons (.con (.int (3))) .nil))))))) (.cons (.ret (.con (.bl false))) .nil) .nil) (.cons (.ret (.and (.chn .LtE .LtE (.con (.int (1))) (.blt .len (.cons (.idx (.var 0) (.con (.int (3)))) .nil)) (.con (.int (4)))) (.cmp .Eq (.lc false [1] (.one 1) (.seq (.idx (.var 0) (.con (.int (3))))) (.not (.call 11 (.cons (.var 1) .nil))) (.var 1)) (.lst .nil)))) .nil)))⟩
def ir__law_odd : FDef := ⟨1, 2, (.cons (.set (.one 1) (.lst (.cons (.neg (.con (.int (1)))) (.cons (.con (.int (0))) (.cons (.con (.int (1))) (.cons (.con (.int (2))) (.cons (.con (.int (3))) (.cons (.con (.int (4))) (.cons (.con (.int (5))) (.cons (.con (.int (6))) (.cons (.con (.int (7))) (.cons (.con (.int (24))) (.cons (.con (.int (25))) (.cons (.con (.int (50))) (.cons (.con (.int (51))) (.cons (.con (.bl true)) (.cons (.con (.bl false)) (.cons (.con .non) (.cons (.con (.str (Str.ofString ""))) (.cons (.con (.str (Str.ofString "all"))) (.cons (.con (.str (Str.ofString "face"))) (.cons (.con (.str (Str.ofString "run"))) (.cons (.tup .nil) (.cons (.lst .nil) (.cons (.tup (.cons (.con (.str (Str.ofString "all"))) .nil)) .nil))))))))))))))))))))))))) (.cons (.set (.one 1) (.bin .Add (.var 1) (.lst (.cons (.tup (.cons (.con (.str (Str.ofString "all"))) (.cons (.con (.int (1))) .nil))) (.cons (.tup (.cons (.con (.str (Str.ofString "face"))) (.cons (.con (.int (7))) .nil))) (.cons (.tup (.cons (.con (.str (Str.ofString "run"))) (.cons (.con (.int (1))) (.cons (.con (.int (5))) .nil)))) (.cons (.tup (.cons (.con (.str (Str.ofString "alike"))) (.cons (.con (.int (5))) (.cons (.con (.int (1))) .nil)))) (.cons (.tup (.cons (.con (.str (Str.ofString "under"))) (.cons (.con (.int (25))) .nil))) (.cons (.tup (.cons (.con (.str (Str.ofString "even"))) (.cons (.con (.int (0))) .nil))) (.cons (.con (.str (Str.ofString "2"))) .nil)))))))))) (.cons (.ret (.idx (.bin .Add (.var 1) (.lst (.cons (.lst (.cons (.con (.str (Str.ofString "all"))) .nil)) .nil))) (.bin .Mod (.var 0) (.con (.int (31)))))) .nil)))⟩
def ir__law_spoilt : FDef := ⟨3, 5, (.cons (.ite (.and (.cmp .Gt (.var 2) (.con (.int (0)))) (.and (.blt (.isT .tup) (.cons (.var 0) .nil)) (.and (.cmp .Gt (.blt .len (.cons (.var 0) .nil)) (.con (.int (0)))) (.cmp .Gt (.bin .Mod (.var 1) (.con (.int (6)))) (.con (.int (0))))))) (.cons (.set (.one 3) (.bin .Mod (.bin .FloorDiv (.var 1) (.con (.int (6)))) (.blt .len (.cons (.var 0) .nil)))) (.cons (.set (.one 4) (.call 14 (.cons (.idx (.var 0) (.var 3)) (.cons (.bin .FloorDiv (.call 5 (.cons (.var 1) (.cons (.var 2) .nil))) (.con (.int (4)))) (.cons (.bin .Sub (.var 2) (.con (.int (1)))) .nil))))) (.cons (.ret (.bin .Add (.bin .Add (.sli (.var 0) .no (.is (.var 3))) (.tup (.cons (.var 4) .nil))) (.sli (.var 0) (.is (.bin .Add (.var 3) (.con (.int (1))))) .no))) .nil))) .nil) (.cons (.ite (.and (.blt (.isT .tup) (.cons (.var 0) .nil)) (.and (.cmp .Gt (.blt .len (.cons (.var 0) .nil)) (.con (.int (0)))) (.cmp .Eq (.bin .Mod (.bin .FloorDiv (.var 1) (.con (.int (6)))) (.con (.int (2)))) (.con (.int (0)))))) (.cons (.ret (.idx (.lst (.cons (.blt .list (.cons (.var 0) .nil)) (.cons (.sli (.var 0) .no (.is (.neg (.con (.int (1)))))) (.cons (.bin .Add (.var 0) (.sli (.var 0) (.is (.neg (.con (.int (1))))) .no)) (.cons (.sli (.var 0) (.is (.con (.int (1)))) .no) (.cons (.rev (.var 0)) (.cons (.bin .Mult (.var 0) (.con (.int (3)))) .nil))))))) (.bin .Mod (.bin .FloorDiv (.var 1) (.con (.int (12)))) (.con (.int (6)))))) .nil) .nil) (.cons (.ite (.and (.blt (.isT .int) (.cons (.var 0) .nil)) (.cmp .Eq (.bin .Mod (.bin .FloorDiv (.var 1) (.con (.int (6)))) (.con (.int (2)))) (.con (.int (0))))) (.cons (.ret (.idx (.lst (.cons (.blt .str (.cons (.var 0) .nil)) (.cons (.neg (.var 0)) (.cons (.bin .Add (.var 0) (.con (.int (1)))) (.cons (.cmp .Eq (.var 0) (.con (.int (1)))) (.cons (.bin .Sub (.var 0) (.con (.int (1)))) (.cons (.bin .Add (.var 0) (.con (.int (5)))) .nil))))))) (.bin .Mod (.bin .FloorDiv (.var 1) (.con (.int (12)))) (.con (.int (6)))))) .nil) .nil) (.cons (.ret (.call 13 (.cons (.bin .FloorDiv (.var 1) (.con (.int (6)))) .nil))) .nil))))⟩
def ir_law_k01 : FDef := ⟨1, 5, (.cons (.set (.one 1) (.call 4 (.cons (.var 0) (.cons (.con (.int (0))) .nil)))) (.cons (.set (.one 2) (.call 7 (.cons (.call 4 (.cons (.var 0) (.cons (.con (.int (1))) .nil))) (.cons (.con (.int (1))) .nil)))) (.cons (.ite (.cmp .Eq (.bin .Mod (.var 1) (.con (.int (2)))) (.con (.int (1)))) (.cons (.set (.one 2) (.call 14 (.cons (.var 2) (.cons (.call 4 (.cons (.var 0) (.cons (.con (.int (2))) .nil))) (.cons (.bin .Mod (.bin .FloorDiv (.var 1) (.con (.int (2)))) (.con (.int (4)))) .nil))))) .nil) .nil) (.cons (.ite (.cmp .Eq (.bin .Mod (.bin .FloorDiv (.var 1) (.con (.int (64)))) (.con (.int (4)))) (.con (.int (1)))) (.cons (.set (.one 2) (.call 7 (.cons (.call 4 (.cons (.var 0) (.cons (.con (.int (1))) .nil))) (.cons (.con (.int (1))) .nil)))) (.cons (.set (.one 4) (.lst (.cons (.bin .Add (.tup (.cons (.con (.int (5))) .nil)) (.sli (.var 2) (.is (.con (.int (1)))) .no)) (.cons (.bin .Add (.bin .Add (.sli (.var 2) .no (.is (.con (.int (1))))) (.tup (.cons (.con (.int (7))) .nil))) (.sli (.var 2) (.is (.con (.int (2)))) .no)) (.cons (.bin .Add (.bin .Add (.sli (.var 2) .no (.is (.con (.int (2))))) (.tup (.cons (.con (.int (0))) .nil))) (.sli (.var 2) (.is (.con (.int (3)))) .no)) (.cons (.bin .Add (.tup (.cons (.con (.int (0))) .nil)) (.sli (.var 2) (.is (.con (.int (1)))) .no)) .nil)))))) (.cons (.set (.one 4) (.bin .Add (.var 4) (.lst (.cons (.bin .Add (.bin .Add (.sli (.var 2) .no (.is (.con (.int (2))))) (.tup (.cons (.con (.int (4))) .nil))) (.sli (.var 2) (.is (.con (.int (3)))) .no)) (.cons (.bin .Add (.bin .Add (.sli (.var 2) .no (.is (.con (.int (1))))) (.tup (.cons (.con (.int (1))) .nil))) (.sli (.var 2) (.is (.con (.int (2)))) .no)) (.cons (.bin .Add (.sli (.var 2) .no (.is (.con (.int (3))))) (.tup (.cons (.bin .Mult (.idx (.var 2) (.con (.int (3)))) (.con (.int (5)))) .nil))) .nil)))))) (.cons (.set (.one 2) (.idx (.var 4) (.bin .Mod (.bin .FloorDiv (.var 1) (.con (.int (256)))) (.con (.int (7)))))) .nil)))) .nil) (.cons (.set (.one 3) (.call 2 (.cons (.var 2) .nil))) (.cons (.ite (.or (.not (.blt (.isT .bl) (.cons (.var 3) .nil))) (.cmp .NotEq (.var 3) (.call 12 (.cons (.var 2) .nil)))) (.cons (.ret (.con (.bl false))) .nil) .nil) (.cons (.set (.one 2) (.call 6 (.cons (.call 4 (.cons (.var 0) (.cons (.con (.int (3))) .nil))) .nil))) (.cons (.ite (.cmp .Eq (.bin .Mod (.bin .FloorDiv (.var 1) (.con (.int (8)))) (.con (.int (2)))) (.con (.int (1)))) (.cons (.set (.one 2) (.call 14 (.cons (.var 2) (.cons (.call 4 (.cons (.var 0) (.cons (.con (.int (4))) .nil))) (.cons (.bin .Mod (.bin .FloorDiv (.var 1) (.con (.int (16)))) (.con (.int (2)))) .nil))))) .nil) .nil) (.cons (.ite (.cmp .Eq (.bin .Mod (.bin .FloorDiv (.var 1) (.con (.int (2048)))) (.con (.int (4)))) (.con (.int (1)))) (.cons (.set (.one 4) (.lst (.cons (.tup (.cons (.con (.str (Str.ofString "face"))) (.cons (.con (.int (7))) .nil))) (.cons (.tup (.cons (.con (.str (Str.ofString "face"))) (.cons (.con (.int (6))) .nil))) (.cons (.tup (.cons (.con (.str (Str.ofString "even"))) (.cons (.con (.int (51))) .nil))) (.cons (.tup (.cons (.con (.str (Str.ofString "even"))) (.cons (.con (.int (50))) .nil))) (.cons (.tup (.cons (.con (.str (Str.ofString "run"))) (.cons (.con (.int (5))) (.cons (.con (.int (3))) .nil)))) (.cons (.tup (.cons (.con (.str (Str.ofString "alike"))) (.cons (.con (.int (2))) (.cons (.con (.int (51))) .nil)))) (.cons (.tup (.cons (.con (.str (Str.ofString "run"))) (.cons (.con (.int (4))) (.cons (.con (.int (50))) .nil)))) .nil))))))))) (.cons (.set (.one 2) (.idx (.bin .Add (.var 4) (.lst (.cons (.tup (.cons (.con (.str (Str.ofString "under"))) (.cons (.con (.int (24))) .nil))) (.cons (.tup (.cons (.con (.str (Str.ofString "under"))) (.cons (.con (.int (25))) .nil))) (.cons (.tup (.cons (.con (.str (Str.ofString "alike"))) (.cons (.con (.int (1))) (.cons (.con (.int (5))) .nil)))) .nil))))) (.bin .Mod (.bin .FloorDiv (.var 1) (.con (.int (8192)))) (.con (.int (10)))))) .nil)) .nil) (.cons (.set (.one 3) (.call 1 (.cons (.var 2) .nil))) (.cons (.ret (.and (.blt (.isT .bl) (.cons (.var 3) .nil)) (.cmp .Eq (.var 3) (.call 11 (.cons (.var 2) .nil))))) .nil)))))))))))⟩
def ir_of_many : FDef := ⟨3, 3, (.cons (.ite (.cmp .Eq (.var 0) (.con (.int (1)))) (.cons (.ret (.bin .Add (.bin .Add (.blt .str (.cons (.var 0) .nil)) (.con (.str (Str.ofString " ")))) (.var 1))) .nil) .nil) (.cons (.ret (.bin .Add (.bin .Add (.blt .str (.cons (.var 0) .nil)) (.con (.str (Str.ofString " ")))) (.var 2))) .nil))⟩
def ir_box_text : FDef := ⟨1, 2, (.cons (.ret (.mth .join (.con (.str (Str.ofString " "))) (.cons (.lc false [1] (.one 1) (.seq (.var 0)) (.con (.bl true)) (.blt .str (.cons (.var 1) .nil))) .nil))) .nil)⟩
def ir_written : FDef := ⟨1, 7, (.cons (.set (.many [2, 3, 4, 5]) (.var 0)) (.cons (.set (.one 1) (.bin .Add (.bin .Add (.bin .Add (.bin .Add (.call 16 (.cons (.var 2) (.cons (.con (.str (Str.ofString "die"))) (.cons (.con (.str (Str.ofString "dice"))) .nil)))) (.con (.str (Str.ofString " of ")))) (.blt .str (.cons (.var 3) .nil))) (.con (.str (Str.ofString ", ")))) (.call 16 (.cons (.var 4) (.cons (.con (.str (Str.ofString "throw"))) (.cons (.con (.str (Str.ofString "throws"))) .nil)))))) (.cons (.ret (.mth .join (.con (.str (Str.ofString "; "))) (.cons (.bin .Add (.lst (.cons (.var 1) .nil)) (.lc false [6] (.one 6) (.seq (.var 5)) (.con (.bl true)) (.call 17 (.cons (.var 6) .nil)))) .nil))) .nil)))⟩
def ir_box_of : FDef := ⟨1, 3, (.cons (.set (.one 1) (.mth .split (.var 0) (.cons (.con (.str (Str.ofString " "))) .nil))) (.cons (.ret (.blt .tuple (.cons (.bin .Add (.sli (.var 1) .no (.is (.con (.int (1))))) (.lc false [2] (.one 2) (.seq (.sli (.var 1) (.is (.con (.int (1)))) .no)) (.con (.bl true)) (.call 21 (.cons (.var 2) .nil)))) .nil))) .nil))⟩
def ir_has_run : FDef := ⟨2, 4, (.cons (.ret (.blt .any (.cons (.lc false [2] (.one 2) (.seq (.var 0)) (.con (.bl true)) (.blt .all (.cons (.lc false [3] (.one 3) (.rng1 (.var 1)) (.con (.bl true)) (.cmp .In (.bin .Add (.var 2) (.var 3)) (.var 0))) .nil))) .nil))) .nil)⟩
def ir_points : FDef := ⟨2, 4, (.cons (.set (.one 2) (.idx (.var 0) (.con (.int (0))))) (.cons (.ite (.cmp .Eq (.var 2) (.con (.str (Str.ofString "face")))) (.cons (.ret (.bin .Mult (.idx (.var 0) (.con (.int (1)))) (.mth .count (.var 1) (.cons (.idx (.var 0) (.con (.int (1)))) .nil)))) .nil) .nil) (.cons (.ite (.cmp .Eq (.var 2) (.con (.str (Str.ofString "all")))) (.cons (.ret (.blt .sum (.cons (.var 1) .nil))) .nil) .nil) (.cons (.ite (.cmp .Eq (.var 2) (.con (.str (Str.ofString "alike")))) (.cons (.ret (.bin .Mult (.idx (.var 0) (.con (.int (2)))) (.blt .int (.cons (.blt .any (.cons (.lc false [3] (.one 3) (.seq (.var 1)) (.con (.bl true)) (.cmp .GtE (.mth .count (.var 1) (.cons (.var 3) .nil)) (.idx (.var 0) (.con (.int (1)))))) .nil)) .nil)))) .nil) .nil) (.cons (.ite (.cmp .Eq (.var 2) (.con (.str (Str.ofString "run")))) (.cons (.ret (.bin .Mult (.idx (.var 0) (.con (.int (2)))) (.blt .int (.cons (.call 38 (.cons (.var 1) (.cons (.idx (.var 0) (.con (.int (1)))) .nil))) .nil)))) .nil) .nil) (.cons (.ite (.cmp .Eq (.var 2) (.con (.str (Str.ofString "under")))) (.cons (.ret (.bin .Mult (.blt .sum (.cons (.var 1) .nil)) (.blt .int (.cons (.cmp .LtE (.blt .sum (.cons (.var 1) .nil)) (.idx (.var 0) (.con (.int (1))))) .nil)))) .nil) .nil) (.cons (.ret (.bin .Mult (.idx (.var 0) (.con (.int (1)))) (.blt .int (.cons (.blt .all (.cons (.lc false [3] (.one 3) (.seq (.var 1)) (.con (.bl true)) (.cmp .Eq (.bin .Mod (.var 3) (.con (.int (2)))) (.con (.int (0))))) .nil)) .nil)))) .nil)))))))⟩
def ir__law_points : FDef := ⟨2, 8, (.cons (.set (.one 2) (.idx (.var 0) (.con (.int (0))))) (.cons (.set (.one 3) (.lc false [5] (.one 5) (.rng1 (.con (.int (7)))) (.con (.bl true)) (.blt .len (.cons (.lc false [7] (.one 7) (.seq (.var 1)) (.cmp .Eq (.var 7) (.var 5)) (.var 7)) .nil)))) (.cons (.ite (.cmp .Eq (.var 2) (.con (.str (Str.ofString "face")))) (.cons (.ret (.bin .Mult (.idx (.var 0) (.con (.int (1)))) (.idx (.var 3) (.idx (.var 0) (.con (.int (1))))))) .nil) .nil) (.cons (.ite (.cmp .Eq (.var 2) (.con (.str (Str.ofString "alike")))) (.cons (.ret (.bin .Mult (.idx (.var 0) (.con (.int (2)))) (.blt .int (.cons (.cmp .GtE (.blt .max1 (.cons (.var 3) .nil)) (.idx (.var 0) (.con (.int (1))))) .nil)))) .nil) .nil) (.cons (.ite (.cmp .Eq (.var 2) (.con (.str (Str.ofString "run")))) (.cons (.set (.one 4) (.lc false [6] (.one 6) (.rng1 (.bin .Sub (.con (.int (7))) (.idx (.var 0) (.con (.int (1)))))) (.cmp .NotIn (.con (.int (0))) (.sli (.var 3) (.is (.bin .Add (.var 6) (.con (.int (1))))) (.is (.bin .Add (.bin .Add (.var 6) (.con (.int (1)))) (.idx (.var 0) (.con (.int (1)))))))) (.var 6))) (.cons (.ret (.bin .Mult (.idx (.var 0) (.con (.int (2)))) (.blt .int (.cons (.cmp .NotEq (.var 4) (.lst .nil)) .nil)))) .nil)) .nil) (.cons (.ite (.cmp .Eq (.var 2) (.con (.str (Str.ofString "even")))) (.cons (.ret (.bin .Mult (.idx (.var 0) (.con (.int (1)))) (.blt .int (.cons (.cmp .Eq (.lc false [7] (.one 7) (.seq (.var 1)) (.cmp .Eq (.bin .Mod (.var 7) (.con (.int (2)))) (.con (.int (1)))) (.var 7)) (.lst .nil)) .nil)))) .nil) .nil) (.cons (.ite (.and (.cmp .Eq (.var 2) (.con (.str (Str.ofString "under")))) (.cmp .Gt (.blt .sum (.cons (.var 1) .nil)) (.idx (.var 0) (.con (.int (1)))))) (.cons (.ret (.con (.int (0)))) .nil) .nil) (.cons (.ret (.blt .sum (.cons (.var 1) .nil))) .nil))))))))⟩
def ir_plain : FDef := ⟨2, 4, (.cons (.set (.one 2) (.blt .abs (.cons (.var 0) .nil))) (.cons (.set (.one 3) (.var 1)) (.cons (.whl (.cmp .Gt (.var 2) (.con (.int (0)))) (.cons (.set (.many [2, 3]) (.tup (.cons (.bin .Mod (.var 3) (.var 2)) (.cons (.var 2) .nil)))) .nil)) (.cons (.ret (.tup (.cons (.bin .FloorDiv (.var 0) (.var 3)) (.cons (.bin .FloorDiv (.var 1) (.var 3)) .nil)))) .nil))))⟩
def ir_counted : FDef := ⟨2, 9, (.cons (.set (.one 2) (.dct (.cons (.tup .nil) (.cons (.con (.int (1))) .nil)))) (.cons (.set (.one 3) (.con (.int (1)))) (.cons (.for (.one 4) (.rng1 (.var 0)) (.cons (.set (.one 5) (.dct .nil)) (.cons (.for (.one 6) (.keys (.var 2)) (.cons (.for (.one 7) (.rng2 (.con (.int (1))) (.bin .Add (.var 1) (.con (.int (1))))) (.cons (.set (.one 8) (.blt .tuple (.cons (.blt .sorted (.cons (.bin .Add (.var 6) (.tup (.cons (.var 7) .nil))) .nil)) .nil))) (.cons (.put (.var 5) (.var 8) (.bin .Add (.mth .get2 (.var 5) (.cons (.var 8) (.cons (.con (.int (0))) .nil))) (.idx (.var 2) (.var 6)))) .nil))) .nil)) (.cons (.set (.one 2) (.var 5)) (.cons (.set (.one 3) (.bin .Mult (.var 3) (.var 1))) .nil))))) (.cons (.ret (.tup (.cons (.var 2) (.cons (.var 3) .nil)))) .nil))))⟩
def ir_throws_of : FDef := ⟨2, 5, (.cons (.set (.many [2, 3]) (.call 43 (.cons (.var 0) (.cons (.var 1) .nil)))) (.cons (.ret (.blt .tuple (.cons (.lc false [4] (.one 4) (.seq (.blt .sorted (.cons (.var 2) .nil))) (.con (.bl true)) (.tup (.cons (.var 4) (.cons (.call 42 (.cons (.idx (.var 2) (.var 4)) (.cons (.var 3) .nil))) .nil)))) .nil))) .nil))⟩
def ir_keeps : FDef := ⟨1, 4, (.cons (.set (.one 1) (.dct (.cons (.tup .nil) (.cons (.con (.bl true)) .nil)))) (.cons (.for (.one 2) (.seq (.var 0)) (.cons (.for (.one 3) (.seq (.blt .list (.cons (.var 1) .nil))) (.cons (.put (.var 1) (.bin .Add (.var 3) (.tup (.cons (.var 2) .nil))) (.con (.bl true))) .nil)) .nil)) (.cons (.ret (.blt .tuple (.cons (.blt .sorted (.cons (.var 1) .nil)) .nil))) .nil)))⟩
def ir_after : FDef := ⟨2, 5, (.cons (.set (.one 2) (.lc false [3, 4] (.many [3, 4]) (.seq (.call 44 (.cons (.bin .Sub (.idx (.var 0) (.con (.int (0)))) (.blt .len (.cons (.var 1) .nil))) (.cons (.idx (.var 0) (.con (.int (1)))) .nil)))) (.con (.bl true)) (.tup (.cons (.blt .tuple (.cons (.blt .sorted (.cons (.bin .Add (.var 1) (.var 3)) .nil)) .nil)) (.cons (.var 4) .nil))))) (.cons (.ret (.blt .tuple (.cons (.blt .sorted (.cons (.var 2) .nil)) .nil))) .nil))⟩
def ir__law_plain : FDef := ⟨2, 4, (.cons (.set (.one 2) (.blt .abs (.cons (.var 0) .nil))) (.cons (.set (.one 3) (.var 1)) (.cons (.whl (.cmp .Gt (.var 2) (.con (.int (0)))) (.cons (.set (.many [2, 3]) (.tup (.cons (.bin .Mod (.var 3) (.var 2)) (.cons (.var 2) .nil)))) .nil)) (.cons (.ret (.tup (.cons (.bin .FloorDiv (.var 0) (.var 3)) (.cons (.bin .FloorDiv (.var 1) (.var 3)) .nil)))) .nil))))⟩
def ir__law_sum : FDef := ⟨1, 5, (.cons (.set (.one 1) (.con (.int (0)))) (.cons (.set (.one 2) (.con (.int (1)))) (.cons (.for (.many [3, 4]) (.seq (.var 0)) (.cons (.set (.one 1) (.bin .Add (.bin .Mult (.bin .Mult (.var 1) (.idx (.var 3) (.con (.int (1))))) (.idx (.var 4) (.con (.int (1))))) (.bin .Mult (.bin .Mult (.idx (.var 3) (.con (.int (0)))) (.idx (.var 4) (.con (.int (0))))) (.var 2)))) (.cons (.set (.one 2) (.bin .Mult (.bin .Mult (.var 2) (.idx (.var 3) (.con (.int (1))))) (.idx (.var 4) (.con (.int (1)))))) (.cons (.set (.many [1, 2]) (.call 47 (.cons (.var 1) (.cons (.var 2) .nil)))) .nil)))) (.cons (.ret (.tup (.cons (.var 1) (.cons (.var 2) .nil)))) .nil))))⟩
def ir__law_throws : FDef := ⟨2, 9, (.cons (.set (.one 2) (.lst (.cons (.tup .nil) .nil))) (.cons (.for (.one 3) (.rng1 (.bin .Sub (.idx (.var 0) (.con (.int (0)))) (.blt .len (.cons (.var 1) .nil)))) (.cons (.set (.one 6) (.lst .nil)) (.cons (.for (.one 5) (.seq (.var 2)) (.cons (.set (.one 6) (.bin .Add (.var 6) (.lc false [8] (.one 8) (.rng2 (.con (.int (1))) (.bin .Add (.idx (.var 0) (.con (.int (1)))) (.con (.int (1))))) (.con (.bl true)) (.bin .Add (.var 5) (.tup (.cons (.var 8) .nil)))))) .nil)) (.cons (.set (.one 2) (.var 6)) .nil)))) (.cons (.set (.one 4) (.dct .nil)) (.cons (.for (.one 5) (.seq (.var 2)) (.cons (.set (.one 7) (.blt .tuple (.cons (.blt .sorted (.cons (.bin .Add (.var 1) (.var 5)) .nil)) .nil))) (.cons (.put (.var 4) (.var 7) (.bin .Add (.mth .get2 (.var 4) (.cons (.var 7) (.cons (.con (.int (0))) .nil))) (.con (.int (1))))) .nil))) (.cons (.ret (.lc false [7] (.one 7) (.seq (.blt .sorted (.cons (.var 4) .nil))) (.con (.bl true)) (.tup (.cons (.var 7) (.cons (.call 47 (.cons (.idx (.var 4) (.var 7)) (.cons (.blt .len (.cons (.var 2) .nil)) .nil))) .nil))))) .nil)))))⟩
def ir__law_keeps : FDef := ⟨1, 5, (.cons (.set (.one 1) (.dct .nil)) (.cons (.for (.one 2) (.rng1 (.con (.int (16)))) (.cons (.put (.var 1) (.blt .tuple (.cons (.lc false [3, 4] (.many [3, 4]) (.enum (.var 0)) (.cmp .Eq (.bin .Mod (.bin .FloorDiv (.var 2) (.idx (.tup (.cons (.con (.int (1))) (.cons (.con (.int (2))) (.cons (.con (.int (4))) (.cons (.con (.int (8))) .nil))))) (.var 3))) (.con (.int (2)))) (.con (.int (1)))) (.var 4)) .nil)) (.con (.bl true))) .nil)) (.cons (.ret (.blt .sorted (.cons (.var 1) .nil))) .nil)))⟩
def ir_law_k11 : FDef := ⟨1, 5, (.cons (.set (.one 1) (.call 7 (.cons (.call 4 (.cons (.var 0) (.cons (.con (.int (0))) .nil))) (.cons (.con (.int (1))) .nil)))) (.cons (.set (.one 1) (.bin .Add (.tup (.cons (.idx (.var 1) (.con (.int (0)))) (.cons (.blt .min2 (.cons (.idx (.var 1) (.con (.int (1)))) (.cons (.con (.int (5))) .nil))) .nil))) (.sli (.var 1) (.is (.con (.int (2)))) .no))) (.cons (.ite (.cmp .NotEq (.call 44 (.cons (.idx (.var 1) (.con (.int (0)))) (.cons (.idx (.var 1) (.con (.int (1)))) .nil))) (.blt .tuple (.cons (.call 49 (.cons (.var 1) (.cons (.tup .nil) .nil))) .nil))) (.cons (.ret (.con (.bl false))) .nil) .nil) (.cons (.set (.one 2) (.call 8 (.cons (.var 1) (.cons (.call 4 (.cons (.var 0) (.cons (.con (.int (1))) .nil))) .nil)))) (.cons (.set (.one 3) (.call 50 (.cons (.var 2) .nil))) (.cons (.ite (.cmp .NotEq (.call 45 (.cons (.var 2) .nil)) (.blt .tuple (.cons (.var 3) .nil))) (.cons (.ret (.con (.bl false))) .nil) .nil) (.cons (.set (.one 4) (.idx (.var 3) (.bin .Mod (.call 4 (.cons (.var 0) (.cons (.con (.int (2))) .nil))) (.blt .len (.cons (.var 3) .nil))))) (.cons (.ret (.and (.cmp .Eq (.call 46 (.cons (.var 1) (.cons (.var 4) .nil))) (.blt .tuple (.cons (.call 49 (.cons (.var 1) (.cons (.var 4) .nil))) .nil))) (.cmp .Eq (.call 44 (.cons (.con (.int (0))) (.cons (.idx (.var 1) (.con (.int (1)))) .nil))) (.tup (.cons (.tup (.cons (.tup .nil) (.cons (.tup (.cons (.con (.int (1))) (.cons (.con (.int (1))) .nil))) .nil))) .nil))))) .nil))))))))⟩
def ir__law_some : FDef := ⟨2, 3, (.cons (.for (.one 2) (.seq (.var 0)) (.cons (.ite (.cmp .Gt (.mth .count (.var 0) (.cons (.var 2) .nil)) (.mth .count (.var 1) (.cons (.var 2) .nil))) (.cons (.ret (.con (.bl false))) .nil) .nil) .nil)) (.cons (.ret (.con (.bl true))) .nil))⟩
def ir_law_k12 : FDef := ⟨1, 13, (.cons (.set (.one 1) (.call 7 (.cons (.call 4 (.cons (.var 0) (.cons (.con (.int (0))) .nil))) (.cons (.con (.int (0))) .nil)))) (.cons (.set (.one 2) (.call 44 (.cons (.idx (.var 1) (.con (.int (0)))) (.cons (.idx (.var 1) (.con (.int (1)))) .nil)))) (.cons (.ite (.cmp .NotEq (.call 48 (.cons (.lc false [3, 8] (.many [3, 8]) (.seq (.var 2)) (.con (.bl true)) (.tup (.cons (.var 8) (.cons (.tup (.cons (.con (.int (1))) (.cons (.con (.int (1))) .nil))) .nil)))) .nil)) (.tup (.cons (.con (.int (1))) (.cons (.con (.int (1))) .nil)))) (.cons (.ret (.con (.bl false))) .nil) .nil) (.cons (.set (.one 3) (.call 8 (.cons (.var 1) (.cons (.call 4 (.cons (.var 0) (.cons (.con (.int (1))) .nil))) .nil)))) (.cons (.set (.one 4) (.sli (.var 3) .no (.is (.bin .Mod (.call 4 (.cons (.var 0) (.cons (.con (.int (2))) .nil))) (.bin .Add (.idx (.var 1) (.con (.int (0)))) (.con (.int (1)))))))) (.cons (.set (.one 5) (.call 46 (.cons (.var 1) (.cons (.var 4) .nil)))) (.cons (.ite (.cmp .NotEq (.call 48 (.cons (.lc false [7, 8] (.many [7, 8]) (.seq (.var 5)) (.con (.bl true)) (.tup (.cons (.var 8) (.cons (.tup (.cons (.con (.int (1))) (.cons (.con (.int (1))) .nil))) .nil)))) .nil)) (.tup (.cons (.con (.int (1))) (.cons (.con (.int (1))) .nil)))) (.cons (.ret (.con (.bl false))) .nil) .nil) (.cons (.ite (.cmp .NotEq (.lc false [7, 8] (.many [7, 8]) (.seq (.var 5)) (.or (.not (.call 52 (.cons (.var 4) (.cons (.var 7) .nil)))) (.cmp .Lt (.idx (.var 8) (.con (.int (0)))) (.con (.int (1))))) (.var 7)) (.lst .nil)) (.cons (.ret (.con (.bl false))) .nil) .nil) (.cons (.set (.one 6) (.dct .nil)) (.cons (.for (.many [7, 8]) (.seq (.var 5)) (.cons (.for (.many [10, 11]) (.seq (.call 46 (.cons (.var 1) (.cons (.var 4) .nil)))) (.cons (.put (.var 6) (.var 10) (.call 48 (.cons (.lst (.cons (.tup (.cons (.tup (.cons (.con (.int (1))) (.cons (.con (.int (1))) .nil))) (.cons (.mth .get2 (.var 6) (.cons (.var 10) (.cons (.tup (.cons (.con (.int (0))) (.cons (.con (.int (1))) .nil))) .nil))) .nil))) (.cons (.tup (.cons (.var 8) (.cons (.var 11) .nil))) .nil))) .nil))) .nil)) .nil)) (.cons (.ite (.cmp .NotEq (.blt .tuple (.cons (.blt .srtI (.cons (.var 6) .nil)) .nil)) (.var 5)) (.cons (.ret (.con (.bl false))) .nil) .nil) (.cons (.set (.one 6) (.dct .nil)) (.cons (.for (.many [9, 8]) (.seq (.call 44 (.cons (.bin .Sub (.idx (.var 1) (.con (.int (0)))) (.con (.int (1)))) (.cons (.idx (.var 1) (.con (.int (1)))) .nil)))) (.cons (.for (.many [11, 12]) (.seq (.call 44 (.cons (.con (.int (1))) (.cons (.idx (.var 1) (.con (.int (1)))) .nil)))) (.cons (.set (.one 3) (.blt .tuple (.cons (.blt .sorted (.cons (.bin .Add (.var 9) (.var 11)) .nil)) .nil))) (.cons (.put (.var 6) (.var 3) (.call 48 (.cons (.lst (.cons (.tup (.cons (.tup (.cons (.con (.int (1))) (.cons (.con (.int (1))) .nil))) (.cons (.mth .get2 (.var 6) (.cons (.var 3) (.cons (.tup (.cons (.con (.int (0))) (.cons (.con (.int (1))) .nil))) .nil))) .nil))) (.cons (.tup (.cons (.var 8) (.cons (.var 12) .nil))) .nil))) .nil))) .nil))) .nil)) (.cons (.ret (.cmp .Eq (.blt .tuple (.cons (.blt .srtI (.cons (.var 6) .nil)) .nil)) (.var 2))) .nil))))))))))))))⟩
def ir_law_k15 : FDef := ⟨1, 13, (.cons (.set (.one 1) (.call 7 (.cons (.call 4 (.cons (.var 0) (.cons (.con (.int (0))) .nil))) (.cons (.con (.int (1))) .nil)))) (.cons (.set (.many [4, 5]) (.tup (.cons (.blt .min2 (.cons (.idx (.var 1) (.con (.int (0)))) (.cons (.con (.int (3))) .nil))) (.cons (.blt .min2 (.cons (.idx (.var 1) (.con (.int (1)))) (.cons (.con (.int (4))) .nil))) .nil)))) (.cons (.set (.one 1) (.bin .Add (.tup (.cons (.var 4) (.cons (.var 5) .nil))) (.sli (.var 1) (.is (.con (.int (2)))) .no))) (.cons (.set (.one 2) (.call 8 (.cons (.var 1) (.cons (.call 4 (.cons (.var 0) (.cons (.con (.int (1))) .nil))) .nil)))) (.cons (.for (.one 3) (.seq (.call 45 (.cons (.var 2) .nil))) (.cons (.set (.one 6) (.lstM .nil)) (.cons (.for (.many [7, 8]) (.seq (.call 44 (.cons (.bin .Sub (.var 4) (.blt .len (.cons (.var 3) .nil))) (.cons (.var 5) .nil)))) (.cons (.exp (.mth .append (.var 6) (.cons (.tup (.cons (.blt .tuple (.cons (.blt .sorted (.cons (.bin .Add (.var 3) (.var 7)) .nil)) .nil)) (.cons (.var 8) .nil))) .nil))) .nil)) (.cons (.ite (.cmp .NotEq (.call 46 (.cons (.var 1) (.cons (.var 3) .nil))) (.blt .tuple (.cons (.blt .sorted (.cons (.var 6) .nil)) .nil))) (.cons (.ret (.con (.bl false))) .nil) .nil) .nil)))) (.cons (.ite (.or (.cmp .NotEq (.call 46 (.cons (.var 1) (.cons (.var 2) .nil))) (.tup (.cons (.tup (.cons (.var 2) (.cons (.tup (.cons (.con (.int (1))) (.cons (.con (.int (1))) .nil))) .nil))) .nil))) (.cmp .NotEq (.call 46 (.cons (.var 1) (.cons (.tup .nil) .nil))) (.call 44 (.cons (.var 4) (.cons (.var 5) .nil))))) (.cons (.ret (.con (.bl false))) .nil) .nil) (.cons (.for (.many [7, 8]) (.seq (.call 44 (.cons (.var 4) (.cons (.var 5) .nil)))) (.cons (.set (.many [10, 11]) (.tup (.cons (.con (.int (1))) (.cons (.var 4) .nil)))) (.cons (.for (.one 9) (.rng2 (.con (.int (1))) (.bin .Add (.var 5) (.con (.int (1))))) (.cons (.for (.one 12) (.rng1 (.mth .count (.var 7) (.cons (.var 9) .nil))) (.cons (.set (.one 10) (.bin .FloorDiv (.bin .Mult (.var 10) (.var 11)) (.bin .Add (.var 12) (.con (.int (1)))))) (.cons (.set (.one 11) (.bin .Sub (.var 11) (.con (.int (1))))) .nil))) .nil)) (.cons (.ite (.cmp .NotEq (.call 47 (.cons (.var 10) (.cons (.idx (.tup (.cons (.con (.int (1))) (.cons (.var 5) (.cons (.bin .Mult (.var 5) (.var 5)) (.cons (.bin .Mult (.bin .Mult (.var 5) (.var 5)) (.var 5)) .nil))))) (.var 4)) .nil))) (.var 8)) (.cons (.ret (.con (.bl false))) .nil) .nil) .nil)))) (.cons (.ret (.cmp .Eq (.call 44 (.cons (.con (.int (0))) (.cons (.var 5) .nil))) (.tup (.cons (.tup (.cons (.tup .nil) (.cons (.tup (.cons (.con (.int (1))) (.cons (.con (.int (1))) .nil))) .nil))) .nil)))) .nil))))))))⟩
def ir_moves : FDef := ⟨2, 8, (.cons (.set (.many [3, 4, 5]) (.var 1)) (.cons (.set (.one 2) (.lc true [6] (.one 6) (.seq (.var 3)) (.con (.bl true)) (.tup (.cons (.con (.str (Str.ofString "fill"))) (.cons (.var 6) .nil))))) (.cons (.ite (.cmp .Gt (.var 4) (.con (.int (0)))) (.cons (.exp (.mth .extend (.var 2) (.cons (.lc false [7] (.one 7) (.seq (.call 45 (.cons (.var 5) .nil))) (.con (.bl true)) (.tup (.cons (.con (.str (Str.ofString "keep"))) (.cons (.var 7) .nil)))) .nil))) .nil) .nil) (.cons (.ret (.blt .tuple (.cons (.var 2) .nil))) .nil))))⟩
def ir_begins : FDef := ⟨2, 4, (.cons (.ite (.cmp .Eq (.blt .len (.cons (.var 1) .nil)) (.con (.int (0)))) (.cons (.ret (.tup .nil)) .nil) .nil) (.cons (.ret (.blt .tuple (.cons (.lc false [2, 3] (.many [2, 3]) (.seq (.call 44 (.cons (.idx (.var 0) (.con (.int (0)))) (.cons (.idx (.var 0) (.con (.int (1)))) .nil)))) (.con (.bl true)) (.tup (.cons (.tup (.cons (.var 1) (.cons (.bin .Sub (.idx (.var 0) (.con (.int (2)))) (.con (.int (1)))) (.cons (.var 2) .nil)))) (.cons (.var 3) .nil)))) .nil))) .nil))⟩
def ir_comes : FDef := ⟨3, 10, (.cons (.set (.many [4, 5, 6]) (.var 1)) (.cons (.ite (.cmp .Eq (.idx (.var 2) (.con (.int (0)))) (.con (.str (Str.ofString "keep")))) (.cons (.ret (.tup (.cons (.con (.int (0))) (.cons (.blt .tuple (.cons (.lc false [8, 9] (.many [8, 9]) (.seq (.call 46 (.cons (.var 0) (.cons (.idx (.var 2) (.con (.int (1)))) .nil)))) (.con (.bl true)) (.tup (.cons (.tup (.cons (.var 4) (.cons (.bin .Sub (.var 5) (.con (.int (1)))) (.cons (.var 8) .nil)))) (.cons (.var 9) .nil)))) .nil)) .nil)))) .nil) .nil) (.cons (.set (.one 3) (.blt .tuple (.cons (.lc false [7] (.one 7) (.seq (.var 4)) (.cmp .NotEq (.var 7) (.idx (.var 2) (.con (.int (1))))) (.var 7)) .nil))) (.cons (.ret (.tup (.cons (.call 39 (.cons (.idx (.idx (.var 0) (.con (.int (3)))) (.idx (.var 2) (.con (.int (1))))) (.cons (.var 6) .nil))) (.cons (.call 59 (.cons (.var 0) (.cons (.var 3) .nil))) .nil)))) .nil))))⟩
def ir__law_moves : FDef := ⟨1, 6, (.cons (.set (.many [1, 2, 3]) (.var 0)) (.cons (.ret (.bin .Add (.lc false [4] (.one 4) (.seq (.var 1)) (.con (.bl true)) (.tup (.cons (.con (.str (Str.ofString "fill"))) (.cons (.var 4) .nil)))) (.bin .Mult (.lc false [5] (.one 5) (.seq (.call 50 (.cons (.var 3) .nil))) (.con (.bl true)) (.tup (.cons (.con (.str (Str.ofString "keep"))) (.cons (.var 5) .nil)))) (.blt .int (.cons (.cmp .Gt (.var 2) (.con (.int (0)))) .nil))))) .nil))⟩
def ir__law_begins : FDef := ⟨2, 4, (.cons (.ite (.cmp .Eq (.var 1) (.tup .nil)) (.cons (.ret (.lst .nil)) .nil) .nil) (.cons (.ret (.lc false [2, 3] (.many [2, 3]) (.seq (.call 49 (.cons (.var 0) (.cons (.tup .nil) .nil)))) (.con (.bl true)) (.tup (.cons (.tup (.cons (.var 1) (.cons (.bin .Sub (.idx (.var 0) (.con (.int (2)))) (.con (.int (1)))) (.cons (.var 2) .nil)))) (.cons (.var 3) .nil))))) .nil))⟩
def ir__law_comes : FDef := ⟨3, 10, (.cons (.set (.many [4, 5, 6]) (.var 1)) (.cons (.ite (.cmp .Eq (.idx (.var 2) (.con (.int (0)))) (.con (.str (Str.ofString "keep")))) (.cons (.ret (.tup (.cons (.con (.int (0))) (.cons (.lc false [8, 9] (.many [8, 9]) (.seq (.call 49 (.cons (.var 0) (.cons (.idx (.var 2) (.con (.int (1)))) .nil)))) (.con (.bl true)) (.tup (.cons (.tup (.cons (.var 4) (.cons (.bin .Sub (.var 5) (.con (.int (1)))) (.cons (.var 8) .nil)))) (.cons (.var 9) .nil)))) .nil)))) .nil) .nil) (.cons (.set (.one 3) (.blt .tuple (.cons (.lc false [7] (.one 7) (.seq (.var 4)) (.cmp .NotEq (.var 7) (.idx (.var 2) (.con (.int (1))))) (.var 7)) .nil))) (.cons (.ret (.tup (.cons (.call 40 (.cons (.idx (.idx (.var 0) (.con (.int (3)))) (.idx (.var 2) (.con (.int (1))))) (.cons (.var 6) .nil))) (.cons (.call 62 (.cons (.var 0) (.cons (.var 3) .nil))) .nil)))) .nil))))⟩
def ir_law_k20 : FDef := ⟨1, 8, (.cons (.set (.one 1) (.call 7 (.cons (.call 4 (.cons (.var 0) (.cons (.con (.int (0))) .nil))) (.cons (.con (.int (0))) .nil)))) (.cons (.set (.one 2) (.call 9 (.cons (.var 1) (.cons (.call 4 (.cons (.var 0) (.cons (.con (.int (1))) .nil))) .nil)))) (.cons (.set (.one 3) (.call 61 (.cons (.var 2) .nil))) (.cons (.ite (.cmp .NotEq (.call 58 (.cons (.var 1) (.cons (.var 2) .nil))) (.blt .tuple (.cons (.blt .sorted (.cons (.var 3) .nil)) .nil))) (.cons (.ret (.con (.bl false))) .nil) .nil) (.cons (.for (.one 4) (.seq (.var 3)) (.cons (.set (.many [6, 7]) (.call 63 (.cons (.var 1) (.cons (.var 2) (.cons (.var 4) .nil))))) (.cons (.set (.one 5) (.call 60 (.cons (.var 1) (.cons (.var 2) (.cons (.var 4) .nil))))) (.cons (.ite (.or (.cmp .NotEq (.var 5) (.tup (.cons (.var 6) (.cons (.blt .tuple (.cons (.var 7) .nil)) .nil)))) (.blt (.isT .bl) (.cons (.idx (.var 5) (.con (.int (0)))) .nil))) (.cons (.ret (.con (.bl false))) .nil) .nil) .nil)))) (.cons (.ret (.con (.bl true))) .nil))))))⟩
def gfn : Nat → Option FDef
  | 0 => some ir_is_whole
  | 1 => some ir_is_box
  | 2 => some ir_is_game
  | 3 => some ir__law_cell_at
  | 4 => some ir__law_mixed
  | 5 => some ir__law_drawn
  | 6 => some ir__law_box
  | 7 => some ir__law_game
  | 8 => some ir__law_dice
  | 9 => some ir__law_stand
  | 10 => some ir__law_from
  | 11 => some ir__law_is_box
  | 12 => some ir__law_is_game
  | 13 => some ir__law_odd
  | 14 => some ir__law_spoilt
  | 15 => some ir_law_k01
  | 16 => some ir_of_many
  | 17 => some ir_box_text
  | 18 => some ir_written
  | 22 => some ir_box_of
  | 38 => some ir_has_run
  | 39 => some ir_points
  | 40 => some ir__law_points
  | 42 => some ir_plain
  | 43 => some ir_counted
  | 44 => some ir_throws_of
  | 45 => some ir_keeps
  | 46 => some ir_after
  | 47 => some ir__law_plain
  | 48 => some ir__law_sum
  | 49 => some ir__law_throws
  | 50 => some ir__law_keeps
  | 51 => some ir_law_k11
  | 52 => some ir__law_some
  | 53 => some ir_law_k12
  | 57 => some ir_law_k15
  | 58 => some ir_moves
  | 59 => some ir_begins
  | 60 => some ir_comes
  | 61 => some ir__law_moves
  | 62 => some ir__law_begins
  | 63 => some ir__law_comes
  | 64 => some ir_law_k20
  | _ => none
def G : Prg := ⟨gfn, fun _ _ => none, fun _ => none, 100000⟩
end EV
/-! Pu1: plain laws: what the laws' own small functions compute. -/
namespace EV
open PySem

/-! ### calls that keep the store -/
theorem keepN_self (st : Store) : keepN st.length st st = true := by simp [keepN]
@[simp] theorem backV_self (st : Store) (v : D) : backV st v st = .ok v st := by
  unfold backV
  split <;> simp
@[simp] theorem backR_rt (st : Store) (v : D) : backR st (.ok (.rt v) st) = .ok v st := backV_self st v
@[simp] theorem backR_err (st : Store) (k : Nat) : backR st (.err k st) = .err k st := by
  simp only [backR, backX]
  split <;> simp
theorem call_of {n f : Nat} {d : FDef} {args : List D} {st : Store} (h : G.fn f = some d) (ha : args.length = d.np) :
    G.call (n + 1) f args st = backR st (evSs (G.ctx n) d.body (args.map some ++ List.replicate (d.ns - d.np) none) st) := by
  rw [Prg.call_succ G n f args st h, FDef.run, if_pos ha]
/-! ### the evaluator's equations, but that of comprehensions -/
section
variable {C : Ctx} {env : Env} {st : Store}
@[simp] theorem e_var (i : Nat) : evE C (.var i) env st = match env[i]? with | some (some d) => .ok d st | _ => .bad := by rw [evE] <;> rfl
@[simp] theorem e_con (d : D) : evE C (.con d) env st = .ok d st := by rw [evE]
@[simp] theorem e_bin (op : Operator) (a b : E) : evE C (.bin op a b) env st = (evE C a env st).bind fun x st => (evE C b env st).bind fun y st => binD op x y st := by rw [evE]
@[simp] theorem e_cmp (op : CmpOp) (a b : E) : evE C (.cmp op a b) env st = (evE C a env st).bind fun x st => (evE C b env st).bind fun y st => cmpD op x y st := by rw [evE]
@[simp] theorem e_and (a b : E) : evE C (.and a b) env st = (evE C a env st).bind fun x st => match x with
    | .bl true => evE C b env st
    | .bl false => .ok (.bl false) st
    | _ => .bad := by rw [evE] <;> rfl
@[simp] theorem e_or (a b : E) : evE C (.or a b) env st = (evE C a env st).bind fun x st => match x with
    | .bl true => .ok (.bl true) st
    | .bl false => evE C b env st
    | _ => .bad := by rw [evE] <;> rfl
@[simp] theorem e_not (a : E) : evE C (.not a) env st = (evE C a env st).bind fun x st => match x with
    | .bl b => .ok (.bl (!b)) st
    | _ => .bad := by rw [evE] <;> rfl
@[simp] theorem e_neg (a : E) : evE C (.neg a) env st = (evE C a env st).bind fun x st => match x with
    | .int i => .ok (.int (-i)) st
    | _ => .bad := by rw [evE] <;> rfl
@[simp] theorem e_tup (es : Es) : evE C (.tup es) env st = (evEs C es env st).bind fun xs st => R.test (decide (xs.length ≤ 1000)) (.ok (.tup xs) st) := by rw [evE]
@[simp] theorem e_lst (es : Es) : evE C (.lst es) env st = (evEs C es env st).bind fun xs st => R.test (decide (xs.length ≤ 1000)) (.ok (.lst xs) st) := by rw [evE]
@[simp] theorem e_idx (a b : E) : evE C (.idx a b) env st = (evE C a env st).bind fun x st => (evE C b env st).bind fun y st => idxD x y st := by rw [evE]
@[simp] theorem e_sli (a : E) (l h : Po) : evE C (.sli a l h) env st = (evE C a env st).bind fun x st => (evP C l env st).bind fun l st => (evP C h env st).bind fun h st => sliD x l h st := by rw [evE]
@[simp] theorem e_rev (a : E) : evE C (.rev a) env st = (evE C a env st).bind fun x st => match x with
    | .lst xs => .ok (.lst xs.reverse) st
    | .tup xs => .ok (.tup xs.reverse) st
    | _ => .bad := by rw [evE] <;> rfl
@[simp] theorem e_stp (a : E) (l h : Po) (c : E) : evE C (.stp a l h c) env st = (evE C a env st).bind fun x st => (evP C l env st).bind fun l st => (evP C h env st).bind fun h st => (evE C c env st).bind fun k st => stpD x l h k st := by rw [evE]
@[simp] theorem e_lstM (es : Es) : evE C (.lstM es) env st = (evEs C es env st).bind fun xs st => R.test (decide (xs.length ≤ 1000)) (.ok (.ref st.length) (st ++ [.lst xs])) := by rw [evE]
@[simp] theorem e_dct (es : Es) : evE C (.dct es) env st = (evEs C es env (st ++ [.dic []])).bind fun xs st' => (R.of (pairUp xs) st').bind fun ps st' => match st'[st.length]? with
    | some (.dic []) => R.test (keysOk ps && decide (ps.length ≤ 15)) (.ok (.ref st.length) (st'.set st.length (.dic (dputs [] ps))))
    | _ => .bad := by rw [evE] <;> rfl
@[simp] theorem i_keys (e : E) : evI C (.keys e) env st = (evE C e env st).bind fun x st => keysIt x st := by rw [evI]
@[simp] theorem i_items (e : E) : evI C (.items e) env st = (evE C e env st).bind fun x st => itemsIt x st := by rw [evI]
@[simp] theorem i_enum (e : E) : evI C (.enum e) env st = (evE C e env st).bind fun x st => match x with
    | .tup xs => .ok (enumL 0 xs, .no) st
    | .lst xs => .ok (enumL 0 xs, .no) st
    | _ => .bad := by rw [evI] <;> rfl
@[simp] theorem s_putE (o k e : E) : evS C (.put o k e) env st = (evE C e env st).bind fun v st => (evE C o env st).bind fun x st => (evE C k env st).bind fun y st => match x with
    | .ref i => match st[i]? with
      | some (.dic kvs) => R.test (keyOk kvs y && decide (kvs.length < 1000000)) (.ok (.nx env) (st.set i (.dic (dput kvs y v))))
      | _ => .bad
    | _ => .bad := by rw [evS] <;> rfl
@[simp] theorem s_expE (e : E) : evS C (.exp e) env st = (evE C e env st).bind fun _ st => .ok (.nx env) st := by rw [evS]
@[simp] theorem s_retNE : evS C .retN env st = .ok (.rt .non) st := by rw [evS]
theorem s_forE (t : Tg) (it : It) (b : Ss) : evS C (.for t it b) env st = (evI C it env st).bind fun p st => p.2.out (forL p.2 t (evSs C b) p.1 env (p.2.lock st)) := by rw [evS]
theorem s_whlE (c : E) (b : Ss) : evS C (.whl c b) env st = whlL (evE C c) (evSs C b) C.wfuel env st := by rw [evS]
@[simp] theorem e_call (f : Nat) (es : Es) : evE C (.call f es) env st = (evEs C es env st).bind fun xs st => C.call f xs st := by rw [evE]
@[simp] theorem e_blt (f : Blt) (es : Es) : evE C (.blt f es) env st = (evEs C es env st).bind fun xs st => bltD f xs st := by rw [evE]
@[simp] theorem e_mth (m : Mth) (o : E) (es : Es) : evE C (.mth m o es) env st = (evE C o env st).bind fun x st => R.test (m.ok x st) ((evEs C es env st).bind fun xs st => mthD m x xs st) := by rw [evE]
@[simp] theorem es_nil : evEs C .nil env st = .ok [] st := by rw [evEs]
@[simp] theorem es_cons (e : E) (es : Es) : evEs C (.cons e es) env st = (evE C e env st).bind fun x st => (evEs C es env st).bind fun xs st => .ok (x :: xs) st := by rw [evEs]
@[simp] theorem p_no : evP C .no env st = .ok none st := by rw [evP]
@[simp] theorem p_is (e : E) : evP C (.is e) env st = (evE C e env st).bind fun x st => match x with
    | .int i => .ok (some i) st
    | _ => .bad := by rw [evP] <;> rfl
@[simp] theorem i_seq (e : E) : evI C (.seq e) env st = (evE C e env st).bind fun x st => seqIt x st := by rw [evI]
@[simp] theorem i_rng1 (e : E) : evI C (.rng1 e) env st = (evE C e env st).bind fun x st => rng2 (.int 0) x st := by rw [evI]
@[simp] theorem i_rng2 (a b : E) : evI C (.rng2 a b) env st = (evE C a env st).bind fun x st => (evE C b env st).bind fun y st => rng2 x y st := by rw [evI]
@[simp] theorem s_setE (t : Tg) (e : E) : evS C (.set t e) env st = (evE C e env st).bind fun x st => (R.of (asg t x env) st).bind fun env st => .ok (.nx env) st := by rw [evS]
@[simp] theorem s_retE (e : E) : evS C (.ret e) env st = (evE C e env st).bind fun v st => .ok (.rt v) st := by rw [evS]
@[simp] theorem s_iteE (c : E) (a b : Ss) : evS C (.ite c a b) env st = (evE C c env st).bind fun x st => match x with
    | .bl true => evSs C a env st
    | .bl false => evSs C b env st
    | _ => .bad := by rw [evS] <;> rfl
@[simp] theorem ss_nilE : evSs C .nil env st = .ok (.nx env) st := by rw [evSs]
@[simp] theorem ss_consE (s : S) (ss : Ss) : evSs C (.cons s ss) env st = (evS C s env st).bind fun f st => match f with
    | .nx env => evSs C ss env st
    | .rt v => .ok (.rt v) st
    | .bk env => .ok (.bk env) st
    | .ct env => .ok (.ct env) st := by rw [evSs] <;> rfl
end
theorem big1 (j : Int) (h : j.natAbs < 2 ^ 63) (i : Int) (st : Store) : binD .Mult (.int i) (.int j) st = .ok (.int (i * j)) st := by
  simp only [binD]
  simp [h]
theorem big0 (i : Int) (h : i.natAbs < 2 ^ 63) (j : Int) (st : Store) : binD .Mult (.int i) (.int j) st = .ok (.int (i * j)) st := by
  simp only [binD]
  simp [h]
theorem mod1 (i j : Int) (h : 0 < j) (st : Store) : binD .Mod (.int i) (.int j) st = .ok (.int (i % j)) st := by
  simp only [binD]
  simp [h]
theorem div1 (i j : Int) (h : 0 < j) (h2 : j < 2 ^ 63) (st : Store) : binD .FloorDiv (.int i) (.int j) st = .ok (.int (i / j)) st := by
  simp only [binD]
  have : j < 2 ^ 4000 := Int.lt_trans h2 (by decide +kernel)
  simp [h, this]
@[simp] theorem add1 (i j : Int) (st : Store) : binD .Add (.int i) (.int j) st = .ok (.int (i + j)) st := rfl
@[simp] theorem sub1 (i j : Int) (st : Store) : binD .Sub (.int i) (.int j) st = .ok (.int (i - j)) st := rfl
@[simp] theorem addL (a b : List D) (st : Store) : binD .Add (.lst a) (.lst b) st = R.test (decide (a.length + b.length ≤ lim)) (.ok (.lst (a ++ b)) st) := rfl
@[simp] theorem addT (a b : List D) (st : Store) : binD .Add (.tup a) (.tup b) st = R.test (decide (a.length + b.length ≤ lim)) (.ok (.tup (a ++ b)) st) := rfl
@[simp] theorem addS (a b : Str) (st : Store) : binD .Add (.str a) (.str b) st = R.test (decide (a.length + b.length ≤ lim)) (.ok (.str (a ++ b)) st) := rfl
theorem getAt_nat {α : Type} (xs : List α) (k : Nat) (h : k < xs.length) : getAt xs (k : Int) = some xs[k] := by
  simp [getAt, ix, h]
/-- script's number -/
def cellAt (ns : List Int) (k : Nat) : Int := ns.getD k 0
theorem p_cell (n : Nat) (ns : List Int) (k : Nat) (st : Store) : G.call (n + 1) 3 [.scr ns, .int k] st = .ok (.int (cellAt ns k)) st := by
  rw [call_of (d := ir__law_cell_at) rfl rfl]
  simp only [ir__law_cell_at]
  by_cases h : k < ns.length
  · simp [h, bltD, cmpD, seqOf, idxD, getAt_nat, cellAt]
  · simp [h, bltD, cmpD, seqOf, cellAt]
def mix1 (x : Int) (k : Nat) : Int := (x + 7919 * k + 1) * 48271 % 2147483647
def mixed (ns : List Int) (k : Nat) : Int := (mix1 (cellAt ns k) k * mix1 (cellAt ns k) k + 7 * mix1 (cellAt ns k) k + k) % 2147483629
theorem p_mixed (n : Nat) (ns : List Int) (k : Nat) (st : Store) : G.call (n + 2) 4 [.scr ns, .int k] st = .ok (.int (mixed ns k)) st := by
  rw [call_of (d := ir__law_mixed) rfl rfl]
  have hb : (mix1 (cellAt ns k) k).natAbs < 2 ^ 63 := by
    have h1 : 0 ≤ mix1 (cellAt ns k) k := Int.emod_nonneg _ (by decide)
    have h2 : mix1 (cellAt ns k) k < 2147483647 := Int.emod_lt_of_pos _ (by decide)
    omega
  simp only [ir__law_mixed]
  simp [p_cell, big1, big0, mod1, asg]
  rw [show ((cellAt ns k + 7919 * ↑k + 1) * 48271 % 2147483647) = mix1 (cellAt ns k) k from rfl, big0 _ hb]
  simp [mod1, mixed]
def drw1 (x : Int) (k : Nat) : Int := (x + 104729 * k + 17) * 69621 % 2147483647
def drawn (x : Int) (k : Nat) : Int := (drw1 x k * drw1 x k + 3 * drw1 x k + k) % 2147483629
theorem p_drawn (n : Nat) (x : Int) (k : Nat) (st : Store) : G.call (n + 1) 5 [.int x, .int k] st = .ok (.int (drawn x k)) st := by
  rw [call_of (d := ir__law_drawn) rfl rfl]
  have hb : (drw1 x k).natAbs < 2 ^ 63 := by
    have h1 : 0 ≤ drw1 x k := Int.emod_nonneg _ (by decide)
    have h2 : drw1 x k < 2147483647 := Int.emod_lt_of_pos _ (by decide)
    omega
  simp only [ir__law_drawn]
  simp [big1, big0, mod1, asg]
  rw [show ((x + 104729 * ↑k + 17) * 69621 % 2147483647) = drw1 x k from rfl, big0 _ hb]
  simp [mod1, drawn]
theorem drawn_nonneg (x : Int) (k : Nat) : 0 ≤ drawn x k := Int.emod_nonneg _ (by decide)
theorem mixed_nonneg (ns : List Int) (k : Nat) : 0 ≤ mixed ns k := Int.emod_nonneg _ (by decide)
/-! ### boxes -/
inductive Bx where
  | face (n : Int) | all | alike (n p : Int) | run (n p : Int) | under (n : Int) | even (p : Int)
abbrev sD (s : String) : D := .str (Str.ofString s)
def Bx.parts : Bx → List D
  | .face n => [sD "face", .int n]
  | .all => [sD "all"]
  | .alike n p => [sD "alike", .int n, .int p]
  | .run n p => [sD "run", .int n, .int p]
  | .under n => [sD "under", .int n]
  | .even p => [sD "even", .int p]
def Bx.d (b : Bx) : D := .tup b.parts
def boxOf (x : Int) : Bx := if x % 6 = 0 then .face (1 + x / 6 % 6) else if x % 6 = 1 then .all else if x % 6 = 2 then .alike (2 + x / 6 % 3) (1 + x / 64 % 50) else if x % 6 = 3 then .run (2 + x / 6 % 3) (1 + x / 64 % 50)
  else if x % 6 = 4 then .under (1 + x / 6 % 24) else .even (1 + x / 6 % 50)
theorem p_box (n : Nat) (x : Int) (st : Store) : G.call (n + 1) 6 [.int x] st = .ok (boxOf x).d st := by
  rw [call_of (d := ir__law_box) rfl rfl]
  simp only [ir__law_box]
  have h : x % 6 = 0 ∨ x % 6 = 1 ∨ x % 6 = 2 ∨ x % 6 = 3 ∨ x % 6 = 4 ∨ x % 6 = 5 := by omega
  rcases h with h | h | h | h | h | h <;> simp [h, mod1, div1, asg, lim, idxD, getAt, ix, boxOf, Bx.d, Bx.parts]
/-! ### comprehensions -/
theorem lcL_fm {t : Tg} {cond elt : Env → Store → R D} {env : Env} {st : Store} {α : Type} (e : α → D) (p : α → Bool) (f : α → D) : ∀ {xs : List α}, (∀ x ∈ xs, ∃ env', asg t (e x) env = some env' ∧ cond env' st = .ok (.bl (p x)) st ∧ (p x = true → elt env' st = .ok (f x) st)) →
    lcL .no t cond elt env (xs.map e) st = .ok ((xs.filter p).map f) st
  | [], _ => rfl
  | x :: xs, h => by
    obtain ⟨env', h1, h2, h3⟩ := h x (by simp)
    have ih := lcL_fm e p f (xs := xs) fun y hy => h y (by simp [hy])
    rw [List.map_cons, lcL, h1]
    simp only [Grd.holds, R.test_true, R.of_some, R.bind_ok, h2]
    cases hp : p x with
    | true => simp [h3 hp, ih, hp]
    | false => simp [ih, hp]
theorem lcL_map {t : Tg} {cond elt : Env → Store → R D} {env : Env} {st : Store} {α : Type} (e : α → D) (f : α → D) {xs : List α} (h : ∀ x ∈ xs, ∃ env', asg t (e x) env = some env' ∧ cond env' st = .ok (.bl true) st ∧ elt env' st = .ok (f x) st) :
    lcL .no t cond elt env (xs.map e) st = .ok (xs.map f) st := by
  have z := lcL_fm (t := t) (cond := cond) (elt := elt) (env := env) (st := st) e (fun _ => true) f (xs := xs) fun x hx => by
    obtain ⟨env', h1, h2, h3⟩ := h x hx
    exact ⟨env', h1, h2, fun _ => h3⟩
  rw [z, List.filter_eq_self.mpr (by simp)]
/-! ### games -/
def pick4 (a b c d y : Int) : Int := if y % 4 = 0 then a else if y % 4 = 1 then b else if y % 4 = 2 then c else d
theorem idx4 (a b c d y : Int) (st : Store) : idxD (.tup [.int a, .int b, .int c, .int d]) (.int (y % 4)) st = .ok (.int (pick4 a b c d y)) st := by
  have h : y % 4 = 0 ∨ y % 4 = 1 ∨ y % 4 = 2 ∨ y % 4 = 3 := by omega
  rcases h with h | h | h | h <;> simp [h, idxD, getAt, ix, pick4]
structure Gm where
  many : Int
  sides : Int
  throws : Int
  boxes : List Bx
def Gm.d (g : Gm) : D := .tup [.int g.many, .int g.sides, .int g.throws, .tup (g.boxes.map Bx.d)]
def boxesOf (x : Int) : List Bx := (List.range (pick4 1 2 2 3 (x / 64)).toNat).map fun k => boxOf (drawn x k / 4)
def gameOf1 (x : Int) : Gm := ⟨1 + x / 256 % 4, 2 + x / 1024 % 5, pick4 1 2 3 2 (x / 16), boxesOf x⟩
theorem pick_le (x : Int) : pick4 1 2 2 3 x ≤ 3 ∧ 1 ≤ pick4 1 2 2 3 x := by
  simp only [pick4]
  split
  · omega
  · split
    · omega
    · split <;> omega
theorem rngL_nat (m : Int) : rngL 0 m = (List.range m.toNat).map fun k : Nat => D.int k := by
  simp [rngL]
theorem ev_lc {C : Ctx} {own : List Nat} {t : Tg} {it : It} {cond elt : E} {env : Env} {st : Store} {α : Type} (e : α → D) (p : α → Bool) (f : α → D) {xs : List α} (hI : evI C it env st = .ok (xs.map e, .no) st)
    (h : ∀ x ∈ xs, ∃ env', asg t (e x) (wipes env own) = some env' ∧ evE C cond env' st = .ok (.bl (p x)) st ∧ (p x = true → evE C elt env' st = .ok (f x) st)) :
    evE C (.lc false own t it cond elt) env st = .ok (.lst ((xs.filter p).map f)) st := by
  rw [evE, hI]
  simp only [R.bind_ok, Grd.lock]
  rw [lcL_fm e p f h]
  simp [Grd.out, Grd.holds, Grd.free]
theorem ev_lcm {C : Ctx} {own : List Nat} {t : Tg} {it : It} {elt : E} {env : Env} {st : Store} {α : Type} (e : α → D) (f : α → D) {xs : List α} (hI : evI C it env st = .ok (xs.map e, .no) st)
    (h : ∀ x ∈ xs, ∃ env', asg t (e x) (wipes env own) = some env' ∧ evE C elt env' st = .ok (f x) st) :
    evE C (.lc false own t it (.con (.bl true)) elt) env st = .ok (.lst (xs.map f)) st := by
  rw [evE, hI]
  simp only [R.bind_ok, Grd.lock]
  rw [lcL_map e f fun x hx => ?_]
  · simp [Grd.out, Grd.holds, Grd.free]
  · obtain ⟨env', h1, h2⟩ := h x hx
    exact ⟨env', h1, by simp, h2⟩
theorem p_game1 (n : Nat) (x : Int) (st : Store) : G.call (n + 2) 7 [.int x, .int 1] st = .ok (gameOf1 x).d st := by
  rw [call_of (d := ir__law_game) rfl rfl]
  simp only [ir__law_game]
  have hp := pick_le (x / 64)
  simp [mod1, div1, asg, idx4]
  rw [ev_lcm (fun k : Nat => D.int k) (fun k => (boxOf (drawn x k / 4)).d) (xs := List.range (pick4 1 2 2 3 (x / 64)).toNat) ?_ fun k hk => ⟨_, rfl, ?_⟩]
  · simp [bltD, cmpD, D.flat, D.eqv, mod1, div1, gameOf1, Gm.d, boxesOf]
  · simp [mod1, div1, idx4, rng2, rngL_nat, show -1000000 ≤ pick4 1 2 2 3 (x / 64) by omega, show pick4 1 2 2 3 (x / 64) ≤ 1000000 by omega]
  · simp [wipes, p_drawn, div1, p_box]
end EV
/-! Pu2: dice and points. -/
namespace EV
open PySem

abbrev iT (ds : List Int) : D := .tup (ds.map D.int)
abbrev iL (ds : List Int) : D := .lst (ds.map D.int)
@[simp] theorem int_bl (b : Bool) (st : Store) : bltD .int [.bl b] st = .ok (.int (if b then 1 else 0)) st := rfl
theorem eq_int (i j : Int) (st : Store) : cmpD .Eq (.int i) (.int j) st = .ok (.bl (i == j)) st := by simp [cmpD, D.flat, D.eqv]
theorem ne_int (i j : Int) (st : Store) : cmpD .NotEq (.int i) (.int j) st = .ok (.bl (!(i == j))) st := by simp [cmpD, D.flat, D.eqv]
theorem eq_str (i j : Str) (st : Store) : cmpD .Eq (.str i) (.str j) st = .ok (.bl (i == j)) st := by simp [cmpD, D.flat, D.eqv]
@[simp] theorem lt_int (i j : Int) (st : Store) : cmpD .Lt (.int i) (.int j) st = .ok (.bl (decide (i < j))) st := rfl
@[simp] theorem le_int (i j : Int) (st : Store) : cmpD .LtE (.int i) (.int j) st = .ok (.bl (decide (i ≤ j))) st := rfl
@[simp] theorem gt_int (i j : Int) (st : Store) : cmpD .Gt (.int i) (.int j) st = .ok (.bl (decide (j < i))) st := rfl
@[simp] theorem ge_int (i j : Int) (st : Store) : cmpD .GtE (.int i) (.int j) st = .ok (.bl (decide (j ≤ i))) st := rfl
@[simp] theorem idx_0 (x : D) (xs : List D) (st : Store) : idxD (.tup (x :: xs)) (.int 0) st = .ok x st := by
  have : (0 : Int) < (xs.length : Int) + 1 := by omega
  simp [idxD, getAt, ix, this]
@[simp] theorem idx_1 (x y : D) (xs : List D) (st : Store) : idxD (.tup (x :: y :: xs)) (.int 1) st = .ok y st := by
  have : (1 : Int) < (xs.length : Int) + 1 + 1 := by omega
  simp [idxD, getAt, ix, this]
@[simp] theorem idx_2 (x y z : D) (xs : List D) (st : Store) : idxD (.tup (x :: y :: z :: xs)) (.int 2) st = .ok z st := by
  have : (2 : Int) < (xs.length : Int) + 1 + 1 + 1 := by omega
  simp [idxD, getAt, ix, this]
@[simp] theorem idx_3 (x y z u : D) (xs : List D) (st : Store) : idxD (.tup (x :: y :: z :: u :: xs)) (.int 3) st = .ok u st := by
  have : (3 : Int) < (xs.length : Int) + 1 + 1 + 1 + 1 := by omega
  simp [idxD, getAt, ix, this]
theorem rng_ok (m : Int) (h0 : -1000 ≤ m) (h1 : m ≤ 1000) (st : Store) : rng2 (.int 0) (.int m) st = .ok ((List.range m.toNat).map (fun k : Nat => D.int k), .no) st := by
  have e1 : -1000000 ≤ m := by omega
  have e2 : m ≤ 1000000 := by omega
  simp only [rng2, rngL_nat]
  simp [e1, e2]
theorem flats_int (n : Nat) : ∀ ds : List Int, D.flats n (ds.map D.int) = true
  | [] => by simp [D.flats]
  | d :: ds => by rw [List.map_cons, D.flats, D.flat, flats_int n ds]; rfl
theorem flat_iL (n : Nat) (ds : List Int) : (iL ds).flat (n + 1) = true := by rw [D.flat]; exact flats_int n ds
theorem flat_iT (n : Nat) (ds : List Int) : (iT ds).flat (n + 1) = true := by rw [D.flat]; exact flats_int n ds
theorem eqvs_int : ∀ xs ys : List Int, D.eqvs (xs.map D.int) (ys.map D.int) = decide (xs = ys)
  | [], [] => by simp [D.eqvs]
  | [], _ :: _ => by simp [D.eqvs]
  | _ :: _, [] => by simp [D.eqvs]
  | x :: xs, y :: ys => by
    rw [List.map_cons, List.map_cons, D.eqvs, eqvs_int xs ys, D.eqv]
    by_cases h : x = y <;> by_cases h2 : xs = ys <;> simp [h, h2]
theorem memD_int (x : Int) : ∀ ds : List Int, memD (.int x) (ds.map D.int) = decide (x ∈ ds)
  | [] => by simp [memD]
  | d :: ds => by
    rw [List.map_cons, memD, memD_int x ds, D.eqv]
    by_cases h : d = x
    · simp [h]
    · have h' : ¬ x = d := fun z => h z.symm
      simp [h, h']
theorem countD_int (x : Int) : ∀ ds : List Int, countD (.int x) (ds.map D.int) = ds.count x
  | [] => rfl
  | d :: ds => by
    rw [List.map_cons, countD, countD_int x ds, D.eqv, List.count_cons]
    by_cases h : d = x <;> simp [h]
theorem intsOf_mapI : ∀ ds : List Int, intsOf (ds.map D.int) = some ds
  | [] => rfl
  | d :: ds => by rw [List.map_cons, intsOf, intsOf_mapI ds]; rfl
theorem blsOf_map : ∀ bs : List Bool, blsOf (bs.map D.bl) = some bs
  | [] => rfl
  | d :: ds => by rw [List.map_cons, blsOf, blsOf_map ds]; rfl
theorem in_int (x : Int) (ds : List Int) (st : Store) : cmpD .In (.int x) (iT ds) st = .ok (.bl (decide (x ∈ ds))) st := by
  simp [cmpD, D.flat, flats_int, memD_int]
theorem notin_int (x : Int) (ds : List Int) (st : Store) : cmpD .NotIn (.int x) (iL ds) st = .ok (.bl (!decide (x ∈ ds))) st := by
  simp [cmpD, D.flat, flats_int, memD_int]
theorem count_int (x : Int) (ds : List Int) (st : Store) : mthD .count (iT ds) [.int x] st = .ok (.int (ds.count x)) st := by
  simp [mthD, D.flat, flats_int, countD_int]
theorem count_ok (ds : List Int) (st : Store) : Mth.count.ok (iT ds) st = true := by simp [Mth.ok, Mth.kd, D.kd]
theorem sum_int (ds : List Int) (st : Store) : bltD .sum [iT ds] st = .ok (.int ds.sum) st := by
  simp [bltD, seqOf, intsOf_mapI]
theorem len_iT (ds : List Int) (st : Store) : bltD .len [iT ds] st = .ok (.int ds.length) st := by
  simp [bltD, seqOf]
theorem any_bl (bs : List Bool) (st : Store) : bltD .any [.lst (bs.map D.bl)] st = .ok (.bl (bs.any id)) st := by
  simp [bltD, blsOf_map]
theorem all_bl (bs : List Bool) (st : Store) : bltD .all [.lst (bs.map D.bl)] st = .ok (.bl (bs.all id)) st := by
  simp [bltD, blsOf_map]
theorem any_bl' {α : Type} (xs : List α) (f : α → Bool) (st : Store) : bltD .any [.lst (xs.map fun x => D.bl (f x))] st = .ok (.bl (xs.any f)) st := by
  have e : (xs.map fun x => D.bl (f x)) = (xs.map f).map D.bl := by simp
  rw [e, any_bl, List.any_map]
  rfl
theorem all_bl' {α : Type} (xs : List α) (f : α → Bool) (st : Store) : bltD .all [.lst (xs.map fun x => D.bl (f x))] st = .ok (.bl (xs.all f)) st := by
  have e : (xs.map fun x => D.bl (f x)) = (xs.map f).map D.bl := by simp
  rw [e, all_bl, List.all_map]
  rfl
/-! ### dice -/
def diceOf (g : Gm) (x : Int) : List Int := sortI ((List.range g.many.toNat).map fun k => 1 + drawn x (30 + k) / 4 % g.sides)
theorem sorted_int (ds : List Int) (st : Store) : bltD .sorted [iL ds] st = .ok (iL (sortI ds)) st := by
  simp [bltD, sortD, intsOf_mapI]
theorem p_dice (n : Nat) (g : Gm) (h0 : 0 ≤ g.many) (h1 : g.many ≤ 1000) (hs : 0 < g.sides) (x : Int) (st : Store) : G.call (n + 2) 8 [g.d, .int x] st = .ok (iT (diceOf g x)) st := by
  rw [call_of (d := ir__law_dice) rfl rfl]
  simp only [ir__law_dice]
  simp only [ss_consE, s_retE, e_blt, es_cons, es_nil]
  rw [ev_lcm (fun k : Nat => D.int k) (fun k => D.int (1 + drawn x (30 + k) / 4 % g.sides)) (xs := List.range g.many.toNat) ?_ fun k hk => ⟨_, rfl, ?_⟩]
  · have e : ((List.range g.many.toNat).map fun k => D.int (1 + drawn x (30 + k) / 4 % g.sides)) = ((List.range g.many.toNat).map fun k => 1 + drawn x (30 + k) / 4 % g.sides).map D.int := by simp
    rw [e]
    simp only [R.bind_ok]
    rw [sorted_int]
    simp [bltD, diceOf]
  · simp [Gm.d, rng_ok g.many (by omega) (by omega)]
  · have e : (30 : Int) + (k : Int) = ((30 + k : Nat) : Int) := by omega
    simp [wipes, Gm.d]
    rw [e, p_drawn]
    simp [div1, mod1 _ _ hs]
theorem dice_len (g : Gm) (x : Int) : (diceOf g x).length = g.many.toNat := by
  rw [diceOf, (sortI_perm _).length_eq]
  simp
theorem dice_mem (g : Gm) (x : Int) (hs : 0 < g.sides) : ∀ d ∈ diceOf g x, 1 ≤ d ∧ d ≤ g.sides := fun d hd => by
  have hd := (sortI_perm _).subset hd
  obtain ⟨k, _, rfl⟩ := List.mem_map.mp hd
  have h1 := Int.emod_nonneg (drawn x (30 + k) / 4) (show g.sides ≠ 0 by omega)
  have h2 := Int.emod_lt_of_pos (drawn x (30 + k) / 4) hs
  omega
/-! ### points -/
def hasRun (ds : List Int) (n : Int) : Bool := ds.any fun f => (List.range n.toNat).all fun k => decide (f + k ∈ ds)
theorem p_has_run (n : Nat) (ds : List Int) (m : Int) (h0 : -1000 ≤ m) (h1 : m ≤ 1000) (st : Store) : G.call (n + 1) 38 [iT ds, .int m] st = .ok (.bl (hasRun ds m)) st := by
  rw [call_of (d := ir_has_run) rfl rfl]
  simp only [ir_has_run]
  simp only [ss_consE, s_retE, e_blt, es_cons, es_nil]
  rw [ev_lcm (fun d : Int => D.int d) (fun d => D.bl ((List.range m.toNat).all fun k => decide (d + k ∈ ds))) (xs := ds) ?_ fun d hd => ⟨_, rfl, ?_⟩]
  · simp only [R.bind_ok]
    rw [any_bl']
    simp [hasRun]
  · simp [seqIt]
  · simp only [e_blt, es_cons, es_nil]
    rw [ev_lcm (fun k : Nat => D.int k) (fun k => D.bl (decide (d + k ∈ ds))) (xs := List.range m.toNat) ?_ fun k hk => ⟨_, rfl, ?_⟩]
    · simp only [R.bind_ok]
      rw [all_bl']
    · simp [wipes, rng_ok m (by omega) (by omega)]
    · simp [wipes]
      exact in_int _ _ _
def b2i (b : Bool) : Int := if b then 1 else 0
def pts : Bx → List Int → Int
  | .face n, ds => n * ds.count n
  | .all, ds => ds.sum
  | .alike n p, ds => p * b2i (ds.any fun d => decide (n ≤ ds.count d))
  | .run n p, ds => p * b2i (hasRun ds n)
  | .under n, ds => ds.sum * b2i (decide (ds.sum ≤ n))
  | .even p, ds => p * b2i (ds.all fun d => d % 2 == 0)
/-- a box with numbers of common size -/
def Bx.Fit : Bx → Prop
  | .face n => n.natAbs < 1000
  | .all => True
  | .alike n p => n.natAbs < 1000 ∧ p.natAbs < 1000
  | .run n p => n.natAbs < 1000 ∧ p.natAbs < 1000
  | .under n => n.natAbs < 1000
  | .even p => p.natAbs < 1000
theorem big3 (i j : Int) (h : i.natAbs < 1000) (st : Store) : binD .Mult (.int i) (.int j) st = .ok (.int (i * j)) st := big0 i (by omega) j st
theorem big4 (i : Int) (b : Bool) (st : Store) : binD .Mult (.int i) (.int (if b then 1 else 0)) st = .ok (.int (i * b2i b)) st := by
  rw [big1 _ (by cases b <;> decide) i st]
  rfl
theorem p_points (n : Nat) (b : Bx) (hb : b.Fit) (ds : List Int) (st : Store) : G.call (n + 2) 39 [b.d, iT ds] st = .ok (.int (pts b ds)) st := by
  rw [call_of (d := ir_points) rfl rfl]
  simp only [ir_points]
  have w : ∀ a c : String, (Str.ofString a == Str.ofString c) = decide (Str.ofString a = Str.ofString c) := fun a c => by
    by_cases h : Str.ofString a = Str.ofString c <;> simp [h]
  have w1 : (Str.ofString "all" == Str.ofString "face") = false := by decide +kernel
  have w2 : (Str.ofString "alike" == Str.ofString "face") = false := by decide +kernel
  have w3 : (Str.ofString "alike" == Str.ofString "all") = false := by decide +kernel
  have w4 : (Str.ofString "run" == Str.ofString "face") = false := by decide +kernel
  have w5 : (Str.ofString "run" == Str.ofString "all") = false := by decide +kernel
  have w6 : (Str.ofString "run" == Str.ofString "alike") = false := by decide +kernel
  have w7 : (Str.ofString "under" == Str.ofString "face") = false := by decide +kernel
  have w8 : (Str.ofString "under" == Str.ofString "all") = false := by decide +kernel
  have w9 : (Str.ofString "under" == Str.ofString "alike") = false := by decide +kernel
  have w10 : (Str.ofString "under" == Str.ofString "run") = false := by decide +kernel
  have w11 : (Str.ofString "even" == Str.ofString "face") = false := by decide +kernel
  have w12 : (Str.ofString "even" == Str.ofString "all") = false := by decide +kernel
  have w13 : (Str.ofString "even" == Str.ofString "alike") = false := by decide +kernel
  have w14 : (Str.ofString "even" == Str.ofString "run") = false := by decide +kernel
  have w15 : (Str.ofString "even" == Str.ofString "under") = false := by decide +kernel
  cases b with
  | face m =>
    simp [Bx.d, Bx.parts, sD, asg, eq_str, count_ok, count_int, big3 _ _ hb, pts]
  | all =>
    simp [Bx.d, Bx.parts, sD, asg, eq_str, w1, sum_int, pts]
  | alike m p =>
    simp [Bx.d, Bx.parts, sD, asg, eq_str, w2, w3]
    rw [ev_lcm (fun d : Int => D.int d) (fun d => D.bl (decide (m ≤ ds.count d))) (xs := ds) ?_ fun d hd => ⟨_, rfl, ?_⟩]
    · simp only [R.bind_ok]
      rw [any_bl']
      simp only [R.bind_ok]
      rw [int_bl]
      simp only [R.bind_ok]
      rw [big4]
      simp [pts]
    · simp [seqIt]
    · simp [wipes, count_ok, count_int]
  | run m p =>
    simp [Bx.d, Bx.parts, sD, asg, eq_str, w4, w5, w6, p_has_run _ _ m (by have := hb.1; omega) (by have := hb.1; omega), big4, pts]
  | under m =>
    simp [Bx.d, Bx.parts, sD, asg, eq_str, w7, w8, w9, w10, sum_int]
    rw [show (if ds.sum ≤ m then (1 : Int) else 0) = (if (decide (ds.sum ≤ m)) = true then 1 else 0) by simp]
    rw [big4]
    simp [pts]
  | even p =>
    simp [Bx.d, Bx.parts, sD, asg, eq_str, w11, w12, w13, w14, w15]
    rw [ev_lcm (fun d : Int => D.int d) (fun d => D.bl (d % 2 == 0)) (xs := ds) ?_ fun d hd => ⟨_, rfl, ?_⟩]
    · simp only [R.bind_ok]
      rw [all_bl']
      simp only [R.bind_ok]
      rw [int_bl]
      simp only [R.bind_ok]
      rw [big4]
      simp [pts]
    · simp [seqIt]
    · simp [wipes, mod1, eq_int]
end EV
section
set_option exponentiation.threshold 5000
/-! Pu4: fractions. -/
namespace EV
open PySem

def frD (q : Rat) : D := .tup [.int q.num, .int q.den]
/-! ### Euclid -/
def eCond : E := .cmp .Gt (.var 2) (.con (.int 0))
def eBody : Ss := .cons (.set (.many [2, 3]) (.tup (.cons (.bin .Mod (.var 3) (.var 2)) (.cons (.var 2) .nil)))) .nil
theorem eu_stop (C : Ctx) (u l : D) (st : Store) (fuel b : Nat) : whlL (evE C eCond) (evSs C eBody) (fuel + 1) [some u, some l, some (.int 0), some (.int b)] st = .ok (.nx [some u, some l, some (.int 0), some (.int b)]) st := by
  simp [whlL, eCond, cmpD]
theorem eu_go (C : Ctx) (u l : D) (st : Store) (fuel a b : Nat) (ha : 0 < a) :
    whlL (evE C eCond) (evSs C eBody) (fuel + 1) [some u, some l, some (.int a), some (.int b)] st = whlL (evE C eCond) (evSs C eBody) fuel [some u, some l, some (.int (b % a : Nat)), some (.int a)] st := by
  have h : (0 : Int) < a := by omega
  have h1 : evE C eCond [some u, some l, some (.int a), some (.int b)] st = .ok (.bl true) st := by
    simp only [eCond, e_cmp, e_var, e_con, List.getElem?_cons_zero, List.getElem?_cons_succ, R.bind_ok, cmpD, decide_eq_true h]
  have h2 : evSs C eBody [some u, some l, some (.int a), some (.int b)] st = .ok (.nx [some u, some l, some (.int (b % a : Nat)), some (.int a)]) st := by
    simp only [eBody, ss_consE, s_setE, e_tup, es_cons, e_bin, e_var, es_nil, List.getElem?_cons_zero, List.getElem?_cons_succ, R.bind_ok, mod1 _ _ h]
    rfl
  rw [whlL, h1]
  simp only [R.bind_ok, h2]
theorem euclid (C : Ctx) (u l : D) (st : Store) : ∀ (k a b fuel : Nat), a < 2 ^ k → 2 * k + 1 ≤ fuel →
    whlL (evE C eCond) (evSs C eBody) fuel [some u, some l, some (.int a), some (.int b)] st = .ok (.nx [some u, some l, some (.int 0), some (.int (Nat.gcd a b))]) st
  | 0, a, b, fuel, ha, hf => by
    have e : a = 0 := by omega
    subst e
    obtain ⟨f, rfl⟩ : ∃ f, fuel = f + 1 := ⟨fuel - 1, by omega⟩
    rw [Nat.gcd_zero_left]
    exact eu_stop C u l st f b
  | k + 1, a, b, fuel, ha, hf => by
    obtain ⟨f, rfl⟩ : ∃ f, fuel = f + 2 := ⟨fuel - 2, by omega⟩
    by_cases h0 : a = 0
    · subst h0
      rw [Nat.gcd_zero_left]
      exact eu_stop C u l st (f + 1) b
    · rw [eu_go C u l st (f + 1) a b (by omega), Nat.gcd_rec a b]
      by_cases h1 : b % a = 0
      · rw [h1, Nat.gcd_zero_left]
        exact eu_stop C u l st f a
      · rw [eu_go C u l st f (b % a) a (by omega), Nat.gcd_rec (b % a) a]
        refine euclid C u l st k _ _ f ?_ (by omega)
        have hr : b % a < a := Nat.mod_lt _ (by omega)
        have h2 : 2 * (a % (b % a)) < a := by
          have hm : a % (b % a) < b % a := Nat.mod_lt _ (by omega)
          have hd := Nat.div_add_mod a (b % a)
          have hq : 1 ≤ a / (b % a) := (Nat.le_div_iff_mul_le (by omega)).mpr (by omega)
          have : b % a ≤ (b % a) * (a / (b % a)) := Nat.le_mul_of_pos_right _ (by omega)
          omega
        have : 2 ^ (k + 1) = 2 * 2 ^ k := by rw [Nat.pow_succ, Nat.mul_comm]
        omega
theorem divB (i j : Int) (h : 0 < j) (h2 : j < 2 ^ 4000) (st : Store) : binD .FloorDiv (.int i) (.int j) st = .ok (.int (i / j)) st := by
  simp only [binD, decide_eq_true h, decide_eq_true h2]
  rfl
theorem fr_mk (u : Int) (l : Nat) (hl : 0 < l) : frD (mkRat u l) = .tup [.int (u / (u.natAbs.gcd l : Nat)), .int (l / u.natAbs.gcd l : Nat)] := by
  unfold frD mkRat
  rw [dif_neg (by omega), Rat.normalize_eq]
theorem absD (u : Int) (st : Store) : bltD .abs [.int u] st = .ok (.int (u.natAbs : Nat)) st := by
  simp only [bltD]
  congr 2
  split <;> omega
/-- what plain and the law's plain do -/
def plainB : Ss := .cons (.set (.one 2) (.blt .abs (.cons (.var 0) .nil))) (.cons (.set (.one 3) (.var 1)) (.cons (.whl eCond eBody) (.cons (.ret (.tup (.cons (.bin .FloorDiv (.var 0) (.var 3)) (.cons (.bin .FloorDiv (.var 1) (.var 3)) .nil)))) .nil)))
theorem plain_run (C : Ctx) (hw : C.wfuel = 100000) (u : Int) (l : Nat) (hl : 0 < l) (hu : u.natAbs < 2 ^ 3000) (hl2 : l < 2 ^ 3000) (st : Store) : evSs C plainB [some (.int u), some (.int l), none, none] st = .ok (.rt (frD (mkRat u l))) st := by
  have hg : 0 < u.natAbs.gcd l := Nat.gcd_pos_of_pos_right _ hl
  have hgl : u.natAbs.gcd l ≤ l := Nat.le_of_dvd hl (Nat.gcd_dvd_right _ _)
  have hg4 : ((u.natAbs.gcd l : Nat) : Int) < 2 ^ 4000 := by
    have : (2 : Nat) ^ 3000 ≤ 2 ^ 4000 := Nat.pow_le_pow_right (by decide) (by decide)
    have h3 : u.natAbs.gcd l < 2 ^ 4000 := by omega
    exact_mod_cast h3
  have e := euclid C (.int u) (.int l) st 3000 u.natAbs l 100000 hu (by decide)
  unfold plainB
  simp only [ss_consE, s_setE, e_blt, es_cons, es_nil, e_var, s_whlE, s_retE, e_tup, e_bin]
  simp only [List.getElem?_cons_zero, List.getElem?_cons_succ, R.bind_ok, absD, asg, R.of_some, List.set_cons_succ, List.set_cons_zero, hw]
  rw [e]
  simp only [R.bind_ok, List.getElem?_cons_zero, List.getElem?_cons_succ]
  rw [divB _ _ (by omega) hg4, R.bind_ok, divB _ _ (by omega) hg4]
  simp only [R.bind_ok, List.length_cons, List.length_nil]
  rw [fr_mk u l hl]
  simp
theorem p_plain (n : Nat) (u : Int) (l : Nat) (hl : 0 < l) (hu : u.natAbs < 2 ^ 3000) (hl2 : l < 2 ^ 3000) (st : Store) : G.call (n + 1) 42 [.int u, .int l] st = .ok (frD (mkRat u l)) st := by
  rw [call_of (d := ir_plain) rfl rfl]
  have z := plain_run (G.ctx n) rfl u l hl hu hl2 st
  show backR st (evSs (G.ctx n) plainB [some (.int u), some (.int l), none, none] st) = _
  rw [z]
  simp
theorem p_lplain (n : Nat) (u : Int) (l : Nat) (hl : 0 < l) (hu : u.natAbs < 2 ^ 3000) (hl2 : l < 2 ^ 3000) (st : Store) : G.call (n + 1) 47 [.int u, .int l] st = .ok (frD (mkRat u l)) st := by
  rw [call_of (d := ir__law_plain) rfl rfl]
  have z := plain_run (G.ctx n) rfl u l hl hu hl2 st
  show backR st (evSs (G.ctx n) plainB [some (.int u), some (.int l), none, none] st) = _
  rw [z]
  simp
/-! ### loops -/
theorem forL_inv {α σ : Type} (e : α → D) (step : σ → α → σ) (P : σ → Env → Store → Prop) {g : Grd} {tg : Tg} {body : Env → Store → R Fl} (hg : ∀ s env st, P s env st → g.holds st = true) : ∀ (xs : List α) (s : σ) (env : Env) (st : Store), P s env st →
    (∀ s x env st, x ∈ xs → P s env st → ∃ env1 env2 st2, asg tg (e x) env = some env1 ∧ body env1 st = .ok (.nx env2) st2 ∧ P (step s x) env2 st2) →
    ∃ env' st', forL g tg body (xs.map e) env st = .ok (.nx env') st' ∧ P (xs.foldl step s) env' st'
  | [], s, env, st, h, _ => ⟨env, st, by rw [List.map_nil, forL, hg s env st h]; rfl, h⟩
  | x :: xs, s, env, st, h, hs => by
    obtain ⟨env1, env2, st2, h1, h2, h3⟩ := hs s x env st (by simp) h
    obtain ⟨env', st', g1, g2⟩ := forL_inv e step P hg xs (step s x) env2 st2 h3 fun s y env st hy => hs s y env st (by simp [hy])
    refine ⟨env', st', ?_, g2⟩
    rw [List.map_cons, forL, hg s env st h]
    simp only [R.test_true, h1, R.of_some, R.bind_ok, h2]
    exact g1
end EV
end
section
set_option exponentiation.threshold 5000
/-! Pu5: rows of numbers as keys; books. -/
namespace EV
open PySem

abbrev Row := List Int
def tupI (r : Row) : D := .tup (r.map D.int)
abbrev Bk := List (Row × Int)
def bkD (b : Bk) : List (D × D) := b.map fun p => (tupI p.1, .int p.2)
/-! ### rows as data -/
theorem eqvs_ints : ∀ a b : Row, D.eqvs (a.map D.int) (b.map D.int) = decide (a = b)
  | [], [] => by simp [D.eqvs]
  | [], _ :: _ => by simp [D.eqvs]
  | _ :: _, [] => by simp [D.eqvs]
  | x :: xs, y :: ys => by
    rw [List.map_cons, List.map_cons, D.eqvs, eqvs_ints xs ys, D.eqv]
    by_cases h : x = y <;> by_cases h2 : xs = ys <;> simp [h, h2]
@[simp] theorem eqv_tupI (a b : Row) : D.eqv (tupI a) (tupI b) = decide (a = b) := by
  unfold tupI
  rw [D.eqv, eqvs_ints]
def ltR : Row → Row → Bool
  | [], _ :: _ => true
  | x :: xs, y :: ys => if x = y then ltR xs ys else decide (x < y)
  | _, _ => false
theorem lts_ints : ∀ a b : Row, D.lts (a.map D.int) (b.map D.int) = ltR a b
  | [], [] => by simp [D.lts, ltR]
  | [], _ :: _ => by simp [D.lts, ltR]
  | _ :: _, [] => by simp [D.lts, ltR]
  | x :: xs, y :: ys => by
    rw [List.map_cons, List.map_cons, D.lts, lts_ints xs ys, D.eqv, D.lt, ltR]
    by_cases h : x = y <;> simp [h]
@[simp] theorem lt_tupI (a b : Row) : D.lt (tupI a) (tupI b) = ltR a b := by
  unfold tupI
  rw [D.lt, lts_ints]
theorem alikes_ints : ∀ a b : Row, D.alikes (a.map D.int) (b.map D.int) = true
  | [], [] => by simp [D.alikes]
  | [], _ :: _ => by simp [D.alikes]
  | _ :: _, [] => by simp [D.alikes]
  | x :: xs, y :: ys => by rw [List.map_cons, List.map_cons, D.alikes, alikes_ints xs ys, D.alike]; rfl
@[simp] theorem alike_tupI (a b : Row) : D.alike (tupI a) (tupI b) = true := by
  unfold tupI
  rw [D.alike]
  exact alikes_ints a b
theorem cmpT_ints : ∀ a b : Row, D.cmpT (a.map D.int) (b.map D.int) = true
  | [], [] => by simp [D.cmpT]
  | [], _ :: _ => by simp [D.cmpT]
  | _ :: _, [] => by simp [D.cmpT]
  | x :: xs, y :: ys => by rw [List.map_cons, List.map_cons, D.cmpT, cmpT_ints xs ys, D.alike]; simp
theorem flats_ints (n : Nat) : ∀ a : Row, D.flats n (a.map D.int) = true
  | [] => by simp [D.flats]
  | x :: xs => by rw [List.map_cons, D.flats, flats_ints n xs]; simp [D.flat]
@[simp] theorem flat_tupI (n : Nat) (a : Row) : D.flat (n + 1) (tupI a) = true := by
  unfold tupI
  rw [D.flat]
  exact flats_ints n a
theorem keys_ints (n : Nat) : ∀ a : Row, D.keys n (a.map D.int) = true
  | [] => by simp [D.keys]
  | x :: xs => by rw [List.map_cons, D.keys, keys_ints n xs]; simp [D.key]
@[simp] theorem key_tupI (n : Nat) (a : Row) : D.key (n + 1) (tupI a) = true := by
  unfold tupI
  rw [D.key]
  exact keys_ints n a
@[simp] theorem isTup_tupI (a : Row) : (tupI a).isTup = true := rfl
@[simp] theorem its_tupI (a : Row) : (tupI a).its = a.map D.int := rfl
@[simp] theorem low_tupI (n : Nat) (a : Row) : D.low n (tupI a) = true := by
  unfold tupI
  rw [D.low]
  induction a with
  | nil => simp [D.lows]
  | cons x xs ih => rw [List.map_cons, D.lows, ih]; simp [D.low]
@[simp] theorem intsOf_ints : ∀ a : Row, intsOf (a.map D.int) = some a
  | [] => rfl
  | x :: xs => by rw [List.map_cons, intsOf, intsOf_ints xs]; rfl
@[simp] theorem sorted_tupI (a : Row) (st : Store) : bltD .sorted [tupI a] st = .ok (.lst ((sortI a).map D.int)) st := by
  simp [bltD, tupI, sortD]
@[simp] theorem tuple_lst (xs : List D) (st : Store) : bltD .tuple [.lst xs] st = .ok (.tup xs) st := rfl
@[simp] theorem len_tupI (a : Row) (st : Store) : bltD .len [tupI a] st = .ok (.int a.length) st := by
  simp [bltD, tupI, seqOf]
theorem add_tupI (a b : Row) (st : Store) (h : a.length + b.length ≤ 1000) : binD .Add (tupI a) (tupI b) st = .ok (tupI (a ++ b)) st := by
  unfold tupI
  rw [addT]
  simp only [List.length_map]
  rw [decide_eq_true (by unfold lim; omega)]
  simp
/-! ### books -/
def bget? : Bk → Row → Option Int
  | [], _ => none
  | (a, v) :: r, k => if a = k then some v else bget? r k
def bgetD (b : Bk) (k : Row) : Int := (bget? b k).getD 0
def bset : Bk → Row → Int → Bk
  | [], k, v => [(k, v)]
  | (a, w) :: r, k, v => if a = k then (a, v) :: r else (a, w) :: bset r k v
def badd (b : Bk) (k : Row) (c : Int) : Bk := bset b k (bgetD b k + c)
def bkeys (b : Bk) : List Row := b.map (·.1)
theorem dget_bk : ∀ (b : Bk) (k : Row), dget (bkD b) (tupI k) = (bget? b k).map D.int
  | [], k => rfl
  | (a, v) :: r, k => by
    show (if D.eqv (tupI a) (tupI k) = true then some (D.int v) else dget (bkD r) (tupI k)) = _
    rw [eqv_tupI, dget_bk r k, bget?]
    by_cases h : a = k <;> simp [h]
theorem dput_bk : ∀ (b : Bk) (k : Row) (v : Int), dput (bkD b) (tupI k) (.int v) = bkD (bset b k v)
  | [], k, v => rfl
  | (a, w) :: r, k, v => by
    show (if D.eqv (tupI a) (tupI k) = true then (tupI a, D.int v) :: bkD r else (tupI a, D.int w) :: dput (bkD r) (tupI k) (.int v)) = _
    rw [eqv_tupI, dput_bk r k v, bset]
    by_cases h : a = k <;> simp [h, bkD]
theorem keyOk_bk (b : Bk) (k : Row) : keyOk (bkD b) (tupI k) = true := by
  have e : ((bkD b).all fun p => p.1.isTup) = true := by
    rw [List.all_eq_true]
    intro p hp
    obtain ⟨q, _, rfl⟩ := List.mem_map.mp hp
    rfl
  rw [keyOk, e]
  simp
theorem bkD_keys (b : Bk) : (bkD b).map (·.1) = (bkeys b).map tupI := by simp [bkD, bkeys]
theorem bkD_len (b : Bk) : (bkD b).length = b.length := by simp [bkD]
/-! ### sorted rows -/
def sortR (ks : List Row) : List Row := isort (fun a b => !ltR b a) ks
theorem flats_rows (n : Nat) : ∀ ks : List Row, D.flats (n + 1) (ks.map tupI) = true
  | [] => by simp [D.flats]
  | k :: ks => by rw [List.map_cons, D.flats, flats_rows n ks]; simp
theorem sortOk_rows (ks : List Row) : sortOk (ks.map tupI) = true := by
  rw [sortOk, flats_rows 19 ks]
  have e1 : ((ks.map tupI).all fun x => x.isTup) = true := by
    rw [List.all_eq_true]; intro p hp; obtain ⟨q, _, rfl⟩ := List.mem_map.mp hp; rfl
  rw [e1]
  split
  · rw [Bool.and_self, Bool.true_and, List.all_eq_true]
    intro x hx
    rw [List.all_eq_true]
    intro y hy
    obtain ⟨a, _, rfl⟩ := List.mem_map.mp hx
    obtain ⟨b, _, rfl⟩ := List.mem_map.mp hy
    exact cmpT_ints a b
  · rw [Bool.and_self, Bool.true_and, List.all_eq_true]
    intro x hx
    rw [List.all_eq_true]
    intro y hy
    obtain ⟨a, _, rfl⟩ := List.mem_map.mp hx
    obtain ⟨b, _, rfl⟩ := List.mem_map.mp hy
    exact alikes_ints a b
theorem sortD_rows (ks : List Row) : sortD (ks.map tupI) = some ((sortR ks).map tupI) := by
  cases ks with
  | nil => simp [sortD, intsOf, sortR, isort, sortI]
  | cons k ks =>
    have e : intsOf ((k :: ks).map tupI) = none := rfl
    rw [sortD, e]
    show (match sortOk ((k :: ks).map tupI) with | true => some (sortT ((k :: ks).map tupI)) | false => none) = _
    rw [sortOk_rows]
    show some (sortT ((k :: ks).map tupI)) = _
    rw [sortT, sortR, isort_map (f := tupI) (s := fun x y => !D.lt y x) (fun a b => by rw [lt_tupI])]
end EV
end
section
set_option exponentiation.threshold 5000
/-! Pu6: counted, throws_of, after, and the law's own. -/
namespace EV
open PySem

theorem forL_pre {α σ : Type} (e : α → D) (step : σ → α → σ) (P : σ → Env → Store → Prop) {g : Grd} {tg : Tg} {body : Env → Store → R Fl} (hg : ∀ s env st, P s env st → g.holds st = true) : ∀ (xs : List α) (s : σ) (env : Env) (st : Store), P s env st →
    (∀ pre x post env st, xs = pre ++ x :: post → P (pre.foldl step s) env st → ∃ env1 env2 st2, asg tg (e x) env = some env1 ∧ body env1 st = .ok (.nx env2) st2 ∧ P (step (pre.foldl step s) x) env2 st2) →
    ∃ env' st', forL g tg body (xs.map e) env st = .ok (.nx env') st' ∧ P (xs.foldl step s) env' st'
  | [], s, env, st, h, _ => ⟨env, st, by rw [List.map_nil, forL, hg s env st h]; rfl, h⟩
  | x :: xs, s, env, st, h, hs => by
    obtain ⟨env1, env2, st2, h1, h2, h3⟩ := hs [] x xs env st rfl h
    obtain ⟨env', st', g1, g2⟩ := forL_pre e step P hg xs (step s x) env2 st2 h3 fun pre y post env st hy hp => hs (x :: pre) y post env st (by rw [hy]; rfl) hp
    refine ⟨env', st', ?_, g2⟩
    rw [List.map_cons, forL, hg s env st h]
    simp only [R.test_true, h1, R.of_some, R.bind_ok, h2]
    exact g1
theorem bset_len (b : Bk) (k : Row) (v : Int) : (bset b k v).length ≤ b.length + 1 := by
  induction b with
  | nil => simp [bset]
  | cons p b ih =>
    obtain ⟨a, w⟩ := p
    rw [bset]
    split
    · simp
    · simp only [List.length_cons]; omega
theorem badd_len (b : Bk) (k : Row) (c : Int) : (badd b k c).length ≤ b.length + 1 := bset_len _ _ _
theorem addAll_len {α : Type} (f : α → Row) (w : α → Int) (xs : List α) (b : Bk) : (xs.foldl (fun b x => badd b (f x) (w x)) b).length ≤ b.length + xs.length := by
  induction xs generalizing b with
  | nil => simp
  | cons x xs ih =>
    have h1 := ih (badd b (f x) (w x))
    have h2 := badd_len b (f x) (w x)
    simp only [List.foldl_cons, List.length_cons]
    omega
theorem rng2_ok (lo hi : Int) (st : Store) (h1 : -1000000 ≤ lo) (h2 : lo ≤ 1000000) (h3 : -1000000 ≤ hi) (h4 : hi ≤ 1000000) : rng2 (.int lo) (.int hi) st = .ok (rngL lo hi, .no) st := by
  simp [rng2, h1, h2, h3, h4]
theorem rng2_ev {C : Ctx} {a b : E} {env : Env} {st : Store} {x y : Int} (h1 : evE C a env st = .ok (.int x) st) (h2 : evE C b env st = .ok (.int y) st) (h3 : -1000000 ≤ x) (h4 : x ≤ 1000000) (h5 : -1000000 ≤ y) (h6 : y ≤ 1000000) : evI C (.rng2 a b) env st = .ok (rngL x y, .no) st := by
  rw [i_rng2, h1, R.bind_ok, h2, R.bind_ok, rng2_ok _ _ _ h3 h4 h5 h6]
theorem rng1_ev {C : Ctx} {a : E} {env : Env} {st : Store} {y : Int} (h1 : evE C a env st = .ok (.int y) st) (h5 : -1000000 ≤ y) (h6 : y ≤ 1000000) : evI C (.rng1 a) env st = .ok (rngL 0 y, .no) st := by
  rw [i_rng1, h1, R.bind_ok, rng2_ok _ _ _ (by decide) (by decide) h5 h6]
theorem for_ev {C : Ctx} {t : Tg} {it : It} {b : Ss} {env env' : Env} {st st1 st' : Store} {xs : List D} (h1 : evI C it env st = .ok (xs, .no) st1) (h2 : forL .no t (evSs C b) xs env st1 = .ok (.nx env') st') : evS C (.for t it b) env st = .ok (.nx env') st' := by
  rw [s_forE, h1, R.bind_ok]
  show Grd.no.out (forL .no t (evSs C b) xs env st1) = _
  rw [h2]
  rfl
/-! ### one more die -/
def dies (s : Nat) : List Int := (List.range s).map fun i : Nat => (i : Int) + 1
theorem rng_dies (s : Nat) : rngL 1 ((s : Int) + 1) = (dies s).map D.int := by
  simp only [rngL, dies, List.map_map]
  have e : ((s : Int) + 1 - 1).toNat = s := by omega
  rw [e]
  refine List.map_congr_left fun i _ => ?_
  simp only [Function.comp]
  congr 1
  omega
def dieB : Ss := .cons (.set (.one 8) (.blt .tuple (.cons (.blt .sorted (.cons (.bin .Add (.var 6) (.tup (.cons (.var 7) .nil))) .nil)) .nil))) (.cons (.put (.var 5) (.var 8) (.bin .Add (.mth .get2 (.var 5) (.cons (.var 8) (.cons (.con (.int 0)) .nil))) (.idx (.var 2) (.var 6)))) .nil)
theorem get_set_ne {α : Type} {l : List α} {i j : Nat} {a : α} (h : i ≠ j) : (l.set j a)[i]? = l[i]? := List.getElem?_set_ne (Ne.symm h)
theorem get_set_eq {α : Type} {l : List α} {j : Nat} {a : α} (h : j < l.length) : (l.set j a)[j]? = some a := List.getElem?_set_self h
section
variable {C : Ctx} {a0 a1 a3 a4 : D} {i j : Nat} {F M : Bk} {t : Row} {S : Store}
theorem die_turn (hi : S[i]? = some (.lck (bkD F))) (hij : i ≠ j) (hj : j < S.length) (ht : t.length ≤ 100) (hM : M.length < 100000) {c : Int} (hc : bget? F t = some c) (d : Int) (x8 : Option D) :
    evSs C dieB [some a0, some a1, some (.ref i), some a3, some a4, some (.ref j), some (tupI t), some (.int d), x8] (S.set j (.dic (bkD M))) =
      .ok (.nx [some a0, some a1, some (.ref i), some a3, some a4, some (.ref j), some (tupI t), some (.int d), some (tupI (sortI (t ++ [d])))]) (S.set j (.dic (bkD (badd M (sortI (t ++ [d])) c)))) := by
  have e1 : evE C (.bin .Add (.var 6) (.tup (.cons (.var 7) .nil))) [some a0, some a1, some (.ref i), some a3, some a4, some (.ref j), some (tupI t), some (.int d), x8] (S.set j (.dic (bkD M))) = .ok (tupI (t ++ [d])) (S.set j (.dic (bkD M))) := by
    have := add_tupI t [d] (S.set j (.dic (bkD M))) (by simp; omega)
    simpa [tupI] using this
  unfold dieB
  rw [ss_consE, s_setE, e_blt, es_cons, e_blt, es_cons, e1]
  simp only [R.bind_ok, es_nil, sorted_tupI, tuple_lst, asg, R.of_some, List.set_cons_succ, List.set_cons_zero]
  rw [ss_consE, s_putE, e_bin, e_mth, e_var]
  simp only [List.getElem?_cons_zero, List.getElem?_cons_succ, R.bind_ok]
  have hg : (S.set j (.dic (bkD M)))[j]? = some (.dic (bkD M)) := get_set_eq hj
  have hgi : (S.set j (.dic (bkD M)))[i]? = some (.lck (bkD F)) := by rw [get_set_ne hij]; exact hi
  have hk : keyOk (bkD M) (tupI (sortI (t ++ [d]))) = true := keyOk_bk _ _
  have hk2 : keyOk (bkD F) (tupI t) = true := keyOk_bk _ _
  have etup : D.tup ((sortI (t ++ [d])).map D.int) = tupI (sortI (t ++ [d])) := rfl
  rw [etup]
  simp only [Mth.ok, D.kd, hg, Mth.kd, decide_true, R.test_true, es_cons, e_var, e_con, es_nil, List.getElem?_cons_zero, List.getElem?_cons_succ, R.bind_ok, mthD, hk, dget_bk, e_idx, idxD, hgi, hk2, hc, Option.map_some, R.of_some]
  have e2 : (Option.map D.int (bget? M (sortI (t ++ [d])))).getD (.int 0) = .int (bgetD M (sortI (t ++ [d]))) := by
    unfold bgetD
    cases bget? M (sortI (t ++ [d])) <;> rfl
  rw [e2, add1]
  simp only [R.bind_ok, hg, hk, bkD_len, Bool.true_and]
  rw [decide_eq_true (by omega)]
  simp only [R.test_true, R.bind_ok, ss_nilE, dput_bk, List.set_set]
  rfl
def addDies (s : Nat) (M : Bk) (t : Row) (c : Int) : Bk := (dies s).foldl (fun M d => badd M (sortI (t ++ [d])) c) M
theorem dr1 (hi : S[i]? = some (.lck (bkD F))) (hij : i ≠ j) (hj : j < S.length) (ht : t.length ≤ 100) (s : Nat) (hs : s ≤ 100) (hM : M.length < 90000) {c : Int} (hc : bget? F t = some c) (x7 x8 : Option D) :
   ∃ env' st', forL .no (.one 7) (evSs C dieB) ((dies s).map D.int) [some a0, some (.int s), some (.ref i), some a3, some a4, some (.ref j), some (tupI t), x7, x8] (S.set j (.dic (bkD M))) = .ok (.nx env') st' ∧ ∃ y7 y8, env' = [some a0, some (.int s), some (.ref i), some a3, some a4, some (.ref j), some (tupI t), y7, y8] ∧ st' = S.set j (.dic (bkD (addDies s M t c))) := by
  refine forL_pre (g := .no) (tg := .one 7) (body := evSs C dieB) D.int (fun M d => badd M (sortI (t ++ [d])) c) (fun M env st => ∃ y7 y8, env = [some a0, some (.int s), some (.ref i), some a3, some a4, some (.ref j), some (tupI t), y7, y8] ∧ st = S.set j (.dic (bkD M))) (fun _ _ _ _ => rfl)
    (dies s) M _ _ ⟨x7, x8, rfl, rfl⟩ fun pre d post env st hp ⟨y7, y8, e1, e2⟩ => ?_
  subst e1 e2
  have hlen := addAll_len (fun d => sortI (t ++ [d])) (fun _ => c) pre M
  have hpl : pre.length ≤ s := by
    have := congrArg List.length hp
    simp [dies] at this
    omega
  have z := die_turn (C := C) (a0 := a0) (a1 := .int s) (a3 := a3) (a4 := a4) hi hij hj ht (M := pre.foldl (fun M d => badd M (sortI (t ++ [d])) c) M) (Nat.lt_of_le_of_lt hlen (by omega)) hc d y8
  exact ⟨_, _, _, rfl, z, ⟨_, _, rfl, rfl⟩⟩
theorem dies_run (hi : S[i]? = some (.lck (bkD F))) (hij : i ≠ j) (hj : j < S.length) (ht : t.length ≤ 100) (s : Nat) (hs : s ≤ 100) (hM : M.length < 90000) {c : Int} (hc : bget? F t = some c) (x7 x8 : Option D) :
    ∃ y7 y8, evS C (.for (.one 7) (.rng2 (.con (.int 1)) (.bin .Add (.var 1) (.con (.int 1)))) dieB) [some a0, some (.int s), some (.ref i), some a3, some a4, some (.ref j), some (tupI t), x7, x8] (S.set j (.dic (bkD M))) =
      .ok (.nx [some a0, some (.int s), some (.ref i), some a3, some a4, some (.ref j), some (tupI t), y7, y8]) (S.set j (.dic (bkD (addDies s M t c)))) := by
  obtain ⟨env', st', g1, y7, y8, g2, g3⟩ := dr1 (C := C) (a0 := a0) (a3 := a3) (a4 := a4) hi hij hj ht s hs hM hc x7 x8
  subst g2 g3
  refine ⟨y7, y8, for_ev (xs := (dies s).map D.int) ?_ g1⟩
  rw [← rng_dies]
  exact rng2_ev (by rw [e_con]) (by simp only [e_bin, e_var, e_con, R.bind_ok, List.getElem?_cons_zero, List.getElem?_cons_succ, add1]) (by decide) (by decide) (by omega) (by omega)
/-! ### one step of counted -/
def addAll (s : Nat) (F : Bk) (M : Bk) : Bk := F.foldl (fun M p => addDies s M p.1 p.2) M
theorem addDies_len (s : Nat) (M : Bk) (t : Row) (c : Int) : (addDies s M t c).length ≤ M.length + s := by
  have h := addAll_len (fun d => sortI (t ++ [d])) (fun _ => c) (dies s) M
  have e : (dies s).length = s := by simp [dies]
  rw [e] at h
  exact h
theorem addAll_bound (s : Nat) : ∀ (F M : Bk), (addAll s F M).length ≤ M.length + F.length * s
  | [], M => by simp [addAll]
  | p :: F, M => by
    have h1 := addAll_bound s F (addDies s M p.1 p.2)
    have h2 := addDies_len s M p.1 p.2
    have e : addAll s (p :: F) M = addAll s F (addDies s M p.1 p.2) := rfl
    rw [e, List.length_cons, Nat.succ_mul]
    omega
def keyB : Ss := .cons (.for (.one 7) (.rng2 (.con (.int 1)) (.bin .Add (.var 1) (.con (.int 1)))) dieB) .nil
def BkOk (F : Bk) : Prop := (bkeys F).Nodup ∧ ∀ p ∈ F, p.1.length ≤ 100
theorem bget_mem : ∀ {F : Bk}, (bkeys F).Nodup → ∀ p ∈ F, bget? F p.1 = some p.2
  | [], _, p, hp => by cases hp
  | (a, v) :: F, hn, p, hp => by
    rw [bkeys, List.map_cons, List.nodup_cons] at hn
    rw [bget?]
    rcases List.mem_cons.mp hp with rfl | hp
    · simp
    · have ne : a ≠ p.1 := fun z => hn.1 (List.mem_map.mpr ⟨p, hp, z.symm⟩)
      rw [if_neg ne]
      exact bget_mem hn.2 p hp
theorem keys_run (hi : S[i]? = some (.dic (bkD F))) (hij : i ≠ j) (hj : j < S.length) (hF : BkOk F) (s : Nat) (hs : s ≤ 100) (hFl : F.length ≤ 500) (x6 x7 x8 : Option D) :
    ∃ y6 y7 y8, evS C (.for (.one 6) (.keys (.var 2)) keyB) [some a0, some (.int s), some (.ref i), some a3, some a4, some (.ref j), x6, x7, x8] (S.set j (.dic (bkD []))) =
      .ok (.nx [some a0, some (.int s), some (.ref i), some a3, some a4, some (.ref j), y6, y7, y8]) (S.set j (.dic (bkD (addAll s F [])))) := by
  have hil : i < S.length := (List.getElem?_eq_some_iff.mp hi).1
  have key : ∃ env' st', forL (.dic i (bkD F)) (.one 6) (evSs C keyB) (F.map fun p => tupI p.1) [some a0, some (.int s), some (.ref i), some a3, some a4, some (.ref j), x6, x7, x8] ((S.set i (.lck (bkD F))).set j (.dic (bkD []))) = .ok (.nx env') st' ∧
      ∃ y6 y7 y8, env' = [some a0, some (.int s), some (.ref i), some a3, some a4, some (.ref j), y6, y7, y8] ∧ st' = (S.set i (.lck (bkD F))).set j (.dic (bkD (addAll s F []))) := by
    refine forL_pre (g := .dic i (bkD F)) (tg := .one 6) (body := evSs C keyB) (fun p : Row × Int => tupI p.1) (fun M p => addDies s M p.1 p.2) (fun M env st => ∃ y6 y7 y8, env = [some a0, some (.int s), some (.ref i), some a3, some a4, some (.ref j), y6, y7, y8] ∧ st = (S.set i (.lck (bkD F))).set j (.dic (bkD M)))
      (fun M env st ⟨_, _, _, _, e⟩ => ?_) F [] _ _ ⟨x6, x7, x8, rfl, rfl⟩ fun pre p post env st hp ⟨y6, y7, y8, e1, e2⟩ => ?_
    · subst e
      have e2 : ((S.set i (.lck (bkD F))).set j (.dic (bkD M)))[i]? = some (.lck (bkD F)) := by
        rw [get_set_ne hij]
        exact get_set_eq hil
      simp only [Grd.holds, e2, sameKv_self]
    · subst e1 e2
      have hpm : p ∈ F := by rw [hp]; simp
      have hpl : pre.length ≤ 500 := by
        have := congrArg List.length hp
        simp at this
        omega
      have hb := addAll_bound s pre []
      have hb2 : pre.length * s ≤ 500 * 100 := Nat.mul_le_mul hpl hs
      have hlen : (pre.foldl (fun M p => addDies s M p.1 p.2) []).length < 90000 := by
        have e : pre.foldl (fun M p => addDies s M p.1 p.2) [] = addAll s pre [] := rfl
        rw [e]
        simp only [List.length_nil] at hb
        omega
      obtain ⟨z7, z8, hz⟩ := dies_run (C := C) (a0 := a0) (a3 := a3) (a4 := a4) (S := S.set i (.lck (bkD F))) (F := F) (i := i) (j := j) (t := p.1) (get_set_eq hil) hij (by rw [List.length_set]; exact hj) (hF.2 p hpm) s hs hlen (bget_mem hF.1 p hpm) y7 y8
      refine ⟨_, _, _, rfl, ?_, ⟨some (tupI p.1), z7, z8, rfl, rfl⟩⟩
      unfold keyB
      rw [ss_consE]
      simp only [List.set_cons_succ, List.set_cons_zero]
      rw [hz]
      simp only [R.bind_ok, ss_nilE]
  obtain ⟨env', st', g1, y6, y7, y8, g2, g3⟩ := key
  subst g2 g3
  refine ⟨y6, y7, y8, ?_⟩
  have hi2 : (S.set j (.dic (bkD [])))[i]? = some (.dic (bkD F)) := by rw [get_set_ne hij]; exact hi
  rw [s_forE, i_keys, e_var]
  simp only [List.getElem?_cons_zero, List.getElem?_cons_succ, R.bind_ok, keysIt, hi2]
  have e1 : (bkD F).map (·.1) = F.map fun p => tupI p.1 := by simp [bkD]
  rw [e1]
  have e2 : (Grd.dic i (bkD F)).lock (S.set j (.dic (bkD []))) = (S.set i (.lck (bkD F))).set j (.dic (bkD [])) := by
    show (S.set j (.dic (bkD []))).set i (.lck (bkD F)) = _
    rw [List.set_comm _ _ (Ne.symm hij)]
  rw [e2, g1]
  have e3 : ((S.set i (.lck (bkD F))).set j (.dic (bkD (addAll s F []))))[i]? = some (.lck (bkD F)) := by
    rw [get_set_ne hij]
    exact get_set_eq hil
  simp only [Grd.out, Grd.holds, e3, sameKv_self, R.test_true, Grd.free]
  rw [List.set_comm _ _ (Ne.symm hij), List.set_set]
  have e4 : S.set i (.dic (bkD F)) = S := by
    rw [List.getElem?_eq_some_iff] at hi
    obtain ⟨h1, h2⟩ := hi
    rw [← h2, List.set_getElem_self]
  rw [e4]
end
end EV
end
section
set_option exponentiation.threshold 5000
/-! Pu7: counted, throws_of. -/
namespace EV
open PySem

theorem bset_keys (b : Bk) (k : Row) (v : Int) : (k ∈ bkeys b ∧ bkeys (bset b k v) = bkeys b) ∨ (k ∉ bkeys b ∧ bkeys (bset b k v) = bkeys b ++ [k]) := by
  induction b with
  | nil => exact .inr ⟨by simp [bkeys], rfl⟩
  | cons p b ih =>
    obtain ⟨a, w⟩ := p
    rw [bset]
    by_cases h : a = k
    · rw [if_pos h]
      exact .inl ⟨by simp [bkeys, h], rfl⟩
    · rw [if_neg h]
      rcases ih with ⟨h1, h2⟩ | ⟨h1, h2⟩
      · exact .inl ⟨List.mem_cons_of_mem _ h1, by simp only [bkeys, List.map_cons] at h2 ⊢; rw [h2]⟩
      · refine .inr ⟨?_, by simp only [bkeys, List.map_cons] at h2 ⊢; rw [h2]; rfl⟩
        simp only [bkeys, List.map_cons, List.mem_cons, not_or] at h1 ⊢
        exact ⟨Ne.symm h, h1⟩
theorem bset_nodup {b : Bk} (h : (bkeys b).Nodup) (k : Row) (v : Int) : (bkeys (bset b k v)).Nodup := by
  rcases bset_keys b k v with ⟨_, h2⟩ | ⟨h1, h2⟩
  · rw [h2]; exact h
  · rw [h2]
    exact List.nodup_append.mpr ⟨h, by simp, fun a ha c hc e => by
      have e2 : c = k := by simpa using hc
      subst e2; subst e
      exact h1 ha⟩
theorem bset_mem {b : Bk} {k r : Row} {v : Int} (h : r ∈ bkeys (bset b k v)) : r = k ∨ r ∈ bkeys b := by
  rcases bset_keys b k v with ⟨_, h2⟩ | ⟨h1, h2⟩
  · rw [h2] at h; exact .inr h
  · rw [h2] at h
    rcases List.mem_append.mp h with z | z
    · exact .inr z
    · exact .inl (by simpa using z)
/-- a book with keys of n numbers, each once -/
def BOk (n : Nat) (b : Bk) : Prop := (bkeys b).Nodup ∧ ∀ r ∈ bkeys b, r.length = n
theorem BOk.add {n : Nat} {b : Bk} (h : BOk n b) {k : Row} (hk : k.length = n) (c : Int) : BOk n (badd b k c) :=
  ⟨bset_nodup h.1 _ _, fun r hr => (bset_mem hr).elim (fun e => by rw [e]; exact hk) (h.2 r)⟩
theorem sortI_len (r : Row) : (sortI r).length = r.length := (sortI_perm r).length_eq
theorem BOk.dies {n : Nat} {t : Row} (ht : t.length = n) (c : Int) (ds : List Int) : ∀ {b : Bk}, BOk (n + 1) b → BOk (n + 1) (ds.foldl (fun M d => badd M (sortI (t ++ [d])) c) b) := by
  induction ds with
  | nil => intro b h; exact h
  | cons d ds ih => intro b h; exact ih (h.add (by rw [sortI_len]; simp [ht]) c)
theorem BOk.all {n : Nat} (s : Nat) : ∀ {F M : Bk}, (∀ r ∈ bkeys F, r.length = n) → BOk (n + 1) M → BOk (n + 1) (addAll s F M)
  | [], M, _, h => h
  | p :: F, M, hF, h => BOk.all s (F := F) (fun r hr => hF r (List.mem_cons_of_mem p.1 hr)) (BOk.dies (hF p.1 (by simp [bkeys])) p.2 _ h)
theorem BOk.nil (n : Nat) : BOk n [] := ⟨List.nodup_nil, fun r hr => by cases hr⟩
def countF (s : Nat) : Nat → Bk
  | 0 => [([], 1)]
  | n + 1 => addAll s (countF s n) []
theorem countF_ok (s : Nat) : ∀ n, BOk n (countF s n)
  | 0 => ⟨by simp [countF, bkeys], fun r hr => by have : r = [] := by simpa [countF, bkeys] using hr
                                                  rw [this]; rfl⟩
  | n + 1 => BOk.all s (countF_ok s n).2 (BOk.nil _)
theorem countF_len (s : Nat) : ∀ n, (countF s n).length ≤ s ^ n
  | 0 => by simp [countF]
  | n + 1 => by
    have h := addAll_bound s (countF s n) []
    have h2 := Nat.mul_le_mul_right s (countF_len s n)
    rw [countF, Nat.pow_succ]
    simp only [List.length_nil] at h
    omega
theorem pow_small {s n : Nat} (hs : s ≤ 6) (hn : n ≤ 3) : s ^ n ≤ 216 := by
  have h1 : s ^ n ≤ 6 ^ n := Nat.pow_le_pow_left hs n
  have h2 : (6 : Nat) ^ n ≤ 6 ^ 3 := Nat.pow_le_pow_right (by decide) hn
  omega
def outB : Ss := .cons (.set (.one 5) (.dct .nil)) (.cons (.for (.one 6) (.keys (.var 2)) keyB) (.cons (.set (.one 2) (.var 5)) (.cons (.set (.one 3) (.bin .Mult (.var 3) (.var 1))) .nil)))
section
variable {C : Ctx} {a0 a4 : D} {S0 : Store}
theorem dct_nil (env : Env) (st : Store) : evE C (.dct .nil) env st = .ok (.ref st.length) (st ++ [.dic []]) := by
  simp [pairUp, keysOk, dputs]
theorem out_turn (s : Nat) (hs : s ≤ 6) {F : Bk} {n : Nat} (hF : BOk n F) (hn : n ≤ 50) (hl : F.length ≤ 500) (w : Int) (gb : Store) (hw : w.natAbs < 2 ^ 63) (x5 x6 x7 x8 : Option D) :
    ∃ y5 y6 y7 y8, evSs C outB [some a0, some (.int s), some (.ref (S0 ++ gb).length), some (.int w), some a4, x5, x6, x7, x8] (S0 ++ gb ++ [O.dic (bkD F)]) =
      .ok (.nx [some a0, some (.int s), some (.ref (S0 ++ (gb ++ [O.dic (bkD F)])).length), some (.int (w * s)), some a4, y5, y6, y7, y8]) (S0 ++ (gb ++ [O.dic (bkD F)]) ++ [O.dic (bkD (addAll s F []))]) := by
  have hbk : BkOk F := ⟨hF.1, fun p hp => by rw [hF.2 p.1 (List.mem_map.mpr ⟨p, hp, rfl⟩)]; omega⟩
  have hi : (S0 ++ gb ++ [O.dic (bkD F)] ++ [O.dic []])[(S0 ++ gb).length]? = some (.dic (bkD F)) := by
    rw [List.append_assoc, List.getElem?_append_right (Nat.le_refl _)]
    simp
  have hj : (S0 ++ gb ++ [O.dic (bkD F)]).length < (S0 ++ gb ++ [O.dic (bkD F)] ++ [O.dic []]).length := by simp
  have hij : (S0 ++ gb).length ≠ (S0 ++ gb ++ [O.dic (bkD F)]).length := by simp
  obtain ⟨y6, y7, y8, hk⟩ := keys_run (C := C) (a0 := a0) (a3 := .int w) (a4 := a4) (S := S0 ++ gb ++ [O.dic (bkD F)] ++ [O.dic []]) hi hij hj hbk s (by omega) hl x6 x7 x8
  have e1 : (S0 ++ gb ++ [O.dic (bkD F)] ++ [O.dic []]).set (S0 ++ gb ++ [O.dic (bkD F)]).length (.dic (bkD [])) = S0 ++ gb ++ [O.dic (bkD F)] ++ [O.dic []] := by
    rw [List.set_append_right _ _ (Nat.le_refl _)]
    simp [bkD]
  have e2 : (S0 ++ gb ++ [O.dic (bkD F)] ++ [O.dic []]).set (S0 ++ gb ++ [O.dic (bkD F)]).length (.dic (bkD (addAll s F []))) = S0 ++ gb ++ [O.dic (bkD F)] ++ [O.dic (bkD (addAll s F []))] := by
    rw [List.set_append_right _ _ (Nat.le_refl _)]
    simp
  rw [e1, e2] at hk
  refine ⟨some (.ref (S0 ++ gb ++ [O.dic (bkD F)]).length), y6, y7, y8, ?_⟩
  unfold outB
  rw [ss_consE, s_setE, dct_nil]
  simp only [R.bind_ok, asg, R.of_some, List.set_cons_succ, List.set_cons_zero]
  rw [ss_consE, hk]
  simp only [R.bind_ok]
  rw [ss_consE, s_setE, e_var]
  simp only [R.bind_ok, asg, R.of_some, List.set_cons_succ, List.set_cons_zero, List.getElem?_cons_zero, List.getElem?_cons_succ]
  rw [ss_consE, s_setE, e_bin]
  simp only [e_var, R.bind_ok, asg, R.of_some, List.set_cons_succ, List.set_cons_zero, List.getElem?_cons_zero, List.getElem?_cons_succ]
  rw [big0 _ hw]
  simp only [R.bind_ok, asg, R.of_some, List.set_cons_succ, List.set_cons_zero, ss_nilE, List.append_assoc]
theorem iter_count (s : Nat) {α : Type} : ∀ (xs : List α) (a : Nat), xs.foldl (fun (p : Bk × Int) _ => (addAll s p.1 [], p.2 * s)) (countF s a, (s : Int) ^ a) = (countF s (a + xs.length), (s : Int) ^ (a + xs.length))
  | [], a => rfl
  | x :: xs, a => by
    have ih := iter_count s xs (a + 1)
    rw [List.foldl_cons]
    have e : (addAll s (countF s a) [], (s : Int) ^ a * s) = (countF s (a + 1), (s : Int) ^ (a + 1)) := rfl
    rw [e, ih, List.length_cons]
    congr 2 <;> omega
theorem pow_abs {s n : Nat} (hs : s ≤ 6) (hn : n ≤ 4) : ((s : Int) ^ n).natAbs < 2 ^ 63 := by
  rw [Int.natAbs_pow, Int.natAbs_natCast]
  have h1 : s ^ n ≤ 6 ^ n := Nat.pow_le_pow_left hs n
  have h2 : (6 : Nat) ^ n ≤ 6 ^ 4 := Nat.pow_le_pow_right (by decide) hn
  omega
theorem p_counted (k m s : Nat) (hm : m ≤ 4) (hs : s ≤ 6) (st : Store) : ∃ gb, G.call (k + 1) 43 [.int m, .int s] st = .ok (.tup [.ref (st ++ gb).length, .int ((s : Int) ^ m)]) (st ++ gb ++ [.dic (bkD (countF s m))]) := by
  have key : ∃ env' st', forL .no (.one 4) (evSs (G.ctx k) outB) ((List.range m).map fun i : Nat => D.int i) [some (.int m), some (.int s), some (.ref st.length), some (.int 1), none, none, none, none, none] (st ++ [O.dic (bkD (countF s 0))]) = .ok (.nx env') st' ∧
      ∃ gb y4 y5 y6 y7 y8, env' = [some (.int m), some (.int s), some (.ref (st ++ gb).length), some (.int ((s : Int) ^ m)), y4, y5, y6, y7, y8] ∧ st' = st ++ gb ++ [O.dic (bkD (countF s m))] := by
    obtain ⟨env', st', g1, gb, y4, y5, y6, y7, y8, g2, g3⟩ := forL_pre (g := .no) (tg := .one 4) (body := evSs (G.ctx k) outB) (fun i : Nat => D.int i) (fun (p : Bk × Int) _ => (addAll s p.1 [], p.2 * s))
      (fun p env st' => ∃ gb y4 y5 y6 y7 y8, env = [some (.int m), some (.int s), some (.ref (st ++ gb).length), some (.int p.2), y4, y5, y6, y7, y8] ∧ st' = st ++ gb ++ [O.dic (bkD p.1)]) (fun _ _ _ _ => rfl)
      (List.range m) (countF s 0, (s : Int) ^ 0) [some (.int m), some (.int s), some (.ref st.length), some (.int 1), none, none, none, none, none] (st ++ [O.dic (bkD (countF s 0))]) ⟨[], none, none, none, none, none, by simp, by simp⟩
      fun pre x post env st' hp ⟨gb, y4, y5, y6, y7, y8, e1, e2⟩ => by
        rw [iter_count] at e1 e2 ⊢
        subst e1 e2
        have hpl : pre.length + 1 ≤ m := by
          have := congrArg List.length hp
          simp at this
          omega
        have hlen := countF_len s (0 + pre.length)
        have hsm := pow_small (s := s) (n := 0 + pre.length) hs (by omega)
        obtain ⟨z5, z6, z7, z8, hz⟩ := out_turn (C := G.ctx k) (a0 := .int m) (a4 := .int x) (S0 := st) s hs (countF_ok s (0 + pre.length)) (by omega) (by omega) ((s : Int) ^ (0 + pre.length)) gb (pow_abs hs (by omega)) y5 y6 y7 y8
        exact ⟨_, _, _, rfl, hz, gb ++ [O.dic (bkD (countF s (0 + pre.length)))], some (.int x), z5, z6, z7, z8, rfl, rfl⟩
    rw [iter_count] at g2 g3
    simp only [List.length_range, Nat.zero_add] at g2 g3
    exact ⟨env', st', g1, gb, y4, y5, y6, y7, y8, g2, g3⟩
  obtain ⟨env', st', g1, gb, y4, y5, y6, y7, y8, g2, g3⟩ := key
  subst g2 g3
  refine ⟨gb, ?_⟩
  rw [call_of (d := ir_counted) rfl rfl]
  have eb : ir_counted.body = .cons (.set (.one 2) (.dct (.cons (.tup .nil) (.cons (.con (.int 1)) .nil)))) (.cons (.set (.one 3) (.con (.int 1))) (.cons (.for (.one 4) (.rng1 (.var 0)) outB) (.cons (.ret (.tup (.cons (.var 2) (.cons (.var 3) .nil)))) .nil))) := rfl
  rw [eb]
  show backR st (evSs (G.ctx k) _ [some (.int m), some (.int s), none, none, none, none, none, none, none] st) = _
  have ed : evE (G.ctx k) (.dct (.cons (.tup .nil) (.cons (.con (.int 1)) .nil))) [some (.int m), some (.int s), none, none, none, none, none, none, none] st = .ok (.ref st.length) (st ++ [O.dic (bkD (countF s 0))]) := by
    simp [pairUp, keysOk, dputs, dput, D.key, D.keys, D.isTup, countF, bkD, tupI]
  rw [ss_consE, s_setE, ed]
  simp only [R.bind_ok, asg, R.of_some, List.set_cons_succ, List.set_cons_zero]
  rw [ss_consE, s_setE, e_con]
  simp only [R.bind_ok, asg, R.of_some, List.set_cons_succ, List.set_cons_zero]
  have hfor := for_ev (C := G.ctx k) (t := .one 4) (it := .rng1 (.var 0)) (b := outB) (xs := (List.range m).map fun i : Nat => D.int i) (env := [some (.int m), some (.int s), some (.ref st.length), some (.int 1), none, none, none, none, none]) (st := st ++ [O.dic (bkD (countF s 0))]) (by
    rw [rng1_ev (y := (m : Int)) (by rw [e_var]; rfl) (by omega) (by omega), rngL_nat]
    simp) g1
  rw [ss_consE, hfor]
  simp only [R.bind_ok]
  rw [ss_consE, s_retE, e_tup]
  simp only [es_cons, es_nil, e_var, R.bind_ok, List.getElem?_cons_zero, List.getElem?_cons_succ, List.length_cons, List.length_nil]
  have hb : (D.tup [.ref (st ++ gb).length, .int ((s : Int) ^ m)]).low st.length = false := by
    simp [D.low, D.lows]
  rw [decide_eq_true (by decide), R.test_true, R.bind_ok, R.bind_ok]
  show backV st _ _ = _
  unfold backV
  rw [hb]
  simp
/-! ### throws_of -/
theorem ev_lcs {own : List Nat} {t : Tg} {it : It} {elt : E} {env : Env} {st st1 : Store} {α : Type} (e : α → D) (f : α → D) {xs : List α} (hI : evI C it env st = .ok (xs.map e, .no) st1)
    (h : ∀ x ∈ xs, ∃ env', asg t (e x) (wipes env own) = some env' ∧ evE C elt env' st1 = .ok (f x) st1) : evE C (.lc false own t it (.con (.bl true)) elt) env st = .ok (.lst (xs.map f)) st1 := by
  rw [evE, hI]
  simp only [R.bind_ok, Grd.lock]
  rw [lcL_map e f fun x hx => ?_]
  · simp [Grd.out, Grd.holds, Grd.free]
  · obtain ⟨env', h1, h2⟩ := h x hx
    exact ⟨env', h1, by simp, h2⟩
/-- all that n dice of s sides show, with its share -/
def thF (s n : Nat) : List (Row × Rat) := (sortR (bkeys (countF s n))).map fun t => (t, mkRat (bgetD (countF s n) t) (s ^ n))
def prD (p : Row × Rat) : D := .tup [tupI p.1, frD p.2]
theorem mem_sortR {ks : List Row} {r : Row} : r ∈ sortR ks ↔ r ∈ ks := mem_isort
theorem sorted_dic {S : Store} {i : Nat} {b : Bk} (h : S[i]? = some (.dic (bkD b))) : bltD .sorted [.ref i] S = .ok (.lst ((sortR (bkeys b)).map tupI)) S := by
  simp only [bltD, h, bkD_keys, sortD_rows, R.of_some, R.bind_ok]
theorem backV_cut (st more : Store) (v : D) (h : v.low st.length = true) : backV st v (st ++ more) = .ok v st := by
  unfold backV
  rw [h]
  have e : (st ++ more).take st.length = st := by simp
  have k : keepN st.length st (st ++ more) = true := by
    unfold keepN
    rw [e]
    simp
  rw [k, e]
  rfl
theorem low_fr (n : Nat) (q : Rat) : (frD q).low n = true := by simp [frD, D.low, D.lows]
theorem low_pr (n : Nat) (p : Row × Rat) : (prD p).low n = true := by simp [prD, D.low, D.lows, low_fr]
theorem lows_map {α : Type} (n : Nat) (f : α → D) (h : ∀ x, (f x).low n = true) : ∀ xs : List α, D.lows n (xs.map f) = true
  | [] => by simp [D.lows]
  | x :: xs => by rw [List.map_cons, D.lows, h x, lows_map n f h xs]; rfl
theorem bget_key {b : Bk} {r : Row} (h : r ∈ bkeys b) : bget? b r = some (bgetD b r) := by
  induction b with
  | nil => cases h
  | cons p b ih =>
    obtain ⟨a, v⟩ := p
    unfold bgetD
    rw [bget?]
    by_cases e : a = r
    · rw [if_pos e]; rfl
    · rw [if_neg e]
      have h2 : r ∈ bkeys b := by
        rcases List.mem_cons.mp h with z | z
        · exact absurd z.symm e
        · exact z
      have := ih h2
      rw [this]
      rfl
/-- the counts are small -/
def small (b : Bk) : Prop := ∀ r, (bgetD b r).natAbs < 2 ^ 100
theorem p_throws (k m s : Nat) (hm : m ≤ 4) (hs : s ≤ 6) (hs0 : 0 < s) (hsm : small (countF s m)) (st : Store) : G.call (k + 2) 44 [.int m, .int s] st = .ok (.tup ((thF s m).map prD)) st := by
  obtain ⟨gb, hc⟩ := p_counted k m s hm hs st
  have hi : (st ++ gb ++ [O.dic (bkD (countF s m))])[(st ++ gb).length]? = some (.dic (bkD (countF s m))) := by
    rw [List.getElem?_append_right (Nat.le_refl _)]
    simp
  have hp : 0 < s ^ m := Nat.pow_pos hs0
  have hp2 : s ^ m < 2 ^ 3000 := by
    have h1 : s ^ m ≤ 6 ^ m := Nat.pow_le_pow_left hs m
    have h2 : (6 : Nat) ^ m ≤ 6 ^ 4 := Nat.pow_le_pow_right (by decide) hm
    exact Nat.lt_of_le_of_lt (Nat.le_trans h1 h2) (by decide)
  have hlc : evE (G.ctx (k + 1)) (.lc false [4] (.one 4) (.seq (.blt .sorted (.cons (.var 2) .nil))) (.con (.bl true)) (.tup (.cons (.var 4) (.cons (.call 42 (.cons (.idx (.var 2) (.var 4)) (.cons (.var 3) .nil))) .nil)))) [some (.int m), some (.int s), some (.ref (st ++ gb).length), some (.int ((s : Int) ^ m)), none] (st ++ gb ++ [O.dic (bkD (countF s m))]) =
      .ok (.lst ((sortR (bkeys (countF s m))).map fun t => prD (t, mkRat (bgetD (countF s m) t) (s ^ m)))) (st ++ gb ++ [O.dic (bkD (countF s m))]) := by
    refine ev_lcs tupI _ ?_ fun t ht => ⟨_, rfl, ?_⟩
    · rw [i_seq, e_blt]
      simp only [es_cons, es_nil, e_var, R.bind_ok, List.getElem?_cons_zero, List.getElem?_cons_succ]
      rw [sorted_dic hi]
      rfl
    · have hk : keyOk (bkD (countF s m)) (tupI t) = true := keyOk_bk _ _
      have hg := bget_key (mem_sortR.mp ht)
      simp only [wipes, asg, List.set_cons_succ, List.set_cons_zero, e_tup, es_cons, es_nil, e_var, e_call, e_idx, R.bind_ok, List.getElem?_cons_zero, List.getElem?_cons_succ, idxD, hi, hk, R.test_true, dget_bk, hg, Option.map_some, R.of_some]
      have hz : ((s : Int) ^ m) = ((s ^ m : Nat) : Int) := by simp
      rw [hz]
      have hpl := p_plain k (bgetD (countF s m) t) (s ^ m) hp (Nat.lt_trans (hsm t) (by decide)) hp2 (st ++ gb ++ [O.dic (bkD (countF s m))])
      rw [hpl]
      rfl
  rw [call_of (d := ir_throws_of) rfl rfl]
  have eb : ir_throws_of.body = .cons (.set (.many [2, 3]) (.call 43 (.cons (.var 0) (.cons (.var 1) .nil)))) (.cons (.ret (.blt .tuple (.cons (.lc false [4] (.one 4) (.seq (.blt .sorted (.cons (.var 2) .nil))) (.con (.bl true)) (.tup (.cons (.var 4) (.cons (.call 42 (.cons (.idx (.var 2) (.var 4)) (.cons (.var 3) .nil))) .nil)))) .nil))) .nil) := rfl
  rw [eb]
  show backR st (evSs (G.ctx (k + 1)) _ [some (.int m), some (.int s), none, none, none] st) = _
  rw [ss_consE, s_setE, e_call]
  simp only [es_cons, es_nil, e_var, R.bind_ok, List.getElem?_cons_zero, List.getElem?_cons_succ]
  rw [hc]
  simp only [R.bind_ok, asg, asgs, R.of_some, List.set_cons_succ, List.set_cons_zero]
  rw [ss_consE, s_retE, e_blt, es_cons, hlc]
  simp only [R.bind_ok, es_nil, tuple_lst]
  show backV st _ _ = _
  rw [List.append_assoc, backV_cut]
  · simp [thF]
  · rw [D.low]
    exact lows_map _ _ (fun t => low_pr _ _) _
end
end EV
end
section
set_option exponentiation.threshold 5000
/-! Pu8: after, and the law's throws. -/
namespace EV
open PySem

/-! ### pairs sorted -/
def sortP (l : List (Row × Rat)) : List (Row × Rat) := isort (fun a b => !ltR b.1 a.1) l
theorem lt_pr {a b : Row × Rat} (h : a.1 ≠ b.1) : D.lt (prD a) (prD b) = ltR a.1 b.1 := by
  unfold prD
  rw [D.lt, D.lts, eqv_tupI, decide_eq_false h, if_neg Bool.false_ne_true, lt_tupI]
theorem lt_fr_self (q : Rat) : D.lt (frD q) (frD q) = false := by
  simp [frD, D.lt, D.lts, D.eqv]
theorem eqv_fr_self (q : Rat) : D.eqv (frD q) (frD q) = true := by
  simp [frD, D.eqv, D.eqvs]
theorem lt_pr_self (a : Row × Rat) : D.lt (prD a) (prD a) = false := by
  unfold prD
  rw [D.lt, D.lts, eqv_tupI, decide_eq_true rfl, if_pos rfl, D.lts, eqv_fr_self, if_pos rfl, D.lts]
  all_goals simp
theorem ltR_self : ∀ a : Row, ltR a a = false
  | [] => rfl
  | x :: xs => by rw [ltR, if_pos rfl]; exact ltR_self xs
theorem flats_prs : ∀ l : List (Row × Rat), D.flats 20 (l.map prD) = true
  | [] => by simp [D.flats]
  | p :: l => by
    rw [List.map_cons, D.flats, flats_prs l, prD, D.flat, D.flats, D.flats, D.flats, flat_tupI]
    simp [frD, D.flat, D.flats]
theorem cmpT_prs (a b : Row × Rat) : D.cmpT (prD a).its (prD b).its = true := by
  simp [prD, D.its, D.cmpT, frD, D.alike, D.alikes]
theorem sortOk_prs (l : List (Row × Rat)) : sortOk (l.map prD) = true := by
  rw [sortOk, flats_prs l]
  have e1 : ((l.map prD).all fun x => x.isTup) = true := by
    rw [List.all_eq_true]; intro p hp; obtain ⟨q, _, rfl⟩ := List.mem_map.mp hp; rfl
  have e2 : ((l.map prD).all fun x => x.neT) = true := by
    rw [List.all_eq_true]; intro p hp; obtain ⟨q, _, rfl⟩ := List.mem_map.mp hp; rfl
  rw [e1, e2, if_pos rfl, Bool.and_self, Bool.true_and, List.all_eq_true]
  intro x hx
  rw [List.all_eq_true]
  intro y hy
  obtain ⟨a, _, rfl⟩ := List.mem_map.mp hx
  obtain ⟨b, _, rfl⟩ := List.mem_map.mp hy
  exact cmpT_prs a b
theorem nodup_key {l : List (Row × Rat)} (h : (l.map (·.1)).Nodup) {a b : Row × Rat} (ha : a ∈ l) (hb : b ∈ l) (e : a.1 = b.1) : a = b := by
  induction l with
  | nil => cases ha
  | cons p l ih =>
    rw [List.map_cons, List.nodup_cons] at h
    rcases List.mem_cons.mp ha with rfl | ha
    · rcases List.mem_cons.mp hb with rfl | hb
      · rfl
      · exact absurd (List.mem_map.mpr ⟨b, hb, e.symm⟩) h.1
    · rcases List.mem_cons.mp hb with e2 | hb
      · rw [e2] at e
        exact absurd (List.mem_map.mpr ⟨a, ha, e⟩) h.1
      · exact ih h.2 ha hb
theorem sortD_prs (l : List (Row × Rat)) (h : (l.map (·.1)).Nodup) : sortD (l.map prD) = some ((sortP l).map prD) := by
  have e3 : isort (fun a b => !D.lt (prD b) (prD a)) l = sortP l := by
    refine isort_congr fun a ha b hb => ?_
    by_cases e : b.1 = a.1
    · have := nodup_key h hb ha e
      subst this
      rw [lt_pr_self, ltR_self]
    · rw [lt_pr e]
  cases l with
  | nil => simp [sortD, intsOf, sortP, isort, sortI]
  | cons k ks =>
    have e : intsOf ((k :: ks).map prD) = none := rfl
    rw [sortD, e]
    show (match sortOk ((k :: ks).map prD) with | true => some (sortT ((k :: ks).map prD)) | false => none) = _
    rw [sortOk_prs]
    show some (sortT ((k :: ks).map prD)) = _
    rw [sortT, ← isort_map (f := prD) (r := fun a b => !D.lt (prD b) (prD a)) (fun a b => rfl), e3]
/-- what comes if kept is kept and n dice are thrown -/
def afF (s n : Nat) (kept : Row) : List (Row × Rat) := sortP ((thF s n).map fun p => (sortI (kept ++ p.1), p.2))
theorem perm_sortI {a b : Row} (h : a.Perm b) : sortI a = sortI b := by
  have h1 := isort_sorted leI a
  have h2 := isort_sorted leI b
  have hp : (sortI a).Perm (sortI b) := (sortI_perm a).trans (h.trans (sortI_perm b).symm)
  exact hp.eq_of_pairwise (le := fun a b => decide (a ≤ b) = true) (fun x y _ _ h1 h2 => by simp only [decide_eq_true_eq] at h1 h2; omega) h1 h2
theorem sortI_iff {a b : Row} : sortI a = sortI b ↔ a.Perm b :=
  ⟨fun h => (sortI_perm a).symm.trans (h ▸ sortI_perm b), perm_sortI⟩
theorem thF_keys (s n : Nat) : ((thF s n).map (·.1)) = sortR (bkeys (countF s n)) := by
  rw [thF, List.map_map]
  show (sortR (bkeys (countF s n))).map (fun t => t) = _
  simp
theorem sortR_nodup {ks : List Row} (h : ks.Nodup) : (sortR ks).Nodup := (perm_isort (le := fun a b => !ltR b a)).nodup_iff.mpr h
/-- the keys of a book of throws are rising -/
theorem bset_all {P : Row → Prop} {b : Bk} {k : Row} {v : Int} (h : ∀ r ∈ bkeys b, P r) (hk : P k) : ∀ r ∈ bkeys (bset b k v), P r := fun r hr => (bset_mem hr).elim (fun e => e ▸ hk) (h r)
theorem sortI_idem (r : Row) : sortI (sortI r) = sortI r := perm_sortI (sortI_perm r)
theorem countF_rise (s : Nat) : ∀ n, ∀ r ∈ bkeys (countF s n), sortI r = r
  | 0, r, hr => by
    have : r = [] := by simpa [countF, bkeys] using hr
    rw [this]; rfl
  | n + 1, r, hr => by
    have one : ∀ (t : Row) (c : Int) (ds : List Int) (M : Bk), (∀ r ∈ bkeys M, sortI r = r) → ∀ r ∈ bkeys (ds.foldl (fun M d => badd M (sortI (t ++ [d])) c) M), sortI r = r := by
      intro t c ds
      induction ds with
      | nil => intro M h; exact h
      | cons d ds ih => intro M h; exact ih _ (bset_all h (sortI_idem _))
    have all : ∀ (F M : Bk), (∀ r ∈ bkeys M, sortI r = r) → ∀ r ∈ bkeys (addAll s F M), sortI r = r := by
      intro F
      induction F with
      | nil => intro M h; exact h
      | cons p F ih => intro M h; exact ih _ (one p.1 p.2 _ M h)
    exact all _ [] (fun r hr => by cases hr) r hr
theorem af_nodup (s n : Nat) (kept : Row) : (((thF s n).map fun p => (sortI (kept ++ p.1), p.2)).map (·.1)).Nodup := by
  rw [List.map_map]
  have e : ((fun x : Row × Rat => x.1) ∘ fun p : Row × Rat => (sortI (kept ++ p.1), p.2)) = (fun r => sortI (kept ++ r)) ∘ (·.1) := rfl
  rw [e, ← List.map_map, thF_keys]
  have nd := sortR_nodup (countF_ok s n).1
  have hr : ∀ r ∈ sortR (bkeys (countF s n)), sortI r = r := fun r hr => countF_rise s n r (mem_sortR.mp hr)
  generalize sortR (bkeys (countF s n)) = ks at nd hr
  induction ks with
  | nil => exact List.nodup_nil
  | cons k ks ih =>
    rw [List.nodup_cons] at nd
    rw [List.map_cons, List.nodup_cons]
    refine ⟨fun h => ?_, ih nd.2 fun r h => hr r (List.mem_cons_of_mem _ h)⟩
    obtain ⟨r, h1, h2⟩ := List.mem_map.mp h
    have hp := sortI_iff.mp h2
    have hp2 := (List.perm_append_left_iff kept).mp hp
    have e2 := perm_sortI hp2
    rw [hr r (List.mem_cons_of_mem _ h1), hr k (List.mem_cons_self ..)] at e2
    exact nd.1 (e2 ▸ h1)
theorem thF_len {s n : Nat} {p : Row × Rat} (h : p ∈ thF s n) : p.1.length = n := by
  obtain ⟨t, ht, rfl⟩ := List.mem_map.mp h
  exact (countF_ok s n).2 t (mem_sortR.mp ht)
theorem p_after (k m s : Nat) (kept : Row) (rest : List D) (hk : kept.length ≤ m) (hm : m ≤ 4) (hs : s ≤ 6) (hs0 : 0 < s) (hsm : small (countF s (m - kept.length))) (st : Store) :
    G.call (k + 3) 46 [.tup (.int m :: .int s :: rest), tupI kept] st = .ok (.tup ((afF s (m - kept.length) kept).map prD)) st := by
  have hth := p_throws k (m - kept.length) s (by omega) hs hs0 hsm st
  have i0 : getAt (D.int m :: D.int s :: rest) 0 = some (.int m) := getAt_nat _ 0 (by simp)
  have i1 : getAt (D.int m :: D.int s :: rest) 1 = some (.int s) := getAt_nat _ 1 (by simp)
  have hlc : evE (G.ctx (k + 2)) (.lc false [3, 4] (.many [3, 4]) (.seq (.call 44 (.cons (.bin .Sub (.idx (.var 0) (.con (.int 0))) (.blt .len (.cons (.var 1) .nil))) (.cons (.idx (.var 0) (.con (.int 1))) .nil)))) (.con (.bl true)) (.tup (.cons (.blt .tuple (.cons (.blt .sorted (.cons (.bin .Add (.var 1) (.var 3)) .nil)) .nil)) (.cons (.var 4) .nil)))) [some (.tup (.int m :: .int s :: rest)), some (tupI kept), none, none, none] st =
      .ok (.lst ((thF s (m - kept.length)).map fun p => prD (sortI (kept ++ p.1), p.2))) st := by
    refine ev_lcs prD _ ?_ fun p hp => ⟨_, rfl, ?_⟩
    · rw [i_seq, e_call]
      simp only [es_cons, es_nil, e_var, e_bin, e_idx, e_con, e_blt, R.bind_ok, List.getElem?_cons_zero, List.getElem?_cons_succ, idxD, i0, i1, R.of_some, len_tupI, sub1]
      have e : ((m : Int) - (kept.length : Int)) = ((m - kept.length : Nat) : Int) := by omega
      rw [e, hth]
      rfl
    · have hl := thF_len hp
      simp only [wipes, asg, asgs, List.set_cons_succ, List.set_cons_zero, e_tup, es_cons, es_nil, e_var, e_blt, e_bin, R.bind_ok, List.getElem?_cons_zero, List.getElem?_cons_succ]
      rw [add_tupI _ _ _ (by omega)]
      simp only [R.bind_ok, sorted_tupI, tuple_lst]
      rfl
  rw [call_of (d := ir_after) rfl rfl]
  have eb : ir_after.body = .cons (.set (.one 2) (.lc false [3, 4] (.many [3, 4]) (.seq (.call 44 (.cons (.bin .Sub (.idx (.var 0) (.con (.int 0))) (.blt .len (.cons (.var 1) .nil))) (.cons (.idx (.var 0) (.con (.int 1))) .nil)))) (.con (.bl true)) (.tup (.cons (.blt .tuple (.cons (.blt .sorted (.cons (.bin .Add (.var 1) (.var 3)) .nil)) .nil)) (.cons (.var 4) .nil))))) (.cons (.ret (.blt .tuple (.cons (.blt .sorted (.cons (.var 2) .nil)) .nil))) .nil) := rfl
  rw [eb]
  show backR st (evSs (G.ctx (k + 2)) _ [some (.tup (.int m :: .int s :: rest)), some (tupI kept), none, none, none] st) = _
  rw [ss_consE, s_setE, hlc]
  simp only [R.bind_ok, asg, R.of_some, List.set_cons_succ, List.set_cons_zero]
  rw [ss_consE, s_retE]
  have e2 : ((thF s (m - kept.length)).map fun p => prD (sortI (kept ++ p.1), p.2)) = ((thF s (m - kept.length)).map fun p => (sortI (kept ++ p.1), p.2)).map prD := by rw [List.map_map]; rfl
  have hs1 : bltD .sorted [.lst ((thF s (m - kept.length)).map fun p => prD (sortI (kept ++ p.1), p.2))] st = .ok (.lst ((afF s (m - kept.length) kept).map prD)) st := by
    simp only [bltD]
    rw [e2, sortD_prs _ (af_nodup s _ kept)]
    rfl
  simp only [e_blt, es_cons, es_nil, e_var, R.bind_ok, List.getElem?_cons_zero, List.getElem?_cons_succ, hs1, tuple_lst]
  show backV st _ _ = _
  simp
end EV
end
section
set_option exponentiation.threshold 5000
/-! Pu9: the law's own throws. -/
namespace EV
open PySem

def rowsF (s : Nat) : Nat → List Row
  | 0 => [[]]
  | n + 1 => (rowsF s n).flatMap fun r => (dies s).map fun d => r ++ [d]
theorem rowsF_len (s : Nat) : ∀ n, (rowsF s n).length = s ^ n
  | 0 => rfl
  | n + 1 => by
    rw [rowsF, List.length_flatMap]
    have e : (rowsF s n).map (fun r => ((dies s).map fun d => r ++ [d]).length) = (rowsF s n).map fun _ => s := by
      refine List.map_congr_left fun r _ => ?_
      simp [dies]
    rw [e, List.map_const', List.sum_replicate_nat, rowsF_len s n, Nat.pow_succ]
theorem rowsF_row (s : Nat) : ∀ n, ∀ r ∈ rowsF s n, r.length = n
  | 0, r, h => by
    have : r = [] := by simpa [rowsF] using h
    rw [this]; rfl
  | n + 1, r, h => by
    obtain ⟨q, h1, h2⟩ := List.mem_flatMap.mp h
    obtain ⟨d, _, rfl⟩ := List.mem_map.mp h2
    simp [rowsF_row s n q h1]
def lBk (s n : Nat) (kept : Row) : Bk := (rowsF s n).foldl (fun b r => badd b (sortI (kept ++ r)) 1) []
def ltF (s n : Nat) (kept : Row) : List (Row × Rat) := (sortR (bkeys (lBk s n kept))).map fun t => (t, mkRat (bgetD (lBk s n kept) t) (s ^ n))
def rowB : Ss := .cons (.set (.one 6) (.bin .Add (.var 6) (.lc false [8] (.one 8) (.rng2 (.con (.int 1)) (.bin .Add (.idx (.var 0) (.con (.int 1))) (.con (.int 1)))) (.con (.bl true)) (.bin .Add (.var 5) (.tup (.cons (.var 8) .nil)))))) .nil
def longB : Ss := .cons (.set (.one 6) (.lst .nil)) (.cons (.for (.one 5) (.seq (.var 2)) rowB) (.cons (.set (.one 2) (.var 6)) .nil))
def bookB : Ss := .cons (.set (.one 7) (.blt .tuple (.cons (.blt .sorted (.cons (.bin .Add (.var 1) (.var 5)) .nil)) .nil))) (.cons (.put (.var 4) (.var 7) (.bin .Add (.mth .get2 (.var 4) (.cons (.var 7) (.cons (.con (.int 0)) .nil))) (.con (.int 1)))) .nil)
section
variable {C : Ctx} {m s : Nat} {rest : List D} {kept : Row}
theorem row_turn (hs : s ≤ 6) (L : List Row) (hL : L.length ≤ 100000) (r : Row) (hr : r.length ≤ 100) (x2 x3 x4 x7 x8 : Option D) (st : Store) :
    evSs C rowB [some (.tup (.int m :: .int s :: rest)), some (tupI kept), x2, x3, x4, some (tupI r), some (.lst (L.map tupI)), x7, x8] st =
      .ok (.nx [some (.tup (.int m :: .int s :: rest)), some (tupI kept), x2, x3, x4, some (tupI r), some (.lst ((L ++ (dies s).map fun d => r ++ [d]).map tupI)), x7, x8]) st := by
  have i1 : getAt (D.int m :: D.int s :: rest) 1 = some (.int s) := getAt_nat _ 1 (by simp)
  have hlc : evE C (.lc false [8] (.one 8) (.rng2 (.con (.int 1)) (.bin .Add (.idx (.var 0) (.con (.int 1))) (.con (.int 1)))) (.con (.bl true)) (.bin .Add (.var 5) (.tup (.cons (.var 8) .nil)))) [some (.tup (.int m :: .int s :: rest)), some (tupI kept), x2, x3, x4, some (tupI r), some (.lst (L.map tupI)), x7, x8] st =
      .ok (.lst ((dies s).map fun d => tupI (r ++ [d]))) st := by
    refine ev_lcs D.int _ ?_ fun d hd => ⟨_, rfl, ?_⟩
    · rw [← rng_dies]
      exact rng2_ev (by rw [e_con]) (by simp only [e_bin, e_idx, e_var, e_con, R.bind_ok, List.getElem?_cons_zero, List.getElem?_cons_succ, idxD, i1, R.of_some, add1]) (by decide) (by decide) (by omega) (by omega)
    · have := add_tupI r [d] st (by simp; omega)
      simp only [wipes, asg, List.set_cons_succ, List.set_cons_zero, e_bin, e_tup, es_cons, es_nil, e_var, R.bind_ok, List.getElem?_cons_zero, List.getElem?_cons_succ]
      simpa [tupI] using this
  have hdl : (dies s).length = s := by simp [dies]
  unfold rowB
  rw [ss_consE, s_setE, e_bin]
  simp only [e_var, List.getElem?_cons_zero, List.getElem?_cons_succ, R.bind_ok, hlc, addL, List.length_map, hdl]
  rw [decide_eq_true (by unfold lim; omega)]
  simp only [R.test_true, R.bind_ok, asg, R.of_some, List.set_cons_succ, List.set_cons_zero, ss_nilE, List.map_append, List.map_map]
  rfl
theorem long_turn (hs : s ≤ 6) (Rs : List Row) (hR : Rs.length ≤ 2000) (hr : ∀ r ∈ Rs, r.length ≤ 100) (x3 x4 x5 x6 x7 x8 : Option D) (st : Store) :
    ∃ y5 y6, evSs C longB [some (.tup (.int m :: .int s :: rest)), some (tupI kept), some (.lst (Rs.map tupI)), x3, x4, x5, x6, x7, x8] st =
      .ok (.nx [some (.tup (.int m :: .int s :: rest)), some (tupI kept), some (.lst ((Rs.flatMap fun r => (dies s).map fun d => r ++ [d]).map tupI)), x3, x4, y5, y6, x7, x8]) st := by
  have hdl : (dies s).length = s := by simp [dies]
  have flen : ∀ (pre : List Row) (L : List Row), (pre.foldl (fun L r => L ++ (dies s).map fun d => r ++ [d]) L) = L ++ pre.flatMap fun r => (dies s).map fun d => r ++ [d] := by
    intro pre
    induction pre with
    | nil => intro L; simp
    | cons r pre ih => intro L; rw [List.foldl_cons, ih, List.flatMap_cons, List.append_assoc]
  obtain ⟨env', st', g1, y5, g2, g3⟩ := forL_pre (g := .no) (tg := .one 5) (body := evSs C rowB) tupI (fun (L : List Row) r => L ++ (dies s).map fun d => r ++ [d])
    (fun L env st' => ∃ y5, env = [some (.tup (.int m :: .int s :: rest)), some (tupI kept), some (.lst (Rs.map tupI)), x3, x4, y5, some (.lst (L.map tupI)), x7, x8] ∧ st' = st) (fun _ _ _ _ => rfl)
    Rs [] [some (.tup (.int m :: .int s :: rest)), some (tupI kept), some (.lst (Rs.map tupI)), x3, x4, x5, some (.lst []), x7, x8] st ⟨x5, rfl, rfl⟩ fun pre r post env st' hp ⟨y5, e1, e2⟩ => by
      subst e1 e2
      have hpl : pre.length ≤ 2000 := by
        have := congrArg List.length hp
        simp at this
        omega
      have hl : (pre.foldl (fun L r => L ++ (dies s).map fun d => r ++ [d]) []).length ≤ 100000 := by
        rw [flen, List.nil_append, List.length_flatMap]
        have e : pre.map (fun r => ((dies s).map fun d => r ++ [d]).length) = pre.map fun _ => s := by
          refine List.map_congr_left fun r _ => ?_
          simp [dies]
        rw [e, List.map_const', List.sum_replicate_nat]
        have := Nat.mul_le_mul hpl hs
        omega
      have z := row_turn (C := C) (m := m) (s := s) (rest := rest) (kept := kept) hs _ hl r (hr r (by rw [hp]; simp)) (some (.lst (Rs.map tupI))) x3 x4 x7 x8 st'
      exact ⟨_, _, _, rfl, z, ⟨_, rfl, rfl⟩⟩
  subst g2 g3
  rw [flen, List.nil_append] at g1
  have hfor := for_ev (C := C) (t := .one 5) (it := .seq (.var 2)) (b := rowB) (xs := Rs.map tupI) (by rw [i_seq, e_var]; rfl) g1
  refine ⟨y5, some (.lst ((Rs.flatMap fun r => (dies s).map fun d => r ++ [d]).map tupI)), ?_⟩
  unfold longB
  rw [ss_consE, s_setE, e_lst, es_nil]
  simp only [R.bind_ok, List.length_nil, asg, R.of_some, List.set_cons_succ, List.set_cons_zero]
  rw [decide_eq_true (by decide), R.test_true, R.bind_ok, R.bind_ok]
  show evSs C (.cons (.for (.one 5) (.seq (.var 2)) rowB) (.cons (.set (.one 2) (.var 6)) .nil)) _ _ = _
  rw [ss_consE, hfor]
  simp only [R.bind_ok, ss_consE, s_setE, e_var, List.getElem?_cons_zero, List.getElem?_cons_succ, asg, R.of_some, List.set_cons_succ, List.set_cons_zero, ss_nilE]
theorem book_turn {j : Nat} {S : Store} (hj : j < S.length) {M : Bk} (hM : M.length < 100000) (hk : kept.length ≤ 100) (r : Row) (hr : r.length ≤ 100) (x0 x2 x3 x6 x7 x8 : Option D) :
    evSs C bookB [x0, some (tupI kept), x2, x3, some (.ref j), some (tupI r), x6, x7, x8] (S.set j (.dic (bkD M))) =
      .ok (.nx [x0, some (tupI kept), x2, x3, some (.ref j), some (tupI r), x6, some (tupI (sortI (kept ++ r))), x8]) (S.set j (.dic (bkD (badd M (sortI (kept ++ r)) 1)))) := by
  have hg : (S.set j (.dic (bkD M)))[j]? = some (.dic (bkD M)) := get_set_eq hj
  have hk2 : keyOk (bkD M) (tupI (sortI (kept ++ r))) = true := keyOk_bk _ _
  unfold bookB
  rw [ss_consE, s_setE]
  simp only [e_blt, es_cons, es_nil, e_bin, e_var, R.bind_ok, List.getElem?_cons_zero, List.getElem?_cons_succ]
  rw [add_tupI _ _ _ (by omega)]
  simp only [R.bind_ok, sorted_tupI, tuple_lst, asg, R.of_some, List.set_cons_succ, List.set_cons_zero]
  have etup : D.tup ((sortI (kept ++ r)).map D.int) = tupI (sortI (kept ++ r)) := rfl
  rw [etup, ss_consE, s_putE, e_bin, e_mth, e_var]
  simp only [List.getElem?_cons_zero, List.getElem?_cons_succ, R.bind_ok, Mth.ok, D.kd, hg, Mth.kd, decide_true, R.test_true, es_cons, e_var, e_con, es_nil, mthD, hk2, dget_bk]
  have e2 : (Option.map D.int (bget? M (sortI (kept ++ r)))).getD (.int 0) = .int (bgetD M (sortI (kept ++ r))) := by
    unfold bgetD
    cases bget? M (sortI (kept ++ r)) <;> rfl
  rw [e2, add1]
  simp only [R.bind_ok, hg, hk2, bkD_len, Bool.true_and]
  rw [decide_eq_true (by omega)]
  simp only [R.test_true, R.bind_ok, ss_nilE, dput_bk, List.set_set]
  rfl
end
theorem iter_rows (s : Nat) {α : Type} : ∀ (xs : List α) (a : Nat), xs.foldl (fun (L : List Row) _ => L.flatMap fun r => (dies s).map fun d => r ++ [d]) (rowsF s a) = rowsF s (a + xs.length)
  | [], a => rfl
  | x :: xs, a => by
    have ih := iter_rows s xs (a + 1)
    rw [List.foldl_cons]
    have e : ((rowsF s a).flatMap fun r => (dies s).map fun d => r ++ [d]) = rowsF s (a + 1) := rfl
    rw [e, ih, List.length_cons]
    congr 1
    omega
theorem pow_1296 {s n : Nat} (hs : s ≤ 6) (hn : n ≤ 4) : s ^ n ≤ 1296 := by
  have h1 : s ^ n ≤ 6 ^ n := Nat.pow_le_pow_left hs n
  have h2 : (6 : Nat) ^ n ≤ 6 ^ 4 := Nat.pow_le_pow_right (by decide) hn
  omega
theorem p_lthrows (k m s : Nat) (kept : Row) (rest : List D) (hk : kept.length ≤ m) (hm : m ≤ 4) (hs : s ≤ 6) (hs0 : 0 < s) (hsm : small (lBk s (m - kept.length) kept)) (st : Store) :
    G.call (k + 2) 49 [.tup (.int m :: .int s :: rest), tupI kept] st = .ok (.lst ((ltF s (m - kept.length) kept).map prD)) st := by
  have i0 : getAt (D.int m :: D.int s :: rest) 0 = some (.int m) := getAt_nat _ 0 (by simp)
  have hn4 : m - kept.length ≤ 4 := by omega
  generalize hn : m - kept.length = n at *
  -- the rows
  obtain ⟨env1, st1, g1, y3, y5, y6, g2, g3⟩ := forL_pre (g := .no) (tg := .one 3) (body := evSs (G.ctx (k + 1)) longB) (fun i : Nat => D.int i) (fun (L : List Row) (_ : Nat) => L.flatMap fun r => (dies s).map fun d => r ++ [d])
    (fun L env st' => ∃ y3 y5 y6, env = [some (.tup (.int m :: .int s :: rest)), some (tupI kept), some (.lst (L.map tupI)), y3, none, y5, y6, none, none] ∧ st' = st) (fun _ _ _ _ => rfl)
    (List.range n) (rowsF s 0) [some (.tup (.int m :: .int s :: rest)), some (tupI kept), some (.lst ((rowsF s 0).map tupI)), none, none, none, none, none, none] st ⟨none, none, none, rfl, rfl⟩ fun pre x post env st' hp ⟨y3, y5, y6, e1, e2⟩ => by
      rw [iter_rows] at e1 ⊢
      subst e1 e2
      have hpl : pre.length + 1 ≤ n := by
        have := congrArg List.length hp
        simp at this
        omega
      have hl : (rowsF s (0 + pre.length)).length ≤ 2000 := by
        rw [rowsF_len]
        have := pow_1296 (s := s) (n := 0 + pre.length) hs (by omega)
        omega
      obtain ⟨z5, z6, hz⟩ := long_turn (C := G.ctx (k + 1)) (m := m) (s := s) (rest := rest) (kept := kept) hs _ hl (fun r hr => by rw [rowsF_row s _ r hr]; omega) (some (.int x)) none y5 y6 none none st'
      exact ⟨_, _, _, rfl, hz, some (.int x), z5, z6, rfl, rfl⟩
  rw [iter_rows] at g2
  simp only [List.length_range, Nat.zero_add] at g2
  subst g2 g3
  -- the book
  obtain ⟨env2, st2, b1, z5, z7, b2, b3⟩ := forL_pre (g := .no) (tg := .one 5) (body := evSs (G.ctx (k + 1)) bookB) tupI (fun (b : Bk) r => badd b (sortI (kept ++ r)) 1)
    (fun b env st' => ∃ z5 z7, env = [some (.tup (.int m :: .int s :: rest)), some (tupI kept), some (.lst ((rowsF s n).map tupI)), y3, some (.ref st1.length), z5, y6, z7, none] ∧ st' = (st1 ++ [O.dic []]).set st1.length (.dic (bkD b))) (fun _ _ _ _ => rfl)
    (rowsF s n) [] [some (.tup (.int m :: .int s :: rest)), some (tupI kept), some (.lst ((rowsF s n).map tupI)), y3, some (.ref st1.length), y5, y6, none, none] (st1 ++ [O.dic []]) ⟨y5, none, rfl, by simp [bkD]⟩ fun pre r post env st' hp ⟨z5, z7, e1, e2⟩ => by
      subst e1 e2
      have hpl : pre.length ≤ 2000 := by
        have := congrArg List.length hp
        rw [rowsF_len] at this
        simp at this
        have := pow_1296 (s := s) (n := n) hs (by omega)
        omega
      have hlen := addAll_len (fun r => sortI (kept ++ r)) (fun _ => (1 : Int)) pre []
      have z := book_turn (C := G.ctx (k + 1)) (kept := kept) (S := st1 ++ [O.dic []]) (j := st1.length) (by simp) (M := pre.foldl (fun b r => badd b (sortI (kept ++ r)) 1) []) (by simp only [List.length_nil] at hlen; omega) (by omega) r (by rw [rowsF_row s n r (by rw [hp]; simp)]; omega) (some (.tup (.int m :: .int s :: rest))) (some (.lst ((rowsF s n).map tupI))) y3 y6 z7 none
      exact ⟨_, _, _, rfl, z, ⟨_, _, rfl, rfl⟩⟩
  have eS : (st1 ++ [O.dic []]).set st1.length (.dic (bkD (lBk s n kept))) = st1 ++ [O.dic (bkD (lBk s n kept))] := by simp
  have b3 : st2 = st1 ++ [O.dic (bkD (lBk s n kept))] := b3.trans eS
  subst b2 b3
  have hi : (st1 ++ [O.dic (bkD (lBk s n kept))])[st1.length]? = some (.dic (bkD (lBk s n kept))) := by simp
  have hp : 0 < s ^ n := Nat.pow_pos hs0
  have hp2 : s ^ n < 2 ^ 3000 := Nat.lt_of_le_of_lt (pow_1296 hs (by omega)) (by decide)
  have hlc : evE (G.ctx (k + 1)) (.lc false [7] (.one 7) (.seq (.blt .sorted (.cons (.var 4) .nil))) (.con (.bl true)) (.tup (.cons (.var 7) (.cons (.call 47 (.cons (.idx (.var 4) (.var 7)) (.cons (.blt .len (.cons (.var 2) .nil)) .nil))) .nil)))) [some (.tup (.int m :: .int s :: rest)), some (tupI kept), some (.lst ((rowsF s n).map tupI)), y3, some (.ref st1.length), z5, y6, z7, none] (st1 ++ [O.dic (bkD (lBk s n kept))]) =
      .ok (.lst ((sortR (bkeys (lBk s n kept))).map fun t => prD (t, mkRat (bgetD (lBk s n kept) t) (s ^ n)))) (st1 ++ [O.dic (bkD (lBk s n kept))]) := by
    refine ev_lcs tupI _ ?_ fun t ht => ⟨_, rfl, ?_⟩
    · rw [i_seq, e_blt]
      simp only [es_cons, es_nil, e_var, R.bind_ok, List.getElem?_cons_zero, List.getElem?_cons_succ]
      rw [sorted_dic hi]
      rfl
    · have hk2 : keyOk (bkD (lBk s n kept)) (tupI t) = true := keyOk_bk _ _
      have hg := bget_key (mem_sortR.mp ht)
      have hlen : bltD .len [.lst ((rowsF s n).map tupI)] (st1 ++ [O.dic (bkD (lBk s n kept))]) = .ok (.int ((s ^ n : Nat) : Int)) (st1 ++ [O.dic (bkD (lBk s n kept))]) := by
        simp [bltD, seqOf, rowsF_len]
      have hpl := p_lplain k (bgetD (lBk s n kept) t) (s ^ n) hp (Nat.lt_trans (hsm t) (by decide)) hp2 (st1 ++ [O.dic (bkD (lBk s n kept))])
      simp only [wipes, asg, List.set_cons_succ, List.set_cons_zero, e_tup, es_cons, es_nil, e_var, e_call, e_idx, e_blt, R.bind_ok, List.getElem?_cons_zero, List.getElem?_cons_succ, idxD, hi, hk2, R.test_true, dget_bk, hg, Option.map_some, R.of_some, hlen, hpl]
      rfl
  rw [call_of (d := ir__law_throws) rfl rfl]
  have eb : ir__law_throws.body = .cons (.set (.one 2) (.lst (.cons (.tup .nil) .nil))) (.cons (.for (.one 3) (.rng1 (.bin .Sub (.idx (.var 0) (.con (.int 0))) (.blt .len (.cons (.var 1) .nil)))) longB) (.cons (.set (.one 4) (.dct .nil)) (.cons (.for (.one 5) (.seq (.var 2)) bookB) (.cons (.ret (.lc false [7] (.one 7) (.seq (.blt .sorted (.cons (.var 4) .nil))) (.con (.bl true)) (.tup (.cons (.var 7) (.cons (.call 47 (.cons (.idx (.var 4) (.var 7)) (.cons (.blt .len (.cons (.var 2) .nil)) .nil))) .nil))))) .nil)))) := rfl
  rw [eb]
  show backR st1 (evSs (G.ctx (k + 1)) _ [some (.tup (.int m :: .int s :: rest)), some (tupI kept), none, none, none, none, none, none, none] st1) = _
  have h1 : evE (G.ctx (k + 1)) (.lst (.cons (.tup .nil) .nil)) [some (.tup (.int m :: .int s :: rest)), some (tupI kept), none, none, none, none, none, none, none] st1 = .ok (.lst ((rowsF s 0).map tupI)) st1 := by
    simp [rowsF, tupI]
  rw [ss_consE, s_setE, h1]
  simp only [R.bind_ok, asg, R.of_some, List.set_cons_succ, List.set_cons_zero]
  have hfor1 := for_ev (C := G.ctx (k + 1)) (t := .one 3) (it := .rng1 (.bin .Sub (.idx (.var 0) (.con (.int 0))) (.blt .len (.cons (.var 1) .nil)))) (b := longB) (xs := (List.range n).map fun i : Nat => D.int i) (st := st1) (by
    rw [rng1_ev (y := (n : Int)) (by
      simp only [e_bin, e_idx, e_var, e_con, e_blt, es_cons, es_nil, R.bind_ok, List.getElem?_cons_zero, List.getElem?_cons_succ, idxD, i0, R.of_some, len_tupI, sub1]
      congr 2
      omega) (by omega) (by omega), rngL_nat]
    simp) g1
  rw [ss_consE, hfor1]
  simp only [R.bind_ok]
  rw [ss_consE, s_setE, dct_nil]
  simp only [R.bind_ok, asg, R.of_some, List.set_cons_succ, List.set_cons_zero]
  have hfor2 := for_ev (C := G.ctx (k + 1)) (t := .one 5) (it := .seq (.var 2)) (b := bookB) (xs := (rowsF s n).map tupI) (st := st1 ++ [O.dic []]) (by rw [i_seq, e_var]; rfl) b1
  rw [ss_consE, hfor2]
  simp only [R.bind_ok]
  rw [ss_consE, s_retE, hlc]
  simp only [R.bind_ok]
  show backV st1 _ _ = _
  rw [backV_cut]
  · simp [ltF]
  · rw [D.low]
    exact lows_map _ _ (fun t => low_pr _ _) _
end EV
end
section
set_option exponentiation.threshold 5000
/-! Pu10: throws counted one way and the other. -/
namespace EV
open PySem

/-! ### the order of rows -/
theorem ltR_trans : ∀ {a b c : Row}, ltR a b = true → ltR b c = true → ltR a c = true
  | [], [], _, h, _ => by simp [ltR] at h
  | [], _ :: _, [], _, h => by simp [ltR] at h
  | [], _ :: _, _ :: _, _, _ => rfl
  | _ :: _, [], _, h, _ => by simp [ltR] at h
  | _ :: _, _ :: _, [], _, h => by simp [ltR] at h
  | x :: xs, y :: ys, z :: zs, h1, h2 => by
    rw [ltR] at h1 h2 ⊢
    by_cases e1 : x = y
    · rw [if_pos e1] at h1
      by_cases e2 : y = z
      · rw [if_pos e2] at h2
        rw [if_pos (e1.trans e2)]
        exact ltR_trans h1 h2
      · rw [if_neg e2] at h2
        rw [if_neg (fun q => e2 (e1.symm.trans q)), e1]
        exact h2
    · rw [if_neg e1] at h1
      by_cases e2 : y = z
      · rw [if_neg (fun q => e1 (q.trans e2.symm)), ← e2]
        exact h1
      · rw [if_neg e2] at h2
        simp only [decide_eq_true_eq] at h1 h2
        rw [if_neg (by omega)]
        exact decide_eq_true (by omega)
theorem ltR_tri : ∀ {a b : Row}, ltR a b = false → ltR b a = false → a = b
  | [], [], _, _ => rfl
  | [], _ :: _, h, _ => by simp [ltR] at h
  | _ :: _, [], _, h => by simp [ltR] at h
  | x :: xs, y :: ys, h1, h2 => by
    rw [ltR] at h1 h2
    by_cases e : x = y
    · rw [if_pos e] at h1
      rw [if_pos e.symm] at h2
      rw [e, ltR_tri h1 h2]
    · rw [if_neg e] at h1
      rw [if_neg (Ne.symm e)] at h2
      simp only [decide_eq_false_iff_not] at h1 h2
      omega
theorem ltR_asymm {a b : Row} (h : ltR a b = true) : ltR b a = false := by
  cases e : ltR b a with
  | false => rfl
  | true => have := ltR_trans h e; rw [ltR_self] at this; cases this
theorem leRow_total {α : Type} (f : α → Row) : PySem.W.TotalLe (fun a b : α => !ltR (f b) (f a)) := by
  refine ⟨fun a b c h1 h2 => ?_, fun a b => ?_⟩
  · simp only [Bool.not_eq_true'] at h1 h2 ⊢
    cases e : ltR (f c) (f a) with
    | false => rfl
    | true =>
      cases e1 : ltR (f a) (f b) with
      | true => have := ltR_trans e e1; rw [h2] at this; cases this
      | false =>
        have := ltR_tri e1 h1
        rw [this] at e
        rw [h2] at e
        cases e
  · simp only [Bool.not_eq_true']
    cases e : ltR (f b) (f a) with
    | false => exact .inl rfl
    | true => exact .inr (ltR_asymm e)
/-- rising lists with the same items are one -/
theorem rise_unique {α : Type} {lt : α → α → Prop} (irr : ∀ a, ¬ lt a a) (tr : ∀ a b c, lt a b → lt b c → lt a c) : ∀ {l m : List α}, l.Pairwise lt → m.Pairwise lt → (∀ x, x ∈ l ↔ x ∈ m) → l = m
  | [], [], _, _, _ => rfl
  | [], y :: m, _, _, h => by have := (h y).mpr (by simp); cases this
  | x :: l, [], _, _, h => by have := (h x).mp (by simp); cases this
  | x :: l, y :: m, h1, h2, h => by
    rw [List.pairwise_cons] at h1 h2
    have e : x = y := by
      rcases List.mem_cons.mp ((h x).mp (by simp)) with q | q
      · exact q
      · rcases List.mem_cons.mp ((h y).mpr (by simp)) with p | p
        · exact p.symm
        · exact absurd (tr _ _ _ (h1.1 y p) (h2.1 x q)) (irr x)
    subst e
    rw [rise_unique irr tr h1.2 h2.2 fun z => ⟨fun hz => ?_, fun hz => ?_⟩]
    · rcases List.mem_cons.mp ((h z).mp (List.mem_cons_of_mem _ hz)) with q | q
      · subst q; exact absurd (h1.1 z hz) (irr z)
      · exact q
    · rcases List.mem_cons.mp ((h z).mpr (List.mem_cons_of_mem _ hz)) with q | q
      · subst q; exact absurd (h2.1 z hz) (irr z)
      · exact q
abbrev Rise (l : List (Row × Rat)) : Prop := l.Pairwise fun a b => ltR a.1 b.1 = true
theorem Rise.unique {l m : List (Row × Rat)} (h1 : Rise l) (h2 : Rise m) (h : ∀ x, x ∈ l ↔ x ∈ m) : l = m :=
  rise_unique (lt := fun a b : Row × Rat => ltR a.1 b.1 = true) (fun a h => by rw [ltR_self] at h; cases h) (fun a b c => ltR_trans) h1 h2 h
theorem sortP_rise {l : List (Row × Rat)} (h : (l.map (·.1)).Nodup) : Rise (sortP l) := by
  have h1 := isort_sorted (leRow_total fun p : Row × Rat => p.1) l
  have h2 : ((sortP l).map (·.1)).Nodup := ((perm_isort (le := fun a b : Row × Rat => !ltR b.1 a.1) (l := l)).map (·.1)).nodup_iff.mpr h
  have h3 : (sortP l).Pairwise fun a b => a.1 ≠ b.1 := List.pairwise_map.mp h2
  refine (List.Pairwise.and h1 h3).imp fun {a b} ⟨q, ne⟩ => ?_
  simp only [Bool.not_eq_true'] at q
  cases e : ltR a.1 b.1 with
  | true => rfl
  | false => exact absurd (ltR_tri e q) ne
theorem mem_sortP {l : List (Row × Rat)} {p : Row × Rat} : p ∈ sortP l ↔ p ∈ l := mem_isort
theorem sortR_rise {ks : List Row} (h : ks.Nodup) : (sortR ks).Pairwise fun a b => ltR a b = true := by
  have h1 := isort_sorted (leRow_total fun p : Row => p) ks
  have h2 := sortR_nodup h
  refine (List.Pairwise.and h1 h2).imp fun {a b} ⟨q, ne⟩ => ?_
  simp only [Bool.not_eq_true'] at q
  cases e : ltR a b with
  | true => rfl
  | false => exact absurd (ltR_tri e q) ne
/-! ### sums over books -/
def sumB (b : Bk) (g : Row → Int) : Int := (b.map fun p => p.2 * g p.1).sum
theorem sumB_set (b : Bk) (k : Row) (c : Int) (g : Row → Int) : sumB (bset b k (bgetD b k + c)) g = sumB b g + c * g k := by
  induction b with
  | nil => simp [bset, sumB, bgetD, bget?]
  | cons p b ih =>
    obtain ⟨a, v⟩ := p
    rw [bset]
    by_cases e : a = k
    · rw [if_pos e]
      have : bgetD ((a, v) :: b) k = v := by simp [bgetD, bget?, e]
      rw [this]
      subst e
      simp only [sumB, List.map_cons, List.sum_cons]
      rw [Int.add_mul]
      omega
    · rw [if_neg e]
      have : bgetD ((a, v) :: b) k = bgetD b k := by simp [bgetD, bget?, e]
      rw [this]
      simp only [sumB, List.map_cons, List.sum_cons] at ih ⊢
      rw [ih]
      omega
theorem sumB_add (b : Bk) (k : Row) (c : Int) (g : Row → Int) : sumB (badd b k c) g = sumB b g + c * g k := sumB_set b k c g
theorem sumB_fold {α : Type} (f : α → Row) (w : α → Int) (g : Row → Int) : ∀ (xs : List α) (b : Bk), sumB (xs.foldl (fun b x => badd b (f x) (w x)) b) g = sumB b g + (xs.map fun x => w x * g (f x)).sum
  | [], b => by simp
  | x :: xs, b => by
    rw [List.foldl_cons, sumB_fold f w g xs, sumB_add, List.map_cons, List.sum_cons]
    omega
theorem sum_mul {α : Type} (c : Int) (h : α → Int) : ∀ xs : List α, (xs.map fun x => c * h x).sum = c * (xs.map h).sum
  | [] => by simp
  | x :: xs => by rw [List.map_cons, List.sum_cons, sum_mul c h xs, List.map_cons, List.sum_cons, Int.mul_add]
theorem sumB_all (s : Nat) (g : Row → Int) : ∀ (F M : Bk), sumB (addAll s F M) g = sumB M g + sumB F fun t => ((dies s).map fun d => g (sortI (t ++ [d]))).sum
  | [], M => by simp [addAll, sumB]
  | p :: F, M => by
    have e : addAll s (p :: F) M = addAll s F (addDies s M p.1 p.2) := rfl
    rw [e, sumB_all s g F, addDies, sumB_fold (fun d => sortI (p.1 ++ [d])) (fun _ => p.2) g, sum_mul]
    simp only [sumB, List.map_cons, List.sum_cons]
    omega
theorem sum_flatMap {α β : Type} (f : α → List β) (h : β → Int) : ∀ xs : List α, ((xs.flatMap f).map h).sum = (xs.map fun x => ((f x).map h).sum).sum
  | [] => rfl
  | x :: xs => by rw [List.flatMap_cons, List.map_append, List.sum_append, sum_flatMap f h xs, List.map_cons, List.sum_cons]
theorem sum_count (s : Nat) : ∀ (n : Nat) (g : Row → Int), sumB (countF s n) g = ((rowsF s n).map fun r => g (sortI r)).sum
  | 0, g => by simp [countF, sumB, rowsF, sortI, isort]
  | n + 1, g => by
    rw [countF, sumB_all, sum_count s n, rowsF, sum_flatMap]
    simp only [sumB, List.map_nil, List.sum_nil, Int.zero_add, List.map_map]
    congr 1
    refine List.map_congr_left fun r _ => ?_
    congr 1
    refine List.map_congr_left fun d _ => ?_
    show g (sortI (sortI r ++ [d])) = g (sortI (r ++ [d]))
    rw [perm_sortI ((sortI_perm r).append_right [d])]
def ind (t r : Row) : Int := if r = t then 1 else 0
theorem sumB_ind : ∀ {b : Bk}, (bkeys b).Nodup → ∀ t, sumB b (ind t) = bgetD b t
  | [], _, t => rfl
  | (a, v) :: b, h, t => by
    rw [bkeys, List.map_cons, List.nodup_cons] at h
    have ih := sumB_ind (b := b) h.2 t
    simp only [sumB, List.map_cons, List.sum_cons] at ih ⊢
    rw [ih]
    unfold bgetD ind
    rw [bget?]
    by_cases e : a = t
    · subst e
      have : bget? b a = none := by
        have hn := h.1
        clear ih h
        induction b with
        | nil => rfl
        | cons p b ih2 =>
          rw [List.map_cons, List.mem_cons, not_or] at hn
          rw [bget?, if_neg (fun z => hn.1 z.symm)]
          exact ih2 hn.2
      simp [this]
    · simp [e]
theorem fold_keys {α : Type} (f : α → Row) (w : α → Int) : ∀ (xs : List α) (b : Bk) (t : Row), t ∈ bkeys (xs.foldl (fun b x => badd b (f x) (w x)) b) ↔ t ∈ bkeys b ∨ ∃ x ∈ xs, f x = t
  | [], b, t => by simp
  | x :: xs, b, t => by
    rw [List.foldl_cons, fold_keys f w xs]
    have h1 : t ∈ bkeys (badd b (f x) (w x)) ↔ t ∈ bkeys b ∨ f x = t := by
      unfold badd
      rcases bset_keys b (f x) (bgetD b (f x) + w x) with ⟨g1, g2⟩ | ⟨g1, g2⟩
      · rw [g2]
        exact ⟨.inl, fun h => h.elim id fun e => e ▸ g1⟩
      · rw [g2, List.mem_append]
        simp only [List.mem_singleton]
        exact ⟨fun h => h.imp id Eq.symm, fun h => h.imp id Eq.symm⟩
    rw [h1]
    constructor
    · rintro ((h | h) | ⟨y, hy, h⟩)
      · exact .inl h
      · exact .inr ⟨x, by simp, h⟩
      · exact .inr ⟨y, by simp [hy], h⟩
    · rintro (h | ⟨y, hy, h⟩)
      · exact .inl (.inl h)
      · rcases List.mem_cons.mp hy with rfl | hy
        · exact .inl (.inr h)
        · exact .inr ⟨y, hy, h⟩
theorem all_keys (s : Nat) : ∀ (F M : Bk) (t : Row), t ∈ bkeys (addAll s F M) ↔ t ∈ bkeys M ∨ ∃ r ∈ bkeys F, ∃ d ∈ dies s, sortI (r ++ [d]) = t
  | [], M, t => by simp [addAll, bkeys]
  | p :: F, M, t => by
    have e : addAll s (p :: F) M = addAll s F (addDies s M p.1 p.2) := rfl
    rw [e, all_keys s F, addDies, fold_keys (fun d => sortI (p.1 ++ [d])) (fun _ => p.2)]
    constructor
    · rintro ((h | ⟨d, hd, h⟩) | ⟨r, hr, h⟩)
      · exact .inl h
      · exact .inr ⟨p.1, by simp [bkeys], d, hd, h⟩
      · exact .inr ⟨r, List.mem_cons_of_mem p.1 hr, h⟩
    · rintro (h | ⟨r, hr, d, hd, h⟩)
      · exact .inl (.inl h)
      · rcases List.mem_cons.mp hr with rfl | hr
        · exact .inl (.inr ⟨d, hd, h⟩)
        · exact .inr ⟨r, hr, d, hd, h⟩
theorem count_keys (s : Nat) : ∀ (n : Nat) (t : Row), t ∈ bkeys (countF s n) ↔ ∃ r ∈ rowsF s n, sortI r = t
  | 0, t => by
    simp only [countF, bkeys, rowsF, List.map_cons, List.map_nil, List.mem_singleton]
    exact ⟨fun h => ⟨[], rfl, by rw [h]; rfl⟩, fun ⟨r, h1, h2⟩ => by rw [← h2, h1]; rfl⟩
  | n + 1, t => by
    rw [countF, all_keys, rowsF]
    constructor
    · rintro (h | ⟨r, hr, d, hd, h⟩)
      · cases h
      · obtain ⟨q, hq, rfl⟩ := (count_keys s n r).mp hr
        refine ⟨q ++ [d], List.mem_flatMap.mpr ⟨q, hq, List.mem_map.mpr ⟨d, hd, rfl⟩⟩, ?_⟩
        rw [← h]
        exact perm_sortI ((sortI_perm q).symm.append_right [d])
    · rintro ⟨r, hr, h⟩
      obtain ⟨q, hq, h2⟩ := List.mem_flatMap.mp hr
      obtain ⟨d, hd, rfl⟩ := List.mem_map.mp h2
      refine .inr ⟨sortI q, (count_keys s n _).mpr ⟨q, hq, rfl⟩, d, hd, ?_⟩
      rw [← h]
      exact perm_sortI ((sortI_perm q).append_right [d])
theorem lBk_keys (s n : Nat) (kept t : Row) : t ∈ bkeys (lBk s n kept) ↔ ∃ r ∈ rowsF s n, sortI (kept ++ r) = t := by
  unfold lBk
  rw [fold_keys (fun r => sortI (kept ++ r)) (fun _ => 1)]
  simp [bkeys]
theorem lBk_nodup (s n : Nat) (kept : Row) : (bkeys (lBk s n kept)).Nodup := by
  unfold lBk
  have go : ∀ (xs : List Row) (b : Bk), (bkeys b).Nodup → (bkeys (xs.foldl (fun b r => badd b (sortI (kept ++ r)) 1) b)).Nodup := by
    intro xs
    induction xs with
    | nil => intro b h; exact h
    | cons x xs ih => intro b h; exact ih _ (bset_nodup h _ _)
  exact go _ [] List.nodup_nil
theorem count_get (s n : Nat) (t : Row) : bgetD (countF s n) t = ((rowsF s n).map fun r => ind t (sortI r)).sum := by
  rw [← sumB_ind (countF_ok s n).1, sum_count]
theorem lBk_get (s n : Nat) (kept t : Row) : bgetD (lBk s n kept) t = ((rowsF s n).map fun r => ind t (sortI (kept ++ r))).sum := by
  rw [← sumB_ind (lBk_nodup s n kept)]
  unfold lBk
  rw [sumB_fold (fun r => sortI (kept ++ r)) (fun _ => 1)]
  simp [sumB]
theorem sum_ind_bound {α : Type} (f : α → Row) (t : Row) : ∀ xs : List α, 0 ≤ (xs.map fun r => ind t (f r)).sum ∧ (xs.map fun r => ind t (f r)).sum ≤ xs.length
  | [] => by simp
  | x :: xs => by
    have ih := sum_ind_bound f t xs
    simp only [List.map_cons, List.sum_cons, List.length_cons]
    unfold ind at ih ⊢
    split <;> omega
theorem small_count {s n : Nat} (hs : s ≤ 6) (hn : n ≤ 4) : small (countF s n) := fun t => by
  have h := sum_ind_bound sortI t (rowsF s n)
  rw [← count_get, rowsF_len] at h
  have := pow_1296 hs hn
  omega
theorem small_lBk {s n : Nat} (kept : Row) (hs : s ≤ 6) (hn : n ≤ 4) : small (lBk s n kept) := fun t => by
  have h := sum_ind_bound (fun r => sortI (kept ++ r)) t (rowsF s n)
  rw [← lBk_get, rowsF_len] at h
  have := pow_1296 hs hn
  omega
/-- what is thrown is what the law tells, one by one -/
theorem af_lt (s n : Nat) (kept : Row) : afF s n kept = ltF s n kept := by
  have h1 : Rise (afF s n kept) := sortP_rise (af_nodup s n kept)
  have h2 : Rise (ltF s n kept) := by
    unfold ltF Rise
    rw [List.pairwise_map]
    exact sortR_rise (lBk_nodup s n kept)
  have cut : ∀ (r q : Row), sortI (kept ++ r) = sortI (kept ++ q) ↔ sortI r = sortI q := fun r q => by
    rw [sortI_iff, sortI_iff, List.perm_append_left_iff]
  have val : ∀ t ∈ bkeys (countF s n), bgetD (lBk s n kept) (sortI (kept ++ t)) = bgetD (countF s n) t := fun t ht => by
    rw [lBk_get, count_get]
    congr 1
    refine List.map_congr_left fun r _ => ?_
    have e := cut r t
    rw [countF_rise s n t ht] at e
    unfold ind
    by_cases h : sortI r = t
    · rw [if_pos (e.mpr h), if_pos h]
    · rw [if_neg (fun z => h (e.mp z)), if_neg h]
  refine h1.unique h2 fun x => ?_
  unfold afF ltF thF
  rw [mem_sortP, List.map_map]
  constructor
  · intro h
    obtain ⟨t, ht, rfl⟩ := List.mem_map.mp h
    have htk := mem_sortR.mp ht
    refine List.mem_map.mpr ⟨sortI (kept ++ t), mem_sortR.mpr ((lBk_keys s n kept _).mpr ?_), ?_⟩
    · obtain ⟨r, hr, e⟩ := (count_keys s n t).mp htk
      exact ⟨r, hr, (cut r t).mpr (by rw [e, countF_rise s n t htk])⟩
    · simp only [Function.comp, val t htk]
  · intro h
    obtain ⟨d, hd, rfl⟩ := List.mem_map.mp h
    obtain ⟨r, hr, e⟩ := (lBk_keys s n kept d).mp (mem_sortR.mp hd)
    have htk : sortI r ∈ bkeys (countF s n) := (count_keys s n _).mpr ⟨r, hr, rfl⟩
    have e2 : sortI (kept ++ sortI r) = d := by rw [← e]; exact (cut _ _).mpr (sortI_idem r)
    refine List.mem_map.mpr ⟨sortI r, mem_sortR.mpr htk, ?_⟩
    simp only [Function.comp, ← e2, val _ htk]
theorem th_lt (s n : Nat) : thF s n = ltF s n [] := by
  rw [← af_lt]
  have h1 : Rise (afF s n []) := sortP_rise (af_nodup s n [])
  have h2 : Rise (thF s n) := by
    unfold thF Rise
    rw [List.pairwise_map]
    exact sortR_rise (countF_ok s n).1
  refine h2.unique h1 fun x => ?_
  unfold afF
  rw [mem_sortP]
  have e : ((thF s n).map fun p => (sortI ([] ++ p.1), p.2)) = thF s n := by
    unfold thF
    rw [List.map_map]
    refine List.map_congr_left fun t ht => ?_
    simp only [Function.comp, List.nil_append, countF_rise s n t (mem_sortR.mp ht)]
  rw [e]
end EV
end
section
set_option exponentiation.threshold 5000
/-! Pu11: what may be kept, found one way and the other. -/
namespace EV
open PySem

def tbD (ks : List Row) : List (D × D) := ks.map fun k => (tupI k, .bl true)
def kset (ks : List Row) (k : Row) : List Row := if k ∈ ks then ks else ks ++ [k]
theorem dput_tb : ∀ (ks : List Row) (k : Row), dput (tbD ks) (tupI k) (.bl true) = tbD (kset ks k)
  | [], k => rfl
  | a :: ks, k => by
    show (if D.eqv (tupI a) (tupI k) = true then (tupI a, D.bl true) :: tbD ks else (tupI a, D.bl true) :: dput (tbD ks) (tupI k) (.bl true)) = _
    rw [eqv_tupI, dput_tb ks k, kset, kset]
    by_cases h : a = k
    · simp [h, tbD]
    · have h2 : ¬ k = a := fun z => h z.symm
      by_cases h3 : k ∈ ks <;> simp [h, h2, h3, tbD]
theorem keyOk_tb (ks : List Row) (k : Row) : keyOk (tbD ks) (tupI k) = true := by
  have e : ((tbD ks).all fun p => p.1.isTup) = true := by
    rw [List.all_eq_true]
    intro p hp
    obtain ⟨q, _, rfl⟩ := List.mem_map.mp hp
    rfl
  rw [keyOk, e]
  simp
theorem tbD_keys (ks : List Row) : (tbD ks).map (·.1) = ks.map tupI := by simp [tbD]
theorem tbD_len (ks : List Row) : (tbD ks).length = ks.length := by simp [tbD]
theorem kset_mem {ks : List Row} {k r : Row} : r ∈ kset ks k ↔ r ∈ ks ∨ r = k := by
  unfold kset
  split
  · rename_i h
    exact ⟨.inl, fun z => z.elim id fun e => e ▸ h⟩
  · simp
theorem kset_nodup {ks : List Row} (h : ks.Nodup) (k : Row) : (kset ks k).Nodup := by
  unfold kset
  split
  · exact h
  · rename_i hk
    exact List.nodup_append.mpr ⟨h, by simp, fun a ha c hc e => by
      have e2 : c = k := by simpa using hc
      subst e2; subst e
      exact hk ha⟩
theorem kset_len (ks : List Row) (k : Row) : (kset ks k).length ≤ ks.length + 1 := by
  unfold kset
  split <;> simp
theorem ksets_mem {α : Type} (f : α → Row) (xs : List α) : ∀ {ks : List Row} {r : Row}, r ∈ xs.foldl (fun ks x => kset ks (f x)) ks ↔ r ∈ ks ∨ ∃ x ∈ xs, r = f x := by
  induction xs with
  | nil => intro ks r; simp
  | cons x xs ih =>
    intro ks r
    rw [List.foldl_cons, ih, kset_mem]
    simp only [List.mem_cons, exists_eq_or_imp, or_assoc]
theorem ksets_nodup {α : Type} (f : α → Row) (xs : List α) : ∀ {ks : List Row}, ks.Nodup → (xs.foldl (fun ks x => kset ks (f x)) ks).Nodup := by
  induction xs with
  | nil => intro ks h; exact h
  | cons x xs ih => intro ks h; exact ih (kset_nodup h _)
theorem ksets_len {α : Type} (f : α → Row) (xs : List α) : ∀ {ks : List Row}, (xs.foldl (fun ks x => kset ks (f x)) ks).length ≤ ks.length + xs.length := by
  induction xs with
  | nil => intro ks; simp
  | cons x xs ih =>
    intro ks
    have h1 := ih (ks := kset ks (f x))
    have h2 := kset_len ks (f x)
    simp only [List.foldl_cons, List.length_cons]
    omega
theorem sorted_tb {S : Store} {i : Nat} {b : List Row} (h : S[i]? = some (.dic (tbD b))) : bltD .sorted [.ref i] S = .ok (.lst ((sortR b).map tupI)) S := by
  simp only [bltD, h, tbD_keys, sortD_rows, R.of_some, R.bind_ok]
/-! ### keeps -/
def keF1 (ks : List Row) (d : Int) : List Row := ks.foldl (fun acc t => kset acc (t ++ [d])) ks
def keF (ds : Row) : List Row := ds.foldl keF1 [[]]
theorem keF_app (ds : Row) (d : Int) : keF (ds ++ [d]) = keF1 (keF ds) d := by simp [keF]
theorem keF_nodup (ds : Row) : (keF ds).Nodup := by
  unfold keF
  generalize hb : ([[]] : List Row) = b
  have h : b.Nodup := by rw [← hb]; simp
  clear hb
  induction ds generalizing b with
  | nil => exact h
  | cons d ds ih => exact ih _ (ksets_nodup _ _ h)
theorem keF_len (ds : Row) : (keF ds).length ≤ 2 ^ ds.length := by
  have h : ∀ (ds : Row) (b : List Row), (ds.foldl keF1 b).length ≤ b.length * 2 ^ ds.length := by
    intro ds
    induction ds with
    | nil => intro b; simp
    | cons d ds ih =>
      intro b
      have h1 := ih (keF1 b d)
      have h2 : (keF1 b d).length ≤ b.length + b.length := ksets_len _ _
      have h3 := Nat.mul_le_mul_right (2 ^ ds.length) h2
      rw [List.foldl_cons, List.length_cons, Nat.pow_succ]
      calc _ ≤ _ := h1
        _ ≤ _ := h3
        _ = _ := by grind
  have := h ds [[]]
  simpa [keF] using this
theorem keF_mem : ∀ (n : Nat) (ds : Row), ds.length = n → ∀ {r : Row}, (r ∈ keF ds ↔ r.Sublist ds)
  | 0, ds, h, r => by
    have : ds = [] := List.length_eq_zero_iff.mp h
    subst this
    simp [keF]
  | n + 1, ds, h, r => by
    have hne : ds ≠ [] := fun z => by rw [z] at h; cases h
    obtain ⟨es, d, rfl⟩ : ∃ es d, ds = es ++ [d] := ⟨ds.dropLast, ds.getLast hne, (List.dropLast_concat_getLast hne).symm⟩
    have hl : es.length = n := by simpa using h
    have ih : ∀ {r : Row}, (r ∈ keF es ↔ r.Sublist es) := keF_mem n es hl
    rw [keF_app, keF1, ksets_mem, ih, List.sublist_append_iff]
    constructor
    · rintro (h | ⟨t, ht, rfl⟩)
      · exact ⟨r, [], by simp, h, by simp⟩
      · exact ⟨t, [d], rfl, ih.mp ht, List.Sublist.refl _⟩
    · rintro ⟨a, b, rfl, ha, hb⟩
      rcases List.sublist_cons_iff.mp hb with q | ⟨q, rfl, q2⟩
      · have : b = [] := List.sublist_nil.mp q
        subst this
        exact .inl (by simpa using ha)
      · have : q = [] := List.sublist_nil.mp q2
        subst this
        exact .inr ⟨a, ih.mpr ha, rfl⟩
section
variable {C : Ctx} {a0 : D} {S0 : Store}
theorem at_end (st gb : Store) (o : O) : (st ++ gb ++ [o])[(st ++ gb).length]? = some o := by
  rw [List.getElem?_append_right (Nat.le_refl _)]
  simp
def keB : Ss := .cons (.put (.var 1) (.bin .Add (.var 3) (.tup (.cons (.var 2) .nil))) (.con (.bl true))) .nil
theorem set_end (st : Store) (o p : O) : (st ++ [o]).set st.length p = st ++ [p] := by
  rw [List.set_append_right _ _ (Nat.le_refl _)]
  simp
theorem ke_turn {ks : List Row} {t : Row} (ht : t.length ≤ 100) (hk : ks.length < 10000) (d : Int) :
    evSs C keB [some a0, some (.ref S0.length), some (.int d), some (tupI t)] (S0 ++ [O.dic (tbD ks)]) = .ok (.nx [some a0, some (.ref S0.length), some (.int d), some (tupI t)]) (S0 ++ [O.dic (tbD (kset ks (t ++ [d])))]) := by
  have e1 : evE C (.bin .Add (.var 3) (.tup (.cons (.var 2) .nil))) [some a0, some (.ref S0.length), some (.int d), some (tupI t)] (S0 ++ [O.dic (tbD ks)]) = .ok (tupI (t ++ [d])) (S0 ++ [O.dic (tbD ks)]) := by
    have := add_tupI t [d] (S0 ++ [O.dic (tbD ks)]) (by simp; omega)
    simpa [tupI] using this
  have hi : (S0 ++ [O.dic (tbD ks)])[S0.length]? = some (.dic (tbD ks)) := by simp
  unfold keB
  rw [ss_consE, s_putE, e_con, R.bind_ok, e_var]
  simp only [List.getElem?_cons_zero, List.getElem?_cons_succ, R.bind_ok, e1, hi, keyOk_tb, tbD_len, Bool.true_and]
  rw [decide_eq_true (by omega)]
  simp only [R.test_true, R.bind_ok, ss_nilE, dput_tb, set_end]
theorem ke_run {ks ts : List Row} (ht : ∀ t ∈ ts, t.length ≤ 100) (hk : ks.length + ts.length < 10000) (d : Int) (x3 : Option D) :
    ∃ y3, forL .no (.one 3) (evSs C keB) (ts.map tupI) [some a0, some (.ref S0.length), some (.int d), x3] (S0 ++ [O.dic (tbD ks)]) = .ok (.nx [some a0, some (.ref S0.length), some (.int d), y3]) (S0 ++ [O.dic (tbD (ts.foldl (fun acc t => kset acc (t ++ [d])) ks))]) := by
  obtain ⟨env', st', g1, y3, g2, g3⟩ := forL_pre (g := .no) (tg := .one 3) (body := evSs C keB) tupI (fun acc t => kset acc (t ++ [d])) (fun ks env st => ∃ y3, env = [some a0, some (.ref S0.length), some (.int d), y3] ∧ st = S0 ++ [O.dic (tbD ks)]) (fun _ _ _ _ => rfl)
    ts ks [some a0, some (.ref S0.length), some (.int d), x3] (S0 ++ [O.dic (tbD ks)]) ⟨x3, rfl, rfl⟩ fun pre t post env st hp ⟨y3, e1, e2⟩ => by
      subst e1 e2
      have hlen := ksets_len (fun t => t ++ [d]) pre (ks := ks)
      have hpl : pre.length ≤ ts.length := by
        have := congrArg List.length hp
        simp at this
        omega
      have z := ke_turn (C := C) (a0 := a0) (S0 := S0) (ks := pre.foldl (fun acc t => kset acc (t ++ [d])) ks) (t := t) (ht t (by rw [hp]; simp)) (Nat.lt_of_le_of_lt hlen (by omega)) d
      exact ⟨_, _, _, rfl, z, ⟨_, rfl, rfl⟩⟩
  subst g2 g3
  exact ⟨y3, g1⟩
end
theorem list_tb {S : Store} {i : Nat} {b : List Row} (h : S[i]? = some (.dic (tbD b))) : bltD .list [.ref i] S = .ok (.lst (b.map tupI)) S := by
  simp only [bltD, h, tbD_keys]
theorem p_keeps (k : Nat) (ds : Row) (hd : ds.length ≤ 4) (st : Store) : G.call (k + 1) 45 [tupI ds] st = .ok (.tup ((sortR (keF ds)).map tupI)) st := by
  obtain ⟨env', st', g1, y2, y3, g2, g3⟩ := forL_pre (g := .no) (tg := .one 2) (body := evSs (G.ctx k) (.cons (.for (.one 3) (.seq (.blt .list (.cons (.var 1) .nil))) keB) .nil)) D.int keF1
    (fun ks env s => ∃ y2 y3, env = [some (tupI ds), some (.ref st.length), y2, y3] ∧ s = st ++ [O.dic (tbD ks)]) (fun _ _ _ _ => rfl) ds [[]] [some (tupI ds), some (.ref st.length), none, none] (st ++ [O.dic (tbD [[]])]) ⟨none, none, rfl, rfl⟩
    fun pre d post env s hp ⟨y2, y3, e1, e2⟩ => by
      subst e1 e2
      have hpl : pre.length ≤ 4 := by
        have := congrArg List.length hp
        simp at this
        omega
      have hlen : (pre.foldl keF1 [[]]).length ≤ 2 ^ pre.length := keF_len pre
      have h16 : 2 ^ pre.length ≤ 2 ^ 4 := Nat.pow_le_pow_right (by decide) hpl
      have hm : ∀ t ∈ pre.foldl keF1 [[]], t.length ≤ 100 := fun t ht => by
        have := (keF_mem (r := t) _ pre rfl).mp ht
        have := this.length_le
        omega
      obtain ⟨z3, hz⟩ := ke_run (C := G.ctx k) (a0 := tupI ds) (S0 := st) (ks := pre.foldl keF1 [[]]) (ts := pre.foldl keF1 [[]]) hm (by omega) d y3
      have hi : (st ++ [O.dic (tbD (pre.foldl keF1 [[]]))])[st.length]? = some (.dic (tbD (pre.foldl keF1 [[]]))) := by simp
      have hf := for_ev (C := G.ctx k) (t := .one 3) (it := .seq (.blt .list (.cons (.var 1) .nil))) (b := keB) (env := [some (tupI ds), some (.ref st.length), some (.int d), y3]) (st := st ++ [O.dic (tbD (pre.foldl keF1 [[]]))]) (xs := (pre.foldl keF1 [[]]).map tupI) (by
        rw [i_seq, e_blt]
        simp only [es_cons, es_nil, e_var, R.bind_ok, List.getElem?_cons_zero, List.getElem?_cons_succ]
        rw [list_tb hi]
        rfl) hz
      refine ⟨_, _, _, rfl, ?_, some (.int d), z3, rfl, rfl⟩
      simp only [List.set_cons_succ, List.set_cons_zero]
      rw [ss_consE, hf]
      simp only [R.bind_ok, ss_nilE]
      rfl
  subst g2 g3
  have hfold : ds.foldl keF1 [[]] = keF ds := rfl
  rw [hfold] at g1
  rw [call_of (d := ir_keeps) rfl rfl]
  have eb : ir_keeps.body = .cons (.set (.one 1) (.dct (.cons (.tup .nil) (.cons (.con (.bl true)) .nil)))) (.cons (.for (.one 2) (.seq (.var 0)) (.cons (.for (.one 3) (.seq (.blt .list (.cons (.var 1) .nil))) keB) .nil)) (.cons (.ret (.blt .tuple (.cons (.blt .sorted (.cons (.var 1) .nil)) .nil))) .nil)) := rfl
  rw [eb]
  show backR st (evSs (G.ctx k) _ [some (tupI ds), none, none, none] st) = _
  have ed : evE (G.ctx k) (.dct (.cons (.tup .nil) (.cons (.con (.bl true)) .nil))) [some (tupI ds), none, none, none] st = .ok (.ref st.length) (st ++ [O.dic (tbD [[]])]) := by
    simp [pairUp, keysOk, dputs, dput, D.key, D.keys, D.isTup, tbD, tupI]
  rw [ss_consE, s_setE, ed]
  simp only [R.bind_ok, asg, R.of_some, List.set_cons_succ, List.set_cons_zero]
  have hf := for_ev (C := G.ctx k) (t := .one 2) (it := .seq (.var 0)) (b := .cons (.for (.one 3) (.seq (.blt .list (.cons (.var 1) .nil))) keB) .nil) (env := [some (tupI ds), some (.ref st.length), none, none]) (st := st ++ [O.dic (tbD [[]])]) (xs := ds.map D.int) (by
    rw [i_seq, e_var]
    rfl) g1
  rw [ss_consE, hf]
  simp only [R.bind_ok]
  have hi : (st ++ [O.dic (tbD (keF ds))])[st.length]? = some (.dic (tbD (keF ds))) := by simp
  rw [ss_consE, s_retE, e_blt, es_cons, e_blt]
  simp only [es_cons, es_nil, e_var, R.bind_ok, List.getElem?_cons_zero, List.getElem?_cons_succ, sorted_tb hi, tuple_lst]
  show backV st _ _ = _
  rw [backV_cut]
  rw [D.low]
  exact lows_map _ _ (fun t => low_tupI _ _) _
/-! ### the law's -/
def selM : Nat → Row → Row
  | _, [] => []
  | m, d :: ds => if m % 2 = 1 then d :: selM (m / 2) ds else selM (m / 2) ds
theorem sel_sub : ∀ (ds : Row) (m : Nat), (selM m ds).Sublist ds
  | [], m => by simp [selM]
  | d :: ds, m => by
    rw [selM]
    split
    · exact (sel_sub ds _).cons_cons d
    · exact (sel_sub ds _).cons d
theorem sub_sel : ∀ (ds r : Row), r.Sublist ds → ∃ m, m < 2 ^ ds.length ∧ r = selM m ds
  | [], r, h => ⟨0, by simp, by simpa [selM] using h⟩
  | d :: ds, r, h => by
    rw [List.length_cons, Nat.pow_succ]
    rcases List.sublist_cons_iff.mp h with q | ⟨q, rfl, q2⟩
    · obtain ⟨m, h1, h2⟩ := sub_sel ds r q
      refine ⟨2 * m, by omega, ?_⟩
      rw [selM, if_neg (by omega), show 2 * m / 2 = m by omega]
      exact h2
    · obtain ⟨m, h1, h2⟩ := sub_sel ds q q2
      refine ⟨2 * m + 1, by omega, ?_⟩
      rw [selM, if_pos (by omega), show (2 * m + 1) / 2 = m by omega, h2]
def lkF (ds : Row) : List Row := (List.range 16).foldl (fun ks m => kset ks (selM m ds)) []
theorem lkF_mem {ds r : Row} (hd : ds.length ≤ 4) : r ∈ lkF ds ↔ r.Sublist ds := by
  unfold lkF
  rw [ksets_mem]
  constructor
  · rintro (h | ⟨m, _, rfl⟩)
    · cases h
    · exact sel_sub ds m
  · intro h
    obtain ⟨m, h1, h2⟩ := sub_sel ds r h
    have h16 : 2 ^ ds.length ≤ 2 ^ 4 := Nat.pow_le_pow_right (by decide) hd
    exact .inr ⟨m, by simp; omega, h2⟩
theorem keeps_lk {ds : Row} (hd : ds.length ≤ 4) : sortR (keF ds) = sortR (lkF ds) := by
  refine rise_unique (lt := fun a b : Row => ltR a b = true) (fun a h => by rw [ltR_self] at h; cases h) (fun a b c => ltR_trans) (sortR_rise (keF_nodup ds)) (sortR_rise (ksets_nodup _ _ List.nodup_nil)) fun r => ?_
  rw [mem_sortR, mem_sortR, keF_mem (r := r) _ ds rfl, lkF_mem hd]
/-- dice with their places -/
def selZ (m k : Nat) (ds : Row) : Row := ((ds.zipIdx k).filter fun p => m / 2 ^ p.2 % 2 == 1).map (·.1)
theorem selZ_eq (m : Nat) : ∀ (ds : Row) (k : Nat), selZ m k ds = selM (m / 2 ^ k) ds
  | [], k => rfl
  | d :: ds, k => by
    have ih := selZ_eq m ds (k + 1)
    rw [Nat.pow_succ, ← Nat.div_div_eq_div_mul] at ih
    rw [selM, ← ih]
    unfold selZ
    rw [List.zipIdx_cons]
    by_cases h : m / 2 ^ k % 2 = 1 <;> simp [h]
theorem enumL_zip : ∀ (ds : Row) (k : Nat), enumL k (ds.map D.int) = (ds.zipIdx k).map fun p => D.tup [.int p.2, .int p.1]
  | [], k => rfl
  | d :: ds, k => by
    rw [List.map_cons, enumL, List.zipIdx_cons, List.map_cons, show ((k : Int) + 1) = ((k + 1 : Nat) : Int) by simp, enumL_zip ds (k + 1)]
theorem idx8 (i : Nat) (h : i < 4) (st : Store) : idxD (.tup [.int 1, .int 2, .int 4, .int 8]) (.int i) st = .ok (.int ((2 ^ i : Nat) : Int)) st := by
  have : i = 0 ∨ i = 1 ∨ i = 2 ∨ i = 3 := by omega
  rcases this with h | h | h | h <;> subst h <;> rfl
def lkE : E := .lc false [3, 4] (.many [3, 4]) (.enum (.var 0)) (.cmp .Eq (.bin .Mod (.bin .FloorDiv (.var 2) (.idx (.tup (.cons (.con (.int 1)) (.cons (.con (.int 2)) (.cons (.con (.int 4)) (.cons (.con (.int 8)) .nil))))) (.var 3))) (.con (.int 2))) (.con (.int 1))) (.var 4)
def lkB : Ss := .cons (.put (.var 1) (.blt .tuple (.cons lkE .nil)) (.con (.bl true))) .nil
section
variable {C : Ctx} {S0 : Store}
theorem lk_ev {ds : Row} (hd : ds.length ≤ 4) (m : Nat) (a1 : D) (st : Store) : evE C lkE [some (tupI ds), some a1, some (.int m), none, none] st = .ok (.lst ((selM m ds).map D.int)) st := by
  have z := ev_lc (C := C) (own := [3, 4]) (t := .many [3, 4]) (it := .enum (.var 0)) (cond := .cmp .Eq (.bin .Mod (.bin .FloorDiv (.var 2) (.idx (.tup (.cons (.con (.int 1)) (.cons (.con (.int 2)) (.cons (.con (.int 4)) (.cons (.con (.int 8)) .nil))))) (.var 3))) (.con (.int 2))) (.con (.int 1))) (elt := .var 4)
    (env := [some (tupI ds), some a1, some (.int m), none, none]) (st := st) (fun p : Int × Nat => D.tup [.int p.2, .int p.1]) (fun p => m / 2 ^ p.2 % 2 == 1) (fun p => D.int p.1) (xs := ds.zipIdx 0) (by
      rw [i_enum, e_var]
      simp only [List.getElem?_cons_zero, R.bind_ok, tupI]
      have := enumL_zip ds 0
      rw [← this]
      rfl) fun p hp => by
        have hp2 : p.2 < 4 := by
          have := List.snd_lt_of_mem_zipIdx hp
          omega
        refine ⟨[some (tupI ds), some a1, some (.int m), some (.int p.2), some (.int p.1)], rfl, ?_, fun _ => by rw [e_var]; rfl⟩
        have hpos : (0 : Int) < ((2 ^ p.2 : Nat) : Int) := by
          have := Nat.pow_pos (a := 2) (n := p.2) (by decide)
          omega
        have hlt : ((2 ^ p.2 : Nat) : Int) < 2 ^ 63 := by
          have : 2 ^ p.2 ≤ 2 ^ 4 := Nat.pow_le_pow_right (by decide) (by omega)
          omega
        rw [e_cmp, e_bin, e_bin, e_var]
        simp only [List.getElem?_cons_zero, List.getElem?_cons_succ, R.bind_ok]
        have ei : evE C (.idx (.tup (.cons (.con (.int 1)) (.cons (.con (.int 2)) (.cons (.con (.int 4)) (.cons (.con (.int 8)) .nil))))) (.var 3)) [some (tupI ds), some a1, some (.int m), some (.int p.2), some (.int p.1)] st = .ok (.int ((2 ^ p.2 : Nat) : Int)) st := by
          rw [e_idx, e_tup]
          simp only [es_cons, es_nil, e_con, e_var, List.getElem?_cons_zero, List.getElem?_cons_succ, R.bind_ok, List.length_cons, List.length_nil]
          rw [decide_eq_true (by decide), R.test_true, R.bind_ok, idx8 _ hp2]
        rw [ei, R.bind_ok, div1 _ _ hpos hlt, R.bind_ok, e_con, R.bind_ok, mod1 _ _ (by decide), R.bind_ok, e_con, R.bind_ok]
        have e9 : ((m : Int) / ((2 ^ p.2 : Nat) : Int) % 2) = ((m / 2 ^ p.2 % 2 : Nat) : Int) := by simp
        rw [e9]
        simp only [cmpD]
        by_cases h : m / 2 ^ p.2 % 2 = 1
        · simp [h, D.flat, D.eqv]
        · have h2 : ¬ ((m / 2 ^ p.2 % 2 : Nat) : Int) = 1 := by omega
          have h3 : (m / 2 ^ p.2 % 2 == 1) = false := by simpa using h
          rw [h3]
          have h4 : (((m / 2 ^ p.2 % 2 : Nat) : Int) == 1) = false := by simpa using h2
          simp only [D.flat, D.eqv, h4]
          rfl
  unfold lkE
  rw [z]
  have e := selZ_eq m ds 0
  rw [Nat.pow_zero, Nat.div_one] at e
  rw [← e]
  simp [selZ]
end
theorem p_lkeeps (k : Nat) (ds : Row) (hd : ds.length ≤ 4) (st : Store) : G.call (k + 1) 50 [tupI ds] st = .ok (.lst ((sortR (lkF ds)).map tupI)) st := by
  obtain ⟨env', st', g1, y2, g2, g3⟩ := forL_pre (g := .no) (tg := .one 2) (body := evSs (G.ctx k) lkB) (fun m : Nat => D.int m) (fun ks m => kset ks (selM m ds))
    (fun ks env s => ∃ y2, env = [some (tupI ds), some (.ref st.length), y2, none, none] ∧ s = st ++ [O.dic (tbD ks)]) (fun _ _ _ _ => rfl) (List.range 16) [] [some (tupI ds), some (.ref st.length), none, none, none] (st ++ [O.dic (tbD [])]) ⟨none, rfl, rfl⟩
    fun pre m post env s hp ⟨y2, e1, e2⟩ => by
      subst e1 e2
      have hpl : pre.length ≤ 16 := by
        have := congrArg List.length hp
        simp at this
        omega
      have hlen := ksets_len (fun m => selM m ds) pre (ks := [])
      have hl2 : (pre.foldl (fun ks m => kset ks (selM m ds)) []).length ≤ 16 := Nat.le_trans hlen (by simpa using hpl)
      refine ⟨_, [some (tupI ds), some (.ref st.length), some (.int m), none, none], st ++ [O.dic (tbD (kset (pre.foldl (fun ks m => kset ks (selM m ds)) []) (selM m ds)))], rfl, ?_, ⟨_, rfl, rfl⟩⟩
      simp only [List.set_cons_succ, List.set_cons_zero]
      unfold lkB
      generalize hks : pre.foldl (fun ks m => kset ks (selM m ds)) [] = ks at *
      have hi : (st ++ [O.dic (tbD ks)])[st.length]? = some (.dic (tbD ks)) := by simp
      have et : D.tup ((selM m ds).map D.int) = tupI (selM m ds) := rfl
      rw [ss_consE, s_putE, e_con, R.bind_ok, e_var]
      simp only [List.getElem?_cons_zero, List.getElem?_cons_succ, R.bind_ok, e_blt, es_cons]
      rw [lk_ev hd]
      simp only [List.getElem?_cons_zero, List.getElem?_cons_succ, R.bind_ok, es_nil, tuple_lst, hi, et, keyOk_tb, tbD_len, Bool.true_and]
      rw [decide_eq_true (by omega)]
      simp only [R.test_true, R.bind_ok, ss_nilE, dput_tb, set_end]
  subst g2 g3
  have hfold : (List.range 16).foldl (fun ks m => kset ks (selM m ds)) [] = lkF ds := rfl
  rw [hfold] at g1
  rw [call_of (d := ir__law_keeps) rfl rfl]
  have eb : ir__law_keeps.body = .cons (.set (.one 1) (.dct .nil)) (.cons (.for (.one 2) (.rng1 (.con (.int 16))) lkB) (.cons (.ret (.blt .sorted (.cons (.var 1) .nil))) .nil)) := rfl
  rw [eb]
  show backR st (evSs (G.ctx k) _ [some (tupI ds), none, none, none, none] st) = _
  rw [ss_consE, s_setE, dct_nil]
  simp only [R.bind_ok, asg, R.of_some, List.set_cons_succ, List.set_cons_zero]
  have hf := for_ev (C := G.ctx k) (t := .one 2) (it := .rng1 (.con (.int 16))) (b := lkB) (env := [some (tupI ds), some (.ref st.length), none, none, none]) (st := st ++ [O.dic (tbD [])]) (xs := (List.range 16).map fun m : Nat => D.int m) (by
    rw [rng1_ev (y := (16 : Int)) (by rw [e_con]) (by decide) (by decide), rngL_nat]
    rfl) g1
  have e0 : st ++ [O.dic []] = st ++ [O.dic (tbD [])] := rfl
  rw [e0, ss_consE, hf]
  simp only [R.bind_ok]
  have hi : (st ++ [O.dic (tbD (lkF ds))])[st.length]? = some (.dic (tbD (lkF ds))) := by simp
  rw [ss_consE, s_retE, e_blt]
  simp only [es_cons, es_nil, e_var, R.bind_ok, List.getElem?_cons_zero, List.getElem?_cons_succ, sorted_tb hi]
  show backV st _ _ = _
  rw [backV_cut]
  rw [D.low]
  exact lows_map _ _ (fun t => low_tupI _ _) _
end EV
end
/-! Pu12: small games; runs that the kernel makes. -/
namespace EV
open PySem

def isT (r : R Fl) : Bool := match r with
  | .ok (.rt (.bl true)) _ => true
  | _ => false
theorem isT_ok {r : R Fl} (h : isT r = true) : ∃ st, r = .ok (.rt (.bl true)) st := by
  unfold isT at h
  split at h
  · exact ⟨_, rfl⟩
  · cases h
theorem backT (st' : Store) : ∃ st, backR [] (.ok (.rt (.bl true)) st') = .ok (.bl true) st := by
  simp only [backR, backV]
  split <;> exact ⟨_, rfl⟩
def drp : Nat → Ss → Ss
  | 0, s => s
  | n + 1, .cons _ s => drp n s
  | _, .nil => .nil
/-! ### rising rows -/
def allRows (ds : List Int) : Nat → List Row
  | 0 => [[]]
  | n + 1 => ds.flatMap fun d => (allRows ds n).map (d :: ·)
theorem mem_allRows {ds : List Int} : ∀ {n : Nat} {r : Row}, r.length = n → (∀ d ∈ r, d ∈ ds) → r ∈ allRows ds n
  | 0, [], _, _ => by simp [allRows]
  | n + 1, d :: r, h, hm => by
    rw [allRows, List.mem_flatMap]
    exact ⟨d, hm d (by simp), List.mem_map.mpr ⟨r, mem_allRows (by simpa using h) fun x hx => hm x (by simp [hx]), rfl⟩⟩
  | 0, d :: r, h, _ => by cases h
  | n + 1, [], h, _ => by cases h
def upB : Row → Bool
  | a :: b :: r => decide (a ≤ b) && upB (b :: r)
  | _ => true
theorem upB_of : ∀ {r : Row}, r.Pairwise (· ≤ ·) → upB r = true
  | [], _ => rfl
  | [_], _ => rfl
  | a :: b :: r, h => by
    rw [List.pairwise_cons] at h
    rw [upB, upB_of h.2, decide_eq_true (h.1 b (by simp))]
    rfl
/-- all rising rows of n dice of s sides -/
def upRows (s n : Nat) : List Row := (allRows (dies s) n).filter upB
/-- those of n dice or less -/
def upLess (s n : Nat) : List Row := (List.range (n + 1)).flatMap (upRows s)
theorem mem_dies {s : Nat} {d : Int} (h1 : 1 ≤ d) (h2 : d ≤ s) : d ∈ dies s := by
  unfold dies
  rw [List.mem_map]
  exact ⟨(d - 1).toNat, by simp; omega, by omega⟩
theorem mem_upRows {s n : Nat} {r : Row} (hl : r.length = n) (hu : r.Pairwise (· ≤ ·)) (hm : ∀ d ∈ r, 1 ≤ d ∧ d ≤ s) : r ∈ upRows s n :=
  List.mem_filter.mpr ⟨mem_allRows hl fun d hd => mem_dies (hm d hd).1 (hm d hd).2, upB_of hu⟩
theorem mem_upLess {s n : Nat} {r : Row} (hl : r.length ≤ n) (hu : r.Pairwise (· ≤ ·)) (hm : ∀ d ∈ r, 1 ≤ d ∧ d ≤ s) : r ∈ upLess s n :=
  List.mem_flatMap.mpr ⟨r.length, by simp; omega, mem_upRows rfl hu hm⟩
theorem dice_up (g : Gm) (x : Int) : (diceOf g x).Pairwise (· ≤ ·) := by
  rw [diceOf]
  have := sortI_sorted ((List.range g.many.toNat).map fun k => 1 + drawn x (30 + k) / 4 % g.sides)
  simpa using this
/-! ### small games -/
def gameOf0 (x : Int) : Gm :=
  if (pick4 2 1 3 2 x = 3 ∧ pick4 2 3 4 2 (x / 4) = 4) ∨ (pick4 1 2 2 3 (x / 64) = 3 ∧ 12 < pick4 2 1 3 2 x * pick4 2 3 4 2 (x / 4) * pick4 1 2 3 2 (x / 16)) then ⟨2, min (pick4 2 3 4 2 (x / 4)) 3, min (pick4 1 2 3 2 (x / 16)) 2, boxesOf x⟩
  else ⟨pick4 2 1 3 2 x, pick4 2 3 4 2 (x / 4), pick4 1 2 3 2 (x / 16), boxesOf x⟩
theorem pick_is (a b c d x : Int) : pick4 a b c d x = a ∨ pick4 a b c d x = b ∨ pick4 a b c d x = c ∨ pick4 a b c d x = d := by
  unfold pick4
  split
  · exact .inl rfl
  · split
    · exact .inr (.inl rfl)
    · split
      · exact .inr (.inr (.inl rfl))
      · exact .inr (.inr (.inr rfl))
theorem min2_int (i j : Int) (st : Store) : bltD .min2 [.int i, .int j] st = .ok (.int (min i j)) st := by
  simp only [bltD]
  by_cases h : i ≤ j <;> simp [Int.min_def, h] <;> omega
theorem p_game0 (n : Nat) (x : Int) (st : Store) : G.call (n + 2) 7 [.int x, .int 0] st = .ok (gameOf0 x).d st := by
  rw [call_of (d := ir__law_game) rfl rfl]
  simp only [ir__law_game]
  have hp := pick_le (x / 64)
  simp [mod1, div1, asg, idx4]
  rw [ev_lcm (fun k : Nat => D.int k) (fun k => (boxOf (drawn x k / 4)).d) (xs := List.range (pick4 1 2 2 3 (x / 64)).toNat) ?_ fun k hk => ⟨_, rfl, ?_⟩]
  · have hm : (pick4 2 1 3 2 x).natAbs < 1000 := by have := pick_is 2 1 3 2 x; omega
    have hs : (pick4 2 3 4 2 (x / 4)).natAbs < 1000 := by have := pick_is 2 3 4 2 (x / 4); omega
    have ht : (pick4 1 2 3 2 (x / 16)).natAbs < 1000 := by have := pick_is 1 2 3 2 (x / 16); omega
    have hl : ∀ st, bltD .len [.tup ((List.range (pick4 1 2 2 3 (x / 64)).toNat).map fun k => (boxOf (drawn x k / 4)).d)] st = .ok (.int (pick4 1 2 2 3 (x / 64))) st := fun st => by
      have : ((pick4 1 2 2 3 (x / 64)).toNat : Int) = pick4 1 2 2 3 (x / 64) := by omega
      simp [bltD, seqOf, this]
    have hb : (boxesOf x).map Bx.d = (List.range (pick4 1 2 2 3 (x / 64)).toNat).map fun k => (boxOf (drawn x k / 4)).d := by simp [boxesOf]
    have eqD : ∀ (i j : Int) (st : Store), cmpD .Eq (.int i) (.int j) st = .ok (.bl (decide (i = j))) st := fun i j st => by
      rw [eq_int]
      by_cases h : i = j <;> simp [h]
    simp [eqD, tuple_lst, hl, big1 _ (show (pick4 2 3 4 2 (x / 4)).natAbs < 2 ^ 63 by omega), big1 _ (show (pick4 1 2 3 2 (x / 16)).natAbs < 2 ^ 63 by omega), min2_int]
    unfold gameOf0
    rw [← hb]
    generalize hq : pick4 2 1 3 2 x * pick4 2 3 4 2 (x / 4) * pick4 1 2 3 2 (x / 16) = q
    generalize pick4 2 1 3 2 x = m
    generalize pick4 2 3 4 2 (x / 4) = s
    generalize pick4 1 2 3 2 (x / 16) = t
    generalize pick4 1 2 2 3 (x / 64) = b
    by_cases h1 : m = 3 <;> by_cases h2 : s = 4 <;> by_cases h3 : b = 3 <;> by_cases h4 : 12 < q <;> simp [h1, h2, h3, h4, Gm.d]
  · simp [mod1, div1, idx4, rng2, rngL_nat, show -1000000 ≤ pick4 1 2 2 3 (x / 64) by omega, show pick4 1 2 2 3 (x / 64) ≤ 1000000 by omega]
  · simp [wipes, p_drawn, div1, p_box]
/-- the sizes of small games -/
theorem game0_size (x : Int) : ((gameOf0 x).many, (gameOf0 x).sides) ∈ [((1 : Int), (2 : Int)), (1, 3), (1, 4), (2, 2), (2, 3), (2, 4), (3, 2), (3, 3)] ∧ 1 ≤ (gameOf0 x).throws ∧ (gameOf0 x).throws ≤ 3 ∧ (gameOf0 x).boxes = boxesOf x := by
  have a1 := pick_is 2 1 3 2 x
  have a2 := pick_is 2 3 4 2 (x / 4)
  have a3 := pick_is 1 2 3 2 (x / 16)
  unfold gameOf0
  split
  · refine ⟨?_, ?_, ?_, rfl⟩
    · simp only
      rcases a2 with h | h | h | h <;> rw [h] <;> decide
    · simp only; omega
    · simp only; omega
  · rename_i h
    refine ⟨?_, by simp only; omega, by simp only; omega, rfl⟩
    simp only
    rcases a1 with h1 | h1 | h1 | h1 <;> rcases a2 with h2 | h2 | h2 | h2 <;> rw [h1, h2] at h ⊢ <;> first | decide | exact absurd (.inl ⟨rfl, rfl⟩) h
end EV
/-! Pu13: points told by the law. -/
namespace EV
open PySem

def manyL (ds : List Int) : List Int := (List.range 7).map fun f : Nat => (ds.count (f : Int) : Int)
def maxL (ds : List Int) : Int := match manyL ds with
  | [] => 0
  | n :: r => r.foldl max n
def runL (ds : List Int) (m : Int) : List Nat := (List.range (7 - m).toNat).filter fun k => !decide ((0 : Int) ∈ cut (manyL ds) (some ((k : Int) + 1)) (some ((k : Int) + 1 + m)))
def lpts : Bx → List Int → Int
  | .face n, ds => n * ds.count n
  | .all, ds => ds.sum
  | .alike n p, ds => p * b2i (decide (n ≤ maxL ds))
  | .run n p, ds => p * b2i (!decide (runL ds n = []))
  | .under n, ds => if n < ds.sum then 0 else ds.sum
  | .even p, ds => p * b2i (decide (ds.filter (fun d => d % 2 == 1) = []))
def Bx.In : Bx → Prop
  | .face n => 1 ≤ n ∧ n ≤ 6
  | .all => True
  | .alike n p => 2 ≤ n ∧ n ≤ 4 ∧ 1 ≤ p ∧ p ≤ 50
  | .run n p => 2 ≤ n ∧ n ≤ 4 ∧ 1 ≤ p ∧ p ≤ 50
  | .under n => 1 ≤ n ∧ n ≤ 24
  | .even p => 1 ≤ p ∧ p ≤ 50
theorem Bx.In.fit {b : Bx} (h : b.In) : b.Fit := by
  cases b <;> simp only [Bx.In, Bx.Fit] at * <;> first | trivial | omega
theorem boxOf_in (x : Int) : (boxOf x).In := by
  unfold boxOf
  repeat' split
  all_goals simp only [Bx.In]
  all_goals omega
theorem len_iL (ds : List Int) (st : Store) : bltD .len [iL ds] st = .ok (.int ds.length) st := by
  simp [bltD, seqOf]
theorem filter_count (ds : List Int) (f : Int) : (ds.filter fun d => d == f).length = ds.count f := by
  rw [List.count, List.countP_eq_length_filter]
theorem cut_map {α β : Type} (f : α → β) (xs : List α) (l h : Option Int) : cut (xs.map f) l h = (cut xs l h).map f := by
  simp [cut, List.map_take, List.map_drop]
theorem eqvs_nil : ∀ xs : List D, D.eqvs xs [] = decide (xs = [])
  | [] => by simp [D.eqvs]
  | _ :: _ => by simp [D.eqvs]
theorem idx_many (ds : List Int) (m : Int) (h0 : 1 ≤ m) (h1 : m ≤ 6) (st : Store) : idxD (iL (manyL ds)) (.int m) st = .ok (.int (ds.count m)) st := by
  have h : m = 1 ∨ m = 2 ∨ m = 3 ∨ m = 4 ∨ m = 5 ∨ m = 6 := by omega
  rcases h with rfl | rfl | rfl | rfl | rfl | rfl <;> simp [manyL, idxD, getAt, ix, List.range, List.range.loop]
theorem max_many (ds : List Int) (st : Store) : bltD .max1 [iL (manyL ds)] st = .ok (.int (maxL ds)) st := by
  have e : ∃ a r, manyL ds = a :: r := ⟨_, _, rfl⟩
  obtain ⟨a, r, e⟩ := e
  simp [bltD, maxL, e, intsOf, intsOf_mapI]
theorem ne_nil (xs : List D) (h : D.flats 19 xs = true) (st : Store) : cmpD .NotEq (.lst xs) (.lst []) st = .ok (.bl (!decide (xs = []))) st := by
  simp [cmpD, D.flat, h, D.eqv, eqvs_nil, D.flats]
theorem eq_nil (xs : List D) (h : D.flats 19 xs = true) (st : Store) : cmpD .Eq (.lst xs) (.lst []) st = .ok (.bl (decide (xs = []))) st := by
  simp [cmpD, D.flat, h, D.eqv, eqvs_nil, D.flats]
theorem flats_nat (n : Nat) (xs : List Nat) : D.flats n (xs.map fun k : Nat => D.int k) = true := by
  have e : (xs.map fun k : Nat => D.int k) = (xs.map fun k : Nat => (k : Int)).map D.int := by simp
  rw [e]
  exact flats_int n _
theorem ne_nilN (xs : List Nat) (st : Store) : cmpD .NotEq (.lst (xs.map fun k : Nat => D.int k)) (.lst []) st = .ok (.bl (!decide (xs = []))) st := by
  rw [ne_nil _ (flats_nat _ _)]
  cases xs <;> simp
theorem p_lpoints (n : Nat) (b : Bx) (hb : b.In) (ds : List Int) (st : Store) : G.call (n + 1) 40 [b.d, iT ds] st = .ok (.int (lpts b ds)) st := by
  rw [call_of (d := ir__law_points) rfl rfl]
  simp only [ir__law_points]
  have w2 : (Str.ofString "alike" == Str.ofString "face") = false := by decide +kernel
  have w4 : (Str.ofString "run" == Str.ofString "face") = false := by decide +kernel
  have w6 : (Str.ofString "run" == Str.ofString "alike") = false := by decide +kernel
  have w7 : (Str.ofString "under" == Str.ofString "face") = false := by decide +kernel
  have w9 : (Str.ofString "under" == Str.ofString "alike") = false := by decide +kernel
  have w10 : (Str.ofString "under" == Str.ofString "run") = false := by decide +kernel
  have w16 : (Str.ofString "under" == Str.ofString "even") = false := by decide +kernel
  have w11 : (Str.ofString "even" == Str.ofString "face") = false := by decide +kernel
  have w13 : (Str.ofString "even" == Str.ofString "alike") = false := by decide +kernel
  have w14 : (Str.ofString "even" == Str.ofString "run") = false := by decide +kernel
  have v1 : (Str.ofString "all" == Str.ofString "face") = false := by decide +kernel
  have v2 : (Str.ofString "all" == Str.ofString "alike") = false := by decide +kernel
  have v3 : (Str.ofString "all" == Str.ofString "run") = false := by decide +kernel
  have v4 : (Str.ofString "all" == Str.ofString "even") = false := by decide +kernel
  have v5 : (Str.ofString "all" == Str.ofString "under") = false := by decide +kernel
  obtain ⟨w, r, hw⟩ : ∃ w r, b.parts = .str w :: r := by cases b <;> exact ⟨_, _, rfl⟩
  have hd : b.d = .tup (.str w :: r) := by rw [Bx.d, hw]
  have hm : evE (G.ctx n) (.lc false [5] (.one 5) (.rng1 (.con (.int (7)))) (.con (.bl true)) (.blt .len (.cons (.lc false [7] (.one 7) (.seq (.var 1)) (.cmp .Eq (.var 7) (.var 5)) (.var 7)) .nil)))
      [some b.d, some (iT ds), some (.str w), none, none, none, none, none] st = .ok (iL (manyL ds)) st := by
    rw [ev_lcm (fun k : Nat => D.int k) (fun k => D.int (ds.count (k : Int))) (xs := List.range 7) ?_ fun k hk => ⟨_, rfl, ?_⟩]
    · simp [manyL]
    · simp [rng_ok 7 (by decide) (by decide)]
    · simp only [e_blt, es_cons, es_nil]
      rw [ev_lc (fun d : Int => D.int d) (fun d => d == (k : Int)) (fun d => D.int d) (xs := ds) ?_ fun d hd => ⟨_, rfl, ?_, fun _ => ?_⟩]
      · simp only [R.bind_ok]
        rw [len_iL, filter_count]
      · simp [wipes, seqIt]
      · simp [wipes, eq_int]
      · simp [wipes]
  rw [hd] at hm ⊢
  simp only [ss_consE, s_setE, List.map, List.replicate, List.cons_append, List.nil_append]
  simp only [e_idx, e_var, e_con, List.getElem?_cons_zero, List.getElem?_cons_succ, R.bind_ok, idx_0, asg, List.set_cons_zero, List.set_cons_succ, R.of_some]
  simp [asg]
  rw [hm]
  simp only [R.bind_ok, R.of_some]
  cases b with
  | face m =>
    cases hw
    simp [eq_str, idx_many _ _ hb.1 hb.2, big3 m _ (by have := hb.1; have := hb.2; omega), lpts]
  | all =>
    cases hw
    simp [eq_str, v1, v2, v3, v4, v5, sum_int, lpts]
  | alike m p =>
    cases hw
    simp [eq_str, w2]
    rw [max_many]
    simp
    rw [show (if m ≤ maxL ds then (1 : Int) else 0) = (if (decide (m ≤ maxL ds)) = true then 1 else 0) by simp, big4]
    simp [lpts]
  | run m p =>
    cases hw
    simp [eq_str, w4, w6]
    rw [ev_lc (fun k : Nat => D.int k) (fun k => !decide ((0 : Int) ∈ cut (manyL ds) (some ((k : Int) + 1)) (some ((k : Int) + 1 + m)))) (fun k => D.int k) (xs := List.range (7 - m).toNat) ?_ fun k hk => ⟨_, rfl, ?_, fun _ => ?_⟩]
    · simp only [R.bind_ok, R.of_some, asg, List.set_cons_zero, List.set_cons_succ]
      simp
      rw [ne_nilN]
      simp only [R.bind_ok]
      rw [int_bl]
      simp only [R.bind_ok]
      rw [big4]
      simp only [lpts, runL, R.bind_ok, backR_rt]
      congr
    · simp [wipes, rng_ok (7 - m) (by have := hb.1; have := hb.2.1; omega) (by have := hb.1; have := hb.2.1; omega)]
    · simp [wipes, sliD]
      rw [cut_map]
      exact notin_int _ _ _
    · simp [wipes]
  | under m =>
    cases hw
    simp [eq_str, w7, w9, w10, w16, sum_int]
    by_cases h : m < ds.sum
    · simp [h, lpts]
    · simp [h, lpts, sum_int]
  | even p =>
    cases hw
    simp [eq_str, w11, w13, w14]
    rw [ev_lc (fun d : Int => D.int d) (fun d => d % 2 == 1) (fun d => D.int d) (xs := ds) ?_ fun d hd => ⟨_, rfl, ?_, fun _ => ?_⟩]
    · simp only [R.bind_ok]
      rw [eq_nil _ (flats_int _ _)]
      simp only [R.bind_ok]
      rw [int_bl]
      simp only [R.bind_ok]
      rw [big4]
      simp [lpts]
    · simp [wipes, seqIt]
    · simp [wipes, mod1, eq_int]
    · simp [wipes]
/-! ### both tell the same points -/
def allL : Nat → List (List Int)
  | 0 => [[]]
  | k + 1 => [1, 2, 3, 4, 5, 6].flatMap fun d : Int => (allL k).map fun r => d :: r
theorem mem_allL : ∀ (k : Nat) (ds : List Int), ds.length = k → (∀ d ∈ ds, 1 ≤ d ∧ d ≤ 6) → ds ∈ allL k
  | 0, ds, hl, _ => by rw [List.length_eq_zero_iff.mp hl]; simp [allL]
  | k + 1, [], hl, _ => by simp at hl
  | k + 1, d :: ds, hl, h => by
    have ih := mem_allL k ds (by simpa using hl) fun x hx => h x (by simp [hx])
    have hd := h d (by simp)
    rw [allL, List.mem_flatMap]
    exact ⟨d, by simp; omega, List.mem_map.mpr ⟨ds, ih, rfl⟩⟩
def agree (ds : List Int) : Bool := [2, 3, 4].all fun n : Int => ((ds.any fun d => decide (n ≤ ds.count d)) == decide (n ≤ maxL ds)) && (hasRun ds n == !decide (runL ds n = []))
theorem agree_all : ∀ k ∈ [1, 2, 3, 4], (allL k).all agree = true := by decide +kernel
theorem pts_eq (b : Bx) (hb : b.In) (ds : List Int) (h0 : 1 ≤ ds.length) (h1 : ds.length ≤ 4) (h : ∀ d ∈ ds, 1 ≤ d ∧ d ≤ 6) : pts b ds = lpts b ds := by
  have ag : agree ds = true := by
    have z := agree_all ds.length (by simp; omega)
    rw [List.all_eq_true] at z
    exact z ds (mem_allL _ ds rfl h)
  have ag : ∀ n : Int, n = 2 ∨ n = 3 ∨ n = 4 → (ds.any fun d => decide (n ≤ ds.count d)) = decide (n ≤ maxL ds) ∧ hasRun ds n = !decide (runL ds n = []) := fun n hn => by
    rw [agree, List.all_eq_true] at ag
    have z := ag n (by simp; omega)
    rw [Bool.and_eq_true] at z
    exact ⟨eq_of_beq z.1, eq_of_beq z.2⟩
  cases b with
  | face n => rfl
  | all => rfl
  | alike n p => rw [pts, lpts, (ag n (by have := hb.1; have := hb.2.1; omega)).1]
  | run n p => rw [pts, lpts, (ag n (by have := hb.1; have := hb.2.1; omega)).2]
  | under n =>
    rw [pts, lpts]
    by_cases h : n < ds.sum
    · have : ¬ ds.sum ≤ n := by omega
      simp [h, this, b2i]
    · have : ds.sum ≤ n := by omega
      simp [h, this, b2i]
  | even p =>
    rw [pts, lpts]
    congr 2
    rw [Bool.eq_iff_iff]
    simp only [List.all_eq_true, beq_iff_eq, decide_eq_true_eq, List.filter_eq_nil_iff]
    constructor
    · intro z d hd; have := z d hd; omega
    · intro z d hd; have := z d hd; omega
end EV
/-! Pu16: what is a box, what is a game. -/
namespace EV
open PySem

theorem e_chn {C : Ctx} {env : Env} {st : Store} (o1 o2 : CmpOp) (a b c : E) : evE C (.chn o1 o2 a b c) env st = (evE C a env st).bind fun x st => (evE C b env st).bind fun y st => (cmpD o1 x y st).bind fun r st => match r with
    | .bl true => (evE C c env st).bind fun z st => cmpD o2 y z st
    | .bl false => .ok (.bl false) st
    | _ => .bad := by rw [evE] <;> rfl
/-- data of depth d or less -/
def Flt (d : Nat) (x : D) : Prop := ∀ k, d ≤ k → D.flat k x = true
theorem Flt.mono {d e : Nat} {x : D} (h : Flt d x) (hd : d ≤ e) : Flt e x := fun k hk => h k (Nat.le_trans hd hk)
theorem fl_int (d : Nat) (i : Int) : Flt d (.int i) := fun k _ => by cases k <;> simp [D.flat]
theorem fl_str (d : Nat) (s : Str) : Flt d (.str s) := fun k _ => by cases k <;> simp [D.flat]
theorem fl_bl (d : Nat) (b : Bool) : Flt d (.bl b) := fun k _ => by cases k <;> simp [D.flat]
theorem fl_non (d : Nat) : Flt d .non := fun k _ => by cases k <;> simp [D.flat]
theorem flats_iff (k : Nat) : ∀ xs : List D, D.flats k xs = true ↔ ∀ x ∈ xs, D.flat k x = true
  | [] => by simp [D.flats]
  | x :: xs => by rw [D.flats, Bool.and_eq_true, flats_iff k xs]; simp
theorem fl_tup {d : Nat} {xs : List D} : Flt (d + 1) (.tup xs) ↔ ∀ x ∈ xs, Flt d x := by
  constructor
  · intro h x hx k hk
    have := h (k + 1) (by omega)
    rw [D.flat, flats_iff] at this
    exact this x hx
  · intro h k hk
    obtain ⟨k, rfl⟩ : ∃ j, k = j + 1 := ⟨k - 1, by omega⟩
    rw [D.flat, flats_iff]
    exact fun x hx => h x hx k (by omega)
theorem fl_lst {d : Nat} {xs : List D} : Flt (d + 1) (.lst xs) ↔ ∀ x ∈ xs, Flt d x := by
  constructor
  · intro h x hx k hk
    have := h (k + 1) (by omega)
    rw [D.flat, flats_iff] at this
    exact this x hx
  · intro h k hk
    obtain ⟨k, rfl⟩ : ∃ j, k = j + 1 := ⟨k - 1, by omega⟩
    rw [D.flat, flats_iff]
    exact fun x hx => h x hx k (by omega)
theorem Flt.ref {d i : Nat} (h : Flt d (.ref i)) : False := by
  have := h d (Nat.le_refl _)
  cases d <;> simp [D.flat] at this
theorem Flt.scr {d : Nat} {ns : List Int} (h : Flt d (.scr ns)) : False := by
  have := h d (Nat.le_refl _)
  cases d <;> simp [D.flat] at this
/-! ### is_whole -/
def wholeB (x : D) (lo hi : Int) : Bool := match x with
  | .int i => decide (lo ≤ i) && decide (i ≤ hi)
  | _ => false
def whoE : Ss := .cons (.ret (.and (.blt (.isT .int) (.cons (.var 0) .nil)) (.and (.not (.blt (.isT .bl) (.cons (.var 0) .nil))) (.chn .LtE .LtE (.var 1) (.var 0) (.var 2))))) .nil
theorem who_ev {C : Ctx} {d : Nat} {x : D} (hx : Flt d x) (lo hi : Int) (st : Store) : evSs C whoE [some x, some (.int lo), some (.int hi)] st = .ok (.rt (.bl (wholeB x lo hi))) st := by
  unfold whoE
  cases x with
  | ref i => exact absurd hx Flt.ref
  | scr ns => exact absurd hx Flt.scr
  | int i =>
    simp only [ss_consE, s_retE, e_and, e_not, e_blt, es_cons, es_nil, e_var, e_chn, R.bind_ok, List.getElem?_cons_zero, List.getElem?_cons_succ, bltD, D.kd, R.of_some, Kd.sub, le_int, wholeB]
    by_cases h1 : lo ≤ i <;> simp [h1]
  | _ => simp [bltD, D.kd, Kd.sub, wholeB]
theorem p_whole (n : Nat) {d : Nat} {x : D} (hx : Flt d x) (lo hi : Int) (st : Store) : G.call (n + 1) 0 [x, .int lo, .int hi] st = .ok (.bl (wholeB x lo hi)) st := by
  rw [call_of (d := ir_is_whole) rfl rfl]
  show backR st (evSs (G.ctx n) whoE [some x, some (.int lo), some (.int hi)] st) = _
  rw [who_ev hx, backR_rt]
theorem p_from (n : Nat) {d : Nat} {x : D} (hx : Flt d x) (lo hi : Int) (st : Store) : G.call (n + 1) 10 [x, .int lo, .int hi] st = .ok (.bl (wholeB x lo hi)) st := by
  rw [call_of (d := ir__law_from) rfl rfl]
  show backR st (evSs (G.ctx n) whoE [some x, some (.int lo), some (.int hi)] st) = _
  rw [who_ev hx, backR_rt]
/-! ### is_box -/
def mostOf (w : Str) : Int := if w = Str.ofString "face" then 6 else if w = Str.ofString "under" then 24 else if w = Str.ofString "even" then 50 else 0
def midV : List D → Bool
  | [a, b] => wholeB a 2 4 && wholeB b 1 50
  | _ => false
def lastV (w : Str) : List D → Bool
  | [a] => wholeB a 1 (mostOf w)
  | _ => false
def boxB (x : D) : Bool := match x with
  | .tup (.str w :: r) => if w = Str.ofString "all" then decide (r.length = 0) else if w = Str.ofString "alike" ∨ w = Str.ofString "run" then midV r else lastV w r
  | _ => false
theorem boxB_eq (w : Str) (r : List D) : boxB (.tup (.str w :: r)) = if w = Str.ofString "all" then decide (r.length = 0) else if w = Str.ofString "alike" ∨ w = Str.ofString "run" then midV r else lastV w r := rfl
theorem eq_strD (i j : Str) (st : Store) : cmpD .Eq (.str i) (.str j) st = .ok (.bl (decide (i = j))) st := by
  rw [eq_str]
  by_cases h : i = j <;> simp [h]
theorem eqI (i j : Int) (st : Store) : cmpD .Eq (.int i) (.int j) st = .ok (.bl (decide (i = j))) st := by
  rw [eq_int]
  by_cases h : i = j <;> simp [h]
theorem neI (i j : Int) (st : Store) : cmpD .NotEq (.int i) (.int j) st = .ok (.bl (!decide (i = j))) st := by
  rw [ne_int]
  by_cases h : i = j <;> simp [h]
theorem in_str2 (w a b : Str) (st : Store) : cmpD .In (.str w) (.tup [.str a, .str b]) st = .ok (.bl (decide (w = a ∨ w = b))) st := by
  have e : memD (.str w) [.str a, .str b] = decide (w = a ∨ w = b) := by
    rw [Bool.eq_iff_iff]
    simp only [memD, D.eqv, Bool.or_eq_true, beq_iff_eq, decide_eq_true_eq, Bool.false_eq_true, or_false]
    exact or_congr eq_comm eq_comm
  have e2 : ∀ z : Str, D.flat 20 (.str z) = true := fun z => by simp [D.flat]
  simp only [cmpD, D.flats, e, e2, Bool.and_self, R.test_true]
def dctE : E := .dct (.cons (.con (.str (Str.ofString "face"))) (.cons (.con (.int (6))) (.cons (.con (.str (Str.ofString "under"))) (.cons (.con (.int (24))) (.cons (.con (.str (Str.ofString "even"))) (.cons (.con (.int (50))) .nil))))))
def dctV : List (D × D) := [(.str (Str.ofString "face"), .int 6), (.str (Str.ofString "under"), .int 24), (.str (Str.ofString "even"), .int 50)]
theorem dct_ev {C : Ctx} (env : Env) (st : Store) : evE C dctE env st = .ok (.ref st.length) (st ++ [.dic dctV]) := by
  have w1 : (Str.ofString "face" == Str.ofString "under") = false := by decide +kernel
  have w2 : (Str.ofString "face" == Str.ofString "even") = false := by decide +kernel
  have w3 : (Str.ofString "under" == Str.ofString "even") = false := by decide +kernel
  unfold dctE
  simp [pairUp, keysOk, dputs, dput, D.key, D.isTup, D.isLeaf, D.eqv, w1, w2, w3, dctV]
theorem get_ev {C : Ctx} (env : Env) (st : Store) (a : E) (w : Str) (ha : ∀ st, evE C a env st = .ok (.str w) st) : evE C (.mth .get2 dctE (.cons a (.cons (.con (.int (0))) .nil))) env st = .ok (.int (mostOf w)) (st ++ [.dic dctV]) := by
  have hi : (st ++ [O.dic dctV])[st.length]? = some (.dic dctV) := by simp
  rw [e_mth, dct_ev]
  have hok : Mth.get2.ok (.ref st.length) (st ++ [O.dic dctV]) = true := by simp [Mth.ok, Mth.kd, D.kd]
  have hk : keyOk dctV (.str w) = true := by simp [keyOk, dctV, D.key, D.isTup, D.isLeaf]
  have hd : (dget dctV (.str w)).getD (.int 0) = .int (mostOf w) := by
    unfold mostOf dctV
    simp only [dget, D.eqv]
    by_cases h1 : w = Str.ofString "face"
    · simp [h1]
    · have g1 : (Str.ofString "face" == w) = false := by simpa using fun z => h1 z.symm
      by_cases h2 : w = Str.ofString "under"
      · rw [if_neg h1, if_pos h2]
        have g2 : (Str.ofString "under" == w) = true := by simp [h2]
        simp [g1, g2]
      · have g2 : (Str.ofString "under" == w) = false := by simpa using fun z => h2 z.symm
        by_cases h3 : w = Str.ofString "even"
        · rw [if_neg h1, if_neg h2, if_pos h3]
          have g3 : (Str.ofString "even" == w) = true := by simp [h3]
          simp [g1, g2, g3]
        · have g3 : (Str.ofString "even" == w) = false := by simpa using fun z => h3 z.symm
          rw [if_neg h1, if_neg h2, if_neg h3]
          simp [g1, g2, g3]
  simp only [R.bind_ok, hok, R.test_true, es_cons, es_nil, ha, e_con, mthD, hi, hk, hd]
theorem len_tup (xs : List D) (st : Store) : bltD .len [.tup xs] st = .ok (.int xs.length) st := by simp [bltD, seqOf]
theorem isTup_t (xs : List D) (st : Store) : bltD (.isT .tup) [.tup xs] st = .ok (.bl true) st := by simp [bltD, D.kd, Kd.sub]
theorem two_tup {C : Ctx} {env : Env} {st : Store} {a b : Str} : evE C (.tup (.cons (.con (.str a)) (.cons (.con (.str b)) .nil))) env st = .ok (.tup [.str a, .str b]) st := by
  simp only [e_tup, es_cons, es_nil, e_con, R.bind_ok, List.length_cons, List.length_nil]
  rw [decide_eq_true (by decide), R.test_true]
/-- the two ways to tell boxes, with their call of is_whole -/
def lastE (w : Nat) : Ss := .cons (.set (.one 1) (.mth .get2 dctE (.cons (.idx (.var 0) (.con (.int (0)))) (.cons (.con (.int (0))) .nil)))) (.cons (.ret (.and (.cmp .Eq (.blt .len (.cons (.var 0) .nil)) (.con (.int (2)))) (.call w (.cons (.idx (.var 0) (.con (.int (1)))) (.cons (.con (.int (1))) (.cons (.var 1) .nil)))))) .nil)
def midE (w : Nat) : Ss := .cons (.ret (.and (.cmp .Eq (.blt .len (.cons (.var 0) .nil)) (.con (.int (3)))) (.and (.call w (.cons (.idx (.var 0) (.con (.int (1)))) (.cons (.con (.int (2))) (.cons (.con (.int (4))) .nil)))) (.call w (.cons (.idx (.var 0) (.con (.int (2)))) (.cons (.con (.int (1))) (.cons (.con (.int (50))) .nil))))))) .nil
section
variable {C : Ctx} {w0 : Nat} (hw : ∀ (d : Nat) (x : D) (lo hi : Int) (st : Store), Flt d x → C.call w0 [x, .int lo, .int hi] st = .ok (.bl (wholeB x lo hi)) st)
include hw
theorem last_ev {d : Nat} {w : Str} {r : List D} (hx : ∀ x ∈ r, Flt d x) (st : Store) : ∃ st', evSs C (lastE w0) [some (.tup (.str w :: r)), none] st = .ok (.rt (.bl (lastV w r))) (st ++ st') := by
  refine ⟨[.dic dctV], ?_⟩
  unfold lastE
  rw [ss_consE, s_setE, get_ev _ _ _ w (fun st => by simp only [e_idx, e_var, e_con, R.bind_ok, List.getElem?_cons_zero, idx_0])]
  simp only [R.bind_ok, asg, R.of_some, List.set_cons_succ, List.set_cons_zero]
  simp only [ss_consE, s_retE, e_and, e_cmp, e_blt, es_cons, es_nil, e_var, e_con, R.bind_ok, List.getElem?_cons_zero, List.getElem?_cons_succ, len_tup, eqI, List.length_cons]
  match r, hx with
  | [], _ => rfl
  | [a], hx =>
    simp only [List.length_cons, List.length_nil]
    simp only [e_call, e_idx, es_cons, es_nil, e_var, e_con, R.bind_ok, List.getElem?_cons_zero, List.getElem?_cons_succ, idx_1, hw d a _ _ _ (hx a (by simp))]
    rfl
  | a :: b :: r, _ =>
    have : ¬ (((a :: b :: r).length + 1 : Nat) : Int) = 2 := by simp only [List.length_cons]; omega
    rw [decide_eq_false this]
    rfl
theorem mid_ev {d : Nat} {w : Str} {r : List D} (hx : ∀ x ∈ r, Flt d x) (st : Store) : evSs C (midE w0) [some (.tup (.str w :: r)), none] st = .ok (.rt (.bl (midV r))) st := by
  unfold midE
  simp only [ss_consE, s_retE, e_and, e_cmp, e_blt, es_cons, es_nil, e_var, e_con, R.bind_ok, List.getElem?_cons_zero, List.getElem?_cons_succ, len_tup, eqI, List.length_cons]
  match r, hx with
  | [], _ => rfl
  | [a], hx => rfl
  | [a, b], hx =>
    simp only [List.length_cons, List.length_nil]
    simp only [e_call, e_idx, es_cons, es_nil, e_var, e_con, R.bind_ok, List.getElem?_cons_zero, List.getElem?_cons_succ, idx_1, idx_2, hw d a _ _ _ (hx a (by simp)), hw d b _ _ _ (hx b (by simp))]
    rw [midV]
    cases wholeB a 2 4 <;> rfl
  | a :: b :: c :: r, _ =>
    have : ¬ (((a :: b :: c :: r).length + 1 : Nat) : Int) = 3 := by simp only [List.length_cons]; omega
    rw [decide_eq_false this]
    rfl
end
theorem back_app {st st' : Store} {b : Bool} : backR st (.ok (.rt (.bl b)) (st ++ st')) = .ok (.bl b) st := backV_cut st st' (.bl b) (by simp [D.low])
theorem str_isT (x : D) {d : Nat} (hx : Flt d x) (st : Store) : bltD (.isT .str) [x] st = .ok (.bl (match x with | .str _ => true | _ => false)) st := by
  cases x with
  | ref i => exact absurd hx Flt.ref
  | scr ns => exact absurd hx Flt.scr
  | _ => simp [bltD, D.kd, Kd.sub]
theorem tup_isT (x : D) {d : Nat} (hx : Flt d x) (st : Store) : bltD (.isT .tup) [x] st = .ok (.bl (match x with | .tup _ => true | _ => false)) st := by
  cases x with
  | ref i => exact absurd hx Flt.ref
  | scr ns => exact absurd hx Flt.scr
  | _ => simp [bltD, D.kd, Kd.sub]
theorem all_ne_ar {w : Str} (h : w = Str.ofString "all") : ¬ (w = Str.ofString "alike" ∨ w = Str.ofString "run") := by
  subst h
  decide +kernel
def isBx (x : D) : Bool := match x with
  | .tup (.str _ :: _) => true
  | _ => false
theorem boxB_no {x : D} (h : isBx x = false) : boxB x = false := by
  unfold isBx at h
  unfold boxB
  split at h
  · cases h
  · rfl
theorem isBx_yes {x : D} (h : isBx x = true) : ∃ w r, x = .tup (.str w :: r) := by
  unfold isBx at h
  split at h
  · exact ⟨_, _, rfl⟩
  · cases h
def gateE : E := .or (.not (.blt (.isT .tup) (.cons (.var 0) .nil))) (.or (.cmp .Eq (.blt .len (.cons (.var 0) .nil)) (.con (.int (0)))) (.not (.blt (.isT .str) (.cons (.idx (.var 0) (.con (.int (0)))) .nil))))
def gateL : E := .or (.not (.blt (.isT .tup) (.cons (.var 0) .nil))) (.or (.cmp .Eq (.var 0) (.tup .nil)) (.not (.blt (.isT .str) (.cons (.idx (.var 0) (.con (.int (0)))) .nil))))
theorem gate_ev {C : Ctx} {d : Nat} {x : D} (hx : Flt d x) (st : Store) : evE C gateE [some x, none] st = .ok (.bl (!isBx x)) st := by
  unfold gateE
  simp only [e_or, e_not, e_blt, es_cons, es_nil, e_var, R.bind_ok, List.getElem?_cons_zero, tup_isT x hx]
  cases x with
  | tup xs =>
    simp only [e_cmp, e_blt, es_cons, es_nil, e_var, e_con, R.bind_ok, List.getElem?_cons_zero, len_tup, eqI, Bool.not_true]
    cases xs with
    | nil => rfl
    | cons y ys =>
      have hl : ¬ (((y :: ys).length : Nat) : Int) = 0 := by simp only [List.length_cons]; omega
      rw [decide_eq_false hl]
      have hy : Flt (d + 1) y := by
        intro k hk
        have := hx (k + 1) (by omega)
        rw [D.flat, flats_iff] at this
        exact this y (by simp)
      simp only [e_not, e_blt, es_cons, es_nil, e_idx, e_var, e_con, R.bind_ok, List.getElem?_cons_zero, idx_0, str_isT y hy]
      cases y <;> rfl
  | ref i => exact absurd hx Flt.ref
  | scr ns => exact absurd hx Flt.scr
  | _ => rfl
theorem gateL_ev {C : Ctx} {d : Nat} {x : D} (hx : Flt d x) (hd : d ≤ 20) (st : Store) : evE C gateL [some x, none] st = .ok (.bl (!isBx x)) st := by
  unfold gateL
  have en : ∀ env st, evE C (.tup .nil) env st = .ok (.tup []) st := fun env st => by
    rw [e_tup, es_nil, R.bind_ok, List.length_nil, decide_eq_true (by decide), R.test_true]
  simp only [e_or, e_not, e_blt, es_cons, es_nil, e_var, R.bind_ok, List.getElem?_cons_zero, tup_isT x hx]
  cases x with
  | tup xs =>
    have hp : D.flat 20 (.tup xs) = true := hx 20 hd
    have hc : cmpD .Eq (.tup xs) (.tup []) st = .ok (.bl (decide (xs = []))) st := by
      simp only [cmpD, hp]
      cases xs <;> simp [D.flat, D.flats, D.eqv, D.eqvs]
    simp only [e_cmp, e_var, en, R.bind_ok, List.getElem?_cons_zero, hc, Bool.not_true]
    cases xs with
    | nil => rfl
    | cons y ys =>
      rw [decide_eq_false (by simp)]
      have hy : Flt (d + 1) y := by
        intro k hk
        have := hx (k + 1) (by omega)
        rw [D.flat, flats_iff] at this
        exact this y (by simp)
      simp only [e_not, e_blt, es_cons, es_nil, e_idx, e_var, e_con, R.bind_ok, List.getElem?_cons_zero, idx_0, str_isT y hy]
      cases y <;> rfl
  | ref i => exact absurd hx Flt.ref
  | scr ns => exact absurd hx Flt.scr
  | _ => rfl
theorem Flt.part {d : Nat} {xs : List D} (h : Flt d (.tup xs)) : ∀ x ∈ xs, Flt d x := by
  intro x hx k hk
  have := h (k + 1) (by omega)
  rw [D.flat, flats_iff] at this
  exact this x hx
def allE : Ss := .cons (.ret (.cmp .Eq (.blt .len (.cons (.var 0) .nil)) (.con (.int (1))))) .nil
theorem all_ev {C : Ctx} {w : Str} {r : List D} (st : Store) : evSs C allE [some (.tup (.str w :: r)), none] st = .ok (.rt (.bl (decide (r.length = 0)))) st := by
  unfold allE
  simp only [ss_consE, s_retE, e_cmp, e_blt, es_cons, es_nil, e_var, e_con, R.bind_ok, List.getElem?_cons_zero, len_tup, eqI, List.length_cons]
  congr 3
  rw [decide_eq_decide]
  omega
def ifAll (a b : Ss) : S := .ite (.cmp .Eq (.idx (.var 0) (.con (.int (0)))) (.con (.str (Str.ofString "all")))) a b
def ifTwo (a b : Ss) : S := .ite (.cmp .In (.idx (.var 0) (.con (.int (0)))) (.tup (.cons (.con (.str (Str.ofString "alike"))) (.cons (.con (.str (Str.ofString "run"))) .nil)))) a b
theorem ifAll_ev {C : Ctx} {w : Str} {r : List D} {a b : Ss} (st : Store) : evS C (ifAll a b) [some (.tup (.str w :: r)), none] st = if w = Str.ofString "all" then evSs C a [some (.tup (.str w :: r)), none] st else evSs C b [some (.tup (.str w :: r)), none] st := by
  unfold ifAll
  rw [s_iteE]
  simp only [e_cmp, e_idx, e_var, e_con, R.bind_ok, List.getElem?_cons_zero, idx_0, eq_strD]
  by_cases h : w = Str.ofString "all"
  · rw [if_pos h, decide_eq_true h]
  · rw [if_neg h, decide_eq_false h]
theorem ifTwo_ev {C : Ctx} {w : Str} {r : List D} {a b : Ss} (st : Store) : evS C (ifTwo a b) [some (.tup (.str w :: r)), none] st = if (w = Str.ofString "alike" ∨ w = Str.ofString "run") then evSs C a [some (.tup (.str w :: r)), none] st else evSs C b [some (.tup (.str w :: r)), none] st := by
  unfold ifTwo
  rw [s_iteE]
  simp only [e_cmp, e_idx, e_var, e_con, two_tup, R.bind_ok, List.getElem?_cons_zero, idx_0, in_str2]
  by_cases h : w = Str.ofString "alike" ∨ w = Str.ofString "run"
  · rw [if_pos h, decide_eq_true h]
  · rw [if_neg h, decide_eq_false h]
theorem p_isbox (n : Nat) {d : Nat} {x : D} (hx : Flt d x) (st : Store) : G.call (n + 2) 1 [x] st = .ok (.bl (boxB x)) st := by
  have hw : ∀ (d : Nat) (x : D) (lo hi : Int) (st : Store), Flt d x → (G.ctx (n + 1)).call 0 [x, .int lo, .int hi] st = .ok (.bl (wholeB x lo hi)) st := fun d x lo hi st h => p_whole n h lo hi st
  rw [call_of (d := ir_is_box) rfl rfl]
  have eb : ir_is_box.body = .cons (.ite gateE (.cons (.ret (.con (.bl false))) .nil) .nil) (.cons (ifAll allE .nil) (.cons (ifTwo (midE 0) .nil) (lastE 0))) := rfl
  rw [eb]
  show backR st (evSs (G.ctx (n + 1)) _ [some x, none] st) = _
  rw [ss_consE, s_iteE, gate_ev hx]
  cases hb : isBx x with
  | false =>
    rw [boxB_no hb]
    simp only [Bool.not_false, R.bind_ok, ss_consE, s_retE, e_con]
    exact backR_rt st _
  | true =>
    obtain ⟨w, r, rfl⟩ := isBx_yes hb
    have hr : ∀ y ∈ r, Flt d y := fun y hy => hx.part y (by simp [hy])
    simp only [Bool.not_true, R.bind_ok, ss_nilE]
    rw [ss_consE, ifAll_ev, boxB_eq]
    by_cases h1 : w = Str.ofString "all"
    · rw [if_pos h1, if_pos h1, all_ev]
      simp only [R.bind_ok]
      exact backR_rt st _
    · rw [if_neg h1, if_neg h1]
      simp only [ss_nilE, R.bind_ok]
      rw [ss_consE, ifTwo_ev]
      by_cases h2 : w = Str.ofString "alike" ∨ w = Str.ofString "run"
      · rw [if_pos h2, if_pos h2, mid_ev hw hr]
        simp only [R.bind_ok]
        exact backR_rt st _
      · rw [if_neg h2, if_neg h2]
        simp only [ss_nilE, R.bind_ok]
        obtain ⟨st', h3⟩ := last_ev hw (w := w) hr st
        rw [h3]
        exact back_app
theorem p_lisbox (n : Nat) {d : Nat} {x : D} (hx : Flt d x) (hd : d ≤ 20) (st : Store) : G.call (n + 2) 11 [x] st = .ok (.bl (boxB x)) st := by
  have hw : ∀ (d : Nat) (x : D) (lo hi : Int) (st : Store), Flt d x → (G.ctx (n + 1)).call 10 [x, .int lo, .int hi] st = .ok (.bl (wholeB x lo hi)) st := fun d x lo hi st h => p_from n h lo hi st
  rw [call_of (d := ir__law_is_box) rfl rfl]
  have eb : ir__law_is_box.body = .cons (.ite gateL (.cons (.ret (.con (.bl false))) .nil) .nil) (.cons (ifTwo (midE 10) .nil) (.cons (ifAll allE .nil) (lastE 10))) := rfl
  rw [eb]
  show backR st (evSs (G.ctx (n + 1)) _ [some x, none] st) = _
  rw [ss_consE, s_iteE, gateL_ev hx hd]
  cases hb : isBx x with
  | false =>
    rw [boxB_no hb]
    simp only [Bool.not_false, R.bind_ok, ss_consE, s_retE, e_con]
    exact backR_rt st _
  | true =>
    obtain ⟨w, r, rfl⟩ := isBx_yes hb
    have hr : ∀ y ∈ r, Flt d y := fun y hy => hx.part y (by simp [hy])
    simp only [Bool.not_true, R.bind_ok, ss_nilE]
    rw [ss_consE, ifTwo_ev, boxB_eq]
    by_cases h1 : w = Str.ofString "all"
    · have h2 := all_ne_ar h1
      rw [if_neg h2, if_pos h1]
      simp only [ss_nilE, R.bind_ok]
      rw [ss_consE, ifAll_ev, if_pos h1, all_ev]
      simp only [R.bind_ok]
      exact backR_rt st _
    · rw [if_neg h1]
      by_cases h2 : w = Str.ofString "alike" ∨ w = Str.ofString "run"
      · rw [if_pos h2, if_pos h2, mid_ev hw hr]
        simp only [R.bind_ok]
        exact backR_rt st _
      · rw [if_neg h2, if_neg h2]
        simp only [ss_nilE, R.bind_ok]
        rw [ss_consE, ifAll_ev, if_neg h1]
        simp only [ss_nilE, R.bind_ok]
        obtain ⟨st', h3⟩ := last_ev hw (w := w) hr st
        rw [h3]
        exact back_app
/-! ### is_game -/
def headV (g : List D) : Bool := match g with
  | [a, b, c, .tup bs] => wholeB a 1 4 && wholeB b 2 6 && wholeB c 1 3 && decide (1 ≤ bs.length) && decide (bs.length ≤ 4) && bs.all boxB
  | _ => false
def gameB (x : D) : Bool := match x with
  | .tup g => headV g
  | _ => false
def isGm (x : D) : Bool := match x with
  | .tup [_, _, _, .tup _] => true
  | _ => false
theorem gameB_no {x : D} (h : isGm x = false) : gameB x = false := by
  unfold isGm at h
  split at h
  · cases h
  · rename_i h1
    unfold gameB
    split
    · unfold headV
      split
      · exact absurd rfl (h1 _ _ _ _)
      · rfl
    · rfl
theorem isGm_yes {x : D} (h : isGm x = true) : ∃ a b c bs, x = .tup [a, b, c, .tup bs] := by
  unfold isGm at h
  split at h
  · exact ⟨_, _, _, _, rfl⟩
  · cases h
def gateG : E := .or (.not (.blt (.isT .tup) (.cons (.var 0) .nil))) (.or (.cmp .NotEq (.blt .len (.cons (.var 0) .nil)) (.con (.int (4)))) (.not (.blt (.isT .tup) (.cons (.idx (.var 0) (.con (.int (3)))) .nil))))
theorem gateG_ev {C : Ctx} {d : Nat} {x : D} (hx : Flt d x) (st : Store) : evE C gateG [some x, none] st = .ok (.bl (!isGm x)) st := by
  unfold gateG
  simp only [e_or, e_not, e_blt, es_cons, es_nil, e_var, R.bind_ok, List.getElem?_cons_zero, tup_isT x hx]
  cases x with
  | tup xs =>
    simp only [e_cmp, e_blt, es_cons, es_nil, e_var, e_con, R.bind_ok, List.getElem?_cons_zero, len_tup, neI, Bool.not_true]
    match xs, hx with
    | [], _ => rfl
    | [_], _ => rfl
    | [_, _], _ => rfl
    | [_, _, _], _ => rfl
    | [a, b, c, y], hx =>
      have hy : Flt d y := hx.part y (by simp)
      have hl : ((([a, b, c, y] : List D).length : Nat) : Int) = 4 := rfl
      rw [decide_eq_true hl]
      simp only [Bool.not_true, e_not, e_blt, es_cons, es_nil, e_idx, e_var, e_con, R.bind_ok, List.getElem?_cons_zero, idx_3, tup_isT y hy]
      cases y <;> rfl
    | a :: b :: c :: y :: z :: r, hx =>
      have hl : ¬ ((((a :: b :: c :: y :: z :: r) : List D).length : Nat) : Int) = 4 := by simp only [List.length_cons]; omega
      rw [decide_eq_false hl]
      cases y <;> rfl
  | ref i => exact absurd hx Flt.ref
  | scr ns => exact absurd hx Flt.scr
  | _ => rfl
theorem p_isgame (n : Nat) {d : Nat} {x : D} (hx : Flt d x) (st : Store) : G.call (n + 3) 2 [x] st = .ok (.bl (gameB x)) st := by
  rw [call_of (d := ir_is_game) rfl rfl]
  have eb : ir_is_game.body = .cons (.ite gateG (.cons (.ret (.con (.bl false))) .nil) .nil) (.cons (.ite (.or (.not (.call 0 (.cons (.idx (.var 0) (.con (.int (0)))) (.cons (.con (.int (1))) (.cons (.con (.int (4))) .nil))))) (.not (.call 0 (.cons (.idx (.var 0) (.con (.int (1)))) (.cons (.con (.int (2))) (.cons (.con (.int (6))) .nil)))))) (.cons (.ret (.con (.bl false))) .nil) .nil) (.cons (.ite (.or (.not (.call 0 (.cons (.idx (.var 0) (.con (.int (2)))) (.cons (.con (.int (1))) (.cons (.con (.int (3))) .nil))))) (.not (.chn .LtE .LtE (.con (.int (1))) (.blt .len (.cons (.idx (.var 0) (.con (.int (3)))) .nil)) (.con (.int (4)))))) (.cons (.ret (.con (.bl false))) .nil) .nil) (.cons (.ret (.blt .all (.cons (.lc false [1] (.one 1) (.seq (.idx (.var 0) (.con (.int (3))))) (.con (.bl true)) (.call 1 (.cons (.var 1) .nil))) .nil))) .nil))) := rfl
  rw [eb]
  show backR st (evSs (G.ctx (n + 2)) _ [some x, none] st) = _
  rw [ss_consE, s_iteE, gateG_ev hx]
  cases hb : isGm x with
  | false =>
    rw [gameB_no hb]
    simp only [Bool.not_false, R.bind_ok, ss_consE, s_retE, e_con]
    exact backR_rt st _
  | true =>
    obtain ⟨a, b, c, bs, rfl⟩ := isGm_yes hb
    have cc : ∀ f xs st, (G.ctx (n + 2)).call f xs st = G.call (n + 2) f xs st := fun _ _ _ => rfl
    have ha := fun lo hi st => p_whole (n + 1) (hx.part a (by simp)) lo hi st
    have hb' := fun lo hi st => p_whole (n + 1) (hx.part b (by simp)) lo hi st
    have hc := fun lo hi st => p_whole (n + 1) (hx.part c (by simp)) lo hi st
    have hbs : ∀ y ∈ bs, Flt d y := (hx.part (.tup bs) (by simp)).part
    have hlc : evE (G.ctx (n + 2)) (.lc false [1] (.one 1) (.seq (.idx (.var 0) (.con (.int (3))))) (.con (.bl true)) (.call 1 (.cons (.var 1) .nil))) [some (.tup [a, b, c, .tup bs]), none] st = .ok (.lst (bs.map fun y => D.bl (boxB y))) st := by
      have hI : evI (G.ctx (n + 2)) (.seq (.idx (.var 0) (.con (.int (3))))) [some (.tup [a, b, c, .tup bs]), none] st = .ok (bs.map id, .no) st := by
        simp only [i_seq, e_idx, e_var, e_con, R.bind_ok, List.getElem?_cons_zero, idx_3, seqIt, List.map_id]
      exact ev_lcm id (fun y => D.bl (boxB y)) hI fun y hy => ⟨[some (.tup [a, b, c, .tup bs]), some y], rfl, by
        simp only [e_call, es_cons, es_nil, e_var, R.bind_ok, List.getElem?_cons_zero, List.getElem?_cons_succ]
        exact p_isbox n (hbs y hy) st⟩
    have eg : gameB (.tup [a, b, c, .tup bs]) = (wholeB a 1 4 && wholeB b 2 6 && wholeB c 1 3 && decide (1 ≤ bs.length) && decide (bs.length ≤ 4) && bs.all boxB) := rfl
    have l1 : decide ((1 : Int) ≤ (bs.length : Int)) = decide (1 ≤ bs.length) := by rw [decide_eq_decide]; omega
    have l2 : decide ((bs.length : Int) ≤ 4) = decide (bs.length ≤ 4) := by rw [decide_eq_decide]; omega
    rw [eg]
    simp only [Bool.not_true, R.bind_ok, ss_nilE]
    rw [ss_consE, s_iteE]
    simp only [e_or, e_not, e_call, es_cons, es_nil, e_idx, e_var, e_con, R.bind_ok, List.getElem?_cons_zero, idx_0, idx_1, cc, ha, hb']
    cases wholeB a 1 4 with
    | false =>
      simp only [Bool.not_false, R.bind_ok, ss_consE, s_retE, e_con]
      exact backR_rt st _
    | true =>
      cases wholeB b 2 6 with
      | false =>
        simp only [Bool.not_false, Bool.not_true, R.bind_ok, ss_consE, s_retE, e_con]
        exact backR_rt st _
      | true =>
        simp only [Bool.not_true, R.bind_ok, ss_nilE]
        rw [ss_consE, s_iteE]
        simp only [e_or, e_not, e_call, e_chn, e_blt, es_cons, es_nil, e_idx, e_var, e_con, R.bind_ok, List.getElem?_cons_zero, idx_2, idx_3, cc, hc, len_tup, le_int, l1, l2]
        cases wholeB c 1 3 with
        | false =>
          simp only [Bool.not_false, R.bind_ok, ss_consE, s_retE, e_con]
          exact backR_rt st _
        | true =>
          cases decide (1 ≤ bs.length) with
          | false =>
            simp only [Bool.not_false, Bool.not_true, R.bind_ok, ss_consE, s_retE, e_con]
            exact backR_rt st _
          | true =>
            cases decide (bs.length ≤ 4) with
            | false =>
              simp only [Bool.not_false, Bool.not_true, R.bind_ok, ss_consE, s_retE, e_con]
              exact backR_rt st _
            | true =>
              simp only [Bool.not_true, R.bind_ok, ss_nilE]
              rw [ss_consE, s_retE, e_blt, es_cons, hlc]
              simp only [R.bind_ok, es_nil]
              rw [all_bl']
              simp only [R.bind_ok]
              exact backR_rt st _
theorem p_lisgame (n : Nat) {d : Nat} {x : D} (hx : Flt d x) (hd : d ≤ 19) (st : Store) : G.call (n + 3) 12 [x] st = .ok (.bl (gameB x)) st := by
  rw [call_of (d := ir__law_is_game) rfl rfl]
  have eb : ir__law_is_game.body = .cons (.ite gateG (.cons (.ret (.con (.bl false))) .nil) .nil) (.cons (.ite (.or (.not (.call 10 (.cons (.idx (.var 0) (.con (.int (0)))) (.cons (.con (.int (1))) (.cons (.con (.int (4))) .nil))))) (.or (.not (.call 10 (.cons (.idx (.var 0) (.con (.int (1)))) (.cons (.con (.int (2))) (.cons (.con (.int (6))) .nil))))) (.not (.call 10 (.cons (.idx (.var 0) (.con (.int (2)))) (.cons (.con (.int (1))) (.cons (.con (.int (3))) .nil))))))) (.cons (.ret (.con (.bl false))) .nil) .nil) (.cons (.ret (.and (.chn .LtE .LtE (.con (.int (1))) (.blt .len (.cons (.idx (.var 0) (.con (.int (3)))) .nil)) (.con (.int (4)))) (.cmp .Eq (.lc false [1] (.one 1) (.seq (.idx (.var 0) (.con (.int (3))))) (.not (.call 11 (.cons (.var 1) .nil))) (.var 1)) (.lst .nil)))) .nil)) := rfl
  rw [eb]
  show backR st (evSs (G.ctx (n + 2)) _ [some x, none] st) = _
  rw [ss_consE, s_iteE, gateG_ev hx]
  cases hb : isGm x with
  | false =>
    rw [gameB_no hb]
    simp only [Bool.not_false, R.bind_ok, ss_consE, s_retE, e_con]
    exact backR_rt st _
  | true =>
    obtain ⟨a, b, c, bs, rfl⟩ := isGm_yes hb
    have cc : ∀ f xs st, (G.ctx (n + 2)).call f xs st = G.call (n + 2) f xs st := fun _ _ _ => rfl
    have ha := fun lo hi st => p_from (n + 1) (hx.part a (by simp)) lo hi st
    have hb' := fun lo hi st => p_from (n + 1) (hx.part b (by simp)) lo hi st
    have hc := fun lo hi st => p_from (n + 1) (hx.part c (by simp)) lo hi st
    have hbs : ∀ y ∈ bs, Flt d y := (hx.part (.tup bs) (by simp)).part
    have hlc : evE (G.ctx (n + 2)) (.lc false [1] (.one 1) (.seq (.idx (.var 0) (.con (.int (3))))) (.not (.call 11 (.cons (.var 1) .nil))) (.var 1)) [some (.tup [a, b, c, .tup bs]), none] st = .ok (.lst (bs.filter fun y => !boxB y)) st := by
      have hI : evI (G.ctx (n + 2)) (.seq (.idx (.var 0) (.con (.int (3))))) [some (.tup [a, b, c, .tup bs]), none] st = .ok (bs.map id, .no) st := by
        simp only [i_seq, e_idx, e_var, e_con, R.bind_ok, List.getElem?_cons_zero, idx_3, seqIt, List.map_id]
      have z := ev_lc (C := G.ctx (n + 2)) (own := [1]) (t := .one 1) (cond := .not (.call 11 (.cons (.var 1) .nil))) (elt := .var 1) id (fun y => !boxB y) id hI fun y hy => ⟨[some (.tup [a, b, c, .tup bs]), some y], rfl, by
        have hy2 : G.call (n + 2) 11 [y] st = .ok (.bl (boxB y)) st := p_lisbox n (hbs y hy) (by omega) st
        simp only [e_not, e_call, es_cons, es_nil, e_var, R.bind_ok, List.getElem?_cons_zero, List.getElem?_cons_succ, cc, hy2], fun _ => by rw [e_var]; rfl⟩
      rw [z, List.map_id]
    have el : ∀ env st, evE (G.ctx (n + 2)) (.lst .nil) env st = .ok (.lst []) st := fun env st => by
      rw [e_lst, es_nil, R.bind_ok, decide_eq_true (by decide), R.test_true]
    have hcq : cmpD .Eq (.lst (bs.filter fun y => !boxB y)) (.lst []) st = .ok (.bl (bs.all boxB)) st := by
      have hf : D.flat 20 (.lst (bs.filter fun y => !boxB y)) = true := by
        rw [D.flat, flats_iff]
        exact fun y hy => hbs y (List.mem_filter.mp hy).1 19 hd
      have e1 : D.eqv (.lst (bs.filter fun y => !boxB y)) (.lst []) = bs.all boxB := by
        rw [D.eqv, Bool.eq_iff_iff, List.all_eq_true]
        constructor
        · intro h y hy
          cases hq : boxB y with
          | true => rfl
          | false =>
            have hm : y ∈ bs.filter fun y => !boxB y := List.mem_filter.mpr ⟨hy, by simp [hq]⟩
            cases hz : bs.filter fun y => !boxB y with
            | nil => rw [hz] at hm; cases hm
            | cons u v => rw [hz] at h; simp [D.eqvs] at h
        · intro h
          have hz : (bs.filter fun y => !boxB y) = [] := List.filter_eq_nil_iff.mpr fun y hy => by simp [h y hy]
          rw [hz]
          simp [D.eqvs]
      have h0 : D.flat 20 (.lst []) = true := by simp [D.flat, D.flats]
      simp only [cmpD, hf, h0, e1, Bool.and_self, R.test_true]
    have eg : gameB (.tup [a, b, c, .tup bs]) = (wholeB a 1 4 && wholeB b 2 6 && wholeB c 1 3 && decide (1 ≤ bs.length) && decide (bs.length ≤ 4) && bs.all boxB) := rfl
    have l1 : decide ((1 : Int) ≤ (bs.length : Int)) = decide (1 ≤ bs.length) := by rw [decide_eq_decide]; omega
    have l2 : decide ((bs.length : Int) ≤ 4) = decide (bs.length ≤ 4) := by rw [decide_eq_decide]; omega
    rw [eg]
    simp only [Bool.not_true, R.bind_ok, ss_nilE]
    rw [ss_consE, s_iteE]
    simp only [e_or, e_not, e_call, es_cons, es_nil, e_idx, e_var, e_con, R.bind_ok, List.getElem?_cons_zero, idx_0, idx_1, idx_2, cc, ha, hb', hc]
    cases wholeB a 1 4 with
    | false =>
      simp only [Bool.not_false, R.bind_ok, ss_consE, s_retE, e_con]
      exact backR_rt st _
    | true =>
      cases wholeB b 2 6 with
      | false =>
        simp only [Bool.not_false, Bool.not_true, R.bind_ok, ss_consE, s_retE, e_con]
        exact backR_rt st _
      | true =>
        cases wholeB c 1 3 with
        | false =>
          simp only [Bool.not_false, Bool.not_true, R.bind_ok, ss_consE, s_retE, e_con]
          exact backR_rt st _
        | true =>
          simp only [Bool.not_true, R.bind_ok, ss_nilE]
          rw [ss_consE, s_retE]
          simp only [e_and, e_chn, e_blt, es_cons, es_nil, e_idx, e_var, e_con, R.bind_ok, List.getElem?_cons_zero, idx_3, len_tup, le_int, l1, l2]
          cases decide (1 ≤ bs.length) with
          | false =>
            simp only [R.bind_ok]
            exact backR_rt st _
          | true =>
            cases decide (bs.length ≤ 4) with
            | false =>
              simp only [R.bind_ok]
              exact backR_rt st _
            | true =>
              simp only [R.bind_ok]
              rw [e_cmp, hlc]
              simp only [R.bind_ok, el, hcq]
              exact backR_rt st _
end EV
/-! Pu17: things spoilt. -/
namespace EV
open PySem

theorem fl_leaf {d : Nat} {x : D} (h : x.isLeaf = true) : Flt d x := by
  cases x with
  | int i => exact fl_int d i
  | str s => exact fl_str d s
  | _ => cases h
theorem tupLeaf {xs : List D} (h : xs.all D.isLeaf = true) : Flt 1 (.tup xs) := fl_tup.mpr fun x hx => fl_leaf (List.all_eq_true.mp h x hx)
theorem lstLeaf {xs : List D} (h : xs.all D.isLeaf = true) : Flt 1 (.lst xs) := fl_lst.mpr fun x hx => fl_leaf (List.all_eq_true.mp h x hx)
/-! ### odd things -/
def oddA : List D := [.int (-1), .int 0, .int 1, .int 2, .int 3, .int 4, .int 5, .int 6, .int 7, .int 24, .int 25, .int 50, .int 51, .bl true, .bl false, .non, sD "", sD "all", sD "face", sD "run", .tup [], .lst [], .tup [sD "all"]]
def oddB : List D := [.tup [sD "all", .int 1], .tup [sD "face", .int 7], .tup [sD "run", .int 1, .int 5], .tup [sD "alike", .int 5, .int 1], .tup [sD "under", .int 25], .tup [sD "even", .int 0], sD "2"]
def oddC : List D := [.lst [sD "all"]]
theorem odd_fl : ∀ y ∈ oddA ++ oddB ++ oddC, Flt 1 y := by
  intro y hy
  simp only [oddA, oddB, oddC, List.cons_append, List.nil_append, List.mem_cons, List.not_mem_nil, or_false] at hy
  rcases hy with h | h | h | h | h | h | h | h | h | h | h | h | h | h | h | h | h | h | h | h | h | h | h | h | h | h | h | h | h | h | h <;> rw [h] <;>
    first | exact fl_int _ _ | exact fl_str _ _ | exact fl_bl _ _ | exact fl_non _ | exact tupLeaf rfl | exact lstLeaf rfl
def hdT : S → E
  | .set _ e => e
  | .ret e => e
  | _ => .con .non
theorem p_odd (n : Nat) (x : Int) (st : Store) : ∃ y, G.call (n + 1) 13 [.int x] st = .ok y st ∧ Flt 1 y := by
  obtain ⟨k, hk⟩ : ∃ k : Nat, x % 31 = k := ⟨(x % 31).toNat, by omega⟩
  have hk2 : k < (oddA ++ oddB ++ oddC).length := by
    have e : (oddA ++ oddB ++ oddC).length = 31 := rfl
    omega
  refine ⟨(oddA ++ oddB ++ oddC)[k], ?_, odd_fl _ (List.getElem_mem hk2)⟩
  rw [call_of (d := ir__law_odd) rfl rfl]
  show backR st (evSs (G.ctx n) ir__law_odd.body [some (.int x), none] st) = _
  have a1 : ∀ env, evE (G.ctx n) (.lst (.cons (.neg (.con (.int (1)))) (.cons (.con (.int (0))) (.cons (.con (.int (1))) (.cons (.con (.int (2))) (.cons (.con (.int (3))) (.cons (.con (.int (4))) (.cons (.con (.int (5))) (.cons (.con (.int (6))) (.cons (.con (.int (7))) (.cons (.con (.int (24))) (.cons (.con (.int (25))) (.cons (.con (.int (50))) (.cons (.con (.int (51))) (.cons (.con (.bl true)) (.cons (.con (.bl false)) (.cons (.con .non) (.cons (.con (.str (Str.ofString ""))) (.cons (.con (.str (Str.ofString "all"))) (.cons (.con (.str (Str.ofString "face"))) (.cons (.con (.str (Str.ofString "run"))) (.cons (.tup .nil) (.cons (.lst .nil) (.cons (.tup (.cons (.con (.str (Str.ofString "all"))) .nil)) .nil)))))))))))))))))))))))) env st = .ok (.lst oddA) st := fun env => by kernel_rfl
  have a2 : ∀ env, evE (G.ctx n) (.lst (.cons (.tup (.cons (.con (.str (Str.ofString "all"))) (.cons (.con (.int (1))) .nil))) (.cons (.tup (.cons (.con (.str (Str.ofString "face"))) (.cons (.con (.int (7))) .nil))) (.cons (.tup (.cons (.con (.str (Str.ofString "run"))) (.cons (.con (.int (1))) (.cons (.con (.int (5))) .nil)))) (.cons (.tup (.cons (.con (.str (Str.ofString "alike"))) (.cons (.con (.int (5))) (.cons (.con (.int (1))) .nil)))) (.cons (.tup (.cons (.con (.str (Str.ofString "under"))) (.cons (.con (.int (25))) .nil))) (.cons (.tup (.cons (.con (.str (Str.ofString "even"))) (.cons (.con (.int (0))) .nil))) (.cons (.con (.str (Str.ofString "2"))) .nil)))))))) env st = .ok (.lst oddB) st := fun env => by kernel_rfl
  have a3 : ∀ env, evE (G.ctx n) (.lst (.cons (.lst (.cons (.con (.str (Str.ofString "all"))) .nil)) .nil)) env st = .ok (.lst oddC) st := fun env => by kernel_rfl
  simp only [ir__law_odd]
  rw [ss_consE, s_setE, a1]
  simp only [R.bind_ok, asg, R.of_some, List.set_cons_succ, List.set_cons_zero]
  rw [ss_consE, s_setE, e_bin, e_var]
  simp only [R.bind_ok, List.getElem?_cons_zero, List.getElem?_cons_succ, a2, addL]
  rw [decide_eq_true (by decide), R.test_true]
  simp only [R.bind_ok, asg, R.of_some, List.set_cons_succ, List.set_cons_zero]
  rw [ss_consE, s_retE, e_idx, e_bin, e_var]
  simp only [R.bind_ok, List.getElem?_cons_zero, List.getElem?_cons_succ, a3, addL]
  rw [decide_eq_true (by decide), R.test_true]
  simp only [R.bind_ok, e_bin, e_var, e_con, List.getElem?_cons_zero]
  rw [mod1 _ _ (by decide), hk]
  simp only [R.bind_ok, idxD]
  rw [getAt_nat _ _ hk2]
  simp only [R.of_some, R.bind_ok]
  exact backR_rt st _
/-! ### shapes -/
inductive Sh : Nat → D → Prop where
  | int {d : Nat} {i : Int} (h : i.natAbs < 1000) : Sh d (.int i)
  | str {d : Nat} {s : Str} : Sh d (.str s)
  | tup {d : Nat} {xs : List D} (h : ∀ y ∈ xs, Sh d y) (hl : xs.length ≤ 100) : Sh (d + 1) (.tup xs)
theorem sh_fl {d : Nat} {x : D} (h : Sh d x) : Flt d x := by
  induction h with
  | int h => exact fl_int _ _
  | str => exact fl_str _ _
  | tup h hl ih => exact fl_tup.mpr ih
theorem cut_mem {xs : List D} {l h : Option Int} {y : D} (hy : y ∈ cut xs l h) : y ∈ xs := List.mem_of_mem_drop (List.mem_of_mem_take hy)
def isTp (x : D) : Bool := match x with
  | .tup _ => true
  | _ => false
theorem isTp_ev {d : Nat} {x : D} (hx : Sh d x) (st : Store) : bltD (.isT .tup) [x] st = .ok (.bl (isTp x)) st := by
  cases hx <;> simp [bltD, D.kd, Kd.sub, isTp]
def tupNe (x : D) : Bool := match x with
  | .tup (_ :: _) => true
  | _ => false
def isI (x : D) : Bool := match x with
  | .int _ => true
  | _ => false
theorem and2 {C : Ctx} {a b : E} {env : Env} {st : Store} {p q : Bool} (h1 : evE C a env st = .ok (.bl p) st) (h2 : p = true → evE C b env st = .ok (.bl q) st) : evE C (.and a b) env st = .ok (.bl (p && q)) st := by
  rw [e_and, h1, R.bind_ok]
  cases p with
  | false => rfl
  | true => rw [h2 rfl]; rfl
section
variable {C : Ctx} {x : D} {num dp : Int} {a3 a4 : Option D} {st : Store}
theorem tn_ev {d : Nat} (hx : Sh d x) {b : E} {q : Bool} (hb : evE C b [some x, some (.int num), some (.int dp), a3, a4] st = .ok (.bl q) st) :
    evE C (.and (.blt (.isT .tup) (.cons (.var 0) .nil)) (.and (.cmp .Gt (.blt .len (.cons (.var 0) .nil)) (.con (.int (0)))) b)) [some x, some (.int num), some (.int dp), a3, a4] st = .ok (.bl (tupNe x && q)) st := by
  have h1 : evE C (.blt (.isT .tup) (.cons (.var 0) .nil)) [some x, some (.int num), some (.int dp), a3, a4] st = .ok (.bl (isTp x)) st := by
    simp only [e_blt, es_cons, es_nil, e_var, R.bind_ok, List.getElem?_cons_zero, isTp_ev hx]
  cases hx with
  | int h => exact and2 h1 fun z => by cases z
  | str => exact and2 h1 fun z => by cases z
  | tup h hl =>
    rename_i xs
    rw [and2 h1 fun _ => and2 (p := decide (0 < (xs.length : Int))) (q := q) (by simp only [e_cmp, e_blt, es_cons, es_nil, e_var, e_con, R.bind_ok, List.getElem?_cons_zero, len_tup, gt_int]) fun _ => hb]
    cases xs with
    | nil => rfl
    | cons y ys =>
      rw [decide_eq_true (show (0 : Int) < (((y :: ys).length : Nat) : Int) by simp only [List.length_cons]; omega)]
      rfl
theorem half_ev : evE C (.cmp .Eq (.bin .Mod (.bin .FloorDiv (.var 1) (.con (.int (6)))) (.con (.int (2)))) (.con (.int (0)))) [some x, some (.int num), some (.int dp), a3, a4] st = .ok (.bl (decide (num / 6 % 2 = 0))) st := by
  simp only [e_cmp, e_bin, e_var, e_con, R.bind_ok, List.getElem?_cons_zero, List.getElem?_cons_succ]
  rw [div1 _ _ (by decide) (by decide), R.bind_ok, mod1 _ _ (by decide), R.bind_ok, eqI]
theorem idx6 {es : Es} {ys : List D} (he : evEs C es [some x, some (.int num), some (.int dp), a3, a4] st = .ok ys st) (hl : ys.length = 6) {d : Nat} (hf : ∀ y ∈ ys, Flt d y) :
    ∃ y, evSs C (.cons (.ret (.idx (.lst es) (.bin .Mod (.bin .FloorDiv (.var 1) (.con (.int (12)))) (.con (.int (6)))))) .nil) [some x, some (.int num), some (.int dp), a3, a4] st = .ok (.rt y) st ∧ Flt d y := by
  obtain ⟨k, hk⟩ : ∃ k : Nat, num / 12 % 6 = k := ⟨(num / 12 % 6).toNat, by omega⟩
  have hk2 : k < ys.length := by omega
  refine ⟨ys[k], ?_, hf _ (List.getElem_mem hk2)⟩
  rw [ss_consE, s_retE, e_idx, e_lst, he, R.bind_ok, decide_eq_true (by omega), R.test_true, R.bind_ok]
  simp only [e_bin, e_var, e_con, R.bind_ok, List.getElem?_cons_zero, List.getElem?_cons_succ]
  rw [div1 _ _ (by decide) (by decide), R.bind_ok, mod1 _ _ (by decide), hk]
  simp only [R.bind_ok, idxD]
  rw [getAt_nat _ _ hk2]
  rfl
end
def c1 : E := .and (.cmp .Gt (.var 2) (.con (.int (0)))) (.and (.blt (.isT .tup) (.cons (.var 0) .nil)) (.and (.cmp .Gt (.blt .len (.cons (.var 0) .nil)) (.con (.int (0)))) (.cmp .Gt (.bin .Mod (.var 1) (.con (.int (6)))) (.con (.int (0))))))
def b1 : Ss := .cons (.set (.one 3) (.bin .Mod (.bin .FloorDiv (.var 1) (.con (.int (6)))) (.blt .len (.cons (.var 0) .nil)))) (.cons (.set (.one 4) (.call 14 (.cons (.idx (.var 0) (.var 3)) (.cons (.bin .FloorDiv (.call 5 (.cons (.var 1) (.cons (.var 2) .nil))) (.con (.int (4)))) (.cons (.bin .Sub (.var 2) (.con (.int (1)))) .nil))))) (.cons (.ret (.bin .Add (.bin .Add (.sli (.var 0) .no (.is (.var 3))) (.tup (.cons (.var 4) .nil))) (.sli (.var 0) (.is (.bin .Add (.var 3) (.con (.int (1))))) .no))) .nil))
def e2L : Es := .cons (.blt .list (.cons (.var 0) .nil)) (.cons (.sli (.var 0) .no (.is (.neg (.con (.int (1)))))) (.cons (.bin .Add (.var 0) (.sli (.var 0) (.is (.neg (.con (.int (1))))) .no)) (.cons (.sli (.var 0) (.is (.con (.int (1)))) .no) (.cons (.rev (.var 0)) (.cons (.bin .Mult (.var 0) (.con (.int (3)))) .nil)))))
def e3L : Es := .cons (.blt .str (.cons (.var 0) .nil)) (.cons (.neg (.var 0)) (.cons (.bin .Add (.var 0) (.con (.int (1)))) (.cons (.cmp .Eq (.var 0) (.con (.int (1)))) (.cons (.bin .Sub (.var 0) (.con (.int (1)))) (.cons (.bin .Add (.var 0) (.con (.int (5)))) .nil)))))
def c2 : E := .and (.blt (.isT .tup) (.cons (.var 0) .nil)) (.and (.cmp .Gt (.blt .len (.cons (.var 0) .nil)) (.con (.int (0)))) (.cmp .Eq (.bin .Mod (.bin .FloorDiv (.var 1) (.con (.int (6)))) (.con (.int (2)))) (.con (.int (0)))))
def c3 : E := .and (.blt (.isT .int) (.cons (.var 0) .nil)) (.cmp .Eq (.bin .Mod (.bin .FloorDiv (.var 1) (.con (.int (6)))) (.con (.int (2)))) (.con (.int (0))))
def retI (es : Es) : Ss := .cons (.ret (.idx (.lst es) (.bin .Mod (.bin .FloorDiv (.var 1) (.con (.int (12)))) (.con (.int (6)))))) .nil
theorem spo_body : ir__law_spoilt.body = .cons (.ite c1 b1 .nil) (.cons (.ite c2 (retI e2L) .nil) (.cons (.ite c3 (retI e3L) .nil) (.cons (.ret (.call 13 (.cons (.bin .FloorDiv (.var 1) (.con (.int (6)))) .nil))) .nil))) := rfl
theorem e2_ev {C : Ctx} {xs : List D} {num dp : Int} {a3 a4 : Option D} {st : Store} (hl : xs.length ≤ 100) : evEs C e2L [some (.tup xs), some (.int num), some (.int dp), a3, a4] st =
    .ok [.lst xs, .tup (cut xs none (some (-1))), .tup (xs ++ cut xs (some (-1)) none), .tup (cut xs (some 1) none), .tup xs.reverse, .tup (List.replicate 3 xs).flatten] st := by
  unfold e2L
  have hc : (cut xs (some (-1)) none).length ≤ 100 := Nat.le_trans (cut_len _ _ _) hl
  have h1 : binD .Add (.tup xs) (.tup (cut xs (some (-1)) none)) st = .ok (.tup (xs ++ cut xs (some (-1)) none)) st := by
    rw [addT, decide_eq_true (by unfold lim; omega), R.test_true]
  have h2 : binD .Mult (.tup xs) (.int 3) st = .ok (.tup (List.replicate 3 xs).flatten) st := by
    simp only [binD]
    rw [decide_eq_true (by omega)]
    rfl
  simp only [es_cons, es_nil, e_blt, e_sli, e_bin, e_rev, p_no, p_is, e_neg, e_var, e_con, R.bind_ok, List.getElem?_cons_zero, bltD, sliD, h1, h2]
theorem e3_ev {C : Ctx} {i : Int} {num dp : Int} {a3 a4 : Option D} {st : Store} (hi : i.natAbs < 1000) : evEs C e3L [some (.int i), some (.int num), some (.int dp), a3, a4] st =
    .ok [.str (toString i : String), .int (-i), .int (i + 1), .bl (decide (i = 1)), .int (i - 1), .int (i + 5)] st := by
  unfold e3L
  have h1 : bltD .str [.int i] st = .ok (.str (toString i : String)) st := by
    simp only [bltD]
    rw [decide_eq_true, R.test_true]
    by_cases h : i.natAbs = 0
    · rw [h]; decide
    · have : i.natAbs.log2 < 10 := (Nat.log2_lt h).mpr (by omega)
      omega
  simp only [es_cons, es_nil, e_blt, e_bin, e_cmp, e_neg, e_var, e_con, R.bind_ok, List.getElem?_cons_zero, h1, add1, sub1, eqI]
def spoT : Ss := .cons (.ite c2 (retI e2L) .nil) (.cons (.ite c3 (retI e3L) .nil) (.cons (.ret (.call 13 (.cons (.bin .FloorDiv (.var 1) (.con (.int (6)))) .nil))) .nil))
theorem tail_ev {n d : Nat} {x : D} (hx : Sh d x) (num dp : Int) (st : Store) : ∃ y, evSs (G.ctx (n + 1)) spoT [some x, some (.int num), some (.int dp), none, none] st = .ok (.rt y) st ∧ Flt (d + 4) y := by
  obtain ⟨yo, ho, hfo⟩ := p_odd n (num / 6) st
  have last : ∃ y, evSs (G.ctx (n + 1)) (.cons (.ret (.call 13 (.cons (.bin .FloorDiv (.var 1) (.con (.int (6)))) .nil))) .nil) [some x, some (.int num), some (.int dp), none, none] st = .ok (.rt y) st ∧ Flt (d + 4) y := by
    refine ⟨yo, ?_, hfo.mono (by omega)⟩
    have cc : ∀ f xs st, (G.ctx (n + 1)).call f xs st = G.call (n + 1) f xs st := fun _ _ _ => rfl
    rw [ss_consE, s_retE]
    simp only [e_call, es_cons, es_nil, e_bin, e_var, e_con, R.bind_ok, List.getElem?_cons_zero, List.getElem?_cons_succ]
    rw [div1 _ _ (by decide) (by decide)]
    simp only [R.bind_ok, cc, ho]
  have h2 : evE (G.ctx (n + 1)) c2 [some x, some (.int num), some (.int dp), none, none] st = .ok (.bl (tupNe x && decide (num / 6 % 2 = 0))) st := tn_ev hx half_ev
  have h3 : evE (G.ctx (n + 1)) c3 [some x, some (.int num), some (.int dp), none, none] st = .ok (.bl (isI x && decide (num / 6 % 2 = 0))) st :=
    and2 (by
      simp only [e_blt, es_cons, es_nil, e_var, R.bind_ok, List.getElem?_cons_zero]
      cases hx <;> simp [bltD, D.kd, Kd.sub, isI]) fun _ => half_ev
  have t3 : ∃ y, evSs (G.ctx (n + 1)) (.cons (.ite c3 (retI e3L) .nil) (.cons (.ret (.call 13 (.cons (.bin .FloorDiv (.var 1) (.con (.int (6)))) .nil))) .nil)) [some x, some (.int num), some (.int dp), none, none] st = .ok (.rt y) st ∧ Flt (d + 4) y := by
    rw [ss_consE, s_iteE, h3]
    cases hq : isI x && decide (num / 6 % 2 = 0) with
    | false =>
      simp only [R.bind_ok, ss_nilE]
      exact last
    | true =>
      rw [Bool.and_eq_true] at hq
      cases hx with
      | int hi =>
        obtain ⟨y, hy, hf⟩ := idx6 (C := G.ctx (n + 1)) (num := num) (dp := dp) (a3 := none) (a4 := none) (st := st) (e3_ev hi) rfl (d := d + 4) fun y hy => by
          simp only [List.mem_cons, List.not_mem_nil, or_false] at hy
          rcases hy with h | h | h | h | h | h <;> rw [h] <;> first | exact fl_int _ _ | exact fl_str _ _ | exact fl_bl _ _
        refine ⟨y, ?_, hf⟩
        simp only [R.bind_ok]
        unfold retI
        rw [hy]
        rfl
      | str => cases hq.1
      | tup h hl => cases hq.1
  unfold spoT
  rw [ss_consE, s_iteE, h2]
  cases hq : tupNe x && decide (num / 6 % 2 = 0) with
  | false =>
    simp only [R.bind_ok, ss_nilE]
    exact t3
  | true =>
    rw [Bool.and_eq_true] at hq
    cases hx with
    | int hi => cases hq.1
    | str => cases hq.1
    | tup h hl =>
      rename_i d xs
      have hp : ∀ y ∈ xs, Flt d y := fun y hy => sh_fl (h y hy)
      obtain ⟨y, hy, hf⟩ := idx6 (C := G.ctx (n + 1)) (num := num) (dp := dp) (a3 := none) (a4 := none) (st := st) (e2_ev hl) rfl (d := d + 1) fun y hy => by
        simp only [List.mem_cons, List.not_mem_nil, or_false] at hy
        rcases hy with h | h | h | h | h | h <;> rw [h]
        · exact fl_lst.mpr hp
        · exact fl_tup.mpr fun z hz => hp z (cut_mem hz)
        · exact fl_tup.mpr fun z hz => (List.mem_append.mp hz).elim (hp z) fun q => hp z (cut_mem q)
        · exact fl_tup.mpr fun z hz => hp z (cut_mem hz)
        · exact fl_tup.mpr fun z hz => hp z (List.mem_reverse.mp hz)
        · refine fl_tup.mpr fun z hz => ?_
          obtain ⟨l, hl2, hz⟩ := List.mem_flatten.mp hz
          rw [(List.mem_replicate.mp hl2).2] at hz
          exact hp z hz
      refine ⟨y, ?_, hf.mono (by omega)⟩
      simp only [R.bind_ok]
      unfold retI
      rw [hy]
      rfl
theorem p_spoilt : ∀ (deep d n : Nat) (x : D) (num : Int) (st : Store), Sh d x → ∃ y, G.call (n + deep + 2) 14 [x, .int num, .int deep] st = .ok y st ∧ Flt (d + 4) y := by
  intro deep
  induction deep with
  | zero =>
    intro d n x num st hx
    obtain ⟨y, hy, hf⟩ := tail_ev (n := n) hx num 0 st
    refine ⟨y, ?_, hf⟩
    show G.call (n + 1 + 1) 14 [x, .int num, .int 0] st = _
    rw [call_of (d := ir__law_spoilt) rfl rfl, spo_body]
    show backR st (evSs (G.ctx (n + 1)) (.cons (.ite c1 b1 .nil) spoT) [some x, some (.int num), some (.int 0), none, none] st) = _
    have h1 : evE (G.ctx (n + 1)) c1 [some x, some (.int num), some (.int 0), none, none] st = .ok (.bl false) st := by
      unfold c1
      rw [e_and]
      simp only [e_cmp, e_var, e_con, R.bind_ok, List.getElem?_cons_zero, List.getElem?_cons_succ, gt_int]
      rfl
    rw [ss_consE, s_iteE, h1]
    simp only [R.bind_ok, ss_nilE]
    rw [hy]
    exact backR_rt st _
  | succ k ih =>
    intro d n x num st hx
    obtain ⟨y, hy, hf⟩ := tail_ev (n := n + k + 1) hx num ((k + 1 : Nat) : Int) st
    have e0 : n + (k + 1) + 2 = n + k + 1 + 1 + 1 := by omega
    rw [e0]
    have h1 : evE (G.ctx (n + k + 1 + 1)) c1 [some x, some (.int num), some (.int ((k + 1 : Nat) : Int)), none, none] st = .ok (.bl (tupNe x && decide (0 < num % 6))) st := by
      unfold c1
      have z := and2 (C := G.ctx (n + k + 1 + 1)) (a := .cmp .Gt (.var 2) (.con (.int (0)))) (env := [some x, some (.int num), some (.int ((k + 1 : Nat) : Int)), none, none]) (st := st) (p := true) (by
        simp only [e_cmp, e_var, e_con, R.bind_ok, List.getElem?_cons_zero, List.getElem?_cons_succ, gt_int]
        rw [decide_eq_true (by omega)]) fun _ => tn_ev (num := num) (dp := ((k + 1 : Nat) : Int)) (a3 := none) (a4 := none) hx (b := .cmp .Gt (.bin .Mod (.var 1) (.con (.int (6)))) (.con (.int (0)))) (q := decide (0 < num % 6)) (by
          simp only [e_cmp, e_bin, e_var, e_con, R.bind_ok, List.getElem?_cons_zero, List.getElem?_cons_succ]
          rw [mod1 _ _ (by decide), R.bind_ok, gt_int])
      rw [z]
      rfl
    rw [call_of (d := ir__law_spoilt) rfl rfl, spo_body]
    show ∃ y, backR st (evSs (G.ctx (n + k + 1 + 1)) (.cons (.ite c1 b1 .nil) spoT) [some x, some (.int num), some (.int ((k + 1 : Nat) : Int)), none, none] st) = .ok y st ∧ Flt (d + 4) y
    rw [ss_consE, s_iteE, h1]
    cases hq : tupNe x && decide (0 < num % 6) with
    | false =>
      refine ⟨y, ?_, hf⟩
      simp only [R.bind_ok, ss_nilE]
      rw [hy]
      exact backR_rt st _
    | true =>
      rw [Bool.and_eq_true] at hq
      cases hx with
      | int hi => cases hq.1
      | str => cases hq.1
      | tup h hl =>
        rename_i d xs
        have hne : 0 < xs.length := by
          cases xs with
          | nil => cases hq.1
          | cons => simp
        obtain ⟨j, hj⟩ : ∃ j : Nat, num / 6 % (xs.length : Int) = j := by
          have := Int.emod_nonneg (num / 6) (show (xs.length : Int) ≠ 0 by omega)
          exact ⟨(num / 6 % (xs.length : Int)).toNat, by omega⟩
        have hj2 : j < xs.length := by
          have := Int.emod_lt_of_pos (num / 6) (show (0 : Int) < xs.length by omega)
          omega
        obtain ⟨z, hz, hzf⟩ := ih d n xs[j] (drawn num (k + 1) / 4) st (h _ (List.getElem_mem hj2))
        have hdr := p_drawn (n + k + 1) num (k + 1) st
        have cc : ∀ f xs st, (G.ctx (n + k + 1 + 1)).call f xs st = G.call (n + k + 1 + 1) f xs st := fun _ _ _ => rfl
        have hz' : G.call (n + k + 1 + 1) 14 [xs[j], .int (drawn num (k + 1) / 4), .int k] st = .ok z st := hz
        have hp : ∀ y ∈ xs, Flt (d + 4) y := fun y hy => (sh_fl (h y hy)).mono (by omega)
        refine ⟨.tup (cut xs none (some (j : Int)) ++ [z] ++ cut xs (some ((j : Int) + 1)) none), ?_, ?_⟩
        · simp only [R.bind_ok]
          have hb : evSs (G.ctx (n + k + 1 + 1)) b1 [some (.tup xs), some (.int num), some (.int ((k + 1 : Nat) : Int)), none, none] st = .ok (.rt (.tup (cut xs none (some (j : Int)) ++ [z] ++ cut xs (some ((j : Int) + 1)) none))) st := by
            unfold b1
            rw [ss_consE, s_setE]
            simp only [e_bin, e_blt, es_cons, es_nil, e_var, e_con, R.bind_ok, List.getElem?_cons_zero, List.getElem?_cons_succ, len_tup]
            rw [div1 _ _ (by decide) (by decide), R.bind_ok, mod1 _ _ (by omega), hj]
            simp only [R.bind_ok, asg, R.of_some, List.set_cons_succ, List.set_cons_zero]
            rw [ss_consE, s_setE]
            have ei : idxD (.tup xs) (.int (j : Int)) st = .ok xs[j] st := by
              simp only [idxD]
              rw [getAt_nat _ _ hj2]
              rfl
            have e1 : (((k + 1 : Nat) : Int) - 1) = (k : Int) := by omega
            simp only [e_call, es_cons, es_nil, e_idx, e_bin, e_var, e_con, R.bind_ok, List.getElem?_cons_zero, List.getElem?_cons_succ, ei, cc, hdr, sub1, e1]
            rw [div1 _ _ (by decide) (by decide)]
            simp only [R.bind_ok, hz', asg, R.of_some, List.set_cons_succ, List.set_cons_zero]
            rw [ss_consE, s_retE]
            have el : evE (G.ctx (n + k + 1 + 1)) (.tup (.cons (.var 4) .nil)) [some (D.tup xs), some (D.int num), some (D.int ((k + 1 : Nat) : Int)), some (D.int (j : Int)), some z] st = .ok (.tup [z]) st := by
              simp only [e_tup, es_cons, es_nil, e_var, List.getElem?_cons_zero, List.getElem?_cons_succ, R.bind_ok, List.length_cons, List.length_nil]
              rw [decide_eq_true (by decide), R.test_true]
            have g1 : (cut xs none (some (j : Int))).length ≤ 100 := Nat.le_trans (cut_len _ _ _) hl
            have g2 : (cut xs (some ((j : Int) + 1)) none).length ≤ 100 := Nat.le_trans (cut_len _ _ _) hl
            simp only [e_bin, e_sli, p_no, p_is, e_var, e_con, el, R.bind_ok, List.getElem?_cons_zero, List.getElem?_cons_succ, sliD, add1, addT]
            rw [decide_eq_true (show (cut xs none (some (j : Int))).length + [z].length ≤ lim by simp only [List.length_cons, List.length_nil, lim]; omega), R.test_true, R.bind_ok, addT]
            rw [decide_eq_true (show (cut xs none (some (j : Int)) ++ [z]).length + (cut xs (some ((j : Int) + 1)) none).length ≤ lim by simp only [List.length_append, List.length_cons, List.length_nil, lim]; omega), R.test_true]
            rfl
          rw [hb]
          exact backR_rt st _
        · refine (fl_tup (d := d + 4)).mpr fun w hw => ?_
          rcases List.mem_append.mp hw with hw | hw
          · rcases List.mem_append.mp hw with hw | hw
            · exact hp w (cut_mem hw)
            · have : w = z := by simpa using hw
              rw [this]
              exact hzf
          · exact hp w (cut_mem hw)
end EV
namespace K01
open PySem PySem.Spec PyProof.Rows L2 EV
def top (i : Nat) : Stmt := PySem.Challenge.pw_diceboxes_k01_games.main.body.getD i (.Pass ⟨0, 0, 0, 0⟩)
def d0 : DefS := mkDef "is_whole" (top 8) ["thing", "low", "high"] ["thing", "low", "high"] [] []
def d1 : DefS := mkDef "is_box" (top 9) ["thing"] ["thing", "most"] [] []
def d2 : DefS := mkDef "is_game" (top 10) ["thing"] ["thing", "box"] [] []
def d3 : DefS := mkDef "_law_cell_at" (top 12) ["script", "k"] ["script", "k"] [] []
def d4 : DefS := mkDef "_law_mixed" (top 13) ["script", "k"] ["script", "k", "drawn"] [] []
def d5 : DefS := mkDef "_law_drawn" (top 14) ["number", "k"] ["number", "k", "drawn"] [] []
def d6 : DefS := mkDef "_law_box" (top 15) ["number"] ["number", "kind", "some"] [] []
def d7 : DefS := mkDef "_law_game" (top 16) ["number", "great"] ["number", "great", "many", "sides", "throws", "boxes", "k"] [] []
def d10 : DefS := mkDef "_law_from" (top 19) ["thing", "low", "high"] ["thing", "low", "high"] [] []
def d11 : DefS := mkDef "_law_is_box" (top 20) ["thing"] ["thing", "most"] [] []
def d12 : DefS := mkDef "_law_is_game" (top 21) ["thing"] ["thing", "box"] [] []
def d13 : DefS := mkDef "_law_odd" (top 22) ["number"] ["number", "some"] [] []
def d14 : DefS := mkDef "_law_spoilt" (top 23) ["thing", "number", "deep"] ["thing", "number", "deep", "at", "part"] [] []
def d15 : DefS := mkDef "law" (top 24) ["script"] ["script", "number", "thing", "found", "some"] [] []
def defs : Defs := [(0, d0), (1, d1), (2, d2), (3, d3), (4, d4), (5, d5), (6, d6), (7, d7), (10, d10), (11, d11), (12, d12), (13, d13), (14, d14), (15, d15)]
def free : List Str := ["all", "bool", "int", "isinstance", "len", "list", "min", "range", "str", "tuple"]
def nums : List (Str × Int) := [("MOST_SIDES", 6), ("LEAST_SIDES", 2), ("MOST_DICE", 4), ("MOST_THROWS", 3), ("MOST_BOXES", 4), ("MOST_POINTS", 50), ("MOST_UNDER", 24)]

theorem c0 : d0.comp (fnOfD defs) free nums 60 = some ir_is_whole := by kernel_rfl
theorem c1 : d1.comp (fnOfD defs) free nums 60 = some ir_is_box := by kernel_rfl
theorem c2 : d2.comp (fnOfD defs) free nums 60 = some ir_is_game := by kernel_rfl
theorem c3 : d3.comp (fnOfD defs) free nums 60 = some ir__law_cell_at := by kernel_rfl
theorem c4 : d4.comp (fnOfD defs) free nums 60 = some ir__law_mixed := by kernel_rfl
theorem c5 : d5.comp (fnOfD defs) free nums 60 = some ir__law_drawn := by kernel_rfl
theorem c6 : d6.comp (fnOfD defs) free nums 60 = some ir__law_box := by kernel_rfl
theorem c7 : d7.comp (fnOfD defs) free nums 60 = some ir__law_game := by kernel_rfl
theorem c10 : d10.comp (fnOfD defs) free nums 60 = some ir__law_from := by kernel_rfl
theorem c11 : d11.comp (fnOfD defs) free nums 60 = some ir__law_is_box := by kernel_rfl
theorem c12 : d12.comp (fnOfD defs) free nums 60 = some ir__law_is_game := by kernel_rfl
theorem c13 : d13.comp (fnOfD defs) free nums 60 = some ir__law_odd := by kernel_rfl
theorem c14 : d14.comp (fnOfD defs) free nums 60 = some ir__law_spoilt := by kernel_rfl
theorem c15 : d15.comp (fnOfD defs) free nums 60 = some ir_law_k01 := by kernel_rfl
theorem hG : ∀ p ∈ defs, ∀ fdef : FDef, G.fn p.1 = some fdef → p.2.comp (fnOfD defs) free nums 60 = some fdef := by
  intro p hp
  simp only [defs, List.mem_cons, List.mem_nil_iff, or_false] at hp
  rcases hp with rfl | rfl | rfl | rfl | rfl | rfl | rfl | rfl | rfl | rfl | rfl | rfl | rfl | rfl
  · intro fdef h; cases h; exact c0
  · intro fdef h; cases h; exact c1
  · intro fdef h; cases h; exact c2
  · intro fdef h; cases h; exact c3
  · intro fdef h; cases h; exact c4
  · intro fdef h; cases h; exact c5
  · intro fdef h; cases h; exact c6
  · intro fdef h; cases h; exact c7
  · intro fdef h; cases h; exact c10
  · intro fdef h; cases h; exact c11
  · intro fdef h; cases h; exact c12
  · intro fdef h; cases h; exact c13
  · intro fdef h; cases h; exact c14
  · intro fdef h; cases h; exact c15
theorem hs : ∀ p ∈ defs, p.2.scopeC = true := by
  intro p hp
  simp only [defs, List.mem_cons, List.mem_nil_iff, or_false] at hp
  rcases hp with rfl | rfl | rfl | rfl | rfl | rfl | rfl | rfl | rfl | rfl | rfl | rfl | rfl | rfl <;> decide +kernel
theorem hn : ∀ p ∈ defs, dlOf defs p.1 = some p.2 := by
  intro p hp
  simp only [defs, List.mem_cons, List.mem_nil_iff, or_false] at hp
  rcases hp with rfl | rfl | rfl | rfl | rfl | rfl | rfl | rfl | rfl | rfl | rfl | rfl | rfl | rfl <;> rfl
theorem b0 : d0.BindOk := fun _ _ _ _ _ _ us hl => match us, hl with | [_, _, _], _ => rfl
theorem b1 : d1.BindOk := fun _ _ _ _ _ _ us hl => match us, hl with | [_], _ => rfl
theorem b2 : d2.BindOk := fun _ _ _ _ _ _ us hl => match us, hl with | [_], _ => rfl
theorem b3 : d3.BindOk := fun _ _ _ _ _ _ us hl => match us, hl with | [_, _], _ => rfl
theorem b4 : d4.BindOk := fun _ _ _ _ _ _ us hl => match us, hl with | [_, _], _ => rfl
theorem b5 : d5.BindOk := fun _ _ _ _ _ _ us hl => match us, hl with | [_, _], _ => rfl
theorem b6 : d6.BindOk := fun _ _ _ _ _ _ us hl => match us, hl with | [_], _ => rfl
theorem b7 : d7.BindOk := fun _ _ _ _ _ _ us hl => match us, hl with | [_, _], _ => rfl
theorem b10 : d10.BindOk := fun _ _ _ _ _ _ us hl => match us, hl with | [_, _, _], _ => rfl
theorem b11 : d11.BindOk := fun _ _ _ _ _ _ us hl => match us, hl with | [_], _ => rfl
theorem b12 : d12.BindOk := fun _ _ _ _ _ _ us hl => match us, hl with | [_], _ => rfl
theorem b13 : d13.BindOk := fun _ _ _ _ _ _ us hl => match us, hl with | [_], _ => rfl
theorem b14 : d14.BindOk := fun _ _ _ _ _ _ us hl => match us, hl with | [_, _, _], _ => rfl
theorem b15 : d15.BindOk := fun _ _ _ _ _ _ us hl => match us, hl with | [_], _ => rfl
theorem hb : ∀ p ∈ defs, p.2.BindOk := by
  intro p hp
  simp only [defs, List.mem_cons, List.mem_nil_iff, or_false] at hp
  rcases hp with rfl | rfl | rfl | rfl | rfl | rfl | rfl | rfl | rfl | rfl | rfl | rfl | rfl | rfl
  · exact b0
  · exact b1
  · exact b2
  · exact b3
  · exact b4
  · exact b5
  · exact b6
  · exact b7
  · exact b10
  · exact b11
  · exact b12
  · exact b13
  · exact b14
  · exact b15
abbrev fa : List He.Fa := faOf defs free nums
abbrev fnD : List He.DefD := defs.map fun p => p.2.toD
abbrev Rw : PySem.W.OpenRow := PySem.W.OpenLaw.row PySem.Challenge.rw_diceboxes_k01_games
abbrev hk : PySem.W.Hook := He.hookD 4 fa fnD
def ob (s : PySem.W.SharedT) : He.AlD := He.obsDG 4 fa fnD (HandSHeadRun.getT s)
theorem ob_eq (s : PySem.W.SharedT) : ob s = hk.obs s.abs := He.obsDG_eq (HandSHeadRun.getT_eq s)
def loose : List Str := ["__name__", "MOST_SIDES", "LEAST_SIDES", "MOST_DICE", "MOST_THROWS", "MOST_BOXES", "MOST_POINTS", "MOST_UNDER", "is_whole", "is_box", "is_game", "_law_cell_at", "_law_mixed", "_law_drawn", "_law_box", "_law_game", "_law_dice", "_law_stand", "_law_from", "_law_is_box", "_law_is_game", "_law_odd", "_law_spoilt"]
theorem run (w : World) : HandSHeadRun.RunEq Rw (PySem.W.view Rw.prog [24]) hk ob 6000 loose w := by
  intro os
  kernel_rfl
end K01
open PySem PySem.W PySem.Calls PyProof.Rows in
theorem K01.holds (n : Nat) (hn : 2 * n ≤ 200) (hp : ∀ ns : List Int, ns.length ≤ 63 → ∃ st, EV.G.call n 15 [.scr ns] [] = .ok (.bl true) st) : PySem.Challenge.rw_diceboxes_k01_games.Holds := by
  w_on; o_law
  refine HandSHeadRun.head_any (r := OpenLaw.row PySem.Challenge.rw_diceboxes_k01_games) (q := view (OpenLaw.row PySem.Challenge.rw_diceboxes_k01_games).prog [24]) (H := K01.hk) (ob := K01.ob) (M := 6000) (loose := K01.loose) (d := HandSHeadRun.topDef (OpenLaw.row PySem.Challenge.rw_diceboxes_k01_games).prog 24) (kwd := []) K01.ob_eq
    (by kernel_rfl) (fun s => by kernel_rfl) K01.run (by kernel_rfl) (by kernel_rfl) (by kernel_rfl) (by rfl) (by first | assumption | decide +kernel) (by decide +kernel) ⟨rfl, rfl, rfl, rfl, rfl, by decide +kernel⟩ ?hw ?hc
  case hw => w_witness2
  case hc =>
    refine L2.walk_ofE (l := PySem.Challenge.rw_diceboxes_k01_games) (n := 63) (k := 2 * n) (x := "script") (CX := EV.cxAny (PySem.Challenge.rw_diceboxes_k01_games).prog) rfl (by decide) (by kernel_rfl) (L2.Room.mono ⟨rfl, by decide, by decide⟩ hn) ?F EV.cxAny_no
    intro w mg fa h Y Gn hmg0
    obtain ⟨K, KX, c⟩ := Y
    have hmg : mg ("law" : PySem.Str) = some (.ref fa) := by
      have e : (HandSHeadRun.topDef (OpenLaw.row PySem.Challenge.rw_diceboxes_k01_games).prog 24).name = ("law" : PySem.Str) := by kernel_rfl
      rw [← e]
      exact hmg0
    exact EV.law_of (cls := fun _ => none) (xa := fun _ => 0) (fuel := 60) (f := 15) (d := K01.d15) (fun X' hc hu => EV.lib_ok X' _ hc hu) KX Gn c K01.hb K01.hs K01.hn K01.hG rfl rfl hmg (by decide) hp
namespace EV
open PySem
theorem box_sh (b : Bx) (h : b.In) : Sh 1 b.d := by
  refine Sh.tup (fun y hy => ?_) ?_
  · cases b <;> simp only [Bx.parts, List.mem_cons, List.not_mem_nil, or_false] at hy <;> simp only [Bx.In] at h
    · rcases hy with e | e <;> rw [e]
      · exact .str
      · exact .int (by omega)
    · rw [hy]; exact .str
    · rcases hy with e | e | e <;> rw [e]
      · exact .str
      · exact .int (by omega)
      · exact .int (by omega)
    · rcases hy with e | e | e <;> rw [e]
      · exact .str
      · exact .int (by omega)
      · exact .int (by omega)
    · rcases hy with e | e <;> rw [e]
      · exact .str
      · exact .int (by omega)
    · rcases hy with e | e <;> rw [e]
      · exact .str
      · exact .int (by omega)
  · cases b <;> simp [Bx.parts]
theorem boxesOf_len (x : Int) : 1 ≤ (boxesOf x).length ∧ (boxesOf x).length ≤ 3 := by
  have := pick_le (x / 64)
  simp only [boxesOf, List.length_map, List.length_range]
  omega
theorem boxes_sh (x : Int) : Sh 2 (.tup ((boxesOf x).map Bx.d)) := by
  refine Sh.tup (fun y hy => ?_) ?_
  · obtain ⟨b, hb, rfl⟩ := List.mem_map.mp hy
    obtain ⟨k, _, rfl⟩ := List.mem_map.mp hb
    exact box_sh _ (boxOf_in _)
  · have := boxesOf_len x
    rw [List.length_map]
    omega
theorem game_sh (x : Int) : ∃ a b c : Int, (gameOf1 x).d = .tup [.int a, .int b, .int c, .tup ((boxesOf x).map Bx.d)] ∧ a.natAbs < 1000 ∧ b.natAbs < 1000 ∧ c.natAbs < 1000 := by
  refine ⟨1 + x / 256 % 4, 2 + x / 1024 % 5, pick4 1 2 3 2 (x / 16), rfl, by omega, by omega, ?_⟩
  have := pick_is 1 2 3 2 (x / 16)
  omega
section
variable {C : Ctx} {sc x : D} {N : Int} {a3 a4 : Option D} {st : Store}
theorem modE {k m c : Int} (hk : 0 < k) (hk2 : k < 2 ^ 63) (hm : 0 < m) : evE C (.cmp .Eq (.bin .Mod (.bin .FloorDiv (.var 1) (.con (.int k))) (.con (.int m))) (.con (.int c))) [some sc, some (.int N), some x, a3, a4] st = .ok (.bl (decide (N / k % m = c))) st := by
  simp only [e_cmp, e_bin, e_var, e_con, R.bind_ok, List.getElem?_cons_zero, List.getElem?_cons_succ]
  rw [div1 _ _ hk hk2, R.bind_ok, mod1 _ _ hm, R.bind_ok, eqI]
theorem modF {k m : Int} (hk : 0 < k) (hk2 : k < 2 ^ 63) (hm : 0 < m) : evE C (.bin .Mod (.bin .FloorDiv (.var 1) (.con (.int k))) (.con (.int m))) [some sc, some (.int N), some x, a3, a4] st = .ok (.int (N / k % m)) st := by
  simp only [e_bin, e_var, e_con, R.bind_ok, List.getElem?_cons_zero, List.getElem?_cons_succ]
  rw [div1 _ _ hk hk2, R.bind_ok, mod1 _ _ hm]
end
theorem pickL {C : Ctx} {env : Env} {st : Store} {a b : E} {ys : List D} {i : Int} (h1 : evE C a env st = .ok (.lst ys) st) (h2 : evE C b env st = .ok (.int (i % (ys.length : Int))) st) (hl : 0 < ys.length) {d : Nat} (hf : ∀ y ∈ ys, Flt d y) : ∃ y, evE C (.idx a b) env st = .ok y st ∧ Flt d y := by
  obtain ⟨k, hk⟩ : ∃ k : Nat, i % (ys.length : Int) = k := by
    have := Int.emod_nonneg i (show (ys.length : Int) ≠ 0 by omega)
    exact ⟨(i % (ys.length : Int)).toNat, by omega⟩
  have hk2 : k < ys.length := by
    have := Int.emod_lt_of_pos i (show (0 : Int) < ys.length by omega)
    omega
  refine ⟨ys[k], ?_, hf _ (List.getElem_mem hk2)⟩
  rw [e_idx, h1, R.bind_ok, h2, R.bind_ok, hk]
  simp only [idxD]
  rw [getAt_nat _ _ hk2]
  rfl
def k1A : Es := .cons (.bin .Add (.tup (.cons (.con (.int (5))) .nil)) (.sli (.var 2) (.is (.con (.int (1)))) .no)) (.cons (.bin .Add (.bin .Add (.sli (.var 2) .no (.is (.con (.int (1))))) (.tup (.cons (.con (.int (7))) .nil))) (.sli (.var 2) (.is (.con (.int (2)))) .no)) (.cons (.bin .Add (.bin .Add (.sli (.var 2) .no (.is (.con (.int (2))))) (.tup (.cons (.con (.int (0))) .nil))) (.sli (.var 2) (.is (.con (.int (3)))) .no)) (.cons (.bin .Add (.tup (.cons (.con (.int (0))) .nil)) (.sli (.var 2) (.is (.con (.int (1)))) .no)) .nil)))
def k1B1 : E := .bin .Add (.bin .Add (.sli (.var 2) .no (.is (.con (.int (2))))) (.tup (.cons (.con (.int (4))) .nil))) (.sli (.var 2) (.is (.con (.int (3)))) .no)
def k1B2 : E := .bin .Add (.bin .Add (.sli (.var 2) .no (.is (.con (.int (1))))) (.tup (.cons (.con (.int (1))) .nil))) (.sli (.var 2) (.is (.con (.int (2)))) .no)
def k1B3 : E := .bin .Add (.sli (.var 2) .no (.is (.con (.int (3))))) (.tup (.cons (.bin .Mult (.idx (.var 2) (.con (.int (3)))) (.con (.int (5)))) .nil))
section
variable {C : Ctx} {sc a b c B : D} {N : D} {a3 a4 : Option D} {st : Store}
theorem k1A_ev : evE C (.lst k1A) [some sc, some N, some (.tup [a, b, c, B]), a3, a4] st = .ok (.lst [.tup [.int 5, b, c, B], .tup [a, .int 7, c, B], .tup [a, b, .int 0, B], .tup [.int 0, b, c, B]]) st := by kernel_rfl
theorem k1B1_ev : evE C k1B1 [some sc, some N, some (.tup [a, b, c, B]), a3, a4] st = .ok (.tup [a, b, .int 4, B]) st := by kernel_rfl
theorem k1B2_ev : evE C k1B2 [some sc, some N, some (.tup [a, b, c, B]), a3, a4] st = .ok (.tup [a, .int 1, c, B]) st := by kernel_rfl
theorem k1B3_ev {bs : List D} (hl : bs.length ≤ 100) : evE C k1B3 [some sc, some N, some (.tup [a, b, c, .tup bs]), a3, a4] st = .ok (.tup [a, b, c, .tup (List.replicate 5 bs).flatten]) st := by
  unfold k1B3
  have h1 : sliD (.tup [a, b, c, .tup bs]) none (some 3) st = .ok (.tup [a, b, c]) st := rfl
  have h2 : binD .Mult (.tup bs) (.int 5) st = .ok (.tup (List.replicate 5 bs).flatten) st := by
    simp only [binD]
    rw [decide_eq_true (by omega)]
    rfl
  simp only [e_bin, e_sli, p_no, p_is, e_tup, es_cons, es_nil, e_idx, e_var, e_con, R.bind_ok, List.getElem?_cons_zero, List.getElem?_cons_succ, h1, idx_3, h2, List.length_cons, List.length_nil]
  rw [decide_eq_true (by decide), R.test_true, R.bind_ok, addT]
  rfl
end
/-- the law's variables, with a thing of common depth -/
def Env1 (ns : List Int) (N : Int) (env : Env) : Prop := ∃ x a3 a4, env = [some (.scr ns), some (.int N), some x, a3, a4] ∧ Flt 9 x
def st2 (k : Nat) (a b c : E) : S := .ite a (.cons (.set (.one 2) (.call k (.cons (.var 2) (.cons b (.cons c .nil))))) .nil) .nil
def body1 : Ss := .cons (.set (.one 2) (.call 7 (.cons (.call 4 (.cons (.var 0) (.cons (.con (.int (1))) .nil))) (.cons (.con (.int (1))) .nil)))) (.cons (.set (.one 4) (.lst k1A)) (.cons (.set (.one 4) (.bin .Add (.var 4) (.lst (.cons k1B1 (.cons k1B2 (.cons k1B3 .nil)))))) (.cons (.set (.one 2) (.idx (.var 4) (.bin .Mod (.bin .FloorDiv (.var 1) (.con (.int (256)))) (.con (.int (7)))))) .nil)))
theorem body1_ev (n : Nat) (ns : List Int) (N : Int) {env : Env} (h : Env1 ns N env) (st : Store) : ∃ env', evSs (G.ctx (n + 7)) body1 env st = .ok (.nx env') st ∧ Env1 ns N env' := by
  obtain ⟨x, a3, a4, rfl, hx⟩ := h
  have m1 : G.call (n + 7) 4 [.scr ns, .int 1] st = .ok (.int (mixed ns 1)) st := p_mixed (n + 5) ns 1 st
  have hgm : G.call (n + 7) 7 [.int (mixed ns 1), .int 1] st = .ok (gameOf1 (mixed ns 1)).d st := p_game1 (n + 5) _ st
  obtain ⟨a, b, c, hg, _⟩ := game_sh (mixed ns 1)
  have hbx := boxes_sh (mixed ns 1)
  have hbl : ((boxesOf (mixed ns 1)).map Bx.d).length ≤ 100 := by
    have := boxesOf_len (mixed ns 1)
    rw [List.length_map]
    omega
  rw [hg] at hgm
  generalize (boxesOf (mixed ns 1)).map Bx.d = bs at *
  have cc : ∀ f xs st, (G.ctx (n + 7)).call f xs st = G.call (n + 7) f xs st := fun _ _ _ => rfl
  have fB : Flt 8 (.tup bs) := (sh_fl hbx).mono (by omega)
  have fb : ∀ y ∈ bs, Flt 7 y := fun y hy => fl_tup.mp fB y hy
  unfold body1
  rw [ss_consE, s_setE, e_call]
  simp only [es_cons, es_nil, e_call, e_var, e_con, R.bind_ok, List.getElem?_cons_zero, List.getElem?_cons_succ, cc, m1, hgm, asg, R.of_some, List.set_cons_succ, List.set_cons_zero]
  rw [ss_consE, s_setE, k1A_ev]
  simp only [R.bind_ok, asg, R.of_some, List.set_cons_succ, List.set_cons_zero]
  rw [ss_consE, s_setE, e_bin, e_var]
  simp only [R.bind_ok, List.getElem?_cons_zero, List.getElem?_cons_succ, e_lst, es_cons, es_nil, k1B1_ev, k1B2_ev, k1B3_ev hbl, List.length_cons, List.length_nil]
  rw [decide_eq_true (by decide), R.test_true, R.bind_ok, addL, decide_eq_true (by simp only [List.length_cons, List.length_nil]; decide), R.test_true]
  simp only [R.bind_ok, asg, R.of_some, List.set_cons_succ, List.set_cons_zero, List.cons_append, List.nil_append]
  have four : ∀ p q r s : D, Flt 8 p → Flt 8 q → Flt 8 r → Flt 8 s → Flt 9 (.tup [p, q, r, s]) := fun p q r s h1 h2 h3 h4 => fl_tup.mpr fun y hy => by
    simp only [List.mem_cons, List.not_mem_nil, or_false] at hy
    rcases hy with e | e | e | e <;> rw [e] <;> assumption
  obtain ⟨y, hy, hf⟩ := pickL (C := G.ctx (n + 7)) (env := [some (.scr ns), some (.int N), some (.tup [.int a, .int b, .int c, .tup bs]), a3, some (.lst [.tup [.int 5, .int b, .int c, .tup bs], .tup [.int a, .int 7, .int c, .tup bs], .tup [.int a, .int b, .int 0, .tup bs], .tup [.int 0, .int b, .int c, .tup bs], .tup [.int a, .int b, .int 4, .tup bs], .tup [.int a, .int 1, .int c, .tup bs], .tup [.int a, .int b, .int c, .tup (List.replicate 5 bs).flatten]])]) (st := st) (a := .var 4) (b := .bin .Mod (.bin .FloorDiv (.var 1) (.con (.int (256)))) (.con (.int (7))))
    (by rw [e_var]; rfl) (i := N / 256) (modF (k := 256) (m := 7) (by decide) (by decide) (by decide)) (by simp) (d := 9) fun y hy => by
      simp only [List.mem_cons, List.not_mem_nil, or_false] at hy
      rcases hy with e | e | e | e | e | e | e <;> rw [e]
      iterate 6 exact four _ _ _ _ (fl_int _ _) (fl_int _ _) (fl_int _ _) fB
      refine four _ _ _ _ (fl_int _ _) (fl_int _ _) (fl_int _ _) (fl_tup.mpr fun z hz => ?_)
      obtain ⟨l, hl2, hz⟩ := List.mem_flatten.mp hz
      rw [(List.mem_replicate.mp hl2).2] at hz
      exact fb z hz
  rw [ss_consE, s_setE, hy]
  simp only [R.bind_ok, asg, R.of_some, List.set_cons_succ, List.set_cons_zero, ss_nilE]
  exact ⟨_, rfl, y, _, _, rfl, hf⟩
def L8 : E := .lst (.cons (.tup (.cons (.con (.str (Str.ofString "face"))) (.cons (.con (.int (7))) .nil))) (.cons (.tup (.cons (.con (.str (Str.ofString "face"))) (.cons (.con (.int (6))) .nil))) (.cons (.tup (.cons (.con (.str (Str.ofString "even"))) (.cons (.con (.int (51))) .nil))) (.cons (.tup (.cons (.con (.str (Str.ofString "even"))) (.cons (.con (.int (50))) .nil))) (.cons (.tup (.cons (.con (.str (Str.ofString "run"))) (.cons (.con (.int (5))) (.cons (.con (.int (3))) .nil)))) (.cons (.tup (.cons (.con (.str (Str.ofString "alike"))) (.cons (.con (.int (2))) (.cons (.con (.int (51))) .nil)))) (.cons (.tup (.cons (.con (.str (Str.ofString "run"))) (.cons (.con (.int (4))) (.cons (.con (.int (50))) .nil)))) .nil)))))))
def L9 : E := .lst (.cons (.tup (.cons (.con (.str (Str.ofString "under"))) (.cons (.con (.int (24))) .nil))) (.cons (.tup (.cons (.con (.str (Str.ofString "under"))) (.cons (.con (.int (25))) .nil))) (.cons (.tup (.cons (.con (.str (Str.ofString "alike"))) (.cons (.con (.int (1))) (.cons (.con (.int (5))) .nil)))) .nil)))
def body8 : Ss := .cons (.set (.one 4) L8) (.cons (.set (.one 2) (.idx (.bin .Add (.var 4) L9) (.bin .Mod (.bin .FloorDiv (.var 1) (.con (.int (8192)))) (.con (.int (10)))))) .nil)
def V8 : List D := [.tup [sD "face", .int 7], .tup [sD "face", .int 6], .tup [sD "even", .int 51], .tup [sD "even", .int 50], .tup [sD "run", .int 5, .int 3], .tup [sD "alike", .int 2, .int 51], .tup [sD "run", .int 4, .int 50]]
def V9 : List D := [.tup [sD "under", .int 24], .tup [sD "under", .int 25], .tup [sD "alike", .int 1, .int 5]]
theorem V89_fl : ∀ y ∈ V8 ++ V9, Flt 9 y := by
  intro y hy
  simp only [V8, V9, List.cons_append, List.nil_append, List.mem_cons, List.not_mem_nil, or_false] at hy
  rcases hy with h | h | h | h | h | h | h | h | h | h <;> rw [h] <;> exact (tupLeaf rfl).mono (by decide)
theorem body8_ev (n : Nat) (ns : List Int) (N : Int) {env : Env} (h : Env1 ns N env) (st : Store) : ∃ env', evSs (G.ctx (n + 7)) body8 env st = .ok (.nx env') st ∧ Env1 ns N env' := by
  obtain ⟨x, a3, a4, rfl, hx⟩ := h
  have h8 : ∀ env, evE (G.ctx (n + 7)) L8 env st = .ok (.lst V8) st := fun env => by kernel_rfl
  have h9 : ∀ env, evE (G.ctx (n + 7)) L9 env st = .ok (.lst V9) st := fun env => by kernel_rfl
  unfold body8
  rw [ss_consE, s_setE, h8]
  simp only [R.bind_ok, asg, R.of_some, List.set_cons_succ, List.set_cons_zero]
  obtain ⟨y, hy, hf⟩ := pickL (C := G.ctx (n + 7)) (env := [some (.scr ns), some (.int N), some x, a3, some (.lst V8)]) (st := st) (a := .bin .Add (.var 4) L9) (b := .bin .Mod (.bin .FloorDiv (.var 1) (.con (.int (8192)))) (.con (.int (10)))) (ys := V8 ++ V9) (by
    simp only [e_bin, e_var, R.bind_ok, List.getElem?_cons_zero, List.getElem?_cons_succ, h9, addL]
    rw [decide_eq_true (by decide), R.test_true]) (i := N / 8192) (modF (k := 8192) (m := 10) (by decide) (by decide) (by decide)) (by decide) V89_fl
  rw [ss_consE, s_setE, hy]
  simp only [R.bind_ok, asg, R.of_some, List.set_cons_succ, List.set_cons_zero, ss_nilE]
  exact ⟨_, rfl, y, _, _, rfl, hf⟩
theorem ite_ev {C : Ctx} {env : Env} {st : Store} {c : E} {b : Ss} {p : Bool} {Q : Env → Prop} (hc : evE C c env st = .ok (.bl p) st) (hb : ∃ env', evSs C b env st = .ok (.nx env') st ∧ Q env') (h0 : Q env) : ∃ env', evS C (.ite c b .nil) env st = .ok (.nx env') st ∧ Q env' := by
  rw [s_iteE, hc]
  cases p with
  | true => exact hb
  | false => exact ⟨env, by simp only [R.bind_ok, ss_nilE], h0⟩
theorem p_law01 (n : Nat) (ns : List Int) (st : Store) : G.call (n + 8) 15 [.scr ns] st = .ok (.bl true) st := by
  have m0 : G.call (n + 7) 4 [.scr ns, .int 0] st = .ok (.int (mixed ns 0)) st := p_mixed (n + 5) ns 0 st
  have m1 : G.call (n + 7) 4 [.scr ns, .int 1] st = .ok (.int (mixed ns 1)) st := p_mixed (n + 5) ns 1 st
  have m2 : G.call (n + 7) 4 [.scr ns, .int 2] st = .ok (.int (mixed ns 2)) st := p_mixed (n + 5) ns 2 st
  have m3 : G.call (n + 7) 4 [.scr ns, .int 3] st = .ok (.int (mixed ns 3)) st := p_mixed (n + 5) ns 3 st
  have m4 : G.call (n + 7) 4 [.scr ns, .int 4] st = .ok (.int (mixed ns 4)) st := p_mixed (n + 5) ns 4 st
  have hgm : G.call (n + 7) 7 [.int (mixed ns 1), .int 1] st = .ok (gameOf1 (mixed ns 1)).d st := p_game1 (n + 5) _ st
  have hbx : G.call (n + 7) 6 [.int (mixed ns 3)] st = .ok (boxOf (mixed ns 3)).d st := p_box (n + 6) _ st
  have shG : Sh 3 (gameOf1 (mixed ns 1)).d := by
    obtain ⟨a, b, c, hg, ha, hb, hc⟩ := game_sh (mixed ns 1)
    rw [hg]
    refine Sh.tup (fun y hy => ?_) (by simp)
    simp only [List.mem_cons, List.not_mem_nil, or_false] at hy
    rcases hy with e | e | e | e <;> rw [e]
    · exact .int ha
    · exact .int hb
    · exact .int hc
    · exact boxes_sh _
  have shB := box_sh _ (boxOf_in (mixed ns 3))
  generalize (gameOf1 (mixed ns 1)).d = gd at *
  generalize (boxOf (mixed ns 3)).d = bd at *
  generalize hN : mixed ns 0 = N at *
  have cc : ∀ f xs st, (G.ctx (n + 7)).call f xs st = G.call (n + 7) f xs st := fun _ _ _ => rfl
  rw [call_of (d := ir_law_k01) rfl rfl]
  have eb : ir_law_k01.body = .cons (.set (.one 1) (.call 4 (.cons (.var 0) (.cons (.con (.int (0))) .nil)))) (.cons (.set (.one 2) (.call 7 (.cons (.call 4 (.cons (.var 0) (.cons (.con (.int (1))) .nil))) (.cons (.con (.int (1))) .nil))))
    (.cons (.ite (.cmp .Eq (.bin .Mod (.var 1) (.con (.int (2)))) (.con (.int (1)))) (.cons (.set (.one 2) (.call 14 (.cons (.var 2) (.cons (.call 4 (.cons (.var 0) (.cons (.con (.int (2))) .nil))) (.cons (.bin .Mod (.bin .FloorDiv (.var 1) (.con (.int (2)))) (.con (.int (4)))) .nil))))) .nil) .nil)
    (.cons (.ite (.cmp .Eq (.bin .Mod (.bin .FloorDiv (.var 1) (.con (.int (64)))) (.con (.int (4)))) (.con (.int (1)))) body1 .nil)
    (.cons (.set (.one 3) (.call 2 (.cons (.var 2) .nil))) (.cons (.ite (.or (.not (.blt (.isT .bl) (.cons (.var 3) .nil))) (.cmp .NotEq (.var 3) (.call 12 (.cons (.var 2) .nil)))) (.cons (.ret (.con (.bl false))) .nil) .nil)
    (.cons (.set (.one 2) (.call 6 (.cons (.call 4 (.cons (.var 0) (.cons (.con (.int (3))) .nil))) .nil)))
    (.cons (.ite (.cmp .Eq (.bin .Mod (.bin .FloorDiv (.var 1) (.con (.int (8)))) (.con (.int (2)))) (.con (.int (1)))) (.cons (.set (.one 2) (.call 14 (.cons (.var 2) (.cons (.call 4 (.cons (.var 0) (.cons (.con (.int (4))) .nil))) (.cons (.bin .Mod (.bin .FloorDiv (.var 1) (.con (.int (16)))) (.con (.int (2)))) .nil))))) .nil) .nil)
    (.cons (.ite (.cmp .Eq (.bin .Mod (.bin .FloorDiv (.var 1) (.con (.int (2048)))) (.con (.int (4)))) (.con (.int (1)))) body8 .nil)
    (.cons (.set (.one 3) (.call 1 (.cons (.var 2) .nil))) (.cons (.ret (.and (.blt (.isT .bl) (.cons (.var 3) .nil)) (.cmp .Eq (.var 3) (.call 11 (.cons (.var 2) .nil))))) .nil)))))))))) := rfl
  rw [eb]
  show backR st (evSs (G.ctx (n + 7)) _ [some (.scr ns), none, none, none, none] st) = _
  have spo : ∀ (d deep : Nat) (x : D) (num : Int), Sh d x → d ≤ 5 → deep ≤ 3 → ∃ y, G.call (n + 7) 14 [x, .int num, .int deep] st = .ok y st ∧ Flt 9 y := fun d deep x num hx hd hdp => by
    obtain ⟨y, hy, hf⟩ := p_spoilt deep d (n + 5 - deep) x num st hx
    have e : n + 5 - deep + deep + 2 = n + 7 := by omega
    rw [e] at hy
    exact ⟨y, hy, hf.mono (by omega)⟩
  -- the game
  rw [ss_consE, s_setE, e_call]
  simp only [es_cons, es_nil, e_call, e_var, e_con, R.bind_ok, List.getElem?_cons_zero, List.getElem?_cons_succ, cc, m0, asg, R.of_some, List.set_cons_succ, List.set_cons_zero]
  rw [ss_consE, s_setE, e_call]
  simp only [es_cons, es_nil, e_call, e_var, e_con, R.bind_ok, List.getElem?_cons_zero, List.getElem?_cons_succ, cc, m1, hgm, asg, R.of_some, List.set_cons_succ, List.set_cons_zero]
  obtain ⟨env2, h2, hE2⟩ := ite_ev (C := G.ctx (n + 7)) (env := [some (.scr ns), some (.int N), some gd, none, none]) (st := st) (c := .cmp .Eq (.bin .Mod (.var 1) (.con (.int (2)))) (.con (.int (1)))) (b := .cons (.set (.one 2) (.call 14 (.cons (.var 2) (.cons (.call 4 (.cons (.var 0) (.cons (.con (.int (2))) .nil))) (.cons (.bin .Mod (.bin .FloorDiv (.var 1) (.con (.int (2)))) (.con (.int (4)))) .nil))))) .nil) (p := decide (N % 2 = 1)) (Q := Env1 ns N)
    (by
      simp only [e_cmp, e_bin, e_var, e_con, R.bind_ok, List.getElem?_cons_zero, List.getElem?_cons_succ]
      rw [mod1 _ _ (by decide), R.bind_ok, eqI])
    (by
      obtain ⟨k, hk⟩ : ∃ k : Nat, N / 2 % 4 = k := ⟨(N / 2 % 4).toNat, by omega⟩
      obtain ⟨y, hy, hf⟩ := spo 3 k gd (mixed ns 2) shG (by decide) (by omega)
      refine ⟨[some (.scr ns), some (.int N), some y, none, none], ?_, y, none, none, rfl, hf⟩
      have e9 : evE (G.ctx (n + 7)) (.bin .Mod (.bin .FloorDiv (.var 1) (.con (.int (2)))) (.con (.int (4)))) [some (.scr ns), some (.int N), some gd, none, none] st = .ok (.int k) st := by
        rw [modF (by decide) (by decide) (by decide), hk]
      rw [ss_consE, s_setE]
      simp only [e9, es_cons, es_nil, e_call, e_var, e_con, R.bind_ok, List.getElem?_cons_zero, List.getElem?_cons_succ, cc, m2, hy, asg, R.of_some, List.set_cons_succ, List.set_cons_zero, ss_nilE])
    ⟨gd, none, none, rfl, (sh_fl shG).mono (by decide)⟩
  rw [ss_consE, h2]
  simp only [R.bind_ok]
  obtain ⟨x2, y3, y4, rfl, hx2⟩ := hE2
  obtain ⟨env3, h3, hE3⟩ := ite_ev (Q := Env1 ns N) (modE (C := G.ctx (n + 7)) (sc := .scr ns) (x := x2) (N := N) (a3 := y3) (a4 := y4) (st := st) (k := 64) (m := 4) (c := 1) (by decide) (by decide) (by decide)) (body1_ev n ns N ⟨x2, y3, y4, rfl, hx2⟩ st) ⟨x2, y3, y4, rfl, hx2⟩
  rw [ss_consE, h3]
  simp only [R.bind_ok]
  obtain ⟨x3, z3, z4, rfl, hx3⟩ := hE3
  have hg1 : G.call (n + 7) 2 [x3] st = .ok (.bl (gameB x3)) st := p_isgame (n + 4) hx3 st
  have hg2 : G.call (n + 7) 12 [x3] st = .ok (.bl (gameB x3)) st := p_lisgame (n + 4) hx3 (by decide) st
  have bT : ∀ b : Bool, bltD (.isT .bl) [.bl b] st = .ok (.bl true) st := fun b => by simp [bltD, D.kd, Kd.sub]
  have bE : ∀ b : Bool, cmpD .Eq (.bl b) (.bl b) st = .ok (.bl true) st := fun b => by simp [cmpD, D.flat, D.eqv]
  have bN : ∀ b : Bool, cmpD .NotEq (.bl b) (.bl b) st = .ok (.bl false) st := fun b => by simp [cmpD, D.flat, D.eqv]
  rw [ss_consE, s_setE, e_call]
  simp only [es_cons, es_nil, e_var, R.bind_ok, List.getElem?_cons_zero, List.getElem?_cons_succ, cc, hg1, asg, R.of_some, List.set_cons_succ, List.set_cons_zero]
  rw [ss_consE, s_iteE]
  simp only [e_or, e_not, e_cmp, e_blt, e_call, es_cons, es_nil, e_var, R.bind_ok, List.getElem?_cons_zero, List.getElem?_cons_succ, cc, bT, hg2, bN, Bool.not_true, ss_nilE]
  -- the box
  rw [ss_consE, s_setE, e_call]
  simp only [es_cons, es_nil, e_call, e_var, e_con, R.bind_ok, List.getElem?_cons_zero, List.getElem?_cons_succ, cc, m3, hbx, asg, R.of_some, List.set_cons_succ, List.set_cons_zero]
  obtain ⟨env5, h5, hE5⟩ := ite_ev (Q := Env1 ns N) (b := .cons (.set (.one 2) (.call 14 (.cons (.var 2) (.cons (.call 4 (.cons (.var 0) (.cons (.con (.int (4))) .nil))) (.cons (.bin .Mod (.bin .FloorDiv (.var 1) (.con (.int (16)))) (.con (.int (2)))) .nil))))) .nil) (modE (C := G.ctx (n + 7)) (sc := .scr ns) (x := bd) (N := N) (a3 := some (.bl (gameB x3))) (a4 := z4) (st := st) (k := 8) (m := 2) (c := 1) (by decide) (by decide) (by decide))
    (by
      obtain ⟨k, hk⟩ : ∃ k : Nat, N / 16 % 2 = k := ⟨(N / 16 % 2).toNat, by omega⟩
      obtain ⟨y, hy, hf⟩ := spo 1 k bd (mixed ns 4) shB (by decide) (by omega)
      refine ⟨[some (.scr ns), some (.int N), some y, some (.bl (gameB x3)), z4], ?_, y, _, _, rfl, hf⟩
      have e9 : evE (G.ctx (n + 7)) (.bin .Mod (.bin .FloorDiv (.var 1) (.con (.int (16)))) (.con (.int (2)))) [some (.scr ns), some (.int N), some bd, some (.bl (gameB x3)), z4] st = .ok (.int k) st := by
        rw [modF (by decide) (by decide) (by decide), hk]
      rw [ss_consE, s_setE]
      simp only [e9, es_cons, es_nil, e_call, e_var, e_con, R.bind_ok, List.getElem?_cons_zero, List.getElem?_cons_succ, cc, m4, hy, asg, R.of_some, List.set_cons_succ, List.set_cons_zero, ss_nilE])
    ⟨bd, _, _, rfl, (sh_fl shB).mono (by decide)⟩
  rw [ss_consE, h5]
  simp only [R.bind_ok]
  obtain ⟨x5, u3, u4, rfl, hx5⟩ := hE5
  obtain ⟨env6, h6, hE6⟩ := ite_ev (Q := Env1 ns N) (modE (C := G.ctx (n + 7)) (sc := .scr ns) (x := x5) (N := N) (a3 := u3) (a4 := u4) (st := st) (k := 2048) (m := 4) (c := 1) (by decide) (by decide) (by decide)) (body8_ev n ns N ⟨x5, u3, u4, rfl, hx5⟩ st) ⟨x5, u3, u4, rfl, hx5⟩
  rw [ss_consE, h6]
  simp only [R.bind_ok]
  obtain ⟨x6, v3, v4, rfl, hx6⟩ := hE6
  have hb1 : G.call (n + 7) 1 [x6] st = .ok (.bl (boxB x6)) st := p_isbox (n + 5) hx6 st
  have hb2 : G.call (n + 7) 11 [x6] st = .ok (.bl (boxB x6)) st := p_lisbox (n + 5) hx6 (by decide) st
  rw [ss_consE, s_setE, e_call]
  simp only [es_cons, es_nil, e_var, R.bind_ok, List.getElem?_cons_zero, List.getElem?_cons_succ, cc, hb1, asg, R.of_some, List.set_cons_succ, List.set_cons_zero]
  rw [ss_consE, s_retE]
  simp only [e_and, e_cmp, e_blt, e_call, es_cons, es_nil, e_var, R.bind_ok, List.getElem?_cons_zero, List.getElem?_cons_succ, cc, bT, hb2, bE]
  exact backR_rt st _
end EV
theorem PySem.Challenge.cw_diceboxes_k01_games_holds : PySem.Challenge.rw_diceboxes_k01_games.Holds :=
  K01.holds 8 (by decide) fun ns _ => ⟨_, EV.p_law01 0 ns []⟩
