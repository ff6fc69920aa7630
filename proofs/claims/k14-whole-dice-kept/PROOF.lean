import PyProof.Rows.All
import Wide.All
import OpenK.AllK
import Wide.FinOn
import HandS.ForMost
import HandS.Walk
import PyProof.ReprRoads
import HandS.Exc
import HandS.ExcOwn
import HandS.Wide
import HandS.TupAny
import HandS.TupMul
import KE.KDictKeyed
import HandS.Lambda
import HandS.IsInst
import HandS.Deep
import HandS.Conv
import HandS.SortInts
import KE.DataFind
import KE.DataMinMax
import KE.KTupSum
import KE.SortData
import HandS.Style
import HandS.WordsExc
import HandS.Defaults
import HandS.Dict
import KE.KDictCopyH
import KE.KDictList
import PyProof.DictTruth
import KE.DataEq
import HandS.More
import HandS.DictTup
import KE.KDictSum
import KE.KDictDisplayH
import KE.GoesMore
import KE.GoesEnum
import HandS.Zip
import KE.KDictPairs
import KE.KEqDict
import HandS.ExcIs
import HandS.HeadHook1
import HandS.Replace
import HandS.SetFor
import HandS.TupSets
import HandS.Strs
import HandS.HeadEnd
import HandS.EndTab
import HandS.Words
import HandS.Head0
import HandS.Head1
import HandS.Head2
import HandS.HeadHook2
import HandS.Codes
import KE.KNestM
import PySem.Challenge.RW_diceboxes_k14_whole_dice_kept
set_option Elab.async false
set_option linter.all false
set_option maxRecDepth 100000
set_option maxHeartbeats 0
/-! EvA: data, store, the small language (IR) and its evaluator. Plain Lean, no machine. -/
namespace EV
open PySem

/-- data: trees; `ref` an object of the store; `scr` the script -/
inductive D where
  | non | bl (b : Bool) | int (i : Int) | str (s : Str)
  | tup (xs : List D) | lst (xs : List D) | scr (ns : List Int) | ref (i : Nat)
  deriving Inhabited

/-- objects of the store -/
inductive O where
  | lst (xs : List D) | dic (kvs : List (D × D)) | lck (kvs : List (D × D)) | ins (c : Nat) (fs : List (Str × D))
  deriving Inhabited

abbrev Store := List O
abbrev Env := List (Option D)

inductive R (α : Type) where
  | ok (a : α) (st : Store) | err (k : Nat) (st : Store) | bad
  deriving Inhabited
def R.bind {α β : Type} (r : R α) (f : α → Store → R β) : R β := match r with
  | .ok a st => f a st
  | .err k st => .err k st
  | .bad => .bad
@[simp] theorem R.bind_ok {α β : Type} (a : α) (st : Store) (f : α → Store → R β) : (R.ok a st).bind f = f a st := rfl
@[simp] theorem R.bind_err {α β : Type} (k : Nat) (st : Store) (f : α → Store → R β) : (R.err k st : R α).bind f = .err k st := rfl
@[simp] theorem R.bind_bad {α β : Type} (f : α → Store → R β) : (R.bad : R α).bind f = .bad := rfl
theorem R.bind_assoc {α β γ : Type} (r : R α) (f : α → Store → R β) (g : β → Store → R γ) : (r.bind f).bind g = r.bind fun a st => (f a st).bind g := by
  cases r <;> rfl
def R.of {α : Type} (o : Option α) (st : Store) : R α := match o with
  | some a => .ok a st
  | none => .bad
@[simp] theorem R.of_some {α : Type} (a : α) (st : Store) : R.of (some a) st = .ok a st := rfl
@[simp] theorem R.of_none {α : Type} (st : Store) : R.of (none : Option α) st = .bad := rfl
/-- no error may come -/
def R.noX {α : Type} (r : R α) : R α := match r with
  | .ok a st => .ok a st
  | _ => .bad
@[simp] theorem R.noX_ok {α : Type} (a : α) (st : Store) : (R.ok a st).noX = .ok a st := rfl
/-- a test of the evaluator's own -/
def R.test {α : Type} (b : Bool) (k : R α) : R α := match b with
  | true => k
  | false => .bad
@[simp] theorem R.test_true {α : Type} (k : R α) : R.test true k = k := rfl
@[simp] theorem R.test_false {α : Type} (k : R α) : R.test false k = .bad := rfl

/-! ### order, equality, depth of data -/
mutual
def D.eqv : D → D → Bool
  | .non, .non => true
  | .bl a, .bl b => a == b
  | .bl a, .int j => (if a then 1 else 0) == j
  | .int i, .bl b => i == (if b then 1 else 0)
  | .int i, .int j => i == j
  | .str x, .str y => x == y
  | .lst xs, .lst ys => D.eqvs xs ys
  | .tup xs, .tup ys => D.eqvs xs ys
  | _, _ => false
def D.eqvs : List D → List D → Bool
  | [], [] => true
  | x :: xs, y :: ys => D.eqv x y && D.eqvs xs ys
  | _, _ => false
end
mutual
/-- can it be read as plain data, of depth at most n? -/
def D.flat : Nat → D → Bool
  | _, .non => true
  | _, .bl _ => true
  | _, .int _ => true
  | _, .str _ => true
  | n + 1, .tup xs => D.flats n xs
  | n + 1, .lst xs => D.flats n xs
  | _, _ => false
def D.flats : Nat → List D → Bool
  | _, [] => true
  | n, x :: xs => D.flat n x && D.flats n xs
end
mutual
/-- can the two be compared, at all places -/
def D.alike : D → D → Bool
  | .non, .non => true
  | .bl _, .bl _ => true
  | .int _, .int _ => true
  | .str _, .str _ => true
  | .lst xs, .lst ys => D.alikes xs ys
  | .tup xs, .tup ys => D.alikes xs ys
  | _, _ => false
def D.alikes : List D → List D → Bool
  | x :: xs, y :: ys => D.alike x y && D.alikes xs ys
  | _, _ => true
end
/-- .. up to the first place that differs -/
def D.cmpT : List D → List D → Bool
  | x :: xs, y :: ys => D.alike x y && (!D.eqv x y || D.cmpT xs ys)
  | _, _ => true
mutual
def D.lt : D → D → Bool
  | .bl a, .bl b => !a && b
  | .int i, .int j => decide (i < j)
  | .str x, .str y => decide (x.cps.toList < y.cps.toList)
  | .lst xs, .lst ys => D.lts xs ys
  | .tup xs, .tup ys => D.lts xs ys
  | _, _ => false
def D.lts : List D → List D → Bool
  | [], _ :: _ => true
  | x :: xs, y :: ys => if D.eqv x y then D.lts xs ys else D.lt x y
  | _, _ => false
end
mutual
/-- no store object from n on is named -/
def D.low (n : Nat) : D → Bool
  | .ref i => decide (i < n)
  | .tup xs => D.lows n xs
  | .lst xs => D.lows n xs
  | _ => true
def D.lows (n : Nat) : List D → Bool
  | [] => true
  | x :: xs => D.low n x && D.lows n xs
end
def lowKv (n : Nat) : List (D × D) → Bool
  | [] => true
  | (k, v) :: r => k.low n && (v.low n && lowKv n r)
def lowFs (n : Nat) : List (Str × D) → Bool
  | [] => true
  | (_, v) :: r => v.low n && lowFs n r
def O.low (n : Nat) : O → Bool
  | .lst xs => D.lows n xs
  | .dic kvs => lowKv n kvs
  | .lck kvs => lowKv n kvs
  | .ins _ fs => lowFs n fs
def lowO (n : Nat) : List O → Bool
  | [] => true
  | o :: r => o.low n && lowO n r
/-! a key of a dict: an int, a text, a tuple of such (no truths); depth at most n -/
mutual
def D.key : Nat → D → Bool
  | _, .int _ => true
  | _, .str _ => true
  | n + 1, .tup xs => D.keys n xs
  | _, _ => false
def D.keys : Nat → List D → Bool
  | _, [] => true
  | n, x :: xs => D.key n x && D.keys n xs
end
def D.isNon : D → Bool
  | .non => true
  | _ => false
def D.isTup : D → Bool
  | .tup _ => true
  | _ => false
def D.isLeaf : D → Bool
  | .int _ => true
  | .str _ => true
  | _ => false

/-! ### small helpers -/
def lim : Nat := 16777216
/-- the items of a list, tuple, script -/
def seqOf (st : Store) : D → Option (List D)
  | .tup xs => some xs
  | .lst xs => some xs
  | .scr ns => some (ns.map D.int)
  | .ref i => match st[i]? with
    | some (.lst xs) => some xs
    | _ => none
  | _ => none
def intsOf : List D → Option (List Int)
  | [] => some []
  | .int i :: r => (intsOf r).map (i :: ·)
  | _ :: _ => none
def blsOf : List D → Option (List Bool)
  | [] => some []
  | .bl b :: r => (blsOf r).map (b :: ·)
  | _ :: _ => none
def strsOf : List D → Option (List Str)
  | [] => some []
  | .str b :: r => (strsOf r).map (b :: ·)
  | _ :: _ => none
/-- Python's index -/
def ix (n : Nat) (i : Int) : Option Nat :=
  if 0 ≤ i then (if i < n then some i.toNat else none) else if -(n : Int) ≤ i then some (i + n).toNat else none
def getAt {α : Type} (xs : List α) (i : Int) : Option α := (ix xs.length i).bind fun j => xs[j]?
/-- a slice's end -/
def cutIx (n d : Nat) : Option Int → Nat
  | none => d
  | some v => if v < 0 then (v + n).toNat else min v.toNat n
def cut {α : Type} (xs : List α) (lo hi : Option Int) : List α :=
  (xs.drop (cutIx xs.length 0 lo)).take (cutIx xs.length xs.length hi - cutIx xs.length 0 lo)
def dget (kvs : List (D × D)) (k : D) : Option D := match kvs with
  | [] => none
  | (a, v) :: r => if D.eqv a k then some v else dget r k
def dput (kvs : List (D × D)) (k v : D) : List (D × D) := match kvs with
  | [] => [(k, v)]
  | (a, w) :: r => if D.eqv a k then (a, v) :: r else (a, w) :: dput r k v
def fget (fs : List (Str × D)) (f : Str) : Option D := match fs with
  | [] => none
  | (a, v) :: r => if a = f then some v else fget r f
def fput (fs : List (Str × D)) (f : Str) (v : D) : List (Str × D) := match fs with
  | [] => [(f, v)]
  | (a, w) :: r => if a = f then (a, v) :: r else (a, w) :: fput r f v
def memD (x : D) : List D → Bool
  | [] => false
  | y :: r => D.eqv y x || memD x r
def countD (x : D) : List D → Nat
  | [] => 0
  | y :: r => if D.eqv y x then countD x r + 1 else countD x r

/-- may the key be looked for in that dict? all keys are tuples, or all are ints and texts -/
def keyOk (kvs : List (D × D)) (k : D) : Bool := k.key 6 && ((k.isTup && kvs.all fun p => p.1.isTup) || (k.isLeaf && kvs.all fun p => p.1.isLeaf))
/-- the entries of a display, of dict(..), of update, one behind the other -/
def dputs : List (D × D) → List (D × D) → List (D × D)
  | kvs, [] => kvs
  | kvs, (k, v) :: r => dputs (dput kvs k v) r
def keysOk (ps : List (D × D)) : Bool := (ps.all fun p => p.1.key 6) && ((ps.all fun p => p.1.isTup) || ps.all fun p => p.1.isLeaf)
def pairsOf : List D → Option (List (D × D))
  | [] => some []
  | .tup [k, v] :: r => (pairsOf r).map ((k, v) :: ·)
  | _ :: _ => none
/-! ### operators -/
def binD (op : Operator) (x y : D) (st : Store) : R D := match op, x, y with
  | .Add, .int i, .int j => .ok (.int (i + j)) st
  | .Sub, .int i, .int j => .ok (.int (i - j)) st
  | .Mult, .int i, .int j => R.test (decide (i.natAbs < 2 ^ 4000) && decide (j.natAbs < 2 ^ 4000) || decide (i.natAbs < 2 ^ 63) || decide (j.natAbs < 2 ^ 63)) (.ok (.int (i * j)) st)
  | .FloorDiv, .int i, .int j => R.test (decide (0 < j) && decide (j < 2 ^ 4000)) (.ok (.int (i / j)) st)
  | .Mod, .int i, .int j => R.test (decide (0 < j)) (.ok (.int (i % j)) st)
  | .Add, .str a, .str b => R.test (decide (a.length + b.length ≤ lim)) (.ok (.str (a ++ b)) st)
  | .Add, .tup a, .tup b => R.test (decide (a.length + b.length ≤ lim)) (.ok (.tup (a ++ b)) st)
  | .Mult, .tup a, .int k => R.test (decide (a.length ≤ 1000) && decide (-1000 ≤ k) && decide (k ≤ 1000)) (.ok (.tup (List.replicate k.toNat a).flatten) st)
  | .Add, .lst a, .lst b => R.test (decide (a.length + b.length ≤ lim)) (.ok (.lst (a ++ b)) st)
  | .Add, .ref i, .lst b => match st[i]? with
    | some (.lst a) => R.test (decide (a.length + b.length ≤ lim)) (.ok (.ref st.length) (st ++ [.lst (a ++ b)]))
    | _ => .bad
  | .Mult, .lst a, .int k => R.test (decide (a.length ≤ 1000) && decide (-1000 ≤ k) && decide (k ≤ 1000)) (.ok (.lst (List.replicate k.toNat a).flatten) st)
  | _, _, _ => .bad
/-- is it a plain value of depth at most 20? -/
abbrev D.plain (d : D) : Bool := d.flat 20
def cmpD (op : CmpOp) (x y : D) (st : Store) : R D := match op with
  | .Eq => R.test (x.plain && y.plain) (.ok (.bl (D.eqv x y)) st)
  | .NotEq => match x, y with
    | .ref i, .ref j => match st[i]?, st[j]? with
      | some (.lst xs), some (.lst ys) => R.test (D.flats 19 xs && D.flats 19 ys) (.ok (.bl (!D.eqvs xs ys)) st)
      | some (.dic kvs), some (.dic []) => .ok (.bl (!kvs.isEmpty)) st
      | _, _ => .bad
    | .ref i, .lst ys => match st[i]? with
      | some (.lst xs) => R.test (D.flats 19 xs && D.flats 19 ys) (.ok (.bl (!D.eqvs xs ys)) st)
      | _ => .bad
    | x, y => R.test (x.plain && y.plain) (.ok (.bl (!D.eqv x y)) st)
  | .Lt => match x, y with
    | .int i, .int j => .ok (.bl (decide (i < j))) st
    | _, _ => .bad
  | .LtE => match x, y with
    | .int i, .int j => .ok (.bl (decide (i ≤ j))) st
    | _, _ => .bad
  | .Gt => match x, y with
    | .int i, .int j => .ok (.bl (decide (j < i))) st
    | _, _ => .bad
  | .GtE => match x, y with
    | .int i, .int j => .ok (.bl (decide (j ≤ i))) st
    | _, _ => .bad
  | .Is => match y with
    | .non => .ok (.bl x.isNon) st
    | .bl b => match x with
      | .bl a => .ok (.bl (a == b)) st
      | _ => .bad
    | _ => .bad
  | .IsNot => match y with
    | .non => .ok (.bl (!x.isNon)) st
    | .bl b => match x with
      | .bl a => .ok (.bl (!(a == b))) st
      | _ => .bad
    | _ => .bad
  | .In => match y with
    | .ref i => match st[i]? with
      | some (.dic kvs) => R.test (keyOk kvs x) (.ok (.bl (dget kvs x).isSome) st)
      | some (.lck kvs) => R.test (keyOk kvs x) (.ok (.bl (dget kvs x).isSome) st)
      | some (.lst xs) => R.test (x.plain && D.flats 20 xs) (.ok (.bl (memD x xs)) st)
      | _ => .bad
    | .tup xs => R.test (x.plain && D.flats 20 xs) (.ok (.bl (memD x xs)) st)
    | .lst xs => R.test (x.plain && D.flats 20 xs) (.ok (.bl (memD x xs)) st)
    | .str t => match x with
      | .str s => match s.cps.toList with
        | [c] => .ok (.bl (decide (c ∈ t.cps.toList))) st
        | _ => .bad
      | _ => .bad
    | _ => .bad
  | .NotIn => match y with
    | .ref i => match st[i]? with
      | some (.dic kvs) => R.test (keyOk kvs x) (.ok (.bl (!(dget kvs x).isSome)) st)
      | some (.lck kvs) => R.test (keyOk kvs x) (.ok (.bl (!(dget kvs x).isSome)) st)
      | some (.lst xs) => R.test (x.plain && D.flats 20 xs) (.ok (.bl (!memD x xs)) st)
      | _ => .bad
    | .tup xs => R.test (x.plain && D.flats 20 xs) (.ok (.bl (!memD x xs)) st)
    | .lst xs => R.test (x.plain && D.flats 20 xs) (.ok (.bl (!memD x xs)) st)
    | .str t => match x with
      | .str s => match s.cps.toList with
        | [c] => .ok (.bl (!decide (c ∈ t.cps.toList))) st
        | _ => .bad
      | _ => .bad
    | _ => .bad
/-- a[i] -/
def idxD (x y : D) (st : Store) : R D := match x with
  | .tup xs => match y with
    | .int i => R.of (getAt xs i) st
    | _ => .bad
  | .lst xs => match y with
    | .int i => R.of (getAt xs i) st
    | _ => .bad
  | .scr ns => match y with
    | .int i => R.of ((getAt ns i).map D.int) st
    | _ => .bad
  | .str s => match y with
    | .int i => R.test (decide (s.length ≤ lim)) (R.of ((getAt s.cps.toList i).map fun c => D.str ⟨#[c]⟩) st)
    | _ => .bad
  | .ref j => match st[j]? with
    | some (.lst xs) => match y with
      | .int i => R.of (getAt xs i) st
      | _ => .bad
    | some (.dic kvs) => R.test (keyOk kvs y) (R.of (dget kvs y) st)
    | some (.lck kvs) => R.test (keyOk kvs y) (R.of (dget kvs y) st)
    | _ => .bad
  | _ => .bad
/-- a[lo:hi] -/
def sliD (x : D) (l h : Option Int) (st : Store) : R D := match x with
  | .tup xs => .ok (.tup (cut xs l h)) st
  | .lst xs => .ok (.lst (cut xs l h)) st
  | .ref i => match st[i]? with
    | some (.lst xs) => .ok (.ref st.length) (st ++ [.lst (cut xs l h)])
    | _ => .bad
  | .str s => R.test (decide (s.length ≤ lim)) (.ok (.str ⟨(cut s.cps.toList l h).toArray⟩) st)
  | _ => .bad

/-! ### builtins -/
/-- kinds of data -/
inductive Kd where
  | non | bl | int | str | tup | lst | dic
  deriving DecidableEq
def D.kd (st : Store) : D → Option Kd
  | .non => some .non
  | .bl _ => some .bl
  | .int _ => some .int
  | .str _ => some .str
  | .tup _ => some .tup
  | .lst _ => some .lst
  | .scr _ => none
  | .ref i => match st[i]? with
    | some (.lst _) => some .lst
    | some (.dic _) => some .dic
    | some (.lck _) => some .dic
    | _ => none
/-- isinstance -/
def Kd.sub : Kd → Kd → Bool
  | .bl, .int => true
  | a, b => decide (a = b)
inductive Blt where
  | len | sum | any | all | sorted | srtI | srtS | repr | dict | tuple | list | listN | int | str | abs | min2 | max2 | max1 | tupRange | isT (t : Kd)
  deriving DecidableEq
inductive Mth where
  | count | split | join | get2 | append | extend | pop | items | update | replace | remove
  deriving DecidableEq
/-- sorted -/
def insL {α : Type} (le : α → α → Bool) (x : α) : List α → List α
  | [] => [x]
  | y :: r => if le x y then x :: y :: r else y :: insL le x r
def isort {α : Type} (le : α → α → Bool) : List α → List α
  | [] => []
  | x :: r => insL le x (isort le r)
def sortI (ns : List Int) : List Int := isort (fun a b => decide (a ≤ b)) ns
def dicOn : Bool := true
def D.its : D → List D
  | .tup xs => xs
  | _ => []
def D.neT : D → Bool
  | .tup (_ :: _) => true
  | _ => false
def sortOk (xs : List D) : Bool := D.flats 20 xs && (xs.all fun x => x.isTup) && (if (xs.all fun x => x.neT) = true then xs.all fun x => xs.all fun y => D.cmpT x.its y.its else xs.all fun x => xs.all fun y => D.alikes x.its y.its)
def sortT (xs : List D) : List D := isort (fun x y => !D.lt y x) xs
def sortD (xs : List D) : Option (List D) := match intsOf xs with
  | some ns => some ((sortI ns).map D.int)
  | none => match sortOk xs with
    | true => some (sortT xs)
    | false => none
/-- an int put into a rising list, if it is not there -/
def insS (x : Int) : List Int → List Int
  | [] => [x]
  | y :: r => if x < y then x :: y :: r else if x = y then y :: r else y :: insS x r
def ssetI (ns : List Int) : List Int := ns.foldr insS []
/-- each is below all behind it -/
def riseD : List D → Bool
  | [] => true
  | x :: r => (r.all fun y => D.lt x y) && riseD r
/-- sorted(set(..)): ints; tuples of ints that rise already -/
def srtSet (xs : List D) : Option (List D) := match intsOf xs with
  | some ns => if ns.length < 64 then some ((ssetI ns).map D.int) else none
  | none => match (decide (xs.length < 64) && (xs.all fun x => x.isTup && (intsOf x.its).isSome) && riseD xs) with
    | true => some xs
    | false => none
mutual
/-- repr -/
def D.rpr : D → Str
  | .non => "None"
  | .bl b => if b then "True" else "False"
  | .int i => (toString i : String)
  | .str s => reprText s
  | .tup xs => tupleText (D.rprs xs)
  | .lst xs => listText (D.rprs xs)
  | _ => ""
def D.rprs : List D → List Str
  | [] => []
  | x :: xs => D.rpr x :: D.rprs xs
end
mutual
/-- no int too long to be written -/
def D.wrt : D → Bool
  | .int i => decide (i.natAbs.log2 < 1920)
  | .tup xs => D.wrts xs
  | .lst xs => D.wrts xs
  | _ => true
def D.wrts : List D → Bool
  | [] => true
  | x :: xs => D.wrt x && D.wrts xs
end
def itemsL (kvs : List (D × D)) : List D := kvs.map fun kv => .tup [kv.1, kv.2]
def bltD (f : Blt) (xs : List D) (st : Store) : R D := match f with
  | .len => match xs with
    | [.str s] => R.test (decide (s.length ≤ lim)) (.ok (.int s.length) st)
    | [.ref i] => match st[i]? with
      | some (.lst ys) => .ok (.int ys.length) st
      | some (.dic kvs) => .ok (.int kvs.length) st
      | some (.lck kvs) => .ok (.int kvs.length) st
      | _ => .bad
    | [x] => (R.of (seqOf st x) st).bind fun ys st => .ok (.int ys.length) st
    | _ => .bad
  | .sum => match xs with
    | [x] => (R.of ((seqOf st x).bind intsOf) st).bind fun ns st => .ok (.int ns.sum) st
    | _ => .bad
  | .any => match xs with
    | [.lst ys] => (R.of (blsOf ys) st).bind fun bs st => .ok (.bl (bs.any id)) st
    | _ => .bad
  | .all => match xs with
    | [.lst ys] => (R.of (blsOf ys) st).bind fun bs st => .ok (.bl (bs.all id)) st
    | _ => .bad
  | .sorted => match xs with
    | [.ref i] => match st[i]? with
      | some (.lst ys) => (R.of (sortD ys) st).bind fun zs st => .ok (.lst zs) st
      | some (.dic kvs) => (R.of (sortD (kvs.map (·.1))) st).bind fun zs st => .ok (.lst zs) st
      | some (.lck kvs) => (R.of (sortD (kvs.map (·.1))) st).bind fun zs st => .ok (.lst zs) st
      | _ => .bad
    | [.lst ys] => (R.of (sortD ys) st).bind fun zs st => .ok (.lst zs) st
    | [.tup ys] => (R.of (sortD ys) st).bind fun zs st => .ok (.lst zs) st
    | _ => .bad
  | .srtI => match xs with
    | [.ref i] => match st[i]? with
      | some (.dic kvs) => (R.of (sortD (itemsL kvs)) st).bind fun zs st => .ok (.lst zs) st
      | some (.lck kvs) => (R.of (sortD (itemsL kvs)) st).bind fun zs st => .ok (.lst zs) st
      | _ => .bad
    | _ => .bad
  | .srtS => match xs with
    | [.tup ys] => (R.of (srtSet ys) st).bind fun zs st => .ok (.lst zs) st
    | _ => .bad
  | .repr => match xs with
    | [.tup ys] => R.test ((D.tup ys).plain && (D.tup ys).wrt && decide ((D.tup ys).rpr.length ≤ lim)) (.ok (.str (D.tup ys).rpr) st)
    | [.lst ys] => R.test ((D.lst ys).plain && (D.lst ys).wrt && decide ((D.lst ys).rpr.length ≤ lim)) (.ok (.str (D.lst ys).rpr) st)
    | [.non] => .ok (.str "None") st
    | _ => .bad
  | .dict => match xs with
    | [.tup ys] => (R.of (pairsOf ys) st).bind fun ps st => R.test ((ps.all fun p => p.1.key 6) && (ps.all fun p => p.1.isTup) && decide (ps.length ≤ 1000000)) (.ok (.ref st.length) (st ++ [.dic (dputs [] ps)]))
    | [.ref i] => match st[i]? with
      | some (.dic kvs) => R.test (keysOk kvs && (kvs.all fun p => p.1.isLeaf) && decide (kvs.length < 1000)) (.ok (.ref st.length) (st ++ [.dic kvs]))
      | _ => .bad
    | _ => .bad
  | .tuple => match xs with
    | [.tup ys] => .ok (.tup ys) st
    | [.lst ys] => .ok (.tup ys) st
    | [.ref i] => match st[i]? with
      | some (.lst ys) => .ok (.tup ys) st
      | _ => .bad
    | _ => .bad
  | .list => match xs with
    | [.tup ys] => .ok (.lst ys) st
    | [.lst ys] => .ok (.lst ys) st
    | [.ref i] => match st[i]? with
      | some (.lst ys) => .ok (.lst ys) st
      | some (.dic kvs) => .ok (.lst (kvs.map (·.1))) st
      | some (.lck kvs) => .ok (.lst (kvs.map (·.1))) st
      | _ => .bad
    | _ => .bad
  | .listN => match xs with
    | [.tup ys] => .ok (.ref st.length) (st ++ [.lst ys])
    | _ => .bad
  | .int => match xs with
    | [.int i] => .ok (.int i) st
    | [.bl b] => .ok (.int (if b then 1 else 0)) st
    | [.str s] => R.test (decide (s.length ≤ 640)) (R.of ((PySem.intText? s).map D.int) st)
    | _ => .bad
  | .str => match xs with
    | [.int i] => R.test (decide (i.natAbs.log2 < 1920)) (.ok (.str (toString i : String)) st)
    | [.str s] => .ok (.str s) st
    | _ => .bad
  | .abs => match xs with
    | [.int i] => .ok (.int (if i < 0 then -i else i)) st
    | _ => .bad
  | .min2 => match xs with
    | [.int i, .int j] => .ok (.int (if j < i then j else i)) st
    | _ => .bad
  | .max2 => match xs with
    | [.int i, .int j] => .ok (.int (if j > i then j else i)) st
    | _ => .bad
  | .max1 => match xs with
    | [.lst ys] => (R.of (intsOf ys) st).bind fun ns st => match ns with
      | [] => .bad
      | n :: r => .ok (.int (r.foldl max n)) st
    | _ => .bad
  | .tupRange => match xs with
    | [.int n] => R.test (decide (-1000000 ≤ n) && decide (n ≤ 1000000)) (.ok (.tup ((List.range n.toNat).map fun i : Nat => D.int i)) st)
    | _ => .bad
  | .isT t => match xs with
    | [x] => (R.of (x.kd st) st).bind fun k st => .ok (.bl (k.sub t)) st
    | _ => .bad
/-- the receiver's kind -/
def Mth.kd : Mth → Kd
  | .count => .tup
  | .split => .str
  | .join => .str
  | .get2 => .dic
  | .append => .lst
  | .extend => .lst
  | .pop => .lst
  | .items => .dic
  | .update => .dic
  | .replace => .str
  | .remove => .lst
def Mth.ok (m : Mth) (d : D) (st : Store) : Bool := decide (d.kd st = some m.kd)
/-- methods of built-in types -/
def mthD (m : Mth) (o : D) (xs : List D) (st : Store) : R D := match m, o, xs with
  | .count, .tup ys, [x] => R.test (x.plain && D.flats 20 ys) (.ok (.int (countD x ys)) st)
  | .split, .str s, [.str t] => R.test (decide (0 < t.length) && decide (s.length + 2 ≤ lim)) (.ok (.lst ((PySem.Txt.split s t).map D.str)) st)
  | .join, .str s, [.lst ys] => (R.of (strsOf ys) st).bind fun zs st => R.test (decide ((zs.map (·.length)).sum + zs.length * s.length ≤ lim)) (.ok (.str (PySem.Txt.join s zs)) st)
  | .get2, .ref i, [k, x] => match st[i]? with
    | some (.dic kvs) => R.test (keyOk kvs k) (.ok ((dget kvs k).getD x) st)
    | some (.lck kvs) => R.test (keyOk kvs k) (.ok ((dget kvs k).getD x) st)
    | _ => .bad
  | .append, .ref i, [x] => match st[i]? with
    | some (.lst ys) => R.test (decide (ys.length < lim)) (.ok .non (st.set i (.lst (ys ++ [x]))))
    | _ => .bad
  | .extend, .ref i, [.lst zs] => match st[i]? with
    | some (.lst ys) => R.test (decide (ys.length + zs.length ≤ lim)) (.ok .non (st.set i (.lst (ys ++ zs))))
    | _ => .bad
  | .pop, .ref i, [] => match st[i]? with
    | some (.lst ys) => match ys.getLast? with
      | some y => .ok y (st.set i (.lst ys.dropLast))
      | none => .bad
    | _ => .bad
  | .update, .ref i, [.ref j] => match st[i]?, st[j]? with
    | some (.dic kvs), some (.dic ps) => R.test (decide (i ≠ j) && keysOk kvs && keysOk ps && (kvs.all fun p => p.1.isLeaf) && (ps.all fun p => p.1.isLeaf) && decide (kvs.length + ps.length < 1000)) (.ok .non (st.set i (.dic (dputs kvs ps))))
    | _, _ => .bad
  | .replace, .str s, [.str a, .str b] => R.test (!(a == b) && decide (s.length + (s.length + 1) * b.length ≤ lim)) (.ok (.str (PySem.Txt.replace s a b)) st)
  | .remove, .ref i, [.int k] => match st[i]? with
    | some (.lst ys) => match intsOf ys with
      | some ns => R.test (decide (k ∈ ns)) (.ok .non (st.set i (.lst ((ns.erase k).map D.int))))
      | none => .bad
    | _ => .bad
  | _, _, _ => .bad

end EV
/-! EvB: the small language and its evaluator. -/
namespace EV
open PySem

/-! ### sameness of data -/
mutual
def D.same : D → D → Bool
  | .non, .non => true
  | .bl a, .bl b => a == b
  | .int i, .int j => i == j
  | .str x, .str y => x == y
  | .lst xs, .lst ys => D.sames xs ys
  | .tup xs, .tup ys => D.sames xs ys
  | .scr ns, .scr ms => ns == ms
  | .ref i, .ref j => i == j
  | _, _ => false
def D.sames : List D → List D → Bool
  | [], [] => true
  | x :: xs, y :: ys => D.same x y && D.sames xs ys
  | _, _ => false
end
def sameKv : List (D × D) → List (D × D) → Bool
  | [], [] => true
  | (k, v) :: xs, (l, w) :: ys => k.same l && (v.same w && sameKv xs ys)
  | _, _ => false
def sameFs : List (Str × D) → List (Str × D) → Bool
  | [], [] => true
  | (k, v) :: xs, (l, w) :: ys => k == l && (v.same w && sameFs xs ys)
  | _, _ => false
def O.same : O → O → Bool
  | .lst xs, .lst ys => D.sames xs ys
  | .dic a, .dic b => sameKv a b
  | .lck a, .lck b => sameKv a b
  | .ins c a, .ins d b => c == d && sameFs a b
  | _, _ => false
def sameO : List O → List O → Bool
  | [], [] => true
  | x :: xs, y :: ys => x.same y && sameO xs ys
  | _, _ => false
mutual
theorem D.same_refl : ∀ d : D, d.same d = true
  | .non => by simp [D.same]
  | .bl _ => by simp [D.same]
  | .int _ => by simp [D.same]
  | .str _ => by simp [D.same]
  | .lst xs => by rw [D.same]; exact D.sames_refl xs
  | .tup xs => by rw [D.same]; exact D.sames_refl xs
  | .scr _ => by simp [D.same]
  | .ref _ => by simp [D.same]
theorem D.sames_refl : ∀ xs : List D, D.sames xs xs = true
  | [] => by simp [D.sames]
  | x :: xs => by rw [D.sames, D.same_refl x, D.sames_refl xs]; rfl
end
mutual
theorem D.of_same : ∀ d e : D, d.same e = true → d = e
  | .non, e, h => by cases e <;> simp [D.same] at h <;> rfl
  | .bl _, e, h => by cases e <;> simp [D.same] at h; rw [h]
  | .int _, e, h => by cases e <;> simp [D.same] at h; rw [h]
  | .str _, e, h => by cases e <;> simp [D.same] at h; rw [h]
  | .lst xs, e, h => by
    cases e <;> simp only [D.same, Bool.false_eq_true] at h
    rw [D.of_sames xs _ h]
  | .tup xs, e, h => by
    cases e <;> simp only [D.same, Bool.false_eq_true] at h
    rw [D.of_sames xs _ h]
  | .scr _, e, h => by cases e <;> simp [D.same] at h; rw [h]
  | .ref _, e, h => by cases e <;> simp [D.same] at h; rw [h]
theorem D.of_sames : ∀ xs ys : List D, D.sames xs ys = true → xs = ys
  | [], ys, h => by cases ys <;> simp [D.sames] at h; rfl
  | x :: xs, ys, h => by
    cases ys with
    | nil => simp [D.sames] at h
    | cons y ys =>
      rw [D.sames, Bool.and_eq_true] at h
      rw [D.of_same x y h.1, D.of_sames xs ys h.2]
end
theorem sameKv_refl : ∀ xs, sameKv xs xs = true
  | [] => rfl
  | (k, v) :: xs => by rw [sameKv, D.same_refl, D.same_refl, sameKv_refl xs]; rfl
theorem of_sameKv : ∀ xs ys, sameKv xs ys = true → xs = ys
  | [], ys, h => by cases ys <;> simp [sameKv] at h; rfl
  | (k, v) :: xs, ys, h => by
    cases ys with
    | nil => simp [sameKv] at h
    | cons y ys =>
      obtain ⟨l, w⟩ := y
      rw [sameKv, Bool.and_eq_true, Bool.and_eq_true] at h
      rw [D.of_same _ _ h.1, D.of_same _ _ h.2.1, of_sameKv xs ys h.2.2]
theorem sameFs_refl : ∀ xs, sameFs xs xs = true
  | [] => rfl
  | (k, v) :: xs => by rw [sameFs, D.same_refl, sameFs_refl xs]; simp
theorem of_sameFs : ∀ xs ys, sameFs xs ys = true → xs = ys
  | [], ys, h => by cases ys <;> simp [sameFs] at h; rfl
  | (k, v) :: xs, ys, h => by
    cases ys with
    | nil => simp [sameFs] at h
    | cons y ys =>
      obtain ⟨l, w⟩ := y
      rw [sameFs, Bool.and_eq_true, Bool.and_eq_true] at h
      have e : k = l := by simpa using h.1
      rw [e, D.of_same _ _ h.2.1, of_sameFs xs ys h.2.2]
theorem O.same_refl (o : O) : o.same o = true := by
  cases o <;> simp [O.same, D.sames_refl, sameKv_refl, sameFs_refl]
theorem O.of_same (o p : O) (h : o.same p = true) : o = p := by
  cases o <;> cases p <;> simp only [O.same, Bool.false_eq_true] at h
  · rw [D.of_sames _ _ h]
  · rw [of_sameKv _ _ h]
  · rw [of_sameKv _ _ h]
  · rw [Bool.and_eq_true] at h
    have e := eq_of_beq h.1
    rw [e, of_sameFs _ _ h.2]
theorem sameO_refl : ∀ xs, sameO xs xs = true
  | [] => rfl
  | x :: xs => by rw [sameO, O.same_refl, sameO_refl xs]; rfl
theorem of_sameO : ∀ xs ys, sameO xs ys = true → xs = ys
  | [], ys, h => by cases ys <;> simp [sameO] at h; rfl
  | x :: xs, ys, h => by
    cases ys with
    | nil => simp [sameO] at h
    | cons y ys =>
      rw [sameO, Bool.and_eq_true] at h
      rw [O.of_same _ _ h.1, of_sameO xs ys h.2]
@[simp] theorem D.sames_self (xs : List D) : D.sames xs xs = true := D.sames_refl xs
@[simp] theorem sameKv_self (xs : List (D × D)) : sameKv xs xs = true := sameKv_refl xs
@[simp] theorem sameO_self (xs : List O) : sameO xs xs = true := sameO_refl xs

/-! ### the language -/
inductive Tg where
  | one (i : Nat) | many (is : List Nat)
  deriving DecidableEq
mutual
inductive E where
  | var (i : Nat) | con (d : D)
  | bin (op : Operator) (a b : E) | neg (a : E)
  | cmp (op : CmpOp) (a b : E) | chn (o1 o2 : CmpOp) (a b c : E)
  | and (a b : E) | or (a b : E) | not (a : E)
  | tup (es : Es) | lst (es : Es) | lstM (es : Es) | dct (es : Es)
  | idx (a b : E) | sli (a : E) (lo hi : Po) | stp (a : E) (lo hi : Po) (c : E) | rev (a : E)
  | call (f : Nat) (es : Es) | blt (f : Blt) (es : Es) | mth (m : Mth) (o : E) (es : Es)
  | meth (m : Str) (o : E) (es : Es) | make (c : Nat) (es : Es) | fld (o : E) (f : Str)
  | lc (m : Bool) (own : List Nat) (tg : Tg) (it : It) (cond elt : E)
  | told (e : E)
  | lcx (own : List Nat) (tg : Tg) (it : It) (cond elt : E)
inductive Es where
  | nil | cons (e : E) (es : Es)
inductive Po where
  | no | is (e : E)
inductive It where
  | seq (e : E) | keys (e : E) | rng1 (a : E) | rng2 (a b : E) | rng3 (a b c : E) | items (e : E) | enum (e : E) | zip (a b : E)
end
mutual
inductive S where
  | set (t : Tg) (e : E) | fld (o : E) (f : Str) (e : E) | put (o k e : E)
  | exp (e : E) | ret (e : E) | retN
  | ite (c : E) (a b : Ss) | whl (c : E) (b : Ss) | for (tg : Tg) (it : It) (b : Ss)
  | pass | brk | cont | raise (k : Nat)
inductive Ss where
  | nil | cons (s : S) (ss : Ss)
end
/-- how a statement ends -/
inductive Fl where
  | nx (env : Env) | rt (d : D) | bk (env : Env) | ct (env : Env)

/-- a def: how many parameters, how many slots, its body -/
structure FDef where
  np : Nat
  ns : Nat
  body : Ss
/-- the program: its defs, its classes' methods and __init__ -/
structure Prg where
  fn : Nat → Option FDef
  meth : Nat → Str → Option Nat
  init : Nat → Option Nat
  wfuel : Nat
/-- the surroundings of an evaluation -/
structure Ctx where
  call : Nat → List D → Store → R D
  meth : Nat → Str → Option Nat
  init : Nat → Option Nat
  wfuel : Nat

/-- a[lo:hi:c] -/
def stepL {α : Type} (xs : List α) (lo hi : Option Int) (c : Int) : List α :=
  (List.range (PySem.Builtin.Slice.slicePlaces (PySem.Builtin.Slice.sliceAdjust lo hi c xs.length).1 (PySem.Builtin.Slice.sliceAdjust lo hi c xs.length).2 c)).filterMap fun k : Nat => xs[((PySem.Builtin.Slice.sliceAdjust lo hi c xs.length).1 + (k : Int) * c).toNat]?
def stpD (x : D) (l h : Option Int) (k : D) (st : Store) : R D := match x, k with
  | .tup xs, .int k => R.test (decide (k ≠ 0) && decide ((stepL xs l h k).length ≤ lim)) (.ok (.tup (stepL xs l h k)) st)
  | _, _ => .bad
/-- keys and values of a display, from the left -/
def pairUp : List D → Option (List (D × D))
  | [] => some []
  | k :: v :: r => (pairUp r).map ((k, v) :: ·)
  | [_] => none
/-! ### assignment, loops -/
def asgs : List Nat → List D → Env → Option Env
  | [], [], env => some env
  | i :: is, d :: ds, env => asgs is ds (env.set i (some d))
  | _, _, _ => none
def asg (t : Tg) (d : D) (env : Env) : Option Env := match t with
  | .one i => some (env.set i (some d))
  | .many is => match d with
    | .tup xs => asgs is xs env
    | _ => none
def wipes (env : Env) : List Nat → Env
  | [] => env
  | v :: vs => (wipes env vs).set v none
/-- what must stand still while a loop walks it -/
inductive Grd where
  | no | lst (i : Nat) (xs : List D) | dic (i : Nat) (kvs : List (D × D)) | lck (i : Nat) (kvs : List (D × D))
def Grd.lock : Grd → Store → Store
  | .dic i kvs, st => st.set i (.lck kvs)
  | _, st => st
def Grd.free : Grd → Store → Store
  | .dic i kvs, st => st.set i (.dic kvs)
  | _, st => st
def Grd.holds : Grd → Store → Bool
  | .no, _ => true
  | .lst i xs, st => match st[i]? with
    | some (.lst ys) => D.sames xs ys
    | _ => false
  | .dic i kvs, st => match st[i]? with
    | some (.lck ls) => sameKv kvs ls
    | _ => false
  | .lck i kvs, st => match st[i]? with
    | some (.lck ls) => sameKv kvs ls
    | _ => false
/-- an error may not leave a loop that locks -/
def Grd.out {α : Type} (g : Grd) (r : R α) : R α := match g, r with
  | .dic _ _, .err _ _ => .bad
  | _, .ok a st => R.test (g.holds st) (.ok a (g.free st))
  | _, r => r
def forL (g : Grd) (tg : Tg) (body : Env → Store → R Fl) : List D → Env → Store → R Fl
  | [], env, st => R.test (g.holds st) (.ok (.nx env) st)
  | d :: ds, env, st => R.test (g.holds st) ((R.of (asg tg d env) st).bind fun env st => (body env st).bind fun f st => match f with
    | .nx env => forL g tg body ds env st
    | .ct env => forL g tg body ds env st
    | .bk env => .ok (.nx env) st
    | .rt v => .ok (.rt v) st)
def lcL (g : Grd) (tg : Tg) (cond elt : Env → Store → R D) (env : Env) : List D → Store → R (List D)
  | [], st => R.test (g.holds st) (.ok [] st)
  | d :: ds, st => R.test (g.holds st) ((R.of (asg tg d env) st).bind fun env' st => (cond env' st).bind fun b st => match b with
    | .bl true => (elt env' st).bind fun y st => (lcL g tg cond elt env ds st).bind fun ys st => .ok (y :: ys) st
    | .bl false => lcL g tg cond elt env ds st
    | _ => .bad)
def whlL (c : Env → Store → R D) (body : Env → Store → R Fl) : Nat → Env → Store → R Fl
  | 0, _, _ => .bad
  | n + 1, env, st => (c env st).bind fun b st => match b with
    | .bl true => (body env st).bind fun f st => match f with
      | .nx env => whlL c body n env st
      | .ct env => whlL c body n env st
      | .bk env => .ok (.nx env) st
      | .rt v => .ok (.rt v) st
    | .bl false => .ok (.nx env) st
    | _ => .bad
/-- what a for walks -/
def seqIt (d : D) (st : Store) : R (List D × Grd) := match d with
  | .tup xs => .ok (xs, .no) st
  | .lst xs => .ok (xs, .no) st
  | .scr ns => .ok (ns.map D.int, .no) st
  | .str s => R.test (decide (s.length ≤ lim)) (.ok (s.cps.toList.map fun c => D.str ⟨#[c]⟩, .no) st)
  | .ref i => match st[i]? with
    | some (.lst xs) => .ok (xs, .lst i xs) st
    | _ => .bad
  | _ => .bad
def keysIt (d : D) (st : Store) : R (List D × Grd) := match d with
  | .ref i => match st[i]? with
    | some (.dic kvs) => .ok (kvs.map (·.1), .dic i kvs) st
    | _ => .bad
  | _ => .bad
def itemsIt (d : D) (st : Store) : R (List D × Grd) := match d with
  | .ref i => match st[i]? with
    | some (.dic kvs) => .ok (kvs.map fun kv => D.tup [kv.1, kv.2], .dic i kvs) st
    | _ => .bad
  | _ => .bad
def enumL : Int → List D → List D
  | _, [] => []
  | k, x :: xs => .tup [.int k, x] :: enumL (k + 1) xs
def zipL : List D → List D → List D
  | x :: xs, y :: ys => .tup [x, y] :: zipL xs ys
  | _, _ => []
def rngL (lo hi : Int) : List D := (List.range (hi - lo).toNat).map fun i : Nat => D.int (lo + i)
def rngS (lo hi c : Int) : List D := (List.range ((hi - lo + c - 1) / c).toNat).map fun i : Nat => D.int (lo + i * c)
def rng2 (x y : D) (st : Store) : R (List D × Grd) := match x, y with
  | .int lo, .int hi => R.test (decide (-1000000 ≤ lo) && decide (lo ≤ 1000000) && decide (-1000000 ≤ hi) && decide (hi ≤ 1000000)) (.ok (rngL lo hi, .no) st)
  | _, _ => .bad
def rng3 (x y z : D) (st : Store) : R (List D × Grd) := match x, y, z with
  | .int lo, .int hi, .int c => R.test (decide (-1000000 ≤ lo) && decide (lo ≤ 1000000) && decide (-1000000 ≤ hi) && decide (hi ≤ 1000000) && decide (0 < c) && decide (c ≤ 1000)) (.ok (rngS lo hi c, .no) st)
  | _, _, _ => .bad

/-! ### expressions -/
/-- an exception's class in the law's word for it -/
def toldOf (r : R D) : R D := match r with
  | .ok v st => .ok (.tup [.str "told", v]) st
  | .err k st => R.test (decide (k < 3)) (.ok (.tup [.str "refused", .int k]) st)
  | .bad => .bad
mutual
def evE (C : Ctx) : E → Env → Store → R D
  | .var i, env, st => match env[i]? with
    | some (some d) => .ok d st
    | _ => .bad
  | .con d, _, st => .ok d st
  | .bin op a b, env, st => (evE C a env st).bind fun x st => (evE C b env st).bind fun y st => binD op x y st
  | .neg a, env, st => (evE C a env st).bind fun x st => match x with
    | .int i => .ok (.int (-i)) st
    | _ => .bad
  | .cmp op a b, env, st => (evE C a env st).bind fun x st => (evE C b env st).bind fun y st => cmpD op x y st
  | .chn o1 o2 a b c, env, st => (evE C a env st).bind fun x st => (evE C b env st).bind fun y st => (cmpD o1 x y st).bind fun r st => match r with
    | .bl true => (evE C c env st).bind fun z st => cmpD o2 y z st
    | .bl false => .ok (.bl false) st
    | _ => .bad
  | .and a b, env, st => (evE C a env st).bind fun x st => match x with
    | .bl true => evE C b env st
    | .bl false => .ok (.bl false) st
    | _ => .bad
  | .or a b, env, st => (evE C a env st).bind fun x st => match x with
    | .bl true => .ok (.bl true) st
    | .bl false => evE C b env st
    | _ => .bad
  | .not a, env, st => (evE C a env st).bind fun x st => match x with
    | .bl b => .ok (.bl (!b)) st
    | _ => .bad
  | .tup es, env, st => (evEs C es env st).bind fun xs st => R.test (decide (xs.length ≤ 1000)) (.ok (.tup xs) st)
  | .lst es, env, st => (evEs C es env st).bind fun xs st => R.test (decide (xs.length ≤ 1000)) (.ok (.lst xs) st)
  | .lstM es, env, st => (evEs C es env st).bind fun xs st => R.test (decide (xs.length ≤ 1000)) (.ok (.ref st.length) (st ++ [.lst xs]))
  | .dct es, env, st => (evEs C es env (st ++ [.dic []])).bind fun xs st' => (R.of (pairUp xs) st').bind fun ps st' => match st'[st.length]? with
    | some (.dic []) => R.test (keysOk ps && decide (ps.length ≤ 15)) (.ok (.ref st.length) (st'.set st.length (.dic (dputs [] ps))))
    | _ => .bad
  | .idx a b, env, st => (evE C a env st).bind fun x st => (evE C b env st).bind fun y st => idxD x y st
  | .sli a lo hi, env, st => (evE C a env st).bind fun x st => (evP C lo env st).bind fun l st => (evP C hi env st).bind fun h st => sliD x l h st
  | .stp a lo hi c, env, st => (evE C a env st).bind fun x st => (evP C lo env st).bind fun l st => (evP C hi env st).bind fun h st => (evE C c env st).bind fun k st => stpD x l h k st
  | .rev a, env, st => (evE C a env st).bind fun x st => match x with
    | .lst xs => .ok (.lst xs.reverse) st
    | .tup xs => .ok (.tup xs.reverse) st
    | _ => .bad
  | .call f es, env, st => (evEs C es env st).bind fun xs st => C.call f xs st
  | .blt f es, env, st => (evEs C es env st).bind fun xs st => bltD f xs st
  | .mth m o es, env, st => (evE C o env st).bind fun x st => R.test (m.ok x st) ((evEs C es env st).bind fun xs st => mthD m x xs st)
  | .meth m o es, env, st => (evE C o env st).bind fun x st => match x with
    | .ref i => match st[i]? with
      | some (.ins c fs) => R.test (fget fs m).isNone ((R.of (C.meth c m) st).bind fun f st => (evEs C es env st).bind fun xs st => C.call f (x :: xs) st)
      | _ => .bad
    | _ => .bad
  | .make c es, env, st => (evEs C es env st).bind fun xs st => (R.of (C.init c) st).bind fun f st => (C.call f (.ref st.length :: xs) (st ++ [.ins c []])).bind fun v st' => match v with
    | .non => .ok (.ref st.length) st'
    | _ => .bad
  | .fld o f, env, st => (evE C o env st).bind fun x st => match x with
    | .ref i => match st[i]? with
      | some (.ins _ fs) => R.of (fget fs f) st
      | _ => .bad
    | _ => .bad
  | .lc m own tg it cond elt, env, st => (evI C it env st).bind fun p st => (p.2.out (lcL p.2 tg (evE C cond) (evE C elt) (wipes env own) p.1 (p.2.lock st))).noX.bind fun ys st =>
      if m then .ok (.ref st.length) (st ++ [.lst ys]) else .ok (.lst ys) st
  | .told e, env, st => toldOf (evE C e env st)
  | .lcx own tg it cond elt, env, st => (evI C it env st).bind fun p st => (p.2.out (lcL p.2 tg (evE C cond) (evE C elt) (wipes env own) p.1 (p.2.lock st))).bind fun ys st => .ok (.lst ys) st
def evEs (C : Ctx) : Es → Env → Store → R (List D)
  | .nil, _, st => .ok [] st
  | .cons e es, env, st => (evE C e env st).bind fun x st => (evEs C es env st).bind fun xs st => .ok (x :: xs) st
def evP (C : Ctx) : Po → Env → Store → R (Option Int)
  | .no, _, st => .ok none st
  | .is e, env, st => (evE C e env st).bind fun x st => match x with
    | .int i => .ok (some i) st
    | _ => .bad
def evI (C : Ctx) : It → Env → Store → R (List D × Grd)
  | .seq e, env, st => (evE C e env st).bind fun x st => seqIt x st
  | .keys e, env, st => (evE C e env st).bind fun x st => keysIt x st
  | .rng1 a, env, st => (evE C a env st).bind fun x st => rng2 (.int 0) x st
  | .rng2 a b, env, st => (evE C a env st).bind fun x st => (evE C b env st).bind fun y st => rng2 x y st
  | .rng3 a b c, env, st => (evE C a env st).bind fun x st => (evE C b env st).bind fun y st => (evE C c env st).bind fun z st => rng3 x y z st
  | .items e, env, st => (evE C e env st).bind fun x st => itemsIt x st
  | .enum e, env, st => (evE C e env st).bind fun x st => match x with
    | .tup xs => .ok (enumL 0 xs, .no) st
    | .lst xs => .ok (enumL 0 xs, .no) st
    | _ => .bad
  | .zip a b, env, st => (evE C a env st).bind fun x st => (evE C b env st).bind fun y st => match x, y with
    | .tup xs, .tup ys => .ok (zipL xs ys, .no) st
    | .lst xs, .lst ys => .ok (zipL xs ys, .no) st
    | .tup xs, .lst ys => .ok (zipL xs ys, .no) st
    | _, _ => .bad
end

/-! ### statements -/
mutual
def evS (C : Ctx) : S → Env → Store → R Fl
  | .set t e, env, st => (evE C e env st).bind fun x st => (R.of (asg t x env) st).bind fun env st => .ok (.nx env) st
  | .fld o f e, env, st => (evE C e env st).bind fun v st => (evE C o env st).bind fun x st => match x with
    | .ref i => match st[i]? with
      | some (.ins c fs) => R.test (decide (fs.length < 100)) (.ok (.nx env) (st.set i (.ins c (fput fs f v))))
      | _ => .bad
    | _ => .bad
  | .put o k e, env, st => (evE C e env st).bind fun v st => (evE C o env st).bind fun x st => (evE C k env st).bind fun y st => match x with
    | .ref i => match st[i]? with
      | some (.dic kvs) => R.test (keyOk kvs y && decide (kvs.length < 1000000)) (.ok (.nx env) (st.set i (.dic (dput kvs y v))))
      | _ => .bad
    | _ => .bad
  | .exp e, env, st => (evE C e env st).bind fun _ st => .ok (.nx env) st
  | .ret e, env, st => (evE C e env st).bind fun v st => .ok (.rt v) st
  | .retN, _, st => .ok (.rt .non) st
  | .ite c a b, env, st => (evE C c env st).bind fun x st => match x with
    | .bl true => evSs C a env st
    | .bl false => evSs C b env st
    | _ => .bad
  | .whl c b, env, st => whlL (evE C c) (evSs C b) C.wfuel env st
  | .for tg it b, env, st => (evI C it env st).bind fun p st => p.2.out (forL p.2 tg (evSs C b) p.1 env (p.2.lock st))
  | .pass, env, st => .ok (.nx env) st
  | .brk, env, st => .ok (.bk env) st
  | .cont, env, st => .ok (.ct env) st
  | .raise k, _, st => .err k st
def evSs (C : Ctx) : Ss → Env → Store → R Fl
  | .nil, env, st => .ok (.nx env) st
  | .cons s ss, env, st => (evS C s env st).bind fun f st => match f with
    | .nx env => evSs C ss env st
    | .rt v => .ok (.rt v) st
    | .bk env => .ok (.bk env) st
    | .ct env => .ok (.ct env) st
end

/-! ### calls -/
/-- behind a call: what the call has made and nobody can name is forgotten -/
def keepN (n : Nat) (st st' : Store) : Bool := sameO (st'.take n) st || lowO n (st'.take n)
def backV (st : Store) (v : D) (st' : Store) : R D := if (v.low st.length && keepN st.length st st') = true then .ok v (st'.take st.length) else .ok v st'
def backX (st : Store) (k : Nat) (st' : Store) : R D := if keepN st.length st st' = true then .err k (st'.take st.length) else .err k st'
def backR (st : Store) (r : R Fl) : R D := match r with
  | .ok (.rt v) st' => backV st v st'
  | .ok (.nx _) st' => backV st .non st'
  | .ok _ _ => .bad
  | .err k st' => backX st k st'
  | .bad => .bad
def FDef.run (d : FDef) (C : Ctx) (args : List D) (st : Store) : R D :=
  if args.length = d.np then backR st (evSs C d.body (args.map some ++ List.replicate (d.ns - d.np) none) st) else .bad
def Prg.call (P : Prg) : Nat → Nat → List D → Store → R D
  | 0, _, _, _ => .bad
  | n + 1, f, args, st => match P.fn f with
    | none => .bad
    | some d => d.run ⟨P.call n, P.meth, P.init, P.wfuel⟩ args st
abbrev Prg.ctx (P : Prg) (n : Nat) : Ctx := ⟨P.call n, P.meth, P.init, P.wfuel⟩
theorem Prg.call_succ (P : Prg) (n f : Nat) (args : List D) (st : Store) {d : FDef} (h : P.fn f = some d) : P.call (n + 1) f args st = d.run (P.ctx n) args st := by
  rw [Prg.call, h]
end EV
/-! EvC: how data and store stand in the machine's heap. -/
namespace EV
open PySem PySem.Spec PyProof.Rows L2

/-- a tuple's object; a tuple as it is tracked here: by its very object -/
abbrev tupOb (us : List Value) : Obj := { cls := .type "tuple", data := .seq us.toArray }
abbrev FT (us : List Value) (xs : List V) : HO := .frz (tupOb us) (.tup xs)
/-- G: the frozen objects; ρ: where the store's objects stand -/
structure Wd where
  G : Hp
  ρ : List Addr
mutual
/-- the value v is the datum d -/
inductive Rep (K : PySem.W.Frag) (W : Wd) : V → D → Prop
  | non : Rep K W .non .non
  | bl (b : Bool) : Rep K W (.bl b) (.bl b)
  | int (i : Int) : Rep K W (.int i) (.int i)
  | str (s : Str) : Rep K W (.str s) (.str s)
  | tup {a : Addr} {us : List Value} {xs : List V} {ds : List D} : W.G a = some (FT us xs) → ds.length ≤ sizeLine → RepL K W xs ds → Rep K W (.ref a) (.tup ds)
  | lst {a : Addr} {xs : List V} {ds : List D} : W.G a = some (.lst xs) → ds.length ≤ sizeLine → RepL K W xs ds → Rep K W (.ref a) (.lst ds)
  | scr {a : Addr} {ns : List Int} : SqL K W.G a (ns.map V.int) → ns.length ≤ sizeLine → Rep K W (.ref a) (.scr ns)
  | ref {a : Addr} {i : Nat} : W.ρ[i]? = some a → Rep K W (.ref a) (.ref i)
inductive RepL (K : PySem.W.Frag) (W : Wd) : List V → List D → Prop
  | nil : RepL K W [] []
  | cons {v : V} {d : D} {vs : List V} {ds : List D} : Rep K W v d → RepL K W vs ds → RepL K W (v :: vs) (d :: ds)
end
section
variable {K : PySem.W.Frag} {W W' : Wd}
theorem RepL.length : ∀ {xs : List V} {ds : List D}, RepL K W xs ds → xs.length = ds.length
  | _, _, .nil => rfl
  | _, _, .cons _ t => by rw [List.length_cons, List.length_cons, RepL.length t]
theorem RepL.get : ∀ {xs : List V} {ds : List D}, RepL K W xs ds → ∀ {i : Nat} {d : D}, ds[i]? = some d → ∃ x, xs[i]? = some x ∧ Rep K W x d
  | _, _, .nil, _, _, e => by simp at e
  | _, _, .cons r t, 0, _, e => by simp at e; subst e; exact ⟨_, rfl, r⟩
  | _, _, .cons _ t, i + 1, d, e => by
    obtain ⟨x, h1, h2⟩ := RepL.get t (i := i) (d := d) (by simpa using e)
    exact ⟨x, by simpa using h1, h2⟩
theorem RepL.getV : ∀ {xs : List V} {ds : List D}, RepL K W xs ds → ∀ {i : Nat} {x : V}, xs[i]? = some x → ∃ d, ds[i]? = some d ∧ Rep K W x d
  | _, _, .nil, _, _, e => by simp at e
  | _, _, .cons r t, 0, _, e => by simp at e; subst e; exact ⟨_, rfl, r⟩
  | _, _, .cons _ t, i + 1, d, e => by
    obtain ⟨x, h1, h2⟩ := RepL.getV t (i := i) (x := d) (by simpa using e)
    exact ⟨x, by simpa using h1, h2⟩
theorem RepL.append : ∀ {xs ys : List V} {ds es : List D}, RepL K W xs ds → RepL K W ys es → RepL K W (xs ++ ys) (ds ++ es)
  | _, _, _, _, .nil, s => s
  | _, _, _, _, .cons r t, s => .cons r (RepL.append t s)
theorem RepL.take : ∀ {xs : List V} {ds : List D} (n : Nat), RepL K W xs ds → RepL K W (xs.take n) (ds.take n)
  | _, _, 0, _ => .nil
  | _, _, _ + 1, .nil => .nil
  | _, _, n + 1, .cons r t => .cons r (RepL.take n t)
theorem RepL.drop : ∀ {xs : List V} {ds : List D} (n : Nat), RepL K W xs ds → RepL K W (xs.drop n) (ds.drop n)
  | _, _, 0, r => r
  | _, _, _ + 1, .nil => .nil
  | _, _, n + 1, .cons _ t => RepL.drop n t
theorem RepL.reps {xs : List V} {ds : List D} (h : RepL K W xs ds) : ∀ k : Nat, RepL K W (List.replicate k xs).flatten (List.replicate k ds).flatten
  | 0 => .nil
  | k + 1 => by
    rw [List.replicate_succ, List.replicate_succ, List.flatten_cons, List.flatten_cons]
    exact h.append (RepL.reps h k)
theorem RepL.dropLast {xs : List V} {ds : List D} (h : RepL K W xs ds) : RepL K W xs.dropLast ds.dropLast := by
  rw [List.dropLast_eq_take, List.dropLast_eq_take, h.length]
  exact h.take _
theorem RepL.one {v : V} {d : D} (h : Rep K W v d) : RepL K W [v] [d] := .cons h .nil
theorem RepL.ints : ∀ (ns : List Int), RepL K W (ns.map V.int) (ns.map D.int)
  | [] => .nil
  | n :: ns => .cons (.int n) (RepL.ints ns)
theorem RepL.bls : ∀ (ns : List Bool), RepL K W (ns.map V.bl) (ns.map D.bl)
  | [] => .nil
  | n :: ns => .cons (.bl n) (RepL.bls ns)
theorem RepL.strs : ∀ (ns : List Str), RepL K W (ns.map V.str) (ns.map D.str)
  | [] => .nil
  | n :: ns => .cons (.str n) (RepL.strs ns)
theorem RepL.of_ints : ∀ {xs : List V} {ds : List D} {ns : List Int}, RepL K W xs ds → intsOf ds = some ns → xs = ns.map V.int
  | _, _, _, .nil, e => by
    simp [intsOf] at e
    subst e; rfl
  | _, _, _, .cons (d := d) r t, e => by
    cases r <;> simp only [intsOf, reduceCtorEq] at e
    case int i =>
      obtain ⟨ms, e1, e2⟩ := Option.map_eq_some_iff.mp e
      subst e2
      rw [RepL.of_ints t e1]
      rfl
theorem RepL.of_bls : ∀ {xs : List V} {ds : List D} {ns : List Bool}, RepL K W xs ds → blsOf ds = some ns → xs = ns.map V.bl
  | _, _, _, .nil, e => by
    simp [blsOf] at e
    subst e; rfl
  | _, _, _, .cons (d := d) r t, e => by
    cases r <;> simp only [blsOf, reduceCtorEq] at e
    case bl i =>
      obtain ⟨ms, e1, e2⟩ := Option.map_eq_some_iff.mp e
      subst e2
      rw [RepL.of_bls t e1]
      rfl
theorem RepL.of_strs : ∀ {xs : List V} {ds : List D} {ns : List Str}, RepL K W xs ds → strsOf ds = some ns → xs = ns.map V.str
  | _, _, _, .nil, e => by
    simp [strsOf] at e
    subst e; rfl
  | _, _, _, .cons (d := d) r t, e => by
    cases r <;> simp only [strsOf, reduceCtorEq] at e
    case str i =>
      obtain ⟨ms, e1, e2⟩ := Option.map_eq_some_iff.mp e
      subst e2
      rw [RepL.of_strs t e1]
      rfl
/-- the world grows -/
structure Wd.Le (W W' : Wd) : Prop where
  g : Same W.G W'.G
  r : ∃ more, W'.ρ = W.ρ ++ more
theorem Wd.Le.refl (W : Wd) : W.Le W := ⟨Same.refl _, [], by simp⟩
theorem Wd.Le.trans {W W1 W2 : Wd} (a : W.Le W1) (b : W1.Le W2) : W.Le W2 := by
  obtain ⟨g1, m1, e1⟩ := a
  obtain ⟨g2, m2, e2⟩ := b
  exact ⟨g1.trans g2, m1 ++ m2, by rw [e2, e1, List.append_assoc]⟩
theorem Wd.Le.at (a : W.Le W') {i : Nat} {x : Addr} (h : W.ρ[i]? = some x) : W'.ρ[i]? = some x := by
  obtain ⟨_, m, e⟩ := a
  have hl : i < W.ρ.length := (List.getElem?_eq_some_iff.mp h).1
  rw [e, List.getElem?_append_left hl]
  exact h
mutual
theorem Rep.mono (le : W.Le W') : ∀ {v : V} {d : D}, Rep K W v d → Rep K W' v d
  | _, _, .non => .non
  | _, _, .bl _ => .bl _
  | _, _, .int _ => .int _
  | _, _, .str _ => .str _
  | _, _, .tup h z l => .tup (le.g _ _ h) z (RepL.mono le l)
  | _, _, .lst h z l => .lst (le.g _ _ h) z (RepL.mono le l)
  | _, _, .scr h z => .scr (le.g.seq h) z
  | _, _, .ref h => .ref (le.at h)
theorem RepL.mono (le : W.Le W') : ∀ {v : List V} {d : List D}, RepL K W v d → RepL K W' v d
  | _, _, .nil => .nil
  | _, _, .cons h t => .cons (Rep.mono le h) (RepL.mono le t)
end
mutual
/-- the store cut at n: what names nothing behind n -/
theorem Rep.cut {n : Nat} : ∀ {v : V} {d : D}, Rep K W v d → d.low n = true → Rep K ⟨W.G, W.ρ.take n⟩ v d
  | _, _, .non, _ => .non
  | _, _, .bl _, _ => .bl _
  | _, _, .int _, _ => .int _
  | _, _, .str _, _ => .str _
  | _, _, .tup h z l, e => .tup h z (RepL.cut l (by simpa [D.low] using e))
  | _, _, .lst h z l, e => .lst h z (RepL.cut l (by simpa [D.low] using e))
  | _, _, .scr h z, _ => .scr h z
  | _, _, .ref (i := i) h, e => .ref (by
      have e' : i < n := by simpa [D.low] using e
      show (W.ρ.take n)[i]? = _
      rw [List.getElem?_take]
      simp [e', h])
theorem RepL.cut {n : Nat} : ∀ {v : List V} {d : List D}, RepL K W v d → D.lows n d = true → RepL K ⟨W.G, W.ρ.take n⟩ v d
  | _, _, .nil, _ => .nil
  | _, _, .cons h t, e => by
    rw [D.lows, Bool.and_eq_true] at e
    exact .cons (Rep.cut h e.1) (RepL.cut t e.2)
end
mutual
theorem Rep.low : ∀ {v : V} {d : D}, Rep K W v d → d.low W.ρ.length = true
  | _, _, .non => by simp [D.low]
  | _, _, .bl _ => by simp [D.low]
  | _, _, .int _ => by simp [D.low]
  | _, _, .str _ => by simp [D.low]
  | _, _, .tup h z l => by rw [D.low]; exact RepL.low l
  | _, _, .lst h z l => by rw [D.low]; exact RepL.low l
  | _, _, .scr h z => by simp [D.low]
  | _, _, .ref h => by
    rw [D.low]
    exact decide_eq_true (List.getElem?_eq_some_iff.mp h).1
theorem RepL.low : ∀ {v : List V} {d : List D}, RepL K W v d → D.lows W.ρ.length d = true
  | _, _, .nil => by simp [D.lows]
  | _, _, .cons h t => by rw [D.lows, Rep.low h, RepL.low t]; rfl
end
end

/-- the classes' addresses; the tables of code objects, with the names that they bear -/
structure Cl where
  f : Nat → Option Addr
  T : List (Addr × Str)
instance : CoeFun Cl fun _ => Nat → Option Addr := ⟨Cl.f⟩
/-- an object that is no table of code objects -/
def Pr (H : Hp) (a : Addr) : Prop := ∃ o, H a = some o ∧ ∀ ps, o ≠ .tbl ps
theorem Pr.ne {H : Hp} {a : Addr} (h : Pr H a) : H a ≠ none := let ⟨o, e, _⟩ := h; by rw [e]; simp
theorem not_pr {H : Hp} {a : Addr} (h : H a = none) : ¬ Pr H a := fun z => z.ne h
/-- an instance's attributes -/
inductive RepF (K : PySem.W.Frag) (W : Wd) : List (Str × V) → List (Str × D) → Prop
  | nil : RepF K W [] []
  | cons {f : Str} {v : V} {d : D} {vs : List (Str × V)} {ds : List (Str × D)} : Rep K W v d → RepF K W vs ds → RepF K W ((f, v) :: vs) ((f, d) :: ds)
/-- an entry's value as a value of the layer -/
def valRel (K : PySem.W.Frag) (W : Wd) (u : Value) (d : D) : Prop := ∃ v, RelV v u ∧ Rep K W v d
mutual
/-- a key as the library's nested key -/
def D.nk : D → NestedKey
  | .int i => .num i
  | .str s => .text s
  | .tup xs => .tup (D.nks xs)
  | _ => .none
def D.nks : List D → List NestedKey
  | [] => []
  | x :: xs => D.nk x :: D.nks xs
end
/-- a dict's entries -/
inductive RepE (K : PySem.W.Frag) (w : World) (W : Wd) : List DictEntry → List (D × D) → Prop
  | nil : RepE K w W [] []
  | cons {e : DictEntry} {k v : D} {es : List DictEntry} {kvs : List (D × D)} : k.key 6 = true → valRel K W e.key k → e.hash = NestedKey.hash w k.nk → valRel K W e.val v → RepE K w W es kvs → RepE K w W (e :: es) ((k, v) :: kvs)
/-- the object o is a dict of the entries kvs -/
def DicO (K : PySem.W.Frag) (w : World) (W : Wd) (a : Addr) (o : Obj) (kvs : List (D × D)) : Prop :=
  dicOn = true ∧ (a == sysModules) = false ∧ kvs.length ≤ sizeLine ∧ ∃ es ep, o.ExactDict ∧ o.data = .dict es ep ∧ RepE K w W es.toList kvs ∧ (kvs.map (·.1.nk)).Nodup
abbrev exactly (a : Addr) (o : Obj) : HO := .ext fun h => h.get? a = some o
/-- the store's object o at a -/
def OAt (K : PySem.W.Frag) (w : World) (cls : Cl) (W : Wd) (H : Hp) (a : Addr) : O → Prop
  | .lst ds => ∃ xs, H a = some (.lst xs) ∧ RepL K W xs ds ∧ ds.length ≤ sizeLine
  | .dic kvs => ∃ o, H a = some (exactly a o) ∧ DicO K w W a o kvs
  | .lck kvs => ∃ o od, H a = some (.frz od (exactly a o)) ∧ DicO K w W a o kvs
  | .ins c fs => ∃ C dx vs, cls c = some C ∧ H a = some (.ins C dx vs) ∧ RepF K W vs fs
theorem get_rep (o : Obj) (n : Nat) (b : Addr) (hf : ∀ c d s, o ≠ ⟨c, d, .freed, s⟩) : ({ (default : Heap) with objs := Array.replicate (n + 1) o } : Heap).get? b = if b ≤ n then some o else none := by
  unfold Heap.get?
  by_cases h : b ≤ n
  · rw [if_pos h]
    have e : (Array.replicate (n + 1) o)[b]? = some o := by rw [Array.getElem?_replicate, if_pos (Nat.lt_succ_of_le h)]
    simp only [e]
    obtain ⟨c, d, x, s⟩ := o
    cases x <;> first | rfl | exact absurd rfl (hf _ _ _)
  · rw [if_neg h]
    have e : (Array.replicate (n + 1) o)[b]? = none := by rw [Array.getElem?_replicate, if_neg fun z => h (Nat.le_of_lt_succ z)]
    simp only [e]
theorem exactly_ne {a c : Addr} {o : Obj} {q : Str} : exactly a o ≠ LamX.CodeO c q := fun z => by
  have key : ∀ cv : Value, ({ cls := cv, data := .fields #[.none, .str q 0] } : Obj) = o := fun cv => by
    have hf : ∀ x d s, ({ cls := cv, data := .fields #[.none, .str q 0] } : Obj) ≠ ⟨x, d, .freed, s⟩ := fun x d s e => by
      have := congrArg Obj.data e
      cases this
    have e1 : LamX.CodeO c q = exactly a o := z.symm
    unfold LamX.CodeO at e1
    injection e1 with e2
    have e3 := congrFun e2 { (default : Heap) with objs := Array.replicate (c + 1) ({ cls := cv, data := .fields #[.none, .str q 0] } : Obj) }
    have e4 := e3.mp ⟨_, _, 0, by rw [get_rep _ _ _ hf, if_pos (Nat.le_refl _)], rfl, rfl⟩
    rw [get_rep _ _ _ hf] at e4
    split at e4
    · exact Option.some.inj e4
    · cases e4
  have h1 := key .none
  have h2 := key .ellipsis
  rw [← h2] at h1
  have := congrArg Obj.cls h1
  cases this
theorem OAt.pr {K : PySem.W.Frag} {w : World} {cls : Cl} {W : Wd} {H : Hp} {a : Addr} {o : O} (h : OAt K w cls W H a o) : Pr H a ∧ ∀ c q, H a ≠ some (LamX.CodeO c q) := by
  cases o with
  | lst ds => obtain ⟨xs, q, _⟩ := h; exact ⟨⟨_, q, fun ps z => by cases z⟩, fun c n z => by rw [q] at z; unfold LamX.CodeO at z; cases z⟩
  | dic kvs => obtain ⟨ob, q, _⟩ := h; exact ⟨⟨_, q, fun ps z => by cases z⟩, fun c n z => by rw [q] at z; exact exactly_ne (Option.some.inj z)⟩
  | lck kvs => obtain ⟨ob, od, q, _⟩ := h; exact ⟨⟨_, q, fun ps z => by cases z⟩, fun c n z => by rw [q] at z; unfold LamX.CodeO at z; cases z⟩
  | ins c fs => obtain ⟨C, dx, vs, q1, q2, r⟩ := h; exact ⟨⟨_, q2, fun ps z => by cases z⟩, fun c n z => by rw [q2] at z; unfold LamX.CodeO at z; cases z⟩
/-- the store stands in the heap -/
structure Ag (K : PySem.W.Frag) (w : World) (cls : Cl) (W : Wd) (st : Store) (H : Hp) : Prop where
  sub : Same W.G H
  len : W.ρ.length = st.length
  nd : W.ρ.Nodup
  out : ∀ a ∈ W.ρ, W.G a = none
  obj : ∀ (i : Nat) (o : O) (a : Addr), st[i]? = some o → W.ρ[i]? = some a → OAt K w cls W H a o
  ntb : ∀ a ps, W.G a ≠ some (.tbl ps)
  tab : LamX.Tabs cls.T H
/-- from one state to a later one -/
structure Ext (W : Wd) (H : Hp) (W' : Wd) (H' : Hp) : Prop where
  g : Same W.G W'.G
  r : ∃ more, W'.ρ = W.ρ ++ more ∧ ∀ a ∈ more, ¬ Pr H a
  fr : ∀ a o, H a = some o → (∀ ps, o ≠ .tbl ps) → a ∉ W.ρ → H' a = some o
  dom : ∀ a, Pr H a → Pr H' a
  gn : ∀ a, W'.G a ≠ none → W.G a ≠ none ∨ ¬ Pr H a
  fz : ∀ a o u, H a = some (.frz o u) → H' a = some (.frz o u)
section
variable {K : PySem.W.Frag} {w : World} {cls : Cl} {W W' W1 W2 : Wd} {H H' H1 H2 : Hp} {st : Store}
theorem Ext.refl (W : Wd) (H : Hp) : Ext W H W H := ⟨Same.refl _, ⟨[], by simp, by simp⟩, fun _ _ e _ _ => e, fun _ h => h, fun _ h => .inl h, fun _ _ _ e => e⟩
theorem Ext.le (x : Ext W H W' H') : W.Le W' := ⟨x.g, let ⟨m, e, _⟩ := x.r; ⟨m, e⟩⟩
theorem Ext.trans (a : Ext W H W1 H1) (b : Ext W1 H1 W2 H2) : Ext W H W2 H2 := by
  obtain ⟨m1, e1, n1⟩ := a.r
  obtain ⟨m2, e2, n2⟩ := b.r
  refine ⟨a.g.trans b.g, ⟨m1 ++ m2, by rw [e2, e1, List.append_assoc], fun c hc => ?_⟩, fun c o e ho hn => ?_, fun c h => b.dom c (a.dom c h), fun c h => ?_, fun c o u e => b.fz c o u (a.fz c o u e)⟩
  · rcases List.mem_append.mp hc with hc | hc
    · exact n1 c hc
    · exact fun q => n2 c hc (a.dom c q)
  · refine b.fr c o (a.fr c o e ho hn) ho fun hm => ?_
    rw [e1] at hm
    rcases List.mem_append.mp hm with hm | hm
    · exact hn hm
    · exact n1 c hm ⟨o, e, ho⟩
  · rcases b.gn c h with q | q
    · exact a.gn c q
    · exact .inr fun z => q (a.dom c z)
theorem RepF.mono (le : W.Le W') : ∀ {vs : List (Str × V)} {ds : List (Str × D)}, RepF K W vs ds → RepF K W' vs ds
  | _, _, .nil => .nil
  | _, _, .cons r t => .cons (r.mono le) (RepF.mono le t)
theorem valRel.mono (le : W.Le W') {u : Value} {d : D} (h : valRel K W u d) : valRel K W' u d := let ⟨v, r, q⟩ := h; ⟨v, r, q.mono le⟩
theorem RepE.mono (le : W.Le W') : ∀ {es : List DictEntry} {kvs : List (D × D)}, RepE K w W es kvs → RepE K w W' es kvs
  | _, _, .nil => .nil
  | _, _, .cons a b c d t => .cons a (b.mono le) c (d.mono le) (RepE.mono le t)
theorem DicO.mono (le : W.Le W') {a : Addr} {o : Obj} {kvs : List (D × D)} (h : DicO K w W a o kvs) : DicO K w W' a o kvs := by
  obtain ⟨on, s, z, es, ep, x, d, r, n⟩ := h
  exact ⟨on, s, z, es, ep, x, d, r.mono le, n⟩
/-- an object that is as it was -/
theorem OAt.keep (le : W.Le W') {a : Addr} {o : O} (h : OAt K w cls W H a o) (e : H' a = H a) : OAt K w cls W' H' a o := by
  cases o with
  | lst ds => obtain ⟨xs, q, r, z⟩ := h; exact ⟨xs, e.trans q, r.mono le, z⟩
  | dic kvs => obtain ⟨ob, q, r⟩ := h; exact ⟨ob, e.trans q, r.mono le⟩
  | lck kvs => obtain ⟨ob, od, q, r⟩ := h; exact ⟨ob, od, e.trans q, r.mono le⟩
  | ins c fs => obtain ⟨C, dx, vs, q1, q2, r⟩ := h; exact ⟨C, dx, vs, q1, e.trans q2, r.mono le⟩
theorem OAt.there {a : Addr} {o : O} (h : OAt K w cls W H a o) : H a ≠ none := h.pr.1.ne
theorem Ag.at (A : Ag K w cls W st H) {i : Nat} {a : Addr} (h : W.ρ[i]? = some a) : ∃ o, st[i]? = some o ∧ OAt K w cls W H a o := by
  have hl : i < st.length := by rw [← A.len]; exact (List.getElem?_eq_some_iff.mp h).1
  exact ⟨st[i], List.getElem?_eq_getElem hl, A.obj i _ a (List.getElem?_eq_getElem hl) h⟩
theorem Ag.own (A : Ag K w cls W st H) {a : Addr} (h : a ∈ W.ρ) : Pr H a ∧ ∀ c q, H a ≠ some (LamX.CodeO c q) := by
  obtain ⟨i, hi, e⟩ := List.getElem_of_mem h
  obtain ⟨o, _, q⟩ := A.at (i := i) (a := a) (by rw [List.getElem?_eq_getElem hi, e])
  exact q.pr
theorem Ag.tracked (A : Ag K w cls W st H) {a : Addr} (h : a ∈ W.ρ) : H a ≠ none := (A.own h).1.ne
/-- the tables stay where the store's own objects alone are changed -/
theorem Ag.tabs (A : Ag K w cls W st H) {a : Addr} (h : a ∈ W.ρ) (kp : ∀ b, b ≠ a → H' b = H b) : LamX.Tabs cls.T H' := fun p hp => by
  obtain ⟨⟨o, e, n⟩, nc⟩ := A.own h
  obtain ⟨ps, h1, h2, h3⟩ := A.tab p hp
  refine ⟨ps, ?_, h2, fun pos cv hc => ?_⟩
  · rw [kp _ fun z => ?_]
    · exact h1
    · rw [z, e] at h1
      exact n ps (Option.some.inj h1)
  · obtain ⟨c, e1, e2⟩ := h3 pos cv hc
    refine ⟨c, e1, ?_⟩
    rw [kp _ fun z => ?_]
    · exact e2
    · subst z
      exact nc _ _ e2
theorem nodup_at {α : Type} {l : List α} (hd : l.Nodup) {i j : Nat} {x : α} (h1 : l[i]? = some x) (h2 : l[j]? = some x) : i = j := by
  obtain ⟨a1, b1⟩ := List.getElem?_eq_some_iff.mp h1
  obtain ⟨a2, b2⟩ := List.getElem?_eq_some_iff.mp h2
  exact (List.getElem_inj hd).mp (b1.trans b2.symm)
/-- a new object that nobody but the frozen part knows -/
theorem Ag.frozen (A : Ag K w cls W st H) {p : Addr} {o : HO} (hp : H p = none) (ho : ∀ ps, o ≠ .tbl ps := by intro _ z; cases z) : Ag K w cls ⟨upd W.G p o, W.ρ⟩ st (upd H p o) ∧ Ext W H ⟨upd W.G p o, W.ρ⟩ (upd H p o) := by
  have gn : W.G p = none := by
    cases q : W.G p with
    | none => rfl
    | some u => rw [A.sub _ _ q] at hp; cases hp
  have x : Ext W H ⟨upd W.G p o, W.ρ⟩ (upd H p o) := by
    refine ⟨fun b u e => ?_, ⟨[], by simp, by simp⟩, fun b u e _ _ => ?_, fun b ⟨u, e, n⟩ => ⟨u, ?_, n⟩, fun b h => ?_, fun b u v e => by rw [upd_ne (ne_of_none e hp)]; exact e⟩
    · show upd W.G p o b = some u
      rw [upd_ne (ne_of_none e gn)]; exact e
    · rw [upd_ne (ne_of_none e hp)]; exact e
    · rw [upd_ne (ne_of_none e hp)]; exact e
    · by_cases hb : b = p
      · subst hb; exact .inr (not_pr hp)
      · have h' : upd W.G p o b ≠ none := h
        rw [upd_ne hb] at h'
        exact .inl h'
  refine ⟨⟨fun b u e => ?_, A.len, A.nd, fun a ha => ?_, fun i ob a h1 h2 => ?_, fun b ps e => ?_, A.tab.ext fun b u e => by rw [upd_ne (ne_of_none e hp)]; exact e⟩, x⟩
  · by_cases hb : b = p
    · subst hb
      have e' : upd W.G b o b = some u := e
      rw [upd_same] at e' ⊢; exact e'
    · have e' : upd W.G p o b = some u := e
      rw [upd_ne hb] at e' ⊢
      exact A.sub _ _ e'
  · show upd W.G p o a = none
    have ne : a ≠ p := fun z => A.tracked ha (by rw [z]; exact hp)
    rw [upd_ne ne]
    exact A.out a ha
  · have ne : a ≠ p := fun z => A.tracked (List.mem_of_getElem? h2) (by rw [z]; exact hp)
    exact (A.obj i ob a h1 h2).keep x.le (upd_ne ne)
  · have e' : upd W.G p o b = some (.tbl ps) := e
    by_cases hb : b = p
    · subst hb
      rw [upd_same] at e'
      exact ho ps (Option.some.inj e')
    · rw [upd_ne hb] at e'
      exact A.ntb b ps e'
/-- a new object of the store -/
theorem Ag.newObj (A : Ag K w cls W st H) {p : Addr} {o : O} (hp : H p = none) (kp : ∀ b u, H b = some u → H' b = some u) (hn : H' p ≠ none) (ho : OAt K w cls ⟨W.G, W.ρ ++ [p]⟩ H' p o) :
    Ag K w cls ⟨W.G, W.ρ ++ [p]⟩ (st ++ [o]) H' ∧ Ext W H ⟨W.G, W.ρ ++ [p]⟩ H' := by
  have gn : W.G p = none := by
    cases q : W.G p with
    | none => rfl
    | some u => rw [A.sub _ _ q] at hp; cases hp
  have x : Ext W H ⟨W.G, W.ρ ++ [p]⟩ H' := by
    refine ⟨Same.refl _, ⟨[p], rfl, fun a ha => ?_⟩, fun b u e _ _ => kp b u e, fun b ⟨u, e, n⟩ => ⟨u, kp b u e, n⟩, fun _ h => .inl h, fun b u v e => kp b _ e⟩
    have e : a = p := by simpa using ha
    subst e; exact not_pr hp
  refine ⟨⟨fun b u e => kp b u (A.sub b u e), by simp [A.len], ?_, fun a ha => ?_, fun i ob a h1 h2 => ?_, A.ntb, A.tab.ext kp⟩, x⟩
  · refine List.nodup_append.mpr ⟨A.nd, by simp, fun a ha b hb e => ?_⟩
    have e' : b = p := by simpa using hb
    subst e'; subst e
    exact A.tracked ha hp
  · rcases List.mem_append.mp ha with ha | ha
    · exact A.out a ha
    · have e : a = p := by simpa using ha
      subst e; exact gn
  · have h2 : (W.ρ ++ [p])[i]? = some a := h2
    by_cases hi : i < W.ρ.length
    · rw [List.getElem?_append_left hi] at h2
      rw [List.getElem?_append_left (by rw [← A.len]; exact hi)] at h1
      have e : H' a = H a := by
        cases q : H a with
        | none => exact absurd q (A.tracked (List.mem_of_getElem? h2))
        | some u => exact kp a u q
      exact (A.obj i ob a h1 h2).keep x.le e
    · rw [List.getElem?_append_right (by omega)] at h2
      rw [List.getElem?_append_right (by rw [← A.len]; omega)] at h1
      have hz : i - W.ρ.length = 0 := by
        have := (List.getElem?_eq_some_iff.mp h2).1
        simp at this; omega
      rw [hz] at h2
      rw [← A.len, hz] at h1
      simp at h1 h2
      subst h1; subst h2
      exact ho
/-- an object of the store is changed -/
theorem Ag.setObj (A : Ag K w cls W st H) {i : Nat} {a : Addr} {o : O} (hi : W.ρ[i]? = some a) (kp : ∀ b, b ≠ a → H' b = H b) (ho : OAt K w cls W H' a o) (nf : ∀ x y, H a ≠ some (.frz x y)) :
    Ag K w cls W (st.set i o) H' ∧ Ext W H W H' := by
  have am : a ∈ W.ρ := List.mem_of_getElem? hi
  have x : Ext W H W H' := by
    refine ⟨Same.refl _, ⟨[], by simp, by simp⟩, fun b u e _ hn => ?_, fun b h => ?_, fun _ h => .inl h, fun b u v e => by rw [kp b fun z => nf u v (z ▸ e)]; exact e⟩
    · rw [kp b fun z => hn (z ▸ am)]; exact e
    · by_cases hb : b = a
      · subst hb; exact ho.pr.1
      · obtain ⟨u, e, n⟩ := h
        exact ⟨u, by rw [kp b hb]; exact e, n⟩
  refine ⟨⟨fun b u e => ?_, by simp [A.len], A.nd, A.out, fun j ob b h1 h2 => ?_, A.ntb, A.tabs am kp⟩, x⟩
  · rw [kp b fun z => by rw [z, A.out a am] at e; cases e]
    exact A.sub b u e
  · by_cases hj : j = i
    · subst hj
      rw [hi] at h2; cases h2
      rw [List.getElem?_set_self (by rw [← A.len]; exact (List.getElem?_eq_some_iff.mp hi).1)] at h1
      cases h1
      exact ho
    · rw [List.getElem?_set_ne (Ne.symm hj)] at h1
      have ne : b ≠ a := fun z => by
        subst z
        exact hj (nodup_at A.nd h2 hi)
      exact (A.obj j ob b h1 h2).keep (Wd.Le.refl _) (kp b ne)
/-- values in the slots -/
structure EnvOk (K : PySem.W.Frag) (W : Wd) (σ : L2.St) (env : Env) : Prop where
  len : env.length = σ.length
  val : ∀ (i : Nat) (d : D), env[i]? = some (some d) → ∃ v, σ[i]? = some (some v) ∧ Rep K W v d
theorem EnvOk.mono (le : W.Le W') {σ : L2.St} {env : Env} (h : EnvOk K W σ env) : EnvOk K W' σ env := ⟨h.len, fun i d e => let ⟨v, a, b⟩ := h.val i d e; ⟨v, a, b.mono le⟩⟩
theorem EnvOk.set {σ : L2.St} {env : Env} (h : EnvOk K W σ env) {v : V} {d : D} (i : Nat) (r : Rep K W v d) : EnvOk K W (σ.set i (some v)) (env.set i (some d)) := by
  refine ⟨by simp [h.len], fun j e q => ?_⟩
  by_cases hj : i = j
  · subst hj
    by_cases hl : i < env.length
    · rw [List.getElem?_set_self hl] at q
      cases q
      exact ⟨v, List.getElem?_set_self (by rw [← h.len]; exact hl), r⟩
    · rw [List.getElem?_eq_none (by simp; omega)] at q; cases q
  · rw [List.getElem?_set_ne hj] at q ⊢
    exact h.val j e q
theorem EnvOk.setNone {σ : L2.St} {env : Env} (h : EnvOk K W σ env) (i : Nat) : EnvOk K W (σ.set i none) (env.set i none) := by
  refine ⟨by simp [h.len], fun j e q => ?_⟩
  by_cases hj : i = j
  · subst hj
    by_cases hl : i < env.length
    · rw [List.getElem?_set_self hl] at q; cases q
    · rw [List.getElem?_eq_none (by simp; omega)] at q; cases q
  · rw [List.getElem?_set_ne hj] at q ⊢
    exact h.val j e q
theorem EnvOk.wipe {σ : L2.St} {env : Env} (h : EnvOk K W σ env) : ∀ vs : List Nat, EnvOk K W (L2.wipe σ vs) (wipes env vs)
  | [] => h
  | v :: vs => by
    unfold L2.wipe wipes
    exact (EnvOk.wipe h vs).setNone v
end
end EV
/-! EvD: the judgement (an expression's reading by the evaluator), operators. -/
namespace EV
open PySem PySem.Spec PyProof.Rows L2

/-- what is wanted of an exception of the k-th class -/
abbrev XW := Nat → Hp → Prop
section
variable {K : PySem.W.Frag} {w : World} {cls : Cl} {U : XW} {α β γ δ : Type}
/-- behind an evaluation -/
def Aft (K : PySem.W.Frag) (w : World) (cls : Cl) (U : XW) (rel : Wd → β → α → Prop) (W : Wd) (H : Hp) (r : R α) (Q : β → Hp → Prop) : Prop := match r with
  | .ok a st => ∀ b W' H', Ext W H W' H' → Ag K w cls W' st H' → rel W' b a → Q b H'
  | .err k st => ∀ W' H', Ext W H W' H' → Ag K w cls W' st H' → U k H'
  | .bad => False
variable {rel : Wd → β → α → Prop} {rel2 : Wd → δ → γ → Prop} {W W' W1 : Wd} {H H' H1 : Hp}
theorem Aft.mono {r : R α} {Q Q' : β → Hp → Prop} (h : Aft K w cls U rel W H r Q) (m : ∀ b H', Q b H' → Q' b H') : Aft K w cls U rel W H r Q' := by
  cases r with
  | ok a st => exact fun b W' H' x A q => m b H' (h b W' H' x A q)
  | err k st => exact h
  | bad => exact h
theorem Aft.shift {r : R α} {Q : β → Hp → Prop} (x : Ext W H W1 H1) (h : Aft K w cls U rel W H r Q) : Aft K w cls U rel W1 H1 r Q := by
  cases r with
  | ok a st => exact fun b W' H' x' A q => h b W' H' (x.trans x') A q
  | err k st => exact fun W' H' x' A => h W' H' (x.trans x') A
  | bad => exact h
theorem Aft.bind {r : R α} {f : α → Store → R γ} {Q : δ → Hp → Prop} (h : Aft K w cls U rel2 W H (r.bind f) Q) :
    Aft K w cls U rel W H r fun b H1 => ∃ W1 st a, Ext W H W1 H1 ∧ Ag K w cls W1 st H1 ∧ rel W1 b a ∧ Aft K w cls U rel2 W1 H1 (f a st) Q := by
  cases r with
  | ok a st => exact fun b W' H' x A q => ⟨W', st, a, x, A, q, Aft.shift x h⟩
  | err k st => exact h
  | bad => exact h
/-- the readings -/
def tD (K : PySem.W.Frag) (w : World) (cls : Cl) (U : XW) (den : Env → Store → R D) : TE := fun σ H Q => ∃ (W : Wd) (env : Env) (st : Store), EnvOk K W σ env ∧ Ag K w cls W st H ∧ Aft K w cls U (Rep K) W H (den env st) Q
def tDs (K : PySem.W.Frag) (w : World) (cls : Cl) (U : XW) (den : Env → Store → R (List D)) : TA := fun σ H Q => ∃ (W : Wd) (env : Env) (st : Store), EnvOk K W σ env ∧ Ag K w cls W st H ∧ Aft K w cls U (RepL K) W H (den env st) Q
def isB : Wd → Bool → D → Prop := fun _ b d => d = .bl b
def tDT (K : PySem.W.Frag) (w : World) (cls : Cl) (U : XW) (den : Env → Store → R D) : TT := fun σ H Q => ∃ (W : Wd) (env : Env) (st : Store), EnvOk K W σ env ∧ Ag K w cls W st H ∧ (∀ d st', den env st = .ok d st' → ∃ b, d = .bl b) ∧ Aft K w cls U isB W H (den env st) Q
end

theorem PE.mono {X : Cx} {e : Expr} {t t' : TE} (h : PE X e t) (m : ∀ σ H Q, t' σ H Q → t σ H Q) : PE X e t' := ⟨fun pins s σ H Q I q => h.run pins s σ H Q I (m σ H Q q)⟩
theorem PT.mono {X : Cx} {e : Expr} {t t' : TT} (h : PT X e t) (m : ∀ σ H Q, t' σ H Q → t σ H Q) : PT X e t' := ⟨fun pins s σ H Q I q => h.run pins s σ H Q I (m σ H Q q)⟩
theorem PA.mono {X : Cx} {e : List Expr} {t t' : TA} (h : PA X e t) (m : ∀ σ H Q, t' σ H Q → t σ H Q) : PA X e t' := ⟨fun pos pins s σ H Q I q => h.run pos pins s σ H Q I (m σ H Q q)⟩
theorem PS.mono {X : Cx} {e : Stmt} {t t' : TS} (h : PS X e t) (m : ∀ D σ H, t' D σ H → t D σ H) : PS X e t' := ⟨fun pins s σ H D I q => h.run pins s σ H D I (m D σ H q)⟩
theorem PSs.mono {X : Cx} {e : List Stmt} {t t' : TS} (h : PSs X e t) (m : ∀ D σ H, t' D σ H → t D σ H) : PSs X e t' := ⟨fun pins s σ H D I q => h.run pins s σ H D I (m D σ H q)⟩

section
variable {X : Cx} {cls : Cl} {U : XW}
/-! ### inversions -/
theorem Rep.int_inv {K : PySem.W.Frag} {W : Wd} {x : V} {i : Int} (h : Rep K W x (.int i)) : x = .int i := by cases h; rfl
theorem Rep.bl_inv {K : PySem.W.Frag} {W : Wd} {x : V} {i : Bool} (h : Rep K W x (.bl i)) : x = .bl i := by cases h; rfl
theorem Rep.str_inv {K : PySem.W.Frag} {W : Wd} {x : V} {i : Str} (h : Rep K W x (.str i)) : x = .str i := by cases h; rfl
theorem Rep.non_inv {K : PySem.W.Frag} {W : Wd} {x : V} (h : Rep K W x .non) : x = .non := by cases h; rfl
theorem Rep.tup_inv {K : PySem.W.Frag} {W : Wd} {x : V} {ds : List D} (h : Rep K W x (.tup ds)) : ∃ a us xs, x = .ref a ∧ W.G a = some (FT us xs) ∧ ds.length ≤ sizeLine ∧ RepL K W xs ds := by
  cases h with
  | tup a b c => exact ⟨_, _, _, rfl, a, b, c⟩
theorem Rep.lst_inv {K : PySem.W.Frag} {W : Wd} {x : V} {ds : List D} (h : Rep K W x (.lst ds)) : ∃ a xs, x = .ref a ∧ W.G a = some (.lst xs) ∧ ds.length ≤ sizeLine ∧ RepL K W xs ds := by
  cases h with
  | lst a b c => exact ⟨_, _, rfl, a, b, c⟩
theorem Rep.scr_inv {K : PySem.W.Frag} {W : Wd} {x : V} {ds : List Int} (h : Rep K W x (.scr ds)) : ∃ a, x = .ref a ∧ SqL K W.G a (ds.map V.int) ∧ ds.length ≤ sizeLine := by
  cases h with
  | scr a b => exact ⟨_, rfl, a, b⟩
theorem Rep.ref_inv {K : PySem.W.Frag} {W : Wd} {x : V} {i : Nat} (h : Rep K W x (.ref i)) : ∃ a, x = .ref a ∧ W.ρ[i]? = some a := by
  cases h with
  | ref a => exact ⟨_, rfl, a⟩
/-- a new frozen tuple or list -/
theorem Aft.newTup {W : Wd} {H : Hp} {st : Store} {ds : List D} {xs : List V} {Q : VK} (A : Ag X.K X.w cls W st H) (h : Aft X.K X.w cls U (Rep X.K) W H (.ok (.tup ds) st) Q) (r : RepL X.K W xs ds) (hz : ds.length ≤ sizeLine) : ∀ p us, H p = none → Q (.ref p) (upd H p (FT us xs)) := fun p us hp => by
  obtain ⟨A', x⟩ := A.frozen (o := FT us xs) hp
  exact h _ _ _ x A' (.tup (us := us) (xs := xs) upd_same hz (r.mono x.le))
theorem Aft.newLst {W : Wd} {H : Hp} {st : Store} {ds : List D} {xs : List V} {Q : VK} (A : Ag X.K X.w cls W st H) (h : Aft X.K X.w cls U (Rep X.K) W H (.ok (.lst ds) st) Q) (r : RepL X.K W xs ds) (hz : ds.length ≤ sizeLine) : ∀ p, H p = none → Q (.ref p) (upd H p (.lst xs)) := fun p hp => by
  obtain ⟨A', x⟩ := A.frozen (o := .lst xs) hp
  exact h _ _ _ x A' (.lst (xs := xs) upd_same hz (r.mono x.le))
/-- .. a new list of the store -/
theorem Aft.newMut {W : Wd} {H : Hp} {st : Store} {ds : List D} {xs : List V} {Q : VK} (A : Ag X.K X.w cls W st H) (h : Aft X.K X.w cls U (Rep X.K) W H (.ok (.ref st.length) (st ++ [.lst ds])) Q) (r : RepL X.K W xs ds) (hz : ds.length ≤ sizeLine) : ∀ p, H p = none → Q (.ref p) (upd H p (.lst xs)) := fun p hp => by
  have le : W.Le ⟨W.G, W.ρ ++ [p]⟩ := ⟨Same.refl _, [p], rfl⟩
  obtain ⟨A', x⟩ := A.newObj (H' := upd H p (.lst xs)) (o := .lst ds) hp (fun b u e => by rw [upd_ne (ne_of_none e hp)]; exact e) (by rw [upd_same]; simp) ⟨xs, upd_same, r.mono le, hz⟩
  refine h _ _ _ x A' (.ref ?_)
  show (W.ρ ++ [p])[st.length]? = some p
  rw [← A.len, List.getElem?_append_right (Nat.le_refl _)]
  simp
theorem Aft.val {W : Wd} {H : Hp} {st : Store} {d : D} {v : V} {Q : VK} (A : Ag X.K X.w cls W st H) (h : Aft X.K X.w cls U (Rep X.K) W H (.ok d st) Q) (r : Rep X.K W v d) : Q v H := h v W H (Ext.refl _ _) A r
theorem Aft.test {α β : Type} {rel : Wd → β → α → Prop} {W : Wd} {H : Hp} {b : Bool} {r : R α} {Q : β → Hp → Prop} (h : Aft X.K X.w cls U rel W H (R.test b r) Q) : b = true ∧ Aft X.K X.w cls U rel W H r Q := by
  cases b with
  | true => exact ⟨rfl, h⟩
  | false => exact h.elim
theorem sizeLine_lim : lim = sizeLine := by rw [sizeLine_eq]; rfl

/-! ### tuples by their very object -/
theorem SqT_ft {K : PySem.W.Frag} {H : Hp} {a : Addr} {us : List Value} {xs : List V} (h : H a = some (FT us xs)) : SqT K H a xs := .inl (.inr ⟨_, h⟩)
/-- a new tuple -/
theorem _root_.L2.Inv.laidT {pins : List (Addr × Obj)} {σ : L2.St} {H : Hp} {s : Shared} {us : List Value} {xs : List V} {t' : Nat} (I : Inv X pins σ H s) (r : Vals xs us) (hz : xs.length ≤ sizeLine) :
    Inv X pins σ (upd H s.heap.objs.size (FT us xs)) { s with heap := s.heap.push (tupOb us), toks := t' } :=
  I.laid (fun b u e => Heap.get?_push_of_some _ e) (Nat.le_refl _) ⟨Heap.get?_push_size _ rfl, hz, us, r, IsTup.new _ _⟩
def tTupF (t : TA) : TE := fun σ H Q => t σ H fun xs H1 => xs.length ≤ sizeLine ∧ ∀ p us, H1 p = none → Q (.ref p) (upd H1 p (FT us xs))
theorem pe_tupF {es : List Expr} {t : TA} {pos : Pos} {x1} (h : PA X es t) : PE X (.Tuple es x1 pos) (tTupF t) := by
  refine ⟨fun pins s σ H Q I hq => ?_⟩
  refine wpAny_Tuple_spliced (thn (h.run pos pins s σ H _ I hq) fun us s1 ⟨xs, H1, I1, r, z, q⟩ => ⟨by rw [← r.length]; exact z, ?_⟩)
  exact ⟨.ref s1.heap.objs.size, _, I1.laidT (t' := s1.toks) r z, rfl, q _ us (I1.hok.fresh (Nat.le_refl _))⟩
theorem op_catF : OpR X (binaryOp .Add) (fun x y H Q => ∃ a b xs ys, x = .ref a ∧ y = .ref b ∧ SqT X.K H a xs ∧ SqT X.K H b ys ∧ xs.length + ys.length ≤ sizeLine ∧
    (xs = [] → Q (.ref b) H) ∧ (xs ≠ [] → ys = [] → Q (.ref a) H) ∧ (xs ≠ [] → ys ≠ [] → ∀ p us, H p = none → Q (.ref p) (upd H p (FT us (xs ++ ys))))) := by
  intro pins s σ H x y v u Q I rx ry h
  obtain ⟨a, b, xs, ys, rfl, rfl, ha, hb, hz, q0, q1, q2⟩ := h
  cases rx
  cases ry
  obtain ⟨its, r1, p1, _⟩ := I.tuple ha
  obtain ⟨its2, r2, p2, _⟩ := I.tuple hb
  by_cases hx : xs = []
  · subst hx
    cases r1
    exact cat_tup0 p1 p2 ⟨.ref b, H, I, rfl, q0 rfl⟩
  · refine HT.cat_tup p1 p2 (fun z => hx (r1.nil_iff.mp z)) (fun z => ⟨.ref a, H, I, rfl, q1 hx (r2.nil_iff.mp z)⟩) (fun z => ?_) (by rw [← r1.length, ← r2.length]; exact hz)
    exact ⟨.ref s.heap.objs.size, _, I.laidT (t' := s.toks) (r1.append r2) (by rw [List.length_append]; exact hz), rfl, q2 hx (fun w => z (r2.nil_iff.mpr w)) _ _ (I.hok.fresh (Nat.le_refl _))⟩
theorem sl_tupF : SlR X (fun x lo hi H Q => ∃ a xs, x = .ref a ∧ SqT X.K H a xs ∧
    (HT.sIx xs.length 0 lo = 0 ∧ HT.sIx xs.length xs.length hi = xs.length → Q (.ref a) H) ∧ (¬ (HT.sIx xs.length 0 lo = 0 ∧ HT.sIx xs.length xs.length hi = xs.length) → ∀ p us, H p = none → Q (.ref p) (upd H p (FT us (cutV xs lo hi))))) := by
  intro pins s σ H x v vl vu lo hi sl Q I rx hs pl pu h
  obtain ⟨a, xs, rfl, hx, q1, q2⟩ := h
  cases rx
  obtain ⟨its, r, ht, hz⟩ := I.tuple hx
  have hlen : its.toArray.size = xs.length := by rw [List.size_toArray]; exact r.length.symm
  refine ⟨"tuple", _, PyProof.Rows.slot_tuple_getitem.lookup, ht.typeIs, ?_⟩
  by_cases hw : HT.sIx xs.length 0 lo = 0 ∧ HT.sIx xs.length xs.length hi = xs.length
  · exact getItem_tuple_whole ht hs pl pu (by rw [hlen]; exact hw) ⟨.ref a, H, I, rfl, q1 hw⟩
  · refine HT.getItem_tuple_cut ht hs pl pu (by rw [hlen]; exact hw) ?_ (by rw [hlen]; exact hz)
    rw [hlen]
    exact ⟨.ref s.heap.objs.size, _, I.laidT (t' := s.toks) ((r.drop (HT.sIx xs.length 0 lo)).take (HT.sIx xs.length xs.length hi - HT.sIx xs.length 0 lo)) (Nat.le_trans (cutV_length xs lo hi) hz), rfl, q2 hw _ _ (I.hok.fresh (Nat.le_refl _))⟩
theorem call_tupleF : CallR X (.type "tuple") (fun xs H Q => ∃ p ys, xs = [.ref p] ∧ ((SqL X.K H p ys ∧ ∀ l us, H l = none → Q (.ref l) (upd H l (FT us ys))) ∨ (SqT X.K H p ys ∧ Q (.ref p) H))) := by
  intro pins s σ H xs us Q I r h
  obtain ⟨p, ys, rfl, h⟩ := h
  obtain ⟨u, rfl, rx⟩ := vals1 r
  cases rx
  rcases h with ⟨hq, q⟩ | ⟨hq, q⟩
  · obtain ⟨its, r', pl, hz⟩ := I.list hq
    have hlen := r'.length
    refine call_tuple_list pl.isList (fun h' kp => ?_) (by simp only [List.size_toArray] <;> omega)
    have I1 : Inv X pins σ H { s with heap := h' } := I.kept (t' := s.toks) kp
    exact ⟨.ref h'.objs.size, _, I1.laidT (t' := s.toks) r' hz, rfl, q _ _ (I1.hok.fresh (Nat.le_refl _))⟩
  · obtain ⟨its, r', pl, hz⟩ := I.tuple hq
    exact call_tuple_same pl ⟨.ref p, H, I, rfl, q⟩

/-! ### values -/
theorem d_var {i : Nat} {x : Str} {pos : Pos} (hN : X.N[i]? = some x) (hv : Vis X.env.scope x) (hd : (x == ("__debug__" : Str)) = false) (hcd : (x == ("__classdict__" : Str)) = false) (C : Ctx) : PE X (.Name x pos) (tD X.K X.w cls U (evE C (.var i))) := by
  refine PE.mono (pe_var hN hv hd hcd) fun σ H Q h => ?_
  obtain ⟨W, env, st, he, A, q⟩ := h
  rw [evE] at q
  cases e : env[i]? with
  | none => rw [e] at q; exact q.elim
  | some o =>
    cases o with
    | none => rw [e] at q; exact q.elim
    | some d =>
      rw [e] at q
      obtain ⟨v, h1, h2⟩ := he.val i d e
      exact ⟨v, h1, q.val A h2⟩
theorem d_con {e : Expr} {v : V} {d : D} (h : PE X e (tC v)) (r : ∀ W, Rep X.K W v d) (C : Ctx) : PE X e (tD X.K X.w cls U (evE C (.con d))) := by
  refine PE.mono h fun σ H Q h => ?_
  obtain ⟨W, env, st, he, A, q⟩ := h
  rw [evE] at q
  exact q.val A (r W)
theorem d_nil (C : Ctx) : PA X [] (tDs X.K X.w cls U (evEs C .nil)) := by
  refine PA.mono pa_nil fun σ H Q h => ?_
  obtain ⟨W, env, st, he, A, q⟩ := h
  rw [evEs] at q
  exact q [] W H (Ext.refl _ _) A .nil
theorem d_cons {e : Expr} {es : List Expr} {C : Ctx} {i : E} {is : Es} (h : PE X e (tD X.K X.w cls U (evE C i))) (t : PA X es (tDs X.K X.w cls U (evEs C is))) (hs : starEach (e :: es) X.env = (false, eval e X.env) :: starEach es X.env) : PA X (e :: es) (tDs X.K X.w cls U (evEs C (.cons i is))) := by
  refine PA.mono (pa_cons h t hs) fun σ H Q h => ?_
  obtain ⟨W, env, st, he, A, q⟩ := h
  rw [evEs] at q
  refine ⟨W, env, st, he, A, (q.bind).mono fun x H1 ⟨W1, st1, dx, x1, A1, r1, q1⟩ => ?_⟩
  refine ⟨W1, env, st1, he.mono x1.le, A1, (q1.bind).mono fun xs H2 ⟨W2, st2, dxs, x2, A2, r2, q2⟩ => ?_⟩
  exact q2 (x :: xs) W2 H2 (Ext.refl _ _) A2 (.cons (r1.mono x2.le) r2)
/-- two operands, then an operation by values -/
theorem d_two {C : Ctx} {a b : E} {f : D → D → Store → R D} {σ : L2.St} {H : Hp} {Q : VK} {r : R2} {den : Env → Store → R D} (hden : ∀ env st, den env st = (evE C a env st).bind fun x st => (evE C b env st).bind fun y st => f x y st)
    (hr : ∀ x y H Q, (∃ W st dx dy, Ag X.K X.w cls W st H ∧ Rep X.K W x dx ∧ Rep X.K W y dy ∧ Aft X.K X.w cls U (Rep X.K) W H (f dx dy st) Q) → r x y H Q)
    (h : tD X.K X.w cls U den σ H Q) : tOp r (tD X.K X.w cls U (evE C a)) (tD X.K X.w cls U (evE C b)) σ H Q := by
  obtain ⟨W, env, st, he, A, q⟩ := h
  rw [hden] at q
  refine ⟨W, env, st, he, A, (q.bind).mono fun x H1 ⟨W1, st1, dx, x1, A1, r1, q1⟩ => ?_⟩
  refine ⟨W1, env, st1, he.mono x1.le, A1, (q1.bind).mono fun y H2 ⟨W2, st2, dy, x2, A2, r2, q2⟩ => ?_⟩
  exact hr x y H2 Q ⟨W2, st2, dx, dy, A2, r1.mono x2.le, r2, q2⟩
def rBin (X : Cx) (cls : Cl) (U : XW) (f : D → D → Store → R D) : R2 := fun x y H Q => ∃ W st dx dy, Ag X.K X.w cls W st H ∧ Rep X.K W x dx ∧ Rep X.K W y dy ∧ Aft X.K X.w cls U (Rep X.K) W H (f dx dy st) Q

theorem mul_ok {i j : Int} (h : (decide (i.natAbs < 2 ^ 4000) && decide (j.natAbs < 2 ^ 4000) || decide (i.natAbs < 2 ^ 63) || decide (j.natAbs < 2 ^ 63)) = true) : CMul i j ∨ CMulW i j := by
  simp only [Bool.or_eq_true, Bool.and_eq_true, decide_eq_true_eq] at h
  rcases h with (⟨h1, h2⟩ | h) | h
  · exact .inr (wide_mul h1 h2 (by decide) (by decide) (by decide))
  · exact .inl (.inl (by omega))
  · exact .inl (.inr (by omega))

/-! tuple * int below two -/
theorem tuple_mul0 (l : Addr) (items : Array Value) (n : Nat) (dd : Option Addr) (sl : Array (Option Value)) (x : Int) (u : Tok) (c0 : (decide (x < -(2 ^ 63)) || decide (x ≥ 2 ^ 63)) = false) (c1 : (items.isEmpty || x == 1) = true) :
    Meets (Builtin.«tuple.__mul__» ⟨[.ref l, .int x u], []⟩) (fun _ R s => s.heap.get? l = some { cls := .type "tuple", dict := dd, data := .seq items n, slots := sl } ∧ R (.ok (.ret (Value.ref l))) s) :=
  .of_wp fun prog w A R s h => by
    obtain ⟨hp, g, d, tk, os⟩ := s
    obtain ⟨hl, h⟩ := h
    have f1 := AutoSeq1.idx_int
    wp_walk using wpAny_loadPart' hl
    repeat (first
      | (refine wpAny_ite_false (decide_eq_false (by rw [c0]; exact Bool.false_ne_true)) ?_; wp_walk using wpAny_loadPart' hl)
      | (refine wpAny_ite_true (decide_eq_true c1) ?_; wp_walk using wpAny_loadPart' hl))
    exact ⟨_, rfl, h⟩
theorem tuple_mulE (l : Addr) (items : Array Value) (n : Nat) (dd : Option Addr) (sl : Array (Option Value)) (x : Int) (u : Tok) (c0 : (decide (x < -(2 ^ 63)) || decide (x ≥ 2 ^ 63)) = false) (c1 : (items.isEmpty || x == 1) = false) (c2 : (decide (x ≤ 0) || items.isEmpty) = true) :
    Meets (Builtin.«tuple.__mul__» ⟨[.ref l, .int x u], []⟩) (fun _ R s => s.heap.get? l = some { cls := .type "tuple", dict := dd, data := .seq items n, slots := sl } ∧ R (.ok (.ret (Value.ref s.heap.objs.size))) { s with heap := s.heap.push { cls := Value.type "tuple", data := Data.seq #[] }, toks := s.toks }) :=
  .of_wp fun prog w A R s h => by
    obtain ⟨hp, g, d, tk, os⟩ := s
    obtain ⟨hl, h⟩ := h
    have f1 := AutoSeq1.idx_int
    wp_walk using wpAny_loadPart' hl
    repeat (first
      | (refine wpAny_ite_false (decide_eq_false (by rw [c0]; exact Bool.false_ne_true)) ?_; wp_walk using wpAny_loadPart' hl)
      | (refine wpAny_ite_false (decide_eq_false (by rw [c1]; exact Bool.false_ne_true)) ?_; wp_walk using wpAny_loadPart' hl)
      | (refine wpAny_ite_true (decide_eq_true c2) ?_; wp_walk using wpAny_loadPart' hl))
    exact ⟨_, rfl, h⟩
end
end EV
/-! EvE: data as the library's data; operators, comparisons, subscripts. -/
namespace EV
open PySem PySem.Spec PyProof.Rows L2

mutual
def D.py : D → PyData
  | .non => .none
  | .bl b => .bool b
  | .int i => .int i
  | .str s => .str s
  | .tup xs => .tuple (D.pys xs)
  | .lst xs => .list (D.pys xs)
  | .scr _ => .none
  | .ref _ => .none
def D.pys : List D → List PyData
  | [] => []
  | x :: xs => D.py x :: D.pys xs
end
theorem D.pys_map : ∀ xs : List D, D.pys xs = xs.map D.py
  | [] => rfl
  | x :: xs => by rw [D.pys, D.pys_map xs]; rfl
mutual
theorem D.py_plain : ∀ {n : Nat} (d : D), d.flat n = true → d.py.plain = true ∧ d.py.depth ≤ n
  | _, .non, _ => by simp [D.py, PyData.plain, PyData.depth]
  | _, .bl _, _ => by simp [D.py, PyData.plain, PyData.depth]
  | _, .int _, _ => by simp [D.py, PyData.plain, PyData.depth]
  | _, .str _, _ => by simp [D.py, PyData.plain, PyData.depth]
  | 0, .tup xs, h => by simp [D.flat] at h
  | 0, .lst xs, h => by simp [D.flat] at h
  | n + 1, .tup xs, h => by
    rw [D.flat] at h
    have q := D.pys_plain xs h
    rw [D.py, PyData.plain, PyData.depth]
    exact ⟨q.1, Nat.succ_le_succ q.2⟩
  | n + 1, .lst xs, h => by
    rw [D.flat] at h
    have q := D.pys_plain xs h
    rw [D.py, PyData.plain, PyData.depth]
    exact ⟨q.1, Nat.succ_le_succ q.2⟩
  | _, .scr _, h => by simp [D.flat] at h
  | _, .ref _, h => by simp [D.flat] at h
theorem D.pys_plain : ∀ {n : Nat} (ds : List D), D.flats n ds = true → PyData.plainAll (D.pys ds) = true ∧ PyData.depthAll (D.pys ds) ≤ n
  | _, [], _ => by simp [D.pys, PyData.plainAll, PyData.depthAll]
  | n, d :: ds, h => by
    rw [D.flats, Bool.and_eq_true] at h
    have q1 := D.py_plain d h.1
    have q2 := D.pys_plain ds h.2
    rw [D.pys, PyData.plainAll, PyData.depthAll]
    exact ⟨by rw [q1.1, q2.1]; rfl, Nat.max_le.mpr ⟨q1.2, q2.2⟩⟩
end
mutual
theorem D.eqv_py : ∀ {n : Nat} (d e : D), d.flat n = true → e.flat n = true → PyData.eqv d.py e.py = D.eqv d e
  | _, .non, e, _, h => by cases e <;> simp [D.flat, D.py, D.eqv, PyData.eqv] at h ⊢
  | _, .bl _, e, _, h => by cases e <;> simp [D.flat, D.py, D.eqv, PyData.eqv] at h ⊢
  | _, .int _, e, _, h => by cases e <;> simp [D.flat, D.py, D.eqv, PyData.eqv] at h ⊢
  | _, .str _, e, _, h => by cases e <;> simp [D.flat, D.py, D.eqv, PyData.eqv] at h ⊢
  | 0, .tup xs, e, g, h => by simp [D.flat] at g
  | 0, .lst xs, e, g, h => by simp [D.flat] at g
  | n + 1, .tup xs, e, g, h => by
    cases e with
    | tup ys =>
      rw [D.flat] at g h
      simp only [D.py, D.eqv, PyData.eqv]
      exact D.eqvs_py xs ys g h
    | _ => simp [D.flat, D.py, D.eqv, PyData.eqv] at h ⊢
  | n + 1, .lst xs, e, g, h => by
    cases e with
    | lst ys =>
      rw [D.flat] at g h
      simp only [D.py, D.eqv, PyData.eqv]
      exact D.eqvs_py xs ys g h
    | _ => simp [D.flat, D.py, D.eqv, PyData.eqv] at h ⊢
  | _, .scr _, _, h, _ => by simp [D.flat] at h
  | _, .ref _, _, h, _ => by simp [D.flat] at h
theorem D.eqvs_py : ∀ {n : Nat} (ds es : List D), D.flats n ds = true → D.flats n es = true → PyData.eqvAll (D.pys ds) (D.pys es) = D.eqvs ds es
  | _, [], es, _, _ => by cases es <;> simp [D.pys, D.eqvs, PyData.eqvAll]
  | n, d :: ds, es, g, h => by
    cases es with
    | nil => simp [D.pys, D.eqvs, PyData.eqvAll]
    | cons e es =>
      rw [D.flats, Bool.and_eq_true] at g h
      rw [D.pys, D.pys, PyData.eqvAll, D.eqvs, D.eqv_py d e g.1 h.1, D.eqvs_py ds es g.2 h.2]
end
theorem D.flats_mem {n : Nat} : ∀ {xs : List D}, D.flats n xs = true → ∀ x ∈ xs, x.flat n = true
  | [], _, x, hx => by cases hx
  | y :: ys, h, x, hx => by
    rw [D.flats, Bool.and_eq_true] at h
    rcases List.mem_cons.mp hx with rfl | hx
    · exact h.1
    · exact D.flats_mem h.2 x hx
theorem memD_py {n : Nat} {x : D} (hx : x.flat n = true) : ∀ {xs : List D}, D.flats n xs = true → ((D.pys xs).any fun y => PyData.eqv y x.py) = memD x xs
  | [], _ => rfl
  | y :: ys, h => by
    rw [D.flats, Bool.and_eq_true] at h
    rw [D.pys, List.any_cons, memD, D.eqv_py y x h.1 hx, memD_py hx h.2]
theorem countD_py {n : Nat} {x : D} (hx : x.flat n = true) : ∀ {xs : List D}, D.flats n xs = true → ((D.pys xs).countP fun y => PyData.eqv y x.py) = countD x xs
  | [], _ => rfl
  | y :: ys, h => by
    rw [D.flats, Bool.and_eq_true] at h
    rw [D.pys, List.countP_cons, countD, D.eqv_py y x h.1 hx, countD_py hx h.2]
    cases D.eqv y x <;> simp
mutual
theorem Rep.dp {K : PySem.W.Frag} {W : Wd} {H : Hp} (s : Same W.G H) : ∀ {n : Nat} {v : V} {d : D}, Rep K W v d → d.flat n = true → Dp K H v d.py
  | _, _, _, .non, _ => .non
  | _, _, _, .bl _, _ => .bl _
  | _, _, _, .int _, _ => .int _
  | _, _, _, .str _, _ => .str _
  | 0, _, _, .tup _ _ _, h => by simp [D.flat] at h
  | 0, _, _, .lst _ _ _, h => by simp [D.flat] at h
  | n + 1, _, _, .tup g z l, h => .tup (SqT_ft (s _ _ g)) (RepL.dp s l (by rwa [D.flat] at h))
  | n + 1, _, _, .lst g z l, h => .lst (.of (s _ _ g)) (RepL.dp s l (by rwa [D.flat] at h))
  | _, _, _, .scr _ _, h => by simp [D.flat] at h
  | _, _, _, .ref _, h => by simp [D.flat] at h
theorem RepL.dp {K : PySem.W.Frag} {W : Wd} {H : Hp} (s : Same W.G H) : ∀ {n : Nat} {v : List V} {d : List D}, RepL K W v d → D.flats n d = true → DpAll K H v (D.pys d)
  | _, _, _, .nil, _ => .nil
  | _, _, _, .cons h t, e => by
    rw [D.flats, Bool.and_eq_true] at e
    exact .cons (Rep.dp s h e.1) (RepL.dp s t e.2)
end
section
variable {X : Cx} {cls : Cl} {U : XW} {pins : List (Addr × Obj)} {σ : L2.St} {H : Hp} {s : Shared} {W : Wd} {st : Store}
/-- a flat datum is read off the heap -/
theorem Rep.reads (I : Inv X pins σ H s) (A : Ag X.K X.w cls W st H) {v : V} {u : Value} {d : D} {n : Nat} (h : Rep X.K W v d) (hf : d.flat n = true) (r : RelV v u) : ∃ as, Reads s.heap u d.py as :=
  Dp.reads I d.py v u (h.dp A.sub hf) r
theorem RepL.reads (I : Inv X pins σ H s) (A : Ag X.K X.w cls W st H) {v : List V} {u : List Value} {d : List D} {n : Nat} (h : RepL X.K W v d) (hf : D.flats n d = true) (r : Vals v u) : ∃ as, ReadsAll s.heap u (D.pys d) as :=
  Dp.readsAll I (D.pys d) v u (h.dp A.sub hf) r
end

/-! ### operators -/
section
variable {X : Cx} {cls : Cl} {U : XW}
theorem flat_len (xs : List V) (k : Nat) : (List.replicate k xs).flatten.length = k * xs.length := by
  induction k with
  | zero => simp
  | succ k ih => rw [List.replicate_succ, List.flatten_cons, List.length_append, ih, Nat.succ_mul, Nat.add_comm]
theorem flat_lenD (xs : List D) (k : Nat) : (List.replicate k xs).flatten.length = k * xs.length := by
  induction k with
  | zero => simp
  | succ k ih => rw [List.replicate_succ, List.flatten_cons, List.length_append, ih, Nat.succ_mul, Nat.add_comm]
theorem rep_small {ds : List D} {k : Int} (hz : ds.length ≤ 1000) (h2 : k ≤ 1000) : (List.replicate k.toNat ds).flatten.length ≤ sizeLine := by
  rw [flat_lenD, sizeLine_eq]
  have a1 : k.toNat * ds.length ≤ 1000 * 1000 := Nat.mul_le_mul (by omega) hz
  omega
theorem Rep.rep1 {K : PySem.W.Frag} {W : Wd} {v : V} {ds : List D} {k : Int} (h : Rep K W v (.tup ds)) (hw : ds = [] ∨ k = 1) : Rep K W v (.tup (List.replicate k.toNat ds).flatten) := by
  have e : (List.replicate k.toNat ds).flatten = ds := by
    rcases hw with e | e
    · subst e; simp
    · subst e; simp
  rw [e]; exact h
theorem op_repTF : OpR X (binaryOp .Mult) (fun x y H Q => ∃ l k xs, x = .ref l ∧ y = .int k ∧ SqT X.K H l xs ∧ xs ≠ [] ∧ 2 ≤ k ∧ k ≤ 1000 ∧ xs.length ≤ 1000 ∧ ∀ p us, H p = none → Q (.ref p) (upd H p (FT us (List.replicate k.toNat xs).flatten))) := by
  intro pins s σ H x y v u Q I rx ry h
  obtain ⟨l, k, xs, rfl, rfl, hT, hne, h1, h2, hz, q⟩ := h
  cases rx
  obtain ⟨t, rfl⟩ := ry
  obtain ⟨its, r, ⟨⟨cls, dd, data, sl⟩, ho, hc, n, hd⟩, hs⟩ := I.tuple hT
  simp only at hc hd
  subst hc hd
  have hle : its.length = xs.length := r.length.symm
  have hn : its ≠ [] := fun e => hne (by
    rw [e] at hle
    exact List.eq_nil_of_length_eq_zero hle.symm)
  have hi : its.toArray.isEmpty = false := by
    cases its with
    | nil => exact absurd rfl hn
    | cons a b => rfl
  have hsz0 : its.toArray.size = xs.length := by rw [List.size_toArray, hle]
  have hm : ((its.toArray.size : Nat) : Int) * k ≤ 1000000 := by
    rw [hsz0]
    have a1 : ((xs.length : Nat) : Int) * k ≤ 1000 * k := Int.mul_le_mul_of_nonneg_right (by omega) (by omega)
    omega
  have flen : (List.replicate k.toNat its).flatten.length ≤ sizeLine := by
    rw [PyProof.Rows.lm_len_rep_flat, hle, sizeLine_eq]
    have a1 : k.toNat * xs.length ≤ 1000 * 1000 := Nat.mul_le_mul (by omega) hz
    omega
  have c0 : (decide (k < -(2 ^ 63)) || decide (k ≥ 2 ^ 63)) = false := by
    rw [decide_eq_false (by omega), decide_eq_false (by omega)] <;> rfl
  have c1 : (its.toArray.isEmpty || k == 1) = false := by
    rw [hi, Bool.false_or]
    exact beq_eq_false_iff_ne.mpr (by omega)
  have c2 : (decide (k ≤ 0) || its.toArray.isEmpty) = false := by
    rw [hi, Bool.or_false]
    exact decide_eq_false (by omega)
  have c4 : Builtin.Tuple.tupleTooMany (((its.toArray.size : Nat) : Int) * k) = false := by
    unfold Builtin.Tuple.tupleTooMany
    rw [sizeLine_eq]
    exact decide_eq_false (by omega)
  refine wpAny_binaryOp_repeat_ref (T := "tuple") (U := "int") (by decide) ⟨_, ho, rfl⟩ (fun s' => typeIs_int s' k t) noFill_tuple_mul F.fills_int_mul F.slot_int_rmul repeat_tuple F.slot_int_index.lookup
    (call_meets F.slot_int_rmul (typeIs_int s k t) F.entry_int_rmul (F.args_int_rmul_2 _ _) (int_rmul_tuple k t l its.toArray n dd sl)
      ⟨ho, rfl, ⟨_, ho, rfl⟩, call_meets F.slot_tuple_mul ⟨_, ho, rfl⟩ F.entry_tuple_mul (F.args_tuple_mul_2 _ _) (tuple_mulW l its.toArray n dd sl k t c0 c1 c2 (by omega) c4 (by rw [size_rep, List.size_toArray]; exact flen)) ⟨ho, ?_⟩⟩)
  rw [size_rep]
  exact ⟨.ref s.heap.objs.size, _, I.laidT (t' := s.toks) (r.rep k.toNat) (by rw [PyProof.Rows.lm_len_rep_flat, sizeLine_eq]; have a1 : k.toNat * xs.length ≤ 1000 * 1000 := Nat.mul_le_mul (by omega) hz; omega), rfl, q _ _ (I.hok.fresh (Nat.le_refl _))⟩
/-- tuple * int -/
theorem op_repA : OpR X (binaryOp .Mult) (fun x y H Q => ∃ l k xs, x = .ref l ∧ y = .int k ∧ SqT X.K H l xs ∧ xs.length ≤ 1000 ∧ -1000 ≤ k ∧ k ≤ 1000 ∧
    ((xs = [] ∨ k = 1) → Q (.ref l) H) ∧ (¬ (xs = [] ∨ k = 1) → ∀ p us, H p = none → Q (.ref p) (upd H p (FT us (List.replicate k.toNat xs).flatten)))) := by
  intro pins s σ H x y v u Q I rx ry h
  obtain ⟨l, k, xs, rfl, rfl, hT, hz, h1, h2, q1, q2⟩ := h
  by_cases hw : xs = [] ∨ k = 1
  · cases rx
    obtain ⟨t, rfl⟩ := ry
    obtain ⟨its, r, ⟨⟨cls, dd, data, sl⟩, ho, hc, n, hd⟩, hs⟩ := I.tuple hT
    simp only at hc hd
    subst hc hd
    have c0 : (decide (k < -(2 ^ 63)) || decide (k ≥ 2 ^ 63)) = false := by
      rw [decide_eq_false (by omega), decide_eq_false (by omega)] <;> rfl
    have c1 : (its.toArray.isEmpty || k == 1) = true := by
      rcases hw with e | e
      · subst e; cases r; rfl
      · subst e; simp
    refine wpAny_binaryOp_repeat_ref (T := "tuple") (U := "int") (by decide) ⟨_, ho, rfl⟩ (fun s' => typeIs_int s' k t) noFill_tuple_mul F.fills_int_mul F.slot_int_rmul repeat_tuple F.slot_int_index.lookup
      (call_meets F.slot_int_rmul (typeIs_int s k t) F.entry_int_rmul (F.args_int_rmul_2 _ _) (int_rmul_tuple k t l its.toArray n dd sl)
        ⟨ho, rfl, ⟨_, ho, rfl⟩, call_meets F.slot_tuple_mul ⟨_, ho, rfl⟩ F.entry_tuple_mul (F.args_tuple_mul_2 _ _) (tuple_mul0 l its.toArray n dd sl k t c0 c1) ⟨ho, ?_⟩⟩)
    exact ⟨.ref l, H, I, rfl, q1 hw⟩
  · have hne : xs ≠ [] := fun e => hw (.inl e)
    have hk1 : k ≠ 1 := fun e => hw (.inr e)
    by_cases hk : 2 ≤ k
    · exact op_repTF pins s σ H _ _ v u Q I rx ry ⟨l, k, xs, rfl, rfl, hT, hne, hk, h2, hz, q2 hw⟩
    · cases rx
      obtain ⟨t, rfl⟩ := ry
      obtain ⟨its, r, ⟨⟨cls, dd, data, sl⟩, ho, hc, n, hd⟩, hs⟩ := I.tuple hT
      simp only at hc hd
      subst hc hd
      have hi : its.toArray.isEmpty = false := by
        cases its with
        | nil => cases r; exact absurd rfl hne
        | cons a b => rfl
      have c0 : (decide (k < -(2 ^ 63)) || decide (k ≥ 2 ^ 63)) = false := by
        rw [decide_eq_false (by omega), decide_eq_false (by omega)] <;> rfl
      have c1 : (its.toArray.isEmpty || k == 1) = false := by
        rw [hi, Bool.false_or]
        exact beq_eq_false_iff_ne.mpr hk1
      have c2 : (decide (k ≤ 0) || its.toArray.isEmpty) = true := by
        rw [decide_eq_true (by omega)]; rfl
      refine wpAny_binaryOp_repeat_ref (T := "tuple") (U := "int") (by decide) ⟨_, ho, rfl⟩ (fun s' => typeIs_int s' k t) noFill_tuple_mul F.fills_int_mul F.slot_int_rmul repeat_tuple F.slot_int_index.lookup
        (call_meets F.slot_int_rmul (typeIs_int s k t) F.entry_int_rmul (F.args_int_rmul_2 _ _) (int_rmul_tuple k t l its.toArray n dd sl)
          ⟨ho, rfl, ⟨_, ho, rfl⟩, call_meets F.slot_tuple_mul ⟨_, ho, rfl⟩ F.entry_tuple_mul (F.args_tuple_mul_2 _ _) (tuple_mulE l its.toArray n dd sl k t c0 c1 c2) ⟨ho, ?_⟩⟩)
      have e0 : k.toNat = 0 := by omega
      have q := q2 hw s.heap.objs.size [] (I.hok.fresh (Nat.le_refl _))
      rw [e0] at q
      exact ⟨.ref s.heap.objs.size, _, I.laidT (t' := s.toks) (us := []) (xs := []) .nil (Nat.zero_le _), rfl, q⟩
theorem op_binD (op : Operator) : OpR X (binaryOp op) (rBin X cls U (binD op)) := by
  intro pins s σ H x y v u Q I rx ry h
  obtain ⟨W, st, dx, dy, A, r1, r2, q⟩ := h
  have go : ∀ {r : R2}, OpR X (binaryOp op) r → r x y H Q → wpAny (model X.prog X.w) X.A (binaryOp op v u) (EP X pins σ Q) X.xe s := fun hr h => hr pins s σ H x y v u Q I rx ry h
  unfold binD at q
  split at q
  · exact go op_add ⟨_, _, r1.int_inv, r2.int_inv, q.val A (.int _)⟩
  · exact go op_sub ⟨_, _, r1.int_inv, r2.int_inv, q.val A (.int _)⟩
  · obtain ⟨hb, q⟩ := q.test
    rcases mul_ok hb with hm | hm
    · exact go op_mul ⟨_, _, r1.int_inv, r2.int_inv, hm, q.val A (.int _)⟩
    · exact go op_mulW ⟨_, _, r1.int_inv, r2.int_inv, hm, q.val A (.int _)⟩
  · obtain ⟨hb, q⟩ := q.test
    simp only [Bool.and_eq_true, decide_eq_true_eq] at hb
    exact go op_fdivW ⟨_, _, r1.int_inv, r2.int_inv, wide_div (b := 4000) hb.1 (by omega) (by decide) (by decide), q.val A (.int _)⟩
  · obtain ⟨hb, q⟩ := q.test
    simp only [decide_eq_true_eq] at hb
    exact go op_mod ⟨_, _, r1.int_inv, r2.int_inv, hb, q.val A (.int _)⟩
  · obtain ⟨hb, q⟩ := q.test
    simp only [decide_eq_true_eq, sizeLine_lim] at hb
    exact go op_add_str ⟨_, _, r1.str_inv, r2.str_inv, hb, q.val A (.str _)⟩
  · obtain ⟨hb, q⟩ := q.test
    simp only [decide_eq_true_eq, sizeLine_lim] at hb
    obtain ⟨a, us1, xs, e1, g1, z1, l1⟩ := r1.tup_inv
    obtain ⟨b, us2, ys, e2, g2, z2, l2⟩ := r2.tup_inv
    refine go op_catF ⟨a, b, xs, ys, e1, e2, SqT_ft (A.sub _ _ g1), SqT_ft (A.sub _ _ g2), by rw [l1.length, l2.length]; exact hb, fun e => ?_, fun _ e => ?_, fun _ _ => ?_⟩
    · subst e
      cases l1
      rw [List.nil_append] at q
      exact q.val A (.tup g2 z2 l2)
    · subst e
      cases l2
      rw [List.append_nil] at q
      exact q.val A (.tup g1 z1 l1)
    · exact Aft.newTup A q (l1.append l2) (by rw [List.length_append]; exact hb)
  · obtain ⟨hb, q⟩ := q.test
    simp only [Bool.and_eq_true, decide_eq_true_eq, sizeLine_lim] at hb
    obtain ⟨⟨hz, h1⟩, h2⟩ := hb
    obtain ⟨a, us1, xs, e1, g1, z1, l1⟩ := r1.tup_inv
    refine go op_repA ⟨a, _, xs, e1, r2.int_inv, SqT_ft (A.sub _ _ g1), by rw [l1.length]; exact hz, h1, h2, fun hw => ?_, fun _ => ?_⟩
    · refine q.val A (Rep.rep1 (.tup g1 z1 l1) ?_)
      rcases hw with e | e
      · exact .inl (by subst e; cases l1; rfl)
      · exact .inr e
    · exact Aft.newTup A q (l1.reps _) (rep_small hz h2)
  · obtain ⟨hb, q⟩ := q.test
    simp only [decide_eq_true_eq, sizeLine_lim] at hb
    obtain ⟨a, xs, e1, g1, z1, l1⟩ := r1.lst_inv
    obtain ⟨b, ys, e2, g2, z2, l2⟩ := r2.lst_inv
    exact go op_cat ⟨a, b, xs, ys, e1, e2, A.sub _ _ g1, A.sub _ _ g2, by rw [l1.length, l2.length]; exact hb, Aft.newLst A q (l1.append l2) (by rw [List.length_append]; exact hb)⟩
  · obtain ⟨a, e1, ha⟩ := r1.ref_inv
    obtain ⟨o, ho, oa⟩ := A.at ha
    simp only [ho] at q
    cases o with
    | lst ds =>
      obtain ⟨xs, hx, l1, z1⟩ := oa
      obtain ⟨hb, q⟩ := q.test
      simp only [decide_eq_true_eq, sizeLine_lim] at hb
      obtain ⟨b, ys, e2, g2, z2, l2⟩ := r2.lst_inv
      exact go op_cat ⟨a, b, xs, ys, e1, e2, hx, A.sub _ _ g2, by rw [l1.length, l2.length]; exact hb, Aft.newMut A q (l1.append l2) (by rw [List.length_append]; exact hb)⟩
    | _ => exact q.elim
  · obtain ⟨hb, q⟩ := q.test
    simp only [Bool.and_eq_true, decide_eq_true_eq, sizeLine_lim] at hb
    obtain ⟨⟨hz, h1⟩, h2⟩ := hb
    obtain ⟨a, xs, e1, g1, z1, l1⟩ := r1.lst_inv
    have hs := rep_small hz h2
    exact go op_rep ⟨a, _, xs, e1, r2.int_inv, A.sub _ _ g1, by omega, by omega, by rw [l1.length, Nat.mul_comm, ← flat_lenD]; exact hs, Aft.newLst A q (l1.reps _) hs⟩
  · exact q.elim
end
end EV
/-! EvF: comparisons, subscripts, slices, built-in functions and methods by data. -/
namespace EV
open PySem PySem.Spec PyProof.Rows L2

section
variable {X : Cx} {cls : Cl} {U : XW}
/-- a dict of the store, in the hand -/
def DicAt (st : Store) (i : Nat) (kvs : List (D × D)) : Prop := st[i]? = some (.dic kvs) ∨ st[i]? = some (.lck kvs)
/-- the rules for dicts (shown in a file of its own) -/
structure DicR (X : Cx) (cls : Cl) : Prop where
  mem : OpR X (compareOp .In) (fun x y H Q => ∃ W st dx i kvs, Ag X.K X.w cls W st H ∧ Rep X.K W x dx ∧ Rep X.K W y (.ref i) ∧ DicAt st i kvs ∧ keyOk kvs dx = true ∧ Q (.bl (dget kvs dx).isSome) H)
  nmem : OpR X (compareOp .NotIn) (fun x y H Q => ∃ W st dx i kvs, Ag X.K X.w cls W st H ∧ Rep X.K W x dx ∧ Rep X.K W y (.ref i) ∧ DicAt st i kvs ∧ keyOk kvs dx = true ∧ Q (.bl (!(dget kvs dx).isSome)) H)
  neE : OpR X (compareOp .NotEq) (fun x y H Q => ∃ W st i j kvs, Ag X.K X.w cls W st H ∧ Rep X.K W x (.ref i) ∧ Rep X.K W y (.ref j) ∧ st[i]? = some (.dic kvs) ∧ st[j]? = some (.dic []) ∧ Q (.bl (!kvs.isEmpty)) H)
  get : IxR X (fun x y H Q => ∃ W st dy i kvs d, Ag X.K X.w cls W st H ∧ Rep X.K W x (.ref i) ∧ Rep X.K W y dy ∧ DicAt st i kvs ∧ keyOk kvs dy = true ∧ dget kvs dy = some d ∧ ∀ v, Rep X.K W v d → Q v H)

/-! ### comparisons -/
theorem op_eqP (hu : X.A.units + 64 < cLine) : OpR X (compareOp .Eq) (rBin X cls U (cmpD .Eq)) := by
  intro pins s σ H x y v u Q I rx ry h
  obtain ⟨W, st, dx, dy, A, r1, r2, q⟩ := h
  unfold cmpD at q
  obtain ⟨hb, q⟩ := q.test
  rw [Bool.and_eq_true] at hb
  obtain ⟨as, h1⟩ := r1.reads I A hb.1 rx
  obtain ⟨bs, h2⟩ := r2.reads I A hb.2 ry
  have p1 := D.py_plain dx hb.1
  have p2 := D.py_plain dy hb.2
  refine SeqAt.eq_plain h1 h2 p1.1 p2.1 (by have := Nat.min_le_left dx.py.depth dy.py.depth; omega) ?_
  rw [D.eqv_py dx dy hb.1 hb.2]
  exact ⟨.bl _, H, I, rfl, q.val A (.bl _)⟩
/-- a list of the store is read off the heap -/
theorem read_lst {pins : List (Addr × Obj)} {σ : L2.St} {H : Hp} {s : Shared} {W : Wd} {st : Store} (I : Inv X pins σ H s) (A : Ag X.K X.w cls W st H) {a : Addr} {u : Value} {xs : List V} {ds : List D} (hx : H a = some (.lst xs)) (l : RepL X.K W xs ds) (hf : D.flats 19 ds = true) (r : RelV (.ref a) u) : ∃ as, Reads s.heap u (EV.D.lst ds).py as :=
  Dp.reads I (EV.D.lst ds).py (.ref a) u (.lst (.of hx) (l.dp A.sub hf)) r
theorem op_neP (hu : X.A.units + 64 < cLine) (hd : DicR X cls) : OpR X (compareOp .NotEq) (rBin X cls U (cmpD .NotEq)) := by
  intro pins s σ H x y v u Q I rx ry h
  obtain ⟨W, st, dx, dy, A, r1, r2, q⟩ := h
  have fin : ∀ {a b : D} {as bs : List Addr}, a.plain = true → b.plain = true → Reads s.heap v a.py as → Reads s.heap u b.py bs → Q (.bl (!D.eqv a b)) H → wpAny (model X.prog X.w) X.A (compareOp .NotEq v u) (EP X pins σ Q) X.xe s := fun {a b as bs} pa pb h1 h2 hq => by
    have p1 := D.py_plain a pa
    have p2 := D.py_plain b pb
    refine SeqAt.ne_plain h1 h2 p1.1 p2.1 (by have := Nat.min_le_left a.py.depth b.py.depth; omega) ?_
    rw [D.eqv_py a b pa pb]
    exact ⟨.bl _, H, I, rfl, hq⟩
  have flatL : ∀ {ds : List D}, D.flats 19 ds = true → (EV.D.lst ds).plain = true := fun {ds} h => by rw [D.plain, D.flat]; exact h
  simp only [cmpD] at q
  split at q
  · rename_i i j
    obtain ⟨a, e1, ha⟩ := r1.ref_inv
    obtain ⟨o, ho, oa⟩ := A.at ha
    obtain ⟨b, e2, hb2⟩ := r2.ref_inv
    obtain ⟨o2, ho2, ob⟩ := A.at hb2
    simp only [ho, ho2] at q
    subst e1 e2
    cases o with
    | lst ds =>
      cases o2 with
      | lst es =>
        obtain ⟨xs, hx, l1, z1⟩ := oa
        obtain ⟨ys, hy, l2, z2⟩ := ob
        obtain ⟨hb, q⟩ := q.test
        rw [Bool.and_eq_true] at hb
        obtain ⟨as, h1⟩ := read_lst I A hx l1 hb.1 rx
        obtain ⟨bs, h2⟩ := read_lst I A hy l2 hb.2 ry
        have q' := q.val A (.bl _)
        have e : D.eqv (EV.D.lst ds) (EV.D.lst es) = D.eqvs ds es := by rw [D.eqv]
        rw [← e] at q'
        exact fin (flatL hb.1) (flatL hb.2) h1 h2 q'
      | _ => exact q.elim
    | dic kvs =>
      cases o2 with
      | dic kvs2 =>
        cases kvs2 with
        | nil => exact hd.neE pins s σ H _ _ v u Q I rx ry ⟨W, st, i, j, kvs, A, r1, r2, ho, ho2, q.val A (.bl _)⟩
        | cons _ _ => exact q.elim
      | _ => exact q.elim
    | _ => exact q.elim
  · rename_i i es
    obtain ⟨a, e1, ha⟩ := r1.ref_inv
    obtain ⟨o, ho, oa⟩ := A.at ha
    obtain ⟨b, ys, e2, g2, z2, l2⟩ := r2.lst_inv
    simp only [ho] at q
    subst e1 e2
    cases o with
    | lst ds =>
      obtain ⟨xs, hx, l1, z1⟩ := oa
      obtain ⟨hb, q⟩ := q.test
      rw [Bool.and_eq_true] at hb
      obtain ⟨as, h1⟩ := read_lst I A hx l1 hb.1 rx
      obtain ⟨bs, h2⟩ := r2.reads I A (flatL hb.2) ry
      have q' := q.val A (.bl _)
      have e : D.eqv (EV.D.lst ds) (EV.D.lst es) = D.eqvs ds es := by rw [D.eqv]
      rw [← e] at q'
      exact fin (flatL hb.1) (flatL hb.2) h1 h2 q'
    | _ => exact q.elim
  · obtain ⟨hb, q⟩ := q.test
    rw [Bool.and_eq_true] at hb
    obtain ⟨as, h1⟩ := r1.reads I A hb.1 rx
    obtain ⟨bs, h2⟩ := r2.reads I A hb.2 ry
    exact fin hb.1 hb.2 h1 h2 (q.val A (.bl _))
theorem op_ordI {op : CmpOp} {p : Int → Int → Bool} (ho : OpR X (compareOp op) (rI0 fun i j => .bl (p i j))) (he : ∀ x y st, cmpD op x y st = match x, y with | .int i, .int j => .ok (.bl (p i j)) st | _, _ => .bad) : OpR X (compareOp op) (rBin X cls U (cmpD op)) := by
  intro pins s σ H x y v u Q I rx ry h
  obtain ⟨W, st, dx, dy, A, r1, r2, q⟩ := h
  rw [he] at q
  split at q
  · exact ho pins s σ H x y v u Q I rx ry ⟨_, _, r1.int_inv, r2.int_inv, q.val A (.bl _)⟩
  · exact q.elim
theorem op_isBl : OpR X (compareOp .Is) (fun x y H Q => ∃ a b, x = .bl a ∧ y = .bl b ∧ Q (.bl (a == b)) H) := by
  intro pins s σ H x y v u Q I rx ry h
  obtain ⟨a, b, rfl, rfl, q⟩ := h
  cases rx
  cases ry
  exact is_bool ⟨.bl _, H, I, rfl, q⟩
theorem op_isntBl : OpR X (compareOp .IsNot) (fun x y H Q => ∃ a b, x = .bl a ∧ y = .bl b ∧ Q (.bl (!(a == b))) H) := by
  intro pins s σ H x y v u Q I rx ry h
  obtain ⟨a, b, rfl, rfl, q⟩ := h
  cases rx
  cases ry
  exact isnot_bool ⟨.bl _, H, I, rfl, q⟩
theorem rep_non {K : PySem.W.Frag} {W : Wd} {x : V} {d : D} (h : Rep K W x d) : decide (x = .non) = d.isNon := by
  cases h <;> simp [D.isNon]
theorem op_inP (hu : X.A.units + 64 < cLine) (hd : DicR X cls) : OpR X (compareOp .In) (rBin X cls U (cmpD .In)) := by
  intro pins s σ H x y v u Q I rx ry h
  obtain ⟨W, st, dx, dy, A, r1, r2, q⟩ := h
  unfold cmpD at q
  have seq : ∀ {ds : List D} {as : List Addr} {T : List PyData → PyData}, (x : V) → True := fun _ => trivial
  cases dy with
  | ref i =>
    obtain ⟨a, e2, ha⟩ := r2.ref_inv
    obtain ⟨o, ho, oa⟩ := A.at ha
    simp only [ho] at q
    cases o with
    | dic kvs =>
      obtain ⟨hb, q⟩ := q.test
      exact hd.mem pins s σ H x y v u Q I rx ry ⟨W, st, dx, i, kvs, A, r1, r2, .inl ho, hb, q.val A (.bl _)⟩
    | lck kvs =>
      obtain ⟨hb, q⟩ := q.test
      exact hd.mem pins s σ H x y v u Q I rx ry ⟨W, st, dx, i, kvs, A, r1, r2, .inr ho, hb, q.val A (.bl _)⟩
    | lst ds =>
      obtain ⟨hb, q⟩ := q.test
      rw [Bool.and_eq_true] at hb
      obtain ⟨xs, hx, l, z⟩ := oa
      subst e2
      obtain ⟨as, h1⟩ := r1.reads I A hb.1 rx
      have dp : Dp X.K H (.ref a) (.list (D.pys ds)) := .lst (.of hx) (l.dp A.sub hb.2)
      obtain ⟨bs, h2⟩ := Dp.reads I _ _ _ dp ry
      refine SeqAt.in_list_data h2 h1 (D.pys_plain ds hb.2).1 (D.py_plain dx hb.1).1 (by have := Nat.min_le_right (PyData.depthAll (D.pys ds)) dx.py.depth; have := (D.py_plain dx hb.1).2; omega) ?_
      rw [memD_py hb.1 hb.2]
      exact ⟨.bl _, H, I, rfl, q.val A (.bl _)⟩
    | ins c fs => exact q.elim
  | tup ds =>
    obtain ⟨hb, q⟩ := q.test
    rw [Bool.and_eq_true] at hb
    obtain ⟨as, h1⟩ := r1.reads I A hb.1 rx
    obtain ⟨bs, h2⟩ := r2.reads (n := 21) I A (by rw [D.flat]; exact hb.2) ry
    rw [D.py] at h2
    refine SeqAt.in_tuple_data h2 h1 (D.pys_plain ds hb.2).1 (D.py_plain dx hb.1).1 (by have := Nat.min_le_right (PyData.depthAll (D.pys ds)) dx.py.depth; have := (D.py_plain dx hb.1).2; omega) ?_
    rw [memD_py hb.1 hb.2]
    exact ⟨.bl _, H, I, rfl, q.val A (.bl _)⟩
  | lst ds =>
    obtain ⟨hb, q⟩ := q.test
    rw [Bool.and_eq_true] at hb
    obtain ⟨as, h1⟩ := r1.reads I A hb.1 rx
    obtain ⟨bs, h2⟩ := r2.reads (n := 21) I A (by rw [D.flat]; exact hb.2) ry
    rw [D.py] at h2
    refine SeqAt.in_list_data h2 h1 (D.pys_plain ds hb.2).1 (D.py_plain dx hb.1).1 (by have := Nat.min_le_right (PyData.depthAll (D.pys ds)) dx.py.depth; have := (D.py_plain dx hb.1).2; omega) ?_
    rw [memD_py hb.1 hb.2]
    exact ⟨.bl _, H, I, rfl, q.val A (.bl _)⟩
  | str t =>
    cases dx with
    | str z =>
      obtain ⟨⟨l⟩⟩ := z
      cases l with
      | nil => exact q.elim
      | cons c l =>
        cases l with
        | nil => exact op_in_sign pins s σ H x y v u Q I rx ry ⟨c, t, r1.str_inv, r2.str_inv, q.val A (.bl _)⟩
        | cons _ _ => exact q.elim
    | _ => exact q.elim
  | _ => exact q.elim
theorem op_notInP (hu : X.A.units + 64 < cLine) (hd : DicR X cls) : OpR X (compareOp .NotIn) (rBin X cls U (cmpD .NotIn)) := by
  intro pins s σ H x y v u Q I rx ry h
  obtain ⟨W, st, dx, dy, A, r1, r2, q⟩ := h
  unfold cmpD at q
  cases dy with
  | ref i =>
    obtain ⟨a, e2, ha⟩ := r2.ref_inv
    obtain ⟨o, ho, oa⟩ := A.at ha
    simp only [ho] at q
    cases o with
    | dic kvs =>
      obtain ⟨hb, q⟩ := q.test
      exact hd.nmem pins s σ H x y v u Q I rx ry ⟨W, st, dx, i, kvs, A, r1, r2, .inl ho, hb, q.val A (.bl _)⟩
    | lck kvs =>
      obtain ⟨hb, q⟩ := q.test
      exact hd.nmem pins s σ H x y v u Q I rx ry ⟨W, st, dx, i, kvs, A, r1, r2, .inr ho, hb, q.val A (.bl _)⟩
    | lst ds =>
      obtain ⟨hb, q⟩ := q.test
      rw [Bool.and_eq_true] at hb
      obtain ⟨xs, hx, l, z⟩ := oa
      subst e2
      obtain ⟨as, h1⟩ := r1.reads I A hb.1 rx
      have dp : Dp X.K H (.ref a) (.list (D.pys ds)) := .lst (.of hx) (l.dp A.sub hb.2)
      obtain ⟨bs, h2⟩ := Dp.reads I _ _ _ dp ry
      refine SeqAt.notIn_list_data h2 h1 (D.pys_plain ds hb.2).1 (D.py_plain dx hb.1).1 (by have := Nat.min_le_right (PyData.depthAll (D.pys ds)) dx.py.depth; have := (D.py_plain dx hb.1).2; omega) ?_
      rw [memD_py hb.1 hb.2]
      exact ⟨.bl _, H, I, rfl, q.val A (.bl _)⟩
    | ins c fs => exact q.elim
  | tup ds =>
    obtain ⟨hb, q⟩ := q.test
    rw [Bool.and_eq_true] at hb
    obtain ⟨as, h1⟩ := r1.reads I A hb.1 rx
    obtain ⟨bs, h2⟩ := r2.reads (n := 21) I A (by rw [D.flat]; exact hb.2) ry
    rw [D.py] at h2
    refine SeqAt.notIn_tuple_data h2 h1 (D.pys_plain ds hb.2).1 (D.py_plain dx hb.1).1 (by have := Nat.min_le_right (PyData.depthAll (D.pys ds)) dx.py.depth; have := (D.py_plain dx hb.1).2; omega) ?_
    rw [memD_py hb.1 hb.2]
    exact ⟨.bl _, H, I, rfl, q.val A (.bl _)⟩
  | lst ds =>
    obtain ⟨hb, q⟩ := q.test
    rw [Bool.and_eq_true] at hb
    obtain ⟨as, h1⟩ := r1.reads I A hb.1 rx
    obtain ⟨bs, h2⟩ := r2.reads (n := 21) I A (by rw [D.flat]; exact hb.2) ry
    rw [D.py] at h2
    refine SeqAt.notIn_list_data h2 h1 (D.pys_plain ds hb.2).1 (D.py_plain dx hb.1).1 (by have := Nat.min_le_right (PyData.depthAll (D.pys ds)) dx.py.depth; have := (D.py_plain dx hb.1).2; omega) ?_
    rw [memD_py hb.1 hb.2]
    exact ⟨.bl _, H, I, rfl, q.val A (.bl _)⟩
  | str t =>
    cases dx with
    | str z =>
      obtain ⟨⟨l⟩⟩ := z
      cases l with
      | nil => exact q.elim
      | cons c l =>
        cases l with
        | nil => exact op_notIn_sign pins s σ H x y v u Q I rx ry ⟨c, t, r1.str_inv, r2.str_inv, q.val A (.bl _)⟩
        | cons _ _ => exact q.elim
    | _ => exact q.elim
  | _ => exact q.elim
theorem op_cmpD (hu : X.A.units + 64 < cLine) (hd : DicR X cls) (op : CmpOp) : OpR X (compareOp op) (rBin X cls U (cmpD op)) := by
  cases op with
  | Eq => exact op_eqP hu
  | NotEq => exact op_neP hu hd
  | Lt => exact op_ordI (p := fun i j => decide (i < j)) op_lt fun x y st => rfl
  | LtE => exact op_ordI (p := fun i j => decide (i ≤ j)) op_le fun x y st => rfl
  | Gt => exact op_ordI (p := fun i j => decide (j < i)) op_gt fun x y st => rfl
  | GtE => exact op_ordI (p := fun i j => decide (j ≤ i)) op_ge fun x y st => rfl
  | In => exact op_inP hu hd
  | NotIn => exact op_notInP hu hd
  | Is =>
    intro pins s σ H x y v u Q I rx ry h
    obtain ⟨W, st, dx, dy, A, r1, r2, q⟩ := h
    unfold cmpD at q
    cases dy with
    | non => exact op_isN pins s σ H x y v u Q I rx ry ⟨r2.non_inv, by rw [rep_non r1]; exact q.val A (.bl _)⟩
    | bl b =>
      cases dx with
      | bl a => exact op_isBl pins s σ H x y v u Q I rx ry ⟨a, b, r1.bl_inv, r2.bl_inv, q.val A (.bl _)⟩
      | _ => exact q.elim
    | _ => exact q.elim
  | IsNot =>
    intro pins s σ H x y v u Q I rx ry h
    obtain ⟨W, st, dx, dy, A, r1, r2, q⟩ := h
    unfold cmpD at q
    cases dy with
    | non =>
      refine op_notN pins s σ H x y v u Q I rx ry ⟨r2.non_inv, ?_⟩
      rw [rep_non r1]
      exact q.val A (.bl _)
    | bl b =>
      cases dx with
      | bl a => exact op_isntBl pins s σ H x y v u Q I rx ry ⟨a, b, r1.bl_inv, r2.bl_inv, q.val A (.bl _)⟩
      | _ => exact q.elim
    | _ => exact q.elim

/-! ### subscripts -/
theorem getAt_eq {α : Type} (xs : List α) (i : Int) : getAt xs i = atI xs i := rfl
theorem RepL.at {K : PySem.W.Frag} {W : Wd} {xs : List V} {ds : List D} (l : RepL K W xs ds) {i : Int} {d : D} (h : getAt ds i = some d) : ∃ v, atI xs i = some v ∧ Rep K W v d := by
  unfold getAt at h
  cases e : ix ds.length i with
  | none => rw [e] at h; cases h
  | some j =>
    rw [e] at h
    obtain ⟨v, h1, h2⟩ := l.get (i := j) (d := d) h
    refine ⟨v, ?_, h2⟩
    show (ixN xs.length i).bind (fun j => xs[j]?) = some v
    have e' : ixN xs.length i = some j := by rw [l.length]; exact e
    rw [e']
    exact h1
theorem ix_D (hd : DicR X cls) : IxR X (rBin X cls U idxD) := by
  intro va sl pins s σ H x y v u Q I rx ry h hs
  obtain ⟨W, st, dx, dy, A, r1, r2, q⟩ := h
  unfold idxD at q
  have go : ∀ {r : R2}, IxR X r → r x y H Q → wpAny (model X.prog X.w) X.A (subscriptTail va sl v u) (EP X pins σ Q) X.xe s := fun hr h => hr va sl pins s σ H x y v u Q I rx ry h hs
  cases dx with
  | tup ds =>
    cases dy with
    | int i =>
      obtain ⟨a, us, xs, e1, g1, z1, l1⟩ := r1.tup_inv
      cases e : getAt ds i with
      | none => simp only [e] at q; exact q.elim
      | some d =>
        simp only [e] at q
        obtain ⟨w, h1, h2⟩ := l1.at e
        exact go ix_tup ⟨a, xs, i, w, e1, r2.int_inv, SqT_ft (A.sub _ _ g1), h1, q.val A h2⟩
    | _ => exact q.elim
  | lst ds =>
    cases dy with
    | int i =>
      obtain ⟨a, xs, e1, g1, z1, l1⟩ := r1.lst_inv
      cases e : getAt ds i with
      | none => simp only [e] at q; exact q.elim
      | some d =>
        simp only [e] at q
        obtain ⟨w, h1, h2⟩ := l1.at e
        exact go ix_list ⟨a, xs, i, w, e1, r2.int_inv, SqL.of (A.sub _ _ g1), h1, q.val A h2⟩
    | _ => exact q.elim
  | scr ns =>
    cases dy with
    | int i =>
      obtain ⟨a, e1, g1, z1⟩ := r1.scr_inv
      cases e : getAt ns i with
      | none => simp only [e] at q; exact q.elim
      | some n =>
        simp only [e] at q
        refine go ix_list ⟨a, ns.map V.int, i, .int n, e1, r2.int_inv, A.sub.seq g1, ?_, q.val A (.int n)⟩
        unfold getAt at e
        show (ixN (ns.map V.int).length i).bind (fun j => (ns.map V.int)[j]?) = some (V.int n)
        cases e' : ix ns.length i with
        | none => rw [e'] at e; cases e
        | some j =>
          rw [e'] at e
          have e2 : ixN (ns.map V.int).length i = some j := by rw [List.length_map]; exact e'
          rw [e2]
          show (ns.map V.int)[j]? = _
          have e3 : ns[j]? = some n := e
          rw [List.getElem?_map, e3]
          rfl
    | _ => exact q.elim
  | str z =>
    cases dy with
    | int i =>
      obtain ⟨hb, q⟩ := q.test
      simp only [decide_eq_true_eq, sizeLine_lim] at hb
      cases e : getAt z.cps.toList i with
      | none => simp only [e] at q; exact q.elim
      | some c =>
        simp only [e] at q
        exact go ix_str ⟨z, i, c, r1.str_inv, r2.int_inv, hb, e, q.val A (.str _)⟩
    | _ => exact q.elim
  | ref j =>
    obtain ⟨a, e1, ha⟩ := r1.ref_inv
    obtain ⟨o, ho, oa⟩ := A.at ha
    simp only [ho] at q
    cases o with
    | lst ds =>
      cases dy with
      | int i =>
        obtain ⟨xs, hx, l1, z⟩ := oa
        cases e : getAt ds i with
        | none => simp only [e] at q; exact q.elim
        | some d =>
          simp only [e] at q
          obtain ⟨w, h1, h2⟩ := l1.at e
          exact go ix_list ⟨a, xs, i, w, e1, r2.int_inv, SqL.of hx, h1, q.val A h2⟩
      | _ => exact q.elim
    | dic kvs =>
      obtain ⟨hb, q⟩ := q.test
      cases e : dget kvs dy with
      | none => simp only [e] at q; exact q.elim
      | some d =>
        simp only [e] at q
        exact go hd.get ⟨W, st, dy, j, kvs, d, A, r1, r2, .inl ho, hb, e, fun w r => q.val A r⟩
    | lck kvs =>
      obtain ⟨hb, q⟩ := q.test
      cases e : dget kvs dy with
      | none => simp only [e] at q; exact q.elim
      | some d =>
        simp only [e] at q
        exact go hd.get ⟨W, st, dy, j, kvs, d, A, r1, r2, .inr ho, hb, e, fun w r => q.val A r⟩
    | ins c fs => exact q.elim
  | _ => exact q.elim
/-! ### slices -/
theorem cutIx_eq (n d : Nat) (o : Option Int) : cutIx n d o = HT.sIx n d o := by cases o <;> rfl
theorem RepL.cutV {K : PySem.W.Frag} {W : Wd} {xs : List V} {ds : List D} (l : RepL K W xs ds) (lo hi : Option Int) : RepL K W (L2.cutV xs lo hi) (EV.cut ds lo hi) := by
  unfold L2.cutV EV.cut
  rw [l.length, cutIx_eq, cutIx_eq]
  exact (l.drop _).take _
theorem cut_len {α : Type} (xs : List α) (lo hi : Option Int) : (EV.cut xs lo hi).length ≤ xs.length := by
  unfold EV.cut
  rw [List.length_take, List.length_drop]
  omega
theorem cut_whole {α : Type} (xs : List α) (lo hi : Option Int) (h1 : cutIx xs.length 0 lo = 0) (h2 : cutIx xs.length xs.length hi = xs.length) : EV.cut xs lo hi = xs := by
  unfold EV.cut
  rw [h1, h2]
  simp
/-- x[lo:hi] by values: the bounds have come -/
def rSli (X : Cx) (cls : Cl) (U : XW) : V → Option Int → Option Int → Hp → VK → Prop := fun x lo hi H Q => ∃ W st dx, Ag X.K X.w cls W st H ∧ Rep X.K W x dx ∧ Aft X.K X.w cls U (Rep X.K) W H (sliD dx lo hi st) Q
theorem sl_str' : SlR X (fun x lo hi H Q => ∃ z, x = .str z ∧ z.length ≤ sizeLine ∧ Q (.str ⟨(EV.cut z.cps.toList lo hi).toArray⟩) H) := by
  intro pins s σ H x v vl vu lo hi sl Q I rx hs pl pu h
  obtain ⟨z, rfl, hz, q⟩ := h
  refine sl_str pins s σ H _ v vl vu lo hi sl Q I rx hs pl pu ⟨z, rfl, hz, ?_⟩
  have e : cutS z lo hi = ⟨(EV.cut z.cps.toList lo hi).toArray⟩ := by
    unfold cutS EV.cut
    simp only [cutIx_eq]
    rfl
  rw [e]
  exact q
theorem sl_D : SlR X (rSli X cls U) := by
  intro pins s σ H x v vl vu lo hi sl Q I rx hs pl pu h
  obtain ⟨W, st, dx, A, r1, q⟩ := h
  unfold sliD at q
  cases dx with
  | tup ds =>
    obtain ⟨a, us, xs, e1, g1, z1, l1⟩ := r1.tup_inv
    refine sl_tupF pins s σ H x v vl vu lo hi sl Q I rx hs pl pu ⟨a, xs, e1, SqT_ft (A.sub _ _ g1), fun hw => ?_, fun _ => ?_⟩
    · have e := cut_whole ds lo hi (by rw [cutIx_eq, ← l1.length]; exact hw.1) (by rw [cutIx_eq, ← l1.length]; exact hw.2)
      have q : Aft X.K X.w cls U (Rep X.K) W H (.ok (.tup (EV.cut ds lo hi)) st) Q := q
      rw [e] at q
      rw [e1] at r1
      exact q.val A r1
    · exact Aft.newTup A q (l1.cutV lo hi) (Nat.le_trans (cut_len ds lo hi) z1)
  | lst ds =>
    obtain ⟨a, xs, e1, g1, z1, l1⟩ := r1.lst_inv
    exact sl_list pins s σ H x v vl vu lo hi sl Q I rx hs pl pu ⟨a, xs, e1, SqL.of (A.sub _ _ g1), Aft.newLst A q (l1.cutV lo hi) (Nat.le_trans (cut_len ds lo hi) z1)⟩
  | ref i =>
    obtain ⟨a, e1, ha⟩ := r1.ref_inv
    obtain ⟨o, ho, oa⟩ := A.at ha
    simp only [ho] at q
    cases o with
    | lst ds =>
      obtain ⟨xs, hx, l1, z1⟩ := oa
      exact sl_list pins s σ H x v vl vu lo hi sl Q I rx hs pl pu ⟨a, xs, e1, SqL.of hx, Aft.newMut A q (l1.cutV lo hi) (Nat.le_trans (cut_len ds lo hi) z1)⟩
    | _ => exact q.elim
  | str z =>
    obtain ⟨hb, q⟩ := q.test
    simp only [decide_eq_true_eq, sizeLine_lim] at hb
    exact sl_str' pins s σ H x v vl vu lo hi sl Q I rx hs pl pu ⟨z, r1.str_inv, hb, q.val A (.str _)⟩
  | _ => exact q.elim
end
end EV
/-! EvG: built-in functions and methods by data. -/
namespace EV
open PySem PySem.Spec PyProof.Rows L2

section
variable {X : Cx} {cls : Cl} {U : XW}
def rC (X : Cx) (cls : Cl) (U : XW) (f : List D → Store → R D) : List V → Hp → VK → Prop := fun vs H Q => ∃ W st ds, Ag X.K X.w cls W st H ∧ RepL X.K W vs ds ∧ Aft X.K X.w cls U (Rep X.K) W H (f ds st) Q
def rM (X : Cx) (cls : Cl) (U : XW) (m : Mth) : V → List V → Hp → VK → Prop := fun x vs H Q => ∃ W st dx ds, Ag X.K X.w cls W st H ∧ Rep X.K W x dx ∧ RepL X.K W vs ds ∧ Aft X.K X.w cls U (Rep X.K) W H (mthD m dx ds st) Q
theorem RepL.one_inv {K : PySem.W.Frag} {W : Wd} {vs : List V} {d : D} (h : RepL K W vs [d]) : ∃ v, vs = [v] ∧ Rep K W v d := by
  cases h with
  | cons a b => cases b; exact ⟨_, rfl, a⟩
theorem RepL.two_inv {K : PySem.W.Frag} {W : Wd} {vs : List V} {d e : D} (h : RepL K W vs [d, e]) : ∃ v w, vs = [v, w] ∧ Rep K W v d ∧ Rep K W w e := by
  cases h with
  | cons a b =>
    cases b with
    | cons c d => cases d; exact ⟨_, _, rfl, a, c⟩
theorem RepL.nil_inv {K : PySem.W.Frag} {W : Wd} {vs : List V} (h : RepL K W vs []) : vs = [] := by cases h; rfl
/-- a list or a tuple, as it stands -/
theorem Rep.seq {W : Wd} {H : Hp} {st : Store} (A : Ag X.K X.w cls W st H) {v : V} {d : D} {ys : List D} (r : Rep X.K W v d) (h : seqOf st d = some ys) :
    ∃ a xs, v = .ref a ∧ (SqL X.K H a xs ∨ SqT X.K H a xs) ∧ RepL X.K W xs ys ∧ ys.length ≤ sizeLine := by
  cases r with
  | tup g z l => cases h; exact ⟨_, _, rfl, .inr (SqT_ft (A.sub _ _ g)), l, z⟩
  | lst g z l => cases h; exact ⟨_, _, rfl, .inl (SqL.of (A.sub _ _ g)), l, z⟩
  | scr g z => cases h; exact ⟨_, _, rfl, .inl (A.sub.seq g), RepL.ints _, by rw [List.length_map]; exact z⟩
  | ref g =>
    obtain ⟨o, ho, oa⟩ := A.at g
    simp only [seqOf, ho] at h
    cases o with
    | lst ds => cases h; obtain ⟨xs, hx, l, z⟩ := oa; exact ⟨_, _, rfl, .inl (SqL.of hx), l, z⟩
    | _ => cases h
  | _ => cases h
/-- the rules shown in files of their own -/
structure Lib (X : Cx) (cls : Cl) : Prop extends DicR X cls where
  dlen : CallR X (.builtin "len") (fun xs H Q => ∃ W st i kvs, Ag X.K X.w cls W st H ∧ RepL X.K W xs [.ref i] ∧ DicAt st i kvs ∧ Q (.int kvs.length) H)
  dlist : CallR X (.type "list") (fun xs H Q => ∃ W st i kvs, Ag X.K X.w cls W st H ∧ RepL X.K W xs [.ref i] ∧ DicAt st i kvs ∧ ∀ p vs, H p = none → RepL X.K W vs (kvs.map (·.1)) → kvs.length ≤ sizeLine → Q (.ref p) (upd H p (.lst vs)))
  srt : ∀ U, CallR X (.builtin "sorted") (rC X cls U (bltD .sorted))
  dget2 : MtR X "dict.get" (fun x xs H Q => ∃ W st i kvs dk dx, Ag X.K X.w cls W st H ∧ Rep X.K W x (.ref i) ∧ RepL X.K W xs [dk, dx] ∧ DicAt st i kvs ∧ keyOk kvs dk = true ∧ ∀ v, Rep X.K W v ((dget kvs dk).getD dx) → Q v H)

theorem cd_len (hd : Lib X cls) : CallR X (.builtin "len") (rC X cls U (bltD .len)) := by
  intro pins s σ H vs us Q I rv h
  obtain ⟨W, st, ds, A, rl, q⟩ := h
  have go : ∀ {r : List V → Hp → VK → Prop}, CallR X (.builtin "len") r → r vs H Q → wpAny (model X.prog X.w) X.A (call (.builtin "len") us) (EP X pins σ Q) X.xe s := fun hr h => hr pins s σ H vs us Q I rv h
  have fin : ∀ {x : D}, RepL X.K W vs [x] → Aft X.K X.w cls U (Rep X.K) W H ((R.of (seqOf st x) st).bind fun ys st => .ok (.int ys.length) st) Q → wpAny (model X.prog X.w) X.A (call (.builtin "len") us) (EP X pins σ Q) X.xe s := fun {x} rl q => by
    obtain ⟨v, rfl, r1⟩ := rl.one_inv
    cases e : seqOf st x with
    | none => rw [e] at q; exact q.elim
    | some ys =>
      rw [e] at q
      obtain ⟨a, xs, e1, hq, l, z⟩ := r1.seq A e
      refine go call_len_seq ⟨a, xs, by rw [e1], hq, ?_⟩
      rw [l.length]
      exact Aft.val A q (.int _)
  cases ds with
  | nil => exact q.elim
  | cons x r =>
    cases r with
    | cons _ _ =>
      unfold bltD at q
      cases x <;> exact q.elim
    | nil =>
      cases x with
      | str z =>
        obtain ⟨v, rfl, r1⟩ := rl.one_inv
        unfold bltD at q
        obtain ⟨hb, q⟩ := Aft.test q
        simp only [decide_eq_true_eq, sizeLine_lim] at hb
        exact go call_len_str ⟨z, by rw [r1.str_inv], hb, q.val A (.int _)⟩
      | ref i =>
        obtain ⟨v, rfl, r1⟩ := rl.one_inv
        obtain ⟨a, e1, ha⟩ := r1.ref_inv
        obtain ⟨o, ho, oa⟩ := A.at ha
        unfold bltD at q
        simp only [ho] at q
        cases o with
        | lst ys =>
          obtain ⟨xs, hx, l, z⟩ := oa
          refine go call_len_seq ⟨a, xs, by rw [e1], .inl (SqL.of hx), ?_⟩
          rw [l.length]
          exact Aft.val A q (.int _)
        | dic kvs => exact go hd.dlen ⟨W, st, i, kvs, A, rl, .inl ho, Aft.val A q (.int _)⟩
        | lck kvs => exact go hd.dlen ⟨W, st, i, kvs, A, rl, .inr ho, Aft.val A q (.int _)⟩
        | ins _ _ => exact q.elim
      | non => exact fin rl q
      | bl _ => exact fin rl q
      | int _ => exact fin rl q
      | tup _ => exact fin rl q
      | lst _ => exact fin rl q
      | scr _ => exact fin rl q
theorem sum_tupF (hc : X.calm = true) : CallR X (.builtin "sum") (fun vs H Q => ∃ (a : Addr) (ns : List Int), vs = [V.ref a] ∧ SqT X.K H a (ns.map V.int) ∧ Q (.int ns.sum) H) := by
  intro pins s σ H xs us Q I r h
  obtain ⟨a, ns, rfl, hq, q⟩ := h
  obtain ⟨u, rfl, rx⟩ := vals1 r
  cases rx
  obtain ⟨its, r', pl, hz⟩ := I.tuple hq
  have hi : IntsAre its ns := intsAre_of r'
  obtain ⟨zs, hx⟩ := hi.allInts.items
  have hn : numsOf its.toArray.toList = ns := by rw [show its.toArray.toList = its from rfl, hi.numsOf]
  rw [hx] at pl hn
  rw [nums_intItems] at hn
  refine PySem.W.ktm_sumG (I.ok.hd hc) pl fun h' tk t' kp => ?_
  rw [preSum_eq, List.take_of_length_le (by simp), hn]
  exact ⟨.int ns.sum, H, I.kept kp, ⟨_, rfl⟩, q⟩
theorem cd_sum (hc : X.calm = true) : CallR X (.builtin "sum") (rC X cls U (bltD .sum)) := by
  intro pins s σ H vs us Q I rv h
  obtain ⟨W, st, ds, A, rl, q⟩ := h
  unfold bltD at q
  cases ds with
  | nil => exact q.elim
  | cons x r =>
    cases r with
    | cons _ _ => exact q.elim
    | nil =>
      obtain ⟨v, rfl, r1⟩ := rl.one_inv
      simp only at q
      cases e : seqOf st x with
      | none => rw [e] at q; exact q.elim
      | some ys =>
        rw [e] at q
        simp only [Option.bind_some] at q
        cases e2 : intsOf ys with
        | none => rw [e2] at q; exact q.elim
        | some ns =>
          rw [e2] at q
          obtain ⟨a, xs, e1, hq, l, z⟩ := r1.seq A e
          have ex := l.of_ints e2
          subst ex
          have q' : Q (.int ns.sum) H := Aft.val A q (.int _)
          rcases hq with hq | hq
          · exact cr_sum hc pins s σ H _ us Q I rv ⟨a, ns, by rw [e1], hq, q'⟩
          · exact sum_tupF hc pins s σ H _ us Q I rv ⟨a, ns, by rw [e1], hq, q'⟩
theorem cd_any (hc : X.calm = true) : CallR X (.builtin "any") (rC X cls U (bltD .any)) := by
  intro pins s σ H vs us Q I rv h
  obtain ⟨W, st, ds, A, rl, q⟩ := h
  simp only [bltD] at q
  split at q
  · obtain ⟨v, rfl, r1⟩ := rl.one_inv
    rename_i ys
    cases e2 : blsOf ys with
    | none => rw [e2] at q; exact q.elim
    | some bs =>
      rw [e2] at q
      obtain ⟨a, xs, e1, g, z, l⟩ := r1.lst_inv
      have ex := l.of_bls e2
      subst ex
      exact cr_any hc pins s σ H _ us Q I rv ⟨a, bs, by rw [e1], SqL.of (A.sub _ _ g), Aft.val A q (.bl _)⟩
  · exact q.elim
theorem cd_all (hc : X.calm = true) : CallR X (.builtin "all") (rC X cls U (bltD .all)) := by
  intro pins s σ H vs us Q I rv h
  obtain ⟨W, st, ds, A, rl, q⟩ := h
  simp only [bltD] at q
  split at q
  · obtain ⟨v, rfl, r1⟩ := rl.one_inv
    rename_i ys
    cases e2 : blsOf ys with
    | none => rw [e2] at q; exact q.elim
    | some bs =>
      rw [e2] at q
      obtain ⟨a, xs, e1, g, z, l⟩ := r1.lst_inv
      have ex := l.of_bls e2
      subst ex
      exact cr_all hc pins s σ H _ us Q I rv ⟨a, bs, by rw [e1], SqL.of (A.sub _ _ g), Aft.val A q (.bl _)⟩
  · exact q.elim
theorem cd_tuple : CallR X (.type "tuple") (rC X cls U (bltD .tuple)) := by
  intro pins s σ H vs us Q I rv h
  obtain ⟨W, st, ds, A, rl, q⟩ := h
  simp only [bltD] at q
  split at q
  · obtain ⟨v, rfl, r1⟩ := rl.one_inv
    obtain ⟨a, us1, xs, e1, g, z, l⟩ := r1.tup_inv
    rw [e1] at r1
    exact call_tupleF pins s σ H _ us Q I rv ⟨a, xs, by rw [e1], .inr ⟨SqT_ft (A.sub _ _ g), Aft.val A q r1⟩⟩
  · obtain ⟨v, rfl, r1⟩ := rl.one_inv
    obtain ⟨a, xs, e1, g, z, l⟩ := r1.lst_inv
    exact call_tupleF pins s σ H _ us Q I rv ⟨a, xs, by rw [e1], .inl ⟨SqL.of (A.sub _ _ g), Aft.newTup A q l z⟩⟩
  · obtain ⟨v, rfl, r1⟩ := rl.one_inv
    obtain ⟨a, e1, ha⟩ := r1.ref_inv
    obtain ⟨o, ho, oa⟩ := A.at ha
    simp only [ho] at q
    cases o with
    | lst ys =>
      obtain ⟨xs, hx, l, z⟩ := oa
      exact call_tupleF pins s σ H _ us Q I rv ⟨a, xs, by rw [e1], .inl ⟨SqL.of hx, Aft.newTup A q l z⟩⟩
    | _ => exact q.elim
  · exact q.elim
theorem cd_list (hd : Lib X cls) : CallR X (.type "list") (rC X cls U (bltD .list)) := by
  intro pins s σ H vs us Q I rv h
  obtain ⟨W, st, ds, A, rl, q⟩ := h
  simp only [bltD] at q
  split at q
  · obtain ⟨v, rfl, r1⟩ := rl.one_inv
    obtain ⟨a, us1, xs, e1, g, z, l⟩ := r1.tup_inv
    exact call_list_of pins s σ H _ us Q I rv ⟨a, xs, by rw [e1], .inr (SqT_ft (A.sub _ _ g)), Aft.newLst A q l z⟩
  · obtain ⟨v, rfl, r1⟩ := rl.one_inv
    obtain ⟨a, xs, e1, g, z, l⟩ := r1.lst_inv
    exact call_list_of pins s σ H _ us Q I rv ⟨a, xs, by rw [e1], .inl (SqL.of (A.sub _ _ g)), Aft.newLst A q l z⟩
  · obtain ⟨v, rfl, r1⟩ := rl.one_inv
    rename_i i
    obtain ⟨a, e1, ha⟩ := r1.ref_inv
    obtain ⟨o, ho, oa⟩ := A.at ha
    simp only [ho] at q
    cases o with
    | lst ys =>
      obtain ⟨xs, hx, l, z⟩ := oa
      exact call_list_of pins s σ H _ us Q I rv ⟨a, xs, by rw [e1], .inl (SqL.of hx), Aft.newLst A q l z⟩
    | dic kvs => exact hd.dlist pins s σ H _ us Q I rv ⟨W, st, i, kvs, A, rl, .inl ho, fun p vs hp l z => Aft.newLst A q l (by rw [List.length_map]; exact z) p hp⟩
    | lck kvs => exact hd.dlist pins s σ H _ us Q I rv ⟨W, st, i, kvs, A, rl, .inr ho, fun p vs hp l z => Aft.newLst A q l (by rw [List.length_map]; exact z) p hp⟩
    | ins _ _ => exact q.elim
  · exact q.elim
theorem cd_listN : CallR X (.type "list") (rC X cls U (bltD .listN)) := by
  intro pins s σ H vs us Q I rv h
  obtain ⟨W, st, ds, A, rl, q⟩ := h
  simp only [bltD] at q
  split at q
  · obtain ⟨v, rfl, r1⟩ := rl.one_inv
    obtain ⟨a, us1, xs, e1, g, z, l⟩ := r1.tup_inv
    exact call_list_of pins s σ H _ us Q I rv ⟨a, xs, by rw [e1], .inr (SqT_ft (A.sub _ _ g)), Aft.newMut A q l z⟩
  · exact q.elim
theorem cd_int : CallR X (.type "int") (rC X cls U (bltD .int)) := by
  intro pins s σ H vs us Q I rv h
  obtain ⟨W, st, ds, A, rl, q⟩ := h
  simp only [bltD] at q
  split at q
  · obtain ⟨v, rfl, r1⟩ := rl.one_inv
    exact call_int1 pins s σ H _ us Q I rv (.inl ⟨_, by rw [r1.int_inv], Aft.val A q (.int _)⟩)
  · obtain ⟨v, rfl, r1⟩ := rl.one_inv
    exact call_int1 pins s σ H _ us Q I rv (.inr ⟨_, by rw [r1.bl_inv], Aft.val A q (.int _)⟩)
  · obtain ⟨v, rfl, r1⟩ := rl.one_inv
    rename_i z
    obtain ⟨hb, q⟩ := Aft.test q
    simp only [decide_eq_true_eq] at hb
    cases e : PySem.intText? z with
    | none => rw [e] at q; exact q.elim
    | some n =>
      rw [e] at q
      exact call_int_str pins s σ H _ us Q I rv ⟨z, n, by rw [r1.str_inv], e, hb, Aft.val A q (.int _)⟩
  · exact q.elim
theorem call_str_str : CallR X (.type "str") (fun xs H Q => ∃ z, xs = [.str z] ∧ Q (.str z) H) := by
  intro pins s σ H xs us Q I r h
  obtain ⟨z, rfl, q⟩ := h
  obtain ⟨u, rfl, t, rfl⟩ := vals1 r
  exact PySem.P.str_of_str ⟨.str z, H, I, ⟨_, rfl⟩, q⟩
theorem cd_str : CallR X (.type "str") (rC X cls U (bltD .str)) := by
  intro pins s σ H vs us Q I rv h
  obtain ⟨W, st, ds, A, rl, q⟩ := h
  simp only [bltD] at q
  split at q
  · obtain ⟨v, rfl, r1⟩ := rl.one_inv
    obtain ⟨hb, q⟩ := Aft.test q
    simp only [decide_eq_true_eq] at hb
    exact call_str_int pins s σ H _ us Q I rv ⟨_, by rw [r1.int_inv], hb, Aft.val A q (.str _)⟩
  · obtain ⟨v, rfl, r1⟩ := rl.one_inv
    exact call_str_str pins s σ H _ us Q I rv ⟨_, by rw [r1.str_inv], Aft.val A q (.str _)⟩
  · exact q.elim
theorem cd_abs : CallR X (.builtin "abs") (rC X cls U (bltD .abs)) := by
  intro pins s σ H vs us Q I rv h
  obtain ⟨W, st, ds, A, rl, q⟩ := h
  simp only [bltD] at q
  split at q
  · obtain ⟨v, rfl, r1⟩ := rl.one_inv
    exact call_abs pins s σ H _ us Q I rv ⟨_, by rw [r1.int_inv], Aft.val A q (.int _)⟩
  · exact q.elim
theorem cd_min2 (hc : X.calm = true) : CallR X (.builtin "min") (rC X cls U (bltD .min2)) := by
  intro pins s σ H vs us Q I rv h
  obtain ⟨W, st, ds, A, rl, q⟩ := h
  simp only [bltD] at q
  split at q
  · obtain ⟨v, w, rfl, r1, r2⟩ := rl.two_inv
    exact call_min2 hc pins s σ H _ us Q I rv ⟨_, _, by rw [r1.int_inv, r2.int_inv], Aft.val A q (.int _)⟩
  · exact q.elim
theorem cd_max2 (hc : X.calm = true) : CallR X (.builtin "max") (rC X cls U (bltD .max2)) := by
  intro pins s σ H vs us Q I rv h
  obtain ⟨W, st, ds, A, rl, q⟩ := h
  simp only [bltD] at q
  split at q
  · obtain ⟨v, w, rfl, r1, r2⟩ := rl.two_inv
    exact call_max2 hc pins s σ H _ us Q I rv ⟨_, _, by rw [r1.int_inv, r2.int_inv], Aft.val A q (.int _)⟩
  · exact q.elim
theorem foldl_max_mem : ∀ (r : List Int) (n : Int), r.foldl max n ∈ n :: r ∧ ∀ y ∈ n :: r, y ≤ r.foldl max n
  | [], n => by simp
  | a :: r, n => by
    obtain ⟨h1, h2⟩ := foldl_max_mem r (max n a)
    rw [List.foldl_cons]
    refine ⟨?_, fun y hy => ?_⟩
    · rcases List.mem_cons.mp h1 with e | e
      · rw [e]
        rcases Int.le_total n a with h | h
        · rw [Int.max_eq_right h]; simp
        · rw [Int.max_eq_left h]; simp
      · exact List.mem_cons_of_mem _ (List.mem_cons_of_mem _ e)
    · have h3 := h2 (max n a) List.mem_cons_self
      rcases List.mem_cons.mp hy with e | hy
      · rw [e]; have := Int.le_max_left n a; omega
      · rcases List.mem_cons.mp hy with e | hy
        · rw [e]; have := Int.le_max_right n a; omega
        · exact h2 y (List.mem_cons_of_mem _ hy)
theorem cd_max1 (hc : X.calm = true) : CallR X (.builtin "max") (rC X cls U (bltD .max1)) := by
  intro pins s σ H vs us Q I rv h
  obtain ⟨W, st, ds, A, rl, q⟩ := h
  simp only [bltD] at q
  split at q
  · obtain ⟨v, rfl, r1⟩ := rl.one_inv
    rename_i ys
    cases e2 : intsOf ys with
    | none => rw [e2] at q; exact q.elim
    | some ns =>
      rw [e2] at q
      cases ns with
      | nil => exact q.elim
      | cons n r =>
        obtain ⟨a, xs, e1, g, z, l⟩ := r1.lst_inv
        have ex := l.of_ints e2
        subst ex
        obtain ⟨m1, m2⟩ := foldl_max_mem r n
        refine cr_max hc pins s σ H _ us Q I rv ⟨a, n :: r, by rw [e1], SqL.of (A.sub _ _ g), by simp, fun m hm hle => ?_⟩
        have e : m = r.foldl max n := by
          have h1 := m2 m hm
          have h2 := hle _ m1
          omega
        rw [e]
        exact Aft.val A q (.int _)
  · exact q.elim
end
end EV
/-! EvH: isinstance, methods of built-in types, by data. -/
namespace EV
open PySem PySem.Spec PyProof.Rows L2

/-- the name of a kind's type -/
def Kd.nm : Kd → String
  | .non => "NoneType"
  | .bl => "bool"
  | .int => "int"
  | .str => "str"
  | .tup => "tuple"
  | .lst => "list"
  | .dic => "dict"
theorem kit_kd (k t : Kd) (h : t ≠ .non) : kitB k.nm t.nm = some (k.sub t) := by
  cases k <;> cases t <;> first | exact absurd rfl h | decide +kernel
section
variable {X : Cx} {cls : Cl} {U : XW} {pins : List (Addr × Obj)} {σ : L2.St} {H : Hp} {s : Shared} {W : Wd} {st : Store}
theorem DicO.at (I : Inv X pins σ H s) {a : Addr} {kvs : List (D × D)} (oa : OAt X.K X.w cls W H a (.dic kvs) ∨ OAt X.K X.w cls W H a (.lck kvs)) : ∃ o, s.heap.get? a = some o ∧ DicO X.K X.w W a o kvs := by
  rcases oa with ⟨o, h, d⟩ | ⟨o, od, h, d⟩
  · exact ⟨o, (I.hok a _ h).1, d⟩
  · exact ⟨o, (I.hok a _ h).2.1, d⟩
/-- what the library's isinstance rules ask -/
theorem Rep.kit (I : Inv X pins σ H s) (A : Ag X.K X.w cls W st H) {x : V} {u : Value} {d : D} {k : Kd} (r : Rep X.K W x d) (hk : d.kd st = some k) (rx : RelV x u) :
    ∃ P : Heap → Prop, PySem.W.KitX X.K u (.type k.nm) P ∧ P s.heap ∧ u ≠ .builtin "__main__.__loader__#opaque" := by
  cases r with
  | non => cases hk; exact kit_of I rx (.base .non)
  | bl b => cases hk; exact kit_of I rx (.base (.bl b))
  | int i => cases hk; exact kit_of I rx (.base (.int i))
  | str z => cases hk; exact kit_of I rx (.base (.str z))
  | tup g _ _ => cases hk; exact kit_of I rx (.fTuple (A.sub _ _ g))
  | lst g _ _ => cases hk; exact kit_of I rx (.base (.lst (A.sub _ _ g)))
  | scr g _ => cases hk
  | @ref a i g =>
    obtain ⟨o, ho, oa⟩ := A.at g
    simp only [D.kd, ho] at hk
    cases o with
    | lst ds => cases hk; obtain ⟨xs, hx, _⟩ := oa; exact kit_of I rx (.base (.lst hx))
    | dic kvs =>
      cases hk
      obtain ⟨o, e, _, _, _, es, ep, ex, _⟩ := DicO.at I (.inl oa)
      cases rx
      exact ⟨_, PySem.W.kitx_dict, ⟨o, e, ex.1⟩, fun z => nomatch z⟩
    | lck kvs =>
      cases hk
      obtain ⟨o, e, _, _, _, es, ep, ex, _⟩ := DicO.at I (.inr oa)
      cases rx
      exact ⟨_, PySem.W.kitx_dict, ⟨o, e, ex.1⟩, fun z => nomatch z⟩
    | ins _ _ => cases hk
/-- a value's type, its instance without a dict -/
theorem Rep.ty (I : Inv X pins σ H s) (A : Ag X.K X.w cls W st H) {x : V} {u : Value} {d : D} {k : Kd} (r : Rep X.K W x d) (hk : d.kd st = some k) (hn : k = .tup ∨ k = .lst ∨ k = .str ∨ k = .dic) (rx : RelV x u) :
    s.TypeIs u k.nm ∧ ∀ a, u = .ref a → ∃ ob, s.heap.get? a = some ob ∧ ob.dict = none := by
  cases r with
  | non => cases hk; simp at hn
  | bl b => cases hk; simp at hn
  | int i => cases hk; simp at hn
  | str z =>
    cases hk
    exact tyV_is (T := "str") I rx rfl
  | tup g _ _ =>
    cases hk
    cases rx
    obtain ⟨e, _⟩ := I.hok _ _ (A.sub _ _ g)
    exact ⟨⟨_, e, rfl⟩, fun a q => by cases q; exact ⟨_, e, rfl⟩⟩
  | lst g _ _ => cases hk; exact tyV_is (T := "list") I rx (.inl ⟨rfl, _, SqL.of (A.sub _ _ g)⟩)
  | scr g _ => cases hk
  | @ref a i g =>
    obtain ⟨o, ho, oa⟩ := A.at g
    simp only [D.kd, ho] at hk
    cases o with
    | lst ds => cases hk; obtain ⟨xs, hx, _⟩ := oa; exact tyV_is (T := "list") I rx (.inl ⟨rfl, _, SqL.of hx⟩)
    | dic kvs =>
      cases hk
      obtain ⟨o, e, _, _, _, es, ep, ex, _⟩ := DicO.at I (.inl oa)
      cases rx
      exact ⟨⟨o, e, ex.1⟩, fun a q => by cases q; exact ⟨o, e, ex.2.1⟩⟩
    | lck kvs =>
      cases hk
      obtain ⟨o, e, _, _, _, es, ep, ex, _⟩ := DicO.at I (.inr oa)
      cases rx
      exact ⟨⟨o, e, ex.1⟩, fun a q => by cases q; exact ⟨o, e, ex.2.1⟩⟩
    | ins _ _ => cases hk
end
section
variable {X : Cx} {cls : Cl} {U : XW}
/-- isinstance(x, T) -/
theorem cd_isT (t : Kd) (ht : t ≠ .non) : CallR X (.builtin "isinstance") (fun vs H Q => ∃ W st v d, vs = [v, .ty t.nm] ∧ Ag X.K X.w cls W st H ∧ Rep X.K W v d ∧ Aft X.K X.w cls U (Rep X.K) W H (bltD (.isT t) [d] st) Q) := by
  intro pins s σ H vs us Q I rv h
  obtain ⟨W, st, v, d, rfl, A, r, q⟩ := h
  obtain ⟨u1, u2, rfl, r1, r2⟩ := vals2 rv
  obtain rfl : u2 = Value.type t.nm := r2
  simp only [bltD] at q
  cases e : d.kd st with
  | none => rw [e] at q; exact q.elim
  | some k =>
    rw [e] at q
    obtain ⟨P, Z, p, hx⟩ := r.kit I A e r1
    exact PySem.W.kia_one Z I.kIn p (kit_ty (kit_kd k t ht)) hx fun tk => ⟨.bl _, H, I.tok tk, rfl, Aft.val A q (.bl _)⟩
/-! ### methods -/
theorem md_count (hu : X.A.units + 64 < cLine) : MtR X "tuple.count" (rM X cls U .count) := by
  intro pins s σ H x xs v us Q I rx rs h
  obtain ⟨W, st, dx, ds, A, r1, rl, q⟩ := h
  unfold mthD at q
  split at q <;> try contradiction
  · rename_i ys d _
    obtain ⟨hb, q⟩ := Aft.test q
    rw [Bool.and_eq_true] at hb
    obtain ⟨w, rfl, r2⟩ := rl.one_inv
    obtain ⟨u, rfl, ru⟩ := rs.one
    obtain ⟨a, us1, zs, e1, g, z, l⟩ := r1.tup_inv
    subst e1
    cases rx
    obtain ⟨its, rv, pl, hz⟩ := I.tuple (SqT_ft (K := X.K) (A.sub _ _ g))
    obtain ⟨as, h1⟩ := r2.reads I A hb.1 ru
    obtain ⟨bs, h2⟩ := l.reads I A hb.2 rv
    have p1 := D.py_plain d hb.1
    have p2 := D.pys_plain ys hb.2
    refine SeqAt.count_tuple_data (vs := its.toArray) pl (by simpa using h2) h1 p2.1 p1.1 (by have := Nat.min_le_right (PyData.depthAll (D.pys ys)) d.py.depth; omega) ?_
    rw [countD_py hb.1 hb.2]
    exact ⟨.int _, H, I.tok _, ⟨_, rfl⟩, Aft.val A q (.int _)⟩
theorem md_split : MtR X "str.split" (rM X cls U .split) := by
  intro pins s σ H x xs v us Q I rx rs h
  obtain ⟨W, st, dx, ds, A, r1, rl, q⟩ := h
  unfold mthD at q
  split at q <;> try contradiction
  · rename_i z t _
    obtain ⟨hb, q⟩ := Aft.test q
    simp only [Bool.and_eq_true, decide_eq_true_eq, sizeLine_lim] at hb
    obtain ⟨w, rfl, r2⟩ := rl.one_inv
    refine mt_split pins s σ H x _ v us Q I rx rs ⟨z, t, r1.str_inv, by rw [r2.str_inv], by simp; omega, hb.2, ?_⟩
    exact Aft.newLst A q (RepL.strs _) (by rw [List.length_map]; exact Nat.le_trans (PyProof.Rows.split_le z t) hb.2)
theorem md_join : MtR X "str.join" (rM X cls U .join) := by
  intro pins s σ H x xs v us Q I rx rs h
  obtain ⟨W, st, dx, ds, A, r1, rl, q⟩ := h
  unfold mthD at q
  split at q <;> try contradiction
  · rename_i z ys _
    obtain ⟨w, rfl, r2⟩ := rl.one_inv
    cases e : strsOf ys with
    | none => rw [e] at q; exact q.elim
    | some zs =>
      rw [e] at q
      obtain ⟨hb, q⟩ := Aft.test q
      simp only [decide_eq_true_eq] at hb
      obtain ⟨a, vs, e1, g, z1, l⟩ := r2.lst_inv
      have ex := l.of_strs e
      subst ex
      exact mt_join pins s σ H x _ v us Q I rx rs ⟨z, a, zs, r1.str_inv, by rw [e1], .inl (SqL.of (A.sub _ _ g)), hb, Aft.val A q (.str _)⟩
theorem upd_eq {H : Hp} {a b : Addr} {o : HO} (h : b ≠ a) : upd H a o b = H b := upd_ne h
theorem md_append : MtR X "list.append" (rM X cls U .append) := by
  intro pins s σ H x xs v us Q I rx rs h
  obtain ⟨W, st, dx, ds, A, r1, rl, q⟩ := h
  unfold mthD at q
  split at q <;> try contradiction
  · rename_i i d _
    obtain ⟨w, rfl, r2⟩ := rl.one_inv
    obtain ⟨a, e1, ha⟩ := r1.ref_inv
    obtain ⟨o, ho, oa⟩ := A.at ha
    simp only [ho] at q
    cases o with
    | lst ys =>
      obtain ⟨hb, q⟩ := Aft.test q
      simp only [decide_eq_true_eq, sizeLine_lim] at hb
      obtain ⟨zs, hx, l, z⟩ := oa
      refine mt_append pins s σ H x _ v us Q I rx rs ⟨a, zs, w, e1, rfl, hx, by rw [l.length]; exact hb, ?_⟩
      obtain ⟨A', x'⟩ := A.setObj (H' := upd H a (.lst (zs ++ [w]))) (o := .lst (ys ++ [d])) ha (fun b hb => upd_ne hb) ⟨_, upd_same, l.append (.one r2), by rw [List.length_append]; exact hb⟩ (fun _ _ z => by rw [hx] at z; cases z)
      exact q _ _ _ x' A' .non
    | _ => exact q.elim
theorem md_extend : MtR X "list.extend" (rM X cls U .extend) := by
  intro pins s σ H x xs v us Q I rx rs h
  obtain ⟨W, st, dx, ds, A, r1, rl, q⟩ := h
  unfold mthD at q
  split at q <;> try contradiction
  · rename_i i es _
    obtain ⟨w, rfl, r2⟩ := rl.one_inv
    obtain ⟨a, e1, ha⟩ := r1.ref_inv
    obtain ⟨o, ho, oa⟩ := A.at ha
    simp only [ho] at q
    cases o with
    | lst ys =>
      obtain ⟨hb, q⟩ := Aft.test q
      simp only [decide_eq_true_eq, sizeLine_lim] at hb
      obtain ⟨zs, hx, l, z⟩ := oa
      obtain ⟨b, vs, e2, g, z2, l2⟩ := r2.lst_inv
      refine mt_extend pins s σ H x _ v us Q I rx rs ⟨a, b, zs, vs, e1, by rw [e2], hx, A.sub _ _ g, by rw [l.length, l2.length]; exact hb, ?_⟩
      obtain ⟨A', x'⟩ := A.setObj (H' := upd H a (.lst (zs ++ vs))) (o := .lst (ys ++ es)) ha (fun b hb => upd_ne hb) ⟨_, upd_same, l.append l2, by rw [List.length_append]; exact hb⟩ (fun _ _ z => by rw [hx] at z; cases z)
      exact q _ _ _ x' A' .non
    | _ => exact q.elim
theorem md_pop : MtR X "list.pop" (rM X cls U .pop) := by
  intro pins s σ H x xs v us Q I rx rs h
  obtain ⟨W, st, dx, ds, A, r1, rl, q⟩ := h
  unfold mthD at q
  split at q <;> try contradiction
  · rename_i i _
    obtain rfl := rl.nil_inv
    obtain ⟨a, e1, ha⟩ := r1.ref_inv
    obtain ⟨o, ho, oa⟩ := A.at ha
    simp only [ho] at q
    cases o with
    | lst ys =>
      obtain ⟨zs, hx, l, z⟩ := oa
      cases e : ys.getLast? with
      | none => simp only [e] at q; exact q.elim
      | some y =>
        simp only [e] at q
        rw [List.getLast?_eq_getElem?] at e
        obtain ⟨w, h1, h2⟩ := l.get e
        refine mt_pop pins s σ H x _ v us Q I rx rs ⟨a, zs, w, e1, rfl, hx, by rw [l.length]; exact h1, ?_⟩
        obtain ⟨A', x'⟩ := A.setObj (H' := upd H a (.lst zs.dropLast)) (o := .lst ys.dropLast) ha (fun b hb => upd_ne hb) ⟨_, upd_same, l.dropLast, by rw [List.length_dropLast]; omega⟩ (fun _ _ z => by rw [hx] at z; cases z)
        exact q _ _ _ x' A' (h2.mono x'.le)
    | _ => exact q.elim
theorem md_get2 (hd : Lib X cls) : MtR X "dict.get" (rM X cls U .get2) := by
  intro pins s σ H x xs v us Q I rx rs h
  obtain ⟨W, st, dx, ds, A, r1, rl, q⟩ := h
  unfold mthD at q
  split at q <;> try contradiction
  · rename_i i dk d _
    obtain ⟨a, e1, ha⟩ := r1.ref_inv
    obtain ⟨o, ho, oa⟩ := A.at ha
    simp only [ho] at q
    cases o with
    | dic kvs =>
      obtain ⟨hb, q⟩ := Aft.test q
      exact hd.dget2 pins s σ H x _ v us Q I rx rs ⟨W, st, i, kvs, dk, d, A, r1, rl, .inl ho, hb, fun w r => Aft.val A q r⟩
    | lck kvs =>
      obtain ⟨hb, q⟩ := Aft.test q
      exact hd.dget2 pins s σ H x _ v us Q I rx rs ⟨W, st, i, kvs, dk, d, A, r1, rl, .inr ho, hb, fun w r => Aft.val A q r⟩
    | _ => exact q.elim
end
end EV
/-! EvSt: tuples cut with a step. -/
namespace EV
open PySem PySem.Spec PyProof.Rows L2 HT

section
variable {prog : Program} {w : World} {A : Around} {E : Value → Shared → Prop} {s : Shared}
abbrev adj (lo hi : Option Int) (c : Int) (n : Nat) : Int × Int := Builtin.Slice.sliceAdjust lo hi c n
abbrev plc (lo hi : Option Int) (c : Int) (n : Nat) : Nat := Builtin.Slice.slicePlaces (adj lo hi c n).1 (adj lo hi c n).2 c
theorem applied_step {sl : Addr} {vl vu vc : Value} {lo hi : Option Int} {c : Int} {n : Nat} {Q : Int × Int × Nat → Shared → Prop} (hs : s.heap.IsSliceOf sl vl vu vc) (pl : IsPart vl lo) (pu : IsPart vu hi) (pc : IsPart vc (some c)) (h0 : c ≠ 0)
    (h : Q ((adj lo hi c n).1, c, plc lo hi c n) s) : wpAny (model prog w) A (Builtin.Slice.sliceApplied (.ref sl) (pure (n : Int))) Q E s := by
  obtain ⟨os, hos, hcs, hds⟩ := id hs
  unfold Builtin.Slice.sliceApplied Builtin.Slice.sliceFields
  refine wpAny_bind (wpAny_bind (wpAny_field hos hds (x := vl) rfl (wpAny_bind (wpAny_field hos hds (x := vu) rfl (wpAny_bind (wpAny_field hos hds (x := vc) rfl (wpAny_pure ?_)))))))
  refine wpAny_bind (slicePart_ pc ?_)
  show wpAny _ _ (if (c == 0) = true then _ else _) _ _ s
  rw [if_neg (by simpa using h0)]
  exact wpAny_bind (slicePart_ pl (wpAny_bind (slicePart_ pu (wpAny_bind (wpAny_pure (wpAny_pure h))))))
theorem getItem_tup_step {t sl : Addr} {items : List Value} {vl vu vc : Value} {lo hi : Option Int} {c : Int} {Q : Value → Shared → Prop} (ht : IsTup s.heap t items.toArray) (hs : s.heap.IsSliceOf sl vl vu vc) (pl : IsPart vl lo) (pu : IsPart vu hi) (pc : IsPart vc (some c)) (h0 : c ≠ 0)
    (hw : ((adj lo hi c items.length).1 = 0 ∧ c = 1 ∧ plc lo hi c items.length = items.length) → Q (.ref t) s)
    (hn : ¬ ((adj lo hi c items.length).1 = 0 ∧ c = 1 ∧ plc lo hi c items.length = items.length) → Q (.ref s.heap.objs.size) { s with heap := s.heap.push { cls := .type "tuple", data := .seq (stepL items lo hi c).toArray } })
    (hsz : (stepL items lo hi c).length ≤ sizeLine) : wpAny (model prog w) A (getItem (.ref t) (.ref sl)) Q E s := by
  obtain ⟨os, hos, hcs, hds⟩ := id hs
  have hTs : s.TypeIs (.ref sl) "slice" := ⟨os, hos, hcs⟩
  have hsize : items.toArray.size = items.length := List.size_toArray
  unfold getItem
  try with_reducible refine wpAny_holding ?_
  first | refine wpAny_bind (wpAny_pure ?_) | skip
  refine wpAny_bind (wpAny_sequenceKey ht.typeIs (by decide) ?_)
  refine wpAny_bind (wpAny_callSpecial?_slot (name := Str.ofString "__getitem__") ht.typeIs PyProof.Rows.slot_tuple_getitem
    (wpAny_call_entry PyProof.Rows.slot_tuple_getitem ht.typeIs entry_tuple_getitem ?_ (args_tuple_getitem _ _)))
  show wpAny _ _ (Builtin.Tuple.tupleItemsOf (.ref t) >>= _) _ _ s
  refine wpAny_bind (tupleItemsOf_ ht (wpAny_bind (wpAny_typeOf hTs ?_)))
  rw [if_pos (by decide), hsize]
  refine wpAny_bind (applied_step hs pl pu pc h0 ?_)
  show wpAny _ _ (if ((adj lo hi c items.length).1 == 0 && c == 1 && plc lo hi c items.length == items.toArray.size) = true then _ else _) _ _ s
  rw [hsize]
  by_cases hb : (adj lo hi c items.length).1 = 0 ∧ c = 1 ∧ plc lo hi c items.length = items.length
  · have hyes : ((adj lo hi c items.length).1 == 0 && c == 1 && plc lo hi c items.length == items.length) = true := by
      rw [Bool.and_eq_true, Bool.and_eq_true, beq_iff_eq, beq_iff_eq, beq_iff_eq]
      exact ⟨⟨hb.1, hb.2.1⟩, hb.2.2⟩
    rw [if_pos hyes]
    refine wpAny_bind ?_
    show wpAny _ _ (typeOf (.ref t) >>= fun T => pure (T == .type "tuple")) _ _ s
    refine wpAny_bind (wpAny_typeOf ht.typeIs (wpAny_pure ?_))
    rw [if_pos (by decide)]
    first
      | exact wpAny_bind (wpAny_rule (wpAny_pure ⟨_, rfl, wpAny_pure (hw hb)⟩))
      | exact wpAny_bind (wpAny_rule (wpAny_bind (wpAny_pure (wpAny_pure ⟨_, rfl, wpAny_pure (hw hb)⟩))))
  · have hno : ¬ (((adj lo hi c items.length).1 == 0 && c == 1 && plc lo hi c items.length == items.length) = true) := by
      rw [Bool.and_eq_true, Bool.and_eq_true, beq_iff_eq, beq_iff_eq, beq_iff_eq]
      exact fun z => hb ⟨z.1.1, z.1.2, z.2⟩
    rw [if_neg hno]
    have hpick : ((List.range (plc lo hi c items.length)).filterMap fun k : Nat => items.toArray[((adj lo hi c items.length).1 + (k : Int) * c).toNat]?).toArray = (stepL items lo hi c).toArray := by
      unfold stepL
      simp only [List.getElem?_toArray]
    rw [hpick]
    have q := hn hb
    have hok : sizeOk (.seq (stepL items lo hi c).toArray) := by
      show (stepL items lo hi c).toArray.size ≤ sizeLine
      rw [List.size_toArray]
      exact hsz
    first
      | exact wpAny_bind (m := Builtin.Tuple.tupleExact _) (wpAny_newObj_type (wpAny_pure ⟨_, rfl, wpAny_pure q⟩) hok)
      | exact wpAny_bind (m := Builtin.Tuple.tupleExact _) (wpAny_newObj_type (wpAny_bind (wpAny_pure (wpAny_pure ⟨_, rfl, wpAny_pure q⟩))) hok)
      | exact wpAny_bind (wpAny_bind (m := Builtin.Tuple.tupleExact _) (wpAny_newObj_type (wpAny_pure (wpAny_pure ⟨_, rfl, wpAny_pure q⟩)) hok))
      | exact wpAny_bind (wpAny_bind (m := Builtin.Tuple.tupleExact _) (wpAny_newObj_type (wpAny_pure ⟨_, rfl, wpAny_pure q⟩) hok))
end
/-! ### places picked -/
theorem RepL.pick {K : PySem.W.Frag} {W : Wd} {xs : List V} {ds : List D} (l : RepL K W xs ds) (f : Nat → Nat) : ∀ is : List Nat, RepL K W (is.filterMap fun i => xs[f i]?) (is.filterMap fun i => ds[f i]?)
  | [] => .nil
  | i :: is => by
    rw [List.filterMap_cons, List.filterMap_cons]
    have ih := RepL.pick l f is
    cases e : ds[f i]? with
    | none =>
      have e2 : xs[f i]? = none := by
        rw [List.getElem?_eq_none_iff] at e ⊢
        rw [l.length]; exact e
      rw [e2]
      exact ih
    | some d =>
      obtain ⟨x, h1, h2⟩ := l.get e
      rw [h1]
      exact .cons h2 ih
theorem vals_pick {xs : List V} {us : List Value} (r : Vals xs us) (f : Nat → Nat) : ∀ is : List Nat, Vals (is.filterMap fun i => xs[f i]?) (is.filterMap fun i => us[f i]?)
  | [] => .nil
  | i :: is => by
    rw [List.filterMap_cons, List.filterMap_cons]
    have ih := vals_pick r f is
    cases e : xs[f i]? with
    | none =>
      have e2 : us[f i]? = none := by
        rw [List.getElem?_eq_none_iff] at e ⊢
        rw [← r.length]; exact e
      rw [e2]
      exact ih
    | some d =>
      obtain ⟨x, h1, h2⟩ := r.get e
      rw [h1]
      exact .cons h2 ih
theorem range_take {α : Type} (xs : List α) : ∀ k : Nat, ((List.range k).filterMap fun i => xs[i]?) = xs.take k
  | 0 => rfl
  | k + 1 => by
    rw [List.range_succ, List.filterMap_append, range_take xs k, List.take_succ]
    congr 1
theorem stepL_whole {α : Type} (xs : List α) (lo hi : Option Int) (h1 : (adj lo hi 1 xs.length).1 = 0) (h2 : plc lo hi 1 xs.length = xs.length) : stepL xs lo hi 1 = xs := by
  unfold stepL
  show ((List.range (plc lo hi 1 xs.length)).filterMap fun k : Nat => xs[((adj lo hi 1 xs.length).1 + (k : Int) * 1).toNat]?) = xs
  rw [h1, h2]
  have e : (fun k : Nat => xs[((0 : Int) + (k : Int) * 1).toNat]?) = fun k => xs[k]? := by
    funext k
    have : ((0 : Int) + (k : Int) * 1).toNat = k := by omega
    rw [this]
  rw [e, range_take, List.take_length]
theorem plc_rev (n : Nat) : plc none none (-1) n = n := by
  show Builtin.Slice.slicePlaces ((n : Int) - 1) (-1) (-1) = n
  unfold Builtin.Slice.slicePlaces
  rw [if_neg (by decide)]
  split
  · have e : (- -1 : Int) = 1 := rfl
    rw [e, Int.ediv_one]
    omega
  · omega
theorem stepL_rev {α : Type} (xs : List α) : stepL xs none none (-1) = xs.reverse := by
  unfold stepL
  show ((List.range (plc none none (-1) xs.length)).filterMap fun k : Nat => xs[(((xs.length : Int) - 1) + (k : Int) * (-1)).toNat]?) = xs.reverse
  rw [plc_rev]
  have e : ((List.range xs.length).filterMap fun k : Nat => xs[(((xs.length : Int) - 1) + (k : Int) * (-1)).toNat]?) = ((List.range xs.length).filterMap fun k => xs.reverse[k]?) := by
    have go : ∀ is : List Nat, (∀ k ∈ is, k < xs.length) → (is.filterMap fun k : Nat => xs[(((xs.length : Int) - 1) + (k : Int) * (-1)).toNat]?) = is.filterMap fun k => xs.reverse[k]? := by
      intro is
      induction is with
      | nil => intro _; rfl
      | cons k is ih =>
        intro h
        have hk := h k (List.mem_cons_self ..)
        have e : (((xs.length : Int) - 1) + (k : Int) * (-1)).toNat = xs.length - 1 - k := by omega
        rw [List.filterMap_cons, List.filterMap_cons, ih fun j hj => h j (List.mem_cons_of_mem _ hj), List.getElem?_reverse hk, e]
    exact go _ fun k hk => List.mem_range.mp hk
  have z := range_take xs.reverse xs.length
  rw [e, z, List.take_of_length_le (by rw [List.length_reverse]; exact Nat.le_refl _)]
/-! ### the rule -/
section
variable {X : Cx} {cls : Cl} {U : XW}
/-- t[lo:hi:c] by the heap -/
theorem sl_step {value slice : Expr} {pins : List (Addr × Obj)} {s : Shared} {σ : L2.St} {H : Hp} {a sl : Addr} {xs : List V} {vl vu vc : Value} {lo hi : Option Int} {c : Int} {Q : VK} (I : Inv X pins σ H s) (hx : SqT X.K H a xs) (hs : s.heap.IsSliceOf sl vl vu vc) (pl : IsPart vl lo) (pu : IsPart vu hi) (pc : IsPart vc (some c)) (h0 : c ≠ 0)
    (hsz : (stepL xs lo hi c).length ≤ sizeLine) (q1 : stepL xs lo hi c = xs → Q (.ref a) H) (q2 : ∀ p us, H p = none → Q (.ref p) (upd H p (FT us (stepL xs lo hi c))))
    (hsub : subscripted slice false (.ref a) (.ref sl) = operate [.ref a, .ref sl] (getItem (.ref a) (.ref sl))) :
    wpAny (model X.prog X.w) X.A (subscriptTail value slice (.ref a) (.ref sl)) (EP X pins σ Q) X.xe s := by
  obtain ⟨its, r, ht, hz⟩ := I.tuple hx
  have hl := r.length
  refine tail_any (ops := [.ref a, .ref sl]) ht.typeIs PyProof.Rows.slot_tuple_getitem.lookup ?_ hsub
  have rs : Vals (stepL xs lo hi c) (stepL its lo hi c) := by
    unfold stepL
    rw [hl]
    exact vals_pick r (fun k => ((adj lo hi c its.length).1 + (k : Int) * c).toNat) _
  refine getItem_tup_step ht hs pl pu pc h0 (fun hw => ?_) (fun hn => ?_) (by rw [← rs.length]; exact hsz)
  · obtain ⟨h1, h2, h3⟩ := hw
    subst h2
    rw [← hl] at h1 h3
    exact ⟨.ref a, H, I, rfl, q1 (stepL_whole xs lo hi h1 h3)⟩
  · exact ⟨.ref s.heap.objs.size, _, I.laidT (t' := s.toks) rs hsz, rfl, q2 _ _ (I.hok.fresh (Nat.le_refl _))⟩
end
end EV
/-! EvI: expressions. -/
namespace EV
open PySem PySem.Spec PyProof.Rows L2

section
variable {X : Cx} {cls : Cl} {U : XW} {C : Ctx} {a b c : Expr} {i j k : E} {pos : Pos}
/-- an expression and its IR, as a value and as a test -/
structure Good (X : Cx) (cls : Cl) (U : XW) (C : Ctx) (e : Expr) (i : E) : Prop where
  pe : PE X e (tD X.K X.w cls U (evE C i))
  pt : PT X e (tDT X.K X.w cls U (evE C i))
theorem tDT_tD {den : Env → Store → R D} {σ : L2.St} {H : Hp} {Q : Bool → Hp → Prop} (h : tDT X.K X.w cls U den σ H Q) : tD X.K X.w cls U den σ H (fun x H1 => ∃ c, x = .bl c ∧ Q c H1) := by
  obtain ⟨W, env, st, he, A, hb, q⟩ := h
  refine ⟨W, env, st, he, A, ?_⟩
  cases e : den env st with
  | ok d st' =>
    rw [e] at q
    obtain ⟨b, rfl⟩ := hb d st' e
    exact fun v W' H' x A' r => ⟨b, r.bl_inv, q b W' H' x A' rfl⟩
  | err k st' => rw [e] at q; exact q
  | bad => rw [e] at q; exact q
theorem good_val (h : PE X a (tD X.K X.w cls U (evE C i))) (he : ∀ whole, isTrue a X.env whole = (do let v ← whole; standAt a.pos; holding [v] (truthy v))) : Good X cls U C a i :=
  ⟨h, PT.mono (pt_val h he) fun σ H Q q => tDT_tD q⟩
theorem g_bin {op : Operator} (ha : Good X cls U C a i) (hb : Good X cls U C b j) : Good X cls U C (.BinOp a op b pos) (.bin op i j) :=
  good_val (PE.mono (pe_op (op_binD (cls := cls) (U := U) op) ha.pe hb.pe) fun σ H Q h => d_two (f := binD op) (fun env st => by rw [evE]) (fun x y H Q q => q) h) fun _ => rfl
theorem g_neg (ha : Good X cls U C a i) : Good X cls U C (.UnaryOp .USub a pos) (.neg i) := by
  refine good_val (PE.mono (pe_un un_neg ha.pe) fun σ H Q h => ?_) fun _ => rfl
  obtain ⟨W, env, st, he, A, q⟩ := h
  rw [evE] at q
  refine ⟨W, env, st, he, A, (q.bind).mono fun x H1 ⟨W1, st1, dx, x1, A1, r1, q1⟩ => ?_⟩
  cases dx with
  | int n => exact ⟨n, r1.int_inv, q1.val A1 (.int _)⟩
  | _ => exact q1.elim
theorem g_cmp {op : CmpOp} (hu : X.A.units + 64 < cLine) (hd : DicR X cls) (ha : Good X cls U C a i) (hb : Good X cls U C b j) (hm : behindInMarks op b = false) : Good X cls U C (.Compare a [op] [b] pos) (.cmp op i j) :=
  ⟨PE.mono (pe_cmpR (op_cmpD (cls := cls) (U := U) hu hd op) ha.pe hb.pe hm) fun σ H Q h => d_two (f := cmpD op) (fun env st => by rw [evE]) (fun x y H Q q => q) h,
   PT.mono (pt_cmpR (op_cmpD (cls := cls) (U := U) hu hd op) ha.pe hb.pe hm) fun σ H Q h => d_two (f := cmpD op) (fun env st => by rw [evE]) (fun x y H Q q => q) (tDT_tD h)⟩
theorem chain_read {o1 o2 : CmpOp} {σ : L2.St} {H : Hp} {Q : VK} (h : tD X.K X.w cls U (evE C (.chn o1 o2 i j k)) σ H Q) :
    tChain (rBin X cls U (cmpD o1)) (rBin X cls U (cmpD o2)) (tD X.K X.w cls U (evE C i)) (tD X.K X.w cls U (evE C j)) (tD X.K X.w cls U (evE C k)) σ H Q := by
  obtain ⟨W, env, st, he, A, q⟩ := h
  rw [evE] at q
  refine ⟨W, env, st, he, A, (q.bind).mono fun x H1 ⟨W1, st1, dx, x1, A1, r1, q1⟩ => ?_⟩
  refine ⟨W1, env, st1, he.mono x1.le, A1, (q1.bind).mono fun y H2 ⟨W2, st2, dy, x2, A2, r2, q2⟩ => ?_⟩
  refine ⟨W2, st2, dx, dy, A2, r1.mono x2.le, r2, (q2.bind).mono fun z H3 ⟨W3, st3, dz, x3, A3, r3, q3⟩ => ?_⟩
  cases dz with
  | bl t =>
    refine ⟨t, r3.bl_inv, ?_⟩
    cases t with
    | true =>
      rw [if_pos rfl]
      exact ⟨W3, env, st3, ((he.mono x1.le).mono x2.le).mono x3.le, A3, (q3.bind).mono fun v H4 ⟨W4, st4, dv, x4, A4, r4, q4⟩ => ⟨W4, st4, dy, dv, A4, (r2.mono x3.le).mono x4.le, r4, q4⟩⟩
    | false =>
      rw [if_neg Bool.false_ne_true]
      exact Aft.val A3 q3 (.bl _)
  | _ => exact q3.elim
theorem g_chn {o1 o2 : CmpOp} (hu : X.A.units + 64 < cLine) (hd : DicR X cls) (ha : Good X cls U C a i) (hb : Good X cls U C b j) (hc : Good X cls U C c k) (hm2 : behindInMarks o2 c = false) :
    Good X cls U C (.Compare a [o1, o2] [b, c] pos) (.chn o1 o2 i j k) :=
  ⟨PE.mono (pe_chain (op_cmpD (cls := cls) (U := U) hu hd o1) (op_cmpD (cls := cls) (U := U) hu hd o2) ha.pe hb.pe hc.pe hm2) fun σ H Q h => chain_read h,
   PT.mono (pt_chain (op_cmpD (cls := cls) (U := U) hu hd o1) (op_cmpD (cls := cls) (U := U) hu hd o2) ha.pe hb.pe hc.pe hm2) fun σ H Q h => chain_read (tDT_tD h)⟩
/-! ### and, or, not -/
theorem and_val {σ : L2.St} {H : Hp} {Q : VK} (h : tD X.K X.w cls U (evE C (.and i j)) σ H Q) : tAndV (tD X.K X.w cls U (evE C i)) (tD X.K X.w cls U (evE C j)) σ H Q := by
  obtain ⟨W, env, st, he, A, q⟩ := h
  rw [evE] at q
  refine ⟨W, env, st, he, A, (q.bind).mono fun x H1 ⟨W1, st1, dx, x1, A1, r1, q1⟩ => ?_⟩
  cases dx with
  | bl t =>
    refine ⟨t, r1.bl_inv, ?_⟩
    cases t with
    | true => rw [if_pos rfl]; exact ⟨W1, env, st1, he.mono x1.le, A1, q1⟩
    | false => rw [if_neg Bool.false_ne_true]; exact Aft.val A1 q1 (.bl _)
  | _ => exact q1.elim
theorem or_val {σ : L2.St} {H : Hp} {Q : VK} (h : tD X.K X.w cls U (evE C (.or i j)) σ H Q) : tOrV (tD X.K X.w cls U (evE C i)) (tD X.K X.w cls U (evE C j)) σ H Q := by
  obtain ⟨W, env, st, he, A, q⟩ := h
  rw [evE] at q
  refine ⟨W, env, st, he, A, (q.bind).mono fun x H1 ⟨W1, st1, dx, x1, A1, r1, q1⟩ => ?_⟩
  cases dx with
  | bl t =>
    refine ⟨t, r1.bl_inv, ?_⟩
    cases t with
    | true => rw [if_pos rfl]; exact Aft.val A1 q1 (.bl _)
    | false => rw [if_neg Bool.false_ne_true]; exact ⟨W1, env, st1, he.mono x1.le, A1, q1⟩
  | _ => exact q1.elim
/-- a test's own reading, from the IR's -/
theorem tst_one {den : Env → Store → R D} {f : D → Store → R D} {W : Wd} {env : Env} {st : Store} {σ : L2.St} {H : Hp} {Q Q' : Bool → Hp → Prop} (he : EnvOk X.K W σ env) (A : Ag X.K X.w cls W st H)
    (hf : ∀ d st', f d st' ≠ .bad → ∃ b, d = .bl b) (q : Aft X.K X.w cls U isB W H ((den env st).bind f) Q)
    (h : ∀ b W1 H1 st1, Ext W H W1 H1 → Ag X.K X.w cls W1 st1 H1 → den env st = .ok (.bl b) st1 → Aft X.K X.w cls U isB W1 H1 (f (.bl b) st1) Q → Q' b H1) : tDT X.K X.w cls U den σ H Q' := by
  refine ⟨W, env, st, he, A, fun d st' e => ?_, ?_⟩
  · rw [e] at q
    exact hf d st' fun z => by rw [R.bind_ok, z] at q; exact q
  · cases e : den env st with
    | ok d st' =>
      rw [e] at q
      obtain ⟨b, rfl⟩ := hf d st' fun z => by rw [R.bind_ok, z] at q; exact q
      intro t W' H' x A' r
      cases r
      exact h _ W' H' st' x A' e (Aft.shift x q)
    | err k st' => rw [e] at q; exact q
    | bad => rw [e] at q; exact q
theorem and_tst {σ : L2.St} {H : Hp} {Q : Bool → Hp → Prop} (h : tDT X.K X.w cls U (evE C (.and i j)) σ H Q) : tAnd (tDT X.K X.w cls U (evE C i)) (tDT X.K X.w cls U (evE C j)) σ H Q := by
  obtain ⟨W, env, st, he, A, hb, q⟩ := h
  rw [evE] at q
  refine tst_one he A (fun d st' hn => ?_) q fun t W1 H1 st1 x A1 e q1 => ?_
  · cases d with
    | bl t => exact ⟨t, rfl⟩
    | _ => exact absurd rfl hn
  · cases t with
    | true =>
      rw [if_pos rfl]
      refine ⟨W1, env, st1, he.mono x.le, A1, fun d st' e2 => ?_, q1⟩
      refine hb d st' ?_
      rw [evE, e]
      exact e2
    | false =>
      rw [if_neg Bool.false_ne_true]
      exact q1 false W1 H1 (Ext.refl _ _) A1 rfl
theorem or_tst {σ : L2.St} {H : Hp} {Q : Bool → Hp → Prop} (h : tDT X.K X.w cls U (evE C (.or i j)) σ H Q) : tOr (tDT X.K X.w cls U (evE C i)) (tDT X.K X.w cls U (evE C j)) σ H Q := by
  obtain ⟨W, env, st, he, A, hb, q⟩ := h
  rw [evE] at q
  refine tst_one he A (fun d st' hn => ?_) q fun t W1 H1 st1 x A1 e q1 => ?_
  · cases d with
    | bl t => exact ⟨t, rfl⟩
    | _ => exact absurd rfl hn
  · cases t with
    | false =>
      rw [if_neg Bool.false_ne_true]
      refine ⟨W1, env, st1, he.mono x.le, A1, fun d st' e2 => ?_, q1⟩
      refine hb d st' ?_
      rw [evE, e]
      exact e2
    | true =>
      rw [if_pos rfl]
      exact q1 true W1 H1 (Ext.refl _ _) A1 rfl
theorem g_not (ha : Good X cls U C a i) : Good X cls U C (.UnaryOp .Not a pos) (.not i) := by
  refine ⟨PE.mono (pe_not ha.pe) fun σ H Q h => ?_, PT.mono (pt_not ha.pt) fun σ H Q h => ?_⟩
  · obtain ⟨W, env, st, he, A, q⟩ := h
    rw [evE] at q
    refine ⟨W, env, st, he, A, (q.bind).mono fun x H1 ⟨W1, st1, dx, x1, A1, r1, q1⟩ => ?_⟩
    cases dx with
    | bl t => exact ⟨t, r1.bl_inv, Aft.val A1 q1 (.bl _)⟩
    | _ => exact q1.elim
  · obtain ⟨W, env, st, he, A, hb, q⟩ := h
    rw [evE] at q
    refine tst_one he A (fun d st' hn => ?_) q fun t W1 H1 st1 x A1 e q1 => ?_
    · cases d with
      | bl t => exact ⟨t, rfl⟩
      | _ => exact absurd rfl hn
    · exact q1 (!t) W1 H1 (Ext.refl _ _) A1 rfl
/-- a row of and, or -/
def andsI : E → List E → E
  | i, [] => i
  | i, j :: r => .and i (andsI j r)
def orsI : E → List E → E
  | i, [] => i
  | i, j :: r => .or i (orsI j r)
/-- expressions and their IRs, one by one -/
inductive Goods (X : Cx) (cls : Cl) (U : XW) (C : Ctx) : List Expr → List E → Prop
  | nil : Goods X cls U C [] []
  | cons {e : Expr} {i : E} {es : List Expr} {is : List E} : Good X cls U C e i → Goods X cls U C es is → Goods X cls U C (e :: es) (i :: is)
theorem ands_ok : ∀ {es : List Expr} {is : List E} {e : Expr} {i : E}, Good X cls U C e i → Goods X cls U C es is →
    PE X (.BoolOp .And (e :: es) pos) (tD X.K X.w cls U (evE C (andsI i is))) ∧ PW X (.BoolOp .And (e :: es) pos) (tDT X.K X.w cls U (evE C (andsI i is)))
  | _, _, _, _, h, .nil => ⟨pe_one h.pe, pw_and1 h.pt⟩
  | _, _, _, _, h, .cons g t => by
    obtain ⟨h1, h2⟩ := ands_ok g t
    exact ⟨PE.mono (pe_and h.pe h1) fun σ H Q q => and_val q, ⟨fun wh pins s σ H Q I q => (pw_and h.pt h2).run wh pins s σ H Q I (and_tst q)⟩⟩
theorem ors_ok : ∀ {es : List Expr} {is : List E} {e : Expr} {i : E}, Good X cls U C e i → Goods X cls U C es is →
    PE X (.BoolOp .Or (e :: es) pos) (tD X.K X.w cls U (evE C (orsI i is))) ∧ PW X (.BoolOp .Or (e :: es) pos) (tDT X.K X.w cls U (evE C (orsI i is)))
  | _, _, _, _, h, .nil => ⟨pe_one h.pe, pw_or1 h.pt⟩
  | _, _, _, _, h, .cons g t => by
    obtain ⟨h1, h2⟩ := ors_ok g t
    exact ⟨PE.mono (pe_or h.pe h1) fun σ H Q q => or_val q, ⟨fun wh pins s σ H Q I q => (pw_or h.pt h2).run wh pins s σ H Q I (or_tst q)⟩⟩
theorem g_ands {es : List Expr} {is : List E} (h : Good X cls U C a i) (t : Goods X cls U C es is) : Good X cls U C (.BoolOp .And (a :: es) pos) (andsI i is) := ⟨(ands_ok h t).1, (ands_ok h t).2.pt⟩
theorem g_ors {es : List Expr} {is : List E} (h : Good X cls U C a i) (t : Goods X cls U C es is) : Good X cls U C (.BoolOp .Or (a :: es) pos) (orsI i is) := ⟨(ors_ok h t).1, (ors_ok h t).2.pt⟩
/-! ### arguments, displays, subscripts -/
def listEs : List E → Es
  | [] => .nil
  | i :: r => .cons i (listEs r)
def noStar : Expr → Bool
  | .Starred _ _ => false
  | _ => true
theorem starEach_no {e : Expr} {es : List Expr} {env : PySem.Env} (h : noStar e = true) : starEach (e :: es) env = (false, eval e env) :: starEach es env := by
  cases e <;> first | rfl | (simp [noStar] at h)
theorem args_ok : ∀ {es : List Expr} {is : List E}, Goods X cls U C es is → es.all noStar = true → PA X es (tDs X.K X.w cls U (evEs C (listEs is)))
  | _, _, .nil, _ => d_nil C
  | _, _, .cons h t, e => by
    rw [List.all_cons, Bool.and_eq_true] at e
    exact d_cons h.pe (args_ok t e.2) (starEach_no e.1)
theorem plain_args {env : PySem.Env} : ∀ {es : List Expr}, es.all noStar = true → (backTo pos (starEach es env)).any (·.1) = false
  | [], _ => rfl
  | e :: es, h => by
    rw [List.all_cons, Bool.and_eq_true] at h
    rw [starEach_no h.1]
    have ih := plain_args (env := env) h.2
    simpa [backTo] using ih
theorem g_tup {es : List Expr} {is : List E} {k1 : Nat} (t : Goods X cls U C es is) (hs : es.all noStar = true) : Good X cls U C (.Tuple es k1 pos) (.tup (listEs is)) := by
  refine good_val (PE.mono (pe_tupF (args_ok t hs)) fun σ H Q h => ?_) fun _ => rfl
  obtain ⟨W, env, st, he, A, q⟩ := h
  rw [evE] at q
  refine ⟨W, env, st, he, A, (q.bind).mono fun xs H1 ⟨W1, st1, ds, x1, A1, r1, q1⟩ => ?_⟩
  obtain ⟨hb, q1⟩ := Aft.test q1
  simp only [decide_eq_true_eq] at hb
  have hz : ds.length ≤ sizeLine := by rw [sizeLine_eq]; omega
  exact ⟨by rw [r1.length]; exact hz, Aft.newTup A1 q1 r1 hz⟩
theorem g_lst {es : List Expr} {is : List E} (t : Goods X cls U C es is) (hs : es.all noStar = true) : Good X cls U C (.List es pos) (.lst (listEs is)) := by
  refine good_val (PE.mono (pe_lst (args_ok t hs)) fun σ H Q h => ?_) fun _ => rfl
  obtain ⟨W, env, st, he, A, q⟩ := h
  rw [evE] at q
  refine ⟨W, env, st, he, A, (q.bind).mono fun xs H1 ⟨W1, st1, ds, x1, A1, r1, q1⟩ => ?_⟩
  obtain ⟨hb, q1⟩ := Aft.test q1
  simp only [decide_eq_true_eq] at hb
  have hz : ds.length ≤ sizeLine := by rw [sizeLine_eq]; omega
  exact ⟨by rw [r1.length]; exact hz, Aft.newLst A1 q1 r1 hz⟩
theorem g_lstM {es : List Expr} {is : List E} (t : Goods X cls U C es is) (hs : es.all noStar = true) : Good X cls U C (.List es pos) (.lstM (listEs is)) := by
  refine good_val (PE.mono (pe_lst (args_ok t hs)) fun σ H Q h => ?_) fun _ => rfl
  obtain ⟨W, env, st, he, A, q⟩ := h
  rw [evE] at q
  refine ⟨W, env, st, he, A, (q.bind).mono fun xs H1 ⟨W1, st1, ds, x1, A1, r1, q1⟩ => ?_⟩
  obtain ⟨hb, q1⟩ := Aft.test q1
  simp only [decide_eq_true_eq] at hb
  have hz : ds.length ≤ sizeLine := by rw [sizeLine_eq]; omega
  exact ⟨by rw [r1.length]; exact hz, Aft.newMut A1 q1 r1 hz⟩
def notSlice : Expr → Bool
  | .Slice _ _ _ _ => false
  | _ => true
theorem plainIx_of (h : notSlice b = true) : PlainIx b := fun o i => by
  cases b <;> first | rfl | (simp [notSlice] at h)
theorem g_idx (hd : DicR X cls) (ha : Good X cls U C a i) (hb : Good X cls U C b j) (hs : notSlice b = true) : Good X cls U C (.Subscript a b pos) (.idx i j) :=
  good_val (PE.mono (pe_ix (ix_D (cls := cls) (U := U) hd) ha.pe hb.pe (plainIx_of hs)) fun σ H Q h => d_two (f := idxD) (fun env st => by rw [evE]) (fun x y H Q q => q) h) fun _ => rfl
/-- a slice's part -/
inductive GoodO (X : Cx) (cls : Cl) (U : XW) (C : Ctx) : Option Expr → Po → Prop
  | none : GoodO X cls U C none .no
  | some {e : Expr} {i : E} : Good X cls U C e i → GoodO X cls U C (some e) (.is i)
def tDO (K : PySem.W.Frag) (w : World) (cls : Cl) (U : XW) (den : Env → Store → R (Option Int)) : TO := fun σ H Q => ∃ (W : Wd) (env : Env) (st : Store), EnvOk K W σ env ∧ Ag K w cls W st H ∧ Aft K w cls U (fun _ o d => d = o) W H (den env st) Q
theorem goodO_po {o : Option Expr} {p : Po} (h : GoodO X cls U C o p) : PO X o (tDO X.K X.w cls U (evP C p)) := by
  cases h with
  | none =>
    refine ⟨fun pins s σ H Q I h => po_none.run pins s σ H Q I ?_⟩
    obtain ⟨W, env, st, he, A, q⟩ := h
    rw [evP] at q
    exact q none W H (Ext.refl _ _) A rfl
  | some g =>
    refine ⟨fun pins s σ H Q I h => (po_some g.pe).run pins s σ H Q I ?_⟩
    obtain ⟨W, env, st, he, A, q⟩ := h
    rw [evP] at q
    refine ⟨W, env, st, he, A, (q.bind).mono fun x H1 ⟨W1, st1, dx, x1, A1, r1, q1⟩ => ?_⟩
    cases dx with
    | int n => exact ⟨n, r1.int_inv, q1 (some n) W1 H1 (Ext.refl _ _) A1 rfl⟩
    | _ => exact q1.elim
theorem g_sli {lo hi : Option Expr} {p q : Po} {p2 : Pos} (ha : Good X cls U C a i) (hl : GoodO X cls U C lo p) (hh : GoodO X cls U C hi q) : Good X cls U C (.Subscript a (.Slice lo hi none p2) pos) (.sli i p q) := by
  refine good_val (PE.mono (pe_slice (sl_D (cls := cls) (U := U)) ha.pe (goodO_po hl) (goodO_po hh)) fun σ H Q h => ?_) fun _ => rfl
  obtain ⟨W, env, st, he, A, q⟩ := h
  rw [evE] at q
  refine ⟨W, env, st, he, A, (q.bind).mono fun x H1 ⟨W1, st1, dx, x1, A1, r1, q1⟩ => ?_⟩
  refine ⟨W1, env, st1, he.mono x1.le, A1, (q1.bind).mono fun l H2 ⟨W2, st2, dl, x2, A2, r2, q2⟩ => ?_⟩
  refine ⟨W2, env, st2, (he.mono x1.le).mono x2.le, A2, (q2.bind).mono fun u H3 ⟨W3, st3, du, x3, A3, r3, q3⟩ => ?_⟩
  cases r2
  cases r3
  exact ⟨W3, st3, dx, A3, (r1.mono x2.le).mono x3.le, q3⟩
/-- xs[::-1] -/
theorem RepL.reverse {K : PySem.W.Frag} {W : Wd} : ∀ {xs : List V} {ds : List D}, RepL K W xs ds → RepL K W xs.reverse ds.reverse
  | _, _, .nil => .nil
  | _, _, .cons h t => by
    rw [List.reverse_cons, List.reverse_cons]
    exact (RepL.reverse t).append (.one h)
theorem g_rev {n : Nat} {p1 p2 p3 : Pos} (ha : Good X cls U C a i) : Good X cls U C (.Subscript a (.Slice none none (some (.UnaryOp .USub (.Constant (.int 1) n p1) p2)) p3) pos) (.rev i) := by
  refine good_val ⟨fun pins s σ H Q I h => ?_⟩ fun _ => rfl
  obtain ⟨W, env, st, he, A, q⟩ := h
  rw [evE] at q
  refine Subscript_ (thn (ha.pe.run pins s σ H _ I ⟨W, env, st, he, A, q.bind⟩) fun v s1 ⟨x, H1, I1, r1, W1, st1, d, x1, A1, rd, q1⟩ => ?_)
  have hst : PO X (some (.UnaryOp .USub (.Constant (.int 1) n p1) p2)) (tPart (tUn (rU fun i => .int (-i)) (tC (.int 1)))) := po_some (pe_un un_neg pe_int)
  refine wpAny_Slice (thn (po_none.run pins s1 σ H1 (fun o H2 => o = none ∧ H2 = H1) I1 ⟨rfl, rfl⟩) fun vl s2 ⟨l, H2, I2, pl, el, e2⟩ => ?_)
  subst el e2
  refine thn (po_none.run pins s2 σ H2 (fun o H3 => o = none ∧ H3 = H2) I2 ⟨rfl, rfl⟩) fun vu s3 ⟨u, H3, I3, pu, eu, e3⟩ => ?_
  subst eu e3
  refine thn (hst.run pins s3 σ H3 (fun o H4 => o = some (-1) ∧ H4 = H3) I3 ⟨1, rfl, -1, rfl, rfl, rfl⟩) fun vs s4 ⟨o, H4, I4, ps, eo, e4⟩ => ?_
  subst eo e4
  have I5 : Inv X pins σ H4 { s4 with heap := s4.heap.push { cls := .type "slice", data := .fields #[vl, vu, vs] } } := I4.kept (t' := s4.toks) fun b ob q => Heap.get?_push_of_some _ q
  cases d with
  | lst ys =>
    obtain ⟨b, xs, e1, g, z, l⟩ := rd.lst_inv
    subst e1
    cases r1
    obtain ⟨its, r, ht, hz⟩ := I5.list (SqL.of (A1.sub _ _ g))
    have hlen := r.length
    refine tail_any (ops := [.ref b, .ref s4.heap.objs.size]) ht.isList.typeIs (PySem.slot_list_getitem.lookup) ?_ (by with_unfolding_all rfl)
    refine wpAny_getItem_list_slice ht.isList (Heap.IsSliceOf.new _ vl vu vs) pl pu ps (by decide) ?_ (by rw [List.size_toArray]; omega)
    rw [PySem.W.krv_pick]
    refine ⟨.ref _, _, I5.laid (t' := s4.toks) (o := .lst xs.reverse) (fun b ob q => Heap.get?_push_of_some _ q) (Nat.le_refl _) ?_, rfl, Aft.newLst A1 q1 l.reverse (by rw [List.length_reverse]; exact z) _ (I5.hok.fresh (Nat.le_refl _))⟩
    exact ⟨by rw [List.length_reverse]; exact hz, _, 0, r.reverse, Heap.get?_push_size _ rfl⟩
  | tup ys =>
    obtain ⟨b, us, xs, e1, g, z, l⟩ := rd.tup_inv
    subst e1
    cases r1
    have hr : stepL xs none none (-1) = xs.reverse := stepL_rev xs
    refine sl_step I5 (SqT_ft (A1.sub _ _ g)) (Heap.IsSliceOf.new _ vl vu vs) pl pu ps (by decide) (by rw [hr, List.length_reverse, l.length]; exact z) (fun e => ?_) (fun p us hp => ?_) (by with_unfolding_all rfl)
    · rw [hr] at e
      exact q1.val A1 (.tup g (by rw [List.length_reverse]; exact z) (by have := l.reverse; rw [e] at this; exact this))
    · rw [hr]
      exact Aft.newTup A1 q1 l.reverse (by rw [List.length_reverse]; exact z) p us hp
  | _ => exact q1.elim
theorem g_stp {lo hi : Option Expr} {p q : Po} {p3 : Pos} (ha : Good X cls U C a i) (hl : GoodO X cls U C lo p) (hh : GoodO X cls U C hi q) (hc : Good X cls U C c k) : Good X cls U C (.Subscript a (.Slice lo hi (some c) p3) pos) (.stp i p q k) := by
  refine good_val ⟨fun pins s σ H Q I h => ?_⟩ fun _ => rfl
  obtain ⟨W, env, st, he, A, q⟩ := h
  rw [evE] at q
  refine Subscript_ (thn (ha.pe.run pins s σ H _ I ⟨W, env, st, he, A, q.bind⟩) fun v s1 ⟨x, H1, I1, r1, W1, st1, d, x1, A1, rd, q1⟩ => ?_)
  refine wpAny_Slice (thn ((goodO_po hl).run pins s1 σ H1 _ I1 ⟨W1, env, st1, he.mono x1.le, A1, q1.bind⟩) fun vl s2 ⟨l, H2, I2, pl, W2, st2, dl, x2, A2, el, q2⟩ => ?_)
  subst el
  refine thn ((goodO_po hh).run pins s2 σ H2 _ I2 ⟨W2, env, st2, (he.mono x1.le).mono x2.le, A2, q2.bind⟩) fun vu s3 ⟨u, H3, I3, pu, W3, st3, du, x3, A3, eu, q3⟩ => ?_
  subst eu
  have hv : tPart (tD X.K X.w cls U (evE C k)) σ H3 fun o H4 => ∃ n W4 st4, o = some n ∧ Ext W3 H3 W4 H4 ∧ Ag X.K X.w cls W4 st4 H4 ∧ Aft X.K X.w cls U (Rep X.K) W4 H4 (stpD d dl du (.int n) st4) Q := by
    refine ⟨W3, env, st3, ((he.mono x1.le).mono x2.le).mono x3.le, A3, (q3.bind).mono fun y H4 ⟨W4, st4, dk, x4, A4, rk, q4⟩ => ?_⟩
    cases dk with
    | int n => exact ⟨n, rk.int_inv, n, W4, st4, rfl, x4, A4, q4⟩
    | _ => cases d <;> (unfold stpD at q4; exact q4.elim)
  refine thn ((po_some hc.pe).run pins s3 σ H3 _ I3 hv) fun vs s4 ⟨o, H4, I4, ps, n, W4, st4, eo, x4, A4, q4⟩ => ?_
  subst eo
  have I5 : Inv X pins σ H4 { s4 with heap := s4.heap.push { cls := .type "slice", data := .fields #[vl, vu, vs] } } := I4.kept (t' := s4.toks) fun b ob q => Heap.get?_push_of_some _ q
  unfold stpD at q4
  cases d with
  | tup ys =>
    obtain ⟨hb, q4⟩ := Aft.test q4
    rw [Bool.and_eq_true, decide_eq_true_eq, decide_eq_true_eq, sizeLine_lim] at hb
    obtain ⟨b, us, xs, e1, g, z, l⟩ := (((rd.mono x2.le).mono x3.le).mono x4.le).tup_inv
    subst e1
    cases r1
    have ls : RepL X.K W4 (stepL xs dl du n) (stepL ys dl du n) := by
      unfold stepL
      rw [l.length]
      exact l.pick (fun k => ((adj dl du n ys.length).1 + (k : Int) * n).toNat) _
    refine sl_step I5 (SqT_ft (A4.sub _ _ g)) (Heap.IsSliceOf.new _ vl vu vs) pl pu ps hb.1 (by rw [ls.length]; exact hb.2) (fun e => ?_) (fun p us hp => ?_) (by with_unfolding_all rfl)
    · exact q4.val A4 (.tup g hb.2 (by rw [e] at ls; exact ls))
    · exact Aft.newTup A4 q4 ls hb.2 p us hp
  | _ => exact q4.elim
/-! ### calls of built-in functions -/
theorem g_blt {f : Blt} {id : String} {x : Str} {p : Pos} {es : List Expr} {is : List E} (hc : CallR X (.builtin id) (rC X cls U (bltD f))) (hg : Gl X x) (hm : X.mg x = none) (hv : bootBuiltins x = some (.builtin id)) (hn : x ≠ "__name__") (hdb : (x == ("__debug__" : Str)) = false)
    (h : Good X cls U C a i) (t : Goods X cls U C es is) (hs : (a :: es).all noStar = true) : Good X cls U C (.Call (.Name x p) (a :: es) [] pos) (.blt f (.cons i (listEs is))) := by
  have hs' := hs
  rw [List.all_cons, Bool.and_eq_true] at hs'
  refine good_val (PE.mono (pe_callB hc hg hm hv (args_ok (.cons h t) hs) hn hdb (starEach_no hs'.1) (plain_args hs'.2)) fun σ H Q h => ?_) fun _ => rfl
  obtain ⟨W, env, st, he, A, q⟩ := h
  rw [evE] at q
  exact ⟨W, env, st, he, A, (q.bind).mono fun xs H1 ⟨W1, st1, ds, x1, A1, r1, q1⟩ => ⟨W1, st1, ds, A1, r1, q1⟩⟩
theorem g_bltT {f : Blt} {T : String} {x : Str} {p : Pos} {es : List Expr} {is : List E} (hc : CallR X (.type T) (rC X cls U (bltD f))) (hg : Gl X x) (hm : X.mg x = none) (hv : bootBuiltins x = some (.type T)) (hn : x ≠ "__name__") (hdb : (x == ("__debug__" : Str)) = false)
    (h : Good X cls U C a i) (t : Goods X cls U C es is) (hs : (a :: es).all noStar = true) : Good X cls U C (.Call (.Name x p) (a :: es) [] pos) (.blt f (.cons i (listEs is))) := by
  have hs' := hs
  rw [List.all_cons, Bool.and_eq_true] at hs'
  refine good_val (PE.mono (pe_callTy hc hg hm hv (args_ok (.cons h t) hs) hn hdb (starEach_no hs'.1) (plain_args hs'.2)) fun σ H Q h => ?_) fun _ => rfl
  obtain ⟨W, env, st, he, A, q⟩ := h
  rw [evE] at q
  exact ⟨W, env, st, he, A, (q.bind).mono fun xs H1 ⟨W1, st1, ds, x1, A1, r1, q1⟩ => ⟨W1, st1, ds, A1, r1, q1⟩⟩
/-- isinstance(x, T) -/
theorem g_isT {t : Kd} (ht : t ≠ .non) {x : Str} {p p2 : Pos} (hg : Gl X "isinstance") (hm : X.mg "isinstance" = none) (hg2 : Gl X x) (hm2 : X.mg x = none) (hv2 : bootBuiltins x = some (.type t.nm)) (hn2 : x ≠ "__name__") (hdb2 : (x == ("__debug__" : Str)) = false)
    (h : Good X cls U C a i) (hs : noStar a = true) : Good X cls U C (.Call (.Name "isinstance" p) [a, .Name x p2] [] pos) (.blt (.isT t) (.cons i .nil)) := by
  have hb : PE X (.Name x p2) (tC (.ty t.nm)) := pe_bltn hg2 hm2 hv2 rfl hn2 hdb2
  refine good_val (PE.mono (pe_callB (cd_isT (cls := cls) (U := U) t ht) hg hm (by decide +kernel) (pa_cons h.pe (pa_cons hb pa_nil rfl) (starEach_no hs)) (by decide) (by decide) (starEach_no hs) rfl) fun σ H Q h => ?_) fun _ => rfl
  obtain ⟨W, env, st, he, A, q⟩ := h
  rw [evE, evEs, R.bind_assoc] at q
  refine ⟨W, env, st, he, A, (q.bind).mono fun x H1 ⟨W1, st1, d, x1, A1, r1, q1⟩ => ?_⟩
  rw [evEs] at q1
  exact ⟨W1, st1, x, d, rfl, A1, r1, q1⟩
end
end EV
/-! EvJ: targets, what is walked, comprehensions. -/
namespace EV
open PySem PySem.Spec PyProof.Rows L2

section
variable {K : PySem.W.Frag} {w : World} {cls : Cl} {W W' W0 : Wd} {H H' H0 : Hp} {st : Store}
/-- an object beside the store and the frozen part is laid or changed -/
theorem Ag.aside (A : Ag K w cls W st H) {p : Addr} {o : HO} (h1 : p ∉ W.ρ) (h2 : W.G p = none) (h3 : H p = none ∨ ∃ acc, H p = some (.lst acc)) : Ag K w cls W st (upd H p o) := by
  refine ⟨fun b u e => ?_, A.len, A.nd, A.out, fun i ob a e1 e2 => ?_, A.ntb, fun q hq => ?_⟩
  · rw [upd_ne fun z => by rw [z, h2] at e; cases e]; exact A.sub b u e
  · exact (A.obj i ob a e1 e2).keep (Wd.Le.refl _) (upd_ne fun z => h1 (z ▸ List.mem_of_getElem? e2))
  · obtain ⟨ps, k1, k2, k3⟩ := A.tab q hq
    refine ⟨ps, ?_, k2, fun pos cv hc => ?_⟩
    · rw [upd_ne fun z => ?_]
      · exact k1
      · rw [z] at k1
        rcases h3 with h3 | ⟨acc, h3⟩ <;> rw [h3] at k1 <;> cases k1
    · obtain ⟨c, z1, z2⟩ := k3 pos cv hc
      refine ⟨c, z1, ?_⟩
      rw [upd_ne fun z => ?_]
      · exact z2
      · rw [z] at z2
        unfold LamX.CodeO at z2
        rcases h3 with h3 | ⟨acc, h3⟩ <;> rw [h3] at z2 <;> cases z2
theorem Ag.fresh (A : Ag K w cls W st H) {p : Addr} (hp : H p = none) : p ∉ W.ρ ∧ W.G p = none := by
  refine ⟨fun h => A.tracked h hp, ?_⟩
  cases q : W.G p with
  | none => rfl
  | some u => rw [A.sub _ _ q] at hp; cases hp
theorem Ext.aside (x : Ext W0 H0 W H) {p : Addr} {o : HO} (hp : H0 p = none) : Ext W0 H0 W (upd H p o) := by
  refine ⟨x.g, x.r, fun a u e ho hn => ?_, fun a h => ?_, x.gn, fun a u v e => by rw [upd_ne (ne_of_none e hp)]; exact x.fz a u v e⟩
  · rw [upd_ne (ne_of_none e hp)]; exact x.fr a u e ho hn
  · have ha : a ≠ p := fun z => by subst z; exact h.ne hp
    obtain ⟨u, e, n⟩ := x.dom a h
    exact ⟨u, by rw [upd_ne ha]; exact e, n⟩
/-- what is tracked beside the store stays beside it -/
theorem Ext.beside (x : Ext W H W' H') {p : Addr} (h0 : Pr H p) (h1 : p ∉ W.ρ) (h2 : W.G p = none) : p ∉ W'.ρ ∧ W'.G p = none := by
  obtain ⟨m, e, hm⟩ := x.r
  refine ⟨fun h => ?_, ?_⟩
  · rw [e] at h
    rcases List.mem_append.mp h with h | h
    · exact h1 h
    · exact hm p h h0
  · cases q : W'.G p with
    | none => rfl
    | some u =>
      rcases x.gn p (by rw [q]; simp) with z | z
      · exact absurd h2 z
      · exact absurd h0 z
end

theorem R.test_ok {α : Type} {b : Bool} {r : R α} {a : α} {st : Store} (h : R.test b r = .ok a st) : b = true ∧ r = .ok a st := by
  cases b with
  | true => exact ⟨rfl, h⟩
  | false => simp at h
theorem R.bind_ok_inv {α β : Type} {r : R α} {f : α → Store → R β} {b : β} {st : Store} (h : r.bind f = .ok b st) : ∃ a s1, r = .ok a s1 ∧ f a s1 = .ok b st := by
  cases r with
  | ok a s1 => exact ⟨a, s1, rfl, h⟩
  | err k s1 => simp at h
  | bad => simp at h
theorem R.of_ok {α : Type} {o : Option α} {a : α} {st s1 : Store} (h : R.of o st = .ok a s1) : o = some a ∧ s1 = st := by
  cases o with
  | none => simp at h
  | some b =>
    simp only [R.of_some, R.ok.injEq] at h
    exact ⟨by rw [h.1], h.2.symm⟩
/-! ### targets -/
def tgs : List Nat → TGs
  | [] => gNil
  | i :: is => gCons (gName i) (tgs is)
def tgR (K : PySem.W.Frag) : Tg → TG
  | .one i => gName i
  | .many is => gTup K is.length (tgs is)
def Tg.slots : Tg → List Nat
  | .one i => [i]
  | .many is => is
/-- an item as it comes: a datum, or a new pair of two -/
def ItR (K : PySem.W.Frag) (W : Wd) (H : Hp) (x : V) (d : D) : Prop := Rep K W x d ∨ ∃ T x1 x2 d1 d2, x = .ref T ∧ H T = some (.tup [x1, x2]) ∧ d = .tup [d1, d2] ∧ Rep K W x1 d1 ∧ Rep K W x2 d2
section
variable {K : PySem.W.Frag} {w : World} {cls : Cl} {W : Wd} {H : Hp} {st : Store}
theorem wipe_set {σ : L2.St} {i : Nat} {o : Option V} : ∀ {vs : List Nat}, i ∈ vs → L2.wipe (σ.set i o) vs = L2.wipe σ vs
  | v :: vs, h => by
    unfold L2.wipe
    by_cases hi : i ∈ vs
    · rw [wipe_set hi]
    · have e : i = v := by
        rcases List.mem_cons.mp h with h | h
        · exact h
        · exact absurd h hi
      subst e
      have key : ∀ (vs : List Nat), i ∉ vs → L2.wipe (σ.set i o) vs = (L2.wipe σ vs).set i o := by
        intro vs
        induction vs with
        | nil => intro _; rfl
        | cons u us ih =>
          intro hn
          rw [List.mem_cons, not_or] at hn
          unfold L2.wipe
          rw [ih hn.2, List.set_comm _ _ hn.1]
      rw [key vs hi, List.set_set]
theorem wipe_sub {σ : L2.St} : ∀ {us vs : List Nat}, (∀ u ∈ us, u ∈ vs) → L2.wipe (L2.wipe σ us) vs = L2.wipe σ vs
  | [], _, _ => rfl
  | u :: us, vs, h => by
    rw [L2.wipe, wipe_set (h u List.mem_cons_self), wipe_sub fun v hv => h v (List.mem_cons_of_mem _ hv)]
theorem tgs_run : ∀ {is : List Nat} {xs : List V} {ds : List D} {env env' : Env} {σ : L2.St} {Q : L2.St → Hp → Prop}, RepL K W xs ds → EnvOk K W σ env → asgs is ds env = some env' →
    (∀ σ', EnvOk K W σ' env' → (∀ vs, (∀ i ∈ is, i ∈ vs) → L2.wipe σ' vs = L2.wipe σ vs) → Q σ' H) → tgs is xs σ H Q
  | [], _, _, env, env', σ, Q, l, he, e, h => by
    cases l with
    | nil =>
      simp only [asgs, Option.some.injEq] at e
      subst e
      exact ⟨rfl, h σ he fun _ _ => rfl⟩
    | cons _ _ => simp [asgs] at e
  | i :: is, _, _, env, env', σ, Q, l, he, e, h => by
    cases l with
    | nil => simp [asgs] at e
    | cons r t =>
      rw [asgs] at e
      refine ⟨_, _, rfl, tgs_run t (he.set i r) e fun σ' h1 h2 => h σ' h1 fun vs hv => ?_⟩
      rw [h2 vs fun j hj => hv j (List.mem_cons_of_mem _ hj), wipe_set (hv i List.mem_cons_self)]
theorem asgs_len : ∀ {is : List Nat} {ds : List D} {env env' : Env}, asgs is ds env = some env' → ds.length = is.length
  | [], [], _, _, _ => rfl
  | [], _ :: _, _, _, e => by simp [asgs] at e
  | _ :: _, [], _, _, e => by simp [asgs] at e
  | i :: is, d :: ds, env, env', e => by rw [asgs] at e; rw [List.length_cons, List.length_cons, asgs_len e]
theorem tg_run {t : Tg} {x : V} {d : D} {env env' : Env} {σ : L2.St} {Q : L2.St → Hp → Prop} (A : Same W.G H) (r : ItR K W H x d) (ho : (∃ i, t = .one i) → Rep K W x d) (he : EnvOk K W σ env) (e : asg t d env = some env')
    (h : ∀ σ', EnvOk K W σ' env' → (∀ vs, (∀ i ∈ t.slots, i ∈ vs) → L2.wipe σ' vs = L2.wipe σ vs) → Q σ' H) : tgR K t x σ H Q := by
  cases t with
  | one i =>
    simp only [asg, Option.some.injEq] at e
    subst e
    exact h _ (he.set i (ho ⟨i, rfl⟩)) fun vs hv => wipe_set (hv i (by simp [Tg.slots]))
  | many is =>
    rcases r with r | ⟨T, x1, x2, d1, d2, rfl, hT, rfl, r1, r2⟩
    · cases d with
      | tup ds =>
        obtain ⟨a, us, xs, rfl, g, z, l⟩ := r.tup_inv
        have e' : asgs is ds env = some env' := e
        exact ⟨a, xs, rfl, SqT_ft (A _ _ g), by rw [l.length]; exact asgs_len e', tgs_run l he e' h⟩
      | _ => simp [asg] at e
    · have e' : asgs is [d1, d2] env = some env' := e
      exact ⟨T, [x1, x2], rfl, SqT.of hT, asgs_len (ds := [d1, d2]) e', tgs_run (.cons r1 (.cons r2 .nil)) he e' h⟩
end

/-! ### what is walked -/
def YR (K : PySem.W.Frag) (W : Wd) (H : Hp) (x : V) (H' : Hp) (d : D) : Prop := (H' = H ∧ Rep K W x d) ∨
  ∃ T x1 x2 d1 d2, x = .ref T ∧ H T = none ∧ H' = upd H T (.tup [x1, x2]) ∧ d = .tup [d1, d2] ∧ Rep K W x1 d1 ∧ Rep K W x2 d2
/-- J gives the items, as long as what it walks stands still; pr: the pairs are new ones -/
def WalkD (K : PySem.W.Frag) (w : World) (cls : Cl) (W0 : Wd) (J : L2.It) (items : List D) (g : Grd) (pr : Bool) (P : Hp → Prop := fun _ => True) : Prop := ∀ W st H, W0.Le W → Ag K w cls W st H → g.holds st = true → P H →
  (∀ (i : Nat) (d : D), items[i]? = some d → J.go i H ∧ ∀ x H', J.yld i H x H' → YR K W H x H' d ∧ (pr = false → H' = H ∧ Rep K W x d)) ∧ J.stop items.length H
/-- a lock that is laid ahead of the walk -/
def Grd.isDic : Grd → Bool
  | .dic _ _ => true
  | _ => false
def tDI (K : PySem.W.Frag) (w : World) (cls : Cl) (U : XW) (pr : Bool) (den : Env → Store → R (List D × Grd)) : TI := fun σ H Rr => ∃ (W : Wd) (env : Env) (st : Store), EnvOk K W σ env ∧ Ag K w cls W st H ∧
  (∀ p st', den env st = .ok p st' → p.2.isDic = false) ∧
  Aft K w cls U (fun W' (J : L2.It) p => p.1.length ≤ sizeLine ∧ WalkD K w cls W' J p.1 p.2 pr) W H (den env st) Rr
theorem PI.mono {X : Cx} {tg it : Expr} {t t' : TI} (h : PI X tg it t) (m : ∀ σ H Q, t' σ H Q → t σ H Q) : PI X tg it t' := ⟨fun pins s σ H Q I q => h.run pins s σ H Q I (m σ H Q q)⟩
theorem PI.or {X : Cx} {tg it : Expr} {t t' : TI} (h : PI X tg it t) (h' : PI X tg it t') : PI X tg it (fun σ H Q => t σ H Q ∨ t' σ H Q) := ⟨fun pins s σ H Q I q => q.elim (h.run pins s σ H Q I) (h'.run pins s σ H Q I)⟩
/-- the IR's walk -/
structure GoodI (X : Cx) (cls : Cl) (U : XW) (C : Ctx) (tg it : Expr) (i : It) (pr : Bool) : Prop where
  pi : PI X tg it (tDI X.K X.w cls U pr (evI C i))
section
variable {X : Cx} {cls : Cl} {U : XW} {C : Ctx} {a b c tg : Expr} {i j k : E} {pos : Pos}
theorem holds_lst {g : Nat} {xs : List D} {st : Store} (h : (Grd.lst g xs).holds st = true) : st[g]? = some (.lst xs) := by
  simp only [Grd.holds] at h
  split at h
  · rename_i ys e
    have := D.of_sames _ _ h
    rw [e, this]
  · cases h
theorem holds_lck {g : Nat} {xs : List (D × D)} {st : Store} (h : (Grd.lck g xs).holds st = true) : st[g]? = some (.lck xs) := by
  simp only [Grd.holds] at h
  split at h
  · rename_i ys e
    have := of_sameKv _ _ h
    rw [e, this]
  · cases h
theorem holds_dic {g : Nat} {xs : List (D × D)} {st : Store} (h : (Grd.dic g xs).holds st = true) : st[g]? = some (.lck xs) := holds_lck (g := g) (xs := xs) h
/-- a list, a tuple, a text walked -/
theorem gi_seq (h : Good X cls U C a i) : PI X tg a (fun σ H Rr => ∃ (W : Wd) (env : Env) (st : Store), EnvOk X.K W σ env ∧ Ag X.K X.w cls W st H ∧
    (∀ d st', evE C i env st = .ok d st' → (∀ n, d ≠ .ref n) ∨ ∃ n xs, d = .ref n ∧ st'[n]? = some (.lst xs)) ∧
    Aft X.K X.w cls U (fun W' (J : L2.It) p => p.1.length ≤ sizeLine ∧ WalkD X.K X.w cls W' J p.1 p.2 false) W H (evI C (.seq i) env st) Rr) := by
  refine PI.mono (PI.or (pi_list (tg := tg) h.pe) (PI.or (pi_tup h.pe) (pi_str h.pe))) fun σ H Q q => ?_
  obtain ⟨W, env, st, he, A, hd, q⟩ := q
  rw [evI] at q
  cases e : evE C i env st with
  | bad => rw [e] at q; exact q.elim
  | err k st' =>
    rw [e] at q
    exact .inl ⟨W, env, st, he, A, by rw [e]; exact q⟩
  | ok d st' =>
    have hd' := hd d st' e
    rw [e] at q
    have q : Aft X.K X.w cls U (fun W' (J : L2.It) p => p.1.length ≤ sizeLine ∧ WalkD X.K X.w cls W' J p.1 p.2 false) W H (seqIt d st') Q := q
    cases d with
    | tup ds =>
      refine .inr (.inl ⟨W, env, st, he, A, ?_⟩)
      rw [e]
      intro v W1 H1 x1 A1 r1
      obtain ⟨p, us, xs, rfl, g, z, l⟩ := r1.tup_inv
      refine ⟨p, rfl, ⟨xs, SqT_ft (A1.sub _ _ g)⟩, q _ W1 H1 x1 A1 ⟨z, fun W2 st2 H2 le A2 _ _ => ?_⟩⟩
      have hq : SqT X.K H2 p xs := SqT_ft (A2.sub _ _ (le.g _ _ g))
      refine ⟨fun n d hn => ?_, ⟨xs, hq, by rw [l.length]; exact Nat.le_refl _⟩⟩
      obtain ⟨y, h1, h2⟩ := l.get hn
      refine ⟨⟨xs, y, hq, h1⟩, fun x H' hy => ?_⟩
      obtain ⟨rfl, hy⟩ := hy
      have := hy xs hq
      rw [h1] at this; cases this
      exact ⟨.inl ⟨rfl, h2.mono le⟩, fun _ => ⟨rfl, h2.mono le⟩⟩
    | lst ds =>
      refine .inl ⟨W, env, st, he, A, ?_⟩
      rw [e]
      intro v W1 H1 x1 A1 r1
      obtain ⟨p, xs, rfl, g, z, l⟩ := r1.lst_inv
      refine ⟨p, rfl, ⟨xs, SqL.of (A1.sub _ _ g)⟩, q _ W1 H1 x1 A1 ⟨z, fun W2 st2 H2 le A2 _ _ => ?_⟩⟩
      have hq : SqL X.K H2 p xs := SqL.of (A2.sub _ _ (le.g _ _ g))
      refine ⟨fun n d hn => ?_, ⟨xs, hq, by rw [l.length]; exact Nat.le_refl _⟩⟩
      obtain ⟨y, h1, h2⟩ := l.get hn
      refine ⟨⟨xs, y, hq, h1⟩, fun x H' hy => ?_⟩
      obtain ⟨rfl, hy⟩ := hy
      have := hy xs hq
      rw [h1] at this; cases this
      exact ⟨.inl ⟨rfl, h2.mono le⟩, fun _ => ⟨rfl, h2.mono le⟩⟩
    | scr ns =>
      refine .inl ⟨W, env, st, he, A, ?_⟩
      rw [e]
      intro v W1 H1 x1 A1 r1
      obtain ⟨p, rfl, g, z⟩ := r1.scr_inv
      refine ⟨p, rfl, ⟨_, A1.sub.seq g⟩, q _ W1 H1 x1 A1 ⟨by rw [List.length_map]; exact z, fun W2 st2 H2 le A2 _ _ => ?_⟩⟩
      have hq : SqL X.K H2 p (ns.map V.int) := A2.sub.seq (le.g.seq g)
      refine ⟨fun n d hn => ?_, ⟨_, hq, by simp⟩⟩
      obtain ⟨y, h1, h2⟩ := (RepL.ints (K := X.K) (W := W2) ns).get hn
      refine ⟨⟨_, y, hq, h1⟩, fun x H' hy => ?_⟩
      obtain ⟨rfl, hy⟩ := hy
      have := hy _ hq
      rw [h1] at this; cases this
      exact ⟨.inl ⟨rfl, h2⟩, fun _ => ⟨rfl, h2⟩⟩
    | str z =>
      refine .inr (.inr ⟨W, env, st, he, A, ?_⟩)
      rw [e]
      intro v W1 H1 x1 A1 r1
      refine ⟨z, r1.str_inv, ?_⟩
      have q : Aft X.K X.w cls U (fun W' (J : L2.It) p => p.1.length ≤ sizeLine ∧ WalkD X.K X.w cls W' J p.1 p.2 false) W H (R.test (decide (z.length ≤ lim)) (.ok (z.cps.toList.map fun c => D.str ⟨#[c]⟩, .no) st')) Q := q
      obtain ⟨hz, q⟩ := Aft.test q
      simp only [decide_eq_true_eq, sizeLine_lim] at hz
      refine q _ W1 H1 x1 A1 ⟨by rw [List.length_map, Array.length_toList]; exact hz, fun W2 st2 H2 le A2 _ _ => ⟨fun n d hn => ?_, ?_⟩⟩
      · simp only [List.getElem?_map, Option.map_eq_some_iff] at hn
        obtain ⟨c, h1, rfl⟩ := hn
        have hlt : n < z.cps.size := by
          have := (List.getElem?_eq_some_iff.mp h1).1
          simpa using this
        refine ⟨hlt, fun x H' hy => ?_⟩
        obtain ⟨rfl, c', h2, rfl⟩ := hy
        rw [Array.getElem?_toList] at h1
        rw [h1] at h2; cases h2
        exact ⟨.inl ⟨rfl, .str _⟩, fun _ => ⟨rfl, .str _⟩⟩
      · show z.cps.size ≤ _
        simp
    | ref n =>
      rcases hd' with hd' | ⟨n', xs, e1, e2⟩
      · exact absurd rfl (hd' n)
      · cases e1
        refine .inl ⟨W, env, st, he, A, ?_⟩
        rw [e]
        simp only [seqIt, e2] at q
        intro v W1 H1 x1 A1 r1
        obtain ⟨p, rfl, hp⟩ := r1.ref_inv
        obtain ⟨vs, hv, l, z⟩ := A1.obj n _ p e2 hp
        refine ⟨p, rfl, ⟨vs, SqL.of hv⟩, q _ W1 H1 x1 A1 ⟨z, fun W2 st2 H2 le A2 hh _ => ?_⟩⟩
        obtain ⟨us, hu, l2, z2⟩ := A2.obj n _ p (holds_lst hh) (le.at hp)
        have hq : SqL X.K H2 p us := SqL.of hu
        refine ⟨fun m d hn => ?_, ⟨us, hq, by rw [l2.length]; exact Nat.le_refl _⟩⟩
        obtain ⟨y, h1, h2⟩ := l2.get hn
        refine ⟨⟨us, y, hq, h1⟩, fun x H' hy => ?_⟩
        obtain ⟨rfl, hy⟩ := hy
        have := hy us hq
        rw [h1] at this; cases this
        exact ⟨.inl ⟨rfl, h2⟩, fun _ => ⟨rfl, h2⟩⟩
    | non => exact q.elim
    | bl _ => exact q.elim
    | int _ => exact q.elim
theorem gi_seq' (h : Good X cls U C a i) : PI X tg a (tDI X.K X.w cls U false (evI C (.seq i))) := by
  refine PI.mono (gi_seq h) fun σ H Q q => ?_
  obtain ⟨W, env, st, he, A, hd, q⟩ := q
  refine ⟨W, env, st, he, A, fun d st' e => ?_, q⟩
  cases d with
  | ref n =>
    refine .inr ?_
    rw [evI, e] at q
    simp only [R.bind_ok, seqIt] at q
    cases e2 : st'[n]? with
    | none =>
      simp only [e2] at q
      exact q.elim
    | some o =>
      cases o with
      | lst xs => exact ⟨n, xs, rfl, e2⟩
      | dic kvs => simp only [e2] at q; exact q.elim
      | lck kvs => simp only [e2] at q; exact q.elim
      | ins _ _ => simp only [e2] at q; exact q.elim
  | _ => exact .inl fun n z => nomatch z
/-- no dict is walked -/
def It.plain : It → Bool
  | .keys _ => false
  | .items _ => false
  | _ => true
theorem seqIt_nodic {d : D} {st st' : Store} {p : List D × Grd} (h : seqIt d st = .ok p st') : p.2.isDic = false := by
  unfold seqIt at h
  split at h
  · simp only [R.ok.injEq] at h; rw [← h.1]; rfl
  · simp only [R.ok.injEq] at h; rw [← h.1]; rfl
  · simp only [R.ok.injEq] at h; rw [← h.1]; rfl
  · obtain ⟨_, h⟩ := R.test_ok h
    simp only [R.ok.injEq] at h; rw [← h.1]; rfl
  · split at h
    · simp only [R.ok.injEq] at h; rw [← h.1]; rfl
    · exact absurd h (by simp)
  · exact absurd h (by simp)
theorem rng2_nodic {x y : D} {st st' : Store} {p : List D × Grd} (h : rng2 x y st = .ok p st') : p.2.isDic = false := by
  unfold rng2 at h
  split at h
  · obtain ⟨_, h⟩ := R.test_ok h
    simp only [R.ok.injEq] at h; rw [← h.1]; rfl
  · exact absurd h (by simp)
theorem rng3_nodic {x y z : D} {st st' : Store} {p : List D × Grd} (h : rng3 x y z st = .ok p st') : p.2.isDic = false := by
  unfold rng3 at h
  split at h
  · obtain ⟨_, h⟩ := R.test_ok h
    simp only [R.ok.injEq] at h; rw [← h.1]; rfl
  · exact absurd h (by simp)
theorem evI_nodic {it : It} (hp : it.plain = true) {env : Env} {st st' : Store} {p : List D × Grd} (h : evI C it env st = .ok p st') : p.2.isDic = false := by
  cases it with
  | keys _ => simp [It.plain] at hp
  | items _ => simp [It.plain] at hp
  | seq e =>
    rw [evI] at h
    obtain ⟨_, _, _, h⟩ := R.bind_ok_inv h
    exact seqIt_nodic h
  | rng1 e =>
    rw [evI] at h
    obtain ⟨_, _, _, h⟩ := R.bind_ok_inv h
    exact rng2_nodic h
  | rng2 e f =>
    rw [evI] at h
    obtain ⟨_, _, _, h⟩ := R.bind_ok_inv h
    obtain ⟨_, _, _, h⟩ := R.bind_ok_inv h
    exact rng2_nodic h
  | rng3 e f g =>
    rw [evI] at h
    obtain ⟨_, _, _, h⟩ := R.bind_ok_inv h
    obtain ⟨_, _, _, h⟩ := R.bind_ok_inv h
    obtain ⟨_, _, _, h⟩ := R.bind_ok_inv h
    exact rng3_nodic h
  | enum e =>
    rw [evI] at h
    obtain ⟨x, _, _, h⟩ := R.bind_ok_inv h
    cases x <;> simp only [R.ok.injEq, reduceCtorEq] at h
    · rw [← h.1]; rfl
    · rw [← h.1]; rfl
  | zip e f =>
    rw [evI] at h
    obtain ⟨x, _, _, h⟩ := R.bind_ok_inv h
    obtain ⟨y, _, _, h⟩ := R.bind_ok_inv h
    split at h <;> simp only [R.ok.injEq, reduceCtorEq] at h
    · rw [← h.1]; rfl
    · rw [← h.1]; rfl
    · rw [← h.1]; rfl
theorem range_get {n m k : Nat} (h : (List.range n)[k]? = some m) : k < n ∧ m = k := by
  obtain ⟨h1, h2⟩ := List.getElem?_eq_some_iff.mp h
  rw [List.length_range] at h1
  rw [List.getElem_range] at h2
  exact ⟨h1, h2.symm⟩
theorem rngL_get {lo hi : Int} {n : Nat} {d : D} (h : (rngL lo hi)[n]? = some d) : n < (hi - lo).toNat ∧ d = .int (lo + n) := by
  unfold rngL at h
  rw [List.getElem?_map] at h
  obtain ⟨m, h1, rfl⟩ := Option.map_eq_some_iff.mp h
  obtain ⟨h2, rfl⟩ := range_get h1
  exact ⟨h2, rfl⟩
theorem rngL_len (lo hi : Int) : (rngL lo hi).length = (hi - lo).toNat := by simp [rngL]
theorem walk_rng {W0 : Wd} {lo hi : Int} : WalkD X.K X.w cls W0 (Itr lo (hi - lo).toNat) (rngL lo hi) .no false := fun W st H le A _ _ =>
  ⟨fun n d hn => by
    obtain ⟨h1, rfl⟩ := rngL_get hn
    refine ⟨h1, fun x H' hy => ?_⟩
    obtain ⟨rfl, rfl⟩ := hy
    exact ⟨.inl ⟨rfl, .int _⟩, fun _ => ⟨rfl, .int _⟩⟩, by rw [rngL_len]; exact Nat.le_refl _⟩
theorem gi_rng1 {p : Pos} (h : Good X cls U C a i) (hg : Gl X "range") (hm : X.mg "range" = none) (hs : noStar a = true) : PI X tg (.Call (.Name "range" p) [a] [] pos) (tDI X.K X.w cls U false (evI C (.rng1 i))) := by
  refine PI.mono (pi_range1 (tg := tg) hg hm (pa_cons h.pe pa_nil (starEach_no hs)) (starEach_no hs)) fun σ H Q q => ?_
  obtain ⟨W, env, st, he, A, _, q⟩ := q
  rw [evI] at q
  refine ⟨W, env, st, he, A, (q.bind).mono fun x H1 ⟨W1, st1, d, x1, A1, r1, q1⟩ => ?_⟩
  cases d with
  | int n =>
    have q1 : Aft X.K X.w cls U (fun W' (J : L2.It) p => p.1.length ≤ sizeLine ∧ WalkD X.K X.w cls W' J p.1 p.2 false) W1 H1 (rng2 (.int 0) (.int n) st1) Q := q1
    simp only [rng2] at q1
    obtain ⟨hb, q1⟩ := Aft.test q1
    simp only [Bool.and_eq_true, decide_eq_true_eq] at hb
    refine ⟨n, by rw [r1.int_inv], by omega, by omega, q1 _ W1 H1 (Ext.refl _ _) A1 ⟨by rw [rngL_len, sizeLine_eq]; omega, ?_⟩⟩
    have e : (n - 0).toNat = n.toNat := by omega
    have := walk_rng (X := X) (cls := cls) (W0 := W1) (lo := 0) (hi := n)
    rw [e] at this
    exact this
  | _ => exact q1.elim
theorem gi_rng2 {p : Pos} (h : Good X cls U C a i) (h2 : Good X cls U C b j) (hg : Gl X "range") (hm : X.mg "range" = none) (hs : noStar a = true) (hs2 : noStar b = true) : PI X tg (.Call (.Name "range" p) [a, b] [] pos) (tDI X.K X.w cls U false (evI C (.rng2 i j))) := by
  refine PI.mono (pi_range2 (tg := tg) hg hm (pa_cons h.pe (pa_cons h2.pe pa_nil (starEach_no hs2)) (starEach_no hs)) (by rw [starEach_no hs, starEach_no hs2]; rfl) (starEach_no hs2)) fun σ H Q q => ?_
  obtain ⟨W, env, st, he, A, _, q⟩ := q
  rw [evI] at q
  refine ⟨W, env, st, he, A, (q.bind).mono fun x H1 ⟨W1, st1, d, x1, A1, r1, q1⟩ => ?_⟩
  refine ⟨W1, env, st1, he.mono x1.le, A1, (q1.bind).mono fun y H2 ⟨W2, st2, d2, x2, A2, r2, q2⟩ => ?_⟩
  have q2 : Aft X.K X.w cls U (fun W' (J : L2.It) p => p.1.length ≤ sizeLine ∧ WalkD X.K X.w cls W' J p.1 p.2 false) W2 H2 (rng2 d d2 st2) Q := q2
  cases d with
  | int lo =>
    cases d2 with
    | int hi =>
      simp only [rng2] at q2
      obtain ⟨hb, q2⟩ := Aft.test q2
      simp only [Bool.and_eq_true, decide_eq_true_eq] at hb
      exact ⟨lo, hi, by rw [(r1.mono x2.le).int_inv, r2.int_inv], by omega, q2 _ W2 H2 (Ext.refl _ _) A2 ⟨by rw [rngL_len, sizeLine_eq]; omega, walk_rng⟩⟩
    | _ => exact q2.elim
  | _ => exact q2.elim

/-! ### comprehensions -/
/-- the comprehension's block: its target, tests and element in every block of X -/
structure GoodB (X : Cx) (cls : Cl) (C : Ctx) (scope : Scope) (tg : Expr) (t : Tg) (ifs : List Expr) (elt : Expr) (cond ie : E) : Prop where
  g : ∀ (s : Shared) (H : Hp) (D : Addr) (cl : List (Str × Addr)) (fp : List Addr), PG (X.blk s H scope (compEnvC scope cl D X.env) fp) tg (tgR X.K t)
  c : ∀ (s : Shared) (H : Hp) (D : Addr) (cl : List (Str × Addr)) (fp : List Addr), PTs (X.blk s H scope (compEnvC scope cl D X.env) fp) ifs (tDT X.K X.w cls (fun _ _ => False) (evE C cond))
  e : ∀ (s : Shared) (H : Hp) (D : Addr) (cl : List (Str × Addr)) (fp : List Addr), PE (X.blk s H scope (compEnvC scope cl D X.env) fp) elt (tD X.K X.w cls (fun _ _ => False) (evE C ie))
/-- a tracked object is taken into the frozen part, or into the store -/
theorem Ag.freeze {K : PySem.W.Frag} {w : World} {W W0 : Wd} {H H0 : Hp} {st : Store} (A : Ag K w cls W st H) (x : Ext W0 H0 W H) {p : Addr} {o : HO} (h0 : ¬ Pr H0 p) (hp : H p = some o) (h1 : p ∉ W.ρ) (h2 : W.G p = none) (ho : ∀ ps, o ≠ .tbl ps := by intro _ z; cases z) :
    Ag K w cls ⟨upd W.G p o, W.ρ⟩ st H ∧ Ext W0 H0 ⟨upd W.G p o, W.ρ⟩ H ∧ W.Le ⟨upd W.G p o, W.ρ⟩ := by
  have le : W.Le ⟨upd W.G p o, W.ρ⟩ := ⟨fun b u e => by
    show upd W.G p o b = some u
    rw [upd_ne (ne_of_none e h2)]; exact e, [], by simp⟩
  refine ⟨⟨fun b u e => ?_, A.len, A.nd, fun a ha => ?_, fun i ob a e1 e2 => (A.obj i ob a e1 e2).keep le rfl, fun b ps e => ?_, A.tab⟩, ⟨fun b u e => le.g b u (x.g b u e), x.r, x.fr, x.dom, fun a h => ?_, x.fz⟩, le⟩
  · by_cases hb : b = p
    · subst hb
      have e' : upd W.G b o b = some u := e
      rw [upd_same] at e'
      rw [hp]; exact e'
    · have e' : upd W.G p o b = some u := e
      rw [upd_ne hb] at e'
      exact A.sub b u e'
  · show upd W.G p o a = none
    have ne : a ≠ p := fun z => h1 (by rw [← z]; exact ha)
    rw [upd_ne ne]
    exact A.out a ha
  · have e' : upd W.G p o b = some (.tbl ps) := e
    by_cases hb : b = p
    · subst hb
      rw [upd_same] at e'
      exact ho ps (Option.some.inj e')
    · rw [upd_ne hb] at e'
      exact A.ntb b ps e'
  · by_cases hb : a = p
    · subst hb; exact .inr h0
    · have h' : upd W.G p o a ≠ none := h
      rw [upd_ne hb] at h'
      exact x.gn a h'
theorem Ag.adopt {K : PySem.W.Frag} {w : World} {W W0 : Wd} {H H0 : Hp} {st : Store} (A : Ag K w cls W st H) (x : Ext W0 H0 W H) {p : Addr} {o : O} (h0 : ¬ Pr H0 p) (h1 : p ∉ W.ρ) (h2 : W.G p = none) (ho : OAt K w cls ⟨W.G, W.ρ ++ [p]⟩ H p o) :
    Ag K w cls ⟨W.G, W.ρ ++ [p]⟩ (st ++ [o]) H ∧ Ext W0 H0 ⟨W.G, W.ρ ++ [p]⟩ H := by
  have le : W.Le ⟨W.G, W.ρ ++ [p]⟩ := ⟨Same.refl _, [p], rfl⟩
  obtain ⟨m, em, hm⟩ := x.r
  refine ⟨⟨A.sub, by simp [A.len], ?_, fun a ha => ?_, fun i ob a e1 e2 => ?_, A.ntb, A.tab⟩, ⟨x.g, ⟨m ++ [p], by show W.ρ ++ [p] = _; rw [em, List.append_assoc], fun a ha => ?_⟩, x.fr, x.dom, x.gn, x.fz⟩⟩
  · refine List.nodup_append.mpr ⟨A.nd, by simp, fun a ha b hb e => ?_⟩
    have e' : b = p := by simpa using hb
    subst e'; subst e
    exact h1 ha
  · rcases List.mem_append.mp ha with ha | ha
    · exact A.out a ha
    · have e : a = p := by simpa using ha
      subst e; exact h2
  · have e2 : (W.ρ ++ [p])[i]? = some a := e2
    by_cases hi : i < W.ρ.length
    · rw [List.getElem?_append_left hi] at e2
      rw [List.getElem?_append_left (by rw [← A.len]; exact hi)] at e1
      exact (A.obj i ob a e1 e2).keep le rfl
    · rw [List.getElem?_append_right (by omega)] at e2
      rw [List.getElem?_append_right (by rw [← A.len]; omega)] at e1
      have hz : i - W.ρ.length = 0 := by
        have := (List.getElem?_eq_some_iff.mp e2).1
        simp at this; omega
      rw [hz] at e2
      rw [← A.len, hz] at e1
      simp at e1 e2
      subst e1; subst e2
      exact ho
  · rcases List.mem_append.mp ha with ha | ha
    · exact hm a ha
    · have e : a = p := by simpa using ha
      subst e; exact h0
/-- the turns of a comprehension's loop, from the evaluator's own -/
theorem lc_turns {P : Hp → Prop} {t : Tg} {cond ie : E} {own : List Nat} {pr : Bool} {σ : L2.St} {Q : VK} {J : L2.It} {H1 : Hp} {W1 : Wd} {env : Env} {st1 : Store} {items : List D} {g : Grd} {ys : List D} {stE : Store} {p : Addr}
    (ht : ∀ s ∈ t.slots, s ∈ own) (hp : pr = true → ∃ is, t = .many is) (he : EnvOk X.K W1 σ env) (A1 : Ag X.K X.w cls W1 st1 H1) (hz : items.length ≤ sizeLine) (wk : WalkD X.K X.w cls W1 J items g pr P) (hP : ∀ W2 H, Ext W1 H1 W2 H → P H)
    (run : lcL g t (evE C cond) (evE C ie) (wipes env own) items st1 = .ok ys stE) (hp1 : H1 p = none)
    (fin : ∀ H acc W2, Ext W1 H1 W2 H → Ag X.K X.w cls W2 stE H → H p = some (.lst acc) → p ∉ W2.ρ → W2.G p = none → RepL X.K W2 acc ys → ys.length ≤ sizeLine → Q (.ref p) H) :
    ∃ Wv : Nat → Nat → Hp → Prop, (∃ m, Wv 0 m (upd H1 p (.lst []))) ∧ ∀ i m H, Wv i m H → (J.stop i H ∧ Q (.ref p) H) ∨ (J.go i H ∧ ∃ Nx : Hp → Prop, (∀ H', Nx H' → ∃ m', m' < m ∧ Wv (i + 1) m' H') ∧
      ∀ x H', J.yld i H x H' → tgR X.K t x (L2.wipe σ own) H' fun σ2 H2 => L2.wipe σ2 own = L2.wipe σ own ∧ tDT X.K X.w cls (fun _ _ => False) (evE C cond) σ2 H2 fun b H3 =>
        if b = true then tD X.K X.w cls (fun _ _ => False) (evE C ie) σ2 H3 fun y H4 => ∃ acc, H4 p = some (.lst acc) ∧ acc.length < sizeLine ∧ Nx (upd H4 p (.lst (acc ++ [y]))) else Nx H3) := by
  let Iv : Nat → Hp → Prop := fun i H => ∃ W2 st2 acc dacc rest, Ext W1 H1 W2 H ∧ Ag X.K X.w cls W2 st2 H ∧ H p = some (.lst acc) ∧ p ∉ W2.ρ ∧ W2.G p = none ∧ RepL X.K W2 acc dacc ∧ dacc.length ≤ i ∧
    lcL g t (evE C cond) (evE C ie) (wipes env own) (items.drop i) st2 = .ok rest stE ∧ ys = dacc ++ rest
  refine ⟨fun i m H => m = items.length - i ∧ i ≤ items.length ∧ Iv i H, ⟨items.length, by simp, Nat.zero_le _, ?_⟩, ?_⟩
  · obtain ⟨f1, f2⟩ := A1.fresh hp1
    exact ⟨W1, st1, [], [], ys, (Ext.refl W1 H1).aside hp1, A1.aside f1 f2 (.inl hp1), upd_same, f1, f2, .nil, Nat.zero_le _, run, rfl⟩
  · rintro i m H ⟨rfl, hi, W2, st2, acc, dacc, rest, x2, A2, hacc, hr, hg, l, hl, hrun, hys⟩
    by_cases hlt : i < items.length
    · have hd : items[i]? = some items[i] := List.getElem?_eq_getElem hlt
      rw [List.drop_eq_getElem_cons hlt, lcL] at hrun
      obtain ⟨hh, hrun1⟩ := R.test_ok hrun
      obtain ⟨env2, s1, h0, hrun2⟩ := R.bind_ok_inv hrun1
      obtain ⟨h1, es⟩ := R.of_ok h0
      obtain ⟨bd, st3, h3, hrun⟩ := R.bind_ok_inv hrun2
      rw [es] at h3
      clear hrun1 hrun2 h0 es
      obtain ⟨go, _⟩ := wk W2 st2 H x2.le A2 hh (hP W2 H x2)
      obtain ⟨go1, yl⟩ := go i _ hd
      refine .inr ⟨go1, Iv (i + 1), fun H' h => ⟨items.length - (i + 1), by omega, rfl, hlt, h⟩, fun x H' hy => ?_⟩
      obtain ⟨yr, yp⟩ := yl x H' hy
      -- the heap in which the target is assigned
      obtain ⟨A2', x2', hacc', hir⟩ : Ag X.K X.w cls W2 st2 H' ∧ Ext W2 H W2 H' ∧ H' p = some (.lst acc) ∧ ItR X.K W2 H' x items[i] := by
        rcases yr with ⟨rfl, r⟩ | ⟨T, y1, y2, d1, d2, rfl, hT, rfl, e, r1, r2⟩
        · exact ⟨A2, Ext.refl _ _, hacc, .inl r⟩
        · obtain ⟨f1, f2⟩ := A2.fresh hT
          exact ⟨A2.aside f1 f2 (.inl hT), (Ext.refl W2 H).aside hT, by rw [upd_ne (ne_of_none hacc hT)]; exact hacc, .inr ⟨T, y1, y2, d1, d2, rfl, upd_same, e, r1, r2⟩⟩
      have ho : (∃ i, t = .one i) → Rep X.K W2 x items[i] := fun ⟨k, e⟩ => by
        cases pr with
        | true => obtain ⟨is, e2⟩ := hp rfl; rw [e] at e2; cases e2
        | false => exact (yp rfl).2
      refine tg_run A2'.sub hir ho ((he.mono x2.le).wipe own) h1 fun σ2 he2 hw => ⟨by rw [hw own ht]; exact wipe_sub (fun _ h => h), ?_⟩
      have hbl : ∃ b, bd = .bl b := by
        cases bd with
        | bl b => exact ⟨b, rfl⟩
        | _ => simp at hrun
      obtain ⟨b, rfl⟩ := hbl
      refine ⟨W2, env2, _, he2, A2', fun d st' e => ?_, ?_⟩
      · rw [h3] at e
        simp only [R.ok.injEq] at e
        exact ⟨b, e.1.symm⟩
      · rw [h3]
        intro b' W3 H3 x3 A3 eb
        cases eb
        obtain ⟨b3, g3⟩ := x3.beside (p := p) ⟨_, hacc', fun _ z => by cases z⟩ hr hg
        have hacc3 : H3 p = some (.lst acc) := x3.fr p _ hacc' (fun _ z => by cases z) hr
        have x3' : Ext W1 H1 W3 H3 := (x2.trans x2').trans x3
        cases b with
        | false =>
          rw [if_neg Bool.false_ne_true]
          exact ⟨W3, st3, acc, dacc, rest, x3', A3, hacc3, b3, g3, l.mono x3.le, by omega, hrun, hys⟩
        | true =>
          rw [if_pos rfl]
          simp only at hrun
          obtain ⟨dy, st4, h4, hrun⟩ := R.bind_ok_inv hrun
          obtain ⟨rest', st5, h5, hrun⟩ := R.bind_ok_inv hrun
          simp only [R.ok.injEq] at hrun
          obtain ⟨er, es⟩ := hrun
          subst es
          refine ⟨W3, env2, st3, he2.mono x3.le, A3, ?_⟩
          rw [h4]
          intro y W4 H4 x4 A4 ry
          obtain ⟨b4, g4⟩ := x4.beside (p := p) ⟨_, hacc3, fun _ z => by cases z⟩ b3 g3
          have hacc4 : H4 p = some (.lst acc) := x4.fr p _ hacc3 (fun _ z => by cases z) b3
          refine ⟨acc, hacc4, by rw [l.length]; omega, ?_⟩
          refine ⟨W4, st4, acc ++ [y], dacc ++ [dy], rest', (x3'.trans x4).aside hp1, A4.aside b4 g4 (.inr ⟨_, hacc4⟩), upd_same, b4, g4, ((l.mono x3.le).mono x4.le).append (.one ry), by rw [List.length_append]; simp; omega, h5, ?_⟩
          rw [hys, ← er]
          simp
    · have e : i = items.length := by omega
      subst e
      rw [List.drop_length, lcL] at hrun
      obtain ⟨hh, hrun⟩ := R.test_ok hrun
      simp only [R.ok.injEq] at hrun
      obtain ⟨rfl, rfl⟩ := hrun
      rw [List.append_nil] at hys
      subst hys
      exact .inl ⟨(wk W2 st2 H x2.le A2 hh (hP W2 H x2)).2, fin H acc W2 x2 A2 hacc hr hg l (by omega)⟩
theorem Grd.out_plain {α : Type} {g : Grd} (hg : g.isDic = false) {r : R α} {a : α} {st : Store} (h : (g.out r).noX = .ok a st) : r = .ok a st := by
  cases r with
  | ok b s1 =>
    cases g with
    | dic _ _ => simp [Grd.isDic] at hg
    | no => simpa [Grd.out, Grd.holds, Grd.free] using h
    | lst i xs =>
      simp only [Grd.out] at h
      cases e : (Grd.lst i xs).holds s1 with
      | true => rw [e] at h; simpa [Grd.free] using h
      | false => rw [e] at h; simp [R.noX] at h
    | lck i xs =>
      simp only [Grd.out] at h
      cases e : (Grd.lck i xs).holds s1 with
      | true => rw [e] at h; simpa [Grd.free] using h
      | false => rw [e] at h; simp [R.noX] at h
  | err k s1 => cases g <;> simp [Grd.out, R.noX] at h
  | bad => cases g <;> simp [Grd.out, R.noX] at h
theorem Grd.lock_plain {g : Grd} (hg : g.isDic = false) (st : Store) : g.lock st = st := by
  cases g <;> first | rfl | (simp [Grd.isDic] at hg)
theorem lc_tD {m : Bool} {it : It} {t : Tg} {cond ie : E} {own : List Nat} {pr : Bool} {σ : L2.St} {H : Hp} {Q : VK} (hp : it.plain = true) (ht : ∀ s ∈ t.slots, s ∈ own) (hpr : pr = true → ∃ is, t = .many is)
    (h : tD X.K X.w cls U (evE C (.lc m own t it cond ie)) σ H Q) : tLc (tDI X.K X.w cls U pr (evI C it)) (tgR X.K t) (tDT X.K X.w cls (fun _ _ => False) (evE C cond)) (tD X.K X.w cls (fun _ _ => False) (evE C ie)) own σ H Q := by
  obtain ⟨W, env, st, he, A, q⟩ := h
  rw [evE] at q
  refine ⟨W, env, st, he, A, fun p st' e => evI_nodic hp e, ?_⟩
  cases e : evI C it env st with
  | bad => rw [e] at q; exact q
  | err k st' => rw [e] at q; exact q
  | ok pp st1 =>
    have hg := evI_nodic hp e
    rw [e] at q
    obtain ⟨items, g⟩ := pp
    have q : Aft X.K X.w cls U (Rep X.K) W H (((g.out (lcL g t (evE C cond) (evE C ie) (wipes env own) items (g.lock st1))).noX).bind fun ys st => if m then .ok (.ref st.length) (st ++ [.lst ys]) else .ok (.lst ys) st) Q := q
    rw [Grd.lock_plain hg] at q
    intro J W1 H1 x1 A1 hw p hp1
    cases e2 : (g.out (lcL g t (evE C cond) (evE C ie) (wipes env own) items st1)).noX with
    | bad => rw [e2] at q; exact q.elim
    | err k s2 =>
      exfalso
      revert e2
      unfold R.noX
      split <;> simp
    | ok ys stE =>
      rw [e2] at q
      have run := Grd.out_plain hg e2
      refine lc_turns (pr := pr) ht hpr (he.mono x1.le) A1 hw.1 hw.2 (fun _ _ _ => trivial) run hp1 fun H2 acc W2 x2 A2 hacc hr hg2 l hz => ?_
      have q : Aft X.K X.w cls U (Rep X.K) W H (if m then .ok (.ref stE.length) (stE ++ [.lst ys]) else .ok (.lst ys) stE) Q := q
      cases m with
      | false =>
        obtain ⟨A3, x3, le⟩ := A2.freeze (x1.trans x2) (p := p) (fun z => not_pr hp1 (x1.dom p z)) hacc hr hg2
        exact q _ _ _ x3 A3 (.lst (xs := acc) upd_same hz (l.mono le))
      | true =>
        have le : W2.Le ⟨W2.G, W2.ρ ++ [p]⟩ := ⟨Same.refl _, [p], rfl⟩
        obtain ⟨A3, x3⟩ := A2.adopt (x1.trans x2) (p := p) (o := .lst ys) (fun z => not_pr hp1 (x1.dom p z)) hr hg2 ⟨acc, hacc, l.mono le, hz⟩
        refine q _ _ _ x3 A3 (.ref ?_)
        show (W2.ρ ++ [p])[stE.length]? = some p
        rw [← A2.len, List.getElem?_append_right (Nat.le_refl _)]
        simp
/-- [elt for target in iter if ..] -/
theorem g_lc {m : Bool} {it : It} {t : Tg} {cond ie : E} {own : List (Str × Nat)} {pr : Bool} {elt iter : Expr} {ifs : List Expr} {scope : Scope} (hc : X.calm = true) (hN : X.N.Nodup) (hp : it.plain = true)
    (hi : PI X tg iter (tDI X.K X.w cls U pr (evI C it))) (ok : BlkOk X.N X.env.scope scope own) (gb : GoodB X cls C scope tg t ifs elt cond ie) (ht : ∀ s ∈ t.slots, s ∈ own.map (·.2)) (hpr : pr = true → ∃ is, t = .many is)
    (hs : ∀ x, foldedSetIterable iter X.env x = pure x) : PE X (.ListComp elt [⟨tg, iter, ifs, 0⟩] scope pos) (tD X.K X.w cls U (evE C (.lc m (own.map (·.2)) t it cond ie))) := by
  refine PE.mono (pe_lc hc hN hi ok gb.g gb.c gb.e hs) fun σ H Q q => lc_tD hp ht hpr q
end
end EV
/-! EvK: statements. -/
namespace EV
open PySem PySem.Spec PyProof.Rows L2

def AftS (K : PySem.W.Frag) (w : World) (cls : Cl) (U : XW) (W : Wd) (H : Hp) (r : R Fl) (D : Ends) : Prop := match r with
  | .ok (.nx env) st => ∀ σ W' H', Ext W H W' H' → Ag K w cls W' st H' → EnvOk K W' σ env → D.nx σ H'
  | .ok (.rt d) st => ∀ v W' H', Ext W H W' H' → Ag K w cls W' st H' → Rep K W' v d → D.rt v H'
  | .ok (.bk env) st => ∀ σ W' H', Ext W H W' H' → Ag K w cls W' st H' → EnvOk K W' σ env → D.bk σ H'
  | .ok (.ct env) st => ∀ σ W' H', Ext W H W' H' → Ag K w cls W' st H' → EnvOk K W' σ env → D.ct σ H'
  | .err k st => ∀ W' H', Ext W H W' H' → Ag K w cls W' st H' → U k H'
  | .bad => False
def tDS (K : PySem.W.Frag) (w : World) (cls : Cl) (U : XW) (den : Env → Store → R Fl) : TS := fun D σ H => ∃ (W : Wd) (env : Env) (st : Store), EnvOk K W σ env ∧ Ag K w cls W st H ∧ AftS K w cls U W H (den env st) D
section
variable {K : PySem.W.Frag} {w : World} {cls : Cl} {U : XW} {W W1 : Wd} {H H1 : Hp} {α β : Type} {rel : Wd → β → α → Prop}
theorem AftS.shift {r : R Fl} {D : Ends} (x : Ext W H W1 H1) (h : AftS K w cls U W H r D) : AftS K w cls U W1 H1 r D := by
  cases r with
  | ok f st => cases f <;> exact fun σ W' H' x' => h σ W' H' (x.trans x')
  | err k st => exact fun W' H' x' => h W' H' (x.trans x')
  | bad => exact h
theorem AftS.bind {r : R α} {f : α → Store → R Fl} {D : Ends} (h : AftS K w cls U W H (r.bind f) D) :
    Aft K w cls U rel W H r fun b H1 => ∃ W1 st a, Ext W H W1 H1 ∧ Ag K w cls W1 st H1 ∧ rel W1 b a ∧ AftS K w cls U W1 H1 (f a st) D := by
  cases r with
  | ok a st => exact fun b W' H' x A q => ⟨W', st, a, x, A, q, AftS.shift x h⟩
  | err k st => exact h
  | bad => exact h
theorem AftS.test {b : Bool} {r : R Fl} {D : Ends} (h : AftS K w cls U W H (R.test b r) D) : b = true ∧ AftS K w cls U W H r D := by
  cases b with
  | true => exact ⟨rfl, h⟩
  | false => exact h.elim
theorem AftS.next {env : Env} {st : Store} {D : Ends} {σ : L2.St} (h : AftS K w cls U W H (.ok (.nx env) st) D) (A : Ag K w cls W st H) (he : EnvOk K W σ env) : D.nx σ H := h σ W H (Ext.refl _ _) A he
end
section
variable {X : Cx} {cls : Cl} {U : XW} {C : Ctx} {a b c : Expr} {i j k : E} {pos : Pos}
def GoodS (X : Cx) (cls : Cl) (U : XW) (C : Ctx) (s : Stmt) (i : S) : Prop := PS X s (tDS X.K X.w cls U (evS C i))
def GoodSs (X : Cx) (cls : Cl) (U : XW) (C : Ctx) (s : List Stmt) (i : Ss) : Prop := PSs X s (tDS X.K X.w cls U (evSs C i))
theorem s_nil : GoodSs X cls U C [] .nil := by
  refine PSs.mono pss_nil fun D σ H h => ?_
  obtain ⟨W, env, st, he, A, q⟩ := h
  rw [evSs] at q
  exact q.next A he
theorem s_cons {s : Stmt} {ss : List Stmt} {x : S} {xs : Ss} (h : GoodS X cls U C s x) (t : GoodSs X cls U C ss xs) : GoodSs X cls U C (s :: ss) (.cons x xs) := by
  refine PSs.mono (pss_cons h t) fun D σ H h => ?_
  obtain ⟨W, env, st, he, A, q⟩ := h
  rw [evSs] at q
  refine ⟨W, env, st, he, A, ?_⟩
  cases e : evS C x env st with
  | bad => rw [e] at q; exact q
  | err k s1 => rw [e] at q; exact q
  | ok f s1 =>
    rw [e] at q
    cases f with
    | nx env1 => exact fun σ1 W1 H1 x1 A1 he1 => ⟨W1, env1, s1, he1, A1, AftS.shift x1 q⟩
    | rt d => exact q
    | bk env1 => exact q
    | ct env1 => exact q
theorem s_ret (h : Good X cls U C a i) : GoodS X cls U C (.Return (some a) pos) (.ret i) := by
  refine PS.mono (ps_ret h.pe) fun D σ H h => ?_
  obtain ⟨W, env, st, he, A, q⟩ := h
  rw [evS] at q
  exact ⟨W, env, st, he, A, (q.bind).mono fun x H1 ⟨W1, st1, d, x1, A1, r1, q1⟩ => q1 x W1 H1 (Ext.refl _ _) A1 r1⟩
theorem s_retN : GoodS X cls U C (.Return none pos) .retN := by
  refine PS.mono ps_retN fun D σ H h => ?_
  obtain ⟨W, env, st, he, A, q⟩ := h
  rw [evS] at q
  exact q .non W H (Ext.refl _ _) A .non
/-- an expression that is no comprehension is never swapped -/
def notComp : Expr → Bool
  | .ListComp .. => false
  | .SetComp .. => false
  | .DictComp .. => false
  | _ => true
theorem noswap {t : Option Expr} {l : Nat} {env : PySem.Env} (h : notComp a = true) : swapsWith a t l env = pure false := by
  cases a <;> first | rfl | (simp [notComp] at h)
theorem s_exp (h : Good X cls U C a i) (hs : notComp a = true) : GoodS X cls U C (.Expr a pos) (.exp i) := by
  refine PS.mono (ps_expr h.pe (noswap hs)) fun D σ H h => ?_
  obtain ⟨W, env, st, he, A, q⟩ := h
  rw [evS] at q
  exact ⟨W, env, st, he, A, (q.bind).mono fun x H1 ⟨W1, st1, d, x1, A1, r1, q1⟩ => q1.next A1 (he.mono x1.le)⟩
theorem s_pass : GoodS X cls U C (.Pass pos) .pass := by
  refine PS.mono ps_pass fun D σ H h => ?_
  obtain ⟨W, env, st, he, A, q⟩ := h
  rw [evS] at q
  exact q.next A he
theorem s_brk : GoodS X cls U C (.Break pos) .brk := by
  refine PS.mono ps_break fun D σ H h => ?_
  obtain ⟨W, env, st, he, A, q⟩ := h
  rw [evS] at q
  exact q σ W H (Ext.refl _ _) A he
theorem s_cont : GoodS X cls U C (.Continue pos) .cont := by
  refine PS.mono ps_continue fun D σ H h => ?_
  obtain ⟨W, env, st, he, A, q⟩ := h
  rw [evS] at q
  exact q σ W H (Ext.refl _ _) A he
/-- a test, then what follows -/
theorem tst_S {f : D → Store → R Fl} {W : Wd} {env : Env} {st : Store} {σ : L2.St} {H : Hp} {D0 : Ends} {Q' : Bool → Hp → Prop} (he : EnvOk X.K W σ env) (A : Ag X.K X.w cls W st H)
    (hf : ∀ d st', f d st' ≠ .bad → ∃ b, d = .bl b) (q : AftS X.K X.w cls U W H ((evE C i env st).bind f) D0)
    (h : ∀ b W1 H1 st1, Ext W H W1 H1 → Ag X.K X.w cls W1 st1 H1 → AftS X.K X.w cls U W1 H1 (f (.bl b) st1) D0 → Q' b H1) : tDT X.K X.w cls U (evE C i) σ H Q' := by
  refine ⟨W, env, st, he, A, fun d st' e => ?_, ?_⟩
  · rw [e] at q
    exact hf d st' fun z => by rw [R.bind_ok, z] at q; exact q
  · cases e : evE C i env st with
    | ok d st' =>
      rw [e] at q
      obtain ⟨b, rfl⟩ := hf d st' fun z => by rw [R.bind_ok, z] at q; exact q
      intro t W' H' x A' r
      cases r
      exact h _ W' H' st' x A' (AftS.shift x q)
    | err k st' => rw [e] at q; exact q
    | bad => rw [e] at q; exact q
theorem s_ite {sa sb : List Stmt} {xa xb : Ss} (h : Good X cls U C a i) (ha : GoodSs X cls U C sa xa) (hb : GoodSs X cls U C sb xb) : GoodS X cls U C (.If a sa sb pos) (.ite i xa xb) := by
  refine PS.mono (ps_if h.pt ha hb) fun D σ H h => ?_
  obtain ⟨W, env, st, he, A, q⟩ := h
  rw [evS] at q
  refine tst_S he A (fun d st' hn => ?_) q fun b W1 H1 st1 x1 A1 q1 => ?_
  · cases d with
    | bl t => exact ⟨t, rfl⟩
    | _ => exact absurd rfl hn
  · cases b with
    | true => rw [if_pos rfl]; exact ⟨W1, env, st1, he.mono x1.le, A1, q1⟩
    | false => rw [if_neg Bool.false_ne_true]; exact ⟨W1, env, st1, he.mono x1.le, A1, q1⟩
theorem s_whl {sb : List Stmt} {xb : Ss} (hpo : PassesOwn (model X.prog X.w) X.A X.env X.xe) (h : Good X cls U C a i) (hb : GoodSs X cls U C sb xb) : GoodS X cls U C (.While a sb [] pos) (.whl i xb) := by
  refine PS.mono (ps_while hpo h.pt hb) fun D σ H h => ?_
  obtain ⟨W, env, st, he, A, q⟩ := h
  rw [evS] at q
  refine ⟨fun m σ H => ∃ W env st, EnvOk X.K W σ env ∧ Ag X.K X.w cls W st H ∧ AftS X.K X.w cls U W H (whlL (evE C i) (evSs C xb) m env st) D, ⟨C.wfuel, W, env, st, he, A, q⟩, ?_⟩
  rintro m σ H ⟨W, env, st, he, A, q⟩
  cases m with
  | zero => exact q.elim
  | succ m =>
    rw [whlL] at q
    refine tst_S he A (fun d st' hn => ?_) q fun b W1 H1 st1 x1 A1 q1 => ?_
    · cases d with
      | bl t => exact ⟨t, rfl⟩
      | _ => exact absurd rfl hn
    · cases b with
      | false => rw [if_neg Bool.false_ne_true]; exact q1.next A1 (he.mono x1.le)
      | true =>
        rw [if_pos rfl]
        refine ⟨fun σ' H' => ∃ W env st, EnvOk X.K W σ' env ∧ Ag X.K X.w cls W st H' ∧ AftS X.K X.w cls U W H' (whlL (evE C i) (evSs C xb) m env st) D, fun σ' H' h => ⟨m, Nat.lt_succ_self _, h⟩, W1, env, st1, he.mono x1.le, A1, ?_⟩
        simp only at q1
        cases e : evSs C xb env st1 with
        | bad => rw [e] at q1; exact q1
        | err k s1 => rw [e] at q1; exact q1
        | ok f s1 =>
          rw [e] at q1
          cases f with
          | nx env1 => exact fun σ2 W2 H2 x2 A2 he2 => ⟨W2, env1, s1, he2, A2, AftS.shift x2 q1⟩
          | ct env1 => exact fun σ2 W2 H2 x2 A2 he2 => ⟨W2, env1, s1, he2, A2, AftS.shift x2 q1⟩
          | bk env1 => exact q1
          | rt d => exact q1
/-! ### targets by names -/
structure NmOk (X : Cx) (x : Str) (i : Nat) : Prop where
  hi : X.N[i]? = some x
  hx : Loc X.env.scope x
  hf : X.fn x = true ∨ X.env.scope.names.lookup x = some .local
inductive NmsOk (X : Cx) : List Expr → List Nat → Prop
  | nil : NmsOk X [] []
  | cons {x : Str} {p : Pos} {i : Nat} {es : List Expr} {is : List Nat} : NmOk X x i → NmsOk X es is → NmsOk X (.Name x p :: es) (i :: is)
theorem pgs_ok (hN : X.N.Nodup) : ∀ {es : List Expr} {is : List Nat}, NmsOk X es is → PGs X es (tgs is) ∧ (assignEach es X.env).length = is.length ∧ (assignEach es X.env).findIdx? (·.1) = none
  | _, _, .nil => ⟨pgs_nil, rfl, rfl⟩
  | _, _, .cons (x := x) (p := p) (es := es) n t => by
    obtain ⟨h1, h2, h3⟩ := pgs_ok hN t
    have e : assignEach (.Name x p :: es) X.env = (false, assign (.Name x p) X.env) :: assignEach es X.env := rfl
    refine ⟨pgs_cons (pg_name hN n.hi n.hx n.hf) h1 (by rw [e]; rfl), by rw [e, List.length_cons, h2]; rfl, ?_⟩
    rw [e, List.findIdx?_cons]
    simp [h3]
inductive TgOk (X : Cx) : Expr → Tg → Prop
  | one {x : Str} {p : Pos} {i : Nat} : NmOk X x i → TgOk X (.Name x p) (.one i)
  | many {es : List Expr} {is : List Nat} {k1 : Nat} {p : Pos} : NmsOk X es is → TgOk X (.Tuple es k1 p) (.many is)
theorem tg_pg (hc : X.calm = true) (hN : X.N.Nodup) {tg : Expr} {t : Tg} (h : TgOk X tg t) : PG X tg (tgR X.K t) := by
  cases h with
  | one n => exact pg_name hN n.hi n.hx n.hf
  | many n =>
    obtain ⟨h1, h2, h3⟩ := pgs_ok hN n
    exact pg_tup hc h1 h2 h3
/-! ### assignment -/
theorem s_set1 {x : Str} {n : Nat} {py : Pos} (hN : X.N.Nodup) (hn : NmOk X x n) (h : Good X cls U C a i) (hs : swapsWith a (some (.Name x py)) pos.line X.env = pure false) : GoodS X cls U C (.Assign [.Name x py] a pos) (.set (.one n) i) := by
  refine PS.mono (ps_set hN hn.hi hn.hx h.pe hs hn.hf) fun D σ H h => ?_
  obtain ⟨W, env, st, he, A, q⟩ := h
  rw [evS] at q
  exact ⟨W, env, st, he, A, (q.bind).mono fun v H1 ⟨W1, st1, d, x1, A1, r1, q1⟩ => q1.next A1 ((he.mono x1.le).set n r1)⟩
theorem s_setM {es : List Expr} {k1 : Nat} {pt : Pos} {is : List Nat} (hc : X.calm = true) (hN : X.N.Nodup) (hn : NmsOk X es is) (h : Good X cls U C a i) (hs : notComp a = true) (hw : swappedStores [.Tuple es k1 pt] a X.env = pure none) :
    GoodS X cls U C (.Assign [.Tuple es k1 pt] a pos) (.set (.many is) i) := by
  refine PS.mono (ps_asg h.pe (tg_pg hc hN (.many hn)) (by rw [swapsWithSole]; exact noswap hs) hw rfl) fun D σ H h => ?_
  obtain ⟨W, env, st, he, A, q⟩ := h
  rw [evS] at q
  refine ⟨W, env, st, he, A, (q.bind).mono fun v H1 ⟨W1, st1, d, x1, A1, r1, q1⟩ => ?_⟩
  cases e : asg (.many is) d env with
  | none => rw [e] at q1; exact q1.elim
  | some env1 =>
    rw [e] at q1
    exact tg_run A1.sub (.inl r1) (fun _ => r1) (he.mono x1.le) e fun σ1 he1 _ => q1.next A1 he1
/-- a, b = x, y with two locals -/
theorem s_par {x y : Str} {px py pt pt2 : Pos} {kt k2 n m : Nat} (hc : X.calm = true) (hN : X.N.Nodup) (hn : X.N[n]? = some x) (hm : X.N[m]? = some y) (hnm : n ≠ m) (hx : X.env.scope.names.lookup x = some .local) (hy : X.env.scope.names.lookup y = some .local)
    (ha : Good X cls U C a i) (hb : Good X cls U C b j) (hsa : noStar a = true) (hsb : noStar b = true)
    (hw : swappedStores [.Tuple [.Name x px, .Name y py] kt pt] (.Tuple [a, b] k2 pt2) X.env = pure (some [x, y])) :
    GoodS X cls U C (.Assign [.Tuple [.Name x px, .Name y py] kt pt] (.Tuple [a, b] k2 pt2) pos) (.set (.many [n, m]) (.tup (.cons i (.cons j .nil)))) := by
  refine PS.mono (ps_par hc hN hn hm hnm hx hy (pa_cons ha.pe (pa_cons hb.pe pa_nil (starEach_no hsb)) (starEach_no hsa)) hw rfl) fun D σ H h => ?_
  obtain ⟨W, env, st, he, A, q⟩ := h
  rw [evS, evE, evEs] at q
  simp only [R.bind_assoc] at q
  refine ⟨W, env, st, he, A, (q.bind).mono fun v H1 ⟨W1, st1, d, x1, A1, r1, q1⟩ => ?_⟩
  rw [evEs] at q1
  simp only [R.bind_assoc] at q1
  refine ⟨W1, env, st1, he.mono x1.le, A1, (q1.bind).mono fun u H2 ⟨W2, st2, d2, x2, A2, r2, q2⟩ => ?_⟩
  rw [evEs] at q2
  simp only [R.bind_ok] at q2
  exact ⟨v, u, rfl, AftS.next q2 A2 ((((he.mono x1.le).mono x2.le).set n (r1.mono x2.le)).set m r2)⟩
/-! ### for -/
theorem Grd.out_S {K : PySem.W.Frag} {w : World} {g : Grd} (hg : g.isDic = false) {r : R Fl} {W : Wd} {H : Hp} {D : Ends} (h : AftS K w cls U W H (g.out r) D) : AftS K w cls U W H r D := by
  cases r with
  | ok f st =>
    cases g with
    | dic _ _ => simp [Grd.isDic] at hg
    | no => exact h
    | lst n xs => exact (AftS.test h).2
    | lck n xs => exact (AftS.test h).2
  | err k st =>
    cases g with
    | dic _ _ => simp [Grd.isDic] at hg
    | _ => exact h
  | bad => cases g <;> exact h
theorem for_turns {P : Hp → Prop} {t : Tg} {xb : Ss} {pr : Bool} {σ0 : L2.St} {D0 : Ends} {J : L2.It} {H1 : Hp} {W1 : Wd} {env : Env} {st1 : Store} {items : List D} {g : Grd}
    (hp : pr = true → ∃ is, t = .many is) (he : EnvOk X.K W1 σ0 env) (A1 : Ag X.K X.w cls W1 st1 H1) (wk : WalkD X.K X.w cls W1 J items g pr P) (hP : ∀ W2 H, Ext W1 H1 W2 H → P H) (q : AftS X.K X.w cls U W1 H1 (forL g t (evSs C xb) items env st1) D0) :
    ∃ Wv : Nat → Nat → L2.St → Hp → Prop, (∃ m, Wv 0 m σ0 H1) ∧ ∀ i m σ H, Wv i m σ H → (J.stop i H ∧ D0.nx σ H) ∨ (J.go i H ∧ ∃ N : L2.St → Hp → Prop, (∀ σ' H', N σ' H' → ∃ m', m' < m ∧ Wv (i + 1) m' σ' H') ∧
      ∀ x H', J.yld i H x H' → tgR X.K t x σ H' fun σ2 H2 => tDS X.K X.w cls U (evSs C xb) { D0 with nx := N, ct := N, bk := D0.nx } σ2 H2) := by
  let Iv : Nat → L2.St → Hp → Prop := fun i σ H => ∃ W2 env2 st2, Ext W1 H1 W2 H ∧ EnvOk X.K W2 σ env2 ∧ Ag X.K X.w cls W2 st2 H ∧ AftS X.K X.w cls U W2 H (forL g t (evSs C xb) (items.drop i) env2 st2) D0
  refine ⟨fun i m σ H => m = items.length - i ∧ i ≤ items.length ∧ Iv i σ H, ⟨items.length, by simp, Nat.zero_le _, W1, env, st1, Ext.refl _ _, he, A1, q⟩, ?_⟩
  rintro i m σ H ⟨rfl, hi, W2, env2, st2, xe, he2, A2, q2⟩
  by_cases hlt : i < items.length
  · have hd : items[i]? = some items[i] := List.getElem?_eq_getElem hlt
    rw [List.drop_eq_getElem_cons hlt, forL] at q2
    obtain ⟨hh, q2⟩ := AftS.test q2
    obtain ⟨go, _⟩ := wk W2 st2 H xe.le A2 hh (hP W2 H xe)
    obtain ⟨go1, yl⟩ := go i _ hd
    refine .inr ⟨go1, Iv (i + 1), fun σ' H' h => ⟨items.length - (i + 1), by omega, rfl, hlt, h⟩, fun x H' hy => ?_⟩
    obtain ⟨yr, yp⟩ := yl x H' hy
    obtain ⟨A2', x2', hir⟩ : Ag X.K X.w cls W2 st2 H' ∧ Ext W2 H W2 H' ∧ ItR X.K W2 H' x items[i] := by
      rcases yr with ⟨rfl, r⟩ | ⟨T, y1, y2, d1, d2, rfl, hT, rfl, e, r1, r2⟩
      · exact ⟨A2, Ext.refl _ _, .inl r⟩
      · obtain ⟨f1, f2⟩ := A2.fresh hT
        exact ⟨A2.aside f1 f2 (.inl hT), (Ext.refl W2 H).aside hT, .inr ⟨T, y1, y2, d1, d2, rfl, upd_same, e, r1, r2⟩⟩
    have ho : (∃ i, t = .one i) → Rep X.K W2 x items[i] := fun ⟨k, e⟩ => by
      cases pr with
      | true => obtain ⟨is, e2⟩ := hp rfl; rw [e] at e2; cases e2
      | false => exact (yp rfl).2
    cases e : asg t items[i] env2 with
    | none => rw [e] at q2; exact q2.elim
    | some env3 =>
      rw [e] at q2
      refine tg_run A2'.sub hir ho he2 e fun σ2 he3 _ => ⟨W2, env3, st2, he3, A2', ?_⟩
      simp only [R.of_some, R.bind_ok] at q2
      have q2 := AftS.shift x2' q2
      cases e3 : evSs C xb env3 st2 with
      | bad => rw [e3] at q2; exact q2
      | err k s1 => rw [e3] at q2; exact q2
      | ok f s1 =>
        rw [e3] at q2
        cases f with
        | nx env4 => exact fun σ3 W3 H3 x3 A3 he4 => ⟨W3, env4, s1, (xe.trans x2').trans x3, he4, A3, AftS.shift x3 q2⟩
        | ct env4 => exact fun σ3 W3 H3 x3 A3 he4 => ⟨W3, env4, s1, (xe.trans x2').trans x3, he4, A3, AftS.shift x3 q2⟩
        | bk env4 => exact q2
        | rt d => exact q2
  · have e : i = items.length := by omega
    subst e
    rw [List.drop_length, forL] at q2
    obtain ⟨hh, q2⟩ := AftS.test q2
    exact .inl ⟨(wk W2 st2 H xe.le A2 hh (hP W2 H xe)).2, q2.next A2 he2⟩
theorem s_for {tg iter : Expr} {t : Tg} {it : It} {sb : List Stmt} {xb : Ss} {pr : Bool} (hpo : PassesOwn (model X.prog X.w) X.A X.env X.xe) (hc : X.calm = true) (hN : X.N.Nodup) (hp : it.plain = true) (hi : PI X tg iter (tDI X.K X.w cls U pr (evI C it))) (ht : TgOk X tg t)
    (hpr : pr = true → ∃ is, t = .many is) (hb : GoodSs X cls U C sb xb) (hs : ∀ x, foldedSetIterable iter X.env x = pure x) : GoodS X cls U C (.For tg iter sb [] pos) (.for t it xb) := by
  refine PS.mono (ps_for hpo hc hi (tg_pg hc hN ht) hb hs) fun D σ H h => ?_
  obtain ⟨W, env, st, he, A, q⟩ := h
  rw [evS] at q
  refine ⟨W, env, st, he, A, fun p st' e => evI_nodic hp e, ?_⟩
  cases e : evI C it env st with
  | bad => rw [e] at q; exact q
  | err k st' => rw [e] at q; exact q
  | ok pp st1 =>
    have hg := evI_nodic hp e
    rw [e] at q
    intro J W1 H1 x1 A1 hw
    have q := Grd.out_S hg (AftS.shift x1 q)
    rw [Grd.lock_plain hg] at q
    exact for_turns hpr (he.mono x1.le) A1 hw.2 (fun _ _ _ => trivial) q
/-- name = [..] -/
theorem s_setLc {y : Str} {n : Nat} {py spos : Pos} {m : Bool} {it : It} {t : Tg} {cond ie : E} {own : List (Str × Nat)} {pr : Bool} {elt iter tg : Expr} {ifs : List Expr} {scope : Scope} (hc : X.calm = true) (hN : X.N.Nodup) (hy : X.N[n]? = some y) (hyl : X.env.scope.names.lookup y = some .local)
    (hsw : swapsWith (.ListComp elt [⟨tg, iter, ifs, 0⟩] scope pos) (some (.Name y py)) spos.line X.env = pure true) (hp : it.plain = true)
    (hi : PI X tg iter (tDI X.K X.w cls U pr (evI C it))) (ok : BlkOk X.N X.env.scope scope own) (gb : GoodB X cls C scope tg t ifs elt cond ie) (ht : ∀ s ∈ t.slots, s ∈ own.map (·.2)) (hpr : pr = true → ∃ is, t = .many is)
    (hs : ∀ x, foldedSetIterable iter X.env x = pure x) : GoodS X cls U C (.Assign [.Name y py] (.ListComp elt [⟨tg, iter, ifs, 0⟩] scope pos) spos) (.set (.one n) (.lc m (own.map (·.2)) t it cond ie)) := by
  refine PS.mono (ps_setLc hc hN hy hyl hsw hi ok gb.g gb.c gb.e hs) fun D σ H h => ?_
  obtain ⟨W, env, st, he, A, q⟩ := h
  rw [evS] at q
  refine lc_tD (m := m) hp ht hpr ⟨W, env, st, he, A, (q.bind).mono fun v H1 ⟨W1, st1, d, x1, A1, r1, q1⟩ => ?_⟩
  exact q1.next A1 ((he.mono x1.le).set n r1)
end
end EV
/-! EvL: methods of built-in types, calls of the program's own defs. -/
namespace EV
open PySem PySem.Spec PyProof.Rows L2

section
variable {X : Cx} {cls : Cl} {U : XW} {C : Ctx} {a b c : Expr} {i j k : E} {pos : Pos}
/-- no bare call f() -/
def notSup : Expr → Bool
  | .Call (.Name _ _) [] [] _ => false
  | _ => true
theorem notSup_base {o : Expr} {name : Str} {env : PySem.Env} {wh : Sem Value} (h : notSup o = true) : attributeBase o name env wh = wh := by
  unfold attributeBase
  split
  · simp [notSup] at h
  · rfl
/-- a method of a built-in type -/
structure MthOk (X : Cx) (cls : Cl) (U : XW) (m : Mth) (name : Str) (id : String) : Prop where
  pa : PlainAttrs m.kd.nm
  sl : Slot m.kd.nm name id
  ty : typeOf (.builtin id) = pure (.type "method_descriptor")
  run : MtR X id (rM X cls U m)
theorem few_args {es : List Expr} {env : PySem.Env} (hs : es.all noStar = true) (hl : es.length < 29) :
    ((backTo pos (starEach es env)).all (fun x => !x.1) && (backToKw pos (keywordEach [] env)).all (fun x => x.1.isSome) && decide (es.length + ([] : List Keyword).length + (if ([] : List Keyword).isEmpty then 0 else 1) < 30)) = true := by
  have h1 : (backTo pos (starEach es env)).all (fun x => !x.1) = true := by
    have := plain_args (pos := pos) (env := env) hs
    rw [List.all_eq_true]
    rw [List.any_eq_false] at this
    intro x hx
    simpa using this x hx
  have h2 : (backToKw pos (keywordEach [] env)).all (fun x => x.1.isSome) = true := rfl
  rw [h1, h2]
  simp
  omega
theorem g_mth {m : Mth} {name : Str} {id : String} {apos : Pos} {es : List Expr} {is : List E} (hm : MthOk X cls U m name id) (ho : Good X cls U C a i) (t : Goods X cls U C es is) (hs : es.all noStar = true) (hl : es.length < 29) (hb : notSup a = true)
    (hline : (apos.endLine == pos.line) = true) : Good X cls U C (.Call (.Attribute a name apos) es [] pos) (.mth m i (listEs is)) := by
  refine good_val ⟨fun pins s σ H Q I h => ?_⟩ fun _ => rfl
  obtain ⟨W, env, st, he, A, q⟩ := h
  rw [evE] at q
  have h0 := ho.pe.run pins s σ H _ I ⟨W, env, st, he, A, Aft.bind (rel := Rep X.K) q⟩
  refine wpAny_Call_method_late (notSup_base hb) (few_args hs hl) hline rfl (thn h0 fun v s1 ⟨x, H1, I1, r1, W1, st1, d, x1, A1, rx, q1⟩ => ?_)
  obtain ⟨hok, q1⟩ := Aft.test q1
  obtain ⟨h1, h2⟩ := rx.ty I1 A1 (of_decide_eq_true hok) (by cases m <;> simp [Mth.kd]) r1
  refine ⟨m.kd.nm, id, hm.pa, hm.sl, hm.ty, h1, h2, ?_⟩
  cases t with
  | nil =>
    refine Calls.callWith_builtin (plain_args hs) ?_
    rw [listEs, evEs] at q1
    exact PySem.evalArgs_none (hm.run pins s1 σ H1 x [] v [] Q I1 r1 .nil ⟨W1, st1, d, [], A1, rx, .nil, q1⟩)
  | @cons e ie es is g t =>
    have hA := (args_ok (.cons g t) hs).run pos pins s1 σ H1 (fun vs H2 => rM X cls U m x vs H2 Q) I1 ⟨W1, env, st1, he.mono x1.le, A1, (q1.bind).mono fun vs H2 ⟨W2, st2, ds, x2, A2, r2, q2⟩ => ⟨W2, st2, d, ds, A2, rx.mono x2.le, r2, q2⟩⟩
    refine Calls.callWith_builtin (plain_args hs) ?_
    rw [List.all_cons, Bool.and_eq_true] at hs
    rw [starEach_no hs.1] at hA ⊢
    refine Calls.evalArgs_plain ?_
    exact thn hA fun us s2 ⟨vs, H2, I2, r2, q2⟩ => hm.run pins s2 σ H2 x vs v us Q I2 r1 r2 q2
/-! ### calls of own defs -/
/-- a def's promise: what the evaluator tells of it -/
def spD (K : PySem.W.Frag) (w : World) (cls : Cl) (xa : Nat → Addr) (call : List D → Store → R D) : Sp := fun vs H Q E => ∃ W st ds, Ag K w cls W st H ∧ RepL K W vs ds ∧ Aft K w cls (fun k H' => E (.ref (xa k)) none H') (Rep K) W H (call ds st) Q
/-- the wish of exceptions, by numbers of classes -/
def wU (xa : Nat → Addr) (U : XW) : XK := fun c d H => ∃ k, c = .ref (xa k) ∧ d = none ∧ U k H
theorem passes_U {xa : Nat → Addr} (tk : Takes X (fun c d _ H => wU xa U c d H)) : Passes (L2.CX X.prog X.w) X (wU xa U) := passes_call tk fun _ _ _ _ h => h
theorem Aft.impU {K : PySem.W.Frag} {w : World} {α β : Type} {rel : Wd → β → α → Prop} {W : Wd} {H : Hp} {U U' : XW} {r : R α} {Q : β → Hp → Prop} (h : Aft K w cls U rel W H r Q) (hU : ∀ k H, U k H → U' k H) : Aft K w cls U' rel W H r Q := by
  cases r with
  | ok a st => exact h
  | err k st => exact fun W' H' x A => hU k H' (h W' H' x A)
  | bad => exact h
theorem g_call {n f : Nat} {fa : Addr} {fd : FuncData} {ps : List Str} {xa : Nat → Addr} {x : Str} {p : Pos} {es : List Expr} {is : List E} (F : FnOk X.prog X.w X.K X.mg X.base (L2.CX X.prog X.w) n fa fd ps (spD X.K X.w cls xa (C.call f)))
    (hr : Room n X.A) (hg : Gl X x) (hm : X.mg x = some (.ref fa)) (hk : PySem.W.keepIn X.K (.ref fa) = true) (hb : Binds X.K fd ps []) (tk : Takes X (fun c d _ H => wU xa U c d H)) (hdb : (x == ("__debug__" : Str)) = false)
    (t : Goods X cls U C es is) (hs : es.all noStar = true) : Good X cls U C (.Call (.Name x p) es [] pos) (.call f (listEs is)) := by
  cases t with
  | nil =>
    refine good_val (PE.mono (pe_call0 F hr hg hm hk hb .nil (passes_U tk) hdb) fun σ H Q h => ?_) fun _ => rfl
    obtain ⟨W, env, st, he, A, q⟩ := h
    rw [evE, listEs, evEs] at q
    exact ⟨W, st, [], A, .nil, Aft.impU q fun k H u => ⟨k, rfl, rfl, u⟩⟩
  | @cons e ie es is g t =>
    have hs' := hs
    rw [List.all_cons, Bool.and_eq_true] at hs'
    refine good_val (PE.mono (pe_call F hr hg hm hk hb .nil (passes_U tk) (args_ok (.cons g t) hs) hdb (starEach_no hs'.1) (plain_args hs'.2)) fun σ H Q h => ?_) fun _ => rfl
    obtain ⟨W, env, st, he, A, q⟩ := h
    rw [evE] at q
    refine ⟨W, env, st, he, A, (q.bind).mono fun vs H1 ⟨W1, st1, ds, x1, A1, r1, q1⟩ => ?_⟩
    rw [List.append_nil]
    exact ⟨W1, st1, ds, A1, r1, Aft.impU q1 fun k H u => ⟨k, rfl, rfl, u⟩⟩
end
end EV
/-! EvM: a def keeps its promise. -/
namespace EV
open PySem PySem.Spec PyProof.Rows L2

section
variable {K : PySem.W.Frag} {w : World} {cls : Cl} {W W' : Wd} {H H' : Hp} {st st' : Store} {n : Nat}
theorem RepF.cut : ∀ {vs : List (Str × V)} {ds : List (Str × D)}, RepF K W vs ds → lowFs n ds = true → RepF K ⟨W.G, W.ρ.take n⟩ vs ds
  | _, _, .nil, _ => .nil
  | _, _, .cons h t, e => by
    rw [lowFs, Bool.and_eq_true] at e
    exact .cons (h.cut e.1) (RepF.cut t e.2)
theorem RepF.low : ∀ {vs : List (Str × V)} {ds : List (Str × D)}, RepF K W vs ds → lowFs W.ρ.length ds = true
  | _, _, .nil => rfl
  | _, _, .cons h t => by rw [lowFs, h.low, RepF.low t]; rfl
theorem RepE.cut : ∀ {es : List DictEntry} {kvs : List (D × D)}, RepE K w W es kvs → lowKv n kvs = true → RepE K w ⟨W.G, W.ρ.take n⟩ es kvs
  | _, _, .nil, _ => .nil
  | _, _, .cons hk ⟨k, rk, qk⟩ hh ⟨v, rv, qv⟩ t, e => by
    rw [lowKv, Bool.and_eq_true, Bool.and_eq_true] at e
    exact .cons hk ⟨k, rk, qk.cut e.1⟩ hh ⟨v, rv, qv.cut e.2.1⟩ (RepE.cut t e.2.2)
theorem RepE.low : ∀ {es : List DictEntry} {kvs : List (D × D)}, RepE K w W es kvs → lowKv W.ρ.length kvs = true
  | _, _, .nil => rfl
  | _, _, .cons hk ⟨k, rk, qk⟩ hh ⟨v, rv, qv⟩ t => by rw [lowKv, qk.low, qv.low, RepE.low t]; rfl
theorem OAt.cut {a : Addr} {o : O} (h : OAt K w cls W H a o) (e : o.low n = true) : OAt K w cls ⟨W.G, W.ρ.take n⟩ H a o := by
  cases o with
  | lst ds => obtain ⟨xs, h1, h2, h3⟩ := h; exact ⟨xs, h1, h2.cut e, h3⟩
  | dic kvs => obtain ⟨o, h1, on, h2, h3, es, ep, h4, h5, h6, h7⟩ := h; exact ⟨o, h1, on, h2, h3, es, ep, h4, h5, h6.cut e, h7⟩
  | lck kvs => obtain ⟨o, od, h1, on, h2, h3, es, ep, h4, h5, h6, h7⟩ := h; exact ⟨o, od, h1, on, h2, h3, es, ep, h4, h5, h6.cut e, h7⟩
  | ins c fs => obtain ⟨C, dx, vs, h1, h2, h3⟩ := h; exact ⟨C, dx, vs, h1, h2, h3.cut e⟩
theorem OAt.low {a : Addr} {o : O} (h : OAt K w cls W H a o) : o.low W.ρ.length = true := by
  cases o with
  | lst ds => obtain ⟨xs, h1, h2, h3⟩ := h; exact h2.low
  | dic kvs => obtain ⟨o, h1, on, h2, h3, es, ep, h4, h5, h6, h7⟩ := h; exact h6.low
  | lck kvs => obtain ⟨o, od, h1, on, h2, h3, es, ep, h4, h5, h6, h7⟩ := h; exact h6.low
  | ins c fs => obtain ⟨C, dx, vs, h1, h2, h3⟩ := h; exact h3.low
theorem lowO_of : ∀ {l : List O}, (∀ o ∈ l, o.low n = true) → lowO n l = true
  | [], _ => rfl
  | o :: r, h => by rw [lowO, h o (by simp), lowO_of fun x hx => h x (by simp [hx])]; rfl
theorem of_lowO : ∀ {l : List O}, lowO n l = true → ∀ o ∈ l, o.low n = true
  | [], _, o, ho => by simp at ho
  | p :: r, h, o, ho => by
    rw [lowO, Bool.and_eq_true] at h
    rcases List.mem_cons.mp ho with rfl | z
    · exact h.1
    · exact of_lowO h.2 o z
theorem Ag.low (A : Ag K w cls W st H) : lowO st.length st = true := lowO_of fun o ho => by
  obtain ⟨i, hi, e⟩ := List.getElem_of_mem ho
  have hl : i < W.ρ.length := by rw [A.len]; exact hi
  rw [← A.len]
  exact (A.obj i o _ (by rw [List.getElem?_eq_getElem hi, e]) (List.getElem?_eq_getElem hl)).low
theorem Ag.cut (A : Ag K w cls W st H) (hl : lowO n (st.take n) = true) : Ag K w cls ⟨W.G, W.ρ.take n⟩ (st.take n) H := by
  refine ⟨A.sub, by rw [List.length_take, List.length_take, A.len], A.nd.sublist (List.take_sublist _ _), fun a ha => A.out a (List.mem_of_mem_take ha), fun i o a h1 h2 => ?_, A.ntb, A.tab⟩
  have ho : o ∈ st.take n := List.mem_of_getElem? h1
  rw [List.getElem?_take] at h1 h2
  split at h1
  · rename_i hi
    rw [if_pos hi] at h2
    exact (A.obj i o a h1 h2).cut (of_lowO hl o ho)
  · cases h1
theorem Ext.cut (x : Ext W H W' H') (hn : W.ρ.length = n) : Ext W H ⟨W'.G, W'.ρ.take n⟩ H' := by
  refine ⟨x.g, ⟨[], ?_, by simp⟩, x.fr, x.dom, x.gn, x.fz⟩
  obtain ⟨more, e, _⟩ := x.r
  rw [e, List.append_nil, ← hn]
  simp
theorem keepN_low (A : Ag K w cls W st H) (h : keepN st.length st st' = true) : lowO st.length (st'.take st.length) = true := by
  rw [keepN, Bool.or_eq_true] at h
  rcases h with h | h
  · rw [of_sameO _ _ h]
    exact A.low
  · exact h
/-- behind a body -/
theorem back_ok {U : XW} {r : R Fl} {Q : VK} (A : Ag K w cls W st H) (q : Aft K w cls U (Rep K) W H (backR st r) Q) : AftS K w cls U W H r { nx := fun _ H' => Q .non H', rt := Q } := by
  have val : ∀ v st', Aft K w cls U (Rep K) W H (backV st v st') Q → ∀ x W' H', Ext W H W' H' → Ag K w cls W' st' H' → Rep K W' x v → Q x H' := by
    intro v st' q x W' H' e A' r
    rw [backV] at q
    split at q
    · rename_i hb
      rw [Bool.and_eq_true] at hb
      exact q x _ H' (e.cut A.len) (A'.cut (keepN_low A hb.2)) (r.cut hb.1)
    · exact q x W' H' e A' r
  cases r with
  | ok f st' =>
    cases f with
    | rt v => exact val v st' q
    | nx env => exact fun σ W' H' e A' he => val .non st' q .non W' H' e A' .non
    | bk env => exact q.elim
    | ct env => exact q.elim
  | err k st' =>
    intro W' H' e A'
    have q : Aft K w cls U (Rep K) W H (backX st k st') Q := q
    rw [backX] at q
    split at q
    · rename_i hb
      exact q _ H' (e.cut A.len) (A'.cut (keepN_low A hb))
    · exact q W' H' e A'
  | bad => exact q
theorem env_start {N : List Str} {vs : List V} {ds : List D} (r : RepL K W vs ds) : EnvOk K W (L2.start N vs) (ds.map some ++ List.replicate (N.length - ds.length) none) := by
  refine ⟨by simp [L2.start, r.length], fun i d e => ?_⟩
  rw [L2.start]
  by_cases hi : i < ds.length
  · rw [List.getElem?_append_left (by simpa using hi), List.getElem?_map] at e
    cases e2 : ds[i]? with
    | none => rw [e2] at e; cases e
    | some d2 =>
      rw [e2] at e
      cases e
      obtain ⟨x, h1, h2⟩ := r.get e2
      refine ⟨x, ?_, h2⟩
      rw [List.getElem?_append_left (by rw [List.length_map, r.length]; exact hi), List.getElem?_map, h1]
      rfl
  · rw [List.getElem?_append_right (by simpa using hi), List.getElem?_replicate] at e
    split at e <;> cases e
end
/-- THE RULE of a def -/
theorem fn_D {P : Program} {w : World} {K : PySem.W.Frag} {mg : Str → Option Value} {base : Heap} {cls : Cl} {xa : Nat → Addr} {x qual : Str} {params : Arguments} {body : List Stmt} {scope : Scope} {dvs : List V} {kws : List (Str × V)} {f : Addr} {fd : FuncData} {N ps : List Str} {n : Nat} {C : Ctx} {d : FDef}
    (F : FunD K x qual params body scope dvs kws f fd) (S : FnScope N ps scope) (hp : d.np = ps.length) (hs : d.ns = N.length)
    (hb : ∀ (cdv : Value) (A : Around) (outer : List PySem.Env) (s : Shared) (H : Hp) (E : XK), fd.code = cdv → Room n (A.deeper (envOfC qual scope s.heap.objs.size f cdv)) →
      GoodSs (cxOf (L2.CX P w) P w K mg base N qual scope f cdv A outer s H E) cls (fun k H => E (.ref (xa k)) none H) C body d.body) :
    FnOk P w K mg base (L2.CX P w) (n + 1) f fd ps (spD K w cls xa (d.run C)) := by
  obtain ⟨oc, od, dV, kV, doc, pm, an, cdv, ct, osl, rfl, lk, hcd, _, _⟩ := F.ex
  refine fn_of lk hcd S (fun vs H Q E h => ?_) fun A outer s H vs Q E hr h => ?_
  · obtain ⟨W, st, ds, A, r, q⟩ := h
    rw [FDef.run] at q
    split at q
    · rename_i e
      rw [r.length, e, hp]
    · exact q.elim
  · obtain ⟨W, st, ds, Ag, r, q⟩ := h
    rw [FDef.run] at q
    split at q
    · rename_i e
      refine ⟨_, hb cdv A outer s H E rfl hr, W, _, st, env_start r, Ag, ?_⟩
      rw [hs, ← e] at q
      exact back_ok Ag q
    · exact q.elim
end EV
/-! EvT: dicts whose keys are tuples, by the library's DictKeyed. (under way) -/
namespace EV
open PySem PySem.Spec PyProof.Rows L2

section
variable {X : Cx} {cls : Cl} {pins : List (Addr × Obj)} {σ : L2.St} {H : Hp} {s : Shared} {W : Wd} {st : Store}
mutual
theorem Rep.nested (I : Inv X pins σ H s) (A : Ag X.K X.w cls W st H) : ∀ {x : V} {u : Value} {d : D} {n : Nat}, Rep X.K W x d → d.key n = true → RelV x u → NestedIs s.heap d.nk u
  | _, u, _, _, .int i, _, ⟨t, e⟩ => by subst e; rw [D.nk]; exact .int i t
  | _, u, _, _, .str z, _, ⟨t, e⟩ => by subst e; rw [D.nk]; exact .text z t
  | _, u, _, 0, .tup g z l, k, _ => by simp [D.key] at k
  | _, u, _, n + 1, .tup g z l, k, r => by
    cases r
    rw [D.key] at k
    rw [D.nk]
    obtain ⟨its, rv, ⟨o, h1, h2, m, h3⟩, hz⟩ := I.tuple (SqT_ft (K := X.K) (A.sub _ _ g))
    refine .tup h1 h2 h3 ?_
    have q := RepL.nested I A l k rv
    simpa using q
  | _, u, _, _, .non, k, _ => by simp [D.key] at k
  | _, u, _, _, .bl b, k, _ => by simp [D.key] at k
  | _, u, _, _, .lst _ _ _, k, _ => by simp [D.key] at k
  | _, u, _, _, .scr _ _, k, _ => by simp [D.key] at k
  | _, u, _, _, .ref _, k, _ => by simp [D.key] at k
theorem RepL.nested (I : Inv X pins σ H s) (A : Ag X.K X.w cls W st H) : ∀ {xs : List V} {us : List Value} {ds : List D} {n : Nat}, RepL X.K W xs ds → D.keys n ds = true → Vals xs us → NestedAll s.heap (D.nks ds) us
  | _, _, _, _, .nil, _, .nil => by rw [D.nks]; exact .nil
  | _, _, _, _, .cons h t, k, .cons r rs => by
    rw [D.keys, Bool.and_eq_true] at k
    rw [D.nks]
    exact .cons (Rep.nested I A h k.1 r) (RepL.nested I A t k.2 rs)
end
end
end EV
/-! EvT2: dicts whose keys are tuples, by the library's DictKeyed. (under way) -/
namespace EV
open PySem PySem.Spec PyProof.Rows L2

mutual
theorem nk_depth : ∀ (n : Nat) (d : D), d.key n = true → d.nk.depth ≤ n
  | n, .int i, _ => by rw [D.nk, NestedKey.depth]; omega
  | n, .str z, _ => by rw [D.nk, NestedKey.depth]; omega
  | 0, .tup xs, k => by simp [D.key] at k
  | n + 1, .tup xs, k => by
    rw [D.key] at k
    rw [D.nk, NestedKey.depth]
    have := nks_depth n xs k
    omega
  | n, .non, k => by simp [D.key] at k
  | n, .bl _, k => by simp [D.key] at k
  | n, .lst _, k => by simp [D.key] at k
  | n, .scr _, k => by simp [D.key] at k
  | n, .ref _, k => by simp [D.key] at k
theorem nks_depth : ∀ (n : Nat) (ds : List D), D.keys n ds = true → NestedKey.depthAll (D.nks ds) ≤ n
  | n, [], _ => by rw [D.nks, NestedKey.depthAll]; omega
  | n, d :: ds, k => by
    rw [D.keys, Bool.and_eq_true] at k
    rw [D.nks, NestedKey.depthAll]
    have h1 := nk_depth n d k.1
    have h2 := nks_depth n ds k.2
    omega
end
mutual
/-- keys are equal as data just if their nested keys are -/
theorem nk_eqv : ∀ (n : Nat) (d e : D), d.key n = true → e.key n = true → (D.eqv d e = decide (d.nk = e.nk))
  | n, .int i, e, _, k => by
    cases e <;> simp [D.key] at k <;> simp [D.eqv, D.nk]
    by_cases h : i = ‹Int› <;> simp [h]
  | n, .str z, e, _, k => by
    cases e <;> simp [D.key] at k <;> simp [D.eqv, D.nk]
    by_cases h : z = ‹Str› <;> simp [h]
  | 0, .tup xs, e, k, _ => by simp [D.key] at k
  | n + 1, .tup xs, e, k, k2 => by
    cases e with
    | tup ys =>
      rw [D.key] at k k2
      rw [D.eqv, nks_eqv n xs ys k k2]
      simp [D.nk]
    | int _ => simp [D.eqv, D.nk]
    | str _ => simp [D.eqv, D.nk]
    | _ => simp [D.key] at k2
  | n, .non, _, k, _ => by simp [D.key] at k
  | n, .bl _, _, k, _ => by simp [D.key] at k
  | n, .lst _, _, k, _ => by simp [D.key] at k
  | n, .scr _, _, k, _ => by simp [D.key] at k
  | n, .ref _, _, k, _ => by simp [D.key] at k
theorem nks_eqv : ∀ (n : Nat) (ds es : List D), D.keys n ds = true → D.keys n es = true → (D.eqvs ds es = decide (D.nks ds = D.nks es))
  | n, [], [], _, _ => by simp [D.eqvs, D.nks]
  | n, [], _ :: _, _, _ => by simp [D.eqvs, D.nks]
  | n, _ :: _, [], _, _ => by simp [D.eqvs, D.nks]
  | n, d :: ds, e :: es, k, k2 => by
    rw [D.keys, Bool.and_eq_true] at k k2
    rw [D.eqvs, nk_eqv n d e k.1 k2.1, nks_eqv n ds es k.2 k2.2]
    simp [D.nks, Bool.decide_and]
end
end EV
/-! EvT3: dicts whose keys are tuples: entries, looks. (under way) -/
namespace EV
open PySem PySem.Spec PyProof.Rows L2

/-- entries as the library's, and as data -/
inductive KX (K : PySem.W.Frag) (W : Wd) : List (NestedKey × Addr × Value) → List (D × D) → Prop
  | nil : KX K W [] []
  | cons {k v : D} {a : Addr} {u : Value} {xs : List (NestedKey × Addr × Value)} {kvs : List (D × D)} : k.key 6 = true → k.isTup = true → Rep K W (.ref a) k → valRel K W u v → KX K W xs kvs → KX K W ((k.nk, a, u) :: xs) ((k, v) :: kvs)
theorem Rep.tup_ref {K : PySem.W.Frag} {W : Wd} {x : V} {d : D} (h : Rep K W x d) (ht : d.isTup = true) : ∃ a, x = .ref a := by
  cases h <;> simp [D.isTup] at ht
  exact ⟨_, rfl⟩
theorem RepE.kx {P : Program} {K : PySem.W.Frag} {w : World} {W : Wd} : ∀ {es : List DictEntry} {kvs : List (D × D)}, RepE K w W es kvs → (kvs.all fun p => p.1.isTup) = true → ∃ xs, es = xs.map (entryOfKey (nestedKind P w)) ∧ KX K W xs kvs
  | _, _, .nil, _ => ⟨[], rfl, .nil⟩
  | _, _, .cons (e := e) (k := k) hk ⟨x, r, q⟩ hh hv t, ha => by
    rw [List.all_cons, Bool.and_eq_true] at ha
    obtain ⟨a, rfl⟩ := q.tup_ref ha.1
    obtain ⟨xs, h1, h2⟩ := RepE.kx (P := P) t ha.2
    obtain ⟨eh, ek, ev⟩ := e
    have e1 : ek = .ref a := r
    have e2 : eh = NestedKey.hash w k.nk := hh
    subst e1 e2
    exact ⟨(k.nk, a, ev) :: xs, by rw [h1]; rfl, .cons hk ha.1 q hv h2⟩
theorem KX.repE {P : Program} {K : PySem.W.Frag} {w : World} {W : Wd} : ∀ {xs : List (NestedKey × Addr × Value)} {kvs : List (D × D)}, KX K W xs kvs → RepE K w W (xs.map (entryOfKey (nestedKind P w))) kvs
  | _, _, .nil => .nil
  | _, _, .cons hk ht q hv t => .cons hk ⟨.ref _, rfl, q⟩ rfl hv (KX.repE t)
theorem KX.keys {K : PySem.W.Frag} {W : Wd} : ∀ {xs : List (NestedKey × Addr × Value)} {kvs : List (D × D)}, KX K W xs kvs → xs.map (·.1) = kvs.map (·.1.nk) ∧ (kvs.all fun p => p.1.isTup) = true ∧ xs.length = kvs.length
  | _, _, .nil => ⟨rfl, rfl, rfl⟩
  | _, _, .cons hk ht q hv t => by
    obtain ⟨h1, h2, h3⟩ := KX.keys t
    refine ⟨by rw [List.map_cons, List.map_cons, h1], by rw [List.all_cons, ht, h2]; rfl, by rw [List.length_cons, List.length_cons, h3]⟩
theorem KX.get {K : PySem.W.Frag} {W : Wd} {dk : D} (hk : dk.key 6 = true) : ∀ {xs : List (NestedKey × Addr × Value)} {kvs : List (D × D)}, KX K W xs kvs → match dget kvs dk with
    | some v => ∃ u, valueAt (pairsH xs) dk.nk = some u ∧ valRel K W u v
    | none => valueAt (pairsH xs) dk.nk = none
  | _, _, .nil => by simp [dget, valueAt, pairsH]
  | _, _, .cons (k := k) (u := u) (a := a) (xs := xs) (kvs := kvs) hk2 ht q hv t => by
    have ih := KX.get hk t
    rw [dget, nk_eqv 6 k dk hk2 hk]
    by_cases h : k.nk = dk.nk
    · simp only [h, decide_true, if_true]
      exact ⟨u, by simp [valueAt, pairsH, h], hv⟩
    · simp only [h, decide_false]
      have e : valueAt (pairsH ((k.nk, a, u) :: xs)) dk.nk = valueAt (pairsH xs) dk.nk := by simp [valueAt, pairsH, h]
      rw [e]
      exact ih
section
variable {X : Cx} {cls : Cl} {pins : List (Addr × Obj)} {σ : L2.St} {H : Hp} {s : Shared} {W : Wd} {st : Store}
theorem KX.is (I : Inv X pins σ H s) (A : Ag X.K X.w cls W st H) : ∀ {xs : List (NestedKey × Addr × Value)} {kvs : List (D × D)}, KX X.K W xs kvs → ∀ x ∈ xs, (nestedKind X.prog X.w).is s.heap x.1 x.2.1
  | _, _, .nil, x, hx => by simp at hx
  | _, _, .cons hk ht q hv t, x, hx => by
    rcases List.mem_cons.mp hx with rfl | hx
    · exact ⟨q.nested I A hk rfl, Nat.le_trans (nk_depth 6 _ hk) (by decide)⟩
    · exact KX.is I A t x hx
theorem DicO.ofH (I : Inv X pins σ H s) (A : Ag X.K X.w cls W st H) {a : Addr} {o : Obj} {kvs : List (D × D)} (ho : s.heap.get? a = some o) (d : DicO X.K X.w W a o kvs) (ht : (kvs.all fun p => p.1.isTup) = true) :
    ∃ xs, s.heap.DictOfH (nestedKind X.prog X.w) a xs ∧ KX X.K W xs kvs := by
  obtain ⟨_, _, _, es, ep, ex, hd, hr, hn⟩ := d
  obtain ⟨xs, h1, h2⟩ := RepE.kx (P := X.prog) hr ht
  exact ⟨xs, ⟨o, es, ep, ho, ex, hd, h1, KX.is I A h2, by rw [h2.keys.1]; exact hn⟩, h2⟩
end
end EV
/-! EvTl: dicts whose keys are ints and texts. -/
namespace EV
open PySem PySem.Spec PyProof.Rows L2

def D.ky : D → L2.Key
  | .int i => .inl i
  | .str s => .inr s
  | _ => .inl 0
theorem ky_hash {w : World} {d : D} (h : d.isLeaf = true) : keyH w d.ky = NestedKey.hash w d.nk := by
  cases d <;> simp [D.isLeaf] at h <;> simp [D.ky, D.nk, keyH, NestedKey.hash]
theorem ky_rep {K : PySem.W.Frag} {W : Wd} {x : V} {d : D} (r : Rep K W x d) (h : d.isLeaf = true) : x = kV d.ky := by
  cases r <;> simp [D.isLeaf] at h <;> rfl
theorem rep_ky {K : PySem.W.Frag} {W : Wd} {d : D} (h : d.isLeaf = true) : Rep K W (kV d.ky) d := by
  cases d <;> simp [D.isLeaf] at h
  · exact .int _
  · exact .str _
theorem ky_inj {d e : D} (h1 : d.isLeaf = true) (h2 : e.isLeaf = true) : (d.ky = e.ky) ↔ (d.nk = e.nk) := by
  cases d <;> simp [D.isLeaf] at h1 <;> cases e <;> simp [D.isLeaf] at h2 <;> simp [D.ky, D.nk]
theorem ky_eqv {d e : D} (h1 : d.isLeaf = true) (h2 : e.isLeaf = true) : D.eqv d e = decide (d.ky = e.ky) := by
  rw [nk_eqv 6 d e (by cases d <;> simp [D.isLeaf] at h1 <;> simp [D.key]) (by cases e <;> simp [D.isLeaf] at h2 <;> simp [D.key])]
  exact decide_eq_decide.mpr (ky_inj h1 h2).symm
/-- entries by the layer's keys, and as data -/
inductive LX (K : PySem.W.Frag) (W : Wd) : List (L2.Key × Value) → List (D × D) → Prop
  | nil : LX K W [] []
  | cons {k v : D} {u : Value} {xs : List (L2.Key × Value)} {kvs : List (D × D)} : k.isLeaf = true → valRel K W u v → LX K W xs kvs → LX K W ((k.ky, u) :: xs) ((k, v) :: kvs)
theorem LX.keys {K : PySem.W.Frag} {W : Wd} : ∀ {xs : List (L2.Key × Value)} {kvs : List (D × D)}, LX K W xs kvs → xs.map (·.1) = kvs.map (·.1.ky) ∧ (kvs.all fun p => p.1.isLeaf) = true ∧ xs.length = kvs.length
  | _, _, .nil => ⟨rfl, rfl, rfl⟩
  | _, _, .cons hk hv t => by
    obtain ⟨h1, h2, h3⟩ := LX.keys t
    exact ⟨by rw [List.map_cons, List.map_cons, h1], by rw [List.all_cons, hk, h2]; rfl, by rw [List.length_cons, List.length_cons, h3]⟩
theorem RepE.lx {P : Program} {K : PySem.W.Frag} {w : World} {W : Wd} : ∀ {es : List DictEntry} {kvs : List (D × D)}, RepE K w W es kvs → (kvs.all fun p => p.1.isLeaf) = true → ∃ xs, Pairs (mixKind P w) es xs ∧ LX K W xs kvs ∧ ∀ e ∈ es, ∃ k, keyIs k e.key = true ∧ e.hash = keyH w k
  | _, _, .nil, _ => ⟨[], .nil, .nil, fun _ h => by cases h⟩
  | _, _, .cons (e := e) (k := k) (v := v) hk ⟨x, r, q⟩ hh hv t, ha => by
    rw [List.all_cons, Bool.and_eq_true] at ha
    obtain ⟨xs, h1, h2, h3⟩ := RepE.lx (P := P) t ha.2
    have ex := ky_rep q ha.1
    subst ex
    have hi : keyIs k.ky e.key = true := kV_is (P := P) (w := w) r
    refine ⟨(k.ky, e.val) :: xs, .cons hi rfl h1, .cons ha.1 hv h2, fun e2 h => ?_⟩
    rcases List.mem_cons.mp h with rfl | h
    · exact ⟨k.ky, hi, by rw [ky_hash ha.1]; exact hh⟩
    · exact h3 e2 h
theorem LX.repE {P : Program} {K : PySem.W.Frag} {w : World} {W : Wd} : ∀ {es : List DictEntry} {xs : List (L2.Key × Value)} {kvs : List (D × D)}, Pairs (mixKind P w) es xs → (∀ e ∈ es, ∃ k, keyIs k e.key = true ∧ e.hash = keyH w k) → LX K W xs kvs → RepE K w W es kvs
  | _, _, _, .nil, _, l => by cases l; exact .nil
  | _, _, _, .cons (e := e) h1 h2 t, hk, l => by
    cases l with
    | @cons k v u xs kvs hl hv l =>
      have r : RelV (kV k.ky) e.key := relV_key h1
      obtain ⟨k2, g1, g2⟩ := hk e (List.mem_cons_self ..)
      have ek : k2 = k.ky := (mixKind P w).inj _ _ _ g1 h1
      exact .cons (by cases k <;> simp [D.isLeaf] at hl <;> simp [D.key]) ⟨_, r, rep_ky hl⟩ (by rw [g2, ek, ky_hash hl]) (by rw [h2]; exact hv) (LX.repE t (fun e2 h => hk e2 (List.mem_cons_of_mem _ h)) l)
theorem LX.nodup {K : PySem.W.Frag} {W : Wd} : ∀ {xs : List (L2.Key × Value)} {kvs : List (D × D)}, LX K W xs kvs → ((kvs.map (·.1.nk)).Nodup ↔ (xs.map (·.1)).Nodup)
  | _, _, .nil => by simp
  | _, _, .cons (k := k) hk hv t => by
    rw [List.map_cons, List.map_cons, List.nodup_cons, List.nodup_cons, LX.nodup t]
    refine and_congr_left fun _ => not_congr ?_
    have go : ∀ {xs : List (L2.Key × Value)} {kvs : List (D × D)}, LX K W xs kvs → (k.nk ∈ kvs.map (·.1.nk) ↔ k.ky ∈ xs.map (·.1)) := by
      intro xs kvs l
      induction l with
      | nil => simp
      | cons hk2 _ _ ih => rw [List.map_cons, List.map_cons, List.mem_cons, List.mem_cons, ih, ky_inj hk hk2]
    exact go t
theorem LX.get {K : PySem.W.Frag} {W : Wd} {dk : D} (hk : dk.isLeaf = true) : ∀ {xs : List (L2.Key × Value)} {kvs : List (D × D)}, LX K W xs kvs → match dget kvs dk with
    | some v => ∃ u, valueAt xs dk.ky = some u ∧ valRel K W u v
    | none => valueAt xs dk.ky = none
  | _, _, .nil => by simp [dget, valueAt]
  | _, _, .cons (k := k) (u := u) (xs := xs) (kvs := kvs) hk2 hv t => by
    have ih := LX.get hk t
    rw [dget, ky_eqv hk2 hk]
    by_cases h : k.ky = dk.ky
    · simp only [h, decide_true, if_true]
      exact ⟨u, by simp [valueAt], hv⟩
    · simp only [h, decide_false]
      have e : valueAt ((k.ky, u) :: xs) dk.ky = valueAt xs dk.ky := by simp [valueAt, h]
      rw [e]
      exact ih
theorem LX.any {K : PySem.W.Frag} {W : Wd} {dk : D} (hk : dk.isLeaf = true) : ∀ {xs : List (L2.Key × Value)} {kvs : List (D × D)}, LX K W xs kvs → (xs.any fun kv => decide (kv.1 = dk.ky)) = (dget kvs dk).isSome
  | _, _, .nil => by simp [dget]
  | _, _, .cons (k := k) (kvs := kvs) hk2 hv t => by
    rw [List.any_cons, LX.any hk t, dget, ky_eqv hk2 hk]
    by_cases h : k.ky = dk.ky <;> simp [h]
theorem LX.app {K : PySem.W.Frag} {W : Wd} : ∀ {xs ys : List (L2.Key × Value)} {kvs lvs : List (D × D)}, LX K W xs kvs → LX K W ys lvs → LX K W (xs ++ ys) (kvs ++ lvs)
  | _, _, _, _, .nil, h => h
  | _, _, _, _, .cons a b t, h => .cons a b (LX.app t h)
theorem LX.putOld {K : PySem.W.Frag} {W : Wd} {dk v : D} {u : Value} (hk : dk.isLeaf = true) (hv : valRel K W u v) : ∀ {xs : List (L2.Key × Value)} {kvs : List (D × D)}, LX K W xs kvs → (xs.map (·.1)).Nodup → (dget kvs dk).isSome = true →
    LX K W (xs.map fun kv => if kv.1 = dk.ky then (kv.1, u) else kv) (dput kvs dk v)
  | _, _, .nil, _, h => by simp [dget] at h
  | _, _, .cons (k := k) (u := u0) (xs := xs) hk2 hv2 t, nd, h => by
    rw [List.map_cons, List.nodup_cons] at nd
    rw [dget, ky_eqv hk2 hk] at h
    rw [dput, ky_eqv hk2 hk, List.map_cons]
    by_cases e : k.ky = dk.ky
    · rw [if_pos e, if_pos (by simpa using e)]
      have out : ∀ ys : List (L2.Key × Value), k.ky ∉ ys.map (·.1) → ys.map (fun kv => if kv.1 = dk.ky then (kv.1, u) else kv) = ys := by
        intro ys
        induction ys with
        | nil => intro _; rfl
        | cons y ys ih =>
          intro hn
          rw [List.map_cons, List.mem_cons, not_or] at hn
          rw [List.map_cons, ih hn.2, if_neg (fun z => hn.1 (e.trans z.symm))]
      rw [out xs nd.1]
      exact .cons hk2 hv t
    · rw [if_neg e, if_neg (by simpa using e)]
      rw [if_neg (by simpa using e)] at h
      exact .cons hk2 hv2 (LX.putOld hk hv t nd.2 h)
theorem dput_new' {dk v : D} : ∀ {kvs : List (D × D)}, dget kvs dk = none → dput kvs dk v = kvs ++ [(dk, v)]
  | [], _ => rfl
  | (a, w) :: r, h => by
    rw [dget] at h
    split at h
    · cases h
    · rename_i ne
      rw [dput, if_neg ne, dput_new' h]
      rfl
theorem LX.put {K : PySem.W.Frag} {W : Wd} {dk v : D} {u : Value} (hk : dk.isLeaf = true) (hv : valRel K W u v) {xs : List (L2.Key × Value)} {kvs : List (D × D)} (h : LX K W xs kvs) (nd : (xs.map (·.1)).Nodup) : LX K W (stored xs dk.ky u) (dput kvs dk v) := by
  have e := h.any hk
  unfold stored
  cases z : dget kvs dk with
  | none =>
    rw [z] at e
    rw [if_neg (by rw [e]; exact Bool.false_ne_true), dput_new' z]
    exact h.app (.cons hk hv .nil)
  | some d =>
    rw [z] at e
    have e : (xs.any fun kv => decide (kv.1 = dk.ky)) = true := e
    rw [if_pos e]
    exact h.putOld hk hv nd (by rw [z]; rfl)
section
variable {X : Cx} {cls : Cl} {pins : List (Addr × Obj)} {σ : L2.St} {H : Hp} {s : Shared} {W : Wd} {st : Store}
theorem DicO.ofL {h : Heap} {a : Addr} {o : Obj} {kvs : List (D × D)} (ho : h.get? a = some o) (d : DicO X.K X.w W a o kvs) (ht : (kvs.all fun p => p.1.isLeaf) = true) :
    ∃ xs, h.DictOf (mixKind X.prog X.w) a xs ∧ LX X.K W xs kvs := by
  obtain ⟨_, _, _, es, ep, ex, hd, hr, hn⟩ := d
  obtain ⟨xs, h1, h2, h3⟩ := RepE.lx (P := X.prog) hr ht
  exact ⟨xs, ⟨o, es, ep, ho, ex, hd, fun e he => h3 e (by simpa using he), h1, h2.nodup.mp hn⟩, h2⟩
/-- .. and back -/
theorem DicO.fromL {h : Heap} {a : Addr} {xs : List (L2.Key × Value)} {kvs : List (D × D)} (d : h.DictOf (mixKind X.prog X.w) a xs) (l : LX X.K W xs kvs) (hs : (a == sysModules) = false) (hz : kvs.length ≤ sizeLine) : ∃ o, h.get? a = some o ∧ DicO X.K X.w W a o kvs := by
  obtain ⟨o, es, ep, ho, ex, hd, hk, hp, hn⟩ := d
  exact ⟨o, ho, rfl, hs, hz, es, ep, ex, hd, l.repE hp (fun e he => hk e (by simpa using he)), l.nodup.mpr hn⟩
end
end EV
/-! EvT4: dicts: in, not in, d[k], get. -/
namespace EV
open PySem PySem.Spec PyProof.Rows L2

section
variable {X : Cx} {cls : Cl} {pins : List (Addr × Obj)} {σ : L2.St} {H : Hp} {s : Shared} {W : Wd} {st : Store}
theorem dic_at (I : Inv X pins σ H s) (A : Ag X.K X.w cls W st H) {y : V} {i : Nat} {kvs : List (D × D)} (r : Rep X.K W y (.ref i)) (h : DicAt st i kvs) : ∃ a o, y = .ref a ∧ s.heap.get? a = some o ∧ DicO X.K X.w W a o kvs := by
  obtain ⟨a, rfl, ha⟩ := r.ref_inv
  obtain ⟨o, ho, oa⟩ := A.at ha
  rcases h with h | h
  · rw [h] at ho
    cases ho
    obtain ⟨o, e, d⟩ := DicO.at I (.inl oa)
    exact ⟨a, o, rfl, e, d⟩
  · rw [h] at ho
    cases ho
    obtain ⟨o, e, d⟩ := DicO.at I (.inr oa)
    exact ⟨a, o, rfl, e, d⟩
theorem keyOk_cases {kvs : List (D × D)} {k : D} (h : keyOk kvs k = true) : k.key 6 = true ∧ ((k.isTup = true ∧ (kvs.all fun p => p.1.isTup) = true) ∨ (k.isLeaf = true ∧ (kvs.all fun p => p.1.isLeaf) = true)) := by
  simp only [keyOk, Bool.and_eq_true, Bool.or_eq_true] at h
  exact h
theorem key_is (I : Inv X pins σ H s) (A : Ag X.K X.w cls W st H) {a : Addr} {k : D} (r : Rep X.K W (.ref a) k) (hk : k.key 6 = true) : (nestedKind X.prog X.w).is s.heap k.nk a :=
  ⟨r.nested I A hk rfl, Nat.le_trans (nk_depth 6 _ hk) (by decide)⟩
/-- all that is asked of a look -/
theorem look (I : Inv X pins σ H s) (A : Ag X.K X.w cls W st H) {x y : V} {dk : D} {i : Nat} {kvs : List (D × D)} (rx : Rep X.K W x dk) (ry : Rep X.K W y (.ref i)) (h : DicAt st i kvs) (k1 : dk.key 6 = true) (k2 : dk.isTup = true) (k3 : (kvs.all fun p => p.1.isTup) = true) :
    ∃ a b o xs, y = .ref a ∧ x = .ref b ∧ (a == sysModules) = false ∧ s.heap.get? a = some o ∧ kvs.length ≤ sizeLine ∧ s.heap.DictOfH (nestedKind X.prog X.w) a xs ∧ KX X.K W xs kvs ∧ (nestedKind X.prog X.w).is s.heap dk.nk b := by
  obtain ⟨a, o, rfl, ho, d⟩ := dic_at I A ry h
  obtain ⟨b, rfl⟩ := rx.tup_ref k2
  have hs := d.2.1
  have hz := d.2.2.1
  obtain ⟨xs, h1, h2⟩ := d.ofH I A ho k3
  exact ⟨a, b, o, xs, rfl, rfl, hs, ho, hz, h1, h2, key_is I A rx k1⟩
/-- .. where the keys are ints and texts -/
theorem lookL (I : Inv X pins σ H s) (A : Ag X.K X.w cls W st H) {x y : V} {v : Value} {dk : D} {i : Nat} {kvs : List (D × D)} (rx : Rep X.K W x dk) (ru : RelV x v) (ry : Rep X.K W y (.ref i)) (h : DicAt st i kvs) (k2 : dk.isLeaf = true) (k3 : (kvs.all fun p => p.1.isLeaf) = true) :
    ∃ a o xs, y = .ref a ∧ (a == sysModules) = false ∧ s.heap.get? a = some o ∧ kvs.length ≤ sizeLine ∧ s.heap.DictOf (mixKind X.prog X.w) a xs ∧ LX X.K W xs kvs ∧ (mixKind X.prog X.w).is dk.ky v = true := by
  obtain ⟨a, o, rfl, ho, d⟩ := dic_at I A ry h
  have ex := ky_rep rx k2
  subst ex
  have hs := d.2.1
  have hz := d.2.2.1
  obtain ⟨xs, h1, h2⟩ := d.ofL (X := X) ho k3
  exact ⟨a, o, xs, rfl, hs, ho, hz, h1, h2, kV_is ru⟩
theorem isSomeL {K : PySem.W.Frag} {W : Wd} {dk : D} (hk : dk.isLeaf = true) {xs : List (L2.Key × Value)} {kvs : List (D × D)} (h : LX K W xs kvs) : (valueAt xs dk.ky).isSome = (dget kvs dk).isSome := by
  have z := h.get hk
  cases e : dget kvs dk with
  | none =>
    rw [e] at z
    have z : valueAt xs dk.ky = none := z
    simp [z]
  | some v => rw [e] at z; obtain ⟨u, z, _⟩ := z; rw [z]; rfl
theorem isSome_eq {K : PySem.W.Frag} {W : Wd} {dk : D} (hk : dk.key 6 = true) {xs : List (NestedKey × Addr × Value)} {kvs : List (D × D)} (h : KX K W xs kvs) : (valueAt (pairsH xs) dk.nk).isSome = (dget kvs dk).isSome := by
  have z := h.get hk
  cases e : dget kvs dk with
  | none =>
    rw [e] at z
    have z : valueAt (pairsH xs) dk.nk = none := z
    simp [z]
  | some v => rw [e] at z; obtain ⟨u, z, _⟩ := z; rw [z]; rfl
theorem room_in1 (hu : X.A.units + 64 < cLine) : (nestedKind X.prog X.w).room X.A.in1 := by
  show X.A.in1.units + 8 < cLine
  simp only [Around.in1]
  omega
end
section
variable {X : Cx} {cls : Cl} {U : XW}
theorem t_mem (hu : X.A.units + 64 < cLine) : OpR X (compareOp .In) (fun x y H Q => ∃ W st dx i kvs, Ag X.K X.w cls W st H ∧ Rep X.K W x dx ∧ Rep X.K W y (.ref i) ∧ DicAt st i kvs ∧ keyOk kvs dx = true ∧ Q (.bl (dget kvs dx).isSome) H) := by
  intro pins s σ H x y u v Q I rx ry h
  obtain ⟨W, st, dx, i, kvs, A, r1, r2, hd, hk, q⟩ := h
  obtain ⟨k1, ⟨k2, k3⟩ | ⟨k2, k3⟩⟩ := keyOk_cases hk
  · obtain ⟨a, b, o, xs, rfl, rfl, hs, ho, hz, h1, h2, h3⟩ := look I A r1 r2 hd k1 k2 k3
    cases rx
    cases ry
    refine in_keyed (room_in1 hu) h3 hs ⟨xs, h1, rfl⟩ ?_
    rw [isSome_eq k1 h2]
    exact ⟨.bl _, H, I.tok _, rfl, q⟩
  · obtain ⟨a, o, xs, rfl, hs, ho, hz, h1, h2, h3⟩ := lookL I A r1 rx r2 hd k2 k3
    cases ry
    refine wpAny_in_of h3 hs h1.mapOf ?_
    rw [isSomeL k2 h2]
    exact ⟨.bl _, H, I.tok _, rfl, q⟩
theorem t_nmem (hu : X.A.units + 64 < cLine) : OpR X (compareOp .NotIn) (fun x y H Q => ∃ W st dx i kvs, Ag X.K X.w cls W st H ∧ Rep X.K W x dx ∧ Rep X.K W y (.ref i) ∧ DicAt st i kvs ∧ keyOk kvs dx = true ∧ Q (.bl (!(dget kvs dx).isSome)) H) := by
  intro pins s σ H x y u v Q I rx ry h
  obtain ⟨W, st, dx, i, kvs, A, r1, r2, hd, hk, q⟩ := h
  obtain ⟨k1, ⟨k2, k3⟩ | ⟨k2, k3⟩⟩ := keyOk_cases hk
  · obtain ⟨a, b, o, xs, rfl, rfl, hs, ho, hz, h1, h2, h3⟩ := look I A r1 r2 hd k1 k2 k3
    cases rx
    cases ry
    refine notIn_keyed (room_in1 hu) h3 hs ⟨xs, h1, rfl⟩ ?_
    rw [isSome_eq k1 h2]
    exact ⟨.bl _, H, I.tok _, rfl, q⟩
  · obtain ⟨a, o, xs, rfl, hs, ho, hz, h1, h2, h3⟩ := lookL I A r1 rx r2 hd k2 k3
    cases ry
    refine wpAny_notIn_of h3 hs h1.mapOf ?_
    rw [isSomeL k2 h2]
    exact ⟨.bl _, H, I.tok _, rfl, q⟩
theorem t_get (hu : X.A.units + 64 < cLine) : IxR X (fun x y H Q => ∃ W st dy i kvs d, Ag X.K X.w cls W st H ∧ Rep X.K W x (.ref i) ∧ Rep X.K W y dy ∧ DicAt st i kvs ∧ keyOk kvs dy = true ∧ dget kvs dy = some d ∧ ∀ v, Rep X.K W v d → Q v H) := by
  intro value slice pins s σ H x y u v Q I rx ry h hsub
  obtain ⟨W, st, dy, i, kvs, d, A, r1, r2, hd, hk, hg, q⟩ := h
  obtain ⟨k1, ⟨k2, k3⟩ | ⟨k2, k3⟩⟩ := keyOk_cases hk
  · obtain ⟨a, b, o, xs, rfl, rfl, hs, ho, hz, h1, h2, h3⟩ := look I A r2 r1 hd k1 k2 k3
    cases rx
    cases ry
    have z := h2.get k1
    rw [hg] at z
    obtain ⟨w, z1, x, z2, z3⟩ := z
    refine tail_any (ops := [.ref a, .ref b]) h1.typeIs (PySem.F.slot_dict_getitem.lookup) ?_ hsub
    exact getItem_keyed (room_in1 hu) h3 ⟨xs, h1, rfl⟩ z1 ⟨x, H, I.tok _, z2, q x z3⟩
  · obtain ⟨a, o, xs, rfl, hs, ho, hz, h1, h2, h3⟩ := lookL I A r2 ry r1 hd k2 k3
    cases rx
    have z := h2.get k2
    rw [hg] at z
    obtain ⟨w, z1, x, z2, z3⟩ := z
    refine tail_any (ops := [.ref a, v]) h1.typeIs (PySem.F.slot_dict_getitem.lookup) ?_ hsub
    exact wpAny_getItem_of h3 h1.mapOf z1 ⟨x, H, I.tok _, z2, q x z3⟩
theorem t_get2 (hu : X.A.units + 64 < cLine) : MtR X "dict.get" (fun x xs H Q => ∃ W st i kvs dk dx, Ag X.K X.w cls W st H ∧ Rep X.K W x (.ref i) ∧ RepL X.K W xs [dk, dx] ∧ DicAt st i kvs ∧ keyOk kvs dk = true ∧ ∀ v, Rep X.K W v ((dget kvs dk).getD dx) → Q v H) := by
  intro pins s σ H x xs v us Q I rx rs h
  obtain ⟨W, st, i, kvs, dk, dx, A, r1, rl, hd, hk, q⟩ := h
  obtain ⟨x1, x2, rfl, q1, q2⟩ := rl.two_inv
  obtain ⟨u1, u2, rfl, e1, e2⟩ := rs.two
  obtain ⟨k1, ⟨k2, k3⟩ | ⟨k2, k3⟩⟩ := keyOk_cases hk
  · obtain ⟨a, b, o, xs, rfl, rfl, hs, ho, hz, h1, h2, h3⟩ := look I A q1 r1 hd k1 k2 k3
    cases rx
    cases e1
    refine getOr_keyed (room_in1 hu) h3 hs ⟨xs, h1, rfl⟩ ?_
    have z := h2.get k1
    cases e : dget kvs dk with
    | none =>
      rw [e] at z
      rw [z]
      exact ⟨x2, H, I.tok _, e2, q x2 (by rw [e]; exact q2)⟩
    | some d =>
      rw [e] at z
      obtain ⟨w, z1, x, z2, z3⟩ := z
      rw [z1]
      exact ⟨x, H, I.tok _, z2, q x (by rw [e]; exact z3)⟩
  · obtain ⟨a, o, xs, rfl, hs, ho, hz, h1, h2, h3⟩ := lookL I A q1 e1 r1 hd k2 k3
    cases rx
    refine call_meetsIn PySem.F.slot_dict_get h1.typeIs PySem.F.entry_dict_get (PySem.F.args_dict_get_3 _ _ _) (meets_dict_get_default (mixKind X.prog X.w) a h3 hs u2) ⟨_, h1.mapOf, ?_⟩
    have z := h2.get k2
    cases e : dget kvs dk with
    | none =>
      rw [e] at z
      have z : valueAt xs dk.ky = none := z
      rw [z]
      exact ⟨x2, H, I.tok _, e2, q x2 (by rw [e]; exact q2)⟩
    | some d =>
      rw [e] at z
      obtain ⟨w, z1, x, z2, z3⟩ := z
      rw [z1]
      exact ⟨x, H, I.tok _, z2, q x (by rw [e]; exact z3)⟩
end
end EV
/-! EvT5: dicts: len, list. (under way) -/
namespace EV
open PySem PySem.Spec PyProof.Rows L2

theorem len_raw {prog : Program} {w : World} {A : Around} {E : Value → Shared → Prop} {s : Shared} {d : Addr} {es : Array DictEntry} {ep : Nat} {Q : Value → Shared → Prop} (hd : (d == sysModules) = false) (hm : s.heap.DictRaw d es ep) (hz : es.size ≤ sizeLine)
    (h : ∀ t u, Q (.int es.size t) { s with toks := u }) : wpAny (model prog w) A (call (.builtin "len") [.ref d]) Q E s := by
  have hs : (es.size : Int) < 2 ^ 63 := by rw [sizeLine_eq] at hz; omega
  refine Calls.call_function_entry kind_len plain_len entry_len (args_len1 _) ?_
  unfold Builtin.«len»
  refine wpAny_bind (m := oneArg "len" _) (wpAny_pure (wpAny_bind (m := callSpecial? (.ref d) (Str.ofString "__len__")) (wpAny_callSpecial?_slot (name := Str.ofString "__len__") hm.typeIs F.slot_dict_len (call_len_raw hd hm ?_))))
  refine wpAny_bind (wpAny_holding (wpAny_pure (wpAny_bind (wpAny_letGo ?_))))
  show wpAny _ _ (if ((es.size : Nat) : Int) < 0 then _ else if ((es.size : Nat) : Int) ≥ 2 ^ 63 then _ else _) _ _ _
  rw [if_neg (by omega), if_neg (by omega)]
  exact wpAny_bind (wpAny_mkInt (wpAny_pure ⟨_, rfl, h _ _⟩))
theorem RepE.keys {K : PySem.W.Frag} {w : World} {W : Wd} : ∀ {es : List DictEntry} {kvs : List (D × D)}, RepE K w W es kvs → ∃ vs, Vals vs (es.map (·.key)) ∧ RepL K W vs (kvs.map (·.1))
  | _, _, .nil => ⟨[], .nil, .nil⟩
  | _, _, .cons hk ⟨x, r, q⟩ hh hv t => by
    obtain ⟨vs, h1, h2⟩ := RepE.keys t
    exact ⟨x :: vs, .cons r h1, .cons q h2⟩
theorem RepE.len {K : PySem.W.Frag} {w : World} {W : Wd} : ∀ {es : List DictEntry} {kvs : List (D × D)}, RepE K w W es kvs → es.length = kvs.length
  | _, _, .nil => rfl
  | _, _, .cons _ _ _ _ t => by rw [List.length_cons, List.length_cons, RepE.len t]
section
variable {X : Cx} {cls : Cl} {U : XW}
theorem t_len : CallR X (.builtin "len") (fun xs H Q => ∃ W st i kvs, Ag X.K X.w cls W st H ∧ RepL X.K W xs [.ref i] ∧ DicAt st i kvs ∧ Q (.int kvs.length) H) := by
  intro pins s σ H xs us Q I r h
  obtain ⟨W, st, i, kvs, A, rl, hd, q⟩ := h
  obtain ⟨v, rfl, rv⟩ := rl.one_inv
  obtain ⟨a, o, rfl, ho, on, hs, hz, es, ep, ex, hdat, hr, hn⟩ := dic_at I A rv hd
  obtain ⟨u, rfl, ru⟩ := vals1 r
  cases ru
  have hl : es.size = kvs.length := by rw [← hr.len, Array.length_toList]
  refine len_raw hs ⟨o, ho, ex, hdat⟩ (by rw [hl]; exact hz) fun t u => ?_
  rw [hl]
  exact ⟨.int _, H, I.tok _, ⟨t, rfl⟩, q⟩
theorem t_list (hc : X.calm = true) : CallR X (.type "list") (fun xs H Q => ∃ W st i kvs, Ag X.K X.w cls W st H ∧ RepL X.K W xs [.ref i] ∧ DicAt st i kvs ∧ ∀ p vs, H p = none → RepL X.K W vs (kvs.map (·.1)) → kvs.length ≤ sizeLine → Q (.ref p) (upd H p (.lst vs))) := by
  intro pins s σ H xs us Q I r h
  obtain ⟨W, st, i, kvs, A, rl, hd, q⟩ := h
  obtain ⟨v, rfl, rv⟩ := rl.one_inv
  obtain ⟨a, o, rfl, ho, on, hs, hz, es, ep, ex, hdat, hr, hn⟩ := dic_at I A rv hd
  obtain ⟨u, rfl, ru⟩ := vals1 r
  cases ru
  have hl : es.size = kvs.length := by rw [← hr.len, Array.length_toList]
  obtain ⟨vs, h1, h2⟩ := hr.keys
  refine PySem.W.kdl_call (PySem.KdlSrc.rawDict (es := es) (ep := ep) hs) (I.ok.hd hc) ⟨o, ho, ex, hdat⟩ (by rw [hl]; exact hz) fun h' tk acc' c' kp e hacc => ?_
  have ea : acc'.toList = es.toList.map (·.key) := by
    refine List.ext_getElem? fun j => ?_
    rw [List.getElem?_map, Array.getElem?_toList, Array.getElem?_toList]
    by_cases hj : j < acc'.size
    · obtain ⟨hi, z⟩ := hacc.2 j acc'[j] (Array.getElem?_eq_getElem hj)
      rw [Array.getElem?_eq_getElem hj, Array.getElem?_eq_getElem hi, z]
      rfl
    · have hz := hacc.1
      rw [Array.getElem?_eq_none (by omega), Array.getElem?_eq_none (by omega)]
      rfl
  have hvl : vs.length ≤ sizeLine := by rw [h2.length, List.length_map]; exact hz
  exact ⟨.ref s.heap.objs.size, _, I.laid (t' := tk) kp (Nat.le_refl _) (show ObjOk X.prog X.w _ h' _ (.lst vs) from ⟨hvl, acc'.toList, c', by rw [ea]; exact h1, by simpa using e⟩), rfl, q _ _ (I.hok.fresh (Nat.le_refl _)) h2 hz⟩
end
end EV
/-! EvT6: a dict's entries behind d[k] = v. (under way) -/
namespace EV
open PySem PySem.Spec PyProof.Rows L2

theorem KX.app {K : PySem.W.Frag} {W : Wd} : ∀ {xs ys : List (NestedKey × Addr × Value)} {kvs lvs : List (D × D)}, KX K W xs kvs → KX K W ys lvs → KX K W (xs ++ ys) (kvs ++ lvs)
  | _, _, _, _, .nil, h => h
  | _, _, _, _, .cons a b c d t, h => .cons a b c d (KX.app t h)
theorem dput_new {dk v : D} : ∀ {kvs : List (D × D)}, dget kvs dk = none → dput kvs dk v = kvs ++ [(dk, v)]
  | [], _ => rfl
  | (a, w) :: r, h => by
    rw [dget] at h
    split at h
    · cases h
    · rename_i ne
      rw [dput, if_neg ne, dput_new h]
      rfl
theorem KX.mapOut {K : PySem.W.Frag} {W : Wd} {k : NestedKey} {u : Value} : ∀ {xs : List (NestedKey × Addr × Value)}, k ∉ xs.map (·.1) → xs.map (putAt k u) = xs
  | [], _ => rfl
  | x :: xs, h => by
    rw [List.map_cons, List.mem_cons, not_or] at h
    have e : ¬ x.1 = k := fun z => h.1 z.symm
    rw [List.map_cons, KX.mapOut (K := K) (W := W) h.2, putAt, if_neg e]
theorem KX.putOld {K : PySem.W.Frag} {W : Wd} {dk v : D} {u : Value} (hk : dk.key 6 = true) (hv : valRel K W u v) : ∀ {xs : List (NestedKey × Addr × Value)} {kvs : List (D × D)}, KX K W xs kvs → (xs.map (·.1)).Nodup → (dget kvs dk).isSome = true → KX K W (xs.map (putAt dk.nk u)) (dput kvs dk v)
  | _, _, .nil, _, h => by simp [dget] at h
  | _, _, .cons (k := k) (a := a) (u := u0) (xs := xs) hk2 ht q hv2 t, nd, h => by
    rw [List.map_cons, List.nodup_cons] at nd
    rw [dget, nk_eqv 6 k dk hk2 hk] at h
    rw [dput, nk_eqv 6 k dk hk2 hk, List.map_cons, putAt]
    by_cases e : k.nk = dk.nk
    · rw [if_pos e, if_pos (by simpa using e), KX.mapOut (K := K) (W := W) (by rw [← e]; exact nd.1)]
      exact .cons hk2 ht q hv t
    · rw [if_neg e, if_neg (by simpa using e)]
      rw [if_neg (by simpa using e)] at h
      exact .cons hk2 ht q hv2 (KX.putOld hk hv t nd.2 h)
/-- d[k] = v -/
theorem KX.put {K : PySem.W.Frag} {W : Wd} {dk v : D} {u : Value} {b : Addr} (hk : dk.key 6 = true) (ht : dk.isTup = true) (hb : Rep K W (.ref b) dk) (hv : valRel K W u v) {xs : List (NestedKey × Addr × Value)} {kvs : List (D × D)} (h : KX K W xs kvs) (nd : (xs.map (·.1)).Nodup) :
    KX K W (storedH xs dk.nk b u) (dput kvs dk v) := by
  have e := isSome_eq hk h
  rw [valueAt_pairsH, Option.isSome_map] at e
  cases z : dget kvs dk with
  | none =>
    rw [z] at e
    have e2 : atKey xs dk.nk = none := by simpa using e
    rw [storedH_new e2, dput_new z]
    exact h.app (.cons hk ht hb hv .nil)
  | some d =>
    rw [z] at e
    obtain ⟨p, e2⟩ := Option.isSome_iff_exists.mp (e.trans rfl)
    rw [storedH_old e2]
    exact h.putOld hk hv nd (by rw [z]; rfl)
end EV
/-! EvT7: d[k] = v. (under way) -/
namespace EV
open PySem PySem.Spec PyProof.Rows L2

theorem dput_len {k v : D} : ∀ kvs : List (D × D), (dput kvs k v).length ≤ kvs.length + 1
  | [] => Nat.le_refl _
  | (a, w) :: r => by
    rw [dput]
    split
    · simp
    · have := dput_len (k := k) (v := v) r
      simp only [List.length_cons]
      omega
theorem t_put {X : Cx} {cls : Cl} (hu : X.A.units + 64 < cLine) : PSet X (fun o i v H Q => ∃ W st n dk dv kvs, Ag X.K X.w cls W st H ∧ Rep X.K W o (.ref n) ∧ Rep X.K W i dk ∧ Rep X.K W v dv ∧ st[n]? = some (.dic kvs) ∧ keyOk kvs dk = true ∧ kvs.length < 1000000 ∧
    ∀ W' H', Ext W H W' H' → Ag X.K X.w cls W' (st.set n (.dic (dput kvs dk dv))) H' → Q H') := by
  intro pins s σ H o i v ov iv u Q I ro ri rv h
  obtain ⟨W, st, n, dk, dv, kvs, A, r1, r2, r3, hst, hk, hl, q⟩ := h
  have hz2 : (dput kvs dk dv).length ≤ sizeLine := by
    have := dput_len (k := dk) (v := dv) kvs
    rw [sizeLine_eq]
    omega
  obtain ⟨a', e', ha⟩ := r1.ref_inv
  obtain ⟨o0, ho0, oa⟩ := A.at ha
  rw [hst] at ho0
  cases ho0
  obtain ⟨o1, hH, _⟩ := oa
  have fin : ∀ (h' : Heap) (o2 : Obj) (tk : Nat), Heap.SameBut a' s.heap h' → h'.get? a' = some o2 → DicO X.K X.w W a' o2 (dput kvs dk dv) → ∃ H', Inv X pins σ H' { s with heap := h', toks := tk } ∧ Q H' := fun h' o2 tk sb g1 d => by
    obtain ⟨A', x'⟩ := A.setObj (H' := upd H a' (exactly a' o2)) (o := .dic (dput kvs dk dv)) ha (fun b hb => upd_ne hb) ⟨o2, upd_same, d⟩ (fun _ _ z => by rw [hH] at z; cases z)
    exact ⟨upd H a' (exactly a' o2), d_write I (by rw [hH]; exact True.intro) sb ⟨o2, g1⟩ ⟨g1, ⟨o2, g1⟩, fun _ _ p k => k _ p⟩, q _ _ x' A'⟩
  obtain ⟨k1, ⟨k2, k3⟩ | ⟨k2, k3⟩⟩ := keyOk_cases hk
  · obtain ⟨a, b, ob, xs, rfl, rfl, hs, ho, hz, h1, h2, h3⟩ := look I A r2 r1 (.inl hst) k1 k2 k3
    cases e'
    cases ro
    cases ri
    have nd : (xs.map (·.1)).Nodup := by obtain ⟨_, _, _, _, _, _, _, _, nd⟩ := h1; exact nd
    refine wpAny_setItem_heap (room_in1 hu) h3 h1 (fun h' dd' sb => ?_) (by rw [h2.keys.2.2]; exact hz)
    obtain ⟨o2, es, ep, g1, g2, g3, g4, g5, g6⟩ := dd'
    have kx := h2.put k1 k2 r2 ⟨v, rv, r3⟩ nd
    exact fin h' o2 _ sb g1 ⟨rfl, hs, hz2, es, ep, g2, g3, by rw [g4]; exact kx.repE, by rw [← kx.keys.1]; exact g6⟩
  · obtain ⟨a, ob, xs, rfl, hs, ho, hz, h1, h2, h3⟩ := lookL I A r2 ri r1 (.inl hst) k2 k3
    cases e'
    cases ro
    have nd : (xs.map (·.1)).Nodup := by obtain ⟨_, _, _, _, _, _, _, _, nd⟩ := h1; exact nd
    refine wpAny_setItem_pairs (hsz := by rw [h2.keys.2.2]; exact hz) h3 h1 fun h' dd' sb => ?_
    obtain ⟨o2, g1, g2⟩ := DicO.fromL dd' (h2.put k2 ⟨v, rv, r3⟩ nd) hs hz2
    exact fin h' o2 _ sb g1 g2
end EV
/-! EvSo: sorting of tuples: compared up to the first place that differs, empty ones among them. -/
namespace EV
open PySem PySem.Spec PyProof.Rows L2 PySem.W PySem.SeqAt

/-- rows of items that can be compared, up to the first place that differs -/
def cmpP : List PyData → List PyData → Bool
  | x :: xs, y :: ys => alike x y && (!PyData.eqv x y || cmpP xs ys)
  | _, _ => true
theorem cmpP_cons {x y : PyData} {xs ys : List PyData} (h : cmpP (x :: xs) (y :: ys) = true) : alike x y = true ∧ (PyData.eqv x y = true → cmpP xs ys = true) := by
  rw [cmpP, Bool.and_eq_true, Bool.or_eq_true, Bool.not_eq_true'] at h
  exact ⟨h.1, fun e => h.2.elim (fun z => by rw [z] at e; cases e) id⟩
theorem cmpP_alike : ∀ {xs ys : List PyData}, alikeAll xs ys = true → cmpP xs ys = true
  | [], ys, _ => by simp [cmpP]
  | _ :: _, [], _ => by simp [cmpP]
  | x :: xs, y :: ys, h => by
    obtain ⟨h1, h2⟩ := alike_all_cons h
    rw [cmpP, h1, cmpP_alike h2]
    simp
mutual
/-- a value reads as one datum only -/
theorem reads_one {h : Heap} : ∀ (d e : PyData) (v : Value) (as bs : List Addr), d.plain = true → e.plain = true → Reads h v d as → Reads h v e bs → d = e
  | .none, _, _, _, _, _, _, r, q => by cases r; cases q; rfl
  | .bool _, _, _, _, _, _, _, r, q => by cases r; cases q; rfl
  | .int _, _, _, _, _, _, _, r, q => by cases r; cases q; rfl
  | .str _, _, _, _, _, _, _, r, q => by cases r; cases q; rfl
  | .list xs, e, _, _, _, p1, p2, r, q => by
    cases r with
    | list a1 a2 a3 a4 =>
      cases q with
      | list b1 b2 b3 b4 =>
        rw [a1] at b1; cases b1
        rw [a3] at b3; cases b3
        rw [reads_all xs _ _ _ _ (by simpa [PyData.plain] using p1) (by simpa [PyData.plain] using p2) a4 b4]
      | tuple b1 b2 b3 b4 =>
        rw [a1] at b1; cases b1
        rw [a2] at b2
        exact absurd b2 (by decide)
      | dict b1 b2 b3 b4 b5 => exact absurd p2 (by simp [PyData.plain])
  | .tuple xs, e, _, _, _, p1, p2, r, q => by
    cases r with
    | tuple a1 a2 a3 a4 =>
      cases q with
      | tuple b1 b2 b3 b4 =>
        rw [a1] at b1; cases b1
        rw [a3] at b3; cases b3
        rw [reads_all xs _ _ _ _ (by simpa [PyData.plain] using p1) (by simpa [PyData.plain] using p2) a4 b4]
      | list b1 b2 b3 b4 =>
        rw [a1] at b1; cases b1
        rw [a2] at b2
        exact absurd b2 (by decide)
      | dict b1 b2 b3 b4 b5 => exact absurd p2 (by simp [PyData.plain])
  | .dict _, _, _, _, _, p1, _, _, _ => absurd p1 (by simp [PyData.plain])
theorem reads_all {h : Heap} : ∀ (ds es : List PyData) (vs : List Value) (as bs : List Addr), PyData.plainAll ds = true → PyData.plainAll es = true → ReadsAll h vs ds as → ReadsAll h vs es bs → ds = es
  | [], _, _, _, _, _, _, r, q => by cases r; cases q; rfl
  | d :: ds, [], _, _, _, _, _, r, q => by cases q; cases r
  | d :: ds, e :: es, _, _, _, p1, p2, r, q => by
    rw [PyData.plainAll, Bool.and_eq_true] at p1 p2
    cases r with
    | cons a1 a2 =>
      cases q with
      | cons b1 b2 => rw [reads_one d e _ _ _ p1.1 p2.1 a1 b1, reads_all ds es _ _ _ p1.2 p2.2 a2 b2]
end
/-- the kind of keys made by plain data -/
noncomputable def plKind (h : Heap) (ds : List PyData) : PyProof.Rows.KeyKind where
  toKeyOrd := listOrd itemOrd
  keyOf v := open Classical in if q : ∃ d, (d ∈ ds ∧ d.plain = true) ∧ ∃ as, Reads h v d as then some (keyToks q.choose) else none
  dflt := ([] : List (Int ⊕ List Nat))
theorem plKind_yes {h : Heap} {ds : List PyData} {v : Value} {d : PyData} {as : List Addr} (hd : d ∈ ds) (hp : d.plain = true) (r : Reads h v d as) : (plKind h ds).keyOf v = some (keyToks d) := by
  have q : ∃ d, (d ∈ ds ∧ d.plain = true) ∧ ∃ as, Reads h v d as := ⟨d, ⟨hd, hp⟩, as, r⟩
  have e : (plKind h ds).keyOf v = some (keyToks q.choose) := by
    unfold plKind
    simp only [dif_pos q]
  obtain ⟨z1, bs, z2⟩ := q.choose_spec
  rw [e, reads_one _ _ _ _ _ z1.2 hp z2 r]
theorem plKind_inv {h : Heap} {ds : List PyData} {v : Value} {k : List (Int ⊕ List Nat)} (e : (plKind h ds).keyOf v = some k) : ∃ d as, d ∈ ds ∧ d.plain = true ∧ Reads h v d as ∧ k = keyToks d := by
  by_cases q : ∃ d, (d ∈ ds ∧ d.plain = true) ∧ ∃ as, Reads h v d as
  · have e2 : (plKind h ds).keyOf v = some (keyToks q.choose) := by
      unfold plKind
      simp only [dif_pos q]
    obtain ⟨z1, bs, z2⟩ := q.choose_spec
    rw [e2] at e
    exact ⟨_, bs, z1.1, z1.2, z2, (Option.some.inj e).symm⟩
  · have e2 : (plKind h ds).keyOf v = none := by
      unfold plKind
      simp only [dif_neg q]
    rw [e2] at e
    cases e
section
variable {prog : Program} {w : World} {A : Around} {E : Value → Shared → Prop} {s : Shared}
/-- two rows of items, compared as sorting does it -/
theorem katLex_cmp {b fin : Bool} {Q : Bool → Shared → Prop} : ∀ (xs ys : List PyData) (i : Nat) (vs ws : List Value) (as bs : List Addr), ReadsAll s.heap vs xs as → ReadsAll s.heap ws ys bs → cmpP xs ys = true →
    A.units + min (PyData.depthAll xs) (PyData.depthAll ys) < cLine → (b = true → i = 0 → ∀ x r t, xs = x :: r → x ≠ .tuple t) → fin = decide (xs.length < ys.length) → Q (PyProof.Rows.lexLt itemOrd (keyToksAll xs) (keyToksAll ys)) s →
    KatLex prog w A b fin Q (vs.zip ws) i s
  | [], ys, i, vs, ws, as, bs, ra, rb, _, hu, hb, hf, hq => katLex_alike [] ys i vs ws as bs ra rb (by cases ys <;> simp [alikeAll]) hu hb hf hq
  | x :: xs, [], i, vs, ws, as, bs, ra, rb, _, hu, hb, hf, hq => katLex_alike (x :: xs) [] i vs ws as bs ra rb (by simp [alikeAll]) hu hb hf hq
  | x :: xs, y :: ys, i, _, _, _, _, ra, rb, h, hu, hb, hf, hq => by
    obtain ⟨c1, c2⟩ := cmpP_cons h
    have hf2 : fin = decide (xs.length < ys.length) := by
      rw [hf]
      simp
    cases ra with
    | cons r rs =>
      cases rb with
      | cons q qs =>
        rw [List.zip_cons_cons]
        refine kat_cons (eqAt_alike x y A s _ _ _ _ r q c1 (room_head hu) prog w _ _ ?_)
        cases hx : PyData.eqv x y with
        | true =>
          rw [dataLt_all_yes c1 hx] at hq
          exact kat_yes (katLex_cmp xs ys (i + 1) _ _ _ _ rs qs (c2 hx) (room_tail hu) (fun _ z => by cases z) hf2 hq)
        | false =>
          rw [dataLt_all_no c1 hx] at hq
          refine kat_no (oneLt_alike (fun hbi t => ?_) r q c1 (ne_none_of c1 hx) (room_head hu) hq)
          rw [Bool.and_eq_true] at hbi
          exact hb hbi.1 (by simpa using hbi.2) x xs t rfl
theorem call_tup_lt {Q : Value → Shared → Prop} {l b : Addr} {items items2 : Array Value} {e r : Nat → Bool} (hl : s.heap.IsTuple l items) (hb : s.heap.IsTuple b items2)
    (he : ∀ j (h1 : j < items.size) (h2 : j < items2.size), EqAt A.in1 s items[j] items2[j] (e j)) (hr : ∀ j (h1 : j < items.size) (h2 : j < items2.size), e j = false → RcLt A.in1 s items[j] items2[j] (r j))
    (h : Q (.bool (firstLt e r (decide (items.size < items2.size)) (List.range (min items.size items2.size)))) s) : wpAny (model prog w) A (call (.builtin "tuple.__lt__") [.ref l, .ref b]) Q E s := by
  obtain ⟨⟨c1, d1, k1, s1⟩, ho, hc, n, hd⟩ := id hl
  obtain ⟨⟨c2, d2, k2, s2⟩, ho2, hc2, n2, hd2⟩ := id hb
  simp only at hc hd hc2 hd2
  subst hc hd hc2 hd2
  exact call_meets F.slot_tuple_lt ⟨_, ho, rfl⟩ F.entry_tuple_lt (F.args_tuple_lt_2 _ _) (tuple_ltAt l b items items2 n n2 d1 d2 s1 s2 e r) ⟨ho, ho2, he, hr, h⟩
/-- one tuple against another by tuple's own < -/
theorem oneLt_tup {xs ys : List PyData} {a b : Value} {as bs : List Addr} {Q : Bool → Shared → Prop} (ra : Reads s.heap a (.tuple xs) as) (rb : Reads s.heap b (.tuple ys) bs) (h : alikeAll xs ys = true)
    (hu : A.units + min (PyData.tuple xs).depth (PyData.tuple ys).depth < cLine) (hq : Q (dataLt (.tuple xs) (.tuple ys)) s) : wpAny (model prog w) A (oneLt' true a b) Q E s := by
  cases ra with
  | @tuple l o vs n _ as1 a1 a2 a3 a4 =>
    cases rb with
    | @tuple l2 o2 vs2 n2 _ bs1 b1 b2 b3 b4 =>
      have e1 : vs.size = xs.length := by simpa using ReadsAll.length _ _ _ a4
      have e2 : vs2.size = ys.length := by simpa using ReadsAll.length _ _ _ b4
      rw [dataLt_tuple, ← firstLt_toks xs ys h, ← e1, ← e2] at hq
      rw [oneLt'_eq]
      simp only [if_true]
      refine wpAny_bind (wpAny_cRoomFor (room_here hu) ?_)
      refine wpAny_bind (wpAny_callSpecialIfBound?_slot (T := "tuple") ⟨_, a1, a2⟩ F.slot_tuple_lt (call_tup_lt (e := pairEq xs ys) (r := fun j => dataLt (xs.getD j .none) (ys.getD j .none)) ⟨_, a1, a2, _, a3⟩ ⟨_, b1, b2, _, b3⟩ (fun j j1 j2 => ?_) (fun j j1 j2 hj => ?_) ?_))
      · have z := eqAt_alikeAll xs ys A.in1 s vs.toList vs2.toList _ _ a4 b4 h (room_in hu) j (by simpa using j1) (by simpa using j2)
        simpa using z
      · have z := rcLt_alikeAll xs ys A.in1 s vs.toList vs2.toList _ _ a4 b4 h (room_in hu) j (by simpa using j1) (by simpa using j2) hj
        simpa using z
      · exact wpAny_truthy_bool hq
/-- a tuple with an item -/
def neT : PyData → Bool
  | .tuple (_ :: _) => true
  | _ => false
theorem firsts_of : ∀ {vs : List Value} {ds : List PyData}, EachIs (fun v d => ∃ as, Reads s.heap v d as) vs ds → (∀ d ∈ ds, ∃ xs, d = .tuple xs) →
    ∃ rs : List (Option Value), rs.map (·.isSome) = ds.map neT ∧ ∀ (Q : List (Option Value) → Shared → Prop), Q rs s → wpAny (model prog w) A (vs.mapM firstOfTuple') Q E s
  | _, _, .nil, _ => ⟨[], rfl, fun Q h => by rw [List.mapM_nil]; exact wpAny_pure h⟩
  | _, _, .cons (a := v) (b := d) ⟨as, r⟩ t, ht => by
    obtain ⟨rs, e1, e2⟩ := firsts_of t fun d hd => ht d (List.mem_cons_of_mem _ hd)
    obtain ⟨xs, rfl⟩ := ht d (List.mem_cons_self ..)
    cases r with
    | @tuple l o vs n _ as1 a1 a2 a3 a4 =>
      refine ⟨vs[0]? :: rs, ?_, fun Q h => ?_⟩
      · rw [List.map_cons, List.map_cons, e1]
        congr 1
        have hl : vs.size = xs.length := by simpa using ReadsAll.length _ _ _ a4
        cases xs with
        | nil => rw [Array.getElem?_eq_none (by rw [hl]; exact Nat.le_refl _)]; rfl
        | cons x xs => rw [Array.getElem?_eq_getElem (by rw [hl]; exact Nat.succ_pos _)]; rfl
      · rw [List.mapM_cons]
        refine wpAny_bind ?_
        rw [kas_first_eq]
        have hT : Shared.TypeIs s (.ref l) "tuple" := ⟨_, a1, a2⟩
        refine wpAny_bind ((looks_reads (.tuple a1 a2 a3 a4)).here ?_)
        rw [if_neg (by simp [dataType])]
        refine wpAny_bind (listItems_at a1 a3 (wpAny_pure ?_))
        refine wpAny_bind (e2 (fun rs s1 => wpAny (model prog w) A (pure (vs[0]? :: rs)) Q E s1) (wpAny_pure h))
theorem one_type {vs : List Value} {T : Value} {Q : Option Value → Shared → Prop} (h1 : vs ≠ []) (hT : ∀ v ∈ vs, Looks (model prog w) s.heap (typeOf v) T) (hT2 : (T == T) = true) (h : Q (some T) s) : wpAny (model prog w) A (oneTypeOnly' vs.toArray) Q E s := by
  cases vs with
  | nil => exact absurd rfl h1
  | cons v vs =>
    rw [oneTypeOnly'_eq, List.mapM_toArray, map_eq_pure_bind]
    refine wpAny_bind (wpAny_bind (kas_mapM (r := T) _ (fun v hv Q' hq => (hT v hv).here hq) (wpAny_pure ?_)))
    have hall : ((List.map (fun _ => T) (v :: vs)).toArray.all fun x => x == T) = true := by
      simp only [List.all_toArray, List.all_map, List.all_eq_true]
      exact fun _ _ => hT2
    have h0 : (List.map (fun _ => T) (v :: vs)).toArray[0]? = some T := by simp
    rw [h0]
    simp only [hall, if_true]
    exact wpAny_pure h
def emptyKd (ds : List PyData) : SortKind := if (ds.head?.any neT) = true then general' else oneType'
/-- what the choice of a comparison finds in tuples of which one at least is empty -/
theorem kind_some_empty {vs : List Value} {ds : List PyData} {Q : SortKind → Shared → Prop} (e : EachIs (fun v d => ∃ as, Reads s.heap v d as) vs ds) (ht : ∀ d ∈ ds, ∃ xs, d = .tuple xs) (hn : ds.all neT = false) (h : Q (emptyKd ds) s) :
    wpAny (model prog w) A (keyKind' vs.toArray) Q E s := by
  obtain ⟨rs, e1, e2⟩ := firsts_of (prog := prog) (w := w) (A := A) (E := E) e ht
  rw [keyKind'_eq, List.mapM_toArray, map_eq_pure_bind]
  refine wpAny_bind (wpAny_bind (e2 _ (wpAny_pure ?_)))
  have ha : rs.toArray.all (·.isSome) = false := by
    have z : (rs.map (·.isSome)).all id = false := by rw [e1, List.all_map]; exact hn
    rw [List.all_map] at z
    simpa using z
  rw [ha, if_neg (by simp)]
  have hh : (rs.toArray[0]?.bind id).isSome = ds.head?.any neT := by
    cases rs with
    | nil =>
      cases ds with
      | nil => rfl
      | cons d ds => simp at e1
    | cons r rs =>
      cases ds with
      | nil => simp at e1
      | cons d ds =>
        rw [List.map_cons, List.map_cons] at e1
        have z := (List.cons.inj e1).1
        simpa using z
  rw [hh]
  unfold emptyKd at h
  cases q : ds.head?.any neT with
  | true =>
    rw [q] at h
    simp only [if_true] at h ⊢
    exact wpAny_pure h
  | false =>
    rw [q] at h
    simp only [Bool.false_eq_true, if_false] at h ⊢
    refine wpAny_bind (one_type (T := .type "tuple") (fun z => ?_) (fun v hv => ?_) (by decide) (wpAny_pure ?_))
    · subst z
      cases e
      simp at hn
    · obtain ⟨d, hd, as, r⟩ := e.left v hv
      obtain ⟨xs, rfl⟩ := ht d hd
      exact looks_reads r
    · simpa using h
/-- tuples can be sorted: all of them with an item, compared up to the first place that differs; or alike -/
theorem sorts_tup {vs : List Value} {ds : List PyData} (e : EachIs (fun v d => ∃ as, Reads s.heap v d as) vs ds) (hp : ∀ d ∈ ds, d.plain = true) (ht : ∀ d ∈ ds, ∃ xs, d = .tuple xs)
    (hc : (ds.all neT = true ∧ ∀ xs ys, .tuple xs ∈ ds → .tuple ys ∈ ds → cmpP xs ys = true) ∨ (ds.all neT = false ∧ ∀ xs ys, .tuple xs ∈ ds → .tuple ys ∈ ds → alikeAll xs ys = true))
    (hu : ∀ d, d ∈ ds → A.units + d.depth < cLine) : SortsAt prog w A s (plKind s.heap ds) vs := by
  have room : ∀ {d d' : PyData}, d ∈ ds → A.units + min d.depth d'.depth < cLine := fun {d d'} hd => Nat.lt_of_le_of_lt (Nat.add_le_add_left (Nat.min_le_left _ _) _) (hu d hd)
  refine ⟨fun v hv => ?_, ?_⟩
  · obtain ⟨d, hd, as, r⟩ := e.left v hv
    exact ⟨_, plKind_yes hd (hp d hd) r⟩
  rcases hc with ⟨ha, hc⟩ | ⟨ha, hc⟩
  · cases ds with
    | nil =>
      cases e
      exact ⟨general', fun E x y a b Q ha _ _ => (by
        obtain ⟨d, _, hd, _⟩ := plKind_inv ha
        cases hd), fun h2 => absurd h2 (by simp)⟩
    | cons d0 ds0 =>
      have hne : ∀ d ∈ d0 :: ds0, ∃ x r, d = .tuple (x :: r) := fun d hd => by
        obtain ⟨xs, rfl⟩ := ht d hd
        have z := List.all_eq_true.mp ha _ hd
        cases xs with
        | nil => simp [neT] at z
        | cons x r => exact ⟨x, r, rfl⟩
      obtain ⟨x0, r0, e0⟩ := hne d0 (List.mem_cons_self ..)
      have hfirst : ∀ x r, PyData.tuple (x :: r) ∈ d0 :: ds0 → alike x x0 = true := fun x r hm => (cmpP_cons (hc _ (x0 :: r0) hm (by rw [← e0]; exact List.mem_cons_self ..))).1
      refine ⟨tuples' (dataType x0 != Value.type "tuple"), ?_, fun h2 E Q hq => ?_⟩
      · intro E x y a b Q ka kb hq
        obtain ⟨d, as, hd, _, ra, rfl⟩ := plKind_inv ka
        obtain ⟨d', as', hd', _, rb, rfl⟩ := plKind_inv kb
        have hroom := room (d' := d') hd
        obtain ⟨x1, r1, rfl⟩ := hne d hd
        obtain ⟨x2, r2, rfl⟩ := hne d' hd'
        have hq2 : Q (dataLt (.tuple (x1 :: r1)) (.tuple (x2 :: r2))) s := hq
        rw [dataLt_tuple] at hq2
        cases ra with
        | @tuple l o xs n _ _ a1 a2 a3 a4 =>
          cases rb with
          | @tuple l' o' xs' n' _ _ b1 b2 b3 b4 =>
            have n1 : xs.size = (x1 :: r1).length := by simpa using ReadsAll.length _ _ _ a4
            have n2 : xs'.size = (x2 :: r2).length := by simpa using ReadsAll.length _ _ _ b4
            refine kat_lt a1 a3 b1 b3 (katLex_cmp (x1 :: r1) (x2 :: r2) 0 _ _ _ _ a4 b4 (hc _ _ hd hd') (by have q := room_in hroom; omega) (fun hb _ x r t ex => ?_) (by rw [n1, n2]) hq2)
            obtain ⟨rfl, rfl⟩ := List.cons.inj ex
            rw [← dataType_alike (hfirst _ _ hd)] at hb
            exact dataType_tuple hb t
      · obtain ⟨fs, t1, t2, t3⟩ := each_katTups e hne
        refine kat_kind (T := dataType x0) t1 (by omega) (fun f hf => ?_) (beq_self_eq_true _) hq
        obtain ⟨x, r, as, m1, m2⟩ := t3 f hf
        rw [← dataType_alike (hfirst x r m1)]
        exact looks_reads m2
  · refine ⟨emptyKd ds, ?_, fun h2 E Q hq => kind_some_empty e ht ha hq⟩
    intro E x y a b Q ka kb hq
    obtain ⟨d, as, hd, _, ra, rfl⟩ := plKind_inv ka
    obtain ⟨d', as', hd', _, rb, rfl⟩ := plKind_inv kb
    have hroom := room (d' := d') hd
    obtain ⟨xs, rfl⟩ := ht d hd
    obtain ⟨ys, rfl⟩ := ht d' hd'
    have hal := hc _ _ hd hd'
    have hq2 : Q (dataLt (.tuple xs) (.tuple ys)) s := hq
    unfold emptyKd
    split
    · show wpAny _ _ (oneLt' false x y) _ _ _
      exact oneLt_alike (f := false) (fun z => by cases z) ra rb (by simpa [alike] using hal) (fun z => by cases z) hroom hq2
    · rw [keyLt'_oneType]
      exact oneLt_tup ra rb hal hroom hq2
end
end EV
/-! EvSp: sorted. -/
namespace EV
open PySem PySem.Spec PyProof.Rows L2 PySem.W PySem.SeqAt

/-! ### insertion sort and the library's -/
section
variable {α β : Type} {le : α → α → Bool}
theorem mem_insL {x z : α} : ∀ {l : List α}, z ∈ insL le x l ↔ z = x ∨ z ∈ l
  | [] => by simp [insL]
  | y :: r => by
    rw [insL]
    split
    · simp
    · rw [List.mem_cons, mem_insL (l := r), List.mem_cons]
      constructor
      · rintro (h | h | h)
        · exact .inr (.inl h)
        · exact .inl h
        · exact .inr (.inr h)
      · rintro (h | h | h)
        · exact .inr (.inl h)
        · exact .inl h
        · exact .inr (.inr h)
theorem mem_isort {z : α} : ∀ {l : List α}, z ∈ isort le l ↔ z ∈ l
  | [] => Iff.rfl
  | x :: r => by rw [isort, mem_insL, mem_isort (l := r), List.mem_cons]
theorem perm_insL {x : α} : ∀ {l : List α}, (insL le x l).Perm (x :: l)
  | [] => .refl _
  | y :: r => by
    rw [insL]
    split
    · exact .refl _
    · exact (List.Perm.cons y perm_insL).trans (List.Perm.swap x y r)
theorem perm_isort : ∀ {l : List α}, (isort le l).Perm l
  | [] => .refl _
  | x :: r => perm_insL.trans (List.Perm.cons x perm_isort)
theorem insL_sorted (h : TotalLe le) {x : α} : ∀ {l : List α}, l.Pairwise (fun a b => le a b = true) → (insL le x l).Pairwise (fun a b => le a b = true)
  | [], _ => by simp [insL]
  | y :: r, hp => by
    rw [List.pairwise_cons] at hp
    rw [insL]
    split
    · rename_i hx
      refine List.pairwise_cons.mpr ⟨fun z hz => ?_, List.pairwise_cons.mpr hp⟩
      rcases List.mem_cons.mp hz with rfl | hz
      · exact hx
      · exact h.trans _ _ _ hx (hp.1 z hz)
    · rename_i hx
      refine List.pairwise_cons.mpr ⟨fun z hz => ?_, insL_sorted h hp.2⟩
      rcases mem_insL.mp hz with rfl | hz
      · exact (h.total z y).resolve_left hx
      · exact hp.1 z hz
theorem isort_sorted (h : TotalLe le) : ∀ (l : List α), (isort le l).Pairwise (fun a b => le a b = true)
  | [] => List.Pairwise.nil
  | x :: r => insL_sorted h (isort_sorted h r)
theorem insL_filter (h : TotalLe le) {c x : α} : ∀ {l : List α}, (insL le x l).filter (sameRank le c) = (x :: l).filter (sameRank le c)
  | [] => rfl
  | y :: r => by
    rw [insL]
    split
    · rfl
    · rename_i hx
      have ih := insL_filter h (c := c) (x := x) (l := r)
      rw [List.filter_cons, ih, List.filter_cons, List.filter_cons, List.filter_cons]
      by_cases h1 : sameRank le c y = true
      · by_cases h2 : sameRank le c x = true
        · exfalso
          apply hx
          unfold sameRank at h1 h2
          rw [Bool.and_eq_true] at h1 h2
          exact h.trans _ _ _ h2.2 h1.1
        · simp [h1, h2]
      · simp [h1]
theorem isort_filter (h : TotalLe le) {c : α} : ∀ (l : List α), (isort le l).filter (sameRank le c) = l.filter (sameRank le c)
  | [] => rfl
  | x :: r => by rw [isort, insL_filter h, List.filter_cons, isort_filter h r, ← List.filter_cons]
theorem isort_merge (h : TotalLe le) (l : List α) : isort le l = l.mergeSort le := sort_unique h (isort_sorted h l) fun _ => isort_filter h l
theorem insL_congr {r s : α → α → Bool} {x : α} : ∀ {l : List α}, (∀ a ∈ l, r x a = s x a) → insL r x l = insL s x l
  | [], _ => rfl
  | y :: l, h => by
    rw [insL, insL, h y (List.mem_cons_self ..), insL_congr fun a ha => h a (List.mem_cons_of_mem _ ha)]
theorem isort_congr {r s : α → α → Bool} : ∀ {l : List α}, (∀ a ∈ l, ∀ b ∈ l, r a b = s a b) → isort r l = isort s l
  | [], _ => rfl
  | x :: l, h => by
    rw [isort, isort, isort_congr fun a ha b hb => h a (List.mem_cons_of_mem _ ha) b (List.mem_cons_of_mem _ hb)]
    exact insL_congr fun a ha => h x (List.mem_cons_self ..) a (List.mem_cons_of_mem _ (mem_isort.mp ha))
theorem insL_map {r : α → α → Bool} {s : β → β → Bool} {f : α → β} (h : ∀ a b, r a b = s (f a) (f b)) {x : α} : ∀ (l : List α), (insL r x l).map f = insL s (f x) (l.map f)
  | [] => rfl
  | y :: l => by
    rw [insL, List.map_cons, insL, h]
    split
    · rfl
    · rw [List.map_cons, insL_map h l]
theorem isort_map {r : α → α → Bool} {s : β → β → Bool} {f : α → β} (h : ∀ a b, r a b = s (f a) (f b)) : ∀ (l : List α), (isort r l).map f = isort s (l.map f)
  | [] => rfl
  | x :: l => by rw [isort, insL_map h, isort_map h l]; rfl
end
theorem sortI_perm (ns : List Int) : (sortI ns).Perm ns := perm_isort
theorem leI : TotalLe fun a b : Int => decide (a ≤ b) := ⟨fun a b c h1 h2 => by simp only [decide_eq_true_eq] at *; omega, fun a b => by simp only [decide_eq_true_eq]; omega⟩
theorem sortI_sorted (ns : List Int) : (sortI ns).Pairwise (· ≤ ·) := (isort_sorted leI ns).imp fun h => by simpa using h
/-! ### the order of data, by the library's -/
mutual
theorem alike_py : ∀ {n : Nat} (x y : D), x.flat n = true → y.flat n = true → PySem.W.alike x.py y.py = D.alike x y
  | _, .non, y, _, h => by cases y <;> simp [D.flat, D.py, D.alike, PySem.W.alike] at h ⊢
  | _, .bl _, y, _, h => by cases y <;> simp [D.flat, D.py, D.alike, PySem.W.alike] at h ⊢
  | _, .int _, y, _, h => by cases y <;> simp [D.flat, D.py, D.alike, PySem.W.alike] at h ⊢
  | _, .str _, y, _, h => by cases y <;> simp [D.flat, D.py, D.alike, PySem.W.alike] at h ⊢
  | 0, .tup xs, _, g, _ => by simp [D.flat] at g
  | 0, .lst xs, _, g, _ => by simp [D.flat] at g
  | n + 1, .tup xs, y, g, h => by
    cases y with
    | tup ys =>
      rw [D.flat] at g h
      simp only [D.py, D.alike, PySem.W.alike]
      exact alikes_py xs ys g h
    | _ => simp [D.flat, D.py, D.alike, PySem.W.alike] at h ⊢
  | n + 1, .lst xs, y, g, h => by
    cases y with
    | lst ys =>
      rw [D.flat] at g h
      simp only [D.py, D.alike, PySem.W.alike]
      exact alikes_py xs ys g h
    | _ => simp [D.flat, D.py, D.alike, PySem.W.alike] at h ⊢
  | _, .scr _, _, h, _ => by simp [D.flat] at h
  | _, .ref _, _, h, _ => by simp [D.flat] at h
theorem alikes_py : ∀ {n : Nat} (xs ys : List D), D.flats n xs = true → D.flats n ys = true → PySem.W.alikeAll (D.pys xs) (D.pys ys) = D.alikes xs ys
  | _, [], ys, _, _ => by cases ys <;> simp [D.pys, D.alikes, PySem.W.alikeAll]
  | _, x :: xs, [], _, _ => by simp [D.pys, D.alikes, PySem.W.alikeAll]
  | n, x :: xs, y :: ys, g, h => by
    rw [D.flats, Bool.and_eq_true] at g h
    rw [D.pys, D.pys, PySem.W.alikeAll, D.alikes, alike_py x y g.1 h.1, alikes_py xs ys g.2 h.2]
end
theorem cmpT_py : ∀ {n : Nat} (xs ys : List D), D.flats n xs = true → D.flats n ys = true → cmpP (D.pys xs) (D.pys ys) = D.cmpT xs ys
  | _, [], ys, _, _ => by cases ys <;> simp [D.pys, D.cmpT, cmpP]
  | _, x :: xs, [], _, _ => by simp [D.pys, D.cmpT, cmpP]
  | n, x :: xs, y :: ys, g, h => by
    rw [D.flats, Bool.and_eq_true] at g h
    rw [D.pys, D.pys, cmpP, D.cmpT, alike_py x y g.1 h.1, cmpT_py xs ys g.2 h.2, D.eqv_py x y g.1 h.1]
mutual
theorem lt_py : ∀ {n : Nat} (x y : D), x.flat n = true → y.flat n = true → D.alike x y = true → PySem.W.dataLt x.py y.py = D.lt x y
  | _, .non, y, _, h, a => by
    cases y <;> simp [D.alike] at a
    simp [D.py, PySem.W.dataLt, PySem.W.keyToks, D.lt, lex_irrefl]
  | _, .bl b, y, _, h, a => by
    cases y <;> simp [D.alike] at a
    rename_i c
    rw [D.py, D.py, PySem.W.dataLt_bool, D.lt]
    cases b <;> cases c <;> rfl
  | _, .int _, y, _, h, a => by
    cases y <;> simp [D.alike] at a
    rw [D.py, D.py, PySem.W.dataLt_int, D.lt]
  | _, .str _, y, _, h, a => by
    cases y <;> simp [D.alike] at a
    rw [D.py, D.py, PySem.W.dataLt_str, D.lt]
  | 0, .tup xs, _, g, _, _ => by simp [D.flat] at g
  | 0, .lst xs, _, g, _, _ => by simp [D.flat] at g
  | n + 1, .tup xs, y, g, h, a => by
    cases y with
    | tup ys =>
      rw [D.flat] at g h
      rw [D.alike] at a
      rw [D.py, D.py, PySem.W.dataLt_tuple, D.lt]
      exact lts_py xs ys g h a
    | _ => simp [D.alike] at a
  | n + 1, .lst xs, y, g, h, a => by
    cases y with
    | lst ys =>
      rw [D.flat] at g h
      rw [D.alike] at a
      rw [D.py, D.py, PySem.W.dataLt_list, D.lt]
      exact lts_py xs ys g h a
    | _ => simp [D.alike] at a
  | _, .scr _, _, h, _, _ => by simp [D.flat] at h
  | _, .ref _, _, h, _, _ => by simp [D.flat] at h
theorem lts_py : ∀ {n : Nat} (xs ys : List D), D.flats n xs = true → D.flats n ys = true → D.alikes xs ys = true → PyProof.Rows.lexLt itemOrd (keyToksAll (D.pys xs)) (keyToksAll (D.pys ys)) = D.lts xs ys
  | _, [], [], _, _, _ => by simp [D.pys, D.lts, lex_irrefl]
  | _, [], y :: ys, _, _, _ => by
    rw [D.pys, D.pys, toks_all_cons, D.lts]
    simp only [keyToksAll]
    rw [lex_diff (O := itemOrd) (by simp)]
    simp [itemLt]
  | _, x :: xs, [], _, _, _ => by
    rw [D.pys, D.pys, toks_all_cons, D.lts]
    simp only [keyToksAll]
    rw [lex_diff (O := itemOrd) (by simp)]
    simp [itemLt]
    all_goals simp
  | n, x :: xs, y :: ys, g, h, a => by
    rw [D.flats, Bool.and_eq_true] at g h
    rw [D.alikes, Bool.and_eq_true] at a
    have al : PySem.W.alike x.py y.py = true := by rw [alike_py x y g.1 h.1]; exact a.1
    rw [D.pys, D.pys, D.lts]
    cases e : D.eqv x y with
    | true =>
      rw [dataLt_all_yes al (by rw [D.eqv_py x y g.1 h.1]; exact e), if_pos rfl]
      exact lts_py xs ys g.2 h.2 a.2
    | false =>
      rw [dataLt_all_no al (by rw [D.eqv_py x y g.1 h.1]; exact e), if_neg Bool.false_ne_true]
      exact lt_py x y g.1 h.1 a.1
end
theorem ltsT_py : ∀ {n : Nat} (xs ys : List D), D.flats n xs = true → D.flats n ys = true → D.cmpT xs ys = true → PyProof.Rows.lexLt itemOrd (keyToksAll (D.pys xs)) (keyToksAll (D.pys ys)) = D.lts xs ys
  | n, [], ys, g, h, _ => lts_py [] ys g h (by cases ys <;> simp [D.alikes])
  | n, x :: xs, [], g, h, _ => lts_py (x :: xs) [] g h (by simp [D.alikes])
  | n, x :: xs, y :: ys, g, h, a => by
    rw [D.flats, Bool.and_eq_true] at g h
    rw [D.cmpT, Bool.and_eq_true, Bool.or_eq_true] at a
    have al : PySem.W.alike x.py y.py = true := by rw [alike_py x y g.1 h.1]; exact a.1
    rw [D.pys, D.pys, D.lts]
    cases e : D.eqv x y with
    | true =>
      rw [dataLt_all_yes al (by rw [D.eqv_py x y g.1 h.1]; exact e), if_pos rfl]
      exact ltsT_py xs ys g.2 h.2 (by rw [e] at a; simpa using a.2)
    | false =>
      rw [dataLt_all_no al (by rw [D.eqv_py x y g.1 h.1]; exact e), if_neg Bool.false_ne_true]
      exact lt_py x y g.1 h.1 a.1
/-- the library's order of data -/
def leP (x y : D) : Bool := sortLe (listOrd itemOrd) false (fun d : D => keyToks d.py) x y
theorem leP_total : TotalLe leP := sortLe_total (listOrd itemOrd) false fun d : D => keyToks d.py
theorem leP_eq (x y : D) : leP x y = !PySem.W.dataLt y.py x.py := rfl
theorem pys_map : ∀ xs : List D, D.pys xs = xs.map D.py
  | [] => rfl
  | x :: xs => by rw [D.pys, pys_map xs]; rfl
theorem intsOf_map : ∀ {ds : List D} {ns : List Int}, intsOf ds = some ns → ds = ns.map D.int
  | [], ns, e => by simp [intsOf] at e; subst e; rfl
  | d :: ds, ns, e => by
    cases d <;> simp only [intsOf, reduceCtorEq] at e
    obtain ⟨ms, e1, e2⟩ := Option.map_eq_some_iff.mp e
    subst e2
    rw [intsOf_map e1]
    rfl
theorem isTup_its {d : D} (h : d.isTup = true) : d = .tup d.its := by cases d <;> simp [D.isTup] at h; rfl
theorem sortOk_parts {ds : List D} (h : sortOk ds = true) : D.flats 20 ds = true ∧ (∀ d ∈ ds, d = .tup d.its) ∧
    (((∀ d ∈ ds, d.neT = true) ∧ ∀ x ∈ ds, ∀ y ∈ ds, D.cmpT x.its y.its = true) ∨ ((ds.all fun x => x.neT) = false ∧ ∀ x ∈ ds, ∀ y ∈ ds, D.alikes x.its y.its = true)) := by
  rw [sortOk, Bool.and_eq_true, Bool.and_eq_true] at h
  obtain ⟨⟨h1, h2⟩, h3⟩ := h
  refine ⟨h1, fun d hd => isTup_its (List.all_eq_true.mp h2 d hd), ?_⟩
  split at h3
  · rename_i q
    exact .inl ⟨fun d hd => List.all_eq_true.mp q d hd, fun x hx y hy => List.all_eq_true.mp (List.all_eq_true.mp h3 x hx) y hy⟩
  · rename_i q
    exact .inr ⟨by simpa using q, fun x hx y hy => List.all_eq_true.mp (List.all_eq_true.mp h3 x hx) y hy⟩
theorem its_flats {d : D} (h : d.flat 20 = true) (e : d = .tup d.its) : D.flats 19 d.its = true := by
  rw [e, D.flat] at h
  exact h
theorem sortD_merge {ds zs : List D} (h : sortD ds = some zs) : zs = ds.mergeSort leP := by
  rw [← isort_merge leP_total]
  rw [sortD] at h
  split at h
  · rename_i ns e
    cases h
    rw [intsOf_map e]
    exact isort_map (fun a b => by
      rw [leP_eq, D.py, D.py, PySem.W.dataLt_int]
      by_cases z : a ≤ b
      · rw [decide_eq_true z, decide_eq_false (by omega)]; rfl
      · rw [decide_eq_false z, decide_eq_true (by omega)]; rfl) ns
  · split at h
    · rename_i hk
      cases h
      obtain ⟨hf, ht, hc⟩ := sortOk_parts hk
      refine isort_congr fun x hx y hy => ?_
      have ex := ht x hx
      have ey := ht y hy
      have fx := its_flats (D.flats_mem hf x hx) ex
      have fy := its_flats (D.flats_mem hf y hy) ey
      have key : D.lt y x = PySem.W.dataLt y.py x.py := by
        rw [ey, ex, D.py, D.py, PySem.W.dataLt_tuple, D.lt]
        rcases hc with ⟨_, hc⟩ | ⟨_, hc⟩
        · exact (ltsT_py _ _ fy fx (hc y hy x hx)).symm
        · exact (lts_py _ _ fy fx (hc y hy x hx)).symm
      rw [key]
      rfl
    · cases h
/-- the items collected, in whatever order: the sorted list of them -/
theorem sorted_byE {X : Cx} {cls : Cl} {pins : List (Addr × Obj)} {σ : L2.St} {s : Shared} {u : Value} {zs : List D} {Q : VK} (hu : X.A.units + 64 < cLine)
    (hcol : ∀ (R : List Value → Shared → Prop) (E : Value → Shared → Prop), (∀ s1 H1 W1 st1 xs vs (ds : List D), sortD ds = some zs → ds.length ≤ sizeLine → Inv X pins σ H1 s1 → Ag X.K X.w cls W1 st1 H1 → Vals xs vs → RepL X.K W1 xs ds →
      (∀ p ys, H1 p = none → RepL X.K W1 ys zs → zs.length ≤ sizeLine → Q (.ref p) (upd H1 p (.lst ys))) → R vs s1) → wpAny (model X.prog X.w) X.A.in1 (collect u) R E s) :
    wpAny (model X.prog X.w) X.A (call (.builtin "sorted") [u]) (EP X pins σ Q) X.xe s := by
  refine Calls.call_function_entry PyProof.Rows.kind_sorted PyProof.Rows.plain_sorted PyProof.Rows.entry_sorted (PyProof.Rows.args_sorted1 _) ?_
  unfold Builtin.«sorted»
  refine wpAny_bind (m := checkCount "sorted" 1 1 _) (wpAny_pure (wpAny_bind (hcol _ _ fun s1 H1 W1 st1 xs vs ds hs hz I1 A1 r l q => ?_)))
  have hlv : vs.length = ds.length := by rw [← r.length, l.length]
  have hlz : zs.length = ds.length := by rw [sortD_merge hs]; exact (List.mergeSort_perm _ _).length_eq
  refine wpAny_bind (wpAny_newList ?_ (by rw [hlv]; exact hz))
  have hoL : (s1.heap.push (seqObj "list" vs.toArray 0)).get? s1.heap.objs.size = some (seqObj "list" vs.toArray 0) := Heap.get?_push_size _ rfl
  show wpAny _ _ _ _ _ { s1 with heap := s1.heap.push (seqObj "list" vs.toArray 0) }
  -- the heap while the sort runs keeps what stood
  have old : ∀ b o, s1.heap.get? b = some o → (sortingHeap (s1.heap.push (seqObj "list" vs.toArray 0)) s1.heap.objs.size vs).get? b = some o := fun b o e =>
    sortingHeap_old (Nat.ne_of_lt (Heap.lt_size e)) (Heap.get?_push_of_some _ e)
  -- whatever kind of keys serves, the sorted values are the sorted data
  have main : ∀ (κ : PyProof.Rows.KeyKind) (k : V × D → κ.α), SortsAt X.prog X.w X.A.in1.in1 { s1 with heap := sortingHeap (s1.heap.push (seqObj "list" vs.toArray 0)) s1.heap.objs.size vs } κ vs →
      EachIs (fun v b => κ.keyOf v = some (k b)) vs (xs.zip ds) → (sortLe κ.toKeyOrd false k = fun a b => leP a.2 b.2) →
      wpAny (model X.prog X.w) X.A.in1 (holding [.ref s1.heap.objs.size] (call (.builtin "list.sort") [.ref s1.heap.objs.size] []) >>= fun _ => ret (.ref s1.heap.objs.size)) (fun f s' => ∃ v, f = .done (.ret v) ∧ EP X pins σ Q v s') (fun _ _ => False) { s1 with heap := s1.heap.push (seqObj "list" vs.toArray 0) } := by
    intro κ k S hk hle
    have hb : EachIs (fun (v : Value) (b : V × D) => RelV b.1 v ∧ Rep X.K W1 b.1 b.2) vs (xs.zip ds) := by
      have go : ∀ {xs : List V} {ds : List D} {vs : List Value}, Vals xs vs → RepL X.K W1 xs ds → EachIs (fun (v : Value) (b : V × D) => RelV b.1 v ∧ Rep X.K W1 b.1 b.2) vs (xs.zip ds) := by
        intro xs ds vs r
        induction r generalizing ds with
        | nil => intro l; cases l; exact .nil
        | cons r1 _ ih =>
          intro l
          cases l with
          | cons l1 l2 => exact .cons ⟨r1, l1⟩ (ih l2)
      exact go r l
    have srt := sortVals_each (rev := false) k hb hk
    rw [hle] at srt
    have e2 : ((xs.zip ds).mergeSort fun a b => leP a.2 b.2).map Prod.snd = zs := by
      rw [sortD_merge hs, sort_maps (s := leP) Prod.snd (fun _ _ _ _ => rfl), List.map_snd_zip (by rw [l.length]; exact Nat.le_refl _)]
    have vy : ∀ {us : List Value} {bs : List (V × D)}, EachIs (fun (v : Value) (b : V × D) => RelV b.1 v ∧ Rep X.K W1 b.1 b.2) us bs → Vals (bs.map Prod.fst) us ∧ RepL X.K W1 (bs.map Prod.fst) (bs.map Prod.snd) := by
      intro us bs h
      induction h with
      | nil => exact ⟨.nil, .nil⟩
      | cons h1 _ ih => exact ⟨.cons h1.1 ih.1, .cons h1.2 ih.2⟩
    obtain ⟨g1, g2⟩ := vy srt
    rw [e2] at g2
    refine wpAny_bind (wpAny_holding (wpAny_call_entry PyProof.Rows.slot_list_sort ⟨_, hoL, rfl⟩ PyProof.Rows.entry_list_sort
      (list_sort_vals (s := { s1 with heap := s1.heap.push (seqObj "list" vs.toArray 0) }) hoL S (by rw [hlv]; exact hz) ⟨_, rfl, ?_⟩) (PyProof.Rows.args_list_sort _)))
    obtain ⟨e', he'⟩ := PyProof.Rows.sortedHeap_at (vs := vs) (out := (sortVals κ false vs vs).toArray) hoL
    have hlen : (((xs.zip ds).mergeSort fun a b => leP a.2 b.2).map Prod.fst).length ≤ sizeLine := by rw [g2.length, hlz]; exact hz
    refine wpAny_pure ⟨_, rfl, .ref s1.heap.objs.size, _, I1.laid (t' := s1.toks) (fun b o e => ?_) (Nat.le_refl _)
      (show ObjOk X.prog X.w _ _ _ (.lst _) from ⟨hlen, sortVals κ false vs vs, e', g1, he'⟩), rfl, q _ _ (I1.hok.fresh (Nat.le_refl _)) g2 (by rw [hlz]; exact hz)⟩
    have hb : b < s1.heap.objs.size := Heap.lt_size e
    rw [PyProof.Rows.sortedHeap_old (Nat.ne_of_lt hb) (by rw [size_push']; exact Nat.lt_succ_of_lt hb)]
    exact Heap.get?_push_of_some _ e
  have goal : wpAny (model X.prog X.w) X.A.in1 (holding [.ref s1.heap.objs.size] (call (.builtin "list.sort") [.ref s1.heap.objs.size] []) >>= fun _ => ret (.ref s1.heap.objs.size)) (fun f s' => ∃ v, f = .done (.ret v) ∧ EP X pins σ Q v s') (fun _ _ => False) { s1 with heap := s1.heap.push (seqObj "list" vs.toArray 0) } := by
    have hf : D.flats 20 ds = true := by
      rw [sortD] at hs
      split at hs
      · rename_i ns e
        rw [intsOf_map e]
        clear e hs
        induction ns with
        | nil => simp [D.flats]
        | cons n ns ih => rw [List.map_cons, D.flats, ih]; simp [D.flat]
      · split at hs
        · rename_i hk; exact (sortOk_parts hk).1
        · cases hs
    obtain ⟨as, ra⟩ := l.reads I1 A1 hf r
    rw [pys_map] at ra
    have er := (readsAll_each D.py ra).mono fun v b ⟨as, z⟩ => (⟨as, PyProof.Rows.Reads.keeps old z⟩ : ∃ as, Reads (sortingHeap (s1.heap.push (seqObj "list" vs.toArray 0)) s1.heap.objs.size vs) v (D.py b) as)
    have er2 : EachIs (fun v d => ∃ as, Reads (sortingHeap (s1.heap.push (seqObj "list" vs.toArray 0)) s1.heap.objs.size vs) v d as) vs (ds.map D.py) := each_map D.py er
    have hdep : ∀ d ∈ ds.map D.py, X.A.in1.in1.units + d.depth < cLine := fun d hd => by
      obtain ⟨x, hx, rfl⟩ := List.mem_map.mp hd
      have z := (D.py_plain x (D.flats_mem hf x hx)).2
      simp only [Around.in1]
      omega
    have keys : ∀ (key : Value → Option (List (Int ⊕ List Nat))), (∀ v d as, d ∈ ds → Reads (sortingHeap (s1.heap.push (seqObj "list" vs.toArray 0)) s1.heap.objs.size vs) v d.py as → key v = some (keyToks d.py)) → EachIs (fun v (b : V × D) => key v = some (keyToks b.2.py)) vs (xs.zip ds) := by
      intro key hkey
      have hx := l.length
      clear er2 hdep ra hf main q hs hlv hlz hoL r I1 A1
      have go : ∀ {ws : List Value} {es : List D} {ys : List V}, EachIs (fun v b => ∃ as, Reads (sortingHeap (s1.heap.push (seqObj "list" vs.toArray 0)) s1.heap.objs.size vs) v (D.py b) as) ws es → ys.length = es.length → (∀ d ∈ es, d ∈ ds) → EachIs (fun v (b : V × D) => key v = some (keyToks b.2.py)) ws (ys.zip es) := by
        intro ws es ys h
        induction h generalizing ys with
        | nil => intro _ _; rw [List.zip_nil_right]; exact .nil
        | cons h1 _ ih =>
          intro hl hm
          cases ys with
          | nil => simp at hl
          | cons y ys =>
            obtain ⟨as, z⟩ := h1
            exact .cons (hkey _ _ _ (hm _ (List.mem_cons_self ..)) z) (ih (by simpa using hl) fun d hd => hm d (List.mem_cons_of_mem _ hd))
      exact go er hx fun _ h => h
    have hs' := hs
    rw [sortD] at hs'
    split at hs'
    · rename_i ns e
      have hal : AllAlike (ds.map D.py) := fun d hd d' hd' => by
        rw [intsOf_map e] at hd hd'
        simp only [List.map_map, List.mem_map, Function.comp] at hd hd'
        obtain ⟨i, _, rfl⟩ := hd
        obtain ⟨j, _, rfl⟩ := hd'
        simp [D.py, PySem.W.alike]
      have hk : Sortable (ds.map D.py) := .inr fun d hd => by
        rw [intsOf_map e] at hd
        simp only [List.map_map, List.mem_map, Function.comp] at hd
        obtain ⟨i, _, rfl⟩ := hd
        simp [D.py]
      exact main (dataKind _ (ds.map D.py)) (fun b => keyToks b.2.py) (SortsAt.data er2 hal hk hdep) (keys _ fun v d as hd z => dataKind_some hal (List.mem_map.mpr ⟨d, hd, rfl⟩) z) rfl
    · split at hs'
      · rename_i hk
        obtain ⟨_, ht, hc⟩ := sortOk_parts hk
        have pl : ∀ d ∈ ds.map D.py, d.plain = true := fun d hd => by
          obtain ⟨x, hx, rfl⟩ := List.mem_map.mp hd
          exact (D.py_plain x (D.flats_mem hf x hx)).1
        have tp : ∀ d ∈ ds.map D.py, ∃ xs, d = PyData.tuple xs := fun d hd => by
          obtain ⟨x, hx, rfl⟩ := List.mem_map.mp hd
          rw [ht x hx, D.py]
          exact ⟨_, rfl⟩
        have nt : ∀ x ∈ ds, neT x.py = x.neT := fun x hx => by
          rw [ht x hx, D.py]
          cases x.its <;> simp [neT, D.neT, D.pys]
        have from_ : ∀ xs, PyData.tuple xs ∈ ds.map D.py → ∃ x ∈ ds, xs = D.pys x.its ∧ D.flats 19 x.its = true := fun xs hx => by
          obtain ⟨x, hm, e⟩ := List.mem_map.mp hx
          have e2 := ht x hm
          refine ⟨x, hm, ?_, its_flats (D.flats_mem hf x hm) e2⟩
          rw [e2, D.py] at e
          exact (PyData.tuple.inj e).symm
        refine main (plKind _ (ds.map D.py)) (fun b => keyToks b.2.py) (sorts_tup er2 pl tp ?_ hdep) (keys _ fun v d as hd z => plKind_yes (List.mem_map.mpr ⟨d, hd, rfl⟩) (pl _ (List.mem_map.mpr ⟨d, hd, rfl⟩)) z) rfl
        rcases hc with ⟨c1, c2⟩ | ⟨c1, c2⟩
        · refine .inl ⟨?_, fun xs ys hx hy => ?_⟩
          · rw [List.all_map, List.all_eq_true]
            exact fun x hx => (nt x hx).trans (c1 x hx)
          · obtain ⟨x, mx, rfl, fx⟩ := from_ xs hx
            obtain ⟨y, my, rfl, fy⟩ := from_ ys hy
            rw [cmpT_py _ _ fx fy]
            exact c2 x mx y my
        · refine .inr ⟨?_, fun xs ys hx hy => ?_⟩
          · rw [List.all_map, ← c1]
            rw [Bool.eq_iff_iff, List.all_eq_true, List.all_eq_true]
            exact ⟨fun z x hx => by rw [← nt x hx]; exact z x hx, fun z x hx => by rw [Function.comp, nt x hx]; exact z x hx⟩
          · obtain ⟨x, mx, rfl, fx⟩ := from_ xs hx
            obtain ⟨y, my, rfl, fy⟩ := from_ ys hy
            rw [alikes_py _ _ fx fy]
            exact c2 x mx y my
      · cases hs'
  exact wpAny_mono goal (fun f s' ⟨v, e, z⟩ => by subst e; exact ⟨v, rfl, z⟩) fun _ _ z => z.elim
theorem sorted_by {X : Cx} {cls : Cl} {pins : List (Addr × Obj)} {σ : L2.St} {s : Shared} {u : Value} {ds zs : List D} {Q : VK} (hu : X.A.units + 64 < cLine) (hs : sortD ds = some zs) (hz : ds.length ≤ sizeLine)
    (hcol : ∀ (R : List Value → Shared → Prop) (E : Value → Shared → Prop), (∀ s1 H1 W1 st1 xs vs, Inv X pins σ H1 s1 → Ag X.K X.w cls W1 st1 H1 → Vals xs vs → RepL X.K W1 xs ds →
      (∀ p ys, H1 p = none → RepL X.K W1 ys zs → zs.length ≤ sizeLine → Q (.ref p) (upd H1 p (.lst ys))) → R vs s1) → wpAny (model X.prog X.w) X.A.in1 (collect u) R E s) :
    wpAny (model X.prog X.w) X.A (call (.builtin "sorted") [u]) (EP X pins σ Q) X.xe s :=
  sorted_byE (cls := cls) hu fun R E h => hcol R E fun s1 H1 W1 st1 xs vs I1 A1 r l q => h s1 H1 W1 st1 xs vs ds hs hz I1 A1 r l q
end EV
/-! EvSq: sorted(x) of lists, tuples, dicts, items. -/
namespace EV
open PySem PySem.Spec PyProof.Rows L2

section
variable {X : Cx} {cls : Cl} {U : XW} {pins : List (Addr × Obj)} {σ : L2.St} {H : Hp} {s : Shared} {W : Wd} {st : Store}
theorem Aft.lstQ {ds : List D} {Q : VK} (A : Ag X.K X.w cls W st H) (h : Aft X.K X.w cls U (Rep X.K) W H (.ok (.lst ds) st) Q) : ∀ p ys, H p = none → RepL X.K W ys ds → ds.length ≤ sizeLine → Q (.ref p) (upd H p (.lst ys)) :=
  fun p ys hp r hz => Aft.newLst A h r hz p hp
theorem sort_list (hu : X.A.units + 64 < cLine) {a : Addr} {xs : List V} {ys zs : List D} {Q : VK} (I : Inv X pins σ H s) (A : Ag X.K X.w cls W st H) (hq : SqL X.K H a xs) (l : RepL X.K W xs ys) (z : ys.length ≤ sizeLine) (hs : sortD ys = some zs)
    (q : Aft X.K X.w cls U (Rep X.K) W H (.ok (.lst zs) st) Q) : wpAny (model X.prog X.w) X.A (call (.builtin "sorted") [.ref a]) (EP X pins σ Q) X.xe s := by
  refine sorted_by (cls := cls) hu hs z fun R E h => ?_
  obtain ⟨its, r, pl, hz⟩ := I.list hq
  obtain ⟨o, h1, h2, n, h3⟩ := pl.isList
  refine wpAny_collect_seq a (.inl rfl) h1 h2 h3 (fun h' hk => ?_) (by rw [List.size_toArray, ← r.length]; exact hz)
  exact h _ H W st xs its (I.kept (t' := s.toks) hk) A r l (Aft.lstQ A q)
theorem sort_tup (hu : X.A.units + 64 < cLine) {a : Addr} {xs : List V} {ys zs : List D} {Q : VK} (I : Inv X pins σ H s) (A : Ag X.K X.w cls W st H) (hq : SqT X.K H a xs) (l : RepL X.K W xs ys) (z : ys.length ≤ sizeLine) (hs : sortD ys = some zs)
    (q : Aft X.K X.w cls U (Rep X.K) W H (.ok (.lst zs) st) Q) : wpAny (model X.prog X.w) X.A (call (.builtin "sorted") [.ref a]) (EP X pins σ Q) X.xe s := by
  refine sorted_by (cls := cls) hu hs z fun R E h => ?_
  obtain ⟨its, r, ⟨o, h1, h2, n, h3⟩, hz⟩ := I.tuple hq
  refine wpAny_collect_seq a (.inr rfl) h1 h2 h3 (fun h' hk => ?_) (by rw [List.size_toArray, ← r.length]; exact hz)
  exact h _ H W st xs its (I.kept (t' := s.toks) hk) A r l (Aft.lstQ A q)
theorem acc_keys {es : Array DictEntry} {acc : Array Value} (hacc : ItemsOf (fun i v => ∃ hi : i < es.size, v = es[i].key) acc es.size) : acc.toList = es.toList.map (·.key) := by
  refine List.ext_getElem? fun j => ?_
  rw [List.getElem?_map, Array.getElem?_toList, Array.getElem?_toList]
  by_cases hj : j < acc.size
  · obtain ⟨hi, z⟩ := hacc.2 j acc[j] (Array.getElem?_eq_getElem hj)
    rw [Array.getElem?_eq_getElem hj, Array.getElem?_eq_getElem hi, z]
    rfl
  · have hz := hacc.1
    rw [Array.getElem?_eq_none (by omega), Array.getElem?_eq_none (by omega)]
    rfl
theorem sort_dic (hc : X.calm = true) (hu : X.A.units + 64 < cLine) {y : V} {v : Value} {i : Nat} {kvs : List (D × D)} {zs : List D} {Q : VK} (I : Inv X pins σ H s) (A : Ag X.K X.w cls W st H) (ry : Rep X.K W y (.ref i)) (rv : RelV y v) (hd : DicAt st i kvs) (hs : sortD (kvs.map (·.1)) = some zs)
    (q : Aft X.K X.w cls U (Rep X.K) W H (.ok (.lst zs) st) Q) : wpAny (model X.prog X.w) X.A (call (.builtin "sorted") [v]) (EP X pins σ Q) X.xe s := by
  obtain ⟨a, o, rfl, ho, on, hns, hz, es, ep, ex, hdat, hr, hn⟩ := dic_at I A ry hd
  cases rv
  refine sorted_by (cls := cls) hu hs (by rw [List.length_map]; exact hz) fun R E h => ?_
  have hl : es.size = kvs.length := by rw [← hr.len, Array.length_toList]
  obtain ⟨vs, h1, h2⟩ := hr.keys
  refine PySem.W.kdu_collect (PySem.KdlSrc.rawDict (es := es) (ep := ep) hns) (I.ok.hd hc) ⟨o, ho, ex, hdat⟩ (by rw [hl]; exact hz) fun h' tk acc hk hacc => ?_
  exact h _ H W st vs _ (I.kept (t' := tk) hk) A (by rw [acc_keys hacc]; exact h1) h2 (Aft.lstQ A q)
theorem cd_sorted (hc : X.calm = true) (hu : X.A.units + 64 < cLine) : CallR X (.builtin "sorted") (rC X cls U (bltD .sorted)) := by
  intro pins s σ H vs us Q I rv h
  obtain ⟨W, st, ds, A, rl, q⟩ := h
  simp only [bltD] at q
  have of : ∀ {ys : List D}, Aft X.K X.w cls U (Rep X.K) W H ((R.of (sortD ys) st).bind fun zs st => .ok (.lst zs) st) Q → ∃ zs, sortD ys = some zs ∧ Aft X.K X.w cls U (Rep X.K) W H (.ok (.lst zs) st) Q := fun {ys} q => by
    cases e : sortD ys with
    | none => rw [e] at q; exact q.elim
    | some zs => rw [e] at q; exact ⟨zs, rfl, q⟩
  split at q
  · rename_i i
    obtain ⟨v, rfl, r⟩ := rl.one_inv
    obtain ⟨u, rfl, ru⟩ := vals1 rv
    obtain ⟨a, e, ha⟩ := r.ref_inv
    obtain ⟨o, ho, oa⟩ := A.at ha
    simp only [ho] at q
    cases o with
    | lst ys =>
      obtain ⟨xs, hx, l, z⟩ := oa
      obtain ⟨zs, hs, q⟩ := of q
      subst e
      cases ru
      exact sort_list hu I A (SqL.of hx) l z hs q
    | dic kvs =>
      obtain ⟨zs, hs, q⟩ := of q
      exact sort_dic hc hu I A r ru (.inl ho) hs q
    | lck kvs =>
      obtain ⟨zs, hs, q⟩ := of q
      exact sort_dic hc hu I A r ru (.inr ho) hs q
    | _ => exact q.elim
  · rename_i ys
    obtain ⟨v, rfl, r⟩ := rl.one_inv
    obtain ⟨u, rfl, ru⟩ := vals1 rv
    obtain ⟨a, xs, rfl, g, z, l⟩ := r.lst_inv
    obtain ⟨zs, hs, q⟩ := of q
    cases ru
    exact sort_list hu I A (SqL.of (A.sub _ _ g)) l z hs q
  · rename_i ys
    obtain ⟨v, rfl, r⟩ := rl.one_inv
    obtain ⟨u, rfl, ru⟩ := vals1 rv
    obtain ⟨a, us1, xs, rfl, g, z, l⟩ := r.tup_inv
    obtain ⟨zs, hs, q⟩ := of q
    cases ru
    exact sort_tup hu I A (SqT_ft (A.sub _ _ g)) l z hs q
  · exact q.elim
/-! ### items -/
/-- d.items() -/
theorem t_items : MtR X "dict.items" (fun x xs H Q => ∃ W st i kvs, Ag X.K X.w cls W st H ∧ Rep X.K W x (.ref i) ∧ xs = [] ∧ DicAt st i kvs ∧ ∀ p a, x = .ref a → H p = none → Q (.ref p) (upd H p (L2.DX.itemsO p a))) := by
  intro pins s σ H x xs v us Q I rx rxs h
  obtain ⟨W, st, i, kvs, A, r, rfl, hd, q⟩ := h
  obtain ⟨a, o, rfl, ho, on, hns, hz, es, ep, ex, hdat, hr, hn⟩ := dic_at I A r hd
  cases rx
  cases rxs
  refine DT.callItems (es := es) (ep := ep) hns ⟨o, ho, ex, hdat⟩ ?_
  exact ⟨.ref s.heap.objs.size, _, I.laid (o := L2.DX.itemsO s.heap.objs.size a) (t' := s.toks) (fun b u e => Heap.get?_push_of_some _ e) (Nat.le_refl _) (L2.DX.itemsO_ok (Heap.get?_push_size _ rfl)), rfl, q _ a rfl (I.hok.fresh (Nat.le_refl _))⟩
/-- the pairs that items() has made are tuples from now on -/
theorem take_items {s0 : Shared} {H0 : Hp} {h' : Heap} {tk : Nat} (I0 : Inv X pins σ H0 s0) : ∀ {es : List DictEntry} {kvs : List (D × D)} {W1 : Wd} {H1 : Hp} (as : List Addr), RepE X.K X.w W1 es kvs → Inv X pins σ H1 { s0 with heap := h', toks := tk } → Ag X.K X.w cls W1 st H1 →
    as.length = es.length → (∀ (j : Nat) (a : Addr), as[j]? = some a → ∃ e, es[j]? = some e ∧ h'.get? a = some { cls := .type "tuple", data := .seq #[e.key, e.val] }) → as.Pairwise (· < ·) → (∀ a ∈ as, s0.heap.objs.size ≤ a ∧ H1 a = none) →
    ∃ W2 H2, Inv X pins σ H2 { s0 with heap := h', toks := tk } ∧ Ag X.K X.w cls W2 st H2 ∧ Ext W1 H1 W2 H2 ∧ RepL X.K W2 (as.map V.ref) (itemsL kvs)
  | _, _, W1, H1, as, .nil, I1, A1, hl, _, _, _ => by
    have e : as = [] := List.eq_nil_of_length_eq_zero hl
    subst e
    exact ⟨W1, H1, I1, A1, Ext.refl _ _, .nil⟩
  | _, _, W1, H1, [], .cons _ _ _ _ _, I1, A1, hl, _, _, _ => by simp at hl
  | _, _, W1, H1, a :: as, .cons (e := e) (k := dk) (v := dv) hk ⟨k, rk, qk⟩ hh ⟨v, rv, qv⟩ t, I1, A1, hl, hp, hr, hf => by
    obtain ⟨e2, he, hg⟩ := hp 0 a rfl
    have e3 : e = e2 := by simpa using he
    subst e3
    obtain ⟨f1, f2⟩ := hf a (List.mem_cons_self ..)
    rw [List.pairwise_cons] at hr
    have I2 : Inv X pins σ (upd H1 a (FT [e.key, e.val] [k, v])) { s0 with heap := h', toks := tk } := I1.take (h' := h') (t' := tk) (fun b ob _ z => z) (I0.fpOk f1 f2)
      ⟨hg, by show 2 ≤ sizeLine; decide, [e.key, e.val], .cons rk (.cons rv .nil), ⟨_, hg, rfl, 0, rfl⟩⟩
    obtain ⟨A2, x2⟩ := A1.frozen (o := FT [e.key, e.val] [k, v]) f2
    obtain ⟨W2, H2, I3, A3, x3, l3⟩ := take_items I0 as (t.mono x2.le) I2 A2 (by simpa using hl) (fun j b hb => by
      obtain ⟨e4, h1, h2⟩ := hp (j + 1) b (by simpa using hb)
      exact ⟨e4, by simpa using h1, h2⟩) hr.2 fun b hb => by
        obtain ⟨h1, h2⟩ := hf b (List.mem_cons_of_mem _ hb)
        exact ⟨h1, by rw [upd_ne (fun z => Nat.lt_irrefl _ (z ▸ hr.1 b hb))]; exact h2⟩
    refine ⟨W2, H2, I3, A3, x2.trans x3, .cons ?_ l3⟩
    exact Rep.mono x3.le (.tup (us := [e.key, e.val]) (xs := [k, v]) upd_same (by show 2 ≤ sizeLine; decide) (.cons (qk.mono x2.le) (.cons (qv.mono x2.le) .nil)))
theorem sort_items (hc : X.calm = true) (hu : X.A.units + 64 < cLine) : CallR X (.builtin "sorted") (fun vs H Q => ∃ W st i kvs p a, vs = [.ref p] ∧ H p = some (L2.DX.itemsO p a) ∧ Ag X.K X.w cls W st H ∧ W.ρ[i]? = some a ∧ DicAt st i kvs ∧ Aft X.K X.w cls U (Rep X.K) W H (bltD .srtI [.ref i] st) Q) := by
  intro pins s σ H vs us Q I rv h
  obtain ⟨W, st, i, kvs, p, a, rfl, hp, A, ha, hd, q⟩ := h
  obtain ⟨u, rfl, ru⟩ := vals1 rv
  cases ru
  have view : s.heap.IsItemsView p a := (show ObjOk X.prog X.w H s.heap p (L2.DX.itemsO p a) from I.hok p _ hp).1
  obtain ⟨a2, o, e2, ho, on, hns, hz, es, ep, ex, hdat, hr, hn⟩ := dic_at (y := .ref a) I A (.ref ha) hd
  cases e2
  have q2 : Aft X.K X.w cls U (Rep X.K) W H ((R.of (sortD (itemsL kvs)) st).bind fun zs st => .ok (.lst zs) st) Q := by
    rcases hd with e | e
    · simpa only [bltD, e] using q
    · simpa only [bltD, e] using q
  cases e : sortD (itemsL kvs) with
  | none => rw [e] at q2; exact q2.elim
  | some zs =>
    rw [e] at q2
    have hl : es.size = kvs.length := by rw [← hr.len, Array.length_toList]
    refine sorted_by (cls := cls) hu e (by rw [itemsL, List.length_map]; exact hz) fun R E h => ?_
    refine DT.collectI (es := es) (ep := ep) (I.ok.hd hc) view ⟨o, ho, ex, hdat⟩ (by rw [hl]; exact hz) fun h' tk as hk hlt hla hG => ?_
    obtain ⟨W2, H2, I2, A2, x2, l2⟩ := take_items (cls := cls) (st := st) I as hr (I.kept (t' := tk) hk) A (by rw [hla, Array.length_toList]) (fun j b hb => by
      obtain ⟨en, h1, h2⟩ := hG.pairs j b hb
      exact ⟨en, by rw [Array.getElem?_toList]; exact h1, h2⟩) hG.rise fun b hb => ⟨Nat.le_of_lt (hG.above b hb), I.hok.fresh (Nat.le_of_lt (hG.above b hb))⟩
    refine h _ H2 W2 st _ _ I2 A2 ?_ l2 (Aft.lstQ A2 (Aft.shift x2 q2))
    clear hla hG l2 A2 I2 x2
    induction as with
    | nil => exact .nil
    | cons b as ih => exact .cons rfl ih
end
end EV
/-! EvW: for over a dict's keys and items; the dict is locked meanwhile. -/
namespace EV
open PySem PySem.Spec PyProof.Rows L2

def NoFz (X : Cx) (d : Addr) : Prop := ∀ o u, X.H_0 d ≠ some (.frz o u)
/-- the keys of the locked dict at d -/
def Itq (d : Addr) (od o : Obj) (xs : List V) : L2.It :=
  ⟨fun i H => H d = some (.frz od (exactly d o)) ∧ i < xs.length, fun i H x H' => H' = H ∧ xs[i]? = some x, fun i H => H d = some (.frz od (exactly d o)) ∧ xs.length ≤ i⟩
/-- its pairs -/
def Itp (d : Addr) (od o : Obj) (xs ys : List V) : L2.It :=
  ⟨fun i H => H d = some (.frz od (exactly d o)) ∧ i < xs.length, fun i H x H' => ∃ T k v, xs[i]? = some k ∧ ys[i]? = some v ∧ x = .ref T ∧ H T = none ∧ H' = upd H T (.tup [k, v]), fun i H => H d = some (.frz od (exactly d o)) ∧ xs.length ≤ i⟩
section
variable {P : Program} {w : World} {K : PySem.W.Frag} {tg : Expr} {d : Addr} {od o : Obj} {es : Array DictEntry} {ep : Nat} {xs ys : List V}
theorem turn_rawK (it : Addr) (hdt : o.data = .dict es ep) (r : Vals xs (es.toList.map (·.key))) : Turn P w K tg (Itq d od o xs) [it] it (fun i h => h.IsKeyIter it d i xs.length ep) where
  mem := by simp
  obj := fun i h st b hb => by
    have e : b = it := by simpa using hb
    subst e
    obtain ⟨oi, e, c, dd⟩ := st
    exact ⟨oi, e, fun v z => by rw [dd] at z; cases z⟩
  keep := fun i h h' st k => st.at fun oi e => k it (by simp) oi e
  item := by
    intro X hP hw hK hc i pins s σ H E I hf st hg
    subst hP hw hK
    obtain ⟨hd, hi⟩ := hg
    obtain ⟨f0, f1, f2, f3, f4, f5⟩ := hf it (by simp)
    have hgd : s.heap.get? d = some o := (I.hok d _ hd).2.1
    have hsz : es.size = xs.length := by have := r.length; rw [List.length_map, Array.length_toList] at this; exact this.symm
    have hen : es[i]? = some es[i] := Array.getElem?_eq_getElem (by rw [hsz]; exact hi)
    obtain ⟨u, hu, ru⟩ := r.get (List.getElem?_eq_getElem hi)
    rw [List.getElem?_map, Array.getElem?_toList, hen] at hu
    cases hu
    refine next_key_item st hgd hdt hsz hen fun h' st' sb => ?_
    have I1 : Inv X pins σ H { s with heap := h' } := I.turned (t' := s.toks) (fun b ob hb e => (sb.2 b hb).trans e) f0 f1 f3 f4 f5
    obtain ⟨oi, e, c, dd⟩ := id st'
    exact ⟨_, rfl, go_of (s := { s with heap := h' }) e c dd (by decide) ⟨xs[i], H, I1, ru, ⟨rfl, List.getElem?_eq_getElem hi⟩, st', fun b hb => (hf b hb).1⟩⟩
  done := by
    intro X hP hw hK hc i pins s σ H E I hf st hg
    subst hP hw hK
    obtain ⟨hd, hi⟩ := hg
    obtain ⟨f0, f1, f2, f3, f4, f5⟩ := hf it (by simp)
    have hgd : s.heap.get? d = some o := (I.hok d _ hd).2.1
    have hsz : es.size = xs.length := by have := r.length; rw [List.length_map, Array.length_toList] at this; exact this.symm
    exact next_key_end (I.ok.hd hc) st hgd hdt hsz hi fun h' eb => ⟨rfl, I.turned (t' := s.toks) (fun b ob hb e => eb b ob hb e) f0 f1 f3 f4 f5⟩
  self := fun A i s Q E st h => wpAny_pyIter_keyiter st h
theorem turn_rawI {elts : List Expr} {kk : Nat} {tpos : Pos} (it : Addr) (hx : o.ExactDict) (hdt : o.data = .dict es ep) (r : Vals xs (es.toList.map (·.key))) (r2 : Vals ys (es.toList.map (·.val))) :
    Turn P w K (.Tuple elts kk tpos) (Itp d od o xs ys) [it] it (fun i h => ∃ ok ov, IsItemIter h it d i xs.length ep ok ov) where
  mem := by simp
  obj := fun i h st b hb => by
    have e : b = it := by simpa using hb
    subst e
    obtain ⟨ok, ov, e⟩ := st
    exact ⟨_, e, fun v z => nomatch z⟩
  keep := fun i h h' st k => let ⟨ok, ov, e⟩ := st; ⟨ok, ov, k it (by simp) _ e⟩
  item := by
    intro X hP hw hK hc i pins s σ H E I hf st hg
    subst hP hw hK
    obtain ⟨hd, hi⟩ := hg
    have hgd : s.heap.get? d = some o := (I.hok d _ hd).2.1
    have hsz : es.size = xs.length := by have := r.length; rw [List.length_map, Array.length_toList] at this; exact this.symm
    have hsz2 : es.size = ys.length := by have := r2.length; rw [List.length_map, Array.length_toList] at this; exact this.symm
    have hie : i < es.size := by rw [hsz]; exact hi
    have hiy : i < ys.length := by rw [← hsz2]; exact hie
    have hen : es[i]? = some es[i] := Array.getElem?_eq_getElem hie
    obtain ⟨u, hu, ru⟩ := r.get (List.getElem?_eq_getElem hi)
    rw [List.getElem?_map, Array.getElem?_toList, hen] at hu
    cases hu
    obtain ⟨u2, hu2, ru2⟩ := r2.get (List.getElem?_eq_getElem hiy)
    rw [List.getElem?_map, Array.getElem?_toList, hen] at hu2
    cases hu2
    obtain ⟨ok, ov, he⟩ := st
    rw [← hsz] at he
    have hlt : it < s.heap.objs.size := Heap.lt_size he
    refine DT.nextI he ⟨o, hgd, hx, hdt⟩ hie fun h' ho hT hz hk => ?_
    refine ⟨_, rfl, wpAny_letOwnedTupleGo_items (s := { s with heap := h' }) ho fun h'' he' sb => ?_⟩
    have hT2 : h''.get? s.heap.objs.size = some { cls := .type "tuple", data := .seq #[es[i].key, es[i].val] } := (sb.2 _ (Nat.ne_of_gt hlt)).trans hT
    have new : ObjOk X.prog X.w (upd H s.heap.objs.size (.tup [xs[i], ys[i]])) h'' s.heap.objs.size (.tup [xs[i], ys[i]]) :=
      ⟨by show 2 ≤ sizeLine; decide, [es[i].key, es[i].val], .cons ru (.cons ru2 .nil), ⟨_, hT2, rfl, _, rfl⟩⟩
    have I1 : Inv X pins σ (upd H s.heap.objs.size (.tup [xs[i], ys[i]])) { s with heap := h'' } :=
      I.turnedNew (t' := s.toks) (ch := [it]) (fun b ob hb e => (sb.2 b (by simpa using hb)).trans (hk b ob (by simpa using hb) e)) hf (Nat.le_refl _) new
    refine ⟨.ref s.heap.objs.size, _, I1, rfl, ⟨_, _, _, List.getElem?_eq_getElem hi, List.getElem?_eq_getElem hiy, rfl, I.hok.fresh (Nat.le_refl _), rfl⟩, ⟨es[i].key, es[i].val, ?_⟩, fun b hb => ?_⟩
    · rw [← hsz]; exact he'
    · have e : b = it := by simpa using hb
      rw [e, upd_ne (Nat.ne_of_lt hlt)]
      exact (hf it (by simp)).1
  done := by
    intro X hP hw hK hc i pins s σ H E I hf st hg
    subst hP hw hK
    obtain ⟨hd, hi⟩ := hg
    obtain ⟨f0, f1, f2, f3, f4, f5⟩ := hf it (by simp)
    have hgd : s.heap.get? d = some o := (I.hok d _ hd).2.1
    have hsz : es.size = xs.length := by have := r.length; rw [List.length_map, Array.length_toList] at this; exact this.symm
    obtain ⟨ok, ov, he⟩ := st
    rw [← hsz] at he
    exact DT.endI (I.ok.hd hc) he ⟨o, hgd, hx, hdt⟩ (by rw [hsz]; exact hi) fun h' eb => ⟨rfl, I.turned (t' := s.toks) (fun b ob hb e => eb b ob hb e) f0 f1 f3 f4 f5⟩
  self := fun A i s Q E st h => let ⟨_, _, e⟩ := st; PySem.W.kcp_self e h
end
section
variable {X : Cx} {tg e : Expr} {td : TE} {apos cpos : Pos}
/-- what is asked of the dict, and what follows once it is locked -/
def askD (X : Cx) (d : Addr) (H1 : Hp) (f : Obj → Array DictEntry → Nat → Obj → Hp → Prop) : Prop := ∃ o es ep, H1 d = some (exactly d o) ∧ (d == sysModules) = false ∧ o.ExactDict ∧ o.data = .dict es ep ∧ ∀ od, NoFz X d → f o es ep od (upd H1 d (.frz od (exactly d o)))
theorem pi_rawK (he : PE X e td) : PI X tg e (fun σ H R => td σ H fun x H1 => ∃ d, x = .ref d ∧ askD X d H1 fun o es ep od H2 => ∃ xs, Vals xs (es.toList.map (·.key)) ∧ R (Itq d od o xs) H2) := by
  refine ⟨fun pins s σ H R I h => ?_⟩
  refine thn (he.run pins s σ H _ I h) fun u s1 ⟨x, H1, I1, rx, d, ex, o, es, ep, hd, hs, hx, hdt, q⟩ => ?_
  subst ex
  obtain rfl : u = Value.ref d := rx
  obtain ⟨od, I2⟩ := I1.lock hd True.intro
  obtain ⟨xs, r, q⟩ := q od (I1.nofrz hd True.intro)
  have hgd : s1.heap.get? d = some o := (I1.hok d _ hd).1
  have hsz : es.size = xs.length := by have := r.length; rw [List.length_map, Array.length_toList] at this; exact this.symm
  refine iter_keys hs hgd hx hdt (pi_one (tk := s1.toks) I2 _ (turn_rawK _ hdt r) ⟨_, Heap.get?_push_size _ rfl, rfl, ?_⟩ q)
  rw [hsz] <;> rfl
theorem pi_rawI {elts : List Expr} {kk : Nat} {tpos : Pos} (he : PE X e td) (hbase : attributeBase e "items" X.env (eval e X.env) = eval e X.env) (hline : (apos.endLine == cpos.line) = true) :
    PI X (.Tuple elts kk tpos) (.Call (.Attribute e "items" apos) [] [] cpos) (fun σ H R => td σ H fun x H1 => ∃ d, x = .ref d ∧ askD X d H1 fun o es ep od H2 => ∃ xs ys, Vals xs (es.toList.map (·.key)) ∧ Vals ys (es.toList.map (·.val)) ∧ R (Itp d od o xs ys) H2) := by
  refine ⟨fun pins s σ H R I h => ?_⟩
  refine wpAny_Call_method (T := "dict") (id := "dict.items") hbase rfl hline F.plainAttrs_dict F.slot_dict_items F.type_dict_items (thn (he.run pins s σ H _ I h) fun u s1 ⟨x, H1, I1, rx, d, ex, o, es, ep, hd, hs, hx, hdt, q⟩ => ?_)
  subst ex
  obtain rfl : u = Value.ref d := rx
  obtain ⟨od, I2⟩ := I1.lock hd True.intro
  obtain ⟨xs, ys, r, r2, q⟩ := q od (I1.nofrz hd True.intro)
  have hgd : s1.heap.get? d = some o := (I1.hok d _ hd).1
  have hsz : es.size = xs.length := by have := r.length; rw [List.length_map, Array.length_toList] at this; exact this.symm
  have hT : s1.TypeIs (.ref d) "dict" := ⟨o, hgd, hx.1⟩
  refine ⟨hT, ?_, ?_⟩
  · intro a ea
    cases ea
    exact ⟨o, hgd, hx.2.1⟩
  have I3 : Inv X pins σ (upd H1 d (.frz od (exactly d o))) { s1 with heap := s1.heap.push { cls := .type "dict_items", data := .fields #[.ref d] } } := I2.kept (t' := s1.toks) fun b ob q => Heap.get?_push_of_some _ q
  have fin : wpAny (model X.prog X.w) X.A (pyIter (.ref s1.heap.objs.size)) (PIE X pins σ (.Tuple elts kk tpos) R) X.xe { s1 with heap := s1.heap.push { cls := .type "dict_items", data := .fields #[.ref d] } } := by
    refine DT.iterI (es := es) (ep := ep) ⟨_, Heap.get?_push_size _ rfl, rfl, rfl⟩ ⟨o, Heap.get?_push_of_some _ hgd, hx, hdt⟩ (pi_one (tk := s1.toks) I3 _ (turn_rawI _ hx hdt r r2) ⟨.none, .none, ?_⟩ q)
    rw [← hsz]
    exact Heap.get?_push_size _ rfl
  show wpAny _ _ (callWith cpos (.builtin "dict.items") [.ref d] [] []) _ X.xe s1
  refine method_meetsIn F.slot_dict_items F.entry_dict_items rfl (PySem.evalArgs_none ⟨rfl, hT, F.args_dict_items_1 _, _, DT.meetsItems (es := es) (ep := ep) hs, ⟨o, hgd, hx, hdt⟩, fin⟩)
/-! ### the lock is taken away behind the loop -/
def unl (X : Cx) (D : Ends) : Ends :=
  ⟨fun σ H => ∃ d od u, H d = some (.frz od u) ∧ NoFz X d ∧ D.nx σ (upd H d u), fun v H => ∃ d od u, H d = some (.frz od u) ∧ NoFz X d ∧ D.rt v (upd H d u), fun σ H => ∃ d od u, H d = some (.frz od u) ∧ NoFz X d ∧ D.bk σ (upd H d u), fun σ H => ∃ d od u, H d = some (.frz od u) ∧ NoFz X d ∧ D.ct σ (upd H d u)⟩
theorem ps_unl {st : Stmt} {t : TS} (h : PS X st t) : PS X st (fun D σ H => t (unl X D) σ H) := by
  refine ⟨fun pins s σ H D I q => thn (h.run pins s σ H _ I q) fun f s1 q1 => ?_⟩
  cases f with
  | next =>
    obtain ⟨σ1, H1, I1, d, od, u, e, nf, q⟩ := q1
    exact ⟨σ1, _, I1.unlock e nf, q⟩
  | ret v =>
    obtain ⟨x, σ1, H1, I1, r, d, od, u, e, nf, q⟩ := q1
    exact ⟨x, σ1, _, I1.unlock e nf, r, q⟩
  | brk =>
    obtain ⟨σ1, H1, I1, d, od, u, e, nf, q⟩ := q1
    exact ⟨σ1, _, I1.unlock e nf, q⟩
  | cont =>
    obtain ⟨σ1, H1, I1, d, od, u, e, nf, q⟩ := q1
    exact ⟨σ1, _, I1.unlock e nf, q⟩
end
section
variable {X : Cx} {cls : Cl} {U : XW} {C : Ctx} {a b c : Expr} {i j k : E} {pos : Pos}
theorem Ext.unlock {W1 W' : Wd} {H1 H' : Hp} {a : Addr} {od : Obj} {u0 u : HO} (x : Ext W1 (upd H1 a (.frz od u0)) W' H') (ha : a ∈ W1.ρ) (h1 : ∃ v, H1 a = some v ∧ ∀ x y, v ≠ .frz x y) (hu : ∀ ps, u ≠ .tbl ps := by intro _ z; cases z) : Ext W1 H1 W' (upd H' a u) := by
  obtain ⟨v, hv, nf⟩ := h1
  have none_iff : ∀ b, Pr H1 b → Pr (upd H1 a (.frz od u0)) b := fun b ⟨v, e, n⟩ => by
    by_cases hb : b = a
    · subst hb; exact ⟨_, upd_same, fun _ z => by cases z⟩
    · exact ⟨v, by rw [upd_ne hb]; exact e, n⟩
  refine ⟨x.g, ?_, fun b o e ho hn => ?_, fun b h => ?_, fun b h => ?_, fun b o w e => ?_⟩
  · obtain ⟨m, e, hm⟩ := x.r
    exact ⟨m, e, fun b hb z => hm b hb (none_iff b z)⟩
  · have hb : b ≠ a := fun z => hn (z ▸ ha)
    rw [upd_ne hb]
    exact x.fr b o (by rw [upd_ne hb]; exact e) ho hn
  · by_cases hb : b = a
    · subst hb; exact ⟨_, upd_same, hu⟩
    · obtain ⟨v, e, n⟩ := x.dom b (none_iff b h)
      exact ⟨v, by rw [upd_ne hb]; exact e, n⟩
  · rcases x.gn b h with z | z
    · exact .inl z
    · exact .inr fun q => z (none_iff b q)
  · have hb : b ≠ a := fun z => by
      subst z
      rw [hv] at e
      exact nf _ _ (Option.some.inj e)
    rw [upd_ne hb]
    exact x.fz b o w (by rw [upd_ne hb]; exact e)
theorem out_unl {W1 : Wd} {H1 : Hp} {st1 : Store} {n : Nat} {kvs : List (D × D)} {r : R Fl} {D0 : Ends} {ad : Addr} {od o : Obj} (A1 : Ag X.K X.w cls W1 st1 H1) (ha : W1.ρ[n]? = some ad) (hH : H1 ad = some (exactly ad o)) (nf : NoFz X ad)
    (q : AftS X.K X.w cls U W1 H1 ((Grd.dic n kvs).out r) D0) : AftS X.K X.w cls U W1 (upd H1 ad (.frz od (exactly ad o))) r (unl X D0) := by
  have am : ad ∈ W1.ρ := List.mem_of_getElem? ha
  cases r with
  | bad => exact q
  | err k st => exact q.elim
  | ok f st =>
    have q : AftS X.K X.w cls U W1 H1 (R.test ((Grd.dic n kvs).holds st) (.ok f (st.set n (.dic kvs)))) D0 := q
    obtain ⟨hh, q⟩ := AftS.test q
    have key : ∀ W' H', Ext W1 (upd H1 ad (.frz od (exactly ad o))) W' H' → Ag X.K X.w cls W' st H' → ∃ od' u, H' ad = some (.frz od' u) ∧ Ext W1 H1 W' (upd H' ad u) ∧ Ag X.K X.w cls W' (st.set n (.dic kvs)) (upd H' ad u) := by
      intro W' H' x A'
      have ha' := x.le.at ha
      obtain ⟨o2, od2, h1, d2⟩ := A'.obj n _ ad (holds_dic hh) ha'
      have x2 : Ext W1 H1 W' (upd H' ad (exactly ad o2)) := x.unlock am ⟨_, hH, fun _ _ z => by cases z⟩
      refine ⟨od2, exactly ad o2, h1, x2, ?_⟩
      have am' : ad ∈ W'.ρ := List.mem_of_getElem? ha'
      refine ⟨fun b u e => ?_, by rw [List.length_set]; exact A'.len, A'.nd, A'.out, fun m ob c e1 e2 => ?_, A'.ntb, A'.tabs am' fun b hb => upd_ne hb⟩
      · rw [upd_ne fun z => by rw [z, A'.out ad am'] at e; cases e]
        exact A'.sub b u e
      · by_cases hm : m = n
        · subst hm
          rw [ha'] at e2
          cases e2
          rw [List.getElem?_set_self (by rw [← A'.len]; exact (List.getElem?_eq_some_iff.mp ha').1)] at e1
          cases e1
          exact ⟨o2, upd_same, d2⟩
        · rw [List.getElem?_set_ne (Ne.symm hm)] at e1
          have ne : c ≠ ad := fun z => by subst z; exact hm (nodup_at A'.nd e2 ha')
          exact (A'.obj m ob c e1 e2).keep (Wd.Le.refl _) (upd_ne ne)
    cases f with
    | nx env => exact fun σ W' H' x A' he => by obtain ⟨od2, u, h1, x2, A2⟩ := key W' H' x A'; exact ⟨ad, od2, u, h1, nf, q σ W' _ x2 A2 he⟩
    | rt v => exact fun y W' H' x A' r => by obtain ⟨od2, u, h1, x2, A2⟩ := key W' H' x A'; exact ⟨ad, od2, u, h1, nf, q y W' _ x2 A2 r⟩
    | bk env => exact fun σ W' H' x A' he => by obtain ⟨od2, u, h1, x2, A2⟩ := key W' H' x A'; exact ⟨ad, od2, u, h1, nf, q σ W' _ x2 A2 he⟩
    | ct env => exact fun σ W' H' x A' he => by obtain ⟨od2, u, h1, x2, A2⟩ := key W' H' x A'; exact ⟨ad, od2, u, h1, nf, q σ W' _ x2 A2 he⟩
theorem s_forK {tg : Expr} {t : Tg} {sb : List Stmt} {xb : Ss} (hpo : PassesOwn (model X.prog X.w) X.A X.env X.xe) (hc : X.calm = true) (hN : X.N.Nodup) (h : Good X cls U C a i) (ht : TgOk X tg t) (hb : GoodSs X cls U C sb xb) (hs : ∀ x, foldedSetIterable a X.env x = pure x) :
    GoodS X cls U C (.For tg a sb [] pos) (.for t (.keys i) xb) := by
  refine PS.mono (ps_unl (ps_for hpo hc (pi_rawK h.pe) (tg_pg hc hN ht) hb hs)) fun D σ H h => ?_
  obtain ⟨W, env, st, he, A, q⟩ := h
  rw [evS, evI, R.bind_assoc] at q
  refine ⟨W, env, st, he, A, (AftS.bind (rel := Rep X.K) q).mono fun x H1 ⟨W1, st1, d, x1, A1, r1, q1⟩ => ?_⟩
  cases d with
  | ref n =>
    obtain ⟨ad, e, ha⟩ := r1.ref_inv
    obtain ⟨ob, ho, oa⟩ := A1.at ha
    simp only [keysIt, ho] at q1
    cases ob with
    | dic kvs =>
      obtain ⟨o, hH, on, hns, hz, es, ep, ex, hdat, hr, hn⟩ := oa
      have q1 : AftS X.K X.w cls U W1 H1 ((Grd.dic n kvs).out (forL (.dic n kvs) t (evSs C xb) (kvs.map (·.1)) env (st1.set n (.lck kvs)))) D := q1
      refine ⟨ad, e, o, es, ep, hH, hns, ex, hdat, fun od nf => ?_⟩
      obtain ⟨vs, k1, k2⟩ := hr.keys
      have q2 := out_unl (od := od) A1 ha hH nf q1
      obtain ⟨A2, x2⟩ := A1.setObj (H' := upd H1 ad (.frz od (exactly ad o))) (o := .lck kvs) ha (fun b hb => upd_ne hb) ⟨o, od, upd_same, on, hns, hz, es, ep, ex, hdat, hr, hn⟩ (fun _ _ z => by rw [hH] at z; cases z)
      refine ⟨vs, k1, for_turns (pr := false) (P := fun H => H ad = some (.frz od (exactly ad o))) (fun z => by cases z) (he.mono x1.le) A2 (fun W2 st2 H2 le A3 hh hp => ⟨fun m d hd => ?_, ?_⟩) (fun W2 H2 x => x.fz _ _ _ upd_same) q2⟩
      · obtain ⟨y, h1, h2⟩ := k2.get hd
        refine ⟨⟨hp, (List.getElem?_eq_some_iff.mp h1).1⟩, fun x H' hy => ?_⟩
        obtain ⟨rfl, hy⟩ := hy
        rw [h1] at hy
        cases hy
        exact ⟨.inl ⟨rfl, h2.mono le⟩, fun _ => ⟨rfl, h2.mono le⟩⟩
      · exact ⟨hp, by rw [k2.length]; exact Nat.le_refl _⟩
    | _ => exact q1.elim
  | _ => exact q1.elim
theorem RepE.vals {K : PySem.W.Frag} {w : World} {W : Wd} : ∀ {es : List DictEntry} {kvs : List (D × D)}, RepE K w W es kvs → ∃ vs, Vals vs (es.map (·.val)) ∧ RepL K W vs (kvs.map (·.2))
  | _, _, .nil => ⟨[], .nil, .nil⟩
  | _, _, .cons hk hv hh ⟨x, r, q⟩ t => by
    obtain ⟨vs, h1, h2⟩ := RepE.vals t
    exact ⟨x :: vs, .cons r h1, .cons q h2⟩
theorem s_forI {elts : List Expr} {kk : Nat} {tpos apos cpos : Pos} {is : List Nat} {sb : List Stmt} {xb : Ss} (hpo : PassesOwn (model X.prog X.w) X.A X.env X.xe) (hc : X.calm = true) (hN : X.N.Nodup) (h : Good X cls U C a i) (ht : TgOk X (.Tuple elts kk tpos) (.many is)) (hb : GoodSs X cls U C sb xb)
    (hsup : notSup a = true) (hline : (apos.endLine == cpos.line) = true) : GoodS X cls U C (.For (.Tuple elts kk tpos) (.Call (.Attribute a "items" apos) [] [] cpos) sb [] pos) (.for (.many is) (.items i) xb) := by
  refine PS.mono (ps_unl (ps_for hpo hc (pi_rawI h.pe (notSup_base hsup) hline) (tg_pg hc hN ht) hb (fun _ => rfl))) fun D σ H h => ?_
  obtain ⟨W, env, st, he, A, q⟩ := h
  rw [evS, evI, R.bind_assoc] at q
  refine ⟨W, env, st, he, A, (AftS.bind (rel := Rep X.K) q).mono fun x H1 ⟨W1, st1, d, x1, A1, r1, q1⟩ => ?_⟩
  cases d with
  | ref n =>
    obtain ⟨ad, e, ha⟩ := r1.ref_inv
    obtain ⟨ob, ho, oa⟩ := A1.at ha
    simp only [itemsIt, ho] at q1
    cases ob with
    | dic kvs =>
      obtain ⟨o, hH, on, hns, hz, es, ep, ex, hdat, hr, hn⟩ := oa
      have q1 : AftS X.K X.w cls U W1 H1 ((Grd.dic n kvs).out (forL (.dic n kvs) (.many is) (evSs C xb) (kvs.map fun kv => EV.D.tup [kv.1, kv.2]) env (st1.set n (.lck kvs)))) D := q1
      refine ⟨ad, e, o, es, ep, hH, hns, ex, hdat, fun od nf => ?_⟩
      obtain ⟨vs, k1, k2⟩ := hr.keys
      obtain ⟨us, v1, v2⟩ := hr.vals
      have q2 := out_unl (od := od) A1 ha hH nf q1
      obtain ⟨A2, x2⟩ := A1.setObj (H' := upd H1 ad (.frz od (exactly ad o))) (o := .lck kvs) ha (fun b hb => upd_ne hb) ⟨o, od, upd_same, on, hns, hz, es, ep, ex, hdat, hr, hn⟩ (fun _ _ z => by rw [hH] at z; cases z)
      refine ⟨vs, us, k1, v1, for_turns (pr := true) (P := fun H => H ad = some (.frz od (exactly ad o))) (fun _ => ⟨is, rfl⟩) (he.mono x1.le) A2 (fun W2 st2 H2 le A3 hh hp => ⟨fun m d hd => ?_, ?_⟩) (fun W2 H2 x => x.fz _ _ _ upd_same) q2⟩
      · rw [List.getElem?_map] at hd
        obtain ⟨kv, hk, rfl⟩ := Option.map_eq_some_iff.mp hd
        obtain ⟨y, h1, h2⟩ := k2.get (i := m) (d := kv.1) (by rw [List.getElem?_map, hk]; rfl)
        obtain ⟨z, h3, h4⟩ := v2.get (i := m) (d := kv.2) (by rw [List.getElem?_map, hk]; rfl)
        refine ⟨⟨hp, (List.getElem?_eq_some_iff.mp h1).1⟩, fun x H' hy => ?_⟩
        obtain ⟨T, k, v, g1, g2, rfl, g3, rfl⟩ := hy
        rw [h1] at g1
        rw [h3] at g2
        cases g1
        cases g2
        exact ⟨.inr ⟨T, _, _, _, _, rfl, g3, rfl, rfl, h2.mono le, h4.mono le⟩, fun z => by cases z⟩
      · exact ⟨hp, by rw [k2.length, List.length_map, List.length_map]; exact Nat.le_refl _⟩
    | _ => exact q1.elim
  | _ => exact q1.elim
end
end EV
/-! EvU: dict displays. -/
namespace EV
open PySem PySem.Spec PyProof.Rows L2

/-! ### keys of a dict behind stores -/
theorem leaf_key {d : D} (h : d.isLeaf = true) : d.key 6 = true := by cases d <;> simp [D.isLeaf] at h <;> simp [D.key]
theorem dput_keys {k v : D} (hk : k.key 6 = true) : ∀ {kvs : List (D × D)}, (∀ p ∈ kvs, p.1.key 6 = true) → ((dput kvs k v).map (·.1.nk) = kvs.map (·.1.nk) ∧ k.nk ∈ kvs.map (·.1.nk)) ∨ (k.nk ∉ kvs.map (·.1.nk) ∧ (dput kvs k v).map (·.1.nk) = kvs.map (·.1.nk) ++ [k.nk])
  | [], _ => .inr ⟨by simp, rfl⟩
  | (a, w) :: r, h => by
    have ha := h (a, w) (List.mem_cons_self ..)
    rw [dput, nk_eqv 6 a k ha hk]
    by_cases e : a.nk = k.nk
    · rw [if_pos (by simpa using e)]
      exact .inl ⟨rfl, by simp [e]⟩
    · rw [if_neg (by simpa using e)]
      rcases dput_keys (v := v) hk (kvs := r) fun p hp => h p (List.mem_cons_of_mem _ hp) with ⟨h1, h2⟩ | ⟨h1, h2⟩
      · exact .inl ⟨by rw [List.map_cons, List.map_cons, h1], List.mem_cons_of_mem _ h2⟩
      · refine .inr ⟨?_, by rw [List.map_cons, List.map_cons, h2]; rfl⟩
        rw [List.map_cons, List.mem_cons, not_or]
        exact ⟨fun z => e z.symm, h1⟩
theorem dput_nodup {k v : D} (hk : k.key 6 = true) {kvs : List (D × D)} (h : ∀ p ∈ kvs, p.1.key 6 = true) (nd : (kvs.map (·.1.nk)).Nodup) : ((dput kvs k v).map (·.1.nk)).Nodup := by
  rcases dput_keys (v := v) hk h with ⟨h1, _⟩ | ⟨h1, h2⟩
  · rw [h1]; exact nd
  · rw [h2]
    exact List.nodup_append.mpr ⟨nd, by simp, fun a ha b hb e => by
      have e2 : b = k.nk := by simpa using hb
      subst e2; subst e
      exact h1 ha⟩
theorem dput_mem {k v : D} : ∀ {kvs : List (D × D)} {p : D × D}, p ∈ dput kvs k v → p.1 = k ∨ ∃ q ∈ kvs, p.1 = q.1
  | [], p, h => by
    have e : p = (k, v) := by simpa [dput] using h
    exact .inl (by rw [e])
  | (a, w) :: r, p, h => by
    rw [dput] at h
    split at h
    · rcases List.mem_cons.mp h with rfl | h
      · exact .inr ⟨(a, w), List.mem_cons_self .., rfl⟩
      · exact .inr ⟨p, List.mem_cons_of_mem _ h, rfl⟩
    · rcases List.mem_cons.mp h with rfl | h
      · exact .inr ⟨(a, w), List.mem_cons_self .., rfl⟩
      · rcases dput_mem h with z | ⟨q, hq, z⟩
        · exact .inl z
        · exact .inr ⟨q, List.mem_cons_of_mem _ hq, z⟩
theorem LX.puts {K : PySem.W.Frag} {W : Wd} : ∀ {ps : List (D × D)} {rs xs : List (L2.Key × Value)} {kvs : List (D × D)}, LX K W rs ps → LX K W xs kvs → (kvs.map (·.1.nk)).Nodup → LX K W (merged xs rs) (dputs kvs ps)
  | _, _, xs, kvs, .nil, h, _ => by rw [dputs]; exact h
  | _, _, xs, kvs, .cons (k := k) (v := v) (u := u) (xs := rs) (kvs := ps) hk hv t, h, nd => by
    rw [dputs]
    show LX K W (merged (stored xs k.ky u) rs) _
    have hall : ∀ p ∈ kvs, p.1.key 6 = true := fun p hp => leaf_key (List.all_eq_true.mp h.keys.2.1 p hp)
    exact LX.puts t (h.put hk hv (h.nodup.mp nd)) (dput_nodup (leaf_key hk) hall nd)
theorem KX.all {K : PySem.W.Frag} {W : Wd} : ∀ {xs : List (NestedKey × Addr × Value)} {kvs : List (D × D)}, KX K W xs kvs → ∀ p ∈ kvs, p.1.key 6 = true
  | _, _, .nil, p, hp => by cases hp
  | _, _, .cons hk ht q hv t, p, hp => by
    rcases List.mem_cons.mp hp with rfl | hp
    · exact hk
    · exact KX.all t p hp
theorem KX.puts {K : PySem.W.Frag} {W : Wd} : ∀ {ps : List (D × D)} {rs xs : List (NestedKey × Addr × Value)} {kvs : List (D × D)}, KX K W rs ps → KX K W xs kvs → (kvs.map (·.1.nk)).Nodup → KX K W (storedAllH xs rs) (dputs kvs ps)
  | _, _, xs, kvs, .nil, h, _ => by rw [dputs]; exact h
  | _, _, xs, kvs, .cons (k := k) (v := v) (a := a) (u := u) (xs := rs) (kvs := ps) hk ht q hv t, h, nd => by
    rw [dputs]
    show KX K W (storedAllH (storedH xs k.nk a u) rs) _
    exact KX.puts t (h.put hk ht q hv (by rw [h.keys.1]; exact nd)) (dput_nodup hk h.all nd)
theorem dputs_len : ∀ (ps kvs : List (D × D)), (dputs kvs ps).length ≤ kvs.length + ps.length
  | [], kvs => by rw [dputs]; simp
  | (k, v) :: r, kvs => by
    rw [dputs]
    have h1 := dputs_len r (dput kvs k v)
    have h2 := dput_len (k := k) (v := v) kvs
    rw [List.length_cons]
    omega
/-! ### the pairs -/
def ilv : List E → List E → List E
  | k :: ks, v :: vs => k :: v :: ilv ks vs
  | _, _ => []
def flat2 : List (V × V) → List V
  | [] => []
  | (x, y) :: r => x :: y :: flat2 r
section
variable {X : Cx} {cls : Cl} {U : XW} {C : Ctx} {pos : Pos}
def trsOf (X : Cx) (cls : Cl) (U : XW) (C : Ctx) : List E → List E → List (TE × TE)
  | k :: ks, v :: vs => (tD X.K X.w cls U (evE C k), tD X.K X.w cls U (evE C v)) :: trsOf X cls U C ks vs
  | _, _ => []
theorem pps_D : ∀ {ks vs : List Expr} {iks ivs : List E}, Goods X cls U C ks iks → Goods X cls U C vs ivs → ks.length = vs.length → PPs X pos (ks.map some) vs (trsOf X cls U C iks ivs)
  | _, _, _, _, .nil, .nil, _ => pps_nil
  | _, _, _, _, .nil, .cons _ _, h => by simp at h
  | _, _, _, _, .cons _ _, .nil, h => by simp at h
  | _, _, _, _, .cons g t, .cons g2 t2, h => pps_cons g.pe g2.pe (pps_D t t2 (by simpa using h))
theorem tPairs_D : ∀ {iks ivs : List E} {σ : L2.St} {H : Hp} {Q : List V → Hp → Prop}, iks.length = ivs.length → tDs X.K X.w cls U (evEs C (listEs (ilv iks ivs))) σ H Q → tPairs (trsOf X cls U C iks ivs) σ H fun ps H2 => Q (flat2 ps) H2
  | [], [], σ, H, Q, _, h => by
    obtain ⟨W, env, st, he, A, q⟩ := h
    rw [ilv, listEs, evEs] at q
    · exact q [] W H (Ext.refl _ _) A .nil
    · simp
  | [], _ :: _, _, _, _, e, _ => by simp at e
  | _ :: _, [], _, _, _, e, _ => by simp at e
  | k :: iks, v :: ivs, σ, H, Q, e, h => by
    obtain ⟨W, env, st, he, A, q⟩ := h
    rw [ilv, listEs, evEs, listEs] at q
    refine ⟨W, env, st, he, A, (q.bind).mono fun x H1 ⟨W1, st1, dx, x1, A1, r1, q1⟩ => ?_⟩
    rw [evEs, R.bind_assoc] at q1
    refine ⟨W1, env, st1, he.mono x1.le, A1, (q1.bind).mono fun y H2 ⟨W2, st2, dy, x2, A2, r2, q2⟩ => ?_⟩
    refine tPairs_D (Q := fun xs H3 => Q (x :: y :: xs) H3) (by simpa using e) ⟨W2, env, st2, (he.mono x1.le).mono x2.le, A2, ?_⟩
    rw [R.bind_assoc] at q2
    refine (Aft.bind (rel := RepL X.K) q2).mono fun xs H3 ⟨W3, st3, ds, x3, A3, r3, q3⟩ => ?_
    exact q3 (x :: y :: xs) W3 H3 (Ext.refl _ _) A3 (.cons ((r1.mono x2.le).mono x3.le) (.cons (r2.mono x3.le) r3))
/-- the pairs as data -/
inductive RepP (K : PySem.W.Frag) (W : Wd) : List (V × V) → List (D × D) → Prop
  | nil : RepP K W [] []
  | cons {x y : V} {k v : D} {ps : List (V × V)} {kvs : List (D × D)} : Rep K W x k → Rep K W y v → RepP K W ps kvs → RepP K W ((x, y) :: ps) ((k, v) :: kvs)
theorem repP_of {K : PySem.W.Frag} {W : Wd} : ∀ {ps : List (V × V)} {ds : List D} {kvs : List (D × D)}, RepL K W (flat2 ps) ds → pairUp ds = some kvs → RepP K W ps kvs
  | [], _, _, l, e => by
    cases l
    simp [pairUp] at e
    subst e
    exact .nil
  | (x, y) :: ps, _, _, l, e => by
    cases l with
    | cons r1 l =>
      cases l with
      | cons r2 l =>
        rw [pairUp] at e
        obtain ⟨r, e1, e2⟩ := Option.map_eq_some_iff.mp e
        subst e2
        exact .cons r1 r2 (repP_of l e1)
theorem RepP.len {K : PySem.W.Frag} {W : Wd} : ∀ {ps : List (V × V)} {kvs : List (D × D)}, RepP K W ps kvs → ps.length = kvs.length
  | _, _, .nil => rfl
  | _, _, .cons _ _ t => by rw [List.length_cons, List.length_cons, RepP.len t]
theorem RepP.lx {P : Program} {K : PySem.W.Frag} {w : World} {W : Wd} : ∀ {ps : List (V × V)} {ws : List (Value × Value)} {kvs : List (D × D)}, RepP K W ps kvs → VV ps ws → (kvs.all fun p => p.1.isLeaf) = true → ∃ rs, Carries (mixKind P w) ws rs ∧ LX K W rs kvs
  | _, _, _, .nil, r, _ => by cases r; exact ⟨[], True.intro, .nil⟩
  | _, _, _, .cons (x := x) (y := y) (k := k) (v := v) r1 r2 t, r, h => by
    rw [List.all_cons, Bool.and_eq_true] at h
    cases r with
    | @cons a b as bs h2 t2 =>
      obtain ⟨rs, c, l⟩ := RepP.lx (P := P) (w := w) t t2 h.2
      obtain ⟨b1, b2⟩ := b
      have e := ky_rep r1 h.1
      subst e
      exact ⟨(k.ky, b2) :: rs, ⟨kV_is h2.1, rfl, c⟩, .cons h.1 ⟨y, h2.2, r2⟩ l⟩
theorem RepP.kx {pins : List (Addr × Obj)} {σ : L2.St} {H : Hp} {s : Shared} {W : Wd} {st : Store} (I : Inv X pins σ H s) (A : Ag X.K X.w cls W st H) : ∀ {ps : List (V × V)} {ws : List (Value × Value)} {kvs : List (D × D)}, RepP X.K W ps kvs → VV ps ws → (kvs.all fun p => p.1.isTup) = true → (kvs.all fun p => p.1.key 6) = true →
    ∃ rs, CarriesH (nestedKind X.prog X.w) s.heap ws rs ∧ KX X.K W rs kvs
  | _, _, _, .nil, r, _, _ => by cases r; exact ⟨[], True.intro, .nil⟩
  | _, _, _, .cons (x := x) (y := y) (k := k) (v := v) r1 r2 t, r, h, hk => by
    rw [List.all_cons, Bool.and_eq_true] at h hk
    cases r with
    | @cons a b as bs h2 t2 =>
      obtain ⟨rs, c, l⟩ := RepP.kx I A t t2 h.2 hk.2
      obtain ⟨b1, b2⟩ := b
      obtain ⟨ad, rfl⟩ := r1.tup_ref h.1
      have e1 : b1 = .ref ad := h2.1
      exact ⟨(k.nk, ad, b2) :: rs, ⟨e1, rfl, key_is I A r1 hk.1, c⟩, .cons hk.1 h.1 r1 ⟨y, h2.2, r2⟩ l⟩
/-- {} as a new object -/
theorem dic_new {W : Wd} {a : Addr} (hs : (a == sysModules) = false) : DicO X.K X.w W a { cls := .type "dict", data := .dict #[] } [] := ⟨rfl, hs, Nat.zero_le _, #[], 0, ⟨rfl, rfl, rfl⟩, rfl, .nil, List.nodup_nil⟩
theorem _root_.L2.Inv.newDic {pins : List (Addr × Obj)} {σ : L2.St} {H : Hp} {s : Shared} (I : Inv X pins σ H s) : (s.heap.objs.size == sysModules) = false ∧ H s.heap.objs.size = none ∧
    Inv X pins σ (upd H s.heap.objs.size (exactly s.heap.objs.size { cls := .type "dict", data := .dict #[] })) { s with heap := s.heap.push { cls := .type "dict", data := .dict #[] } } := by
  have hg : (s.heap.push { cls := .type "dict", data := .dict #[] }).get? s.heap.objs.size = some { cls := .type "dict", data := .dict #[] } := Heap.get?_push_size _ rfl
  exact ⟨beq_eq_false_iff_ne.mpr (Ne.symm (Nat.ne_of_lt I.big)), I.hok.fresh (Nat.le_refl _), I.laid (t' := s.toks) (fun _ _ q => Heap.get?_push_of_some _ q) (Nat.le_refl _) ⟨hg, ⟨_, hg⟩, fun _ _ p k => k _ p⟩⟩
theorem newDicAg {W : Wd} {H : Hp} {st : Store} {p : Addr} {o : Obj} {kvs : List (D × D)} (A : Ag X.K X.w cls W st H) (hp : H p = none) (d : DicO X.K X.w ⟨W.G, W.ρ ++ [p]⟩ p o kvs) :
    Ag X.K X.w cls ⟨W.G, W.ρ ++ [p]⟩ (st ++ [.dic kvs]) (upd H p (exactly p o)) ∧ Ext W H ⟨W.G, W.ρ ++ [p]⟩ (upd H p (exactly p o)) :=
  A.newObj (H' := upd H p (exactly p o)) hp (fun b u e => by rw [upd_ne (ne_of_none e hp)]; exact e) (by rw [upd_same]; simp) ⟨o, upd_same, d⟩
theorem keysOk_cases {ps : List (D × D)} (h : keysOk ps = true) : (ps.all fun p => p.1.key 6) = true ∧ ((ps.all fun p => p.1.isTup) = true ∨ (ps.all fun p => p.1.isLeaf) = true) := by
  simpa [keysOk, Bool.and_eq_true, Bool.or_eq_true] using h
theorem g_dct (hu : X.A.units + 64 < cLine) {ks vs : List Expr} {iks ivs : List E} (hk : Goods X cls U C ks iks) (hv : Goods X cls U C vs ivs) (hl : ks.length = vs.length) (h15 : ks.length ≤ 15) :
    Good X cls U C (.Dict (ks.map some) vs pos) (.dct (listEs (ilv iks ivs))) := by
  have hlen : ∀ {es : List Expr} {is : List E}, Goods X cls U C es is → es.length = is.length := by
    intro es is g
    induction g with
    | nil => rfl
    | cons _ _ ih => simp [ih]
  refine good_val ⟨fun pins s σ H Q I h => ?_⟩ fun _ => rfl
  obtain ⟨W, env, st, he, A, q⟩ := h
  rw [evE] at q
  obtain ⟨hns, hfr, I1⟩ := I.newDic
  obtain ⟨A1, x1⟩ := newDicAg A hfr (dic_new (X := X) (W := ⟨W.G, W.ρ ++ [s.heap.objs.size]⟩) hns)
  have hρ : (W.ρ ++ [s.heap.objs.size])[st.length]? = some s.heap.objs.size := by
    rw [← A.len, List.getElem?_append_right (Nat.le_refl _)]
    simp
  have q := Aft.shift x1 q
  cases hk with
  | nil =>
    cases hv with
    | cons _ _ => simp at hl
    | nil =>
      rw [ilv, listEs, evEs] at q
      · simp only [R.bind_ok, pairUp, R.of_some] at q
        have e0 : (st ++ [O.dic []])[st.length]? = some (.dic []) := by simp
        rw [e0] at q
        have q : Aft X.K X.w cls U (Rep X.K) ⟨W.G, W.ρ ++ [s.heap.objs.size]⟩ _ (.ok (.ref st.length) ((st ++ [O.dic []]).set st.length (.dic []))) Q := q
        have e1 : (st ++ [O.dic []]).set st.length (.dic []) = st ++ [.dic []] := by simp
        rw [e1] at q
        exact wpAny_Dict_empty ⟨.ref s.heap.objs.size, _, I1, rfl, q.val A1 (.ref hρ)⟩
      · simp
  | @cons k0 ik0 ks iks g0 t0 =>
    have shape := zip_pairTrees ((k0 :: ks).map some) vs X.env pos (by simp) (by simpa using hl)
    have tlen := pairTrees_length ((k0 :: ks).map some) vs X.env pos (by simp) (by simpa using hl)
    rw [List.length_map] at tlen
    have tne : pairTrees ((k0 :: ks).map some) vs X.env pos ≠ [] := fun z => by rw [z] at tlen; simp at tlen
    have tl15 : (pairTrees ((k0 :: ks).map some) vs X.env pos).length ≤ 15 := by omega
    have hil : (ik0 :: iks).length = ivs.length := by rw [← hlen (.cons g0 t0), ← hlen hv]; exact hl
    have pp := pps_D (pos := pos) (.cons g0 t0) hv hl
    rw [arm_eval_Dict, shape, dictDisplay_pairs _ tne (by omega)]
    refine wpAny_bind (wpAny_standAt (wpAny_bind ?_))
    cases e : evEs C (listEs (ilv (ik0 :: iks) ivs)) env (st ++ [O.dic []]) with
    | bad => rw [e] at q; exact q.elim
    | err n ste =>
      rw [e] at q
      refine wpAny_subDictH (knd := nestedKind X.prog X.w) (show X.A.units + 8 < cLine by omega) tl15 (thn (pp.run pins _ σ _ (fun _ _ => False) I1 (tPairs_D (Q := fun _ _ => False) hil ⟨_, env, _, he.mono x1.le, A1, ?_⟩)) fun ws s2 ⟨ps, H2, I2, rv, z⟩ => z.elim)
      rw [e]
      exact q
    | ok xs stx =>
      rw [e] at q
      simp only [R.bind_ok] at q
      cases e2 : pairUp xs with
      | none => rw [e2] at q; exact q.elim
      | some dps =>
        rw [e2] at q
        simp only [R.of_some, R.bind_ok] at q
        cases e3 : stx[st.length]? with
        | none => rw [e3] at q; exact q.elim
        | some ob =>
          rw [e3] at q
          cases ob with
          | dic kvs =>
            cases kvs with
            | cons _ _ => exact q.elim
            | nil =>
              obtain ⟨hb, q⟩ := Aft.test q
              rw [Bool.and_eq_true, decide_eq_true_eq] at hb
              obtain ⟨hko, hk15⟩ := hb
              obtain ⟨hk6, hkind⟩ := keysOk_cases hko
              have hz2 : (dputs [] dps).length ≤ sizeLine := by
                have := dputs_len dps []
                rw [sizeLine_eq]
                simp only [List.length_nil] at this
                omega
              have run := pp.run pins _ σ _ (fun ps H2 => ∃ W2, Ext ⟨W.G, W.ρ ++ [s.heap.objs.size]⟩ (upd H s.heap.objs.size (exactly s.heap.objs.size { cls := .type "dict", data := .dict #[] })) W2 H2 ∧ Ag X.K X.w cls W2 stx H2 ∧ RepL X.K W2 (flat2 ps) xs) I1
                (tPairs_D (Q := fun vs H2 => ∃ W2, Ext ⟨W.G, W.ρ ++ [s.heap.objs.size]⟩ (upd H s.heap.objs.size (exactly s.heap.objs.size { cls := .type "dict", data := .dict #[] })) W2 H2 ∧ Ag X.K X.w cls W2 stx H2 ∧ RepL X.K W2 vs xs) hil ⟨_, env, _, he.mono x1.le, A1, by rw [e]; exact fun b W' H' x' A' l => ⟨W', x', A', l⟩⟩)
              have fin : ∀ (s2 : Shared) (H2 : Hp) (W2 : Wd), Inv X pins σ H2 s2 → Ext ⟨W.G, W.ρ ++ [s.heap.objs.size]⟩ (upd H s.heap.objs.size (exactly s.heap.objs.size { cls := .type "dict", data := .dict #[] })) W2 H2 → Ag X.K X.w cls W2 stx H2 →
                  ∃ o2 ep, s2.heap.get? s.heap.objs.size = some o2 ∧ o2.ExactDict ∧ o2.data = .dict #[] ep ∧
                    ∀ (h' : Heap) (tk : Nat) (o3 : Obj), Heap.SameBut s.heap.objs.size s2.heap h' → h'.get? s.heap.objs.size = some o3 → DicO X.K X.w W2 s.heap.objs.size o3 (dputs [] dps) → EP X pins σ Q (.ref s.heap.objs.size) { s2 with heap := h', toks := tk } := by
                intro s2 H2 W2 I2 x2 A2
                have ha := x2.le.at (i := st.length) hρ
                obtain ⟨o2, hH, on, hns2, hz, es, ep, ex, hdat, hr, hn⟩ := A2.obj _ _ _ e3 ha
                have he : es = #[] := by
                  have := hr.len
                  rw [Array.length_toList, List.length_nil] at this
                  exact Array.eq_empty_of_size_eq_zero this
                subst he
                refine ⟨o2, ep, (I2.hok _ _ hH).1, ex, hdat, fun h' tk o3 sb g1 d3 => ?_⟩
                obtain ⟨A3, x3⟩ := A2.setObj (H' := upd H2 s.heap.objs.size (exactly s.heap.objs.size o3)) (o := .dic (dputs [] dps)) ha (fun b hb => upd_ne hb) ⟨o3, upd_same, d3⟩ (fun _ _ z => by rw [hH] at z; cases z)
                refine ⟨.ref s.heap.objs.size, upd H2 s.heap.objs.size (exactly s.heap.objs.size o3), d_write I2 (by rw [hH]; exact True.intro) sb ⟨o3, g1⟩ ⟨g1, ⟨o3, g1⟩, fun _ _ p k => k _ p⟩, rfl, q _ _ _ (x2.trans x3) A3 (.ref ha)⟩
              rcases hkind with htup | hleaf
              · refine wpAny_subDictH (knd := nestedKind X.prog X.w) (show X.A.units + 8 < cLine by omega) tl15 (thn run fun ws s2 ⟨ps, H2, I2, rv, W2, x2, A2, l⟩ => ?_)
                obtain ⟨o2, ep, g1, g2, g3, k⟩ := fin s2 H2 W2 I2 x2 A2
                obtain ⟨rs, c, kx⟩ := (repP_of l e2).kx I2 A2 rv htup hk6
                refine ⟨rs, c, ⟨o2, #[], ep, g1, g2, g3, rfl, (fun x hx => nomatch hx), List.nodup_nil⟩, fun h' tk dd sb => wpAny_pure ?_⟩
                obtain ⟨o3, es, ep3, d1, d2, d3, d4, d5, d6⟩ := dd
                have kx2 := kx.puts (KX.nil (K := X.K) (W := W2)) List.nodup_nil
                exact k h' tk o3 sb d1 ⟨rfl, hns, hz2, es, ep3, d2, d3, by rw [d4]; exact kx2.repE, by rw [← kx2.keys.1]; exact d6⟩
              · refine wpAny_subDict (knd := mixKind X.prog X.w) tl15 (thn run fun ws s2 ⟨ps, H2, I2, rv, W2, x2, A2, l⟩ => ?_)
                obtain ⟨o2, ep, g1, g2, g3, k⟩ := fin s2 H2 W2 I2 x2 A2
                obtain ⟨rs, c, lx⟩ := (repP_of l e2).lx (P := X.prog) (w := X.w) rv hleaf
                refine ⟨rs, c, ⟨o2, #[], ep, g1, g2, g3, fun x hx => by simp at hx, .nil, List.nodup_nil⟩, fun h' dd sb => wpAny_pure ?_⟩
                obtain ⟨o3, d1, d2⟩ := DicO.fromL dd (lx.puts .nil List.nodup_nil) hns hz2
                exact k h' _ o3 sb d1 d2
          | _ => exact q.elim
end
end EV
/-! EvEn: enumerate of tuples. -/
namespace EV
open PySem PySem.Spec PyProof.Rows L2

set_option maxHeartbeats 1000000 in
theorem meets_enum1 {v : Value} {o : Obj} {Hh : Heap → Prop} (B : Begins v o Hh) :
    Meets (Builtin.«enumerate.__new__» ⟨[.type "enumerate", v], []⟩) (fun _ R s => Hh s.heap ∧
      R (.ok (.ret (.ref (s.heap.push o).objs.size))) { s with heap := (s.heap.push o).push { cls := .type "enumerate", data := .fields #[.none, .bool false, .ref s.heap.objs.size, rawInt 0, .none, .none] } }) :=
  .of_wp fun prog w A R s h => by
    obtain ⟨hp, g, d, tk, os⟩ := s; obtain ⟨h1, h⟩ := h
    have hsub := sub_enumerate
    have q1 : ∀ {A' : Around} {E : Value → Shared → Prop} {Q : Value → Shared → Prop}, Q (.ref hp.objs.size) ⟨hp.push o, g, d, tk, os⟩ → wpAny (model prog w) A' (pyIter v) Q E ⟨hp, g, d, tk, os⟩ :=
      fun q => B.iter prog w _ _ ⟨hp, g, d, tk, os⟩ _ h1 q
    wp_walk using q1
    refine wpAny_stack_any fun st => wpAny_pure ?_
    split
    · rename_i c _ _ _ _ _
      cases (c == Value.type "enumerate")
      · wp_walk using q1
        exact ⟨_, rfl, h⟩
      · wp_walk using q1
        exact ⟨_, rfl, h⟩
    · wp_walk using q1
      exact ⟨_, rfl, h⟩
theorem call_enumT {prog : Program} {w : World} {A : Around} {E : Value → Shared → Prop} {s : Shared} {v : Value} {o : Obj} {Hh : Heap → Prop} {Q : Value → Shared → Prop} (B : Begins v o Hh) (h1 : Hh s.heap)
    (h : ∀ h', IsEnum h' (s.heap.objs.size + 1) s.heap.objs.size 0 .none → h'.get? s.heap.objs.size = some o → (∀ b o, s.heap.get? b = some o → h'.get? b = some o) → Q (.ref (s.heap.objs.size + 1)) { s with heap := h' }) :
    wpAny (model prog w) A (call (.type "enumerate") [v]) Q E s := by
  refine callType_new F.called_enumerate (by decide) (F.typeCall_enumerate_1 _) (F.newCall_enumerate_1 _) (fun obj => F.args_object_init_2 obj _) F.entry_enumerate_new (meets_enum1 B) ⟨h1, ?_⟩
  have hz : (s.heap.push o).objs.size = s.heap.objs.size + 1 := Heap.size_push ..
  show _ ∧ _
  rw [hz]
  have he : IsEnum ((s.heap.push o).push { cls := .type "enumerate", data := .fields #[.none, .bool false, .ref s.heap.objs.size, rawInt 0, .none, .none] }) (s.heap.objs.size + 1) s.heap.objs.size 0 .none := by
    have := Heap.get?_push_size (s.heap.push o) (o := { cls := .type "enumerate", data := .fields #[.none, .bool false, .ref s.heap.objs.size, rawInt 0, .none, .none] }) rfl
    rw [hz] at this; exact this
  exact ⟨⟨_, he, rfl⟩, h _ he (Heap.get?_push_of_some _ (Heap.get?_push_size _ B.free)) fun b o x => Heap.get?_push_of_some _ (Heap.get?_push_of_some _ x)⟩
/-- the tuple at a, each item in a new pair -/
def IteT (K : PySem.W.Frag) (a : Addr) : L2.It :=
  ⟨fun i H => ∃ (xs : List V) (x : V), SqT K H a xs ∧ xs[i]? = some x, fun i H v H' => ∃ T x, v = .ref T ∧ H T = none ∧ H' = upd H T (.tup [.int (i : Nat), x]) ∧ ∀ xs, SqT K H a xs → xs[i]? = some x, fun i H => ∃ xs : List V, SqT K H a xs ∧ xs.length = i⟩
theorem turn_enumT {P : Program} {w : World} {K : PySem.W.Frag} {elts : List Expr} {kk : Nat} {tpos : Pos} (a e it : Addr) :
    Turn P w K (.Tuple elts kk tpos) (IteT K a) [e, it] e (fun i h => (∃ old, IsEnum h e it ((i : Nat) : Int) old) ∧ h.IsTupleIter it a i ∧ e ≠ it ∧ a ≠ it ∧ e ≠ a) where
  mem := by simp
  obj := fun i h st b hb => by
    obtain ⟨⟨old, he⟩, ⟨o, ho, hc, hd⟩, _⟩ := st
    have e' : b = e ∨ b = it := by simpa using hb
    rcases e' with z | z
    · rw [z]; exact ⟨_, he, fun v q => nomatch q⟩
    · rw [z]; exact ⟨o, ho, fun v q => by rw [hd] at q; cases q⟩
  keep := fun i h h' st k => let ⟨⟨old, he⟩, hi, hne⟩ := st; ⟨⟨old, k e (by simp) _ he⟩, hi.at fun o q => k it (by simp) o q, hne⟩
  item := by
    intro X hP hw hK hc i pins s σ H E I hf st hg
    subst hP hw hK
    obtain ⟨⟨old, he⟩, hit, hne, hai, hea⟩ := st
    obtain ⟨xs, x, hq, hx⟩ := hg
    obtain ⟨its, rv, p, hz⟩ := I.tuple hq
    obtain ⟨u, hu, ru⟩ := rv.get hx
    have hil : i < its.toArray.size := by rw [List.size_toArray]; exact (List.getElem?_eq_some_iff.mp hu).1
    have hel : e < s.heap.objs.size := Heap.lt_size he
    have hitl : it < s.heap.objs.size := by obtain ⟨_, q, _⟩ := hit; exact Heap.lt_size q
    have hT0 : s.heap.IsTuple a its.toArray := by obtain ⟨o, h1, h2, n, h3⟩ := p; exact ⟨o, h1, h2, n, h3⟩
    refine wpAny_pyNext_enum_itemD (Draws.tuple (A := X.A.in1) (show X.A.in1.handled = none from I.ok.hd hc) it a hai its.toArray) he ⟨hit, hT0⟩ hil hne (by simp [hne, hea]) fun y h' tk hy ho hst hT hsz hk => ?_
    have hyu : y = u := by
      have hy : its.toArray[i]? = some y := hy
      rw [List.getElem?_toArray, hu] at hy
      exact (Option.some.inj hy).symm
    subst hyu
    refine ⟨_, rfl, wpAny_letOwnedTupleGo_enum (s := { s with heap := h', toks := tk + 1 }) ho fun h'' he' sb => ?_⟩
    have hT2 : h''.get? s.heap.objs.size = some { cls := .type "tuple", data := .seq #[.int i tk, y] } := (sb.2 _ (Nat.ne_of_gt hel)).trans hT
    have new : ObjOk X.prog X.w (upd H s.heap.objs.size (.tup [.int (i : Nat), x])) h'' s.heap.objs.size (.tup [.int (i : Nat), x]) :=
      ⟨by show 2 ≤ sizeLine; decide, [.int i tk, y], .cons ⟨_, rfl⟩ (.cons ru .nil), ⟨_, hT2, rfl, _, rfl⟩⟩
    have I1 : Inv X pins σ (upd H s.heap.objs.size (.tup [.int (i : Nat), x])) { s with heap := h'', toks := tk + 1 } :=
      I.turnedNew (ch := [e, it]) (fun b ob hb q => (sb.2 b (fun z => hb (by simp [z]))).trans (hk b ob (fun z => hb (by simp [z])) (fun z => hb (by simp [z])) q)) hf (Nat.le_refl _) new
    refine ⟨.ref s.heap.objs.size, _, I1, rfl, ⟨_, x, rfl, I.hok.fresh (Nat.le_refl _), rfl, fun ys hy => by rw [I.tuple_inj hy hq]; exact hx⟩, ⟨⟨y, ?_⟩, hst.1.at fun o q => (sb.2 it (Ne.symm hne)).trans q, hne, hai, hea⟩, fun b hb => ?_⟩
    · have e1 : ((i + 1 : Nat) : Int) = (i : Int) + 1 := by omega
      rw [e1]; exact he'
    · have hb' : b < s.heap.objs.size := by
        have e' : b = e ∨ b = it := by simpa using hb
        rcases e' with z | z
        · rw [z]; exact hel
        · rw [z]; exact hitl
      rw [upd_ne (Nat.ne_of_lt hb')]
      exact (hf b hb).1
  done := by
    intro X hP hw hK hc i pins s σ H E I hf st hg
    subst hP hw hK
    obtain ⟨⟨old, he⟩, hit, hne, hai, hea⟩ := st
    obtain ⟨xs, hq, hx⟩ := hg
    obtain ⟨its, rv, p, hz⟩ := I.tuple hq
    obtain ⟨f0, f1, f2, f3, f4, f5⟩ := hf it (by simp)
    have hl : its.toArray.size = i := by rw [List.size_toArray, ← rv.length]; exact hx
    have hT0 : s.heap.IsTuple a its.toArray := by obtain ⟨o, h1, h2, n, h3⟩ := p; exact ⟨o, h1, h2, n, h3⟩
    exact wpAny_pyNext_enum_endD (Draws.tuple (A := X.A.in1) (show X.A.in1.handled = none from I.ok.hd hc) it a hai its.toArray) he ⟨by rw [hl]; exact hit, hT0⟩ fun h' eb => ⟨rfl, I.turned (t' := s.toks) (fun b o hb q => eb b o hb q) f0 f1 f3 f4 f5⟩
  self := fun A i s Q E st h => let ⟨⟨_, he⟩, _⟩ := st; wpAny_pyIter_enum he h
theorem pi_enumT {X : Cx} {e : Expr} {ta : TA} {p pos tpos : Pos} {elts : List Expr} {kk : Nat} (hg : Gl X "enumerate") (hm : X.mg "enumerate" = none) (ha : PA X [e] ta) (hs : starEach [e] X.env = [(false, eval e X.env)]) :
    PI X (.Tuple elts kk tpos) (.Call (.Name "enumerate" p) [e] [] pos) (fun σ H R => ta σ H fun vs H1 => ∃ a xs, vs = [.ref a] ∧ SqT X.K H1 a xs ∧ R (IteT X.K a) H1) := by
  refine ⟨fun pins s σ H R I h => ?_⟩
  refine Call_ (ld_blt I hg hm boot_enumerate (PyProof.Rows.callWith_type1 (thn (ha.run pos pins s σ H _ I h) fun us s1 ⟨vs, H1, I1, r1, q1⟩ => ?_) hs rfl))
  obtain ⟨a, xs, ex, hq, q⟩ := q1
  subst ex
  cases r1 with
  | cons r rr =>
    cases rr
    cases r
    obtain ⟨its, rv, p', hz⟩ := I1.tuple hq
    have hT0 : s1.heap.IsTuple a its.toArray := by obtain ⟨o, h1, h2, n, h3⟩ := p'; exact ⟨o, h1, h2, n, h3⟩
    have hal : a < s1.heap.objs.size := by obtain ⟨o, h1, _⟩ := hT0; exact Heap.lt_size h1
    refine call_enumT (begins_tuple a its.toArray) hT0 fun h' he hit hk => wpAny_pyIter_enum he ?_
    have I2 : Inv X pins σ H1 { s1 with heap := h' } := I1.kept (t' := s1.toks) hk
    refine ⟨s1.heap.objs.size + 1, [s1.heap.objs.size + 1, s1.heap.objs.size], _, _, H1, rfl, I2, turn_enumT a (s1.heap.objs.size + 1) s1.heap.objs.size, ⟨⟨.none, he⟩, ⟨_, hit, rfl, rfl⟩, Nat.succ_ne_self _, Nat.ne_of_lt hal, Nat.ne_of_gt (Nat.lt_succ_of_lt hal)⟩, fun b hb => ?_, q⟩
    have e' : b = s1.heap.objs.size + 1 ∨ b = s1.heap.objs.size := by simpa using hb
    have hle : s1.heap.objs.size ≤ b := by
      rcases e' with z | z
      · rw [z]; exact Nat.le_add_right _ _
      · rw [z]; exact Nat.le_refl _
    exact I1.fpOk hle (I1.hok.fresh hle)
section
variable {X : Cx} {cls : Cl} {U : XW} {C : Ctx} {a b c tg : Expr} {i j k : E} {pos : Pos}
theorem enumL_get : ∀ {xs : List D} {k0 : Int} {n : Nat} {d : D}, (enumL k0 xs)[n]? = some d → ∃ x, xs[n]? = some x ∧ d = .tup [.int (k0 + n), x]
  | [], _, _, _, h => by simp [enumL] at h
  | x :: xs, k0, 0, d, h => by
    simp [enumL] at h
    exact ⟨x, rfl, by rw [← h]; simp⟩
  | x :: xs, k0, n + 1, d, h => by
    rw [enumL, List.getElem?_cons_succ] at h
    obtain ⟨y, h1, h2⟩ := enumL_get h
    refine ⟨y, by simpa using h1, ?_⟩
    rw [h2]
    have e : k0 + 1 + (n : Int) = k0 + ((n + 1 : Nat) : Int) := by omega
    rw [e]
theorem enumL_len : ∀ (xs : List D) (k0 : Int), (enumL k0 xs).length = xs.length
  | [], _ => rfl
  | x :: xs, k0 => by rw [enumL, List.length_cons, List.length_cons, enumL_len xs]
/-- for i, x in enumerate(a tuple) -/
theorem gi_enum {p tpos : Pos} {elts : List Expr} {kk : Nat} (h : Good X cls U C a i) (hg : Gl X "enumerate") (hm : X.mg "enumerate" = none) (hs : noStar a = true) :
    PI X (.Tuple elts kk tpos) (.Call (.Name "enumerate" p) [a] [] pos) (tDI X.K X.w cls U true (evI C (.enum i))) := by
  refine PI.mono (PI.or (pi_enumT hg hm (pa_cons h.pe pa_nil (starEach_no hs)) (starEach_no hs)) (pi_enum hg hm (pa_cons h.pe pa_nil (starEach_no hs)) (starEach_no hs))) fun σ H Q q => ?_
  obtain ⟨W, env, st, he, A, _, q⟩ := q
  rw [evI] at q
  cases e : evE C i env st with
  | bad => rw [e] at q; exact q.elim
  | err k st' =>
    rw [e] at q
    exact .inl ⟨W, env, st, he, A, by rw [e]; exact q⟩
  | ok d st1 =>
    rw [e] at q
    cases d with
    | tup ds =>
      refine .inl ⟨W, env, st, he, A, ?_⟩
      rw [e]
      intro v W1 H1 x1 A1 r1
      obtain ⟨ad, us, xs, rfl, g, z, l⟩ := r1.tup_inv
      refine ⟨ad, xs, rfl, SqT_ft (A1.sub _ _ g), ?_⟩
      have q1 : Aft X.K X.w cls U (fun W' (J : L2.It) p => p.1.length ≤ sizeLine ∧ WalkD X.K X.w cls W' J p.1 p.2 true) W H (.ok (enumL 0 ds, .no) st1) Q := q
      refine q1 _ W1 H1 x1 A1 ⟨by rw [enumL_len]; exact z, fun W2 st2 H2 le A2 _ _ => ?_⟩
      have hq : SqT X.K H2 ad xs := SqT_ft (A2.sub _ _ (le.g _ _ g))
      refine ⟨fun n d hn => ?_, ⟨xs, hq, by rw [enumL_len]; exact l.length⟩⟩
      obtain ⟨dx, h1, rfl⟩ := enumL_get hn
      obtain ⟨y, h2, h3⟩ := l.get h1
      refine ⟨⟨xs, y, hq, h2⟩, fun v H' hy => ⟨.inr ?_, fun z => by cases z⟩⟩
      obtain ⟨T, x, rfl, hT, rfl, hx2⟩ := hy
      have hx2 := hx2 xs hq
      rw [h2] at hx2
      cases hx2
      exact ⟨T, _, _, _, _, rfl, hT, rfl, rfl, by rw [Int.zero_add]; exact .int _, h3.mono le⟩
    | lst ds =>
      refine .inr ⟨W, env, st, he, A, ?_⟩
      rw [e]
      intro v W1 H1 x1 A1 r1
      obtain ⟨ad, xs, rfl, g, z, l⟩ := r1.lst_inv
      refine ⟨ad, xs, rfl, SqL.of (A1.sub _ _ g), ?_⟩
      have q1 : Aft X.K X.w cls U (fun W' (J : L2.It) p => p.1.length ≤ sizeLine ∧ WalkD X.K X.w cls W' J p.1 p.2 true) W H (.ok (enumL 0 ds, .no) st1) Q := q
      refine q1 _ W1 H1 x1 A1 ⟨by rw [enumL_len]; exact z, fun W2 st2 H2 le A2 _ _ => ?_⟩
      have hq : SqL X.K H2 ad xs := SqL.of (A2.sub _ _ (le.g _ _ g))
      refine ⟨fun n d hn => ?_, ⟨xs, hq, by rw [enumL_len, l.length]; exact Nat.le_refl _⟩⟩
      obtain ⟨dx, h1, rfl⟩ := enumL_get hn
      obtain ⟨y, h2, h3⟩ := l.get h1
      refine ⟨⟨xs, y, hq, h2⟩, fun v H' hy => ⟨.inr ?_, fun z => by cases z⟩⟩
      obtain ⟨T, x, rfl, hT, rfl, hx2⟩ := hy
      have hx2 := hx2 xs hq
      rw [h2] at hx2
      cases hx2
      exact ⟨T, _, _, _, _, rfl, hT, rfl, rfl, by rw [Int.zero_add]; exact .int _, h3.mono le⟩
    | _ => exact q.elim
end
end EV
/-! EvT8: the statement d[k] = v. (under way) -/
namespace EV
open PySem PySem.Spec PyProof.Rows L2

theorem s_put {X : Cx} {cls : Cl} {U : XW} {C : Ctx} {a b c : Expr} {i j k : E} {p2 pos : Pos} (hu : X.A.units + 64 < cLine) (ha : Good X cls U C a i) (hb : Good X cls U C b j) (hc : Good X cls U C c k) (hn : notSlice b = true) (hs : notComp c = true) :
    GoodS X cls U C (.Assign [.Subscript a b p2] c pos) (.put i j k) := by
  refine PS.mono (ps_asg hc.pe (pg_sub ha.pe hb.pe (t_put (cls := cls) hu) (fun v => by cases b <;> first | rfl | (simp [notSlice] at hn))) (by rw [swapsWithSole]; exact noswap hs) (by cases c <;> rfl) rfl) fun D σ H h => ?_
  obtain ⟨W, env, st, he, A, q⟩ := h
  rw [evS] at q
  refine ⟨W, env, st, he, A, (q.bind).mono fun v H1 ⟨W1, st1, d, x1, A1, r1, q1⟩ => ?_⟩
  refine ⟨W1, env, st1, he.mono x1.le, A1, (q1.bind).mono fun o H2 ⟨W2, st2, d2, x2, A2, r2, q2⟩ => ?_⟩
  refine ⟨W2, env, st2, (he.mono x1.le).mono x2.le, A2, (q2.bind).mono fun y H3 ⟨W3, st3, d3, x3, A3, r3, q3⟩ => ?_⟩
  cases d2 with
  | ref n =>
    cases e : st3[n]? with
    | none => simp only [e] at q3; exact q3.elim
    | some ob =>
      cases ob with
      | dic kvs =>
        simp only [e] at q3
        obtain ⟨hb, q3⟩ := AftS.test q3
        rw [Bool.and_eq_true, decide_eq_true_eq] at hb
        exact ⟨W3, st3, n, d3, d, kvs, A3, r2.mono x3.le, r3, (r1.mono x2.le).mono x3.le, e, hb.1, hb.2, fun W' H' x' A' => q3 σ W' H' x' A' ((((he.mono x1.le).mono x2.le).mono x3.le).mono x'.le)⟩
      | _ => simp only [e] at q3; exact q3.elim
  | _ => exact q3.elim
end EV
/-! EvIt: sorted(d.items()). -/
namespace EV
open PySem PySem.Spec PyProof.Rows L2

section
variable {X : Cx} {cls : Cl} {U : XW} {C : Ctx} {a b c : Expr} {i j k : E} {pos : Pos}
theorem pe_items {apos cpos : Pos} (ho : Good X cls U C a i) (hb : notSup a = true) (hline : (apos.endLine == cpos.line) = true) :
    PE X (.Call (.Attribute a "items" apos) [] [] cpos) (fun σ H Q => ∃ W env st, EnvOk X.K W σ env ∧ Ag X.K X.w cls W st H ∧ Aft X.K X.w cls U (Rep X.K) W H (evE C i env st) fun x H1 => ∃ W1 st1 n kvs, Ag X.K X.w cls W1 st1 H1 ∧ Rep X.K W1 x (.ref n) ∧ DicAt st1 n kvs ∧ ∀ p a, x = .ref a → H1 p = none → Q (.ref p) (upd H1 p (L2.DX.itemsO p a))) := by
  refine ⟨fun pins s σ H Q I h => ?_⟩
  have h0 := ho.pe.run pins s σ H _ I h
  refine wpAny_Call_method_late (notSup_base hb) (few_args (es := []) rfl (by decide)) hline rfl (thn h0 fun v s1 ⟨x, H1, I1, r1, W1, st1, n, kvs, A1, rx, hd, q1⟩ => ?_)
  have hk : (D.ref n).kd st1 = some .dic := by
    rcases hd with e | e
    · simp [D.kd, e]
    · simp [D.kd, e]
  obtain ⟨h1, h2⟩ := rx.ty I1 A1 hk (.inr (.inr (.inr rfl))) r1
  refine ⟨"dict", "dict.items", F.plainAttrs_dict, F.slot_dict_items, F.type_dict_items, h1, h2, ?_⟩
  refine Calls.callWith_builtin (plain_args (es := []) rfl) ?_
  exact PySem.evalArgs_none (t_items (cls := cls) pins s1 σ H1 x [] v [] Q I1 r1 .nil ⟨W1, st1, n, kvs, A1, rx, rfl, hd, q1⟩)
theorem g_srtI {p apos cpos : Pos} (hc : X.calm = true) (hu : X.A.units + 64 < cLine) (ho : Good X cls U C a i) (hb : notSup a = true) (hline : (apos.endLine == cpos.line) = true) (hg : Gl X "sorted") (hm : X.mg "sorted" = none) :
    Good X cls U C (.Call (.Name "sorted" p) [.Call (.Attribute a "items" apos) [] [] cpos] [] pos) (.blt .srtI (.cons i .nil)) := by
  refine good_val (PE.mono (pe_callB (sort_items (cls := cls) (U := U) hc hu) hg hm (by decide +kernel) (pa_cons (pe_items ho hb hline) pa_nil rfl) (by decide) (by decide) rfl rfl) fun σ H Q h => ?_) fun _ => rfl
  obtain ⟨W, env, st, he, A, q⟩ := h
  rw [evE, evEs, R.bind_assoc] at q
  refine ⟨W, env, st, he, A, (q.bind).mono fun x H1 ⟨W1, st1, d, x1, A1, r1, q1⟩ => ?_⟩
  rw [evEs] at q1
  simp only [R.bind_ok] at q1
  cases d with
  | ref n =>
    cases e : st1[n]? with
    | none => simp only [bltD, e] at q1; exact q1.elim
    | some ob =>
      cases ob with
      | dic kvs => exact ⟨W1, st1, n, kvs, A1, r1, .inl e, fun p a ex hp => by
          obtain ⟨a2, e2, ha⟩ := r1.ref_inv
          rw [ex] at e2
          cases e2
          obtain ⟨f1, f2⟩ := A1.fresh hp
          exact ⟨W1, st1, n, kvs, p, a, rfl, upd_same, A1.aside f1 f2 (.inl hp), ha, .inl e, Aft.shift ((Ext.refl W1 H1).aside hp) q1⟩⟩
      | lck kvs => exact ⟨W1, st1, n, kvs, A1, r1, .inr e, fun p a ex hp => by
          obtain ⟨a2, e2, ha⟩ := r1.ref_inv
          rw [ex] at e2
          cases e2
          obtain ⟨f1, f2⟩ := A1.fresh hp
          exact ⟨W1, st1, n, kvs, p, a, rfl, upd_same, A1.aside f1 f2 (.inl hp), ha, .inr e, Aft.shift ((Ext.refl W1 H1).aside hp) q1⟩⟩
      | _ => simp only [bltD, e] at q1; exact q1.elim
  | _ => simp only [bltD] at q1; exact q1.elim
end
end EV
/-! EvX: instances: attributes read and set. -/
namespace EV
open PySem PySem.Spec PyProof.Rows L2

section
variable {X : Cx} {cls : Cl} {U : XW} {C : Ctx} {a b : Expr} {i j : E} {f : Str} {pos p2 : Pos}
/-- what the classes of the table are like, for a name -/
def ClsOk (K : PySem.W.Frag) (cls : Cl) (f : Str) : Prop := ∀ c A, cls c = some A → Cls K A ∧ NoAttr K A f
theorem RepF.get {K : PySem.W.Frag} {W : Wd} : ∀ {vs : List (Str × V)} {ds : List (Str × D)} {d : D}, RepF K W vs ds → fget ds f = some d → ∃ v, vs.lookup f = some v ∧ Rep K W v d
  | _, _, _, .nil, h => by cases h
  | _, _, _, .cons (f := g) (v := v) (d := d1) (vs := vs) (ds := ds) r t, h => by
    rw [fget] at h
    by_cases e : g = f
    · rw [if_pos e] at h
      cases h
      exact ⟨v, by rw [List.lookup_cons, show (f == g) = true by simp [e]], r⟩
    · rw [if_neg e] at h
      obtain ⟨v2, h1, h2⟩ := RepF.get t h
      exact ⟨v2, by rw [List.lookup_cons, show (f == g) = false by simpa using fun z => e z.symm]; exact h1, h2⟩
theorem RepF.put {K : PySem.W.Frag} {W : Wd} {v : V} {d : D} (r : Rep K W v d) : ∀ {vs : List (Str × V)} {ds : List (Str × D)}, RepF K W vs ds → RepF K W (putF f v vs) (fput ds f d)
  | _, _, .nil => .cons r .nil
  | _, _, .cons (f := g) (v := v1) (d := d1) (vs := vs) (ds := ds) q t => by
    show RepF K W (if g = f then (g, v) :: vs else (g, v1) :: putF f v vs) (if g = f then (g, d) :: ds else (g, d1) :: fput ds f d)
    by_cases e : g = f
    · rw [if_pos e, if_pos e]
      exact .cons r t
    · rw [if_neg e, if_neg e]
      exact .cons q (RepF.put r t)
theorem RepF.len {K : PySem.W.Frag} {W : Wd} : ∀ {vs : List (Str × V)} {ds : List (Str × D)}, RepF K W vs ds → vs.length = ds.length
  | _, _, .nil => rfl
  | _, _, .cons q t => by rw [List.length_cons, List.length_cons, t.len]
theorem g_fld (hc : ClsOk X.K cls f) (ha : Good X cls U C a i) (hb : attributeBase a f X.env (eval a X.env) = eval a X.env) : Good X cls U C (.Attribute a f pos) (.fld i f) := by
  refine good_val (PE.mono (pe_fld ha.pe hb) fun σ H Q h => ?_) fun _ => rfl
  obtain ⟨W, env, st, he, A, q⟩ := h
  rw [evE] at q
  refine ⟨W, env, st, he, A, (q.bind).mono fun x H1 ⟨W1, st1, dx, x1, A1, r1, q1⟩ => ?_⟩
  cases dx with
  | ref n =>
    obtain ⟨ad, e2, hn⟩ := r1.ref_inv
    obtain ⟨o, ho, oa⟩ := A1.at hn
    simp only [ho] at q1
    cases o with
    | ins c fs =>
      obtain ⟨CA, dx, vs, k1, k2, k3⟩ := oa
      cases hf : fget fs f with
      | none => simp only [hf] at q1; exact q1.elim
      | some d =>
        simp only [hf, R.of_some] at q1
        obtain ⟨v, l1, l2⟩ := k3.get hf
        exact ⟨ad, CA, dx, vs, v, e2, k2, (hc c CA k1).1, (hc c CA k1).2, l1, q1.val A1 l2⟩
    | _ => exact q1.elim
  | _ => exact q1.elim
theorem s_fld (hc : ClsOk X.K cls f) (ha : Good X cls U C a i) (hb : Good X cls U C b j) (hs : swapsWith b (some (.Attribute a f p2)) pos.line X.env = pure false) : GoodS X cls U C (.Assign [.Attribute a f p2] b pos) (.fld i f j) := by
  refine PS.mono (ps_fld ha.pe hb.pe hs) fun D σ H h => ?_
  obtain ⟨W, env, st, he, A, q⟩ := h
  rw [evS] at q
  refine ⟨W, env, st, he, A, (q.bind).mono fun y H1 ⟨W1, st1, d, x1, A1, r1, q1⟩ => ?_⟩
  refine ⟨W1, env, st1, he.mono x1.le, A1, (q1.bind).mono fun x H2 ⟨W2, st2, dx, x2, A2, r2, q2⟩ => ?_⟩
  cases dx with
  | ref n =>
    obtain ⟨ad, e2, hn⟩ := r2.ref_inv
    obtain ⟨o, ho, oa⟩ := A2.at hn
    simp only [ho] at q2
    cases o with
    | ins c fs =>
      obtain ⟨hl, q2⟩ := AftS.test q2
      rw [decide_eq_true_eq] at hl
      obtain ⟨CA, dx, vs, k1, k2, k3⟩ := oa
      have k4 := k3.put (f := f) (r1.mono x2.le)
      obtain ⟨A3, x3⟩ := A2.setObj (o := .ins c (fput fs f d)) (H' := upd H2 ad (.ins CA dx (putF f y vs))) hn (fun b hb => upd_ne hb) ⟨CA, dx, _, k1, upd_same, k4⟩ (fun u v z => by rw [k2] at z; cases z)
      exact ⟨ad, CA, dx, vs, e2, k2, (hc c CA k1).1, (hc c CA k1).2, by rw [k3.len]; omega, q2 σ _ _ x3 A3 (((he.mono x1.le).mono x2.le).mono x3.le)⟩
    | _ => exact q2.elim
  | _ => exact q2.elim
/-! ### instances made -/
theorem make_read {xa : Nat → Addr} {c f : Nat} {CA : Addr} {H1 : Hp} {W1 : Wd} {st1 : Store} {vs : List V} {ds : List D} {Q : VK} (hc : cls c = some CA) (hi : C.init c = some f) (A1 : Ag X.K X.w cls W1 st1 H1) (r1 : RepL X.K W1 vs ds)
    (q1 : Aft X.K X.w cls U (Rep X.K) W1 H1 ((R.of (C.init c) st1).bind fun f st => (C.call f (.ref st.length :: ds) (st ++ [.ins c []])).bind fun v st' => match v with
      | .non => .ok (.ref st.length) st'
      | _ => .bad) Q) (x dx : Addr) (hx : H1 x = none) (hdx : H1 dx = none) (hne : dx ≠ x) :
    spD X.K X.w cls xa (C.call f) (.ref x :: (vs ++ [])) (upd (upd H1 dx (.own x)) x (.ins CA dx [])) (fun v H2 => v = .non ∧ Q (.ref x) H2) (wU xa U) := by
  rw [hi, R.of_some, R.bind_ok] at q1
  have kp : ∀ b u, H1 b = some u → upd (upd H1 dx (.own x)) x (.ins CA dx []) b = some u := fun b u e => by
    rw [upd_ne (ne_of_none e hx), upd_ne (ne_of_none e hdx)]
    exact e
  obtain ⟨A2, x2⟩ := A1.newObj (o := .ins c []) (H' := upd (upd H1 dx (.own x)) x (.ins CA dx [])) hx kp (by rw [upd_same]; simp) ⟨CA, dx, [], hc, upd_same, .nil⟩
  have hr : Rep X.K ⟨W1.G, W1.ρ ++ [x]⟩ (.ref x) (.ref st1.length) := .ref (by rw [← A1.len]; simp)
  rw [List.append_nil]
  refine ⟨_, _, .ref st1.length :: ds, A2, .cons hr (r1.mono x2.le), ?_⟩
  have q2 := ((q1.shift x2).bind (rel := Rep X.K))
  refine Aft.impU (Aft.mono q2 fun v H3 ⟨W3, st3, d, x3, A3, r3, q3⟩ => ?_) fun k H u => ⟨k, rfl, rfl, u⟩
  cases d with
  | non => exact ⟨r3.non_inv, q3.val A3 (hr.mono x3.le)⟩
  | _ => exact q3.elim
theorem g_make {n f c : Nat} {fa CA : Addr} {fd : FuncData} {ps : List Str} {xa : Nat → Addr} {x : Str} {p : Pos} {es : List Expr} {is : List E} (hc : cls c = some CA) (hi : C.init c = some f) (M : Mk X.K CA fa)
    (F : FnOk X.prog X.w X.K X.mg X.base (L2.CX X.prog X.w) n fa fd ps (spD X.K X.w cls xa (C.call f))) (hr : Room (n + 1) X.A) (hg : Gl X x) (hm : X.mg x = some (.ref CA)) (hb : Binds X.K fd ps []) (tk : Takes X (fun c d _ H => wU xa U c d H)) (hdb : (x == ("__debug__" : Str)) = false)
    (t : Goods X cls U C es is) (hs : es.all noStar = true) : Good X cls U C (.Call (.Name x p) es [] pos) (.make c (listEs is)) := by
  cases t with
  | nil =>
    refine good_val (PE.mono (pe_make0 M F hr hg hm hb .nil (passes_U tk) hdb) fun σ H Q h => ?_) fun _ => rfl
    obtain ⟨W, env, st, he, A, q⟩ := h
    rw [evE, listEs, evEs] at q
    exact make_read hc hi A .nil q
  | @cons e ie es is g t =>
    have hs' := hs
    rw [List.all_cons, Bool.and_eq_true] at hs'
    refine good_val (PE.mono (pe_make M F hr hg hm hb .nil (passes_U tk) (args_ok (.cons g t) hs) hdb (starEach_no hs'.1) (plain_args hs'.2)) fun σ H Q h => ?_) fun _ => rfl
    obtain ⟨W, env, st, he, A, q⟩ := h
    rw [evE] at q
    exact ⟨W, env, st, he, A, (q.bind).mono fun vs H1 ⟨W1, st1, ds, x1, A1, r1, q1⟩ => make_read hc hi A1 r1 q1⟩
/-! ### own methods -/
theorem meth_form {apos : Pos} {m : Str} {es : List Expr} {env : PySem.Env} (hn : notSup a = true) (hs : es.all noStar = true) (hl : es.length < 29) (hline : (apos.endLine == pos.line) = true) :
    eval (.Call (.Attribute a m apos) es [] pos) env = (do
      let w ← eval a env
      standAt apos.atName
      let (g, lead) ← holding [w] (getMethod w m (do return (← importBound a env).getD true))
      callWith pos g lead (backTo pos (starEach es env)) (backToKw pos (keywordEach [] env))) := by
  have hf : methodCallForm (es.length + ([] : List Keyword).length) (backTo pos (starEach es env)) (backToKw pos (keywordEach [] env)) = true := few_args hs hl
  rw [arm_eval_Call, notSup_base hn]
  unfold methodCall calleeOf methodCallPos
  rw [hf, hline]
  rfl
/-- what is known of a method's name, class by class -/
def MtdOk (X : Cx) (cls : Cl) (C : Ctx) (xa : Nat → Addr) (m : Str) : Prop := ∀ c CA f, cls c = some CA → C.meth c m = some f →
  ∃ n fa fd ps, Cls X.K CA ∧ Meth X.K CA m fa ∧ FnOk X.prog X.w X.K X.mg X.base (L2.CX X.prog X.w) n fa fd ps (spD X.K X.w cls xa (C.call f)) ∧ Room n X.A ∧ Binds X.K fd ps []
theorem RepF.no {K : PySem.W.Frag} {W : Wd} : ∀ {vs : List (Str × V)} {ds : List (Str × D)}, RepF K W vs ds → fget ds f = none → vs.lookup f = none
  | _, _, .nil, _ => rfl
  | _, _, .cons (f := g) (v := v) (d := d1) (vs := vs) (ds := ds) r t, h => by
    rw [fget] at h
    by_cases e : g = f
    · rw [if_pos e] at h
      cases h
    · rw [if_neg e] at h
      rw [List.lookup_cons, show (f == g) = false by simpa using fun z => e z.symm]
      exact RepF.no t h
theorem g_meth {xa : Nat → Addr} {m : Str} {apos : Pos} {es : List Expr} {is : List E} (hM : MtdOk X cls C xa m) (ho : Good X cls U C a i) (t : Goods X cls U C es is) (tk : Takes X (fun c d _ H => wU xa U c d H)) (hn : notSup a = true) (hs : es.all noStar = true) (hl : es.length < 29)
    (hline : (apos.endLine == pos.line) = true) : Good X cls U C (.Call (.Attribute a m apos) es [] pos) (.meth m i (listEs is)) := by
  refine good_val ⟨fun pins s σ H Q I h => ?_⟩ fun _ => rfl
  obtain ⟨W, env, st, he, A, q⟩ := h
  rw [evE] at q
  have h0 := ho.pe.run pins s σ H _ I ⟨W, env, st, he, A, Aft.bind (rel := Rep X.K) q⟩
  refine PySem.W.methodCall_KW (thn h0 fun u s1 ⟨x, H1, I1, rx, W1, st1, dx, x1, A1, r1, q1⟩ => ?_) (meth_form hn hs hl hline)
  cases dx with
  | ref n =>
    obtain ⟨ad, e2, hn2⟩ := r1.ref_inv
    obtain ⟨o, ho2, oa⟩ := A1.at hn2
    simp only [ho2] at q1
    cases o with
    | ins c fs =>
      obtain ⟨hno, q1⟩ := Aft.test q1
      obtain ⟨CA, dd, vs, k1, k2, k3⟩ := oa
      have hno2 : fget fs m = none := by
        cases z : fget fs m with
        | none => rfl
        | some v => rw [z] at hno; cases hno
      cases hf : C.meth c m with
      | none => simp only [hf] at q1; exact q1.elim
      | some f =>
        simp only [hf, R.of_some, R.bind_ok] at q1
        obtain ⟨k, fa, fd, ps, c1, c2, F, hr, hb⟩ := hM c CA f k1 hf
        subst e2
        obtain rfl : u = Value.ref ad := rx
        refine getmeth_ok I1 k2 c1 c2 (k3.no hno2) ?_
        cases t with
        | nil =>
          rw [listEs, evEs] at q1
          refine PySem.W.callWith_K0 (first := [.ref ad]) I1.kIn c2.kp ?_
          exact run_fn (dvs := []) (ds := []) (us := [.ref ad]) (vs := [.ref ad]) F hr hb .nil (passes_U tk) I1 (.cons rfl .nil) ⟨W1, st1, [.ref n], A1, .cons r1 .nil, Aft.impU q1 fun k H u => ⟨k, rfl, rfl, u⟩⟩
        | @cons e ie es is g t =>
          have hs' := hs
          rw [List.all_cons, Bool.and_eq_true] at hs'
          have hA := (args_ok (.cons g t) hs).run pos pins s1 σ H1 (fun vs H2 => spD X.K X.w cls xa (C.call f) (.ref ad :: vs) H2 Q (wU xa U)) I1
            ⟨W1, env, st1, he.mono x1.le, A1, (q1.bind).mono fun vs H2 ⟨W2, st2, ds, x2, A2, r2, q2⟩ => ⟨W2, st2, .ref n :: ds, A2, .cons (r1.mono x2.le) r2, Aft.impU q2 fun k H u => ⟨k, rfl, rfl, u⟩⟩⟩
          refine PySem.W.callWith_K (first := [.ref ad]) (h₀ := X.base) I.ok.mod.kin c2.kp (thn hA fun us s2 ⟨ws, H2, I2, r, q2⟩ => ⟨I2.kIn, ?_⟩) (starEach_no hs'.1) (plain_args hs'.2)
          refine run_fn (dvs := []) (ds := []) (us := .ref ad :: us) (vs := .ref ad :: ws) F hr hb .nil (passes_U tk) I2 (.cons rfl r) ?_
          rw [List.append_nil]
          exact q2
    | _ => exact q1.elim
  | _ => exact q1.elim
end
end EV
/-! EvY: tuple(range(n)). -/
namespace EV
open PySem PySem.Spec PyProof.Rows L2

section
variable {X : Cx} {cls : Cl} {U : XW} {C : Ctx} {a b c e : Expr} {i j k : E} {pos : Pos} {te : L2.St → Hp → (Int → Int → Hp → Prop) → Prop}
theorem pe_tupRgF {p pos : Pos} (hc : X.calm = true) (hg : Gl X "tuple") (hm : X.mg "tuple" = none) (he : PRg X e te) (na : starEach [e] X.env = (false, eval e X.env) :: starEach [] X.env := by rfl) :
    PE X (.Call (.Name "tuple" p) [e] [] pos) (fun σ H Q => te σ H fun a b H1 => RgOk a b ∧ ∀ q us, H1 q = none → Q (.ref q) (upd H1 q (FT us (rgV a b)))) := by
  refine ⟨fun pins s σ H Q I h => ?_⟩
  refine Call_ (ld_blt I hg hm boot_tuple (PyProof.Rows.callWith_type1 (args_cons (thn (he pins s σ H _ I h) fun x s1 ⟨r, a, b, t, u, v, H1, ex, hr, I1, ok, q⟩ => args_nil ?_) na) na))
  subst ex
  obtain ⟨b1, b2, b3, b4, b5⟩ := ok
  refine call_tuple_range (n := (b - a).toNat) (I1.ok.hd hc) hr (small_one b1 b2 b3 b4) (rangeSize_nat a b) b5 fun h' tk acc hk hi => ?_
  have I2 : Inv X pins σ H1 { s1 with heap := h', toks := tk } := I1.kept hk
  have hz : (rgV a b).length ≤ sizeLine := by rw [rgV_length, sizeLine_eq]; omega
  have := I2.laidT (t' := tk) (vals_rg hi) hz
  have e1 : ({ cls := Value.type "tuple", data := Data.seq acc } : Obj) = tupOb acc.toList := by rw [tupOb, Array.toArray_toList]
  rw [e1]
  exact ⟨.ref h'.objs.size, _, this, rfl, q _ _ (I2.hok.fresh (Nat.le_refl _))⟩
theorem rgV_repL {W : Wd} (n : Int) : RepL X.K W (rgV 0 n) ((List.range n.toNat).map fun i : Nat => D.int i) := by
  have : rgV 0 n = (((List.range n.toNat).map fun i : Nat => (i : Int)).map V.int) := by
    simp [rgV]
  rw [this]
  have := RepL.ints (K := X.K) (W := W) ((List.range n.toNat).map fun i : Nat => (i : Int))
  rw [List.map_map (g := D.int)] at this
  exact this
theorem g_tupRg {p p2 q2 : Pos} (hc : X.calm = true) (hg : Gl X "tuple") (hm : X.mg "tuple" = none) (hg2 : Gl X "range") (hm2 : X.mg "range" = none) (h : Good X cls U C a i) (hs : noStar a = true) :
    Good X cls U C (.Call (.Name "tuple" p) [.Call (.Name "range" p2) [a] [] q2] [] pos) (.blt .tupRange (.cons i .nil)) := by
  refine good_val (PE.mono (pe_tupRgF hc hg hm (prg_1 hg2 hm2 h.pe (starEach_no hs))) fun σ H Q h => ?_) fun _ => rfl
  obtain ⟨W, env, st, he, A, q⟩ := h
  rw [evE, evEs] at q
  have q' : Aft X.K X.w cls U (Rep X.K) W H ((evE C i env st).bind fun x st => bltD .tupRange [x] st) Q := by
    cases e : evE C i env st with
    | ok x st1 => rw [e] at q; simp only [R.bind_ok, evEs] at q ⊢; exact q
    | err k st1 => rw [e] at q; exact q
    | bad => rw [e] at q; exact q
  refine ⟨W, env, st, he, A, (q'.bind).mono fun x H1 ⟨W1, st1, d, x1, A1, r1, q1⟩ => ?_⟩
  cases d with
  | int n =>
    simp only [bltD] at q1
    obtain ⟨hb, q1⟩ := Aft.test q1
    simp only [Bool.and_eq_true, decide_eq_true_eq] at hb
    refine ⟨n, r1.int_inv, ⟨by omega, by omega, by omega, by omega, by omega⟩, ?_⟩
    exact Aft.newTup A1 q1 (rgV_repL n) (by rw [List.length_map, List.length_range, sizeLine_eq]; omega)
  | _ => exact q1.elim
end
end EV
/-! EvV: dict(pairs); d != {}. -/
namespace EV
open PySem PySem.Spec PyProof.Rows L2

section
variable {prog : Program} {w : World} {A : Around} {E : Value → Shared → Prop} {s : Shared}
theorem same_empty {nm : String} {a b : Addr} {oa ob : Obj} {es : Array DictEntry} {ep ep' : Nat} {Q : Bool → Shared → Prop} (ha : (a == sysModules) = false) (hb : (b == sysModules) = false)
    (hoa : s.heap.get? a = some oa) (hda : oa.data = .dict es ep) (hob : s.heap.get? b = some ob) (hdb : ob.data = .dict #[] ep') (h : Q (decide (es.size = 0)) s) :
    wpAny (model prog w) A (Builtin.Dict.samePairs nm a b) Q E s := by
  unfold Builtin.Dict.samePairs Builtin.Dict.showsAll
  rw [if_neg (show ¬ (a == sysModules) = true by rw [ha]; exact Bool.false_ne_true), if_neg (show ¬ (b == sysModules) = true by rw [hb]; exact Bool.false_ne_true)]
  refine wpAny_bind (wpAny_pure (wpAny_bind (wpAny_pure ?_)))
  refine wpAny_bind (wpAny_dictEntries hoa hda ?_)
  dsimp only
  refine wpAny_bind (wpAny_dictEntries hob hdb ?_)
  by_cases hsz : es.size = 0
  case neg =>
    rw [if_pos (by simpa using hsz)]
    rw [decide_eq_false hsz] at h
    exact wpAny_bind (wpAny_rule (wpAny_pure h))
  case pos =>
    rw [decide_eq_true hsz] at h
    rw [if_neg (by rw [hsz]; simp)]
    refine wpAny_bind (wpAny_dictEpoch hoa hda ?_)
    refine wpAny_bind ?_
    rw [Std.Legacy.Range.forIn_eq_forIn_range']
    simp only [Std.Legacy.Range.size, Nat.sub_zero, Nat.add_sub_cancel, Nat.div_one]
    refine wpAny_forIn_list _ (fun rest q s' => s' = s ∧ q = (none, ()) ∧ rest = []) _ ?_ ?_ _ _ ⟨rfl, rfl, by rw [hsz]; rfl⟩
    · rintro x rest q s' ⟨rfl, rfl, hr⟩
      cases hr
    · rintro q s' ⟨rfl, rfl, _⟩
      exact wpAny_pure h
theorem ne_empty {a b : Addr} {oa ob : Obj} {es : Array DictEntry} {ep ep' : Nat} {Q : Value → Shared → Prop} (ha : (a == sysModules) = false) (hb : (b == sysModules) = false)
    (hoa : s.heap.get? a = some oa) (hca : oa.cls = .type "dict") (hda : oa.data = .dict es ep) (hob : s.heap.get? b = some ob) (hcb : ob.cls = .type "dict") (hdb : ob.data = .dict #[] ep') (hu : A.units < cLine) (h : Q (.bool (!decide (es.size = 0))) s) :
    wpAny (model prog w) A (compareOp .NotEq (.ref a) (.ref b)) Q E s := by
  have ta : s.TypeIs (.ref a) "dict" := ⟨oa, hoa, hca⟩
  have tb : s.TypeIs (.ref b) "dict" := ⟨ob, hob, hcb⟩
  refine wpAny_richCompare_same_room (op := .NotEq) ta tb PySem.F.slot_dict_ne (wpAny_call_entry PySem.F.slot_dict_ne ta PySem.F.entry_dict_ne ?_ (PySem.F.args_dict_ne_2 _ _)) hu
  show wpAny _ _ (Builtin.Dict.dictSlotArgs "__ne__" ⟨[.ref a, .ref b], []⟩ >>= _) _ _ s
  refine wpAny_bind ?_
  unfold Builtin.Dict.dictSlotArgs
  refine wpAny_bind (wpAny_notOrdered_dict ta ?_)
  show wpAny _ _ (pure (Value.ref a, Value.ref b)) _ _ s
  refine wpAny_pure ?_
  refine wpAny_bind (wpAny_isInstance (T := "dict") tb PySem.F.sub_dict_dict ?_)
  simp only [Bool.not_true, Bool.false_eq_true, if_false]
  refine wpAny_bind (wpAny_pure (wpAny_bind (wpAny_pure ?_)))
  refine wpAny_bind (same_empty ha hb hoa hda hob hdb ?_)
  refine wpAny_pure ⟨_, rfl, ?_, ?_⟩
  · exact fun x => nomatch x
  · simpa using h
end
section
variable {X : Cx} {cls : Cl} {U : XW}
theorem t_neE (hu : X.A.units + 64 < cLine) : OpR X (compareOp .NotEq) (fun x y H Q => ∃ W st i j kvs, Ag X.K X.w cls W st H ∧ Rep X.K W x (.ref i) ∧ Rep X.K W y (.ref j) ∧ st[i]? = some (.dic kvs) ∧ st[j]? = some (.dic []) ∧ Q (.bl (!kvs.isEmpty)) H) := by
  intro pins s σ H x y v u Q I rx ry h
  obtain ⟨W, st, i, j, kvs, A, r1, r2, h1, h2, q⟩ := h
  obtain ⟨a, rfl, ha⟩ := r1.ref_inv
  obtain ⟨b, rfl, hb⟩ := r2.ref_inv
  obtain ⟨o1, g1, d1⟩ := A.obj _ _ _ h1 ha
  obtain ⟨o2, g2, d2⟩ := A.obj _ _ _ h2 hb
  obtain ⟨_, hs1, hz1, es1, ep1, x1, dd1, re1, _⟩ := d1
  obtain ⟨_, hs2, hz2, es2, ep2, x2, dd2, re2, _⟩ := d2
  cases rx
  cases ry
  have he : es2 = #[] := by
    have := re2.len
    rw [Array.length_toList, List.length_nil] at this
    exact Array.eq_empty_of_size_eq_zero this
  subst he
  have hl : es1.size = kvs.length := by
    have := re1.len
    rw [Array.length_toList] at this
    exact this
  refine ne_empty hs1 hs2 (I.hok _ _ g1).1 x1.1 dd1 (I.hok _ _ g2).1 x2.1 dd2 (by omega) ?_
  refine ⟨.bl _, H, I, rfl, ?_⟩
  have e : (!decide (es1.size = 0)) = !kvs.isEmpty := by
    rw [hl]
    cases kvs <;> simp
  rw [e]
  exact q
/-! ### dict(pairs) -/
/-- pairs: where each stands, its key, its value -/
inductive PX (K : PySem.W.Frag) (W : Wd) (h : Heap) : List (Addr × NestedKey × Addr × Value) → List (D × D) → Prop
  | nil : PX K W h [] []
  | cons {T b : Addr} {u : Value} {k v : D} {L : List (Addr × NestedKey × Addr × Value)} {ps : List (D × D)} : PairAt h T (.ref b) u → k.key 6 = true → k.isTup = true → Rep K W (.ref b) k → valRel K W u v → PX K W h L ps → PX K W h ((T, k.nk, b, u) :: L) ((k, v) :: ps)
theorem ft_at {pins : List (Addr × Obj)} {σ : L2.St} {H : Hp} {s : Shared} {W : Wd} {st : Store} (I : Inv X pins σ H s) (A : Ag X.K X.w cls W st H) {a : Addr} {us : List Value} {xs : List V} (g : W.G a = some (FT us xs)) : s.heap.get? a = some (tupOb us) ∧ Vals xs us := by
  have h1 := (I.hok _ _ (A.sub _ _ g)).1
  obtain ⟨its, r, ⟨o, e, _, n, d⟩, _⟩ := I.tuple (SqT_ft (A.sub _ _ g))
  rw [h1] at e
  cases e
  have e2 : its = us := by
    have d' : Data.seq us.toArray 0 = Data.seq its.toArray n := d
    injection d' with d1 _
    have := congrArg Array.toList d1
    simpa using this.symm
  exact ⟨h1, by rw [← e2]; exact r⟩
theorem px_of {pins : List (Addr × Obj)} {σ : L2.St} {H : Hp} {s : Shared} {W : Wd} {st : Store} (I : Inv X pins σ H s) (A : Ag X.K X.w cls W st H) : ∀ {xs : List V} {ys : List D} {ps : List (D × D)} {us : List Value}, RepL X.K W xs ys → pairsOf ys = some ps → Vals xs us → (ps.all fun p => p.1.key 6) = true → (ps.all fun p => p.1.isTup) = true →
    ∃ L, us = L.map (fun e => Value.ref e.1) ∧ PX X.K W s.heap L ps
  | _, _, ps, us, .nil, e, r, _, _ => by
    cases e
    cases r
    exact ⟨[], rfl, .nil⟩
  | _, _, ps, us, .cons (v := x) (d := d) rep t, e, r, h1, h2 => by
    unfold pairsOf at e
    split at e
    · rename_i h; cases h
    · rename_i k v ys2 h
      cases h
      obtain ⟨ps2, e2, rfl⟩ := Option.map_eq_some_iff.mp e
      rw [List.all_cons, Bool.and_eq_true] at h1 h2
      cases r with
      | cons r1 r2 =>
        obtain ⟨L, rfl, px⟩ := px_of I A t e2 r2 h1.2 h2.2
        obtain ⟨T, us1, xs1, rfl, g, z, l⟩ := rep.tup_inv
        cases r1
        obtain ⟨hT, rv⟩ := ft_at I A g
        cases l with
        | cons q1 l =>
          cases l with
          | cons q2 l =>
            cases l
            cases rv with
            | cons v1 rv =>
              cases rv with
              | cons v2 rv =>
                cases rv
                obtain ⟨b, rfl⟩ := q1.tup_ref h2.1
                cases v1
                exact ⟨(T, k.nk, b, _) :: L, rfl, .cons (.inl ⟨_, hT, rfl, _, rfl⟩) h1.1 h2.1 q1 ⟨_, v2, q2⟩ px⟩
    · cases e
theorem PX.kx {K : PySem.W.Frag} {W : Wd} {h : Heap} : ∀ {L : List (Addr × NestedKey × Addr × Value)} {ps : List (D × D)}, PX K W h L ps → KX K W (L.map (·.2)) ps
  | _, _, .nil => .nil
  | _, _, .cons _ hk ht q hv t => .cons hk ht q hv (PX.kx t)
theorem PX.at {K : PySem.W.Frag} {W : Wd} {h : Heap} : ∀ {L : List (Addr × NestedKey × Addr × Value)} {ps : List (D × D)}, PX K W h L ps → ∀ e ∈ L, PairAt h e.1 (.ref e.2.2.1) e.2.2.2
  | _, _, .nil, e, he => by cases he
  | _, _, .cons p _ _ _ _ t, e, he => by
    rcases List.mem_cons.mp he with rfl | he
    · exact p
    · exact PX.at t e he
theorem cd_dict (hc : X.calm = true) (hu : X.A.units + 64 < cLine) : CallR X (.type "dict") (rC X cls U (bltD .dict)) := by
  intro pins s σ H vs us Q I rv h
  obtain ⟨W, st, ds, A, rl, q⟩ := h
  simp only [bltD] at q
  split at q
  · rename_i ys
    obtain ⟨v, rfl, r1⟩ := rl.one_inv
    obtain ⟨a, us1, xs, rfl, g, z, l⟩ := r1.tup_inv
    cases e2 : pairsOf ys with
    | none => rw [e2] at q; exact q.elim
    | some ps =>
      rw [e2] at q
      obtain ⟨hb, q⟩ := Aft.test q
      simp only [Bool.and_eq_true, decide_eq_true_eq] at hb
      obtain ⟨⟨hb1, hb2⟩, hb3⟩ := hb
      obtain ⟨ha, rva⟩ := ft_at I A g
      obtain ⟨L, hL, px⟩ := px_of I A l e2 rva hb1 hb2
      obtain ⟨u, rfl, ru⟩ := vals1 rv
      cases ru
      have kx := px.kx
      have hlen : L.length = ps.length := by
        have := kx.keys.2.2
        rwa [List.length_map] at this
      have hN : ((L.map (·.2)).map fun e => ((Value.ref e.2.1, e.2.2) : Value × Value)).length = L.length := by simp
      refine call_dict_pairsH (knd := nestedKind X.prog X.w) (ps := L.map (·.2)) (PairArg.tuple a us1.toArray (fun j => (L[j]?.map (·.1)).getD 0) ((L.map (·.2)).map fun e => (Value.ref e.2.1, e.2.2))) (I.ok.hd hc) ?_ ⟨⟨_, _, ha, rfl, rfl, rfl⟩, ?_, ?_⟩ ⟨by simp, ?_⟩ ?_ ?_ ?_
      · show X.A.in1.in1.units + 8 < cLine
        simp only [Around.in1]
        omega
      · rw [hL]; simp
      · intro j k v hj
        rw [List.map_map, List.getElem?_map] at hj
        obtain ⟨e, he, e3⟩ := Option.map_eq_some_iff.mp hj
        cases e3
        have hT : (fun j => (L[j]?.map (·.1)).getD 0) j = e.1 := by
          show (L[j]?.map (·.1)).getD 0 = _
          rw [he]
          rfl
        rw [hT]
        refine ⟨?_, px.at e (List.mem_of_getElem? he)⟩
        rw [hL, List.getElem?_toArray, List.getElem?_map, he]
        rfl
      · intro i key v hrel
        have hrel : ((L.map (·.2)).map fun e => ((Value.ref e.2.1, e.2.2) : Value × Value))[i]? = some (key, v) := hrel
        rw [List.getElem?_map] at hrel
        obtain ⟨e, he, e3⟩ := Option.map_eq_some_iff.mp hrel
        cases e3
        exact ⟨e.1, e.2.1, he, rfl⟩
      · intro h' hk x hx
        refine (nestedKind_stays (prog := X.prog) (w := X.w)).stays (h := s.heap) (fun b o vs n hbo _ => hk b o (Nat.ne_of_lt (Heap.lt_size hbo)) (by simp) hbo) (kx.is I A x hx)
      · rw [hN, hlen, sizeLine_eq]; omega
      · intro h' tk dd hk
        obtain ⟨o3, es, ep3, d1, d2, d3, d4, d5, d6⟩ := dd
        have kx2 := kx.puts (KX.nil (K := X.K) (W := W)) List.nodup_nil
        have hz2 : (dputs [] ps).length ≤ sizeLine := by
          have := dputs_len ps []
          rw [sizeLine_eq]
          simp only [List.length_nil] at this
          omega
        obtain ⟨hns, hfr, _⟩ := I.newDic
        have dO : DicO X.K X.w W s.heap.objs.size o3 (dputs [] ps) := ⟨rfl, hns, hz2, es, ep3, d2, d3, by rw [d4]; exact kx2.repE, by rw [← kx2.keys.1]; exact d6⟩
        have I2 : Inv X pins σ (upd H s.heap.objs.size (exactly s.heap.objs.size o3)) { s with heap := h', toks := tk } := I.laid (fun b u e => hk b u (by simp) e) (Nat.le_refl _) ⟨d1, ⟨o3, d1⟩, fun _ _ p k => k _ p⟩
        have le : W.Le ⟨W.G, W.ρ ++ [s.heap.objs.size]⟩ := ⟨Same.refl _, [_], rfl⟩
        obtain ⟨A', x'⟩ := A.newObj (H' := upd H s.heap.objs.size (exactly s.heap.objs.size o3)) (o := .dic (dputs [] ps)) hfr (fun b u e => by rw [upd_ne (ne_of_none e hfr)]; exact e) (by rw [upd_same]; simp) ⟨o3, upd_same, dO.mono le⟩
        refine ⟨.ref s.heap.objs.size, _, I2, rfl, q _ _ _ x' A' (.ref ?_)⟩
        show (W.ρ ++ [s.heap.objs.size])[st.length]? = _
        rw [← A.len, List.getElem?_append_right (Nat.le_refl _)]
        simp
  · rename_i i
    obtain ⟨v, rfl, r1⟩ := rl.one_inv
    cases e3 : st[i]? with
    | none => rw [e3] at q; exact q.elim
    | some ob =>
      rw [e3] at q
      cases ob with
      | dic kvs =>
        obtain ⟨hb, q⟩ := Aft.test q
        simp only [Bool.and_eq_true, decide_eq_true_eq] at hb
        obtain ⟨⟨hb1, hb2⟩, hb3⟩ := hb
        obtain ⟨a, o, rfl, ho, d⟩ := dic_at I A r1 (.inl e3)
        obtain ⟨xs, h1, h2⟩ := d.ofL (X := X) ho hb2
        obtain ⟨u, rfl, ru⟩ := vals1 rv
        cases ru
        have hz : kvs.length ≤ sizeLine := d.2.2.1
        refine kt_call_dict (knd := mixKind X.prog X.w) d.2.1 h1 (by rw [h2.keys.2.2]; exact hz) fun h' dd sb => ?_
        obtain ⟨hns, hfr, I1⟩ := I.newDic
        obtain ⟨o3, g1, dO⟩ := DicO.fromL dd h2 hns hz
        have I2 : Inv X pins σ (upd H s.heap.objs.size (exactly s.heap.objs.size o3)) { s with heap := h' } := I.laid (fun b u e => by
          have hne : b ≠ s.heap.objs.size := Nat.ne_of_lt (Heap.lt_size e)
          rw [sb.2 b hne, Heap.get?_push_of_some _ e]) (Nat.le_refl _) ⟨g1, ⟨o3, g1⟩, fun _ _ p k => k _ p⟩
        have le : W.Le ⟨W.G, W.ρ ++ [s.heap.objs.size]⟩ := ⟨Same.refl _, [_], rfl⟩
        obtain ⟨A', x'⟩ := A.newObj (H' := upd H s.heap.objs.size (exactly s.heap.objs.size o3)) (o := .dic kvs) hfr (fun b u e => by rw [upd_ne (ne_of_none e hfr)]; exact e) (by rw [upd_same]; simp) ⟨o3, upd_same, dO.mono le⟩
        refine ⟨.ref s.heap.objs.size, _, I2, rfl, q _ _ _ x' A' (.ref ?_)⟩
        show (W.ρ ++ [s.heap.objs.size])[st.length]? = _
        rw [← A.len, List.getElem?_append_right (Nat.le_refl _)]
        simp
      | _ => exact q.elim
  · exact q.elim
theorem md_update : MtR X "dict.update" (rM X cls U .update) := by
  intro pins s σ H x xs v us Q I rx rs h
  obtain ⟨W, st, dx, ds, A, r1, rl, q⟩ := h
  unfold mthD at q
  split at q <;> try contradiction
  · rename_i i j _
    obtain ⟨w, rfl, r2⟩ := rl.one_inv
    cases e3 : st[i]? with
    | none => simp only [e3] at q; exact q.elim
    | some ob =>
      cases ob with
      | dic kvs =>
        cases e4 : st[j]? with
        | none => simp only [e3, e4] at q; exact q.elim
        | some oc =>
          cases oc with
          | dic ps =>
            simp only [e3, e4] at q
            obtain ⟨hb, q⟩ := Aft.test q
            simp only [Bool.and_eq_true, decide_eq_true_eq] at hb
            obtain ⟨⟨⟨⟨⟨b1, b2⟩, b3⟩, b4⟩, b5⟩, b6⟩ := hb
            obtain ⟨a, o, rfl, ho, d⟩ := dic_at I A r1 (.inl e3)
            obtain ⟨b, p, rfl, hp, d2⟩ := dic_at I A r2 (.inl e4)
            obtain ⟨ys, h1, h2⟩ := d.ofL (X := X) ho b4
            obtain ⟨zs, h3, h4⟩ := d2.ofL (X := X) hp b5
            obtain ⟨a', ea, ha⟩ := r1.ref_inv
            cases ea
            obtain ⟨b', eb, hb'⟩ := r2.ref_inv
            cases eb
            obtain ⟨u, rfl, ru⟩ := vals1 rs
            cases ru
            cases rx
            have hab : a ≠ b := fun z => by
              subst z
              exact b1 (nodup_at A.nd ha hb')
            have hz2 : (dputs kvs ps).length ≤ sizeLine := by
              have := dputs_len ps kvs
              rw [sizeLine_eq]
              omega
            refine call_meetsIn PySem.F.slot_dict_update h1.typeIs PySem.F.entry_dict_update (PySem.F.args_dict_update_2 _ _) (meets_dict_update (mixKind X.prog X.w) a b hab d2.2.1) ⟨ys, zs, h1, h3, by rw [h2.keys.2.2, h4.keys.2.2, sizeLine_eq]; omega, fun h' dd _ sb => ?_⟩
            have nd : (kvs.map (·.1.nk)).Nodup := d.2.2.2.choose_spec.choose_spec.2.2.2
            obtain ⟨o2, g1, g2⟩ := DicO.fromL dd (h4.puts h2 nd) d.2.1 hz2
            obtain ⟨ob1, ho1, oa⟩ := A.at ha
            rw [e3] at ho1
            cases ho1
            obtain ⟨o1, hH, _⟩ := oa
            obtain ⟨A', x'⟩ := A.setObj (H' := upd H a (exactly a o2)) (o := .dic (dputs kvs ps)) ha (fun b hb => upd_ne hb) ⟨o2, upd_same, g2⟩ (fun _ _ z => by rw [hH] at z; cases z)
            exact ⟨.non, upd H a (exactly a o2), d_write I (by rw [hH]; exact True.intro) sb ⟨o2, g1⟩ ⟨g1, ⟨o2, g1⟩, fun _ _ p k => k _ p⟩, rfl, q _ _ _ x' A' .non⟩
          | _ => simp only [e3, e4] at q; exact q.elim
      | _ => simp only [e3] at q; exact q.elim
end
end EV
/-! EvZm: zip(tuple, list). -/
namespace EVZ
open PySem
open PySem.Sem (wp)
section
variable {prog : Program} {w : World} {A : Around} {E : Value → Shared → Prop} {s : Shared}
/-- the first is a tuple's iterator, the second a list's -/
theorem mix_item {o ti pr ja jb ta lb : Addr} {m n : Nat} {us vs : Array Value} {u v p q : Value} {Q : Value → Shared → Prop} (ap : ZipApart o ti pr ja jb ta lb)
    (ez : IsZip s.heap o ti pr .none) (ei : IsPair s.heap ti (.ref ja) (.ref jb)) (ep : IsPair s.heap pr p q)
    (ea : s.heap.IsTupleIter ja ta m) (eb : s.heap.IsListIter jb lb n) (la : s.heap.IsTuple ta us) (lb' : s.heap.IsList lb vs) (gu : us[m]? = some u) (gv : vs[n]? = some v)
    (fin : ∀ k, IsZip k o ti pr (rawInt s.heap.objs.size) → IsPair k pr u v → k.IsTupleIter ja ta (m + 1) → k.IsListIter jb lb (n + 1) → IsPair k s.heap.objs.size u v → k.objs.size = s.heap.objs.size + 1 →
      (∀ c r, c ≠ o → c ≠ pr → c ≠ ja → c ≠ jb → s.heap.get? c = some r → k.get? c = some r) → Q (.ref s.heap.objs.size) { s with heap := k }) :
    wpAny (model prog w) A (Builtin.«zip.__next__» ⟨[.ref o], []⟩) (fun f s' => ∃ y, f = .done (.ret y) ∧ Q y s') E s := by
  show wpAny _ _ (field (.ref o) 2 >>= _) _ _ _
  refine wpAny_bind (wpAny_field ez rfl (x := .bool false) rfl ?_)
  show wpAny _ _ (field (.ref o) 3 >>= _) _ _ _
  refine wpAny_bind (wpAny_field ez rfl (x := .ref ti) rfl (wpAny_bind (wpAny_seqItems ei rfl ?_)))
  show wpAny _ _ (Builtin.SmallTypes.ownedTupleIsFree (.ref o) >>= _) _ _ _
  unfold Builtin.SmallTypes.ownedTupleIsFree
  refine wpAny_bind (wpAny_bind (wpAny_field ez rfl (x := .none) rfl (wpAny_pure ?_)))
  simp only [if_true]
  refine wpAny_bind (wpAny_rule (wpAny_bind (wpAny_field ez rfl (x := .ref pr) rfl (wpAny_bind (wpAny_setField_rec ez (by simp) fun k1 ez1 s1 => wpAny_bind ?_)))))
  have z1 : IsZip k1 o ti pr .ellipsis := ez1
  simp only [List.zipIdx_cons, List.zipIdx_nil, List.forIn_cons, List.forIn_nil]
  refine wpAny_bind (wpAny_bind (wpAny_onRaise ?_))
  show wpAny _ _ (Builtin.SmallTypes.nextOf (.ref ja) >>= _) _ _ _
  refine wpAny_bind (RZ.nextOf_tuple_item (ea.extBut s1.extBut ap.i1z) (la.extBut s1.extBut ap.l1z) gu fun k2 ea2 s2 => wpAny_pure ?_)
  have p2 : IsPair k2 pr p q := s2.extBut _ _ ap.TOi1 (s1.extBut _ _ ap.TOz ep)
  refine wpAny_bind (wpAny_seqItems p2 rfl (wpAny_bind (wpAny_updateSeq_pair p2 fun k3 e3 s3 => wpAny_bind (wpAny_letGo (wpAny_pure ?_)))))
  have p3 : IsPair k3 pr u q := e3
  refine wpAny_bind (wpAny_bind (wpAny_onRaise ?_))
  show wpAny _ _ (Builtin.SmallTypes.nextOf (.ref jb) >>= _) _ _ _
  have b3 := ((eb.extBut s1.extBut ap.i2z).extBut s2.extBut ap.i12.symm).extBut s3.extBut ap.TOi2.symm
  have c3 := ((lb'.extBut s1.extBut ap.l2z).extBut s2.extBut ap.l2i1).extBut s3.extBut ap.l2TO
  refine wpAny_bind (wpAny_nextOf_list_item b3 c3 gv fun k4 b4 s4 => wpAny_pure ?_)
  have p4 : IsPair k4 pr u q := s4.extBut _ _ ap.TOi2 p3
  refine wpAny_bind (wpAny_seqItems p4 rfl (wpAny_bind (wpAny_updateSeq_pair p4 fun k5 e5 s5 => wpAny_bind (wpAny_letGo (wpAny_pure (wpAny_pure ?_))))))
  have p5 : IsPair k5 pr u v := e5
  refine wpAny_bind (wpAny_seqItems p5 rfl (wpAny_bind (wpAny_newTuple ?_)))
  have sz5 : k5.objs.size = s.heap.objs.size := by rw [s5.1, s4.1, s3.1, s2.1, s1.1]
  have z5 : IsZip k5 o ti pr .ellipsis := s5.extBut _ _ ap.TOz.symm (s4.extBut _ _ ap.i2z.symm (s3.extBut _ _ ap.TOz.symm (s2.extBut _ _ ap.i1z.symm z1)))
  have st5 : ∀ c r, c ≠ o → c ≠ pr → c ≠ ja → c ≠ jb → s.heap.get? c = some r → k5.get? c = some r := fun c r n1 n2 n3 n4 e =>
    s5.extBut _ _ n2 (s4.extBut _ _ n4 (s3.extBut _ _ n2 (s2.extBut _ _ n3 (s1.extBut _ _ n1 e))))
  have a5 : k5.IsTupleIter ja ta (m + 1) := ((ea2.extBut s3.extBut ap.TOi1.symm).extBut s4.extBut ap.i12).extBut s5.extBut ap.TOi1.symm
  have b5 : k5.IsListIter jb lb (n + 1) := b4.extBut s5.extBut ap.TOi2.symm
  have lo : o < k5.objs.size := Heap.lt_size z5
  show wpAny _ _ (Builtin.SmallTypes.ownedTupleHandOut (.ref o) (.ref k5.objs.size) >>= _) _ _ _
  unfold Builtin.SmallTypes.ownedTupleHandOut
  have z6 : IsZip (k5.push { cls := .type "tuple", data := .seq #[u, v] }) o ti pr .ellipsis := Heap.get?_push_of_some _ z5
  refine wpAny_bind (wpAny_bind (wpAny_setField_rec z6 (by simp) fun k7 e7 s7 => ?_))
  have z7 : IsZip k7 o ti pr (rawInt k5.objs.size) := e7
  refine wpAny_setField_rec z7 (by simp) fun k8 e8 s8 => ?_
  have z8 : IsZip k8 o ti pr (rawInt k5.objs.size) := e8
  have fw : ∀ c r, c ≠ o → k5.get? c = some r → k8.get? c = some r := fun c r n1 e => s8.extBut _ _ n1 (s7.extBut _ _ n1 (Heap.get?_push_of_some _ e))
  have t8 : IsPair k8 k5.objs.size u v := s8.extBut _ _ (Nat.ne_of_gt lo) (s7.extBut _ _ (Nat.ne_of_gt lo) (Heap.get?_push_size _ rfl))
  have sz8 : k8.objs.size = k5.objs.size + 1 := by rw [s8.1, s7.1, Heap.size_push]
  rw [sz5] at z8 t8 sz8
  refine wpAny_pure ⟨_, rfl, ?_⟩
  show Q (.ref k5.objs.size) _
  rw [sz5]
  exact fin k8 z8 (fw _ _ ap.TOz p5) (a5.at fun r e => fw _ r ap.i1z e) (b5.at fun r e => fw _ r ap.i2z e) t8 sz8 fun c r n1 n2 n3 n4 e => fw c r n1 (st5 c r n1 n2 n3 n4 e)
theorem mix_end {o ti pr ja jb ta lb : Addr} {m n : Nat} {us vs : Array Value} {p q : Value} {Q : Fin → Shared → Prop} (hh : A.handled = none) (ap : ZipApart o ti pr ja jb ta lb)
    (ez : IsZip s.heap o ti pr .none) (ei : IsPair s.heap ti (.ref ja) (.ref jb)) (ep : IsPair s.heap pr p q)
    (ea : s.heap.IsTupleIter ja ta m) (eb : s.heap.IsListIter jb lb n) (la : s.heap.IsTuple ta us) (lb' : s.heap.IsList lb vs) (en : us[m]? = none ∨ vs[n]? = none)
    (fin : ∀ k e, (∀ c r, c ≠ o → c ≠ pr → c ≠ ja → c ≠ jb → s.heap.get? c = some r → k.get? c = some r) → (∃ r, k.get? e = some r ∧ r.cls = .type "StopIteration") → E (.ref e) { s with heap := k }) :
    wpAny (model prog w) A (Builtin.«zip.__next__» ⟨[.ref o], []⟩) Q E s := by
  show wpAny _ _ (field (.ref o) 2 >>= _) _ _ _
  refine wpAny_bind (wpAny_field ez rfl (x := .bool false) rfl ?_)
  show wpAny _ _ (field (.ref o) 3 >>= _) _ _ _
  refine wpAny_bind (wpAny_field ez rfl (x := .ref ti) rfl (wpAny_bind (wpAny_seqItems ei rfl ?_)))
  show wpAny _ _ (Builtin.SmallTypes.ownedTupleIsFree (.ref o) >>= _) _ _ _
  unfold Builtin.SmallTypes.ownedTupleIsFree
  refine wpAny_bind (wpAny_bind (wpAny_field ez rfl (x := .none) rfl (wpAny_pure ?_)))
  simp only [if_true]
  refine wpAny_bind (wpAny_rule (wpAny_bind (wpAny_field ez rfl (x := .ref pr) rfl (wpAny_bind (wpAny_setField_rec ez (by simp) fun k1 ez1 s1 => wpAny_bind ?_)))))
  have z1 : IsZip k1 o ti pr .ellipsis := ez1
  simp only [List.zipIdx_cons, List.zipIdx_nil, List.forIn_cons, List.forIn_nil]
  refine wpAny_bind (wpAny_bind (wpAny_onRaise ?_))
  show wpAny _ _ (Builtin.SmallTypes.nextOf (.ref ja) >>= _) _ _ _
  cases gu : us[m]? with
  | none =>
    refine wpAny_bind (RZ.nextOf_tuple_end hh (ea.extBut s1.extBut ap.i1z) (la.extBut s1.extBut ap.l1z) gu fun k2 e s2 he => ?_)
    obtain ⟨r, hr, hc⟩ := he
    have z2 : IsZip k2 o ti pr .ellipsis := s2 _ _ ap.i1z.symm z1
    have ne : e ≠ o := fun y => by subst y; rw [z2] at hr; cases hr; simp at hc
    refine wpAny_setField_rec z2 (by simp) fun k3 _ s3 => fin k3 e (fun c r n1 _ n3 _ y => s3.extBut _ _ n1 (s2 _ _ n3 (s1.extBut _ _ n1 y))) ⟨r, s3.extBut _ _ ne hr, hc⟩
  | some u =>
    have gv : vs[n]? = none := by rcases en with h | h; rw [gu] at h; cases h; exact h
    refine wpAny_bind (RZ.nextOf_tuple_item (ea.extBut s1.extBut ap.i1z) (la.extBut s1.extBut ap.l1z) gu fun k2 ea2 s2 => wpAny_pure ?_)
    have p2 : IsPair k2 pr p q := s2.extBut _ _ ap.TOi1 (s1.extBut _ _ ap.TOz ep)
    refine wpAny_bind (wpAny_seqItems p2 rfl (wpAny_bind (wpAny_updateSeq_pair p2 fun k3 e3 s3 => wpAny_bind (wpAny_letGo (wpAny_pure ?_)))))
    refine wpAny_bind (wpAny_bind (wpAny_onRaise ?_))
    show wpAny _ _ (Builtin.SmallTypes.nextOf (.ref jb) >>= _) _ _ _
    have b3 := ((eb.extBut s1.extBut ap.i2z).extBut s2.extBut ap.i12.symm).extBut s3.extBut ap.TOi2.symm
    have c3 := ((lb'.extBut s1.extBut ap.l2z).extBut s2.extBut ap.l2i1).extBut s3.extBut ap.l2TO
    refine wpAny_bind (wpAny_nextOf_list_end hh b3 c3 gv fun k4 e s4 he => ?_)
    obtain ⟨r, hr, hc⟩ := he
    have z4 : IsZip k4 o ti pr .ellipsis := s4 _ _ ap.i2z.symm (s3.extBut _ _ ap.TOz.symm (s2.extBut _ _ ap.i1z.symm z1))
    have ne : e ≠ o := fun y => by subst y; rw [z4] at hr; cases hr; simp at hc
    refine wpAny_setField_rec z4 (by simp) fun k5 _ s5 => fin k5 e (fun c r n1 n2 n3 n4 y => s5.extBut _ _ n1 (s4 _ _ n4 (s3.extBut _ _ n2 (s2.extBut _ _ n3 (s1.extBut _ _ n1 y))))) ⟨r, s5.extBut _ _ ne hr, hc⟩
end
/-- zip is called -/
abbrev zm1 (h : Heap) (a : Addr) : Heap := h.push { cls := .type "tuple_iterator", data := .fields #[.ref a, .int 0 0] }
abbrev zm2 (h : Heap) (a b : Addr) : Heap := (zm1 h a).push { cls := .type "list_iterator", data := .fields #[.ref b, .int 0 0] }
abbrev zm3 (h : Heap) (a b : Addr) : Heap := (zm2 h a b).push { cls := .type "tuple", data := .seq #[.ref h.objs.size, .ref (zm1 h a).objs.size] }
abbrev zm4 (h : Heap) (a b : Addr) : Heap := (zm3 h a b).push { cls := .type "tuple", data := .seq #[.none, .none] }
abbrev zm5 (h : Heap) (a b : Addr) : Heap := (zm4 h a b).push { cls := .type "zip", data := .fields #[.none, .bool false, .bool false, .ref (zm2 h a b).objs.size, .ref (zm3 h a b).objs.size] }
theorem mix_new (a b : Addr) (us vs : Array Value) :
    Meets (Builtin.«zip.__new__» ⟨[.type "zip", .ref a, .ref b], []⟩) (fun _ R s => s.heap.IsTuple a us ∧ s.heap.IsList b vs ∧ R (.ok (.ret (.ref (zm4 s.heap a b).objs.size))) { s with heap := zm5 s.heap a b }) :=
  .of_wp fun prog w A R s h => by
    obtain ⟨hp, g, d, tk, os⟩ := s; obtain ⟨e1, e2, h⟩ := h
    have hsub := sub_zip
    have f1 : Heap.IsTuple (Shared.heap ⟨hp, g, d, tk, os⟩) a us := e1
    have f2 : Heap.IsList (Shared.heap ⟨hp.push { cls := .type "tuple_iterator", data := .fields #[.ref a, .int 0 0] }, g, d, tk, os⟩) b vs := Heap.IsList.push e2 _
    wp_walk using wpAny_pyIter_tuple f1, wpAny_pyIter_list f2
    exact ⟨_, rfl, h⟩
section
variable {prog : Program} {w : World} {A : Around} {E : Value → Shared → Prop} {s : Shared}
theorem mix_call {a b : Addr} {us vs : Array Value} {Q : Value → Shared → Prop} (e1 : s.heap.IsTuple a us) (e2 : s.heap.IsList b vs)
    (h : ∀ k, IsZip k (s.heap.objs.size + 4) (s.heap.objs.size + 2) (s.heap.objs.size + 3) .none → IsPair k (s.heap.objs.size + 2) (.ref s.heap.objs.size) (.ref (s.heap.objs.size + 1)) →
      IsPair k (s.heap.objs.size + 3) .none .none → k.IsTupleIter s.heap.objs.size a 0 → k.IsListIter (s.heap.objs.size + 1) b 0 →
      (∀ c r, s.heap.get? c = some r → k.get? c = some r) → Q (.ref (s.heap.objs.size + 4)) { s with heap := k }) :
    wpAny (model prog w) A (call (.type "zip") [.ref a, .ref b]) Q E s := by
  refine callType_new F.called_zip (by decide) (F.typeCall_zip_2 _ _) (F.newCall_zip_2 _ _) (fun y => F.args_object_init_3 y _ _) F.entry_zip_new (mix_new a b us vs) ⟨e1, e2, ?_⟩
  have n1 : (zm1 s.heap a).objs.size = s.heap.objs.size + 1 := Heap.size_push ..
  have n2 : (zm2 s.heap a b).objs.size = s.heap.objs.size + 2 := by rw [Heap.size_push, n1]
  have n3 : (zm3 s.heap a b).objs.size = s.heap.objs.size + 3 := by rw [Heap.size_push, n2]
  have n4 : (zm4 s.heap a b).objs.size = s.heap.objs.size + 4 := by rw [Heap.size_push, n3]
  have up : ∀ {k : Heap} {c : Addr} {r o : Obj}, k.get? c = some r → (k.push o).get? c = some r := fun e => Heap.get?_push_of_some _ e
  have g5 : (zm5 s.heap a b).get? (zm4 s.heap a b).objs.size = some _ := Heap.get?_push_size _ rfl
  have g4 : (zm5 s.heap a b).get? (zm3 s.heap a b).objs.size = some _ := up (Heap.get?_push_size _ rfl)
  have g3 : (zm5 s.heap a b).get? (zm2 s.heap a b).objs.size = some _ := up (up (Heap.get?_push_size _ rfl))
  have g2 : (zm5 s.heap a b).get? (zm1 s.heap a).objs.size = some _ := up (up (up (Heap.get?_push_size _ rfl)))
  have g1 : (zm5 s.heap a b).get? s.heap.objs.size = some _ := up (up (up (up (Heap.get?_push_size _ rfl))))
  show _ ∧ _
  rw [n2, n3, n4] at g5
  rw [n1, n2] at g3
  rw [n3] at g4
  rw [n1] at g2
  rw [n4]
  exact ⟨⟨_, g5, rfl⟩, h _ g5 g3 g4 ⟨_, g1, rfl, rfl⟩ ⟨_, g2, rfl, rfl⟩ fun c r e => up (up (up (up (up e))))⟩
end
open PySem.Spec PyProof.Rows L2
/-- what zip(tuple, list) yields -/
def ItM (K : PySem.W.Frag) (a b : Addr) : It :=
  ⟨fun i H => ∃ (xs ys : List V) (x y : V), SqT K H a xs ∧ SqL K H b ys ∧ xs[i]? = some x ∧ ys[i]? = some y,
    fun i H v H' => ∃ T x y, v = .ref T ∧ H T = none ∧ H' = upd H T (.tup [x, y]) ∧ (∀ xs, SqT K H a xs → xs[i]? = some x) ∧ ∀ ys, SqL K H b ys → ys[i]? = some y,
    fun i H => ∃ xs ys : List V, SqT K H a xs ∧ SqL K H b ys ∧ (xs.length ≤ i ∨ ys.length ≤ i)⟩
theorem turn_mix {P : Program} {w : World} {K : PySem.W.Frag} {elts : List Expr} {kk : Nat} {tpos : Pos} {a b o ti pr ja jb : Addr} (ap : ZipApart o ti pr ja jb a b) :
    Turn P w K (.Tuple elts kk tpos) (ItM K a b) [o, ti, pr, ja, jb] o (fun i h => IsZip h o ti pr .none ∧ IsPair h ti (.ref ja) (.ref jb) ∧ (∃ x y, IsPair h pr x y) ∧ h.IsTupleIter ja a i ∧ h.IsListIter jb b i) where
  mem := by simp
  obj := fun i h st c hc => by
    obtain ⟨ez, ei, ⟨x, y, ep⟩, ⟨o1, e1, _, d1⟩, ⟨o2, e2, _, d2⟩⟩ := st
    have e' : c = o ∨ c = ti ∨ c = pr ∨ c = ja ∨ c = jb := by simpa using hc
    rcases e' with rfl | rfl | rfl | rfl | rfl
    · exact ⟨_, ez, fun v q => nomatch q⟩
    · exact ⟨_, ei, fun v q => nomatch q⟩
    · exact ⟨_, ep, fun v q => nomatch q⟩
    · exact ⟨o1, e1, fun v q => by rw [d1] at q; cases q⟩
    · exact ⟨o2, e2, fun v q => by rw [d2] at q; cases q⟩
  keep := fun i h h' st k => by
    obtain ⟨ez, ei, ⟨x, y, ep⟩, e1, e2⟩ := st
    exact ⟨k o (by simp) _ ez, k ti (by simp) _ ei, ⟨x, y, k pr (by simp) _ ep⟩, e1.at fun r q => k ja (by simp) r q, e2.at fun r q => k jb (by simp) r q⟩
  item := by
    intro X hP hw hK hc i pins s σ H E I hf st hg
    subst hP hw hK
    obtain ⟨ez, ei, ⟨x0, y0, ep⟩, e1, e2⟩ := st
    obtain ⟨xs, ys, x, y, qx, qy, hx, hy⟩ := hg
    obtain ⟨its, rv, p, _⟩ := I.tuple qx
    obtain ⟨its2, rv2, p2, _⟩ := I.list qy
    obtain ⟨u, hu, ru⟩ := rv.get hx
    obtain ⟨u2, hu2, ru2⟩ := rv2.get hy
    have lo : o < s.heap.objs.size := Heap.lt_size ez
    have hT : s.TypeIs (.ref o) "zip" := ⟨_, ez, rfl⟩
    unfold pyNext
    refine wpAny_bind (wpAny_attempt (wpAny_callSpecial?_slot (name := Str.ofString "__next__") hT F.slot_zip_next (wpAny_call_entry F.slot_zip_next hT F.entry_zip_next
      (mix_item ap ez ei ep e1 e2 p p2.isList (u := u) (v := u2) (by simpa using hu) (by simpa using hu2) fun h' z' p' h1' h2' hT' hsz hk => wpAny_pure ?_) (F.args_zip_next_1 _))))
    refine ⟨_, rfl, wpAny_letOwnedTupleGo_zip (s := { s with heap := h' }) z' fun h'' z'' sb => ?_⟩
    have hT2 : h''.get? s.heap.objs.size = some { cls := .type "tuple", data := .seq #[u, u2] } := (sb.2 _ (Nat.ne_of_gt lo)).trans hT'
    have nw : ObjOk X.prog X.w (upd H s.heap.objs.size (.tup [x, y])) h'' s.heap.objs.size (.tup [x, y]) := ⟨by show 2 ≤ sizeLine; decide, [u, u2], .cons ru (.cons ru2 .nil), ⟨_, hT2, rfl, _, rfl⟩⟩
    have I1 : Inv X pins σ (upd H s.heap.objs.size (.tup [x, y])) { s with heap := h'' } :=
      I.turnedNew (t' := s.toks) (ch := [o, ti, pr, ja, jb]) (fun c r hb q => by
        simp only [List.mem_cons, List.mem_nil_iff, or_false, not_or] at hb
        exact (sb.2 c hb.1).trans (hk c r hb.1 hb.2.2.1 hb.2.2.2.1 hb.2.2.2.2 q)) hf (Nat.le_refl _) nw
    refine ⟨.ref s.heap.objs.size, _, I1, rfl, ⟨_, x, y, rfl, I.hok.fresh (Nat.le_refl _), rfl, fun l hl => by rw [I.tuple_inj hl qx]; exact hx, fun l hl => by rw [I.list_inj hl qy]; exact hy⟩, ⟨z'', ?_, ⟨u, u2, ?_⟩, ?_, ?_⟩, fun c hcm => ?_⟩
    · exact (sb.2 _ ap.TIz).trans (hk _ _ ap.TIz ap.TITO ap.TIi1 ap.TIi2 ei)
    · exact (sb.2 _ ap.TOz).trans p'
    · exact h1'.at fun r q => (sb.2 _ ap.i1z).trans q
    · exact h2'.at fun r q => (sb.2 _ ap.i2z).trans q
    · have hlt : c < s.heap.objs.size := by
        have e' : c = o ∨ c = ti ∨ c = pr ∨ c = ja ∨ c = jb := by simpa using hcm
        rcases e' with rfl | rfl | rfl | rfl | rfl
        · exact lo
        · exact Heap.lt_size ei
        · exact Heap.lt_size ep
        · obtain ⟨_, q, _⟩ := e1; exact Heap.lt_size q
        · obtain ⟨_, q, _⟩ := e2; exact Heap.lt_size q
      rw [upd_ne (Nat.ne_of_lt hlt)]
      exact (hf c hcm).1
  done := by
    intro X hP hw hK hc i pins s σ H E I hf st hg
    subst hP hw hK
    obtain ⟨ez, ei, ⟨x0, y0, ep⟩, e1, e2⟩ := st
    obtain ⟨xs, ys, qx, qy, hend⟩ := hg
    obtain ⟨its, rv, p, _⟩ := I.tuple qx
    obtain ⟨its2, rv2, p2, _⟩ := I.list qy
    have l1 := rv.length
    have l2 := rv2.length
    have he : its.toArray[i]? = none ∨ its2.toArray[i]? = none := by
      rcases hend with q | q
      · left; simp; omega
      · right; simp; omega
    have hT : s.TypeIs (.ref o) "zip" := ⟨_, ez, rfl⟩
    unfold pyNext
    refine wpAny_bind (wpAny_attempt (wpAny_callSpecial?_slot (name := Str.ofString "__next__") hT F.slot_zip_next (wpAny_call_entry F.slot_zip_next hT F.entry_zip_next
      (mix_end (I.ok.hd hc) ap ez ei ep e1 e2 p p2.isList he fun k e hk hx => ?_) (F.args_zip_next_1 _))))
    obtain ⟨r, hr, hcl⟩ := hx
    refine wpAny_bind (wpAny_isInstance (T := "StopIteration") (b := true) ⟨r, hr, hcl⟩ isSubtype_stop (wpAny_pure ⟨rfl, ?_⟩))
    exact I.turnedL (t' := s.toks) (ch := [o, ti, pr, ja, jb]) (fun c r hb q => by
      simp only [List.mem_cons, List.mem_nil_iff, or_false, not_or] at hb
      exact hk c r hb.1 hb.2.2.1 hb.2.2.2.1 hb.2.2.2.2 q) hf
  self := fun A i s Q E st h => wpAny_pyIter_zip st.1 h
/-- zip in a for: two lists, two tuples, a tuple and a list -/
def iZipM (K : PySem.W.Frag) (ta : TA) : TI := fun σ H R => ta σ H fun vs H1 => ∃ a b xs ys, vs = [.ref a, .ref b] ∧ ((SqL K H1 a xs ∧ SqL K H1 b ys ∧ R (Itz K a b) H1) ∨ (SqT K H1 a xs ∧ SqT K H1 b ys ∧ R (RZ.ItzT K a b) H1) ∨ (SqT K H1 a xs ∧ SqL K H1 b ys ∧ R (ItM K a b) H1))
theorem pi_zipM {X : Cx} {e e2 : Expr} {ta : TA} {p pos tpos : Pos} {elts : List Expr} {kk : Nat} (hg : Gl X "zip") (hm : X.mg "zip" = none) (ha : PA X [e, e2] ta)
    (hs : starEach [e, e2] X.env = (false, eval e X.env) :: starEach [e2] X.env) (hpl : (backTo pos (starEach [e2] X.env)).any (·.1) = false) :
    PI X (.Tuple elts kk tpos) (.Call (.Name "zip" p) [e, e2] [] pos) (iZipM X.K ta) := by
  refine ⟨fun pins s σ H R I h => Call_ (ld_blt I hg hm PyProof.Rows.boot_zip (PyProof.Rows.callWith_type1 (thn (ha.run pos pins s σ H _ I h) fun us s1 ⟨vs, H1, I1, r1, q1⟩ => ?_) hs hpl))⟩
  obtain ⟨a, b, xs, ys, rfl, q1⟩ := q1
  obtain ⟨r, rr⟩ : ∃ t, us = [.ref a, .ref b] ∧ t = () := by
    cases r1 with
    | cons r rr =>
      cases rr with
      | cons r' rr =>
        cases rr
        cases r
        cases r'
        exact ⟨(), rfl, rfl⟩
  obtain ⟨rfl, _⟩ := rr
  have five : ∀ c, c ∈ [s1.heap.objs.size + 4, s1.heap.objs.size + 2, s1.heap.objs.size + 3, s1.heap.objs.size, s1.heap.objs.size + 1] → FpOk X pins H1 c := fun c hcm => by
    have hle : s1.heap.objs.size ≤ c := by
      simp only [List.mem_cons, List.mem_nil_iff, or_false] at hcm
      omega
    exact I1.fpOk hle (I1.hok.fresh hle)
  rcases q1 with ⟨qx, qy, q⟩ | ⟨qx, qy, q⟩ | ⟨qx, qy, q⟩
  · obtain ⟨its, rv, p1, _⟩ := I1.list qx
    obtain ⟨its2, rv2, p2, _⟩ := I1.list qy
    refine call_zip_2 p1.isList p2.isList fun k hz hTI hTO h1 h2 hsz hk => wpAny_pyIter_zip hz ?_
    exact ⟨_, _, _, _, H1, rfl, I1.kept (t' := s1.toks) hk, turn_zip (PySem.W.ktu_apart s1.heap.objs.size a b p1.lt p2.lt), ⟨hz, hTI, ⟨_, _, hTO⟩, h1, h2⟩, five, q⟩
  · obtain ⟨its, rv, p1, _⟩ := I1.tuple qx
    obtain ⟨its2, rv2, p2, _⟩ := I1.tuple qy
    obtain ⟨o1, ho1, _⟩ := id p1
    obtain ⟨o2, ho2, _⟩ := id p2
    refine RZ.call_zipT p1 p2 fun k hz hTI hTO h1 h2 hsz hk => wpAny_pyIter_zip hz ?_
    exact ⟨_, _, _, _, H1, rfl, I1.kept (t' := s1.toks) hk, RZ.turn_zipT (PySem.W.ktu_apart s1.heap.objs.size a b (Heap.lt_size ho1) (Heap.lt_size ho2)), ⟨hz, hTI, ⟨_, _, hTO⟩, h1, h2⟩, five, q⟩
  · obtain ⟨its, rv, p1, _⟩ := I1.tuple qx
    obtain ⟨its2, rv2, p2, _⟩ := I1.list qy
    obtain ⟨o1, ho1, _⟩ := id p1
    refine mix_call p1 p2.isList fun k hz hTI hTO h1 h2 hk => wpAny_pyIter_zip hz ?_
    exact ⟨_, _, _, _, H1, rfl, I1.kept (t' := s1.toks) hk, turn_mix (PySem.W.ktu_apart s1.heap.objs.size a b (Heap.lt_size ho1) p2.lt), ⟨hz, hTI, ⟨_, _, hTO⟩, h1, h2⟩, five, q⟩
end EVZ
/-! EvV2: comprehensions over a dict's keys; zip; range with a step. -/
namespace EV
open PySem PySem.Spec PyProof.Rows L2

section
variable {X : Cx} {cls : Cl} {U : XW} {C : Ctx} {a b c : Expr} {i j k : E} {pos : Pos}
theorem pe_unl {e : Expr} {t : TE} (h : PE X e t) : PE X e (fun σ H Q => t σ H (fun v H => ∃ d od u, H d = some (.frz od u) ∧ NoFz X d ∧ Q v (upd H d u))) :=
  ⟨fun pins s σ H Q I q => thn (h.run pins s σ H _ I q) fun u s1 ⟨x, H1, I1, r, d, od, w, e, nf, q⟩ => ⟨x, _, I1.unlock e nf, r, q⟩⟩
theorem unl_key {W1 : Wd} {H1 : Hp} {st : Store} {n : Nat} {kvs : List (D × D)} {ad : Addr} {od o : Obj} (ha : W1.ρ[n]? = some ad) (hH : H1 ad = some (exactly ad o)) (hh : (Grd.dic n kvs).holds st = true) {W' : Wd} {H' : Hp} (x : Ext W1 (upd H1 ad (.frz od (exactly ad o))) W' H') (A' : Ag X.K X.w cls W' st H') :
    ∃ od' u, H' ad = some (.frz od' u) ∧ Ext W1 H1 W' (upd H' ad u) ∧ Ag X.K X.w cls W' (st.set n (.dic kvs)) (upd H' ad u) := by
  have am : ad ∈ W1.ρ := List.mem_of_getElem? ha
  have ha' := x.le.at ha
  obtain ⟨o2, od2, h1, d2⟩ := A'.obj n _ ad (holds_dic hh) ha'
  have x2 : Ext W1 H1 W' (upd H' ad (exactly ad o2)) := x.unlock am ⟨_, hH, fun _ _ z => by cases z⟩
  refine ⟨od2, exactly ad o2, h1, x2, ?_⟩
  have am' : ad ∈ W'.ρ := List.mem_of_getElem? ha'
  refine ⟨fun b u e => ?_, by rw [List.length_set]; exact A'.len, A'.nd, A'.out, fun m ob c e1 e2 => ?_, A'.ntb, A'.tabs am' fun b hb => upd_ne hb⟩
  · rw [upd_ne fun z => by rw [z, A'.out ad am'] at e; cases e]
    exact A'.sub b u e
  · by_cases hm : m = n
    · subst hm
      rw [ha'] at e2
      cases e2
      rw [List.getElem?_set_self (by rw [← A'.len]; exact (List.getElem?_eq_some_iff.mp ha').1)] at e1
      cases e1
      exact ⟨o2, upd_same, d2⟩
    · rw [List.getElem?_set_ne (Ne.symm hm)] at e1
      have ne : c ≠ ad := fun z => by subst z; exact hm (nodup_at A'.nd e2 ha')
      exact (A'.obj m ob c e1 e2).keep (Wd.Le.refl _) (upd_ne ne)
theorem out_dic {n : Nat} {kvs : List (D × D)} {r : R (List D)} {ys : List D} {stF : Store} (h : ((Grd.dic n kvs).out r).noX = .ok ys stF) : ∃ stE, r = .ok ys stE ∧ (Grd.dic n kvs).holds stE = true ∧ stF = stE.set n (.dic kvs) := by
  cases r with
  | bad => simp [Grd.out, R.noX] at h
  | err k st => simp [Grd.out, R.noX] at h
  | ok zs st =>
    have h : (R.test ((Grd.dic n kvs).holds st) (R.ok zs (st.set n (.dic kvs)))).noX = .ok ys stF := h
    cases e : (Grd.dic n kvs).holds st with
    | false => rw [e] at h; simp [R.noX] at h
    | true =>
      rw [e] at h
      simp only [R.test_true, R.noX_ok, R.ok.injEq] at h
      exact ⟨st, by rw [h.1], e, h.2.symm⟩
/-- [elt for target in d if ..] -/
theorem g_lcK {t : Tg} {cond ie : E} {own : List (Str × Nat)} {elt tg : Expr} {ifs : List Expr} {scope : Scope} (hc : X.calm = true) (hN : X.N.Nodup) (h : Good X cls U C a i) (ok : BlkOk X.N X.env.scope scope own) (gb : GoodB X cls C scope tg t ifs elt cond ie) (ht : ∀ s ∈ t.slots, s ∈ own.map (·.2))
    (hs : ∀ x, foldedSetIterable a X.env x = pure x) : PE X (.ListComp elt [⟨tg, a, ifs, 0⟩] scope pos) (tD X.K X.w cls U (evE C (.lc false (own.map (·.2)) t (.keys i) cond ie))) := by
  refine PE.mono (pe_unl (pe_lc hc hN (pi_rawK h.pe) ok gb.g gb.c gb.e hs)) fun σ H Q h => ?_
  obtain ⟨W, env, st, he, A, q⟩ := h
  rw [evE, evI, R.bind_assoc] at q
  refine ⟨W, env, st, he, A, (q.bind).mono fun x H1 ⟨W1, st1, d, x1, A1, r1, q1⟩ => ?_⟩
  cases d with
  | ref n =>
    obtain ⟨ad, e, ha⟩ := r1.ref_inv
    obtain ⟨ob, ho, oa⟩ := A1.at ha
    simp only [keysIt, ho] at q1
    cases ob with
    | dic kvs =>
      obtain ⟨o, hH, on, hns, hz, es, ep, ex, hdat, hr, hn⟩ := oa
      have q1 : Aft X.K X.w cls U (Rep X.K) W1 H1 ((((Grd.dic n kvs).out (lcL (.dic n kvs) t (evE C cond) (evE C ie) (wipes env (own.map (·.2))) (kvs.map (·.1)) (st1.set n (.lck kvs)))).noX).bind fun ys st => if false then .ok (.ref st.length) (st ++ [.lst ys]) else .ok (.lst ys) st) Q := q1
      refine ⟨ad, e, o, es, ep, hH, hns, ex, hdat, fun od nf => ?_⟩
      obtain ⟨vs, k1, k2⟩ := hr.keys
      obtain ⟨A2, x2⟩ := A1.setObj (H' := upd H1 ad (.frz od (exactly ad o))) (o := .lck kvs) ha (fun b hb => upd_ne hb) ⟨o, od, upd_same, on, hns, hz, es, ep, ex, hdat, hr, hn⟩ (fun _ _ z => by rw [hH] at z; cases z)
      refine ⟨vs, k1, fun p hp1 => ?_⟩
      cases e2 : ((Grd.dic n kvs).out (lcL (.dic n kvs) t (evE C cond) (evE C ie) (wipes env (own.map (·.2))) (kvs.map (·.1)) (st1.set n (.lck kvs)))).noX with
      | bad => rw [e2] at q1; exact q1.elim
      | err k s2 =>
        exfalso
        revert e2
        unfold R.noX
        split <;> simp
      | ok ys stF =>
        rw [e2] at q1
        obtain ⟨stE, run, hh, rfl⟩ := out_dic e2
        have wk : WalkD X.K X.w cls W1 (Itq ad od o vs) (kvs.map (·.1)) (.dic n kvs) false (fun H => H ad = some (.frz od (exactly ad o))) := fun W2 st2 H2 le A3 hh hp => ⟨fun m d hd => by
          obtain ⟨y, h1, h2⟩ := k2.get hd
          refine ⟨⟨hp, (List.getElem?_eq_some_iff.mp h1).1⟩, fun x H' hy => ?_⟩
          obtain ⟨rfl, hy⟩ := hy
          rw [h1] at hy
          cases hy
          exact ⟨.inl ⟨rfl, h2.mono le⟩, fun _ => ⟨rfl, h2.mono le⟩⟩, ⟨hp, by rw [k2.length]; exact Nat.le_refl _⟩⟩
        refine lc_turns (Q := fun v H => ∃ d od u, H d = some (.frz od u) ∧ NoFz X d ∧ Q v (upd H d u)) (pr := false) ht (fun z => by cases z) (he.mono x1.le) A2 (by rw [List.length_map]; exact hz) wk (fun W2 H2 x => x.fz _ _ _ upd_same) run hp1 fun H2 acc W2 x3 A3 hacc hr2 hg2 l hz2 => ?_
        obtain ⟨od', u, g1, x4, A4⟩ := unl_key (X := X) (cls := cls) ha hH hh x3 A3
        refine ⟨ad, od', u, g1, nf, ?_⟩
        have hpd : p ≠ ad := fun z => by
          subst z
          rw [g1] at hacc
          cases hacc
        have hacc' : upd H2 ad u p = some (.lst acc) := by rw [upd_ne hpd]; exact hacc
        have hp0 : H1 p = none := by
          by_cases hb : p = ad
          · exact absurd hb hpd
          · rw [upd_ne hb] at hp1; exact hp1
        obtain ⟨A5, x5, le⟩ := A4.freeze x4 (p := p) (not_pr hp0) hacc' hr2 hg2
        exact q1 _ _ _ x5 A5 (.lst (xs := acc) upd_same hz2 (l.mono le))
    | _ => exact q1.elim
  | _ => exact q1.elim
/-! ### zip -/
theorem zipL_len : ∀ (xs ys : List D), (zipL xs ys).length = min xs.length ys.length
  | [], ys => by simp [zipL]
  | x :: xs, [] => by simp [zipL]
  | x :: xs, y :: ys => by rw [zipL, List.length_cons, zipL_len xs ys, List.length_cons, List.length_cons]; omega
theorem zipL_get : ∀ {xs ys : List D} {n : Nat} {d : D}, (zipL xs ys)[n]? = some d → ∃ x y, xs[n]? = some x ∧ ys[n]? = some y ∧ d = .tup [x, y]
  | [], ys, n, d, h => by simp [zipL] at h
  | x :: xs, [], n, d, h => by simp [zipL] at h
  | x :: xs, y :: ys, 0, d, h => by
    rw [zipL] at h
    simp at h
    exact ⟨x, y, rfl, rfl, h.symm⟩
  | x :: xs, y :: ys, n + 1, d, h => by
    rw [zipL, List.getElem?_cons_succ] at h
    obtain ⟨a, b, h1, h2, h3⟩ := zipL_get h
    exact ⟨a, b, by simpa using h1, by simpa using h2, h3⟩
/-- for x, y in zip(a, b) -/
theorem gi_zip {p tpos : Pos} {elts : List Expr} {kk : Nat} (h : Good X cls U C a i) (h2 : Good X cls U C b j) (hg : Gl X "zip") (hm : X.mg "zip" = none) (hs : noStar a = true) (hs2 : noStar b = true) :
    PI X (.Tuple elts kk tpos) (.Call (.Name "zip" p) [a, b] [] pos) (tDI X.K X.w cls U true (evI C (.zip i j))) := by
  refine PI.mono (EVZ.pi_zipM hg hm (pa_cons h.pe (pa_cons h2.pe pa_nil (starEach_no hs2)) (starEach_no hs)) (starEach_no hs) (by rw [starEach_no hs2]; rfl)) fun σ H Q q => ?_
  obtain ⟨W, env, st, he, A, _, q⟩ := q
  rw [evI] at q
  refine ⟨W, env, st, he, A, (q.bind).mono fun x H1 ⟨W1, st1, d, x1, A1, r1, q1⟩ => ?_⟩
  refine ⟨W1, env, st1, he.mono x1.le, A1, (q1.bind).mono fun y H2 ⟨W2, st2, d2, x2, A2, r2, q2⟩ => ?_⟩
  have r1 := r1.mono x2.le
  cases d with
  | tup ds =>
    cases d2 with
    | tup es =>
      obtain ⟨ad, us, xs, rfl, g, z, l⟩ := r1.tup_inv
      obtain ⟨bd, us2, ys, rfl, g2, z2, l2⟩ := r2.tup_inv
      have q2 : Aft X.K X.w cls U (fun W' (J : L2.It) p => p.1.length ≤ sizeLine ∧ WalkD X.K X.w cls W' J p.1 p.2 true) W2 H2 (.ok (zipL ds es, .no) st2) Q := q2
      refine ⟨ad, bd, xs, ys, rfl, .inr (.inl ⟨SqT_ft (A2.sub _ _ g), SqT_ft (A2.sub _ _ g2), q2 _ W2 H2 (Ext.refl _ _) A2 ⟨by rw [zipL_len]; omega, fun W3 st3 H3 le A3 _ _ => ?_⟩⟩)⟩
      have hq : SqT X.K H3 ad xs := SqT_ft (A3.sub _ _ (le.g _ _ g))
      have hq2 : SqT X.K H3 bd ys := SqT_ft (A3.sub _ _ (le.g _ _ g2))
      refine ⟨fun n d hn => ?_, ⟨xs, ys, hq, hq2, ?_⟩⟩
      · obtain ⟨dx, dy, k1, k2, rfl⟩ := zipL_get hn
        obtain ⟨v1, k3, k4⟩ := l.get k1
        obtain ⟨v2, k5, k6⟩ := l2.get k2
        refine ⟨⟨xs, ys, v1, v2, hq, hq2, k3, k5⟩, fun v H' hy => ⟨.inr ?_, fun z => by cases z⟩⟩
        obtain ⟨T, y1, y2, rfl, hT, rfl, w1, w2⟩ := hy
        have w1 := w1 xs hq
        have w2 := w2 ys hq2
        rw [k3] at w1
        rw [k5] at w2
        cases w1
        cases w2
        exact ⟨T, _, _, _, _, rfl, hT, rfl, rfl, k4.mono le, k6.mono le⟩
      · rw [zipL_len, l.length, l2.length]; omega
    | lst es =>
      obtain ⟨ad, us, xs, rfl, g, z, l⟩ := r1.tup_inv
      obtain ⟨bd, ys, rfl, g2, z2, l2⟩ := r2.lst_inv
      have q2 : Aft X.K X.w cls U (fun W' (J : L2.It) p => p.1.length ≤ sizeLine ∧ WalkD X.K X.w cls W' J p.1 p.2 true) W2 H2 (.ok (zipL ds es, .no) st2) Q := q2
      refine ⟨ad, bd, xs, ys, rfl, .inr (.inr ⟨SqT_ft (A2.sub _ _ g), SqL.of (A2.sub _ _ g2), q2 _ W2 H2 (Ext.refl _ _) A2 ⟨by rw [zipL_len]; omega, fun W3 st3 H3 le A3 _ _ => ?_⟩⟩)⟩
      have hq : SqT X.K H3 ad xs := SqT_ft (A3.sub _ _ (le.g _ _ g))
      have hq2 : SqL X.K H3 bd ys := SqL.of (A3.sub _ _ (le.g _ _ g2))
      refine ⟨fun n d hn => ?_, ⟨xs, ys, hq, hq2, ?_⟩⟩
      · obtain ⟨dx, dy, k1, k2, rfl⟩ := zipL_get hn
        obtain ⟨v1, k3, k4⟩ := l.get k1
        obtain ⟨v2, k5, k6⟩ := l2.get k2
        refine ⟨⟨xs, ys, v1, v2, hq, hq2, k3, k5⟩, fun v H' hy => ⟨.inr ?_, fun z => by cases z⟩⟩
        obtain ⟨T, y1, y2, rfl, hT, rfl, w1, w2⟩ := hy
        have w1 := w1 xs hq
        have w2 := w2 ys hq2
        rw [k3] at w1
        rw [k5] at w2
        cases w1
        cases w2
        exact ⟨T, _, _, _, _, rfl, hT, rfl, rfl, k4.mono le, k6.mono le⟩
      · rw [zipL_len, l.length, l2.length]; omega
    | _ => exact q2.elim
  | lst ds =>
    cases d2 with
    | lst es =>
      obtain ⟨ad, xs, rfl, g, z, l⟩ := r1.lst_inv
      obtain ⟨bd, ys, rfl, g2, z2, l2⟩ := r2.lst_inv
      have q2 : Aft X.K X.w cls U (fun W' (J : L2.It) p => p.1.length ≤ sizeLine ∧ WalkD X.K X.w cls W' J p.1 p.2 true) W2 H2 (.ok (zipL ds es, .no) st2) Q := q2
      refine ⟨ad, bd, xs, ys, rfl, .inl ⟨SqL.of (A2.sub _ _ g), SqL.of (A2.sub _ _ g2), q2 _ W2 H2 (Ext.refl _ _) A2 ⟨by rw [zipL_len]; omega, fun W3 st3 H3 le A3 _ _ => ?_⟩⟩⟩
      have hq : SqL X.K H3 ad xs := SqL.of (A3.sub _ _ (le.g _ _ g))
      have hq2 : SqL X.K H3 bd ys := SqL.of (A3.sub _ _ (le.g _ _ g2))
      refine ⟨fun n d hn => ?_, ⟨xs, ys, hq, hq2, ?_⟩⟩
      · obtain ⟨dx, dy, k1, k2, rfl⟩ := zipL_get hn
        obtain ⟨v1, k3, k4⟩ := l.get k1
        obtain ⟨v2, k5, k6⟩ := l2.get k2
        refine ⟨⟨xs, ys, v1, v2, hq, hq2, k3, k5⟩, fun v H' hy => ⟨.inr ?_, fun z => by cases z⟩⟩
        obtain ⟨T, y1, y2, rfl, hT, rfl, w1, w2⟩ := hy
        have w1 := w1 xs hq
        have w2 := w2 ys hq2
        rw [k3] at w1
        rw [k5] at w2
        cases w1
        cases w2
        exact ⟨T, _, _, _, _, rfl, hT, rfl, rfl, k4.mono le, k6.mono le⟩
      · rw [zipL_len, l.length, l2.length]; omega
    | _ => exact q2.elim
  | _ => exact q2.elim
theorem rngS_len (lo hi c : Int) : (rngS lo hi c).length = ((hi - lo + c - 1) / c).toNat := by simp [rngS]
theorem rngS_size (lo hi c : Int) (hc : 0 < c) : Builtin.Range.rangeSize lo hi c = (((hi - lo + c - 1) / c).toNat : Nat) := by
  unfold Builtin.Range.rangeSize
  rw [if_pos hc]
  split
  · have e : hi - lo + c - 1 = (hi - lo - 1) + 1 * c := by omega
    rw [e, Int.add_mul_ediv_right _ _ (by omega)]
    have : 0 ≤ (hi - lo - 1) / c := Int.ediv_nonneg (by omega) (by omega)
    omega
  · have : (hi - lo + c - 1) / c ≤ 0 := by
      have h1 : (hi - lo + c - 1) / c ≤ (c - 1) / c := Int.ediv_le_ediv hc (by omega)
      have h2 : (c - 1) / c = 0 := Int.ediv_eq_zero_of_lt (by omega) (by omega)
      omega
    omega
theorem gi_rng3 {tg : Expr} {p : Pos} (h : Good X cls U C a i) (h2 : Good X cls U C b j) (h3 : Good X cls U C c k) (hg : Gl X "range") (hm : X.mg "range" = none) (hs : noStar a = true) (hs2 : noStar b = true) (hs3 : noStar c = true) :
    PI X tg (.Call (.Name "range" p) [a, b, c] [] pos) (tDI X.K X.w cls U false (evI C (.rng3 i j k))) := by
  refine PI.mono (pi_range3 (tg := tg) hg hm (pa_cons h.pe (pa_cons h2.pe (pa_cons h3.pe pa_nil (starEach_no hs3)) (starEach_no hs2)) (starEach_no hs)) (starEach_no hs) (by rw [starEach_no hs2, starEach_no hs3]; rfl)) fun σ H Q q => ?_
  obtain ⟨W, env, st, he, A, _, q⟩ := q
  rw [evI] at q
  refine ⟨W, env, st, he, A, (q.bind).mono fun x H1 ⟨W1, st1, d, x1, A1, r1, q1⟩ => ?_⟩
  refine ⟨W1, env, st1, he.mono x1.le, A1, (q1.bind).mono fun y H2 ⟨W2, st2, d2, x2, A2, r2, q2⟩ => ?_⟩
  refine ⟨W2, env, st2, (he.mono x1.le).mono x2.le, A2, (q2.bind).mono fun z H3 ⟨W3, st3, d3, x3, A3, r3, q3⟩ => ?_⟩
  have q3 : Aft X.K X.w cls U (fun W' (J : L2.It) p => p.1.length ≤ sizeLine ∧ WalkD X.K X.w cls W' J p.1 p.2 false) W3 H3 (rng3 d d2 d3 st3) Q := q3
  cases d with
  | int lo =>
    cases d2 with
    | int hi =>
      cases d3 with
      | int st =>
        simp only [rng3] at q3
        obtain ⟨hb, q3⟩ := Aft.test q3
        simp only [Bool.and_eq_true, decide_eq_true_eq] at hb
        obtain ⟨⟨⟨⟨⟨b1, b2⟩, b3⟩, b4⟩, b5⟩, b6⟩ := hb
        have hle : ((hi - lo + st - 1) / st) ≤ 3000000 := by
          have := Int.ediv_le_self (a := 3000000) st (by omega)
          have h1 : (hi - lo + st - 1) / st ≤ 3000000 / st := Int.ediv_le_ediv b5 (by omega)
          omega
        refine ⟨lo, hi, st, ((hi - lo + st - 1) / st).toNat, by rw [((r1.mono x2.le).mono x3.le).int_inv, (r2.mono x3.le).int_inv, r3.int_inv], ⟨by omega, by omega, ?_, ?_⟩, q3 _ W3 H3 (Ext.refl _ _) A3 ⟨by rw [rngS_len, sizeLine_eq]; omega, ?_⟩⟩
        · have hsz := rngS_size lo hi st b5
          unfold Builtin.Range.small
          rw [hsz]
          simp only [Builtin.Range.rangeFitsLong, Bool.and_eq_true, Bool.or_eq_true, decide_eq_true_eq, beq_iff_eq, show st > 0 from b5, if_true]
          omega
        · exact rngS_size lo hi st b5
        · intro W4 st4 H4 le A4 _ _
          refine ⟨fun n d hn => ?_, by show _ ≤ _; rw [rngS_len]; exact Nat.le_refl _⟩
          unfold rngS at hn
          rw [List.getElem?_map] at hn
          obtain ⟨m, h1, rfl⟩ := Option.map_eq_some_iff.mp hn
          obtain ⟨h2, rfl⟩ := range_get h1
          refine ⟨h2, fun x H' hy => ?_⟩
          obtain ⟨rfl, rfl⟩ := hy
          exact ⟨.inl ⟨rfl, .int _⟩, fun _ => ⟨rfl, .int _⟩⟩
      | _ => exact q3.elim
    | _ => exact q3.elim
  | _ => exact q3.elim
end
end EV
/-! EvTo: the law's own told: x(lambda: body), caught; raise. -/
namespace EV
open PySem PySem.Spec PyProof.Rows L2

/-! ### the def, as it stands in every law: l its row -/
abbrev ps (l a b : Nat) : Pos := ⟨l, a, l, b⟩
def isE (l a : Nat) (x : Str) (n : Nat) : Expr := .Call (.Name "isinstance" (ps l a (a + 10))) [.Name "e" (ps l (a + 11) (a + 12)), .Name x (ps l (a + 14) (a + 14 + n))] [] (ps l a (a + 15 + n))
def toldKinds (l : Nat) : Stmt := .Assign [.Name "kinds" (ps (l + 4) 8 13)] (.List [isE (l + 4) 17 "NoText" 6, isE (l + 4) 40 "NoMove" 6, isE (l + 4) 63 "NoDice" 6] (ps (l + 4) 16 85)) (ps (l + 4) 8 85)
def toldNo (l : Nat) : Stmt := .Assign [.Name "found" (ps (l + 5) 8 13)] (.Tuple [.Constant (.str "refused") 0 (ps (l + 5) 17 26), .UnaryOp .USub (.Constant (.int 1) 0 (ps (l + 5) 29 30)) (ps (l + 5) 28 30)] 0 (ps (l + 5) 16 31)) (ps (l + 5) 8 31)
def toldCnt (l : Nat) : Expr := .Compare (.Call (.Attribute (.Name "kinds" (ps (l + 6) 41 46)) "count" (ps (l + 6) 41 52)) [.Constant (.bool true) 0 (ps (l + 6) 53 57)] [] (ps (l + 6) 41 58)) [.Eq] [.Constant (.int 1) 0 (ps (l + 6) 62 63)] (ps (l + 6) 41 63)
def toldIf (l : Nat) : Stmt := .If (.BoolOp .And [isE (l + 6) 11 "ValueError" 10, toldCnt l] (ps (l + 6) 11 63))
  [.Assign [.Name "found" (ps (l + 7) 12 17)] (.Tuple [.Constant (.str "refused") 0 (ps (l + 7) 21 30), .Call (.Attribute (.Name "kinds" (ps (l + 7) 32 37)) "index" (ps (l + 7) 32 43)) [.Constant (.bool true) 0 (ps (l + 7) 44 48)] [] (ps (l + 7) 32 49)] 0 (ps (l + 7) 20 50)) (ps (l + 7) 12 50)] [] ⟨l + 6, 8, l + 7, 50⟩
def toldTry (l : Nat) : Stmt := .Assign [.Name "found" (ps (l + 2) 8 13)] (.Tuple [.Constant (.str "told") 0 (ps (l + 2) 17 23), .Call (.Name "deed" (ps (l + 2) 25 29)) [] [] (ps (l + 2) 25 31)] 0 (ps (l + 2) 16 32)) (ps (l + 2) 8 32)
def toldBody (l : Nat) : List Stmt := [.Try [toldTry l] [.ExceptHandler (some (.Name "DiceError" (ps (l + 3) 11 20))) (some "e") [toldKinds l, toldNo l, toldIf l] ⟨l + 3, 4, l + 7, 50⟩] [] [] ⟨l + 1, 4, l + 7, 50⟩, .Return (some (.Name "found" (ps (l + 8) 11 16))) (ps (l + 8) 4 16)]
def toldN : List Str := ["deed", "found", "e", "kinds"]
def toldScope : Scope := ⟨.function, [("deed", .local), ("found", .local), ("e", .local), ("kinds", .local), ("DiceError", .globalImplicit), ("isinstance", .globalImplicit), ("NoText", .globalImplicit), ("NoMove", .globalImplicit), ("NoDice", .globalImplicit), ("ValueError", .globalImplicit)], false, false, []⟩
def excNm : List Str := ["NoText", "NoMove", "NoDice"]
/-- what the classes must say -/
structure ExK (K : PySem.W.Frag) (xa : Nat → Addr) (CS : Addr) : Prop where
  exm : ∀ k, k < 3 → PySem.W.exmOne K (.ref (xa k)) (.ref CS) = some true
  exc : ∀ k, k < 3 → ExcC K (xa k)
  is : ∀ k j, k < 3 → j < 3 → PySem.W.kitOne K (.ref (xa k)) (.ref (xa j)) = some (decide (k = j))
  ve : ∀ k, k < 3 → PySem.W.kitOne K (.ref (xa k)) (.type "ValueError") = some true
section
variable {X : Cx}
/-- list.count of truths -/
def rCntB (K : PySem.W.Frag) : V → List V → Hp → VK → Prop := fun x xs H Q => ∃ (p : Addr) (bs : List Bool) (c : Bool), x = .ref p ∧ xs = [.bl c] ∧ SqL K H p (bs.map V.bl) ∧ Q (.int (countD (.bl c) (bs.map D.bl) : Nat)) H
theorem flats_bl (n : Nat) : ∀ bs : List Bool, D.flats n (bs.map D.bl) = true
  | [] => by simp [D.flats]
  | b :: bs => by rw [List.map_cons, D.flats, flats_bl n bs]; simp [D.flat]
theorem mt_cntB (hu : X.A.units + 64 < cLine) : MtR X "list.count" (rCntB X.K) := by
  intro pins s σ H x xs v us Q I rx rxs h
  obtain ⟨p, bs, c, rfl, rfl, hs, q⟩ := h
  cases rx
  obtain ⟨u, rfl, ru⟩ := rxs.one
  obtain ⟨its, rv, pl, hz⟩ := I.list hs
  have A : Ag X.K X.w ⟨fun _ => none, []⟩ ⟨fun _ => none, []⟩ [] H := ⟨fun _ _ e => (by cases e), rfl, List.nodup_nil, fun a ha => (by simp at ha), fun i o a h => (by simp at h), fun _ _ e => (by cases e), fun p hp => (by cases hp)⟩
  obtain ⟨as, h1⟩ := (Rep.bl (K := X.K) (W := ⟨fun _ => none, []⟩) c).reads I A (n := 20) (by simp [D.flat]) ru
  obtain ⟨cs, h2⟩ := (RepL.bls (K := X.K) (W := ⟨fun _ => none, []⟩) bs).reads I A (n := 20) (flats_bl 20 bs) rv
  have p1 := D.py_plain (.bl c) (n := 20) (by simp [D.flat])
  have p2 := D.pys_plain (bs.map D.bl) (n := 20) (flats_bl 20 bs)
  refine SeqAt.count_list_data (vs := its.toArray) pl.isList (by simpa using h2) h1 p2.1 p1.1 (by have := Nat.min_le_right (PyData.depthAll (D.pys (bs.map D.bl))) (D.bl c).py.depth; have := p1.2; omega) ?_
  rw [countD_py (n := 20) (by simp [D.flat]) (flats_bl 20 bs)]
  exact ⟨.int _, H, I.tok _, ⟨_, rfl⟩, q⟩
/-- what is told of the lambda's reading: a pair of a word and what came, in a heap that has the old one whole -/
def TTo (xa : Nat → Addr) : (XK → Hp → VK → Prop) → Hp → VK → Prop := fun tl H Q =>
  tl (fun c d H' => ∃ k, c = .ref (xa k) ∧ d = none ∧ k < 3 ∧ ∀ H2 p us, Same H' H2 → H' p = none → H2 p = some (FT us [.str "refused", .int (k : Nat)]) → Q (.ref p) H2) H
    fun v H' => ∀ p us, H' p = none → Q (.ref p) (upd H' p (FT us [.str "told", v]))
/-- the suite's reading -/
def tSuite (xa : Nat → Addr) (a : Addr) (c : Value) (d : Option Addr) : TS := fun D σ H => ∃ k, c = .ref (xa k) ∧ d = none ∧ k < 3 ∧ σ.length = 4 ∧ σ[2]? = some (some (.ref a)) ∧
  ∀ σ' H' p us, σ'.length = 4 → σ'[1]? = some (some (.ref p)) → Same H H' → H p = none → H' p = some (FT us [.str "refused", .int (k : Nat)]) → D.nx σ' H'
theorem ifT {c : Prop} [Decidable c] {p q : Prop} (h : c) (x : p) : if c then p else q := by rw [if_pos h]; exact x
theorem same_upd {H : Hp} {p : Addr} {o : HO} (h : H p = none) : Same H (upd H p o) := fun b u e => by rw [upd_ne (ne_of_none e h)]; exact e
theorem suite_ok {Z : Cx} {xa : Nat → Addr} {CS : Addr} (hN : Z.N = toldN) (hsc : Z.env.scope = toldScope) (hx : ∀ k, k < 3 → Z.mg (excNm.getD k "") = some (.ref (xa k))) (hi : Z.mg "isinstance" = none) (hv : Z.mg "ValueError" = none) (EK : ExK Z.K xa CS) (hu : Z.A.units + 64 < cLine)
    (l : Nat) (a : Addr) (oe : Obj) (c : Value) (d : Option Addr) (pn : List (Addr × Obj)) (hz : Zc c d oe) (hf : ∃ vs, oe.data = .fields vs) : PSs (Z.suite a ((a, oe) :: pn)) [toldKinds l, toldNo l, toldIf l] (tSuite xa a c d) := by
  refine ⟨fun pins s σ H D I h => ?_⟩
  obtain ⟨k, rfl, rfl, hk, hl, he, h⟩ := h
  have gl : ∀ x, toldScope.names.lookup x = some .globalImplicit → Gl (Z.suite a ((a, oe) :: pn)) x := fun x z => by
    show Z.env.scope.names.lookup x = _
    rw [hsc]; exact z
  have lo : ∀ x, toldScope.names.lookup x = some .local → Z.env.scope.names.lookup x = some .local := fun x z => by rw [hsc]; exact z
  have nd : (Z.suite a ((a, oe) :: pn)).N.Nodup := by show Z.N.Nodup; rw [hN]; decide
  have nm : ∀ (i : Nat) (x : Str), toldN[i]? = some x → (Z.suite a ((a, oe) :: pn)).N[i]? = some x := fun i x z => by show Z.N[i]? = _; rw [hN]; exact z
  have isx : ∀ (l q : Nat) (x : Str) (n : Nat) (v : V) (cv : Value) (b : Bool), PE (Z.suite a ((a, oe) :: pn)) (.Name x (ps l (q + 14) (q + 14 + n))) (tC v) → (∀ u, RelV v u → u = cv) → PySem.W.kitOne Z.K (.ref (xa k)) cv = some b →
      PE (Z.suite a ((a, oe) :: pn)) (isE l q x n) (fun σ H Q => σ[2]? = some (some (.ref a)) ∧ Q (.bl b) H) := fun l q x n v cv b hp hr hb => by
    refine PE.mono (pe_callB (X := Z.suite a ((a, oe) :: pn)) (call_isE (EK.exc k hk) hz hf) (gl _ rfl) hi (by decide +kernel) (pa_cons (pe_var (i := 2) (nm 2 _ rfl) (.inl (lo _ rfl))) (pa_cons hp pa_nil))) fun σ H Q ⟨h1, h2⟩ => ?_
    exact ⟨_, h1, v, cv, b, rfl, hr, hb, h2⟩
  have is0 : PE (Z.suite a ((a, oe) :: pn)) (isE (l + 4) 17 "NoText" 6) (fun σ H Q => σ[2]? = some (some (.ref a)) ∧ Q (.bl (decide (k = 0))) H) := isx _ _ _ _ (.ref (xa 0)) _ _ (pe_glob (gl _ rfl) (hx 0 (by decide)) rfl) (fun u r => r) (EK.is k 0 hk (by decide))
  have is1 : PE (Z.suite a ((a, oe) :: pn)) (isE (l + 4) 40 "NoMove" 6) (fun σ H Q => σ[2]? = some (some (.ref a)) ∧ Q (.bl (decide (k = 1))) H) := isx _ _ _ _ (.ref (xa 1)) _ _ (pe_glob (gl _ rfl) (hx 1 (by decide)) rfl) (fun u r => r) (EK.is k 1 hk (by decide))
  have is2 : PE (Z.suite a ((a, oe) :: pn)) (isE (l + 4) 63 "NoDice" 6) (fun σ H Q => σ[2]? = some (some (.ref a)) ∧ Q (.bl (decide (k = 2))) H) := isx _ _ _ _ (.ref (xa 2)) _ _ (pe_glob (gl _ rfl) (hx 2 (by decide)) rfl) (fun u r => r) (EK.is k 2 hk (by decide))
  have isv : PE (Z.suite a ((a, oe) :: pn)) (isE (l + 6) 11 "ValueError" 10) (fun σ H Q => σ[2]? = some (some (.ref a)) ∧ Q (.bl true) H) := isx _ _ _ _ (.ty "ValueError") _ _ (pe_bltn (gl _ rfl) hv (by decide +kernel) rfl) (fun u r => r) (EK.ve k hk)
  have kv : PE (Z.suite a ((a, oe) :: pn)) (.Name "kinds" (ps (l + 6) 41 46)) (tVar 3) := pe_var (nm 3 _ rfl) (.inl (lo _ rfl))
  have kv2 : PE (Z.suite a ((a, oe) :: pn)) (.Name "kinds" (ps (l + 7) 32 37)) (tVar 3) := pe_var (nm 3 _ rfl) (.inl (lo _ rfl))
  have hle : ∀ n : Nat, (n == n) = true := fun n => beq_self_eq_true n
  have cnt := pe_bm (X := Z.suite a ((a, oe) :: pn)) (apos := ps (l + 6) 41 52) (cpos := ps (l + 6) 41 58) F.plainAttrs_list F.slot_list_count F.type_list_count (mt_cntB hu) kv (pa_cons (pe_bl (b := true) (j := 0) (pos := ps (l + 6) 53 57)) pa_nil) (hline := hle (l + 6))
  have idx := pe_bm (X := Z.suite a ((a, oe) :: pn)) (apos := ps (l + 7) 32 43) (cpos := ps (l + 7) 32 49) F.plainAttrs_list F.slot_list_index F.type_list_index mt_index kv2 (pa_cons (pe_bl (b := true) (j := 0) (pos := ps (l + 7) 44 48)) pa_nil) (hline := hle (l + 7))
  have s1 : PS (Z.suite a ((a, oe) :: pn)) (toldKinds l) _ := ps_set (i := 3) nd (nm 3 _ rfl) (.inl (lo _ rfl)) (pe_lst (pa_cons is0 (pa_cons is1 (pa_cons is2 pa_nil)))) (hf := .inr (lo _ rfl))
  have s2 : PS (Z.suite a ((a, oe) :: pn)) (toldNo l) _ := ps_set (i := 1) nd (nm 1 _ rfl) (.inl (lo _ rfl)) (pe_tupF (pa_cons pe_str (pa_cons (pe_un un_neg pe_int) pa_nil))) (hf := .inr (lo _ rfl))
  have s3 : PS (Z.suite a ((a, oe) :: pn)) (toldIf l) _ := ps_if (pw_and (pt_val isv) (pw_and1 (pt_cmpR op_eq cnt pe_int rfl))).pt (pss_one (ps_set (i := 1) nd (nm 1 _ rfl) (.inl (lo _ rfl)) (pe_tupF (pa_cons pe_str (pa_cons idx pa_nil))) (hf := .inr (lo _ rfl)))) pss_nil
  refine (pss_cons s1 (pss_cons s2 (pss_one s3))).run pins s σ H D I ?_
  have sz : ∀ n : Nat, n ≤ 10 → n ≤ sizeLine := fun n hn => by rw [sizeLine_eq]; omega
  refine ⟨he, he, he, sz 3 (by decide), fun p1 hp1 => ⟨1, rfl, sz 2 (by decide), fun p2 us2 hp2 => ?_⟩⟩
  obtain ⟨bs, hbs⟩ : ∃ bs : List Bool, bs = [decide (k = 0), decide (k = 1), decide (k = 2)] := ⟨_, rfl⟩
  have e1 : ∀ (o : HO), upd (upd H p1 (.lst (bs.map V.bl))) p2 o p1 = some (.lst (bs.map V.bl)) := fun o => by
    rw [upd_ne (ne_of_none (o := .lst (bs.map V.bl)) upd_same (by rw [hbs]; exact hp2)), upd_same]
  have e1' := e1 (FT us2 [.str "refused", .int (-1)])
  rw [hbs] at e1'
  have z2 : ((σ.set 3 (some (.ref p1))).set 1 (some (.ref p2)))[2]? = some (some (.ref a)) := by
    rw [List.getElem?_set_ne (by decide), List.getElem?_set_ne (by decide)]; exact he
  have z3 : ((σ.set 3 (some (.ref p1))).set 1 (some (.ref p2)))[3]? = some (some (.ref p1)) := by
    rw [List.getElem?_set_ne (by decide), List.getElem?_set_self (by rw [hl]; decide)]
  refine ⟨z2, true, rfl, ifT rfl ?_⟩
  have hcn : countD (.bl true) ([decide (k = 0), decide (k = 1), decide (k = 2)].map EV.D.bl) = 1 := by
    obtain rfl | rfl | rfl : k = 0 ∨ k = 1 ∨ k = 2 := by omega
    all_goals rfl
  refine ⟨_, z3, .inl ⟨rfl, _, SqL.of e1'⟩, p1, _, true, rfl, rfl, SqL.of e1', rfl, _, rfl, ?_⟩
  have hb : decide (V.int ((countD (.bl true) ([decide (k = 0), decide (k = 1), decide (k = 2)].map EV.D.bl) : Nat) : Int) = V.int 1) = true := by rw [hcn]; rfl
  refine ifT hb ?_
  refine ⟨_, z3, .inl ⟨rfl, _, SqL.of e1'⟩, p1, _, .bl true, k, .bl true, rfl, rfl, SqL.of e1', rfl, rfl, ?_, rfl, ?_, sz 2 (by decide), fun p3 us3 hp3 => ?_⟩
  · obtain rfl | rfl | rfl : k = 0 ∨ k = 1 ∨ k = 2 := by omega
    all_goals rfl
  · intro m z' hm hz'
    obtain rfl | rfl | rfl : k = 0 ∨ k = 1 ∨ k = 2 := by omega
    · omega
    · obtain rfl : m = 0 := by omega
      cases hz'; rfl
    · obtain rfl | rfl : m = 0 ∨ m = 1 := by omega
      all_goals (cases hz'; rfl)
  · have n3 : H p3 = none := by
      have q1 : p3 ≠ p2 := fun z => by rw [z, upd_same] at hp3; cases hp3
      rw [upd_ne q1] at hp3
      have q2 : p3 ≠ p1 := fun z => by rw [z, upd_same] at hp3; cases hp3
      rw [upd_ne q2] at hp3
      exact hp3
    exact h _ _ p3 us3 (by simp [hl]) (List.getElem?_set_self (by simp [hl])) ((same_upd hp1).trans ((same_upd hp2).trans (same_upd hp3))) n3 upd_same
theorem told_gives2 {g CS : Addr} {cdg : Value} {q : Str} {xa : Nat → Addr} (l : Nat) (hx : ∀ k, k < 3 → X.mg (excNm.getD k "") = some (.ref (xa k))) (hi : X.mg "isinstance" = none) (hv : X.mg "ValueError" = none) (hd : X.mg "DiceError" = some (.ref CS)) (EK : ExK X.K xa CS)
    (hu : X.A.units + 100 < cLine) : LamX.GivesTo X toldN "_law_told" toldScope g cdg (toldBody l) "deed" q (TTo xa) := by
  intro f c' s H Q tl act hc h
  have hgl : Gl (cxOf C8.CX0 X.prog X.w X.K X.mg X.base toldN "_law_told" toldScope g cdg X.A X.stack s H C8.E0).nox "DiceError" := rfl
  have hun : (cxOf C8.CX0 X.prog X.w X.K X.mg X.base toldN "_law_told" toldScope g cdg X.A X.stack s H C8.E0).nox.A.units + 64 < cLine := by
    show X.A.units + 3 + 64 < cLine
    omega
  refine ⟨_, pss_cons (ps_try_as (X := (cxOf C8.CX0 X.prog X.w X.K X.mg X.base toldN "_law_told" toldScope g cdg X.A X.stack s H C8.E0).nox) (i := 2) (c := .ref CS) (Wout := fun _ _ _ _ => False) (ts := tSuite xa)
      (tb := fun W D σ H => σ.length = 4 ∧ ∃ Ech : XK, (∀ cls d σ' H', σ'.length = 4 → Ech cls d H' → W cls d σ' H') ∧ σ[0]? = some (some (.ref f)) ∧ H c' = some (LamX.CodeO c' q) ∧ tl Ech H (fun v H1 => ∀ p us, H1 p = none → D.nx (σ.set 1 (some (.ref p))) (upd H1 p (FT us [.str "told", v]))))
      rfl rfl (show toldN.Nodup by decide) rfl rfl ⟨hgl, by decide, .inl hd⟩ LamX.takes0 (fun W pn xe tk _ => ?_) (fun a oe cls d pn hz hf => suite_ok (Z := (cxOf C8.CX0 X.prog X.w X.K X.mg X.base toldN "_law_told" toldScope g cdg X.A X.stack s H C8.E0).nox) rfl rfl hx hi hv EK hun l a oe cls d pn hz hf)) (pss_one (ps_ret (pe_var (i := 1) rfl (.inl rfl)))), ?_⟩
  · refine ⟨fun pins s' σ H' D I h' => ?_⟩
    obtain ⟨hl, Ech, hW, h1, h2, h3⟩ := h'
    have tk' : Takes ((cxOf C8.CX0 X.prog X.w X.K X.mg X.base toldN "_law_told" toldScope g cdg X.A X.stack s H C8.E0).tr pn xe) (fun cls d σ H => σ.length = 4 → W cls d σ H) := fun u s' ⟨a, B, sI, pins, σ, H, cls, d, e, I, nb, up, sky, na, os, ag, w⟩ =>
      tk u s' ⟨a, B, sI, pins, σ, H, cls, d, e, I, nb, up, sky, na, os, ag, w I.len⟩
    have hp := act _ pn xe Ech (ps (l + 2) 25 29) (ps (l + 2) 25 31) tk' fun cls d σ' H' he hl' => hW cls d σ' H' hl' he
    have hq := pss_one (ps_set (X := (cxOf C8.CX0 X.prog X.w X.K X.mg X.base toldN "_law_told" toldScope g cdg X.A X.stack s H C8.E0).tr pn xe) (pos' := ps (l + 2) 8 13) (pos := ps (l + 2) 8 32) (i := 1) (x := "found") (show toldN.Nodup by decide) rfl (.inl rfl) (pe_tupF (x1 := 0) (pos := ps (l + 2) 16 32) (pa_cons (pe_str (x := "told") (j := 0) (pos := ps (l + 2) 17 23)) (pa_cons hp pa_nil))) (hf := .inl rfl))
    refine hq.run pins s' σ H' D I ⟨h1, h2, ?_⟩
    have e : (fun (v : V) (H1 : Hp) => ∀ p us, H1 p = none → D.nx (σ.set 1 (some (.ref p))) (upd H1 p (FT us [.str "told", v]))) = (fun (v : V) (H1 : Hp) => [V.str "told", v].length ≤ sizeLine ∧ ∀ p us, H1 p = none → D.nx (σ.set 1 (some (.ref p))) (upd H1 p (FT us [.str "told", v]))) := by
      funext v H1
      refine propext ⟨fun z => ⟨?_, z⟩, fun z => z.2⟩
      show 2 ≤ sizeLine
      rw [sizeLine_eq]; omega
    rw [e] at h3
    exact h3
  · refine ⟨rfl, (fun c d H' => ∃ k, c = .ref (xa k) ∧ d = none ∧ k < 3 ∧ ∀ H2 p us, Same H' H2 → H' p = none → H2 p = some (FT us [.str "refused", .int (k : Nat)]) → Q (.ref p) H2), fun cls d σ' H' hl' hE => ?_, rfl, hc, ?_⟩
    · obtain ⟨k, e1, e2, e3, e4⟩ := hE
      refine ⟨true, ?_, fun _ a ha => ⟨k, e1, e2, e3, ?_, ?_, fun σ2 H2 p us k1 k2 k3 k4 k5 => ⟨.ref p, ?_, e4 H2 p us k3 k4 k5⟩⟩, fun z => nomatch z⟩
      · rw [e1]; exact EK.exm k e3
      · rw [List.length_set]; exact hl'
      · exact List.getElem?_set_self (by rw [hl']; decide)
      · rw [List.getElem?_set_ne (by decide)]; exact k2
    · have e : (fun (v : V) (H1 : Hp) => ∀ p us, H1 p = none → Q (.ref p) (upd H1 p (FT us [.str "told", v]))) = (fun (v : V) (H1 : Hp) => ∀ p us, H1 p = none → ∃ v', ((L2.start toldN [V.ref f]).set 1 (some (.ref p)))[1]? = some (some v') ∧ Q v' (upd H1 p (FT us [.str "told", v]))) := by
        funext v H1
        refine propext ⟨fun z p us hp => ⟨.ref p, rfl, z p us hp⟩, fun z p us hp => ?_⟩
        obtain ⟨v', e1, e2⟩ := z p us hp
        cases e1
        exact e2
      unfold TTo at h
      rw [e] at h
      exact h
end
section
variable {K : PySem.W.Frag} {w : World} {cls : Cl} {W : Wd} {H H1 : Hp} {st : Store}
/-- a heap that has the old one whole, with a new object -/
theorem Ag.grow (A : Ag K w cls W st H) (sm : Same H H1) {p : Addr} {o : HO} (hp : H p = none) (h1 : H1 p = some o) (ho : ∀ ps, o ≠ .tbl ps := by intro _ z; cases z) : Ag K w cls ⟨upd W.G p o, W.ρ⟩ st H1 ∧ Ext W H ⟨upd W.G p o, W.ρ⟩ H1 := by
  have gn : W.G p = none := by
    cases q : W.G p with
    | none => rfl
    | some u => rw [A.sub _ _ q] at hp; cases hp
  have x : Ext W H ⟨upd W.G p o, W.ρ⟩ H1 := by
    refine ⟨fun b u e => ?_, ⟨[], by simp, by simp⟩, fun b u e _ _ => sm b u e, fun b ⟨u, e, n⟩ => ⟨u, sm b u e, n⟩, fun b h => ?_, fun b u v e => sm b _ e⟩
    · show upd W.G p o b = some u
      rw [upd_ne (ne_of_none e gn)]; exact e
    · by_cases hb : b = p
      · subst hb; exact .inr (not_pr hp)
      · have h' : upd W.G p o b ≠ none := h
        rw [upd_ne hb] at h'
        exact .inl h'
  refine ⟨⟨fun b u e => ?_, A.len, A.nd, fun a ha => ?_, fun i ob a k1 k2 => ?_, fun b ps e => ?_, A.tab.ext sm⟩, x⟩
  · by_cases hb : b = p
    · subst hb
      have e' : upd W.G b o b = some u := e
      rw [upd_same] at e'
      rw [h1]; exact e'
    · have e' : upd W.G p o b = some u := e
      rw [upd_ne hb] at e'
      exact sm _ _ (A.sub _ _ e')
  · show upd W.G p o a = none
    have ne : a ≠ p := fun z => A.tracked ha (by rw [z]; exact hp)
    rw [upd_ne ne]
    exact A.out a ha
  · obtain ⟨⟨u, e, _⟩, _⟩ := A.own (List.mem_of_getElem? k2)
    exact (A.obj i ob a k1 k2).keep x.le ((sm _ _ e).trans e.symm)
  · have e' : upd W.G p o b = some (.tbl ps) := e
    by_cases hb : b = p
    · subst hb
      rw [upd_same] at e'
      exact ho ps (Option.some.inj e')
    · rw [upd_ne hb] at e'
      exact A.ntb b ps e'
/-- a lambda is made -/
theorem Ag.lam (A : Ag K w cls W st H) (e : LamX.ExtN H H1) (t : LamX.Tabs cls.T H1) : Ag K w cls W st H1 ∧ Ext W H W H1 := by
  have x : Ext W H W H1 := ⟨Same.refl _, ⟨[], by simp, by simp⟩, fun b u h n _ => e b u h n, fun b ⟨u, h, n⟩ => ⟨u, e b u h n, n⟩, fun _ h => .inl h, fun b u v h => e b _ h fun _ z => by cases z⟩
  refine ⟨⟨fun b u h => e b u (A.sub b u h) fun ps z => A.ntb b ps (by rw [h, z]), A.len, A.nd, A.out, fun i ob a k1 k2 => ?_, A.ntb, t⟩, x⟩
  obtain ⟨⟨u, h, n⟩, _⟩ := A.own (List.mem_of_getElem? k2)
  exact (A.obj i ob a k1 k2).keep x.le ((e _ _ h n).trans h.symm)
end
section
variable {X : Cx} {cls : Cl} {U : XW} {C : Ctx} {xa : Nat → Addr}
def noArgs : Arguments := ⟨[], [], none, [], [], none, []⟩
/-- the law's told(lambda: body) -/
theorem g_told {i : E} {g c P CS : Addr} {k l : Nat} {pg : Arguments} {fd : FuncData} {body : Expr} {scope : Scope} {p lpos pos : Pos} (hg : Gl X "_law_told") (hm : X.mg "_law_told" = some (.ref g)) (F : FunD X.K "_law_told" "_law_told" pg (toldBody l) toldScope [] [] g fd) (hb : Binds X.K fd ["deed"] [])
    (hx : ∀ k, k < 3 → X.mg (excNm.getD k "") = some (.ref (xa k))) (hi : X.mg "isinstance" = none) (hv : X.mg "ValueError" = none) (hd : X.mg "DiceError" = some (.ref CS)) (EK : ExK X.K xa CS) (TB : LamX.TabB X.base X.mg c P) (hcode : X.env.code = .ref c) (hmT : (P, X.env.qual ++ "<lambda>") ∈ cls.T)
    (hu : ∀ p ∈ cls.T, p.1 = P → p.2 = X.env.qual ++ "<lambda>") (hr : Room (k + 2) X.A) (L : LamX.LamS X.env.scope scope)
    (hbody : ∀ (A : Around) (outer : List PySem.Env) (s : Shared) (H : Hp) (E : XK) (f c' : Addr), Room k (A.deeper (LamX.lamEnv X scope s.heap.objs.size f c')) → PE (LamX.lamCx X A outer s H E scope f c') body (tD X.K X.w cls (fun k H => E (.ref (xa k)) none H) (evE C i))) :
    Good X cls U C (.Call (.Name "_law_told" p) [.Lambda noArgs body scope lpos] [] pos) (.told i) := by
  obtain ⟨⟨oc, od, dV, kV, doc, pm, an, cdv, ct, osl, rfl, lk, hcd, h1, h2⟩, kp⟩ := F
  refine good_val (PE.mono (LamX.pe_lamcall (T := cls.T) (TT := TTo xa) (a := "deed") (Ng := toldN) (t := fun E => tD X.K X.w cls (fun k H => E (.ref (xa k)) none H) (evE C i)) hg hm kp lk hcd hb ⟨rfl, rfl, rfl, by decide, rfl, by decide, by decide⟩ rfl (.inl rfl) (told_gives2 l hx hi hv hd EK (by have := hr.un; omega)) TB hcode hmT hu hr L rfl (fun _ _ _ _ _ => rfl) hbody) fun σ H Q h => ?_) fun _ => rfl
  obtain ⟨W, env, st, he, A, q⟩ := h
  refine ⟨A.tab, fun H1 eN t1 => ?_⟩
  obtain ⟨A1, x1⟩ := A.lam eN t1
  rw [evE] at q
  refine ⟨W, env, st, he, A1, ?_⟩
  cases e : evE C i env st with
  | bad => rw [e] at q; exact q
  | ok v st' =>
    rw [e] at q
    intro b W' H' x' A' r' p us hp
    obtain ⟨A2, x2⟩ := A'.frozen (o := FT us [.str "told", b]) hp
    exact q _ _ _ ((x1.trans x').trans x2) A2 (.tup (us := us) (xs := [.str "told", b]) upd_same (by show 2 ≤ sizeLine; rw [sizeLine_eq]; omega) (.cons (.str _) (.one (r'.mono x2.le))))
  | err j st' =>
    rw [e] at q
    obtain ⟨hj, q⟩ := Aft.test q
    intro W' H' x' A'
    refine ⟨j, rfl, rfl, of_decide_eq_true hj, fun H2 p us sm hp h2 => ?_⟩
    obtain ⟨A2, x2⟩ := A'.grow sm hp h2
    exact q _ _ _ ((x1.trans x').trans x2) A2 (.tup (us := us) (xs := [.str "refused", .int (j : Nat)]) upd_same (by show 2 ≤ sizeLine; rw [sizeLine_eq]; omega) (.cons (.str _) (.one (.int _))))
/-- raise X('..') -/
theorem s_raise {k : Nat} {x m : Str} {j : Nat} {p p2 pos pos' : Pos} (hc : X.calm = true) (tk : Takes X (fun c d _ H => wU xa U c d H)) (h1 : PySem.W.excIn X.K (xa k) He.veBase "ValueError.__new__" = true) (h2 : PySem.W.keepIn X.K (.ref (xa k)) = true)
    (h3 : PySem.W.subIn X.K (.ref (xa k)) (.type "BaseException") = some true) (h4 : PySem.W.typeIn X.K (.ref (xa k)) = some (.type "type")) (hm : X.mg x = some (.ref (xa k))) (hg : Gl X x) (hdb : (x == ("__debug__" : Str)) = false) :
    GoodS X cls U C (.Raise (some (.Call (.Name x p) [.Constant (.str m) j p2] [] pos)) none pos') (.raise k) := by
  refine PS.mono (ps_raise hc tk (pmk_own PySem.F.excBase_ValueError h1 hm h2 (raises_own h3 h4) hg hdb)) fun D σ H h => ?_
  obtain ⟨W, env, st, he, A, q⟩ := h
  rw [evS] at q
  exact ⟨k, rfl, rfl, q W H (Ext.refl _ _) A⟩
end
end EV
/-! EvLx: a comprehension whose step may raise. -/
namespace EVX
open PySem PySem.Spec PyProof.Rows L2
open PySem.HandSPX

/-- the block of a comprehension, with a wish about exceptions -/
abbrev blkX (X : Cx) (s : Shared) (H : Hp) (scope : Scope) (ce : PySem.Env) (fp : List Addr) (xe : Value → Shared → Prop) : Cx := { X.blk s H scope ce fp with xe := xe }
theorem inv_xe {X : Cx} {pins : List (Addr × Obj)} {σ : L2.St} {H : Hp} {s : Shared} (I : Inv X pins σ H s) (xe : Value → Shared → Prop) : Inv { X with xe := xe } pins σ H s := by
  obtain ⟨ok, i1, i2, i3, i4, i5, i6, i7, i8, i9, i10⟩ := I
  obtain ⟨o1, o2, o3, o4, o5, o6, o7, o8, o9, o10, o11, o12, o13, o14, o15, o16, o17, o18⟩ := ok
  exact ⟨⟨o1, o2, o3, o4, o5, o6, o7, o8, o9, o10, o11, o12, o13, o14, o15, o16, o17, o18⟩, i1, i2, i3, i4, i5, i6, i7, i8, i9, i10⟩
/-- noting looks at the frame alone -/
theorem note_frame {e f : PySem.Env} (h : e.frame = f.frame) (x : Value) : noteFrame x e = noteFrame x f := by
  unfold noteFrame PySem.frameOf
  rw [h]
section
variable {M : Model} {A : Around} {E : Value → Shared → Prop} {s : Shared} {Z : Obj → Prop} {G : Heap} {env : PySem.Env} {outer : List PySem.Env} {L e : Addr}
/-- noted by another one: this frame notes it anew -/
theorem note_more {fl : Value} {Q : Unit → Shared → Prop} (hZ : Steady Z) (hfr : A.frames = some (env :: outer)) (hf : env.frame = some L) (g1 : G.StaysIn s.heap) (g2 : G.get? e = none) (g3 : s.heap.FunFrames G (env :: outer)) (tr : TracedZ s.heap G e Z fl) (hne : (fl == rawInt L) = false)
    (fin : ∀ k, HeldZ G (env :: outer) e Z L k → s.heap.UpToSlots k → Q () { s with heap := k }) : wpAny M A (noteFrame (.ref e) env) Q E s := by
  obtain ⟨oe, vs, T, oT, ts, he, hz, hd, h1, hn, hTe, hT, hdT, h3⟩ := tr
  unfold noteFrame
  simp only [hf]
  refine wpAny_bind (wpAny_field he hd h1 ?_)
  rw [if_pos (by simp : (Value.ref T != Value.none) = true)]
  refine wpAny_bind (wpAny_field hT hdT h3 ?_)
  rw [if_neg (by rw [hne]; exact Bool.false_ne_true)]
  refine wpAny_bind (wpAny_setField hT hdT (Array.getElem?_eq_some_iff.mp h3).1 ?_)
  have oth : ∀ b, b ≠ T → (s.heap.update T (Obj.mapFields (·.setIfInBounds 3 Value.none))).get? b = s.heap.get? b := fun b hb => Heap.get?_update_other _ _ (Ne.symm hb)
  have norec : ∀ b o, s.heap.get? b = some o → (∀ us, o.data ≠ .fields us) → b ≠ T := fun b o hb nf q => by
    rw [q, hT] at hb
    cases hb
    exact nf ts hdT
  refine wpAny_entryZ hZ hfr (g3.of_keeps fun b o hb nf => ⟨o, (oth b (norec b o hb nf)).trans hb, rfl⟩) hf ((oth e (Ne.symm hTe)).trans he) (fun b o q => ?_) g2 hd (Array.getElem?_eq_some_iff.mp h1).1 hz fun k N => ?_
  · exact (oth b fun z => by rw [z, hn] at q; cases q).trans (g1 b o q)
  · obtain ⟨x1, x2, x3, x4⟩ := N
    exact fin k ⟨x1, g2, x2, x3⟩ fun b o hb nf => x4 b o ((oth b (norec b o hb nf)).trans hb) nf
theorem rawInt_ne {a b : Addr} (h : a ≠ b) : (rawInt a == rawInt b) = false := by
  simp only [rawInt, beq_eq_false_iff_ne, ne_eq, Value.int.injEq, not_and]
  intro z
  exact absurd (Int.ofNat_inj.mp z) h
end

section
variable {M : Model} {A : Around} {E : Value → Shared → Prop} {s : Shared} {env : PySem.Env}
/-- behind the block: its value, or its exception -/
def cPost (M : Model) (A : Around) (E : Value → Shared → Prop) (Q : Value → Shared → Prop) (acc : Value) (ce : PySem.Env) (r : Result) (s' : Shared) : Prop := ∃ m, s'.heap.Ns ce.locals m ∧ ∀ k, Heap.SameBut ce.locals s'.heap k → match r with
  | .ok _ => Q acc { s' with heap := k }
  | .error x => wpAny M A (passOn "comprehension.variables-let-go" x ce : Sem Value) (fun _ _ => False) E { s' with heap := k }
theorem comp_x {ex : Expr} {scope : Scope} {pos : Pos} {nw fst : Sem Value} {c : Comprehension} {cs : List Comprehension} {cl : List (Str × Addr)} {Q : Value → Shared → Prop}
    (e1 : clausesOf ex = c :: cs) (e2 : ∀ x, foldedSetIterable c.iter env x = pure x) (e3 : closureFor scope env = pure cl) (e4 : scope.kind = .function) (e5 : ∀ x ∈ scope.names, x.2 = .local → scope.names.lookup x.1 = some .local)
    (h : wpAny M A fst (fun x s1 => wpAny M A (pyIter x) (fun it s2 => wpAny M A nw (fun acc s3 => wpAny M A (newFunctionEnv scope env.globals cl [] env.qual none .none (some env)) (fun ce s4 =>
        codeAny M A (.compStart ex 0 it acc { ce with scope := relabel scope env }) (cPost M A E Q acc { ce with scope := relabel scope env }) s4) E s3) E s2) E s1) E s) :
    wpAny M A (comprehension ex scope env pos nw false fst none) Q E s := by
  unfold comprehension
  rw [e3, e1]
  refine wpAny_bind (wpAny_mono h (fun x s1 h1 => ?_) fun _ _ z => z)
  refine wpAny_bind (wpAny_standAt (wpAny_bind (wpAny_of_eq (e2 x) (wpAny_bind (wpAny_holding (wpAny_mono h1 (fun it s2 h2 => ?_) fun _ _ z => z))))))
  refine wpAny_standIf (wpAny_bind (wpAny_mono h2 (fun acc s3 h3 => ?_) fun _ _ z => z))
  refine wpAny_bind (wpAny_pure (wpAny_bind (wpAny_mono h3 (fun ce s4 h4 => ?_) fun _ _ z => z)))
  dsimp only
  have hv : ∀ x ∈ (scope.names.filter fun x => (x.2 == .local || x.2 == .cell) && x.1 != (".0" : Str)).reverse, x.2 = .local → Env.kindOf { ce with scope := relabel scope env } x.1 = some .local := fun x hx hl =>
    lookup_relabel_local (e5 x (List.mem_filter.mp (List.mem_reverse.mp hx)).1 hl)
  refine wpAny_holding (wpAny_bind (wpAny_attempt (wpAny_holding (wpAny_run (codeAny_mono h4 fun r s' hr => ?_)))))
  obtain ⟨m, hn, hr⟩ := hr
  cases r with
  | ok f => exact wpAny_bind (wpAny_holding (wpAny_comp_letGo (cenv := { ce with scope := relabel scope env }) e4 _ s' m hv hn fun k m' _ sb => wpAny_pure (hr k sb)))
  | error x => exact wpAny_bind (wpAny_holding (wpAny_comp_letGo (cenv := { ce with scope := relabel scope env }) e4 _ s' m hv hn fun k m' _ sb => wpAny_mono (hr k sb) (fun _ _ f => f.elim) fun _ _ y => y))
end

theorem funFrames_at {base h k : Heap} : ∀ {l : List PySem.Env}, h.FunFrames base l → (∀ b ∈ frs l, k.get? b = h.get? b) → k.FunFrames base l
  | [], _, _ => trivial
  | env :: l, h, hn => by
    obtain ⟨hk, ⟨L, o, hf, hb, ho, hd⟩, hr⟩ := h
    refine ⟨hk, ⟨L, o, hf, hb, (hn L (List.mem_filterMap.mpr ⟨env, List.mem_cons_self, hf⟩)).trans ho, hd⟩, funFrames_at hr fun b hm => ?_⟩
    obtain ⟨e, he, q⟩ := List.mem_filterMap.mp hm
    exact hn b (List.mem_filterMap.mpr ⟨e, List.mem_cons_of_mem _ he, q⟩)
section
variable {X : Cx}
/-- an exception leaves the block, and then the comprehension -/
theorem takes_blk {W : Value → Option Addr → Hp → Prop} {pins : List (Addr × Obj)} {σ : L2.St} {H3 : Hp} {s3 : Shared} {scope : Scope} {ce : PySem.Env} {fp : List Addr} {Q : Value → Shared → Prop} {acc : Value} (tk : Takes X fun c d _ H => W c d H) (hst : X.stack = X.env :: X.outer) (hfr : X.env.frame = some X.env.locals)
    (I3 : Inv X pins σ H3 s3) (cF : ce.frame = X.env.frame) (cL : ce.locals = s3.heap.objs.size) (f3 : ∀ b ∈ fp, FpOk X pins H3 b) :
    Takes (blkX X s3 H3 scope ce fp (notedBy (model X.prog X.w) X.A ce fun e s' => cPost (model X.prog X.w) X.A X.xe Q acc ce (.error e) s')) fun c d _ H => W c d H := by
  intro u s' x
  obtain ⟨a, B, sI, pins', σ', H', cls, d, rfl, I', nb, up, sky, na, os, ag, hw⟩ := x
  have I7 : Inv X pins σ H' sI := I3.call' (ch := fp) I'.os I'.base I'.hok I'.bare fun b hb => ⟨(f3 b hb).2.2.2.1, (f3 b hb).2.1, (f3 b hb).2.2.2.2.1, (f3 b hb).2.2.2.2.2⟩
  have hA : X.A.frames = some (X.env :: X.outer) := by rw [I3.ok.frames, hst]
  have nC : H' ce.locals = none := I'.free
  obtain ⟨m, hns, _⟩ := I'.loc
  have hns : sI.heap.Ns ce.locals m := hns
  obtain ⟨oC, hoC⟩ : ∃ o, sI.heap.get? ce.locals = some o := by obtain ⟨o, _, _, h, _⟩ := hns; exact ⟨o, h⟩
  have cN : ce.locals ∉ frs X.stack := fun hm => by
    obtain ⟨_, o, ho, _⟩ := I3.stack.mem hm
    have z := Heap.lt_size ho
    rw [cL] at z
    exact Nat.lt_irrefl _ z
  have hBC : B.get? ce.locals = some oC := nb _ _ hoC cN
  have hL : X.env.locals ≠ ce.locals := fun z => by
    have y := I3.lt
    rw [z, cL] at y
    exact Nat.lt_irrefl _ y
  -- noted
  have fin : ∀ k, HeldZ B (X.env :: X.outer) a (Zc cls d) X.env.locals k → s'.heap.UpToSlots k → cPost (model X.prog X.w) X.A X.xe Q acc ce (.error (.ref a)) { s' with heap := k } := by
    intro k hk upk
    obtain ⟨b1, b2, b3, oe, vs, T, oT, ts, t1, t2, t3, t4, t5, t6, t7, t8, t9⟩ := hk
    refine ⟨m, hns.at fun o q => b1 _ _ (nb _ _ q cN), fun k2 sb => ?_⟩
    show wpAny _ _ (passOn "comprehension.variables-let-go" (.ref a) ce : Sem Value) _ _ _
    have aC : a ≠ ce.locals := fun z => by rw [z, hBC] at b2; cases b2
    have tC : T ≠ ce.locals := fun z => by rw [z, hBC] at t5; cases t5
    obtain ⟨B2, g1, g2⟩ := restrict B fun b => decide (b ≠ ce.locals)
    have g1 : ∀ b, b ≠ ce.locals → B2.get? b = B.get? b := fun b hb => g1 b (by simp [hb])
    have g2 : B2.get? ce.locals = none := g2 _ (by simp)
    have gs : ∀ b o, B2.get? b = some o → b ≠ ce.locals ∧ B.get? b = some o := fun b o q => by
      by_cases hb : b = ce.locals
      · rw [hb, g2] at q; cases q
      · rw [g1 b hb] at q; exact ⟨hb, q⟩
    have fr2 : ∀ b, b ∈ frs (X.env :: X.outer) → B2.get? b = none := fun b hb => by
      cases q : B2.get? b with
      | none => rfl
      | some o =>
        have z := (gs b o q).2
        rw [(b3.mem hb).1] at z
        cases z
    have h2 : HeldZ B2 (X.env :: X.outer) a (Zc cls d) X.env.locals k2 := by
      refine ⟨fun b o q => (sb.2 b (gs b o q).1).trans (b1 b o (gs b o q).2), ?_, ?_, oe, vs, T, oT, ts, (sb.2 _ aC).trans t1, t2, t3, t4, ?_, t6, (sb.2 _ tC).trans t7, t8, t9⟩
      · rw [g1 a aC]; exact b2
      · have b3' : k.FunFrames B2 (X.env :: X.outer) := funFrames_none b3 fr2
        refine funFrames_at b3' fun b hb => ?_
        refine (sb.2 b fun z => cN ?_)
        rw [hst, ← z]; exact hb
      · rw [g1 T tC]; exact t5
    unfold PySem.passOn
    refine wpAny_bind (wpAny_field ((sb.2 _ aC).trans t1) t3 t4 ?_)
    rw [if_neg (by simp)]
    rw [cF, hfr]
    refine wpAny_bind (setFlight_onZ (s := { s' with heap := k2 }) h2 fun k3 h3 up3 => wpAny_throw ?_)
    obtain ⟨G2, w1, w2⟩ := restrict sI.heap fun b => decide (b ≠ ce.locals)
    have w1 : ∀ b, b ≠ ce.locals → G2.get? b = sI.heap.get? b := fun b hb => w1 b (by simp [hb])
    have w2 : G2.get? ce.locals = none := w2 _ (by simp)
    have ws : ∀ b o, G2.get? b = some o → b ≠ ce.locals ∧ sI.heap.get? b = some o := fun b o q => by
      by_cases hb : b = ce.locals
      · rw [hb, w2] at q; cases q
      · rw [w1 b hb] at q; exact ⟨hb, q⟩
    have fC : FpOk X pins H' ce.locals := I3.fpOk (by rw [cL]; exact Nat.le_refl _) nC
    have I8 : Inv X pins σ H' { sI with heap := G2, toks := sI.toks } := I7.turned (it := ce.locals) (fun b o hb q => by rw [w1 b hb]; exact q) fC.1 fC.2.1 fC.2.2.2.1 fC.2.2.2.2.1 fC.2.2.2.2.2
    refine tk (.ref a) _ ⟨a, B2, { sI with heap := G2, toks := sI.toks }, pins, σ, H', cls, d, rfl, I8, fun b o q hb => ?_, fun b o q nf => ?_, .inr (.inr (by rw [hst]; exact h3)), na, os, ag, hw⟩
    · have q : G2.get? b = some o := q
      obtain ⟨n1, n2⟩ := ws b o q
      rw [g1 b n1]
      exact nb b o n2 hb
    · have q : G2.get? b = some o := q
      obtain ⟨n1, n2⟩ := ws b o q
      obtain ⟨sl1, q1⟩ := up b o n2 nf
      obtain ⟨sl2, q2⟩ := upk b _ q1 nf
      obtain ⟨sl3, q3⟩ := up3 b _ ((sb.2 b n1).trans q2) nf
      exact ⟨sl3, q3⟩
  show wpAny _ _ (noteFrame (.ref a) ce) _ _ _
  rw [note_frame cF]
  have sky : Sky B X.stack a (Zc cls d) ce.locals s'.heap := sky
  rw [hst] at sky
  rcases sky with ⟨hB, hn, hl, oe, vs, he, hz, hd, h1⟩ | fl | hd
  · exact look_newZ Zc.steady hA hl hfr he hB hn hd h1 hz fin
  · exact looks_onZ Zc.steady hA hfr fl fin
  · exact note_more Zc.steady hA hfr hd.1 hd.2.1 hd.2.2.1 hd.2.2.2 (rawInt_ne fun z => hL z.symm) fin
/-- [elt for target in iter if ..], where test and element may raise -/
theorem pe_lcx {W : Value → Option Addr → Hp → Prop} {elt tg iter : Expr} {ifs : List Expr} {scope : Scope} {own : List (Str × Nat)} {pos : Pos} {wi : TI} {g : TG} {tt : TT} {te : TE} (hc : X.calm = true) (hN : X.N.Nodup) (tk : Takes X fun c d _ H => W c d H) (hst : X.stack = X.env :: X.outer) (hfr : X.env.frame = some X.env.locals)
    (hi : PI X tg iter wi) (ok : BlkOk X.N X.env.scope scope own)
    (hg : ∀ (s : Shared) (H : Hp) (C : Addr) (cl : List (Str × Addr)) (fp : List Addr) (xe : Value → Shared → Prop), PG (blkX X s H scope (compEnvC scope cl C X.env) fp xe) tg g)
    (ht : ∀ (s : Shared) (H : Hp) (C : Addr) (cl : List (Str × Addr)) (fp : List Addr) (xe : Value → Shared → Prop), (Takes (blkX X s H scope (compEnvC scope cl C X.env) fp xe) fun c d _ H => W c d H) → PTs (blkX X s H scope (compEnvC scope cl C X.env) fp xe) ifs tt)
    (he : ∀ (s : Shared) (H : Hp) (C : Addr) (cl : List (Str × Addr)) (fp : List Addr) (xe : Value → Shared → Prop), (Takes (blkX X s H scope (compEnvC scope cl C X.env) fp xe) fun c d _ H => W c d H) → PE (blkX X s H scope (compEnvC scope cl C X.env) fp xe) elt te)
    (hs : ∀ x, foldedSetIterable iter X.env x = pure x) : PE X (.ListComp elt [⟨tg, iter, ifs, 0⟩] scope pos) (tLc wi g tt te (own.map (·.2))) := by
  refine ⟨fun pins s σ H Q I h => ?_⟩
  rw [eval_ListComp]
  have hf : ∀ y ∈ scope.names, y.2 = .free → ∃ c, X.env.cells.lookup y.1 = some c := fun y hy e => (ok.free y hy e).elim (fun k => I.ok.has _ (.inl k)) fun k => I.ok.has _ (.inr k)
  refine comp_x rfl hs (closure_ok hf) ok.kind (fun y hy e => by rw [ok.uniq y hy, e]) (thn (hi.run pins s σ H _ I h) fun xv s1 hx => thn hx fun itv s2 h2 => ?_)
  obtain ⟨it, fp, tn, J, H2, rfl, I2, T, st2, f2, q⟩ := h2
  refine wpAny_newObj_type (newEnv_comp ?_) (by show 0 ≤ sizeLine; decide)
  have hDn : H2 s2.heap.objs.size = none := I2.hok.fresh (Nat.le_refl _)
  obtain ⟨Wv, ⟨m0, w0⟩, turn⟩ := q _ hDn
  generalize hD : s2.heap.objs.size = D at hDn w0 turn
  generalize hs3 : ({ s2 with heap := s2.heap.push { cls := .type "list", data := .seq ([] : List Value).toArray } } : Shared) = s3
  have h3 : s3.heap = s2.heap.push { cls := .type "list", data := .seq ([] : List Value).toArray } := by rw [← hs3]
  have I3 : Inv X pins σ (upd H2 D (.lst [])) s3 := by
    rw [← hs3]
    refine I2.laid (t' := s2.toks) (fun b o e => Heap.get?_push_of_some _ e) (Nat.le_of_eq hD) ⟨Nat.zero_le _, [], 0, .nil, ?_⟩
    rw [← hD]; exact Heap.get?_push_size _ rfl
  have f3 : ∀ b ∈ fp, FpOk X pins (upd H2 D (.lst [])) b ∧ b < s3.heap.objs.size := fun b hb => by
    obtain ⟨o, e, _⟩ := T.obj _ _ st2 b hb
    have lt := Heap.lt_size e
    refine ⟨⟨?_, (f2 b hb).2⟩, by rw [h3, Heap.size_push]; exact Nat.lt_succ_of_lt lt⟩
    rw [upd_ne (by rw [← hD]; exact Nat.ne_of_lt lt)]
    exact (f2 b hb).1
  have st3 : tn 0 s3.heap := T.keep _ _ _ st2 fun b _ o e => by rw [h3]; exact Heap.get?_push_of_some _ e
  have I4 := block_start I3 ok hN f3
  obtain ⟨cl, hcl⟩ : ∃ cl, cl = cellsFrom (s3.heap.objs.size + 1) scope.names (cloFrom X.env.cells scope.names []) := ⟨_, rfl⟩
  show codeAny _ _ (.compStart (.ListComp elt [⟨tg, iter, ifs, 0⟩] scope pos) 0 (.ref it) (.ref D) (compEnvC scope (cellsFrom (s3.heap.objs.size + 1) scope.names (cloFrom X.env.cells scope.names [])) s3.heap.objs.size X.env))
    (cPost (model X.prog X.w) X.A X.xe (EP X pins σ Q) (.ref D) (compEnvC scope (cellsFrom (s3.heap.objs.size + 1) scope.names (cloFrom X.env.cells scope.names [])) s3.heap.objs.size X.env)) { s3 with heap := pushCells (s3.heap.push { cls := .type "dict", data := .dict #[] }) scope.names }
  rw [← hcl] at I4 ⊢
  generalize hs4 : ({ s3 with heap := pushCells (s3.heap.push { cls := .type "dict", data := .dict #[] }) scope.names } : Shared) = s4 at I4 ⊢
  generalize hH3 : upd H2 D (.lst []) = H3 at I3 I4 w0 f3
  obtain ⟨ce, hce⟩ : ∃ ce, ce = compEnvC scope cl s3.heap.objs.size X.env := ⟨_, rfl⟩
  have cL : ce.locals = s3.heap.objs.size := by rw [hce]; rfl
  obtain ⟨xe, hxe⟩ : ∃ xe, xe = notedBy (model X.prog X.w) X.A ce fun e s' => cPost (model X.prog X.w) X.A X.xe (EP X pins σ Q) (.ref D) ce (.error e) s' := ⟨_, rfl⟩
  have tkb : Takes (blkX X s3 H3 scope ce fp xe) fun c d _ H => W c d H := by
    rw [hxe]
    exact takes_blk tk hst hfr I3 (by rw [hce]; rfl) cL fun b hb => (f3 b hb).1
  have pg := hg s3 H3 s3.heap.objs.size cl fp xe
  have pt := ht s3 H3 s3.heap.objs.size cl fp xe (by rw [← hce]; exact tkb)
  have pe := he s3 H3 s3.heap.objs.size cl fp xe (by rw [← hce]; exact tkb)
  rw [← hce] at pg pt pe I4 ⊢
  have I4 := inv_xe I4 xe
  have st4 : tn 0 s4.heap := T.keep _ _ _ st3 fun b _ o e => by rw [← hs4]; exact pushCells_keeps _ _ _ _ (Heap.get?_push_of_some _ e)
  have nfp : ∀ b ∈ fp, H3 b = none := fun b hb => (f3 b hb).1.1
  have stat : ∀ {σ' : L2.St} {H' : Hp} {s' : Shared}, Inv (blkX X s3 H3 scope ce fp xe) [] σ' H' s' → (∀ b ∈ fp, H' b = none) → ∀ b ∈ fp, FpOk (blkX X s3 H3 scope ce fp xe) [] H' b := fun {σ' H' s'} I' hn b hb =>
    ⟨hn b hb, (I'.ok.exf b hb).1, I'.ok.exfs b hb, .inl hb, fun x c e => (I'.ok.exf b hb).2 x c e, fun p hp => absurd (show p ∈ ([] : List (Addr × Obj)) ++ [] from hp) (by simp)⟩
  have loop : codeAny (model X.prog X.w) X.A (.compLoop (.ListComp elt [⟨tg, iter, ifs, 0⟩] scope pos) 0 (.ref it) (.ref D) ce) (cPost (model X.prog X.w) X.A X.xe (EP X pins σ Q) (.ref D) ce) s4 := by
    refine compLoop_any (fun n s' => ∃ i H', Inv (blkX X s3 H3 scope ce fp xe) [] (wipe σ (own.map (·.2))) H' s' ∧ tn i s'.heap ∧ (∀ b ∈ fp, H' b = none) ∧ Wv i n H') ?_ m0 ⟨0, H3, I4, st4, nfp, w0⟩
    rintro n s5 ⟨i, H5, I5, st5, n5, w5⟩
    rw [← hxe]
    rcases turn i n H5 w5 with ⟨stop, qq⟩ | ⟨go, Nx, hNx, step⟩
    · refine thnF (T.done (blkX X s3 H3 scope ce fp xe) rfl rfl rfl hc i [] s5 _ H5 (fun _ _ => False) I5 (stat I5 n5) st5 stop) fun r s6 ⟨hr, I6⟩ => ?_
      subst hr
      have I7 : Inv X pins σ H5 s6 := I3.call' (ch := fp) I6.os I6.base I6.hok I6.bare fun b hb => ⟨(f3 b hb).1.2.2.2.1, (f3 b hb).1.2.1, (f3 b hb).1.2.2.2.2.1, (f3 b hb).1.2.2.2.2.2⟩
      have nC : H5 ce.locals = none := I6.free
      obtain ⟨m, hn, _⟩ := I6.loc
      have fC : FpOk X pins H5 ce.locals := I3.fpOk (by rw [cL]; exact Nat.le_refl _) nC
      refine ⟨m, hn, fun k sb => ?_⟩
      exact ⟨.ref D, H5, I7.turned (t' := s6.toks) (fun b o hb e => (sb.2 b hb).trans e) fC.1 fC.2.1 fC.2.2.2.1 fC.2.2.2.2.1 fC.2.2.2.2.2, rfl, qq⟩
    · refine thnF (T.item (blkX X s3 H3 scope ce fp xe) rfl rfl rfl hc i [] s5 _ H5 (fun _ _ => False) I5 (stat I5 n5) st5 go) fun r s6 ⟨u, hr, h6⟩ => ?_
      subst hr
      refine thnF h6 fun _ s7 ⟨x, H7, I7, r7, y7, st7, n7⟩ => ?_
      have I7' := I7.pinned (stat I7 n7) (T.obj _ _ st7)
      refine thn (pg.run _ s7 _ H7 x u _ I7' r7 (step x H7 y7)) fun _ s8 ⟨σ8, H8, I8, hw8, q8⟩ => ?_
      refine thn (pt.run _ s8 σ8 H8 _ I8 q8) fun b s9 ⟨H9, I9, q9⟩ => ?_
      have fin : ∀ {s' : Shared} {H' : Hp}, Inv (blkX X s3 H3 scope ce fp xe) ([] ++ pinsAt fp s7.heap) σ8 H' s' → Nx H' → ∃ m, m < n ∧ ∃ i H', Inv (blkX X s3 H3 scope ce fp xe) [] (wipe σ (own.map (·.2))) H' s' ∧ tn i s'.heap ∧ (∀ b ∈ fp, H' b = none) ∧ Wv i m H' := fun {s' H'} I' nx => by
        obtain ⟨m', hm, w'⟩ := hNx H' nx
        have pn : ∀ b ∈ fp, ∀ o, s7.heap.get? b = some o → s'.heap.get? b = some o ∧ H' b = none := fun b hb o e =>
          let z := I'.pin (b, o) (List.mem_append_right _ (List.mem_append_right _ (mem_pinsAt hb e)))
          ⟨z.1, z.2.1⟩
        refine ⟨m', hm, i + 1, H', (I'.unpinned (pins := [])).weak (by rw [← hw8, wipe_length]) (fun j v e => ?_), T.keep _ _ _ st7 fun b hb o e => (pn b hb o e).1, fun b hb => ?_, w'⟩
        · rw [← hw8] at e
          exact (wipe_some e).1
        · obtain ⟨o, e, _⟩ := T.obj _ _ st7 b hb
          exact (pn b hb o e).2
      cases b with
      | false =>
        simp only [Bool.false_eq_true, if_false] at q9 ⊢
        exact fin I9 q9
      | true =>
        simp only [if_true] at q9 ⊢
        refine thn (pe.run _ s9 σ8 H9 _ I9 q9) fun z s10 ⟨yv, H10, I10, r10, ac, hD10, hz10, nx⟩ => ?_
        exact app_ok (X := blkX X s3 H3 scope ce fp xe) I10 hD10 hz10 r10 fun s11 I11 => fin I11 nx
  exact codeAny_compStart_list loop (T.self X.A 0 _ _ _ st4 loop)
end
end EVX
/-! EvLy: the evaluator's comprehension that may raise. -/
namespace EV
open PySem PySem.Spec PyProof.Rows L2
section
variable {X : Cx} {cls : Cl} {U : XW} {C : Ctx} {tg : Expr} {pos : Pos}
/-- how the rest of a run belongs to the whole -/
def restOf (r : R (List D)) (dacc : List D) : R (List D) → Prop
  | .ok rest stE => r = .ok (dacc ++ rest) stE
  | .err k s => r = .err k s
  | .bad => False
theorem lcx_turns {P : Hp → Prop} {t : Tg} {cond ie : E} {own : List Nat} {pr : Bool} {σ : L2.St} {Q : VK} {J : L2.It} {H1 : Hp} {W1 : Wd} {env : Env} {st1 : Store} {items : List D} {g : Grd} {r : R (List D)} {p : Addr}
    (ht : ∀ s ∈ t.slots, s ∈ own) (hp : pr = true → ∃ is, t = .many is) (he : EnvOk X.K W1 σ env) (A1 : Ag X.K X.w cls W1 st1 H1) (hz : items.length ≤ sizeLine) (wk : WalkD X.K X.w cls W1 J items g pr P) (hP : ∀ W2 H, Ext W1 H1 W2 H → P H)
    (run : lcL g t (evE C cond) (evE C ie) (wipes env own) items st1 = r) (hb : r ≠ .bad) (hp1 : H1 p = none)
    (fin : ∀ ys stE, r = .ok ys stE → ∀ H acc W2, Ext W1 H1 W2 H → Ag X.K X.w cls W2 stE H → H p = some (.lst acc) → p ∉ W2.ρ → W2.G p = none → RepL X.K W2 acc ys → ys.length ≤ sizeLine → Q (.ref p) H)
    (finx : ∀ k stE, r = .err k stE → ∀ H W2, Ext W1 H1 W2 H → Ag X.K X.w cls W2 stE H → U k H) :
    ∃ Wv : Nat → Nat → Hp → Prop, (∃ m, Wv 0 m (upd H1 p (.lst []))) ∧ ∀ i m H, Wv i m H → (J.stop i H ∧ Q (.ref p) H) ∨ (J.go i H ∧ ∃ Nx : Hp → Prop, (∀ H', Nx H' → ∃ m', m' < m ∧ Wv (i + 1) m' H') ∧
      ∀ x H', J.yld i H x H' → tgR X.K t x (L2.wipe σ own) H' fun σ2 H2 => L2.wipe σ2 own = L2.wipe σ own ∧ tDT X.K X.w cls U (evE C cond) σ2 H2 fun b H3 =>
        if b = true then tD X.K X.w cls U (evE C ie) σ2 H3 fun y H4 => ∃ acc, H4 p = some (.lst acc) ∧ acc.length < sizeLine ∧ Nx (upd H4 p (.lst (acc ++ [y]))) else Nx H3) := by
  let Iv : Nat → Hp → Prop := fun i H => ∃ W2 st2 acc dacc, Ext W1 H1 W2 H ∧ Ag X.K X.w cls W2 st2 H ∧ H p = some (.lst acc) ∧ p ∉ W2.ρ ∧ W2.G p = none ∧ RepL X.K W2 acc dacc ∧ dacc.length ≤ i ∧
    restOf r dacc (lcL g t (evE C cond) (evE C ie) (wipes env own) (items.drop i) st2)
  refine ⟨fun i m H => m = items.length - i ∧ i ≤ items.length ∧ Iv i H, ⟨items.length, by simp, Nat.zero_le _, ?_⟩, ?_⟩
  · obtain ⟨f1, f2⟩ := A1.fresh hp1
    refine ⟨W1, st1, [], [], (Ext.refl W1 H1).aside hp1, A1.aside f1 f2 (.inl hp1), upd_same, f1, f2, .nil, Nat.zero_le _, ?_⟩
    rw [List.drop_zero, run]
    cases r with
    | ok ys stE => rfl
    | err k s => rfl
    | bad => exact hb rfl
  · rintro i m H ⟨rfl, hi, W2, st2, acc, dacc, x2, A2, hacc, hr, hg, l, hl, hrun⟩
    by_cases hlt : i < items.length
    · have hd : items[i]? = some items[i] := List.getElem?_eq_getElem hlt
      rw [List.drop_eq_getElem_cons hlt, lcL] at hrun
      have hh : g.holds st2 = true := by
        cases z : g.holds st2 with
        | true => rfl
        | false => rw [z] at hrun; exact hrun.elim
      rw [hh, R.test_true] at hrun
      obtain ⟨env2, h1⟩ : ∃ env2, asg t items[i] (wipes env own) = some env2 := by
        cases z : asg t items[i] (wipes env own) with
        | some e => exact ⟨e, rfl⟩
        | none => rw [z] at hrun; exact hrun.elim
      rw [h1, R.of_some, R.bind_ok] at hrun
      obtain ⟨go, _⟩ := wk W2 st2 H x2.le A2 hh (hP W2 H x2)
      obtain ⟨go1, yl⟩ := go i _ hd
      refine .inr ⟨go1, Iv (i + 1), fun H' h => ⟨items.length - (i + 1), by omega, rfl, hlt, h⟩, fun x H' hy => ?_⟩
      obtain ⟨yr, yp⟩ := yl x H' hy
      obtain ⟨A2', x2', hacc', hir⟩ : Ag X.K X.w cls W2 st2 H' ∧ Ext W2 H W2 H' ∧ H' p = some (.lst acc) ∧ ItR X.K W2 H' x items[i] := by
        rcases yr with ⟨rfl, r⟩ | ⟨T, y1, y2, d1, d2, rfl, hT, rfl, e, r1, r2⟩
        · exact ⟨A2, Ext.refl _ _, hacc, .inl r⟩
        · obtain ⟨f1, f2⟩ := A2.fresh hT
          exact ⟨A2.aside f1 f2 (.inl hT), (Ext.refl W2 H).aside hT, by rw [upd_ne (ne_of_none hacc hT)]; exact hacc, .inr ⟨T, y1, y2, d1, d2, rfl, upd_same, e, r1, r2⟩⟩
      have ho : (∃ i, t = .one i) → Rep X.K W2 x items[i] := fun ⟨k, e⟩ => by
        cases pr with
        | true => obtain ⟨is, e2⟩ := hp rfl; rw [e] at e2; cases e2
        | false => exact (yp rfl).2
      refine tg_run A2'.sub hir ho ((he.mono x2.le).wipe own) h1 fun σ2 he2 hw => ⟨by rw [hw own ht]; exact wipe_sub (fun _ h => h), ?_⟩
      have x2a : Ext W1 H1 W2 H' := x2.trans x2'
      cases h3 : evE C cond env2 st2 with
      | bad => rw [h3] at hrun; exact hrun.elim
      | err k s3 =>
        rw [h3] at hrun
        refine ⟨W2, env2, st2, he2, A2', fun d st' e => (by rw [h3] at e; cases e), ?_⟩
        rw [h3]
        exact fun W3 H3 x3 A3 => finx k s3 hrun H3 W3 (x2a.trans x3) A3
      | ok bd st3 =>
        rw [h3, R.bind_ok] at hrun
        have hbl : ∃ b, bd = .bl b := by
          cases bd with
          | bl b => exact ⟨b, rfl⟩
          | _ => exact hrun.elim
        obtain ⟨b, rfl⟩ := hbl
        refine ⟨W2, env2, _, he2, A2', fun d st' e => ?_, ?_⟩
        · rw [h3] at e
          simp only [R.ok.injEq] at e
          exact ⟨b, e.1.symm⟩
        · rw [h3]
          intro b' W3 H3 x3 A3 eb
          cases eb
          obtain ⟨b3, g3⟩ := x3.beside (p := p) ⟨_, hacc', fun _ z => by cases z⟩ hr hg
          have hacc3 : H3 p = some (.lst acc) := x3.fr p _ hacc' (fun _ z => by cases z) hr
          have x3' : Ext W1 H1 W3 H3 := x2a.trans x3
          cases b with
          | false =>
            rw [if_neg Bool.false_ne_true]
            exact ⟨W3, st3, acc, dacc, x3', A3, hacc3, b3, g3, l.mono x3.le, by omega, hrun⟩
          | true =>
            rw [if_pos rfl]
            simp only at hrun
            cases h4 : evE C ie env2 st3 with
            | bad => rw [h4] at hrun; exact hrun.elim
            | err k s4 =>
              rw [h4] at hrun
              refine ⟨W3, env2, st3, he2.mono x3.le, A3, ?_⟩
              rw [h4]
              exact fun W4 H4 x4 A4 => finx k s4 hrun H4 W4 (x3'.trans x4) A4
            | ok dy st4 =>
              rw [h4, R.bind_ok] at hrun
              refine ⟨W3, env2, st3, he2.mono x3.le, A3, ?_⟩
              rw [h4]
              intro y W4 H4 x4 A4 ry
              obtain ⟨b4, g4⟩ := x4.beside (p := p) ⟨_, hacc3, fun _ z => by cases z⟩ b3 g3
              have hacc4 : H4 p = some (.lst acc) := x4.fr p _ hacc3 (fun _ z => by cases z) b3
              refine ⟨acc, hacc4, by rw [l.length]; omega, ?_⟩
              refine ⟨W4, st4, acc ++ [y], dacc ++ [dy], (x3'.trans x4).aside hp1, A4.aside b4 g4 (.inr ⟨_, hacc4⟩), upd_same, b4, g4, ((l.mono x3.le).mono x4.le).append (.one ry), by rw [List.length_append]; simp; omega, ?_⟩
              cases h5 : lcL g t (evE C cond) (evE C ie) (wipes env own) (items.drop (i + 1)) st4 with
              | bad => rw [h5] at hrun; exact hrun
              | err k s5 => rw [h5] at hrun; exact hrun
              | ok ys s5 =>
                rw [h5] at hrun
                have hrun : r = .ok (dacc ++ (dy :: ys)) s5 := hrun
                show r = .ok (dacc ++ [dy] ++ ys) s5
                rw [hrun]; simp
    · have e : i = items.length := by omega
      subst e
      rw [List.drop_length, lcL] at hrun
      have hh : g.holds st2 = true := by
        cases z : g.holds st2 with
        | true => rfl
        | false => rw [z] at hrun; exact hrun.elim
      rw [hh, R.test_true] at hrun
      have hrun : r = .ok (dacc ++ []) st2 := hrun
      rw [List.append_nil] at hrun
      exact .inl ⟨(wk W2 st2 H x2.le A2 hh (hP W2 H x2)).2, fin dacc st2 hrun H acc W2 x2 A2 hacc hr hg l (by omega)⟩
theorem out_plainX {α : Type} {g : Grd} (hg : g.isDic = false) {r : R α} (h : g.out r ≠ .bad) : g.out r = r := by
  cases r with
  | ok b s1 =>
    cases g with
    | dic _ _ => simp [Grd.isDic] at hg
    | no => simp [Grd.out, Grd.holds, Grd.free]
    | lst i xs =>
      simp only [Grd.out] at h ⊢
      cases e : (Grd.lst i xs).holds s1 with
      | true => simp [Grd.free]
      | false => rw [e] at h; simp at h
    | lck i xs =>
      simp only [Grd.out] at h ⊢
      cases e : (Grd.lck i xs).holds s1 with
      | true => simp [Grd.free]
      | false => rw [e] at h; simp at h
  | err k s1 => cases g <;> first | rfl | (simp [Grd.isDic] at hg)
  | bad => cases g <;> first | rfl | (simp [Grd.isDic] at hg)
theorem lcx_tD {it : It} {t : Tg} {cond ie : E} {own : List Nat} {pr : Bool} {σ : L2.St} {H : Hp} {Q : VK} (hp : it.plain = true) (ht : ∀ s ∈ t.slots, s ∈ own) (hpr : pr = true → ∃ is, t = .many is)
    (h : tD X.K X.w cls U (evE C (.lcx own t it cond ie)) σ H Q) : tLc (tDI X.K X.w cls U pr (evI C it)) (tgR X.K t) (tDT X.K X.w cls U (evE C cond)) (tD X.K X.w cls U (evE C ie)) own σ H Q := by
  obtain ⟨W, env, st, he, A, q⟩ := h
  rw [evE] at q
  refine ⟨W, env, st, he, A, fun p st' e => evI_nodic hp e, ?_⟩
  cases e : evI C it env st with
  | bad => rw [e] at q; exact q
  | err k st' => rw [e] at q; exact q
  | ok pp st1 =>
    have hg := evI_nodic hp e
    rw [e] at q
    obtain ⟨items, g⟩ := pp
    have q : Aft X.K X.w cls U (Rep X.K) W H ((g.out (lcL g t (evE C cond) (evE C ie) (wipes env own) items (g.lock st1))).bind fun ys st => .ok (.lst ys) st) Q := q
    rw [Grd.lock_plain hg] at q
    intro J W1 H1 x1 A1 hw p hp1
    have nb : g.out (lcL g t (evE C cond) (evE C ie) (wipes env own) items st1) ≠ .bad := fun z => by rw [z] at q; exact q.elim
    rw [out_plainX hg nb] at q nb
    refine lcx_turns (pr := pr) ht hpr (he.mono x1.le) A1 hw.1 hw.2 (fun _ _ _ => trivial) rfl nb hp1 (fun ys stE er H2 acc W2 x2 A2 hacc hr hg2 l hz => ?_) fun k stE er H2 W2 x2 A2 => ?_
    · rw [er] at q
      obtain ⟨A3, x3, le⟩ := A2.freeze (x1.trans x2) (p := p) (fun z => not_pr hp1 (x1.dom p z)) hacc hr hg2
      exact q _ _ _ x3 A3 (.lst (xs := acc) upd_same hz (l.mono le))
    · rw [er] at q
      exact q _ _ (x1.trans x2) A2
/-- the parts, where exceptions pass -/
structure GoodBX (X : Cx) (cls : Cl) (xa : Nat → Addr) (U : XW) (C : Ctx) (scope : Scope) (tg : Expr) (t : Tg) (ifs : List Expr) (elt : Expr) (cond ie : E) : Prop where
  g : ∀ (s : Shared) (H : Hp) (D : Addr) (cl : List (Str × Addr)) (fp : List Addr) (xe : Value → Shared → Prop), PG (EVX.blkX X s H scope (compEnvC scope cl D X.env) fp xe) tg (tgR X.K t)
  c : ∀ (s : Shared) (H : Hp) (D : Addr) (cl : List (Str × Addr)) (fp : List Addr) (xe : Value → Shared → Prop), (Takes (EVX.blkX X s H scope (compEnvC scope cl D X.env) fp xe) fun c d _ H => wU xa U c d H) → PTs (EVX.blkX X s H scope (compEnvC scope cl D X.env) fp xe) ifs (tDT X.K X.w cls U (evE C cond))
  e : ∀ (s : Shared) (H : Hp) (D : Addr) (cl : List (Str × Addr)) (fp : List Addr) (xe : Value → Shared → Prop), (Takes (EVX.blkX X s H scope (compEnvC scope cl D X.env) fp xe) fun c d _ H => wU xa U c d H) → PE (EVX.blkX X s H scope (compEnvC scope cl D X.env) fp xe) elt (tD X.K X.w cls U (evE C ie))
theorem g_lcx {xa : Nat → Addr} {it : It} {t : Tg} {cond ie : E} {own : List (Str × Nat)} {pr : Bool} {elt iter : Expr} {ifs : List Expr} {scope : Scope} (hc : X.calm = true) (hN : X.N.Nodup) (hp : it.plain = true) (tk : Takes X fun c d _ H => wU xa U c d H) (hst : X.stack = X.env :: X.outer) (hfr : X.env.frame = some X.env.locals)
    (hi : PI X tg iter (tDI X.K X.w cls U pr (evI C it))) (ok : BlkOk X.N X.env.scope scope own) (gb : GoodBX X cls xa U C scope tg t ifs elt cond ie) (ht : ∀ s ∈ t.slots, s ∈ own.map (·.2)) (hpr : pr = true → ∃ is, t = .many is)
    (hs : ∀ x, foldedSetIterable iter X.env x = pure x) : PE X (.ListComp elt [⟨tg, iter, ifs, 0⟩] scope pos) (tD X.K X.w cls U (evE C (.lcx (own.map (·.2)) t it cond ie))) := by
  refine PE.mono (EVX.pe_lcx hc hN tk hst hfr hi ok gb.g gb.c gb.e hs) fun σ H Q q => lcx_tD hp ht hpr q
end
end EV
/-! EvRp: a[k].replace(y, z), y and z written texts. -/
namespace EV
open PySem PySem.Spec PyProof.Rows L2
section
variable {X : Cx} {cls : Cl} {U : XW} {C : Ctx} {a : Expr} {i : E} {pos : Pos}
/-- a[k]: a token was given out -/
theorem sub_tok {b : Expr} {r : R2} {ta tb : TE} {k : Int} {j : Nat} {p q : Pos} (hr : IxR X r) (ha : PE X a ta) (pins : List (Addr × Obj)) (s : Shared) (σ : L2.St) (H : Hp) (Q : VK) (I : Inv X pins σ H s) (h : tOp r ta (tC (.int k)) σ H Q) :
    wpAny (model X.prog X.w) X.A (eval (.Subscript a (.Constant (.int k) j p) q) X.env) (fun v s1 => 1 ≤ s1.toks ∧ EP X pins σ Q v s1) X.xe s := by
  refine Subscript_ (thn (ha.run pins s σ H _ I h) fun v s1 ⟨x, H1, I1, r1, q1⟩ => wpAny_Constant_int ?_)
  refine wpAny_mono (wpAny_toks_of (n := 1) (by show 1 ≤ s1.toks + 1; omega) (hr a (.Constant (.int k) j p) pins _ σ H1 x (.int k) v (.int k s1.toks) Q (I1.tok _) r1 ⟨_, rfl⟩ q1 rfl)) (fun _ _ z => z) fun _ _ z => z.2
theorem g_repl {k : Int} {j j1 j2 : Nat} {y z : Str} {p q apos c1 c2 : Pos} (hd : DicR X cls) (ha : Good X cls U C a i) (hyz : (y == z) = false) (hline : (apos.endLine == pos.line) = true) :
    Good X cls U C (.Call (.Attribute (.Subscript a (.Constant (.int k) j p) q) "replace" apos) [.Constant (.str y) j1 c1, .Constant (.str z) j2 c2] [] pos) (.mth .replace (.idx i (.con (.int k))) (.cons (.con (.str y)) (.cons (.con (.str z)) .nil))) := by
  refine good_val ⟨fun pins s σ H Q I h => ?_⟩ fun _ => rfl
  obtain ⟨W, env, st, he, A, q0⟩ := h
  rw [evE] at q0
  have h1 : tOp (rBin X cls U idxD) (tD X.K X.w cls U (evE C i)) (tC (.int k)) σ H (fun x H1 => ∃ W1 st1 d, Ext W H W1 H1 ∧ Ag X.K X.w cls W1 st1 H1 ∧ Rep X.K W1 x d ∧ Aft X.K X.w cls U (Rep X.K) W1 H1 (R.test (Mth.replace.ok d st1) ((evEs C (.cons (.con (.str y)) (.cons (.con (.str z)) .nil)) env st1).bind fun xs st => mthD .replace d xs st)) Q) := by
    have hb := Aft.bind (rel := Rep X.K) q0
    rw [evE] at hb
    refine ⟨W, env, st, he, A, (hb.bind).mono fun x H1 ⟨W1, st1, dx, x1, A1, r1, q1⟩ => ?_⟩
    rw [evE] at q1
    refine ⟨W1, st1, dx, .int k, A1, r1, .int k, Aft.mono q1 fun w H2 ⟨W2, st2, d2, x2, A2, r2, q2⟩ => ?_⟩
    exact ⟨W2, st2, d2, x2, A2, r2, q2⟩
  refine PySem.Call_method2 rfl rfl hline (wpAny_mono (sub_tok (b := a) (tb := tC (.int k)) (ix_D (cls := cls) (U := U) hd) ha.pe pins s σ H _ I h1) (fun v s1 w => ?_) fun _ _ z => z)
  obtain ⟨htk, x, H1, I1, r1, W1, st1, d, x1, A1, rd, q1⟩ := w
  obtain ⟨hok, q1⟩ := Aft.test q1
  obtain ⟨t, rfl⟩ : ∃ t, d = .str t := by
    cases d with
    | str t => exact ⟨t, rfl⟩
    | ref n =>
      have hk : (D.ref n).kd st1 = some .str := of_decide_eq_true hok
      cases e : st1[n]? with
      | none => simp [D.kd, e] at hk
      | some o => cases o <;> simp [D.kd, e] at hk
    | _ => simp [Mth.ok, Mth.kd, D.kd] at hok
  rw [evEs, evE, R.bind_ok, evEs, evE, R.bind_ok, evEs, R.bind_ok, R.bind_ok] at q1
  simp only [R.bind_ok, mthD] at q1
  obtain ⟨hb, q1⟩ := Aft.test q1
  simp only [Bool.and_eq_true, decide_eq_true_eq, sizeLine_lim] at hb
  have ex := rd.str_inv
  subst ex
  obtain ⟨tx, rfl⟩ := r1
  refine ⟨"str", _, F.plainAttrs_str, F.slot_str_replace, F.type_str_replace, typeIs_str _ _ _, (fun _ e => nomatch e), Calls.callWith_builtin rfl (Calls.evalArgs_plain (Calls.spliced_cons (Calls.Constant_str (Calls.spliced_cons (Calls.Constant_str (Calls.spliced_nil ?_))))))⟩
  refine PySem.SC.replace (by show s1.toks ≠ 0; omega) (by show s1.toks + 1 ≠ 0; omega) (by show s1.toks ≠ s1.toks + 1; omega) hyz (by have := hb.2; rw [sizeLine_eq] at this; omega) fun t' k => ?_
  exact ⟨.str (Txt.replace t y z), H1, I1.tok k, ⟨t', rfl⟩, q1 _ W1 H1 (Ext.refl _ _) A1 (.str _)⟩
end
end EV
/-! EvGu: defs that may call repr: no repr runs around them (A.guards = some []). -/
namespace EVG
open PySem PySem.Spec PyProof.Rows L2
/-- a def's promise where no repr runs -/
structure FnG (P : Program) (w : World) (K : PySem.W.Frag) (mg : Str → Option Value) (base : Heap) (CX : CXT) (k : Nat) (f : Addr) (fd : FuncData) (ps : List Str) (sp : Sp) : Prop where
  len : ∀ vs H Q E, sp vs H Q E → vs.length = ps.length
  run : ∀ (A : Around) (outer : List PySem.Env) (s : Shared) (H : Hp) (args : Args) (us : List Value) (vs : List V) (Q : VK) (E : XK), A.guards = some [] → Room k A → Env0 P w K mg base A outer s H → BindsTo s fd args (ps.zip us) → Vals vs us → sp vs H Q E →
    codeAny (model P w) A (.call (.ref f) args) (CR CX outer P w H s Q E) s
theorem FnG.of {P : Program} {w : World} {K : PySem.W.Frag} {mg : Str → Option Value} {base : Heap} {CX : CXT} {k : Nat} {f : Addr} {fd : FuncData} {ps : List Str} {sp : Sp} (F : FnOk P w K mg base CX k f fd ps sp) : FnG P w K mg base CX k f fd ps sp :=
  ⟨F.len, fun A outer s H args us vs Q E _ => F.run A outer s H args us vs Q E⟩
/-- a def by its body -/
theorem fnG_of {CX : CXT} {P : Program} {w : World} {K : PySem.W.Frag} {mg : Str → Option Value} {base : Heap} {k : Nat} {f : Addr} {x qual : Str} {params : Arguments} {body : List Stmt} {scope : Scope} {dvs : List V} {kws : List (Str × V)} {fd : FuncData} {N ps : List Str} {sp : Sp}
    (F : FunD K x qual params body scope dvs kws f fd) (S : FnScope N ps scope) (len : ∀ vs H Q E, sp vs H Q E → vs.length = ps.length)
    (hbody : ∀ (cdv : Value) (A : Around) (outer : List PySem.Env) (s : Shared) (H : Hp) (vs : List V) (Q : VK) (E : XK), fd.code = cdv → A.guards = some [] → Room k (A.deeper (envOfC qual scope s.heap.objs.size f cdv)) → sp vs H Q E →
      ∃ t, PSs (cxOf CX P w K mg base N qual scope f cdv A outer s H E) body t ∧ t { nx := fun _ H' => Q .non H', rt := Q } (start N vs) H) : FnG P w K mg base CX (k + 1) f fd ps sp := by
  obtain ⟨oc, od, dV, kV, doc, pm, an, cdv, ct, osl, efd, lk, hcd, _, _⟩ := F.ex
  subst efd
  refine ⟨len, fun A outer s H args us vs Q E gd hr e0 hb r hsp => ?_⟩
  have kin : K.In s.heap := e0.mod.kin.keeps fun b o e => (e0.bs b o e).1
  have kinds : ∀ y ∈ ps.zip us, scope.names.lookup y.1 = some .local ∨ (scope.names.lookup y.1 = some .cell ∧ ((cellsFrom (s.heap.objs.size + 1) scope.names []).lookup y.1).isSome = true) := fun ⟨n, v⟩ hy =>
    (S.par n (List.of_mem_zip hy).1).elim .inl fun q => .inr ⟨q, PySem.W.cellsFrom_some _ _ _ (.inl q)⟩
  refine codeAny_call_function hr.depth (kin _ _ lk) rfl S.co S.gen rfl (PySem.W.codeRec_of kin hcd) (hb _ _ _ _ (wpAny_newFunctionEnv_cells S.kind kinds fun env he s1 x1 => ?_))
  subst he
  refine ⟨(e0.mod.nolimit.keeps fun b o e => (e0.bs b o e).1).keeps x1.toInCall.keep, codeAny_func ?_⟩
  obtain ⟨t, ht, hq⟩ := hbody cdv A outer s H vs Q E rfl gd (hr.deeper _) hsp
  have I : Inv (cxOf CX P w K mg base N qual scope f cdv A outer s H E) [] (start N vs) H s1 := inv_start S hr.hd e0 (len _ _ _ _ hsp) r x1
  refine wpAny_mono (ht.run [] s1 (start N vs) H _ I hq) (fun fl s' h => ?_) fun e s' h => h
  cases fl with
  | ret u => obtain ⟨v, σ', H', J, rv, q⟩ := h; exact ⟨v, H', J.os, J.bare, J.base, J.hok, rv, q⟩
  | next => obtain ⟨σ', H', J, q⟩ := h; exact ⟨.non, H', J.os, J.bare, J.base, J.hok, rfl, q⟩
  | brk => obtain ⟨_, _, _, q⟩ := h; exact q.elim
  | cont => obtain ⟨_, _, _, q⟩ := h; exact q.elim
section
variable {X : Cx} {CX : CXT} {k : Nat} {f : Addr} {fd : FuncData} {ps : List Str} {sp : Sp} {E : XK} {x : Str} {p pos : Pos} {e : Expr} {es : List Expr} {t : TA}
/-- f(e, ..) of such a def -/
theorem pe_callG (F : FnG X.prog X.w X.K X.mg X.base CX k f fd ps sp) (gd : X.A.guards = some []) (hr : Room k X.A) (hg : Gl X x) (hm : X.mg x = some (.ref f)) (hk : PySem.W.keepIn X.K (.ref f) = true) (hb : Binds X.K fd ps []) (hx : Passes CX X E)
    (ha : PA X (e :: es) t) (hdb : (x == ("__debug__" : Str)) = false) (he : starEach (e :: es) X.env = (false, eval e X.env) :: starEach es X.env) (hpl : (backTo pos (starEach es X.env)).any (·.1) = false) :
    PE X (.Call (.Name x p) (e :: es) [] pos) (tCall sp [] E t) := by
  refine ⟨fun pins s σ H Q I h => wpAny_Call_Name_kw (ld_glob I hg hm ?_ hdb)⟩
  refine PySem.W.callWith_K (h₀ := X.base) I.ok.mod.kin hk (thn (ha.run pos pins s σ H _ I h) fun us s1 ⟨vs, H1, I1, r, q⟩ => ⟨I1.kIn, ?_⟩) he hpl
  have q : sp (vs ++ []) H1 Q E := q
  rw [List.append_nil] at q
  have hl : (us ++ []).length = ps.length := by rw [List.append_nil, ← r.length]; exact F.len _ _ _ _ q
  have hbn := hb s1 us I1.kIn hl
  rw [List.append_nil] at hbn
  refine wpAny_call (codeAny_mono (F.run X.A X.stack s1 H1 ⟨us, []⟩ us vs Q E gd hr I1.env0 hbn r q) fun rr s' hq => ?_)
  cases rr with
  | error e => exact hx pins σ H1 s1 e s' I1 hq
  | ok fl =>
    cases fl with
    | ret u => exact I1.after hq
    | next => exact hq.elim
    | brk => exact hq.elim
    | cont => exact hq.elim
end
end EVG
namespace EV
open PySem PySem.Spec PyProof.Rows L2
mutual
theorem rpr_py : ∀ (d : D) (n : Nat), d.flat n = true → d.py.shown = d.rpr
  | .non, _, _ => rfl
  | .bl b, _, _ => by cases b <;> rfl
  | .int _, _, _ => rfl
  | .str _, _, _ => rfl
  | .tup xs, n, h => by
    cases n with
    | zero => simp [D.flat] at h
    | succ n =>
      rw [D.flat] at h
      rw [D.py, PyData.shown, D.rpr, rprs_py xs n h]
  | .lst xs, n, h => by
    cases n with
    | zero => simp [D.flat] at h
    | succ n =>
      rw [D.flat] at h
      rw [D.py, PyData.shown, D.rpr, rprs_py xs n h]
  | .scr _, n, h => by cases n <;> simp [D.flat] at h
  | .ref _, n, h => by cases n <;> simp [D.flat] at h
theorem rprs_py : ∀ (ds : List D) (n : Nat), D.flats n ds = true → PyData.shownAll (D.pys ds) = D.rprs ds
  | [], _, _ => rfl
  | d :: ds, n, h => by
    rw [D.flats, Bool.and_eq_true] at h
    rw [D.pys, PyData.shownAll, D.rprs, rpr_py d n h.1, rprs_py ds n h.2]
end
mutual
theorem showable_py : ∀ (d : D) (n : Nat), d.flat n = true → d.wrt = true → d.py.showable = true
  | .non, _, _, _ => rfl
  | .bl _, _, _, _ => rfl
  | .int i, _, _, h => by simpa [D.py, PyData.showable, D.wrt] using h
  | .str _, _, _, _ => rfl
  | .tup xs, n, h, hw => by
    cases n with
    | zero => simp [D.flat] at h
    | succ n =>
      rw [D.flat] at h
      rw [D.py, PyData.showable]
      exact showables_py xs n h hw
  | .lst xs, n, h, hw => by
    cases n with
    | zero => simp [D.flat] at h
    | succ n =>
      rw [D.flat] at h
      rw [D.py, PyData.showable]
      exact showables_py xs n h hw
  | .scr _, n, h, _ => by cases n <;> simp [D.flat] at h
  | .ref _, n, h, _ => by cases n <;> simp [D.flat] at h
theorem showables_py : ∀ (ds : List D) (n : Nat), D.flats n ds = true → D.wrts ds = true → PyData.showableAll (D.pys ds) = true
  | [], _, _, _ => rfl
  | d :: ds, n, h, hw => by
    rw [D.flats, Bool.and_eq_true] at h
    rw [D.wrts, Bool.and_eq_true] at hw
    rw [D.pys, PyData.showableAll, showable_py d n h.1 hw.1, showables_py ds n h.2 hw.2]
    rfl
end
mutual
theorem nodict_py : ∀ (d : D), d.py.hasDict = false
  | .non => rfl
  | .bl _ => rfl
  | .int _ => rfl
  | .str _ => rfl
  | .tup xs => by rw [D.py, PyData.hasDict]; exact nodicts_py xs
  | .lst xs => by rw [D.py, PyData.hasDict]; exact nodicts_py xs
  | .scr _ => by rw [D.py]; rfl
  | .ref _ => by rw [D.py]; rfl
theorem nodicts_py : ∀ (ds : List D), PyData.hasDictAll (D.pys ds) = false
  | [] => rfl
  | d :: ds => by rw [D.pys, PyData.hasDictAll, nodict_py d, nodicts_py ds]; rfl
end
end EV
/-! EvRe: repr. -/
namespace EV
open PySem PySem.Spec PyProof.Rows L2
section
variable {X : Cx} {cls : Cl} {U : XW}
theorem cd_repr (gd : X.A.guards = some []) (hu : X.A.units + 64 < cLine) : CallR X (.builtin "repr") (rC X cls U (bltD .repr)) := by
  intro pins s σ H vs us Q I rv h
  obtain ⟨W, st, ds, A, rl, q⟩ := h
  have go : ∀ (d : D) (a : Addr) (v : V), v = .ref a → Rep X.K W v d → d.plain = true → d.wrt = true → d.rpr.length ≤ lim → Q (.str d.rpr) H → wpAny (model X.prog X.w) X.A (call (.builtin "repr") [.ref a]) (EP X pins σ Q) X.xe s := by
    intro d a v ev r hp hw hl hq
    subst ev
    obtain ⟨as, rd⟩ := r.reads I A (n := 20) hp (rfl : RelV (.ref a) (.ref a))
    have e := rpr_py d 20 hp
    have hdp := (D.py_plain d hp).2
    refine repr_of_reads' (h₀ := s.heap) rd (showable_py d 20 hp hw) (PyData.noDict_hsm (nodict_py d)) gd (by omega) (fun b o e => e) (fun h' u tk hk => ?_) (by rw [e, sizeLine_lim.symm]; exact hl)
    exact ⟨.str d.rpr, H, I.kept (t' := tk) hk, ⟨u, by rw [e]⟩, hq⟩
  simp only [bltD] at q
  split at q
  · obtain ⟨v, rfl, r1⟩ := rl.one_inv
    obtain ⟨hb, q⟩ := Aft.test q
    simp only [Bool.and_eq_true, decide_eq_true_eq] at hb
    obtain ⟨a, us1, xs, e1, g, z, l⟩ := r1.tup_inv
    obtain ⟨u, rfl, ru⟩ := vals1 rv
    rw [e1] at ru
    cases ru
    exact go _ a v e1 r1 hb.1.1 hb.1.2 hb.2 (Aft.val A q (.str _))
  · obtain ⟨v, rfl, r1⟩ := rl.one_inv
    obtain ⟨hb, q⟩ := Aft.test q
    simp only [Bool.and_eq_true, decide_eq_true_eq] at hb
    obtain ⟨a, xs, e1, g, z, l⟩ := r1.lst_inv
    obtain ⟨u, rfl, ru⟩ := vals1 rv
    rw [e1] at ru
    cases ru
    exact go _ a v e1 r1 hb.1.1 hb.1.2 hb.2 (Aft.val A q (.str _))
  · obtain ⟨v, rfl, r1⟩ := rl.one_inv
    obtain ⟨u, rfl, ru⟩ := vals1 rv
    have e1 := r1.non_inv
    rw [e1] at ru
    cases ru
    refine call_repr_gives (typeIs_none s) F.slot_NoneType_repr F.entry_NoneType_repr (F.args_NoneType_repr_1 _) gives_none_repr ?_
    exact ⟨.str "None", H, I.tok _, ⟨_, rfl⟩, Aft.val A q (.str _)⟩
  · exact q.elim
end
end EV
/-! EvSe: sorted(set(x)), x a tuple of ints, or of tuples of ints. -/
namespace EVS
open PySem PySem.Spec PyProof.Rows L2
/-- a new set -/
abbrev nw (w : World) : Obj := { cls := .type "set", dict := none, data := .set #[] 0 (.fresh 0 0 (!w.params.followText "set-order")) }
section
variable {P : Program} {w : World} {A : Around} {E : Value → Shared → Prop} {s : Shared}
/-- set(t), t a tuple of tuples of ints -/
theorem set_tt {t : Addr} {its : Array Value} (ks : List (Addr × List Int)) {Q : Value → Shared → Prop} (hh : A.handled = none) (ht : s.heap.IsTuple t its) (hi : its.toList = ks.map fun p => Value.ref p.1) (hk : ∀ p ∈ ks, IsT P w s.heap p.2 p.1) (h64 : ks.length < 64) (hu : A.units + 3 < cLine)
    (fin : ∀ (k : Heap) (tk : Nat) L es ep tb, SetTR P w k s.heap.objs.size L es ep tb → Got ks ks.length L → (∀ b o, s.heap.get? b = some o → k.get? b = some o) → Q (.ref s.heap.objs.size) { s with heap := k, toks := tk }) : wpAny (model P w) A (call (.type "set") [.ref t]) Q E s := by
  have hsz : its.size = ks.length := by rw [← Array.length_toList, hi, List.length_map]
  obtain ⟨c0, tl0, m0⟩ := F.called_set.mro
  have m1 := F.called_set.made
  have m2 := F.called_set.sub
  refine wpAny_call (codeAny_of_tree ?_)
  show wpAny _ _ (callAny (.type "set") _) _ _ _
  refine wpAny_pure ⟨Code.quiet_builtin _ (by decide +kernel), codeAny_builtin F.entry_type_call ?_⟩
  rw [Around.under_plain (weight_type_call_type "set" [.ref t] []) rfl]
  have m3 := F.called_set.notType
  have m4 := F.called_set.canCreate
  have m5 := F.typeCall_set_1 (.ref t)
  repeat (any_goals (first | wp_step | assumption))
  refine codeAny_mono (code_set_led1 (.ref t) (E := E) (Q₁ := fun ob s1 => ob = .ref s.heap.objs.size ∧ s1 = { s with heap := s.heap.push (nw w) }) ⟨rfl, rfl⟩) fun r s1 hr => ?_
  cases r with
  | error e => exact hr
  | ok fl =>
    cases fl with
    | ret ob =>
      obtain ⟨rfl, rfl⟩ := hr
      have gS : (s.heap.push (nw w)).get? s.heap.objs.size = some (nw w) := Heap.get?_push_size _ rfl
      have tS : Shared.TypeIs { s with heap := s.heap.push (nw w) } (.ref s.heap.objs.size) "set" := ⟨_, gS, rfl⟩
      have n1 := F.called_set.init.lookup
      have n2 := F.called_set.init.bind (.ref s.heap.objs.size)
      repeat (any_goals (first | wp_step | assumption))
      refine codeAny_mono (codeAny_call_builtin (R := wants (fun r s2 => r = .none ∧ ∃ k tk L es ep tb, s2 = { s with heap := k, toks := tk } ∧ SetTR P w k s.heap.objs.size L es ep tb ∧ Got ks ks.length L ∧ (∀ b o, s.heap.get? b = some o → k.get? b = some o)) E)
        F.called_set.init.plain F.entry_set_init (check_set_init_1 tS ?_)) fun r2 s2 hr2 => ?_
      · obtain ⟨⟨oc, od, odt, osl⟩, ho, ec, n, ed⟩ := ht
        simp only at ec ed
        subst ec ed
        have ho1 : (s.heap.push (nw w)).get? t = some { cls := .type "tuple", dict := od, data := .seq its n, slots := osl } := Heap.get?_push_of_some _ ho
        have u1 := F.sub_tuple_set
        have u2 := F.sub_tuple_frozenset
        have u3 : (Value.type "tuple" == Value.type "dict") = false := by decide
        have ht1 : (s.heap.push (nw w)).IsTuple t its := ⟨_, ho1, rfl, n, rfl⟩
        unfold Builtin.«set.__init__» noKeywords Builtin.Frozenset.updateFrom
        generalize ePI : pyIter = pI
        wp_walk
        subst ePI
        refine wpAny_pyIter_tuple ht1 (wpAny_bind (wpAny_runValue ?_))
        have lt : t < s.heap.objs.size := Heap.lt_size ho
        have h3 : A.in1.in1.in1.handled = none := by simp [hh]
        have sz1 : (s.heap.push (nw w)).objs.size = s.heap.objs.size + 1 := Heap.size_push ..
        have ne1 : t ≠ (s.heap.push (nw w)).objs.size := by rw [sz1]; exact Nat.ne_of_lt (Nat.lt_succ_of_lt lt)
        have nfp : s.heap.objs.size ∉ [(s.heap.push (nw w)).objs.size, t] := by
          rw [sz1]
          simp only [List.mem_cons, List.not_mem_nil, or_false, not_or]
          exact ⟨Nat.ne_of_lt (Nat.lt_succ_self _), Nat.ne_of_gt lt⟩
        have val : ∀ (i : Nat) (v : Value), its[i]? = some v → ∃ p, ks[i]? = some p ∧ v = .ref p.1 := fun i v hv => by
          rw [← Array.getElem?_toList, hi, List.getElem?_map] at hv
          cases q : ks[i]? with
          | none => rw [q] at hv; cases hv
          | some p => rw [q] at hv; exact ⟨p, rfl, (Option.some.inj hv).symm⟩
        have off : ∀ b, s.heap.objs.size ≤ b → s.heap.get? b = none := fun b hb => by
          cases q : s.heap.get? b with
          | none => rfl
          | some o => exact absurd (Nat.lt_of_lt_of_le (Heap.lt_size q) hb) (Nat.lt_irrefl _)
        refine set_update_tups ((Walks.tuple h3 _ t ne1 its).toS) s.heap.objs.size nfp ks hsz h64 val s.heap hk (off _ (Nat.le_refl _)) (fun b hb => off b (by rw [List.mem_singleton.mp hb, sz1]; exact Nat.le_succ _)) hu (its.size - 0) 0 _ (by omega) (Nat.zero_le _)
          ⟨⟨_, Heap.get?_push_size _ rfl, rfl, rfl⟩, ht1.push _⟩ (fun b o e => Heap.get?_push_of_some _ (Heap.get?_push_of_some _ e)) ⟨[], #[], 0, _, setTR_fresh (Heap.get?_push_of_some _ gS), Got.zero ks⟩ fun s3 L es ep tb mv hS g hkp => ?_
        obtain ⟨k, g2, d2, tk2, os2⟩ := s3
        have q1 : g2 = s.gens := mv.gens
        have q2 : d2 = s.drawn := mv.drawn
        have q3 : os2 = s.os := mv.os
        subst q1 q2 q3
        show wpAny _ _ _ _ _ _
        refine wpAny_pure ?_
        show wpAny _ _ (ret Value.none) _ _ _
        rw [hsz] at g
        exact wpAny_pure ⟨rfl, k, tk2, L, es, ep, tb, rfl, hS, g, hkp⟩
      · cases r2 with
        | error e => exact hr2
        | ok fl2 =>
          cases fl2 with
          | ret r =>
            obtain ⟨rfl, k, tk, L, es, ep, tb, rfl, hS, g, hkp⟩ := hr2
            repeat (any_goals (first | wp_step | assumption))
            exact fin _ _ _ _ _ _ hS g hkp
          | _ => exact hr2.elim
    | _ => exact hr.elim
end
end EVS
/-! EvSf: sorted(set(x)) by the evaluator. -/
namespace EV
open PySem PySem.Spec PyProof.Rows L2
/-! ### plain: rising lists -/
theorem insS_mem (x k : Int) : ∀ l : List Int, k ∈ insS x l ↔ k = x ∨ k ∈ l
  | [] => by simp [insS]
  | y :: r => by
    rw [insS]
    split
    · simp
    · split
      · rename_i h
        subst h
        simp only [List.mem_cons]
        constructor
        · rintro (h | h)
          · exact .inl h
          · exact .inr (.inr h)
        · rintro (h | h | h)
          · exact .inl h
          · exact .inl h
          · exact .inr h
      · rw [List.mem_cons, insS_mem x k r, List.mem_cons]
        constructor
        · rintro (h | h | h)
          · exact .inr (.inl h)
          · exact .inl h
          · exact .inr (.inr h)
        · rintro (h | h | h)
          · exact .inr (.inl h)
          · exact .inl h
          · exact .inr (.inr h)
theorem insS_rise (x : Int) : ∀ l : List Int, l.Pairwise (· < ·) → (insS x l).Pairwise (· < ·)
  | [], _ => by simp [insS]
  | y :: r, h => by
    rw [List.pairwise_cons] at h
    rw [insS]
    split
    · rename_i hx
      refine List.pairwise_cons.mpr ⟨fun z hz => ?_, List.pairwise_cons.mpr h⟩
      rcases List.mem_cons.mp hz with rfl | hz
      · exact hx
      · exact Int.lt_trans hx (h.1 z hz)
    · split
      · exact List.pairwise_cons.mpr h
      · rename_i h1 h2
        refine List.pairwise_cons.mpr ⟨fun z hz => ?_, insS_rise x r h.2⟩
        rcases (insS_mem x z r).mp hz with rfl | hz
        · omega
        · exact h.1 z hz
theorem ssetI_ok (ns : List Int) : (ssetI ns).Pairwise (· < ·) ∧ ∀ k, k ∈ ssetI ns ↔ k ∈ ns := by
  induction ns with
  | nil => exact ⟨.nil, fun k => Iff.rfl⟩
  | cons n ns ih =>
    refine ⟨insS_rise n _ ih.1, fun k => ?_⟩
    show k ∈ insS n (ssetI ns) ↔ _
    rw [insS_mem, ih.2 k, List.mem_cons]
theorem rise_uniqueI : ∀ {a b : List Int}, a.Pairwise (· < ·) → b.Pairwise (· < ·) → (∀ k, k ∈ a ↔ k ∈ b) → a = b
  | [], [], _, _, _ => rfl
  | [], y :: b, _, _, h => absurd ((h y).mpr (by simp)) (by simp)
  | x :: a, [], _, _, h => absurd ((h x).mp (by simp)) (by simp)
  | x :: a, y :: b, ha, hb, h => by
    rw [List.pairwise_cons] at ha hb
    have e : x = y := by
      have h1 := (h x).mp (by simp)
      have h2 := (h y).mpr (by simp)
      rcases List.mem_cons.mp h1 with h1 | h1
      · exact h1
      · rcases List.mem_cons.mp h2 with h2 | h2
        · exact h2.symm
        · have := ha.1 y h2
          have := hb.1 x h1
          omega
    subst e
    rw [rise_uniqueI ha.2 hb.2 fun k => ⟨fun hk => ?_, fun hk => ?_⟩]
    · have := (h k).mp (by simp [hk])
      rcases List.mem_cons.mp this with z | z
      · have := ha.1 k hk; omega
      · exact z
    · have := (h k).mpr (by simp [hk])
      rcases List.mem_cons.mp this with z | z
      · have := hb.1 k hk; omega
      · exact z
/-- a list put in order is the rising one with the same items -/
theorem rise_sorted : ∀ {ys zs : List D}, ys.Pairwise (fun a b => leP b a = false) → zs.Pairwise (fun a b => leP a b = true) → zs.Perm ys → zs = ys
  | [], zs, _, _, p => List.Perm.eq_nil p
  | y :: ys, [], _, _, p => by have := p.length_eq; simp at this
  | y :: ys, z :: zs, hr, hs, p => by
    rw [List.pairwise_cons] at hr hs
    have e : z = y := by
      have h1 : z ∈ y :: ys := p.mem_iff.mp (by simp)
      have h2 : y ∈ z :: zs := p.mem_iff.mpr (by simp)
      rcases List.mem_cons.mp h1 with h1 | h1
      · exact h1
      · rcases List.mem_cons.mp h2 with h2 | h2
        · exact h2.symm
        · have l1 := hr.1 z h1
          have l2 := hs.1 y h2
          rw [l1] at l2
          cases l2
    subst e
    rw [rise_sorted hr.2 hs.2 (List.Perm.cons_inv p)]
/-- tuples of ints: the evaluator's order is the library's -/
theorem ints_flats (n : Nat) : ∀ ns : List Int, D.flats n (ns.map D.int) = true
  | [] => by simp [D.flats]
  | i :: ns => by rw [List.map_cons, D.flats, ints_flats n ns]; simp [D.flat]
theorem ints_alikes : ∀ a b : List Int, D.alikes (a.map D.int) (b.map D.int) = true
  | [], b => by cases b <;> simp [D.alikes]
  | x :: a, [] => by simp [D.alikes]
  | x :: a, y :: b => by rw [List.map_cons, List.map_cons, D.alikes, ints_alikes a b]; simp [D.alike]
theorem lt_ints (a b : List Int) : D.lt (.tup (a.map D.int)) (.tup (b.map D.int)) = !leP (.tup (b.map D.int)) (.tup (a.map D.int)) := by
  rw [leP_eq, Bool.not_not, D.py, D.py, PySem.W.dataLt_tuple, D.lt]
  exact (lts_py _ _ (ints_flats 19 a) (ints_flats 19 b) (ints_alikes a b)).symm
/-- the tuple of a row -/
abbrev rw_ (r : List Int) : D := .tup (r.map D.int)
theorem rise_rows : ∀ {rs : List (List Int)}, riseD (rs.map rw_) = true → (rs.map rw_).Pairwise (fun a b => leP b a = false)
  | [], _ => .nil
  | r :: rs, h => by
    rw [List.map_cons, riseD, Bool.and_eq_true, List.all_eq_true] at h
    rw [List.map_cons]
    refine List.pairwise_cons.mpr ⟨fun x hx => ?_, rise_rows h.2⟩
    have l := h.1 x hx
    obtain ⟨q, _, rfl⟩ := List.mem_map.mp hx
    rw [lt_ints] at l
    simpa using l
theorem sortOk_rowsI (rs : List (List Int)) : sortOk (rs.map rw_) = true := by
  have h1 : D.flats 20 (rs.map rw_) = true := by
    induction rs with
    | nil => simp [D.flats]
    | cons r rs ih => rw [List.map_cons, D.flats, ih, D.flat, ints_flats]; rfl
  have h2 : ((rs.map rw_).all fun x => x.isTup) = true := by
    rw [List.all_eq_true]
    intro x hx
    obtain ⟨r, _, rfl⟩ := List.mem_map.mp hx
    rfl
  have al : ∀ x ∈ rs.map rw_, ∀ y ∈ rs.map rw_, D.alikes x.its y.its = true := by
    intro x hx y hy
    obtain ⟨r, _, rfl⟩ := List.mem_map.mp hx
    obtain ⟨q, _, rfl⟩ := List.mem_map.mp hy
    exact ints_alikes r q
  have cm : ∀ a b : List Int, D.cmpT (a.map D.int) (b.map D.int) = true := by
    intro a
    induction a with
    | nil => intro b; cases b <;> simp [D.cmpT]
    | cons x a ih =>
      intro b
      cases b with
      | nil => simp [D.cmpT]
      | cons y b => rw [List.map_cons, List.map_cons, D.cmpT, ih b]; simp [D.alike]
  have cl : ∀ x ∈ rs.map rw_, ∀ y ∈ rs.map rw_, D.cmpT x.its y.its = true := by
    intro x hx y hy
    obtain ⟨r, _, rfl⟩ := List.mem_map.mp hx
    obtain ⟨q, _, rfl⟩ := List.mem_map.mp hy
    exact cm r q
  rw [sortOk, h1, h2]
  simp only [Bool.and_self, Bool.true_and]
  split
  · simp only [List.all_eq_true]
    exact cl
  · simp only [List.all_eq_true]
    exact al
/-- whatever order the rows have -/
theorem sort_rows {rs qs : List (List Int)} (hr : riseD (rs.map rw_) = true) (hne : rs ≠ []) (p : qs.Perm rs) : sortD (qs.map rw_) = some (rs.map rw_) := by
  have hq : qs ≠ [] := fun z => hne (by rw [z] at p; exact List.Perm.eq_nil p.symm)
  have hi : intsOf (qs.map rw_) = none := by
    cases qs with
    | nil => exact absurd rfl hq
    | cons q qs => rfl
  have hs : sortD (qs.map rw_) = some (sortT (qs.map rw_)) := by rw [sortD, hi, sortOk_rowsI]
  have hm := sortD_merge hs
  rw [hs, hm]
  congr 1
  refine rise_sorted (rise_rows hr) ?_ ((List.mergeSort_perm _ _).trans (p.map rw_))
  exact PySem.W.sort_pairwise leP_total _
theorem perm_map_pre {α β : Type} (f : α → β) : ∀ {out : List β} {L : List α}, out.Perm (L.map f) → ∃ L' : List α, L'.Perm L ∧ out = L'.map f := by
  intro out L h
  generalize e : L.map f = M at h
  induction h generalizing L with
  | nil => exact ⟨[], by rw [List.map_eq_nil_iff] at e; rw [e], rfl⟩
  | @cons x l1 l2 p ih =>
    cases L with
    | nil => cases e
    | cons a L =>
      simp only [List.map_cons, List.cons.injEq] at e
      obtain ⟨L', p', e'⟩ := ih e.2
      exact ⟨a :: L', p'.cons a, by rw [List.map_cons, e.1, e']⟩
  | swap x y l =>
    match L, e with
    | a :: b :: L, e =>
      simp only [List.map_cons, List.cons.injEq] at e
      exact ⟨b :: a :: L, List.Perm.swap .., by rw [List.map_cons, List.map_cons, e.1, e.2.1, e.2.2]⟩
  | trans p1 p2 ih1 ih2 =>
    obtain ⟨L1, q1, e1⟩ := ih2 e
    obtain ⟨L2, q2, e2⟩ := ih1 e1.symm
    exact ⟨L2, q2.trans q1, e2⟩
end EV
/-! EvSg: set(tuple) and sorted over it. -/
namespace EV
open PySem PySem.Spec PyProof.Rows L2
section
variable {X : Cx} {cls : Cl} {U : XW}
theorem cr_setI (hc : X.calm = true) : CallR X (.type "set") (fun xs H Q => ∃ (t : Addr) (ns : List Int), xs = [V.ref t] ∧ SqT X.K H t (ns.map V.int) ∧ ns.length < 64 ∧
    ∀ a c, H a = none → c ≤ ns.length → Q (.ref a) (upd H a (SetO X.w a (fun j => decide (j ∈ ns)) c))) := by
  intro pins s σ H xs us Q I r h
  obtain ⟨t, ns, rfl, ht, hf, q⟩ := h
  rw [Vals.ref1 r]
  obtain ⟨its, rv, pl, hz⟩ := I.tuple ht
  have hn : H s.heap.objs.size = none := I.hok.fresh (Nat.le_refl _)
  refine call_set_tupI (P := X.prog) (w := X.w) ns (I.ok.hd hc) pl (by simpa using ints_of_vals rv) (by unfold scanBound; omega) fun h' tk c R hcl k => ?_
  exact ⟨.ref s.heap.objs.size, _, I.laid (t' := tk) k (Nat.le_refl _) (setO_new R), rfl, q _ c hn hcl⟩
theorem cr_setTT (hc : X.calm = true) (hu : X.A.units + 64 < cLine) : CallR X (.type "set") (fun xs H Q => ∃ (t : Addr) (ks : List (Addr × List Int)), xs = [V.ref t] ∧ SqT X.K H t (ks.map fun p => V.ref p.1) ∧ (∀ p ∈ ks, SqT X.K H p.1 (p.2.map V.int)) ∧ ks.length < 64 ∧
    ∀ a L, H a = none → (∀ p ∈ L, p ∈ ks) → (∀ p ∈ ks, p.2 ∈ L.map (·.2)) → (L.map (·.2)).Nodup → Q (.ref a) (upd H a (SetTO X.prog X.w a L))) := by
  intro pins s σ H xs us Q I r h
  obtain ⟨t, ks, rfl, ht, hk, hf, q⟩ := h
  rw [Vals.ref1 r]
  obtain ⟨its, rv, pl, hz⟩ := I.tuple ht
  have hn : H s.heap.objs.size = none := I.hok.fresh (Nat.le_refl _)
  refine EVS.set_tt (P := X.prog) (w := X.w) ks (I.ok.hd hc) pl (by simpa using refs_of_vals rv) (fun p hp => I.isT (hk p hp)) hf (by omega) fun h' tk L es ep tb R g k => ?_
  refine ⟨.ref s.heap.objs.size, upd H s.heap.objs.size (SetTO X.prog X.w s.heap.objs.size L), I.laid (t' := tk) k (Nat.le_refl _) (setTO_new R.t0), rfl, q _ L hn (fun p hp => ?_) (fun p hp => ?_) R.nd⟩
  · exact List.mem_of_mem_take (g.sub p hp)
  · exact g.all p (by rw [List.take_length]; exact hp)
/-- sorted over a set of tuples of ints -/
theorem cr_sortTT (hc : X.calm = true) (hu : X.A.units + 64 < cLine) : CallR X (.builtin "sorted") (fun vs H Q => ∃ (W : Wd) (st : Store) (p : Addr) (L : List (Addr × List Int)) (rs : List (List Int)), vs = [.ref p] ∧ Ag X.K X.w cls W st H ∧ H p = some (SetTO X.prog X.w p L) ∧ (∀ q ∈ L, SqT X.K H q.1 (q.2.map V.int)) ∧ (∀ q ∈ L, Rep X.K W (.ref q.1) (rw_ q.2)) ∧
    (L.map (·.2)).Perm rs ∧ rs ≠ [] ∧ riseD (rs.map rw_) = true ∧ Aft X.K X.w cls U (Rep X.K) W H (.ok (.lst (rs.map rw_)) st) Q) := by
  intro pins s σ H vs us Q I rv h
  obtain ⟨W, st, p, L, rs, rfl, A, hp, hk, hr, pm, hne, hri, q⟩ := h
  obtain ⟨u, rfl, ru⟩ := vals1 rv
  cases ru
  have R0 : SetT0 X.prog X.w s.heap p L := (I.hok p _ hp).1
  obtain ⟨es, ep, t, R⟩ := R0.full fun p hp => I.isT (hk p hp)
  obtain ⟨o, ho, hex, hd⟩ := R.ob
  have hsz := R.size
  have hfew := R.few
  refine sorted_byE (cls := cls) (zs := rs.map rw_) hu fun RR E h => ?_
  refine collect_set (es := es) (ep := ep) (t := t) (by simpa using I.ok.hd hc) ⟨o, ho, hex.1, hd⟩ R.fits (by unfold scanBound; omega) R.tab.ris R.led fun s1 out k1 hz1 g1 o1 pm1 => ?_
  have pm2 : out.Perm (L.map fun q => Value.ref q.1) := by
    have hes : es.toList.map (·.2) = L.map fun q => Value.ref q.1 := by
      rw [R.rows]
      unfold rowsOf
      rw [List.map_map] <;> rfl
    rwa [hes] at pm1
  obtain ⟨L', pL, rfl⟩ := perm_map_pre _ pm2
  refine h s1 H W st (L'.map fun q => V.ref q.1) _ (L'.map fun q => rw_ q.2) ?_ ?_ ?_ A (vals_of_refs L') ?_ (Aft.lstQ A q)
  · have := sort_rows hri hne ((pL.map (·.2)).trans pm)
    rwa [List.map_map] at this
  · rw [List.length_map, pL.length_eq, sizeLine_eq]; omega
  · exact I.call' (ch := []) o1 (Un.kept k1) (I.hok.kept k1) (by rw [g1]; exact I.bare) (fun _ z => nomatch z)
  · have hm : ∀ q ∈ L', Rep X.K W (.ref q.1) (rw_ q.2) := fun q hq => hr q (pL.mem_iff.mp hq)
    clear pL pm2 pm1
    induction L' with
    | nil => exact .nil
    | cons b L' ih => exact .cons (hm b (List.mem_cons_self ..)) (ih fun q hq => hm q (List.mem_cons_of_mem _ hq))
end
end EV
/-! EvSh: the evaluator's sorted(set(t)). -/
namespace EV
open PySem PySem.Spec PyProof.Rows L2
theorem repL_ints {K : PySem.W.Frag} {W : Wd} : ∀ {ns : List Int} {xs : List V}, RepL K W xs (ns.map D.int) → xs = ns.map V.int
  | [], _, .nil => rfl
  | n :: ns, _, .cons r t => by
    rw [repL_ints t]
    cases r
    rfl
theorem repL_rows {X : Cx} {cls : Cl} {W : Wd} {st : Store} {H : Hp} (A : Ag X.K X.w cls W st H) : ∀ {rs : List (List Int)} {xs : List V}, RepL X.K W xs (rs.map rw_) →
    ∃ ks : List (Addr × List Int), xs = (ks.map fun p => V.ref p.1) ∧ ks.map (·.2) = rs ∧ (∀ q ∈ ks, Rep X.K W (.ref q.1) (rw_ q.2)) ∧ ∀ q ∈ ks, SqT X.K H q.1 (q.2.map V.int)
  | [], _, .nil => ⟨[], rfl, rfl, (fun q h => by cases h), (fun q h => by cases h)⟩
  | r :: rs, _, .cons h t => by
    obtain ⟨ks, e1, e2, h1, h2⟩ := repL_rows A t
    obtain ⟨a, us, xs, rfl, g, z, l⟩ := Rep.tup_inv h
    have e := repL_ints l
    subst e
    refine ⟨(a, r) :: ks, by rw [e1]; rfl, by rw [List.map_cons, e2], fun q hq => ?_, fun q hq => ?_⟩
    · rcases List.mem_cons.mp hq with z | z
      · rw [z]; exact h
      · exact h1 q z
    · rcases List.mem_cons.mp hq with z | z
      · rw [z]; exact SqT_ft (A.sub _ _ g)
      · exact h2 q z
section
variable {X : Cx} {cls : Cl} {U : XW} {C : Ctx} {a b c : Expr} {i j k : E} {pos : Pos}
theorem cr_setD (hc : X.calm = true) (hu : X.A.units + 64 < cLine) : CallR X (.type "set") (fun vs H Q => ∃ (W : Wd) (st : Store) (x : V) (ys : List D), vs = [x] ∧ Ag X.K X.w cls W st H ∧ Rep X.K W x (.tup ys) ∧
    ((∃ ns : List Int, ys = ns.map D.int ∧ ns.length < 64 ∧ ∀ a c, H a = none → c ≤ ns.length → Q (.ref a) (upd H a (SetO X.w a (fun j => decide (j ∈ ns)) c))) ∨
     (∃ rs : List (List Int), ys = rs.map rw_ ∧ rs.length < 64 ∧ ∀ a L, H a = none → (∀ q ∈ L, SqT X.K H q.1 (q.2.map V.int)) → (∀ q ∈ L, Rep X.K W (.ref q.1) (rw_ q.2)) → (∀ q ∈ L, q.2 ∈ rs) → (∀ r ∈ rs, r ∈ L.map (·.2)) → (L.map (·.2)).Nodup → Q (.ref a) (upd H a (SetTO X.prog X.w a L))))) := by
  intro pins s σ H vs us Q I rv h
  obtain ⟨W, st, x, ys, rfl, A, r, h⟩ := h
  obtain ⟨a, us1, xs, rfl, g, z, l⟩ := r.tup_inv
  rcases h with ⟨ns, rfl, hf, q⟩ | ⟨rs, rfl, hf, q⟩
  · have e := repL_ints l
    subst e
    exact cr_setI hc pins s σ H _ us Q I rv ⟨a, ns, rfl, SqT_ft (A.sub _ _ g), hf, q⟩
  · obtain ⟨ks, rfl, e2, h1, h2⟩ := repL_rows A l
    have hl : ks.length = rs.length := by rw [← e2, List.length_map]
    refine cr_setTT hc hu pins s σ H _ us Q I rv ⟨a, ks, rfl, SqT_ft (A.sub _ _ g), h2, by omega, fun p L hp m1 m2 nd => q p L hp (fun q hq => h2 q (m1 q hq)) (fun q hq => h1 q (m1 q hq)) (fun q hq => ?_) (fun r hr => ?_) nd⟩
    · rw [← e2]; exact List.mem_map.mpr ⟨q, m1 q hq, rfl⟩
    · rw [← e2] at hr
      obtain ⟨q, hq, rfl⟩ := List.mem_map.mp hr
      exact m2 q hq
theorem srtSet_cases {ys zs : List D} (h : srtSet ys = some zs) : (∃ ns : List Int, ys = ns.map D.int ∧ ns.length < 64 ∧ zs = (ssetI ns).map D.int) ∨ (∃ rs : List (List Int), ys = rs.map rw_ ∧ rs.length < 64 ∧ rs ≠ [] ∧ riseD (rs.map rw_) = true ∧ zs = rs.map rw_) := by
  unfold srtSet at h
  cases e : intsOf ys with
  | some ns =>
    rw [e] at h
    simp only at h
    by_cases hl : ns.length < 64
    · rw [if_pos hl] at h
      cases h
      exact .inl ⟨ns, intsOf_map e, hl, rfl⟩
    · rw [if_neg hl] at h
      cases h
  | none =>
    rw [e] at h
    simp only at h
    cases e2 : (decide (ys.length < 64) && (ys.all fun x => x.isTup && (intsOf x.its).isSome) && riseD ys) with
    | false => rw [e2] at h; cases h
    | true =>
      rw [e2] at h
      cases h
      simp only [Bool.and_eq_true, decide_eq_true_eq] at e2
      obtain ⟨⟨h1, h2⟩, h3⟩ := e2
      have go : ∀ ys : List D, (ys.all fun x => x.isTup && (intsOf x.its).isSome) = true → ∃ rs : List (List Int), ys = rs.map rw_ := by
        intro ys
        induction ys with
        | nil => intro _; exact ⟨[], rfl⟩
        | cons y ys ih =>
          intro h
          rw [List.all_cons, Bool.and_eq_true] at h
          obtain ⟨rs, rfl⟩ := ih h.2
          have h1 := h.1
          cases y with
          | tup ds =>
            simp only [D.isTup, D.its, Bool.true_and] at h1
            cases e : intsOf ds with
            | none => rw [e] at h1; cases h1
            | some ns => exact ⟨ns :: rs, by rw [intsOf_map e]; rfl⟩
          | _ => simp [D.isTup] at h1
      obtain ⟨rs, rfl⟩ := go ys h2
      refine .inr ⟨rs, rfl, by simpa using h1, fun z => ?_, h3, rfl⟩
      subst z
      cases e
theorem cr_sortS (hc : X.calm = true) (hu : X.A.units + 64 < cLine) : CallR X (.builtin "sorted") (fun vs H Q => rSortedSet X.w vs H Q ∨ ∃ (W : Wd) (st : Store) (p : Addr) (L : List (Addr × List Int)) (rs : List (List Int)), vs = [.ref p] ∧ Ag X.K X.w cls W st H ∧ H p = some (SetTO X.prog X.w p L) ∧ (∀ q ∈ L, SqT X.K H q.1 (q.2.map V.int)) ∧ (∀ q ∈ L, Rep X.K W (.ref q.1) (rw_ q.2)) ∧
    (L.map (·.2)).Perm rs ∧ rs ≠ [] ∧ riseD (rs.map rw_) = true ∧ Aft X.K X.w cls U (Rep X.K) W H (.ok (.lst (rs.map rw_)) st) Q) := by
  intro pins s σ H vs us Q I rv h
  rcases h with h | h
  · exact cr_sortedSet hc pins s σ H vs us Q I rv h
  · exact cr_sortTT hc hu pins s σ H vs us Q I rv h
theorem riseD_nodup : ∀ {rs : List (List Int)}, riseD (rs.map rw_) = true → rs.Nodup
  | [], _ => List.nodup_nil
  | r :: rs, h => by
    rw [List.map_cons, riseD, Bool.and_eq_true] at h
    refine List.nodup_cons.mpr ⟨fun hm => ?_, riseD_nodup h.2⟩
    have h1 := List.all_eq_true.mp h.1 (rw_ r) (List.mem_map.mpr ⟨r, hm, rfl⟩)
    rw [lt_ints] at h1
    have h2 := leP_total.refl (rw_ r)
    rw [h2] at h1
    cases h1
theorem g_srtS {p p2 cpos : Pos} (hc : X.calm = true) (hu : X.A.units + 64 < cLine) (ho : Good X cls U C a i) (hs : starEach [a] X.env = (false, eval a X.env) :: starEach [] X.env) (hg : Gl X "sorted") (hm : X.mg "sorted" = none) (hg2 : Gl X "set") (hm2 : X.mg "set" = none) :
    Good X cls U C (.Call (.Name "sorted" p) [.Call (.Name "set" p2) [a] [] cpos] [] pos) (.blt .srtS (.cons i .nil)) := by
  refine good_val (PE.mono (pe_callB (cr_sortS (cls := cls) (U := U) hc hu) hg hm (by decide +kernel) (pa_cons (pe_callTy (cr_setD (cls := cls) hc hu) hg2 hm2 (by decide +kernel) (pa_cons ho.pe pa_nil hs) (by decide) (by decide) hs rfl) pa_nil rfl) (by decide) (by decide) rfl rfl) fun σ H Q h => ?_) fun _ => rfl
  obtain ⟨W, env, st, he, A, q⟩ := h
  rw [evE, evEs, R.bind_assoc] at q
  refine ⟨W, env, st, he, A, (q.bind).mono fun x H1 ⟨W1, st1, d, x1, A1, r1, q1⟩ => ?_⟩
  rw [evEs] at q1
  simp only [R.bind_ok] at q1
  cases d with
  | tup ys =>
    simp only [bltD] at q1
    cases e : srtSet ys with
    | none => rw [e] at q1; exact q1.elim
    | some zs =>
      rw [e] at q1
      simp only [R.of, R.bind_ok] at q1
      rcases srtSet_cases e with ⟨ns, rfl, hl, rfl⟩ | ⟨rs, rfl, hl, hne, hri, rfl⟩
      · refine ⟨W1, st1, x, _, rfl, A1, r1, .inl ⟨ns, rfl, hl, fun a c ha hcl => .inl ⟨a, _, c, rfl, upd_same, by omega, fun ms p h1 h2 h3 hp => ?_⟩⟩⟩
        obtain ⟨f1, f2⟩ := A1.fresh ha
        have em : ms = ssetI ns := rise_uniqueI h1 (ssetI_ok ns).1 fun k => by rw [h2, (ssetI_ok ns).2, decide_eq_true_eq]
        subst em
        exact Aft.lstQ (A1.aside f1 f2 (.inl ha)) (Aft.shift ((Ext.refl W1 H1).aside ha) q1) p _ hp (RepL.ints _) (by rw [List.length_map, h3, sizeLine_eq]; omega)
      · refine ⟨W1, st1, x, _, rfl, A1, r1, .inr ⟨rs, rfl, hl, fun a L ha k1 k2 m1 m2 nd => .inr ⟨W1, st1, a, L, rs, rfl, ?_, upd_same, ?_, k2, ?_, hne, hri, Aft.shift ((Ext.refl W1 H1).aside ha) q1⟩⟩⟩
        · obtain ⟨f1, f2⟩ := A1.fresh ha
          exact A1.aside f1 f2 (.inl ha)
        · intro q hq
          obtain ⟨b, us, xs, e1, g, z, l⟩ := Rep.tup_inv (k2 q hq)
          cases e1
          have e2 := repL_ints l
          subst e2
          obtain ⟨f1, f2⟩ := A1.fresh ha
          exact SqT_ft ((A1.aside f1 f2 (.inl ha)).sub _ _ g)
        · exact (List.perm_ext_iff_of_nodup nd (riseD_nodup hri)).mpr fun r => ⟨fun hr => by
            obtain ⟨q, hq, rfl⟩ := List.mem_map.mp hr
            exact m1 q hq, m2 r⟩
  | _ => simp only [bltD] at q1; exact q1.elim
end
end EV
/-! EvSr: list.remove of ints. -/
namespace EV
open PySem PySem.Spec PyProof.Rows L2
theorem erase_at : ∀ {ns : List Int} {k : Int}, k ∈ ns → ∃ j : Nat, ns[j]? = some k ∧ (∀ m : Nat, m < j → ns[m]? ≠ some k) ∧ ns.eraseIdx j = ns.erase k
  | n :: ns, k, h => by
    by_cases e : n = k
    · subst e
      exact ⟨0, rfl, fun m hm => absurd hm (Nat.not_lt_zero _), by simp⟩
    · have h2 : k ∈ ns := by
        rcases List.mem_cons.mp h with z | z
        · exact absurd z.symm e
        · exact z
      obtain ⟨j, h3, h4, h5⟩ := erase_at h2
      refine ⟨j + 1, by simpa using h3, fun m hm => ?_, ?_⟩
      · cases m with
        | zero => simpa using e
        | succ m => simpa using h4 m (by omega)
      · rw [List.eraseIdx_cons_succ, h5, List.erase_cons_tail (by simpa using e)]
theorem repLI {K : PySem.W.Frag} {W : Wd} : ∀ {ns : List Int} {xs : List V}, RepL K W xs (ns.map D.int) → xs = ns.map V.int
  | [], _, .nil => rfl
  | n :: ns, _, .cons r t => by
    rw [repLI t]
    cases r
    rfl
theorem intsOfM : ∀ {ds : List D} {ns : List Int}, intsOf ds = some ns → ds = ns.map D.int := @intsOf_map
section
variable {X : Cx} {cls : Cl} {U : XW}
theorem md_remove : MtR X "list.remove" (rM X cls U .remove) := by
  intro pins s σ H x xs v us Q I rx rs h
  obtain ⟨W, st, dx, ds, A, r1, rl, q⟩ := h
  unfold mthD at q
  split at q <;> try contradiction
  · rename_i i k _
    obtain ⟨w, rfl, r2⟩ := rl.one_inv
    obtain ⟨a, e1, ha⟩ := r1.ref_inv
    obtain ⟨o, ho, oa⟩ := A.at ha
    simp only [ho] at q
    cases o with
    | lst ys =>
      simp only at q
      cases e : intsOf ys with
      | none => simp only [e] at q; exact q.elim
      | some ns =>
        simp only [e] at q
        obtain ⟨hb, q⟩ := Aft.test q
        rw [decide_eq_true_eq] at hb
        obtain ⟨zs, hx, l, z⟩ := oa
        have ey := intsOfM e
        subst ey
        have ez := repLI l
        subst ez
        obtain ⟨j, j1, j2, j3⟩ := erase_at hb
        refine mt_remove pins s σ H x _ v us Q I rx rs ⟨a, ns, k, j, e1, by rw [r2.int_inv], hx, j1, j2, ?_⟩
        rw [j3]
        obtain ⟨A', x'⟩ := A.setObj (H' := upd H a (.lst ((ns.erase k).map V.int))) (o := .lst ((ns.erase k).map D.int)) ha (fun b hb => upd_ne hb) ⟨_, upd_same, RepL.ints _, by
          have := (List.erase_sublist (a := k) (l := ns)).length_le
          rw [List.length_map] at z ⊢
          omega⟩ (fun _ _ z => by rw [hx] at z; cases z)
        exact q _ _ _ x' A' .non
    | _ => exact q.elim
end
end EV
/-! EvN: from the model's syntax to the small language: expressions. -/
namespace EV
open PySem PySem.Spec PyProof.Rows L2

def mapO {α β : Type} (f : α → Option β) : List α → Option (List β)
  | [] => some []
  | x :: xs => match f x, mapO f xs with
    | some y, some ys => some (y :: ys)
    | _, _ => none
def guardO {α : Type} (b : Bool) (x : Option α) : Option α := match b with
  | true => x
  | false => none
theorem guardO_some {α : Type} {b : Bool} {x : Option α} {y : α} (h : guardO b x = some y) : b = true ∧ x = some y := by
  cases b with
  | true => exact ⟨rfl, h⟩
  | false => cases h
/-- a global's literal -/
inductive Lt where
  | i (n : Int) | s (z : Str)
def Lt.d : Lt → D
  | .i n => .int n
  | .s z => .str z
def Lt.At (o : Option Value) : Lt → Prop
  | .i n => ∃ t, o = some (.int n t)
  | .s z => ∃ t, o = some (.str z t)
/-- what is known ahead: the slots' names, own defs by name, the names of built-in things that are not bound -/
structure Tab where
  N : List Str
  fn : List (Str × Nat)
  free : List Str
  nums : List (Str × Lt)
  dk : List Str
  cs : List (Str × Nat)
  mts : List Str
  fds : List Str
  exc : List (Str × Nat)
  lam : Bool
  lx : Bool
  gd : Bool
  gn : List Str
def Tab.noL (T : Tab) : Tab := { T with lam := false, lx := false, gd := false }
/-- what is known where the law's told may be called with a lambda -/
def LamOk (X : Cx) (cls : Cl) (xa : Nat → Addr) (C : Ctx) (T : Tab) : Prop :=
  ∃ (g c P CS : Addr) (L l : Nat) (pg : Arguments) (fd : FuncData), X.mg "_law_told" = some (.ref g) ∧ FunD X.K "_law_told" "_law_told" pg (toldBody l) toldScope [] [] g fd ∧ Binds X.K fd ["deed"] [] ∧ (∀ k, k < 3 → X.mg (excNm.getD k "") = some (.ref (xa k))) ∧
    X.mg "isinstance" = none ∧ X.mg "ValueError" = none ∧ X.mg "DiceError" = some (.ref CS) ∧ ExK X.K xa CS ∧ LamX.TabB X.base X.mg c P ∧ X.env.code = .ref c ∧ (P, X.env.qual ++ "<lambda>") ∈ cls.T ∧ (∀ p ∈ cls.T, p.1 = P → p.2 = X.env.qual ++ "<lambda>") ∧ Room (L + 2) X.A ∧
    (∀ x f, T.fn.lookup x = some f → T.gn.contains x = false → ∃ n fa fd ps, n ≤ L ∧ FnOk X.prog X.w X.K X.mg X.base (L2.CX X.prog X.w) n fa fd ps (spD X.K X.w cls xa (C.call f)) ∧ X.mg x = some (.ref fa) ∧ PySem.W.keepIn X.K (.ref fa) = true ∧ Binds X.K fd ps []) ∧
    (∀ x c, T.cs.lookup x = some c → ∃ CA f n fa fd ps, n + 1 ≤ L ∧ cls c = some CA ∧ C.init c = some f ∧ Mk X.K CA fa ∧ FnOk X.prog X.w X.K X.mg X.base (L2.CX X.prog X.w) n fa fd ps (spD X.K X.w cls xa (C.call f)) ∧ X.mg x = some (.ref CA) ∧ Binds X.K fd ps []) ∧
    ∀ m, T.mts.contains m = true → ∀ c CA f, cls c = some CA → C.meth c m = some f → ∃ n fa fd ps, n ≤ L ∧ Cls X.K CA ∧ Meth X.K CA m fa ∧ FnOk X.prog X.w X.K X.mg X.base (L2.CX X.prog X.w) n fa fd ps (spD X.K X.w cls xa (C.call f)) ∧ Binds X.K fd ps []
structure TabOk (X : Cx) (cls : Cl) (xa : Nat → Addr) (C : Ctx) (T : Tab) : Prop where
  N : X.N = T.N
  nd : X.N.Nodup
  hu : X.A.units + 64 < cLine
  calm : X.calm = true
  lib : ∀ X' : Cx, X'.calm = true → X'.A.units + 64 < cLine → Lib X' cls
  fns : ∀ x f, T.fn.lookup x = some f → T.gn.contains x = false → ∃ n fa fd ps, FnOk X.prog X.w X.K X.mg X.base (L2.CX X.prog X.w) n fa fd ps (spD X.K X.w cls xa (C.call f)) ∧ Room n X.A ∧ X.mg x = some (.ref fa) ∧ PySem.W.keepIn X.K (.ref fa) = true ∧ Binds X.K fd ps []
  free : ∀ x, T.free.contains x = true → X.mg x = none
  mks : ∀ x c, T.cs.lookup x = some c → ∃ CA f n fa fd ps, cls c = some CA ∧ C.init c = some f ∧ Mk X.K CA fa ∧ FnOk X.prog X.w X.K X.mg X.base (L2.CX X.prog X.w) n fa fd ps (spD X.K X.w cls xa (C.call f)) ∧ Room (n + 1) X.A ∧ X.mg x = some (.ref CA) ∧ Binds X.K fd ps []
  mtd : ∀ m, T.mts.contains m = true → MtdOk X cls C xa m
  fds : ∀ f, T.fds.contains f = true → ClsOk X.K cls f
  nums : ∀ x i, T.nums.lookup x = some i → Lt.At (X.mg x) i
  exc : ∀ x k, T.exc.lookup x = some k → X.mg x = some (.ref (xa k)) ∧ PySem.W.excIn X.K (xa k) He.veBase "ValueError.__new__" = true ∧ PySem.W.keepIn X.K (.ref (xa k)) = true ∧ PySem.W.subIn X.K (.ref (xa k)) (.type "BaseException") = some true ∧ PySem.W.typeIn X.K (.ref (xa k)) = some (.type "type")
  lam : T.lam = true → LamOk X cls xa C T
  lx : T.lx = true → X.stack = X.env :: X.outer ∧ X.env.frame = some X.env.locals
  gdk : T.gd = true → X.A.guards = some [] ∧ ∀ x f, T.fn.lookup x = some f → ∃ n fa fd ps, EVG.FnG X.prog X.w X.K X.mg X.base (L2.CX X.prog X.w) n fa fd ps (spD X.K X.w cls xa (C.call f)) ∧ Room n X.A ∧ X.mg x = some (.ref fa) ∧ PySem.W.keepIn X.K (.ref fa) = true ∧ Binds X.K fd ps []
structure Pre (X : Cx) (cls : Cl) (xa : Nat → Addr) (U : XW) (C : Ctx) (T : Tab) (sc : Scope) : Prop where
  tb : TabOk X cls xa C T
  sc : X.env.scope = sc
  tk : Takes X (fun c d _ H => wU xa U c d H)
abbrev Rec := Scope → Expr → Option E
def RecOk (cls : Cl) (xa : Nat → Addr) (C : Ctx) (T : Tab) (rec : Rec) : Prop := ∀ X U sc e i, Pre X cls xa U C T sc → rec sc e = some i → Good X cls U C e i
/-- a comprehension's scope as it runs -/
def relS (scope sc : Scope) : Scope := relabel scope (envOfC "" sc 0 0 .none)
/-! ### names -/
def nmC (N : List Str) (sc : Scope) (fnb : Str → Bool) (x : Str) : Option Nat :=
  guardO (decide (N[N.idxOf x]? = some x) && (decide (sc.names.lookup x = some .local) || (decide (sc.names.lookup x = some .cell) && fnb x))) (some (N.idxOf x))
def nmsC (N : List Str) (sc : Scope) (fnb : Str → Bool) : List Expr → Option (List Nat)
  | [] => some []
  | .Name x _ :: es => match nmC N sc fnb x, nmsC N sc fnb es with
    | some i, some is => some (i :: is)
    | _, _ => none
  | _ => none
def tgC (N : List Str) (sc : Scope) (fnb : Str → Bool) : Expr → Option Tg
  | .Name x _ => (nmC N sc fnb x).map .one
  | .Tuple es _ _ => (nmsC N sc fnb es).map .many
  | _ => none
def visC (sc : Scope) (x : Str) : Bool := decide (sc.names.lookup x = some .local) || decide (sc.names.lookup x = some .cell) || decide (sc.names.lookup x = some .free)
def glC (sc : Scope) (x : Str) : Bool := decide (sc.names.lookup x = some .globalImplicit)
def conC : Const → Option D
  | .none => some .non
  | .bool b => some (.bl b)
  | .int i => some (.int i)
  | .str s => some (.str s)
  | _ => none
def cName (T : Tab) (sc : Scope) (x : Str) : Option E := match glC sc x with
  | false => guardO (decide (T.N[T.N.idxOf x]? = some x) && visC sc x && !(x == ("__debug__" : Str)) && !(x == ("__classdict__" : Str))) (some (.var (T.N.idxOf x)))
  | true => guardO (!(x == ("__debug__" : Str))) ((T.nums.lookup x).map fun i => .con i.d)
/-! ### forms -/
def cUn (rec : Rec) (sc : Scope) : UnaryOp → Expr → Option E
  | .USub, a => (rec sc a).map .neg
  | .Not, a => (rec sc a).map .not
  | _, _ => none
def cCmp (rec : Rec) (sc : Scope) (a : Expr) : List CmpOp → List Expr → Option E
  | [op], [b] => guardO (!behindInMarks op b) (match rec sc a, rec sc b with
    | some i, some j => some (.cmp op i j)
    | _, _ => none)
  | [o1, o2], [b, c] => guardO (!behindInMarks o2 c) (match rec sc a, rec sc b, rec sc c with
    | some i, some j, some k => some (.chn o1 o2 i j k)
    | _, _, _ => none)
  | _, _ => none
def cBool (rec : Rec) (sc : Scope) : BoolOp → List Expr → Option E
  | .And, a :: es => match rec sc a, mapO (rec sc) es with
    | some i, some is => some (andsI i is)
    | _, _ => none
  | .Or, a :: es => match rec sc a, mapO (rec sc) es with
    | some i, some is => some (orsI i is)
    | _, _ => none
  | _, _ => none
def cPo (rec : Rec) (sc : Scope) : Option Expr → Option Po
  | none => some .no
  | some e => (rec sc e).map .is
def cSub (rec : Rec) (sc : Scope) (a : Expr) : Expr → Option E
  | .Slice lo hi none _ => match rec sc a, cPo rec sc lo, cPo rec sc hi with
    | some i, some l, some h => some (.sli i l h)
    | _, _, _ => none
  | .Slice none none (some (.UnaryOp .USub (.Constant (.int 1) _ _) _)) _ => (rec sc a).map .rev
  | .Slice lo hi (some c) _ => match rec sc a, cPo rec sc lo, cPo rec sc hi, rec sc c with
    | some i, some l, some h, some k => some (.stp i l h k)
    | _, _, _, _ => none
  | b => guardO (notSlice b) (match rec sc a, rec sc b with
    | some i, some j => some (.idx i j)
    | _, _ => none)
def notSet : Expr → Bool
  | .Set _ _ _ => false
  | _ => true
/-- what a for walks -/
def cIt (T : Tab) (rec : Rec) (sc : Scope) : Expr → Option It
  | .Call (.Name x p) [a] [] q => match (x == ("range" : Str)) with
    | true => guardO (glC sc x && T.free.contains x && noStar a) ((rec sc a).map .rng1)
    | false => match (x == ("enumerate" : Str)) with
      | true => guardO (glC sc x && T.free.contains x && noStar a) ((rec sc a).map .enum)
      | false => (rec sc (.Call (.Name x p) [a] [] q)).map .seq
  | .Call (.Name x p) [a, b] [] q => match (x == ("range" : Str)) with
    | true => guardO (glC sc x && T.free.contains x && noStar a && noStar b) (match rec sc a, rec sc b with
      | some i, some j => some (.rng2 i j)
      | _, _ => none)
    | false => match (x == ("zip" : Str)) with
      | true => guardO (glC sc x && T.free.contains x && noStar a && noStar b) (match rec sc a, rec sc b with
        | some i, some j => some (.zip i j)
        | _, _ => none)
      | false => (rec sc (.Call (.Name x p) [a, b] [] q)).map .seq
  | .Call (.Name x p) [a, b, c] [] q => match (x == ("range" : Str)) with
    | true => guardO (glC sc x && T.free.contains x && noStar a && noStar b && noStar c) (match rec sc a, rec sc b, rec sc c with
      | some i, some j, some k => some (.rng3 i j k)
      | _, _, _ => none)
    | false => (rec sc (.Call (.Name x p) [a, b, c] [] q)).map .seq
  | e => (rec sc e).map .seq
/-- its items are new pairs -/
def It.pair : It → Bool
  | .enum _ => true
  | .zip _ _ => true
  | .items _ => true
  | _ => false
def Tg.isMany : Tg → Bool
  | .many _ => true
  | _ => false
def cCond (rec : Rec) (sc : Scope) : List Expr → Option E
  | [] => some (.con (.bl true))
  | [c] => rec sc c
  | _ => none
def ownC (N : List Str) (scope : Scope) : List (Str × Nat) := (scope.names.filter fun y => (y.2 == .local || y.2 == .cell) && N.contains y.1).map fun y => (y.1, N.idxOf y.1)
def Tg.slotsIn (t : Tg) (own : List (Str × Nat)) : Bool := t.slots.all fun s => (own.map (·.2)).contains s
def cLc (T : Tab) (rec : Rec) (sc : Scope) (m : Bool) (elt : Expr) (scope : Scope) : List Comprehension → Option E
  | [⟨tg, iter, ifs, 0⟩] =>
    match tgC T.N (relS scope sc) (fun x => scope.names.lookup x == some .cell) tg, cIt T rec sc iter, cCond rec (relS scope sc) ifs, rec (relS scope sc) elt with
    | some t, some it, some c, some e => guardO (!T.lx && (notSet iter && blkC T.N sc scope (ownC T.N scope) && t.slotsIn (ownC T.N scope) && (!it.pair || t.isMany))) (some (.lc m ((ownC T.N scope).map (·.2)) t it c e))
    | _, _, _, _ => none
  | _ => none
/-- a comprehension that may raise -/
def cLcX (T : Tab) (rec recL : Rec) (sc : Scope) (elt : Expr) (scope : Scope) : List Comprehension → Option E
  | [⟨tg, iter, ifs, 0⟩] =>
    match tgC T.N (relS scope sc) (fun x => scope.names.lookup x == some .cell) tg, cIt T rec sc iter, cCond recL (relS scope sc) ifs, recL (relS scope sc) elt with
    | some t, some it, some c, some e => guardO (T.lx && (notSet iter && blkC T.N sc scope (ownC T.N scope) && t.slotsIn (ownC T.N scope) && (!it.pair || t.isMany))) (some (.lcx ((ownC T.N scope).map (·.2)) t it c e))
    | _, _, _, _ => none
  | _ => none
/-- a comprehension over the keys of a dict -/
def cLcK (T : Tab) (rec : Rec) (sc : Scope) (elt : Expr) (scope : Scope) : List Comprehension → Option E
  | [⟨tg, .Name y p, ifs, 0⟩] => match T.dk.contains y with
    | true => match tgC T.N (relS scope sc) (fun x => scope.names.lookup x == some .cell) tg, rec sc (.Name y p), cCond rec (relS scope sc) ifs, rec (relS scope sc) elt with
      | some t, some i, some c, some e => guardO (!T.lx && (blkC T.N sc scope (ownC T.N scope) && t.slotsIn (ownC T.N scope))) (some (.lc false ((ownC T.N scope).map (·.2)) t (.keys i) c e))
      | _, _, _, _ => none
    | false => none
  | _ => none
/-! ### calls -/
def Blt.nm : Blt → Str
  | .len => "len" | .sum => "sum" | .any => "any" | .all => "all" | .sorted => "sorted" | .tuple => "tuple" | .list => "list" | .int => "int" | .str => "str" | .abs => "abs" | .min2 => "min" | .max2 => "max" | .max1 => "max"
  | .tupRange => "" | .isT _ => "" | .srtI => "" | .srtS => "" | .repr => "" | .dict => "dict" | .listN => ""
def Blt.ar : Blt → Nat
  | .min2 => 2 | .max2 => 2 | .tupRange => 0 | .isT _ => 0 | .srtI => 0 | .srtS => 0 | .repr => 0 | .listN => 0 | _ => 1
def bltAll : List Blt := [.len, .sum, .any, .all, .sorted, .tuple, .list, .int, .str, .abs, .min2, .max2, .max1, .dict]
def kdOf (x : Str) : Option Kd := if (x == ("int" : Str)) = true then some .int else if (x == ("bool" : Str)) = true then some .bl else if (x == ("str" : Str)) = true then some .str else if (x == ("tuple" : Str)) = true then some .tup
  else if (x == ("list" : Str)) = true then some .lst else if (x == ("dict" : Str)) = true then some .dic else none
def cIsT (T : Tab) (rec : Rec) (sc : Scope) : List Expr → Option E
  | [a, .Name x _] => match kdOf x, rec sc a with
    | some t, some i => guardO (glC sc "isinstance" && T.free.contains "isinstance" && glC sc x && T.free.contains x && noStar a) (some (.blt (.isT t) (.cons i .nil)))
    | _, _ => none
  | _ => none
def cBlt (T : Tab) (rec : Rec) (sc : Scope) (x : Str) (es : List Expr) : Option E :=
  match bltAll.find? fun b => (b.nm == x && b.ar == es.length) with
  | none => none
  | some b => match mapO (rec sc) es with
    | some is => guardO (glC sc x && T.free.contains x && es.all noStar) (some (.blt b (listEs is)))
    | none => none
/-- sorted(d.items()) -/
def cSrtI (T : Tab) (rec : Rec) (sc : Scope) (x : Str) : List Expr → Option E
  | [.Call (.Attribute a m apos) [] [] cpos] => match (x == ("sorted" : Str) && m == ("items" : Str)) with
    | true => guardO (glC sc "sorted" && T.free.contains "sorted" && notSup a && (apos.endLine == cpos.line)) ((rec sc a).map fun i => .blt .srtI (.cons i .nil))
    | false => cBlt T rec sc x [.Call (.Attribute a m apos) [] [] cpos]
  | es => cBlt T rec sc x es
/-- sorted(set(t)) -/
def cSrtS (T : Tab) (rec : Rec) (sc : Scope) (x : Str) : List Expr → Option E
  | [.Call (.Name y p) [a] [] q] => match (x == ("sorted" : Str) && y == ("set" : Str)) with
    | true => guardO (glC sc "sorted" && T.free.contains "sorted" && glC sc "set" && T.free.contains "set" && noStar a) ((rec sc a).map fun i => .blt .srtS (.cons i .nil))
    | false => cSrtI T rec sc x [.Call (.Name y p) [a] [] q]
  | es => cSrtI T rec sc x es
/-- tuple(range(n)) -/
def cTupR (T : Tab) (rec : Rec) (sc : Scope) (x : Str) : List Expr → Option E
  | [.Call (.Name y p) [a] [] q] => match (x == ("tuple" : Str) && y == ("range" : Str)) with
    | true => guardO (glC sc "tuple" && T.free.contains "tuple" && glC sc "range" && T.free.contains "range" && noStar a) ((rec sc a).map fun i => .blt .tupRange (.cons i .nil))
    | false => cSrtS T rec sc x [.Call (.Name y p) [a] [] q]
  | es => cSrtS T rec sc x es
/-- repr(e) -/
def cRepr (T : Tab) (rec : Rec) (sc : Scope) (x : Str) : List Expr → Option E
  | [a] => match (x == ("repr" : Str)) with
    | true => guardO (T.gd && glC sc "repr" && T.free.contains "repr" && noStar a) ((rec sc a).map fun i => .blt .repr (.cons i .nil))
    | false => cTupR T rec sc x [a]
  | es => cTupR T rec sc x es
def cCall (T : Tab) (rec : Rec) (sc : Scope) (x : Str) (es : List Expr) : Option E :=
  match T.fn.lookup x with
  | some f => match mapO (rec sc) es with
    | some is => guardO (glC sc x && es.all noStar && !(x == ("__debug__" : Str)) && (!T.gn.contains x || (T.gd && !es.isEmpty))) (some (.call f (listEs is)))
    | none => none
  | none => match T.cs.lookup x with
    | some c => match mapO (rec sc) es with
      | some is => guardO (glC sc x && es.all noStar && !(x == ("__debug__" : Str))) (some (.make c (listEs is)))
      | none => none
    | none => match (x == ("isinstance" : Str)) with
      | true => cIsT T rec sc es
      | false => cRepr T rec sc x es
def Mth.nm : Mth → Str
  | .count => "count" | .split => "split" | .join => "join" | .get2 => "get" | .append => "append" | .extend => "extend" | .pop => "pop" | .items => "" | .update => "update" | .replace => "" | .remove => "remove"
def mthAll : List Mth := [.count, .split, .join, .get2, .append, .extend, .pop, .update, .remove]
def cMth (T : Tab) (rec : Rec) (sc : Scope) (o : Expr) (name : Str) (apos : Pos) (es : List Expr) (pos : Pos) : Option E :=
  match T.mts.contains name with
  | true => match rec sc o, mapO (rec sc) es with
    | some i, some is => guardO (es.all noStar && decide (es.length < 29) && notSup o && (apos.endLine == pos.line)) (some (.meth name i (listEs is)))
    | _, _ => none
  | false => match mthAll.find? fun m => m.nm == name with
    | some m => match rec sc o, mapO (rec sc) es with
      | some i, some is => guardO (es.all noStar && decide (es.length < 29) && notSup o && (apos.endLine == pos.line)) (some (.mth m i (listEs is)))
      | _, _ => none
    | none => none
/-- a[k].replace(y, z) -/
def cMthR (T : Tab) (rec : Rec) (sc : Scope) (o : Expr) (name : Str) (apos : Pos) (es : List Expr) (pos : Pos) : Option E := match o, es with
  | .Subscript a (.Constant (.int k) _ _) _, [.Constant (.str y) _ _, .Constant (.str z) _ _] => match (name == ("replace" : Str)) with
    | true => guardO (!(y == z) && (apos.endLine == pos.line)) ((rec sc a).map fun i => .mth .replace (.idx i (.con (.int k))) (.cons (.con (.str y)) (.cons (.con (.str z)) .nil)))
    | false => cMth T rec sc o name apos es pos
  | _, _ => cMth T rec sc o name apos es pos
def someAll : List (Option Expr) → Option (List Expr)
  | [] => some []
  | some e :: r => (someAll r).map (e :: ·)
  | none :: _ => none
def cDct (rec : Rec) (sc : Scope) (ks : List (Option Expr)) (vs : List Expr) : Option E := match someAll ks with
  | none => none
  | some es => match mapO (rec sc) es, mapO (rec sc) vs with
    | some is, some js => guardO (decide (es.length = vs.length) && decide (es.length ≤ 15)) (some (.dct (listEs (ilv is js))))
    | _, _ => none
def noArgsB : Arguments → Bool
  | ⟨[], [], none, [], [], none, []⟩ => true
  | _ => false
/-- the law's told(lambda: e); a call -/
def cCallT (T : Tab) (rec recL : Rec) (sc : Scope) (x : Str) : List Expr → Option E
  | [.Lambda a b s _] => guardO (x == ("_law_told" : Str) && T.lam && glC sc x && noArgsB a && LamX.lamSB sc s) ((recL s b).map .told)
  | es => cCall T rec sc x es
def stepE (T : Tab) (rec recL : Rec) (sc : Scope) : Expr → Option E
  | .Name x _ => cName T sc x
  | .Constant c _ _ => (conC c).map .con
  | .BinOp a op b _ => match rec sc a, rec sc b with
    | some i, some j => some (.bin op i j)
    | _, _ => none
  | .UnaryOp op a _ => cUn rec sc op a
  | .Compare a ops bs _ => cCmp rec sc a ops bs
  | .BoolOp op es _ => cBool rec sc op es
  | .Tuple es _ _ => guardO (es.all noStar) ((mapO (rec sc) es).map fun is => .tup (listEs is))
  | .List es _ => guardO (es.all noStar) ((mapO (rec sc) es).map fun is => .lst (listEs is))
  | .Subscript a b _ => cSub rec sc a b
  | .Dict ks vs _ => cDct rec sc ks vs
  | .ListComp elt gs scope _ => match cLcX T rec recL sc elt scope gs with
    | some i => some i
    | none => match cLcK T rec sc elt scope gs with
      | some i => some i
      | none => cLc T rec sc false elt scope gs
  | .Attribute o f _ => guardO (T.fds.contains f && notSup o) ((rec sc o).map fun i => .fld i f)
  | .Call (.Name x _) es [] _ => cCallT T rec recL sc x es
  | .Call (.Attribute o name apos) es [] pos => cMthR T rec sc o name apos es pos
  | _ => none
def cEL (recL : Rec) (T : Tab) : Nat → Rec
  | 0, _, _ => none
  | n + 1, sc, e => stepE T (cEL recL T n) recL sc e
def cE (T : Tab) (n : Nat) : Rec := cEL (cEL (fun _ _ => none) T.noL n) T n
end EV
/-! EvO: what EvN makes is sound: expressions. -/
namespace EV
open PySem PySem.Spec PyProof.Rows L2

section
variable {X : Cx} {cls : Cl} {xa : Nat → Addr} {U : XW} {C : Ctx} {T : Tab} {sc : Scope} {rec : Rec} {a b c : Expr} {i j k : E} {pos : Pos}
theorem goods_of (h : RecOk cls xa C T rec) (p : Pre X cls xa U C T sc) : ∀ {es : List Expr} {is : List E}, mapO (rec sc) es = some is → Goods X cls U C es is
  | [], is, e => by cases e; exact .nil
  | x :: xs, is, e => by
    rw [mapO] at e
    split at e
    · rename_i y ys h1 h2
      cases e
      exact .cons (h X U sc x y p h1) (goods_of h p h2)
    · cases e
theorem mapO_length {α β : Type} {f : α → Option β} : ∀ {xs : List α} {ys : List β}, mapO f xs = some ys → xs.length = ys.length
  | [], ys, e => by cases e; rfl
  | x :: xs, ys, e => by
    rw [mapO] at e
    split at e
    · rename_i y zs h1 h2
      cases e
      simp [mapO_length h2]
    · cases e
theorem gl_of (p : Pre X cls xa U C T sc) {x : Str} (h : glC sc x = true) : Gl X x := by
  rw [← p.sc] at h
  exact (of_decide_eq_true h : X.env.scope.names.lookup x = some .globalImplicit)
theorem nmC_ok {fnb : Str → Bool} (hN : X.N = T.N) (hsc : X.env.scope = sc) (hf : ∀ x, fnb x = true → X.fn x = true) {x : Str} {n : Nat} (h : nmC T.N sc fnb x = some n) : NmOk X x n := by
  obtain ⟨h1, h2⟩ := guardO_some h
  cases h2
  simp only [Bool.and_eq_true, Bool.or_eq_true, decide_eq_true_eq] at h1
  rw [← hsc, ← hN] at h1
  refine ⟨by rw [← hN]; exact h1.1, h1.2.imp id (·.1), ?_⟩
  rcases h1.2 with z | z
  · exact .inr z
  · exact .inl (hf x z.2)
theorem nmsC_ok {fnb : Str → Bool} (hN : X.N = T.N) (hsc : X.env.scope = sc) (hf : ∀ x, fnb x = true → X.fn x = true) : ∀ {es : List Expr} {is : List Nat}, nmsC T.N sc fnb es = some is → NmsOk X es is
  | [], is, e => by cases e; exact .nil
  | x :: xs, is, e => by
    unfold nmsC at e
    split at e
    · cases e; rename_i h; cases h
    · rename_i h
      cases h
      split at e
      · rename_i h1 h2
        cases e
        exact .cons (nmC_ok hN hsc hf h1) (nmsC_ok hN hsc hf h2)
      · cases e
    · cases e
theorem tgC_ok {fnb : Str → Bool} (hN : X.N = T.N) (hsc : X.env.scope = sc) (hf : ∀ x, fnb x = true → X.fn x = true) {tg : Expr} {t : Tg} (h : tgC T.N sc fnb tg = some t) : TgOk X tg t := by
  unfold tgC at h
  split at h
  · cases e : nmC T.N sc fnb ‹_› with
    | none => rw [e] at h; cases h
    | some n => rw [e] at h; cases h; exact .one (nmC_ok hN hsc hf e)
  · cases e : nmsC T.N sc fnb ‹_› with
    | none => rw [e] at h; cases h
    | some n => rw [e] at h; cases h; exact .many (nmsC_ok hN hsc hf e)
  · cases h
theorem o_name {x : Str} (p : Pre X cls xa U C T sc) (h : cName T sc x = some i) : Good X cls U C (.Name x pos) i := by
  unfold cName at h
  split at h
  · obtain ⟨h1, h2⟩ := guardO_some h
    cases h2
    simp only [Bool.and_eq_true, decide_eq_true_eq, Bool.not_eq_true'] at h1
    have hv := h1.1.1.2
    rw [← p.sc] at hv
    simp only [visC, Bool.or_eq_true, decide_eq_true_eq] at hv
    refine good_val (d_var (by rw [p.tb.N]; exact h1.1.1.1) (hv.elim (fun q => q.elim .inl fun z => .inr (.inl z)) fun z => .inr (.inr z)) h1.1.2 h1.2 C) fun _ => rfl
  · rename_i hg
    obtain ⟨h1, h2⟩ := guardO_some h
    cases e : T.nums.lookup x with
    | none => rw [e] at h2; cases h2
    | some n =>
      rw [e] at h2
      cases h2
      have hn := p.tb.nums x n e
      cases n with
      | i n =>
        obtain ⟨t, hm⟩ := hn
        have pe : PE X (.Name x pos) (tC (.int n)) := ⟨fun pins s σ H Q I q => ld_glob I (gl_of p hg) hm ⟨.int n, H, I, ⟨t, rfl⟩, q⟩ (by simpa using h1)⟩
        exact good_val (d_con pe (fun _ => .int _) C) fun _ => rfl
      | s z =>
        obtain ⟨t, hm⟩ := hn
        have pe : PE X (.Name x pos) (tC (.str z)) := ⟨fun pins s σ H Q I q => ld_glob I (gl_of p hg) hm ⟨.str z, H, I, ⟨t, rfl⟩, q⟩ (by simpa using h1)⟩
        exact good_val (d_con pe (fun _ => .str _) C) fun _ => rfl
theorem o_con {v : Const} {n : Nat} (h : (conC v).map E.con = some i) : Good X cls U C (.Constant v n pos) i := by
  cases v with
  | none => cases h; exact good_val (d_con pe_non (fun _ => .non) C) fun _ => rfl
  | bool b => cases h; exact good_val (d_con pe_bl (fun _ => .bl _) C) fun _ => rfl
  | int b => cases h; exact good_val (d_con pe_int (fun _ => .int _) C) fun _ => rfl
  | str b => cases h; exact good_val (d_con pe_str (fun _ => .str _) C) fun _ => rfl
  | _ => cases h
theorem o_un {op : UnaryOp} (hr : RecOk cls xa C T rec) (p : Pre X cls xa U C T sc) (h : cUn rec sc op a = some i) : Good X cls U C (.UnaryOp op a pos) i := by
  cases op with
  | USub =>
    rw [cUn] at h
    cases e : rec sc a with
    | none => rw [e] at h; cases h
    | some j => rw [e] at h; cases h; exact g_neg (hr X U sc a j p e)
  | Not =>
    rw [cUn] at h
    cases e : rec sc a with
    | none => rw [e] at h; cases h
    | some j => rw [e] at h; cases h; exact g_not (hr X U sc a j p e)
  | _ => cases h
theorem Pre.lib (p : Pre X cls xa U C T sc) : Lib X cls := p.tb.lib X p.tb.calm p.tb.hu
theorem o_cmp {ops : List CmpOp} {bs : List Expr} (hr : RecOk cls xa C T rec) (p : Pre X cls xa U C T sc) (h : cCmp rec sc a ops bs = some i) : Good X cls U C (.Compare a ops bs pos) i := by
  unfold cCmp at h
  split at h
  · obtain ⟨h1, h2⟩ := guardO_some h
    split at h2
    · rename_i e1 e2
      cases h2
      exact g_cmp p.tb.hu p.lib.toDicR (hr X U sc _ _ p e1) (hr X U sc _ _ p e2) (by simpa using h1)
    · cases h2
  · obtain ⟨h1, h2⟩ := guardO_some h
    split at h2
    · rename_i e1 e2 e3
      cases h2
      exact g_chn p.tb.hu p.lib.toDicR (hr X U sc _ _ p e1) (hr X U sc _ _ p e2) (hr X U sc _ _ p e3) (by simpa using h1)
    · cases h2
  · cases h
theorem o_bool {op : BoolOp} {es : List Expr} (hr : RecOk cls xa C T rec) (p : Pre X cls xa U C T sc) (h : cBool rec sc op es = some i) : Good X cls U C (.BoolOp op es pos) i := by
  unfold cBool at h
  split at h
  · split at h
    · rename_i e1 e2
      cases h
      exact g_ands (hr X U sc _ _ p e1) (goods_of hr p e2)
    · cases h
  · split at h
    · rename_i e1 e2
      cases h
      exact g_ors (hr X U sc _ _ p e1) (goods_of hr p e2)
    · cases h
  · cases h
theorem o_po {o : Option Expr} {q : Po} (hr : RecOk cls xa C T rec) (p : Pre X cls xa U C T sc) (h : cPo rec sc o = some q) : GoodO X cls U C o q := by
  cases o with
  | none => cases h; exact .none
  | some e =>
    rw [cPo] at h
    cases z : rec sc e with
    | none => rw [z] at h; cases h
    | some j => rw [z] at h; cases h; exact .some (hr X U sc _ _ p z)
theorem o_sub (hr : RecOk cls xa C T rec) (p : Pre X cls xa U C T sc) (h : cSub rec sc a b = some i) : Good X cls U C (.Subscript a b pos) i := by
  unfold cSub at h
  split at h
  · split at h
    · rename_i e1 e2 e3
      cases h
      exact g_sli (hr X U sc _ _ p e1) (o_po hr p e2) (o_po hr p e3)
    · cases h
  · cases e : rec sc a with
    | none => rw [e] at h; cases h
    | some j => rw [e] at h; cases h; exact g_rev (hr X U sc _ _ p e)
  · split at h
    · rename_i e1 e2 e3 e4
      cases h
      exact g_stp (hr X U sc _ _ p e1) (o_po hr p e2) (o_po hr p e3) (hr X U sc _ _ p e4)
    · cases h
  · obtain ⟨h1, h2⟩ := guardO_some h
    split at h2
    · rename_i e1 e2
      cases h2
      exact g_idx p.lib.toDicR (hr X U sc _ _ p e1) (hr X U sc _ _ p e2) h1
    · cases h2
/-! ### blocks -/
theorem relS_eq {scope : Scope} {env : PySem.Env} (h : env.scope = sc) : relabel scope env = relS scope sc := by
  subst h
  rfl
theorem Pre.blk (p : Pre X cls xa U C T sc) (hx : T.lx = false) (s : Shared) (H : Hp) (scope : Scope) (cl : List (Str × Addr)) (D : Addr) (fp : List Addr) : Pre (X.blk s H scope (compEnvC scope cl D X.env) fp) cls xa (fun _ _ => False) C T (relS scope sc) :=
  ⟨⟨p.tb.N, p.tb.nd, p.tb.hu, p.tb.calm, p.tb.lib, p.tb.fns, p.tb.free, p.tb.mks, p.tb.mtd, p.tb.fds, p.tb.nums, p.tb.exc, p.tb.lam, fun z => (by rw [hx] at z; cases z), p.tb.gdk⟩, relS_eq p.sc, takes0.imp fun c d σ H ⟨_, _, _, z⟩ => z⟩
theorem Pre.blkX (p : Pre X cls xa U C T sc) (s : Shared) (H : Hp) (scope : Scope) (cl : List (Str × Addr)) (D : Addr) (fp : List Addr) (xe : Value → Shared → Prop) (tk : Takes (EVX.blkX X s H scope (compEnvC scope cl D X.env) fp xe) fun c d _ H => wU xa U c d H) :
    Pre (EVX.blkX X s H scope (compEnvC scope cl D X.env) fp xe) cls xa U C T.noL (relS scope sc) :=
  ⟨⟨p.tb.N, p.tb.nd, p.tb.hu, p.tb.calm, p.tb.lib, p.tb.fns, p.tb.free, p.tb.mks, p.tb.mtd, p.tb.fds, p.tb.nums, p.tb.exc, fun z => Bool.noConfusion z, fun z => Bool.noConfusion z, fun z => Bool.noConfusion z⟩, relS_eq p.sc, tk⟩
theorem tg_tuple {tg : Expr} {t : Tg} {N : List Str} {fnb : Str → Bool} (h : tgC N sc fnb tg = some t) (hm : t.isMany = true) : ∃ es k q is, tg = .Tuple es k q ∧ t = .many is := by
  unfold tgC at h
  split at h
  · rename_i x q
    cases e : nmC N sc fnb x with
    | none => rw [e] at h; cases h
    | some n => rw [e] at h; cases h; simp [Tg.isMany] at hm
  · rename_i es k q
    cases e : nmsC N sc fnb es with
    | none => rw [e] at h; cases h
    | some n => rw [e] at h; cases h; exact ⟨es, k, q, n, rfl, rfl⟩
  · cases h
theorem o_it {tg iter : Expr} {it : It} (hr : RecOk cls xa C T rec) (p : Pre X cls xa U C T sc) (h : cIt T rec sc iter = some it) (htg : it.pair = true → ∃ es k q, tg = .Tuple es k q) : PI X tg iter (tDI X.K X.w cls U it.pair (evI C it)) ∧ it.plain = true := by
  have seq : ∀ e, (rec sc e).map It.seq = some it → PI X tg e (tDI X.K X.w cls U it.pair (evI C it)) ∧ it.plain = true := fun e h => by
    cases z : rec sc e with
    | none => rw [z] at h; cases h
    | some j => rw [z] at h; cases h; exact ⟨gi_seq' (hr X U sc _ _ p z), rfl⟩
  unfold cIt at h
  split at h
  · split at h
    · rename_i hx
      have hx := eq_of_beq hx
      subst hx
      obtain ⟨h1, h2⟩ := guardO_some h
      simp only [Bool.and_eq_true] at h1
      cases z : rec sc ‹_› with
      | none => rw [z] at h2; cases h2
      | some j => rw [z] at h2; cases h2; exact ⟨gi_rng1 (hr X U sc _ _ p z) (gl_of p h1.1.1) (p.tb.free _ h1.1.2) h1.2, rfl⟩
    · split at h
      · rename_i hx
        have hx := eq_of_beq hx
        subst hx
        obtain ⟨h1, h2⟩ := guardO_some h
        simp only [Bool.and_eq_true] at h1
        cases z : rec sc ‹_› with
        | none => rw [z] at h2; cases h2
        | some j =>
          rw [z] at h2
          cases h2
          obtain ⟨es, k, q, rfl⟩ := htg rfl
          exact ⟨gi_enum (hr X U sc _ _ p z) (gl_of p h1.1.1) (p.tb.free _ h1.1.2) h1.2, rfl⟩
      · exact seq _ h
  · split at h
    · rename_i hx
      have hx := eq_of_beq hx
      subst hx
      obtain ⟨h1, h2⟩ := guardO_some h
      simp only [Bool.and_eq_true] at h1
      split at h2
      · rename_i e1 e2
        cases h2
        exact ⟨gi_rng2 (hr X U sc _ _ p e1) (hr X U sc _ _ p e2) (gl_of p h1.1.1.1) (p.tb.free _ h1.1.1.2) h1.1.2 h1.2, rfl⟩
      · cases h2
    · split at h
      · rename_i hx
        have hx := eq_of_beq hx
        subst hx
        obtain ⟨h1, h2⟩ := guardO_some h
        simp only [Bool.and_eq_true] at h1
        split at h2
        · rename_i e1 e2
          cases h2
          obtain ⟨es, k, q, rfl⟩ := htg rfl
          exact ⟨gi_zip (hr X U sc _ _ p e1) (hr X U sc _ _ p e2) (gl_of p h1.1.1.1) (p.tb.free _ h1.1.1.2) h1.1.2 h1.2, rfl⟩
        · cases h2
      · exact seq _ h
  · split at h
    · rename_i hx
      have hx := eq_of_beq hx
      subst hx
      obtain ⟨h1, h2⟩ := guardO_some h
      simp only [Bool.and_eq_true] at h1
      split at h2
      · rename_i e1 e2 e3
        cases h2
        exact ⟨gi_rng3 (hr X U sc _ _ p e1) (hr X U sc _ _ p e2) (hr X U sc _ _ p e3) (gl_of p h1.1.1.1.1) (p.tb.free _ h1.1.1.1.2) h1.1.1.2 h1.1.2 h1.2, rfl⟩
      · cases h2
    · exact seq _ h
  · exact seq _ h
theorem notSet_fold {iter : Expr} {env : PySem.Env} (h : notSet iter = true) : ∀ x, foldedSetIterable iter env x = pure x := fun x => by
  cases iter <;> first | rfl | (simp [notSet] at h)
theorem o_cond {ifs : List Expr} (hr : RecOk cls xa C T rec) (p : Pre X cls xa U C T sc) (h : cCond rec sc ifs = some i) : PTs X ifs (tDT X.K X.w cls U (evE C i)) := by
  unfold cCond at h
  split at h
  · cases h
    refine ⟨fun pins s σ H Q I q => pts_nil.run pins s σ H Q I ?_⟩
    obtain ⟨W, env, st, he, A, hb, q⟩ := q
    rw [evE] at q
    exact q true W H (Ext.refl _ _) A rfl
  · exact pts_one (hr X U sc _ _ p h).pt
  · cases h
/-- the parts of a comprehension -/
theorem o_lc {m : Bool} {elt : Expr} {scope : Scope} {gs : List Comprehension} (hr : RecOk cls xa C T rec) (p : Pre X cls xa U C T sc) (h : cLc T rec sc m elt scope gs = some i) :
    ∃ tg iter ifs own t it cd ie, gs = [⟨tg, iter, ifs, 0⟩] ∧ i = .lc m (own.map (·.2)) t it cd ie ∧ it.plain = true ∧ PI X tg iter (tDI X.K X.w cls U it.pair (evI C it)) ∧ BlkOk X.N X.env.scope scope own ∧ GoodB X cls C scope tg t ifs elt cd ie ∧
      (∀ s ∈ t.slots, s ∈ own.map (·.2)) ∧ notSet iter = true ∧ (it.pair = true → ∃ is, t = .many is) := by
  unfold cLc at h
  split at h
  · rename_i tg iter ifs
    split at h
    · rename_i t it cd ie e1 e2 e3 e4
      obtain ⟨h1, h2⟩ := guardO_some h
      cases h2
      simp only [Bool.and_eq_true, Bool.or_eq_true, Bool.not_eq_true'] at h1
      obtain ⟨hlx, h1, hmany⟩ := h1
      have hm : it.pair = true → t.isMany = true := fun z => hmany.elim (fun y => by rw [y] at z; cases z) id
      obtain ⟨hi, hp⟩ := o_it (tg := tg) hr p e2 fun z => let ⟨es, k, q, is, h1, h2⟩ := tg_tuple e1 (hm z); ⟨es, k, q, h1⟩
      refine ⟨tg, iter, ifs, ownC T.N scope, t, it, cd, ie, rfl, rfl, hp, hi, ?_, ⟨fun s H D cl fp => ?_, fun s H D cl fp => ?_, fun s H D cl fp => ?_⟩, fun s hs => ?_, h1.1.1, fun z => let ⟨es, k, q, is, h1, h2⟩ := tg_tuple e1 (hm z); ⟨is, h2⟩⟩
      · rw [p.tb.N, p.sc]
        exact blkOk_by h1.1.2
      · have p' := p.blk hlx s H scope cl D fp
        exact tg_pg p'.tb.calm p'.tb.nd (tgC_ok (T := T) p'.tb.N p'.sc (fun x hx => hx) e1)
      · exact o_cond hr (p.blk hlx s H scope cl D fp) e3
      · exact (hr _ _ _ _ _ (p.blk hlx s H scope cl D fp) e4).pe
      · have z := h1.2
        rw [Tg.slotsIn, List.all_eq_true] at z
        exact List.elem_iff.mp (z s hs)
    · cases h
  · cases h
theorem o_lcX {recL : Rec} {elt : Expr} {scope : Scope} {gs : List Comprehension} (hr : RecOk cls xa C T rec) (hl : RecOk cls xa C T.noL recL) (p : Pre X cls xa U C T sc) (h : cLcX T rec recL sc elt scope gs = some i) : Good X cls U C (.ListComp elt gs scope pos) i := by
  unfold cLcX at h
  split at h
  · rename_i tg iter ifs
    split at h
    · rename_i t it cd ie e1 e2 e3 e4
      obtain ⟨h1, h2⟩ := guardO_some h
      cases h2
      simp only [Bool.and_eq_true, Bool.or_eq_true, Bool.not_eq_true'] at h1
      obtain ⟨hlx, h1, hmany⟩ := h1
      have hm : it.pair = true → t.isMany = true := fun z => hmany.elim (fun y => by rw [y] at z; cases z) id
      obtain ⟨hi, hp⟩ := o_it (tg := tg) hr p e2 fun z => let ⟨es, k, q, is, h1, h2⟩ := tg_tuple e1 (hm z); ⟨es, k, q, h1⟩
      obtain ⟨hst, hfr⟩ := p.tb.lx hlx
      refine good_val (g_lcx (xa := xa) (own := ownC T.N scope) p.tb.calm p.tb.nd hp p.tk hst hfr hi ?_ ⟨fun s H D cl fp xe => ?_, fun s H D cl fp xe tk => ?_, fun s H D cl fp xe tk => ?_⟩ (fun s hs => ?_) (fun z => let ⟨es, k, q, is, h1, h2⟩ := tg_tuple e1 (hm z); ⟨is, h2⟩) (notSet_fold h1.1.1)) fun _ => rfl
      · rw [p.tb.N, p.sc]
        exact blkOk_by h1.1.2
      · exact tg_pg (X := EVX.blkX X s H scope (compEnvC scope cl D X.env) fp xe) p.tb.calm p.tb.nd (tgC_ok (X := EVX.blkX X s H scope (compEnvC scope cl D X.env) fp xe) (T := T) p.tb.N (relS_eq p.sc) (fun x hx => hx) e1)
      · exact o_cond hl (p.blkX s H scope cl D fp xe tk) e3
      · exact (hl _ _ _ _ _ (p.blkX s H scope cl D fp xe tk) e4).pe
      · have z := h1.2
        rw [Tg.slotsIn, List.all_eq_true] at z
        exact List.elem_iff.mp (z s hs)
    · cases h
  · cases h
theorem o_lcK {elt : Expr} {scope : Scope} {gs : List Comprehension} (hr : RecOk cls xa C T rec) (p : Pre X cls xa U C T sc) (h : cLcK T rec sc elt scope gs = some i) : Good X cls U C (.ListComp elt gs scope pos) i := by
  unfold cLcK at h
  split at h
  · rename_i tg y yp ifs
    split at h
    · split at h
      · rename_i t ii cd ie e1 e2 e3 e4
        obtain ⟨h1, h2⟩ := guardO_some h
        cases h2
        rw [Bool.and_eq_true, Bool.and_eq_true, Bool.not_eq_true'] at h1
        obtain ⟨hlx, h1⟩ := h1
        refine good_val (g_lcK p.tb.calm p.tb.nd (hr X U sc _ _ p e2) ?_ ⟨fun s H D cl fp => ?_, fun s H D cl fp => ?_, fun s H D cl fp => ?_⟩ (fun s hs => ?_) (notSet_fold rfl)) fun _ => rfl
        · rw [p.tb.N, p.sc]
          exact blkOk_by h1.1
        · have p' := p.blk hlx s H scope cl D fp
          exact tg_pg p'.tb.calm p'.tb.nd (tgC_ok (T := T) p'.tb.N p'.sc (fun x hx => hx) e1)
        · exact o_cond hr (p.blk hlx s H scope cl D fp) e3
        · exact (hr _ _ _ _ _ (p.blk hlx s H scope cl D fp) e4).pe
        · have z := h1.2
          rw [Tg.slotsIn, List.all_eq_true] at z
          exact List.elem_iff.mp (z s hs)
      · cases h
    · cases h
  · cases h
/-! ### calls -/
theorem kdOf_ok {x : Str} {t : Kd} (h : kdOf x = some t) : t ≠ .non ∧ bootBuiltins x = some (.type t.nm) ∧ x ≠ "__name__" ∧ (x == ("__debug__" : Str)) = false := by
  unfold kdOf at h
  repeat' split at h
  all_goals first | (cases h; rename_i hx; have hx := eq_of_beq hx; subst hx; exact ⟨by decide, by decide +kernel, by decide, by decide⟩) | cases h
theorem o_isT {es : List Expr} {q : Pos} (hr : RecOk cls xa C T rec) (p : Pre X cls xa U C T sc) (h : cIsT T rec sc es = some i) : Good X cls U C (.Call (.Name "isinstance" q) es [] pos) i := by
  unfold cIsT at h
  split at h
  · split at h
    · rename_i e1 e2
      obtain ⟨h1, h2⟩ := guardO_some h
      cases h2
      simp only [Bool.and_eq_true] at h1
      obtain ⟨k1, k2, k3, k4⟩ := kdOf_ok e1
      exact g_isT k1 (gl_of p h1.1.1.1.1) (p.tb.free _ h1.1.1.1.2) (gl_of p h1.1.1.2) (p.tb.free _ h1.1.2) k2 k3 k4 (hr X U sc _ _ p e2) h1.2
    · cases h
  · cases h
theorem o_blt {x : Str} {es : List Expr} {q : Pos} (hr : RecOk cls xa C T rec) (p : Pre X cls xa U C T sc) (h : cBlt T rec sc x es = some i) : Good X cls U C (.Call (.Name x q) es [] pos) i := by
  unfold cBlt at h
  split at h
  · cases h
  · rename_i b hb
    have hm := List.mem_of_find?_eq_some hb
    have hx := List.find?_some hb
    simp only [Bool.and_eq_true, beq_iff_eq] at hx
    obtain ⟨rfl, hx⟩ := hx
    split at h
    · rename_i is e1
      obtain ⟨h1, h2⟩ := guardO_some h
      cases h2
      simp only [Bool.and_eq_true] at h1
      have t := goods_of hr p e1
      have hl := mapO_length e1
      cases t with
      | nil => cases b <;> simp [Blt.ar] at hx <;> simp [bltAll] at hm
      | @cons e ie es is g t =>
        have hg := gl_of p h1.1.1
        have hf := p.tb.free _ h1.1.2
        cases b with
        | len => exact g_blt (cd_len p.lib) hg hf (by decide +kernel) (by decide) (by decide) g t h1.2
        | sum => exact g_blt (cd_sum p.tb.calm) hg hf (by decide +kernel) (by decide) (by decide) g t h1.2
        | any => exact g_blt (cd_any p.tb.calm) hg hf (by decide +kernel) (by decide) (by decide) g t h1.2
        | all => exact g_blt (cd_all p.tb.calm) hg hf (by decide +kernel) (by decide) (by decide) g t h1.2
        | sorted => exact g_blt (cd_sorted p.tb.calm p.tb.hu) hg hf (by decide +kernel) (by decide) (by decide) g t h1.2
        | tuple => exact g_bltT cd_tuple hg hf (by decide +kernel) (by decide) (by decide) g t h1.2
        | list => exact g_bltT (cd_list p.lib) hg hf (by decide +kernel) (by decide) (by decide) g t h1.2
        | int => exact g_bltT cd_int hg hf (by decide +kernel) (by decide) (by decide) g t h1.2
        | str => exact g_bltT cd_str hg hf (by decide +kernel) (by decide) (by decide) g t h1.2
        | abs => exact g_blt cd_abs hg hf (by decide +kernel) (by decide) (by decide) g t h1.2
        | min2 => exact g_blt (cd_min2 p.tb.calm) hg hf (by decide +kernel) (by decide) (by decide) g t h1.2
        | max2 => exact g_blt (cd_max2 p.tb.calm) hg hf (by decide +kernel) (by decide) (by decide) g t h1.2
        | max1 => exact g_blt (cd_max1 p.tb.calm) hg hf (by decide +kernel) (by decide) (by decide) g t h1.2
        | tupRange => simp [bltAll] at hm
        | isT t => simp [bltAll] at hm
        | srtS => simp [bltAll] at hm
        | listN => simp [bltAll] at hm
        | repr => simp [bltAll] at hm
        | srtI => simp [bltAll] at hm
        | dict => exact g_bltT (cd_dict p.tb.calm p.tb.hu) hg hf (by decide +kernel) (by decide) (by decide) g t h1.2
    · cases h
theorem o_srtI {x : Str} {es : List Expr} {q : Pos} (hr : RecOk cls xa C T rec) (p : Pre X cls xa U C T sc) (h : cSrtI T rec sc x es = some i) : Good X cls U C (.Call (.Name x q) es [] pos) i := by
  unfold cSrtI at h
  split at h
  · split at h
    · rename_i hx
      rw [Bool.and_eq_true] at hx
      have e1 := eq_of_beq hx.1
      have e2 := eq_of_beq hx.2
      subst e1 e2
      obtain ⟨h1, h2⟩ := guardO_some h
      simp only [Bool.and_eq_true] at h1
      cases z : rec sc ‹_› with
      | none => rw [z] at h2; cases h2
      | some j => rw [z] at h2; cases h2; exact g_srtI p.tb.calm p.tb.hu (hr X U sc _ _ p z) h1.1.2 h1.2 (gl_of p h1.1.1.1) (p.tb.free _ h1.1.1.2)
    · exact o_blt hr p h
  · exact o_blt hr p h
theorem o_srtS {x : Str} {es : List Expr} {q : Pos} (hr : RecOk cls xa C T rec) (p : Pre X cls xa U C T sc) (h : cSrtS T rec sc x es = some i) : Good X cls U C (.Call (.Name x q) es [] pos) i := by
  unfold cSrtS at h
  split at h
  · split at h
    · rename_i hx
      rw [Bool.and_eq_true] at hx
      have e1 := eq_of_beq hx.1
      have e2 := eq_of_beq hx.2
      subst e1 e2
      obtain ⟨h1, h2⟩ := guardO_some h
      simp only [Bool.and_eq_true] at h1
      cases z : rec sc ‹_› with
      | none => rw [z] at h2; cases h2
      | some j => rw [z] at h2; cases h2; exact g_srtS p.tb.calm p.tb.hu (hr X U sc _ _ p z) (starEach_no h1.2) (gl_of p h1.1.1.1.1) (p.tb.free _ h1.1.1.1.2) (gl_of p h1.1.1.2) (p.tb.free _ h1.1.2)
    · exact o_srtI hr p h
  · exact o_srtI hr p h
theorem o_tupR {x : Str} {es : List Expr} {q : Pos} (hr : RecOk cls xa C T rec) (p : Pre X cls xa U C T sc) (h : cTupR T rec sc x es = some i) : Good X cls U C (.Call (.Name x q) es [] pos) i := by
  unfold cTupR at h
  split at h
  · split at h
    · rename_i hx
      rw [Bool.and_eq_true] at hx
      have e1 := eq_of_beq hx.1
      have e2 := eq_of_beq hx.2
      subst e1 e2
      obtain ⟨h1, h2⟩ := guardO_some h
      simp only [Bool.and_eq_true] at h1
      cases z : rec sc ‹_› with
      | none => rw [z] at h2; cases h2
      | some j => rw [z] at h2; cases h2; exact g_tupRg p.tb.calm (gl_of p h1.1.1.1.1) (p.tb.free _ h1.1.1.1.2) (gl_of p h1.1.1.2) (p.tb.free _ h1.1.2) (hr X U sc _ _ p z) h1.2
    · exact o_srtS hr p h
  · exact o_srtS hr p h
theorem g_callG {n f : Nat} {fa : Addr} {fd : FuncData} {ps : List Str} {x : Str} {p : Pos} {es : List Expr} {is : List E} (F : EVG.FnG X.prog X.w X.K X.mg X.base (L2.CX X.prog X.w) n fa fd ps (spD X.K X.w cls xa (C.call f))) (gd : X.A.guards = some [])
    (hr : Room n X.A) (hg : Gl X x) (hm : X.mg x = some (.ref fa)) (hk : PySem.W.keepIn X.K (.ref fa) = true) (hb : Binds X.K fd ps []) (tk : Takes X (fun c d _ H => wU xa U c d H)) (hdb : (x == ("__debug__" : Str)) = false)
    (t : Goods X cls U C es is) (hs : es.all noStar = true) (hne : es.isEmpty = false) : Good X cls U C (.Call (.Name x p) es [] pos) (.call f (listEs is)) := by
  cases t with
  | nil => cases hne
  | @cons e ie es is g t =>
    have hs' := hs
    rw [List.all_cons, Bool.and_eq_true] at hs'
    refine good_val (PE.mono (EVG.pe_callG F gd hr hg hm hk hb (passes_U tk) (args_ok (.cons g t) hs) hdb (starEach_no hs'.1) (plain_args hs'.2)) fun σ H Q h => ?_) fun _ => rfl
    obtain ⟨W, env, st, he, A, q⟩ := h
    rw [evE] at q
    refine ⟨W, env, st, he, A, (q.bind).mono fun vs H1 ⟨W1, st1, ds, x1, A1, r1, q1⟩ => ?_⟩
    rw [List.append_nil]
    exact ⟨W1, st1, ds, A1, r1, Aft.impU q1 fun k H u => ⟨k, rfl, rfl, u⟩⟩
theorem o_repr {x : Str} {es : List Expr} {q : Pos} (hr : RecOk cls xa C T rec) (p : Pre X cls xa U C T sc) (h : cRepr T rec sc x es = some i) : Good X cls U C (.Call (.Name x q) es [] pos) i := by
  unfold cRepr at h
  split at h
  · split at h
    · rename_i hx
      have e1 := eq_of_beq hx
      subst e1
      obtain ⟨h1, h2⟩ := guardO_some h
      simp only [Bool.and_eq_true] at h1
      cases z : rec sc ‹_› with
      | none => rw [z] at h2; cases h2
      | some j =>
        rw [z] at h2
        cases h2
        exact g_blt (f := .repr) (es := []) (is := []) (cd_repr (p.tb.gdk h1.1.1.1).1 p.tb.hu) (gl_of p h1.1.1.2) (p.tb.free _ h1.1.2) (by decide +kernel) (by decide) (by decide) (hr X U sc _ _ p z) .nil (by simp [h1.2])
    · exact o_tupR hr p h
  · exact o_tupR hr p h
theorem o_call {x : Str} {es : List Expr} {q : Pos} (hr : RecOk cls xa C T rec) (p : Pre X cls xa U C T sc) (h : cCall T rec sc x es = some i) : Good X cls U C (.Call (.Name x q) es [] pos) i := by
  unfold cCall at h
  split at h
  · rename_i f hf
    split at h
    · rename_i is e1
      obtain ⟨h1, h2⟩ := guardO_some h
      cases h2
      simp only [Bool.and_eq_true, Bool.or_eq_true, Bool.not_eq_true'] at h1
      obtain ⟨h1, hgn⟩ := h1
      rcases hgn with hgn | ⟨hgd, hne⟩
      · obtain ⟨n, fa, fd, ps, F, hroom, hm, hk, hb⟩ := p.tb.fns x f hf hgn
        exact g_call F hroom (gl_of p h1.1.1) hm hk hb p.tk h1.2 (goods_of hr p e1) h1.1.2
      · obtain ⟨gd, hG⟩ := p.tb.gdk hgd
        obtain ⟨n, fa, fd, ps, F, hroom, hm, hk, hb⟩ := hG x f hf
        exact g_callG F gd hroom (gl_of p h1.1.1) hm hk hb p.tk h1.2 (goods_of hr p e1) h1.1.2 hne
    · cases h
  · split at h
    · rename_i c hf
      split at h
      · rename_i is e1
        obtain ⟨h1, h2⟩ := guardO_some h
        cases h2
        simp only [Bool.and_eq_true, Bool.not_eq_true'] at h1
        obtain ⟨CA, f, n, fa, fd, ps, k1, k2, M, F, hroom, hm, hb⟩ := p.tb.mks x c hf
        exact g_make k1 k2 M F hroom (gl_of p h1.1.1) hm hb p.tk h1.2 (goods_of hr p e1) h1.1.2
      · cases h
    · split at h
      · rename_i hx
        have hx := eq_of_beq hx
        subst hx
        exact o_isT hr p h
      · exact o_repr hr p h
theorem mth_ok (p : Pre X cls xa U C T sc) {m : Mth} (hm : m ∈ mthAll) : ∃ id, MthOk X cls U m m.nm id := by
  cases m with
  | count => exact ⟨_, F.plainAttrs_tuple, F.slot_tuple_count, F.type_tuple_count, md_count p.tb.hu⟩
  | split => exact ⟨_, F.plainAttrs_str, F.slot_str_split, F.type_str_split, md_split⟩
  | join => exact ⟨_, F.plainAttrs_str, F.slot_str_join, F.type_str_join, md_join⟩
  | get2 => exact ⟨_, F.plainAttrs_dict, F.slot_dict_get, F.type_dict_get, md_get2 p.lib⟩
  | append => exact ⟨_, F.plainAttrs_list, F.slot_list_append, F.type_list_append, md_append⟩
  | extend => exact ⟨_, F.plainAttrs_list, F.slot_list_extend, F.type_list_extend, md_extend⟩
  | pop => exact ⟨_, F.plainAttrs_list, F.slot_list_pop, F.type_list_pop, md_pop⟩
  | items => simp [mthAll] at hm
  | replace => simp [mthAll] at hm
  | remove => exact ⟨_, F.plainAttrs_list, F.slot_list_remove, F.type_list_remove, md_remove⟩
  | update => exact ⟨_, F.plainAttrs_dict, F.slot_dict_update, F.type_dict_update, md_update⟩
theorem o_mth {o : Expr} {name : Str} {apos : Pos} {es : List Expr} (hr : RecOk cls xa C T rec) (p : Pre X cls xa U C T sc) (h : cMth T rec sc o name apos es pos = some i) : Good X cls U C (.Call (.Attribute o name apos) es [] pos) i := by
  unfold cMth at h
  split at h
  · rename_i hc
    split at h
    · rename_i e1 e2
      obtain ⟨h1, h2⟩ := guardO_some h
      cases h2
      simp only [Bool.and_eq_true, decide_eq_true_eq] at h1
      exact g_meth (p.tb.mtd _ hc) (hr X U sc _ _ p e1) (goods_of hr p e2) p.tk h1.1.2 h1.1.1.1 h1.1.1.2 h1.2
    · cases h
  · split at h
    · rename_i m hb
      have hm := List.mem_of_find?_eq_some hb
      have hx := List.find?_some hb
      have hx := eq_of_beq hx
      subst hx
      split at h
      · rename_i e1 e2
        obtain ⟨h1, h2⟩ := guardO_some h
        cases h2
        simp only [Bool.and_eq_true, decide_eq_true_eq] at h1
        obtain ⟨id, ok⟩ := mth_ok p hm
        exact g_mth ok (hr X U sc _ _ p e1) (goods_of hr p e2) h1.1.1.1 h1.1.1.2 h1.1.2 h1.2
      · cases h
    · cases h
theorem o_mthR {o : Expr} {name : Str} {apos : Pos} {es : List Expr} (hr : RecOk cls xa C T rec) (p : Pre X cls xa U C T sc) (h : cMthR T rec sc o name apos es pos = some i) : Good X cls U C (.Call (.Attribute o name apos) es [] pos) i := by
  unfold cMthR at h
  split at h
  · split at h
    · rename_i hx
      have e1 := eq_of_beq hx
      subst e1
      obtain ⟨h1, h2⟩ := guardO_some h
      simp only [Bool.and_eq_true, Bool.not_eq_true'] at h1
      cases z : rec sc ‹_› with
      | none => rw [z] at h2; cases h2
      | some j => rw [z] at h2; cases h2; exact g_repl p.lib.toDicR (hr X U sc _ _ p z) h1.1 h1.2
    · exact o_mth hr p h
  · exact o_mth hr p h
theorem someAll_ok : ∀ {ks : List (Option Expr)} {es : List Expr}, someAll ks = some es → ks = es.map some
  | [], es, h => by cases h; rfl
  | some e :: r, es, h => by
    rw [someAll] at h
    obtain ⟨l, h1, h2⟩ := Option.map_eq_some_iff.mp h
    subst h2
    rw [someAll_ok h1]
    rfl
  | none :: r, es, h => by cases h
theorem o_dct {ks : List (Option Expr)} {vs : List Expr} (hr : RecOk cls xa C T rec) (p : Pre X cls xa U C T sc) (h : cDct rec sc ks vs = some i) : Good X cls U C (.Dict ks vs pos) i := by
  unfold cDct at h
  split at h
  · cases h
  · rename_i es he
    rw [someAll_ok he]
    split at h
    · rename_i e1 e2
      obtain ⟨h1, h2⟩ := guardO_some h
      cases h2
      simp only [Bool.and_eq_true, decide_eq_true_eq] at h1
      exact g_dct p.tb.hu (goods_of hr p e1) (goods_of hr p e2) h1.1 h1.2
    · cases h
theorem noArgsB_ok {a : Arguments} (h : noArgsB a = true) : a = noArgs := by
  unfold noArgsB at h
  split at h
  · rfl
  · cases h
theorem o_callT {recL : Rec} {x : Str} {es : List Expr} {q : Pos} (hr : RecOk cls xa C T rec) (hl : RecOk cls xa C T.noL recL) (p : Pre X cls xa U C T sc) (h : cCallT T rec recL sc x es = some i) : Good X cls U C (.Call (.Name x q) es [] pos) i := by
  unfold cCallT at h
  split at h
  · rename_i a b s lp
    obtain ⟨h1, h2⟩ := guardO_some h
    simp only [Bool.and_eq_true] at h1
    obtain ⟨⟨⟨⟨e1, e2⟩, e3⟩, e4⟩, e5⟩ := h1
    have e1 := eq_of_beq e1
    subst e1
    have e4 := noArgsB_ok e4
    subst e4
    cases z : recL s b with
    | none => rw [z] at h2; cases h2
    | some j =>
      rw [z] at h2
      cases h2
      obtain ⟨g, c, P, CS, L, l, pg, fd, k1, k2, k3, k4, k5, k6, k7, k8, k9, k10, k11, k12, k13, k14, k15, k16⟩ := p.tb.lam e2
      rw [← p.sc] at e5
      refine g_told (xa := xa) (gl_of p e3) k1 k2 k3 k4 k5 k6 k7 k8 k9 k10 k11 k12 k13 (LamX.lamS_by e5) fun A outer s0 H E f c' hroom => ?_
      refine (hl (LamX.lamCx X A outer s0 H E s f c') (fun k H => E (.ref (xa k)) none H) s b j ⟨⟨p.tb.N, p.tb.nd, hroom.units, rfl, p.tb.lib, fun x f hx hgn => ?_, p.tb.free, fun x c hx => ?_, fun m hm c CA f hc hf => ?_, p.tb.fds, p.tb.nums, p.tb.exc, fun z => Bool.noConfusion z, fun z => Bool.noConfusion z, fun z => Bool.noConfusion z⟩, rfl, ?_⟩ z).pe
      · obtain ⟨n, fa, fd, ps, hn, F, r1, r2, r3⟩ := k14 x f hx hgn
        exact ⟨n, fa, fd, ps, F, hroom.mono hn, r1, r2, r3⟩
      · obtain ⟨CA, f, n, fa, fd, ps, hn, r1, r2, r3, F, r4, r5⟩ := k15 x c hx
        exact ⟨CA, f, n, fa, fd, ps, r1, r2, r3, F, hroom.mono hn, r4, r5⟩
      · obtain ⟨n, fa, fd, ps, hn, r1, r2, F, r3⟩ := k16 m hm c CA f hc hf
        exact ⟨n, fa, fd, ps, r1, r2, F, hroom.mono hn, r3⟩
      · refine (takes_of rfl rfl rfl rfl).imp fun c dd σ H ⟨k, e1, e2, u⟩ => ?_
        subst e1 e2
        exact u
  · exact o_call hr p h
theorem step_ok {recL : Rec} (hr : RecOk cls xa C T rec) (hl : RecOk cls xa C T.noL recL) : RecOk cls xa C T (stepE T rec recL) := by
  intro X U sc e i p h
  unfold stepE at h
  split at h
  · exact o_name p h
  · exact o_con h
  · split at h
    · rename_i e1 e2
      cases h
      exact g_bin (hr X U sc _ _ p e1) (hr X U sc _ _ p e2)
    · cases h
  · exact o_un hr p h
  · exact o_cmp hr p h
  · exact o_bool hr p h
  · obtain ⟨h1, h2⟩ := guardO_some h
    cases z : mapO (rec sc) ‹_› with
    | none => rw [z] at h2; cases h2
    | some is => rw [z] at h2; cases h2; exact g_tup (goods_of hr p z) h1
  · obtain ⟨h1, h2⟩ := guardO_some h
    cases z : mapO (rec sc) ‹_› with
    | none => rw [z] at h2; cases h2
    | some is => rw [z] at h2; cases h2; exact g_lst (goods_of hr p z) h1
  · exact o_sub hr p h
  · exact o_dct hr p h
  · split at h
    · rename_i e
      cases h
      exact o_lcX hr hl p e
    split at h
    · rename_i e
      cases h
      exact o_lcK hr p e
    obtain ⟨tg, iter, ifs, own, t, it, cd, ie, rfl, rfl, hp, hi, ok, gb, ht, hs, hm⟩ := o_lc hr p h
    exact good_val (g_lc p.tb.calm p.tb.nd hp hi ok gb ht hm (notSet_fold hs)) fun _ => rfl
  · obtain ⟨h1, h2⟩ := guardO_some h
    rw [Bool.and_eq_true] at h1
    cases z : rec sc ‹_› with
    | none => rw [z] at h2; cases h2
    | some j => rw [z] at h2; cases h2; exact g_fld (p.tb.fds _ h1.1) (hr X U sc _ _ p z) (notSup_base h1.2)
  · exact o_callT hr hl p h
  · exact o_mthR hr p h
  · cases h
theorem cEL_ok {recL : Rec} (hl : RecOk cls xa C T.noL recL) : ∀ n, RecOk cls xa C T (cEL recL T n)
  | 0 => fun _ _ _ _ _ _ h => by cases h
  | n + 1 => step_ok (cEL_ok hl n) hl
theorem cE_ok (n : Nat) : RecOk cls xa C T (cE T n) := cEL_ok (cEL_ok (T := T.noL) (fun _ _ _ _ _ _ h => by cases h) n) n
theorem goods_by {f : Expr → Option E} (h : ∀ e i, f e = some i → Good X cls U C e i) : ∀ {es : List Expr} {is : List E}, mapO f es = some is → Goods X cls U C es is
  | [], is, e => by cases e; exact .nil
  | x :: xs, is, e => by
    rw [mapO] at e
    split at e
    · rename_i y ys h1 h2
      cases e
      exact .cons (h x y h1) (goods_by h h2)
    · cases e
end
end EV
/-! EvP: statements: made and sound; defs. -/
namespace EV
open PySem PySem.Spec PyProof.Rows L2

def notTup : Expr → Bool
  | .Tuple _ _ _ => false
  | _ => true
/-- an element that is a list to be changed -/
def cEl (rec : Rec) (sc : Scope) : Expr → Option E
  | .List es _ => guardO (es.all noStar) ((mapO (rec sc) es).map fun is => .lstM (listEs is))
  | e => rec sc e
/-- name = e -/
def cAsg1 (T : Tab) (rec : Rec) (mu : List Str) (sc : Scope) (x : Str) (e : Expr) : Option S :=
  match nmC T.N sc (fun _ => true) x with
  | none => none
  | some n => match e with
    | .ListComp elt gs scope _ => (cLc T rec sc (mu.contains x) elt scope gs).map fun i => .set (.one n) i
    | .List es _ => match mu.contains x with
      | true => guardO (es.all noStar) ((mapO (match mu.contains (x ++ "[]") with
        | true => cEl rec sc
        | false => rec sc) es).map fun is => .set (.one n) (.lstM (listEs is)))
      | false => (rec sc e).map fun i => .set (.one n) i
    | .Call (.Name y q) [a] [] pc => match mu.contains x && y == ("list" : Str) with
      | true => guardO (glC sc "list" && T.free.contains "list" && noStar a) ((rec sc a).map fun i => .set (.one n) (.blt .listN (.cons i .nil)))
      | false => (rec sc (.Call (.Name y q) [a] [] pc)).map fun i => .set (.one n) i
    | e => guardO (notComp e) ((rec sc e).map fun i => .set (.one n) i)
def parC (sc : Scope) (x y : Str) (px py : Pos) (a b : Expr) : Bool := decide (sc.names.lookup x = some .local) && decide (sc.names.lookup y = some .local) && (px.line == py.line) && !(x == y) && noStar a && noStar b &&
  !([a, b].all (foldedForSure 8)) && !([a, b].all (constantsAlone 8))
/-- a tuple whose parts are not stored the other way round -/
def nswC (sc : Scope) (ts : List Expr) : Expr → Bool
  | .Tuple vs _ _ => (ts.any fun t => match t with
    | .Name x _ => !decide (sc.names.lookup x = some .local)
    | _ => false) || vs.all (foldedForSure 8)
  | _ => false
def par3C (sc : Scope) (x y z : Str) (px py pz : Pos) (a b c : Expr) : Bool := decide (sc.names.lookup x = some .local) && decide (sc.names.lookup y = some .local) && decide (sc.names.lookup z = some .local) && (px.line == py.line) && (px.line == pz.line) && !(x == y) && !(x == z) && !(y == z) && noStar a && noStar b && noStar c &&
  !([a, b, c].all (foldedForSure 8)) && !([a, b, c].all (constantsAlone 8))
def cEl3 (mu : List Str) (rec : Rec) (sc : Scope) (x : Str) (e : Expr) : Option E := match mu.contains x with
  | true => cEl rec sc e
  | false => rec sc e
/-- a, b, .. = e -/
def cAsgT (T : Tab) (rec : Rec) (mu : List Str) (sc : Scope) (ts : List Expr) (e : Expr) : Option S :=
  match nmsC T.N sc (fun _ => true) ts with
  | none => none
  | some is => match nswC sc ts e with
   | true => guardO (notComp e) ((rec sc e).map fun i => .set (.many is) i)
   | false => match ts, e with
    | [.Name x px, .Name y py, .Name z pz], .Tuple [a, b, c] _ _ => match cEl3 mu rec sc x a, cEl3 mu rec sc y b, cEl3 mu rec sc z c, is with
      | some i, some j, some k, [n, m, l] => guardO (par3C sc x y z px py pz a b c && !(n == m) && !(n == l) && !(m == l)) (some (.set (.many [n, m, l]) (.tup (.cons i (.cons j (.cons k .nil))))))
      | _, _, _, _ => none
    | [.Name x px, .Name y py], .Tuple [a, b] _ _ => match rec sc a, rec sc b, is with
      | some i, some j, [n, m] => guardO (parC sc x y px py a b && !(n == m)) (some (.set (.many [n, m]) (.tup (.cons i (.cons j .nil)))))
      | _, _, _ => none
    | _, e => guardO (notTup e && notComp e) ((rec sc e).map fun i => .set (.many is) i)
abbrev RecS := Stmt → Option S
def cSs (rs : RecS) : List Stmt → Option Ss
  | [] => some .nil
  | s :: ss => match rs s, cSs rs ss with
    | some x, some xs => some (.cons x xs)
    | _, _ => none
def cForP (T : Tab) (rec : Rec) (sc : Scope) (rs : RecS) (tg iter : Expr) (b : List Stmt) : Option S := match tgC T.N sc (fun _ => true) tg, cIt T rec sc iter, cSs rs b with
  | some t, some it, some x => guardO (notSet iter && (!it.pair || t.isMany)) (some (.for t it x))
  | _, _, _ => none
def cFor (T : Tab) (rec : Rec) (sc : Scope) (rs : RecS) (tg : Expr) : Expr → List Stmt → Option S
  | .Name y q, b => match T.dk.contains y with
    | true => match tgC T.N sc (fun _ => true) tg, rec sc (.Name y q), cSs rs b with
      | some t, some i, some x => some (.for t (.keys i) x)
      | _, _, _ => none
    | false => cForP T rec sc rs tg (.Name y q) b
  | .Call (.Attribute a m apos) [] [] cpos, b => match (m == ("items" : Str)) with
    | true => match tg, tgC T.N sc (fun _ => true) tg, rec sc a, cSs rs b with
      | .Tuple _ _ _, some (.many is), some i, some x => guardO (notSup a && (apos.endLine == cpos.line)) (some (.for (.many is) (.items i) x))
      | _, _, _, _ => none
    | false => cForP T rec sc rs tg (.Call (.Attribute a m apos) [] [] cpos) b
  | iter, b => cForP T rec sc rs tg iter b
/-- return [..], the list to be changed by the caller -/
def cRet (T : Tab) (rec : Rec) (mu : List Str) (sc : Scope) : Expr → Option S
  | .ListComp elt gs scope q => match mu.contains ("return" : Str) with
    | true => (cLc T rec sc true elt scope gs).map .ret
    | false => (rec sc (.ListComp elt gs scope q)).map .ret
  | e => (rec sc e).map .ret
def stepS (T : Tab) (rec : Rec) (mu : List Str) (sc : Scope) (rs : RecS) : Stmt → Option S
  | .Return none _ => some .retN
  | .Return (some e) _ => cRet T rec mu sc e
  | .Expr e _ => guardO (notComp e) ((rec sc e).map .exp)
  | .Pass _ => some .pass
  | .Break _ => some .brk
  | .Continue _ => some .cont
  | .If c a b _ => match rec sc c, cSs rs a, cSs rs b with
    | some i, some x, some y => some (.ite i x y)
    | _, _, _ => none
  | .While c b [] _ => match rec sc c, cSs rs b with
    | some i, some x => some (.whl i x)
    | _, _ => none
  | .For tg iter b [] _ => cFor T rec sc rs tg iter b
  | .Assign [.Subscript a b _] c _ => match rec sc a, rec sc b, rec sc c with
    | some i, some j, some k => guardO (notSlice b && notComp c) (some (.put i j k))
    | _, _, _ => none
  | .Assign [.Attribute a f _] e _ => match rec sc a, cEl3 mu rec sc f e with
    | some i, some j => guardO (T.fds.contains f && notComp e) (some (.fld i f j))
    | _, _ => none
  | .Raise (some (.Call (.Name x _) [.Constant (.str _) _ _] [] _)) none _ => guardO (glC sc x && !(x == ("__debug__" : Str))) ((T.exc.lookup x).map .raise)
  | .Assign [.Name x _] e _ => cAsg1 T rec mu sc x e
  | .Assign [.Tuple ts _ _] e _ => cAsgT T rec mu sc ts e
  | _ => none
def cS (T : Tab) (rec : Rec) (mu : List Str) (sc : Scope) : Nat → RecS
  | 0, _ => none
  | n + 1, s => stepS T rec mu sc (cS T rec mu sc n) s
section
variable {X : Cx} {cls : Cl} {xa : Nat → Addr} {U : XW} {C : Ctx} {T : Tab} {sc : Scope} {rec : Rec} {mu : List Str} {rs : RecS}
/-- a def's body -/
structure PreS (X : Cx) (cls : Cl) (xa : Nat → Addr) (U : XW) (C : Ctx) (T : Tab) (sc : Scope) : Prop extends Pre X cls xa U C T sc where
  fn : ∀ x, X.fn x = true
  own : PassesOwn (model X.prog X.w) X.A X.env X.xe
  bk : X.env.blockKind = .function
def RecSOk (X : Cx) (cls : Cl) (U : XW) (C : Ctx) (rs : RecS) : Prop := ∀ s i, rs s = some i → GoodS X cls U C s i
theorem cSs_ok (h : RecSOk X cls U C rs) : ∀ {ss : List Stmt} {x : Ss}, cSs rs ss = some x → GoodSs X cls U C ss x
  | [], x, e => by cases e; exact s_nil
  | s :: ss, x, e => by
    rw [cSs] at e
    split at e
    · rename_i e1 e2
      cases e
      exact s_cons (h _ _ e1) (cSs_ok h e2)
    · cases e
theorem swp_none {ts : List Expr} {k : Nat} {p : Pos} {e : Expr} {env : PySem.Env} (h : notTup e = true) : swappedStores [.Tuple ts k p] e env = pure none := by
  cases e <;> first | rfl | (simp [notTup] at h)
theorem swp_par {x y : Str} {px py pt p2 : Pos} {kt k2 : Nat} {a b : Expr} {env : PySem.Env} (hb : env.blockKind = .function) (h : parC env.scope x y px py a b = true) :
    swappedStores [.Tuple [.Name x px, .Name y py] kt pt] (.Tuple [a, b] k2 p2) env = pure (some [x, y]) := by
  simp only [parC, Bool.and_eq_true, decide_eq_true_eq, Bool.not_eq_true', beq_eq_false_iff_ne, beq_iff_eq] at h
  obtain ⟨⟨⟨⟨⟨⟨⟨h1, h2⟩, h3⟩, h4⟩, h5⟩, h6⟩, h7⟩, h8⟩ := h
  have e1 : env.kindOf x = some .local := h1
  have e2 : env.kindOf y = some .local := h2
  unfold swappedStores
  simp only [hb]
  rw [if_neg (by simp), if_neg (fun hc => ?_), if_neg (by simp [e1, e2, h3, Expr.pos, List.eraseDups_cons, h4, Ne.symm h4]), if_neg (by rw [h7]; simp), if_neg (by rw [h8]; simp)]
  · simp [e1, e2, h3, Expr.pos]
  · simp only [List.any_cons, List.any_nil, Bool.or_false, Bool.or_eq_true] at hc
    rcases hc with hc | hc
    · split at hc
      · simp [noStar] at h5
      · cases hc
    · split at hc
      · simp [noStar] at h6
      · cases hc
theorem fm_len {α β : Type} {f : α → Option β} : ∀ {l : List α}, (l.filterMap f).length = l.length → ∀ x ∈ l, f x ≠ none
  | [], _, x, h => by cases h
  | a :: l, e, x, h => by
    rw [List.filterMap_cons] at e
    have hle := List.length_filterMap_le f l
    cases ha : f a with
    | none =>
      rw [ha] at e
      simp only [List.length_cons] at e
      omega
    | some b =>
      rw [ha] at e
      simp only [List.length_cons] at e
      rcases List.mem_cons.mp h with rfl | h
      · rw [ha]; simp
      · exact fm_len (by omega) x h
theorem swp_nsw {ts : List Expr} {k : Nat} {p : Pos} {e : Expr} {env : PySem.Env} (h : nswC env.scope ts e = true) : swappedStores [.Tuple ts k p] e env = pure none := by
  unfold nswC at h
  split at h
  · rename_i vs k2 p2
    unfold swappedStores
    simp only
    split
    · rfl
    · split
      · rfl
      · rw [Bool.or_eq_true] at h
        rcases h with h | h
        · rw [if_pos]
          rw [Bool.or_eq_true]
          refine .inl ?_
          rw [bne_iff_ne]
          intro hl
          obtain ⟨t, ht, hx⟩ := List.any_eq_true.mp h
          have := fm_len hl t ht
          split at hx
          · rename_i x q
            simp only [Bool.not_eq_true', decide_eq_false_iff_not] at hx
            have e1 : (env.kindOf x == some .local) = false := by
              have e2 : env.kindOf x ≠ some .local := hx
              simpa using e2
            simp [e1] at this
          · cases hx
        · split
          · rfl
          · first | rfl | (rw [if_pos h]; rfl)
  · cases h
theorem o_el {e : Expr} {i : E} (hr : RecOk cls xa C T rec) (p : Pre X cls xa U C T sc) (h : cEl rec sc e = some i) : Good X cls U C e i := by
  unfold cEl at h
  split at h
  · rename_i es q
    obtain ⟨h1, h2⟩ := guardO_some h
    cases z : mapO (rec sc) es with
    | none => rw [z] at h2; cases h2
    | some is => rw [z] at h2; cases h2; exact g_lstM (goods_of hr p z) h1
  · exact hr X U sc _ _ p h
theorem o_el3 {x : Str} {e : Expr} {i : E} (hr : RecOk cls xa C T rec) (p : Pre X cls xa U C T sc) (h : cEl3 mu rec sc x e = some i) : Good X cls U C e i := by
  unfold cEl3 at h
  split at h
  · exact o_el hr p h
  · exact hr X U sc _ _ p h
theorem swp_par3 {x y z : Str} {px py pz pt p2 : Pos} {kt k2 : Nat} {a b c : Expr} {env : PySem.Env} (hb : env.blockKind = .function) (h : par3C env.scope x y z px py pz a b c = true) :
    swappedStores [.Tuple [.Name x px, .Name y py, .Name z pz] kt pt] (.Tuple [a, b, c] k2 p2) env = pure (some [x, y, z]) := by
  simp only [par3C, Bool.and_eq_true, decide_eq_true_eq, Bool.not_eq_true', beq_eq_false_iff_ne, beq_iff_eq] at h
  obtain ⟨⟨⟨⟨⟨⟨⟨⟨⟨⟨⟨⟨h1, h2⟩, h3⟩, h4⟩, h5⟩, h6⟩, h7⟩, h8⟩, h9⟩, h10⟩, h11⟩, h12⟩, h13⟩ := h
  have e1 : env.kindOf x = some .local := h1
  have e2 : env.kindOf y = some .local := h2
  have e3 : env.kindOf z = some .local := h3
  have h5' : pz.line = py.line := by rw [← h5, h4]
  unfold swappedStores
  simp only [hb]
  rw [if_neg (by simp), if_neg (fun hc => ?_), if_neg (by simp [e1, e2, e3, h4, h5', Expr.pos, List.eraseDups_cons, h6, h7, h8, Ne.symm h6, Ne.symm h7, Ne.symm h8]), if_neg (by rw [h12]; simp), if_neg (by rw [h13]; simp)]
  · simp [e1, e2, e3, h4, h5', Expr.pos]
  · simp only [List.any_cons, List.any_nil, Bool.or_false, Bool.or_eq_true] at hc
    rcases hc with hc | hc | hc
    · split at hc
      · simp [noStar] at h9
      · cases hc
    · split at hc
      · simp [noStar] at h10
      · cases hc
    · split at hc
      · simp [noStar] at h11
      · cases hc
theorem s_par3 {x y z : Str} {px py pz pt pt2 pos : Pos} {kt k2 n m l : Nat} {a b c : Expr} {i j k : E} (hc : X.calm = true) (hN : X.N.Nodup) (hn : X.N[n]? = some x) (hm : X.N[m]? = some y) (hl : X.N[l]? = some z) (hnm : n ≠ m) (hnl : n ≠ l) (hml : m ≠ l) (hx : X.env.scope.names.lookup x = some .local) (hy : X.env.scope.names.lookup y = some .local) (hz : X.env.scope.names.lookup z = some .local)
    (ha : Good X cls U C a i) (hb : Good X cls U C b j) (hd : Good X cls U C c k) (hsa : noStar a = true) (hsb : noStar b = true) (hsc : noStar c = true)
    (hw : swappedStores [.Tuple [.Name x px, .Name y py, .Name z pz] kt pt] (.Tuple [a, b, c] k2 pt2) X.env = pure (some [x, y, z])) :
    GoodS X cls U C (.Assign [.Tuple [.Name x px, .Name y py, .Name z pz] kt pt] (.Tuple [a, b, c] k2 pt2) pos) (.set (.many [n, m, l]) (.tup (.cons i (.cons j (.cons k .nil))))) := by
  refine PS.mono (ps_par3 hc hN hn hm hl hnm hnl hml hx hy hz (pa_cons ha.pe (pa_cons hb.pe (pa_cons hd.pe pa_nil (starEach_no hsc)) (starEach_no hsb)) (starEach_no hsa)) hw rfl) fun D σ H h => ?_
  obtain ⟨W, env, st, he, A, q⟩ := h
  rw [evS, evE, evEs] at q
  simp only [R.bind_assoc] at q
  refine ⟨W, env, st, he, A, (q.bind).mono fun v H1 ⟨W1, st1, d, x1, A1, r1, q1⟩ => ?_⟩
  rw [evEs] at q1
  simp only [R.bind_assoc] at q1
  refine ⟨W1, env, st1, he.mono x1.le, A1, (q1.bind).mono fun u H2 ⟨W2, st2, d2, x2, A2, r2, q2⟩ => ?_⟩
  rw [evEs] at q2
  simp only [R.bind_assoc] at q2
  refine ⟨W2, env, st2, (he.mono x1.le).mono x2.le, A2, (q2.bind).mono fun t H3 ⟨W3, st3, d3, x3, A3, r3, q3⟩ => ?_⟩
  rw [evEs] at q3
  simp only [R.bind_ok] at q3
  exact ⟨v, u, t, rfl, AftS.next q3 A3 (((((he.mono x1.le).mono x2.le).mono x3.le).set n ((r1.mono x2.le).mono x3.le)).set m (r2.mono x3.le) |>.set l r3)⟩
theorem o_asg1 {x : Str} {e : Expr} {py pos : Pos} {i : S} (hr : RecOk cls xa C T rec) (p : PreS X cls xa U C T sc) (h : cAsg1 T rec mu sc x e = some i) : GoodS X cls U C (.Assign [.Name x py] e pos) i := by
  unfold cAsg1 at h
  split at h
  · cases h
  · rename_i n hn
    have nm : NmOk X x n := nmC_ok (T := T) p.tb.N p.sc (fun x _ => p.fn x) hn
    have nd := p.tb.nd
    split at h
    · rename_i elt gs scope cp
      cases z : cLc T rec sc (mu.contains x) elt scope gs with
      | none => rw [z] at h; cases h
      | some j =>
        rw [z] at h
        cases h
        obtain ⟨tg, iter, ifs, own, t, it, cd, ie, rfl, rfl, hp, hi, ok, gb, ht, hs, hm⟩ := o_lc hr p.toPre z
        have hsw : swapsWith (.ListComp elt [⟨tg, iter, ifs, 0⟩] scope cp) (some (.Name x py)) pos.line X.env = pure (X.env.blockKind == .function && X.env.kindOf x == some .local && py.line == (Expr.ListComp elt [⟨tg, iter, ifs, 0⟩] scope cp).pos.line && !(scope.names.any fun (n, k) => n == x && (k == .local || k == .cell))) := rfl
        cases hb : (X.env.blockKind == .function && X.env.kindOf x == some .local && py.line == (Expr.ListComp elt [⟨tg, iter, ifs, 0⟩] scope cp).pos.line && !(scope.names.any fun (n, k) => n == x && (k == .local || k == .cell))) with
        | true =>
          rw [hb] at hsw
          simp only [Bool.and_eq_true, beq_iff_eq] at hb
          exact s_setLc p.tb.calm nd nm.hi hb.1.1.2 hsw hp hi ok gb ht hm (notSet_fold hs)
        | false =>
          rw [hb] at hsw
          exact s_set1 nd nm (good_val (g_lc p.tb.calm nd hp hi ok gb ht hm (notSet_fold hs)) fun _ => rfl) hsw
    · rename_i es q
      split at h
      · obtain ⟨h1, h2⟩ := guardO_some h
        split at h2
        · cases z : mapO (cEl rec sc) es with
          | none => rw [z] at h2; cases h2
          | some is => rw [z] at h2; cases h2; exact s_set1 nd nm (g_lstM (goods_by (fun e i => o_el hr p.toPre) z) h1) rfl
        · cases z : mapO (rec sc) es with
          | none => rw [z] at h2; cases h2
          | some is => rw [z] at h2; cases h2; exact s_set1 nd nm (g_lstM (goods_of hr p.toPre z) h1) rfl
      · cases z : rec sc (.List es q) with
        | none => rw [z] at h; cases h
        | some j => rw [z] at h; cases h; exact s_set1 nd nm (hr X U sc _ _ p.toPre z) rfl
    · rename_i y q a pc
      split at h
      · rename_i hx
        rw [Bool.and_eq_true] at hx
        have e2 := eq_of_beq hx.2
        subst e2
        obtain ⟨h1, h2⟩ := guardO_some h
        simp only [Bool.and_eq_true] at h1
        cases z : rec sc a with
        | none => rw [z] at h2; cases h2
        | some j => rw [z] at h2; cases h2; exact s_set1 nd nm (g_bltT (is := []) cd_listN (gl_of p.toPre h1.1.1) (p.tb.free _ h1.1.2) (by decide +kernel) (by decide) (by decide) (hr X U sc _ _ p.toPre z) .nil (by simpa using h1.2)) rfl
      · cases z : rec sc (.Call (.Name y q) [a] [] pc) with
        | none => rw [z] at h; cases h
        | some j => rw [z] at h; cases h; exact s_set1 nd nm (hr X U sc _ _ p.toPre z) (noswap rfl)
    · obtain ⟨h1, h2⟩ := guardO_some h
      cases z : rec sc e with
      | none => rw [z] at h2; cases h2
      | some j => rw [z] at h2; cases h2; exact s_set1 nd nm (hr X U sc _ _ p.toPre z) (noswap h1)
theorem o_asgT {ts : List Expr} {kt : Nat} {e : Expr} {pt pos : Pos} {i : S} (hr : RecOk cls xa C T rec) (p : PreS X cls xa U C T sc) (h : cAsgT T rec mu sc ts e = some i) : GoodS X cls U C (.Assign [.Tuple ts kt pt] e pos) i := by
  unfold cAsgT at h
  split at h
  · cases h
  · rename_i is hn
    have nms : NmsOk X ts is := nmsC_ok (T := T) p.tb.N p.sc (fun x _ => p.fn x) hn
    split at h
    · rename_i hns
      rw [← p.sc] at hns
      obtain ⟨h1, h2⟩ := guardO_some h
      cases z : rec sc e with
      | none => rw [z] at h2; cases h2
      | some j => rw [z] at h2; cases h2; exact s_setM p.tb.calm p.tb.nd nms (hr X U sc _ _ p.toPre z) h1 (swp_nsw hns)
    · rename_i hns
      clear hns
      split at h
      · rename_i x px y py z pz a b c k2 p2
        split at h
        · rename_i i j k n m l e1 e2 e3
          obtain ⟨h1, h2⟩ := guardO_some h
          cases h2
          simp only [Bool.and_eq_true] at h1
          obtain ⟨⟨⟨hq, w1⟩, w2⟩, w3⟩ := h1
          rw [← p.sc] at hq
          have hw := swp_par3 (kt := kt) (pt := pt) (k2 := k2) (p2 := p2) p.bk hq
          simp only [par3C, Bool.and_eq_true, decide_eq_true_eq] at hq
          obtain ⟨⟨⟨⟨⟨⟨⟨⟨⟨⟨⟨⟨q1, q2⟩, q3⟩, q4⟩, q5⟩, q6⟩, q7⟩, q8⟩, q9⟩, q10⟩, q11⟩, q12⟩, q13⟩ := hq
          cases nms with
          | cons n1 t1 => cases t1 with
            | cons n2 t2 => cases t2 with
              | cons n3 t3 => exact s_par3 p.tb.calm p.tb.nd n1.hi n2.hi n3.hi (by simpa using w1) (by simpa using w2) (by simpa using w3) q1 q2 q3 (o_el3 hr p.toPre e1) (o_el3 hr p.toPre e2) (o_el3 hr p.toPre e3) q9 q10 q11 hw
        · cases h
      · rename_i x px y py a b k2 p2
        split at h
        · rename_i i j n m e1 e2
          obtain ⟨h1, h2⟩ := guardO_some h
          cases h2
          rw [Bool.and_eq_true] at h1
          have hq := h1.1
          rw [← p.sc] at hq
          have hw := swp_par (kt := kt) (pt := pt) (k2 := k2) (p2 := p2) p.bk hq
          simp only [parC, Bool.and_eq_true, decide_eq_true_eq] at hq
          cases nms with
          | cons n1 t1 => cases t1 with
            | cons n2 t2 => exact s_par p.tb.calm p.tb.nd n1.hi n2.hi (by simpa using h1.2) hq.1.1.1.1.1.1.1 hq.1.1.1.1.1.1.2 (hr X U sc _ _ p.toPre e1) (hr X U sc _ _ p.toPre e2) hq.1.1.1.2 hq.1.1.2 hw
        · cases h
      · obtain ⟨h1, h2⟩ := guardO_some h
        rw [Bool.and_eq_true] at h1
        cases z : rec sc e with
        | none => rw [z] at h2; cases h2
        | some j => rw [z] at h2; cases h2; exact s_setM p.tb.calm p.tb.nd nms (hr X U sc _ _ p.toPre z) h1.2 (swp_none h1.1)
theorem o_forP {tg iter : Expr} {b : List Stmt} {pos : Pos} {i : S} (hr : RecOk cls xa C T rec) (p : PreS X cls xa U C T sc) (hs : RecSOk X cls U C rs) (h : cForP T rec sc rs tg iter b = some i) : GoodS X cls U C (.For tg iter b [] pos) i := by
  unfold cForP at h
  split at h
  · rename_i t it x e1 e2 e3
    obtain ⟨h1, h2⟩ := guardO_some h
    cases h2
    simp only [Bool.and_eq_true, Bool.or_eq_true, Bool.not_eq_true'] at h1
    have hm : it.pair = true → t.isMany = true := fun z => h1.2.elim (fun y => by rw [y] at z; cases z) id
    obtain ⟨hi, hp⟩ := o_it (tg := tg) hr p.toPre e2 fun z => let ⟨es, k, q, is, h1, h2⟩ := tg_tuple e1 (hm z); ⟨es, k, q, h1⟩
    exact s_for p.own p.tb.calm p.tb.nd hp hi (tgC_ok (T := T) p.tb.N p.sc (fun x _ => p.fn x) e1) (fun z => let ⟨es, k, q, is, h1, h2⟩ := tg_tuple e1 (hm z); ⟨is, h2⟩) (cSs_ok hs e3) (notSet_fold h1.1)
  · cases h
theorem o_for {tg iter : Expr} {b : List Stmt} {pos : Pos} {i : S} (hr : RecOk cls xa C T rec) (p : PreS X cls xa U C T sc) (hs : RecSOk X cls U C rs) (h : cFor T rec sc rs tg iter b = some i) : GoodS X cls U C (.For tg iter b [] pos) i := by
  unfold cFor at h
  split at h
  · split at h
    · split at h
      · rename_i t i x e1 e2 e3
        cases h
        exact s_forK p.own p.tb.calm p.tb.nd (hr X U sc _ _ p.toPre e2) (tgC_ok (T := T) p.tb.N p.sc (fun x _ => p.fn x) e1) (cSs_ok hs e3) (notSet_fold rfl)
      · cases h
    · exact o_forP hr p hs h
  · split at h
    · rename_i hx
      have hx := eq_of_beq hx
      subst hx
      split at h
      · rename_i es k q t e1 e2 e3 e4 e5
        obtain ⟨h1, h2⟩ := guardO_some h
        cases h2
        simp only [Bool.and_eq_true] at h1
        exact s_forI p.own p.tb.calm p.tb.nd (hr X U sc _ _ p.toPre ‹_›) (tgC_ok (T := T) p.tb.N p.sc (fun x _ => p.fn x) ‹_›) (cSs_ok hs ‹_›) h1.1 h1.2
      · cases h
    · exact o_forP hr p hs h
  · exact o_forP hr p hs h
theorem o_ret {e : Expr} {pos : Pos} {i : S} (hr : RecOk cls xa C T rec) (p : PreS X cls xa U C T sc) (h : cRet T rec mu sc e = some i) : GoodS X cls U C (.Return (some e) pos) i := by
  have seq : ∀ e, (rec sc e).map S.ret = some i → GoodS X cls U C (.Return (some e) pos) i := fun e h => by
    cases z : rec sc e with
    | none => rw [z] at h; cases h
    | some j => rw [z] at h; cases h; exact s_ret (hr X U sc _ _ p.toPre z)
  unfold cRet at h
  split at h
  · rename_i elt gs scope q
    split at h
    · cases z : cLc T rec sc true elt scope gs with
      | none => rw [z] at h; cases h
      | some j =>
        rw [z] at h
        cases h
        obtain ⟨tg, iter, ifs, own, t, it, cd, ie, rfl, rfl, hp, hi, ok, gb, ht, hs, hm⟩ := o_lc hr p.toPre z
        exact s_ret (good_val (g_lc p.tb.calm p.tb.nd hp hi ok gb ht hm (notSet_fold hs)) fun _ => rfl)
    · exact seq _ h
  · exact seq _ h
theorem stepS_ok (hr : RecOk cls xa C T rec) (p : PreS X cls xa U C T sc) (hs : RecSOk X cls U C rs) : RecSOk X cls U C (stepS T rec mu sc rs) := by
  intro s i h
  unfold stepS at h
  split at h
  · cases h; exact s_retN
  · exact o_ret hr p h
  · obtain ⟨h1, h2⟩ := guardO_some h
    cases z : rec sc ‹_› with
    | none => rw [z] at h2; cases h2
    | some j => rw [z] at h2; cases h2; exact s_exp (hr X U sc _ _ p.toPre z) h1
  · cases h; exact s_pass
  · cases h; exact s_brk
  · cases h; exact s_cont
  · split at h
    · rename_i e1 e2 e3
      cases h
      exact s_ite (hr X U sc _ _ p.toPre e1) (cSs_ok hs e2) (cSs_ok hs e3)
    · cases h
  · split at h
    · rename_i e1 e2
      cases h
      exact s_whl p.own (hr X U sc _ _ p.toPre e1) (cSs_ok hs e2)
    · cases h
  · exact o_for hr p hs h
  · split at h
    · rename_i e1 e2 e3
      obtain ⟨h1, h2⟩ := guardO_some h
      cases h2
      rw [Bool.and_eq_true] at h1
      exact s_put p.tb.hu (hr X U sc _ _ p.toPre e1) (hr X U sc _ _ p.toPre e2) (hr X U sc _ _ p.toPre e3) h1.1 h1.2
    · cases h
  · split at h
    · rename_i e1 e2
      obtain ⟨h1, h2⟩ := guardO_some h
      cases h2
      rw [Bool.and_eq_true] at h1
      exact s_fld (p.tb.fds _ h1.1) (hr X U sc _ _ p.toPre e1) (o_el3 hr p.toPre e2) (noswap h1.2)
    · cases h
  · obtain ⟨h1, h2⟩ := guardO_some h
    rw [Bool.and_eq_true] at h1
    rename_i xn q3 ms kc q2 q1 q0
    cases z : T.exc.lookup xn with
    | none => rw [z] at h2; cases h2
    | some k =>
      rw [z] at h2
      cases h2
      obtain ⟨k1, k2, k3, k4, k5⟩ := p.tb.exc _ _ z
      exact s_raise p.tb.calm p.tk k2 k3 k4 k5 k1 (gl_of p.toPre h1.1) (by simpa using h1.2)
  · exact o_asg1 hr p h
  · exact o_asgT hr p h
  · cases h
theorem cS_ok (hr : RecOk cls xa C T rec) (p : PreS X cls xa U C T sc) : ∀ n, RecSOk X cls U C (cS T rec mu sc n)
  | 0 => fun _ _ h => by cases h
  | n + 1 => stepS_ok hr p (cS_ok hr p n)
end
end EV
/-! EvQ: a program's defs keep what the evaluator tells of them. -/
namespace EV
open PySem PySem.Spec PyProof.Rows L2

/-- a def as it stands in the text; ps its parameters, N its slots' names, mu the names of lists that grow -/
structure DefS where
  x : Str
  qual : Str
  params : Arguments
  body : List Stmt
  scope : Scope
  ps : List Str
  N : List Str
  mu : List Str
  dk : List Str
  cl : Option Str := none
  lam : Bool := false
  lx : Bool := false
  gd : Bool := false
/-- own classes: their names with numbers, the names of methods and of attributes -/
structure Kls where
  cs : List (Str × Nat)
  mts : List Str
  fds : List Str
  exc : List (Str × Nat) := []
  gn : List Str := []
def DefS.tab (fn : List (Str × Nat)) (free : List Str) (nums : List (Str × Lt)) (kl : Kls) (d : DefS) : Tab := ⟨d.N, fn, free, nums, d.dk, kl.cs, kl.mts, kl.fds, kl.exc, d.lam, d.lx, d.gd, kl.gn⟩
def DefS.comp (fn : List (Str × Nat)) (free : List Str) (nums : List (Str × Lt)) (kl : Kls) (fuel : Nat) (d : DefS) : Option FDef :=
  (cSs (cS (d.tab fn free nums kl) (cE (d.tab fn free nums kl) fuel) d.mu d.scope fuel) d.body).map fun b => ⟨d.ps.length, d.N.length, b⟩
def DefS.scopeC (d : DefS) : Bool := (match d.scope.kind with | .function => true | _ => false) && !d.scope.isCoroutine && !d.scope.isGenerator && decide d.N.Nodup && decide (d.N.take d.ps.length = d.ps) &&
  (d.ps.all fun x => decide (d.scope.names.lookup x = some .local) || decide (d.scope.names.lookup x = some .cell)) && (d.scope.names.all fun y => decide (y.2 ≠ .free))
theorem DefS.scope_ok {d : DefS} (h : d.scopeC = true) : FnScope d.N d.ps d.scope := by
  simp only [scopeC, Bool.and_eq_true, Bool.not_eq_true', decide_eq_true_eq, List.all_eq_true, Bool.or_eq_true] at h
  obtain ⟨⟨⟨⟨⟨⟨h1, h2⟩, h3⟩, h4⟩, h5⟩, h6⟩, h7⟩ := h
  refine ⟨?_, h2, h3, h4, h5, h6, h7⟩
  split at h1
  · assumption
  · cases h1
structure Sys (K : PySem.W.Frag) (mg : Str → Option Value) (dl : Nat → Option DefS) (fn : List (Str × Nat)) (free : List Str) (nums : List (Str × Lt)) (kl : Kls) (cls : Cl) (xa : Nat → Addr) (ct : List (Addr × Addr)) (G : Prg) (fa : Nat → Addr) (fd : Nat → FuncData) : Prop where
  def_ : ∀ (f : Nat) (d : DefS), dl f = some d → FunD K d.x d.qual d.params d.body d.scope [] [] (fa f) (fd f)
  bind : ∀ (f : Nat) (d : DefS), dl f = some d → Binds K (fd f) d.ps []
  scp : ∀ (f : Nat) (d : DefS), dl f = some d → d.scopeC = true
  glo : ∀ x f, fn.lookup x = some f → mg x = some (.ref (fa f))
  has : ∀ x f, fn.lookup x = some f → ∃ d, dl f = some d ∧ (kl.gn.contains x = false → d.gd = false)
  free : ∀ x, free.contains x = true → mg x = none
  nums : ∀ x i, nums.lookup x = some i → Lt.At (mg x) i
  cca : ∀ x c, kl.cs.lookup x = some c → ∃ CA f d, cls c = some CA ∧ G.init c = some f ∧ dl f = some d ∧ Mk K CA (fa f) ∧ mg x = some (.ref CA) ∧ d.gd = false
  cmt : ∀ m, kl.mts.contains m = true → ∀ c CA f, cls c = some CA → G.meth c m = some f → ∃ d, dl f = some d ∧ Cls K CA ∧ Meth K CA m (fa f) ∧ d.gd = false
  cfd : ∀ f, kl.fds.contains f = true → ClsOk K cls f
  exc : ∀ x k, kl.exc.lookup x = some k → mg x = some (.ref (xa k)) ∧ PySem.W.excIn K (xa k) He.veBase "ValueError.__new__" = true ∧ PySem.W.keepIn K (.ref (xa k)) = true ∧ PySem.W.subIn K (.ref (xa k)) (.type "BaseException") = some true ∧ PySem.W.typeIn K (.ref (xa k)) = some (.type "type")
  lam : ∀ f d, dl f = some d → d.lam = true → ∃ (g c P CS : Addr) (l : Nat) (pg : Arguments) (fdt : FuncData), mg "_law_told" = some (.ref g) ∧ FunD K "_law_told" "_law_told" pg (toldBody l) toldScope [] [] g fdt ∧ Binds K fdt ["deed"] [] ∧ (∀ k, k < 3 → mg (excNm.getD k "") = some (.ref (xa k))) ∧
    mg "isinstance" = none ∧ mg "ValueError" = none ∧ mg "DiceError" = some (.ref CS) ∧ ExK K xa CS ∧ (c, P) ∈ ct ∧ (fd f).code = .ref c ∧ (P, d.qual ++ ".<locals>." ++ "<lambda>") ∈ cls.T ∧ ∀ p ∈ cls.T, p.1 = P → p.2 = d.qual ++ ".<locals>." ++ "<lambda>"
/-- .. of a def that may call repr -/
theorem fn_DG {P : Program} {w : World} {K : PySem.W.Frag} {mg : Str → Option Value} {base : Heap} {cls : Cl} {xa : Nat → Addr} {x qual : Str} {params : Arguments} {body : List Stmt} {scope : Scope} {dvs : List V} {kws : List (Str × V)} {f : Addr} {fd : FuncData} {N ps : List Str} {n : Nat} {C : Ctx} {d : FDef}
    (F : FunD K x qual params body scope dvs kws f fd) (S : FnScope N ps scope) (hp : d.np = ps.length) (hs : d.ns = N.length)
    (hb : ∀ (cdv : Value) (A : Around) (outer : List PySem.Env) (s : Shared) (H : Hp) (E : XK), fd.code = cdv → A.guards = some [] → Room n (A.deeper (envOfC qual scope s.heap.objs.size f cdv)) →
      GoodSs (cxOf (L2.CX P w) P w K mg base N qual scope f cdv A outer s H E) cls (fun k H => E (.ref (xa k)) none H) C body d.body) :
    EVG.FnG P w K mg base (L2.CX P w) (n + 1) f fd ps (spD K w cls xa (d.run C)) := by
  refine EVG.fnG_of F S (fun vs H Q E h => ?_) fun cdv A outer s H vs Q E hcd gd hr h => ?_
  · obtain ⟨W, st, ds, A, r, q⟩ := h
    rw [FDef.run] at q
    split at q
    · rename_i e
      rw [r.length, e, hp]
    · exact q.elim
  · obtain ⟨W, st, ds, Ag, r, q⟩ := h
    rw [FDef.run] at q
    split at q
    · rename_i e
      refine ⟨_, hb cdv A outer s H E hcd gd hr, W, _, st, env_start r, Ag, ?_⟩
      rw [hs, ← e] at q
      exact back_ok Ag q
    · exact q.elim
section
variable {P : Program} {w : World} {K : PySem.W.Frag} {mg : Str → Option Value} {base : Heap} {cls : Cl} {xa : Nat → Addr} {G : Prg} {dl : Nat → Option DefS} {fn : List (Str × Nat)} {free : List Str} {nums : List (Str × Lt)} {kl : Kls} {fuel : Nat} {fa : Nat → Addr} {fd : Nat → FuncData} {ct : List (Addr × Addr)}
theorem fn_bad {k : Nat} {f : Addr} {fdd : FuncData} {ps : List Str} {sp : Sp} (h : ∀ vs H Q E, ¬ sp vs H Q E) : FnOk P w K mg base (L2.CX P w) k f fdd ps sp :=
  ⟨fun vs H Q E q => (h vs H Q E q).elim, fun A outer s H args us vs Q E _ _ _ _ q => (h vs H Q E q).elim⟩
theorem spD_bad {call : List D → Store → R D} (h : ∀ ds st, call ds st = .bad) : ∀ vs H Q E, ¬ spD K w cls xa call vs H Q E := fun vs H Q E ⟨W, st, ds, A, r, q⟩ => by
  rw [h] at q
  exact q
/-- what is known of a def's context -/
theorem tab_of (hlib : ∀ X' : Cx, X'.calm = true → X'.A.units + 64 < cLine → Lib X' cls) (S : Sys K mg dl fn free nums kl cls xa ct G fa fd) (TB : ∀ p ∈ ct, LamX.TabB base mg p.1 p.2) {c0 : Nat} (hc2 : 2 ≤ c0) (hc4 : ∀ f d, dl f = some d → d.lam = true → 4 ≤ c0)
    {n e0 f : Nat} {d : DefS} (ih : ∀ (g : Nat) (d2 : DefS), dl g = some d2 → d2.gd = false → FnOk P w K mg base (L2.CX P w) (c0 * n) (fa g) (fd g) d2.ps (spD K w cls xa (G.call n g))) (hd : dl f = some d) (sc : FnScope d.N d.ps d.scope) (he0 : c0 * n + c0 = e0 + 1)
    {cdv : Value} {A : Around} {outer : List PySem.Env} {s : Shared} {H : Hp} {E : XK} (hcd : (fd f).code = cdv) (hr : Room e0 (A.deeper (envOfC d.qual d.scope s.heap.objs.size (fa f) cdv)))
    (hgd : d.gd = true → A.guards = some [] ∧ ∀ (g : Nat) (d2 : DefS), dl g = some d2 → EVG.FnG P w K mg base (L2.CX P w) (c0 * n) (fa g) (fd g) d2.ps (spD K w cls xa (G.call n g))) :
    TabOk (cxOf (L2.CX P w) P w K mg base d.N d.qual d.scope (fa f) cdv A outer s H E) cls xa (G.ctx n) (d.tab fn free nums kl) := by
  refine ⟨rfl, sc.nd, hr.units, rfl, hlib, fun x g hx hgn => ?_, S.free, fun x c hx => ?_, fun m hm c CA f hc hf => ?_, S.cfd, S.nums, S.exc, fun hlam => ?_, fun _ => ⟨rfl, rfl⟩, fun z => ?_⟩
  · obtain ⟨d2, hd2, h2⟩ := S.has x g hx
    exact ⟨c0 * n, fa g, fd g, d2.ps, ih g d2 hd2 (h2 hgn), hr.mono (by omega), S.glo x g hx, (S.def_ g d2 hd2).kp, S.bind g d2 hd2⟩
  · obtain ⟨CA, g, d2, k1, k2, hd2, M, hm, h2⟩ := S.cca x c hx
    exact ⟨CA, g, c0 * n, fa g, fd g, d2.ps, k1, k2, M, ih g d2 hd2 h2, hr.mono (by omega), hm, S.bind g d2 hd2⟩
  · obtain ⟨d2, hd2, c1, c2, h2⟩ := S.cmt m hm c CA f hc hf
    exact ⟨c0 * n, fa f, fd f, d2.ps, c1, c2, ih f d2 hd2 h2, hr.mono (by omega), S.bind f d2 hd2⟩
  · obtain ⟨g, c, P0, CS, l, pg, fdt, k1, k2, k3, k4, k5, k6, k7, k8, k9, k10, k11, k12⟩ := S.lam f d hd hlam
    have h4 := hc4 f d hd hlam
    refine ⟨g, c, P0, CS, c0 * n + 1, l, pg, fdt, k1, k2, k3, k4, k5, k6, k7, k8, TB _ k9, hcd.symm.trans k10, k11, k12, hr.mono (by omega), fun x g hx hgn => ?_, fun x c hx => ?_, fun m hm c CA f hc hf => ?_⟩
    · obtain ⟨d2, hd2, h2⟩ := S.has x g hx
      exact ⟨c0 * n, fa g, fd g, d2.ps, by omega, ih g d2 hd2 (h2 hgn), S.glo x g hx, (S.def_ g d2 hd2).kp, S.bind g d2 hd2⟩
    · obtain ⟨CA, g, d2, k1, k2, hd2, M, hm, h2⟩ := S.cca x c hx
      exact ⟨CA, g, c0 * n, fa g, fd g, d2.ps, by omega, k1, k2, M, ih g d2 hd2 h2, hm, S.bind g d2 hd2⟩
    · obtain ⟨d2, hd2, c1, c2, h2⟩ := S.cmt m hm c CA f hc hf
      exact ⟨c0 * n, fa f, fd f, d2.ps, by omega, c1, c2, ih f d2 hd2 h2, S.bind f d2 hd2⟩
  · obtain ⟨g1, g2⟩ := hgd z
    refine ⟨g1, fun x g hx => ?_⟩
    obtain ⟨d2, hd2, _⟩ := S.has x g hx
    exact ⟨c0 * n, fa g, fd g, d2.ps, g2 g d2 hd2, hr.mono (by omega), S.glo x g hx, (S.def_ g d2 hd2).kp, S.bind g d2 hd2⟩
theorem prog_ok (hlib : ∀ X' : Cx, X'.calm = true → X'.A.units + 64 < cLine → Lib X' cls) (S : Sys K mg dl fn free nums kl cls xa ct G fa fd) (TB : ∀ p ∈ ct, LamX.TabB base mg p.1 p.2) {c0 : Nat} (hc2 : 2 ≤ c0) (hc4 : ∀ f d, dl f = some d → d.lam = true → 4 ≤ c0) (hG : ∀ (f : Nat) (d : DefS) (fdef : FDef), dl f = some d → G.fn f = some fdef → d.comp fn free nums kl fuel = some fdef) :
    ∀ (n f : Nat) (d : DefS), dl f = some d → d.gd = false → FnOk P w K mg base (L2.CX P w) (c0 * n) (fa f) (fd f) d.ps (spD K w cls xa (G.call n f))
  | 0, f, d, hd, _ => fn_bad (spD_bad fun ds st => rfl)
  | n + 1, f, d, hd, hng => by
    cases e : G.fn f with
    | none => exact fn_bad (spD_bad fun ds st => by rw [Prg.call, e])
    | some fdef =>
      have hc := hG f d fdef hd e
      have eq : G.call (n + 1) f = fdef.run (G.ctx n) := by funext ds st; exact G.call_succ n f ds st e
      rw [eq]
      rw [DefS.comp] at hc
      cases z : cSs (cS (d.tab fn free nums kl) (cE (d.tab fn free nums kl) fuel) d.mu d.scope fuel) d.body with
      | none => rw [z] at hc; cases hc
      | some b =>
        rw [z] at hc
        cases hc
        have sc := DefS.scope_ok (S.scp f d hd)
        obtain ⟨e0, he0⟩ : ∃ e0, c0 * (n + 1) = e0 + 1 ∧ c0 * n + c0 = e0 + 1 := ⟨c0 * (n + 1) - 1, by rw [Nat.mul_add]; omega, by rw [Nat.mul_add]; omega⟩
        rw [he0.1]
        refine fn_D (n := e0) (S.def_ f d hd) sc rfl rfl fun cdv A outer s H E hcd hr => ?_
        refine cSs_ok (cS_ok (xa := xa) (sc := d.scope) (cE_ok fuel) ⟨⟨tab_of hlib S TB hc2 hc4 (prog_ok hlib S TB hc2 hc4 hG n) hd sc he0.2 hcd hr fun z => (by rw [hng] at z; cases z), rfl, ?_⟩, fun _ => rfl, passes_of rfl, ?_⟩ fuel) z
        · refine (takes_of rfl rfl rfl rfl).imp fun c dd σ H ⟨k, e1, e2, u⟩ => ?_
          subst e1 e2
          exact u
        · show (if d.scope.kind.isAnnotationScope then ScopeKind.function else d.scope.kind) = .function
          rw [sc.kind]
          rfl
theorem fnG_bad {k : Nat} {f : Addr} {fdd : FuncData} {ps : List Str} {sp : Sp} (h : ∀ vs H Q E, ¬ sp vs H Q E) : EVG.FnG P w K mg base (L2.CX P w) k f fdd ps sp := .of (fn_bad h)
/-- .. where no repr runs around -/
theorem prog_okG (hlib : ∀ X' : Cx, X'.calm = true → X'.A.units + 64 < cLine → Lib X' cls) (S : Sys K mg dl fn free nums kl cls xa ct G fa fd) (TB : ∀ p ∈ ct, LamX.TabB base mg p.1 p.2) {c0 : Nat} (hc2 : 2 ≤ c0) (hc4 : ∀ f d, dl f = some d → d.lam = true → 4 ≤ c0) (hG : ∀ (f : Nat) (d : DefS) (fdef : FDef), dl f = some d → G.fn f = some fdef → d.comp fn free nums kl fuel = some fdef) :
    ∀ (n f : Nat) (d : DefS), dl f = some d → EVG.FnG P w K mg base (L2.CX P w) (c0 * n) (fa f) (fd f) d.ps (spD K w cls xa (G.call n f))
  | 0, f, d, hd => fnG_bad (spD_bad fun ds st => rfl)
  | n + 1, f, d, hd => by
    cases e : G.fn f with
    | none => exact fnG_bad (spD_bad fun ds st => by rw [Prg.call, e])
    | some fdef =>
      have hc := hG f d fdef hd e
      have eq : G.call (n + 1) f = fdef.run (G.ctx n) := by funext ds st; exact G.call_succ n f ds st e
      rw [eq]
      rw [DefS.comp] at hc
      cases z : cSs (cS (d.tab fn free nums kl) (cE (d.tab fn free nums kl) fuel) d.mu d.scope fuel) d.body with
      | none => rw [z] at hc; cases hc
      | some b =>
        rw [z] at hc
        cases hc
        have sc := DefS.scope_ok (S.scp f d hd)
        obtain ⟨e0, he0⟩ : ∃ e0, c0 * (n + 1) = e0 + 1 ∧ c0 * n + c0 = e0 + 1 := ⟨c0 * (n + 1) - 1, by rw [Nat.mul_add]; omega, by rw [Nat.mul_add]; omega⟩
        rw [he0.1]
        refine fn_DG (n := e0) (S.def_ f d hd) sc rfl rfl fun cdv A outer s H E hcd gd hr => ?_
        refine cSs_ok (cS_ok (xa := xa) (sc := d.scope) (cE_ok fuel) ⟨⟨tab_of hlib S TB hc2 hc4 (prog_ok hlib S TB hc2 hc4 hG n) hd sc he0.2 hcd hr fun _ => ⟨gd, prog_okG hlib S TB hc2 hc4 hG n⟩, rfl, ?_⟩, fun _ => rfl, passes_of rfl, ?_⟩ fuel) z
        · refine (takes_of rfl rfl rfl rfl).imp fun c dd σ H ⟨k, e1, e2, u⟩ => ?_
          subst e1 e2
          exact u
        · show (if d.scope.kind.isAnnotationScope then ScopeKind.function else d.scope.kind) = .function
          rw [sc.kind]
          rfl
/-- the law's own promise -/
theorem law_sp {n f : Nat} {N0 : Nat} (hp : ∀ ns : List Int, ns.length ≤ N0 → ∃ st, G.call n f [.scr ns] [] = .ok (.bl true) st) (H : Hp) (a : Addr) (ns : List Int) (hl : ns.length ≤ N0) (hT : ∀ p ∈ cls.T, H p.1 = some (.tbl #[])) (hS : SqL K H a (ns.map V.int)) (hz : N0 ≤ sizeLine) :
    spD K w cls xa (G.call n f) [.ref a] H (fun v _ => v = .bl true) fun _ _ _ => False := by
  obtain ⟨st, e⟩ := hp ns hl
  have gs : ∀ b o, (∀ ps, o ≠ .tbl ps) → H b = some o → (match H b with | some (.tbl _) => none | x => x) = some o := fun b o n h => by
    rw [h]
    cases o <;> first | rfl | exact absurd rfl (n _)
  have sub : ∀ b o, (match H b with | some (.tbl _) => none | x => x) = some o → H b = some o := fun b o h => by
    cases q : H b with
    | none => rw [q] at h; cases h
    | some u => rw [q] at h; cases u <;> first | exact h | cases h
  refine ⟨⟨fun b => match H b with | some (.tbl _) => none | x => x, []⟩, [], [.scr ns], ⟨sub, rfl, List.nodup_nil, fun a ha => by simp at ha, fun i o a h => by simp at h, fun b ps h => ?_, fun p hp => LamX.TabS.nil (hT p hp)⟩, .one (.scr ?_ (by omega)), ?_⟩
  · have h1 := sub b _ h
    have h : (match H b with | some (.tbl _) => none | x => x) = some (HO.tbl ps) := h
    rw [h1] at h
    cases h
  · rcases hS with hS | hS
    · refine .inl ?_
      rcases hS with hS | ⟨o, hS⟩
      · exact .inl (gs a _ (fun _ z => by cases z) hS)
      · exact .inr ⟨o, gs a _ (fun _ z => by cases z) hS⟩
    · exact .inr hS
  · rw [e]
    exact fun v W' H' _ _ r => r.bl_inv
end
end EV
/-! EvGl: the law's call, where the law's own def may call repr. -/
namespace EVG
open PySem PySem.Spec PyProof.Rows L2
theorem law_G {P : Program} {w : World} {K : PySem.W.Frag} {mg mb : Str → Option Value} {CX : CXT} {k : Nat} {fa a : Addr} {fd : FuncData} {x : Str} {sp : Sp} {t : Shared} {vs : List Value} {ns : List Int}
    (kin : K.In t.heap) (gl : t.heap.Ns mainGlobals mg) (bl : t.heap.Ns builtinsNs mb) (bb : ∀ x : Str, x ≠ "__name__" → mb x = bootBuiltins x) (lm : t.heap.NoLimit) (gn : t.gens = #[])
    (ha : t.heap.get? a = some { cls := .type "list", data := .seq vs.toArray }) (hi : IntsAre vs ns) (hl : ns.length ≤ sizeLine) (hr : Room k callerA)
    (F : ∀ base : Heap, K.In base → base.Ns mainGlobals mg → FnG P w K mg base CX k fa fd [x] sp) (hbind : ∀ (s : Shared) (u : Value), BindsTo s fd ⟨[u], []⟩ [(x, u)])
    (hsp : ∀ H : Hp, SqL K H a (ns.map V.int) → sp [.ref a] H (fun v _ => v = .bl true) fun _ _ _ => False) (hCX : ∀ H e s', CX [] H t (fun _ _ _ => False) e s' → False) :
    codeAny (model P w) callerA (.call (.ref fa) ⟨[.ref a], []⟩) (fun r s' => r = .ok (.ret (.bool true)) ∧ OldK t.heap s'.heap ∧ s'.os = t.os ∧ AllBare s'.gens) t := by
  have rv := vals_ints hi
  -- what is tracked: the script, unless the module knows it
  obtain ⟨H, hS, hok, hA, hK⟩ : ∃ H : Hp, SqL K H a (ns.map V.int) ∧ HOk P w H t.heap ∧ (∀ b u, H b = some u → b = a ∧ u = .frz { cls := .type "list", data := .seq vs.toArray } (.lst (ns.map V.int))) ∧ (∀ u, H a = some u → K.lookup a = none) := by
    cases hk : K.lookup a with
    | some o =>
      have e := kin a o hk
      rw [ha] at e
      cases e
      refine ⟨fun _ => none, .inr ⟨_, vs.toArray, _, hk, rfl, rfl, rfl, by rw [List.size_toArray, hi.length]; exact hl, by simpa using rv⟩, fun b u z => ?_, fun b u z => ?_, fun u z => ?_⟩
      · have z : (none : Option HO) = some u := z
        cases z
      · have z : (none : Option HO) = some u := z
        cases z
      · have z : (none : Option HO) = some u := z
        cases z
    | none =>
      have one : ∀ b u, (if b = a then some (HO.frz { cls := .type "list", data := .seq vs.toArray } (.lst (ns.map V.int))) else none) = some u → b = a ∧ u = .frz { cls := .type "list", data := .seq vs.toArray } (.lst (ns.map V.int)) := fun b u z => by
        by_cases hb : b = a
        · rw [if_pos hb] at z; cases z; exact ⟨hb, rfl⟩
        · rw [if_neg hb] at z; cases z
      refine ⟨fun b => if b = a then some (.frz { cls := .type "list", data := .seq vs.toArray } (.lst (ns.map V.int))) else none, .inl (.inr ⟨{ cls := .type "list", data := .seq vs.toArray }, if_pos rfl⟩), fun b u z => ?_, one, fun _ _ => rfl⟩
      obtain ⟨e1, e2⟩ := one b u z
      subst e1 e2
      exact ⟨ha, by rw [List.length_map]; exact hl, vs, _, rv, ha⟩
  have keep : ∀ {b : Addr} {o : Obj}, t.heap.get? b = some o → (b = a → H b = none) → (hidT t.heap H).get? b = some o := fun {b o} e n => hidT_get e (by
    cases q : H b with
    | none => rfl
    | some u => rw [n (hA b u q).1] at q; cases q)
  have nsd : ∀ {b : Addr} {m : Str → Option Value}, t.heap.Ns b m → (hidT t.heap H).Ns b m := fun {b m} ⟨o, es, ep, e, d, r⟩ => ⟨o, es, ep, keep e (fun z => by
    rw [z, ha] at e
    cases e
    cases d), d, r⟩
  have kib : K.In (hidT t.heap H) := fun b o e => keep (kin b o e) fun z => by
    cases q : H b with
    | none => rfl
    | some u =>
      rw [z] at q e
      rw [hK u q] at e
      cases e
  have md : Mod K mg (hidT t.heap H) := ⟨kib, nsd gl, ⟨mb, nsd bl, bb⟩, let ⟨mc, h1, h2⟩ := lm; ⟨mc, nsd h1, h2⟩⟩
  have ev : Env0 P w K mg (hidT t.heap H) callerA [] t H := ⟨rfl, md, fun b o e => of_hidT e, Nat.le_of_eq (hidT_size _ _), trivial, fun b hb => absurd (show b ∈ ([] : List Addr) from hb) (by simp), hok, .of_eq gn⟩
  refine codeAny_mono ((F _ kib (nsd gl)).run callerA [] t H ⟨[.ref a], []⟩ [.ref a] [.ref a] _ _ rfl hr ev (hbind t (.ref a)) (.cons rfl .nil) (hsp H hS)) fun r s' h => ?_
  cases r with
  | error e => exact (hCX H e s' h).elim
  | ok fl =>
    cases fl with
    | ret u =>
      obtain ⟨v, H', os, bare, un, hok', r', q⟩ := h
      have q : v = .bl true := q
      subst q
      obtain rfl : u = Value.bool true := r'
      refine ⟨rfl, OldK.of_keep fun b o e => ?_, os, bare⟩
      cases q : H b with
      | none => exact un.keep b o e q (fun z => absurd (show b ∈ ([] : List Addr) from z) (by simp)) (by simp)
      | some u =>
        obtain ⟨e1, e2⟩ := hA b u q
        rw [e2] at q
        obtain ⟨f1, _⟩ := hok b _ q
        obtain ⟨f2, _⟩ := hok' b _ (un.frzs b _ _ q)
        rw [e] at f1
        cases f1
        exact f2
    | next => exact h.elim
    | brk => exact h.elim
    | cont => exact h.elim
/-- the law's end, such a law -/
theorem walk_G {lw : PySem.W.OpenLaw} {n k : Nat} {q : Program} {loose : List Str} {XP : (Str → Option Value) → Heap → Prop} {YP : World → Heap → Prop} {d : DefRec} {CX : CXT} {x : Str} (hn : lw.most = some n) (hn2 : n ≤ sizeLine) (hdf : d.params.defaults = []) (hr : Room k callerA)
    (F : ∀ (w : World) (mg : Str → Option Value) (fa : Addr) (h : Heap), YP w h → h.Ns mainGlobals mg → mg d.name = some (.ref fa) → ∃ (K : PySem.W.Frag) (fd : FuncData) (sp : Sp), K.In h ∧ (∀ (s : Shared) (u : Value), BindsTo s fd ⟨[u], []⟩ [(x, u)]) ∧
      (∀ (H : Hp) (a : Addr) (ns : List Int), ns.length ≤ n → SqL K H a (ns.map V.int) → sp [.ref a] H (fun v _ => v = .bl true) fun _ _ _ => False) ∧ ∀ base : Heap, K.In base → base.Ns mainGlobals mg → FnG lw.prog w K mg base CX k fa fd [x] sp)
    (hCX : ∀ (H : Hp) (s : Shared) (e : Value) (s' : Shared), CX [] H s (fun _ _ _ => False) e s' → False) : PySem.W.WalkO q loose XP YP lw.row.toRowW d [] (fun f vs => PySem.call f vs) := by
  refine Att.attach_callB hn hdf fun w t0 t1 mg mb fa ob v1 v2 v3 a vs ns Gd Yd o1 o2 o3 hmg hobj hints hlen hbits hge => ?_
  obtain ⟨K, fd, sp, KX, hb, hsp, hF⟩ := F w mg fa _ Yd Gd.T.g hmg
  exact law_G KX Gd.T.g Gd.T.b Gd.T.builtins Gd.T.nolimit hge hobj hints (Nat.le_trans hlen hn2) hr hF hb (fun H hS => hsp H a ns hlen hS) fun H e s' => hCX H t1 e s'
end EVG
/-! EvR: from the head's facts to the defs' promises. -/
namespace EV
open PySem PySem.Spec PyProof.Rows L2

def mkDef (x : Str) (st : Stmt) (ps N mu dk : List Str) (lam : Bool := false) (lx : Bool := false) (gd : Bool := false) : DefS := ⟨x, x, defArgs st, defBody st, defScope st, ps, N, mu, dk, none, lam, lx, gd⟩
def mkMth (c q x : Str) (st : Stmt) (ps N mu dk : List Str) : DefS := ⟨x, q, defArgs st, defBody st, defScope st, ps, N, mu, dk, some c, false, false, false⟩
def DefS.at_ (d : DefS) : Str × Option Str := match d.cl with
  | none => (d.x, none)
  | some c => (c, some d.x)
def DefS.toD (d : DefS) : He.DefD := ⟨d.at_, d.x, d.qual, d.params, d.body, d.scope, [], []⟩
abbrev Defs := List (Nat × DefS)
def dlOf : Defs → Nat → Option DefS
  | [], _ => none
  | (k, d) :: r, f => if f = k then some d else dlOf r f
def fnOfD (defs : Defs) : List (Str × Nat) := (defs.filter fun p => p.2.cl.isNone).map fun p => (p.2.x, p.1)
theorem dlOf_mem : ∀ {defs : Defs} {f : Nat} {d : DefS}, dlOf defs f = some d → (f, d) ∈ defs
  | [], f, d, h => by cases h
  | (k, e) :: r, f, d, h => by
    rw [dlOf] at h
    split at h
    · cases h; rename_i e; subst e; simp
    · exact List.mem_cons_of_mem _ (dlOf_mem h)
def DefS.BindOk (d : DefS) : Prop := ∀ (kV doc pm : Value) (an : Option Addr) (cdv ct : Value) (us : List Value), us.length = d.ps.length → bindArgs (PySem.W.fnOf d.x d.qual d.params d.body d.scope .none kV doc pm an cdv ct) ⟨us, []⟩ = pure (d.ps.zip us)
def Lt.fa (x : Str) : Lt → He.Fa
  | .i n => .int x n
  | .s z => .str x z
def faOf (defs : Defs) (free : List Str) (nums : List (Str × Lt)) (kl : Kls) : List He.Fa := (fnOfD defs).map (fun p => .glo p.1) ++ (free.map .free ++ (nums.map (fun p => p.2.fa p.1) ++ (kl.cs.map (fun p => .glo p.1) ++ (kl.cs.map (fun p => .cls p.1) ++ (kl.cs.map (fun p => .mkr p.1) ++
  ((kl.cs.flatMap fun p => kl.fds.map fun f => .noat p.1 f) ++ ((defs.filterMap fun p => p.2.cl.map fun c => .meth c p.2.x) ++ (kl.exc.map (fun p => .glo p.1) ++ kl.exc.map (fun p => .exc p.1)))))))))
/-- the classes' addresses -/
def clsOf (K : PySem.W.Frag) (cs : List (Str × Nat)) (c : Nat) : Option Addr := (cs.find? fun p => p.2 == c).map fun p => He.ga K p.1
/-- an exception's class by its number -/
def xaOf (K : PySem.W.Frag) (k : Nat) : Addr := He.ga K (excNm.getD k "")
/-- a def's code object and its table -/
def tabO (K : PySem.W.Frag) (x : Str) : Option (Addr × Addr) := match K.lookup (He.ga K x) with
  | some ⟨_, _, .func fd, _⟩ => match fd.code with
    | .ref c => match K.lookup c with
      | some ⟨_, _, .fields vs, _⟩ => match (vs[11]? : Option Value) with
        | some (.ref P) => some (c, P)
        | _ => none
      | _ => none
    | _ => none
  | _ => none
def tabsOf (K : PySem.W.Frag) (ts : List Str) : List (Addr × Addr) := ts.filterMap (tabO K)
def tabT (K : PySem.W.Frag) (ts : List Str) : List (Addr × Str) := ts.filterMap fun x => (tabO K x).map fun p => (p.2, x ++ ".<locals>." ++ "<lambda>")
def clM (K : PySem.W.Frag) (kl : Kls) (ts : List Str) : Cl := ⟨clsOf K kl.cs, tabT K ts⟩
/-- what the classes must say, looked up -/
def exB (K : PySem.W.Frag) : Bool := (He.Fa.glo "DiceError").ok K && (List.range 3).all fun k =>
  decide (PySem.W.exmOne K (.ref (xaOf K k)) (.ref (He.ga K "DiceError")) = some true) && (decide (PySem.W.findIn K (.ref (xaOf K k)) "__getattribute__" = some (some (.builtin "BaseException.__getattribute__"))) && (decide (PySem.W.findIn K (.ref (xaOf K k)) "__getattr__" = some none) &&
  (decide (PySem.W.subIn K (.ref (xaOf K k)) (.type "BaseException") = some true) && (PySem.W.hasDictIn K (xaOf K k) && (decide (PySem.W.findIn K (.ref (xaOf K k)) "__class__" = some (some (.builtin "object.__class__"))) && (decide (PySem.W.specialIn K (.builtin "object.__class__") "__get__" = some (some (.builtin "getset_descriptor.__get__"))) &&
  (decide (PySem.W.takesIn K (.builtin "object.__class__") = some true) && (decide (PySem.W.mroIn K (xaOf K k) (.type "object") = some true) && (((List.range 3).all fun j => decide (PySem.W.kitOne K (.ref (xaOf K k)) (.ref (xaOf K j)) = some (decide (k = j)))) && decide (PySem.W.kitOne K (.ref (xaOf K k)) (.type "ValueError") = some true))))))))))
theorem exB_ok {K : PySem.W.Frag} (h : exB K = true) : ExK K (xaOf K) (He.ga K "DiceError") ∧ (He.Fa.glo "DiceError").ok K = true := by
  rw [exB, Bool.and_eq_true] at h
  obtain ⟨h0, h⟩ := h
  refine ⟨?_, h0⟩
  have g : ∀ k, k < 3 → _ := fun k hk => List.all_eq_true.mp h k (List.mem_range.mpr hk)
  simp only [Bool.and_eq_true, decide_eq_true_eq, List.all_eq_true, List.mem_range] at g
  exact ⟨fun k hk => (g k hk).1, fun k hk => let ⟨_, a, b, c, d, e, f, g, h, _⟩ := g k hk; ⟨a, b, c, d, e, f, g, h⟩, fun k j hk hj => (g k hk).2.2.2.2.2.2.2.2.2.1 j hj, fun k hk => (g k hk).2.2.2.2.2.2.2.2.2.2⟩
/-- the head's further facts: the errors' classes (if asked), the tables -/
def tabE : Option Obj → Bool
  | some ⟨.none, none, .fields vs, sl⟩ => decide (vs = #[]) && decide (sl = #[])
  | _ => false
theorem tabE_ok {o : Option Obj} (h : tabE o = true) : o = some (PySem.W.tabObj #[]) := by
  unfold tabE at h
  split at h
  · rw [Bool.and_eq_true, decide_eq_true_eq, decide_eq_true_eq] at h
    rw [h.1, h.2]
  · cases h
def tabB (K : PySem.W.Frag) (g : Addr → Option Obj) (ts : List Str) : Bool := (ts.all fun x => match tabO K x with
  | some (c, P) => PySem.W.codeHdIn K c P && ((K.lookup P).isNone && tabE (g P))
  | none => false) && decide ((tabT K ts).map (·.1)).Nodup
def noTab (g : Addr → Option Obj) (a : Addr) : Bool := match g a with
  | some ⟨.none, _, .fields _, _⟩ => false
  | _ => true
abbrev AlX : Type := Bool × He.AlD
def obsX (n : Nat) (fa : List He.Fa) (fn : List He.DefD) (ex : Bool) (ts : List Str) (g : Addr → Option Obj) : AlX :=
  ((!ex || exB (He.frG g ((He.asD g n).filter (noTab g)))) && tabB (He.frG g ((He.asD g n).filter (noTab g))) g ts, He.obsD fa fn (He.frG g ((He.asD g n).filter (noTab g))))
structure SaysX (fa : List He.Fa) (fn : List He.DefD) (ex : Bool) (ts : List Str) (K : PySem.W.Frag) (h : Heap) : Prop where
  kin : K.In h
  says : He.SaysD fa fn K
  exk : ex = true → ExK K (xaOf K) (He.ga K "DiceError") ∧ (He.Fa.glo "DiceError").ok K = true
  tabs : ∀ x ∈ ts, ∃ c P, tabO K x = some (c, P) ∧ PySem.W.CodeHd h c P ∧ K.lookup P = none ∧ h.get? P = some (PySem.W.tabObj #[])
  nd : ((tabT K ts).map (·.1)).Nodup
def hookX (n : Nat) (fa : List He.Fa) (fn : List He.DefD) (ex : Bool) (ts : List Str) : PySem.W.Hook where
  α := AlX
  obs := fun s => obsX n fa fn ex ts s.heap.get?
  val := fun _ => (true, He.valD fn)
  says := fun _ h => ∃ K : PySem.W.Frag, SaysX fa fn ex ts K h
  of := fun _ s e => by
    have e1 := congrArg Prod.fst e
    have e2 := congrArg Prod.snd e
    simp only [obsX, Bool.and_eq_true, Bool.or_eq_true, Bool.not_eq_true', tabB, decide_eq_true_eq, List.all_eq_true] at e1
    obtain ⟨e3, e4, e5⟩ := e1
    refine ⟨_, He.frG_in, e2, fun hx => ?_, fun x hx => ?_, e5⟩
    · rcases e3 with e3 | e3
      · rw [hx] at e3; cases e3
      · exact exB_ok e3
    · have z := e4 x hx
      split at z
      · rename_i c P hc
        rw [Bool.and_eq_true, Bool.and_eq_true] at z
        exact ⟨c, P, hc, PySem.W.codeHd_of_K He.frG_in z.1, Option.isNone_iff_eq_none.mp z.2.1, tabE_ok z.2.2⟩
      · cases z
  keeps := fun _ _ _ ⟨K, S⟩ k => ⟨K, PySem.W.Frag.In.keeps S.kin k, S.says, S.exk, fun x hx => let ⟨c, P, a, b, d, e⟩ := S.tabs x hx; ⟨c, P, a, b.keeps k, d, k _ _ e⟩, S.nd⟩
theorem obsX_eq {n : Nat} {fa : List He.Fa} {fn : List He.DefD} {ex : Bool} {ts : List Str} {g : Addr → Option Obj} {s : Shared} (h : ∀ a, g a = s.heap.get? a) : obsX n fa fn ex ts g = (hookX n fa fn ex ts).obs s := by
  have e : g = s.heap.get? := funext h
  rw [e] <;> rfl
/-- the tables of classes agree with the defs -/
structure KlOk (defs : Defs) (kl : Kls) (G : Prg) : Prop where
  num : ∀ p ∈ kl.cs, (kl.cs.find? fun q => q.2 == p.2) = some p
  init : ∀ p ∈ kl.cs, ∃ f d, G.init p.2 = some f ∧ dlOf defs f = some d ∧ d.cl = some p.1 ∧ d.x = "__init__"
  meth : ∀ p ∈ kl.cs, ∀ m ∈ kl.mts, ∀ f, G.meth p.2 m = some f → ∃ d, dlOf defs f = some d ∧ d.cl = some p.1 ∧ d.x = m
/-- .. and the errors' names, the law's told, the defs that make lambdas -/
structure LmOk (defs : Defs) (free : List Str) (kl : Kls) (ex : Bool) (ts : List Str) : Prop where
  exc : ∀ p ∈ kl.exc, excNm.getD p.2 "" = p.1
  lam : ∀ p ∈ defs, p.2.lam = true → p.2.cl = none ∧ p.2.qual = p.2.x ∧ p.2.x ∈ ts ∧ ex = true ∧ ("isinstance" : Str) ∈ free ∧ ("ValueError" : Str) ∈ free ∧ (∀ k, k < 3 → kl.exc.lookup (excNm.getD k "") = some k) ∧
    ∃ t l, t ∈ defs ∧ t.2.cl = none ∧ t.2.x = ("_law_told" : Str) ∧ t.2.qual = ("_law_told" : Str) ∧ t.2.body = toldBody l ∧ t.2.scope = toldScope ∧ t.2.ps = [("deed" : Str)]
section
variable {K : PySem.W.Frag} {h : Heap} {mg : Str → Option Value} {defs : Defs} {free : List Str} {nums : List (Str × Lt)} {kl : Kls} {Gp : Prg} {ex : Bool} {ts : List Str}
theorem says_fact {fa : List He.Fa} {fn : List He.DefD} (c : He.SaysD fa fn K) {f : He.Fa} (hf : f ∈ fa) : f.ok K = true := by
  obtain ⟨i, hi⟩ := List.mem_iff_getElem?.mp hf
  exact c.fact i hi
theorem clsOf_mem {c : Nat} {A : Addr} (h : clsOf K kl.cs c = some A) : ∃ p ∈ kl.cs, p.2 = c ∧ A = He.ga K p.1 := by
  unfold clsOf at h
  obtain ⟨p, h1, h2⟩ := Option.map_eq_some_iff.mp h
  have h3 := List.find?_some h1
  exact ⟨p, List.mem_of_find?_eq_some h1, eq_of_beq h3, h2.symm⟩
theorem tabT_mem {p : Addr × Str} (h : p ∈ tabT K ts) : ∃ x ∈ ts, ∃ c, tabO K x = some (c, p.1) ∧ p.2 = x ++ ".<locals>." ++ "<lambda>" := by
  obtain ⟨x, hx, e⟩ := List.mem_filterMap.mp h
  obtain ⟨q, e1, e2⟩ := Option.map_eq_some_iff.mp e
  subst e2
  exact ⟨x, hx, q.1, e1, rfl⟩
theorem tabT_in {x : Str} (hx : x ∈ ts) {c P : Addr} (h : tabO K x = some (c, P)) : (P, x ++ ".<locals>." ++ "<lambda>") ∈ tabT K ts := List.mem_filterMap.mpr ⟨x, hx, by rw [h]; rfl⟩
theorem nodup_snd {l : List (Addr × Str)} (hn : (l.map (·.1)).Nodup) {a : Addr} {b c : Str} (h1 : (a, b) ∈ l) (h2 : (a, c) ∈ l) : b = c := by
  obtain ⟨i, hi, e1⟩ := List.getElem_of_mem h1
  obtain ⟨j, hj, e2⟩ := List.getElem_of_mem h2
  have z : i = j := by
    refine (List.getElem_inj (h₀ := by simpa using hi) (h₁ := by simpa using hj) hn).mp ?_
    rw [List.getElem_map, List.getElem_map, e1, e2]
  subst z
  rw [e1] at e2
  exact (Prod.mk.inj e2).2
theorem sys_of (X : K.In h) (G : h.Ns mainGlobals mg) (c : He.SaysD (faOf defs free nums kl) (defs.map fun p => p.2.toD) K) (hxk : ex = true → ExK K (xaOf K) (He.ga K "DiceError")) (hdc : ex = true → mg "DiceError" = some (.ref (He.ga K "DiceError"))) (hT : ∀ x ∈ ts, ∃ c P, tabO K x = some (c, P)) (hnd : ((tabT K ts).map (·.1)).Nodup)
    (hb : ∀ p ∈ defs, p.2.BindOk) (hs : ∀ p ∈ defs, p.2.scopeC = true) (hn : ∀ p ∈ defs, dlOf defs p.1 = some p.2) (hk : KlOk defs kl Gp) (hlm : LmOk defs free kl ex ts) (hgn : ∀ p ∈ defs, p.2.gd = true → p.2.cl = none ∧ kl.gn.contains p.2.x = true) :
    ∃ fa fd, Sys K mg (dlOf defs) (fnOfD defs) free nums kl (clM K kl ts) (xaOf K) (tabsOf K ts) Gp fa fd ∧ ∀ f d, dlOf defs f = some d → fa f = He.fAd K d.at_ := by
  have ex : ∀ f : Nat, ∃ fd : FuncData, ∀ d : DefS, dlOf defs f = some d → FunD K d.x d.qual d.params d.body d.scope [] [] (He.fAd K d.at_) fd := fun f => by
    cases e : dlOf defs f with
    | none => exact ⟨default, fun d z => by cases z⟩
    | some d =>
      obtain ⟨i, hi⟩ := List.mem_iff_getElem?.mp (dlOf_mem e)
      obtain ⟨fd, F⟩ := c.def_ i (d := d.toD) (by rw [List.getElem?_map, hi]; rfl)
      exact ⟨fd, fun d2 z => by cases z; exact F⟩
  obtain ⟨fdf, hfd⟩ := Classical.axiomOfChoice ex
  have lk : ∀ x f, (fnOfD defs).lookup x = some f → ∃ d, dlOf defs f = some d ∧ d.x = x ∧ d.cl = none := fun x f e => by
    obtain ⟨p, hp, e2⟩ := List.mem_map.mp (PySem.mem_of_lookup e)
    cases e2
    obtain ⟨h1, h2⟩ := List.mem_filter.mp hp
    exact ⟨p.2, hn p h1, rfl, Option.isNone_iff_eq_none.mp h2⟩
  have at_g : ∀ d : DefS, d.cl = none → He.fAd K d.at_ = He.ga K d.x := fun d h3 => by
    unfold DefS.at_
    rw [h3]
    rfl
  have gloD : ∀ p ∈ defs, p.2.cl = none → mg p.2.x = some (.ref (He.ga K p.2.x)) := fun p hp hc => He.glo_ok X G (says_fact c (by
    unfold faOf
    exact List.mem_append_left _ (List.mem_map.mpr ⟨(p.2.x, p.1), List.mem_map.mpr ⟨p, List.mem_filter.mpr ⟨hp, by rw [hc]; rfl⟩, rfl⟩, rfl⟩)))
  have mf : ∀ (f : Nat) (d : DefS) (cn : Str), dlOf defs f = some d → d.cl = some cn → (He.Fa.meth cn d.x).ok K = true := fun f d cn e1 e2 => says_fact c (by
    unfold faOf
    simp only [List.mem_append]
    exact .inr (.inr (.inr (.inr (.inr (.inr (.inr (.inl (List.mem_filterMap.mpr ⟨(f, d), dlOf_mem e1, by simp [e2]⟩)))))))))
  have at_m : ∀ (d : DefS) (cn : Str), d.cl = some cn → He.fAd K d.at_ = He.ma K (He.ga K cn) d.x := fun d cn e => by
    unfold DefS.at_
    rw [e]
    rfl
  have freeF : ∀ x ∈ free, mg x = none := fun x hx => He.free_ok X G (says_fact c (by
      unfold faOf
      simp only [List.mem_append]
      exact .inr (.inl (List.mem_map.mpr ⟨x, hx, rfl⟩))))
  have excF : ∀ x k, kl.exc.lookup x = some k → mg x = some (.ref (xaOf K k)) ∧ (He.Fa.exc x).ok K = true ∧ He.ga K x = xaOf K k := fun x k hx => by
    have hp := PySem.mem_of_lookup hx
    have e : He.ga K x = xaOf K k := by
      unfold xaOf
      rw [hlm.exc _ hp]
    refine ⟨?_, says_fact c (by
      unfold faOf
      simp only [List.mem_append]
      exact .inr (.inr (.inr (.inr (.inr (.inr (.inr (.inr (.inr (List.mem_map.mpr ⟨(x, k), hp, rfl⟩)))))))))), e⟩
    rw [← e]
    exact He.glo_ok X G (says_fact c (by
      unfold faOf
      simp only [List.mem_append]
      exact .inr (.inr (.inr (.inr (.inr (.inr (.inr (.inr (.inl (List.mem_map.mpr ⟨(x, k), hp, rfl⟩)))))))))))
  refine ⟨fun f => match dlOf defs f with | some d => He.fAd K d.at_ | none => 0, fdf, ⟨fun f d e => ?_, fun f d e => ?_, fun f d e => hs (f, d) (dlOf_mem e), fun x f e => ?_, fun x f e => ?_, fun x hx => freeF x (List.elem_iff.mp hx), fun x i hx => ?_, fun x cc hx => ?_, fun m hm cc CA f hc hf => ?_, fun f hf cc A hc => ?_, fun x k hx => ?_, fun f d hd hl => ?_⟩, fun f d e => by simp only [e]⟩
  · have z := hfd f d e
    simp only [e]
    exact z
  · have z := hfd f d e
    exact FunD.bindsN z (hb (f, d) (dlOf_mem e))
  · obtain ⟨d, h1, h2, h3⟩ := lk x f e
    simp only [h1]
    rw [at_g d h3, h2]
    have z := gloD (f, d) (dlOf_mem h1) h3
    rw [h2] at z
    exact z
  · obtain ⟨d, h1, h2, _⟩ := lk x f e
    refine ⟨d, h1, fun z => ?_⟩
    cases y : d.gd with
    | false => rfl
    | true =>
      have w := (hgn (f, d) (dlOf_mem h1) y).2
      rw [show (f, d).2.x = x from h2, z] at w
      cases w
  · have hm : i.fa x ∈ faOf defs free nums kl := by
      unfold faOf
      simp only [List.mem_append]
      exact .inr (.inr (.inl (List.mem_map.mpr ⟨(x, i), PySem.mem_of_lookup hx, rfl⟩)))
    cases i with
    | i n => exact He.int_ok X G (says_fact c hm)
    | s z => exact He.str_ok X G (says_fact c hm)
  · have hp := PySem.mem_of_lookup hx
    obtain ⟨f, d, k1, k2, k3, k4⟩ := hk.init _ hp
    refine ⟨He.ga K x, f, d, ?_, k1, k2, ?_, ?_, ?_⟩
    · show clsOf K kl.cs cc = _
      unfold clsOf
      rw [hk.num _ hp]
      rfl
    · simp only [k2]
      rw [at_m d x k3, k4]
      exact He.mkr_ok (says_fact c (by
        unfold faOf
        simp only [List.mem_append]
        exact .inr (.inr (.inr (.inr (.inr (.inl (List.mem_map.mpr ⟨(x, cc), hp, rfl⟩))))))))
    · exact He.glo_ok X G (says_fact c (by
        unfold faOf
        simp only [List.mem_append]
        exact .inr (.inr (.inr (.inl (List.mem_map.mpr ⟨(x, cc), hp, rfl⟩))))))
    · cases y : d.gd with
      | false => rfl
      | true =>
        have w := (hgn (f, d) (dlOf_mem k2) y).1
        rw [show (f, d).2.cl = some x from k3] at w
        cases w
  · obtain ⟨p, hp, e1, e2⟩ := clsOf_mem hc
    subst e1
    obtain ⟨d, k1, k2, k3⟩ := hk.meth p hp m (List.elem_iff.mp hm) f hf
    refine ⟨d, k1, ?_, ?_, ?_⟩
    · rw [e2]
      exact He.cls_ok (says_fact c (by
        unfold faOf
        simp only [List.mem_append]
        exact .inr (.inr (.inr (.inr (.inl (List.mem_map.mpr ⟨p, hp, rfl⟩)))))))
    · simp only [k1]
      rw [at_m d p.1 k2, e2, ← k3]
      exact He.meth_ok (mf f d p.1 k1 k2)
    · cases y : d.gd with
      | false => rfl
      | true =>
        have w := (hgn (f, d) (dlOf_mem k1) y).1
        rw [show (f, d).2.cl = some p.1 from k2] at w
        cases w
  · obtain ⟨p, hp, e1, e2⟩ := clsOf_mem hc
    rw [e2]
    exact ⟨He.cls_ok (says_fact c (by
        unfold faOf
        simp only [List.mem_append]
        exact .inr (.inr (.inr (.inr (.inl (List.mem_map.mpr ⟨p, hp, rfl⟩))))))), He.noat_ok (says_fact c (by
        unfold faOf
        simp only [List.mem_append]
        exact .inr (.inr (.inr (.inr (.inr (.inr (.inl (List.mem_flatMap.mpr ⟨p, hp, List.mem_map.mpr ⟨f, List.elem_iff.mp hf, rfl⟩⟩)))))))))⟩
  · obtain ⟨k1, k2, k3⟩ := excF x k hx
    obtain ⟨z1, z2, z3, z4⟩ := He.exc_ok k2
    rw [k3] at z1 z2 z3 z4
    exact ⟨k1, z1, z2, z3, z4⟩
  · obtain ⟨m1, m2, m3, m4, m5, m6, m7, t, l, t1, t2, t3, t4, t5, t6, t7⟩ := hlm.lam (f, d) (dlOf_mem hd) hl
    obtain ⟨cc, P, hc⟩ := hT d.x m3
    have et := hn t t1
    have Ft := hfd t.1 t.2 et
    have Bt := FunD.bindsN Ft (hb t t1)
    rw [at_g t.2 t2, t3, t4, t5, t6] at Ft
    rw [t7] at Bt
    have gt := gloD t t1 t2
    rw [t3] at gt
    have Fd := hfd f d hd
    refine ⟨_, cc, P, He.ga K "DiceError", l, t.2.params, fdf t.1, gt, Ft, Bt, fun k hk => ?_, freeF _ m5, freeF _ m6, hdc m4, hxk m4, List.mem_filterMap.mpr ⟨d.x, m3, hc⟩, ?_, ?_, fun p hp e => ?_⟩
    · exact (excF _ _ (m7 k hk)).1
    · obtain ⟨oc, od, dV, kV, doc, pm, an, cdv, ct, osl, e1, lk1, _⟩ := Fd.ex
      rw [at_g d m1] at lk1
      unfold tabO at hc
      rw [lk1] at hc
      simp only at hc
      split at hc
      · rename_i c0 h0
        split at hc
        · split at hc
          · cases hc
            exact h0
          · cases hc
        · cases hc
      · cases hc
    · show (P, d.qual ++ ".<locals>." ++ "<lambda>") ∈ tabT K ts
      have m2 : d.qual = d.x := m2
      rw [m2]
      exact tabT_in m3 hc
    · have m2 : d.qual = d.x := m2
      rw [m2]
      have hp : p ∈ tabT K ts := hp
      have h2 := tabT_in m3 hc
      obtain ⟨p1, p2⟩ := p
      have e : p1 = P := e
      subst e
      exact nodup_snd hnd hp h2
/-- exceptions behind a call, in whatever world -/
def cxAny (P : Program) : CXT := fun outer H s E e s' => ∃ w, L2.CX P w outer H s E e s'
theorem cxAny_no {P : Program} (H : Hp) (s : Shared) (e : Value) (s' : Shared) (h : cxAny P [] H s (fun _ _ _ => False) e s') : False := by
  obtain ⟨_, _, _, _, _, _, _, _, _, _, _, _, _, z⟩ := h
  exact z
theorem FnOk.any {P : Program} {w : World} {base : Heap} {k : Nat} {f : Addr} {fd : FuncData} {ps : List Str} {sp : Sp} (F : FnOk P w K mg base (L2.CX P w) k f fd ps sp) : FnOk P w K mg base (cxAny P) k f fd ps sp :=
  ⟨F.len, fun A outer s H args us vs Q E hr he hb hv hs => codeAny_mono (F.run A outer s H args us vs Q E hr he hb hv hs) fun r s' q => by
    cases r with
    | error e => exact ⟨w, q⟩
    | ok fl => cases fl <;> exact q⟩
/-- THE LAW by its defs: n the depth of calls, f the law's number -/
theorem law_of {P : Program} {w : World} {G : Prg} {fuel n f N0 : Nat} {d : DefS} {x : Str} {fa : Addr} (hlib : ∀ X' : Cx, X'.calm = true → X'.A.units + 64 < cLine → Lib X' (clM K kl ts))
    (SX : SaysX (faOf defs free nums kl) (defs.map fun p => p.2.toD) ex ts K h) (Gn : h.Ns mainGlobals mg) (hb : ∀ p ∈ defs, p.2.BindOk) (hs : ∀ p ∈ defs, p.2.scopeC = true) (hn : ∀ p ∈ defs, dlOf defs p.1 = some p.2)
    (hG : ∀ p ∈ defs, ∀ fdef : FDef, G.fn p.1 = some fdef → p.2.comp (fnOfD defs) free nums kl fuel = some fdef) (hk : KlOk defs kl G) (hlm : LmOk defs free kl ex ts) (hgn : ∀ p ∈ defs, p.2.gd = true → p.2.cl = none ∧ kl.gn.contains p.2.x = true) (hng : d.gd = false) {c0 : Nat} (hc2 : 2 ≤ c0) (hc4 : ∀ p ∈ defs, p.2.lam = true → 4 ≤ c0) (hd : dlOf defs f = some d) (hcl : d.cl = none) (hps : d.ps = [x]) (hfa : mg d.x = some (.ref fa)) (hz : N0 ≤ sizeLine)
    (hp : ∀ ns : List Int, ns.length ≤ N0 → ∃ st, G.call n f [.scr ns] [] = .ok (.bl true) st) :
    ∃ (K : PySem.W.Frag) (fd : FuncData) (cs : List (Addr × Addr)) (sp : Sp), K.In h ∧ (∀ p ∈ cs, h.get? p.2 = some { cls := .none, data := .fields #[] }) ∧ (∀ p ∈ cs, K.lookup p.2 = none) ∧ (∀ p ∈ cs, PySem.W.CodeHd h p.1 p.2) ∧ (∀ (s : Shared) (u : Value), BindsTo s fd ⟨[u], []⟩ [(x, u)]) ∧
        (∀ (H : Hp) (a : Addr) (ns : List Int), ns.length ≤ N0 → (∀ p ∈ cs, H p.2 = some (.tbl #[])) → SqL K H a (ns.map V.int) → sp [.ref a] H (fun v _ => v = .bl true) fun _ _ _ => False) ∧
        ∀ base : Heap, K.In base → base.Ns mainGlobals mg → (∀ p ∈ cs, LamX.TabB base mg p.1 p.2) → FnOk P w K mg base (cxAny P) (c0 * n) fa fd [x] sp := by
  obtain ⟨fas, fds, S, hga⟩ := sys_of SX.kin Gn SX.says (fun z => (SX.exk z).1) (fun z => He.glo_ok SX.kin Gn (SX.exk z).2) (fun x hx => let ⟨c, P, e, _⟩ := SX.tabs x hx; ⟨c, P, e⟩) SX.nd hb hs hn hk hlm hgn
  have ea : fas f = fa := by
    have e1 := He.glo_ok SX.kin Gn (x := d.x) (says_fact SX.says (List.mem_append_left _ (List.mem_map.mpr ⟨(d.x, f), List.mem_map.mpr ⟨(f, d), List.mem_filter.mpr ⟨dlOf_mem hd, by simp [hcl]⟩, rfl⟩, rfl⟩)))
    rw [hfa] at e1
    cases e1
    rw [hga f d hd]
    unfold DefS.at_
    rw [hcl]
    rfl
  have F := S.def_ f d hd
  rw [ea] at F
  have bA := FunD.bindsA F (hb (f, d) (dlOf_mem hd))
  have tb : ∀ p ∈ tabsOf K ts, PySem.W.CodeHd h p.1 p.2 ∧ K.lookup p.2 = none ∧ h.get? p.2 = some (PySem.W.tabObj #[]) := fun p hp => by
    obtain ⟨x, hx, e⟩ := List.mem_filterMap.mp hp
    obtain ⟨c, P, e1, e2⟩ := SX.tabs x hx
    rw [e1] at e
    cases e
    exact e2
  have tT : ∀ q ∈ (clM K kl ts).T, ∃ p ∈ tabsOf K ts, p.2 = q.1 := fun q hq => by
    obtain ⟨x, hx, c, e1, _⟩ := tabT_mem (show q ∈ tabT K ts from hq)
    exact ⟨(c, q.1), List.mem_filterMap.mpr ⟨x, hx, e1⟩, rfl⟩
  refine ⟨K, fds f, tabsOf K ts, spD K w (clM K kl ts) (xaOf K) (G.call n f), SX.kin, fun p hp => (tb p hp).2.2, fun p hp => (tb p hp).2.1, fun p hp => (tb p hp).1, fun s u => ?_, fun H a ns hl hH hS => law_sp hp H a ns hl (fun q hq => ?_) hS hz, fun base _ _ TB => ?_⟩
  · have z := bA s [u] (by rw [hps]; rfl)
    rw [hps] at z
    exact z
  · obtain ⟨p, hp, e⟩ := tT q hq
    rw [← e]
    exact hH p hp
  · have z := prog_ok (P := P) (w := w) (base := base) (xa := xaOf K) (fuel := fuel) hlib S TB hc2 (fun f d h1 h2 => hc4 (f, d) (dlOf_mem h1) h2) (fun f d fdef h1 h2 => hG (f, d) (dlOf_mem h1) fdef h2) n f d hd hng
    rw [ea, hps] at z
    exact FnOk.any z
theorem FnG.any {P : Program} {w : World} {base : Heap} {k : Nat} {f : Addr} {fd : FuncData} {ps : List Str} {sp : Sp} (F : EVG.FnG P w K mg base (L2.CX P w) k f fd ps sp) : EVG.FnG P w K mg base (cxAny P) k f fd ps sp :=
  ⟨F.len, fun A outer s H args us vs Q E gd hr he hb hv hs => codeAny_mono (F.run A outer s H args us vs Q E gd hr he hb hv hs) fun r s' q => by
    cases r with
    | error e => exact ⟨w, q⟩
    | ok fl => cases fl <;> exact q⟩
/-- .. of a law that may call repr (no lambdas) -/
theorem law_ofG {P : Program} {w : World} {G : Prg} {fuel n f N0 : Nat} {d : DefS} {x : Str} {fa : Addr} (hlib : ∀ X' : Cx, X'.calm = true → X'.A.units + 64 < cLine → Lib X' (clM K kl ts))
    (SX : SaysX (faOf defs free nums kl) (defs.map fun p => p.2.toD) ex ts K h) (Gn : h.Ns mainGlobals mg) (hb : ∀ p ∈ defs, p.2.BindOk) (hs : ∀ p ∈ defs, p.2.scopeC = true) (hn : ∀ p ∈ defs, dlOf defs p.1 = some p.2)
    (hG : ∀ p ∈ defs, ∀ fdef : FDef, G.fn p.1 = some fdef → p.2.comp (fnOfD defs) free nums kl fuel = some fdef) (hk : KlOk defs kl G) (hlm : LmOk defs free kl ex ts) (hts : ts = []) (hgn : ∀ p ∈ defs, p.2.gd = true → p.2.cl = none ∧ kl.gn.contains p.2.x = true) {c0 : Nat} (hc2 : 2 ≤ c0) (hc4 : ∀ p ∈ defs, p.2.lam = true → 4 ≤ c0) (hd : dlOf defs f = some d) (hcl : d.cl = none) (hps : d.ps = [x]) (hfa : mg d.x = some (.ref fa)) (hz : N0 ≤ sizeLine)
    (hp : ∀ ns : List Int, ns.length ≤ N0 → ∃ st, G.call n f [.scr ns] [] = .ok (.bl true) st) :
    ∃ (K : PySem.W.Frag) (fd : FuncData) (sp : Sp), K.In h ∧ (∀ (s : Shared) (u : Value), BindsTo s fd ⟨[u], []⟩ [(x, u)]) ∧ (∀ (H : Hp) (a : Addr) (ns : List Int), ns.length ≤ N0 → SqL K H a (ns.map V.int) → sp [.ref a] H (fun v _ => v = .bl true) fun _ _ _ => False) ∧
        ∀ base : Heap, K.In base → base.Ns mainGlobals mg → EVG.FnG P w K mg base (cxAny P) (c0 * n) fa fd [x] sp := by
  obtain ⟨fas, fds, S, hga⟩ := sys_of SX.kin Gn SX.says (fun z => (SX.exk z).1) (fun z => He.glo_ok SX.kin Gn (SX.exk z).2) (fun x hx => let ⟨c, P, e, _⟩ := SX.tabs x hx; ⟨c, P, e⟩) SX.nd hb hs hn hk hlm hgn
  have ea : fas f = fa := by
    have e1 := He.glo_ok SX.kin Gn (x := d.x) (says_fact SX.says (List.mem_append_left _ (List.mem_map.mpr ⟨(d.x, f), List.mem_map.mpr ⟨(f, d), List.mem_filter.mpr ⟨dlOf_mem hd, by simp [hcl]⟩, rfl⟩, rfl⟩)))
    rw [hfa] at e1
    cases e1
    rw [hga f d hd]
    unfold DefS.at_
    rw [hcl]
    rfl
  have F := S.def_ f d hd
  rw [ea] at F
  have bA := FunD.bindsA F (hb (f, d) (dlOf_mem hd))
  have nts : tabsOf K ts = [] := by rw [hts]; rfl
  have ntT : ∀ q ∈ (clM K kl ts).T, False := fun q hq => by
    obtain ⟨x, hx, _⟩ := tabT_mem (show q ∈ tabT K ts from hq)
    rw [hts] at hx
    cases hx
  refine ⟨K, fds f, spD K w (clM K kl ts) (xaOf K) (G.call n f), SX.kin, fun s u => ?_, fun H a ns hl hS => law_sp hp H a ns hl (fun q hq => (ntT q hq).elim) hS hz, fun base _ _ => ?_⟩
  · have z := bA s [u] (by rw [hps]; rfl)
    rw [hps] at z
    exact z
  · have z := prog_okG (P := P) (w := w) (base := base) (xa := xaOf K) (fuel := fuel) hlib S (fun p hp => by rw [nts] at hp; cases hp) hc2 (fun f d h1 h2 => hc4 (f, d) (dlOf_mem h1) h2) (fun f d fdef h1 h2 => hG (f, d) (dlOf_mem h1) fdef h2) n f d hd
    rw [ea, hps] at z
    exact FnG.any z
end
/-- the law's end -/
theorem walk_X {lw : PySem.W.OpenLaw} {n k : Nat} {q : Program} {loose : List Str} {XP : (Str → Option Value) → Heap → Prop} {YP : World → Heap → Prop} {d : DefRec} {CX : CXT} {x : Str} (hn : lw.most = some n) (hn2 : n ≤ sizeLine) (hdf : d.params.defaults = []) (hr : Room k callerA)
    (F : ∀ (w : World) (mg : Str → Option Value) (fa : Addr) (h : Heap), YP w h → h.Ns mainGlobals mg → mg d.name = some (.ref fa) → ∃ (K : PySem.W.Frag) (fd : FuncData) (cs : List (Addr × Addr)) (sp : Sp), K.In h ∧ (∀ p ∈ cs, h.get? p.2 = some { cls := .none, data := .fields #[] }) ∧ (∀ p ∈ cs, K.lookup p.2 = none) ∧
      (∀ p ∈ cs, PySem.W.CodeHd h p.1 p.2) ∧ (∀ (s : Shared) (u : Value), BindsTo s fd ⟨[u], []⟩ [(x, u)]) ∧ (∀ (H : Hp) (a : Addr) (ns : List Int), ns.length ≤ n → (∀ p ∈ cs, H p.2 = some (.tbl #[])) → SqL K H a (ns.map V.int) → sp [.ref a] H (fun v _ => v = .bl true) fun _ _ _ => False) ∧
        ∀ base : Heap, K.In base → base.Ns mainGlobals mg → (∀ p ∈ cs, LamX.TabB base mg p.1 p.2) → FnOk lw.prog w K mg base CX k fa fd [x] sp)
    (hCX : ∀ (H : Hp) (s : Shared) (e : Value) (s' : Shared), CX [] H s (fun _ _ _ => False) e s' → False) : PySem.W.WalkO q loose XP YP lw.row.toRowW d [] (fun f vs => PySem.call f vs) := by
  refine Att.attach_callB hn hdf fun w t0 t1 mg mb fa ob v1 v2 v3 a vs ns Gd Yd o1 o2 o3 hmg hobj hints hlen hbits hge => ?_
  obtain ⟨K, fd, cs, sp, KX, hT, nT, hC, hb, hsp, hF⟩ := F w mg fa _ Yd Gd.T.g hmg
  exact LamX.law_callTs KX Gd.T.g Gd.T.b Gd.T.builtins Gd.T.nolimit hge hT nT hC Gd.T.bmain hobj hints (Nat.le_trans hlen hn2) hr hF hb (fun H hH hS => hsp H a ns hlen hH hS) fun H e s' => hCX H t1 e s'
end EV
/-! EvS: the library's part. -/
namespace EV
open PySem PySem.Spec PyProof.Rows L2
theorem lib_ok (X : Cx) (cls : Cl) (hc : X.calm = true) (hu : X.A.units + 64 < cLine) : Lib X cls :=
  ⟨⟨t_mem hu, t_nmem hu, t_neE hu, t_get hu⟩, t_len, t_list hc, fun U => cd_sorted hc hu, t_get2 hu⟩
end EV
/-! EvIR: the defs, compiled. Printed by gen.py. -/
namespace EV
open PySem
def ir_is_whole : FDef := ⟨3, 3, (.cons (.ret (.and (.blt (.isT .int) (.cons (.var 0) .nil)) (.and (.not (.blt (.isT .bl) (.cons (.var 0) .nil))) (.chn .LtE .LtE (.var 1) (.var 0) (.var 2))))) .nil)⟩
def ir_is_box : FDef := ⟨1, 2, (.cons (.ite (.or (.not (.blt (.isT .tup) (.cons (.var 0) .nil))) (.or (.cmp .Eq (.blt .len (.cons (.var 0) .nil)) (.con (.int (0)))) (.not (.blt (.isT .str) (.cons (.idx (.var 0) (.con (.int (0)))) .nil))))) (.cons (.ret (.con (.bl false))) .nil) .nil) (.cons (.ite (.cmp .Eq (.idx (.var 0) (.con (.int (0)))) (.con (.str (Str.ofString "all")))) (.cons (.ret (.cmp .Eq (.blt .len (.cons (.var 0) .nil)) (.con (.int (1))))) .nil) .nil) (.cons (.ite (.cmp .In (.idx (.var 0) (.con (.int (0)))) (.tup (.cons (.con (.str (Str.ofString "alike"))) (.cons (.con (.str (Str.ofString "run"))) .nil)))) (.cons (.ret (.and (.cmp .Eq (.blt .len (.cons (.var 0) .nil)) (.con (.int (3)))) (.and (.call 0 (.cons (.idx (.var 0) (.con (.int (1)))) (.cons (.con (.int (2))) (.cons (.con (.int (4))) .nil)))) (.call 0 (.cons (.idx (.var 0) (.con (.int (2)))) (.cons (.con (.int (1))) (.cons (.con (.int (50))) .nil))))))) .nil) .nil) (.cons (.set (.one 1) (.mth .get2 (.dct (.cons (.con (.str (Str.ofString "face"))) (.cons (.con (.int (6))) (.cons (.con (.str (Str.ofString "under"))) (.cons (.con (.int (24))) (.cons (.con (.str (Str.ofString "even"))) (.cons (.con (.int (50))) .nil))))))) (.cons (.idx (.var 0) (.con (.int (0)))) (.cons (.con (.int (0))) .nil)))) (.cons (.ret (.and (.cmp .Eq (.blt .len (.cons (.var 0) .nil)) (.con (.int (2)))) (.call 0 (.cons (.idx (.var 0) (.con (.int (1)))) (.cons (.con (.int (1))) (.cons (.var 1) .nil)))))) .nil)))))⟩
def ir_is_game : FDef := ⟨1, 2, (.cons (.ite (.or (.not (.blt (.isT .tup) (.cons (.var 0) .nil))) (.or (.cmp .NotEq (.blt .len (.cons (.var 0) .nil)) (.con (.int (4)))) (.not (.blt (.isT .tup) (.cons (.idx (.var 0) (.con (.int (3)))) .nil))))) (.cons (.ret (.con (.bl false))) .nil) .nil) (.cons (.ite (.or (.not (.call 0 (.cons (.idx (.var 0) (.con (.int (0)))) (.cons (.con (.int (1))) (.cons (.con (.int (4))) .nil))))) (.not (.call 0 (.cons (.idx (.var 0) (.con (.int (1)))) (.cons (.con (.int (2))) (.cons (.con (.int (6))) .nil)))))) (.cons (.ret (.con (.bl false))) .nil) .nil) (.cons (.ite (.or (.not (.call 0 (.cons (.idx (.var 0) (.con (.int (2)))) (.cons (.con (.int (1))) (.cons (.con (.int (3))) .nil))))) (.not (.chn .LtE .LtE (.con (.int (1))) (.blt .len (.cons (.idx (.var 0) (.con (.int (3)))) .nil)) (.con (.int (4)))))) (.cons (.ret (.con (.bl false))) .nil) .nil) (.cons (.ret (.blt .all (.cons (.lc false [1] (.one 1) (.seq (.idx (.var 0) (.con (.int (3))))) (.con (.bl true)) (.call 1 (.cons (.var 1) .nil))) .nil))) .nil))))⟩
def ir__law_cell_at : FDef := ⟨2, 2, (.cons (.ite (.cmp .Lt (.var 1) (.blt .len (.cons (.var 0) .nil))) (.cons (.ret (.idx (.var 0) (.var 1))) .nil) .nil) (.cons (.ret (.con (.int (0)))) .nil))⟩
def ir__law_mixed : FDef := ⟨2, 3, (.cons (.set (.one 2) (.bin .Mod (.bin .Mult (.bin .Add (.bin .Add (.call 3 (.cons (.var 0) (.cons (.var 1) .nil))) (.bin .Mult (.con (.int (7919))) (.var 1))) (.con (.int (1)))) (.con (.int (48271)))) (.con (.int (2147483647))))) (.cons (.ret (.bin .Mod (.bin .Add (.bin .Add (.bin .Mult (.var 2) (.var 2)) (.bin .Mult (.con (.int (7))) (.var 2))) (.var 1)) (.con (.int (2147483629))))) .nil))⟩
def ir__law_drawn : FDef := ⟨2, 3, (.cons (.set (.one 2) (.bin .Mod (.bin .Mult (.bin .Add (.bin .Add (.var 0) (.bin .Mult (.con (.int (104729))) (.var 1))) (.con (.int (17)))) (.con (.int (69621)))) (.con (.int (2147483647))))) (.cons (.ret (.bin .Mod (.bin .Add (.bin .Add (.bin .Mult (.var 2) (.var 2)) (.bin .Mult (.con (.int (3))) (.var 2))) (.var 1)) (.con (.int (2147483629))))) .nil))⟩
def ir__law_box : FDef := ⟨1, 3, (.cons (.set (.one 1) (.bin .Mod (.var 0) (.con (.int (6))))) (.cons (.set (.one 2) (.lst (.cons (.tup (.cons (.con (.str (Str.ofString "face"))) (.cons (.bin .Add (.con (.int (1))) (.bin .Mod (.bin .FloorDiv (.var 0) (.con (.int (6)))) (.con (.int (6))))) .nil))) (.cons (.tup (.cons (.con (.str (Str.ofString "all"))) .nil)) (.cons (.tup (.cons (.con (.str (Str.ofString "alike"))) (.cons (.bin .Add (.con (.int (2))) (.bin .Mod (.bin .FloorDiv (.var 0) (.con (.int (6)))) (.con (.int (3))))) (.cons (.bin .Add (.con (.int (1))) (.bin .Mod (.bin .FloorDiv (.var 0) (.con (.int (64)))) (.con (.int (50))))) .nil)))) .nil))))) (.cons (.set (.one 2) (.bin .Add (.var 2) (.lst (.cons (.tup (.cons (.con (.str (Str.ofString "run"))) (.cons (.bin .Add (.con (.int (2))) (.bin .Mod (.bin .FloorDiv (.var 0) (.con (.int (6)))) (.con (.int (3))))) (.cons (.bin .Add (.con (.int (1))) (.bin .Mod (.bin .FloorDiv (.var 0) (.con (.int (64)))) (.con (.int (50))))) .nil)))) (.cons (.tup (.cons (.con (.str (Str.ofString "under"))) (.cons (.bin .Add (.con (.int (1))) (.bin .Mod (.bin .FloorDiv (.var 0) (.con (.int (6)))) (.con (.int (24))))) .nil))) .nil))))) (.cons (.ret (.idx (.bin .Add (.var 2) (.lst (.cons (.tup (.cons (.con (.str (Str.ofString "even"))) (.cons (.bin .Add (.con (.int (1))) (.bin .Mod (.bin .FloorDiv (.var 0) (.con (.int (6)))) (.con (.int (50))))) .nil))) .nil))) (.var 1))) .nil))))⟩
def ir__law_game : FDef := ⟨2, 7, (.cons (.set (.one 2) (.idx (.tup (.cons (.con (.int (2))) (.cons (.con (.int (1))) (.cons (.con (.int (3))) (.cons (.con (.int (2))) .nil))))) (.bin .Mod (.var 0) (.con (.int (4)))))) (.cons (.set (.one 3) (.idx (.tup (.cons (.con (.int (2))) (.cons (.con (.int (3))) (.cons (.con (.int (4))) (.cons (.con (.int (2))) .nil))))) (.bin .Mod (.bin .FloorDiv (.var 0) (.con (.int (4)))) (.con (.int (4)))))) (.cons (.set (.one 4) (.idx (.tup (.cons (.con (.int (1))) (.cons (.con (.int (2))) (.cons (.con (.int (3))) (.cons (.con (.int (2))) .nil))))) (.bin .Mod (.bin .FloorDiv (.var 0) (.con (.int (16)))) (.con (.int (4)))))) (.cons (.set (.one 5) (.blt .tuple (.cons (.lc false [6] (.one 6) (.rng1 (.idx (.tup (.cons (.con (.int (1))) (.cons (.con (.int (2))) (.cons (.con (.int (2))) (.cons (.con (.int (3))) .nil))))) (.bin .Mod (.bin .FloorDiv (.var 0) (.con (.int (64)))) (.con (.int (4)))))) (.con (.bl true)) (.call 6 (.cons (.bin .FloorDiv (.call 5 (.cons (.var 0) (.cons (.var 6) .nil))) (.con (.int (4)))) .nil))) .nil))) (.cons (.ite (.cmp .Eq (.var 1) (.con (.int (1)))) (.cons (.ret (.tup (.cons (.bin .Add (.con (.int (1))) (.bin .Mod (.bin .FloorDiv (.var 0) (.con (.int (256)))) (.con (.int (4))))) (.cons (.bin .Add (.con (.int (2))) (.bin .Mod (.bin .FloorDiv (.var 0) (.con (.int (1024)))) (.con (.int (5))))) (.cons (.var 4) (.cons (.var 5) .nil)))))) .nil) .nil) (.cons (.ite (.or (.and (.cmp .Eq (.var 2) (.con (.int (3)))) (.cmp .Eq (.var 3) (.con (.int (4))))) (.and (.cmp .Eq (.blt .len (.cons (.var 5) .nil)) (.con (.int (3)))) (.cmp .Gt (.bin .Mult (.bin .Mult (.var 2) (.var 3)) (.var 4)) (.con (.int (12)))))) (.cons (.ret (.tup (.cons (.con (.int (2))) (.cons (.blt .min2 (.cons (.var 3) (.cons (.con (.int (3))) .nil))) (.cons (.blt .min2 (.cons (.var 4) (.cons (.con (.int (2))) .nil))) (.cons (.var 5) .nil)))))) .nil) .nil) (.cons (.ret (.tup (.cons (.var 2) (.cons (.var 3) (.cons (.var 4) (.cons (.var 5) .nil)))))) .nil)))))))⟩
def ir__law_dice : FDef := ⟨2, 3, (.cons (.ret (.blt .tuple (.cons (.blt .sorted (.cons (.lc false [2] (.one 2) (.rng1 (.idx (.var 0) (.con (.int (0))))) (.con (.bl true)) (.bin .Add (.con (.int (1))) (.bin .Mod (.bin .FloorDiv (.call 5 (.cons (.var 1) (.cons (.bin .Add (.con (.int (30))) (.var 2)) .nil))) (.con (.int (4)))) (.idx (.var 0) (.con (.int (1))))))) .nil)) .nil))) .nil)⟩
def ir__law_stand : FDef := ⟨2, 4, (.cons (.set (.one 2) (.lc false [3] (.one 3) (.rng1 (.blt .len (.cons (.idx (.var 0) (.con (.int (3)))) .nil))) (.cmp .Eq (.bin .Mod (.bin .FloorDiv (.var 1) (.idx (.tup (.cons (.con (.int (1))) (.cons (.con (.int (2))) (.cons (.con (.int (4))) (.cons (.con (.int (8))) .nil))))) (.var 3))) (.con (.int (2)))) (.con (.int (1)))) (.var 3))) (.cons (.ite (.cmp .Eq (.var 2) (.lst .nil)) (.cons (.set (.one 2) (.lst (.cons (.bin .Mod (.bin .FloorDiv (.var 1) (.con (.int (16)))) (.blt .len (.cons (.idx (.var 0) (.con (.int (3)))) .nil))) .nil))) .nil) .nil) (.cons (.ret (.tup (.cons (.blt .tuple (.cons (.var 2) .nil)) (.cons (.bin .Mod (.bin .FloorDiv (.var 1) (.con (.int (64)))) (.idx (.var 0) (.con (.int (2))))) (.cons (.call 8 (.cons (.var 0) (.cons (.var 1) .nil))) .nil))))) .nil)))⟩
def ir__law_from : FDef := ⟨3, 3, (.cons (.ret (.and (.blt (.isT .int) (.cons (.var 0) .nil)) (.and (.not (.blt (.isT .bl) (.cons (.var 0) .nil))) (.chn .LtE .LtE (.var 1) (.var 0) (.var 2))))) .nil)⟩
def ir__law_is_box : FDef := ⟨1, 2, (.cons (.ite (.or (.not (.blt (.isT .tup) (.cons (.var 0) .nil))) (.or (.cmp .Eq (.var 0) (.tup .nil)) (.not (.blt (.isT .str) (.cons (.idx (.var 0) (.con (.int (0)))) .nil))))) (.cons (.ret (.con (.bl false))) .nil) .nil) (.cons (.ite (.cmp .In (.idx (.var 0) (.con (.int (0)))) (.tup (.cons (.con (.str (Str.ofString "alike"))) (.cons (.con (.str (Str.ofString "run"))) .nil)))) (.cons (.ret (.and (.cmp .Eq (.blt .len (.cons (.var 0) .nil)) (.con (.int (3)))) (.and (.call 10 (.cons (.idx (.var 0) (.con (.int (1)))) (.cons (.con (.int (2))) (.cons (.con (.int (4))) .nil)))) (.call 10 (.cons (.idx (.var 0) (.con (.int (2)))) (.cons (.con (.int (1))) (.cons (.con (.int (50))) .nil))))))) .nil) .nil) (.cons (.ite (.cmp .Eq (.idx (.var 0) (.con (.int (0)))) (.con (.str (Str.ofString "all")))) (.cons (.ret (.cmp .Eq (.blt .len (.cons (.var 0) .nil)) (.con (.int (1))))) .nil) .nil) (.cons (.set (.one 1) (.mth .get2 (.dct (.cons (.con (.str (Str.ofString "face"))) (.cons (.con (.int (6))) (.cons (.con (.str (Str.ofString "under"))) (.cons (.con (.int (24))) (.cons (.con (.str (Str.ofString "even"))) (.cons (.con (.int (50))) .nil))))))) (.cons (.idx (.var 0) (.con (.int (0)))) (.cons (.con (.int (0))) .nil)))) (.cons (.ret (.and (.cmp .Eq (.blt .len (.cons (.var 0) .nil)) (.con (.int (2)))) (.call 10 (.cons (.idx (.var 0) (.con (.int (1)))) (.cons (.con (.int (1))) (.cons (.var 1) .nil)))))) .nil)))))⟩
def ir__law_is_game : FDef := ⟨1, 2, (.cons (.ite (.or (.not (.blt (.isT .tup) (.cons (.var 0) .nil))) (.or (.cmp .NotEq (.blt .len (.cons (.var 0) .nil)) (.con (.int (4)))) (.not (.blt (.isT .tup) (.cons (.idx (.var 0) (.con (.int (3)))) .nil))))) (.cons (.ret (.con (.bl false))) .nil) .nil) (.cons (.ite (.or (.not (.call 10 (.cons (.idx (.var 0) (.con (.int (0)))) (.cons (.con (.int (1))) (.cons (.con (.int (4))) .nil))))) (.or (.not (.call 10 (.cons (.idx (.var 0) (.con (.int (1)))) (.cons (.con (.int (2))) (.cons (.con (.int (6))) .nil))))) (.not (.call 10 (.cons (.idx (.var 0) (.con (.int (2)))) (.cons (.con (.int (1))) (.cons (.con (.int (3))) .nil))))))) (.cons (.ret (.con (.bl false))) .nil) .nil) (.cons (.ret (.and (.chn .LtE .LtE (.con (.int (1))) (.blt .len (.cons (.idx (.var 0) (.con (.int (3)))) .nil)) (.con (.int (4)))) (.cmp .Eq (.lc false [1] (.one 1) (.seq (.idx (.var 0) (.con (.int (3))))) (.not (.call 11 (.cons (.var 1) .nil))) (.var 1)) (.lst .nil)))) .nil)))⟩
def ir__law_odd : FDef := ⟨1, 2, (.cons (.set (.one 1) (.lst (.cons (.neg (.con (.int (1)))) (.cons (.con (.int (0))) (.cons (.con (.int (1))) (.cons (.con (.int (2))) (.cons (.con (.int (3))) (.cons (.con (.int (4))) (.cons (.con (.int (5))) (.cons (.con (.int (6))) (.cons (.con (.int (7))) (.cons (.con (.int (24))) (.cons (.con (.int (25))) (.cons (.con (.int (50))) (.cons (.con (.int (51))) (.cons (.con (.bl true)) (.cons (.con (.bl false)) (.cons (.con .non) (.cons (.con (.str (Str.ofString ""))) (.cons (.con (.str (Str.ofString "all"))) (.cons (.con (.str (Str.ofString "face"))) (.cons (.con (.str (Str.ofString "run"))) (.cons (.tup .nil) (.cons (.lst .nil) (.cons (.tup (.cons (.con (.str (Str.ofString "all"))) .nil)) .nil))))))))))))))))))))))))) (.cons (.set (.one 1) (.bin .Add (.var 1) (.lst (.cons (.tup (.cons (.con (.str (Str.ofString "all"))) (.cons (.con (.int (1))) .nil))) (.cons (.tup (.cons (.con (.str (Str.ofString "face"))) (.cons (.con (.int (7))) .nil))) (.cons (.tup (.cons (.con (.str (Str.ofString "run"))) (.cons (.con (.int (1))) (.cons (.con (.int (5))) .nil)))) (.cons (.tup (.cons (.con (.str (Str.ofString "alike"))) (.cons (.con (.int (5))) (.cons (.con (.int (1))) .nil)))) (.cons (.tup (.cons (.con (.str (Str.ofString "under"))) (.cons (.con (.int (25))) .nil))) (.cons (.tup (.cons (.con (.str (Str.ofString "even"))) (.cons (.con (.int (0))) .nil))) (.cons (.con (.str (Str.ofString "2"))) .nil)))))))))) (.cons (.ret (.idx (.bin .Add (.var 1) (.lst (.cons (.lst (.cons (.con (.str (Str.ofString "all"))) .nil)) .nil))) (.bin .Mod (.var 0) (.con (.int (31)))))) .nil)))⟩
def ir__law_spoilt : FDef := ⟨3, 5, (.cons (.ite (.and (.cmp .Gt (.var 2) (.con (.int (0)))) (.and (.blt (.isT .tup) (.cons (.var 0) .nil)) (.and (.cmp .Gt (.blt .len (.cons (.var 0) .nil)) (.con (.int (0)))) (.cmp .Gt (.bin .Mod (.var 1) (.con (.int (6)))) (.con (.int (0))))))) (.cons (.set (.one 3) (.bin .Mod (.bin .FloorDiv (.var 1) (.con (.int (6)))) (.blt .len (.cons (.var 0) .nil)))) (.cons (.set (.one 4) (.call 14 (.cons (.idx (.var 0) (.var 3)) (.cons (.bin .FloorDiv (.call 5 (.cons (.var 1) (.cons (.var 2) .nil))) (.con (.int (4)))) (.cons (.bin .Sub (.var 2) (.con (.int (1)))) .nil))))) (.cons (.ret (.bin .Add (.bin .Add (.sli (.var 0) .no (.is (.var 3))) (.tup (.cons (.var 4) .nil))) (.sli (.var 0) (.is (.bin .Add (.var 3) (.con (.int (1))))) .no))) .nil))) .nil) (.cons (.ite (.and (.blt (.isT .tup) (.cons (.var 0) .nil)) (.and (.cmp .Gt (.blt .len (.cons (.var 0) .nil)) (.con (.int (0)))) (.cmp .Eq (.bin .Mod (.bin .FloorDiv (.var 1) (.con (.int (6)))) (.con (.int (2)))) (.con (.int (0)))))) (.cons (.ret (.idx (.lst (.cons (.blt .list (.cons (.var 0) .nil)) (.cons (.sli (.var 0) .no (.is (.neg (.con (.int (1)))))) (.cons (.bin .Add (.var 0) (.sli (.var 0) (.is (.neg (.con (.int (1))))) .no)) (.cons (.sli (.var 0) (.is (.con (.int (1)))) .no) (.cons (.rev (.var 0)) (.cons (.bin .Mult (.var 0) (.con (.int (3)))) .nil))))))) (.bin .Mod (.bin .FloorDiv (.var 1) (.con (.int (12)))) (.con (.int (6)))))) .nil) .nil) (.cons (.ite (.and (.blt (.isT .int) (.cons (.var 0) .nil)) (.cmp .Eq (.bin .Mod (.bin .FloorDiv (.var 1) (.con (.int (6)))) (.con (.int (2)))) (.con (.int (0))))) (.cons (.ret (.idx (.lst (.cons (.blt .str (.cons (.var 0) .nil)) (.cons (.neg (.var 0)) (.cons (.bin .Add (.var 0) (.con (.int (1)))) (.cons (.cmp .Eq (.var 0) (.con (.int (1)))) (.cons (.bin .Sub (.var 0) (.con (.int (1)))) (.cons (.bin .Add (.var 0) (.con (.int (5)))) .nil))))))) (.bin .Mod (.bin .FloorDiv (.var 1) (.con (.int (12)))) (.con (.int (6)))))) .nil) .nil) (.cons (.ret (.call 13 (.cons (.bin .FloorDiv (.var 1) (.con (.int (6)))) .nil))) .nil))))⟩
def ir_law_k01 : FDef := ⟨1, 5, (.cons (.set (.one 1) (.call 4 (.cons (.var 0) (.cons (.con (.int (0))) .nil)))) (.cons (.set (.one 2) (.call 7 (.cons (.call 4 (.cons (.var 0) (.cons (.con (.int (1))) .nil))) (.cons (.con (.int (1))) .nil)))) (.cons (.ite (.cmp .Eq (.bin .Mod (.var 1) (.con (.int (2)))) (.con (.int (1)))) (.cons (.set (.one 2) (.call 14 (.cons (.var 2) (.cons (.call 4 (.cons (.var 0) (.cons (.con (.int (2))) .nil))) (.cons (.bin .Mod (.bin .FloorDiv (.var 1) (.con (.int (2)))) (.con (.int (4)))) .nil))))) .nil) .nil) (.cons (.ite (.cmp .Eq (.bin .Mod (.bin .FloorDiv (.var 1) (.con (.int (64)))) (.con (.int (4)))) (.con (.int (1)))) (.cons (.set (.one 2) (.call 7 (.cons (.call 4 (.cons (.var 0) (.cons (.con (.int (1))) .nil))) (.cons (.con (.int (1))) .nil)))) (.cons (.set (.one 4) (.lst (.cons (.bin .Add (.tup (.cons (.con (.int (5))) .nil)) (.sli (.var 2) (.is (.con (.int (1)))) .no)) (.cons (.bin .Add (.bin .Add (.sli (.var 2) .no (.is (.con (.int (1))))) (.tup (.cons (.con (.int (7))) .nil))) (.sli (.var 2) (.is (.con (.int (2)))) .no)) (.cons (.bin .Add (.bin .Add (.sli (.var 2) .no (.is (.con (.int (2))))) (.tup (.cons (.con (.int (0))) .nil))) (.sli (.var 2) (.is (.con (.int (3)))) .no)) (.cons (.bin .Add (.tup (.cons (.con (.int (0))) .nil)) (.sli (.var 2) (.is (.con (.int (1)))) .no)) .nil)))))) (.cons (.set (.one 4) (.bin .Add (.var 4) (.lst (.cons (.bin .Add (.bin .Add (.sli (.var 2) .no (.is (.con (.int (2))))) (.tup (.cons (.con (.int (4))) .nil))) (.sli (.var 2) (.is (.con (.int (3)))) .no)) (.cons (.bin .Add (.bin .Add (.sli (.var 2) .no (.is (.con (.int (1))))) (.tup (.cons (.con (.int (1))) .nil))) (.sli (.var 2) (.is (.con (.int (2)))) .no)) (.cons (.bin .Add (.sli (.var 2) .no (.is (.con (.int (3))))) (.tup (.cons (.bin .Mult (.idx (.var 2) (.con (.int (3)))) (.con (.int (5)))) .nil))) .nil)))))) (.cons (.set (.one 2) (.idx (.var 4) (.bin .Mod (.bin .FloorDiv (.var 1) (.con (.int (256)))) (.con (.int (7)))))) .nil)))) .nil) (.cons (.set (.one 3) (.call 2 (.cons (.var 2) .nil))) (.cons (.ite (.or (.not (.blt (.isT .bl) (.cons (.var 3) .nil))) (.cmp .NotEq (.var 3) (.call 12 (.cons (.var 2) .nil)))) (.cons (.ret (.con (.bl false))) .nil) .nil) (.cons (.set (.one 2) (.call 6 (.cons (.call 4 (.cons (.var 0) (.cons (.con (.int (3))) .nil))) .nil))) (.cons (.ite (.cmp .Eq (.bin .Mod (.bin .FloorDiv (.var 1) (.con (.int (8)))) (.con (.int (2)))) (.con (.int (1)))) (.cons (.set (.one 2) (.call 14 (.cons (.var 2) (.cons (.call 4 (.cons (.var 0) (.cons (.con (.int (4))) .nil))) (.cons (.bin .Mod (.bin .FloorDiv (.var 1) (.con (.int (16)))) (.con (.int (2)))) .nil))))) .nil) .nil) (.cons (.ite (.cmp .Eq (.bin .Mod (.bin .FloorDiv (.var 1) (.con (.int (2048)))) (.con (.int (4)))) (.con (.int (1)))) (.cons (.set (.one 4) (.lst (.cons (.tup (.cons (.con (.str (Str.ofString "face"))) (.cons (.con (.int (7))) .nil))) (.cons (.tup (.cons (.con (.str (Str.ofString "face"))) (.cons (.con (.int (6))) .nil))) (.cons (.tup (.cons (.con (.str (Str.ofString "even"))) (.cons (.con (.int (51))) .nil))) (.cons (.tup (.cons (.con (.str (Str.ofString "even"))) (.cons (.con (.int (50))) .nil))) (.cons (.tup (.cons (.con (.str (Str.ofString "run"))) (.cons (.con (.int (5))) (.cons (.con (.int (3))) .nil)))) (.cons (.tup (.cons (.con (.str (Str.ofString "alike"))) (.cons (.con (.int (2))) (.cons (.con (.int (51))) .nil)))) (.cons (.tup (.cons (.con (.str (Str.ofString "run"))) (.cons (.con (.int (4))) (.cons (.con (.int (50))) .nil)))) .nil))))))))) (.cons (.set (.one 2) (.idx (.bin .Add (.var 4) (.lst (.cons (.tup (.cons (.con (.str (Str.ofString "under"))) (.cons (.con (.int (24))) .nil))) (.cons (.tup (.cons (.con (.str (Str.ofString "under"))) (.cons (.con (.int (25))) .nil))) (.cons (.tup (.cons (.con (.str (Str.ofString "alike"))) (.cons (.con (.int (1))) (.cons (.con (.int (5))) .nil)))) .nil))))) (.bin .Mod (.bin .FloorDiv (.var 1) (.con (.int (8192)))) (.con (.int (10)))))) .nil)) .nil) (.cons (.set (.one 3) (.call 1 (.cons (.var 2) .nil))) (.cons (.ret (.and (.blt (.isT .bl) (.cons (.var 3) .nil)) (.cmp .Eq (.var 3) (.call 11 (.cons (.var 2) .nil))))) .nil)))))))))))⟩
def ir_of_many : FDef := ⟨3, 3, (.cons (.ite (.cmp .Eq (.var 0) (.con (.int (1)))) (.cons (.ret (.bin .Add (.bin .Add (.blt .str (.cons (.var 0) .nil)) (.con (.str (Str.ofString " ")))) (.var 1))) .nil) .nil) (.cons (.ret (.bin .Add (.bin .Add (.blt .str (.cons (.var 0) .nil)) (.con (.str (Str.ofString " ")))) (.var 2))) .nil))⟩
def ir_box_text : FDef := ⟨1, 2, (.cons (.ret (.mth .join (.con (.str (Str.ofString " "))) (.cons (.lc false [1] (.one 1) (.seq (.var 0)) (.con (.bl true)) (.blt .str (.cons (.var 1) .nil))) .nil))) .nil)⟩
def ir_written : FDef := ⟨1, 7, (.cons (.set (.many [2, 3, 4, 5]) (.var 0)) (.cons (.set (.one 1) (.bin .Add (.bin .Add (.bin .Add (.bin .Add (.call 16 (.cons (.var 2) (.cons (.con (.str (Str.ofString "die"))) (.cons (.con (.str (Str.ofString "dice"))) .nil)))) (.con (.str (Str.ofString " of ")))) (.blt .str (.cons (.var 3) .nil))) (.con (.str (Str.ofString ", ")))) (.call 16 (.cons (.var 4) (.cons (.con (.str (Str.ofString "throw"))) (.cons (.con (.str (Str.ofString "throws"))) .nil)))))) (.cons (.ret (.mth .join (.con (.str (Str.ofString "; "))) (.cons (.bin .Add (.lst (.cons (.var 1) .nil)) (.lc false [6] (.one 6) (.seq (.var 5)) (.con (.bl true)) (.call 17 (.cons (.var 6) .nil)))) .nil))) .nil)))⟩
def ir__law_text : FDef := ⟨1, 8, (.cons (.set (.many [2, 3, 4, 5]) (.var 0)) (.cons (.set (.one 1) (.bin .Add (.bin .Add (.bin .Add (.blt .str (.cons (.var 2) .nil)) (.idx (.lst (.cons (.con (.str (Str.ofString " dice of "))) (.cons (.con (.str (Str.ofString " die of "))) .nil))) (.blt .int (.cons (.cmp .Eq (.var 2) (.con (.int (1)))) .nil)))) (.blt .str (.cons (.var 3) .nil))) (.con (.str (Str.ofString ", "))))) (.cons (.set (.one 1) (.bin .Add (.bin .Add (.var 1) (.blt .str (.cons (.var 4) .nil))) (.idx (.lst (.cons (.con (.str (Str.ofString " throws"))) (.cons (.con (.str (Str.ofString " throw"))) .nil))) (.blt .int (.cons (.cmp .Eq (.var 4) (.con (.int (1)))) .nil))))) (.cons (.ret (.mth .join (.con (.str (Str.ofString "; "))) (.cons (.bin .Add (.lst (.cons (.var 1) .nil)) (.lc false [6] (.one 6) (.seq (.var 5)) (.con (.bl true)) (.mth .join (.con (.str (Str.ofString " "))) (.cons (.lc false [7] (.one 7) (.seq (.var 6)) (.con (.bl true)) (.blt .str (.cons (.var 7) .nil))) .nil)))) .nil))) .nil))))⟩
def ir_law_k02 : FDef := ⟨1, 2, (.cons (.set (.one 1) (.call 7 (.cons (.call 4 (.cons (.var 0) (.cons (.con (.int (0))) .nil))) (.cons (.con (.int (1))) .nil)))) (.cons (.ret (.cmp .Eq (.call 18 (.cons (.var 1) .nil)) (.call 19 (.cons (.var 1) .nil)))) .nil))⟩
def ir_number_of : FDef := ⟨1, 2, (.cons (.ite (.or (.not (.chn .LtE .LtE (.con (.int (1))) (.blt .len (.cons (.var 0) .nil)) (.con (.int (2))))) (.not (.blt .all (.cons (.lc false [1] (.one 1) (.seq (.var 0)) (.con (.bl true)) (.cmp .In (.var 1) (.con (.str (Str.ofString "0123456789"))))) .nil)))) (.cons (.raise 0) .nil) .nil) (.cons (.ret (.blt .int (.cons (.var 0) .nil))) .nil))⟩
def ir_box_of : FDef := ⟨1, 3, (.cons (.set (.one 1) (.mth .split (.var 0) (.cons (.con (.str (Str.ofString " "))) .nil))) (.cons (.ret (.blt .tuple (.cons (.bin .Add (.sli (.var 1) .no (.is (.con (.int (1))))) (.lcx [2] (.one 2) (.seq (.sli (.var 1) (.is (.con (.int (1)))) .no)) (.con (.bl true)) (.call 21 (.cons (.var 2) .nil)))) .nil))) .nil))⟩
def ir_read : FDef := ⟨1, 6, (.cons (.ite (.not (.blt (.isT .str) (.cons (.var 0) .nil))) (.cons (.raise 0) .nil) .nil) (.cons (.set (.one 1) (.mth .split (.var 0) (.cons (.con (.str (Str.ofString "; "))) .nil))) (.cons (.set (.one 2) (.mth .split (.idx (.var 1) (.con (.int (0)))) (.cons (.con (.str (Str.ofString " "))) .nil))) (.cons (.ite (.cmp .NotEq (.blt .len (.cons (.var 2) .nil)) (.con (.int (6)))) (.cons (.raise 0) .nil) .nil) (.cons (.set (.one 3) (.tup (.cons (.call 21 (.cons (.idx (.var 2) (.con (.int (0)))) .nil)) (.cons (.call 21 (.cons (.sli (.idx (.var 2) (.con (.int (3)))) .no (.is (.neg (.con (.int (1)))))) .nil)) (.cons (.call 21 (.cons (.idx (.var 2) (.con (.int (4)))) .nil)) .nil))))) (.cons (.set (.one 4) (.bin .Add (.var 3) (.tup (.cons (.blt .tuple (.cons (.lcx [5] (.one 5) (.seq (.sli (.var 1) (.is (.con (.int (1)))) .no)) (.con (.bl true)) (.call 22 (.cons (.var 5) .nil))) .nil)) .nil)))) (.cons (.ite (.or (.not (.call 2 (.cons (.var 4) .nil))) (.cmp .NotEq (.call 18 (.cons (.var 4) .nil)) (.var 0))) (.cons (.raise 0) .nil) .nil) (.cons (.ret (.var 4)) .nil))))))))⟩
def ir__law_changed : FDef := ⟨2, 9, (.cons (.set (.one 2) (.mth .split (.var 0) (.cons (.con (.str (Str.ofString " "))) .nil))) (.cons (.set (.one 3) (.bin .Mod (.bin .FloorDiv (.var 1) (.con (.int (8)))) (.blt .len (.cons (.var 2) .nil)))) (.cons (.set (.one 4) (.lst (.cons (.con (.str (Str.ofString "1"))) (.cons (.con (.str (Str.ofString "2"))) (.cons (.con (.str (Str.ofString "dice"))) (.cons (.con (.str (Str.ofString "die"))) (.cons (.con (.str (Str.ofString "of"))) (.cons (.con (.str (Str.ofString "throws"))) (.cons (.con (.str (Str.ofString "throw"))) (.cons (.con (.str (Str.ofString "throws;"))) (.cons (.con (.str (Str.ofString "all"))) (.cons (.con (.str (Str.ofString "all;"))) (.cons (.con (.str (Str.ofString "run"))) (.cons (.con (.str (Str.ofString "5;"))) (.cons (.con (.str (Str.ofString "0"))) (.cons (.con (.str (Str.ofString "05"))) .nil)))))))))))))))) (.cons (.set (.one 4) (.bin .Add (.var 4) (.lst (.cons (.con (.str (Str.ofString ""))) (.cons (.con (.str (Str.ofString "face"))) .nil))))) (.cons (.set (.one 5) (.sli (.var 2) .no (.is (.var 3)))) (.cons (.set (.one 6) (.idx (.var 2) (.var 3))) (.cons (.set (.one 7) (.sli (.var 2) (.is (.bin .Add (.var 3) (.con (.int (1))))) .no)) (.cons (.set (.one 8) (.lstM (.cons (.bin .Add (.var 5) (.var 7)) (.cons (.bin .Add (.bin .Add (.var 5) (.lst (.cons (.var 6) (.cons (.var 6) .nil)))) (.var 7)) (.cons (.bin .Add (.bin .Add (.var 5) (.lst (.cons (.idx (.var 4) (.bin .Mod (.bin .FloorDiv (.var 1) (.con (.int (256)))) (.con (.int (16))))) .nil))) (.var 7)) .nil))))) (.cons (.set (.one 8) (.bin .Add (.var 8) (.lst (.cons (.bin .Add (.bin .Add (.var 5) (.lst (.cons (.sli (.var 6) .no (.is (.neg (.con (.int (1)))))) .nil))) (.var 7)) (.cons (.bin .Add (.bin .Add (.var 5) (.lst (.cons (.bin .Add (.var 6) (.con (.str (Str.ofString ";")))) .nil))) (.var 7)) .nil))))) (.cons (.exp (.mth .append (.var 8) (.cons (.bin .Add (.bin .Add (.bin .Add (.var 5) (.sli (.var 7) .no (.is (.con (.int (1)))))) (.lst (.cons (.var 6) .nil))) (.sli (.var 7) (.is (.con (.int (1)))) .no)) .nil))) (.cons (.ret (.mth .join (.con (.str (Str.ofString " "))) (.cons (.idx (.var 8) (.bin .Mod (.var 1) (.con (.int (6))))) .nil))) .nil)))))))))))⟩
def ir__law_number_in : FDef := ⟨1, 2, (.cons (.ite (.or (.not (.chn .LtE .LtE (.con (.int (1))) (.blt .len (.cons (.var 0) .nil)) (.con (.int (2))))) (.cmp .NotEq (.lc false [1] (.one 1) (.seq (.var 0)) (.cmp .NotIn (.var 1) (.con (.str (Str.ofString "0123456789")))) (.var 1)) (.lst .nil))) (.cons (.ret (.con .non)) .nil) .nil) (.cons (.ret (.blt .int (.cons (.var 0) .nil))) .nil))⟩
def ir__law_due : FDef := ⟨1, 10, (.cons (.set (.one 1) (.mth .split (.var 0) (.cons (.con (.str (Str.ofString "; "))) .nil))) (.cons (.set (.one 2) (.mth .split (.bin .Add (.mth .replace (.idx (.var 1) (.con (.int (0)))) (.cons (.con (.str (Str.ofString ","))) (.cons (.con (.str (Str.ofString " "))) .nil))) (.con (.str (Str.ofString " . . . . . .")))) (.cons (.con (.str (Str.ofString " "))) .nil))) (.cons (.set (.one 3) (.blt .tuple (.cons (.lc false [8] (.one 8) (.seq (.tup (.cons (.con (.int (0))) (.cons (.con (.int (3))) (.cons (.con (.int (5))) .nil))))) (.con (.bl true)) (.call 26 (.cons (.idx (.var 2) (.var 8)) .nil))) .nil))) (.cons (.set (.one 4) (.lstM .nil)) (.cons (.for (.one 5) (.seq (.sli (.var 1) (.is (.con (.int (1)))) .no)) (.cons (.set (.one 7) (.mth .split (.var 5) (.cons (.con (.str (Str.ofString " "))) .nil))) (.cons (.exp (.mth .append (.var 4) (.cons (.blt .tuple (.cons (.bin .Add (.sli (.var 7) .no (.is (.con (.int (1))))) (.lc false [9] (.one 9) (.seq (.sli (.var 7) (.is (.con (.int (1)))) .no)) (.con (.bl true)) (.call 26 (.cons (.var 9) .nil)))) .nil)) .nil))) .nil))) (.cons (.set (.one 6) (.bin .Add (.var 3) (.tup (.cons (.blt .tuple (.cons (.var 4) .nil)) .nil)))) (.cons (.ite (.or (.not (.call 12 (.cons (.var 6) .nil))) (.cmp .NotEq (.call 19 (.cons (.var 6) .nil)) (.var 0))) (.cons (.ret (.con .non)) .nil) .nil) (.cons (.ret (.var 6)) .nil))))))))⟩
def ir_law_k03 : FDef := ⟨1, 5, (.cons (.set (.one 1) (.call 4 (.cons (.var 0) (.cons (.con (.int (0))) .nil)))) (.cons (.set (.one 2) (.call 19 (.cons (.call 7 (.cons (.call 4 (.cons (.var 0) (.cons (.con (.int (1))) .nil))) (.cons (.con (.int (1))) .nil))) .nil))) (.cons (.for (.one 3) (.rng1 (.idx (.tup (.cons (.con (.int (0))) (.cons (.con (.int (1))) (.cons (.con (.int (2))) (.cons (.con (.int (4))) (.cons (.con (.int (0))) (.cons (.con (.int (1))) .nil))))))) (.bin .Mod (.var 1) (.con (.int (6)))))) (.cons (.set (.one 2) (.call 25 (.cons (.var 2) (.cons (.bin .FloorDiv (.call 5 (.cons (.var 1) (.cons (.var 3) .nil))) (.con (.int (4)))) .nil)))) .nil)) (.cons (.set (.one 4) (.call 27 (.cons (.var 2) .nil))) (.cons (.ret (.cmp .Eq (.told (.call 23 (.cons (.var 2) .nil))) (.idx (.lst (.cons (.tup (.cons (.con (.str (Str.ofString "told"))) (.cons (.var 4) .nil))) (.cons (.tup (.cons (.con (.str (Str.ofString "refused"))) (.cons (.con (.int (0))) .nil))) .nil))) (.blt .int (.cons (.cmp .Is (.var 4) (.con .non)) .nil))))) .nil)))))⟩
def ir_law_k04 : FDef := ⟨1, 9, (.cons (.set (.one 1) (.call 7 (.cons (.call 4 (.cons (.var 0) (.cons (.con (.int (0))) .nil))) (.cons (.con (.int (1))) .nil)))) (.cons (.set (.one 2) (.bin .Add (.sli (.idx (.var 1) (.con (.int (3)))) .no (.is (.con (.int (2))))) (.sli (.idx (.call 7 (.cons (.call 4 (.cons (.var 0) (.cons (.con (.int (1))) .nil))) (.cons (.con (.int (1))) .nil))) (.con (.int (3)))) .no (.is (.con (.int (2))))))) (.cons (.set (.one 3) (.call 18 (.cons (.bin .Add (.sli (.var 1) .no (.is (.con (.int (3))))) (.tup (.cons (.var 2) .nil))) .nil))) (.cons (.set (.one 4) (.idx (.mth .split (.call 18 (.cons (.bin .Add (.sli (.var 1) .no (.is (.con (.int (3))))) (.tup (.cons (.sli (.var 2) .no (.is (.con (.int (1))))) .nil))) .nil)) (.cons (.con (.str (Str.ofString "; "))) .nil)) (.con (.int (0))))) (.cons (.set (.one 5) (.lc false [6] (.one 6) (.seq (.var 2)) (.con (.bl true)) (.idx (.mth .split (.call 18 (.cons (.bin .Add (.sli (.var 1) .no (.is (.con (.int (3))))) (.tup (.cons (.tup (.cons (.var 6) .nil)) .nil))) .nil)) (.cons (.con (.str (Str.ofString "; "))) .nil)) (.con (.int (1)))))) (.cons (.ite (.or (.cmp .NotEq (.var 3) (.mth .join (.con (.str (Str.ofString "; "))) (.cons (.bin .Add (.lst (.cons (.var 4) .nil)) (.var 5)) .nil))) (.cmp .NotEq (.call 23 (.cons (.var 3) .nil)) (.bin .Add (.sli (.var 1) .no (.is (.con (.int (3))))) (.tup (.cons (.var 2) .nil))))) (.cons (.ret (.con (.bl false))) .nil) .nil) (.cons (.for (.many [6, 7]) (.zip (.var 2) (.var 5)) (.cons (.ite (.cmp .NotEq (.var 7) (.mth .join (.con (.str (Str.ofString " "))) (.cons (.lc false [8] (.one 8) (.seq (.var 6)) (.con (.bl true)) (.blt .str (.cons (.var 8) .nil))) .nil))) (.cons (.ret (.con (.bl false))) .nil) .nil) (.cons (.ite (.cmp .NotEq (.call 23 (.cons (.bin .Add (.bin .Add (.var 4) (.con (.str (Str.ofString "; ")))) (.var 7)) .nil)) (.bin .Add (.sli (.var 1) .no (.is (.con (.int (3))))) (.tup (.cons (.tup (.cons (.var 6) .nil)) .nil)))) (.cons (.ret (.con (.bl false))) .nil) .nil) .nil))) (.cons (.ret (.cmp .Eq (.call 23 (.cons (.mth .join (.con (.str (Str.ofString "; "))) (.cons (.bin .Add (.lst (.cons (.var 4) .nil)) (.rev (.var 5))) .nil)) .nil)) (.bin .Add (.sli (.var 1) .no (.is (.con (.int (3))))) (.tup (.cons (.rev (.var 2)) .nil))))) .nil))))))))⟩
def ir__law_bent : FDef := ⟨2, 10, (.cons (.set (.one 2) (.bin .Mod (.var 1) (.bin .Add (.blt .len (.cons (.var 0) .nil)) (.con (.int (1)))))) (.cons (.set (.one 3) (.idx (.con (.str (Str.ofString "0123456789 ;,dicerowsf"))) (.bin .Mod (.bin .FloorDiv (.var 1) (.con (.int (512)))) (.con (.int (22)))))) (.cons (.set (.one 4) (.mth .split (.var 0) (.cons (.con (.str (Str.ofString "; "))) .nil))) (.cons (.set (.one 5) (.bin .Mod (.bin .FloorDiv (.var 1) (.con (.int (16384)))) (.blt .len (.cons (.var 4) .nil)))) (.cons (.set (.many [8, 9]) (.tup (.cons (.sli (.var 0) .no (.is (.var 2))) (.cons (.sli (.var 0) (.is (.bin .Add (.var 2) (.con (.int (1))))) .no) .nil)))) (.cons (.set (.one 6) (.lstM (.cons (.bin .Add (.bin .Add (.var 8) (.var 3)) (.sli (.var 0) (.is (.var 2)) .no)) (.cons (.bin .Add (.var 8) (.var 9)) (.cons (.bin .Add (.bin .Add (.var 8) (.var 3)) (.var 9)) .nil))))) (.cons (.set (.one 7) (.bin .Add (.bin .Add (.sli (.var 4) .no (.is (.var 5))) (.sli (.var 4) (.is (.var 5)) (.is (.bin .Add (.var 5) (.con (.int (1))))))) (.sli (.var 4) (.is (.var 5)) .no))) (.cons (.exp (.mth .append (.var 6) (.cons (.mth .join (.con (.str (Str.ofString "; "))) (.cons (.var 7) .nil)) .nil))) (.cons (.exp (.mth .append (.var 6) (.cons (.mth .join (.con (.str (Str.ofString "; "))) (.cons (.bin .Add (.sli (.var 4) .no (.is (.var 5))) (.sli (.var 4) (.is (.bin .Add (.var 5) (.con (.int (1))))) .no)) .nil)) .nil))) (.cons (.ret (.idx (.var 6) (.bin .Mod (.bin .FloorDiv (.var 1) (.con (.int (1048576)))) (.con (.int (5)))))) .nil))))))))))⟩
def ir_law_k05 : FDef := ⟨1, 5, (.cons (.set (.one 1) (.call 4 (.cons (.var 0) (.cons (.con (.int (0))) .nil)))) (.cons (.set (.one 2) (.call 18 (.cons (.call 7 (.cons (.call 4 (.cons (.var 0) (.cons (.con (.int (1))) .nil))) (.cons (.con (.int (1))) .nil))) .nil))) (.cons (.for (.one 3) (.rng1 (.bin .Add (.con (.int (1))) (.bin .Mod (.bin .FloorDiv (.var 1) (.con (.int (4)))) (.con (.int (3)))))) (.cons (.set (.one 2) (.call 30 (.cons (.var 2) (.cons (.bin .FloorDiv (.call 5 (.cons (.var 1) (.cons (.var 3) .nil))) (.con (.int (4)))) .nil)))) (.cons (.set (.one 4) (.told (.call 23 (.cons (.var 2) .nil)))) (.cons (.ite (.cmp .Eq (.idx (.var 4) (.con (.int (0)))) (.con (.str (Str.ofString "refused")))) (.cons (.ite (.cmp .NotEq (.var 4) (.tup (.cons (.con (.str (Str.ofString "refused"))) (.cons (.con (.int (0))) .nil)))) (.cons (.ret (.con (.bl false))) .nil) .nil) .nil) (.cons (.ite (.or (.cmp .IsNot (.call 2 (.cons (.idx (.var 4) (.con (.int (1)))) .nil)) (.con (.bl true))) (.cmp .NotEq (.call 18 (.cons (.idx (.var 4) (.con (.int (1)))) .nil)) (.var 2))) (.cons (.ret (.con (.bl false))) .nil) .nil) .nil)) .nil)))) (.cons (.ret (.con (.bl true))) .nil))))⟩
def ir__law_places_in : FDef := ⟨2, 5, (.cons (.set (.one 2) (.lst (.cons (.var 1) .nil))) (.cons (.ite (.blt (.isT .tup) (.cons (.var 0) .nil)) (.cons (.for (.many [3, 4]) (.enum (.var 0)) (.cons (.set (.one 2) (.bin .Add (.var 2) (.call 32 (.cons (.var 4) (.cons (.bin .Add (.var 1) (.tup (.cons (.var 3) .nil))) .nil))))) .nil)) .nil) .nil) (.cons (.ret (.var 2)) .nil)))⟩
def ir__law_otherwise : FDef := ⟨2, 3, (.cons (.ite (.blt (.isT .tup) (.cons (.var 0) .nil)) (.cons (.set (.one 2) (.lst (.cons (.blt .list (.cons (.var 0) .nil)) (.cons (.blt .list (.cons (.var 0) .nil)) (.cons (.bin .Add (.var 0) (.sli (.var 0) .no (.is (.con (.int (1)))))) .nil))))) (.cons (.ret (.idx (.bin .Add (.var 2) (.lst (.cons (.sli (.var 0) (.is (.con (.int (1)))) .no) (.cons (.lst (.cons (.var 0) .nil)) .nil)))) (.bin .Mod (.var 1) (.con (.int (5)))))) .nil)) .nil) (.cons (.ite (.blt (.isT .bl) (.cons (.var 0) .nil)) (.cons (.ret (.idx (.lst (.cons (.blt .int (.cons (.var 0) .nil)) (.cons (.con .non) (.cons (.blt .str (.cons (.var 0) .nil)) .nil)))) (.bin .Mod (.var 1) (.con (.int (3)))))) .nil) .nil) (.cons (.ite (.blt (.isT .int) (.cons (.var 0) .nil)) (.cons (.set (.one 2) (.lst (.cons (.con (.bl true)) (.cons (.con .non) (.cons (.blt .str (.cons (.var 0) .nil)) (.cons (.tup (.cons (.var 0) .nil)) .nil)))))) (.cons (.ret (.idx (.bin .Add (.var 2) (.lst (.cons (.bin .Sub (.neg (.con (.int (1)))) (.var 0)) .nil))) (.bin .Mod (.var 1) (.con (.int (5)))))) .nil)) .nil) (.cons (.ret (.idx (.lst (.cons (.con .non) (.cons (.tup (.cons (.var 0) .nil)) (.cons (.lst (.cons (.var 0) .nil)) (.cons (.con (.str (Str.ofString ""))) (.cons (.con (.int (0))) .nil)))))) (.bin .Mod (.var 1) (.con (.int (5)))))) .nil))))⟩
def ir__law_once : FDef := ⟨1, 5, (.cons (.set (.one 1) (.call 4 (.cons (.var 0) (.cons (.con (.int (0))) .nil)))) (.cons (.set (.one 2) (.call 7 (.cons (.call 4 (.cons (.var 0) (.cons (.con (.int (1))) .nil))) (.cons (.con (.int (1))) .nil)))) (.cons (.ite (.cmp .Eq (.bin .Mod (.var 1) (.con (.int (2)))) (.con (.int (1)))) (.cons (.set (.one 2) (.call 35 (.cons (.var 2) (.cons (.call 4 (.cons (.var 0) (.cons (.con (.int (2))) .nil))) (.cons (.bin .Mod (.bin .FloorDiv (.var 1) (.con (.int (2)))) (.con (.int (4)))) .nil))))) .nil) .nil) (.cons (.ite (.cmp .Eq (.bin .Mod (.bin .FloorDiv (.var 1) (.con (.int (64)))) (.con (.int (4)))) (.con (.int (1)))) (.cons (.set (.one 2) (.call 7 (.cons (.call 4 (.cons (.var 0) (.cons (.con (.int (1))) .nil))) (.cons (.con (.int (1))) .nil)))) (.cons (.set (.one 4) (.lst (.cons (.bin .Add (.tup (.cons (.con (.int (5))) .nil)) (.sli (.var 2) (.is (.con (.int (1)))) .no)) (.cons (.bin .Add (.bin .Add (.sli (.var 2) .no (.is (.con (.int (1))))) (.tup (.cons (.con (.int (7))) .nil))) (.sli (.var 2) (.is (.con (.int (2)))) .no)) (.cons (.bin .Add (.bin .Add (.sli (.var 2) .no (.is (.con (.int (2))))) (.tup (.cons (.con (.int (0))) .nil))) (.sli (.var 2) (.is (.con (.int (3)))) .no)) (.cons (.bin .Add (.tup (.cons (.con (.int (0))) .nil)) (.sli (.var 2) (.is (.con (.int (1)))) .no)) .nil)))))) (.cons (.set (.one 4) (.bin .Add (.var 4) (.lst (.cons (.bin .Add (.bin .Add (.sli (.var 2) .no (.is (.con (.int (2))))) (.tup (.cons (.con (.int (4))) .nil))) (.sli (.var 2) (.is (.con (.int (3)))) .no)) (.cons (.bin .Add (.bin .Add (.sli (.var 2) .no (.is (.con (.int (1))))) (.tup (.cons (.con (.int (1))) .nil))) (.sli (.var 2) (.is (.con (.int (2)))) .no)) (.cons (.bin .Add (.sli (.var 2) .no (.is (.con (.int (3))))) (.tup (.cons (.bin .Mult (.idx (.var 2) (.con (.int (3)))) (.con (.int (5)))) .nil))) .nil)))))) (.cons (.set (.one 2) (.idx (.var 4) (.bin .Mod (.bin .FloorDiv (.var 1) (.con (.int (256)))) (.con (.int (7)))))) .nil)))) .nil) (.cons (.set (.one 3) (.call 2 (.cons (.var 2) .nil))) (.cons (.ite (.or (.not (.blt (.isT .bl) (.cons (.var 3) .nil))) (.cmp .NotEq (.var 3) (.call 12 (.cons (.var 2) .nil)))) (.cons (.ret (.con (.bl false))) .nil) .nil) (.cons (.set (.one 2) (.call 6 (.cons (.call 4 (.cons (.var 0) (.cons (.con (.int (3))) .nil))) .nil))) (.cons (.ite (.cmp .Eq (.bin .Mod (.bin .FloorDiv (.var 1) (.con (.int (8)))) (.con (.int (2)))) (.con (.int (1)))) (.cons (.set (.one 2) (.call 35 (.cons (.var 2) (.cons (.call 4 (.cons (.var 0) (.cons (.con (.int (4))) .nil))) (.cons (.bin .Mod (.bin .FloorDiv (.var 1) (.con (.int (16)))) (.con (.int (2)))) .nil))))) .nil) .nil) (.cons (.ite (.cmp .Eq (.bin .Mod (.bin .FloorDiv (.var 1) (.con (.int (2048)))) (.con (.int (4)))) (.con (.int (1)))) (.cons (.set (.one 4) (.lst (.cons (.tup (.cons (.con (.str (Str.ofString "face"))) (.cons (.con (.int (7))) .nil))) (.cons (.tup (.cons (.con (.str (Str.ofString "face"))) (.cons (.con (.int (6))) .nil))) (.cons (.tup (.cons (.con (.str (Str.ofString "even"))) (.cons (.con (.int (51))) .nil))) (.cons (.tup (.cons (.con (.str (Str.ofString "even"))) (.cons (.con (.int (50))) .nil))) (.cons (.tup (.cons (.con (.str (Str.ofString "run"))) (.cons (.con (.int (5))) (.cons (.con (.int (3))) .nil)))) (.cons (.tup (.cons (.con (.str (Str.ofString "alike"))) (.cons (.con (.int (2))) (.cons (.con (.int (51))) .nil)))) (.cons (.tup (.cons (.con (.str (Str.ofString "run"))) (.cons (.con (.int (4))) (.cons (.con (.int (50))) .nil)))) .nil))))))))) (.cons (.set (.one 2) (.idx (.bin .Add (.var 4) (.lst (.cons (.tup (.cons (.con (.str (Str.ofString "under"))) (.cons (.con (.int (24))) .nil))) (.cons (.tup (.cons (.con (.str (Str.ofString "under"))) (.cons (.con (.int (25))) .nil))) (.cons (.tup (.cons (.con (.str (Str.ofString "alike"))) (.cons (.con (.int (1))) (.cons (.con (.int (5))) .nil)))) .nil))))) (.bin .Mod (.bin .FloorDiv (.var 1) (.con (.int (8192)))) (.con (.int (10)))))) .nil)) .nil) (.cons (.set (.one 3) (.call 1 (.cons (.var 2) .nil))) (.cons (.ret (.and (.blt (.isT .bl) (.cons (.var 3) .nil)) (.cmp .Eq (.var 3) (.call 11 (.cons (.var 2) .nil))))) .nil)))))))))))⟩
def ir_law_k09 : FDef := ⟨1, 3, (.cons (.for (.one 1) (.rng1 (.con (.int (8)))) (.cons (.ite (.not (.call 36 (.cons (.bin .Add (.lc false [2] (.one 2) (.seq (.var 0)) (.con (.bl true)) (.bin .Add (.var 2) (.bin .Mult (.con (.int (104729))) (.var 1)))) (.lst (.cons (.var 1) .nil))) .nil))) (.cons (.ret (.con (.bl false))) .nil) .nil) .nil)) (.cons (.ret (.con (.bl true))) .nil))⟩
def ir_has_run : FDef := ⟨2, 4, (.cons (.ret (.blt .any (.cons (.lc false [2] (.one 2) (.seq (.var 0)) (.con (.bl true)) (.blt .all (.cons (.lc false [3] (.one 3) (.rng1 (.var 1)) (.con (.bl true)) (.cmp .In (.bin .Add (.var 2) (.var 3)) (.var 0))) .nil))) .nil))) .nil)⟩
def ir_points : FDef := ⟨2, 4, (.cons (.set (.one 2) (.idx (.var 0) (.con (.int (0))))) (.cons (.ite (.cmp .Eq (.var 2) (.con (.str (Str.ofString "face")))) (.cons (.ret (.bin .Mult (.idx (.var 0) (.con (.int (1)))) (.mth .count (.var 1) (.cons (.idx (.var 0) (.con (.int (1)))) .nil)))) .nil) .nil) (.cons (.ite (.cmp .Eq (.var 2) (.con (.str (Str.ofString "all")))) (.cons (.ret (.blt .sum (.cons (.var 1) .nil))) .nil) .nil) (.cons (.ite (.cmp .Eq (.var 2) (.con (.str (Str.ofString "alike")))) (.cons (.ret (.bin .Mult (.idx (.var 0) (.con (.int (2)))) (.blt .int (.cons (.blt .any (.cons (.lc false [3] (.one 3) (.seq (.var 1)) (.con (.bl true)) (.cmp .GtE (.mth .count (.var 1) (.cons (.var 3) .nil)) (.idx (.var 0) (.con (.int (1)))))) .nil)) .nil)))) .nil) .nil) (.cons (.ite (.cmp .Eq (.var 2) (.con (.str (Str.ofString "run")))) (.cons (.ret (.bin .Mult (.idx (.var 0) (.con (.int (2)))) (.blt .int (.cons (.call 38 (.cons (.var 1) (.cons (.idx (.var 0) (.con (.int (1)))) .nil))) .nil)))) .nil) .nil) (.cons (.ite (.cmp .Eq (.var 2) (.con (.str (Str.ofString "under")))) (.cons (.ret (.bin .Mult (.blt .sum (.cons (.var 1) .nil)) (.blt .int (.cons (.cmp .LtE (.blt .sum (.cons (.var 1) .nil)) (.idx (.var 0) (.con (.int (1))))) .nil)))) .nil) .nil) (.cons (.ret (.bin .Mult (.idx (.var 0) (.con (.int (1)))) (.blt .int (.cons (.blt .all (.cons (.lc false [3] (.one 3) (.seq (.var 1)) (.con (.bl true)) (.cmp .Eq (.bin .Mod (.var 3) (.con (.int (2)))) (.con (.int (0))))) .nil)) .nil)))) .nil)))))))⟩
def ir__law_points : FDef := ⟨2, 8, (.cons (.set (.one 2) (.idx (.var 0) (.con (.int (0))))) (.cons (.set (.one 3) (.lc false [5] (.one 5) (.rng1 (.con (.int (7)))) (.con (.bl true)) (.blt .len (.cons (.lc false [7] (.one 7) (.seq (.var 1)) (.cmp .Eq (.var 7) (.var 5)) (.var 7)) .nil)))) (.cons (.ite (.cmp .Eq (.var 2) (.con (.str (Str.ofString "face")))) (.cons (.ret (.bin .Mult (.idx (.var 0) (.con (.int (1)))) (.idx (.var 3) (.idx (.var 0) (.con (.int (1))))))) .nil) .nil) (.cons (.ite (.cmp .Eq (.var 2) (.con (.str (Str.ofString "alike")))) (.cons (.ret (.bin .Mult (.idx (.var 0) (.con (.int (2)))) (.blt .int (.cons (.cmp .GtE (.blt .max1 (.cons (.var 3) .nil)) (.idx (.var 0) (.con (.int (1))))) .nil)))) .nil) .nil) (.cons (.ite (.cmp .Eq (.var 2) (.con (.str (Str.ofString "run")))) (.cons (.set (.one 4) (.lc false [6] (.one 6) (.rng1 (.bin .Sub (.con (.int (7))) (.idx (.var 0) (.con (.int (1)))))) (.cmp .NotIn (.con (.int (0))) (.sli (.var 3) (.is (.bin .Add (.var 6) (.con (.int (1))))) (.is (.bin .Add (.bin .Add (.var 6) (.con (.int (1)))) (.idx (.var 0) (.con (.int (1)))))))) (.var 6))) (.cons (.ret (.bin .Mult (.idx (.var 0) (.con (.int (2)))) (.blt .int (.cons (.cmp .NotEq (.var 4) (.lst .nil)) .nil)))) .nil)) .nil) (.cons (.ite (.cmp .Eq (.var 2) (.con (.str (Str.ofString "even")))) (.cons (.ret (.bin .Mult (.idx (.var 0) (.con (.int (1)))) (.blt .int (.cons (.cmp .Eq (.lc false [7] (.one 7) (.seq (.var 1)) (.cmp .Eq (.bin .Mod (.var 7) (.con (.int (2)))) (.con (.int (1)))) (.var 7)) (.lst .nil)) .nil)))) .nil) .nil) (.cons (.ite (.and (.cmp .Eq (.var 2) (.con (.str (Str.ofString "under")))) (.cmp .Gt (.blt .sum (.cons (.var 1) .nil)) (.idx (.var 0) (.con (.int (1)))))) (.cons (.ret (.con (.int (0)))) .nil) .nil) (.cons (.ret (.blt .sum (.cons (.var 1) .nil))) .nil))))))))⟩
def ir_law_k10 : FDef := ⟨1, 6, (.cons (.set (.one 1) (.call 7 (.cons (.call 4 (.cons (.var 0) (.cons (.con (.int (0))) .nil))) (.cons (.con (.int (1))) .nil)))) (.cons (.set (.one 2) (.call 8 (.cons (.var 1) (.cons (.call 4 (.cons (.var 0) (.cons (.con (.int (1))) .nil))) .nil)))) (.cons (.ite (.cmp .Eq (.bin .Mod (.call 4 (.cons (.var 0) (.cons (.con (.int (2))) .nil))) (.con (.int (3)))) (.con (.int (1)))) (.cons (.set (.one 2) (.bin .Add (.bin .Mult (.sli (.var 2) .no (.is (.con (.int (1))))) (.bin .Sub (.blt .len (.cons (.var 2) .nil)) (.con (.int (1))))) (.sli (.var 2) (.is (.neg (.con (.int (1))))) .no))) .nil) .nil) (.cons (.for (.one 3) (.rng1 (.con (.int (4)))) (.cons (.set (.one 4) (.call 6 (.cons (.call 4 (.cons (.var 0) (.cons (.bin .Add (.con (.int (3))) (.var 3)) .nil))) .nil))) (.cons (.set (.one 5) (.call 39 (.cons (.var 4) (.cons (.var 2) .nil)))) (.cons (.ite (.or (.cmp .NotEq (.var 5) (.call 40 (.cons (.var 4) (.cons (.var 2) .nil)))) (.blt (.isT .bl) (.cons (.var 5) .nil))) (.cons (.ret (.con (.bl false))) .nil) .nil) .nil)))) (.cons (.ret (.con (.bl true))) .nil)))))⟩
def ir_plain : FDef := ⟨2, 4, (.cons (.set (.one 2) (.blt .abs (.cons (.var 0) .nil))) (.cons (.set (.one 3) (.var 1)) (.cons (.whl (.cmp .Gt (.var 2) (.con (.int (0)))) (.cons (.set (.many [2, 3]) (.tup (.cons (.bin .Mod (.var 3) (.var 2)) (.cons (.var 2) .nil)))) .nil)) (.cons (.ret (.tup (.cons (.bin .FloorDiv (.var 0) (.var 3)) (.cons (.bin .FloorDiv (.var 1) (.var 3)) .nil)))) .nil))))⟩
def ir_counted : FDef := ⟨2, 9, (.cons (.set (.one 2) (.dct (.cons (.tup .nil) (.cons (.con (.int (1))) .nil)))) (.cons (.set (.one 3) (.con (.int (1)))) (.cons (.for (.one 4) (.rng1 (.var 0)) (.cons (.set (.one 5) (.dct .nil)) (.cons (.for (.one 6) (.keys (.var 2)) (.cons (.for (.one 7) (.rng2 (.con (.int (1))) (.bin .Add (.var 1) (.con (.int (1))))) (.cons (.set (.one 8) (.blt .tuple (.cons (.blt .sorted (.cons (.bin .Add (.var 6) (.tup (.cons (.var 7) .nil))) .nil)) .nil))) (.cons (.put (.var 5) (.var 8) (.bin .Add (.mth .get2 (.var 5) (.cons (.var 8) (.cons (.con (.int (0))) .nil))) (.idx (.var 2) (.var 6)))) .nil))) .nil)) (.cons (.set (.one 2) (.var 5)) (.cons (.set (.one 3) (.bin .Mult (.var 3) (.var 1))) .nil))))) (.cons (.ret (.tup (.cons (.var 2) (.cons (.var 3) .nil)))) .nil))))⟩
def ir_throws_of : FDef := ⟨2, 5, (.cons (.set (.many [2, 3]) (.call 43 (.cons (.var 0) (.cons (.var 1) .nil)))) (.cons (.ret (.blt .tuple (.cons (.lc false [4] (.one 4) (.seq (.blt .sorted (.cons (.var 2) .nil))) (.con (.bl true)) (.tup (.cons (.var 4) (.cons (.call 42 (.cons (.idx (.var 2) (.var 4)) (.cons (.var 3) .nil))) .nil)))) .nil))) .nil))⟩
def ir_keeps : FDef := ⟨1, 4, (.cons (.set (.one 1) (.dct (.cons (.tup .nil) (.cons (.con (.bl true)) .nil)))) (.cons (.for (.one 2) (.seq (.var 0)) (.cons (.for (.one 3) (.seq (.blt .list (.cons (.var 1) .nil))) (.cons (.put (.var 1) (.bin .Add (.var 3) (.tup (.cons (.var 2) .nil))) (.con (.bl true))) .nil)) .nil)) (.cons (.ret (.blt .tuple (.cons (.blt .sorted (.cons (.var 1) .nil)) .nil))) .nil)))⟩
def ir_after : FDef := ⟨2, 5, (.cons (.set (.one 2) (.lc false [3, 4] (.many [3, 4]) (.seq (.call 44 (.cons (.bin .Sub (.idx (.var 0) (.con (.int (0)))) (.blt .len (.cons (.var 1) .nil))) (.cons (.idx (.var 0) (.con (.int (1)))) .nil)))) (.con (.bl true)) (.tup (.cons (.blt .tuple (.cons (.blt .sorted (.cons (.bin .Add (.var 1) (.var 3)) .nil)) .nil)) (.cons (.var 4) .nil))))) (.cons (.ret (.blt .tuple (.cons (.blt .sorted (.cons (.var 2) .nil)) .nil))) .nil))⟩
def ir__law_plain : FDef := ⟨2, 4, (.cons (.set (.one 2) (.blt .abs (.cons (.var 0) .nil))) (.cons (.set (.one 3) (.var 1)) (.cons (.whl (.cmp .Gt (.var 2) (.con (.int (0)))) (.cons (.set (.many [2, 3]) (.tup (.cons (.bin .Mod (.var 3) (.var 2)) (.cons (.var 2) .nil)))) .nil)) (.cons (.ret (.tup (.cons (.bin .FloorDiv (.var 0) (.var 3)) (.cons (.bin .FloorDiv (.var 1) (.var 3)) .nil)))) .nil))))⟩
def ir__law_sum : FDef := ⟨1, 5, (.cons (.set (.one 1) (.con (.int (0)))) (.cons (.set (.one 2) (.con (.int (1)))) (.cons (.for (.many [3, 4]) (.seq (.var 0)) (.cons (.set (.one 1) (.bin .Add (.bin .Mult (.bin .Mult (.var 1) (.idx (.var 3) (.con (.int (1))))) (.idx (.var 4) (.con (.int (1))))) (.bin .Mult (.bin .Mult (.idx (.var 3) (.con (.int (0)))) (.idx (.var 4) (.con (.int (0))))) (.var 2)))) (.cons (.set (.one 2) (.bin .Mult (.bin .Mult (.var 2) (.idx (.var 3) (.con (.int (1))))) (.idx (.var 4) (.con (.int (1)))))) (.cons (.set (.many [1, 2]) (.call 47 (.cons (.var 1) (.cons (.var 2) .nil)))) .nil)))) (.cons (.ret (.tup (.cons (.var 1) (.cons (.var 2) .nil)))) .nil))))⟩
def ir__law_throws : FDef := ⟨2, 9, (.cons (.set (.one 2) (.lst (.cons (.tup .nil) .nil))) (.cons (.for (.one 3) (.rng1 (.bin .Sub (.idx (.var 0) (.con (.int (0)))) (.blt .len (.cons (.var 1) .nil)))) (.cons (.set (.one 6) (.lst .nil)) (.cons (.for (.one 5) (.seq (.var 2)) (.cons (.set (.one 6) (.bin .Add (.var 6) (.lc false [8] (.one 8) (.rng2 (.con (.int (1))) (.bin .Add (.idx (.var 0) (.con (.int (1)))) (.con (.int (1))))) (.con (.bl true)) (.bin .Add (.var 5) (.tup (.cons (.var 8) .nil)))))) .nil)) (.cons (.set (.one 2) (.var 6)) .nil)))) (.cons (.set (.one 4) (.dct .nil)) (.cons (.for (.one 5) (.seq (.var 2)) (.cons (.set (.one 7) (.blt .tuple (.cons (.blt .sorted (.cons (.bin .Add (.var 1) (.var 5)) .nil)) .nil))) (.cons (.put (.var 4) (.var 7) (.bin .Add (.mth .get2 (.var 4) (.cons (.var 7) (.cons (.con (.int (0))) .nil))) (.con (.int (1))))) .nil))) (.cons (.ret (.lc false [7] (.one 7) (.seq (.blt .sorted (.cons (.var 4) .nil))) (.con (.bl true)) (.tup (.cons (.var 7) (.cons (.call 47 (.cons (.idx (.var 4) (.var 7)) (.cons (.blt .len (.cons (.var 2) .nil)) .nil))) .nil))))) .nil)))))⟩
def ir__law_keeps : FDef := ⟨1, 5, (.cons (.set (.one 1) (.dct .nil)) (.cons (.for (.one 2) (.rng1 (.con (.int (16)))) (.cons (.put (.var 1) (.blt .tuple (.cons (.lc false [3, 4] (.many [3, 4]) (.enum (.var 0)) (.cmp .Eq (.bin .Mod (.bin .FloorDiv (.var 2) (.idx (.tup (.cons (.con (.int (1))) (.cons (.con (.int (2))) (.cons (.con (.int (4))) (.cons (.con (.int (8))) .nil))))) (.var 3))) (.con (.int (2)))) (.con (.int (1)))) (.var 4)) .nil)) (.con (.bl true))) .nil)) (.cons (.ret (.blt .sorted (.cons (.var 1) .nil))) .nil)))⟩
def ir_law_k11 : FDef := ⟨1, 5, (.cons (.set (.one 1) (.call 7 (.cons (.call 4 (.cons (.var 0) (.cons (.con (.int (0))) .nil))) (.cons (.con (.int (1))) .nil)))) (.cons (.set (.one 1) (.bin .Add (.tup (.cons (.idx (.var 1) (.con (.int (0)))) (.cons (.blt .min2 (.cons (.idx (.var 1) (.con (.int (1)))) (.cons (.con (.int (5))) .nil))) .nil))) (.sli (.var 1) (.is (.con (.int (2)))) .no))) (.cons (.ite (.cmp .NotEq (.call 44 (.cons (.idx (.var 1) (.con (.int (0)))) (.cons (.idx (.var 1) (.con (.int (1)))) .nil))) (.blt .tuple (.cons (.call 49 (.cons (.var 1) (.cons (.tup .nil) .nil))) .nil))) (.cons (.ret (.con (.bl false))) .nil) .nil) (.cons (.set (.one 2) (.call 8 (.cons (.var 1) (.cons (.call 4 (.cons (.var 0) (.cons (.con (.int (1))) .nil))) .nil)))) (.cons (.set (.one 3) (.call 50 (.cons (.var 2) .nil))) (.cons (.ite (.cmp .NotEq (.call 45 (.cons (.var 2) .nil)) (.blt .tuple (.cons (.var 3) .nil))) (.cons (.ret (.con (.bl false))) .nil) .nil) (.cons (.set (.one 4) (.idx (.var 3) (.bin .Mod (.call 4 (.cons (.var 0) (.cons (.con (.int (2))) .nil))) (.blt .len (.cons (.var 3) .nil))))) (.cons (.ret (.and (.cmp .Eq (.call 46 (.cons (.var 1) (.cons (.var 4) .nil))) (.blt .tuple (.cons (.call 49 (.cons (.var 1) (.cons (.var 4) .nil))) .nil))) (.cmp .Eq (.call 44 (.cons (.con (.int (0))) (.cons (.idx (.var 1) (.con (.int (1)))) .nil))) (.tup (.cons (.tup (.cons (.tup .nil) (.cons (.tup (.cons (.con (.int (1))) (.cons (.con (.int (1))) .nil))) .nil))) .nil))))) .nil))))))))⟩
def ir__law_some : FDef := ⟨2, 3, (.cons (.for (.one 2) (.seq (.var 0)) (.cons (.ite (.cmp .Gt (.mth .count (.var 0) (.cons (.var 2) .nil)) (.mth .count (.var 1) (.cons (.var 2) .nil))) (.cons (.ret (.con (.bl false))) .nil) .nil) .nil)) (.cons (.ret (.con (.bl true))) .nil))⟩
def ir_law_k12 : FDef := ⟨1, 13, (.cons (.set (.one 1) (.call 7 (.cons (.call 4 (.cons (.var 0) (.cons (.con (.int (0))) .nil))) (.cons (.con (.int (0))) .nil)))) (.cons (.set (.one 2) (.call 44 (.cons (.idx (.var 1) (.con (.int (0)))) (.cons (.idx (.var 1) (.con (.int (1)))) .nil)))) (.cons (.ite (.cmp .NotEq (.call 48 (.cons (.lc false [3, 8] (.many [3, 8]) (.seq (.var 2)) (.con (.bl true)) (.tup (.cons (.var 8) (.cons (.tup (.cons (.con (.int (1))) (.cons (.con (.int (1))) .nil))) .nil)))) .nil)) (.tup (.cons (.con (.int (1))) (.cons (.con (.int (1))) .nil)))) (.cons (.ret (.con (.bl false))) .nil) .nil) (.cons (.set (.one 3) (.call 8 (.cons (.var 1) (.cons (.call 4 (.cons (.var 0) (.cons (.con (.int (1))) .nil))) .nil)))) (.cons (.set (.one 4) (.sli (.var 3) .no (.is (.bin .Mod (.call 4 (.cons (.var 0) (.cons (.con (.int (2))) .nil))) (.bin .Add (.idx (.var 1) (.con (.int (0)))) (.con (.int (1)))))))) (.cons (.set (.one 5) (.call 46 (.cons (.var 1) (.cons (.var 4) .nil)))) (.cons (.ite (.cmp .NotEq (.call 48 (.cons (.lc false [7, 8] (.many [7, 8]) (.seq (.var 5)) (.con (.bl true)) (.tup (.cons (.var 8) (.cons (.tup (.cons (.con (.int (1))) (.cons (.con (.int (1))) .nil))) .nil)))) .nil)) (.tup (.cons (.con (.int (1))) (.cons (.con (.int (1))) .nil)))) (.cons (.ret (.con (.bl false))) .nil) .nil) (.cons (.ite (.cmp .NotEq (.lc false [7, 8] (.many [7, 8]) (.seq (.var 5)) (.or (.not (.call 52 (.cons (.var 4) (.cons (.var 7) .nil)))) (.cmp .Lt (.idx (.var 8) (.con (.int (0)))) (.con (.int (1))))) (.var 7)) (.lst .nil)) (.cons (.ret (.con (.bl false))) .nil) .nil) (.cons (.set (.one 6) (.dct .nil)) (.cons (.for (.many [7, 8]) (.seq (.var 5)) (.cons (.for (.many [10, 11]) (.seq (.call 46 (.cons (.var 1) (.cons (.var 4) .nil)))) (.cons (.put (.var 6) (.var 10) (.call 48 (.cons (.lst (.cons (.tup (.cons (.tup (.cons (.con (.int (1))) (.cons (.con (.int (1))) .nil))) (.cons (.mth .get2 (.var 6) (.cons (.var 10) (.cons (.tup (.cons (.con (.int (0))) (.cons (.con (.int (1))) .nil))) .nil))) .nil))) (.cons (.tup (.cons (.var 8) (.cons (.var 11) .nil))) .nil))) .nil))) .nil)) .nil)) (.cons (.ite (.cmp .NotEq (.blt .tuple (.cons (.blt .srtI (.cons (.var 6) .nil)) .nil)) (.var 5)) (.cons (.ret (.con (.bl false))) .nil) .nil) (.cons (.set (.one 6) (.dct .nil)) (.cons (.for (.many [9, 8]) (.seq (.call 44 (.cons (.bin .Sub (.idx (.var 1) (.con (.int (0)))) (.con (.int (1)))) (.cons (.idx (.var 1) (.con (.int (1)))) .nil)))) (.cons (.for (.many [11, 12]) (.seq (.call 44 (.cons (.con (.int (1))) (.cons (.idx (.var 1) (.con (.int (1)))) .nil)))) (.cons (.set (.one 3) (.blt .tuple (.cons (.blt .sorted (.cons (.bin .Add (.var 9) (.var 11)) .nil)) .nil))) (.cons (.put (.var 6) (.var 3) (.call 48 (.cons (.lst (.cons (.tup (.cons (.tup (.cons (.con (.int (1))) (.cons (.con (.int (1))) .nil))) (.cons (.mth .get2 (.var 6) (.cons (.var 3) (.cons (.tup (.cons (.con (.int (0))) (.cons (.con (.int (1))) .nil))) .nil))) .nil))) (.cons (.tup (.cons (.var 8) (.cons (.var 12) .nil))) .nil))) .nil))) .nil))) .nil)) (.cons (.ret (.cmp .Eq (.blt .tuple (.cons (.blt .srtI (.cons (.var 6) .nil)) .nil)) (.var 2))) .nil))))))))))))))⟩
def ir_law_k13 : FDef := ⟨1, 13, (.cons (.set (.one 1) (.call 7 (.cons (.call 4 (.cons (.var 0) (.cons (.con (.int (0))) .nil))) (.cons (.con (.int (1))) .nil)))) (.cons (.set (.one 2) (.call 8 (.cons (.var 1) (.cons (.call 4 (.cons (.var 0) (.cons (.con (.int (1))) .nil))) .nil)))) (.cons (.set (.one 3) (.call 39 (.cons (.tup (.cons (.con (.str (Str.ofString "all"))) .nil)) (.cons (.var 2) .nil)))) (.cons (.ite (.or (.cmp .NotEq (.var 3) (.blt .sum (.cons (.var 2) .nil))) (.cmp .NotEq (.var 3) (.blt .sum (.cons (.lc false [4] (.one 4) (.rng2 (.con (.int (1))) (.con (.int (7)))) (.con (.bl true)) (.call 39 (.cons (.tup (.cons (.con (.str (Str.ofString "face"))) (.cons (.var 4) .nil))) (.cons (.var 2) .nil)))) .nil)))) (.cons (.ret (.con (.bl false))) .nil) .nil) (.cons (.for (.one 4) (.rng2 (.con (.int (1))) (.con (.int (25)))) (.cons (.ite (.cmp .NotEq (.call 39 (.cons (.tup (.cons (.con (.str (Str.ofString "under"))) (.cons (.var 4) .nil))) (.cons (.var 2) .nil))) (.bin .Mult (.var 3) (.blt .int (.cons (.cmp .LtE (.var 3) (.var 4)) .nil)))) (.cons (.ret (.con (.bl false))) .nil) .nil) .nil)) (.cons (.for (.one 5) (.seq (.tup (.cons (.con (.int (1))) (.cons (.con (.int (7))) (.cons (.con (.int (50))) .nil))))) (.cons (.for (.one 6) (.seq (.tup (.cons (.con (.str (Str.ofString "alike"))) (.cons (.con (.str (Str.ofString "run"))) .nil)))) (.cons (.set (.one 10) (.lc false [11] (.one 11) (.seq (.tup (.cons (.con (.int (2))) (.cons (.con (.int (3))) (.cons (.con (.int (4))) .nil))))) (.con (.bl true)) (.call 39 (.cons (.tup (.cons (.var 6) (.cons (.var 11) (.cons (.var 5) .nil)))) (.cons (.var 2) .nil))))) (.cons (.ite (.or (.cmp .NotEq (.var 10) (.rev (.blt .sorted (.cons (.var 10) .nil)))) (.cmp .NotEq (.lc false [12] (.one 12) (.seq (.var 10)) (.cmp .NotIn (.var 12) (.tup (.cons (.con (.int (0))) (.cons (.var 5) .nil)))) (.var 12)) (.lst .nil))) (.cons (.ret (.con (.bl false))) .nil) .nil) .nil))) (.cons (.set (.one 7) (.blt .max1 (.cons (.lc false [4] (.one 4) (.seq (.var 2)) (.con (.bl true)) (.mth .count (.var 2) (.cons (.var 4) .nil))) .nil))) (.cons (.ite (.cmp .NotEq (.call 39 (.cons (.tup (.cons (.con (.str (Str.ofString "alike"))) (.cons (.con (.int (2))) (.cons (.var 5) .nil)))) (.cons (.var 2) .nil))) (.bin .Mult (.var 5) (.blt .int (.cons (.cmp .Gt (.var 7) (.con (.int (1)))) .nil)))) (.cons (.ret (.con (.bl false))) .nil) .nil) (.cons (.set (.one 8) (.lc false [4] (.one 4) (.seq (.var 2)) (.cmp .In (.bin .Add (.var 4) (.con (.int (1)))) (.var 2)) (.var 4))) (.cons (.ite (.cmp .NotEq (.call 39 (.cons (.tup (.cons (.con (.str (Str.ofString "run"))) (.cons (.con (.int (2))) (.cons (.var 5) .nil)))) (.cons (.var 2) .nil))) (.bin .Mult (.var 5) (.blt .int (.cons (.cmp .NotEq (.var 8) (.lst .nil)) .nil)))) (.cons (.ret (.con (.bl false))) .nil) .nil) (.cons (.set (.one 9) (.lc false [4] (.one 4) (.seq (.var 2)) (.cmp .Eq (.bin .Mod (.var 4) (.con (.int (2)))) (.con (.int (1)))) (.var 4))) (.cons (.ite (.cmp .NotEq (.call 39 (.cons (.tup (.cons (.con (.str (Str.ofString "even"))) (.cons (.var 5) .nil))) (.cons (.var 2) .nil))) (.bin .Mult (.var 5) (.blt .int (.cons (.cmp .Eq (.var 9) (.lst .nil)) .nil)))) (.cons (.ret (.con (.bl false))) .nil) .nil) .nil)))))))) (.cons (.ret (.con (.bl true))) .nil)))))))⟩
def ir__law_left : FDef := ⟨2, 4, (.cons (.set (.one 2) (.blt .listN (.cons (.var 0) .nil))) (.cons (.for (.one 3) (.seq (.var 1)) (.cons (.exp (.mth .remove (.var 2) (.cons (.var 3) .nil))) .nil)) (.cons (.ret (.blt .tuple (.cons (.var 2) .nil))) .nil)))⟩
def ir_law_k14 : FDef := ⟨1, 8, (.cons (.set (.one 1) (.call 7 (.cons (.call 4 (.cons (.var 0) (.cons (.con (.int (0))) .nil))) (.cons (.con (.int (1))) .nil)))) (.cons (.set (.one 2) (.call 8 (.cons (.var 1) (.cons (.call 4 (.cons (.var 0) (.cons (.con (.int (1))) .nil))) .nil)))) (.cons (.set (.one 3) (.call 45 (.cons (.var 2) .nil))) (.cons (.set (.one 4) (.con (.int (1)))) (.cons (.for (.one 5) (.seq (.blt .srtS (.cons (.var 2) .nil))) (.cons (.set (.one 4) (.bin .Mult (.var 4) (.bin .Add (.con (.int (1))) (.mth .count (.var 2) (.cons (.var 5) .nil))))) .nil)) (.cons (.ite (.or (.cmp .NotEq (.blt .len (.cons (.var 3) .nil)) (.var 4)) (.or (.cmp .NotEq (.blt .list (.cons (.var 3) .nil)) (.blt .srtS (.cons (.var 3) .nil))) (.or (.cmp .NotIn (.tup .nil) (.var 3)) (.cmp .NotIn (.var 2) (.var 3))))) (.cons (.ret (.con (.bl false))) .nil) .nil) (.cons (.for (.one 6) (.seq (.var 3)) (.cons (.ite (.or (.cmp .NotEq (.blt .list (.cons (.var 6) .nil)) (.blt .sorted (.cons (.var 6) .nil))) (.cmp .NotIn (.call 55 (.cons (.var 2) (.cons (.var 6) .nil))) (.var 3))) (.cons (.ret (.con (.bl false))) .nil) .nil) (.cons (.ite (.cmp .NotEq (.lc false [7] (.one 7) (.seq (.call 45 (.cons (.var 6) .nil))) (.cmp .NotIn (.var 7) (.var 3)) (.var 7)) (.lst .nil)) (.cons (.ret (.con (.bl false))) .nil) .nil) .nil))) (.cons (.ret (.cmp .Eq (.call 45 (.cons (.tup .nil) .nil)) (.tup (.cons (.tup .nil) .nil)))) .nil))))))))⟩
def ir_law_k15 : FDef := ⟨1, 13, (.cons (.set (.one 1) (.call 7 (.cons (.call 4 (.cons (.var 0) (.cons (.con (.int (0))) .nil))) (.cons (.con (.int (1))) .nil)))) (.cons (.set (.many [4, 5]) (.tup (.cons (.blt .min2 (.cons (.idx (.var 1) (.con (.int (0)))) (.cons (.con (.int (3))) .nil))) (.cons (.blt .min2 (.cons (.idx (.var 1) (.con (.int (1)))) (.cons (.con (.int (4))) .nil))) .nil)))) (.cons (.set (.one 1) (.bin .Add (.tup (.cons (.var 4) (.cons (.var 5) .nil))) (.sli (.var 1) (.is (.con (.int (2)))) .no))) (.cons (.set (.one 2) (.call 8 (.cons (.var 1) (.cons (.call 4 (.cons (.var 0) (.cons (.con (.int (1))) .nil))) .nil)))) (.cons (.for (.one 3) (.seq (.call 45 (.cons (.var 2) .nil))) (.cons (.set (.one 6) (.lstM .nil)) (.cons (.for (.many [7, 8]) (.seq (.call 44 (.cons (.bin .Sub (.var 4) (.blt .len (.cons (.var 3) .nil))) (.cons (.var 5) .nil)))) (.cons (.exp (.mth .append (.var 6) (.cons (.tup (.cons (.blt .tuple (.cons (.blt .sorted (.cons (.bin .Add (.var 3) (.var 7)) .nil)) .nil)) (.cons (.var 8) .nil))) .nil))) .nil)) (.cons (.ite (.cmp .NotEq (.call 46 (.cons (.var 1) (.cons (.var 3) .nil))) (.blt .tuple (.cons (.blt .sorted (.cons (.var 6) .nil)) .nil))) (.cons (.ret (.con (.bl false))) .nil) .nil) .nil)))) (.cons (.ite (.or (.cmp .NotEq (.call 46 (.cons (.var 1) (.cons (.var 2) .nil))) (.tup (.cons (.tup (.cons (.var 2) (.cons (.tup (.cons (.con (.int (1))) (.cons (.con (.int (1))) .nil))) .nil))) .nil))) (.cmp .NotEq (.call 46 (.cons (.var 1) (.cons (.tup .nil) .nil))) (.call 44 (.cons (.var 4) (.cons (.var 5) .nil))))) (.cons (.ret (.con (.bl false))) .nil) .nil) (.cons (.for (.many [7, 8]) (.seq (.call 44 (.cons (.var 4) (.cons (.var 5) .nil)))) (.cons (.set (.many [10, 11]) (.tup (.cons (.con (.int (1))) (.cons (.var 4) .nil)))) (.cons (.for (.one 9) (.rng2 (.con (.int (1))) (.bin .Add (.var 5) (.con (.int (1))))) (.cons (.for (.one 12) (.rng1 (.mth .count (.var 7) (.cons (.var 9) .nil))) (.cons (.set (.one 10) (.bin .FloorDiv (.bin .Mult (.var 10) (.var 11)) (.bin .Add (.var 12) (.con (.int (1)))))) (.cons (.set (.one 11) (.bin .Sub (.var 11) (.con (.int (1))))) .nil))) .nil)) (.cons (.ite (.cmp .NotEq (.call 47 (.cons (.var 10) (.cons (.idx (.tup (.cons (.con (.int (1))) (.cons (.var 5) (.cons (.bin .Mult (.var 5) (.var 5)) (.cons (.bin .Mult (.bin .Mult (.var 5) (.var 5)) (.var 5)) .nil))))) (.var 4)) .nil))) (.var 8)) (.cons (.ret (.con (.bl false))) .nil) .nil) .nil)))) (.cons (.ret (.cmp .Eq (.call 44 (.cons (.con (.int (0))) (.cons (.var 5) .nil))) (.tup (.cons (.tup (.cons (.tup .nil) (.cons (.tup (.cons (.con (.int (1))) (.cons (.con (.int (1))) .nil))) .nil))) .nil)))) .nil))))))))⟩
def ir_moves : FDef := ⟨2, 8, (.cons (.set (.many [3, 4, 5]) (.var 1)) (.cons (.set (.one 2) (.lc true [6] (.one 6) (.seq (.var 3)) (.con (.bl true)) (.tup (.cons (.con (.str (Str.ofString "fill"))) (.cons (.var 6) .nil))))) (.cons (.ite (.cmp .Gt (.var 4) (.con (.int (0)))) (.cons (.exp (.mth .extend (.var 2) (.cons (.lc false [7] (.one 7) (.seq (.call 45 (.cons (.var 5) .nil))) (.con (.bl true)) (.tup (.cons (.con (.str (Str.ofString "keep"))) (.cons (.var 7) .nil)))) .nil))) .nil) .nil) (.cons (.ret (.blt .tuple (.cons (.var 2) .nil))) .nil))))⟩
def ir_begins : FDef := ⟨2, 4, (.cons (.ite (.cmp .Eq (.blt .len (.cons (.var 1) .nil)) (.con (.int (0)))) (.cons (.ret (.tup .nil)) .nil) .nil) (.cons (.ret (.blt .tuple (.cons (.lc false [2, 3] (.many [2, 3]) (.seq (.call 44 (.cons (.idx (.var 0) (.con (.int (0)))) (.cons (.idx (.var 0) (.con (.int (1)))) .nil)))) (.con (.bl true)) (.tup (.cons (.tup (.cons (.var 1) (.cons (.bin .Sub (.idx (.var 0) (.con (.int (2)))) (.con (.int (1)))) (.cons (.var 2) .nil)))) (.cons (.var 3) .nil)))) .nil))) .nil))⟩
def ir_comes : FDef := ⟨3, 10, (.cons (.set (.many [4, 5, 6]) (.var 1)) (.cons (.ite (.cmp .Eq (.idx (.var 2) (.con (.int (0)))) (.con (.str (Str.ofString "keep")))) (.cons (.ret (.tup (.cons (.con (.int (0))) (.cons (.blt .tuple (.cons (.lc false [8, 9] (.many [8, 9]) (.seq (.call 46 (.cons (.var 0) (.cons (.idx (.var 2) (.con (.int (1)))) .nil)))) (.con (.bl true)) (.tup (.cons (.tup (.cons (.var 4) (.cons (.bin .Sub (.var 5) (.con (.int (1)))) (.cons (.var 8) .nil)))) (.cons (.var 9) .nil)))) .nil)) .nil)))) .nil) .nil) (.cons (.set (.one 3) (.blt .tuple (.cons (.lc false [7] (.one 7) (.seq (.var 4)) (.cmp .NotEq (.var 7) (.idx (.var 2) (.con (.int (1))))) (.var 7)) .nil))) (.cons (.ret (.tup (.cons (.call 39 (.cons (.idx (.idx (.var 0) (.con (.int (3)))) (.idx (.var 2) (.con (.int (1))))) (.cons (.var 6) .nil))) (.cons (.call 59 (.cons (.var 0) (.cons (.var 3) .nil))) .nil)))) .nil))))⟩
def ir__law_moves : FDef := ⟨1, 6, (.cons (.set (.many [1, 2, 3]) (.var 0)) (.cons (.ret (.bin .Add (.lc false [4] (.one 4) (.seq (.var 1)) (.con (.bl true)) (.tup (.cons (.con (.str (Str.ofString "fill"))) (.cons (.var 4) .nil)))) (.bin .Mult (.lc false [5] (.one 5) (.seq (.call 50 (.cons (.var 3) .nil))) (.con (.bl true)) (.tup (.cons (.con (.str (Str.ofString "keep"))) (.cons (.var 5) .nil)))) (.blt .int (.cons (.cmp .Gt (.var 2) (.con (.int (0)))) .nil))))) .nil))⟩
def ir__law_begins : FDef := ⟨2, 4, (.cons (.ite (.cmp .Eq (.var 1) (.tup .nil)) (.cons (.ret (.lst .nil)) .nil) .nil) (.cons (.ret (.lc false [2, 3] (.many [2, 3]) (.seq (.call 49 (.cons (.var 0) (.cons (.tup .nil) .nil)))) (.con (.bl true)) (.tup (.cons (.tup (.cons (.var 1) (.cons (.bin .Sub (.idx (.var 0) (.con (.int (2)))) (.con (.int (1)))) (.cons (.var 2) .nil)))) (.cons (.var 3) .nil))))) .nil))⟩
def ir__law_comes : FDef := ⟨3, 10, (.cons (.set (.many [4, 5, 6]) (.var 1)) (.cons (.ite (.cmp .Eq (.idx (.var 2) (.con (.int (0)))) (.con (.str (Str.ofString "keep")))) (.cons (.ret (.tup (.cons (.con (.int (0))) (.cons (.lc false [8, 9] (.many [8, 9]) (.seq (.call 49 (.cons (.var 0) (.cons (.idx (.var 2) (.con (.int (1)))) .nil)))) (.con (.bl true)) (.tup (.cons (.tup (.cons (.var 4) (.cons (.bin .Sub (.var 5) (.con (.int (1)))) (.cons (.var 8) .nil)))) (.cons (.var 9) .nil)))) .nil)))) .nil) .nil) (.cons (.set (.one 3) (.blt .tuple (.cons (.lc false [7] (.one 7) (.seq (.var 4)) (.cmp .NotEq (.var 7) (.idx (.var 2) (.con (.int (1))))) (.var 7)) .nil))) (.cons (.ret (.tup (.cons (.call 40 (.cons (.idx (.idx (.var 0) (.con (.int (3)))) (.idx (.var 2) (.con (.int (1))))) (.cons (.var 6) .nil))) (.cons (.call 62 (.cons (.var 0) (.cons (.var 3) .nil))) .nil)))) .nil))))⟩
def ir_law_k20 : FDef := ⟨1, 8, (.cons (.set (.one 1) (.call 7 (.cons (.call 4 (.cons (.var 0) (.cons (.con (.int (0))) .nil))) (.cons (.con (.int (0))) .nil)))) (.cons (.set (.one 2) (.call 9 (.cons (.var 1) (.cons (.call 4 (.cons (.var 0) (.cons (.con (.int (1))) .nil))) .nil)))) (.cons (.set (.one 3) (.call 61 (.cons (.var 2) .nil))) (.cons (.ite (.cmp .NotEq (.call 58 (.cons (.var 1) (.cons (.var 2) .nil))) (.blt .tuple (.cons (.blt .sorted (.cons (.var 3) .nil)) .nil))) (.cons (.ret (.con (.bl false))) .nil) .nil) (.cons (.for (.one 4) (.seq (.var 3)) (.cons (.set (.many [6, 7]) (.call 63 (.cons (.var 1) (.cons (.var 2) (.cons (.var 4) .nil))))) (.cons (.set (.one 5) (.call 60 (.cons (.var 1) (.cons (.var 2) (.cons (.var 4) .nil))))) (.cons (.ite (.or (.cmp .NotEq (.var 5) (.tup (.cons (.var 6) (.cons (.blt .tuple (.cons (.var 7) .nil)) .nil)))) (.blt (.isT .bl) (.cons (.idx (.var 5) (.con (.int (0)))) .nil))) (.cons (.ret (.con (.bl false))) .nil) .nil) .nil)))) (.cons (.ret (.con (.bl true))) .nil))))))⟩
def ir_plus : FDef := ⟨2, 2, (.cons (.ret (.call 42 (.cons (.bin .Add (.bin .Mult (.idx (.var 0) (.con (.int (0)))) (.idx (.var 1) (.con (.int (1))))) (.bin .Mult (.idx (.var 1) (.con (.int (0)))) (.idx (.var 0) (.con (.int (1)))))) (.cons (.bin .Mult (.idx (.var 0) (.con (.int (1)))) (.idx (.var 1) (.con (.int (1))))) .nil)))) .nil)⟩
def ir_times : FDef := ⟨2, 2, (.cons (.ret (.call 42 (.cons (.bin .Mult (.idx (.var 0) (.con (.int (0)))) (.idx (.var 1) (.con (.int (0))))) (.cons (.bin .Mult (.idx (.var 0) (.con (.int (1)))) (.idx (.var 1) (.con (.int (1))))) .nil)))) .nil)⟩
def ir_is_less : FDef := ⟨2, 2, (.cons (.ret (.cmp .Lt (.bin .Mult (.idx (.var 0) (.con (.int (0)))) (.idx (.var 1) (.con (.int (1))))) (.bin .Mult (.idx (.var 1) (.con (.int (0)))) (.idx (.var 0) (.con (.int (1))))))) .nil)⟩
def ir_total : FDef := ⟨1, 4, (.cons (.set (.one 1) (.con (.int (0)))) (.cons (.set (.one 2) (.con (.int (1)))) (.cons (.for (.one 3) (.seq (.var 0)) (.cons (.set (.one 1) (.bin .Add (.bin .Mult (.var 1) (.idx (.var 3) (.con (.int (1))))) (.bin .Mult (.idx (.var 3) (.con (.int (0)))) (.var 2)))) (.cons (.set (.one 2) (.bin .Mult (.var 2) (.idx (.var 3) (.con (.int (1)))))) (.cons (.set (.many [1, 2]) (.call 42 (.cons (.var 1) (.cons (.var 2) .nil)))) .nil)))) (.cons (.ret (.tup (.cons (.var 1) (.cons (.var 2) .nil)))) .nil))))⟩
def ir_worth : FDef := ⟨2, 2, (.cons (.ret (.meth (Str.ofString "of_stand") (.make 4 (.cons (.var 0) .nil)) (.cons (.var 1) .nil))) .nil)⟩
def ir_best : FDef := ⟨2, 2, (.cons (.ret (.idx (.meth (Str.ofString "known_of") (.make 4 (.cons (.var 0) .nil)) (.cons (.var 1) .nil)) (.con (.int (1))))) .nil)⟩
def ir_worth_of : FDef := ⟨2, 5, (.cons (.set (.one 2) (.make 4 (.cons (.var 0) .nil))) (.cons (.ret (.call 68 (.cons (.lc false [3, 4] (.many [3, 4]) (.seq (.call 59 (.cons (.var 0) (.cons (.var 1) .nil)))) (.con (.bl true)) (.call 66 (.cons (.var 4) (.cons (.meth (Str.ofString "of_stand") (.var 2) (.cons (.var 3) .nil)) .nil)))) .nil))) .nil))⟩
def ir__law_worth : FDef := ⟨3, 11, (.cons (.ite (.cmp .NotIn (.var 1) (.var 2)) (.cons (.set (.one 3) (.con .non)) (.cons (.for (.one 4) (.seq (.call 61 (.cons (.var 1) .nil))) (.cons (.set (.many [7, 8]) (.call 63 (.cons (.var 0) (.cons (.var 1) (.cons (.var 4) .nil))))) (.cons (.set (.one 5) (.lc false [9, 10] (.many [9, 10]) (.seq (.var 8)) (.con (.bl true)) (.tup (.cons (.var 10) (.cons (.call 72 (.cons (.var 0) (.cons (.var 9) (.cons (.var 2) .nil)))) .nil))))) (.cons (.set (.one 6) (.call 48 (.cons (.bin .Add (.lst (.cons (.tup (.cons (.tup (.cons (.con (.int (1))) (.cons (.con (.int (1))) .nil))) (.cons (.tup (.cons (.var 7) (.cons (.con (.int (1))) .nil))) .nil))) .nil)) (.var 5)) .nil))) (.cons (.ite (.or (.cmp .Is (.var 3) (.con .non)) (.cmp .Lt (.bin .Mult (.idx (.var 3) (.con (.int (0)))) (.idx (.var 6) (.con (.int (1))))) (.bin .Mult (.idx (.var 6) (.con (.int (0)))) (.idx (.var 3) (.con (.int (1))))))) (.cons (.set (.one 3) (.var 6)) .nil) .nil) .nil))))) (.cons (.put (.var 2) (.var 1) (.var 3)) .nil))) .nil) (.cons (.ret (.idx (.var 2) (.var 1))) .nil))⟩
def ir_law_k21 : FDef := ⟨1, 12, (.cons (.set (.one 1) (.call 7 (.cons (.call 4 (.cons (.var 0) (.cons (.con (.int (0))) .nil))) (.cons (.con (.int (0))) .nil)))) (.cons (.set (.one 2) (.call 9 (.cons (.var 1) (.cons (.call 4 (.cons (.var 0) (.cons (.con (.int (1))) .nil))) .nil)))) (.cons (.set (.one 3) (.dct .nil)) (.cons (.set (.one 4) (.call 72 (.cons (.var 1) (.cons (.var 2) (.cons (.var 3) .nil))))) (.cons (.ite (.cmp .NotEq (.call 69 (.cons (.var 1) (.cons (.var 2) .nil))) (.var 4)) (.cons (.ret (.con (.bl false))) .nil) .nil) (.cons (.set (.one 5) (.call 70 (.cons (.var 1) (.cons (.var 2) .nil)))) (.cons (.ite (.cmp .NotIn (.var 5) (.call 61 (.cons (.var 2) .nil))) (.cons (.ret (.con (.bl false))) .nil) .nil) (.cons (.set (.many [8, 9]) (.call 63 (.cons (.var 1) (.cons (.var 2) (.cons (.var 5) .nil))))) (.cons (.set (.one 6) (.lc false [10, 11] (.many [10, 11]) (.seq (.var 9)) (.con (.bl true)) (.tup (.cons (.var 11) (.cons (.call 72 (.cons (.var 1) (.cons (.var 10) (.cons (.var 3) .nil)))) .nil))))) (.cons (.ite (.cmp .NotEq (.call 48 (.cons (.bin .Add (.lst (.cons (.tup (.cons (.tup (.cons (.con (.int (1))) (.cons (.con (.int (1))) .nil))) (.cons (.tup (.cons (.var 8) (.cons (.con (.int (1))) .nil))) .nil))) .nil)) (.var 6)) .nil)) (.var 4)) (.cons (.ret (.con (.bl false))) .nil) .nil) (.cons (.set (.one 7) (.idx (.var 2) (.con (.int (0))))) (.cons (.set (.one 4) (.call 48 (.cons (.lc false [10, 11] (.many [10, 11]) (.seq (.call 62 (.cons (.var 1) (.cons (.var 7) .nil)))) (.con (.bl true)) (.tup (.cons (.var 11) (.cons (.call 72 (.cons (.var 1) (.cons (.var 10) (.cons (.var 3) .nil)))) .nil)))) .nil))) (.cons (.ret (.and (.cmp .Eq (.call 71 (.cons (.var 1) (.cons (.var 7) .nil))) (.var 4)) (.cmp .Eq (.call 71 (.cons (.var 1) (.cons (.tup .nil) .nil))) (.tup (.cons (.con (.int (0))) (.cons (.con (.int (1))) .nil)))))) .nil)))))))))))))⟩
def ir__law_above : FDef := ⟨2, 2, (.cons (.ret (.cmp .Gt (.bin .Mult (.idx (.var 0) (.con (.int (0)))) (.idx (.var 1) (.con (.int (1))))) (.bin .Mult (.idx (.var 1) (.con (.int (0)))) (.idx (.var 0) (.con (.int (1))))))) .nil)⟩
def ir__law_dearer : FDef := ⟨1, 1, (.cons (.ite (.and (.cmp .In (.idx (.var 0) (.con (.int (0)))) (.tup (.cons (.con (.str (Str.ofString "alike"))) (.cons (.con (.str (Str.ofString "run"))) (.cons (.con (.str (Str.ofString "even"))) .nil))))) (.cmp .Lt (.idx (.var 0) (.neg (.con (.int (1))))) (.con (.int (50))))) (.cons (.ret (.bin .Add (.sli (.var 0) .no (.is (.neg (.con (.int (1)))))) (.tup (.cons (.bin .Add (.idx (.var 0) (.neg (.con (.int (1))))) (.con (.int (1)))) .nil)))) .nil) .nil) (.cons (.ret (.var 0)) .nil))⟩
def ir_law_k22 : FDef := ⟨1, 13, (.cons (.set (.one 1) (.call 7 (.cons (.call 4 (.cons (.var 0) (.cons (.con (.int (0))) .nil))) (.cons (.con (.int (0))) .nil)))) (.cons (.set (.one 1) (.tup (.cons (.idx (.var 1) (.con (.int (0)))) (.cons (.blt .min2 (.cons (.idx (.var 1) (.con (.int (1)))) (.cons (.con (.int (3))) .nil))) (.cons (.blt .min2 (.cons (.idx (.var 1) (.con (.int (2)))) (.cons (.con (.int (2))) .nil))) (.cons (.sli (.idx (.var 1) (.con (.int (3)))) .no (.is (.con (.int (2))))) .nil)))))) (.cons (.set (.one 2) (.call 4 (.cons (.var 0) (.cons (.con (.int (1))) .nil)))) (.cons (.set (.many [8, 9, 10]) (.call 9 (.cons (.var 1) (.cons (.var 2) .nil)))) (.cons (.set (.one 3) (.call 69 (.cons (.var 1) (.cons (.tup (.cons (.var 8) (.cons (.var 9) (.cons (.var 10) .nil)))) .nil)))) (.cons (.ite (.and (.cmp .Lt (.bin .Add (.var 9) (.con (.int (1)))) (.idx (.var 1) (.con (.int (2))))) (.call 74 (.cons (.var 3) (.cons (.call 69 (.cons (.var 1) (.cons (.tup (.cons (.var 8) (.cons (.bin .Add (.var 9) (.con (.int (1)))) (.cons (.var 10) .nil)))) .nil))) .nil)))) (.cons (.ret (.con (.bl false))) .nil) .nil) (.cons (.ite (.call 74 (.cons (.tup (.cons (.blt .max1 (.cons (.lc false [11] (.one 11) (.seq (.var 8)) (.con (.bl true)) (.call 39 (.cons (.idx (.idx (.var 1) (.con (.int (3)))) (.var 11)) (.cons (.var 10) .nil)))) .nil)) (.cons (.con (.int (1))) .nil))) (.cons (.var 3) .nil))) (.cons (.ret (.con (.bl false))) .nil) .nil) (.cons (.set (.one 4) (.bin .Add (.sli (.var 1) .no (.is (.con (.int (3))))) (.tup (.cons (.bin .Add (.idx (.var 1) (.con (.int (3)))) (.tup (.cons (.call 6 (.cons (.call 4 (.cons (.var 0) (.cons (.con (.int (2))) .nil))) .nil)) .nil))) .nil)))) (.cons (.ite (.call 74 (.cons (.var 3) (.cons (.call 69 (.cons (.var 4) (.cons (.tup (.cons (.bin .Add (.var 8) (.tup (.cons (.blt .len (.cons (.idx (.var 1) (.con (.int (3)))) .nil)) .nil))) (.cons (.var 9) (.cons (.var 10) .nil)))) .nil))) .nil))) (.cons (.ret (.con (.bl false))) .nil) .nil) (.cons (.ite (.call 74 (.cons (.call 71 (.cons (.var 1) (.cons (.var 8) .nil))) (.cons (.call 71 (.cons (.var 4) (.cons (.bin .Add (.var 8) (.tup (.cons (.blt .len (.cons (.idx (.var 1) (.con (.int (3)))) .nil)) .nil))) .nil))) .nil))) (.cons (.ret (.con (.bl false))) .nil) .nil) (.cons (.set (.one 5) (.bin .Add (.sli (.var 1) .no (.is (.con (.int (3))))) (.tup (.cons (.blt .tuple (.cons (.lc false [12] (.one 12) (.seq (.idx (.var 1) (.con (.int (3))))) (.con (.bl true)) (.call 75 (.cons (.var 12) .nil))) .nil)) .nil)))) (.cons (.set (.one 6) (.blt .len (.cons (.lc false [11] (.one 11) (.seq (.var 8)) (.cmp .NotEq (.idx (.idx (.var 5) (.con (.int (3)))) (.var 11)) (.idx (.idx (.var 1) (.con (.int (3)))) (.var 11))) (.var 11)) .nil))) (.cons (.set (.one 7) (.call 69 (.cons (.var 5) (.cons (.tup (.cons (.var 8) (.cons (.var 9) (.cons (.var 10) .nil)))) .nil)))) (.cons (.ret (.and (.not (.call 74 (.cons (.var 3) (.cons (.var 7) .nil)))) (.not (.call 74 (.cons (.var 7) (.cons (.tup (.cons (.bin .Add (.idx (.var 3) (.con (.int (0)))) (.bin .Mult (.var 6) (.idx (.var 3) (.con (.int (1)))))) (.cons (.idx (.var 3) (.con (.int (1)))) .nil))) .nil)))))) .nil))))))))))))))⟩
def ir_all_boxes : FDef := ⟨1, 1, (.cons (.ret (.blt .tupRange (.cons (.blt .len (.cons (.idx (.var 0) (.con (.int (3)))) .nil)) .nil))) .nil)⟩
def ir_goal_chance : FDef := ⟨4, 4, (.cons (.ret (.idx (.meth (Str.ofString "known_of") (.make 5 (.cons (.var 0) .nil)) (.cons (.bin .Sub (.var 1) (.var 2)) (.cons (.var 3) .nil))) (.con (.int (0))))) .nil)⟩
def ir_chance : FDef := ⟨2, 5, (.cons (.set (.one 2) (.make 5 (.cons (.var 0) .nil))) (.cons (.ret (.call 68 (.cons (.lc false [3, 4] (.many [3, 4]) (.seq (.call 59 (.cons (.var 0) (.cons (.call 77 (.cons (.var 0) .nil)) .nil)))) (.con (.bl true)) (.call 66 (.cons (.var 4) (.cons (.idx (.meth (Str.ofString "known_of") (.var 2) (.cons (.var 1) (.cons (.var 3) .nil))) (.con (.int (0)))) .nil)))) .nil))) .nil))⟩
def ir__law_little : FDef := ⟨1, 2, (.cons (.set (.one 1) (.call 7 (.cons (.var 0) (.cons (.con (.int (0))) .nil)))) (.cons (.ret (.tup (.cons (.blt .min2 (.cons (.idx (.var 1) (.con (.int (0)))) (.cons (.con (.int (2))) .nil))) (.cons (.blt .min2 (.cons (.idx (.var 1) (.con (.int (1)))) (.cons (.con (.int (3))) .nil))) (.cons (.blt .min2 (.cons (.idx (.var 1) (.con (.int (2)))) (.cons (.con (.int (2))) .nil))) (.cons (.sli (.idx (.var 1) (.con (.int (3)))) .no (.is (.con (.int (2))))) .nil)))))) .nil))⟩
def ir_law_k23 : FDef := ⟨1, 14, (.cons (.set (.one 1) (.call 80 (.cons (.call 4 (.cons (.var 0) (.cons (.con (.int (0))) .nil))) .nil))) (.cons (.set (.one 2) (.call 4 (.cons (.var 0) (.cons (.con (.int (1))) .nil)))) (.cons (.set (.one 3) (.bin .Sub (.blt .len (.cons (.idx (.var 1) (.con (.int (3)))) .nil)) (.con (.int (1))))) (.cons (.set (.one 4) (.bin .Add (.sli (.var 1) .no (.is (.con (.int (3))))) (.tup (.cons (.rev (.idx (.var 1) (.con (.int (3))))) .nil)))) (.cons (.set (.many [8, 9, 10]) (.call 9 (.cons (.var 1) (.cons (.var 2) .nil)))) (.cons (.set (.one 5) (.tup (.cons (.blt .tuple (.cons (.lc false [13] (.one 13) (.seq (.rev (.var 8))) (.con (.bl true)) (.bin .Sub (.var 3) (.var 13))) .nil)) (.cons (.var 9) (.cons (.var 10) .nil))))) (.cons (.ite (.cmp .NotEq (.call 69 (.cons (.var 4) (.cons (.var 5) .nil))) (.call 69 (.cons (.var 1) (.cons (.tup (.cons (.var 8) (.cons (.var 9) (.cons (.var 10) .nil)))) .nil)))) (.cons (.ret (.con (.bl false))) .nil) .nil) (.cons (.set (.one 6) (.lstM .nil)) (.cons (.for (.many [11, 12]) (.seq (.call 58 (.cons (.var 1) (.cons (.tup (.cons (.var 8) (.cons (.var 9) (.cons (.var 10) .nil)))) .nil)))) (.cons (.ite (.cmp .Eq (.var 11) (.con (.str (Str.ofString "fill")))) (.cons (.set (.one 12) (.bin .Sub (.var 3) (.var 12))) .nil) .nil) (.cons (.exp (.mth .append (.var 6) (.cons (.tup (.cons (.var 11) (.cons (.var 12) .nil))) .nil))) .nil))) (.cons (.ite (.cmp .NotEq (.call 58 (.cons (.var 4) (.cons (.var 5) .nil))) (.blt .tuple (.cons (.blt .sorted (.cons (.var 6) .nil)) .nil))) (.cons (.ret (.con (.bl false))) .nil) .nil) (.cons (.ite (.cmp .NotEq (.call 71 (.cons (.var 4) (.cons (.idx (.var 5) (.con (.int (0)))) .nil))) (.call 71 (.cons (.var 1) (.cons (.var 8) .nil)))) (.cons (.ret (.con (.bl false))) .nil) .nil) (.cons (.set (.one 7) (.bin .Mod (.bin .FloorDiv (.var 2) (.con (.int (64)))) (.con (.int (40))))) (.cons (.ite (.cmp .NotEq (.call 78 (.cons (.var 4) (.cons (.var 7) (.cons (.con (.int (3))) (.cons (.var 5) .nil))))) (.call 78 (.cons (.var 1) (.cons (.var 7) (.cons (.con (.int (3))) (.cons (.tup (.cons (.var 8) (.cons (.var 9) (.cons (.var 10) .nil)))) .nil)))))) (.cons (.ret (.con (.bl false))) .nil) .nil) (.cons (.ret (.cmp .Eq (.call 79 (.cons (.var 4) (.cons (.var 7) .nil))) (.call 79 (.cons (.var 1) (.cons (.var 7) .nil))))) .nil))))))))))))))⟩
def ir__law_made : FDef := ⟨3, 8, (.cons (.set (.many [4, 5]) (.call 60 (.cons (.var 0) (.cons (.var 1) (.cons (.var 2) .nil))))) (.cons (.set (.one 3) (.call 48 (.cons (.lc false [6, 7] (.many [6, 7]) (.seq (.var 5)) (.con (.bl true)) (.tup (.cons (.var 7) (.cons (.call 69 (.cons (.var 0) (.cons (.var 6) .nil))) .nil)))) .nil))) (.cons (.ret (.call 47 (.cons (.bin .Add (.idx (.var 3) (.con (.int (0)))) (.bin .Mult (.var 4) (.idx (.var 3) (.con (.int (1)))))) (.cons (.idx (.var 3) (.con (.int (1)))) .nil)))) .nil)))⟩
def ir_law_k24 : FDef := ⟨1, 12, (.cons (.set (.one 1) (.call 80 (.cons (.call 4 (.cons (.var 0) (.cons (.con (.int (0))) .nil))) .nil))) (.cons (.set (.one 2) (.call 9 (.cons (.var 1) (.cons (.call 4 (.cons (.var 0) (.cons (.con (.int (1))) .nil))) .nil)))) (.cons (.set (.one 3) (.call 69 (.cons (.var 1) (.cons (.var 2) .nil)))) (.cons (.set (.one 4) (.lc false [10] (.one 10) (.seq (.call 58 (.cons (.var 1) (.cons (.var 2) .nil)))) (.con (.bl true)) (.call 82 (.cons (.var 1) (.cons (.var 2) (.cons (.var 10) .nil)))))) (.cons (.ite (.or (.cmp .NotEq (.lc false [11] (.one 11) (.seq (.var 4)) (.call 74 (.cons (.var 11) (.cons (.var 3) .nil))) (.var 11)) (.lst .nil)) (.cmp .NotIn (.var 3) (.var 4))) (.cons (.ret (.con (.bl false))) .nil) .nil) (.cons (.ite (.or (.cmp .NotIn (.call 70 (.cons (.var 1) (.cons (.var 2) .nil))) (.call 58 (.cons (.var 1) (.cons (.var 2) .nil)))) (.cmp .NotEq (.call 82 (.cons (.var 1) (.cons (.var 2) (.cons (.call 70 (.cons (.var 1) (.cons (.var 2) .nil))) .nil)))) (.var 3))) (.cons (.ret (.con (.bl false))) .nil) .nil) (.cons (.set (.one 5) (.idx (.var 2) (.con (.int (0))))) (.cons (.set (.one 6) (.lstM .nil)) (.cons (.for (.many [8, 9]) (.seq (.call 44 (.cons (.idx (.var 1) (.con (.int (0)))) (.cons (.idx (.var 1) (.con (.int (1)))) .nil)))) (.cons (.exp (.mth .append (.var 6) (.cons (.tup (.cons (.var 9) (.cons (.call 69 (.cons (.var 1) (.cons (.tup (.cons (.var 5) (.cons (.bin .Sub (.idx (.var 1) (.con (.int (2)))) (.con (.int (1)))) (.cons (.var 8) .nil)))) .nil))) .nil))) .nil))) .nil)) (.cons (.ite (.or (.cmp .NotEq (.call 71 (.cons (.var 1) (.cons (.var 5) .nil))) (.call 48 (.cons (.var 6) .nil))) (.cmp .NotEq (.call 71 (.cons (.var 1) (.cons (.tup .nil) .nil))) (.tup (.cons (.con (.int (0))) (.cons (.con (.int (1))) .nil))))) (.cons (.ret (.con (.bl false))) .nil) .nil) (.cons (.set (.one 7) (.idx (.var 5) (.con (.int (0))))) (.cons (.ret (.cmp .Eq (.call 69 (.cons (.var 1) (.cons (.tup (.cons (.tup (.cons (.var 7) .nil)) (.cons (.con (.int (0))) (.cons (.idx (.var 2) (.con (.int (2)))) .nil)))) .nil))) (.tup (.cons (.call 39 (.cons (.idx (.idx (.var 1) (.con (.int (3)))) (.var 7)) (.cons (.idx (.var 2) (.con (.int (2)))) .nil))) (.cons (.con (.int (1))) .nil))))) .nil))))))))))))⟩
def ir_first_stands : FDef := ⟨1, 3, (.cons (.ret (.lc true [1, 2] (.many [1, 2]) (.seq (.call 59 (.cons (.var 0) (.cons (.call 77 (.cons (.var 0) .nil)) .nil)))) (.con (.bl true)) (.var 1))) .nil)⟩
def ir_is_row : FDef := ⟨1, 2, (.cons (.ret (.and (.blt (.isT .tup) (.cons (.var 0) .nil)) (.blt .all (.cons (.lc false [1] (.one 1) (.seq (.var 0)) (.con (.bl true)) (.and (.blt (.isT .int) (.cons (.var 1) .nil)) (.not (.blt (.isT .bl) (.cons (.var 1) .nil))))) .nil)))) .nil)⟩
def ir_is_stand : FDef := ⟨1, 1, (.cons (.ite (.or (.not (.blt (.isT .tup) (.cons (.var 0) .nil))) (.or (.cmp .NotEq (.blt .len (.cons (.var 0) .nil)) (.con (.int (3)))) (.not (.call 85 (.cons (.sli (.sli (.var 0) .no (.is (.con (.int (2))))) (.is (.con (.int (1)))) .no) .nil))))) (.cons (.ret (.con (.bl false))) .nil) .nil) (.cons (.ret (.and (.call 85 (.cons (.idx (.var 0) (.con (.int (0)))) .nil)) (.call 85 (.cons (.idx (.var 0) (.con (.int (2)))) .nil)))) .nil))⟩
def ir_is_move : FDef := ⟨1, 1, (.cons (.ite (.or (.not (.blt (.isT .tup) (.cons (.var 0) .nil))) (.or (.cmp .NotEq (.blt .len (.cons (.var 0) .nil)) (.con (.int (2)))) (.not (.blt (.isT .str) (.cons (.idx (.var 0) (.con (.int (0)))) .nil))))) (.cons (.ret (.con (.bl false))) .nil) .nil) (.cons (.ret (.or (.and (.cmp .Eq (.idx (.var 0) (.con (.int (0)))) (.con (.str (Str.ofString "keep")))) (.call 85 (.cons (.idx (.var 0) (.con (.int (1)))) .nil))) (.and (.cmp .Eq (.idx (.var 0) (.con (.int (0)))) (.con (.str (Str.ofString "fill")))) (.call 85 (.cons (.sli (.var 0) (.is (.con (.int (1)))) .no) .nil))))) .nil))⟩
def ir_book_of : FDef := ⟨1, 3, (.cons (.set (.one 1) (.dct .nil)) (.cons (.ite (.not (.blt (.isT .tup) (.cons (.var 0) .nil))) (.cons (.ret (.con .non)) .nil) .nil) (.cons (.for (.one 2) (.seq (.var 0)) (.cons (.ite (.or (.not (.blt (.isT .tup) (.cons (.var 2) .nil))) (.or (.cmp .NotEq (.blt .len (.cons (.var 2) .nil)) (.con (.int (2)))) (.or (.not (.call 86 (.cons (.idx (.var 2) (.con (.int (0)))) .nil))) (.not (.call 87 (.cons (.idx (.var 2) (.con (.int (1)))) .nil)))))) (.cons (.ret (.con .non)) .nil) .nil) (.cons (.put (.var 1) (.idx (.var 2) (.con (.int (0)))) (.idx (.var 2) (.con (.int (1))))) .nil))) (.cons (.ite (.cmp .NotEq (.lc false [2] (.one 2) (.seq (.var 0)) (.con (.bl true)) (.idx (.var 2) (.con (.int (0))))) (.blt .sorted (.cons (.var 1) .nil))) (.cons (.ret (.con .non)) .nil) .nil) (.cons (.ret (.var 1)) .nil)))))⟩
def ir_is_plan : FDef := ⟨2, 8, (.cons (.set (.one 2) (.call 88 (.cons (.var 1) .nil))) (.cons (.ite (.cmp .Is (.var 2) (.con .non)) (.cons (.ret (.con (.bl false))) .nil) .nil) (.cons (.set (.one 3) (.dct .nil)) (.cons (.set (.one 4) (.call 84 (.cons (.var 0) .nil))) (.cons (.whl (.cmp .Gt (.blt .len (.cons (.var 4) .nil)) (.con (.int (0)))) (.cons (.set (.one 5) (.mth .pop (.var 4) .nil)) (.cons (.ite (.cmp .NotIn (.var 5) (.var 3)) (.cons (.put (.var 3) (.var 5) (.con (.bl true))) (.cons (.ite (.or (.cmp .NotIn (.var 5) (.var 2)) (.cmp .NotIn (.idx (.var 2) (.var 5)) (.call 58 (.cons (.var 0) (.cons (.var 5) .nil))))) (.cons (.ret (.con (.bl false))) .nil) .nil) (.cons (.exp (.mth .extend (.var 4) (.cons (.lc false [6, 7] (.many [6, 7]) (.seq (.idx (.call 60 (.cons (.var 0) (.cons (.var 5) (.cons (.idx (.var 2) (.var 5)) .nil)))) (.con (.int (1))))) (.con (.bl true)) (.var 6)) .nil))) .nil))) .nil) .nil))) (.cons (.ret (.cmp .Eq (.blt .len (.cons (.var 3) .nil)) (.blt .len (.cons (.var 2) .nil)))) .nil))))))⟩
def ir_stand_ends : FDef := ⟨4, 11, (.cons (.ite (.cmp .NotIn (.var 2) (.var 3)) (.cons (.set (.many [5, 6]) (.call 60 (.cons (.var 0) (.cons (.var 2) (.cons (.idx (.var 1) (.var 2)) .nil))))) (.cons (.set (.one 4) (.dct .nil)) (.cons (.for (.many [7, 8]) (.seq (.var 6)) (.cons (.for (.many [9, 10]) (.items (.call 90 (.cons (.var 0) (.cons (.var 1) (.cons (.var 7) (.cons (.var 3) .nil)))))) (.cons (.put (.var 4) (.bin .Add (.var 5) (.var 9)) (.call 65 (.cons (.mth .get2 (.var 4) (.cons (.bin .Add (.var 5) (.var 9)) (.cons (.tup (.cons (.con (.int (0))) (.cons (.con (.int (1))) .nil))) .nil))) (.cons (.call 66 (.cons (.var 8) (.cons (.var 10) .nil))) .nil)))) .nil)) .nil)) (.cons (.ite (.cmp .Eq (.blt .len (.cons (.var 6) .nil)) (.con (.int (0)))) (.cons (.put (.var 4) (.var 5) (.tup (.cons (.con (.int (1))) (.cons (.con (.int (1))) .nil)))) .nil) .nil) (.cons (.put (.var 3) (.var 2) (.var 4)) .nil))))) .nil) (.cons (.ret (.idx (.var 3) (.var 2))) .nil))⟩
def ir_ends : FDef := ⟨2, 9, (.cons (.set (.one 2) (.blt .dict (.cons (.var 1) .nil))) (.cons (.set (.one 3) (.dct .nil)) (.cons (.set (.one 4) (.dct .nil)) (.cons (.for (.many [5, 6]) (.seq (.call 59 (.cons (.var 0) (.cons (.call 77 (.cons (.var 0) .nil)) .nil)))) (.cons (.for (.many [7, 8]) (.items (.call 90 (.cons (.var 0) (.cons (.var 2) (.cons (.var 5) (.cons (.var 3) .nil)))))) (.cons (.put (.var 4) (.var 7) (.call 65 (.cons (.mth .get2 (.var 4) (.cons (.var 7) (.cons (.tup (.cons (.con (.int (0))) (.cons (.con (.int (1))) .nil))) .nil))) (.cons (.call 66 (.cons (.var 6) (.cons (.var 8) .nil))) .nil)))) .nil)) .nil)) (.cons (.ret (.blt .tuple (.cons (.blt .srtI (.cons (.var 4) .nil)) .nil))) .nil)))))⟩
def ir_plan_worth : FDef := ⟨2, 4, (.cons (.ret (.call 68 (.cons (.lc false [2, 3] (.many [2, 3]) (.seq (.call 91 (.cons (.var 0) (.cons (.var 1) .nil)))) (.con (.bl true)) (.call 66 (.cons (.tup (.cons (.var 2) (.cons (.con (.int (1))) .nil))) (.cons (.var 3) .nil)))) .nil))) .nil)⟩
def ir__law_drawn_plan : FDef := ⟨2, 12, (.cons (.set (.one 2) (.lc true [4, 7] (.many [4, 7]) (.seq (.call 62 (.cons (.var 0) (.cons (.blt .tupRange (.cons (.blt .len (.cons (.idx (.var 0) (.con (.int (3)))) .nil)) .nil)) .nil)))) (.con (.bl true)) (.var 4))) (.cons (.set (.one 3) (.dct .nil)) (.cons (.whl (.cmp .NotEq (.var 2) (.lst .nil)) (.cons (.set (.one 4) (.mth .pop (.var 2) .nil)) (.cons (.ite (.cmp .NotIn (.var 4) (.var 3)) (.cons (.set (.one 5) (.call 61 (.cons (.var 4) .nil))) (.cons (.set (.many [8, 9, 10]) (.var 4)) (.cons (.set (.one 6) (.bin .Add (.bin .Add (.bin .Add (.var 9) (.bin .Mult (.con (.int (7))) (.blt .sum (.cons (.var 10) .nil)))) (.bin .Mult (.con (.int (31))) (.blt .len (.cons (.var 8) .nil)))) (.bin .Mult (.con (.int (3))) (.idx (.var 8) (.con (.int (0))))))) (.cons (.put (.var 3) (.var 4) (.idx (.var 5) (.bin .Mod (.bin .FloorDiv (.call 5 (.cons (.var 1) (.cons (.var 6) .nil))) (.con (.int (4)))) (.blt .len (.cons (.var 5) .nil))))) (.cons (.set (.one 2) (.bin .Add (.var 2) (.lc false [11, 7] (.many [11, 7]) (.seq (.idx (.call 63 (.cons (.var 0) (.cons (.var 4) (.cons (.idx (.var 3) (.var 4)) .nil)))) (.con (.int (1))))) (.con (.bl true)) (.var 11)))) .nil))))) .nil) .nil))) (.cons (.ret (.blt .tuple (.cons (.blt .srtI (.cons (.var 3) .nil)) .nil))) .nil))))⟩
def ir__law_ends : FDef := ⟨2, 15, (.cons (.set (.one 2) (.blt .dict (.cons (.var 1) .nil))) (.cons (.set (.one 3) (.dct .nil)) (.cons (.for (.many [5, 6]) (.seq (.call 62 (.cons (.var 0) (.cons (.blt .tupRange (.cons (.blt .len (.cons (.idx (.var 0) (.con (.int (3)))) .nil)) .nil)) .nil)))) (.cons (.put (.var 3) (.tup (.cons (.var 5) (.cons (.con (.int (0))) .nil))) (.var 6)) .nil)) (.cons (.set (.one 4) (.dct .nil)) (.cons (.whl (.cmp .NotEq (.var 3) (.dct .nil)) (.cons (.set (.one 7) (.dct .nil)) (.cons (.for (.one 8) (.keys (.var 3)) (.cons (.set (.many [5, 9]) (.var 8)) (.cons (.set (.many [10, 11]) (.call 63 (.cons (.var 0) (.cons (.var 5) (.cons (.idx (.var 2) (.var 5)) .nil))))) (.cons (.for (.many [12, 6]) (.seq (.var 11)) (.cons (.set (.one 13) (.tup (.cons (.var 12) (.cons (.bin .Add (.var 9) (.var 10)) .nil)))) (.cons (.set (.one 14) (.mth .get2 (.var 7) (.cons (.var 13) (.cons (.tup (.cons (.con (.int (0))) (.cons (.con (.int (1))) .nil))) .nil)))) (.cons (.put (.var 7) (.var 13) (.call 48 (.cons (.lst (.cons (.tup (.cons (.tup (.cons (.con (.int (1))) (.cons (.con (.int (1))) .nil))) (.cons (.var 14) .nil))) (.cons (.tup (.cons (.var 6) (.cons (.idx (.var 3) (.var 8)) .nil))) .nil))) .nil))) .nil)))) (.cons (.ite (.cmp .Eq (.var 11) (.lst .nil)) (.cons (.set (.one 14) (.mth .get2 (.var 4) (.cons (.bin .Add (.var 9) (.var 10)) (.cons (.tup (.cons (.con (.int (0))) (.cons (.con (.int (1))) .nil))) .nil)))) (.cons (.put (.var 4) (.bin .Add (.var 9) (.var 10)) (.call 48 (.cons (.lst (.cons (.tup (.cons (.tup (.cons (.con (.int (1))) (.cons (.con (.int (1))) .nil))) (.cons (.var 14) .nil))) (.cons (.tup (.cons (.tup (.cons (.con (.int (1))) (.cons (.con (.int (1))) .nil))) (.cons (.idx (.var 3) (.var 8)) .nil))) .nil))) .nil))) .nil)) .nil) .nil))))) (.cons (.set (.one 3) (.var 7)) .nil)))) (.cons (.ret (.var 4)) .nil))))))⟩
def ir__law_is_plan : FDef := ⟨2, 10, (.cons (.ite (.not (.blt (.isT .tup) (.cons (.var 1) .nil))) (.cons (.ret (.con (.bl false))) .nil) .nil) (.cons (.for (.one 2) (.seq (.var 1)) (.cons (.ite (.or (.not (.blt (.isT .tup) (.cons (.var 2) .nil))) (.cmp .NotEq (.blt .len (.cons (.var 2) .nil)) (.con (.int (2))))) (.cons (.ret (.con (.bl false))) .nil) .nil) .nil)) (.cons (.set (.one 3) (.lc true [5, 7] (.many [5, 7]) (.seq (.call 62 (.cons (.var 0) (.cons (.blt .tupRange (.cons (.blt .len (.cons (.idx (.var 0) (.con (.int (3)))) .nil)) .nil)) .nil)))) (.con (.bl true)) (.var 5))) (.cons (.set (.one 4) (.dct .nil)) (.cons (.whl (.cmp .NotEq (.var 3) (.lst .nil)) (.cons (.set (.one 5) (.mth .pop (.var 3) .nil)) (.cons (.ite (.cmp .NotIn (.var 5) (.var 4)) (.cons (.set (.one 6) (.lc false [2] (.one 2) (.seq (.var 1)) (.cmp .Eq (.blt .repr (.cons (.idx (.var 2) (.con (.int (0)))) .nil)) (.blt .repr (.cons (.var 5) .nil))) (.idx (.var 2) (.con (.int (1)))))) (.cons (.ite (.or (.cmp .NotEq (.blt .len (.cons (.var 6) .nil)) (.con (.int (1)))) (.cmp .NotIn (.blt .repr (.cons (.idx (.var 6) (.con (.int (0)))) .nil)) (.lc false [8] (.one 8) (.seq (.call 61 (.cons (.var 5) .nil))) (.con (.bl true)) (.blt .repr (.cons (.var 8) .nil))))) (.cons (.ret (.con (.bl false))) .nil) .nil) (.cons (.put (.var 4) (.var 5) (.idx (.var 6) (.con (.int (0))))) (.cons (.set (.one 3) (.bin .Add (.var 3) (.lc false [9, 7] (.many [9, 7]) (.seq (.idx (.call 63 (.cons (.var 0) (.cons (.var 5) (.cons (.idx (.var 6) (.con (.int (0)))) .nil)))) (.con (.int (1))))) (.con (.bl true)) (.var 9)))) .nil)))) .nil) .nil))) (.cons (.ret (.cmp .Eq (.var 1) (.blt .tuple (.cons (.blt .srtI (.cons (.var 4) .nil)) .nil)))) .nil))))))⟩
def ir_law_k30 : FDef := ⟨1, 13, (.cons (.set (.one 1) (.call 7 (.cons (.call 4 (.cons (.var 0) (.cons (.con (.int (0))) .nil))) (.cons (.con (.int (0))) .nil)))) (.cons (.set (.one 2) (.call 93 (.cons (.var 1) (.cons (.call 4 (.cons (.var 0) (.cons (.con (.int (1))) .nil))) .nil)))) (.cons (.set (.one 3) (.call 94 (.cons (.var 1) (.cons (.var 2) .nil)))) (.cons (.ite (.cmp .NotEq (.call 91 (.cons (.var 1) (.cons (.var 2) .nil))) (.blt .tuple (.cons (.blt .srtI (.cons (.var 3) .nil)) .nil))) (.cons (.ret (.con (.bl false))) .nil) .nil) (.cons (.ite (.cmp .NotEq (.call 92 (.cons (.var 1) (.cons (.var 2) .nil))) (.call 48 (.cons (.lc false [12] (.one 12) (.keys (.var 3)) (.con (.bl true)) (.tup (.cons (.idx (.var 3) (.var 12)) (.cons (.tup (.cons (.var 12) (.cons (.con (.int (1))) .nil))) .nil)))) .nil))) (.cons (.ret (.con (.bl false))) .nil) .nil) (.cons (.set (.one 4) (.var 2)) (.cons (.set (.one 5) (.call 4 (.cons (.var 0) (.cons (.con (.int (2))) .nil)))) (.cons (.set (.one 6) (.bin .Mod (.bin .FloorDiv (.var 5) (.con (.int (16)))) (.blt .len (.cons (.var 2) .nil)))) (.cons (.set (.many [8, 9]) (.idx (.var 2) (.var 6))) (.cons (.ite (.cmp .Eq (.bin .Mod (.var 5) (.con (.int (2)))) (.con (.int (1)))) (.cons (.set (.one 10) (.lst (.cons (.tup (.cons (.con (.str (Str.ofString "keep"))) (.cons (.tup (.cons (.con (.int (9))) .nil)) .nil))) (.cons (.tup (.cons (.con (.str (Str.ofString "fill"))) (.cons (.con (.int (7))) .nil))) (.cons (.tup (.cons (.con (.str (Str.ofString "keep"))) (.cons (.blt .list (.cons (.idx (.var 8) (.con (.int (2)))) .nil)) .nil))) (.cons (.tup (.cons (.con (.str (Str.ofString "fill"))) (.cons (.con (.bl true)) .nil))) (.cons (.con .non) (.cons (.tup (.cons (.con (.str (Str.ofString "drop"))) (.cons (.con (.int (0))) .nil))) (.cons (.tup (.cons (.con (.str (Str.ofString "fill"))) .nil)) (.cons (.tup .nil) .nil)))))))))) (.cons (.set (.one 11) (.lstM (.cons (.bin .Add (.sli (.var 2) .no (.is (.var 6))) (.sli (.var 2) (.is (.bin .Add (.var 6) (.con (.int (1))))) .no)) (.cons (.bin .Add (.bin .Add (.sli (.var 2) .no (.is (.var 6))) (.tup (.cons (.tup (.cons (.var 8) (.cons (.idx (.var 10) (.bin .Mod (.bin .FloorDiv (.var 5) (.con (.int (4096)))) (.con (.int (8))))) .nil))) .nil))) (.sli (.var 2) (.is (.bin .Add (.var 6) (.con (.int (1))))) .no)) .nil)))) (.cons (.set (.one 11) (.bin .Add (.var 11) (.lst (.cons (.rev (.var 2)) (.cons (.bin .Add (.var 2) (.sli (.var 2) (.is (.neg (.con (.int (1))))) .no)) (.cons (.blt .list (.cons (.var 2) .nil)) (.cons (.bin .Add (.var 2) (.tup (.cons (.tup (.cons (.tup (.cons (.idx (.var 8) (.con (.int (0)))) (.cons (.con (.int (9))) (.cons (.idx (.var 8) (.con (.int (2)))) .nil)))) (.cons (.var 9) .nil))) .nil))) .nil))))))) (.cons (.set (.one 11) (.bin .Add (.var 11) (.lst (.cons (.con .non) (.cons (.bin .Add (.sli (.var 2) .no (.is (.var 6))) (.tup (.cons (.var 8) .nil))) (.cons (.bin .Add (.bin .Add (.sli (.var 2) .no (.is (.var 6))) (.tup (.cons (.lst (.cons (.var 8) (.cons (.var 9) .nil))) .nil))) (.sli (.var 2) (.is (.bin .Add (.var 6) (.con (.int (1))))) .no)) .nil)))))) (.cons (.exp (.mth .append (.var 11) (.cons (.bin .Add (.bin .Add (.sli (.var 2) .no (.is (.var 6))) (.tup (.cons (.tup (.cons (.var 8) (.cons (.var 9) (.cons (.con (.int (0))) .nil)))) .nil))) (.sli (.var 2) (.is (.bin .Add (.var 6) (.con (.int (1))))) .no)) .nil))) (.cons (.exp (.mth .append (.var 11) (.cons (.bin .Add (.bin .Add (.sli (.var 2) .no (.is (.var 6))) (.tup (.cons (.tup (.cons (.blt .list (.cons (.var 8) .nil)) (.cons (.var 9) .nil))) .nil))) (.sli (.var 2) (.is (.bin .Add (.var 6) (.con (.int (1))))) .no)) .nil))) (.cons (.exp (.mth .append (.var 11) (.cons (.bin .Add (.bin .Add (.sli (.var 2) .no (.is (.var 6))) (.tup (.cons (.tup (.cons (.tup (.cons (.idx (.var 8) (.con (.int (0)))) (.cons (.blt .list (.cons (.sli (.var 8) (.is (.con (.int (1)))) (.is (.con (.int (2))))) .nil)) (.cons (.idx (.var 8) (.con (.int (2)))) .nil)))) (.cons (.var 9) .nil))) .nil))) (.sli (.var 2) (.is (.bin .Add (.var 6) (.con (.int (1))))) .no)) .nil))) (.cons (.set (.one 4) (.idx (.var 11) (.bin .Mod (.bin .FloorDiv (.var 5) (.con (.int (2)))) (.con (.int (12)))))) .nil)))))))) .nil) (.cons (.set (.one 7) (.call 89 (.cons (.var 1) (.cons (.var 4) .nil)))) (.cons (.ret (.and (.blt (.isT .bl) (.cons (.var 7) .nil)) (.cmp .Eq (.var 7) (.call 95 (.cons (.var 1) (.cons (.var 4) .nil)))))) .nil))))))))))))⟩
def ir_plan_for : FDef := ⟨1, 7, (.cons (.set (.one 1) (.make 4 (.cons (.var 0) .nil))) (.cons (.set (.one 2) (.dct .nil)) (.cons (.set (.one 3) (.call 84 (.cons (.var 0) .nil))) (.cons (.whl (.cmp .Gt (.blt .len (.cons (.var 3) .nil)) (.con (.int (0)))) (.cons (.set (.one 4) (.mth .pop (.var 3) .nil)) (.cons (.ite (.cmp .NotIn (.var 4) (.var 2)) (.cons (.put (.var 2) (.var 4) (.idx (.meth (Str.ofString "known_of") (.var 1) (.cons (.var 4) .nil)) (.con (.int (1))))) (.cons (.exp (.mth .extend (.var 3) (.cons (.lc false [5, 6] (.many [5, 6]) (.seq (.idx (.call 60 (.cons (.var 0) (.cons (.var 4) (.cons (.idx (.var 2) (.var 4)) .nil)))) (.con (.int (1))))) (.con (.bl true)) (.var 5)) .nil))) .nil)) .nil) .nil))) (.cons (.ret (.blt .tuple (.cons (.lc false [4] (.one 4) (.seq (.blt .sorted (.cons (.var 2) .nil))) (.con (.bl true)) (.tup (.cons (.var 4) (.cons (.idx (.var 2) (.var 4)) .nil)))) .nil))) .nil)))))⟩
def ir_law_k31 : FDef := ⟨1, 13, (.cons (.set (.one 1) (.call 7 (.cons (.call 4 (.cons (.var 0) (.cons (.con (.int (0))) .nil))) (.cons (.con (.int (0))) .nil)))) (.cons (.set (.one 2) (.blt .tupRange (.cons (.blt .len (.cons (.idx (.var 1) (.con (.int (3)))) .nil)) .nil))) (.cons (.set (.one 3) (.dct .nil)) (.cons (.set (.one 4) (.call 48 (.cons (.lc false [10, 11] (.many [10, 11]) (.seq (.call 62 (.cons (.var 1) (.cons (.var 2) .nil)))) (.con (.bl true)) (.tup (.cons (.var 11) (.cons (.call 72 (.cons (.var 1) (.cons (.var 10) (.cons (.var 3) .nil)))) .nil)))) .nil))) (.cons (.set (.one 5) (.call 97 (.cons (.var 1) .nil))) (.cons (.ite (.or (.cmp .IsNot (.call 89 (.cons (.var 1) (.cons (.var 5) .nil))) (.con (.bl true))) (.or (.cmp .NotEq (.call 92 (.cons (.var 1) (.cons (.var 5) .nil))) (.var 4)) (.cmp .NotEq (.call 71 (.cons (.var 1) (.cons (.var 2) .nil))) (.var 4)))) (.cons (.ret (.con (.bl false))) .nil) .nil) (.cons (.set (.one 6) (.call 93 (.cons (.var 1) (.cons (.call 4 (.cons (.var 0) (.cons (.con (.int (1))) .nil))) .nil)))) (.cons (.set (.one 7) (.call 92 (.cons (.var 1) (.cons (.var 6) .nil)))) (.cons (.ite (.or (.cmp .IsNot (.call 89 (.cons (.var 1) (.cons (.var 6) .nil))) (.con (.bl true))) (.cmp .Gt (.bin .Mult (.idx (.var 7) (.con (.int (0)))) (.idx (.var 4) (.con (.int (1))))) (.bin .Mult (.idx (.var 4) (.con (.int (0)))) (.idx (.var 7) (.con (.int (1))))))) (.cons (.ret (.con (.bl false))) .nil) .nil) (.cons (.for (.one 8) (.seq (.tup (.cons (.var 5) (.cons (.var 6) .nil)))) (.cons (.set (.one 9) (.call 91 (.cons (.var 1) (.cons (.var 8) .nil)))) (.cons (.ite (.cmp .NotEq (.call 48 (.cons (.lc false [12, 11] (.many [12, 11]) (.seq (.var 9)) (.con (.bl true)) (.tup (.cons (.var 11) (.cons (.tup (.cons (.con (.int (1))) (.cons (.con (.int (1))) .nil))) .nil)))) .nil)) (.tup (.cons (.con (.int (1))) (.cons (.con (.int (1))) .nil)))) (.cons (.ret (.con (.bl false))) .nil) .nil) (.cons (.ite (.cmp .NotEq (.call 48 (.cons (.lc false [12, 11] (.many [12, 11]) (.seq (.var 9)) (.con (.bl true)) (.tup (.cons (.var 11) (.cons (.tup (.cons (.var 12) (.cons (.con (.int (1))) .nil))) .nil)))) .nil)) (.call 92 (.cons (.var 1) (.cons (.var 8) .nil)))) (.cons (.ret (.con (.bl false))) .nil) .nil) .nil)))) (.cons (.ret (.con (.bl true))) .nil)))))))))))⟩
def ir_law_k32 : FDef := ⟨1, 13, (.cons (.set (.one 1) (.call 80 (.cons (.call 4 (.cons (.var 0) (.cons (.con (.int (0))) .nil))) .nil))) (.cons (.set (.one 2) (.call 97 (.cons (.var 1) .nil))) (.cons (.set (.one 3) (.blt .dict (.cons (.var 2) .nil))) (.cons (.set (.one 4) (.blt .tupRange (.cons (.blt .len (.cons (.idx (.var 1) (.con (.int (3)))) .nil)) .nil))) (.cons (.set (.one 5) (.lc true [12, 11] (.many [12, 11]) (.seq (.call 44 (.cons (.idx (.var 1) (.con (.int (0)))) (.cons (.idx (.var 1) (.con (.int (1)))) .nil)))) (.con (.bl true)) (.tup (.cons (.var 4) (.cons (.bin .Sub (.idx (.var 1) (.con (.int (2)))) (.con (.int (1)))) (.cons (.var 12) .nil)))))) (.cons (.set (.one 6) (.con (.int (0)))) (.cons (.whl (.cmp .Lt (.var 6) (.blt .len (.cons (.var 5) .nil))) (.cons (.set (.one 7) (.idx (.var 5) (.var 6))) (.cons (.set (.one 6) (.bin .Add (.var 6) (.con (.int (1))))) (.cons (.ite (.or (.cmp .NotIn (.var 7) (.var 3)) (.cmp .NotIn (.idx (.var 3) (.var 7)) (.call 58 (.cons (.var 1) (.cons (.var 7) .nil))))) (.cons (.ret (.con (.bl false))) .nil) .nil) (.cons (.ite (.cmp .NotEq (.call 82 (.cons (.var 1) (.cons (.var 7) (.cons (.idx (.var 3) (.var 7)) .nil)))) (.call 69 (.cons (.var 1) (.cons (.var 7) .nil)))) (.cons (.ret (.con (.bl false))) .nil) .nil) (.cons (.for (.many [10, 11]) (.seq (.idx (.call 60 (.cons (.var 1) (.cons (.var 7) (.cons (.idx (.var 3) (.var 7)) .nil)))) (.con (.int (1))))) (.cons (.ite (.cmp .NotIn (.var 10) (.var 5)) (.cons (.exp (.mth .append (.var 5) (.cons (.var 10) .nil))) .nil) .nil) .nil)) .nil)))))) (.cons (.ite (.cmp .NotEq (.blt .sorted (.cons (.var 5) .nil)) (.lc false [7, 8] (.many [7, 8]) (.seq (.var 2)) (.con (.bl true)) (.var 7))) (.cons (.ret (.con (.bl false))) .nil) .nil) (.cons (.set (.one 6) (.bin .Mod (.call 4 (.cons (.var 0) (.cons (.con (.int (1))) .nil))) (.blt .len (.cons (.var 2) .nil)))) (.cons (.set (.one 7) (.idx (.idx (.var 2) (.var 6)) (.con (.int (0))))) (.cons (.for (.one 8) (.seq (.call 58 (.cons (.var 1) (.cons (.var 7) .nil)))) (.cons (.set (.one 9) (.bin .Add (.bin .Add (.sli (.var 2) .no (.is (.var 6))) (.tup (.cons (.tup (.cons (.var 7) (.cons (.var 8) .nil))) .nil))) (.sli (.var 2) (.is (.bin .Add (.var 6) (.con (.int (1))))) .no))) (.cons (.ite (.and (.call 89 (.cons (.var 1) (.cons (.var 9) .nil))) (.call 74 (.cons (.call 69 (.cons (.var 1) (.cons (.var 7) .nil))) (.cons (.call 82 (.cons (.var 1) (.cons (.var 7) (.cons (.var 8) .nil)))) .nil)))) (.cons (.ite (.not (.call 74 (.cons (.call 92 (.cons (.var 1) (.cons (.var 2) .nil))) (.cons (.call 92 (.cons (.var 1) (.cons (.var 9) .nil))) .nil)))) (.cons (.ret (.con (.bl false))) .nil) .nil) .nil) .nil) .nil))) (.cons (.ret (.con (.bl true))) .nil))))))))))))⟩
def ir_goal_move : FDef := ⟨4, 4, (.cons (.ret (.idx (.meth (Str.ofString "known_of") (.make 5 (.cons (.var 0) .nil)) (.cons (.bin .Sub (.var 1) (.var 2)) (.cons (.var 3) .nil))) (.con (.int (1))))) .nil)⟩
def ir__law_chance : FDef := ⟨4, 7, (.cons (.ite (.cmp .NotIn (.tup (.cons (.var 1) (.cons (.var 2) .nil))) (.var 3)) (.cons (.set (.one 4) (.tup (.cons (.con (.int (0))) (.cons (.con (.int (1))) .nil)))) (.cons (.for (.one 5) (.seq (.call 61 (.cons (.var 2) .nil))) (.cons (.set (.one 6) (.call 102 (.cons (.var 0) (.cons (.var 1) (.cons (.var 2) (.cons (.var 5) (.cons (.var 3) .nil))))))) (.cons (.ite (.cmp .Lt (.bin .Mult (.idx (.var 4) (.con (.int (0)))) (.idx (.var 6) (.con (.int (1))))) (.bin .Mult (.idx (.var 6) (.con (.int (0)))) (.idx (.var 4) (.con (.int (1)))))) (.cons (.set (.one 4) (.var 6)) .nil) .nil) .nil))) (.cons (.put (.var 3) (.tup (.cons (.var 1) (.cons (.var 2) .nil))) (.var 4)) .nil))) .nil) (.cons (.ret (.idx (.var 3) (.tup (.cons (.var 1) (.cons (.var 2) .nil))))) .nil))⟩
def ir__law_by : FDef := ⟨5, 9, (.cons (.set (.many [5, 6]) (.call 63 (.cons (.var 0) (.cons (.var 2) (.cons (.var 3) .nil))))) (.cons (.ite (.cmp .Eq (.var 6) (.lst .nil)) (.cons (.ret (.tup (.cons (.blt .int (.cons (.cmp .GtE (.var 5) (.var 1)) .nil)) (.cons (.con (.int (1))) .nil)))) .nil) .nil) (.cons (.ret (.call 48 (.cons (.lc false [7, 8] (.many [7, 8]) (.seq (.var 6)) (.con (.bl true)) (.tup (.cons (.var 8) (.cons (.call 101 (.cons (.var 0) (.cons (.bin .Sub (.var 1) (.var 5)) (.cons (.var 7) (.cons (.var 4) .nil))))) .nil)))) .nil))) .nil)))⟩
def ir_law_k40 : FDef := ⟨1, 15, (.cons (.set (.one 1) (.call 7 (.cons (.call 4 (.cons (.var 0) (.cons (.con (.int (0))) .nil))) (.cons (.con (.int (0))) .nil)))) (.cons (.set (.one 1) (.tup (.cons (.idx (.var 1) (.con (.int (0)))) (.cons (.blt .min2 (.cons (.idx (.var 1) (.con (.int (1)))) (.cons (.con (.int (3))) .nil))) (.cons (.blt .min2 (.cons (.idx (.var 1) (.con (.int (2)))) (.cons (.con (.int (2))) .nil))) (.cons (.sli (.idx (.var 1) (.con (.int (3)))) .no (.is (.con (.int (2))))) .nil)))))) (.cons (.set (.one 2) (.call 4 (.cons (.var 0) (.cons (.con (.int (1))) .nil)))) (.cons (.set (.one 3) (.bin .Sub (.bin .Mod (.var 2) (.idx (.tup (.cons (.con (.int (60))) (.cons (.con (.int (12))) (.cons (.con (.int (120))) (.cons (.con (.int (25))) .nil))))) (.bin .Mod (.bin .FloorDiv (.var 2) (.con (.int (256)))) (.con (.int (4)))))) (.con (.int (2))))) (.cons (.set (.one 4) (.bin .Mod (.bin .FloorDiv (.var 2) (.con (.int (4096)))) (.idx (.tup (.cons (.con (.int (9))) (.cons (.con (.int (40))) .nil))) (.bin .Mod (.bin .FloorDiv (.var 2) (.con (.int (131072)))) (.con (.int (2))))))) (.cons (.set (.one 3) (.bin .Add (.var 3) (.bin .Mult (.var 4) (.bin .Add (.bin .FloorDiv (.bin .Mod (.bin .FloorDiv (.var 2) (.con (.int (262144)))) (.con (.int (3)))) (.con (.int (2)))) (.bin .Mod (.bin .FloorDiv (.var 2) (.con (.int (1048576)))) (.con (.int (2)))))))) (.cons (.set (.one 5) (.call 9 (.cons (.var 1) (.cons (.call 4 (.cons (.var 0) (.cons (.con (.int (2))) .nil))) .nil)))) (.cons (.set (.one 6) (.dct .nil)) (.cons (.set (.one 7) (.call 101 (.cons (.var 1) (.cons (.bin .Sub (.var 3) (.var 4)) (.cons (.var 5) (.cons (.var 6) .nil)))))) (.cons (.ite (.cmp .NotEq (.call 78 (.cons (.var 1) (.cons (.var 3) (.cons (.var 4) (.cons (.var 5) .nil))))) (.var 7)) (.cons (.ret (.con (.bl false))) .nil) .nil) (.cons (.set (.one 8) (.call 100 (.cons (.var 1) (.cons (.var 3) (.cons (.var 4) (.cons (.var 5) .nil)))))) (.cons (.ite (.or (.cmp .NotIn (.var 8) (.call 61 (.cons (.var 5) .nil))) (.cmp .NotEq (.call 102 (.cons (.var 1) (.cons (.bin .Sub (.var 3) (.var 4)) (.cons (.var 5) (.cons (.var 8) (.cons (.var 6) .nil)))))) (.var 7))) (.cons (.ret (.con (.bl false))) .nil) .nil) (.cons (.set (.one 9) (.blt .tupRange (.cons (.blt .len (.cons (.idx (.var 1) (.con (.int (3)))) .nil)) .nil))) (.cons (.set (.one 7) (.call 48 (.cons (.lc false [13, 14] (.many [13, 14]) (.seq (.call 62 (.cons (.var 1) (.cons (.var 9) .nil)))) (.con (.bl true)) (.tup (.cons (.var 14) (.cons (.call 101 (.cons (.var 1) (.cons (.var 3) (.cons (.var 13) (.cons (.var 6) .nil))))) .nil)))) .nil))) (.cons (.ite (.cmp .NotEq (.call 79 (.cons (.var 1) (.cons (.var 3) .nil))) (.var 7)) (.cons (.ret (.con (.bl false))) .nil) .nil) (.cons (.set (.one 10) (.call 94 (.cons (.var 1) (.cons (.call 93 (.cons (.var 1) (.cons (.call 4 (.cons (.var 0) (.cons (.con (.int (3))) .nil))) .nil))) .nil)))) (.cons (.set (.one 11) (.call 48 (.cons (.lc false [12] (.one 12) (.keys (.var 10)) (.con (.bl true)) (.tup (.cons (.idx (.var 10) (.var 12)) (.cons (.tup (.cons (.blt .int (.cons (.cmp .GtE (.var 12) (.var 3)) .nil)) (.cons (.con (.int (1))) .nil))) .nil)))) .nil))) (.cons (.ret (.cmp .LtE (.bin .Mult (.idx (.var 11) (.con (.int (0)))) (.idx (.var 7) (.con (.int (1))))) (.bin .Mult (.idx (.var 7) (.con (.int (0)))) (.idx (.var 11) (.con (.int (1))))))) .nil))))))))))))))))))⟩
def ir__law_most : FDef := ⟨2, 2, (.cons (.ite (.cmp .Eq (.idx (.var 0) (.con (.int (0)))) (.con (.str (Str.ofString "face")))) (.cons (.ret (.bin .Mult (.idx (.var 1) (.con (.int (0)))) (.idx (.var 0) (.con (.int (1)))))) .nil) .nil) (.cons (.ite (.cmp .In (.idx (.var 0) (.con (.int (0)))) (.tup (.cons (.con (.str (Str.ofString "all"))) (.cons (.con (.str (Str.ofString "under"))) .nil)))) (.cons (.ret (.bin .Mult (.idx (.var 1) (.con (.int (0)))) (.idx (.var 1) (.con (.int (1)))))) .nil) .nil) (.cons (.ret (.idx (.var 0) (.neg (.con (.int (1)))))) .nil)))⟩
def ir_law_k41 : FDef := ⟨1, 13, (.cons (.set (.one 1) (.call 80 (.cons (.call 4 (.cons (.var 0) (.cons (.con (.int (0))) .nil))) .nil))) (.cons (.set (.one 2) (.blt .sum (.cons (.lc false [8] (.one 8) (.seq (.idx (.var 1) (.con (.int (3))))) (.con (.bl true)) (.call 104 (.cons (.var 8) (.cons (.var 1) .nil)))) .nil))) (.cons (.set (.one 3) (.lc false [5] (.one 5) (.rng1 (.bin .Add (.blt .min2 (.cons (.var 2) (.cons (.con (.int (40))) .nil))) (.con (.int (2))))) (.con (.bl true)) (.call 79 (.cons (.var 1) (.cons (.var 5) .nil))))) (.cons (.ite (.or (.cmp .NotEq (.idx (.var 3) (.con (.int (0)))) (.tup (.cons (.con (.int (1))) (.cons (.con (.int (1))) .nil)))) (.or (.cmp .NotEq (.call 79 (.cons (.var 1) (.cons (.neg (.con (.int (5)))) .nil))) (.tup (.cons (.con (.int (1))) (.cons (.con (.int (1))) .nil)))) (.cmp .NotEq (.call 79 (.cons (.var 1) (.cons (.bin .Add (.var 2) (.con (.int (1)))) .nil))) (.tup (.cons (.con (.int (0))) (.cons (.con (.int (1))) .nil)))))) (.cons (.ret (.con (.bl false))) .nil) .nil) (.cons (.ite (.cmp .NotEq (.lc false [9, 10] (.many [9, 10]) (.zip (.sli (.var 3) .no (.is (.neg (.con (.int (1)))))) (.sli (.var 3) (.is (.con (.int (1)))) .no)) (.call 74 (.cons (.var 10) (.cons (.var 9) .nil))) (.con (.int (1)))) (.lst .nil)) (.cons (.ret (.con (.bl false))) .nil) .nil) (.cons (.set (.one 4) (.call 91 (.cons (.var 1) (.cons (.call 97 (.cons (.var 1) .nil)) .nil)))) (.cons (.for (.one 5) (.rng3 (.con (.int (0))) (.blt .len (.cons (.var 3) .nil)) (.con (.int (3)))) (.cons (.set (.one 7) (.call 48 (.cons (.lc false [11, 12] (.many [11, 12]) (.seq (.var 4)) (.con (.bl true)) (.tup (.cons (.var 12) (.cons (.tup (.cons (.blt .int (.cons (.cmp .GtE (.var 11) (.var 5)) .nil)) (.cons (.con (.int (1))) .nil))) .nil)))) .nil))) (.cons (.ite (.call 74 (.cons (.var 7) (.cons (.idx (.var 3) (.var 5)) .nil))) (.cons (.ret (.con (.bl false))) .nil) .nil) .nil))) (.cons (.ite (.cmp .Gt (.var 2) (.con (.int (40)))) (.cons (.ret (.con (.bl true))) .nil) .nil) (.cons (.set (.one 6) (.call 48 (.cons (.lc false [9] (.one 9) (.seq (.sli (.var 3) (.is (.con (.int (1)))) .no)) (.con (.bl true)) (.tup (.cons (.var 9) (.cons (.tup (.cons (.con (.int (1))) (.cons (.con (.int (1))) .nil))) .nil)))) .nil))) (.cons (.ret (.not (.call 74 (.cons (.call 71 (.cons (.var 1) (.cons (.blt .tupRange (.cons (.blt .len (.cons (.idx (.var 1) (.con (.int (3)))) .nil)) .nil)) .nil))) (.cons (.var 6) .nil))))) .nil))))))))))⟩
def ir__law_made_k42 : FDef := ⟨5, 9, (.cons (.set (.many [5, 6]) (.call 60 (.cons (.var 0) (.cons (.var 3) (.cons (.var 4) .nil))))) (.cons (.ite (.cmp .Eq (.var 6) (.tup .nil)) (.cons (.ret (.tup (.cons (.blt .int (.cons (.cmp .GtE (.bin .Add (.var 2) (.var 5)) (.var 1)) .nil)) (.cons (.con (.int (1))) .nil)))) .nil) .nil) (.cons (.ret (.call 48 (.cons (.lc false [7, 8] (.many [7, 8]) (.seq (.var 6)) (.con (.bl true)) (.tup (.cons (.var 8) (.cons (.call 78 (.cons (.var 0) (.cons (.var 1) (.cons (.bin .Add (.var 2) (.var 5)) (.cons (.var 7) .nil))))) .nil)))) .nil))) .nil)))⟩
def ir_law_k42 : FDef := ⟨1, 10, (.cons (.set (.one 1) (.call 80 (.cons (.call 4 (.cons (.var 0) (.cons (.con (.int (0))) .nil))) .nil))) (.cons (.set (.one 2) (.call 4 (.cons (.var 0) (.cons (.con (.int (1))) .nil)))) (.cons (.set (.one 3) (.call 9 (.cons (.var 1) (.cons (.call 4 (.cons (.var 0) (.cons (.con (.int (2))) .nil))) .nil)))) (.cons (.set (.many [7, 8]) (.tup (.cons (.bin .Mod (.var 2) (.con (.int (30)))) (.cons (.bin .Mod (.bin .FloorDiv (.var 2) (.con (.int (64)))) (.con (.int (12)))) .nil)))) (.cons (.set (.one 4) (.call 78 (.cons (.var 1) (.cons (.var 7) (.cons (.var 8) (.cons (.var 3) .nil)))))) (.cons (.set (.one 5) (.lc false [6] (.one 6) (.seq (.call 58 (.cons (.var 1) (.cons (.var 3) .nil)))) (.con (.bl true)) (.call 106 (.cons (.var 1) (.cons (.var 7) (.cons (.var 8) (.cons (.var 3) (.cons (.var 6) .nil)))))))) (.cons (.ite (.or (.cmp .NotIn (.var 4) (.var 5)) (.cmp .NotEq (.lc false [9] (.one 9) (.seq (.var 5)) (.call 74 (.cons (.var 9) (.cons (.var 4) .nil))) (.var 9)) (.lst .nil))) (.cons (.ret (.con (.bl false))) .nil) .nil) (.cons (.set (.one 6) (.call 100 (.cons (.var 1) (.cons (.var 7) (.cons (.var 8) (.cons (.var 3) .nil)))))) (.cons (.ite (.or (.cmp .NotIn (.var 6) (.call 58 (.cons (.var 1) (.cons (.var 3) .nil)))) (.cmp .NotEq (.call 106 (.cons (.var 1) (.cons (.var 7) (.cons (.var 8) (.cons (.var 3) (.cons (.var 6) .nil)))))) (.var 4))) (.cons (.ret (.con (.bl false))) .nil) .nil) (.cons (.ite (.or (.cmp .NotEq (.call 78 (.cons (.var 1) (.cons (.bin .Sub (.var 7) (.var 8)) (.cons (.con (.int (0))) (.cons (.var 3) .nil))))) (.var 4)) (.cmp .NotEq (.call 78 (.cons (.var 1) (.cons (.bin .Add (.var 7) (.con (.int (9)))) (.cons (.bin .Add (.var 8) (.con (.int (9)))) (.cons (.var 3) .nil))))) (.var 4))) (.cons (.ret (.con (.bl false))) .nil) .nil) (.cons (.ite (.call 74 (.cons (.var 4) (.cons (.call 78 (.cons (.var 1) (.cons (.var 7) (.cons (.bin .Add (.var 8) (.con (.int (1)))) (.cons (.var 3) .nil))))) .nil))) (.cons (.ret (.con (.bl false))) .nil) .nil) (.cons (.ret (.cmp .Eq (.call 78 (.cons (.var 1) (.cons (.var 8) (.cons (.var 8) (.cons (.var 3) .nil))))) (.tup (.cons (.con (.int (1))) (.cons (.con (.int (1))) .nil))))) .nil))))))))))))⟩
def ir_is_some : FDef := ⟨2, 3, (.cons (.ret (.blt .all (.cons (.lc false [2] (.one 2) (.seq (.var 0)) (.con (.bl true)) (.cmp .LtE (.mth .count (.var 0) (.cons (.var 2) .nil)) (.mth .count (.var 1) (.cons (.var 2) .nil)))) .nil))) .nil)⟩
def ir_are_dice : FDef := ⟨2, 3, (.cons (.ite (.or (.not (.blt (.isT .tup) (.cons (.var 0) .nil))) (.not (.blt .all (.cons (.lc false [2] (.one 2) (.seq (.var 0)) (.con (.bl true)) (.call 0 (.cons (.var 2) (.cons (.con (.int (1))) (.cons (.var 1) .nil))))) .nil)))) (.cons (.ret (.con (.bl false))) .nil) .nil) (.cons (.ret (.cmp .Eq (.blt .list (.cons (.var 0) .nil)) (.blt .sorted (.cons (.var 0) .nil)))) .nil))⟩
def ir__law_drawn_dice : FDef := ⟨3, 6, (.cons (.set (.one 3) (.call 8 (.cons (.var 0) (.cons (.bin .FloorDiv (.var 2) (.con (.int (64)))) .nil)))) (.cons (.ite (.and (.cmp .IsNot (.idx (.var 1) (.con (.str (Str.ofString "kept")))) (.con .non)) (.cmp .Gt (.bin .Mod (.bin .FloorDiv (.var 2) (.con (.int (8)))) (.con (.int (4)))) (.con (.int (0))))) (.cons (.set (.one 5) (.idx (.var 1) (.con (.str (Str.ofString "kept"))))) (.cons (.set (.one 3) (.blt .tuple (.cons (.blt .sorted (.cons (.bin .Add (.var 5) (.sli (.var 3) (.is (.blt .len (.cons (.var 5) .nil))) .no)) .nil)) .nil))) .nil)) .nil) (.cons (.set (.one 4) (.lstM (.cons (.sli (.var 3) .no (.is (.neg (.con (.int (1)))))) (.cons (.bin .Add (.var 3) (.tup (.cons (.con (.int (1))) .nil))) (.cons (.rev (.var 3)) (.cons (.blt .list (.cons (.var 3) .nil)) (.cons (.bin .Add (.sli (.var 3) .no (.is (.neg (.con (.int (1)))))) (.tup (.cons (.con (.int (9))) .nil))) (.cons (.con .non) (.cons (.bin .Mult (.tup (.cons (.con (.bl true)) .nil)) (.blt .len (.cons (.var 3) .nil))) .nil))))))))) (.cons (.exp (.mth .append (.var 4) (.cons (.bin .Add (.tup (.cons (.con (.int (0))) .nil)) (.sli (.var 3) (.is (.con (.int (1)))) .no)) .nil))) (.cons (.ret (.idx (.lst (.cons (.var 3) (.cons (.idx (.var 4) (.bin .Mod (.bin .FloorDiv (.var 2) (.con (.int (64)))) (.con (.int (8))))) .nil))) (.blt .int (.cons (.cmp .Eq (.bin .Mod (.bin .FloorDiv (.var 2) (.con (.int (8)))) (.con (.int (8)))) (.con (.int (1)))) .nil)))) .nil)))))⟩
def ir__law_are : FDef := ⟨2, 3, (.cons (.ite (.not (.blt (.isT .tup) (.cons (.var 0) .nil))) (.cons (.ret (.con (.bl false))) .nil) .nil) (.cons (.for (.one 2) (.seq (.var 0)) (.cons (.ite (.or (.not (.blt (.isT .int) (.cons (.var 2) .nil))) (.or (.blt (.isT .bl) (.cons (.var 2) .nil)) (.not (.chn .LtE .LtE (.con (.int (1))) (.var 2) (.idx (.var 1) (.con (.int (1)))))))) (.cons (.ret (.con (.bl false))) .nil) .nil) .nil)) (.cons (.ret (.cmp .Eq (.blt .list (.cons (.var 0) .nil)) (.blt .sorted (.cons (.var 0) .nil)))) .nil)))⟩
def ir__law_some_k50 : FDef := ⟨2, 3, (.cons (.ret (.cmp .Eq (.lc false [2] (.one 2) (.seq (.var 0)) (.cmp .Gt (.mth .count (.var 0) (.cons (.var 2) .nil)) (.mth .count (.var 1) (.cons (.var 2) .nil))) (.var 2)) (.lst .nil))) .nil)⟩
def ir__law_throw : FDef := ⟨3, 4, (.cons (.ite (.or (.and (.cmp .Is (.idx (.var 1) (.con (.str (Str.ofString "dice")))) (.con .non)) (.cmp .Eq (.idx (.var 1) (.con (.str (Str.ofString "boxes")))) (.tup .nil))) (.and (.cmp .IsNot (.idx (.var 1) (.con (.str (Str.ofString "dice")))) (.con .non)) (.cmp .Is (.idx (.var 1) (.con (.str (Str.ofString "kept")))) (.con .non)))) (.cons (.ret (.con (.int (1)))) .nil) .nil) (.cons (.ite (.or (.not (.call 111 (.cons (.var 2) (.cons (.var 0) .nil)))) (.cmp .NotEq (.blt .len (.cons (.var 2) .nil)) (.idx (.var 0) (.con (.int (0)))))) (.cons (.ret (.con (.int (2)))) .nil) .nil) (.cons (.ite (.and (.cmp .IsNot (.idx (.var 1) (.con (.str (Str.ofString "kept")))) (.con .non)) (.not (.call 112 (.cons (.idx (.var 1) (.con (.str (Str.ofString "kept")))) (.cons (.var 2) .nil))))) (.cons (.ret (.con (.int (2)))) .nil) .nil) (.cons (.set (.one 3) (.bin .Sub (.idx (.var 0) (.con (.int (2)))) (.con (.int (1))))) (.cons (.ite (.cmp .IsNot (.idx (.var 1) (.con (.str (Str.ofString "dice")))) (.con .non)) (.cons (.set (.one 3) (.bin .Sub (.idx (.var 1) (.con (.str (Str.ofString "left")))) (.con (.int (1))))) .nil) .nil) (.cons (.ret (.dct (.cons (.con (.str (Str.ofString "dice"))) (.cons (.var 2) (.cons (.con (.str (Str.ofString "kept"))) (.cons (.con .non) (.cons (.con (.str (Str.ofString "left"))) (.cons (.var 3) .nil)))))))) .nil))))))⟩
def ir__law_keep : FDef := ⟨3, 3, (.cons (.ite (.or (.cmp .Is (.idx (.var 1) (.con (.str (Str.ofString "dice")))) (.con .non)) (.or (.cmp .Eq (.idx (.var 1) (.con (.str (Str.ofString "left")))) (.con (.int (0)))) (.cmp .IsNot (.idx (.var 1) (.con (.str (Str.ofString "kept")))) (.con .non)))) (.cons (.ret (.con (.int (1)))) .nil) .nil) (.cons (.ite (.or (.not (.call 111 (.cons (.var 2) (.cons (.var 0) .nil)))) (.not (.call 112 (.cons (.var 2) (.cons (.idx (.var 1) (.con (.str (Str.ofString "dice")))) .nil))))) (.cons (.ret (.con (.int (2)))) .nil) .nil) (.cons (.ret (.dct (.cons (.con (.str (Str.ofString "kept"))) (.cons (.var 2) .nil)))) .nil)))⟩
def ir__law_fill : FDef := ⟨3, 5, (.cons (.ite (.or (.cmp .Is (.idx (.var 1) (.con (.str (Str.ofString "dice")))) (.con .non)) (.or (.cmp .IsNot (.idx (.var 1) (.con (.str (Str.ofString "kept")))) (.con .non)) (.cmp .NotIn (.var 2) (.idx (.var 1) (.con (.str (Str.ofString "boxes"))))))) (.cons (.ret (.con (.int (1)))) .nil) .nil) (.cons (.set (.one 3) (.blt .tuple (.cons (.lc false [4] (.one 4) (.seq (.idx (.var 1) (.con (.str (Str.ofString "boxes"))))) (.cmp .NotEq (.var 4) (.var 2)) (.var 4)) .nil))) (.cons (.ret (.dct (.cons (.con (.str (Str.ofString "boxes"))) (.cons (.var 3) (.cons (.con (.str (Str.ofString "dice"))) (.cons (.con .non) (.cons (.con (.str (Str.ofString "won"))) (.cons (.bin .Add (.idx (.var 1) (.con (.str (Str.ofString "won")))) (.call 40 (.cons (.idx (.idx (.var 0) (.con (.int (3)))) (.var 2)) (.cons (.idx (.var 1) (.con (.str (Str.ofString "dice")))) .nil)))) .nil)))))))) .nil)))⟩
def ir__law_stand_of : FDef := ⟨1, 1, (.cons (.ite (.or (.cmp .Is (.idx (.var 0) (.con (.str (Str.ofString "dice")))) (.con .non)) (.cmp .IsNot (.idx (.var 0) (.con (.str (Str.ofString "kept")))) (.con .non))) (.cons (.ret (.con .non)) .nil) .nil) (.cons (.ret (.tup (.cons (.idx (.var 0) (.con (.str (Str.ofString "boxes")))) (.cons (.idx (.var 0) (.con (.str (Str.ofString "left")))) (.cons (.idx (.var 0) (.con (.str (Str.ofString "dice")))) .nil))))) .nil))⟩
def ir_law_k50 : FDef := ⟨1, 14, (.cons (.set (.one 1) (.call 7 (.cons (.call 4 (.cons (.var 0) (.cons (.con (.int (0))) .nil))) (.cons (.con (.int (1))) .nil)))) (.cons (.set (.one 2) (.make 6 (.cons (.var 1) .nil))) (.cons (.set (.one 3) (.lstM (.cons (.dct (.cons (.con (.str (Str.ofString "boxes"))) (.cons (.blt .tupRange (.cons (.blt .len (.cons (.idx (.var 1) (.con (.int (3)))) .nil)) .nil)) (.cons (.con (.str (Str.ofString "left"))) (.cons (.con (.int (0))) (.cons (.con (.str (Str.ofString "dice"))) (.cons (.con .non) (.cons (.con (.str (Str.ofString "kept"))) (.cons (.con .non) (.cons (.con (.str (Str.ofString "won"))) (.cons (.con (.int (0))) .nil))))))))))) .nil))) (.cons (.for (.one 4) (.rng1 (.bin .Mod (.call 4 (.cons (.var 0) (.cons (.con (.int (1))) .nil))) (.con (.int (17))))) (.cons (.set (.one 5) (.call 4 (.cons (.var 0) (.cons (.bin .Add (.con (.int (2))) (.var 4)) .nil)))) (.cons (.set (.one 6) (.idx (.var 3) (.neg (.con (.int (1)))))) (.cons (.set (.one 7) (.bin .Mod (.var 5) (.con (.int (8))))) (.cons (.set (.one 8) (.call 110 (.cons (.var 1) (.cons (.var 6) (.cons (.var 5) .nil))))) (.cons (.ite (.cmp .Lt (.var 7) (.con (.int (4)))) (.cons (.set (.one 10) (.call 113 (.cons (.var 1) (.cons (.var 6) (.cons (.var 8) .nil))))) (.cons (.set (.one 11) (.told (.meth (Str.ofString "throw") (.var 2) (.cons (.var 8) .nil)))) .nil)) (.cons (.ite (.cmp .Lt (.var 7) (.con (.int (6)))) (.cons (.ite (.and (.cmp .IsNot (.idx (.var 6) (.con (.str (Str.ofString "dice")))) (.con .non)) (.cmp .Gt (.bin .Mod (.bin .FloorDiv (.var 5) (.con (.int (64)))) (.con (.int (4)))) (.con (.int (0))))) (.cons (.set (.one 8) (.stp (.idx (.var 6) (.con (.str (Str.ofString "dice")))) (.is (.bin .Mod (.bin .FloorDiv (.var 5) (.con (.int (256)))) (.con (.int (2))))) .no (.bin .Add (.con (.int (1))) (.bin .Mod (.bin .FloorDiv (.var 5) (.con (.int (512)))) (.con (.int (2))))))) .nil) .nil) (.cons (.set (.one 10) (.call 114 (.cons (.var 1) (.cons (.var 6) (.cons (.var 8) .nil))))) (.cons (.set (.one 11) (.told (.meth (Str.ofString "keep") (.var 2) (.cons (.var 8) .nil)))) .nil))) (.cons (.ite (.or (.cmp .Eq (.var 7) (.con (.int (6)))) (.cmp .Eq (.bin .Mod (.bin .FloorDiv (.var 5) (.con (.int (8)))) (.con (.int (2)))) (.con (.int (1))))) (.cons (.set (.one 13) (.bin .Mod (.bin .FloorDiv (.var 5) (.con (.int (16)))) (.con (.int (4))))) (.cons (.set (.one 10) (.call 115 (.cons (.var 1) (.cons (.var 6) (.cons (.var 13) .nil))))) (.cons (.set (.one 11) (.told (.meth (Str.ofString "fill") (.var 2) (.cons (.var 13) .nil)))) .nil))) (.cons (.set (.one 10) (.idx (.lst (.cons (.con (.int (1))) (.cons (.con (.int (0))) .nil))) (.blt .int (.cons (.cmp .Gt (.blt .len (.cons (.var 3) .nil)) (.con (.int (1)))) .nil)))) (.cons (.set (.one 11) (.told (.meth (Str.ofString "back") (.var 2) .nil))) (.cons (.set (.one 3) (.sli (.var 3) .no (.is (.blt .max2 (.cons (.con (.int (1))) (.cons (.bin .Sub (.blt .len (.cons (.var 3) .nil)) (.con (.int (1)))) .nil)))))) .nil)))) .nil)) .nil)) (.cons (.ite (.blt (.isT .dic) (.cons (.var 10) .nil)) (.cons (.set (.one 12) (.blt .dict (.cons (.var 6) .nil))) (.cons (.exp (.mth .update (.var 12) (.cons (.var 10) .nil))) (.cons (.exp (.mth .append (.var 3) (.cons (.var 12) .nil))) (.cons (.set (.one 10) (.con (.int (0)))) .nil)))) .nil) (.cons (.ite (.cmp .NotEq (.var 11) (.idx (.lst (.cons (.tup (.cons (.con (.str (Str.ofString "told"))) (.cons (.con .non) .nil))) (.cons (.tup (.cons (.con (.str (Str.ofString "refused"))) (.cons (.con (.int (1))) .nil))) (.cons (.tup (.cons (.con (.str (Str.ofString "refused"))) (.cons (.con (.int (2))) .nil))) .nil)))) (.var 10))) (.cons (.ret (.con (.bl false))) .nil) .nil) (.cons (.ite (.or (.cmp .NotEq (.meth (Str.ofString "stand") (.var 2) .nil) (.call 116 (.cons (.idx (.var 3) (.neg (.con (.int (1))))) .nil))) (.cmp .NotEq (.meth (Str.ofString "had") (.var 2) .nil) (.idx (.idx (.var 3) (.neg (.con (.int (1))))) (.con (.str (Str.ofString "won")))))) (.cons (.ret (.con (.bl false))) .nil) .nil) (.cons (.set (.one 9) (.meth (Str.ofString "over") (.var 2) .nil)) (.cons (.ite (.or (.not (.blt (.isT .bl) (.cons (.var 9) .nil))) (.cmp .NotEq (.var 9) (.cmp .Eq (.idx (.idx (.var 3) (.neg (.con (.int (1))))) (.con (.str (Str.ofString "boxes")))) (.tup .nil)))) (.cons (.ret (.con (.bl false))) .nil) .nil) .nil))))))))))) (.cons (.ret (.con (.bl true))) .nil)))))⟩
def ir_law_k51 : FDef := ⟨1, 14, (.cons (.set (.one 1) (.call 80 (.cons (.call 4 (.cons (.var 0) (.cons (.con (.int (0))) .nil))) .nil))) (.cons (.set (.one 2) (.blt .dict (.cons (.call 97 (.cons (.var 1) .nil)) .nil))) (.cons (.set (.one 3) (.make 6 (.cons (.var 1) .nil))) (.cons (.set (.many [4, 5, 6]) (.tup (.cons (.tup .nil) (.cons (.con (.int (0))) (.cons (.con (.int (0))) .nil))))) (.cons (.whl (.not (.meth (Str.ofString "over") (.var 3) .nil)) (.cons (.set (.one 7) (.call 46 (.cons (.var 1) (.cons (.var 4) .nil)))) (.cons (.set (.one 8) (.idx (.idx (.var 7) (.bin .Mod (.bin .FloorDiv (.call 5 (.cons (.call 4 (.cons (.var 0) (.cons (.con (.int (1))) .nil))) (.cons (.var 6) .nil))) (.con (.int (4)))) (.blt .len (.cons (.var 7) .nil)))) (.con (.int (0))))) (.cons (.set (.one 6) (.bin .Add (.var 6) (.con (.int (1))))) (.cons (.ite (.or (.cmp .NotEq (.told (.meth (Str.ofString "throw") (.var 3) (.cons (.var 8) .nil))) (.tup (.cons (.con (.str (Str.ofString "told"))) (.cons (.con .non) .nil)))) (.cmp .Gt (.var 6) (.con (.int (40))))) (.cons (.ret (.con (.bl false))) .nil) .nil) (.cons (.set (.one 9) (.meth (Str.ofString "stand") (.var 3) .nil)) (.cons (.ite (.or (.cmp .Is (.var 9) (.con .non)) (.or (.cmp .NotEq (.idx (.var 9) (.con (.int (2)))) (.var 8)) (.or (.cmp .NotIn (.var 9) (.var 2)) (.cmp .NotEq (.meth (Str.ofString "had") (.var 3) .nil) (.var 5))))) (.cons (.ret (.con (.bl false))) .nil) .nil) (.cons (.set (.many [10, 11]) (.idx (.var 2) (.var 9))) (.cons (.ite (.cmp .Eq (.var 10) (.con (.str (Str.ofString "keep")))) (.cons (.set (.one 4) (.var 11)) (.cons (.ite (.or (.cmp .NotEq (.told (.meth (Str.ofString "keep") (.var 3) (.cons (.var 11) .nil))) (.tup (.cons (.con (.str (Str.ofString "told"))) (.cons (.con .non) .nil)))) (.cmp .IsNot (.meth (Str.ofString "stand") (.var 3) .nil) (.con .non))) (.cons (.ret (.con (.bl false))) .nil) .nil) (.cons .cont .nil))) .nil) (.cons (.set (.one 4) (.tup .nil)) (.cons (.set (.one 5) (.bin .Add (.var 5) (.call 39 (.cons (.idx (.idx (.var 1) (.con (.int (3)))) (.var 11)) (.cons (.var 8) .nil))))) (.cons (.ite (.or (.cmp .NotEq (.told (.meth (Str.ofString "fill") (.var 3) (.cons (.var 11) .nil))) (.tup (.cons (.con (.str (Str.ofString "told"))) (.cons (.con .non) .nil)))) (.cmp .NotEq (.meth (Str.ofString "had") (.var 3) .nil) (.var 5))) (.cons (.ret (.con (.bl false))) .nil) .nil) .nil)))))))))))) (.cons (.ite (.or (.cmp .NotIn (.var 5) (.lc false [12, 13] (.many [12, 13]) (.seq (.call 91 (.cons (.var 1) (.cons (.blt .tuple (.cons (.blt .srtI (.cons (.var 2) .nil)) .nil)) .nil)))) (.con (.bl true)) (.var 12))) (.cmp .IsNot (.meth (Str.ofString "stand") (.var 3) .nil) (.con .non))) (.cons (.ret (.con (.bl false))) .nil) .nil) (.cons (.ite (.cmp .NotEq (.told (.meth (Str.ofString "fill") (.var 3) (.cons (.con (.int (0))) .nil))) (.tup (.cons (.con (.str (Str.ofString "refused"))) (.cons (.con (.int (1))) .nil)))) (.cons (.ret (.con (.bl false))) .nil) .nil) (.cons (.ite (.cmp .NotEq (.told (.meth (Str.ofString "keep") (.var 3) (.cons (.tup .nil) .nil))) (.tup (.cons (.con (.str (Str.ofString "refused"))) (.cons (.con (.int (1))) .nil)))) (.cons (.ret (.con (.bl false))) .nil) .nil) (.cons (.ite (.cmp .NotEq (.told (.meth (Str.ofString "throw") (.var 3) (.cons (.bin .Mult (.tup (.cons (.con (.int (1))) .nil)) (.idx (.var 1) (.con (.int (0))))) .nil))) (.tup (.cons (.con (.str (Str.ofString "refused"))) (.cons (.con (.int (1))) .nil)))) (.cons (.ret (.con (.bl false))) .nil) .nil) (.cons (.ret (.and (.cmp .Eq (.meth (Str.ofString "had") (.var 3) .nil) (.var 5)) (.cmp .Is (.meth (Str.ofString "over") (.var 3) .nil) (.con (.bl true))))) .nil))))))))))⟩
def ir__law_shown : FDef := ⟨1, 1, (.cons (.ret (.tup (.cons (.meth (Str.ofString "stand") (.var 0) .nil) (.cons (.meth (Str.ofString "had") (.var 0) .nil) (.cons (.meth (Str.ofString "over") (.var 0) .nil) .nil))))) .nil)⟩
def ir__law_deed : FDef := ⟨3, 6, (.cons (.set (.one 3) (.call 8 (.cons (.var 1) (.cons (.bin .FloorDiv (.var 2) (.con (.int (64)))) .nil)))) (.cons (.ite (.cmp .Lt (.bin .Mod (.var 2) (.con (.int (6)))) (.con (.int (3)))) (.cons (.ret (.told (.meth (Str.ofString "throw") (.var 0) (.cons (.var 3) .nil)))) .nil) .nil) (.cons (.ite (.cmp .Eq (.bin .Mod (.var 2) (.con (.int (6)))) (.con (.int (3)))) (.cons (.set (.one 4) (.meth (Str.ofString "stand") (.var 0) .nil)) (.cons (.set (.one 5) (.tup .nil)) (.cons (.ite (.cmp .IsNot (.var 4) (.con .non)) (.cons (.set (.one 5) (.sli (.idx (.var 4) (.con (.int (2)))) .no (.is (.bin .Mod (.bin .FloorDiv (.var 2) (.con (.int (8)))) (.bin .Add (.idx (.var 1) (.con (.int (0)))) (.con (.int (1)))))))) .nil) .nil) (.cons (.ret (.told (.meth (Str.ofString "keep") (.var 0) (.cons (.var 5) .nil)))) .nil)))) .nil) (.cons (.ret (.told (.meth (Str.ofString "fill") (.var 0) (.cons (.bin .Mod (.bin .FloorDiv (.var 2) (.con (.int (8)))) (.con (.int (3)))) .nil)))) .nil))))⟩
def ir_law_k52 : FDef := ⟨1, 14, (.cons (.set (.many [6, 7]) (.tup (.cons (.call 7 (.cons (.call 4 (.cons (.var 0) (.cons (.con (.int (0))) .nil))) (.cons (.con (.int (1))) .nil))) (.cons (.call 7 (.cons (.call 4 (.cons (.var 0) (.cons (.con (.int (1))) .nil))) (.cons (.con (.int (1))) .nil))) .nil)))) (.cons (.set (.one 1) (.tup (.cons (.var 6) (.cons (.var 7) (.cons (.var 6) .nil))))) (.cons (.set (.one 2) (.lc false [12] (.one 12) (.seq (.var 1)) (.con (.bl true)) (.make 6 (.cons (.var 12) .nil)))) (.cons (.set (.one 3) (.lstM (.cons (.lstM .nil) (.cons (.lstM .nil) (.cons (.lstM .nil) .nil))))) (.cons (.for (.one 4) (.rng1 (.con (.int (14)))) (.cons (.for (.one 5) (.rng1 (.con (.int (3)))) (.cons (.set (.one 13) (.bin .FloorDiv (.call 5 (.cons (.call 4 (.cons (.var 0) (.cons (.bin .Add (.con (.int (2))) (.var 5)) .nil))) (.cons (.var 4) .nil))) (.con (.int (4))))) (.cons (.exp (.mth .append (.idx (.var 3) (.var 5)) (.cons (.call 120 (.cons (.idx (.var 2) (.var 5)) (.cons (.idx (.var 1) (.var 5)) (.cons (.var 13) .nil)))) .nil))) .nil))) .nil)) (.cons (.for (.one 5) (.rng1 (.con (.int (3)))) (.cons (.set (.one 8) (.make 6 (.cons (.idx (.var 1) (.var 5)) .nil))) (.cons (.set (.one 9) (.call 119 (.cons (.var 8) .nil))) (.cons (.set (.one 10) (.lstM .nil)) (.cons (.for (.one 4) (.rng1 (.con (.int (14)))) (.cons (.exp (.mth .append (.var 10) (.cons (.call 120 (.cons (.var 8) (.cons (.idx (.var 1) (.var 5)) (.cons (.bin .FloorDiv (.call 5 (.cons (.call 4 (.cons (.var 0) (.cons (.bin .Add (.con (.int (2))) (.var 5)) .nil))) (.cons (.var 4) .nil))) (.con (.int (4)))) .nil)))) .nil))) .nil)) (.cons (.ite (.or (.cmp .NotEq (.var 10) (.idx (.var 3) (.var 5))) (.cmp .NotEq (.call 119 (.cons (.var 8) .nil)) (.call 119 (.cons (.idx (.var 2) (.var 5)) .nil)))) (.cons (.ret (.con (.bl false))) .nil) .nil) (.cons (.for (.one 11) (.seq (.var 10)) (.cons (.ite (.and (.cmp .Eq (.idx (.var 11) (.con (.int (0)))) (.con (.str (Str.ofString "told")))) (.cmp .NotEq (.told (.meth (Str.ofString "back") (.var 8) .nil)) (.tup (.cons (.con (.str (Str.ofString "told"))) (.cons (.con .non) .nil))))) (.cons (.ret (.con (.bl false))) .nil) .nil) .nil)) (.cons (.ite (.or (.cmp .NotEq (.call 119 (.cons (.var 8) .nil)) (.var 9)) (.cmp .NotEq (.told (.meth (Str.ofString "back") (.var 8) .nil)) (.tup (.cons (.con (.str (Str.ofString "refused"))) (.cons (.con (.int (1))) .nil))))) (.cons (.ret (.con (.bl false))) .nil) .nil) (.cons (.ite (.cmp .NotEq (.call 119 (.cons (.var 8) .nil)) (.var 9)) (.cons (.ret (.con (.bl false))) .nil) .nil) .nil))))))))) (.cons (.ret (.con (.bl true))) .nil)))))))⟩
def ir__law_do : FDef := ⟨2, 2, (.cons (.ite (.cmp .Eq (.idx (.var 1) (.con (.int (0)))) (.con (.str (Str.ofString "throw")))) (.cons (.ret (.told (.meth (Str.ofString "throw") (.var 0) (.cons (.idx (.var 1) (.con (.int (1)))) .nil)))) .nil) .nil) (.cons (.ite (.cmp .Eq (.idx (.var 1) (.con (.int (0)))) (.con (.str (Str.ofString "keep")))) (.cons (.ret (.told (.meth (Str.ofString "keep") (.var 0) (.cons (.idx (.var 1) (.con (.int (1)))) .nil)))) .nil) .nil) (.cons (.ret (.told (.meth (Str.ofString "fill") (.var 0) (.cons (.idx (.var 1) (.con (.int (1)))) .nil)))) .nil)))⟩
def ir__law_deeds : FDef := ⟨2, 10, (.cons (.set (.many [3, 4, 5]) (.tup (.cons (.make 6 (.cons (.var 0) .nil)) (.cons (.lstM .nil) (.cons (.tup .nil) .nil))))) (.cons (.for (.one 2) (.rng1 (.con (.int (14)))) (.cons (.set (.one 6) (.bin .FloorDiv (.call 5 (.cons (.call 4 (.cons (.var 1) (.cons (.con (.int (1))) .nil))) (.cons (.var 2) .nil))) (.con (.int (4))))) (.cons (.set (.one 7) (.meth (Str.ofString "stand") (.var 3) .nil)) (.cons (.ite (.cmp .Is (.var 7) (.con .non)) (.cons (.set (.one 8) (.call 46 (.cons (.var 0) (.cons (.var 5) .nil)))) (.cons (.set (.one 9) (.tup (.cons (.con (.str (Str.ofString "throw"))) (.cons (.idx (.idx (.var 8) (.bin .Mod (.var 6) (.blt .len (.cons (.var 8) .nil)))) (.con (.int (0)))) .nil)))) .nil)) (.cons (.ite (.and (.cmp .Gt (.bin .Mod (.var 6) (.con (.int (3)))) (.con (.int (0)))) (.cmp .Gt (.idx (.var 7) (.con (.int (1)))) (.con (.int (0))))) (.cons (.set (.one 9) (.tup (.cons (.con (.str (Str.ofString "keep"))) (.cons (.stp (.idx (.var 7) (.con (.int (2)))) (.is (.bin .Mod (.bin .FloorDiv (.var 6) (.con (.int (8)))) (.con (.int (2))))) .no (.bin .Add (.con (.int (1))) (.bin .Mod (.bin .FloorDiv (.var 6) (.con (.int (16)))) (.con (.int (2)))))) .nil)))) .nil) (.cons (.set (.one 9) (.tup (.cons (.con (.str (Str.ofString "fill"))) (.cons (.bin .Mod (.bin .FloorDiv (.var 6) (.con (.int (8)))) (.blt .len (.cons (.idx (.var 0) (.con (.int (3)))) .nil))) .nil)))) .nil)) .nil)) (.cons (.ite (.cmp .Eq (.call 122 (.cons (.var 3) (.cons (.var 9) .nil))) (.tup (.cons (.con (.str (Str.ofString "told"))) (.cons (.con .non) .nil)))) (.cons (.exp (.mth .append (.var 4) (.cons (.var 9) .nil))) (.cons (.set (.one 5) (.idx (.lst (.cons (.tup .nil) (.cons (.idx (.var 9) (.con (.int (1)))) .nil))) (.blt .int (.cons (.cmp .Eq (.idx (.var 9) (.con (.int (0)))) (.con (.str (Str.ofString "keep")))) .nil)))) .nil)) .nil) (.cons (.ite (.meth (Str.ofString "over") (.var 3) .nil) (.cons .brk .nil) .nil) .nil)))))) (.cons (.ret (.tup (.cons (.var 3) (.cons (.var 4) .nil)))) .nil)))⟩
def ir_law_k53 : FDef := ⟨1, 11, (.cons (.set (.one 1) (.call 7 (.cons (.call 4 (.cons (.var 0) (.cons (.con (.int (0))) .nil))) (.cons (.con (.int (1))) .nil)))) (.cons (.set (.many [9, 10]) (.call 123 (.cons (.var 1) (.cons (.var 0) .nil)))) (.cons (.set (.one 2) (.call 119 (.cons (.var 9) .nil))) (.cons (.set (.one 3) (.call 4 (.cons (.var 0) (.cons (.con (.int (2))) .nil)))) (.cons (.set (.one 4) (.bin .Mod (.var 3) (.bin .Add (.blt .len (.cons (.var 10) .nil)) (.con (.int (1)))))) (.cons (.for (.one 5) (.rng1 (.var 4)) (.cons (.ite (.cmp .NotEq (.told (.meth (Str.ofString "back") (.var 9) .nil)) (.tup (.cons (.con (.str (Str.ofString "told"))) (.cons (.con .non) .nil)))) (.cons (.ret (.con (.bl false))) .nil) .nil) .nil)) (.cons (.set (.one 6) (.bin .Sub (.blt .len (.cons (.var 10) .nil)) (.var 4))) (.cons (.set (.one 7) (.make 6 (.cons (.var 1) .nil))) (.cons (.for (.one 8) (.seq (.sli (.var 10) .no (.is (.var 6)))) (.cons (.ite (.cmp .NotEq (.call 122 (.cons (.var 7) (.cons (.var 8) .nil))) (.tup (.cons (.con (.str (Str.ofString "told"))) (.cons (.con .non) .nil)))) (.cons (.ret (.con (.bl false))) .nil) .nil) .nil)) (.cons (.ite (.cmp .NotEq (.call 119 (.cons (.var 7) .nil)) (.call 119 (.cons (.var 9) .nil))) (.cons (.ret (.con (.bl false))) .nil) .nil) (.cons (.for (.one 8) (.seq (.sli (.var 10) (.is (.var 6)) .no)) (.cons (.ite (.cmp .NotEq (.call 122 (.cons (.var 9) (.cons (.var 8) .nil))) (.tup (.cons (.con (.str (Str.ofString "told"))) (.cons (.con .non) .nil)))) (.cons (.ret (.con (.bl false))) .nil) .nil) .nil)) (.cons (.ret (.cmp .Eq (.call 119 (.cons (.var 9) .nil)) (.var 2))) .nil))))))))))))⟩
def ir_law_k54 : FDef := ⟨1, 8, (.cons (.set (.one 1) (.call 7 (.cons (.call 4 (.cons (.var 0) (.cons (.con (.int (0))) .nil))) (.cons (.con (.int (1))) .nil)))) (.cons (.set (.one 1) (.bin .Add (.bin .Add (.sli (.var 1) .no (.is (.con (.int (2))))) (.tup (.cons (.blt .max2 (.cons (.con (.int (2))) (.cons (.idx (.var 1) (.con (.int (2)))) .nil))) .nil))) (.sli (.var 1) (.is (.con (.int (3)))) .no))) (.cons (.set (.one 2) (.make 6 (.cons (.var 1) .nil))) (.cons (.set (.one 3) (.call 8 (.cons (.var 1) (.cons (.call 4 (.cons (.var 0) (.cons (.con (.int (1))) .nil))) .nil)))) (.cons (.set (.one 4) (.tup (.cons (.sli (.var 3) .no (.is (.neg (.con (.int (1)))))) (.cons (.bin .Add (.var 3) (.tup (.cons (.con (.int (1))) .nil))) (.cons (.blt .list (.cons (.var 3) .nil)) (.cons (.con .non) (.cons (.bin .Add (.sli (.var 3) .no (.is (.neg (.con (.int (1)))))) (.tup (.cons (.con (.int (9))) .nil))) (.cons (.bin .Add (.tup (.cons (.con (.int (0))) .nil)) (.sli (.var 3) (.is (.con (.int (1)))) .no)) (.cons (.bin .Mult (.tup (.cons (.con (.bl true)) .nil)) (.blt .len (.cons (.var 3) .nil))) (.cons (.con (.str (Str.ofString "all"))) .nil)))))))))) (.cons (.for (.one 5) (.seq (.var 4)) (.cons (.ite (.cmp .NotEq (.told (.meth (Str.ofString "keep") (.var 2) (.cons (.var 5) .nil))) (.tup (.cons (.con (.str (Str.ofString "refused"))) (.cons (.con (.int (1))) .nil)))) (.cons (.ret (.con (.bl false))) .nil) .nil) (.cons (.ite (.or (.cmp .NotEq (.told (.meth (Str.ofString "throw") (.var 2) (.cons (.var 5) .nil))) (.tup (.cons (.con (.str (Str.ofString "refused"))) (.cons (.con (.int (2))) .nil)))) (.cmp .NotEq (.call 119 (.cons (.var 2) .nil)) (.tup (.cons (.con .non) (.cons (.con (.int (0))) (.cons (.con (.bl false)) .nil)))))) (.cons (.ret (.con (.bl false))) .nil) .nil) .nil))) (.cons (.ite (.cmp .NotEq (.told (.meth (Str.ofString "fill") (.var 2) (.cons (.con (.int (0))) .nil))) (.tup (.cons (.con (.str (Str.ofString "refused"))) (.cons (.con (.int (1))) .nil)))) (.cons (.ret (.con (.bl false))) .nil) .nil) (.cons (.ite (.cmp .NotEq (.told (.meth (Str.ofString "throw") (.var 2) (.cons (.var 3) .nil))) (.tup (.cons (.con (.str (Str.ofString "told"))) (.cons (.con .non) .nil)))) (.cons (.ret (.con (.bl false))) .nil) .nil) (.cons (.set (.one 6) (.call 119 (.cons (.var 2) .nil))) (.cons (.for (.one 5) (.seq (.var 4)) (.cons (.ite (.or (.cmp .NotEq (.told (.meth (Str.ofString "throw") (.var 2) (.cons (.var 5) .nil))) (.tup (.cons (.con (.str (Str.ofString "refused"))) (.cons (.con (.int (1))) .nil)))) (.cmp .NotEq (.call 119 (.cons (.var 2) .nil)) (.var 6))) (.cons (.ret (.con (.bl false))) .nil) .nil) (.cons (.ite (.and (.cmp .NotEq (.var 5) (.sli (.var 3) .no (.is (.neg (.con (.int (1))))))) (.cmp .NotEq (.told (.meth (Str.ofString "keep") (.var 2) (.cons (.var 5) .nil))) (.tup (.cons (.con (.str (Str.ofString "refused"))) (.cons (.con (.int (2))) .nil))))) (.cons (.ret (.con (.bl false))) .nil) .nil) .nil))) (.cons (.ite (.cmp .NotEq (.told (.meth (Str.ofString "keep") (.var 2) (.cons (.var 3) .nil))) (.tup (.cons (.con (.str (Str.ofString "told"))) (.cons (.con .non) .nil)))) (.cons (.ret (.con (.bl false))) .nil) .nil) (.cons (.for (.one 5) (.seq (.bin .Add (.var 4) (.tup (.cons (.var 3) .nil)))) (.cons (.ite (.cmp .NotEq (.told (.meth (Str.ofString "keep") (.var 2) (.cons (.var 5) .nil))) (.tup (.cons (.con (.str (Str.ofString "refused"))) (.cons (.con (.int (1))) .nil)))) (.cons (.ret (.con (.bl false))) .nil) .nil) (.cons (.ite (.and (.cmp .NotEq (.var 5) (.var 3)) (.cmp .NotEq (.told (.meth (Str.ofString "throw") (.var 2) (.cons (.var 5) .nil))) (.tup (.cons (.con (.str (Str.ofString "refused"))) (.cons (.con (.int (2))) .nil))))) (.cons (.ret (.con (.bl false))) .nil) .nil) .nil))) (.cons (.for (.one 7) (.rng1 (.bin .Add (.blt .len (.cons (.idx (.var 1) (.con (.int (3)))) .nil)) (.con (.int (1))))) (.cons (.ite (.cmp .NotEq (.told (.meth (Str.ofString "fill") (.var 2) (.cons (.var 7) .nil))) (.tup (.cons (.con (.str (Str.ofString "refused"))) (.cons (.con (.int (1))) .nil)))) (.cons (.ret (.con (.bl false))) .nil) .nil) .nil)) (.cons (.ret (.and (.cmp .Eq (.told (.meth (Str.ofString "throw") (.var 2) (.cons (.var 3) .nil))) (.tup (.cons (.con (.str (Str.ofString "told"))) (.cons (.con .non) .nil)))) (.cmp .Eq (.idx (.meth (Str.ofString "stand") (.var 2) .nil) (.con (.int (1)))) (.bin .Sub (.idx (.var 1) (.con (.int (2)))) (.con (.int (2))))))) .nil))))))))))))))⟩
def ir__law_all_asked : FDef := ⟨2, 6, (.cons (.set (.one 2) (.idx (.var 1) (.con (.int (2))))) (.cons (.set (.one 3) (.lst (.cons (.call 45 (.cons (.var 2) .nil)) (.cons (.call 46 (.cons (.var 0) (.cons (.sli (.var 2) .no (.is (.con (.int (1))))) .nil))) (.cons (.call 44 (.cons (.idx (.var 0) (.con (.int (0)))) (.cons (.idx (.var 0) (.con (.int (1)))) .nil))) (.cons (.call 39 (.cons (.idx (.idx (.var 0) (.con (.int (3)))) (.con (.int (0)))) (.cons (.var 2) .nil))) .nil)))))) (.cons (.set (.one 3) (.bin .Add (.var 3) (.lst (.cons (.call 2 (.cons (.var 0) .nil)) (.cons (.call 1 (.cons (.idx (.idx (.var 0) (.con (.int (3)))) (.con (.int (0)))) .nil)) (.cons (.call 23 (.cons (.call 18 (.cons (.var 0) .nil)) .nil)) (.cons (.call 58 (.cons (.var 0) (.cons (.var 1) .nil))) .nil))))))) (.cons (.set (.one 3) (.bin .Add (.var 3) (.lc false [5] (.one 5) (.seq (.call 58 (.cons (.var 0) (.cons (.var 1) .nil)))) (.con (.bl true)) (.call 60 (.cons (.var 0) (.cons (.var 1) (.cons (.var 5) .nil))))))) (.cons (.set (.one 4) (.call 97 (.cons (.var 0) .nil))) (.cons (.set (.one 3) (.bin .Add (.var 3) (.lst (.cons (.call 69 (.cons (.var 0) (.cons (.var 1) .nil))) (.cons (.call 71 (.cons (.var 0) (.cons (.idx (.var 1) (.con (.int (0)))) .nil))) (.cons (.call 89 (.cons (.var 0) (.cons (.var 4) .nil))) (.cons (.call 92 (.cons (.var 0) (.cons (.var 4) .nil))) .nil))))))) (.cons (.ret (.bin .Add (.var 3) (.lst (.cons (.call 91 (.cons (.var 0) (.cons (.var 4) .nil))) (.cons (.call 79 (.cons (.var 0) (.cons (.con (.int (5))) .nil))) (.cons (.call 78 (.cons (.var 0) (.cons (.con (.int (9))) (.cons (.con (.int (2))) (.cons (.var 1) .nil))))) .nil)))))) .nil)))))))⟩
def ir_law_k60 : FDef := ⟨1, 8, (.cons (.set (.many [4, 5]) (.tup (.cons (.call 80 (.cons (.call 4 (.cons (.var 0) (.cons (.con (.int (0))) .nil))) .nil)) (.cons (.call 80 (.cons (.call 4 (.cons (.var 0) (.cons (.con (.int (1))) .nil))) .nil)) .nil)))) (.cons (.set (.many [6, 7]) (.tup (.cons (.call 9 (.cons (.var 4) (.cons (.call 4 (.cons (.var 0) (.cons (.con (.int (2))) .nil))) .nil))) (.cons (.call 9 (.cons (.var 5) (.cons (.call 4 (.cons (.var 0) (.cons (.con (.int (3))) .nil))) .nil))) .nil)))) (.cons (.set (.one 1) (.blt .repr (.cons (.tup (.cons (.var 4) (.cons (.var 6) (.cons (.var 5) (.cons (.var 7) .nil))))) .nil))) (.cons (.set (.one 2) (.call 126 (.cons (.var 4) (.cons (.var 6) .nil)))) (.cons (.set (.one 3) (.call 126 (.cons (.var 5) (.cons (.var 7) .nil)))) (.cons (.ite (.or (.cmp .NotEq (.call 126 (.cons (.var 4) (.cons (.var 6) .nil))) (.var 2)) (.cmp .NotEq (.call 126 (.cons (.var 5) (.cons (.var 7) .nil))) (.var 3))) (.cons (.ret (.con (.bl false))) .nil) .nil) (.cons (.ret (.cmp .Eq (.blt .repr (.cons (.tup (.cons (.var 4) (.cons (.var 6) (.cons (.var 5) (.cons (.var 7) .nil))))) .nil)) (.var 1))) .nil)))))))⟩
def ir_Worths___init__ : FDef := ⟨2, 2, (.cons (.fld (.var 0) (Str.ofString "game") (.var 1)) (.cons (.fld (.var 0) (Str.ofString "known") (.dct .nil)) .nil))⟩
def ir_Worths_of_move : FDef := ⟨3, 7, (.cons (.set (.many [3, 4]) (.call 60 (.cons (.fld (.var 0) (Str.ofString "game")) (.cons (.var 1) (.cons (.var 2) .nil))))) (.cons (.ret (.call 65 (.cons (.tup (.cons (.var 3) (.cons (.con (.int (1))) .nil))) (.cons (.call 68 (.cons (.lc false [5, 6] (.many [5, 6]) (.seq (.var 4)) (.con (.bl true)) (.call 66 (.cons (.var 6) (.cons (.meth (Str.ofString "of_stand") (.var 0) (.cons (.var 5) .nil)) .nil)))) .nil)) .nil)))) .nil))⟩
def ir_Worths_of_stand : FDef := ⟨2, 2, (.cons (.ret (.idx (.meth (Str.ofString "known_of") (.var 0) (.cons (.var 1) .nil)) (.con (.int (0))))) .nil)⟩
def ir_Worths_known_of : FDef := ⟨2, 5, (.cons (.ite (.cmp .NotIn (.var 1) (.fld (.var 0) (Str.ofString "known"))) (.cons (.set (.one 2) (.con .non)) (.cons (.for (.one 3) (.seq (.call 58 (.cons (.fld (.var 0) (Str.ofString "game")) (.cons (.var 1) .nil)))) (.cons (.set (.one 4) (.meth (Str.ofString "of_move") (.var 0) (.cons (.var 1) (.cons (.var 3) .nil)))) (.cons (.ite (.or (.cmp .Is (.var 2) (.con .non)) (.call 67 (.cons (.idx (.var 2) (.con (.int (0)))) (.cons (.var 4) .nil)))) (.cons (.set (.one 2) (.tup (.cons (.var 4) (.cons (.var 3) .nil)))) .nil) .nil) .nil))) (.cons (.put (.fld (.var 0) (Str.ofString "known")) (.var 1) (.var 2)) .nil))) .nil) (.cons (.ret (.idx (.fld (.var 0) (Str.ofString "known")) (.var 1))) .nil))⟩
def ir_Chances___init__ : FDef := ⟨2, 2, (.cons (.fld (.var 0) (Str.ofString "game") (.var 1)) (.cons (.fld (.var 0) (Str.ofString "known") (.dct .nil)) .nil))⟩
def ir_Chances_of_move : FDef := ⟨4, 8, (.cons (.set (.many [4, 5]) (.call 60 (.cons (.fld (.var 0) (Str.ofString "game")) (.cons (.var 2) (.cons (.var 3) .nil))))) (.cons (.ite (.cmp .Eq (.blt .len (.cons (.var 5) .nil)) (.con (.int (0)))) (.cons (.ret (.tup (.cons (.blt .int (.cons (.cmp .GtE (.var 4) (.var 1)) .nil)) (.cons (.con (.int (1))) .nil)))) .nil) .nil) (.cons (.ret (.call 68 (.cons (.lc false [6, 7] (.many [6, 7]) (.seq (.var 5)) (.con (.bl true)) (.call 66 (.cons (.var 7) (.cons (.idx (.meth (Str.ofString "known_of") (.var 0) (.cons (.bin .Sub (.var 1) (.var 4)) (.cons (.var 6) .nil))) (.con (.int (0)))) .nil)))) .nil))) .nil)))⟩
def ir_Chances_known_of : FDef := ⟨3, 6, (.cons (.ite (.cmp .NotIn (.tup (.cons (.var 1) (.cons (.var 2) .nil))) (.fld (.var 0) (Str.ofString "known"))) (.cons (.set (.one 3) (.con .non)) (.cons (.for (.one 4) (.seq (.call 58 (.cons (.fld (.var 0) (Str.ofString "game")) (.cons (.var 2) .nil)))) (.cons (.set (.one 5) (.meth (Str.ofString "of_move") (.var 0) (.cons (.var 1) (.cons (.var 2) (.cons (.var 4) .nil))))) (.cons (.ite (.or (.cmp .Is (.var 3) (.con .non)) (.call 67 (.cons (.idx (.var 3) (.con (.int (0)))) (.cons (.var 5) .nil)))) (.cons (.set (.one 3) (.tup (.cons (.var 5) (.cons (.var 4) .nil)))) .nil) .nil) .nil))) (.cons (.put (.fld (.var 0) (Str.ofString "known")) (.tup (.cons (.var 1) (.cons (.var 2) .nil))) (.var 3)) .nil))) .nil) (.cons (.ret (.idx (.fld (.var 0) (Str.ofString "known")) (.tup (.cons (.var 1) (.cons (.var 2) .nil))))) .nil))⟩
def ir_Table___init__ : FDef := ⟨2, 2, (.cons (.fld (.var 0) (Str.ofString "game") (.var 1)) (.cons (.fld (.var 0) (Str.ofString "boxes") (.call 77 (.cons (.var 1) .nil))) (.cons (.fld (.var 0) (Str.ofString "left") (.con (.int (0)))) (.cons (.fld (.var 0) (Str.ofString "dice") (.con .non)) (.cons (.fld (.var 0) (Str.ofString "kept") (.con .non)) (.cons (.fld (.var 0) (Str.ofString "won") (.con (.int (0)))) (.cons (.fld (.var 0) (Str.ofString "past") (.lstM .nil)) .nil)))))))⟩
def ir_Table_keep_past : FDef := ⟨1, 1, (.cons (.exp (.mth .append (.fld (.var 0) (Str.ofString "past")) (.cons (.tup (.cons (.fld (.var 0) (Str.ofString "boxes")) (.cons (.fld (.var 0) (Str.ofString "left")) (.cons (.fld (.var 0) (Str.ofString "dice")) (.cons (.fld (.var 0) (Str.ofString "kept")) (.cons (.fld (.var 0) (Str.ofString "won")) .nil)))))) .nil))) .nil)⟩
def ir_Table_throw : FDef := ⟨2, 2, (.cons (.ite (.or (.and (.cmp .Is (.fld (.var 0) (Str.ofString "dice")) (.con .non)) (.cmp .Eq (.blt .len (.cons (.fld (.var 0) (Str.ofString "boxes")) .nil)) (.con (.int (0))))) (.and (.cmp .IsNot (.fld (.var 0) (Str.ofString "dice")) (.con .non)) (.cmp .Is (.fld (.var 0) (Str.ofString "kept")) (.con .non)))) (.cons (.raise 1) .nil) .nil) (.cons (.ite (.or (.not (.call 109 (.cons (.var 1) (.cons (.idx (.fld (.var 0) (Str.ofString "game")) (.con (.int (1)))) .nil)))) (.cmp .NotEq (.blt .len (.cons (.var 1) .nil)) (.idx (.fld (.var 0) (Str.ofString "game")) (.con (.int (0)))))) (.cons (.raise 2) .nil) .nil) (.cons (.ite (.and (.cmp .IsNot (.fld (.var 0) (Str.ofString "kept")) (.con .non)) (.not (.call 108 (.cons (.fld (.var 0) (Str.ofString "kept")) (.cons (.var 1) .nil))))) (.cons (.raise 2) .nil) .nil) (.cons (.exp (.meth (Str.ofString "keep_past") (.var 0) .nil)) (.cons (.ite (.cmp .Is (.fld (.var 0) (Str.ofString "dice")) (.con .non)) (.cons (.fld (.var 0) (Str.ofString "left") (.bin .Sub (.idx (.fld (.var 0) (Str.ofString "game")) (.con (.int (2)))) (.con (.int (1))))) .nil) (.cons (.fld (.var 0) (Str.ofString "left") (.bin .Sub (.fld (.var 0) (Str.ofString "left")) (.con (.int (1))))) .nil)) (.cons (.fld (.var 0) (Str.ofString "dice") (.var 1)) (.cons (.fld (.var 0) (Str.ofString "kept") (.con .non)) .nil)))))))⟩
def ir_Table_keep : FDef := ⟨2, 2, (.cons (.ite (.or (.cmp .Is (.fld (.var 0) (Str.ofString "dice")) (.con .non)) (.or (.cmp .Eq (.fld (.var 0) (Str.ofString "left")) (.con (.int (0)))) (.cmp .IsNot (.fld (.var 0) (Str.ofString "kept")) (.con .non)))) (.cons (.raise 1) .nil) .nil) (.cons (.ite (.or (.not (.call 109 (.cons (.var 1) (.cons (.idx (.fld (.var 0) (Str.ofString "game")) (.con (.int (1)))) .nil)))) (.not (.call 108 (.cons (.var 1) (.cons (.fld (.var 0) (Str.ofString "dice")) .nil))))) (.cons (.raise 2) .nil) .nil) (.cons (.exp (.meth (Str.ofString "keep_past") (.var 0) .nil)) (.cons (.fld (.var 0) (Str.ofString "kept") (.var 1)) .nil))))⟩
def ir_Table_fill : FDef := ⟨2, 3, (.cons (.ite (.or (.cmp .Is (.fld (.var 0) (Str.ofString "dice")) (.con .non)) (.or (.cmp .IsNot (.fld (.var 0) (Str.ofString "kept")) (.con .non)) (.cmp .NotIn (.var 1) (.fld (.var 0) (Str.ofString "boxes"))))) (.cons (.raise 1) .nil) .nil) (.cons (.exp (.meth (Str.ofString "keep_past") (.var 0) .nil)) (.cons (.fld (.var 0) (Str.ofString "won") (.bin .Add (.fld (.var 0) (Str.ofString "won")) (.call 39 (.cons (.idx (.idx (.fld (.var 0) (Str.ofString "game")) (.con (.int (3)))) (.var 1)) (.cons (.fld (.var 0) (Str.ofString "dice")) .nil))))) (.cons (.fld (.var 0) (Str.ofString "boxes") (.blt .tuple (.cons (.lc false [2] (.one 2) (.seq (.fld (.var 0) (Str.ofString "boxes"))) (.cmp .NotEq (.var 2) (.var 1)) (.var 2)) .nil))) (.cons (.fld (.var 0) (Str.ofString "dice") (.con .non)) .nil)))))⟩
def ir_Table_back : FDef := ⟨1, 2, (.cons (.ite (.cmp .Eq (.blt .len (.cons (.fld (.var 0) (Str.ofString "past")) .nil)) (.con (.int (0)))) (.cons (.raise 1) .nil) .nil) (.cons (.set (.one 1) (.mth .pop (.fld (.var 0) (Str.ofString "past")) .nil)) (.cons (.fld (.var 0) (Str.ofString "boxes") (.idx (.var 1) (.con (.int (0))))) (.cons (.fld (.var 0) (Str.ofString "left") (.idx (.var 1) (.con (.int (1))))) (.cons (.fld (.var 0) (Str.ofString "dice") (.idx (.var 1) (.con (.int (2))))) (.cons (.fld (.var 0) (Str.ofString "kept") (.idx (.var 1) (.con (.int (3))))) (.cons (.fld (.var 0) (Str.ofString "won") (.idx (.var 1) (.con (.int (4))))) .nil)))))))⟩
def ir_Table_stand : FDef := ⟨1, 1, (.cons (.ite (.or (.cmp .Is (.fld (.var 0) (Str.ofString "dice")) (.con .non)) (.cmp .IsNot (.fld (.var 0) (Str.ofString "kept")) (.con .non))) (.cons (.ret (.con .non)) .nil) .nil) (.cons (.ret (.tup (.cons (.fld (.var 0) (Str.ofString "boxes")) (.cons (.fld (.var 0) (Str.ofString "left")) (.cons (.fld (.var 0) (Str.ofString "dice")) .nil))))) .nil))⟩
def ir_Table_had : FDef := ⟨1, 1, (.cons (.ret (.fld (.var 0) (Str.ofString "won"))) .nil)⟩
def ir_Table_over : FDef := ⟨1, 1, (.cons (.ret (.cmp .Eq (.blt .len (.cons (.fld (.var 0) (Str.ofString "boxes")) .nil)) (.con (.int (0))))) .nil)⟩
def gfn : Nat → Option FDef
  | 0 => some ir_is_whole
  | 1 => some ir_is_box
  | 2 => some ir_is_game
  | 3 => some ir__law_cell_at
  | 4 => some ir__law_mixed
  | 5 => some ir__law_drawn
  | 6 => some ir__law_box
  | 7 => some ir__law_game
  | 8 => some ir__law_dice
  | 9 => some ir__law_stand
  | 10 => some ir__law_from
  | 11 => some ir__law_is_box
  | 12 => some ir__law_is_game
  | 13 => some ir__law_odd
  | 14 => some ir__law_spoilt
  | 15 => some ir_law_k01
  | 16 => some ir_of_many
  | 17 => some ir_box_text
  | 18 => some ir_written
  | 19 => some ir__law_text
  | 20 => some ir_law_k02
  | 21 => some ir_number_of
  | 22 => some ir_box_of
  | 23 => some ir_read
  | 25 => some ir__law_changed
  | 26 => some ir__law_number_in
  | 27 => some ir__law_due
  | 28 => some ir_law_k03
  | 29 => some ir_law_k04
  | 30 => some ir__law_bent
  | 31 => some ir_law_k05
  | 32 => some ir__law_places_in
  | 34 => some ir__law_otherwise
  | 36 => some ir__law_once
  | 37 => some ir_law_k09
  | 38 => some ir_has_run
  | 39 => some ir_points
  | 40 => some ir__law_points
  | 41 => some ir_law_k10
  | 42 => some ir_plain
  | 43 => some ir_counted
  | 44 => some ir_throws_of
  | 45 => some ir_keeps
  | 46 => some ir_after
  | 47 => some ir__law_plain
  | 48 => some ir__law_sum
  | 49 => some ir__law_throws
  | 50 => some ir__law_keeps
  | 51 => some ir_law_k11
  | 52 => some ir__law_some
  | 53 => some ir_law_k12
  | 54 => some ir_law_k13
  | 55 => some ir__law_left
  | 56 => some ir_law_k14
  | 57 => some ir_law_k15
  | 58 => some ir_moves
  | 59 => some ir_begins
  | 60 => some ir_comes
  | 61 => some ir__law_moves
  | 62 => some ir__law_begins
  | 63 => some ir__law_comes
  | 64 => some ir_law_k20
  | 65 => some ir_plus
  | 66 => some ir_times
  | 67 => some ir_is_less
  | 68 => some ir_total
  | 69 => some ir_worth
  | 70 => some ir_best
  | 71 => some ir_worth_of
  | 72 => some ir__law_worth
  | 73 => some ir_law_k21
  | 74 => some ir__law_above
  | 75 => some ir__law_dearer
  | 76 => some ir_law_k22
  | 77 => some ir_all_boxes
  | 78 => some ir_goal_chance
  | 79 => some ir_chance
  | 80 => some ir__law_little
  | 81 => some ir_law_k23
  | 82 => some ir__law_made
  | 83 => some ir_law_k24
  | 84 => some ir_first_stands
  | 85 => some ir_is_row
  | 86 => some ir_is_stand
  | 87 => some ir_is_move
  | 88 => some ir_book_of
  | 89 => some ir_is_plan
  | 90 => some ir_stand_ends
  | 91 => some ir_ends
  | 92 => some ir_plan_worth
  | 93 => some ir__law_drawn_plan
  | 94 => some ir__law_ends
  | 95 => some ir__law_is_plan
  | 96 => some ir_law_k30
  | 97 => some ir_plan_for
  | 98 => some ir_law_k31
  | 99 => some ir_law_k32
  | 100 => some ir_goal_move
  | 101 => some ir__law_chance
  | 102 => some ir__law_by
  | 103 => some ir_law_k40
  | 104 => some ir__law_most
  | 105 => some ir_law_k41
  | 106 => some ir__law_made_k42
  | 107 => some ir_law_k42
  | 108 => some ir_is_some
  | 109 => some ir_are_dice
  | 110 => some ir__law_drawn_dice
  | 111 => some ir__law_are
  | 112 => some ir__law_some_k50
  | 113 => some ir__law_throw
  | 114 => some ir__law_keep
  | 115 => some ir__law_fill
  | 116 => some ir__law_stand_of
  | 117 => some ir_law_k50
  | 118 => some ir_law_k51
  | 119 => some ir__law_shown
  | 120 => some ir__law_deed
  | 121 => some ir_law_k52
  | 122 => some ir__law_do
  | 123 => some ir__law_deeds
  | 124 => some ir_law_k53
  | 125 => some ir_law_k54
  | 126 => some ir__law_all_asked
  | 127 => some ir_law_k60
  | 128 => some ir_Worths___init__
  | 129 => some ir_Worths_of_move
  | 130 => some ir_Worths_of_stand
  | 131 => some ir_Worths_known_of
  | 132 => some ir_Chances___init__
  | 133 => some ir_Chances_of_move
  | 134 => some ir_Chances_known_of
  | 135 => some ir_Table___init__
  | 136 => some ir_Table_keep_past
  | 137 => some ir_Table_throw
  | 138 => some ir_Table_keep
  | 139 => some ir_Table_fill
  | 140 => some ir_Table_back
  | 141 => some ir_Table_stand
  | 142 => some ir_Table_had
  | 143 => some ir_Table_over
  | _ => none
def gmeth : Nat → Str → Option Nat
  | 4 => fun m => List.lookup m [("of_move", 129), ("of_stand", 130), ("known_of", 131)]
  | 5 => fun m => List.lookup m [("of_move", 133), ("known_of", 134)]
  | 6 => fun m => List.lookup m [("keep_past", 136), ("throw", 137), ("keep", 138), ("fill", 139), ("back", 140), ("stand", 141), ("had", 142), ("over", 143)]
  | _ => fun _ => none
def ginit : Nat → Option Nat
  | 4 => some 128
  | 5 => some 132
  | 6 => some 135
  | _ => none
def G : Prg := ⟨gfn, gmeth, ginit, 100000⟩
end EV
namespace K14
open PySem PySem.Spec PyProof.Rows L2 EV
def top (i : Nat) : Stmt := PySem.Challenge.pw_diceboxes_k14_whole_dice_kept.main.body.getD i (.Pass ⟨0, 0, 0, 0⟩)
def d45 : DefS := mkDef "keeps" (top 1) ["dice"] ["dice", "found", "die", "some"] [] []
def d3 : DefS := mkDef "_law_cell_at" (top 3) ["script", "k"] ["script", "k"] [] []
def d4 : DefS := mkDef "_law_mixed" (top 4) ["script", "k"] ["script", "k", "drawn"] [] []
def d5 : DefS := mkDef "_law_drawn" (top 5) ["number", "k"] ["number", "k", "drawn"] [] []
def d6 : DefS := mkDef "_law_box" (top 6) ["number"] ["number", "kind", "some"] [] []
def d7 : DefS := mkDef "_law_game" (top 7) ["number", "great"] ["number", "great", "many", "sides", "throws", "boxes", "k"] [] []
def d8 : DefS := mkDef "_law_dice" (top 8) ["game", "number"] ["game", "number", "k"] [] []
def d55 : DefS := mkDef "_law_left" (top 9) ["dice", "some"] ["dice", "some", "rest", "one"] ["rest"] []
def d56 : DefS := mkDef "law" (top 10) ["script"] ["script", "game", "dice", "found", "many", "n", "some", "one"] [] []
def defs : Defs := [(45, d45), (3, d3), (4, d4), (5, d5), (6, d6), (7, d7), (8, d8), (55, d55), (56, d56)]
def free : List Str := ["len", "list", "min", "range", "set", "sorted", "tuple"]
def nums : List (Str × Lt) := []
def kl : Kls := ⟨[], [], [], [], []⟩
def ts : List Str := []

theorem c45 : d45.comp (fnOfD defs) free nums kl 60 = some ir_keeps := by kernel_rfl
theorem c3 : d3.comp (fnOfD defs) free nums kl 60 = some ir__law_cell_at := by kernel_rfl
theorem c4 : d4.comp (fnOfD defs) free nums kl 60 = some ir__law_mixed := by kernel_rfl
theorem c5 : d5.comp (fnOfD defs) free nums kl 60 = some ir__law_drawn := by kernel_rfl
theorem c6 : d6.comp (fnOfD defs) free nums kl 60 = some ir__law_box := by kernel_rfl
theorem c7 : d7.comp (fnOfD defs) free nums kl 60 = some ir__law_game := by kernel_rfl
theorem c8 : d8.comp (fnOfD defs) free nums kl 60 = some ir__law_dice := by kernel_rfl
theorem c55 : d55.comp (fnOfD defs) free nums kl 60 = some ir__law_left := by kernel_rfl
theorem c56 : d56.comp (fnOfD defs) free nums kl 60 = some ir_law_k14 := by kernel_rfl
theorem hG : ∀ p ∈ defs, ∀ fdef : FDef, G.fn p.1 = some fdef → p.2.comp (fnOfD defs) free nums kl 60 = some fdef := by
  intro p hp
  simp only [defs, List.mem_cons, List.mem_nil_iff, or_false] at hp
  rcases hp with rfl | rfl | rfl | rfl | rfl | rfl | rfl | rfl | rfl
  · intro fdef h; cases h; exact c45
  · intro fdef h; cases h; exact c3
  · intro fdef h; cases h; exact c4
  · intro fdef h; cases h; exact c5
  · intro fdef h; cases h; exact c6
  · intro fdef h; cases h; exact c7
  · intro fdef h; cases h; exact c8
  · intro fdef h; cases h; exact c55
  · intro fdef h; cases h; exact c56
theorem hs : ∀ p ∈ defs, p.2.scopeC = true := by
  intro p hp
  simp only [defs, List.mem_cons, List.mem_nil_iff, or_false] at hp
  rcases hp with rfl | rfl | rfl | rfl | rfl | rfl | rfl | rfl | rfl <;> decide +kernel
theorem hn : ∀ p ∈ defs, dlOf defs p.1 = some p.2 := by
  intro p hp
  simp only [defs, List.mem_cons, List.mem_nil_iff, or_false] at hp
  rcases hp with rfl | rfl | rfl | rfl | rfl | rfl | rfl | rfl | rfl <;> rfl
theorem b45 : d45.BindOk := fun _ _ _ _ _ _ us hl => match us, hl with | [_], _ => rfl
theorem b3 : d3.BindOk := fun _ _ _ _ _ _ us hl => match us, hl with | [_, _], _ => rfl
theorem b4 : d4.BindOk := fun _ _ _ _ _ _ us hl => match us, hl with | [_, _], _ => rfl
theorem b5 : d5.BindOk := fun _ _ _ _ _ _ us hl => match us, hl with | [_, _], _ => rfl
theorem b6 : d6.BindOk := fun _ _ _ _ _ _ us hl => match us, hl with | [_], _ => rfl
theorem b7 : d7.BindOk := fun _ _ _ _ _ _ us hl => match us, hl with | [_, _], _ => rfl
theorem b8 : d8.BindOk := fun _ _ _ _ _ _ us hl => match us, hl with | [_, _], _ => rfl
theorem b55 : d55.BindOk := fun _ _ _ _ _ _ us hl => match us, hl with | [_, _], _ => rfl
theorem b56 : d56.BindOk := fun _ _ _ _ _ _ us hl => match us, hl with | [_], _ => rfl
theorem hb : ∀ p ∈ defs, p.2.BindOk := by
  intro p hp
  simp only [defs, List.mem_cons, List.mem_nil_iff, or_false] at hp
  rcases hp with rfl | rfl | rfl | rfl | rfl | rfl | rfl | rfl | rfl
  · exact b45
  · exact b3
  · exact b4
  · exact b5
  · exact b6
  · exact b7
  · exact b8
  · exact b55
  · exact b56
theorem hkl : KlOk defs kl G := by
  refine ⟨?_, ?_, ?_⟩
  · intro p hp
    simp only [kl, List.mem_cons, List.mem_nil_iff, or_false] at hp
  · intro p hp
    simp only [kl, List.mem_cons, List.mem_nil_iff, or_false] at hp
  · intro p hp m hm f h
    simp only [kl, List.mem_cons, List.mem_nil_iff, or_false] at hp hm
theorem hlm : LmOk defs free kl false ts := by
  refine ⟨?_, ?_⟩
  · intro p hp
    simp only [kl, List.mem_cons, List.mem_nil_iff, or_false] at hp
  · intro p hp hl
    simp only [defs, List.mem_cons, List.mem_nil_iff, or_false] at hp
    rcases hp with rfl | rfl | rfl | rfl | rfl | rfl | rfl | rfl | rfl
    · cases hl
    · cases hl
    · cases hl
    · cases hl
    · cases hl
    · cases hl
    · cases hl
    · cases hl
    · cases hl
theorem hgn : ∀ p ∈ defs, p.2.gd = true → p.2.cl = none ∧ kl.gn.contains p.2.x = true := by
  intro p hp hg
  simp only [defs, List.mem_cons, List.mem_nil_iff, or_false] at hp
  rcases hp with rfl | rfl | rfl | rfl | rfl | rfl | rfl | rfl | rfl
  · cases hg
  · cases hg
  · cases hg
  · cases hg
  · cases hg
  · cases hg
  · cases hg
  · cases hg
  · cases hg
theorem hc4 : ∀ p ∈ defs, p.2.lam = true → 4 ≤ 2 := by
  intro p hp hl
  simp only [defs, List.mem_cons, List.mem_nil_iff, or_false] at hp
  rcases hp with rfl | rfl | rfl | rfl | rfl | rfl | rfl | rfl | rfl <;> cases hl
abbrev fa : List He.Fa := faOf defs free nums kl
abbrev fnD : List He.DefD := defs.map fun p => p.2.toD
abbrev Rw : PySem.W.OpenRow := PySem.W.OpenLaw.row PySem.Challenge.rw_diceboxes_k14_whole_dice_kept
abbrev hk : PySem.W.Hook := hookX 4 fa fnD false ts
def ob (s : PySem.W.SharedT) : AlX := obsX 4 fa fnD false ts (HandSHeadRun.getT s)
theorem ob_eq (s : PySem.W.SharedT) : ob s = hk.obs s.abs := obsX_eq (HandSHeadRun.getT_eq s)
def loose : List Str := ["__name__", "keeps", "_law_cell_at", "_law_mixed", "_law_drawn", "_law_box", "_law_game", "_law_dice", "_law_left"]
theorem run (w : World) : HandSHeadRun.RunEq Rw (PySem.W.view Rw.prog [10]) hk ob 6000 loose w := by
  intro os
  kernel_rfl
end K14
open PySem PySem.W PySem.Calls PyProof.Rows in
theorem K14.holds (n : Nat) (hn : 2 * n ≤ 230) (hp : ∀ ns : List Int, ns.length ≤ 63 → ∃ st, EV.G.call n 56 [.scr ns] [] = .ok (.bl true) st) : PySem.Challenge.rw_diceboxes_k14_whole_dice_kept.Holds := by
  w_on; o_law
  refine HandSHeadRun.head_any (r := OpenLaw.row PySem.Challenge.rw_diceboxes_k14_whole_dice_kept) (q := view (OpenLaw.row PySem.Challenge.rw_diceboxes_k14_whole_dice_kept).prog [10]) (H := K14.hk) (ob := K14.ob) (M := 6000) (loose := K14.loose) (d := HandSHeadRun.topDef (OpenLaw.row PySem.Challenge.rw_diceboxes_k14_whole_dice_kept).prog 10) (kwd := []) K14.ob_eq
    (by kernel_rfl) (fun s => by kernel_rfl) K14.run (by kernel_rfl) (by kernel_rfl) (by kernel_rfl) (by rfl) (by first | assumption | decide +kernel) (by decide +kernel) ⟨rfl, rfl, rfl, rfl, rfl, by decide +kernel⟩ ?hw ?hc
  case hw => w_witness2
  case hc =>
    refine EV.walk_X (lw := PySem.Challenge.rw_diceboxes_k14_whole_dice_kept) (n := 63) (k := 2 * n) (x := "script") (CX := EV.cxAny (PySem.Challenge.rw_diceboxes_k14_whole_dice_kept).prog) rfl (by decide) (by kernel_rfl) (L2.Room.mono ⟨rfl, by decide, by decide⟩ hn) ?F EV.cxAny_no
    intro w mg fa h Y Gn hmg0
    obtain ⟨K, SX⟩ := Y
    have hmg : mg ("law" : PySem.Str) = some (.ref fa) := by
      have e : (HandSHeadRun.topDef (OpenLaw.row PySem.Challenge.rw_diceboxes_k14_whole_dice_kept).prog 10).name = ("law" : PySem.Str) := by kernel_rfl
      rw [← e]
      exact hmg0
    exact EV.law_of (kl := K14.kl) (fuel := 60) (f := 56) (d := K14.d56) (fun X' hc hu => EV.lib_ok X' _ hc hu) SX Gn K14.hb K14.hs K14.hn K14.hG K14.hkl K14.hlm K14.hgn rfl (c0 := 2) (by decide) K14.hc4 rfl rfl rfl hmg (by decide) hp
/-! Pu1: plain laws: what the laws' own small functions compute. -/
namespace EV
open PySem

/-! ### calls that keep the store -/
theorem keepN_self (st : Store) : keepN st.length st st = true := by simp [keepN]
@[simp] theorem backV_self (st : Store) (v : D) : backV st v st = .ok v st := by
  unfold backV
  split <;> simp
@[simp] theorem backR_rt (st : Store) (v : D) : backR st (.ok (.rt v) st) = .ok v st := backV_self st v
@[simp] theorem backR_err (st : Store) (k : Nat) : backR st (.err k st) = .err k st := by
  simp only [backR, backX]
  split <;> simp
theorem call_of {n f : Nat} {d : FDef} {args : List D} {st : Store} (h : G.fn f = some d) (ha : args.length = d.np) :
    G.call (n + 1) f args st = backR st (evSs (G.ctx n) d.body (args.map some ++ List.replicate (d.ns - d.np) none) st) := by
  rw [Prg.call_succ G n f args st h, FDef.run, if_pos ha]
/-! ### the evaluator's equations, but that of comprehensions -/
section
variable {C : Ctx} {env : Env} {st : Store}
@[simp] theorem e_var (i : Nat) : evE C (.var i) env st = match env[i]? with | some (some d) => .ok d st | _ => .bad := by rw [evE] <;> rfl
@[simp] theorem e_con (d : D) : evE C (.con d) env st = .ok d st := by rw [evE]
@[simp] theorem e_bin (op : Operator) (a b : E) : evE C (.bin op a b) env st = (evE C a env st).bind fun x st => (evE C b env st).bind fun y st => binD op x y st := by rw [evE]
@[simp] theorem e_cmp (op : CmpOp) (a b : E) : evE C (.cmp op a b) env st = (evE C a env st).bind fun x st => (evE C b env st).bind fun y st => cmpD op x y st := by rw [evE]
@[simp] theorem e_and (a b : E) : evE C (.and a b) env st = (evE C a env st).bind fun x st => match x with
    | .bl true => evE C b env st
    | .bl false => .ok (.bl false) st
    | _ => .bad := by rw [evE] <;> rfl
@[simp] theorem e_or (a b : E) : evE C (.or a b) env st = (evE C a env st).bind fun x st => match x with
    | .bl true => .ok (.bl true) st
    | .bl false => evE C b env st
    | _ => .bad := by rw [evE] <;> rfl
@[simp] theorem e_not (a : E) : evE C (.not a) env st = (evE C a env st).bind fun x st => match x with
    | .bl b => .ok (.bl (!b)) st
    | _ => .bad := by rw [evE] <;> rfl
@[simp] theorem e_neg (a : E) : evE C (.neg a) env st = (evE C a env st).bind fun x st => match x with
    | .int i => .ok (.int (-i)) st
    | _ => .bad := by rw [evE] <;> rfl
@[simp] theorem e_tup (es : Es) : evE C (.tup es) env st = (evEs C es env st).bind fun xs st => R.test (decide (xs.length ≤ 1000)) (.ok (.tup xs) st) := by rw [evE]
@[simp] theorem e_lst (es : Es) : evE C (.lst es) env st = (evEs C es env st).bind fun xs st => R.test (decide (xs.length ≤ 1000)) (.ok (.lst xs) st) := by rw [evE]
@[simp] theorem e_idx (a b : E) : evE C (.idx a b) env st = (evE C a env st).bind fun x st => (evE C b env st).bind fun y st => idxD x y st := by rw [evE]
@[simp] theorem e_sli (a : E) (l h : Po) : evE C (.sli a l h) env st = (evE C a env st).bind fun x st => (evP C l env st).bind fun l st => (evP C h env st).bind fun h st => sliD x l h st := by rw [evE]
@[simp] theorem e_rev (a : E) : evE C (.rev a) env st = (evE C a env st).bind fun x st => match x with
    | .lst xs => .ok (.lst xs.reverse) st
    | .tup xs => .ok (.tup xs.reverse) st
    | _ => .bad := by rw [evE] <;> rfl
@[simp] theorem e_stp (a : E) (l h : Po) (c : E) : evE C (.stp a l h c) env st = (evE C a env st).bind fun x st => (evP C l env st).bind fun l st => (evP C h env st).bind fun h st => (evE C c env st).bind fun k st => stpD x l h k st := by rw [evE]
@[simp] theorem e_lstM (es : Es) : evE C (.lstM es) env st = (evEs C es env st).bind fun xs st => R.test (decide (xs.length ≤ 1000)) (.ok (.ref st.length) (st ++ [.lst xs])) := by rw [evE]
@[simp] theorem e_dct (es : Es) : evE C (.dct es) env st = (evEs C es env (st ++ [.dic []])).bind fun xs st' => (R.of (pairUp xs) st').bind fun ps st' => match st'[st.length]? with
    | some (.dic []) => R.test (keysOk ps && decide (ps.length ≤ 15)) (.ok (.ref st.length) (st'.set st.length (.dic (dputs [] ps))))
    | _ => .bad := by rw [evE] <;> rfl
@[simp] theorem i_keys (e : E) : evI C (.keys e) env st = (evE C e env st).bind fun x st => keysIt x st := by rw [evI]
@[simp] theorem i_items (e : E) : evI C (.items e) env st = (evE C e env st).bind fun x st => itemsIt x st := by rw [evI]
@[simp] theorem i_enum (e : E) : evI C (.enum e) env st = (evE C e env st).bind fun x st => match x with
    | .tup xs => .ok (enumL 0 xs, .no) st
    | .lst xs => .ok (enumL 0 xs, .no) st
    | _ => .bad := by rw [evI] <;> rfl
@[simp] theorem s_putE (o k e : E) : evS C (.put o k e) env st = (evE C e env st).bind fun v st => (evE C o env st).bind fun x st => (evE C k env st).bind fun y st => match x with
    | .ref i => match st[i]? with
      | some (.dic kvs) => R.test (keyOk kvs y && decide (kvs.length < 1000000)) (.ok (.nx env) (st.set i (.dic (dput kvs y v))))
      | _ => .bad
    | _ => .bad := by rw [evS] <;> rfl
@[simp] theorem s_expE (e : E) : evS C (.exp e) env st = (evE C e env st).bind fun _ st => .ok (.nx env) st := by rw [evS]
@[simp] theorem s_retNE : evS C .retN env st = .ok (.rt .non) st := by rw [evS]
theorem s_forE (t : Tg) (it : It) (b : Ss) : evS C (.for t it b) env st = (evI C it env st).bind fun p st => p.2.out (forL p.2 t (evSs C b) p.1 env (p.2.lock st)) := by rw [evS]
theorem s_whlE (c : E) (b : Ss) : evS C (.whl c b) env st = whlL (evE C c) (evSs C b) C.wfuel env st := by rw [evS]
@[simp] theorem e_call (f : Nat) (es : Es) : evE C (.call f es) env st = (evEs C es env st).bind fun xs st => C.call f xs st := by rw [evE]
@[simp] theorem e_blt (f : Blt) (es : Es) : evE C (.blt f es) env st = (evEs C es env st).bind fun xs st => bltD f xs st := by rw [evE]
@[simp] theorem e_mth (m : Mth) (o : E) (es : Es) : evE C (.mth m o es) env st = (evE C o env st).bind fun x st => R.test (m.ok x st) ((evEs C es env st).bind fun xs st => mthD m x xs st) := by rw [evE]
@[simp] theorem es_nil : evEs C .nil env st = .ok [] st := by rw [evEs]
@[simp] theorem es_cons (e : E) (es : Es) : evEs C (.cons e es) env st = (evE C e env st).bind fun x st => (evEs C es env st).bind fun xs st => .ok (x :: xs) st := by rw [evEs]
@[simp] theorem p_no : evP C .no env st = .ok none st := by rw [evP]
@[simp] theorem p_is (e : E) : evP C (.is e) env st = (evE C e env st).bind fun x st => match x with
    | .int i => .ok (some i) st
    | _ => .bad := by rw [evP] <;> rfl
@[simp] theorem i_seq (e : E) : evI C (.seq e) env st = (evE C e env st).bind fun x st => seqIt x st := by rw [evI]
@[simp] theorem i_rng1 (e : E) : evI C (.rng1 e) env st = (evE C e env st).bind fun x st => rng2 (.int 0) x st := by rw [evI]
@[simp] theorem i_rng2 (a b : E) : evI C (.rng2 a b) env st = (evE C a env st).bind fun x st => (evE C b env st).bind fun y st => rng2 x y st := by rw [evI]
@[simp] theorem s_setE (t : Tg) (e : E) : evS C (.set t e) env st = (evE C e env st).bind fun x st => (R.of (asg t x env) st).bind fun env st => .ok (.nx env) st := by rw [evS]
@[simp] theorem s_retE (e : E) : evS C (.ret e) env st = (evE C e env st).bind fun v st => .ok (.rt v) st := by rw [evS]
@[simp] theorem s_iteE (c : E) (a b : Ss) : evS C (.ite c a b) env st = (evE C c env st).bind fun x st => match x with
    | .bl true => evSs C a env st
    | .bl false => evSs C b env st
    | _ => .bad := by rw [evS] <;> rfl
@[simp] theorem ss_nilE : evSs C .nil env st = .ok (.nx env) st := by rw [evSs]
@[simp] theorem ss_consE (s : S) (ss : Ss) : evSs C (.cons s ss) env st = (evS C s env st).bind fun f st => match f with
    | .nx env => evSs C ss env st
    | .rt v => .ok (.rt v) st
    | .bk env => .ok (.bk env) st
    | .ct env => .ok (.ct env) st := by rw [evSs] <;> rfl
end
theorem big1 (j : Int) (h : j.natAbs < 2 ^ 63) (i : Int) (st : Store) : binD .Mult (.int i) (.int j) st = .ok (.int (i * j)) st := by
  simp only [binD]
  simp [h]
theorem big0 (i : Int) (h : i.natAbs < 2 ^ 63) (j : Int) (st : Store) : binD .Mult (.int i) (.int j) st = .ok (.int (i * j)) st := by
  simp only [binD]
  simp [h]
theorem mod1 (i j : Int) (h : 0 < j) (st : Store) : binD .Mod (.int i) (.int j) st = .ok (.int (i % j)) st := by
  simp only [binD]
  simp [h]
theorem div1 (i j : Int) (h : 0 < j) (h2 : j < 2 ^ 63) (st : Store) : binD .FloorDiv (.int i) (.int j) st = .ok (.int (i / j)) st := by
  simp only [binD]
  have : j < 2 ^ 4000 := Int.lt_trans h2 (by decide +kernel)
  simp [h, this]
@[simp] theorem add1 (i j : Int) (st : Store) : binD .Add (.int i) (.int j) st = .ok (.int (i + j)) st := rfl
@[simp] theorem sub1 (i j : Int) (st : Store) : binD .Sub (.int i) (.int j) st = .ok (.int (i - j)) st := rfl
@[simp] theorem addL (a b : List D) (st : Store) : binD .Add (.lst a) (.lst b) st = R.test (decide (a.length + b.length ≤ lim)) (.ok (.lst (a ++ b)) st) := rfl
@[simp] theorem addT (a b : List D) (st : Store) : binD .Add (.tup a) (.tup b) st = R.test (decide (a.length + b.length ≤ lim)) (.ok (.tup (a ++ b)) st) := rfl
@[simp] theorem addS (a b : Str) (st : Store) : binD .Add (.str a) (.str b) st = R.test (decide (a.length + b.length ≤ lim)) (.ok (.str (a ++ b)) st) := rfl
theorem getAt_nat {α : Type} (xs : List α) (k : Nat) (h : k < xs.length) : getAt xs (k : Int) = some xs[k] := by
  simp [getAt, ix, h]
/-- script's number -/
def cellAt (ns : List Int) (k : Nat) : Int := ns.getD k 0
theorem p_cell (n : Nat) (ns : List Int) (k : Nat) (st : Store) : G.call (n + 1) 3 [.scr ns, .int k] st = .ok (.int (cellAt ns k)) st := by
  rw [call_of (d := ir__law_cell_at) rfl rfl]
  simp only [ir__law_cell_at]
  by_cases h : k < ns.length
  · simp [h, bltD, cmpD, seqOf, idxD, getAt_nat, cellAt]
  · simp [h, bltD, cmpD, seqOf, cellAt]
def mix1 (x : Int) (k : Nat) : Int := (x + 7919 * k + 1) * 48271 % 2147483647
def mixed (ns : List Int) (k : Nat) : Int := (mix1 (cellAt ns k) k * mix1 (cellAt ns k) k + 7 * mix1 (cellAt ns k) k + k) % 2147483629
theorem p_mixed (n : Nat) (ns : List Int) (k : Nat) (st : Store) : G.call (n + 2) 4 [.scr ns, .int k] st = .ok (.int (mixed ns k)) st := by
  rw [call_of (d := ir__law_mixed) rfl rfl]
  have hb : (mix1 (cellAt ns k) k).natAbs < 2 ^ 63 := by
    have h1 : 0 ≤ mix1 (cellAt ns k) k := Int.emod_nonneg _ (by decide)
    have h2 : mix1 (cellAt ns k) k < 2147483647 := Int.emod_lt_of_pos _ (by decide)
    omega
  simp only [ir__law_mixed]
  simp [p_cell, big1, big0, mod1, asg]
  rw [show ((cellAt ns k + 7919 * ↑k + 1) * 48271 % 2147483647) = mix1 (cellAt ns k) k from rfl, big0 _ hb]
  simp [mod1, mixed]
def drw1 (x : Int) (k : Nat) : Int := (x + 104729 * k + 17) * 69621 % 2147483647
def drawn (x : Int) (k : Nat) : Int := (drw1 x k * drw1 x k + 3 * drw1 x k + k) % 2147483629
theorem p_drawn (n : Nat) (x : Int) (k : Nat) (st : Store) : G.call (n + 1) 5 [.int x, .int k] st = .ok (.int (drawn x k)) st := by
  rw [call_of (d := ir__law_drawn) rfl rfl]
  have hb : (drw1 x k).natAbs < 2 ^ 63 := by
    have h1 : 0 ≤ drw1 x k := Int.emod_nonneg _ (by decide)
    have h2 : drw1 x k < 2147483647 := Int.emod_lt_of_pos _ (by decide)
    omega
  simp only [ir__law_drawn]
  simp [big1, big0, mod1, asg]
  rw [show ((x + 104729 * ↑k + 17) * 69621 % 2147483647) = drw1 x k from rfl, big0 _ hb]
  simp [mod1, drawn]
theorem drawn_nonneg (x : Int) (k : Nat) : 0 ≤ drawn x k := Int.emod_nonneg _ (by decide)
theorem mixed_nonneg (ns : List Int) (k : Nat) : 0 ≤ mixed ns k := Int.emod_nonneg _ (by decide)
/-! ### boxes -/
inductive Bx where
  | face (n : Int) | all | alike (n p : Int) | run (n p : Int) | under (n : Int) | even (p : Int)
abbrev sD (s : String) : D := .str (Str.ofString s)
def Bx.parts : Bx → List D
  | .face n => [sD "face", .int n]
  | .all => [sD "all"]
  | .alike n p => [sD "alike", .int n, .int p]
  | .run n p => [sD "run", .int n, .int p]
  | .under n => [sD "under", .int n]
  | .even p => [sD "even", .int p]
def Bx.d (b : Bx) : D := .tup b.parts
def boxOf (x : Int) : Bx := if x % 6 = 0 then .face (1 + x / 6 % 6) else if x % 6 = 1 then .all else if x % 6 = 2 then .alike (2 + x / 6 % 3) (1 + x / 64 % 50) else if x % 6 = 3 then .run (2 + x / 6 % 3) (1 + x / 64 % 50)
  else if x % 6 = 4 then .under (1 + x / 6 % 24) else .even (1 + x / 6 % 50)
theorem p_box (n : Nat) (x : Int) (st : Store) : G.call (n + 1) 6 [.int x] st = .ok (boxOf x).d st := by
  rw [call_of (d := ir__law_box) rfl rfl]
  simp only [ir__law_box]
  have h : x % 6 = 0 ∨ x % 6 = 1 ∨ x % 6 = 2 ∨ x % 6 = 3 ∨ x % 6 = 4 ∨ x % 6 = 5 := by omega
  rcases h with h | h | h | h | h | h <;> simp [h, mod1, div1, asg, lim, idxD, getAt, ix, boxOf, Bx.d, Bx.parts]
/-! ### comprehensions -/
theorem lcL_fm {t : Tg} {cond elt : Env → Store → R D} {env : Env} {st : Store} {α : Type} (e : α → D) (p : α → Bool) (f : α → D) : ∀ {xs : List α}, (∀ x ∈ xs, ∃ env', asg t (e x) env = some env' ∧ cond env' st = .ok (.bl (p x)) st ∧ (p x = true → elt env' st = .ok (f x) st)) →
    lcL .no t cond elt env (xs.map e) st = .ok ((xs.filter p).map f) st
  | [], _ => rfl
  | x :: xs, h => by
    obtain ⟨env', h1, h2, h3⟩ := h x (by simp)
    have ih := lcL_fm e p f (xs := xs) fun y hy => h y (by simp [hy])
    rw [List.map_cons, lcL, h1]
    simp only [Grd.holds, R.test_true, R.of_some, R.bind_ok, h2]
    cases hp : p x with
    | true => simp [h3 hp, ih, hp]
    | false => simp [ih, hp]
theorem lcL_map {t : Tg} {cond elt : Env → Store → R D} {env : Env} {st : Store} {α : Type} (e : α → D) (f : α → D) {xs : List α} (h : ∀ x ∈ xs, ∃ env', asg t (e x) env = some env' ∧ cond env' st = .ok (.bl true) st ∧ elt env' st = .ok (f x) st) :
    lcL .no t cond elt env (xs.map e) st = .ok (xs.map f) st := by
  have z := lcL_fm (t := t) (cond := cond) (elt := elt) (env := env) (st := st) e (fun _ => true) f (xs := xs) fun x hx => by
    obtain ⟨env', h1, h2, h3⟩ := h x hx
    exact ⟨env', h1, h2, fun _ => h3⟩
  rw [z, List.filter_eq_self.mpr (by simp)]
/-! ### games -/
def pick4 (a b c d y : Int) : Int := if y % 4 = 0 then a else if y % 4 = 1 then b else if y % 4 = 2 then c else d
theorem idx4 (a b c d y : Int) (st : Store) : idxD (.tup [.int a, .int b, .int c, .int d]) (.int (y % 4)) st = .ok (.int (pick4 a b c d y)) st := by
  have h : y % 4 = 0 ∨ y % 4 = 1 ∨ y % 4 = 2 ∨ y % 4 = 3 := by omega
  rcases h with h | h | h | h <;> simp [h, idxD, getAt, ix, pick4]
structure Gm where
  many : Int
  sides : Int
  throws : Int
  boxes : List Bx
def Gm.d (g : Gm) : D := .tup [.int g.many, .int g.sides, .int g.throws, .tup (g.boxes.map Bx.d)]
def boxesOf (x : Int) : List Bx := (List.range (pick4 1 2 2 3 (x / 64)).toNat).map fun k => boxOf (drawn x k / 4)
def gameOf1 (x : Int) : Gm := ⟨1 + x / 256 % 4, 2 + x / 1024 % 5, pick4 1 2 3 2 (x / 16), boxesOf x⟩
theorem pick_le (x : Int) : pick4 1 2 2 3 x ≤ 3 ∧ 1 ≤ pick4 1 2 2 3 x := by
  simp only [pick4]
  split
  · omega
  · split
    · omega
    · split <;> omega
theorem rngL_nat (m : Int) : rngL 0 m = (List.range m.toNat).map fun k : Nat => D.int k := by
  simp [rngL]
theorem ev_lc {C : Ctx} {own : List Nat} {t : Tg} {it : It} {cond elt : E} {env : Env} {st : Store} {α : Type} (e : α → D) (p : α → Bool) (f : α → D) {xs : List α} (hI : evI C it env st = .ok (xs.map e, .no) st)
    (h : ∀ x ∈ xs, ∃ env', asg t (e x) (wipes env own) = some env' ∧ evE C cond env' st = .ok (.bl (p x)) st ∧ (p x = true → evE C elt env' st = .ok (f x) st)) :
    evE C (.lc false own t it cond elt) env st = .ok (.lst ((xs.filter p).map f)) st := by
  rw [evE, hI]
  simp only [R.bind_ok, Grd.lock]
  rw [lcL_fm e p f h]
  simp [Grd.out, Grd.holds, Grd.free]
theorem ev_lcm {C : Ctx} {own : List Nat} {t : Tg} {it : It} {elt : E} {env : Env} {st : Store} {α : Type} (e : α → D) (f : α → D) {xs : List α} (hI : evI C it env st = .ok (xs.map e, .no) st)
    (h : ∀ x ∈ xs, ∃ env', asg t (e x) (wipes env own) = some env' ∧ evE C elt env' st = .ok (f x) st) :
    evE C (.lc false own t it (.con (.bl true)) elt) env st = .ok (.lst (xs.map f)) st := by
  rw [evE, hI]
  simp only [R.bind_ok, Grd.lock]
  rw [lcL_map e f fun x hx => ?_]
  · simp [Grd.out, Grd.holds, Grd.free]
  · obtain ⟨env', h1, h2⟩ := h x hx
    exact ⟨env', h1, by simp, h2⟩
theorem p_game1 (n : Nat) (x : Int) (st : Store) : G.call (n + 2) 7 [.int x, .int 1] st = .ok (gameOf1 x).d st := by
  rw [call_of (d := ir__law_game) rfl rfl]
  simp only [ir__law_game]
  have hp := pick_le (x / 64)
  simp [mod1, div1, asg, idx4]
  rw [ev_lcm (fun k : Nat => D.int k) (fun k => (boxOf (drawn x k / 4)).d) (xs := List.range (pick4 1 2 2 3 (x / 64)).toNat) ?_ fun k hk => ⟨_, rfl, ?_⟩]
  · simp [bltD, cmpD, D.flat, D.eqv, mod1, div1, gameOf1, Gm.d, boxesOf]
  · simp [mod1, div1, idx4, rng2, rngL_nat, show -1000000 ≤ pick4 1 2 2 3 (x / 64) by omega, show pick4 1 2 2 3 (x / 64) ≤ 1000000 by omega]
  · simp [wipes, p_drawn, div1, p_box]
end EV
section
set_option exponentiation.threshold 5000
/-! Pu4: fractions. -/
namespace EV
open PySem

def frD (q : Rat) : D := .tup [.int q.num, .int q.den]
/-! ### Euclid -/
def eCond : E := .cmp .Gt (.var 2) (.con (.int 0))
def eBody : Ss := .cons (.set (.many [2, 3]) (.tup (.cons (.bin .Mod (.var 3) (.var 2)) (.cons (.var 2) .nil)))) .nil
theorem eu_stop (C : Ctx) (u l : D) (st : Store) (fuel b : Nat) : whlL (evE C eCond) (evSs C eBody) (fuel + 1) [some u, some l, some (.int 0), some (.int b)] st = .ok (.nx [some u, some l, some (.int 0), some (.int b)]) st := by
  simp [whlL, eCond, cmpD]
theorem eu_go (C : Ctx) (u l : D) (st : Store) (fuel a b : Nat) (ha : 0 < a) :
    whlL (evE C eCond) (evSs C eBody) (fuel + 1) [some u, some l, some (.int a), some (.int b)] st = whlL (evE C eCond) (evSs C eBody) fuel [some u, some l, some (.int (b % a : Nat)), some (.int a)] st := by
  have h : (0 : Int) < a := by omega
  have h1 : evE C eCond [some u, some l, some (.int a), some (.int b)] st = .ok (.bl true) st := by
    simp only [eCond, e_cmp, e_var, e_con, List.getElem?_cons_zero, List.getElem?_cons_succ, R.bind_ok, cmpD, decide_eq_true h]
  have h2 : evSs C eBody [some u, some l, some (.int a), some (.int b)] st = .ok (.nx [some u, some l, some (.int (b % a : Nat)), some (.int a)]) st := by
    simp only [eBody, ss_consE, s_setE, e_tup, es_cons, e_bin, e_var, es_nil, List.getElem?_cons_zero, List.getElem?_cons_succ, R.bind_ok, mod1 _ _ h]
    rfl
  rw [whlL, h1]
  simp only [R.bind_ok, h2]
theorem euclid (C : Ctx) (u l : D) (st : Store) : ∀ (k a b fuel : Nat), a < 2 ^ k → 2 * k + 1 ≤ fuel →
    whlL (evE C eCond) (evSs C eBody) fuel [some u, some l, some (.int a), some (.int b)] st = .ok (.nx [some u, some l, some (.int 0), some (.int (Nat.gcd a b))]) st
  | 0, a, b, fuel, ha, hf => by
    have e : a = 0 := by omega
    subst e
    obtain ⟨f, rfl⟩ : ∃ f, fuel = f + 1 := ⟨fuel - 1, by omega⟩
    rw [Nat.gcd_zero_left]
    exact eu_stop C u l st f b
  | k + 1, a, b, fuel, ha, hf => by
    obtain ⟨f, rfl⟩ : ∃ f, fuel = f + 2 := ⟨fuel - 2, by omega⟩
    by_cases h0 : a = 0
    · subst h0
      rw [Nat.gcd_zero_left]
      exact eu_stop C u l st (f + 1) b
    · rw [eu_go C u l st (f + 1) a b (by omega), Nat.gcd_rec a b]
      by_cases h1 : b % a = 0
      · rw [h1, Nat.gcd_zero_left]
        exact eu_stop C u l st f a
      · rw [eu_go C u l st f (b % a) a (by omega), Nat.gcd_rec (b % a) a]
        refine euclid C u l st k _ _ f ?_ (by omega)
        have hr : b % a < a := Nat.mod_lt _ (by omega)
        have h2 : 2 * (a % (b % a)) < a := by
          have hm : a % (b % a) < b % a := Nat.mod_lt _ (by omega)
          have hd := Nat.div_add_mod a (b % a)
          have hq : 1 ≤ a / (b % a) := (Nat.le_div_iff_mul_le (by omega)).mpr (by omega)
          have : b % a ≤ (b % a) * (a / (b % a)) := Nat.le_mul_of_pos_right _ (by omega)
          omega
        have : 2 ^ (k + 1) = 2 * 2 ^ k := by rw [Nat.pow_succ, Nat.mul_comm]
        omega
theorem divB (i j : Int) (h : 0 < j) (h2 : j < 2 ^ 4000) (st : Store) : binD .FloorDiv (.int i) (.int j) st = .ok (.int (i / j)) st := by
  simp only [binD, decide_eq_true h, decide_eq_true h2]
  rfl
theorem fr_mk (u : Int) (l : Nat) (hl : 0 < l) : frD (mkRat u l) = .tup [.int (u / (u.natAbs.gcd l : Nat)), .int (l / u.natAbs.gcd l : Nat)] := by
  unfold frD mkRat
  rw [dif_neg (by omega), Rat.normalize_eq]
theorem absD (u : Int) (st : Store) : bltD .abs [.int u] st = .ok (.int (u.natAbs : Nat)) st := by
  simp only [bltD]
  congr 2
  split <;> omega
/-- what plain and the law's plain do -/
def plainB : Ss := .cons (.set (.one 2) (.blt .abs (.cons (.var 0) .nil))) (.cons (.set (.one 3) (.var 1)) (.cons (.whl eCond eBody) (.cons (.ret (.tup (.cons (.bin .FloorDiv (.var 0) (.var 3)) (.cons (.bin .FloorDiv (.var 1) (.var 3)) .nil)))) .nil)))
theorem plain_run (C : Ctx) (hw : C.wfuel = 100000) (u : Int) (l : Nat) (hl : 0 < l) (hu : u.natAbs < 2 ^ 3000) (hl2 : l < 2 ^ 3000) (st : Store) : evSs C plainB [some (.int u), some (.int l), none, none] st = .ok (.rt (frD (mkRat u l))) st := by
  have hg : 0 < u.natAbs.gcd l := Nat.gcd_pos_of_pos_right _ hl
  have hgl : u.natAbs.gcd l ≤ l := Nat.le_of_dvd hl (Nat.gcd_dvd_right _ _)
  have hg4 : ((u.natAbs.gcd l : Nat) : Int) < 2 ^ 4000 := by
    have : (2 : Nat) ^ 3000 ≤ 2 ^ 4000 := Nat.pow_le_pow_right (by decide) (by decide)
    have h3 : u.natAbs.gcd l < 2 ^ 4000 := by omega
    exact_mod_cast h3
  have e := euclid C (.int u) (.int l) st 3000 u.natAbs l 100000 hu (by decide)
  unfold plainB
  simp only [ss_consE, s_setE, e_blt, es_cons, es_nil, e_var, s_whlE, s_retE, e_tup, e_bin]
  simp only [List.getElem?_cons_zero, List.getElem?_cons_succ, R.bind_ok, absD, asg, R.of_some, List.set_cons_succ, List.set_cons_zero, hw]
  rw [e]
  simp only [R.bind_ok, List.getElem?_cons_zero, List.getElem?_cons_succ]
  rw [divB _ _ (by omega) hg4, R.bind_ok, divB _ _ (by omega) hg4]
  simp only [R.bind_ok, List.length_cons, List.length_nil]
  rw [fr_mk u l hl]
  simp
theorem p_plain (n : Nat) (u : Int) (l : Nat) (hl : 0 < l) (hu : u.natAbs < 2 ^ 3000) (hl2 : l < 2 ^ 3000) (st : Store) : G.call (n + 1) 42 [.int u, .int l] st = .ok (frD (mkRat u l)) st := by
  rw [call_of (d := ir_plain) rfl rfl]
  have z := plain_run (G.ctx n) rfl u l hl hu hl2 st
  show backR st (evSs (G.ctx n) plainB [some (.int u), some (.int l), none, none] st) = _
  rw [z]
  simp
theorem p_lplain (n : Nat) (u : Int) (l : Nat) (hl : 0 < l) (hu : u.natAbs < 2 ^ 3000) (hl2 : l < 2 ^ 3000) (st : Store) : G.call (n + 1) 47 [.int u, .int l] st = .ok (frD (mkRat u l)) st := by
  rw [call_of (d := ir__law_plain) rfl rfl]
  have z := plain_run (G.ctx n) rfl u l hl hu hl2 st
  show backR st (evSs (G.ctx n) plainB [some (.int u), some (.int l), none, none] st) = _
  rw [z]
  simp
/-! ### loops -/
theorem forL_inv {α σ : Type} (e : α → D) (step : σ → α → σ) (P : σ → Env → Store → Prop) {g : Grd} {tg : Tg} {body : Env → Store → R Fl} (hg : ∀ s env st, P s env st → g.holds st = true) : ∀ (xs : List α) (s : σ) (env : Env) (st : Store), P s env st →
    (∀ s x env st, x ∈ xs → P s env st → ∃ env1 env2 st2, asg tg (e x) env = some env1 ∧ body env1 st = .ok (.nx env2) st2 ∧ P (step s x) env2 st2) →
    ∃ env' st', forL g tg body (xs.map e) env st = .ok (.nx env') st' ∧ P (xs.foldl step s) env' st'
  | [], s, env, st, h, _ => ⟨env, st, by rw [List.map_nil, forL, hg s env st h]; rfl, h⟩
  | x :: xs, s, env, st, h, hs => by
    obtain ⟨env1, env2, st2, h1, h2, h3⟩ := hs s x env st (by simp) h
    obtain ⟨env', st', g1, g2⟩ := forL_inv e step P hg xs (step s x) env2 st2 h3 fun s y env st hy => hs s y env st (by simp [hy])
    refine ⟨env', st', ?_, g2⟩
    rw [List.map_cons, forL, hg s env st h]
    simp only [R.test_true, h1, R.of_some, R.bind_ok, h2]
    exact g1
end EV
end
section
set_option exponentiation.threshold 5000
/-! Pu5: rows of numbers as keys; books. -/
namespace EV
open PySem

abbrev Row := List Int
def tupI (r : Row) : D := .tup (r.map D.int)
abbrev Bk := List (Row × Int)
def bkD (b : Bk) : List (D × D) := b.map fun p => (tupI p.1, .int p.2)
/-! ### rows as data -/
theorem eqvs_ints : ∀ a b : Row, D.eqvs (a.map D.int) (b.map D.int) = decide (a = b)
  | [], [] => by simp [D.eqvs]
  | [], _ :: _ => by simp [D.eqvs]
  | _ :: _, [] => by simp [D.eqvs]
  | x :: xs, y :: ys => by
    rw [List.map_cons, List.map_cons, D.eqvs, eqvs_ints xs ys, D.eqv]
    by_cases h : x = y <;> by_cases h2 : xs = ys <;> simp [h, h2]
@[simp] theorem eqv_tupI (a b : Row) : D.eqv (tupI a) (tupI b) = decide (a = b) := by
  unfold tupI
  rw [D.eqv, eqvs_ints]
def ltR : Row → Row → Bool
  | [], _ :: _ => true
  | x :: xs, y :: ys => if x = y then ltR xs ys else decide (x < y)
  | _, _ => false
theorem lts_ints : ∀ a b : Row, D.lts (a.map D.int) (b.map D.int) = ltR a b
  | [], [] => by simp [D.lts, ltR]
  | [], _ :: _ => by simp [D.lts, ltR]
  | _ :: _, [] => by simp [D.lts, ltR]
  | x :: xs, y :: ys => by
    rw [List.map_cons, List.map_cons, D.lts, lts_ints xs ys, D.eqv, D.lt, ltR]
    by_cases h : x = y <;> simp [h]
@[simp] theorem lt_tupI (a b : Row) : D.lt (tupI a) (tupI b) = ltR a b := by
  unfold tupI
  rw [D.lt, lts_ints]
theorem alikes_ints : ∀ a b : Row, D.alikes (a.map D.int) (b.map D.int) = true
  | [], [] => by simp [D.alikes]
  | [], _ :: _ => by simp [D.alikes]
  | _ :: _, [] => by simp [D.alikes]
  | x :: xs, y :: ys => by rw [List.map_cons, List.map_cons, D.alikes, alikes_ints xs ys, D.alike]; rfl
@[simp] theorem alike_tupI (a b : Row) : D.alike (tupI a) (tupI b) = true := by
  unfold tupI
  rw [D.alike]
  exact alikes_ints a b
theorem cmpT_ints : ∀ a b : Row, D.cmpT (a.map D.int) (b.map D.int) = true
  | [], [] => by simp [D.cmpT]
  | [], _ :: _ => by simp [D.cmpT]
  | _ :: _, [] => by simp [D.cmpT]
  | x :: xs, y :: ys => by rw [List.map_cons, List.map_cons, D.cmpT, cmpT_ints xs ys, D.alike]; simp
theorem flats_ints (n : Nat) : ∀ a : Row, D.flats n (a.map D.int) = true
  | [] => by simp [D.flats]
  | x :: xs => by rw [List.map_cons, D.flats, flats_ints n xs]; simp [D.flat]
@[simp] theorem flat_tupI (n : Nat) (a : Row) : D.flat (n + 1) (tupI a) = true := by
  unfold tupI
  rw [D.flat]
  exact flats_ints n a
theorem keys_ints (n : Nat) : ∀ a : Row, D.keys n (a.map D.int) = true
  | [] => by simp [D.keys]
  | x :: xs => by rw [List.map_cons, D.keys, keys_ints n xs]; simp [D.key]
@[simp] theorem key_tupI (n : Nat) (a : Row) : D.key (n + 1) (tupI a) = true := by
  unfold tupI
  rw [D.key]
  exact keys_ints n a
@[simp] theorem isTup_tupI (a : Row) : (tupI a).isTup = true := rfl
@[simp] theorem its_tupI (a : Row) : (tupI a).its = a.map D.int := rfl
@[simp] theorem low_tupI (n : Nat) (a : Row) : D.low n (tupI a) = true := by
  unfold tupI
  rw [D.low]
  induction a with
  | nil => simp [D.lows]
  | cons x xs ih => rw [List.map_cons, D.lows, ih]; simp [D.low]
@[simp] theorem intsOf_ints : ∀ a : Row, intsOf (a.map D.int) = some a
  | [] => rfl
  | x :: xs => by rw [List.map_cons, intsOf, intsOf_ints xs]; rfl
@[simp] theorem sorted_tupI (a : Row) (st : Store) : bltD .sorted [tupI a] st = .ok (.lst ((sortI a).map D.int)) st := by
  simp [bltD, tupI, sortD]
@[simp] theorem tuple_lst (xs : List D) (st : Store) : bltD .tuple [.lst xs] st = .ok (.tup xs) st := rfl
@[simp] theorem len_tupI (a : Row) (st : Store) : bltD .len [tupI a] st = .ok (.int a.length) st := by
  simp [bltD, tupI, seqOf]
theorem add_tupI (a b : Row) (st : Store) (h : a.length + b.length ≤ 1000) : binD .Add (tupI a) (tupI b) st = .ok (tupI (a ++ b)) st := by
  unfold tupI
  rw [addT]
  simp only [List.length_map]
  rw [decide_eq_true (by unfold lim; omega)]
  simp
/-! ### books -/
def bget? : Bk → Row → Option Int
  | [], _ => none
  | (a, v) :: r, k => if a = k then some v else bget? r k
def bgetD (b : Bk) (k : Row) : Int := (bget? b k).getD 0
def bset : Bk → Row → Int → Bk
  | [], k, v => [(k, v)]
  | (a, w) :: r, k, v => if a = k then (a, v) :: r else (a, w) :: bset r k v
def badd (b : Bk) (k : Row) (c : Int) : Bk := bset b k (bgetD b k + c)
def bkeys (b : Bk) : List Row := b.map (·.1)
theorem dget_bk : ∀ (b : Bk) (k : Row), dget (bkD b) (tupI k) = (bget? b k).map D.int
  | [], k => rfl
  | (a, v) :: r, k => by
    show (if D.eqv (tupI a) (tupI k) = true then some (D.int v) else dget (bkD r) (tupI k)) = _
    rw [eqv_tupI, dget_bk r k, bget?]
    by_cases h : a = k <;> simp [h]
theorem dput_bk : ∀ (b : Bk) (k : Row) (v : Int), dput (bkD b) (tupI k) (.int v) = bkD (bset b k v)
  | [], k, v => rfl
  | (a, w) :: r, k, v => by
    show (if D.eqv (tupI a) (tupI k) = true then (tupI a, D.int v) :: bkD r else (tupI a, D.int w) :: dput (bkD r) (tupI k) (.int v)) = _
    rw [eqv_tupI, dput_bk r k v, bset]
    by_cases h : a = k <;> simp [h, bkD]
theorem keyOk_bk (b : Bk) (k : Row) : keyOk (bkD b) (tupI k) = true := by
  have e : ((bkD b).all fun p => p.1.isTup) = true := by
    rw [List.all_eq_true]
    intro p hp
    obtain ⟨q, _, rfl⟩ := List.mem_map.mp hp
    rfl
  rw [keyOk, e]
  simp
theorem bkD_keys (b : Bk) : (bkD b).map (·.1) = (bkeys b).map tupI := by simp [bkD, bkeys]
theorem bkD_len (b : Bk) : (bkD b).length = b.length := by simp [bkD]
/-! ### sorted rows -/
def sortR (ks : List Row) : List Row := isort (fun a b => !ltR b a) ks
theorem flats_rows (n : Nat) : ∀ ks : List Row, D.flats (n + 1) (ks.map tupI) = true
  | [] => by simp [D.flats]
  | k :: ks => by rw [List.map_cons, D.flats, flats_rows n ks]; simp
theorem sortOk_rows (ks : List Row) : sortOk (ks.map tupI) = true := by
  rw [sortOk, flats_rows 19 ks]
  have e1 : ((ks.map tupI).all fun x => x.isTup) = true := by
    rw [List.all_eq_true]; intro p hp; obtain ⟨q, _, rfl⟩ := List.mem_map.mp hp; rfl
  rw [e1]
  split
  · rw [Bool.and_self, Bool.true_and, List.all_eq_true]
    intro x hx
    rw [List.all_eq_true]
    intro y hy
    obtain ⟨a, _, rfl⟩ := List.mem_map.mp hx
    obtain ⟨b, _, rfl⟩ := List.mem_map.mp hy
    exact cmpT_ints a b
  · rw [Bool.and_self, Bool.true_and, List.all_eq_true]
    intro x hx
    rw [List.all_eq_true]
    intro y hy
    obtain ⟨a, _, rfl⟩ := List.mem_map.mp hx
    obtain ⟨b, _, rfl⟩ := List.mem_map.mp hy
    exact alikes_ints a b
theorem sortD_rows (ks : List Row) : sortD (ks.map tupI) = some ((sortR ks).map tupI) := by
  cases ks with
  | nil => simp [sortD, intsOf, sortR, isort, sortI]
  | cons k ks =>
    have e : intsOf ((k :: ks).map tupI) = none := rfl
    rw [sortD, e]
    show (match sortOk ((k :: ks).map tupI) with | true => some (sortT ((k :: ks).map tupI)) | false => none) = _
    rw [sortOk_rows]
    show some (sortT ((k :: ks).map tupI)) = _
    rw [sortT, sortR, isort_map (f := tupI) (s := fun x y => !D.lt y x) (fun a b => by rw [lt_tupI])]
end EV
end
section
set_option exponentiation.threshold 5000
/-! Pu6: counted, throws_of, after, and the law's own. -/
namespace EV
open PySem

theorem forL_pre {α σ : Type} (e : α → D) (step : σ → α → σ) (P : σ → Env → Store → Prop) {g : Grd} {tg : Tg} {body : Env → Store → R Fl} (hg : ∀ s env st, P s env st → g.holds st = true) : ∀ (xs : List α) (s : σ) (env : Env) (st : Store), P s env st →
    (∀ pre x post env st, xs = pre ++ x :: post → P (pre.foldl step s) env st → ∃ env1 env2 st2, asg tg (e x) env = some env1 ∧ body env1 st = .ok (.nx env2) st2 ∧ P (step (pre.foldl step s) x) env2 st2) →
    ∃ env' st', forL g tg body (xs.map e) env st = .ok (.nx env') st' ∧ P (xs.foldl step s) env' st'
  | [], s, env, st, h, _ => ⟨env, st, by rw [List.map_nil, forL, hg s env st h]; rfl, h⟩
  | x :: xs, s, env, st, h, hs => by
    obtain ⟨env1, env2, st2, h1, h2, h3⟩ := hs [] x xs env st rfl h
    obtain ⟨env', st', g1, g2⟩ := forL_pre e step P hg xs (step s x) env2 st2 h3 fun pre y post env st hy hp => hs (x :: pre) y post env st (by rw [hy]; rfl) hp
    refine ⟨env', st', ?_, g2⟩
    rw [List.map_cons, forL, hg s env st h]
    simp only [R.test_true, h1, R.of_some, R.bind_ok, h2]
    exact g1
theorem bset_len (b : Bk) (k : Row) (v : Int) : (bset b k v).length ≤ b.length + 1 := by
  induction b with
  | nil => simp [bset]
  | cons p b ih =>
    obtain ⟨a, w⟩ := p
    rw [bset]
    split
    · simp
    · simp only [List.length_cons]; omega
theorem badd_len (b : Bk) (k : Row) (c : Int) : (badd b k c).length ≤ b.length + 1 := bset_len _ _ _
theorem addAll_len {α : Type} (f : α → Row) (w : α → Int) (xs : List α) (b : Bk) : (xs.foldl (fun b x => badd b (f x) (w x)) b).length ≤ b.length + xs.length := by
  induction xs generalizing b with
  | nil => simp
  | cons x xs ih =>
    have h1 := ih (badd b (f x) (w x))
    have h2 := badd_len b (f x) (w x)
    simp only [List.foldl_cons, List.length_cons]
    omega
theorem rng2_ok (lo hi : Int) (st : Store) (h1 : -1000000 ≤ lo) (h2 : lo ≤ 1000000) (h3 : -1000000 ≤ hi) (h4 : hi ≤ 1000000) : rng2 (.int lo) (.int hi) st = .ok (rngL lo hi, .no) st := by
  simp [rng2, h1, h2, h3, h4]
theorem rng2_ev {C : Ctx} {a b : E} {env : Env} {st : Store} {x y : Int} (h1 : evE C a env st = .ok (.int x) st) (h2 : evE C b env st = .ok (.int y) st) (h3 : -1000000 ≤ x) (h4 : x ≤ 1000000) (h5 : -1000000 ≤ y) (h6 : y ≤ 1000000) : evI C (.rng2 a b) env st = .ok (rngL x y, .no) st := by
  rw [i_rng2, h1, R.bind_ok, h2, R.bind_ok, rng2_ok _ _ _ h3 h4 h5 h6]
theorem rng1_ev {C : Ctx} {a : E} {env : Env} {st : Store} {y : Int} (h1 : evE C a env st = .ok (.int y) st) (h5 : -1000000 ≤ y) (h6 : y ≤ 1000000) : evI C (.rng1 a) env st = .ok (rngL 0 y, .no) st := by
  rw [i_rng1, h1, R.bind_ok, rng2_ok _ _ _ (by decide) (by decide) h5 h6]
theorem for_ev {C : Ctx} {t : Tg} {it : It} {b : Ss} {env env' : Env} {st st1 st' : Store} {xs : List D} (h1 : evI C it env st = .ok (xs, .no) st1) (h2 : forL .no t (evSs C b) xs env st1 = .ok (.nx env') st') : evS C (.for t it b) env st = .ok (.nx env') st' := by
  rw [s_forE, h1, R.bind_ok]
  show Grd.no.out (forL .no t (evSs C b) xs env st1) = _
  rw [h2]
  rfl
/-! ### one more die -/
def dies (s : Nat) : List Int := (List.range s).map fun i : Nat => (i : Int) + 1
theorem rng_dies (s : Nat) : rngL 1 ((s : Int) + 1) = (dies s).map D.int := by
  simp only [rngL, dies, List.map_map]
  have e : ((s : Int) + 1 - 1).toNat = s := by omega
  rw [e]
  refine List.map_congr_left fun i _ => ?_
  simp only [Function.comp]
  congr 1
  omega
def dieB : Ss := .cons (.set (.one 8) (.blt .tuple (.cons (.blt .sorted (.cons (.bin .Add (.var 6) (.tup (.cons (.var 7) .nil))) .nil)) .nil))) (.cons (.put (.var 5) (.var 8) (.bin .Add (.mth .get2 (.var 5) (.cons (.var 8) (.cons (.con (.int 0)) .nil))) (.idx (.var 2) (.var 6)))) .nil)
theorem get_set_ne {α : Type} {l : List α} {i j : Nat} {a : α} (h : i ≠ j) : (l.set j a)[i]? = l[i]? := List.getElem?_set_ne (Ne.symm h)
theorem get_set_eq {α : Type} {l : List α} {j : Nat} {a : α} (h : j < l.length) : (l.set j a)[j]? = some a := List.getElem?_set_self h
section
variable {C : Ctx} {a0 a1 a3 a4 : D} {i j : Nat} {F M : Bk} {t : Row} {S : Store}
theorem die_turn (hi : S[i]? = some (.lck (bkD F))) (hij : i ≠ j) (hj : j < S.length) (ht : t.length ≤ 100) (hM : M.length < 100000) {c : Int} (hc : bget? F t = some c) (d : Int) (x8 : Option D) :
    evSs C dieB [some a0, some a1, some (.ref i), some a3, some a4, some (.ref j), some (tupI t), some (.int d), x8] (S.set j (.dic (bkD M))) =
      .ok (.nx [some a0, some a1, some (.ref i), some a3, some a4, some (.ref j), some (tupI t), some (.int d), some (tupI (sortI (t ++ [d])))]) (S.set j (.dic (bkD (badd M (sortI (t ++ [d])) c)))) := by
  have e1 : evE C (.bin .Add (.var 6) (.tup (.cons (.var 7) .nil))) [some a0, some a1, some (.ref i), some a3, some a4, some (.ref j), some (tupI t), some (.int d), x8] (S.set j (.dic (bkD M))) = .ok (tupI (t ++ [d])) (S.set j (.dic (bkD M))) := by
    have := add_tupI t [d] (S.set j (.dic (bkD M))) (by simp; omega)
    simpa [tupI] using this
  unfold dieB
  rw [ss_consE, s_setE, e_blt, es_cons, e_blt, es_cons, e1]
  simp only [R.bind_ok, es_nil, sorted_tupI, tuple_lst, asg, R.of_some, List.set_cons_succ, List.set_cons_zero]
  rw [ss_consE, s_putE, e_bin, e_mth, e_var]
  simp only [List.getElem?_cons_zero, List.getElem?_cons_succ, R.bind_ok]
  have hg : (S.set j (.dic (bkD M)))[j]? = some (.dic (bkD M)) := get_set_eq hj
  have hgi : (S.set j (.dic (bkD M)))[i]? = some (.lck (bkD F)) := by rw [get_set_ne hij]; exact hi
  have hk : keyOk (bkD M) (tupI (sortI (t ++ [d]))) = true := keyOk_bk _ _
  have hk2 : keyOk (bkD F) (tupI t) = true := keyOk_bk _ _
  have etup : D.tup ((sortI (t ++ [d])).map D.int) = tupI (sortI (t ++ [d])) := rfl
  rw [etup]
  simp only [Mth.ok, D.kd, hg, Mth.kd, decide_true, R.test_true, es_cons, e_var, e_con, es_nil, List.getElem?_cons_zero, List.getElem?_cons_succ, R.bind_ok, mthD, hk, dget_bk, e_idx, idxD, hgi, hk2, hc, Option.map_some, R.of_some]
  have e2 : (Option.map D.int (bget? M (sortI (t ++ [d])))).getD (.int 0) = .int (bgetD M (sortI (t ++ [d]))) := by
    unfold bgetD
    cases bget? M (sortI (t ++ [d])) <;> rfl
  rw [e2, add1]
  simp only [R.bind_ok, hg, hk, bkD_len, Bool.true_and]
  rw [decide_eq_true (by omega)]
  simp only [R.test_true, R.bind_ok, ss_nilE, dput_bk, List.set_set]
  rfl
def addDies (s : Nat) (M : Bk) (t : Row) (c : Int) : Bk := (dies s).foldl (fun M d => badd M (sortI (t ++ [d])) c) M
theorem dr1 (hi : S[i]? = some (.lck (bkD F))) (hij : i ≠ j) (hj : j < S.length) (ht : t.length ≤ 100) (s : Nat) (hs : s ≤ 100) (hM : M.length < 90000) {c : Int} (hc : bget? F t = some c) (x7 x8 : Option D) :
   ∃ env' st', forL .no (.one 7) (evSs C dieB) ((dies s).map D.int) [some a0, some (.int s), some (.ref i), some a3, some a4, some (.ref j), some (tupI t), x7, x8] (S.set j (.dic (bkD M))) = .ok (.nx env') st' ∧ ∃ y7 y8, env' = [some a0, some (.int s), some (.ref i), some a3, some a4, some (.ref j), some (tupI t), y7, y8] ∧ st' = S.set j (.dic (bkD (addDies s M t c))) := by
  refine forL_pre (g := .no) (tg := .one 7) (body := evSs C dieB) D.int (fun M d => badd M (sortI (t ++ [d])) c) (fun M env st => ∃ y7 y8, env = [some a0, some (.int s), some (.ref i), some a3, some a4, some (.ref j), some (tupI t), y7, y8] ∧ st = S.set j (.dic (bkD M))) (fun _ _ _ _ => rfl)
    (dies s) M _ _ ⟨x7, x8, rfl, rfl⟩ fun pre d post env st hp ⟨y7, y8, e1, e2⟩ => ?_
  subst e1 e2
  have hlen := addAll_len (fun d => sortI (t ++ [d])) (fun _ => c) pre M
  have hpl : pre.length ≤ s := by
    have := congrArg List.length hp
    simp [dies] at this
    omega
  have z := die_turn (C := C) (a0 := a0) (a1 := .int s) (a3 := a3) (a4 := a4) hi hij hj ht (M := pre.foldl (fun M d => badd M (sortI (t ++ [d])) c) M) (Nat.lt_of_le_of_lt hlen (by omega)) hc d y8
  exact ⟨_, _, _, rfl, z, ⟨_, _, rfl, rfl⟩⟩
theorem dies_run (hi : S[i]? = some (.lck (bkD F))) (hij : i ≠ j) (hj : j < S.length) (ht : t.length ≤ 100) (s : Nat) (hs : s ≤ 100) (hM : M.length < 90000) {c : Int} (hc : bget? F t = some c) (x7 x8 : Option D) :
    ∃ y7 y8, evS C (.for (.one 7) (.rng2 (.con (.int 1)) (.bin .Add (.var 1) (.con (.int 1)))) dieB) [some a0, some (.int s), some (.ref i), some a3, some a4, some (.ref j), some (tupI t), x7, x8] (S.set j (.dic (bkD M))) =
      .ok (.nx [some a0, some (.int s), some (.ref i), some a3, some a4, some (.ref j), some (tupI t), y7, y8]) (S.set j (.dic (bkD (addDies s M t c)))) := by
  obtain ⟨env', st', g1, y7, y8, g2, g3⟩ := dr1 (C := C) (a0 := a0) (a3 := a3) (a4 := a4) hi hij hj ht s hs hM hc x7 x8
  subst g2 g3
  refine ⟨y7, y8, for_ev (xs := (dies s).map D.int) ?_ g1⟩
  rw [← rng_dies]
  exact rng2_ev (by rw [e_con]) (by simp only [e_bin, e_var, e_con, R.bind_ok, List.getElem?_cons_zero, List.getElem?_cons_succ, add1]) (by decide) (by decide) (by omega) (by omega)
/-! ### one step of counted -/
def addAll (s : Nat) (F : Bk) (M : Bk) : Bk := F.foldl (fun M p => addDies s M p.1 p.2) M
theorem addDies_len (s : Nat) (M : Bk) (t : Row) (c : Int) : (addDies s M t c).length ≤ M.length + s := by
  have h := addAll_len (fun d => sortI (t ++ [d])) (fun _ => c) (dies s) M
  have e : (dies s).length = s := by simp [dies]
  rw [e] at h
  exact h
theorem addAll_bound (s : Nat) : ∀ (F M : Bk), (addAll s F M).length ≤ M.length + F.length * s
  | [], M => by simp [addAll]
  | p :: F, M => by
    have h1 := addAll_bound s F (addDies s M p.1 p.2)
    have h2 := addDies_len s M p.1 p.2
    have e : addAll s (p :: F) M = addAll s F (addDies s M p.1 p.2) := rfl
    rw [e, List.length_cons, Nat.succ_mul]
    omega
def keyB : Ss := .cons (.for (.one 7) (.rng2 (.con (.int 1)) (.bin .Add (.var 1) (.con (.int 1)))) dieB) .nil
def BkOk (F : Bk) : Prop := (bkeys F).Nodup ∧ ∀ p ∈ F, p.1.length ≤ 100
theorem bget_mem : ∀ {F : Bk}, (bkeys F).Nodup → ∀ p ∈ F, bget? F p.1 = some p.2
  | [], _, p, hp => by cases hp
  | (a, v) :: F, hn, p, hp => by
    rw [bkeys, List.map_cons, List.nodup_cons] at hn
    rw [bget?]
    rcases List.mem_cons.mp hp with rfl | hp
    · simp
    · have ne : a ≠ p.1 := fun z => hn.1 (List.mem_map.mpr ⟨p, hp, z.symm⟩)
      rw [if_neg ne]
      exact bget_mem hn.2 p hp
theorem keys_run (hi : S[i]? = some (.dic (bkD F))) (hij : i ≠ j) (hj : j < S.length) (hF : BkOk F) (s : Nat) (hs : s ≤ 100) (hFl : F.length ≤ 500) (x6 x7 x8 : Option D) :
    ∃ y6 y7 y8, evS C (.for (.one 6) (.keys (.var 2)) keyB) [some a0, some (.int s), some (.ref i), some a3, some a4, some (.ref j), x6, x7, x8] (S.set j (.dic (bkD []))) =
      .ok (.nx [some a0, some (.int s), some (.ref i), some a3, some a4, some (.ref j), y6, y7, y8]) (S.set j (.dic (bkD (addAll s F [])))) := by
  have hil : i < S.length := (List.getElem?_eq_some_iff.mp hi).1
  have key : ∃ env' st', forL (.dic i (bkD F)) (.one 6) (evSs C keyB) (F.map fun p => tupI p.1) [some a0, some (.int s), some (.ref i), some a3, some a4, some (.ref j), x6, x7, x8] ((S.set i (.lck (bkD F))).set j (.dic (bkD []))) = .ok (.nx env') st' ∧
      ∃ y6 y7 y8, env' = [some a0, some (.int s), some (.ref i), some a3, some a4, some (.ref j), y6, y7, y8] ∧ st' = (S.set i (.lck (bkD F))).set j (.dic (bkD (addAll s F []))) := by
    refine forL_pre (g := .dic i (bkD F)) (tg := .one 6) (body := evSs C keyB) (fun p : Row × Int => tupI p.1) (fun M p => addDies s M p.1 p.2) (fun M env st => ∃ y6 y7 y8, env = [some a0, some (.int s), some (.ref i), some a3, some a4, some (.ref j), y6, y7, y8] ∧ st = (S.set i (.lck (bkD F))).set j (.dic (bkD M)))
      (fun M env st ⟨_, _, _, _, e⟩ => ?_) F [] _ _ ⟨x6, x7, x8, rfl, rfl⟩ fun pre p post env st hp ⟨y6, y7, y8, e1, e2⟩ => ?_
    · subst e
      have e2 : ((S.set i (.lck (bkD F))).set j (.dic (bkD M)))[i]? = some (.lck (bkD F)) := by
        rw [get_set_ne hij]
        exact get_set_eq hil
      simp only [Grd.holds, e2, sameKv_self]
    · subst e1 e2
      have hpm : p ∈ F := by rw [hp]; simp
      have hpl : pre.length ≤ 500 := by
        have := congrArg List.length hp
        simp at this
        omega
      have hb := addAll_bound s pre []
      have hb2 : pre.length * s ≤ 500 * 100 := Nat.mul_le_mul hpl hs
      have hlen : (pre.foldl (fun M p => addDies s M p.1 p.2) []).length < 90000 := by
        have e : pre.foldl (fun M p => addDies s M p.1 p.2) [] = addAll s pre [] := rfl
        rw [e]
        simp only [List.length_nil] at hb
        omega
      obtain ⟨z7, z8, hz⟩ := dies_run (C := C) (a0 := a0) (a3 := a3) (a4 := a4) (S := S.set i (.lck (bkD F))) (F := F) (i := i) (j := j) (t := p.1) (get_set_eq hil) hij (by rw [List.length_set]; exact hj) (hF.2 p hpm) s hs hlen (bget_mem hF.1 p hpm) y7 y8
      refine ⟨_, _, _, rfl, ?_, ⟨some (tupI p.1), z7, z8, rfl, rfl⟩⟩
      unfold keyB
      rw [ss_consE]
      simp only [List.set_cons_succ, List.set_cons_zero]
      rw [hz]
      simp only [R.bind_ok, ss_nilE]
  obtain ⟨env', st', g1, y6, y7, y8, g2, g3⟩ := key
  subst g2 g3
  refine ⟨y6, y7, y8, ?_⟩
  have hi2 : (S.set j (.dic (bkD [])))[i]? = some (.dic (bkD F)) := by rw [get_set_ne hij]; exact hi
  rw [s_forE, i_keys, e_var]
  simp only [List.getElem?_cons_zero, List.getElem?_cons_succ, R.bind_ok, keysIt, hi2]
  have e1 : (bkD F).map (·.1) = F.map fun p => tupI p.1 := by simp [bkD]
  rw [e1]
  have e2 : (Grd.dic i (bkD F)).lock (S.set j (.dic (bkD []))) = (S.set i (.lck (bkD F))).set j (.dic (bkD [])) := by
    show (S.set j (.dic (bkD []))).set i (.lck (bkD F)) = _
    rw [List.set_comm _ _ (Ne.symm hij)]
  rw [e2, g1]
  have e3 : ((S.set i (.lck (bkD F))).set j (.dic (bkD (addAll s F []))))[i]? = some (.lck (bkD F)) := by
    rw [get_set_ne hij]
    exact get_set_eq hil
  simp only [Grd.out, Grd.holds, e3, sameKv_self, R.test_true, Grd.free]
  rw [List.set_comm _ _ (Ne.symm hij), List.set_set]
  have e4 : S.set i (.dic (bkD F)) = S := by
    rw [List.getElem?_eq_some_iff] at hi
    obtain ⟨h1, h2⟩ := hi
    rw [← h2, List.set_getElem_self]
  rw [e4]
end
end EV
end
section
set_option exponentiation.threshold 5000
/-! Pu7: counted, throws_of. -/
namespace EV
open PySem

theorem bset_keys (b : Bk) (k : Row) (v : Int) : (k ∈ bkeys b ∧ bkeys (bset b k v) = bkeys b) ∨ (k ∉ bkeys b ∧ bkeys (bset b k v) = bkeys b ++ [k]) := by
  induction b with
  | nil => exact .inr ⟨by simp [bkeys], rfl⟩
  | cons p b ih =>
    obtain ⟨a, w⟩ := p
    rw [bset]
    by_cases h : a = k
    · rw [if_pos h]
      exact .inl ⟨by simp [bkeys, h], rfl⟩
    · rw [if_neg h]
      rcases ih with ⟨h1, h2⟩ | ⟨h1, h2⟩
      · exact .inl ⟨List.mem_cons_of_mem _ h1, by simp only [bkeys, List.map_cons] at h2 ⊢; rw [h2]⟩
      · refine .inr ⟨?_, by simp only [bkeys, List.map_cons] at h2 ⊢; rw [h2]; rfl⟩
        simp only [bkeys, List.map_cons, List.mem_cons, not_or] at h1 ⊢
        exact ⟨Ne.symm h, h1⟩
theorem bset_nodup {b : Bk} (h : (bkeys b).Nodup) (k : Row) (v : Int) : (bkeys (bset b k v)).Nodup := by
  rcases bset_keys b k v with ⟨_, h2⟩ | ⟨h1, h2⟩
  · rw [h2]; exact h
  · rw [h2]
    exact List.nodup_append.mpr ⟨h, by simp, fun a ha c hc e => by
      have e2 : c = k := by simpa using hc
      subst e2; subst e
      exact h1 ha⟩
theorem bset_mem {b : Bk} {k r : Row} {v : Int} (h : r ∈ bkeys (bset b k v)) : r = k ∨ r ∈ bkeys b := by
  rcases bset_keys b k v with ⟨_, h2⟩ | ⟨h1, h2⟩
  · rw [h2] at h; exact .inr h
  · rw [h2] at h
    rcases List.mem_append.mp h with z | z
    · exact .inr z
    · exact .inl (by simpa using z)
/-- a book with keys of n numbers, each once -/
def BOk (n : Nat) (b : Bk) : Prop := (bkeys b).Nodup ∧ ∀ r ∈ bkeys b, r.length = n
theorem BOk.add {n : Nat} {b : Bk} (h : BOk n b) {k : Row} (hk : k.length = n) (c : Int) : BOk n (badd b k c) :=
  ⟨bset_nodup h.1 _ _, fun r hr => (bset_mem hr).elim (fun e => by rw [e]; exact hk) (h.2 r)⟩
theorem sortI_len (r : Row) : (sortI r).length = r.length := (sortI_perm r).length_eq
theorem BOk.dies {n : Nat} {t : Row} (ht : t.length = n) (c : Int) (ds : List Int) : ∀ {b : Bk}, BOk (n + 1) b → BOk (n + 1) (ds.foldl (fun M d => badd M (sortI (t ++ [d])) c) b) := by
  induction ds with
  | nil => intro b h; exact h
  | cons d ds ih => intro b h; exact ih (h.add (by rw [sortI_len]; simp [ht]) c)
theorem BOk.all {n : Nat} (s : Nat) : ∀ {F M : Bk}, (∀ r ∈ bkeys F, r.length = n) → BOk (n + 1) M → BOk (n + 1) (addAll s F M)
  | [], M, _, h => h
  | p :: F, M, hF, h => BOk.all s (F := F) (fun r hr => hF r (List.mem_cons_of_mem p.1 hr)) (BOk.dies (hF p.1 (by simp [bkeys])) p.2 _ h)
theorem BOk.nil (n : Nat) : BOk n [] := ⟨List.nodup_nil, fun r hr => by cases hr⟩
def countF (s : Nat) : Nat → Bk
  | 0 => [([], 1)]
  | n + 1 => addAll s (countF s n) []
theorem countF_ok (s : Nat) : ∀ n, BOk n (countF s n)
  | 0 => ⟨by simp [countF, bkeys], fun r hr => by have : r = [] := by simpa [countF, bkeys] using hr
                                                  rw [this]; rfl⟩
  | n + 1 => BOk.all s (countF_ok s n).2 (BOk.nil _)
theorem countF_len (s : Nat) : ∀ n, (countF s n).length ≤ s ^ n
  | 0 => by simp [countF]
  | n + 1 => by
    have h := addAll_bound s (countF s n) []
    have h2 := Nat.mul_le_mul_right s (countF_len s n)
    rw [countF, Nat.pow_succ]
    simp only [List.length_nil] at h
    omega
theorem pow_small {s n : Nat} (hs : s ≤ 6) (hn : n ≤ 3) : s ^ n ≤ 216 := by
  have h1 : s ^ n ≤ 6 ^ n := Nat.pow_le_pow_left hs n
  have h2 : (6 : Nat) ^ n ≤ 6 ^ 3 := Nat.pow_le_pow_right (by decide) hn
  omega
def outB : Ss := .cons (.set (.one 5) (.dct .nil)) (.cons (.for (.one 6) (.keys (.var 2)) keyB) (.cons (.set (.one 2) (.var 5)) (.cons (.set (.one 3) (.bin .Mult (.var 3) (.var 1))) .nil)))
section
variable {C : Ctx} {a0 a4 : D} {S0 : Store}
theorem dct_nil (env : Env) (st : Store) : evE C (.dct .nil) env st = .ok (.ref st.length) (st ++ [.dic []]) := by
  simp [pairUp, keysOk, dputs]
theorem out_turn (s : Nat) (hs : s ≤ 6) {F : Bk} {n : Nat} (hF : BOk n F) (hn : n ≤ 50) (hl : F.length ≤ 500) (w : Int) (gb : Store) (hw : w.natAbs < 2 ^ 63) (x5 x6 x7 x8 : Option D) :
    ∃ y5 y6 y7 y8, evSs C outB [some a0, some (.int s), some (.ref (S0 ++ gb).length), some (.int w), some a4, x5, x6, x7, x8] (S0 ++ gb ++ [O.dic (bkD F)]) =
      .ok (.nx [some a0, some (.int s), some (.ref (S0 ++ (gb ++ [O.dic (bkD F)])).length), some (.int (w * s)), some a4, y5, y6, y7, y8]) (S0 ++ (gb ++ [O.dic (bkD F)]) ++ [O.dic (bkD (addAll s F []))]) := by
  have hbk : BkOk F := ⟨hF.1, fun p hp => by rw [hF.2 p.1 (List.mem_map.mpr ⟨p, hp, rfl⟩)]; omega⟩
  have hi : (S0 ++ gb ++ [O.dic (bkD F)] ++ [O.dic []])[(S0 ++ gb).length]? = some (.dic (bkD F)) := by
    rw [List.append_assoc, List.getElem?_append_right (Nat.le_refl _)]
    simp
  have hj : (S0 ++ gb ++ [O.dic (bkD F)]).length < (S0 ++ gb ++ [O.dic (bkD F)] ++ [O.dic []]).length := by simp
  have hij : (S0 ++ gb).length ≠ (S0 ++ gb ++ [O.dic (bkD F)]).length := by simp
  obtain ⟨y6, y7, y8, hk⟩ := keys_run (C := C) (a0 := a0) (a3 := .int w) (a4 := a4) (S := S0 ++ gb ++ [O.dic (bkD F)] ++ [O.dic []]) hi hij hj hbk s (by omega) hl x6 x7 x8
  have e1 : (S0 ++ gb ++ [O.dic (bkD F)] ++ [O.dic []]).set (S0 ++ gb ++ [O.dic (bkD F)]).length (.dic (bkD [])) = S0 ++ gb ++ [O.dic (bkD F)] ++ [O.dic []] := by
    rw [List.set_append_right _ _ (Nat.le_refl _)]
    simp [bkD]
  have e2 : (S0 ++ gb ++ [O.dic (bkD F)] ++ [O.dic []]).set (S0 ++ gb ++ [O.dic (bkD F)]).length (.dic (bkD (addAll s F []))) = S0 ++ gb ++ [O.dic (bkD F)] ++ [O.dic (bkD (addAll s F []))] := by
    rw [List.set_append_right _ _ (Nat.le_refl _)]
    simp
  rw [e1, e2] at hk
  refine ⟨some (.ref (S0 ++ gb ++ [O.dic (bkD F)]).length), y6, y7, y8, ?_⟩
  unfold outB
  rw [ss_consE, s_setE, dct_nil]
  simp only [R.bind_ok, asg, R.of_some, List.set_cons_succ, List.set_cons_zero]
  rw [ss_consE, hk]
  simp only [R.bind_ok]
  rw [ss_consE, s_setE, e_var]
  simp only [R.bind_ok, asg, R.of_some, List.set_cons_succ, List.set_cons_zero, List.getElem?_cons_zero, List.getElem?_cons_succ]
  rw [ss_consE, s_setE, e_bin]
  simp only [e_var, R.bind_ok, asg, R.of_some, List.set_cons_succ, List.set_cons_zero, List.getElem?_cons_zero, List.getElem?_cons_succ]
  rw [big0 _ hw]
  simp only [R.bind_ok, asg, R.of_some, List.set_cons_succ, List.set_cons_zero, ss_nilE, List.append_assoc]
theorem iter_count (s : Nat) {α : Type} : ∀ (xs : List α) (a : Nat), xs.foldl (fun (p : Bk × Int) _ => (addAll s p.1 [], p.2 * s)) (countF s a, (s : Int) ^ a) = (countF s (a + xs.length), (s : Int) ^ (a + xs.length))
  | [], a => rfl
  | x :: xs, a => by
    have ih := iter_count s xs (a + 1)
    rw [List.foldl_cons]
    have e : (addAll s (countF s a) [], (s : Int) ^ a * s) = (countF s (a + 1), (s : Int) ^ (a + 1)) := rfl
    rw [e, ih, List.length_cons]
    congr 2 <;> omega
theorem pow_abs {s n : Nat} (hs : s ≤ 6) (hn : n ≤ 4) : ((s : Int) ^ n).natAbs < 2 ^ 63 := by
  rw [Int.natAbs_pow, Int.natAbs_natCast]
  have h1 : s ^ n ≤ 6 ^ n := Nat.pow_le_pow_left hs n
  have h2 : (6 : Nat) ^ n ≤ 6 ^ 4 := Nat.pow_le_pow_right (by decide) hn
  omega
theorem p_counted (k m s : Nat) (hm : m ≤ 4) (hs : s ≤ 6) (st : Store) : ∃ gb, G.call (k + 1) 43 [.int m, .int s] st = .ok (.tup [.ref (st ++ gb).length, .int ((s : Int) ^ m)]) (st ++ gb ++ [.dic (bkD (countF s m))]) := by
  have key : ∃ env' st', forL .no (.one 4) (evSs (G.ctx k) outB) ((List.range m).map fun i : Nat => D.int i) [some (.int m), some (.int s), some (.ref st.length), some (.int 1), none, none, none, none, none] (st ++ [O.dic (bkD (countF s 0))]) = .ok (.nx env') st' ∧
      ∃ gb y4 y5 y6 y7 y8, env' = [some (.int m), some (.int s), some (.ref (st ++ gb).length), some (.int ((s : Int) ^ m)), y4, y5, y6, y7, y8] ∧ st' = st ++ gb ++ [O.dic (bkD (countF s m))] := by
    obtain ⟨env', st', g1, gb, y4, y5, y6, y7, y8, g2, g3⟩ := forL_pre (g := .no) (tg := .one 4) (body := evSs (G.ctx k) outB) (fun i : Nat => D.int i) (fun (p : Bk × Int) _ => (addAll s p.1 [], p.2 * s))
      (fun p env st' => ∃ gb y4 y5 y6 y7 y8, env = [some (.int m), some (.int s), some (.ref (st ++ gb).length), some (.int p.2), y4, y5, y6, y7, y8] ∧ st' = st ++ gb ++ [O.dic (bkD p.1)]) (fun _ _ _ _ => rfl)
      (List.range m) (countF s 0, (s : Int) ^ 0) [some (.int m), some (.int s), some (.ref st.length), some (.int 1), none, none, none, none, none] (st ++ [O.dic (bkD (countF s 0))]) ⟨[], none, none, none, none, none, by simp, by simp⟩
      fun pre x post env st' hp ⟨gb, y4, y5, y6, y7, y8, e1, e2⟩ => by
        rw [iter_count] at e1 e2 ⊢
        subst e1 e2
        have hpl : pre.length + 1 ≤ m := by
          have := congrArg List.length hp
          simp at this
          omega
        have hlen := countF_len s (0 + pre.length)
        have hsm := pow_small (s := s) (n := 0 + pre.length) hs (by omega)
        obtain ⟨z5, z6, z7, z8, hz⟩ := out_turn (C := G.ctx k) (a0 := .int m) (a4 := .int x) (S0 := st) s hs (countF_ok s (0 + pre.length)) (by omega) (by omega) ((s : Int) ^ (0 + pre.length)) gb (pow_abs hs (by omega)) y5 y6 y7 y8
        exact ⟨_, _, _, rfl, hz, gb ++ [O.dic (bkD (countF s (0 + pre.length)))], some (.int x), z5, z6, z7, z8, rfl, rfl⟩
    rw [iter_count] at g2 g3
    simp only [List.length_range, Nat.zero_add] at g2 g3
    exact ⟨env', st', g1, gb, y4, y5, y6, y7, y8, g2, g3⟩
  obtain ⟨env', st', g1, gb, y4, y5, y6, y7, y8, g2, g3⟩ := key
  subst g2 g3
  refine ⟨gb, ?_⟩
  rw [call_of (d := ir_counted) rfl rfl]
  have eb : ir_counted.body = .cons (.set (.one 2) (.dct (.cons (.tup .nil) (.cons (.con (.int 1)) .nil)))) (.cons (.set (.one 3) (.con (.int 1))) (.cons (.for (.one 4) (.rng1 (.var 0)) outB) (.cons (.ret (.tup (.cons (.var 2) (.cons (.var 3) .nil)))) .nil))) := rfl
  rw [eb]
  show backR st (evSs (G.ctx k) _ [some (.int m), some (.int s), none, none, none, none, none, none, none] st) = _
  have ed : evE (G.ctx k) (.dct (.cons (.tup .nil) (.cons (.con (.int 1)) .nil))) [some (.int m), some (.int s), none, none, none, none, none, none, none] st = .ok (.ref st.length) (st ++ [O.dic (bkD (countF s 0))]) := by
    simp [pairUp, keysOk, dputs, dput, D.key, D.keys, D.isTup, countF, bkD, tupI]
  rw [ss_consE, s_setE, ed]
  simp only [R.bind_ok, asg, R.of_some, List.set_cons_succ, List.set_cons_zero]
  rw [ss_consE, s_setE, e_con]
  simp only [R.bind_ok, asg, R.of_some, List.set_cons_succ, List.set_cons_zero]
  have hfor := for_ev (C := G.ctx k) (t := .one 4) (it := .rng1 (.var 0)) (b := outB) (xs := (List.range m).map fun i : Nat => D.int i) (env := [some (.int m), some (.int s), some (.ref st.length), some (.int 1), none, none, none, none, none]) (st := st ++ [O.dic (bkD (countF s 0))]) (by
    rw [rng1_ev (y := (m : Int)) (by rw [e_var]; rfl) (by omega) (by omega), rngL_nat]
    simp) g1
  rw [ss_consE, hfor]
  simp only [R.bind_ok]
  rw [ss_consE, s_retE, e_tup]
  simp only [es_cons, es_nil, e_var, R.bind_ok, List.getElem?_cons_zero, List.getElem?_cons_succ, List.length_cons, List.length_nil]
  have hb : (D.tup [.ref (st ++ gb).length, .int ((s : Int) ^ m)]).low st.length = false := by
    simp [D.low, D.lows]
  rw [decide_eq_true (by decide), R.test_true, R.bind_ok, R.bind_ok]
  show backV st _ _ = _
  unfold backV
  rw [hb]
  simp
/-! ### throws_of -/
theorem ev_lcs {own : List Nat} {t : Tg} {it : It} {elt : E} {env : Env} {st st1 : Store} {α : Type} (e : α → D) (f : α → D) {xs : List α} (hI : evI C it env st = .ok (xs.map e, .no) st1)
    (h : ∀ x ∈ xs, ∃ env', asg t (e x) (wipes env own) = some env' ∧ evE C elt env' st1 = .ok (f x) st1) : evE C (.lc false own t it (.con (.bl true)) elt) env st = .ok (.lst (xs.map f)) st1 := by
  rw [evE, hI]
  simp only [R.bind_ok, Grd.lock]
  rw [lcL_map e f fun x hx => ?_]
  · simp [Grd.out, Grd.holds, Grd.free]
  · obtain ⟨env', h1, h2⟩ := h x hx
    exact ⟨env', h1, by simp, h2⟩
/-- all that n dice of s sides show, with its share -/
def thF (s n : Nat) : List (Row × Rat) := (sortR (bkeys (countF s n))).map fun t => (t, mkRat (bgetD (countF s n) t) (s ^ n))
def prD (p : Row × Rat) : D := .tup [tupI p.1, frD p.2]
theorem mem_sortR {ks : List Row} {r : Row} : r ∈ sortR ks ↔ r ∈ ks := mem_isort
theorem sorted_dic {S : Store} {i : Nat} {b : Bk} (h : S[i]? = some (.dic (bkD b))) : bltD .sorted [.ref i] S = .ok (.lst ((sortR (bkeys b)).map tupI)) S := by
  simp only [bltD, h, bkD_keys, sortD_rows, R.of_some, R.bind_ok]
theorem backV_cut (st more : Store) (v : D) (h : v.low st.length = true) : backV st v (st ++ more) = .ok v st := by
  unfold backV
  rw [h]
  have e : (st ++ more).take st.length = st := by simp
  have k : keepN st.length st (st ++ more) = true := by
    unfold keepN
    rw [e]
    simp
  rw [k, e]
  rfl
theorem low_fr (n : Nat) (q : Rat) : (frD q).low n = true := by simp [frD, D.low, D.lows]
theorem low_pr (n : Nat) (p : Row × Rat) : (prD p).low n = true := by simp [prD, D.low, D.lows, low_fr]
theorem lows_map {α : Type} (n : Nat) (f : α → D) (h : ∀ x, (f x).low n = true) : ∀ xs : List α, D.lows n (xs.map f) = true
  | [] => by simp [D.lows]
  | x :: xs => by rw [List.map_cons, D.lows, h x, lows_map n f h xs]; rfl
theorem bget_key {b : Bk} {r : Row} (h : r ∈ bkeys b) : bget? b r = some (bgetD b r) := by
  induction b with
  | nil => cases h
  | cons p b ih =>
    obtain ⟨a, v⟩ := p
    unfold bgetD
    rw [bget?]
    by_cases e : a = r
    · rw [if_pos e]; rfl
    · rw [if_neg e]
      have h2 : r ∈ bkeys b := by
        rcases List.mem_cons.mp h with z | z
        · exact absurd z.symm e
        · exact z
      have := ih h2
      rw [this]
      rfl
/-- the counts are small -/
def small (b : Bk) : Prop := ∀ r, (bgetD b r).natAbs < 2 ^ 100
theorem p_throws (k m s : Nat) (hm : m ≤ 4) (hs : s ≤ 6) (hs0 : 0 < s) (hsm : small (countF s m)) (st : Store) : G.call (k + 2) 44 [.int m, .int s] st = .ok (.tup ((thF s m).map prD)) st := by
  obtain ⟨gb, hc⟩ := p_counted k m s hm hs st
  have hi : (st ++ gb ++ [O.dic (bkD (countF s m))])[(st ++ gb).length]? = some (.dic (bkD (countF s m))) := by
    rw [List.getElem?_append_right (Nat.le_refl _)]
    simp
  have hp : 0 < s ^ m := Nat.pow_pos hs0
  have hp2 : s ^ m < 2 ^ 3000 := by
    have h1 : s ^ m ≤ 6 ^ m := Nat.pow_le_pow_left hs m
    have h2 : (6 : Nat) ^ m ≤ 6 ^ 4 := Nat.pow_le_pow_right (by decide) hm
    exact Nat.lt_of_le_of_lt (Nat.le_trans h1 h2) (by decide)
  have hlc : evE (G.ctx (k + 1)) (.lc false [4] (.one 4) (.seq (.blt .sorted (.cons (.var 2) .nil))) (.con (.bl true)) (.tup (.cons (.var 4) (.cons (.call 42 (.cons (.idx (.var 2) (.var 4)) (.cons (.var 3) .nil))) .nil)))) [some (.int m), some (.int s), some (.ref (st ++ gb).length), some (.int ((s : Int) ^ m)), none] (st ++ gb ++ [O.dic (bkD (countF s m))]) =
      .ok (.lst ((sortR (bkeys (countF s m))).map fun t => prD (t, mkRat (bgetD (countF s m) t) (s ^ m)))) (st ++ gb ++ [O.dic (bkD (countF s m))]) := by
    refine ev_lcs tupI _ ?_ fun t ht => ⟨_, rfl, ?_⟩
    · rw [i_seq, e_blt]
      simp only [es_cons, es_nil, e_var, R.bind_ok, List.getElem?_cons_zero, List.getElem?_cons_succ]
      rw [sorted_dic hi]
      rfl
    · have hk : keyOk (bkD (countF s m)) (tupI t) = true := keyOk_bk _ _
      have hg := bget_key (mem_sortR.mp ht)
      simp only [wipes, asg, List.set_cons_succ, List.set_cons_zero, e_tup, es_cons, es_nil, e_var, e_call, e_idx, R.bind_ok, List.getElem?_cons_zero, List.getElem?_cons_succ, idxD, hi, hk, R.test_true, dget_bk, hg, Option.map_some, R.of_some]
      have hz : ((s : Int) ^ m) = ((s ^ m : Nat) : Int) := by simp
      rw [hz]
      have hpl := p_plain k (bgetD (countF s m) t) (s ^ m) hp (Nat.lt_trans (hsm t) (by decide)) hp2 (st ++ gb ++ [O.dic (bkD (countF s m))])
      rw [hpl]
      rfl
  rw [call_of (d := ir_throws_of) rfl rfl]
  have eb : ir_throws_of.body = .cons (.set (.many [2, 3]) (.call 43 (.cons (.var 0) (.cons (.var 1) .nil)))) (.cons (.ret (.blt .tuple (.cons (.lc false [4] (.one 4) (.seq (.blt .sorted (.cons (.var 2) .nil))) (.con (.bl true)) (.tup (.cons (.var 4) (.cons (.call 42 (.cons (.idx (.var 2) (.var 4)) (.cons (.var 3) .nil))) .nil)))) .nil))) .nil) := rfl
  rw [eb]
  show backR st (evSs (G.ctx (k + 1)) _ [some (.int m), some (.int s), none, none, none] st) = _
  rw [ss_consE, s_setE, e_call]
  simp only [es_cons, es_nil, e_var, R.bind_ok, List.getElem?_cons_zero, List.getElem?_cons_succ]
  rw [hc]
  simp only [R.bind_ok, asg, asgs, R.of_some, List.set_cons_succ, List.set_cons_zero]
  rw [ss_consE, s_retE, e_blt, es_cons, hlc]
  simp only [R.bind_ok, es_nil, tuple_lst]
  show backV st _ _ = _
  rw [List.append_assoc, backV_cut]
  · simp [thF]
  · rw [D.low]
    exact lows_map _ _ (fun t => low_pr _ _) _
end
end EV
end
section
set_option exponentiation.threshold 5000
/-! Pu8: after, and the law's throws. -/
namespace EV
open PySem

/-! ### pairs sorted -/
def sortP (l : List (Row × Rat)) : List (Row × Rat) := isort (fun a b => !ltR b.1 a.1) l
theorem lt_pr {a b : Row × Rat} (h : a.1 ≠ b.1) : D.lt (prD a) (prD b) = ltR a.1 b.1 := by
  unfold prD
  rw [D.lt, D.lts, eqv_tupI, decide_eq_false h, if_neg Bool.false_ne_true, lt_tupI]
theorem lt_fr_self (q : Rat) : D.lt (frD q) (frD q) = false := by
  simp [frD, D.lt, D.lts, D.eqv]
theorem eqv_fr_self (q : Rat) : D.eqv (frD q) (frD q) = true := by
  simp [frD, D.eqv, D.eqvs]
theorem lt_pr_self (a : Row × Rat) : D.lt (prD a) (prD a) = false := by
  unfold prD
  rw [D.lt, D.lts, eqv_tupI, decide_eq_true rfl, if_pos rfl, D.lts, eqv_fr_self, if_pos rfl, D.lts]
  all_goals simp
theorem ltR_self : ∀ a : Row, ltR a a = false
  | [] => rfl
  | x :: xs => by rw [ltR, if_pos rfl]; exact ltR_self xs
theorem flats_prs : ∀ l : List (Row × Rat), D.flats 20 (l.map prD) = true
  | [] => by simp [D.flats]
  | p :: l => by
    rw [List.map_cons, D.flats, flats_prs l, prD, D.flat, D.flats, D.flats, D.flats, flat_tupI]
    simp [frD, D.flat, D.flats]
theorem cmpT_prs (a b : Row × Rat) : D.cmpT (prD a).its (prD b).its = true := by
  simp [prD, D.its, D.cmpT, frD, D.alike, D.alikes]
theorem sortOk_prs (l : List (Row × Rat)) : sortOk (l.map prD) = true := by
  rw [sortOk, flats_prs l]
  have e1 : ((l.map prD).all fun x => x.isTup) = true := by
    rw [List.all_eq_true]; intro p hp; obtain ⟨q, _, rfl⟩ := List.mem_map.mp hp; rfl
  have e2 : ((l.map prD).all fun x => x.neT) = true := by
    rw [List.all_eq_true]; intro p hp; obtain ⟨q, _, rfl⟩ := List.mem_map.mp hp; rfl
  rw [e1, e2, if_pos rfl, Bool.and_self, Bool.true_and, List.all_eq_true]
  intro x hx
  rw [List.all_eq_true]
  intro y hy
  obtain ⟨a, _, rfl⟩ := List.mem_map.mp hx
  obtain ⟨b, _, rfl⟩ := List.mem_map.mp hy
  exact cmpT_prs a b
theorem nodup_key {l : List (Row × Rat)} (h : (l.map (·.1)).Nodup) {a b : Row × Rat} (ha : a ∈ l) (hb : b ∈ l) (e : a.1 = b.1) : a = b := by
  induction l with
  | nil => cases ha
  | cons p l ih =>
    rw [List.map_cons, List.nodup_cons] at h
    rcases List.mem_cons.mp ha with rfl | ha
    · rcases List.mem_cons.mp hb with rfl | hb
      · rfl
      · exact absurd (List.mem_map.mpr ⟨b, hb, e.symm⟩) h.1
    · rcases List.mem_cons.mp hb with e2 | hb
      · rw [e2] at e
        exact absurd (List.mem_map.mpr ⟨a, ha, e⟩) h.1
      · exact ih h.2 ha hb
theorem sortD_prs (l : List (Row × Rat)) (h : (l.map (·.1)).Nodup) : sortD (l.map prD) = some ((sortP l).map prD) := by
  have e3 : isort (fun a b => !D.lt (prD b) (prD a)) l = sortP l := by
    refine isort_congr fun a ha b hb => ?_
    by_cases e : b.1 = a.1
    · have := nodup_key h hb ha e
      subst this
      rw [lt_pr_self, ltR_self]
    · rw [lt_pr e]
  cases l with
  | nil => simp [sortD, intsOf, sortP, isort, sortI]
  | cons k ks =>
    have e : intsOf ((k :: ks).map prD) = none := rfl
    rw [sortD, e]
    show (match sortOk ((k :: ks).map prD) with | true => some (sortT ((k :: ks).map prD)) | false => none) = _
    rw [sortOk_prs]
    show some (sortT ((k :: ks).map prD)) = _
    rw [sortT, ← isort_map (f := prD) (r := fun a b => !D.lt (prD b) (prD a)) (fun a b => rfl), e3]
/-- what comes if kept is kept and n dice are thrown -/
def afF (s n : Nat) (kept : Row) : List (Row × Rat) := sortP ((thF s n).map fun p => (sortI (kept ++ p.1), p.2))
theorem perm_sortI {a b : Row} (h : a.Perm b) : sortI a = sortI b := by
  have h1 := isort_sorted leI a
  have h2 := isort_sorted leI b
  have hp : (sortI a).Perm (sortI b) := (sortI_perm a).trans (h.trans (sortI_perm b).symm)
  exact hp.eq_of_pairwise (le := fun a b => decide (a ≤ b) = true) (fun x y _ _ h1 h2 => by simp only [decide_eq_true_eq] at h1 h2; omega) h1 h2
theorem sortI_iff {a b : Row} : sortI a = sortI b ↔ a.Perm b :=
  ⟨fun h => (sortI_perm a).symm.trans (h ▸ sortI_perm b), perm_sortI⟩
theorem thF_keys (s n : Nat) : ((thF s n).map (·.1)) = sortR (bkeys (countF s n)) := by
  rw [thF, List.map_map]
  show (sortR (bkeys (countF s n))).map (fun t => t) = _
  simp
theorem sortR_nodup {ks : List Row} (h : ks.Nodup) : (sortR ks).Nodup := (perm_isort (le := fun a b => !ltR b a)).nodup_iff.mpr h
/-- the keys of a book of throws are rising -/
theorem bset_all {P : Row → Prop} {b : Bk} {k : Row} {v : Int} (h : ∀ r ∈ bkeys b, P r) (hk : P k) : ∀ r ∈ bkeys (bset b k v), P r := fun r hr => (bset_mem hr).elim (fun e => e ▸ hk) (h r)
theorem sortI_idem (r : Row) : sortI (sortI r) = sortI r := perm_sortI (sortI_perm r)
theorem countF_rise (s : Nat) : ∀ n, ∀ r ∈ bkeys (countF s n), sortI r = r
  | 0, r, hr => by
    have : r = [] := by simpa [countF, bkeys] using hr
    rw [this]; rfl
  | n + 1, r, hr => by
    have one : ∀ (t : Row) (c : Int) (ds : List Int) (M : Bk), (∀ r ∈ bkeys M, sortI r = r) → ∀ r ∈ bkeys (ds.foldl (fun M d => badd M (sortI (t ++ [d])) c) M), sortI r = r := by
      intro t c ds
      induction ds with
      | nil => intro M h; exact h
      | cons d ds ih => intro M h; exact ih _ (bset_all h (sortI_idem _))
    have all : ∀ (F M : Bk), (∀ r ∈ bkeys M, sortI r = r) → ∀ r ∈ bkeys (addAll s F M), sortI r = r := by
      intro F
      induction F with
      | nil => intro M h; exact h
      | cons p F ih => intro M h; exact ih _ (one p.1 p.2 _ M h)
    exact all _ [] (fun r hr => by cases hr) r hr
theorem af_nodup (s n : Nat) (kept : Row) : (((thF s n).map fun p => (sortI (kept ++ p.1), p.2)).map (·.1)).Nodup := by
  rw [List.map_map]
  have e : ((fun x : Row × Rat => x.1) ∘ fun p : Row × Rat => (sortI (kept ++ p.1), p.2)) = (fun r => sortI (kept ++ r)) ∘ (·.1) := rfl
  rw [e, ← List.map_map, thF_keys]
  have nd := sortR_nodup (countF_ok s n).1
  have hr : ∀ r ∈ sortR (bkeys (countF s n)), sortI r = r := fun r hr => countF_rise s n r (mem_sortR.mp hr)
  generalize sortR (bkeys (countF s n)) = ks at nd hr
  induction ks with
  | nil => exact List.nodup_nil
  | cons k ks ih =>
    rw [List.nodup_cons] at nd
    rw [List.map_cons, List.nodup_cons]
    refine ⟨fun h => ?_, ih nd.2 fun r h => hr r (List.mem_cons_of_mem _ h)⟩
    obtain ⟨r, h1, h2⟩ := List.mem_map.mp h
    have hp := sortI_iff.mp h2
    have hp2 := (List.perm_append_left_iff kept).mp hp
    have e2 := perm_sortI hp2
    rw [hr r (List.mem_cons_of_mem _ h1), hr k (List.mem_cons_self ..)] at e2
    exact nd.1 (e2 ▸ h1)
theorem thF_len {s n : Nat} {p : Row × Rat} (h : p ∈ thF s n) : p.1.length = n := by
  obtain ⟨t, ht, rfl⟩ := List.mem_map.mp h
  exact (countF_ok s n).2 t (mem_sortR.mp ht)
theorem p_after (k m s : Nat) (kept : Row) (rest : List D) (hk : kept.length ≤ m) (hm : m ≤ 4) (hs : s ≤ 6) (hs0 : 0 < s) (hsm : small (countF s (m - kept.length))) (st : Store) :
    G.call (k + 3) 46 [.tup (.int m :: .int s :: rest), tupI kept] st = .ok (.tup ((afF s (m - kept.length) kept).map prD)) st := by
  have hth := p_throws k (m - kept.length) s (by omega) hs hs0 hsm st
  have i0 : getAt (D.int m :: D.int s :: rest) 0 = some (.int m) := getAt_nat _ 0 (by simp)
  have i1 : getAt (D.int m :: D.int s :: rest) 1 = some (.int s) := getAt_nat _ 1 (by simp)
  have hlc : evE (G.ctx (k + 2)) (.lc false [3, 4] (.many [3, 4]) (.seq (.call 44 (.cons (.bin .Sub (.idx (.var 0) (.con (.int 0))) (.blt .len (.cons (.var 1) .nil))) (.cons (.idx (.var 0) (.con (.int 1))) .nil)))) (.con (.bl true)) (.tup (.cons (.blt .tuple (.cons (.blt .sorted (.cons (.bin .Add (.var 1) (.var 3)) .nil)) .nil)) (.cons (.var 4) .nil)))) [some (.tup (.int m :: .int s :: rest)), some (tupI kept), none, none, none] st =
      .ok (.lst ((thF s (m - kept.length)).map fun p => prD (sortI (kept ++ p.1), p.2))) st := by
    refine ev_lcs prD _ ?_ fun p hp => ⟨_, rfl, ?_⟩
    · rw [i_seq, e_call]
      simp only [es_cons, es_nil, e_var, e_bin, e_idx, e_con, e_blt, R.bind_ok, List.getElem?_cons_zero, List.getElem?_cons_succ, idxD, i0, i1, R.of_some, len_tupI, sub1]
      have e : ((m : Int) - (kept.length : Int)) = ((m - kept.length : Nat) : Int) := by omega
      rw [e, hth]
      rfl
    · have hl := thF_len hp
      simp only [wipes, asg, asgs, List.set_cons_succ, List.set_cons_zero, e_tup, es_cons, es_nil, e_var, e_blt, e_bin, R.bind_ok, List.getElem?_cons_zero, List.getElem?_cons_succ]
      rw [add_tupI _ _ _ (by omega)]
      simp only [R.bind_ok, sorted_tupI, tuple_lst]
      rfl
  rw [call_of (d := ir_after) rfl rfl]
  have eb : ir_after.body = .cons (.set (.one 2) (.lc false [3, 4] (.many [3, 4]) (.seq (.call 44 (.cons (.bin .Sub (.idx (.var 0) (.con (.int 0))) (.blt .len (.cons (.var 1) .nil))) (.cons (.idx (.var 0) (.con (.int 1))) .nil)))) (.con (.bl true)) (.tup (.cons (.blt .tuple (.cons (.blt .sorted (.cons (.bin .Add (.var 1) (.var 3)) .nil)) .nil)) (.cons (.var 4) .nil))))) (.cons (.ret (.blt .tuple (.cons (.blt .sorted (.cons (.var 2) .nil)) .nil))) .nil) := rfl
  rw [eb]
  show backR st (evSs (G.ctx (k + 2)) _ [some (.tup (.int m :: .int s :: rest)), some (tupI kept), none, none, none] st) = _
  rw [ss_consE, s_setE, hlc]
  simp only [R.bind_ok, asg, R.of_some, List.set_cons_succ, List.set_cons_zero]
  rw [ss_consE, s_retE]
  have e2 : ((thF s (m - kept.length)).map fun p => prD (sortI (kept ++ p.1), p.2)) = ((thF s (m - kept.length)).map fun p => (sortI (kept ++ p.1), p.2)).map prD := by rw [List.map_map]; rfl
  have hs1 : bltD .sorted [.lst ((thF s (m - kept.length)).map fun p => prD (sortI (kept ++ p.1), p.2))] st = .ok (.lst ((afF s (m - kept.length) kept).map prD)) st := by
    simp only [bltD]
    rw [e2, sortD_prs _ (af_nodup s _ kept)]
    rfl
  simp only [e_blt, es_cons, es_nil, e_var, R.bind_ok, List.getElem?_cons_zero, List.getElem?_cons_succ, hs1, tuple_lst]
  show backV st _ _ = _
  simp
end EV
end
section
set_option exponentiation.threshold 5000
/-! Pu9: the law's own throws. -/
namespace EV
open PySem

def rowsF (s : Nat) : Nat → List Row
  | 0 => [[]]
  | n + 1 => (rowsF s n).flatMap fun r => (dies s).map fun d => r ++ [d]
theorem rowsF_len (s : Nat) : ∀ n, (rowsF s n).length = s ^ n
  | 0 => rfl
  | n + 1 => by
    rw [rowsF, List.length_flatMap]
    have e : (rowsF s n).map (fun r => ((dies s).map fun d => r ++ [d]).length) = (rowsF s n).map fun _ => s := by
      refine List.map_congr_left fun r _ => ?_
      simp [dies]
    rw [e, List.map_const', List.sum_replicate_nat, rowsF_len s n, Nat.pow_succ]
theorem rowsF_row (s : Nat) : ∀ n, ∀ r ∈ rowsF s n, r.length = n
  | 0, r, h => by
    have : r = [] := by simpa [rowsF] using h
    rw [this]; rfl
  | n + 1, r, h => by
    obtain ⟨q, h1, h2⟩ := List.mem_flatMap.mp h
    obtain ⟨d, _, rfl⟩ := List.mem_map.mp h2
    simp [rowsF_row s n q h1]
def lBk (s n : Nat) (kept : Row) : Bk := (rowsF s n).foldl (fun b r => badd b (sortI (kept ++ r)) 1) []
def ltF (s n : Nat) (kept : Row) : List (Row × Rat) := (sortR (bkeys (lBk s n kept))).map fun t => (t, mkRat (bgetD (lBk s n kept) t) (s ^ n))
def rowB : Ss := .cons (.set (.one 6) (.bin .Add (.var 6) (.lc false [8] (.one 8) (.rng2 (.con (.int 1)) (.bin .Add (.idx (.var 0) (.con (.int 1))) (.con (.int 1)))) (.con (.bl true)) (.bin .Add (.var 5) (.tup (.cons (.var 8) .nil)))))) .nil
def longB : Ss := .cons (.set (.one 6) (.lst .nil)) (.cons (.for (.one 5) (.seq (.var 2)) rowB) (.cons (.set (.one 2) (.var 6)) .nil))
def bookB : Ss := .cons (.set (.one 7) (.blt .tuple (.cons (.blt .sorted (.cons (.bin .Add (.var 1) (.var 5)) .nil)) .nil))) (.cons (.put (.var 4) (.var 7) (.bin .Add (.mth .get2 (.var 4) (.cons (.var 7) (.cons (.con (.int 0)) .nil))) (.con (.int 1)))) .nil)
section
variable {C : Ctx} {m s : Nat} {rest : List D} {kept : Row}
theorem row_turn (hs : s ≤ 6) (L : List Row) (hL : L.length ≤ 100000) (r : Row) (hr : r.length ≤ 100) (x2 x3 x4 x7 x8 : Option D) (st : Store) :
    evSs C rowB [some (.tup (.int m :: .int s :: rest)), some (tupI kept), x2, x3, x4, some (tupI r), some (.lst (L.map tupI)), x7, x8] st =
      .ok (.nx [some (.tup (.int m :: .int s :: rest)), some (tupI kept), x2, x3, x4, some (tupI r), some (.lst ((L ++ (dies s).map fun d => r ++ [d]).map tupI)), x7, x8]) st := by
  have i1 : getAt (D.int m :: D.int s :: rest) 1 = some (.int s) := getAt_nat _ 1 (by simp)
  have hlc : evE C (.lc false [8] (.one 8) (.rng2 (.con (.int 1)) (.bin .Add (.idx (.var 0) (.con (.int 1))) (.con (.int 1)))) (.con (.bl true)) (.bin .Add (.var 5) (.tup (.cons (.var 8) .nil)))) [some (.tup (.int m :: .int s :: rest)), some (tupI kept), x2, x3, x4, some (tupI r), some (.lst (L.map tupI)), x7, x8] st =
      .ok (.lst ((dies s).map fun d => tupI (r ++ [d]))) st := by
    refine ev_lcs D.int _ ?_ fun d hd => ⟨_, rfl, ?_⟩
    · rw [← rng_dies]
      exact rng2_ev (by rw [e_con]) (by simp only [e_bin, e_idx, e_var, e_con, R.bind_ok, List.getElem?_cons_zero, List.getElem?_cons_succ, idxD, i1, R.of_some, add1]) (by decide) (by decide) (by omega) (by omega)
    · have := add_tupI r [d] st (by simp; omega)
      simp only [wipes, asg, List.set_cons_succ, List.set_cons_zero, e_bin, e_tup, es_cons, es_nil, e_var, R.bind_ok, List.getElem?_cons_zero, List.getElem?_cons_succ]
      simpa [tupI] using this
  have hdl : (dies s).length = s := by simp [dies]
  unfold rowB
  rw [ss_consE, s_setE, e_bin]
  simp only [e_var, List.getElem?_cons_zero, List.getElem?_cons_succ, R.bind_ok, hlc, addL, List.length_map, hdl]
  rw [decide_eq_true (by unfold lim; omega)]
  simp only [R.test_true, R.bind_ok, asg, R.of_some, List.set_cons_succ, List.set_cons_zero, ss_nilE, List.map_append, List.map_map]
  rfl
theorem long_turn (hs : s ≤ 6) (Rs : List Row) (hR : Rs.length ≤ 2000) (hr : ∀ r ∈ Rs, r.length ≤ 100) (x3 x4 x5 x6 x7 x8 : Option D) (st : Store) :
    ∃ y5 y6, evSs C longB [some (.tup (.int m :: .int s :: rest)), some (tupI kept), some (.lst (Rs.map tupI)), x3, x4, x5, x6, x7, x8] st =
      .ok (.nx [some (.tup (.int m :: .int s :: rest)), some (tupI kept), some (.lst ((Rs.flatMap fun r => (dies s).map fun d => r ++ [d]).map tupI)), x3, x4, y5, y6, x7, x8]) st := by
  have hdl : (dies s).length = s := by simp [dies]
  have flen : ∀ (pre : List Row) (L : List Row), (pre.foldl (fun L r => L ++ (dies s).map fun d => r ++ [d]) L) = L ++ pre.flatMap fun r => (dies s).map fun d => r ++ [d] := by
    intro pre
    induction pre with
    | nil => intro L; simp
    | cons r pre ih => intro L; rw [List.foldl_cons, ih, List.flatMap_cons, List.append_assoc]
  obtain ⟨env', st', g1, y5, g2, g3⟩ := forL_pre (g := .no) (tg := .one 5) (body := evSs C rowB) tupI (fun (L : List Row) r => L ++ (dies s).map fun d => r ++ [d])
    (fun L env st' => ∃ y5, env = [some (.tup (.int m :: .int s :: rest)), some (tupI kept), some (.lst (Rs.map tupI)), x3, x4, y5, some (.lst (L.map tupI)), x7, x8] ∧ st' = st) (fun _ _ _ _ => rfl)
    Rs [] [some (.tup (.int m :: .int s :: rest)), some (tupI kept), some (.lst (Rs.map tupI)), x3, x4, x5, some (.lst []), x7, x8] st ⟨x5, rfl, rfl⟩ fun pre r post env st' hp ⟨y5, e1, e2⟩ => by
      subst e1 e2
      have hpl : pre.length ≤ 2000 := by
        have := congrArg List.length hp
        simp at this
        omega
      have hl : (pre.foldl (fun L r => L ++ (dies s).map fun d => r ++ [d]) []).length ≤ 100000 := by
        rw [flen, List.nil_append, List.length_flatMap]
        have e : pre.map (fun r => ((dies s).map fun d => r ++ [d]).length) = pre.map fun _ => s := by
          refine List.map_congr_left fun r _ => ?_
          simp [dies]
        rw [e, List.map_const', List.sum_replicate_nat]
        have := Nat.mul_le_mul hpl hs
        omega
      have z := row_turn (C := C) (m := m) (s := s) (rest := rest) (kept := kept) hs _ hl r (hr r (by rw [hp]; simp)) (some (.lst (Rs.map tupI))) x3 x4 x7 x8 st'
      exact ⟨_, _, _, rfl, z, ⟨_, rfl, rfl⟩⟩
  subst g2 g3
  rw [flen, List.nil_append] at g1
  have hfor := for_ev (C := C) (t := .one 5) (it := .seq (.var 2)) (b := rowB) (xs := Rs.map tupI) (by rw [i_seq, e_var]; rfl) g1
  refine ⟨y5, some (.lst ((Rs.flatMap fun r => (dies s).map fun d => r ++ [d]).map tupI)), ?_⟩
  unfold longB
  rw [ss_consE, s_setE, e_lst, es_nil]
  simp only [R.bind_ok, List.length_nil, asg, R.of_some, List.set_cons_succ, List.set_cons_zero]
  rw [decide_eq_true (by decide), R.test_true, R.bind_ok, R.bind_ok]
  show evSs C (.cons (.for (.one 5) (.seq (.var 2)) rowB) (.cons (.set (.one 2) (.var 6)) .nil)) _ _ = _
  rw [ss_consE, hfor]
  simp only [R.bind_ok, ss_consE, s_setE, e_var, List.getElem?_cons_zero, List.getElem?_cons_succ, asg, R.of_some, List.set_cons_succ, List.set_cons_zero, ss_nilE]
theorem book_turn {j : Nat} {S : Store} (hj : j < S.length) {M : Bk} (hM : M.length < 100000) (hk : kept.length ≤ 100) (r : Row) (hr : r.length ≤ 100) (x0 x2 x3 x6 x7 x8 : Option D) :
    evSs C bookB [x0, some (tupI kept), x2, x3, some (.ref j), some (tupI r), x6, x7, x8] (S.set j (.dic (bkD M))) =
      .ok (.nx [x0, some (tupI kept), x2, x3, some (.ref j), some (tupI r), x6, some (tupI (sortI (kept ++ r))), x8]) (S.set j (.dic (bkD (badd M (sortI (kept ++ r)) 1)))) := by
  have hg : (S.set j (.dic (bkD M)))[j]? = some (.dic (bkD M)) := get_set_eq hj
  have hk2 : keyOk (bkD M) (tupI (sortI (kept ++ r))) = true := keyOk_bk _ _
  unfold bookB
  rw [ss_consE, s_setE]
  simp only [e_blt, es_cons, es_nil, e_bin, e_var, R.bind_ok, List.getElem?_cons_zero, List.getElem?_cons_succ]
  rw [add_tupI _ _ _ (by omega)]
  simp only [R.bind_ok, sorted_tupI, tuple_lst, asg, R.of_some, List.set_cons_succ, List.set_cons_zero]
  have etup : D.tup ((sortI (kept ++ r)).map D.int) = tupI (sortI (kept ++ r)) := rfl
  rw [etup, ss_consE, s_putE, e_bin, e_mth, e_var]
  simp only [List.getElem?_cons_zero, List.getElem?_cons_succ, R.bind_ok, Mth.ok, D.kd, hg, Mth.kd, decide_true, R.test_true, es_cons, e_var, e_con, es_nil, mthD, hk2, dget_bk]
  have e2 : (Option.map D.int (bget? M (sortI (kept ++ r)))).getD (.int 0) = .int (bgetD M (sortI (kept ++ r))) := by
    unfold bgetD
    cases bget? M (sortI (kept ++ r)) <;> rfl
  rw [e2, add1]
  simp only [R.bind_ok, hg, hk2, bkD_len, Bool.true_and]
  rw [decide_eq_true (by omega)]
  simp only [R.test_true, R.bind_ok, ss_nilE, dput_bk, List.set_set]
  rfl
end
theorem iter_rows (s : Nat) {α : Type} : ∀ (xs : List α) (a : Nat), xs.foldl (fun (L : List Row) _ => L.flatMap fun r => (dies s).map fun d => r ++ [d]) (rowsF s a) = rowsF s (a + xs.length)
  | [], a => rfl
  | x :: xs, a => by
    have ih := iter_rows s xs (a + 1)
    rw [List.foldl_cons]
    have e : ((rowsF s a).flatMap fun r => (dies s).map fun d => r ++ [d]) = rowsF s (a + 1) := rfl
    rw [e, ih, List.length_cons]
    congr 1
    omega
theorem pow_1296 {s n : Nat} (hs : s ≤ 6) (hn : n ≤ 4) : s ^ n ≤ 1296 := by
  have h1 : s ^ n ≤ 6 ^ n := Nat.pow_le_pow_left hs n
  have h2 : (6 : Nat) ^ n ≤ 6 ^ 4 := Nat.pow_le_pow_right (by decide) hn
  omega
theorem p_lthrows (k m s : Nat) (kept : Row) (rest : List D) (hk : kept.length ≤ m) (hm : m ≤ 4) (hs : s ≤ 6) (hs0 : 0 < s) (hsm : small (lBk s (m - kept.length) kept)) (st : Store) :
    G.call (k + 2) 49 [.tup (.int m :: .int s :: rest), tupI kept] st = .ok (.lst ((ltF s (m - kept.length) kept).map prD)) st := by
  have i0 : getAt (D.int m :: D.int s :: rest) 0 = some (.int m) := getAt_nat _ 0 (by simp)
  have hn4 : m - kept.length ≤ 4 := by omega
  generalize hn : m - kept.length = n at *
  -- the rows
  obtain ⟨env1, st1, g1, y3, y5, y6, g2, g3⟩ := forL_pre (g := .no) (tg := .one 3) (body := evSs (G.ctx (k + 1)) longB) (fun i : Nat => D.int i) (fun (L : List Row) (_ : Nat) => L.flatMap fun r => (dies s).map fun d => r ++ [d])
    (fun L env st' => ∃ y3 y5 y6, env = [some (.tup (.int m :: .int s :: rest)), some (tupI kept), some (.lst (L.map tupI)), y3, none, y5, y6, none, none] ∧ st' = st) (fun _ _ _ _ => rfl)
    (List.range n) (rowsF s 0) [some (.tup (.int m :: .int s :: rest)), some (tupI kept), some (.lst ((rowsF s 0).map tupI)), none, none, none, none, none, none] st ⟨none, none, none, rfl, rfl⟩ fun pre x post env st' hp ⟨y3, y5, y6, e1, e2⟩ => by
      rw [iter_rows] at e1 ⊢
      subst e1 e2
      have hpl : pre.length + 1 ≤ n := by
        have := congrArg List.length hp
        simp at this
        omega
      have hl : (rowsF s (0 + pre.length)).length ≤ 2000 := by
        rw [rowsF_len]
        have := pow_1296 (s := s) (n := 0 + pre.length) hs (by omega)
        omega
      obtain ⟨z5, z6, hz⟩ := long_turn (C := G.ctx (k + 1)) (m := m) (s := s) (rest := rest) (kept := kept) hs _ hl (fun r hr => by rw [rowsF_row s _ r hr]; omega) (some (.int x)) none y5 y6 none none st'
      exact ⟨_, _, _, rfl, hz, some (.int x), z5, z6, rfl, rfl⟩
  rw [iter_rows] at g2
  simp only [List.length_range, Nat.zero_add] at g2
  subst g2 g3
  -- the book
  obtain ⟨env2, st2, b1, z5, z7, b2, b3⟩ := forL_pre (g := .no) (tg := .one 5) (body := evSs (G.ctx (k + 1)) bookB) tupI (fun (b : Bk) r => badd b (sortI (kept ++ r)) 1)
    (fun b env st' => ∃ z5 z7, env = [some (.tup (.int m :: .int s :: rest)), some (tupI kept), some (.lst ((rowsF s n).map tupI)), y3, some (.ref st1.length), z5, y6, z7, none] ∧ st' = (st1 ++ [O.dic []]).set st1.length (.dic (bkD b))) (fun _ _ _ _ => rfl)
    (rowsF s n) [] [some (.tup (.int m :: .int s :: rest)), some (tupI kept), some (.lst ((rowsF s n).map tupI)), y3, some (.ref st1.length), y5, y6, none, none] (st1 ++ [O.dic []]) ⟨y5, none, rfl, by simp [bkD]⟩ fun pre r post env st' hp ⟨z5, z7, e1, e2⟩ => by
      subst e1 e2
      have hpl : pre.length ≤ 2000 := by
        have := congrArg List.length hp
        rw [rowsF_len] at this
        simp at this
        have := pow_1296 (s := s) (n := n) hs (by omega)
        omega
      have hlen := addAll_len (fun r => sortI (kept ++ r)) (fun _ => (1 : Int)) pre []
      have z := book_turn (C := G.ctx (k + 1)) (kept := kept) (S := st1 ++ [O.dic []]) (j := st1.length) (by simp) (M := pre.foldl (fun b r => badd b (sortI (kept ++ r)) 1) []) (by simp only [List.length_nil] at hlen; omega) (by omega) r (by rw [rowsF_row s n r (by rw [hp]; simp)]; omega) (some (.tup (.int m :: .int s :: rest))) (some (.lst ((rowsF s n).map tupI))) y3 y6 z7 none
      exact ⟨_, _, _, rfl, z, ⟨_, _, rfl, rfl⟩⟩
  have eS : (st1 ++ [O.dic []]).set st1.length (.dic (bkD (lBk s n kept))) = st1 ++ [O.dic (bkD (lBk s n kept))] := by simp
  have b3 : st2 = st1 ++ [O.dic (bkD (lBk s n kept))] := b3.trans eS
  subst b2 b3
  have hi : (st1 ++ [O.dic (bkD (lBk s n kept))])[st1.length]? = some (.dic (bkD (lBk s n kept))) := by simp
  have hp : 0 < s ^ n := Nat.pow_pos hs0
  have hp2 : s ^ n < 2 ^ 3000 := Nat.lt_of_le_of_lt (pow_1296 hs (by omega)) (by decide)
  have hlc : evE (G.ctx (k + 1)) (.lc false [7] (.one 7) (.seq (.blt .sorted (.cons (.var 4) .nil))) (.con (.bl true)) (.tup (.cons (.var 7) (.cons (.call 47 (.cons (.idx (.var 4) (.var 7)) (.cons (.blt .len (.cons (.var 2) .nil)) .nil))) .nil)))) [some (.tup (.int m :: .int s :: rest)), some (tupI kept), some (.lst ((rowsF s n).map tupI)), y3, some (.ref st1.length), z5, y6, z7, none] (st1 ++ [O.dic (bkD (lBk s n kept))]) =
      .ok (.lst ((sortR (bkeys (lBk s n kept))).map fun t => prD (t, mkRat (bgetD (lBk s n kept) t) (s ^ n)))) (st1 ++ [O.dic (bkD (lBk s n kept))]) := by
    refine ev_lcs tupI _ ?_ fun t ht => ⟨_, rfl, ?_⟩
    · rw [i_seq, e_blt]
      simp only [es_cons, es_nil, e_var, R.bind_ok, List.getElem?_cons_zero, List.getElem?_cons_succ]
      rw [sorted_dic hi]
      rfl
    · have hk2 : keyOk (bkD (lBk s n kept)) (tupI t) = true := keyOk_bk _ _
      have hg := bget_key (mem_sortR.mp ht)
      have hlen : bltD .len [.lst ((rowsF s n).map tupI)] (st1 ++ [O.dic (bkD (lBk s n kept))]) = .ok (.int ((s ^ n : Nat) : Int)) (st1 ++ [O.dic (bkD (lBk s n kept))]) := by
        simp [bltD, seqOf, rowsF_len]
      have hpl := p_lplain k (bgetD (lBk s n kept) t) (s ^ n) hp (Nat.lt_trans (hsm t) (by decide)) hp2 (st1 ++ [O.dic (bkD (lBk s n kept))])
      simp only [wipes, asg, List.set_cons_succ, List.set_cons_zero, e_tup, es_cons, es_nil, e_var, e_call, e_idx, e_blt, R.bind_ok, List.getElem?_cons_zero, List.getElem?_cons_succ, idxD, hi, hk2, R.test_true, dget_bk, hg, Option.map_some, R.of_some, hlen, hpl]
      rfl
  rw [call_of (d := ir__law_throws) rfl rfl]
  have eb : ir__law_throws.body = .cons (.set (.one 2) (.lst (.cons (.tup .nil) .nil))) (.cons (.for (.one 3) (.rng1 (.bin .Sub (.idx (.var 0) (.con (.int 0))) (.blt .len (.cons (.var 1) .nil)))) longB) (.cons (.set (.one 4) (.dct .nil)) (.cons (.for (.one 5) (.seq (.var 2)) bookB) (.cons (.ret (.lc false [7] (.one 7) (.seq (.blt .sorted (.cons (.var 4) .nil))) (.con (.bl true)) (.tup (.cons (.var 7) (.cons (.call 47 (.cons (.idx (.var 4) (.var 7)) (.cons (.blt .len (.cons (.var 2) .nil)) .nil))) .nil))))) .nil)))) := rfl
  rw [eb]
  show backR st1 (evSs (G.ctx (k + 1)) _ [some (.tup (.int m :: .int s :: rest)), some (tupI kept), none, none, none, none, none, none, none] st1) = _
  have h1 : evE (G.ctx (k + 1)) (.lst (.cons (.tup .nil) .nil)) [some (.tup (.int m :: .int s :: rest)), some (tupI kept), none, none, none, none, none, none, none] st1 = .ok (.lst ((rowsF s 0).map tupI)) st1 := by
    simp [rowsF, tupI]
  rw [ss_consE, s_setE, h1]
  simp only [R.bind_ok, asg, R.of_some, List.set_cons_succ, List.set_cons_zero]
  have hfor1 := for_ev (C := G.ctx (k + 1)) (t := .one 3) (it := .rng1 (.bin .Sub (.idx (.var 0) (.con (.int 0))) (.blt .len (.cons (.var 1) .nil)))) (b := longB) (xs := (List.range n).map fun i : Nat => D.int i) (st := st1) (by
    rw [rng1_ev (y := (n : Int)) (by
      simp only [e_bin, e_idx, e_var, e_con, e_blt, es_cons, es_nil, R.bind_ok, List.getElem?_cons_zero, List.getElem?_cons_succ, idxD, i0, R.of_some, len_tupI, sub1]
      congr 2
      omega) (by omega) (by omega), rngL_nat]
    simp) g1
  rw [ss_consE, hfor1]
  simp only [R.bind_ok]
  rw [ss_consE, s_setE, dct_nil]
  simp only [R.bind_ok, asg, R.of_some, List.set_cons_succ, List.set_cons_zero]
  have hfor2 := for_ev (C := G.ctx (k + 1)) (t := .one 5) (it := .seq (.var 2)) (b := bookB) (xs := (rowsF s n).map tupI) (st := st1 ++ [O.dic []]) (by rw [i_seq, e_var]; rfl) b1
  rw [ss_consE, hfor2]
  simp only [R.bind_ok]
  rw [ss_consE, s_retE, hlc]
  simp only [R.bind_ok]
  show backV st1 _ _ = _
  rw [backV_cut]
  · simp [ltF]
  · rw [D.low]
    exact lows_map _ _ (fun t => low_pr _ _) _
end EV
end
section
set_option exponentiation.threshold 5000
/-! Pu10: throws counted one way and the other. -/
namespace EV
open PySem

/-! ### the order of rows -/
theorem ltR_trans : ∀ {a b c : Row}, ltR a b = true → ltR b c = true → ltR a c = true
  | [], [], _, h, _ => by simp [ltR] at h
  | [], _ :: _, [], _, h => by simp [ltR] at h
  | [], _ :: _, _ :: _, _, _ => rfl
  | _ :: _, [], _, h, _ => by simp [ltR] at h
  | _ :: _, _ :: _, [], _, h => by simp [ltR] at h
  | x :: xs, y :: ys, z :: zs, h1, h2 => by
    rw [ltR] at h1 h2 ⊢
    by_cases e1 : x = y
    · rw [if_pos e1] at h1
      by_cases e2 : y = z
      · rw [if_pos e2] at h2
        rw [if_pos (e1.trans e2)]
        exact ltR_trans h1 h2
      · rw [if_neg e2] at h2
        rw [if_neg (fun q => e2 (e1.symm.trans q)), e1]
        exact h2
    · rw [if_neg e1] at h1
      by_cases e2 : y = z
      · rw [if_neg (fun q => e1 (q.trans e2.symm)), ← e2]
        exact h1
      · rw [if_neg e2] at h2
        simp only [decide_eq_true_eq] at h1 h2
        rw [if_neg (by omega)]
        exact decide_eq_true (by omega)
theorem ltR_tri : ∀ {a b : Row}, ltR a b = false → ltR b a = false → a = b
  | [], [], _, _ => rfl
  | [], _ :: _, h, _ => by simp [ltR] at h
  | _ :: _, [], _, h => by simp [ltR] at h
  | x :: xs, y :: ys, h1, h2 => by
    rw [ltR] at h1 h2
    by_cases e : x = y
    · rw [if_pos e] at h1
      rw [if_pos e.symm] at h2
      rw [e, ltR_tri h1 h2]
    · rw [if_neg e] at h1
      rw [if_neg (Ne.symm e)] at h2
      simp only [decide_eq_false_iff_not] at h1 h2
      omega
theorem ltR_asymm {a b : Row} (h : ltR a b = true) : ltR b a = false := by
  cases e : ltR b a with
  | false => rfl
  | true => have := ltR_trans h e; rw [ltR_self] at this; cases this
theorem leRow_total {α : Type} (f : α → Row) : PySem.W.TotalLe (fun a b : α => !ltR (f b) (f a)) := by
  refine ⟨fun a b c h1 h2 => ?_, fun a b => ?_⟩
  · simp only [Bool.not_eq_true'] at h1 h2 ⊢
    cases e : ltR (f c) (f a) with
    | false => rfl
    | true =>
      cases e1 : ltR (f a) (f b) with
      | true => have := ltR_trans e e1; rw [h2] at this; cases this
      | false =>
        have := ltR_tri e1 h1
        rw [this] at e
        rw [h2] at e
        cases e
  · simp only [Bool.not_eq_true']
    cases e : ltR (f b) (f a) with
    | false => exact .inl rfl
    | true => exact .inr (ltR_asymm e)
/-- rising lists with the same items are one -/
theorem rise_unique {α : Type} {lt : α → α → Prop} (irr : ∀ a, ¬ lt a a) (tr : ∀ a b c, lt a b → lt b c → lt a c) : ∀ {l m : List α}, l.Pairwise lt → m.Pairwise lt → (∀ x, x ∈ l ↔ x ∈ m) → l = m
  | [], [], _, _, _ => rfl
  | [], y :: m, _, _, h => by have := (h y).mpr (by simp); cases this
  | x :: l, [], _, _, h => by have := (h x).mp (by simp); cases this
  | x :: l, y :: m, h1, h2, h => by
    rw [List.pairwise_cons] at h1 h2
    have e : x = y := by
      rcases List.mem_cons.mp ((h x).mp (by simp)) with q | q
      · exact q
      · rcases List.mem_cons.mp ((h y).mpr (by simp)) with p | p
        · exact p.symm
        · exact absurd (tr _ _ _ (h1.1 y p) (h2.1 x q)) (irr x)
    subst e
    rw [rise_unique irr tr h1.2 h2.2 fun z => ⟨fun hz => ?_, fun hz => ?_⟩]
    · rcases List.mem_cons.mp ((h z).mp (List.mem_cons_of_mem _ hz)) with q | q
      · subst q; exact absurd (h1.1 z hz) (irr z)
      · exact q
    · rcases List.mem_cons.mp ((h z).mpr (List.mem_cons_of_mem _ hz)) with q | q
      · subst q; exact absurd (h2.1 z hz) (irr z)
      · exact q
abbrev Rise (l : List (Row × Rat)) : Prop := l.Pairwise fun a b => ltR a.1 b.1 = true
theorem Rise.unique {l m : List (Row × Rat)} (h1 : Rise l) (h2 : Rise m) (h : ∀ x, x ∈ l ↔ x ∈ m) : l = m :=
  rise_unique (lt := fun a b : Row × Rat => ltR a.1 b.1 = true) (fun a h => by rw [ltR_self] at h; cases h) (fun a b c => ltR_trans) h1 h2 h
theorem sortP_rise {l : List (Row × Rat)} (h : (l.map (·.1)).Nodup) : Rise (sortP l) := by
  have h1 := isort_sorted (leRow_total fun p : Row × Rat => p.1) l
  have h2 : ((sortP l).map (·.1)).Nodup := ((perm_isort (le := fun a b : Row × Rat => !ltR b.1 a.1) (l := l)).map (·.1)).nodup_iff.mpr h
  have h3 : (sortP l).Pairwise fun a b => a.1 ≠ b.1 := List.pairwise_map.mp h2
  refine (List.Pairwise.and h1 h3).imp fun {a b} ⟨q, ne⟩ => ?_
  simp only [Bool.not_eq_true'] at q
  cases e : ltR a.1 b.1 with
  | true => rfl
  | false => exact absurd (ltR_tri e q) ne
theorem mem_sortP {l : List (Row × Rat)} {p : Row × Rat} : p ∈ sortP l ↔ p ∈ l := mem_isort
theorem sortR_rise {ks : List Row} (h : ks.Nodup) : (sortR ks).Pairwise fun a b => ltR a b = true := by
  have h1 := isort_sorted (leRow_total fun p : Row => p) ks
  have h2 := sortR_nodup h
  refine (List.Pairwise.and h1 h2).imp fun {a b} ⟨q, ne⟩ => ?_
  simp only [Bool.not_eq_true'] at q
  cases e : ltR a b with
  | true => rfl
  | false => exact absurd (ltR_tri e q) ne
/-! ### sums over books -/
def sumB (b : Bk) (g : Row → Int) : Int := (b.map fun p => p.2 * g p.1).sum
theorem sumB_set (b : Bk) (k : Row) (c : Int) (g : Row → Int) : sumB (bset b k (bgetD b k + c)) g = sumB b g + c * g k := by
  induction b with
  | nil => simp [bset, sumB, bgetD, bget?]
  | cons p b ih =>
    obtain ⟨a, v⟩ := p
    rw [bset]
    by_cases e : a = k
    · rw [if_pos e]
      have : bgetD ((a, v) :: b) k = v := by simp [bgetD, bget?, e]
      rw [this]
      subst e
      simp only [sumB, List.map_cons, List.sum_cons]
      rw [Int.add_mul]
      omega
    · rw [if_neg e]
      have : bgetD ((a, v) :: b) k = bgetD b k := by simp [bgetD, bget?, e]
      rw [this]
      simp only [sumB, List.map_cons, List.sum_cons] at ih ⊢
      rw [ih]
      omega
theorem sumB_add (b : Bk) (k : Row) (c : Int) (g : Row → Int) : sumB (badd b k c) g = sumB b g + c * g k := sumB_set b k c g
theorem sumB_fold {α : Type} (f : α → Row) (w : α → Int) (g : Row → Int) : ∀ (xs : List α) (b : Bk), sumB (xs.foldl (fun b x => badd b (f x) (w x)) b) g = sumB b g + (xs.map fun x => w x * g (f x)).sum
  | [], b => by simp
  | x :: xs, b => by
    rw [List.foldl_cons, sumB_fold f w g xs, sumB_add, List.map_cons, List.sum_cons]
    omega
theorem sum_mul {α : Type} (c : Int) (h : α → Int) : ∀ xs : List α, (xs.map fun x => c * h x).sum = c * (xs.map h).sum
  | [] => by simp
  | x :: xs => by rw [List.map_cons, List.sum_cons, sum_mul c h xs, List.map_cons, List.sum_cons, Int.mul_add]
theorem sumB_all (s : Nat) (g : Row → Int) : ∀ (F M : Bk), sumB (addAll s F M) g = sumB M g + sumB F fun t => ((dies s).map fun d => g (sortI (t ++ [d]))).sum
  | [], M => by simp [addAll, sumB]
  | p :: F, M => by
    have e : addAll s (p :: F) M = addAll s F (addDies s M p.1 p.2) := rfl
    rw [e, sumB_all s g F, addDies, sumB_fold (fun d => sortI (p.1 ++ [d])) (fun _ => p.2) g, sum_mul]
    simp only [sumB, List.map_cons, List.sum_cons]
    omega
theorem sum_flatMap {α β : Type} (f : α → List β) (h : β → Int) : ∀ xs : List α, ((xs.flatMap f).map h).sum = (xs.map fun x => ((f x).map h).sum).sum
  | [] => rfl
  | x :: xs => by rw [List.flatMap_cons, List.map_append, List.sum_append, sum_flatMap f h xs, List.map_cons, List.sum_cons]
theorem sum_count (s : Nat) : ∀ (n : Nat) (g : Row → Int), sumB (countF s n) g = ((rowsF s n).map fun r => g (sortI r)).sum
  | 0, g => by simp [countF, sumB, rowsF, sortI, isort]
  | n + 1, g => by
    rw [countF, sumB_all, sum_count s n, rowsF, sum_flatMap]
    simp only [sumB, List.map_nil, List.sum_nil, Int.zero_add, List.map_map]
    congr 1
    refine List.map_congr_left fun r _ => ?_
    congr 1
    refine List.map_congr_left fun d _ => ?_
    show g (sortI (sortI r ++ [d])) = g (sortI (r ++ [d]))
    rw [perm_sortI ((sortI_perm r).append_right [d])]
def ind (t r : Row) : Int := if r = t then 1 else 0
theorem sumB_ind : ∀ {b : Bk}, (bkeys b).Nodup → ∀ t, sumB b (ind t) = bgetD b t
  | [], _, t => rfl
  | (a, v) :: b, h, t => by
    rw [bkeys, List.map_cons, List.nodup_cons] at h
    have ih := sumB_ind (b := b) h.2 t
    simp only [sumB, List.map_cons, List.sum_cons] at ih ⊢
    rw [ih]
    unfold bgetD ind
    rw [bget?]
    by_cases e : a = t
    · subst e
      have : bget? b a = none := by
        have hn := h.1
        clear ih h
        induction b with
        | nil => rfl
        | cons p b ih2 =>
          rw [List.map_cons, List.mem_cons, not_or] at hn
          rw [bget?, if_neg (fun z => hn.1 z.symm)]
          exact ih2 hn.2
      simp [this]
    · simp [e]
theorem fold_keys {α : Type} (f : α → Row) (w : α → Int) : ∀ (xs : List α) (b : Bk) (t : Row), t ∈ bkeys (xs.foldl (fun b x => badd b (f x) (w x)) b) ↔ t ∈ bkeys b ∨ ∃ x ∈ xs, f x = t
  | [], b, t => by simp
  | x :: xs, b, t => by
    rw [List.foldl_cons, fold_keys f w xs]
    have h1 : t ∈ bkeys (badd b (f x) (w x)) ↔ t ∈ bkeys b ∨ f x = t := by
      unfold badd
      rcases bset_keys b (f x) (bgetD b (f x) + w x) with ⟨g1, g2⟩ | ⟨g1, g2⟩
      · rw [g2]
        exact ⟨.inl, fun h => h.elim id fun e => e ▸ g1⟩
      · rw [g2, List.mem_append]
        simp only [List.mem_singleton]
        exact ⟨fun h => h.imp id Eq.symm, fun h => h.imp id Eq.symm⟩
    rw [h1]
    constructor
    · rintro ((h | h) | ⟨y, hy, h⟩)
      · exact .inl h
      · exact .inr ⟨x, by simp, h⟩
      · exact .inr ⟨y, by simp [hy], h⟩
    · rintro (h | ⟨y, hy, h⟩)
      · exact .inl (.inl h)
      · rcases List.mem_cons.mp hy with rfl | hy
        · exact .inl (.inr h)
        · exact .inr ⟨y, hy, h⟩
theorem all_keys (s : Nat) : ∀ (F M : Bk) (t : Row), t ∈ bkeys (addAll s F M) ↔ t ∈ bkeys M ∨ ∃ r ∈ bkeys F, ∃ d ∈ dies s, sortI (r ++ [d]) = t
  | [], M, t => by simp [addAll, bkeys]
  | p :: F, M, t => by
    have e : addAll s (p :: F) M = addAll s F (addDies s M p.1 p.2) := rfl
    rw [e, all_keys s F, addDies, fold_keys (fun d => sortI (p.1 ++ [d])) (fun _ => p.2)]
    constructor
    · rintro ((h | ⟨d, hd, h⟩) | ⟨r, hr, h⟩)
      · exact .inl h
      · exact .inr ⟨p.1, by simp [bkeys], d, hd, h⟩
      · exact .inr ⟨r, List.mem_cons_of_mem p.1 hr, h⟩
    · rintro (h | ⟨r, hr, d, hd, h⟩)
      · exact .inl (.inl h)
      · rcases List.mem_cons.mp hr with rfl | hr
        · exact .inl (.inr ⟨d, hd, h⟩)
        · exact .inr ⟨r, hr, d, hd, h⟩
theorem count_keys (s : Nat) : ∀ (n : Nat) (t : Row), t ∈ bkeys (countF s n) ↔ ∃ r ∈ rowsF s n, sortI r = t
  | 0, t => by
    simp only [countF, bkeys, rowsF, List.map_cons, List.map_nil, List.mem_singleton]
    exact ⟨fun h => ⟨[], rfl, by rw [h]; rfl⟩, fun ⟨r, h1, h2⟩ => by rw [← h2, h1]; rfl⟩
  | n + 1, t => by
    rw [countF, all_keys, rowsF]
    constructor
    · rintro (h | ⟨r, hr, d, hd, h⟩)
      · cases h
      · obtain ⟨q, hq, rfl⟩ := (count_keys s n r).mp hr
        refine ⟨q ++ [d], List.mem_flatMap.mpr ⟨q, hq, List.mem_map.mpr ⟨d, hd, rfl⟩⟩, ?_⟩
        rw [← h]
        exact perm_sortI ((sortI_perm q).symm.append_right [d])
    · rintro ⟨r, hr, h⟩
      obtain ⟨q, hq, h2⟩ := List.mem_flatMap.mp hr
      obtain ⟨d, hd, rfl⟩ := List.mem_map.mp h2
      refine .inr ⟨sortI q, (count_keys s n _).mpr ⟨q, hq, rfl⟩, d, hd, ?_⟩
      rw [← h]
      exact perm_sortI ((sortI_perm q).append_right [d])
theorem lBk_keys (s n : Nat) (kept t : Row) : t ∈ bkeys (lBk s n kept) ↔ ∃ r ∈ rowsF s n, sortI (kept ++ r) = t := by
  unfold lBk
  rw [fold_keys (fun r => sortI (kept ++ r)) (fun _ => 1)]
  simp [bkeys]
theorem lBk_nodup (s n : Nat) (kept : Row) : (bkeys (lBk s n kept)).Nodup := by
  unfold lBk
  have go : ∀ (xs : List Row) (b : Bk), (bkeys b).Nodup → (bkeys (xs.foldl (fun b r => badd b (sortI (kept ++ r)) 1) b)).Nodup := by
    intro xs
    induction xs with
    | nil => intro b h; exact h
    | cons x xs ih => intro b h; exact ih _ (bset_nodup h _ _)
  exact go _ [] List.nodup_nil
theorem count_get (s n : Nat) (t : Row) : bgetD (countF s n) t = ((rowsF s n).map fun r => ind t (sortI r)).sum := by
  rw [← sumB_ind (countF_ok s n).1, sum_count]
theorem lBk_get (s n : Nat) (kept t : Row) : bgetD (lBk s n kept) t = ((rowsF s n).map fun r => ind t (sortI (kept ++ r))).sum := by
  rw [← sumB_ind (lBk_nodup s n kept)]
  unfold lBk
  rw [sumB_fold (fun r => sortI (kept ++ r)) (fun _ => 1)]
  simp [sumB]
theorem sum_ind_bound {α : Type} (f : α → Row) (t : Row) : ∀ xs : List α, 0 ≤ (xs.map fun r => ind t (f r)).sum ∧ (xs.map fun r => ind t (f r)).sum ≤ xs.length
  | [] => by simp
  | x :: xs => by
    have ih := sum_ind_bound f t xs
    simp only [List.map_cons, List.sum_cons, List.length_cons]
    unfold ind at ih ⊢
    split <;> omega
theorem small_count {s n : Nat} (hs : s ≤ 6) (hn : n ≤ 4) : small (countF s n) := fun t => by
  have h := sum_ind_bound sortI t (rowsF s n)
  rw [← count_get, rowsF_len] at h
  have := pow_1296 hs hn
  omega
theorem small_lBk {s n : Nat} (kept : Row) (hs : s ≤ 6) (hn : n ≤ 4) : small (lBk s n kept) := fun t => by
  have h := sum_ind_bound (fun r => sortI (kept ++ r)) t (rowsF s n)
  rw [← lBk_get, rowsF_len] at h
  have := pow_1296 hs hn
  omega
/-- what is thrown is what the law tells, one by one -/
theorem af_lt (s n : Nat) (kept : Row) : afF s n kept = ltF s n kept := by
  have h1 : Rise (afF s n kept) := sortP_rise (af_nodup s n kept)
  have h2 : Rise (ltF s n kept) := by
    unfold ltF Rise
    rw [List.pairwise_map]
    exact sortR_rise (lBk_nodup s n kept)
  have cut : ∀ (r q : Row), sortI (kept ++ r) = sortI (kept ++ q) ↔ sortI r = sortI q := fun r q => by
    rw [sortI_iff, sortI_iff, List.perm_append_left_iff]
  have val : ∀ t ∈ bkeys (countF s n), bgetD (lBk s n kept) (sortI (kept ++ t)) = bgetD (countF s n) t := fun t ht => by
    rw [lBk_get, count_get]
    congr 1
    refine List.map_congr_left fun r _ => ?_
    have e := cut r t
    rw [countF_rise s n t ht] at e
    unfold ind
    by_cases h : sortI r = t
    · rw [if_pos (e.mpr h), if_pos h]
    · rw [if_neg (fun z => h (e.mp z)), if_neg h]
  refine h1.unique h2 fun x => ?_
  unfold afF ltF thF
  rw [mem_sortP, List.map_map]
  constructor
  · intro h
    obtain ⟨t, ht, rfl⟩ := List.mem_map.mp h
    have htk := mem_sortR.mp ht
    refine List.mem_map.mpr ⟨sortI (kept ++ t), mem_sortR.mpr ((lBk_keys s n kept _).mpr ?_), ?_⟩
    · obtain ⟨r, hr, e⟩ := (count_keys s n t).mp htk
      exact ⟨r, hr, (cut r t).mpr (by rw [e, countF_rise s n t htk])⟩
    · simp only [Function.comp, val t htk]
  · intro h
    obtain ⟨d, hd, rfl⟩ := List.mem_map.mp h
    obtain ⟨r, hr, e⟩ := (lBk_keys s n kept d).mp (mem_sortR.mp hd)
    have htk : sortI r ∈ bkeys (countF s n) := (count_keys s n _).mpr ⟨r, hr, rfl⟩
    have e2 : sortI (kept ++ sortI r) = d := by rw [← e]; exact (cut _ _).mpr (sortI_idem r)
    refine List.mem_map.mpr ⟨sortI r, mem_sortR.mpr htk, ?_⟩
    simp only [Function.comp, ← e2, val _ htk]
theorem th_lt (s n : Nat) : thF s n = ltF s n [] := by
  rw [← af_lt]
  have h1 : Rise (afF s n []) := sortP_rise (af_nodup s n [])
  have h2 : Rise (thF s n) := by
    unfold thF Rise
    rw [List.pairwise_map]
    exact sortR_rise (countF_ok s n).1
  refine h2.unique h1 fun x => ?_
  unfold afF
  rw [mem_sortP]
  have e : ((thF s n).map fun p => (sortI ([] ++ p.1), p.2)) = thF s n := by
    unfold thF
    rw [List.map_map]
    refine List.map_congr_left fun t ht => ?_
    simp only [Function.comp, List.nil_append, countF_rise s n t (mem_sortR.mp ht)]
  rw [e]
end EV
end
section
set_option exponentiation.threshold 5000
/-! Pu11: what may be kept, found one way and the other. -/
namespace EV
open PySem

def tbD (ks : List Row) : List (D × D) := ks.map fun k => (tupI k, .bl true)
def kset (ks : List Row) (k : Row) : List Row := if k ∈ ks then ks else ks ++ [k]
theorem dput_tb : ∀ (ks : List Row) (k : Row), dput (tbD ks) (tupI k) (.bl true) = tbD (kset ks k)
  | [], k => rfl
  | a :: ks, k => by
    show (if D.eqv (tupI a) (tupI k) = true then (tupI a, D.bl true) :: tbD ks else (tupI a, D.bl true) :: dput (tbD ks) (tupI k) (.bl true)) = _
    rw [eqv_tupI, dput_tb ks k, kset, kset]
    by_cases h : a = k
    · simp [h, tbD]
    · have h2 : ¬ k = a := fun z => h z.symm
      by_cases h3 : k ∈ ks <;> simp [h, h2, h3, tbD]
theorem keyOk_tb (ks : List Row) (k : Row) : keyOk (tbD ks) (tupI k) = true := by
  have e : ((tbD ks).all fun p => p.1.isTup) = true := by
    rw [List.all_eq_true]
    intro p hp
    obtain ⟨q, _, rfl⟩ := List.mem_map.mp hp
    rfl
  rw [keyOk, e]
  simp
theorem tbD_keys (ks : List Row) : (tbD ks).map (·.1) = ks.map tupI := by simp [tbD]
theorem tbD_len (ks : List Row) : (tbD ks).length = ks.length := by simp [tbD]
theorem kset_mem {ks : List Row} {k r : Row} : r ∈ kset ks k ↔ r ∈ ks ∨ r = k := by
  unfold kset
  split
  · rename_i h
    exact ⟨.inl, fun z => z.elim id fun e => e ▸ h⟩
  · simp
theorem kset_nodup {ks : List Row} (h : ks.Nodup) (k : Row) : (kset ks k).Nodup := by
  unfold kset
  split
  · exact h
  · rename_i hk
    exact List.nodup_append.mpr ⟨h, by simp, fun a ha c hc e => by
      have e2 : c = k := by simpa using hc
      subst e2; subst e
      exact hk ha⟩
theorem kset_len (ks : List Row) (k : Row) : (kset ks k).length ≤ ks.length + 1 := by
  unfold kset
  split <;> simp
theorem ksets_mem {α : Type} (f : α → Row) (xs : List α) : ∀ {ks : List Row} {r : Row}, r ∈ xs.foldl (fun ks x => kset ks (f x)) ks ↔ r ∈ ks ∨ ∃ x ∈ xs, r = f x := by
  induction xs with
  | nil => intro ks r; simp
  | cons x xs ih =>
    intro ks r
    rw [List.foldl_cons, ih, kset_mem]
    simp only [List.mem_cons, exists_eq_or_imp, or_assoc]
theorem ksets_nodup {α : Type} (f : α → Row) (xs : List α) : ∀ {ks : List Row}, ks.Nodup → (xs.foldl (fun ks x => kset ks (f x)) ks).Nodup := by
  induction xs with
  | nil => intro ks h; exact h
  | cons x xs ih => intro ks h; exact ih (kset_nodup h _)
theorem ksets_len {α : Type} (f : α → Row) (xs : List α) : ∀ {ks : List Row}, (xs.foldl (fun ks x => kset ks (f x)) ks).length ≤ ks.length + xs.length := by
  induction xs with
  | nil => intro ks; simp
  | cons x xs ih =>
    intro ks
    have h1 := ih (ks := kset ks (f x))
    have h2 := kset_len ks (f x)
    simp only [List.foldl_cons, List.length_cons]
    omega
theorem sorted_tb {S : Store} {i : Nat} {b : List Row} (h : S[i]? = some (.dic (tbD b))) : bltD .sorted [.ref i] S = .ok (.lst ((sortR b).map tupI)) S := by
  simp only [bltD, h, tbD_keys, sortD_rows, R.of_some, R.bind_ok]
/-! ### keeps -/
def keF1 (ks : List Row) (d : Int) : List Row := ks.foldl (fun acc t => kset acc (t ++ [d])) ks
def keF (ds : Row) : List Row := ds.foldl keF1 [[]]
theorem keF_app (ds : Row) (d : Int) : keF (ds ++ [d]) = keF1 (keF ds) d := by simp [keF]
theorem keF_nodup (ds : Row) : (keF ds).Nodup := by
  unfold keF
  generalize hb : ([[]] : List Row) = b
  have h : b.Nodup := by rw [← hb]; simp
  clear hb
  induction ds generalizing b with
  | nil => exact h
  | cons d ds ih => exact ih _ (ksets_nodup _ _ h)
theorem keF_len (ds : Row) : (keF ds).length ≤ 2 ^ ds.length := by
  have h : ∀ (ds : Row) (b : List Row), (ds.foldl keF1 b).length ≤ b.length * 2 ^ ds.length := by
    intro ds
    induction ds with
    | nil => intro b; simp
    | cons d ds ih =>
      intro b
      have h1 := ih (keF1 b d)
      have h2 : (keF1 b d).length ≤ b.length + b.length := ksets_len _ _
      have h3 := Nat.mul_le_mul_right (2 ^ ds.length) h2
      rw [List.foldl_cons, List.length_cons, Nat.pow_succ]
      calc _ ≤ _ := h1
        _ ≤ _ := h3
        _ = _ := by grind
  have := h ds [[]]
  simpa [keF] using this
theorem keF_mem : ∀ (n : Nat) (ds : Row), ds.length = n → ∀ {r : Row}, (r ∈ keF ds ↔ r.Sublist ds)
  | 0, ds, h, r => by
    have : ds = [] := List.length_eq_zero_iff.mp h
    subst this
    simp [keF]
  | n + 1, ds, h, r => by
    have hne : ds ≠ [] := fun z => by rw [z] at h; cases h
    obtain ⟨es, d, rfl⟩ : ∃ es d, ds = es ++ [d] := ⟨ds.dropLast, ds.getLast hne, (List.dropLast_concat_getLast hne).symm⟩
    have hl : es.length = n := by simpa using h
    have ih : ∀ {r : Row}, (r ∈ keF es ↔ r.Sublist es) := keF_mem n es hl
    rw [keF_app, keF1, ksets_mem, ih, List.sublist_append_iff]
    constructor
    · rintro (h | ⟨t, ht, rfl⟩)
      · exact ⟨r, [], by simp, h, by simp⟩
      · exact ⟨t, [d], rfl, ih.mp ht, List.Sublist.refl _⟩
    · rintro ⟨a, b, rfl, ha, hb⟩
      rcases List.sublist_cons_iff.mp hb with q | ⟨q, rfl, q2⟩
      · have : b = [] := List.sublist_nil.mp q
        subst this
        exact .inl (by simpa using ha)
      · have : q = [] := List.sublist_nil.mp q2
        subst this
        exact .inr ⟨a, ih.mpr ha, rfl⟩
section
variable {C : Ctx} {a0 : D} {S0 : Store}
theorem at_end (st gb : Store) (o : O) : (st ++ gb ++ [o])[(st ++ gb).length]? = some o := by
  rw [List.getElem?_append_right (Nat.le_refl _)]
  simp
def keB : Ss := .cons (.put (.var 1) (.bin .Add (.var 3) (.tup (.cons (.var 2) .nil))) (.con (.bl true))) .nil
theorem set_end (st : Store) (o p : O) : (st ++ [o]).set st.length p = st ++ [p] := by
  rw [List.set_append_right _ _ (Nat.le_refl _)]
  simp
theorem ke_turn {ks : List Row} {t : Row} (ht : t.length ≤ 100) (hk : ks.length < 10000) (d : Int) :
    evSs C keB [some a0, some (.ref S0.length), some (.int d), some (tupI t)] (S0 ++ [O.dic (tbD ks)]) = .ok (.nx [some a0, some (.ref S0.length), some (.int d), some (tupI t)]) (S0 ++ [O.dic (tbD (kset ks (t ++ [d])))]) := by
  have e1 : evE C (.bin .Add (.var 3) (.tup (.cons (.var 2) .nil))) [some a0, some (.ref S0.length), some (.int d), some (tupI t)] (S0 ++ [O.dic (tbD ks)]) = .ok (tupI (t ++ [d])) (S0 ++ [O.dic (tbD ks)]) := by
    have := add_tupI t [d] (S0 ++ [O.dic (tbD ks)]) (by simp; omega)
    simpa [tupI] using this
  have hi : (S0 ++ [O.dic (tbD ks)])[S0.length]? = some (.dic (tbD ks)) := by simp
  unfold keB
  rw [ss_consE, s_putE, e_con, R.bind_ok, e_var]
  simp only [List.getElem?_cons_zero, List.getElem?_cons_succ, R.bind_ok, e1, hi, keyOk_tb, tbD_len, Bool.true_and]
  rw [decide_eq_true (by omega)]
  simp only [R.test_true, R.bind_ok, ss_nilE, dput_tb, set_end]
theorem ke_run {ks ts : List Row} (ht : ∀ t ∈ ts, t.length ≤ 100) (hk : ks.length + ts.length < 10000) (d : Int) (x3 : Option D) :
    ∃ y3, forL .no (.one 3) (evSs C keB) (ts.map tupI) [some a0, some (.ref S0.length), some (.int d), x3] (S0 ++ [O.dic (tbD ks)]) = .ok (.nx [some a0, some (.ref S0.length), some (.int d), y3]) (S0 ++ [O.dic (tbD (ts.foldl (fun acc t => kset acc (t ++ [d])) ks))]) := by
  obtain ⟨env', st', g1, y3, g2, g3⟩ := forL_pre (g := .no) (tg := .one 3) (body := evSs C keB) tupI (fun acc t => kset acc (t ++ [d])) (fun ks env st => ∃ y3, env = [some a0, some (.ref S0.length), some (.int d), y3] ∧ st = S0 ++ [O.dic (tbD ks)]) (fun _ _ _ _ => rfl)
    ts ks [some a0, some (.ref S0.length), some (.int d), x3] (S0 ++ [O.dic (tbD ks)]) ⟨x3, rfl, rfl⟩ fun pre t post env st hp ⟨y3, e1, e2⟩ => by
      subst e1 e2
      have hlen := ksets_len (fun t => t ++ [d]) pre (ks := ks)
      have hpl : pre.length ≤ ts.length := by
        have := congrArg List.length hp
        simp at this
        omega
      have z := ke_turn (C := C) (a0 := a0) (S0 := S0) (ks := pre.foldl (fun acc t => kset acc (t ++ [d])) ks) (t := t) (ht t (by rw [hp]; simp)) (Nat.lt_of_le_of_lt hlen (by omega)) d
      exact ⟨_, _, _, rfl, z, ⟨_, rfl, rfl⟩⟩
  subst g2 g3
  exact ⟨y3, g1⟩
end
theorem list_tb {S : Store} {i : Nat} {b : List Row} (h : S[i]? = some (.dic (tbD b))) : bltD .list [.ref i] S = .ok (.lst (b.map tupI)) S := by
  simp only [bltD, h, tbD_keys]
theorem p_keeps (k : Nat) (ds : Row) (hd : ds.length ≤ 4) (st : Store) : G.call (k + 1) 45 [tupI ds] st = .ok (.tup ((sortR (keF ds)).map tupI)) st := by
  obtain ⟨env', st', g1, y2, y3, g2, g3⟩ := forL_pre (g := .no) (tg := .one 2) (body := evSs (G.ctx k) (.cons (.for (.one 3) (.seq (.blt .list (.cons (.var 1) .nil))) keB) .nil)) D.int keF1
    (fun ks env s => ∃ y2 y3, env = [some (tupI ds), some (.ref st.length), y2, y3] ∧ s = st ++ [O.dic (tbD ks)]) (fun _ _ _ _ => rfl) ds [[]] [some (tupI ds), some (.ref st.length), none, none] (st ++ [O.dic (tbD [[]])]) ⟨none, none, rfl, rfl⟩
    fun pre d post env s hp ⟨y2, y3, e1, e2⟩ => by
      subst e1 e2
      have hpl : pre.length ≤ 4 := by
        have := congrArg List.length hp
        simp at this
        omega
      have hlen : (pre.foldl keF1 [[]]).length ≤ 2 ^ pre.length := keF_len pre
      have h16 : 2 ^ pre.length ≤ 2 ^ 4 := Nat.pow_le_pow_right (by decide) hpl
      have hm : ∀ t ∈ pre.foldl keF1 [[]], t.length ≤ 100 := fun t ht => by
        have := (keF_mem (r := t) _ pre rfl).mp ht
        have := this.length_le
        omega
      obtain ⟨z3, hz⟩ := ke_run (C := G.ctx k) (a0 := tupI ds) (S0 := st) (ks := pre.foldl keF1 [[]]) (ts := pre.foldl keF1 [[]]) hm (by omega) d y3
      have hi : (st ++ [O.dic (tbD (pre.foldl keF1 [[]]))])[st.length]? = some (.dic (tbD (pre.foldl keF1 [[]]))) := by simp
      have hf := for_ev (C := G.ctx k) (t := .one 3) (it := .seq (.blt .list (.cons (.var 1) .nil))) (b := keB) (env := [some (tupI ds), some (.ref st.length), some (.int d), y3]) (st := st ++ [O.dic (tbD (pre.foldl keF1 [[]]))]) (xs := (pre.foldl keF1 [[]]).map tupI) (by
        rw [i_seq, e_blt]
        simp only [es_cons, es_nil, e_var, R.bind_ok, List.getElem?_cons_zero, List.getElem?_cons_succ]
        rw [list_tb hi]
        rfl) hz
      refine ⟨_, _, _, rfl, ?_, some (.int d), z3, rfl, rfl⟩
      simp only [List.set_cons_succ, List.set_cons_zero]
      rw [ss_consE, hf]
      simp only [R.bind_ok, ss_nilE]
      rfl
  subst g2 g3
  have hfold : ds.foldl keF1 [[]] = keF ds := rfl
  rw [hfold] at g1
  rw [call_of (d := ir_keeps) rfl rfl]
  have eb : ir_keeps.body = .cons (.set (.one 1) (.dct (.cons (.tup .nil) (.cons (.con (.bl true)) .nil)))) (.cons (.for (.one 2) (.seq (.var 0)) (.cons (.for (.one 3) (.seq (.blt .list (.cons (.var 1) .nil))) keB) .nil)) (.cons (.ret (.blt .tuple (.cons (.blt .sorted (.cons (.var 1) .nil)) .nil))) .nil)) := rfl
  rw [eb]
  show backR st (evSs (G.ctx k) _ [some (tupI ds), none, none, none] st) = _
  have ed : evE (G.ctx k) (.dct (.cons (.tup .nil) (.cons (.con (.bl true)) .nil))) [some (tupI ds), none, none, none] st = .ok (.ref st.length) (st ++ [O.dic (tbD [[]])]) := by
    simp [pairUp, keysOk, dputs, dput, D.key, D.keys, D.isTup, tbD, tupI]
  rw [ss_consE, s_setE, ed]
  simp only [R.bind_ok, asg, R.of_some, List.set_cons_succ, List.set_cons_zero]
  have hf := for_ev (C := G.ctx k) (t := .one 2) (it := .seq (.var 0)) (b := .cons (.for (.one 3) (.seq (.blt .list (.cons (.var 1) .nil))) keB) .nil) (env := [some (tupI ds), some (.ref st.length), none, none]) (st := st ++ [O.dic (tbD [[]])]) (xs := ds.map D.int) (by
    rw [i_seq, e_var]
    rfl) g1
  rw [ss_consE, hf]
  simp only [R.bind_ok]
  have hi : (st ++ [O.dic (tbD (keF ds))])[st.length]? = some (.dic (tbD (keF ds))) := by simp
  rw [ss_consE, s_retE, e_blt, es_cons, e_blt]
  simp only [es_cons, es_nil, e_var, R.bind_ok, List.getElem?_cons_zero, List.getElem?_cons_succ, sorted_tb hi, tuple_lst]
  show backV st _ _ = _
  rw [backV_cut]
  rw [D.low]
  exact lows_map _ _ (fun t => low_tupI _ _) _
/-! ### the law's -/
def selM : Nat → Row → Row
  | _, [] => []
  | m, d :: ds => if m % 2 = 1 then d :: selM (m / 2) ds else selM (m / 2) ds
theorem sel_sub : ∀ (ds : Row) (m : Nat), (selM m ds).Sublist ds
  | [], m => by simp [selM]
  | d :: ds, m => by
    rw [selM]
    split
    · exact (sel_sub ds _).cons_cons d
    · exact (sel_sub ds _).cons d
theorem sub_sel : ∀ (ds r : Row), r.Sublist ds → ∃ m, m < 2 ^ ds.length ∧ r = selM m ds
  | [], r, h => ⟨0, by simp, by simpa [selM] using h⟩
  | d :: ds, r, h => by
    rw [List.length_cons, Nat.pow_succ]
    rcases List.sublist_cons_iff.mp h with q | ⟨q, rfl, q2⟩
    · obtain ⟨m, h1, h2⟩ := sub_sel ds r q
      refine ⟨2 * m, by omega, ?_⟩
      rw [selM, if_neg (by omega), show 2 * m / 2 = m by omega]
      exact h2
    · obtain ⟨m, h1, h2⟩ := sub_sel ds q q2
      refine ⟨2 * m + 1, by omega, ?_⟩
      rw [selM, if_pos (by omega), show (2 * m + 1) / 2 = m by omega, h2]
def lkF (ds : Row) : List Row := (List.range 16).foldl (fun ks m => kset ks (selM m ds)) []
theorem lkF_mem {ds r : Row} (hd : ds.length ≤ 4) : r ∈ lkF ds ↔ r.Sublist ds := by
  unfold lkF
  rw [ksets_mem]
  constructor
  · rintro (h | ⟨m, _, rfl⟩)
    · cases h
    · exact sel_sub ds m
  · intro h
    obtain ⟨m, h1, h2⟩ := sub_sel ds r h
    have h16 : 2 ^ ds.length ≤ 2 ^ 4 := Nat.pow_le_pow_right (by decide) hd
    exact .inr ⟨m, by simp; omega, h2⟩
theorem keeps_lk {ds : Row} (hd : ds.length ≤ 4) : sortR (keF ds) = sortR (lkF ds) := by
  refine rise_unique (lt := fun a b : Row => ltR a b = true) (fun a h => by rw [ltR_self] at h; cases h) (fun a b c => ltR_trans) (sortR_rise (keF_nodup ds)) (sortR_rise (ksets_nodup _ _ List.nodup_nil)) fun r => ?_
  rw [mem_sortR, mem_sortR, keF_mem (r := r) _ ds rfl, lkF_mem hd]
/-- dice with their places -/
def selZ (m k : Nat) (ds : Row) : Row := ((ds.zipIdx k).filter fun p => m / 2 ^ p.2 % 2 == 1).map (·.1)
theorem selZ_eq (m : Nat) : ∀ (ds : Row) (k : Nat), selZ m k ds = selM (m / 2 ^ k) ds
  | [], k => rfl
  | d :: ds, k => by
    have ih := selZ_eq m ds (k + 1)
    rw [Nat.pow_succ, ← Nat.div_div_eq_div_mul] at ih
    rw [selM, ← ih]
    unfold selZ
    rw [List.zipIdx_cons]
    by_cases h : m / 2 ^ k % 2 = 1 <;> simp [h]
theorem enumL_zip : ∀ (ds : Row) (k : Nat), enumL k (ds.map D.int) = (ds.zipIdx k).map fun p => D.tup [.int p.2, .int p.1]
  | [], k => rfl
  | d :: ds, k => by
    rw [List.map_cons, enumL, List.zipIdx_cons, List.map_cons, show ((k : Int) + 1) = ((k + 1 : Nat) : Int) by simp, enumL_zip ds (k + 1)]
theorem idx8 (i : Nat) (h : i < 4) (st : Store) : idxD (.tup [.int 1, .int 2, .int 4, .int 8]) (.int i) st = .ok (.int ((2 ^ i : Nat) : Int)) st := by
  have : i = 0 ∨ i = 1 ∨ i = 2 ∨ i = 3 := by omega
  rcases this with h | h | h | h <;> subst h <;> rfl
def lkE : E := .lc false [3, 4] (.many [3, 4]) (.enum (.var 0)) (.cmp .Eq (.bin .Mod (.bin .FloorDiv (.var 2) (.idx (.tup (.cons (.con (.int 1)) (.cons (.con (.int 2)) (.cons (.con (.int 4)) (.cons (.con (.int 8)) .nil))))) (.var 3))) (.con (.int 2))) (.con (.int 1))) (.var 4)
def lkB : Ss := .cons (.put (.var 1) (.blt .tuple (.cons lkE .nil)) (.con (.bl true))) .nil
section
variable {C : Ctx} {S0 : Store}
theorem lk_ev {ds : Row} (hd : ds.length ≤ 4) (m : Nat) (a1 : D) (st : Store) : evE C lkE [some (tupI ds), some a1, some (.int m), none, none] st = .ok (.lst ((selM m ds).map D.int)) st := by
  have z := ev_lc (C := C) (own := [3, 4]) (t := .many [3, 4]) (it := .enum (.var 0)) (cond := .cmp .Eq (.bin .Mod (.bin .FloorDiv (.var 2) (.idx (.tup (.cons (.con (.int 1)) (.cons (.con (.int 2)) (.cons (.con (.int 4)) (.cons (.con (.int 8)) .nil))))) (.var 3))) (.con (.int 2))) (.con (.int 1))) (elt := .var 4)
    (env := [some (tupI ds), some a1, some (.int m), none, none]) (st := st) (fun p : Int × Nat => D.tup [.int p.2, .int p.1]) (fun p => m / 2 ^ p.2 % 2 == 1) (fun p => D.int p.1) (xs := ds.zipIdx 0) (by
      rw [i_enum, e_var]
      simp only [List.getElem?_cons_zero, R.bind_ok, tupI]
      have := enumL_zip ds 0
      rw [← this]
      rfl) fun p hp => by
        have hp2 : p.2 < 4 := by
          have := List.snd_lt_of_mem_zipIdx hp
          omega
        refine ⟨[some (tupI ds), some a1, some (.int m), some (.int p.2), some (.int p.1)], rfl, ?_, fun _ => by rw [e_var]; rfl⟩
        have hpos : (0 : Int) < ((2 ^ p.2 : Nat) : Int) := by
          have := Nat.pow_pos (a := 2) (n := p.2) (by decide)
          omega
        have hlt : ((2 ^ p.2 : Nat) : Int) < 2 ^ 63 := by
          have : 2 ^ p.2 ≤ 2 ^ 4 := Nat.pow_le_pow_right (by decide) (by omega)
          omega
        rw [e_cmp, e_bin, e_bin, e_var]
        simp only [List.getElem?_cons_zero, List.getElem?_cons_succ, R.bind_ok]
        have ei : evE C (.idx (.tup (.cons (.con (.int 1)) (.cons (.con (.int 2)) (.cons (.con (.int 4)) (.cons (.con (.int 8)) .nil))))) (.var 3)) [some (tupI ds), some a1, some (.int m), some (.int p.2), some (.int p.1)] st = .ok (.int ((2 ^ p.2 : Nat) : Int)) st := by
          rw [e_idx, e_tup]
          simp only [es_cons, es_nil, e_con, e_var, List.getElem?_cons_zero, List.getElem?_cons_succ, R.bind_ok, List.length_cons, List.length_nil]
          rw [decide_eq_true (by decide), R.test_true, R.bind_ok, idx8 _ hp2]
        rw [ei, R.bind_ok, div1 _ _ hpos hlt, R.bind_ok, e_con, R.bind_ok, mod1 _ _ (by decide), R.bind_ok, e_con, R.bind_ok]
        have e9 : ((m : Int) / ((2 ^ p.2 : Nat) : Int) % 2) = ((m / 2 ^ p.2 % 2 : Nat) : Int) := by simp
        rw [e9]
        simp only [cmpD]
        by_cases h : m / 2 ^ p.2 % 2 = 1
        · simp [h, D.flat, D.eqv]
        · have h2 : ¬ ((m / 2 ^ p.2 % 2 : Nat) : Int) = 1 := by omega
          have h3 : (m / 2 ^ p.2 % 2 == 1) = false := by simpa using h
          rw [h3]
          have h4 : (((m / 2 ^ p.2 % 2 : Nat) : Int) == 1) = false := by simpa using h2
          simp only [D.flat, D.eqv, h4]
          rfl
  unfold lkE
  rw [z]
  have e := selZ_eq m ds 0
  rw [Nat.pow_zero, Nat.div_one] at e
  rw [← e]
  simp [selZ]
end
theorem p_lkeeps (k : Nat) (ds : Row) (hd : ds.length ≤ 4) (st : Store) : G.call (k + 1) 50 [tupI ds] st = .ok (.lst ((sortR (lkF ds)).map tupI)) st := by
  obtain ⟨env', st', g1, y2, g2, g3⟩ := forL_pre (g := .no) (tg := .one 2) (body := evSs (G.ctx k) lkB) (fun m : Nat => D.int m) (fun ks m => kset ks (selM m ds))
    (fun ks env s => ∃ y2, env = [some (tupI ds), some (.ref st.length), y2, none, none] ∧ s = st ++ [O.dic (tbD ks)]) (fun _ _ _ _ => rfl) (List.range 16) [] [some (tupI ds), some (.ref st.length), none, none, none] (st ++ [O.dic (tbD [])]) ⟨none, rfl, rfl⟩
    fun pre m post env s hp ⟨y2, e1, e2⟩ => by
      subst e1 e2
      have hpl : pre.length ≤ 16 := by
        have := congrArg List.length hp
        simp at this
        omega
      have hlen := ksets_len (fun m => selM m ds) pre (ks := [])
      have hl2 : (pre.foldl (fun ks m => kset ks (selM m ds)) []).length ≤ 16 := Nat.le_trans hlen (by simpa using hpl)
      refine ⟨_, [some (tupI ds), some (.ref st.length), some (.int m), none, none], st ++ [O.dic (tbD (kset (pre.foldl (fun ks m => kset ks (selM m ds)) []) (selM m ds)))], rfl, ?_, ⟨_, rfl, rfl⟩⟩
      simp only [List.set_cons_succ, List.set_cons_zero]
      unfold lkB
      generalize hks : pre.foldl (fun ks m => kset ks (selM m ds)) [] = ks at *
      have hi : (st ++ [O.dic (tbD ks)])[st.length]? = some (.dic (tbD ks)) := by simp
      have et : D.tup ((selM m ds).map D.int) = tupI (selM m ds) := rfl
      rw [ss_consE, s_putE, e_con, R.bind_ok, e_var]
      simp only [List.getElem?_cons_zero, List.getElem?_cons_succ, R.bind_ok, e_blt, es_cons]
      rw [lk_ev hd]
      simp only [List.getElem?_cons_zero, List.getElem?_cons_succ, R.bind_ok, es_nil, tuple_lst, hi, et, keyOk_tb, tbD_len, Bool.true_and]
      rw [decide_eq_true (by omega)]
      simp only [R.test_true, R.bind_ok, ss_nilE, dput_tb, set_end]
  subst g2 g3
  have hfold : (List.range 16).foldl (fun ks m => kset ks (selM m ds)) [] = lkF ds := rfl
  rw [hfold] at g1
  rw [call_of (d := ir__law_keeps) rfl rfl]
  have eb : ir__law_keeps.body = .cons (.set (.one 1) (.dct .nil)) (.cons (.for (.one 2) (.rng1 (.con (.int 16))) lkB) (.cons (.ret (.blt .sorted (.cons (.var 1) .nil))) .nil)) := rfl
  rw [eb]
  show backR st (evSs (G.ctx k) _ [some (tupI ds), none, none, none, none] st) = _
  rw [ss_consE, s_setE, dct_nil]
  simp only [R.bind_ok, asg, R.of_some, List.set_cons_succ, List.set_cons_zero]
  have hf := for_ev (C := G.ctx k) (t := .one 2) (it := .rng1 (.con (.int 16))) (b := lkB) (env := [some (tupI ds), some (.ref st.length), none, none, none]) (st := st ++ [O.dic (tbD [])]) (xs := (List.range 16).map fun m : Nat => D.int m) (by
    rw [rng1_ev (y := (16 : Int)) (by rw [e_con]) (by decide) (by decide), rngL_nat]
    rfl) g1
  have e0 : st ++ [O.dic []] = st ++ [O.dic (tbD [])] := rfl
  rw [e0, ss_consE, hf]
  simp only [R.bind_ok]
  have hi : (st ++ [O.dic (tbD (lkF ds))])[st.length]? = some (.dic (tbD (lkF ds))) := by simp
  rw [ss_consE, s_retE, e_blt]
  simp only [es_cons, es_nil, e_var, R.bind_ok, List.getElem?_cons_zero, List.getElem?_cons_succ, sorted_tb hi]
  show backV st _ _ = _
  rw [backV_cut]
  rw [D.low]
  exact lows_map _ _ (fun t => low_tupI _ _) _
end EV
end
/-! Pu2: dice and points. -/
namespace EV
open PySem

abbrev iT (ds : List Int) : D := .tup (ds.map D.int)
abbrev iL (ds : List Int) : D := .lst (ds.map D.int)
@[simp] theorem int_bl (b : Bool) (st : Store) : bltD .int [.bl b] st = .ok (.int (if b then 1 else 0)) st := rfl
theorem eq_int (i j : Int) (st : Store) : cmpD .Eq (.int i) (.int j) st = .ok (.bl (i == j)) st := by simp [cmpD, D.flat, D.eqv]
theorem ne_int (i j : Int) (st : Store) : cmpD .NotEq (.int i) (.int j) st = .ok (.bl (!(i == j))) st := by simp [cmpD, D.flat, D.eqv]
theorem eq_str (i j : Str) (st : Store) : cmpD .Eq (.str i) (.str j) st = .ok (.bl (i == j)) st := by simp [cmpD, D.flat, D.eqv]
@[simp] theorem lt_int (i j : Int) (st : Store) : cmpD .Lt (.int i) (.int j) st = .ok (.bl (decide (i < j))) st := rfl
@[simp] theorem le_int (i j : Int) (st : Store) : cmpD .LtE (.int i) (.int j) st = .ok (.bl (decide (i ≤ j))) st := rfl
@[simp] theorem gt_int (i j : Int) (st : Store) : cmpD .Gt (.int i) (.int j) st = .ok (.bl (decide (j < i))) st := rfl
@[simp] theorem ge_int (i j : Int) (st : Store) : cmpD .GtE (.int i) (.int j) st = .ok (.bl (decide (j ≤ i))) st := rfl
@[simp] theorem idx_0 (x : D) (xs : List D) (st : Store) : idxD (.tup (x :: xs)) (.int 0) st = .ok x st := by
  have : (0 : Int) < (xs.length : Int) + 1 := by omega
  simp [idxD, getAt, ix, this]
@[simp] theorem idx_1 (x y : D) (xs : List D) (st : Store) : idxD (.tup (x :: y :: xs)) (.int 1) st = .ok y st := by
  have : (1 : Int) < (xs.length : Int) + 1 + 1 := by omega
  simp [idxD, getAt, ix, this]
@[simp] theorem idx_2 (x y z : D) (xs : List D) (st : Store) : idxD (.tup (x :: y :: z :: xs)) (.int 2) st = .ok z st := by
  have : (2 : Int) < (xs.length : Int) + 1 + 1 + 1 := by omega
  simp [idxD, getAt, ix, this]
@[simp] theorem idx_3 (x y z u : D) (xs : List D) (st : Store) : idxD (.tup (x :: y :: z :: u :: xs)) (.int 3) st = .ok u st := by
  have : (3 : Int) < (xs.length : Int) + 1 + 1 + 1 + 1 := by omega
  simp [idxD, getAt, ix, this]
theorem rng_ok (m : Int) (h0 : -1000 ≤ m) (h1 : m ≤ 1000) (st : Store) : rng2 (.int 0) (.int m) st = .ok ((List.range m.toNat).map (fun k : Nat => D.int k), .no) st := by
  have e1 : -1000000 ≤ m := by omega
  have e2 : m ≤ 1000000 := by omega
  simp only [rng2, rngL_nat]
  simp [e1, e2]
theorem flats_int (n : Nat) : ∀ ds : List Int, D.flats n (ds.map D.int) = true
  | [] => by simp [D.flats]
  | d :: ds => by rw [List.map_cons, D.flats, D.flat, flats_int n ds]; rfl
theorem flat_iL (n : Nat) (ds : List Int) : (iL ds).flat (n + 1) = true := by rw [D.flat]; exact flats_int n ds
theorem flat_iT (n : Nat) (ds : List Int) : (iT ds).flat (n + 1) = true := by rw [D.flat]; exact flats_int n ds
theorem eqvs_int : ∀ xs ys : List Int, D.eqvs (xs.map D.int) (ys.map D.int) = decide (xs = ys)
  | [], [] => by simp [D.eqvs]
  | [], _ :: _ => by simp [D.eqvs]
  | _ :: _, [] => by simp [D.eqvs]
  | x :: xs, y :: ys => by
    rw [List.map_cons, List.map_cons, D.eqvs, eqvs_int xs ys, D.eqv]
    by_cases h : x = y <;> by_cases h2 : xs = ys <;> simp [h, h2]
theorem memD_int (x : Int) : ∀ ds : List Int, memD (.int x) (ds.map D.int) = decide (x ∈ ds)
  | [] => by simp [memD]
  | d :: ds => by
    rw [List.map_cons, memD, memD_int x ds, D.eqv]
    by_cases h : d = x
    · simp [h]
    · have h' : ¬ x = d := fun z => h z.symm
      simp [h, h']
theorem countD_int (x : Int) : ∀ ds : List Int, countD (.int x) (ds.map D.int) = ds.count x
  | [] => rfl
  | d :: ds => by
    rw [List.map_cons, countD, countD_int x ds, D.eqv, List.count_cons]
    by_cases h : d = x <;> simp [h]
theorem intsOf_mapI : ∀ ds : List Int, intsOf (ds.map D.int) = some ds
  | [] => rfl
  | d :: ds => by rw [List.map_cons, intsOf, intsOf_mapI ds]; rfl
theorem blsOf_map : ∀ bs : List Bool, blsOf (bs.map D.bl) = some bs
  | [] => rfl
  | d :: ds => by rw [List.map_cons, blsOf, blsOf_map ds]; rfl
theorem in_int (x : Int) (ds : List Int) (st : Store) : cmpD .In (.int x) (iT ds) st = .ok (.bl (decide (x ∈ ds))) st := by
  simp [cmpD, D.flat, flats_int, memD_int]
theorem notin_int (x : Int) (ds : List Int) (st : Store) : cmpD .NotIn (.int x) (iL ds) st = .ok (.bl (!decide (x ∈ ds))) st := by
  simp [cmpD, D.flat, flats_int, memD_int]
theorem count_int (x : Int) (ds : List Int) (st : Store) : mthD .count (iT ds) [.int x] st = .ok (.int (ds.count x)) st := by
  simp [mthD, D.flat, flats_int, countD_int]
theorem count_ok (ds : List Int) (st : Store) : Mth.count.ok (iT ds) st = true := by simp [Mth.ok, Mth.kd, D.kd]
theorem sum_int (ds : List Int) (st : Store) : bltD .sum [iT ds] st = .ok (.int ds.sum) st := by
  simp [bltD, seqOf, intsOf_mapI]
theorem len_iT (ds : List Int) (st : Store) : bltD .len [iT ds] st = .ok (.int ds.length) st := by
  simp [bltD, seqOf]
theorem any_bl (bs : List Bool) (st : Store) : bltD .any [.lst (bs.map D.bl)] st = .ok (.bl (bs.any id)) st := by
  simp [bltD, blsOf_map]
theorem all_bl (bs : List Bool) (st : Store) : bltD .all [.lst (bs.map D.bl)] st = .ok (.bl (bs.all id)) st := by
  simp [bltD, blsOf_map]
theorem any_bl' {α : Type} (xs : List α) (f : α → Bool) (st : Store) : bltD .any [.lst (xs.map fun x => D.bl (f x))] st = .ok (.bl (xs.any f)) st := by
  have e : (xs.map fun x => D.bl (f x)) = (xs.map f).map D.bl := by simp
  rw [e, any_bl, List.any_map]
  rfl
theorem all_bl' {α : Type} (xs : List α) (f : α → Bool) (st : Store) : bltD .all [.lst (xs.map fun x => D.bl (f x))] st = .ok (.bl (xs.all f)) st := by
  have e : (xs.map fun x => D.bl (f x)) = (xs.map f).map D.bl := by simp
  rw [e, all_bl, List.all_map]
  rfl
/-! ### dice -/
def diceOf (g : Gm) (x : Int) : List Int := sortI ((List.range g.many.toNat).map fun k => 1 + drawn x (30 + k) / 4 % g.sides)
theorem sorted_int (ds : List Int) (st : Store) : bltD .sorted [iL ds] st = .ok (iL (sortI ds)) st := by
  simp [bltD, sortD, intsOf_mapI]
theorem p_dice (n : Nat) (g : Gm) (h0 : 0 ≤ g.many) (h1 : g.many ≤ 1000) (hs : 0 < g.sides) (x : Int) (st : Store) : G.call (n + 2) 8 [g.d, .int x] st = .ok (iT (diceOf g x)) st := by
  rw [call_of (d := ir__law_dice) rfl rfl]
  simp only [ir__law_dice]
  simp only [ss_consE, s_retE, e_blt, es_cons, es_nil]
  rw [ev_lcm (fun k : Nat => D.int k) (fun k => D.int (1 + drawn x (30 + k) / 4 % g.sides)) (xs := List.range g.many.toNat) ?_ fun k hk => ⟨_, rfl, ?_⟩]
  · have e : ((List.range g.many.toNat).map fun k => D.int (1 + drawn x (30 + k) / 4 % g.sides)) = ((List.range g.many.toNat).map fun k => 1 + drawn x (30 + k) / 4 % g.sides).map D.int := by simp
    rw [e]
    simp only [R.bind_ok]
    rw [sorted_int]
    simp [bltD, diceOf]
  · simp [Gm.d, rng_ok g.many (by omega) (by omega)]
  · have e : (30 : Int) + (k : Int) = ((30 + k : Nat) : Int) := by omega
    simp [wipes, Gm.d]
    rw [e, p_drawn]
    simp [div1, mod1 _ _ hs]
theorem dice_len (g : Gm) (x : Int) : (diceOf g x).length = g.many.toNat := by
  rw [diceOf, (sortI_perm _).length_eq]
  simp
theorem dice_mem (g : Gm) (x : Int) (hs : 0 < g.sides) : ∀ d ∈ diceOf g x, 1 ≤ d ∧ d ≤ g.sides := fun d hd => by
  have hd := (sortI_perm _).subset hd
  obtain ⟨k, _, rfl⟩ := List.mem_map.mp hd
  have h1 := Int.emod_nonneg (drawn x (30 + k) / 4) (show g.sides ≠ 0 by omega)
  have h2 := Int.emod_lt_of_pos (drawn x (30 + k) / 4) hs
  omega
/-! ### points -/
def hasRun (ds : List Int) (n : Int) : Bool := ds.any fun f => (List.range n.toNat).all fun k => decide (f + k ∈ ds)
theorem p_has_run (n : Nat) (ds : List Int) (m : Int) (h0 : -1000 ≤ m) (h1 : m ≤ 1000) (st : Store) : G.call (n + 1) 38 [iT ds, .int m] st = .ok (.bl (hasRun ds m)) st := by
  rw [call_of (d := ir_has_run) rfl rfl]
  simp only [ir_has_run]
  simp only [ss_consE, s_retE, e_blt, es_cons, es_nil]
  rw [ev_lcm (fun d : Int => D.int d) (fun d => D.bl ((List.range m.toNat).all fun k => decide (d + k ∈ ds))) (xs := ds) ?_ fun d hd => ⟨_, rfl, ?_⟩]
  · simp only [R.bind_ok]
    rw [any_bl']
    simp [hasRun]
  · simp [seqIt]
  · simp only [e_blt, es_cons, es_nil]
    rw [ev_lcm (fun k : Nat => D.int k) (fun k => D.bl (decide (d + k ∈ ds))) (xs := List.range m.toNat) ?_ fun k hk => ⟨_, rfl, ?_⟩]
    · simp only [R.bind_ok]
      rw [all_bl']
    · simp [wipes, rng_ok m (by omega) (by omega)]
    · simp [wipes]
      exact in_int _ _ _
def b2i (b : Bool) : Int := if b then 1 else 0
def pts : Bx → List Int → Int
  | .face n, ds => n * ds.count n
  | .all, ds => ds.sum
  | .alike n p, ds => p * b2i (ds.any fun d => decide (n ≤ ds.count d))
  | .run n p, ds => p * b2i (hasRun ds n)
  | .under n, ds => ds.sum * b2i (decide (ds.sum ≤ n))
  | .even p, ds => p * b2i (ds.all fun d => d % 2 == 0)
/-- a box with numbers of common size -/
def Bx.Fit : Bx → Prop
  | .face n => n.natAbs < 1000
  | .all => True
  | .alike n p => n.natAbs < 1000 ∧ p.natAbs < 1000
  | .run n p => n.natAbs < 1000 ∧ p.natAbs < 1000
  | .under n => n.natAbs < 1000
  | .even p => p.natAbs < 1000
theorem big3 (i j : Int) (h : i.natAbs < 1000) (st : Store) : binD .Mult (.int i) (.int j) st = .ok (.int (i * j)) st := big0 i (by omega) j st
theorem big4 (i : Int) (b : Bool) (st : Store) : binD .Mult (.int i) (.int (if b then 1 else 0)) st = .ok (.int (i * b2i b)) st := by
  rw [big1 _ (by cases b <;> decide) i st]
  rfl
theorem p_points (n : Nat) (b : Bx) (hb : b.Fit) (ds : List Int) (st : Store) : G.call (n + 2) 39 [b.d, iT ds] st = .ok (.int (pts b ds)) st := by
  rw [call_of (d := ir_points) rfl rfl]
  simp only [ir_points]
  have w : ∀ a c : String, (Str.ofString a == Str.ofString c) = decide (Str.ofString a = Str.ofString c) := fun a c => by
    by_cases h : Str.ofString a = Str.ofString c <;> simp [h]
  have w1 : (Str.ofString "all" == Str.ofString "face") = false := by decide +kernel
  have w2 : (Str.ofString "alike" == Str.ofString "face") = false := by decide +kernel
  have w3 : (Str.ofString "alike" == Str.ofString "all") = false := by decide +kernel
  have w4 : (Str.ofString "run" == Str.ofString "face") = false := by decide +kernel
  have w5 : (Str.ofString "run" == Str.ofString "all") = false := by decide +kernel
  have w6 : (Str.ofString "run" == Str.ofString "alike") = false := by decide +kernel
  have w7 : (Str.ofString "under" == Str.ofString "face") = false := by decide +kernel
  have w8 : (Str.ofString "under" == Str.ofString "all") = false := by decide +kernel
  have w9 : (Str.ofString "under" == Str.ofString "alike") = false := by decide +kernel
  have w10 : (Str.ofString "under" == Str.ofString "run") = false := by decide +kernel
  have w11 : (Str.ofString "even" == Str.ofString "face") = false := by decide +kernel
  have w12 : (Str.ofString "even" == Str.ofString "all") = false := by decide +kernel
  have w13 : (Str.ofString "even" == Str.ofString "alike") = false := by decide +kernel
  have w14 : (Str.ofString "even" == Str.ofString "run") = false := by decide +kernel
  have w15 : (Str.ofString "even" == Str.ofString "under") = false := by decide +kernel
  cases b with
  | face m =>
    simp [Bx.d, Bx.parts, sD, asg, eq_str, count_ok, count_int, big3 _ _ hb, pts]
  | all =>
    simp [Bx.d, Bx.parts, sD, asg, eq_str, w1, sum_int, pts]
  | alike m p =>
    simp [Bx.d, Bx.parts, sD, asg, eq_str, w2, w3]
    rw [ev_lcm (fun d : Int => D.int d) (fun d => D.bl (decide (m ≤ ds.count d))) (xs := ds) ?_ fun d hd => ⟨_, rfl, ?_⟩]
    · simp only [R.bind_ok]
      rw [any_bl']
      simp only [R.bind_ok]
      rw [int_bl]
      simp only [R.bind_ok]
      rw [big4]
      simp [pts]
    · simp [seqIt]
    · simp [wipes, count_ok, count_int]
  | run m p =>
    simp [Bx.d, Bx.parts, sD, asg, eq_str, w4, w5, w6, p_has_run _ _ m (by have := hb.1; omega) (by have := hb.1; omega), big4, pts]
  | under m =>
    simp [Bx.d, Bx.parts, sD, asg, eq_str, w7, w8, w9, w10, sum_int]
    rw [show (if ds.sum ≤ m then (1 : Int) else 0) = (if (decide (ds.sum ≤ m)) = true then 1 else 0) by simp]
    rw [big4]
    simp [pts]
  | even p =>
    simp [Bx.d, Bx.parts, sD, asg, eq_str, w11, w12, w13, w14, w15]
    rw [ev_lcm (fun d : Int => D.int d) (fun d => D.bl (d % 2 == 0)) (xs := ds) ?_ fun d hd => ⟨_, rfl, ?_⟩]
    · simp only [R.bind_ok]
      rw [all_bl']
      simp only [R.bind_ok]
      rw [int_bl]
      simp only [R.bind_ok]
      rw [big4]
      simp [pts]
    · simp [seqIt]
    · simp [wipes, mod1, eq_int]
end EV
/-! Pu12: small games; runs that the kernel makes. -/
namespace EV
open PySem

def isT (r : R Fl) : Bool := match r with
  | .ok (.rt (.bl true)) _ => true
  | _ => false
theorem isT_ok {r : R Fl} (h : isT r = true) : ∃ st, r = .ok (.rt (.bl true)) st := by
  unfold isT at h
  split at h
  · exact ⟨_, rfl⟩
  · cases h
theorem backT (st' : Store) : ∃ st, backR [] (.ok (.rt (.bl true)) st') = .ok (.bl true) st := by
  simp only [backR, backV]
  split <;> exact ⟨_, rfl⟩
def drp : Nat → Ss → Ss
  | 0, s => s
  | n + 1, .cons _ s => drp n s
  | _, .nil => .nil
/-! ### rising rows -/
def allRows (ds : List Int) : Nat → List Row
  | 0 => [[]]
  | n + 1 => ds.flatMap fun d => (allRows ds n).map (d :: ·)
theorem mem_allRows {ds : List Int} : ∀ {n : Nat} {r : Row}, r.length = n → (∀ d ∈ r, d ∈ ds) → r ∈ allRows ds n
  | 0, [], _, _ => by simp [allRows]
  | n + 1, d :: r, h, hm => by
    rw [allRows, List.mem_flatMap]
    exact ⟨d, hm d (by simp), List.mem_map.mpr ⟨r, mem_allRows (by simpa using h) fun x hx => hm x (by simp [hx]), rfl⟩⟩
  | 0, d :: r, h, _ => by cases h
  | n + 1, [], h, _ => by cases h
def upB : Row → Bool
  | a :: b :: r => decide (a ≤ b) && upB (b :: r)
  | _ => true
theorem upB_of : ∀ {r : Row}, r.Pairwise (· ≤ ·) → upB r = true
  | [], _ => rfl
  | [_], _ => rfl
  | a :: b :: r, h => by
    rw [List.pairwise_cons] at h
    rw [upB, upB_of h.2, decide_eq_true (h.1 b (by simp))]
    rfl
/-- all rising rows of n dice of s sides -/
def upRows (s n : Nat) : List Row := (allRows (dies s) n).filter upB
/-- those of n dice or less -/
def upLess (s n : Nat) : List Row := (List.range (n + 1)).flatMap (upRows s)
theorem mem_dies {s : Nat} {d : Int} (h1 : 1 ≤ d) (h2 : d ≤ s) : d ∈ dies s := by
  unfold dies
  rw [List.mem_map]
  exact ⟨(d - 1).toNat, by simp; omega, by omega⟩
theorem mem_upRows {s n : Nat} {r : Row} (hl : r.length = n) (hu : r.Pairwise (· ≤ ·)) (hm : ∀ d ∈ r, 1 ≤ d ∧ d ≤ s) : r ∈ upRows s n :=
  List.mem_filter.mpr ⟨mem_allRows hl fun d hd => mem_dies (hm d hd).1 (hm d hd).2, upB_of hu⟩
theorem mem_upLess {s n : Nat} {r : Row} (hl : r.length ≤ n) (hu : r.Pairwise (· ≤ ·)) (hm : ∀ d ∈ r, 1 ≤ d ∧ d ≤ s) : r ∈ upLess s n :=
  List.mem_flatMap.mpr ⟨r.length, by simp; omega, mem_upRows rfl hu hm⟩
theorem dice_up (g : Gm) (x : Int) : (diceOf g x).Pairwise (· ≤ ·) := by
  rw [diceOf]
  have := sortI_sorted ((List.range g.many.toNat).map fun k => 1 + drawn x (30 + k) / 4 % g.sides)
  simpa using this
/-! ### small games -/
def gameOf0 (x : Int) : Gm :=
  if (pick4 2 1 3 2 x = 3 ∧ pick4 2 3 4 2 (x / 4) = 4) ∨ (pick4 1 2 2 3 (x / 64) = 3 ∧ 12 < pick4 2 1 3 2 x * pick4 2 3 4 2 (x / 4) * pick4 1 2 3 2 (x / 16)) then ⟨2, min (pick4 2 3 4 2 (x / 4)) 3, min (pick4 1 2 3 2 (x / 16)) 2, boxesOf x⟩
  else ⟨pick4 2 1 3 2 x, pick4 2 3 4 2 (x / 4), pick4 1 2 3 2 (x / 16), boxesOf x⟩
theorem pick_is (a b c d x : Int) : pick4 a b c d x = a ∨ pick4 a b c d x = b ∨ pick4 a b c d x = c ∨ pick4 a b c d x = d := by
  unfold pick4
  split
  · exact .inl rfl
  · split
    · exact .inr (.inl rfl)
    · split
      · exact .inr (.inr (.inl rfl))
      · exact .inr (.inr (.inr rfl))
theorem min2_int (i j : Int) (st : Store) : bltD .min2 [.int i, .int j] st = .ok (.int (min i j)) st := by
  simp only [bltD]
  by_cases h : i ≤ j <;> simp [Int.min_def, h] <;> omega
theorem p_game0 (n : Nat) (x : Int) (st : Store) : G.call (n + 2) 7 [.int x, .int 0] st = .ok (gameOf0 x).d st := by
  rw [call_of (d := ir__law_game) rfl rfl]
  simp only [ir__law_game]
  have hp := pick_le (x / 64)
  simp [mod1, div1, asg, idx4]
  rw [ev_lcm (fun k : Nat => D.int k) (fun k => (boxOf (drawn x k / 4)).d) (xs := List.range (pick4 1 2 2 3 (x / 64)).toNat) ?_ fun k hk => ⟨_, rfl, ?_⟩]
  · have hm : (pick4 2 1 3 2 x).natAbs < 1000 := by have := pick_is 2 1 3 2 x; omega
    have hs : (pick4 2 3 4 2 (x / 4)).natAbs < 1000 := by have := pick_is 2 3 4 2 (x / 4); omega
    have ht : (pick4 1 2 3 2 (x / 16)).natAbs < 1000 := by have := pick_is 1 2 3 2 (x / 16); omega
    have hl : ∀ st, bltD .len [.tup ((List.range (pick4 1 2 2 3 (x / 64)).toNat).map fun k => (boxOf (drawn x k / 4)).d)] st = .ok (.int (pick4 1 2 2 3 (x / 64))) st := fun st => by
      have : ((pick4 1 2 2 3 (x / 64)).toNat : Int) = pick4 1 2 2 3 (x / 64) := by omega
      simp [bltD, seqOf, this]
    have hb : (boxesOf x).map Bx.d = (List.range (pick4 1 2 2 3 (x / 64)).toNat).map fun k => (boxOf (drawn x k / 4)).d := by simp [boxesOf]
    have eqD : ∀ (i j : Int) (st : Store), cmpD .Eq (.int i) (.int j) st = .ok (.bl (decide (i = j))) st := fun i j st => by
      rw [eq_int]
      by_cases h : i = j <;> simp [h]
    simp [eqD, tuple_lst, hl, big1 _ (show (pick4 2 3 4 2 (x / 4)).natAbs < 2 ^ 63 by omega), big1 _ (show (pick4 1 2 3 2 (x / 16)).natAbs < 2 ^ 63 by omega), min2_int]
    unfold gameOf0
    rw [← hb]
    generalize hq : pick4 2 1 3 2 x * pick4 2 3 4 2 (x / 4) * pick4 1 2 3 2 (x / 16) = q
    generalize pick4 2 1 3 2 x = m
    generalize pick4 2 3 4 2 (x / 4) = s
    generalize pick4 1 2 3 2 (x / 16) = t
    generalize pick4 1 2 2 3 (x / 64) = b
    by_cases h1 : m = 3 <;> by_cases h2 : s = 4 <;> by_cases h3 : b = 3 <;> by_cases h4 : 12 < q <;> simp [h1, h2, h3, h4, Gm.d]
  · simp [mod1, div1, idx4, rng2, rngL_nat, show -1000000 ≤ pick4 1 2 2 3 (x / 64) by omega, show pick4 1 2 2 3 (x / 64) ≤ 1000000 by omega]
  · simp [wipes, p_drawn, div1, p_box]
/-- the sizes of small games -/
theorem game0_size (x : Int) : ((gameOf0 x).many, (gameOf0 x).sides) ∈ [((1 : Int), (2 : Int)), (1, 3), (1, 4), (2, 2), (2, 3), (2, 4), (3, 2), (3, 3)] ∧ 1 ≤ (gameOf0 x).throws ∧ (gameOf0 x).throws ≤ 3 ∧ (gameOf0 x).boxes = boxesOf x := by
  have a1 := pick_is 2 1 3 2 x
  have a2 := pick_is 2 3 4 2 (x / 4)
  have a3 := pick_is 1 2 3 2 (x / 16)
  unfold gameOf0
  split
  · refine ⟨?_, ?_, ?_, rfl⟩
    · simp only
      rcases a2 with h | h | h | h <;> rw [h] <;> decide
    · simp only; omega
    · simp only; omega
  · rename_i h
    refine ⟨?_, by simp only; omega, by simp only; omega, rfl⟩
    simp only
    rcases a1 with h1 | h1 | h1 | h1 <;> rcases a2 with h2 | h2 | h2 | h2 <;> rw [h1, h2] at h ⊢ <;> first | decide | exact absurd (.inl ⟨rfl, rfl⟩) h
end EV
namespace EV
open PySem
theorem intsOf_is : ∀ {xs : List D} {ds : List Int}, intsOf xs = some ds → xs = ds.map D.int
  | [], ds, h => by cases h; rfl
  | x :: xs, ds, h => by
    cases x with
    | int i =>
      rw [intsOf] at h
      cases e : intsOf xs with
      | none => rw [e] at h; cases h
      | some es =>
        rw [e] at h
        cases h
        rw [intsOf_is e]
        rfl
    | _ => simp [intsOf] at h
/-- calls, with keeps told in plain words -/
def call14 (f : Nat) (args : List D) (st : Store) : R D := match f with
  | 45 => match args with
    | [.tup xs] => match intsOf xs with
      | some ds => if ds.length ≤ 4 then .ok (.tup ((sortR (keF ds)).map tupI)) st else G.call 6 45 [.tup xs] st
      | none => G.call 6 45 [.tup xs] st
    | as => G.call 6 45 as st
  | k => G.call 6 k args st
theorem call14_eq : call14 = G.call 6 := by
  funext f args st
  unfold call14
  split
  · split
    · rename_i xs
      split
      · rename_i ds h
        split
        · rename_i hl
          rw [intsOf_is h]
          exact (p_keeps 5 ds (by omega) st).symm
        · rfl
      · rfl
    · rfl
  · rfl
def C14 : Ctx := ⟨call14, G.meth, G.init, G.wfuel⟩
theorem C14_eq : G.ctx 6 = C14 := by
  unfold C14
  rw [call14_eq]
def hdS : Ss → S
  | .cons s _ => s
  | .nil => .retN
def env14 (ns : List Int) (X : D) (dice : Row) : Env := [some (.scr ns), some X, some (tupI dice), none, none, none, none, none]
def at14 (ns : List Int) (X : D) (dice : Row) : Bool := isT (evSs C14 (drp 2 ir_law_k14.body) (env14 ns X dice) [])
section
variable (ns : List Int) (X : D)
theorem a1_0 : at14 ns X [1] = true := by kernel_rfl
theorem a1_1 : at14 ns X [2] = true := by kernel_rfl
theorem a1_2 : at14 ns X [3] = true := by kernel_rfl
theorem a1_3 : at14 ns X [4] = true := by kernel_rfl
theorem a1_4 : at14 ns X [5] = true := by kernel_rfl
theorem a1_5 : at14 ns X [6] = true := by kernel_rfl
theorem b1 : ∀ r ∈ upRows 6 1, at14 ns X r = true := by
  have e : upRows 6 1 = [[1], [2], [3], [4], [5], [6]] := by kernel_rfl
  rw [e]
  simp only [List.forall_mem_cons, List.not_mem_nil, false_implies, implies_true, and_true, a1_0, a1_1, a1_2, a1_3, a1_4, a1_5]
theorem a2_0 : at14 ns X [1, 1] = true := by kernel_rfl
theorem a2_1 : at14 ns X [1, 2] = true := by kernel_rfl
theorem a2_2 : at14 ns X [1, 3] = true := by kernel_rfl
theorem a2_3 : at14 ns X [1, 4] = true := by kernel_rfl
theorem a2_4 : at14 ns X [1, 5] = true := by kernel_rfl
theorem a2_5 : at14 ns X [1, 6] = true := by kernel_rfl
theorem a2_6 : at14 ns X [2, 2] = true := by kernel_rfl
theorem a2_7 : at14 ns X [2, 3] = true := by kernel_rfl
theorem a2_8 : at14 ns X [2, 4] = true := by kernel_rfl
theorem a2_9 : at14 ns X [2, 5] = true := by kernel_rfl
theorem a2_10 : at14 ns X [2, 6] = true := by kernel_rfl
theorem a2_11 : at14 ns X [3, 3] = true := by kernel_rfl
theorem a2_12 : at14 ns X [3, 4] = true := by kernel_rfl
theorem a2_13 : at14 ns X [3, 5] = true := by kernel_rfl
theorem a2_14 : at14 ns X [3, 6] = true := by kernel_rfl
theorem a2_15 : at14 ns X [4, 4] = true := by kernel_rfl
theorem a2_16 : at14 ns X [4, 5] = true := by kernel_rfl
theorem a2_17 : at14 ns X [4, 6] = true := by kernel_rfl
theorem a2_18 : at14 ns X [5, 5] = true := by kernel_rfl
theorem a2_19 : at14 ns X [5, 6] = true := by kernel_rfl
theorem a2_20 : at14 ns X [6, 6] = true := by kernel_rfl
theorem b2 : ∀ r ∈ upRows 6 2, at14 ns X r = true := by
  have e : upRows 6 2 = [[1, 1], [1, 2], [1, 3], [1, 4], [1, 5], [1, 6], [2, 2], [2, 3], [2, 4], [2, 5], [2, 6], [3, 3], [3, 4], [3, 5], [3, 6], [4, 4], [4, 5], [4, 6], [5, 5], [5, 6], [6, 6]] := by kernel_rfl
  rw [e]
  simp only [List.forall_mem_cons, List.not_mem_nil, false_implies, implies_true, and_true, a2_0, a2_1, a2_2, a2_3, a2_4, a2_5, a2_6, a2_7, a2_8, a2_9, a2_10, a2_11, a2_12, a2_13, a2_14, a2_15, a2_16, a2_17, a2_18, a2_19, a2_20]
theorem a3_0 : at14 ns X [1, 1, 1] = true := by kernel_rfl
theorem a3_1 : at14 ns X [1, 1, 2] = true := by kernel_rfl
theorem a3_2 : at14 ns X [1, 1, 3] = true := by kernel_rfl
theorem a3_3 : at14 ns X [1, 1, 4] = true := by kernel_rfl
theorem a3_4 : at14 ns X [1, 1, 5] = true := by kernel_rfl
theorem a3_5 : at14 ns X [1, 1, 6] = true := by kernel_rfl
theorem a3_6 : at14 ns X [1, 2, 2] = true := by kernel_rfl
theorem a3_7 : at14 ns X [1, 2, 3] = true := by kernel_rfl
theorem a3_8 : at14 ns X [1, 2, 4] = true := by kernel_rfl
theorem a3_9 : at14 ns X [1, 2, 5] = true := by kernel_rfl
theorem a3_10 : at14 ns X [1, 2, 6] = true := by kernel_rfl
theorem a3_11 : at14 ns X [1, 3, 3] = true := by kernel_rfl
theorem a3_12 : at14 ns X [1, 3, 4] = true := by kernel_rfl
theorem a3_13 : at14 ns X [1, 3, 5] = true := by kernel_rfl
theorem a3_14 : at14 ns X [1, 3, 6] = true := by kernel_rfl
theorem a3_15 : at14 ns X [1, 4, 4] = true := by kernel_rfl
theorem a3_16 : at14 ns X [1, 4, 5] = true := by kernel_rfl
theorem a3_17 : at14 ns X [1, 4, 6] = true := by kernel_rfl
theorem a3_18 : at14 ns X [1, 5, 5] = true := by kernel_rfl
theorem a3_19 : at14 ns X [1, 5, 6] = true := by kernel_rfl
theorem a3_20 : at14 ns X [1, 6, 6] = true := by kernel_rfl
theorem a3_21 : at14 ns X [2, 2, 2] = true := by kernel_rfl
theorem a3_22 : at14 ns X [2, 2, 3] = true := by kernel_rfl
theorem a3_23 : at14 ns X [2, 2, 4] = true := by kernel_rfl
theorem a3_24 : at14 ns X [2, 2, 5] = true := by kernel_rfl
theorem a3_25 : at14 ns X [2, 2, 6] = true := by kernel_rfl
theorem a3_26 : at14 ns X [2, 3, 3] = true := by kernel_rfl
theorem a3_27 : at14 ns X [2, 3, 4] = true := by kernel_rfl
theorem a3_28 : at14 ns X [2, 3, 5] = true := by kernel_rfl
theorem a3_29 : at14 ns X [2, 3, 6] = true := by kernel_rfl
theorem a3_30 : at14 ns X [2, 4, 4] = true := by kernel_rfl
theorem a3_31 : at14 ns X [2, 4, 5] = true := by kernel_rfl
theorem a3_32 : at14 ns X [2, 4, 6] = true := by kernel_rfl
theorem a3_33 : at14 ns X [2, 5, 5] = true := by kernel_rfl
theorem a3_34 : at14 ns X [2, 5, 6] = true := by kernel_rfl
theorem a3_35 : at14 ns X [2, 6, 6] = true := by kernel_rfl
theorem a3_36 : at14 ns X [3, 3, 3] = true := by kernel_rfl
theorem a3_37 : at14 ns X [3, 3, 4] = true := by kernel_rfl
theorem a3_38 : at14 ns X [3, 3, 5] = true := by kernel_rfl
theorem a3_39 : at14 ns X [3, 3, 6] = true := by kernel_rfl
theorem a3_40 : at14 ns X [3, 4, 4] = true := by kernel_rfl
theorem a3_41 : at14 ns X [3, 4, 5] = true := by kernel_rfl
theorem a3_42 : at14 ns X [3, 4, 6] = true := by kernel_rfl
theorem a3_43 : at14 ns X [3, 5, 5] = true := by kernel_rfl
theorem a3_44 : at14 ns X [3, 5, 6] = true := by kernel_rfl
theorem a3_45 : at14 ns X [3, 6, 6] = true := by kernel_rfl
theorem a3_46 : at14 ns X [4, 4, 4] = true := by kernel_rfl
theorem a3_47 : at14 ns X [4, 4, 5] = true := by kernel_rfl
theorem a3_48 : at14 ns X [4, 4, 6] = true := by kernel_rfl
theorem a3_49 : at14 ns X [4, 5, 5] = true := by kernel_rfl
theorem a3_50 : at14 ns X [4, 5, 6] = true := by kernel_rfl
theorem a3_51 : at14 ns X [4, 6, 6] = true := by kernel_rfl
theorem a3_52 : at14 ns X [5, 5, 5] = true := by kernel_rfl
theorem a3_53 : at14 ns X [5, 5, 6] = true := by kernel_rfl
theorem a3_54 : at14 ns X [5, 6, 6] = true := by kernel_rfl
theorem a3_55 : at14 ns X [6, 6, 6] = true := by kernel_rfl
theorem b3 : ∀ r ∈ upRows 6 3, at14 ns X r = true := by
  have e : upRows 6 3 = [[1, 1, 1], [1, 1, 2], [1, 1, 3], [1, 1, 4], [1, 1, 5], [1, 1, 6], [1, 2, 2], [1, 2, 3], [1, 2, 4], [1, 2, 5], [1, 2, 6], [1, 3, 3], [1, 3, 4], [1, 3, 5], [1, 3, 6], [1, 4, 4], [1, 4, 5], [1, 4, 6], [1, 5, 5], [1, 5, 6], [1, 6, 6], [2, 2, 2], [2, 2, 3], [2, 2, 4], [2, 2, 5], [2, 2, 6], [2, 3, 3], [2, 3, 4], [2, 3, 5], [2, 3, 6], [2, 4, 4], [2, 4, 5], [2, 4, 6], [2, 5, 5], [2, 5, 6], [2, 6, 6], [3, 3, 3], [3, 3, 4], [3, 3, 5], [3, 3, 6], [3, 4, 4], [3, 4, 5], [3, 4, 6], [3, 5, 5], [3, 5, 6], [3, 6, 6], [4, 4, 4], [4, 4, 5], [4, 4, 6], [4, 5, 5], [4, 5, 6], [4, 6, 6], [5, 5, 5], [5, 5, 6], [5, 6, 6], [6, 6, 6]] := by kernel_rfl
  rw [e]
  simp only [List.forall_mem_cons, List.not_mem_nil, false_implies, implies_true, and_true, a3_0, a3_1, a3_2, a3_3, a3_4, a3_5, a3_6, a3_7, a3_8, a3_9, a3_10, a3_11, a3_12, a3_13, a3_14, a3_15, a3_16, a3_17, a3_18, a3_19, a3_20, a3_21, a3_22, a3_23, a3_24, a3_25, a3_26, a3_27, a3_28, a3_29, a3_30, a3_31, a3_32, a3_33, a3_34, a3_35, a3_36, a3_37, a3_38, a3_39, a3_40, a3_41, a3_42, a3_43, a3_44, a3_45, a3_46, a3_47, a3_48, a3_49, a3_50, a3_51, a3_52, a3_53, a3_54, a3_55]
theorem a4_0 : at14 ns X [1, 1, 1, 1] = true := by kernel_rfl
theorem a4_1 : at14 ns X [1, 1, 1, 2] = true := by kernel_rfl
theorem a4_2 : at14 ns X [1, 1, 1, 3] = true := by kernel_rfl
theorem a4_3 : at14 ns X [1, 1, 1, 4] = true := by kernel_rfl
theorem a4_4 : at14 ns X [1, 1, 1, 5] = true := by kernel_rfl
theorem a4_5 : at14 ns X [1, 1, 1, 6] = true := by kernel_rfl
theorem a4_6 : at14 ns X [1, 1, 2, 2] = true := by kernel_rfl
theorem a4_7 : at14 ns X [1, 1, 2, 3] = true := by kernel_rfl
theorem a4_8 : at14 ns X [1, 1, 2, 4] = true := by kernel_rfl
theorem a4_9 : at14 ns X [1, 1, 2, 5] = true := by kernel_rfl
theorem a4_10 : at14 ns X [1, 1, 2, 6] = true := by kernel_rfl
theorem a4_11 : at14 ns X [1, 1, 3, 3] = true := by kernel_rfl
theorem a4_12 : at14 ns X [1, 1, 3, 4] = true := by kernel_rfl
theorem a4_13 : at14 ns X [1, 1, 3, 5] = true := by kernel_rfl
theorem a4_14 : at14 ns X [1, 1, 3, 6] = true := by kernel_rfl
theorem a4_15 : at14 ns X [1, 1, 4, 4] = true := by kernel_rfl
theorem a4_16 : at14 ns X [1, 1, 4, 5] = true := by kernel_rfl
theorem a4_17 : at14 ns X [1, 1, 4, 6] = true := by kernel_rfl
theorem a4_18 : at14 ns X [1, 1, 5, 5] = true := by kernel_rfl
theorem a4_19 : at14 ns X [1, 1, 5, 6] = true := by kernel_rfl
theorem a4_20 : at14 ns X [1, 1, 6, 6] = true := by kernel_rfl
theorem a4_21 : at14 ns X [1, 2, 2, 2] = true := by kernel_rfl
theorem a4_22 : at14 ns X [1, 2, 2, 3] = true := by kernel_rfl
theorem a4_23 : at14 ns X [1, 2, 2, 4] = true := by kernel_rfl
theorem a4_24 : at14 ns X [1, 2, 2, 5] = true := by kernel_rfl
theorem a4_25 : at14 ns X [1, 2, 2, 6] = true := by kernel_rfl
theorem a4_26 : at14 ns X [1, 2, 3, 3] = true := by kernel_rfl
theorem a4_27 : at14 ns X [1, 2, 3, 4] = true := by kernel_rfl
theorem a4_28 : at14 ns X [1, 2, 3, 5] = true := by kernel_rfl
theorem a4_29 : at14 ns X [1, 2, 3, 6] = true := by kernel_rfl
theorem a4_30 : at14 ns X [1, 2, 4, 4] = true := by kernel_rfl
theorem a4_31 : at14 ns X [1, 2, 4, 5] = true := by kernel_rfl
theorem a4_32 : at14 ns X [1, 2, 4, 6] = true := by kernel_rfl
theorem a4_33 : at14 ns X [1, 2, 5, 5] = true := by kernel_rfl
theorem a4_34 : at14 ns X [1, 2, 5, 6] = true := by kernel_rfl
theorem a4_35 : at14 ns X [1, 2, 6, 6] = true := by kernel_rfl
theorem a4_36 : at14 ns X [1, 3, 3, 3] = true := by kernel_rfl
theorem a4_37 : at14 ns X [1, 3, 3, 4] = true := by kernel_rfl
theorem a4_38 : at14 ns X [1, 3, 3, 5] = true := by kernel_rfl
theorem a4_39 : at14 ns X [1, 3, 3, 6] = true := by kernel_rfl
theorem a4_40 : at14 ns X [1, 3, 4, 4] = true := by kernel_rfl
theorem a4_41 : at14 ns X [1, 3, 4, 5] = true := by kernel_rfl
theorem a4_42 : at14 ns X [1, 3, 4, 6] = true := by kernel_rfl
theorem a4_43 : at14 ns X [1, 3, 5, 5] = true := by kernel_rfl
theorem a4_44 : at14 ns X [1, 3, 5, 6] = true := by kernel_rfl
theorem a4_45 : at14 ns X [1, 3, 6, 6] = true := by kernel_rfl
theorem a4_46 : at14 ns X [1, 4, 4, 4] = true := by kernel_rfl
theorem a4_47 : at14 ns X [1, 4, 4, 5] = true := by kernel_rfl
theorem a4_48 : at14 ns X [1, 4, 4, 6] = true := by kernel_rfl
theorem a4_49 : at14 ns X [1, 4, 5, 5] = true := by kernel_rfl
theorem a4_50 : at14 ns X [1, 4, 5, 6] = true := by kernel_rfl
theorem a4_51 : at14 ns X [1, 4, 6, 6] = true := by kernel_rfl
theorem a4_52 : at14 ns X [1, 5, 5, 5] = true := by kernel_rfl
theorem a4_53 : at14 ns X [1, 5, 5, 6] = true := by kernel_rfl
theorem a4_54 : at14 ns X [1, 5, 6, 6] = true := by kernel_rfl
theorem a4_55 : at14 ns X [1, 6, 6, 6] = true := by kernel_rfl
theorem a4_56 : at14 ns X [2, 2, 2, 2] = true := by kernel_rfl
theorem a4_57 : at14 ns X [2, 2, 2, 3] = true := by kernel_rfl
theorem a4_58 : at14 ns X [2, 2, 2, 4] = true := by kernel_rfl
theorem a4_59 : at14 ns X [2, 2, 2, 5] = true := by kernel_rfl
theorem a4_60 : at14 ns X [2, 2, 2, 6] = true := by kernel_rfl
theorem a4_61 : at14 ns X [2, 2, 3, 3] = true := by kernel_rfl
theorem a4_62 : at14 ns X [2, 2, 3, 4] = true := by kernel_rfl
theorem a4_63 : at14 ns X [2, 2, 3, 5] = true := by kernel_rfl
theorem a4_64 : at14 ns X [2, 2, 3, 6] = true := by kernel_rfl
theorem a4_65 : at14 ns X [2, 2, 4, 4] = true := by kernel_rfl
theorem a4_66 : at14 ns X [2, 2, 4, 5] = true := by kernel_rfl
theorem a4_67 : at14 ns X [2, 2, 4, 6] = true := by kernel_rfl
theorem a4_68 : at14 ns X [2, 2, 5, 5] = true := by kernel_rfl
theorem a4_69 : at14 ns X [2, 2, 5, 6] = true := by kernel_rfl
theorem a4_70 : at14 ns X [2, 2, 6, 6] = true := by kernel_rfl
theorem a4_71 : at14 ns X [2, 3, 3, 3] = true := by kernel_rfl
theorem a4_72 : at14 ns X [2, 3, 3, 4] = true := by kernel_rfl
theorem a4_73 : at14 ns X [2, 3, 3, 5] = true := by kernel_rfl
theorem a4_74 : at14 ns X [2, 3, 3, 6] = true := by kernel_rfl
theorem a4_75 : at14 ns X [2, 3, 4, 4] = true := by kernel_rfl
theorem a4_76 : at14 ns X [2, 3, 4, 5] = true := by kernel_rfl
theorem a4_77 : at14 ns X [2, 3, 4, 6] = true := by kernel_rfl
theorem a4_78 : at14 ns X [2, 3, 5, 5] = true := by kernel_rfl
theorem a4_79 : at14 ns X [2, 3, 5, 6] = true := by kernel_rfl
theorem a4_80 : at14 ns X [2, 3, 6, 6] = true := by kernel_rfl
theorem a4_81 : at14 ns X [2, 4, 4, 4] = true := by kernel_rfl
theorem a4_82 : at14 ns X [2, 4, 4, 5] = true := by kernel_rfl
theorem a4_83 : at14 ns X [2, 4, 4, 6] = true := by kernel_rfl
theorem a4_84 : at14 ns X [2, 4, 5, 5] = true := by kernel_rfl
theorem a4_85 : at14 ns X [2, 4, 5, 6] = true := by kernel_rfl
theorem a4_86 : at14 ns X [2, 4, 6, 6] = true := by kernel_rfl
theorem a4_87 : at14 ns X [2, 5, 5, 5] = true := by kernel_rfl
theorem a4_88 : at14 ns X [2, 5, 5, 6] = true := by kernel_rfl
theorem a4_89 : at14 ns X [2, 5, 6, 6] = true := by kernel_rfl
theorem a4_90 : at14 ns X [2, 6, 6, 6] = true := by kernel_rfl
theorem a4_91 : at14 ns X [3, 3, 3, 3] = true := by kernel_rfl
theorem a4_92 : at14 ns X [3, 3, 3, 4] = true := by kernel_rfl
theorem a4_93 : at14 ns X [3, 3, 3, 5] = true := by kernel_rfl
theorem a4_94 : at14 ns X [3, 3, 3, 6] = true := by kernel_rfl
theorem a4_95 : at14 ns X [3, 3, 4, 4] = true := by kernel_rfl
theorem a4_96 : at14 ns X [3, 3, 4, 5] = true := by kernel_rfl
theorem a4_97 : at14 ns X [3, 3, 4, 6] = true := by kernel_rfl
theorem a4_98 : at14 ns X [3, 3, 5, 5] = true := by kernel_rfl
theorem a4_99 : at14 ns X [3, 3, 5, 6] = true := by kernel_rfl
theorem a4_100 : at14 ns X [3, 3, 6, 6] = true := by kernel_rfl
theorem a4_101 : at14 ns X [3, 4, 4, 4] = true := by kernel_rfl
theorem a4_102 : at14 ns X [3, 4, 4, 5] = true := by kernel_rfl
theorem a4_103 : at14 ns X [3, 4, 4, 6] = true := by kernel_rfl
theorem a4_104 : at14 ns X [3, 4, 5, 5] = true := by kernel_rfl
theorem a4_105 : at14 ns X [3, 4, 5, 6] = true := by kernel_rfl
theorem a4_106 : at14 ns X [3, 4, 6, 6] = true := by kernel_rfl
theorem a4_107 : at14 ns X [3, 5, 5, 5] = true := by kernel_rfl
theorem a4_108 : at14 ns X [3, 5, 5, 6] = true := by kernel_rfl
theorem a4_109 : at14 ns X [3, 5, 6, 6] = true := by kernel_rfl
theorem a4_110 : at14 ns X [3, 6, 6, 6] = true := by kernel_rfl
theorem a4_111 : at14 ns X [4, 4, 4, 4] = true := by kernel_rfl
theorem a4_112 : at14 ns X [4, 4, 4, 5] = true := by kernel_rfl
theorem a4_113 : at14 ns X [4, 4, 4, 6] = true := by kernel_rfl
theorem a4_114 : at14 ns X [4, 4, 5, 5] = true := by kernel_rfl
theorem a4_115 : at14 ns X [4, 4, 5, 6] = true := by kernel_rfl
theorem a4_116 : at14 ns X [4, 4, 6, 6] = true := by kernel_rfl
theorem a4_117 : at14 ns X [4, 5, 5, 5] = true := by kernel_rfl
theorem a4_118 : at14 ns X [4, 5, 5, 6] = true := by kernel_rfl
theorem a4_119 : at14 ns X [4, 5, 6, 6] = true := by kernel_rfl
theorem a4_120 : at14 ns X [4, 6, 6, 6] = true := by kernel_rfl
theorem a4_121 : at14 ns X [5, 5, 5, 5] = true := by kernel_rfl
theorem a4_122 : at14 ns X [5, 5, 5, 6] = true := by kernel_rfl
theorem a4_123 : at14 ns X [5, 5, 6, 6] = true := by kernel_rfl
theorem a4_124 : at14 ns X [5, 6, 6, 6] = true := by kernel_rfl
theorem a4_125 : at14 ns X [6, 6, 6, 6] = true := by kernel_rfl
theorem b4 : ∀ r ∈ upRows 6 4, at14 ns X r = true := by
  have e : upRows 6 4 = [[1, 1, 1, 1], [1, 1, 1, 2], [1, 1, 1, 3], [1, 1, 1, 4], [1, 1, 1, 5], [1, 1, 1, 6], [1, 1, 2, 2], [1, 1, 2, 3], [1, 1, 2, 4], [1, 1, 2, 5], [1, 1, 2, 6], [1, 1, 3, 3], [1, 1, 3, 4], [1, 1, 3, 5], [1, 1, 3, 6], [1, 1, 4, 4], [1, 1, 4, 5], [1, 1, 4, 6], [1, 1, 5, 5], [1, 1, 5, 6], [1, 1, 6, 6], [1, 2, 2, 2], [1, 2, 2, 3], [1, 2, 2, 4], [1, 2, 2, 5], [1, 2, 2, 6], [1, 2, 3, 3], [1, 2, 3, 4], [1, 2, 3, 5], [1, 2, 3, 6], [1, 2, 4, 4], [1, 2, 4, 5], [1, 2, 4, 6], [1, 2, 5, 5], [1, 2, 5, 6], [1, 2, 6, 6], [1, 3, 3, 3], [1, 3, 3, 4], [1, 3, 3, 5], [1, 3, 3, 6], [1, 3, 4, 4], [1, 3, 4, 5], [1, 3, 4, 6], [1, 3, 5, 5], [1, 3, 5, 6], [1, 3, 6, 6], [1, 4, 4, 4], [1, 4, 4, 5], [1, 4, 4, 6], [1, 4, 5, 5], [1, 4, 5, 6], [1, 4, 6, 6], [1, 5, 5, 5], [1, 5, 5, 6], [1, 5, 6, 6], [1, 6, 6, 6], [2, 2, 2, 2], [2, 2, 2, 3], [2, 2, 2, 4], [2, 2, 2, 5], [2, 2, 2, 6], [2, 2, 3, 3], [2, 2, 3, 4], [2, 2, 3, 5], [2, 2, 3, 6], [2, 2, 4, 4], [2, 2, 4, 5], [2, 2, 4, 6], [2, 2, 5, 5], [2, 2, 5, 6], [2, 2, 6, 6], [2, 3, 3, 3], [2, 3, 3, 4], [2, 3, 3, 5], [2, 3, 3, 6], [2, 3, 4, 4], [2, 3, 4, 5], [2, 3, 4, 6], [2, 3, 5, 5], [2, 3, 5, 6], [2, 3, 6, 6], [2, 4, 4, 4], [2, 4, 4, 5], [2, 4, 4, 6], [2, 4, 5, 5], [2, 4, 5, 6], [2, 4, 6, 6], [2, 5, 5, 5], [2, 5, 5, 6], [2, 5, 6, 6], [2, 6, 6, 6], [3, 3, 3, 3], [3, 3, 3, 4], [3, 3, 3, 5], [3, 3, 3, 6], [3, 3, 4, 4], [3, 3, 4, 5], [3, 3, 4, 6], [3, 3, 5, 5], [3, 3, 5, 6], [3, 3, 6, 6], [3, 4, 4, 4], [3, 4, 4, 5], [3, 4, 4, 6], [3, 4, 5, 5], [3, 4, 5, 6], [3, 4, 6, 6], [3, 5, 5, 5], [3, 5, 5, 6], [3, 5, 6, 6], [3, 6, 6, 6], [4, 4, 4, 4], [4, 4, 4, 5], [4, 4, 4, 6], [4, 4, 5, 5], [4, 4, 5, 6], [4, 4, 6, 6], [4, 5, 5, 5], [4, 5, 5, 6], [4, 5, 6, 6], [4, 6, 6, 6], [5, 5, 5, 5], [5, 5, 5, 6], [5, 5, 6, 6], [5, 6, 6, 6], [6, 6, 6, 6]] := by kernel_rfl
  rw [e]
  simp only [List.forall_mem_cons, List.not_mem_nil, false_implies, implies_true, and_true, a4_0, a4_1, a4_2, a4_3, a4_4, a4_5, a4_6, a4_7, a4_8, a4_9, a4_10, a4_11, a4_12, a4_13, a4_14, a4_15, a4_16, a4_17, a4_18, a4_19, a4_20, a4_21, a4_22, a4_23, a4_24, a4_25, a4_26, a4_27, a4_28, a4_29, a4_30, a4_31, a4_32, a4_33, a4_34, a4_35, a4_36, a4_37, a4_38, a4_39, a4_40, a4_41, a4_42, a4_43, a4_44, a4_45, a4_46, a4_47, a4_48, a4_49, a4_50, a4_51, a4_52, a4_53, a4_54, a4_55, a4_56, a4_57, a4_58, a4_59, a4_60, a4_61, a4_62, a4_63, a4_64, a4_65, a4_66, a4_67, a4_68, a4_69, a4_70, a4_71, a4_72, a4_73, a4_74, a4_75, a4_76, a4_77, a4_78, a4_79, a4_80, a4_81, a4_82, a4_83, a4_84, a4_85, a4_86, a4_87, a4_88, a4_89, a4_90, a4_91, a4_92, a4_93, a4_94, a4_95, a4_96, a4_97, a4_98, a4_99, a4_100, a4_101, a4_102, a4_103, a4_104, a4_105, a4_106, a4_107, a4_108, a4_109, a4_110, a4_111, a4_112, a4_113, a4_114, a4_115, a4_116, a4_117, a4_118, a4_119, a4_120, a4_121, a4_122, a4_123, a4_124, a4_125]
end
theorem p_law14 (ns : List Int) : ∃ st, G.call 7 56 [.scr ns] [] = .ok (.bl true) st := by
  have m0 : G.call 6 4 [.scr ns, .int 0] [] = .ok (.int (mixed ns 0)) [] := p_mixed 4 ns 0 []
  have m1 : G.call 6 4 [.scr ns, .int 1] [] = .ok (.int (mixed ns 1)) [] := p_mixed 4 ns 1 []
  have hgm : G.call 6 7 [.int (mixed ns 0), .int 1] [] = .ok (gameOf1 (mixed ns 0)).d [] := p_game1 4 _ []
  obtain ⟨g, hg⟩ : ∃ g, g = gameOf1 (mixed ns 0) := ⟨_, rfl⟩
  rw [← hg] at hgm
  have g0 : 1 ≤ g.many ∧ g.many ≤ 4 := by rw [hg, gameOf1]; simp only; omega
  have g1 : 2 ≤ g.sides ∧ g.sides ≤ 6 := by rw [hg, gameOf1]; simp only; omega
  clear hg
  obtain ⟨m, hm⟩ : ∃ m : Nat, g.many = m := ⟨g.many.toNat, by omega⟩
  have hall : ∀ r ∈ upRows 6 m, at14 ns g.d r = true := by
    have hm3 : m = 1 ∨ m = 2 ∨ m = 3 ∨ m = 4 := by omega
    rcases hm3 with h | h | h | h <;> rw [h]
    · exact b1 ns g.d
    · exact b2 ns g.d
    · exact b3 ns g.d
    · exact b4 ns g.d
  have hdc := p_dice 4 g (by omega) (by omega) (by omega) (mixed ns 1) []
  have dl : (diceOf g (mixed ns 1)).length = m := by
    rw [dice_len]
    omega
  have dm : ∀ d ∈ diceOf g (mixed ns 1), 1 ≤ d ∧ d ≤ (6 : Nat) := fun d hd => by
    have := dice_mem g (mixed ns 1) (by omega) d hd
    omega
  have du := dice_up g (mixed ns 1)
  generalize diceOf g (mixed ns 1) = ds at *
  obtain ⟨st', hc⟩ := isT_ok (hall ds (mem_upRows dl du dm))
  rw [← C14_eq] at hc
  rw [call_of (d := ir_law_k14) rfl rfl]
  show ∃ st, backR [] (evSs (G.ctx 6) (.cons (hdS ir_law_k14.body) (.cons (hdS (drp 1 ir_law_k14.body)) (drp 2 ir_law_k14.body))) [some (.scr ns), none, none, none, none, none, none, none] []) = .ok (.bl true) st
  have cc : ∀ f xs st, (G.ctx 6).call f xs st = G.call 6 f xs st := fun _ _ _ => rfl
  have s0 : evS (G.ctx 6) (hdS ir_law_k14.body) [some (.scr ns), none, none, none, none, none, none, none] [] = .ok (.nx [some (.scr ns), some g.d, none, none, none, none, none, none]) [] := by
    simp only [ir_law_k14, hdS, s_setE, e_call, es_cons, es_nil, e_var, e_con, R.bind_ok, List.getElem?_cons_zero, List.getElem?_cons_succ, cc, m0, hgm, asg, R.of_some, List.set_cons_succ, List.set_cons_zero]
  have s1 : evS (G.ctx 6) (hdS (drp 1 ir_law_k14.body)) [some (.scr ns), some g.d, none, none, none, none, none, none] [] = .ok (.nx (env14 ns g.d ds)) [] := by
    simp only [ir_law_k14, hdS, drp, s_setE, e_call, es_cons, es_nil, e_var, e_con, R.bind_ok, List.getElem?_cons_zero, List.getElem?_cons_succ, cc, m1, hdc, asg, R.of_some, List.set_cons_succ, List.set_cons_zero, env14]
    rfl
  rw [ss_consE, s0, R.bind_ok]
  simp only
  rw [ss_consE, s1, R.bind_ok]
  simp only
  rw [hc]
  exact backT st'
end EV
theorem PySem.Challenge.cw_diceboxes_k14_whole_dice_kept_holds : PySem.Challenge.rw_diceboxes_k14_whole_dice_kept.Holds :=
  K14.holds 7 (by decide) fun ns _ => EV.p_law14 ns
