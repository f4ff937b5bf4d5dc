import PyProof.Rows.All
import PyProof.P3Statements
import PyProof.Lay0
import Wide.All
import OpenK.AllK
import Wide.FinOn
import HandS.Base
import HandS.Call
import HandS.List
import HandS.Dict
import HandS.Words
import HandS.WordsList
import HandS.WordsDict
import HandS.Exc
import HandS.ExcOwn
import HandS.Wide
import HandS.WideBits
import HandS.Deep
import HandS.IsInst
import HandS.SortInts
import HandS.Comp
import HandS.Iter
import HandS.Text
import HandS.Style
import KE.SortData
import HandS.TupAny
import HandS.TupLen
import HandS.SetKeys
import HandS.Conv
import HandS.CallSlots
import HandS.ExcIs
import HandS.DictComp
import HandS.Small
import HandS.TryMany
import HandS.Defaults
import HandS.Head0
import HandS.Head1
import HandS.Head2
import HandS.HeadEnd
import HandS.Ends
import HandS.HeadHook1
import HandS.HeadHook2
import PySem.Challenge.RW_paneplans_k48_errors_of_changes
set_option linter.all false
set_option maxRecDepth 100000
set_option maxHeartbeats 0
set_option Elab.async false
/-! PL1: the small language: data, expressions, statements, the evaluator. Plain data (PyData) without a heap; an owned local carries how many levels of it are its own. -/
namespace PL
open PySem (PyData Str)
abbrev D := PyData
abbrev Env := List (Option (Nat × D))

/-- what a computation comes to: a value, an error of class number c with its fields, or a step that this language does not serve -/
inductive R (α : Type) where
  | ok (a : α) (ρ : Env)
  | exc (c : Nat) (ds : List D) (ρ : Env)
  | bad
def R.bind {α β : Type} (r : R α) (k : α → Env → R β) : R β :=
  match r with
  | .ok a ρ => k a ρ
  | .exc c ds ρ => .exc c ds ρ
  | .bad => .bad
@[simp] theorem R.bind_ok {α β : Type} (a : α) (ρ : Env) (k : α → Env → R β) : (R.ok a ρ).bind k = k a ρ := rfl
@[simp] theorem R.bind_exc {α β : Type} (c : Nat) (ds : List D) (ρ : Env) (k : α → Env → R β) : (R.exc c ds ρ : R α).bind k = .exc c ds ρ := rfl
@[simp] theorem R.bind_bad {α β : Type} (k : α → Env → R β) : (R.bad : R α).bind k = .bad := rfl
def ofO {α : Type} (o : Option α) (ρ : Env) : R α := match o with
  | some a => .ok a ρ
  | none => .bad
@[simp] theorem ofO_some {α : Type} (a : α) (ρ : Env) : ofO (some a) ρ = .ok a ρ := rfl
@[simp] theorem ofO_none {α : Type} (ρ : Env) : (ofO none ρ : R α) = .bad := rfl

/-! ### locals -/
def getE : Env → Nat → Option (Nat × D)
  | [], _ => none
  | o :: _, 0 => o
  | _ :: r, i + 1 => getE r i
def setE : Env → Nat → Option (Nat × D) → Env
  | [], _, _ => []
  | _ :: r, 0, v => v :: r
  | o :: r, i + 1, v => o :: setE r i v
def wipeE (ρ : Env) : List Nat → Env
  | [] => ρ
  | i :: is => setE (wipeE ρ is) i none
/-- the slots is get back what they held in the elder -/
def backE (elder ρ : Env) : List Nat → Env
  | [] => ρ
  | i :: is => setE (backE elder ρ is) i (getE elder i)

/-! ### data -/
def atm : D → Bool
  | .none => true
  | .bool _ => true
  | .int _ => true
  | .str _ => true
  | .list _ => false
  | .tuple _ => false
  | .dict _ => false
/-- a value that others hold too -/
def sv (d : D) : Nat × D := (if atm d then 9 else 0, d)
/-- how deep a fresh container of these is one's own, less one -/
def cdep : List (Nat × D) → Nat
  | [] => 9
  | v :: r => min (if atm v.2 then 9 else v.1) (cdep r)
mutual
/-- data that == serves: lists and tuples to a depth of n -/
def shp : Nat → D → Bool
  | _, .none => true
  | _, .bool _ => true
  | _, .int _ => true
  | _, .str x => PyData.strOk x
  | 0, .list _ => false
  | n + 1, .list xs => shpAll n xs
  | 0, .tuple _ => false
  | n + 1, .tuple xs => shpAll n xs
  | _, .dict _ => false
def shpAll : Nat → List D → Bool
  | _, [] => true
  | n, x :: xs => shp n x && shpAll n xs
end
def eqD (a b : D) : Option Bool := if shp 60 a && shp 60 b then some (PyData.eqv a b) else none

def ixn (n : Nat) (i : Int) : Option Nat := if 0 ≤ i then (if i < n then some i.toNat else none) else if -(n : Int) ≤ i then some (i + n).toNat else none
def atL {α : Type} (xs : List α) (i : Int) : Option α := match ixn xs.length i with
  | some j => xs[j]?
  | none => none
/-- a key of a dict: an int, a text, a tuple of these -/
def keyA : D → Bool
  | .int _ => true
  | .str _ => true
  | _ => false
def intA : D → Bool
  | .int _ => true
  | _ => false
def strA : D → Bool
  | .str _ => true
  | _ => false
/-- a key: an int, a text, a tuple of these that are not all texts -/
def isKey : D → Bool
  | .int _ => true
  | .str _ => true
  | .tuple xs => xs.all keyA && !xs.all strA
  | _ => false
/-- keys alike -/
def keq (a b : D) : Bool := PyData.eqv a b
def lookK : List (D × D) → D → Option D
  | [], _ => none
  | p :: r, k => if keq p.1 k then some p.2 else lookK r k
def putK (kvs : List (D × D)) (k v : D) : List (D × D) :=
  if kvs.any fun p => keq p.1 k then kvs.map fun p => if keq p.1 k then (p.1, v) else p else kvs ++ [(k, v)]
def dropK (kvs : List (D × D)) (k : D) : List (D × D) := kvs.filter fun p => !keq p.1 k
/-- the mark of a dict whose keys are tuples: its first entry -/
def mrk : D × D := (.none, .none)
/-- k is of the kind of the dict's keys -/
def kindOk (kvs : List (D × D)) (k : D) : Bool := match kvs with
  | [] => keyA k
  | (.none, _) :: _ => isKey k && !keyA k
  | _ :: _ => keyA k
/-- the entries without the mark -/
def bare (kvs : List (D × D)) : List (D × D) := match kvs with
  | (.none, _) :: r => r
  | r => r
def idxD : D → D → Option D
  | .list xs, .int i => atL xs i
  | .tuple xs, .int i => atL xs i
  | .str z, .int i => if z.length ≤ 16777216 then (atL z.cps.toList i).map fun c => .str ⟨#[c]⟩ else none
  | .dict kvs, k => if kindOk kvs k then lookK kvs k else none
  | _, _ => none
def sIx (n d : Nat) : Option Int → Nat
  | none => d
  | some v => if v < 0 then (v + (n : Int)).toNat else min v.toNat n
def cutL {α : Type} (xs : List α) (lo hi : Option Int) : List α := (xs.drop (sIx xs.length 0 lo)).take (sIx xs.length xs.length hi - sIx xs.length 0 lo)
def optI : Option D → Option (Option Int)
  | none => some none
  | some (.int i) => some (some i)
  | some _ => none
def slcD (n : Nat) : D → Option Int → Option Int → Option (Nat × D)
  | .list xs, lo, hi => some (max n 1, .list (cutL xs lo hi))
  | .tuple xs, lo, hi => some (if (cutL xs lo hi).length == xs.length then n else max n 1, .tuple (cutL xs lo hi))
  | .str z, lo, hi => if z.length ≤ 16777216 then some (9, .str ⟨(cutL z.cps.toList lo hi).toArray⟩) else none
  | _, _, _ => none

/-! ### operators -/
inductive Op where
  | add | sub | mul | fdiv | mod | pow
  deriving DecidableEq
inductive Cp where
  | eq | ne | lt | le | gt | ge | isN | notN | in_ | notIn
  deriving DecidableEq
/-- an int of at most n binary digits -/
def bitsOk (n : Nat) (i : Int) : Bool := i.natAbs < 2 ^ n
def opD : Op → (Nat × D) → (Nat × D) → Option (Nat × D)
  | .add, (_, .int i), (_, .int j) => some (9, .int (i + j))
  | .add, (_, .str x), (_, .str y) => if x.length + y.length ≤ 16777216 then some (9, .str (x ++ y)) else none
  | .add, (n, .list xs), (m, .list ys) => if xs.length + ys.length ≤ 16777216 then some (max 1 (min n m), .list (xs ++ ys)) else none
  | .sub, (_, .int i), (_, .int j) => some (9, .int (i - j))
  | .mul, (_, .int i), (_, .int j) => if bitsOk 4000 i && bitsOk 4000 j then some (9, .int (i * j)) else none
  | .mul, (_, .list xs), (_, .int k) => if decide (k < 100000) && decide (xs.length * k.toNat ≤ 16777216) && decide (-100000 < k) then some (1, .list (List.replicate k.toNat xs).flatten) else none
  | .fdiv, (_, .int i), (_, .int j) => if decide (0 < j) && bitsOk 8000 j then some (9, .int (i / j)) else none
  | .mod, (_, .int i), (_, .int j) => if decide (0 < j) then some (9, .int (i % j)) else none
  | .pow, (_, .int i), (_, .int j) => if decide (0 ≤ j) && decide (j ≤ 64) && bitsOk 4000 i then some (9, .int (i ^ j.toNat)) else none
  | _, _, _ => none
/-- order of texts, of lists and tuples of intsD -/
def lexN : List Nat → List Nat → Bool
  | [], [] => false
  | [], _ :: _ => true
  | _ :: _, [] => false
  | x :: xs, y :: ys => if x = y then lexN xs ys else decide (x < y)
def inD (d : D) : D → Option Bool
  | .list xs => if shp 60 d && shp 60 (.list xs) then some (xs.any fun z => PyData.eqv z d) else none
  | .tuple xs => if atm d && xs.all atm then some (xs.any fun z => PyData.eqv z d) else none
  | .dict kvs => if kindOk kvs d then some (lookK kvs d).isSome else none
  | _ => none
def cmpD : Cp → D → D → Option Bool
  | .eq, a, b => eqD a b
  | .ne, a, b => (eqD a b).map (!·)
  | .lt, .int i, .int j => some (decide (i < j))
  | .le, .int i, .int j => some (decide (i ≤ j))
  | .gt, .int i, .int j => some (decide (j < i))
  | .ge, .int i, .int j => some (decide (j ≤ i))
  | .isN, .none, .none => some true
  | .isN, _, .none => some false
  | .notN, .none, .none => some false
  | .notN, _, .none => some true
  | .in_, a, b => inD a b
  | .notIn, a, b => (inD a b).map (!·)
  | _, _, _ => none

/-! ### built-in functions and methods -/
inductive Ty where
  | int | bool | list | tuple | str | dict
  deriving DecidableEq
def isTy : Ty → D → Bool
  | .int, .int _ => true
  | .int, .bool _ => true
  | .bool, .bool _ => true
  | .list, .list _ => true
  | .tuple, .tuple _ => true
  | .str, .str _ => true
  | .dict, .dict _ => true
  | _, _ => false
inductive Bi where
  | len | abs | max2 | min2 | maxL | minL | sum | any | all | int | list | tuple | sorted | str | repr | rng1 | rng2 | bitLen
  deriving DecidableEq
def intsD : List D → Option (List Int)
  | [] => some []
  | .int i :: r => (intsD r).map (i :: ·)
  | _ => none
def bools : List D → Option (List Bool)
  | [] => some []
  | .bool i :: r => (bools r).map (i :: ·)
  | _ => none
def maxI (i : Int) : List Int → Int
  | [] => i
  | j :: r => maxI (if i < j then j else i) r
def minI (i : Int) : List Int → Int
  | [] => i
  | j :: r => minI (if j < i then j else i) r
/-- sorting: stable, by putting in -/
def insB {α : Type} (le : α → α → Bool) (x : α) : List α → List α
  | [] => [x]
  | y :: r => if le x y then x :: y :: r else y :: insB le x r
def sortB {α : Type} (le : α → α → Bool) : List α → List α
  | [] => []
  | x :: r => insB le x (sortB le r)
def lexI : List Int → List Int → Bool
  | [], _ => true
  | _ :: _, [] => false
  | x :: xs, y :: ys => if x = y then lexI xs ys else decide (x < y)
/-- order of atoms, of rows of atoms; what sorted() serves beyond ints -/
def eq1 : D → D → Bool
  | .int a, .int b => decide (a = b)
  | .str a, .str b => decide (a = b)
  | _, _ => false
def dlt1 : D → D → Bool
  | .int a, .int b => decide (a < b)
  | .str a, .str b => lexN a.cps.toList b.cps.toList
  | _, _ => false
def dltR : List D → List D → Bool
  | [], [] => false
  | [], _ :: _ => true
  | _ :: _, [] => false
  | x :: xs, y :: ys => if eq1 x y then dltR xs ys else dlt1 x y
def dle : D → D → Bool
  | .tuple xs, .tuple ys => !dltR ys xs
  | .list xs, .list ys => !dltR ys xs
  | .str a, .str b => !lexN b.cps.toList a.cps.toList
  | _, _ => false
/-- rows alike: tuples of ints and texts (of the same kinds), lists of ints, texts -/
def rowAs (k : D) (d : D) : Bool := match k, d with
  | .tuple ks, .tuple ys => ys.all keyA && (ys.map intA == ks.map intA)
  | .list _, .list ys => ys.all intA
  | .str _, .str _ => true
  | _, _ => false
def sortOk : List D → Bool
  | .tuple (k :: ks) :: r => (k :: ks).all keyA && r.all (rowAs (.tuple (k :: ks)))
  | .list ks :: r => ks.all intA && r.all (rowAs (.list ks))
  | .str x :: r => r.all (rowAs (.str x))
  | _ => false
/-- the intsD of a list or a tuple of intsD -/
def rowOf : D → Option (List Int)
  | .list xs => intsD xs
  | .tuple xs => intsD xs
  | _ => none
def rng (a : Int) : Nat → List D
  | 0 => []
  | n + 1 => .int a :: rng (a + 1) n
def rngLo (a b : Int) : Option (List D) := if decide (-(2 ^ 61) < a) && decide (b < 2 ^ 61) && decide (b - a ≤ 1000000) && decide (a < 2 ^ 61) && decide (-(2 ^ 61) < b) then some (rng a (b - a).toNat) else none
/-- the index of the first item that is d -/
def findD (d : D) : List D → Option Nat
  | [] => none
  | x :: r => if PyData.eqv x d then some 0 else (findD d r).map (· + 1)
def biD : Bi → List (Nat × D) → Option (Nat × D)
  | .len, [(_, .list xs)] => some (9, .int xs.length)
  | .len, [(_, .tuple xs)] => some (9, .int xs.length)
  | .len, [(_, .dict xs)] => some (9, .int (bare xs).length)
  | .len, [(_, .str x)] => if x.length ≤ 16777216 then some (9, .int x.length) else none
  | .abs, [(_, .int i)] => some (9, .int (if i < 0 then -i else i))
  | .max2, [(_, .int i), (_, .int j)] => some (9, .int (if i < j then j else i))
  | .min2, [(_, .int i), (_, .int j)] => some (9, .int (if j < i then j else i))
  | .maxL, [(_, .list xs)] => match intsD xs with
    | some (i :: r) => some (9, .int (maxI i r))
    | _ => none
  | .minL, [(_, .list xs)] => match intsD xs with
    | some (i :: r) => some (9, .int (minI i r))
    | _ => none
  | .sum, [(_, .list xs)] => (intsD xs).map fun ns => (9, .int ns.sum)
  | .any, [(_, .list xs)] => (bools xs).map fun bs => (9, .bool (bs.any id))
  | .all, [(_, .list xs)] => (bools xs).map fun bs => (9, .bool (bs.all id))
  | .int, [(_, .int i)] => some (9, .int i)
  | .int, [(_, .bool b)] => some (9, .int (if b then 1 else 0))
  | .list, [(n, .list xs)] => some (max n 1, .list xs)
  | .list, [(n, .tuple xs)] => some (max n 1, .list xs)
  | .tuple, [(n, .list xs)] => some (max n 1, .tuple xs)
  | .tuple, [(n, .tuple xs)] => some (n, .tuple xs)
  | .sorted, [(n, .list xs)] => match intsD xs with
    | some ns => some (10, .list ((sortB (fun a b => decide (a ≤ b)) ns).map PyData.int))
    | none => if sortOk xs then some (1, .list (sortB dle xs)) else none
  | .rng1, [(_, .int b)] => (rngLo 0 b).map fun xs => (10, .list xs)
  | .rng2, [(_, .int a), (_, .int b)] => (rngLo a b).map fun xs => (10, .list xs)
  | .bitLen, [(_, .int i)] => some (9, .int (if i = 0 then 0 else (i.natAbs.log2 + 1 : Nat)))
  | _, _ => none
inductive Mth where
  | index | get | get1
  deriving DecidableEq
/-- the kind of the receiver -/
def mthOk : Mth → D → Bool
  | .index, .list _ => true
  | .get, .dict _ => true
  | .get1, .dict _ => true
  | _, _ => false
def mthD : Mth → D → List (Nat × D) → Option (Nat × D)
  | .index, .list xs, [(_, d)] => if shp 60 d && shp 60 (.list xs) then (findD d xs).map fun (j : Nat) => (9, .int (j : Int)) else none
  | .get, .dict kvs, [(_, k), (_, e)] => if kindOk kvs k then some (sv ((lookK kvs k).getD e)) else none
  | .get1, .dict kvs, [(_, k)] => if kindOk kvs k then some (sv ((lookK kvs k).getD .none)) else none
  | _, _, _ => none
/-- what a method does to the object itself: the object behind it, the value given out -/
inductive Mu where
  | append | extend | pop | popAt | insert | dpop | dpop2
  deriving DecidableEq
def dmin (n : Nat) (v : Nat × D) : Nat := min n ((if atm v.2 then 9 else v.1) + 1)
/-- of a fresh object of depth n + 1 -/
def muD : Mu → Nat → D → List (Nat × D) → Option ((Nat × D) × (Nat × D))
  | .append, n, .list xs, [v] => if xs.length < 16777216 then some ((dmin n v, .list (xs ++ [v.2])), (9, .none)) else none
  | .extend, n, .list xs, [(m + 1, .list ys)] => if xs.length + ys.length ≤ 16777216 then some ((min n (m + 1), .list (xs ++ ys)), (9, .none)) else none
  | .pop, n, .list xs, [] => match xs.getLast? with
    | some d => some ((n, .list xs.dropLast), (n - 1, d))
    | none => none
  | .popAt, n, .list xs, [(_, .int i)] => if decide (-(2 ^ 62) < i) && decide (i < 2 ^ 62) then match ixn xs.length i with
    | some j => match xs[j]? with
      | some d => some ((n, .list (xs.eraseIdx j)), (n - 1, d))
      | none => none
    | none => none
    else none
  | .dpop, n, .dict kvs, [(_, k)] => if kindOk kvs k then match lookK kvs k with
      | some d => some ((n, .dict (dropK kvs k)), (n - 1, d))
      | none => none
    else none
  | _, _, _, _ => none
/-- the kind of the local -/
def mutOk : Mu → Option (Nat × D) → Bool
  | .append, some (_, .list _) => true
  | .extend, some (_, .list _) => true
  | .pop, some (_, .list _) => true
  | .popAt, some (_, .list _) => true
  | .insert, some (_, .list _) => true
  | .dpop, some (_, .dict _) => true
  | .dpop2, some (_, .dict _) => true
  | _, _ => false
/-- o[i] = v in a fresh object of depth n -/
def stoD (n : Nat) : D → D → (Nat × D) → Option (Nat × D)
  | .list xs, .int i, v => match ixn xs.length i with
    | some j => some (dmin n v, .list (xs.set j v.2))
    | none => none
  | .dict kvs, k, v => if kindOk kvs k && keyA k && decide (kvs.length < 16777216) then some (dmin n v, .dict (putK kvs k v.2)) else none
  | _, _, _ => none
/-- the part of a tree at a path -/
def getP : D → List D → Option D
  | d, [] => some d
  | d, k :: ks => match idxD d k with
    | some e => getP e ks
    | none => none
/-- the part at a path changed by f, at the depth that is left there; n: the tree's depth -/
def chgP (n : Nat) (d : D) (ks : List D) (f : Nat → D → Option ((Nat × D) × (Nat × D))) : Option ((Nat × D) × (Nat × D)) :=
  match ks with
  | [] => match n with
    | 0 => none
    | m + 1 => f (m + 1) d
  | k :: ks => match n with
    | 0 => none
    | m + 1 => match idxD d k with
      | some e => match chgP m e ks f with
        | some (v, r) => match stoD (m + 1) d k v with
          | some w => some (w, r)
          | none => none
        | none => none
      | none => none

/-! ### the texts -/
/-- targets: a name; names for a tuple's items; an item of an owned local at a path -/
inductive Tg where
  | nm (i : Nat) | nms (is : List Nat)
  deriving DecidableEq
inductive E where
  | nil | cons (a b : E)
  | int (i : Int) | str (s : Str) | bl (b : Bool) | non
  | var (i : Nat) | mov (i : Nat) | bor (i : Nat) | lend (i : Nat)
  | glob (x : Str) (d : D)
  | pv (i : Nat) | pi (a k : E) | rdp (a : E) | qt (a : E)
  | tup (es : E) | lst (es : E) | dic (t : Bool) (es : E)
  | neg (a : E) | bin (op : Op) (a b : E)
  | cmp (op : Cp) (a b : E) | cmpQ (op : Cp) (a q : E) | cmpB (op : Cp) (i : Nat) (b : E) | mthB (m : Mth) (i : Nat) (es : E) | chain (o1 o2 : Cp) (a b c : E)
  | and_ (a b : E) | or_ (a b : E) | not_ (a : E) | ite (c a b : E)
  | idx (a i : E) | slc (a lo hi : E) | rev (a : E)
  | call (f : Nat) (es : E)
  | bi (b : Bi) (es : E) | mth (m : Mth) (a es : E) | isI (a : E) (ts : List Ty)
  | mut (m : Mu) (a es : E) | sdap (i : Nat) (k v : E)
  | lc (w : List Nat) (t : Tg) (it c el : E) | dc (w : List Nat) (t : Tg) (it k v : E)
  | irng1 (a : E) | irng2 (a b : E) | irng3 (a b c : E) | ienum (a : E) | izip (a b : E) | iitems (a : E) | ivals (a : E) | iseq (a : E)
  | eis (cs : List Nat) | efld (k : Nat)
/-- a handler: the classes that it takes, the name's slot -/
inductive S where
  | nop | seq (a b : S)
  | pass | expr (e : E) | asg (t : Tg) (e : E) | sto (a e : E) | sto2 (a b e : E)
  | aug (op : Op) (i : Nat) (e : E) | augs (op : Op) (a e : E)
  | ret (e : E) | retN | ite (c : E) (a b : S) | for_ (t : Tg) (it : E) (b : S) | whl (fuel : Nat) (c : E) (b : S)
  | brk | cont | rais (c : Nat) (es : E) | try1 (b : S) (c : Nat) (nm : Nat) (h : S) | try2 (b : S) (c1 n1 : Nat) (h1 : S) (c2 n2 : Nat) (h2 : S)

/-- what a call comes to: the value, the lent arguments as they are behind it -/
inductive CR where
  | ok (v : Nat × D) (outs : List (Nat × D))
  | exc (c : Nat) (ds : List D) (outs : List (Nat × D))
  | bad
/-- what a statement comes to -/
inductive O where
  | nx (ρ : Env) | rt (v : Nat × D) (ρ : Env) | bk (ρ : Env) | ct (ρ : Env) | exc (c : Nat) (ds : List D) (ρ : Env) | bad
/-- the surroundings: the defs, the classes' bases, the error in hand -/
structure C where
  call : Nat → List (Nat × D) → CR
  sub : Nat → Nat → Bool
  cur : Option (Nat × List D)

/-- names of the items -/
def bindAll (n : Nat) : List Nat → List D → Env → Option Env
  | [], [], ρ => some ρ
  | i :: is, d :: ds, ρ => bindAll n is ds (setE ρ i (some (if atm d then 9 else n, d)))
  | _, _, _ => none
def bindT : Tg → (Nat × D) → Env → Option Env
  | .nm i, v, ρ => some (setE ρ i (some v))
  | .nms is, (n, .tuple ds), ρ => bindAll (n - 1) is ds ρ
  | _, _, _ => none
/-- arguments: what is lent is read off the locals at the call -/
def lendV (ρ : Env) : E → List (Nat × D) → Option (List (Nat × D))
  | .cons (.lend i) r, vs => match getE ρ i with
    | some v => (lendV (setE ρ i none) r vs).map (v :: ·)
    | none => none
  | .cons _ r, v :: vs => (lendV ρ r vs).map (sv v.2 :: ·)
  | .nil, [] => some []
  | _, _ => none
def lendBack : E → List (Nat × D) → Env → Option Env
  | .cons (.lend i) r, v :: vs, ρ => lendBack r vs (setE ρ i (some v))
  | .cons _ r, vs, ρ => lendBack r vs ρ
  | .nil, [], ρ => some ρ
  | _, _, _ => none
def callK (ρ : Env) (es : E) : CR → R (Nat × D)
  | .ok v outs => match lendBack es outs ρ with
    | some ρ' => .ok v ρ'
    | none => .bad
  | .exc c ds outs => match lendBack es outs ρ with
    | some ρ' => .exc c ds ρ'
    | none => .bad
  | .bad => .bad
def tru : (Nat × D) → Env → R Bool
  | (_, .bool b), ρ => .ok b ρ
  | _, _ => .bad
def itemsOf : D → Option (List D)
  | .list xs => some xs
  | .tuple xs => some xs
  | _ => none
def enumL (k : Int) : List D → List D
  | [] => []
  | x :: r => .tuple [.int k, x] :: enumL (k + 1) r
def zipL : List D → List D → List D
  | x :: xs, y :: ys => .tuple [x, y] :: zipL xs ys
  | _, _ => []
def stepR (a c : Int) : Nat → List D
  | 0 => []
  | n + 1 => .int a :: stepR (a + c) c n
/-- range(a, b, c) -/
def rng3 (a b c : Int) : Option (List D) :=
  if decide (-(2 ^ 40) < a) && decide (b < 2 ^ 40) && decide (a < 2 ^ 40) && decide (-(2 ^ 40) < b) && decide (-1000 < c) && decide (c < 1000) then
    (if 0 < c then some (stepR a c ((b - a + c - 1) / c).toNat) else if c < 0 then some (stepR a c ((a - b + (-c) - 1) / (-c)).toNat) else none)
  else none

/-- no errors are served here -/
def R.quiet {α : Type} : R α → R α
  | .ok a ρ => .ok a ρ
  | _ => .bad
/-- turns of a comprehension: what is made so far, its depth less one -/
def lcGo (bind : D → Env → Option Env) (tst : Env → R Bool) (el : Env → R (Nat × D)) (wipe : Env → Env) : List D → List D → Nat → Env → R (List D × Nat)
  | [], acc, n, ρ => .ok (acc, n) ρ
  | x :: xs, acc, n, ρ => match bind x (wipe ρ) with
    | none => .bad
    | some ρ1 => (tst ρ1).quiet.bind fun b ρ2 => if b then (el ρ2).quiet.bind fun v ρ3 => if acc.length < 16777216 then lcGo bind tst el wipe xs (acc ++ [v.2]) (min n (if atm v.2 then 9 else v.1)) (wipe ρ3) else .bad else lcGo bind tst el wipe xs acc n (wipe ρ2)
def dcGo (bind : D → Env → Option Env) (ky el : Env → R (Nat × D)) (wipe : Env → Env) : List D → List (D × D) → Nat → Env → R (List (D × D) × Nat)
  | [], acc, n, ρ => .ok (acc, n) ρ
  | x :: xs, acc, n, ρ => match bind x (wipe ρ) with
    | none => .bad
    | some ρ1 => (ky ρ1).quiet.bind fun k ρ2 => (el ρ2).quiet.bind fun v ρ3 =>
      if kindOk acc k.2 && decide (acc.length < 16777216) then dcGo bind ky el wipe xs (putK acc k.2 v.2) (min n (if atm v.2 then 9 else v.1)) (wipe ρ3) else .bad

/-- a display's pairs: key, value, key, value .. -/
def dicL : List (Nat × D) → List (D × D) → Nat → Option (Nat × List (D × D))
  | [], acc, n => some (n, acc)
  | k :: v :: r, acc, n => if kindOk acc k.2 then dicL r (putK acc k.2 v.2) (min n (if atm v.2 then 9 else v.1)) else none
  | _, _, _ => none

mutual
/-- expressions that leave all as it is: keys of paths -/
def evQ : E → Env → Option D
  | .int i, _ => some (.int i)
  | .str s, _ => some (.str s)
  | .var i, ρ => (getE ρ i).map (·.2)
  | .bor i, ρ => (getE ρ i).map (·.2)
  | .bin op a b, ρ => match evQ a ρ, evQ b ρ with
    | some (.int i), some (.int j) => (opD op (9, .int i) (9, .int j)).map (·.2)
    | _, _ => none
  | .neg a, ρ => match evQ a ρ with
    | some (.int i) => some (.int (-i))
    | _ => none
  | .idx a k, ρ => match evQ a ρ, evQ k ρ with
    | some d, some e => idxD d e
    | _, _ => none
  | .bi .len (.cons a .nil), ρ => match evQ a ρ with
    | some d => (biD .len [(0, d)]).map (·.2)
    | none => none
  | .rdp a, ρ => match evP a ρ with
    | some (i, ks) => match getE ρ i with
      | some (_, d) => getP d ks
      | none => none
    | none => none
  | _, _ => none
termination_by structural e => e
/-- a path in a local: its slot, the keys -/
def evP : E → Env → Option (Nat × List D)
  | .pv i, _ => some (i, [])
  | .pi a k, ρ => match evP a ρ, evQ k ρ with
    | some (i, ks), some d => some (i, ks ++ [d])
    | _, _ => none
  | _, _ => none
termination_by structural e => e
end
mutual
def ev (c : C) : E → Env → R (Nat × D)
  | .int i, ρ => .ok (9, .int i) ρ
  | .str s, ρ => .ok (9, .str s) ρ
  | .bl b, ρ => .ok (9, .bool b) ρ
  | .non, ρ => .ok (9, .none) ρ
  | .var i, ρ => match getE ρ i with
    | some (n, d) => if atm d then .ok (9, d) ρ else .ok (0, d) (setE ρ i (some (0, d)))
    | none => .bad
  | .mov i, ρ => match getE ρ i with
    | some v => .ok v (setE ρ i none)
    | none => .bad
  | .glob _ d, ρ => .ok (sv d) ρ
  | .rdp a, ρ => match evP a ρ with
    | some (i, ks) => match getE ρ i with
      | some (n, d) => match getP d ks with
        | some e => if atm e then .ok (9, e) ρ else .bad
        | none => .bad
      | none => .bad
    | none => .bad
  | .qt a, ρ => match evQ a ρ with
    | some e => if atm e then .ok (9, e) ρ else .bad
    | none => .bad
  | .tup es, ρ => (evs c es ρ).bind fun vs ρ1 => .ok (cdep vs + 1, .tuple (vs.map (·.2))) ρ1
  | .lst es, ρ => (evs c es ρ).bind fun vs ρ1 => .ok (cdep vs + 1, .list (vs.map (·.2))) ρ1
  | .neg a, ρ => (ev c a ρ).bind fun v ρ1 => match v with
    | (_, .int i) => .ok (9, .int (-i)) ρ1
    | _ => .bad
  | .bin op a b, ρ => (ev c a ρ).bind fun v ρ1 => (ev c b ρ1).bind fun w ρ2 => ofO (opD op v w) ρ2
  | .cmp op a b, ρ => (ev c a ρ).bind fun v ρ1 => (ev c b ρ1).bind fun w ρ2 => ofO ((cmpD op v.2 w.2).map fun k => (9, .bool k)) ρ2
  | .cmpQ op a q, ρ => (ev c a ρ).bind fun v ρ1 => match evQ q ρ1 with
    | some d => ofO ((cmpD op v.2 d).map fun k => (9, .bool k)) ρ1
    | none => .bad
  | .cmpB op i b, ρ => match getE ρ i with
    | some v => (ev c b (setE ρ i none)).bind fun w ρ1 => ofO ((cmpD op v.2 w.2).map fun k => (9, .bool k)) (setE ρ1 i (some v))
    | none => .bad
  | .mthB m i es, ρ => match getE ρ i with
    | some v => if mthOk m v.2 then (evs c es (setE ρ i none)).bind fun vs ρ1 => match mthD m v.2 vs with
        | some x => if atm x.2 then .ok (9, x.2) (setE ρ1 i (some v)) else .bad
        | none => .bad
      else .bad
    | none => .bad
  | .chain o1 o2 a b d, ρ => (ev c a ρ).bind fun v ρ1 => (ev c b ρ1).bind fun w ρ2 => match cmpD o1 v.2 w.2 with
    | some true => (ev c d ρ2).bind fun u ρ3 => ofO ((cmpD o2 w.2 u.2).map fun k => (9, .bool k)) ρ3
    | some false => .ok (9, .bool false) ρ2
    | none => .bad
  | .and_ a b, ρ => (ev c a ρ).bind fun v ρ1 => match v with
    | (_, .bool true) => ev c b ρ1
    | (_, .bool false) => .ok (9, .bool false) ρ1
    | _ => .bad
  | .or_ a b, ρ => (ev c a ρ).bind fun v ρ1 => match v with
    | (_, .bool true) => .ok (9, .bool true) ρ1
    | (_, .bool false) => ev c b ρ1
    | _ => .bad
  | .not_ a, ρ => (ev c a ρ).bind fun v ρ1 => match v with
    | (_, .bool k) => .ok (9, .bool (!k)) ρ1
    | _ => .bad
  | .ite t a b, ρ => (ev c t ρ).bind fun v ρ1 => match v with
    | (_, .bool true) => ev c a ρ1
    | (_, .bool false) => ev c b ρ1
    | _ => .bad
  | .idx a i, ρ => (ev c a ρ).bind fun v ρ1 => (ev c i ρ1).bind fun k ρ2 => ofO ((idxD v.2 k.2).map fun d => (if atm d then 9 else v.1 - 1, d)) ρ2
  | .slc a lo hi, ρ => (ev c a ρ).bind fun v ρ1 => (evs c lo ρ1).bind fun l ρ2 => match optI (l.head?.map (·.2)) with
    | some l' => (evs c hi ρ2).bind fun h ρ3 => match optI (h.head?.map (·.2)) with
      | some h' => ofO (slcD v.1 v.2 l' h') ρ3
      | none => .bad
    | none => .bad
  | .rev a, ρ => (ev c a ρ).bind fun v ρ1 => match v with
    | (n, .list xs) => .ok (max n 1, .list xs.reverse) ρ1
    | _ => .bad
  | .call f es, ρ => (evs c es ρ).bind fun vs ρ1 => match lendV ρ1 es vs with
    | some as => callK ρ1 es (c.call f as)
    | none => .bad
  | .bi b es, ρ => (evs c es ρ).bind fun vs ρ1 => ofO (biD b vs) ρ1
  | .mth m a es, ρ => (ev c a ρ).bind fun v ρ1 => if mthOk m v.2 then (evs c es ρ1).bind fun vs ρ2 => ofO (mthD m v.2 vs) ρ2 else .bad
  | .isI a ts, ρ => (ev c a ρ).bind fun v ρ1 => .ok (9, .bool (ts.any fun t => isTy t v.2)) ρ1
  | .mut m a es, ρ => match evP a ρ with
    | some (i, []) => if mutOk m (getE ρ i) then (evs c es ρ).bind fun vs ρ2 => match getE ρ2 i with
        | some (n + 1, d) => match muD m (n + 1) d vs with
          | some (w, r) => .ok r (setE ρ2 i (some w))
          | none => .bad
        | _ => .bad
      else .bad
    | some (i, k :: ks) => match getE ρ i with
      | some v => (evs c es (setE ρ i none)).bind fun vs ρ2 => match chgP v.1 v.2 (k :: ks) (fun n d => muD m n d vs) with
        | some (w, r) => .ok r (setE ρ2 i (some w))
        | none => .bad
      | none => .bad
    | none => .bad
  | .sdap i k e, ρ => (ev c k ρ).bind fun kv ρ1 => (ev c e ρ1).bind fun v ρ2 => match getE ρ2 i with
    | some (n + 1, .dict kvs) => if kindOk kvs kv.2 && keyA kv.2 && decide (kvs.length < 16777216) then match (lookK kvs kv.2).getD (.list []) with
        | .list xs => if xs.length < 16777216 then .ok (9, .none) (setE ρ2 i (some (if n = 0 then 0 else dmin (n + 1) (dmin 9 v, .list []), .dict (putK kvs kv.2 (.list (xs ++ [v.2])))))) else .bad
        | _ => .bad
      else .bad
    | _ => .bad
  | .lc w t it q el, ρ => (evI c it ρ).bind fun xs ρ1 => (lcGo (fun x r => bindT t (sv x) r) (fun r => evT c q r) (fun r => ev c el r) (fun r => wipeE r w) xs [] 9 (wipeE ρ1 w)).bind fun p ρ2 => .ok (p.2 + 1, .list p.1) ρ2
  | .dc w t it k v, ρ => (evI c it ρ).bind fun xs ρ1 => (dcGo (fun x r => bindT t (sv x) r) (fun r => ev c k r) (fun r => ev c v r) (fun r => wipeE r w) xs [] 9 (wipeE ρ1 w)).bind fun p ρ2 => .ok (p.2 + 1, .dict p.1) ρ2
  | .dic t es, ρ => (evs c es ρ).bind fun vs ρ1 => match dicL vs (if t then [mrk] else []) 9 with
    | some (n, kvs) => .ok (n + 1, .dict kvs) ρ1
    | none => .bad
  | .eis cs, ρ => match c.cur with
    | some (k, _) => .ok (9, .bool (cs.any fun x => c.sub k x)) ρ
    | none => .bad
  | .efld k, ρ => match c.cur with
    | some (_, ds) => match ds[k]? with
      | some d => .ok (sv d) ρ
      | none => .bad
    | none => .bad
  | _, _ => .bad
termination_by structural e => e
def evs (c : C) : E → Env → R (List (Nat × D))
  | .nil, ρ => .ok [] ρ
  | .cons (.lend i) b, ρ => match getE ρ i with
    | some _ => evs c b ρ
    | none => .bad
  | .cons a b, ρ => (ev c a ρ).bind fun v ρ1 => (evs c b ρ1).bind fun vs ρ2 => .ok (v :: vs) ρ2
  | _, _ => .bad
termination_by structural e => e
def evT (c : C) : E → Env → R Bool
  | .nil, ρ => .ok true ρ
  | .cons a .nil, ρ => (ev c a ρ).bind tru
  | _, _ => .bad
termination_by structural e => e
def evI (c : C) : E → Env → R (List D)
  | .irng1 a, ρ => (ev c a ρ).bind fun v ρ1 => match v with
    | (_, .int b) => ofO (rngLo 0 b) ρ1
    | _ => .bad
  | .irng2 a b, ρ => (ev c a ρ).bind fun v ρ1 => (ev c b ρ1).bind fun w ρ2 => match v, w with
    | (_, .int i), (_, .int j) => ofO (rngLo i j) ρ2
    | _, _ => .bad
  | .irng3 a b d, ρ => (ev c a ρ).bind fun v ρ1 => (ev c b ρ1).bind fun w ρ2 => (ev c d ρ2).bind fun u ρ3 => match v, w, u with
    | (_, .int i), (_, .int j), (_, .int k) => ofO (rng3 i j k) ρ3
    | _, _, _ => .bad
  | .ienum a, ρ => (ev c a ρ).bind fun v ρ1 => match v with
    | (_, .list xs) => .ok (enumL 0 xs) ρ1
    | _ => .bad
  | .izip a b, ρ => (ev c a ρ).bind fun v ρ1 => (ev c b ρ1).bind fun w ρ2 => match v, w with
    | (_, .list xs), (_, .list ys) => .ok (zipL xs ys) ρ2
    | _, _ => .bad
  | .iitems a, ρ => (ev c a ρ).bind fun v ρ1 => match v with
    | (_, .dict kvs) => .ok ((bare kvs).map fun p => .tuple [p.1, p.2]) ρ1
    | _ => .bad
  | .ivals a, ρ => (ev c a ρ).bind fun v ρ1 => match v with
    | (_, .dict kvs) => .ok ((bare kvs).map fun p => p.2) ρ1
    | _ => .bad
  | .iseq a, ρ => (ev c a ρ).bind fun v ρ1 => ofO (itemsOf v.2) ρ1
  | _, _ => .bad
termination_by structural e => e
end

/-! ### statements -/
def forGo (bind : D → Env → Option Env) (body : Env → O) : List D → Env → O
  | [], ρ => .nx ρ
  | x :: xs, ρ => match bind x ρ with
    | none => .bad
    | some ρ1 => match body ρ1 with
      | .nx ρ2 => forGo bind body xs ρ2
      | .ct ρ2 => forGo bind body xs ρ2
      | .bk ρ2 => .nx ρ2
      | o => o
def whlGo (tst : Env → R Bool) (body : Env → O) : Nat → Env → O
  | 0, _ => .bad
  | n + 1, ρ => match tst ρ with
    | .ok true ρ1 => match body ρ1 with
      | .nx ρ2 => whlGo tst body n ρ2
      | .ct ρ2 => whlGo tst body n ρ2
      | .bk ρ2 => .nx ρ2
      | o => o
    | .ok false ρ1 => .nx ρ1
    | .exc c ds ρ1 => .exc c ds ρ1
    | .bad => .bad
def R.toO {α : Type} (r : R α) (k : α → Env → O) : O := match r with
  | .ok a ρ => k a ρ
  | .exc c ds ρ => .exc c ds ρ
  | .bad => .bad
@[simp] theorem R.toO_ok {α : Type} (a : α) (ρ : Env) (k : α → Env → O) : (R.ok a ρ).toO k = k a ρ := rfl
@[simp] theorem R.toO_exc {α : Type} (c : Nat) (ds : List D) (ρ : Env) (k : α → Env → O) : (R.exc c ds ρ : R α).toO k = .exc c ds ρ := rfl
@[simp] theorem R.toO_bad {α : Type} (k : α → Env → O) : (R.bad : R α).toO k = .bad := rfl
/-- o[k] = v where o[k] is a path -/
def stoE (q : Nat × List D) (v : Nat × D) (ρ : Env) (go : Env → O) : O := match getE ρ q.1 with
  | some (n, d) => match q.2.reverse with
    | k :: ks => match chgP n d ks.reverse (fun m o => (stoD m o k v).map fun w => (w, (9, .none))) with
      | some (w, _) => go (setE ρ q.1 (some w))
      | none => .bad
    | [] => .bad
  | none => .bad
/-- behind a handler: its name is gone; what it raises is not served -/
def dropO (n : Nat) : O → O
  | .nx ρ => .nx (setE ρ n none)
  | .bk ρ => .bk (setE ρ n none)
  | .ct ρ => .ct (setE ρ n none)
  | .rt v ρ => .rt v ρ
  | _ => .bad
def ex (c : C) : S → Env → O
  | .nop, ρ => .nx ρ
  | .seq a b, ρ => match ex c a ρ with
    | .nx ρ1 => ex c b ρ1
    | o => o
  | .pass, ρ => .nx ρ
  | .expr e, ρ => (ev c e ρ).toO fun _ ρ1 => .nx ρ1
  | .asg t e, ρ => (ev c e ρ).toO fun v ρ1 => match bindT t v ρ1 with
    | some ρ2 => .nx ρ2
    | none => .bad
  | .sto a e, ρ => (ev c e ρ).toO fun v ρ1 => match evP a ρ1 with
    | some q => stoE q v ρ1 .nx
    | none => .bad
  | .sto2 a b e, ρ => (ev c e ρ).toO fun v ρ1 => match v with
    | (n, .tuple [x, y]) => match evP a ρ1 with
      | some q => stoE q (if atm x then 9 else n - 1, x) ρ1 fun ρ3 => match evP b ρ3 with
        | some q2 => stoE q2 (if atm y then 9 else n - 1, y) ρ3 .nx
        | none => .bad
      | none => .bad
    | _ => .bad
  | .aug op i e, ρ => match getE ρ i with
    | some (_, .int j) => (ev c e ρ).toO fun v ρ1 => match v with
      | (_, .int k) => match opD op (9, .int j) (9, .int k) with
        | some w => .nx (setE ρ1 i (some w))
        | none => .bad
      | _ => .bad
    | _ => .bad
  | .augs op a e, ρ => match evP a ρ with
    | some q => match getE ρ q.1 with
      | some (n, d) => match getP d q.2 with
        | some (.int j) => (ev c e ρ).toO fun v ρ2 => match v with
          | (_, .int k) => match opD op (9, .int j) (9, .int k) with
            | some w => stoE q w ρ2 .nx
            | none => .bad
          | _ => .bad
        | _ => .bad
      | none => .bad
    | none => .bad
  | .ret e, ρ => (ev c e ρ).toO fun v ρ1 => .rt v ρ1
  | .retN, ρ => .rt (9, .none) ρ
  | .ite t a b, ρ => ((ev c t ρ).bind tru).toO fun k ρ1 => if k then ex c a ρ1 else ex c b ρ1
  | .for_ t it b, ρ => (evI c it ρ).toO fun xs ρ1 => forGo (fun x r => bindT t (sv x) r) (fun r => ex c b r) xs ρ1
  | .whl n t b, ρ => whlGo (fun r => (ev c t r).bind tru) (fun r => ex c b r) n ρ
  | .brk, ρ => .bk ρ
  | .cont, ρ => .ct ρ
  | .rais k es, ρ => (evs c es ρ).toO fun vs ρ1 => .exc k (vs.map (·.2)) ρ1
  | .try1 b k n h, ρ => match ex c b ρ with
    | .exc k' ds ρ1 => if n < ρ1.length then (if c.sub k' k then dropO n (ex { c with cur := some (k', ds) } h (setE ρ1 n none)) else .exc k' ds ρ1) else .bad
    | o => o
  | .try2 b k1 n1 h1 k2 n2 h2, ρ => match ex c b ρ with
    | .exc k' ds ρ1 => if c.sub k' k1 then ex { c with cur := some (k', ds) } h1 ρ1 else if c.sub k' k2 then ex { c with cur := some (k', ds) } h2 ρ1 else .exc k' ds ρ1
    | o => o

/-! ### defs -/
/-- a def: how many parameters, how many slots, which parameters are lent, the body -/
structure Fn where
  ar : Nat
  slots : Nat
  lent : List Nat
  body : S
def outsOf (ρ : Env) : List Nat → Option (List (Nat × D))
  | [] => some []
  | i :: is => match getE ρ i, outsOf ρ is with
    | some v, some vs => some (v :: vs)
    | _, _ => none
def fin (ρ : Env) (is : List Nat) (k : List (Nat × D) → CR) : CR := match outsOf ρ is with
  | some outs => k outs
  | none => .bad
def retC (is : List Nat) : O → CR
  | .nx ρ => fin ρ is fun outs => .ok (9, .none) outs
  | .rt v ρ => fin ρ is fun outs => .ok v outs
  | .exc c ds ρ => fin ρ is fun outs => .exc c ds outs
  | _ => .bad
def startE (n : Nat) (as : List (Nat × D)) : Env := as.map some ++ List.replicate (n - as.length) none
def run (tbl : List Fn) (sub : Nat → Nat → Bool) : Nat → Nat → List (Nat × D) → CR
  | 0, _, _ => .bad
  | n + 1, f, as => match tbl[f]? with
    | some F => if as.length == F.ar then retC F.lent (ex ⟨run tbl sub n, sub, none⟩ F.body (startE F.slots as)) else .bad
    | none => .bad
end PL

/-! PL2: how the plain data stands in the layer's heap: shared data (Dd), data with parts of one's own (Rp, with the count of its own addresses), the locals (Envs). -/
namespace PL
open PySem L2
open PySem (PyData Str)
abbrev Frag := PySem.W.Frag
abbrev Cnt := Addr → Nat
def zro : Cnt := fun _ => 0
def one (a : Addr) : Cnt := fun b => if b = a then 1 else 0
def add (c d : Cnt) : Cnt := fun a => c a + d a
theorem add_zro (c : Cnt) : add c zro = c := funext fun _ => Nat.add_zero _
theorem zro_add (c : Cnt) : add zro c = c := funext fun _ => Nat.zero_add _
theorem add_assoc (c d e : Cnt) : add (add c d) e = add c (add d e) := funext fun _ => Nat.add_assoc _ _ _
theorem add_comm (c d : Cnt) : add c d = add d c := funext fun _ => Nat.add_comm _ _
theorem one_self (a : Addr) : one a a = 1 := if_pos rfl
theorem one_ne {a b : Addr} (h : b ≠ a) : one a b = 0 := if_neg h
/-- the heap without what is counted -/
def hid (H : Hp) (t : Cnt) : Hp := fun a => if t a = 0 then H a else none
theorem hid_some {H : Hp} {t : Cnt} {a : Addr} {o : HO} : hid H t a = some o ↔ t a = 0 ∧ H a = some o := by
  unfold hid
  by_cases h : t a = 0
  · rw [if_pos h]; exact ⟨fun e => ⟨h, e⟩, fun e => e.2⟩
  · rw [if_neg h]; exact Iff.intro (fun e => nomatch e) (fun e => absurd e.1 h)
theorem hid_sub {H : Hp} {t : Cnt} : Same (hid H t) H := fun _ _ e => (hid_some.mp e).2

def kD : Key → D
  | .inl i => .int i
  | .inr x => .str x
def tD (k : List Key) : D := .tuple (k.map kD)

mutual
/-- shared data -/
inductive Dd (K : Frag) (H : Hp) : V → D → Prop
  | non : Dd K H .non .none
  | bl (b : Bool) : Dd K H (.bl b) (.bool b)
  | int (i : Int) : Dd K H (.int i) (.int i)
  | str (x : Str) : Dd K H (.str x) (.str x)
  | lst {a : Addr} {xs : List V} {ds : List D} : SqL K H a xs → (H a = some (.lst xs) ∨ ds.all intA = true) → DdAll K H xs ds → Dd K H (.ref a) (.list ds)
  | tup {a : Addr} {xs : List V} {ds : List D} : SqT K H a xs → (H a = some (.tup xs) ∨ ds.all strA = true) → DdAll K H xs ds → Dd K H (.ref a) (.tuple ds)
  | dk {a : Addr} {ks : List Key} {xs : List V} {ds : List D} : Rd H a (.dK (ks.zip xs)) → ks.length = xs.length → DdAll K H xs ds → Dd K H (.ref a) (.dict ((ks.map kD).zip ds))
  | dt {a : Addr} {ks : List (List Key)} {xs : List V} {ds : List D} : H a = some (.dT (ks.zip xs)) → ks.length = xs.length → DdAll K H xs ds → Dd K H (.ref a) (.dict (mrk :: (ks.map tD).zip ds))
inductive DdAll (K : Frag) (H : Hp) : List V → List D → Prop
  | nil : DdAll K H [] []
  | cons {v : V} {vs : List V} {d : D} {ds : List D} : Dd K H v d → DdAll K H vs ds → DdAll K H (v :: vs) (d :: ds)
end
mutual
/-- data of which n levels are one's own; the count says which addresses -/
inductive Rp (K : Frag) (F H : Hp) : Nat → V → D → Cnt → Prop
  | at_ {n : Nat} {v : V} {d : D} : atm d = true → (∀ G, Dd K G v d) → Rp K F H n v d zro
  | sh {v : V} {d : D} : Dd K F v d → Rp K F H 0 v d zro
  | lst {n : Nat} {a : Addr} {xs : List V} {ds : List D} {c : Cnt} : H a = some (.lst xs) → Rps K F H n xs ds c → Rp K F H (n + 1) (.ref a) (.list ds) (add (one a) c)
  | tup {n : Nat} {a : Addr} {xs : List V} {ds : List D} {c : Cnt} : H a = some (.tup xs) → Rps K F H n xs ds c → Rp K F H (n + 1) (.ref a) (.tuple ds) (add (one a) c)
  | dk {n : Nat} {a : Addr} {ks : List Key} {xs : List V} {ds : List D} {c : Cnt} : H a = some (.dK (ks.zip xs)) → ks.length = xs.length → ks.Nodup → Rps K F H n xs ds c → Rp K F H (n + 1) (.ref a) (.dict ((ks.map kD).zip ds)) (add (one a) c)
  | dt {n : Nat} {a : Addr} {ks : List (List Key)} {xs : List V} {ds : List D} {c : Cnt} : H a = some (.dT (ks.zip xs)) → ks.length = xs.length → ks.Nodup → Rps K F H n xs ds c → Rp K F H (n + 1) (.ref a) (.dict (mrk :: (ks.map tD).zip ds)) (add (one a) c)
inductive Rps (K : Frag) (F H : Hp) : Nat → List V → List D → Cnt → Prop
  | nil {n : Nat} : Rps K F H n [] [] zro
  | cons {n : Nat} {v : V} {vs : List V} {d : D} {ds : List D} {c c' : Cnt} : Rp K F H n v d c → Rps K F H n vs ds c' → Rps K F H n (v :: vs) (d :: ds) (add c c')
end

/-! ### shared data -/
section
variable {K : Frag} {F F' G H H' : Hp}
theorem Rd.mono {a : Addr} {u : HO} (s : Same F G) (r : Rd F a u) : Rd G a u := by
  rcases r with r | ⟨o, r⟩
  · exact .inl (s _ _ r)
  · exact .inr ⟨o, s _ _ r⟩
theorem SqL.mono {a : Addr} {xs : List V} (s : Same F G) (r : SqL K F a xs) : SqL K G a xs := by
  rcases r with r | r
  · exact .inl (Rd.mono s r)
  · exact .inr r
theorem SqT.mono {a : Addr} {xs : List V} (s : Same F G) (r : SqT K F a xs) : SqT K G a xs := by
  rcases r with r | r
  · exact .inl (Rd.mono s r)
  · exact .inr r
mutual
theorem Dd.mono (s : Same F G) : ∀ {v : V} {d : D}, Dd K F v d → Dd K G v d
  | _, _, .non => .non
  | _, _, .bl b => .bl b
  | _, _, .int i => .int i
  | _, _, .str x => .str x
  | _, _, .lst h z a => .lst (SqL.mono s h) (z.imp (s _ _) id) (DdAll.mono s a)
  | _, _, .tup h z a => .tup (SqT.mono s h) (z.imp (s _ _) id) (DdAll.mono s a)
  | _, _, .dk h e a => .dk (Rd.mono s h) e (DdAll.mono s a)
  | _, _, .dt h e a => .dt (s _ _ h) e (DdAll.mono s a)
theorem DdAll.mono (s : Same F G) : ∀ {vs : List V} {ds : List D}, DdAll K F vs ds → DdAll K G vs ds
  | _, _, .nil => .nil
  | _, _, .cons h a => .cons (Dd.mono s h) (DdAll.mono s a)
end
theorem DdAll.len : ∀ {vs : List V} {ds : List D}, DdAll K F vs ds → vs.length = ds.length
  | _, _, .nil => rfl
  | _, _, .cons _ a => by rw [List.length_cons, List.length_cons, DdAll.len a]
theorem Dd.atom {v : V} {d : D} (h : Dd K F v d) (a : atm d = true) : ∀ G, Dd K G v d := fun G => by
  cases h with
  | non => exact .non
  | bl b => exact .bl b
  | int i => exact .int i
  | str x => exact .str x
  | lst _ _ _ => cases a
  | tup _ _ _ => cases a
  | dk _ _ _ => cases a
  | dt _ _ _ => cases a
theorem Dd.get : ∀ {vs : List V} {ds : List D} {i : Nat} {d : D}, DdAll K F vs ds → ds[i]? = some d → ∃ v, vs[i]? = some v ∧ Dd K F v d
  | _, _, _, _, .nil, e => by simp at e
  | _, _, 0, _, .cons h _, e => by simp at e; subst e; exact ⟨_, rfl, h⟩
  | _, _, i + 1, _, .cons _ a, e => by
    obtain ⟨v, h1, h2⟩ := Dd.get (i := i) a (by simpa using e)
    exact ⟨v, by simpa using h1, h2⟩
theorem DdAll.append : ∀ {vs ws : List V} {ds es : List D}, DdAll K F vs ds → DdAll K F ws es → DdAll K F (vs ++ ws) (ds ++ es)
  | _, _, _, _, .nil, b => b
  | _, _, _, _, .cons h a, b => .cons h (DdAll.append a b)

/-! ### data of one's own -/
mutual
theorem Rp.mono (s : Same F F') : ∀ {n : Nat} {v : V} {d : D} {c : Cnt}, Rp K F H n v d c → (∀ a, 0 < c a → H' a = H a) → Rp K F' H' n v d c
  | _, _, _, _, .at_ a h, _ => .at_ a h
  | _, _, _, _, .sh h, _ => .sh (Dd.mono s h)
  | _, _, _, _, .lst (a := a) h r, k => .lst ((k a (by unfold add; rw [one_self]; omega)).trans h) (Rps.mono s r (fun b hb => k b (by unfold add; omega)))
  | _, _, _, _, .tup (a := a) h r, k => .tup ((k a (by unfold add; rw [one_self]; omega)).trans h) (Rps.mono s r (fun b hb => k b (by unfold add; omega)))
  | _, _, _, _, .dk (a := a) h e nd r, k => .dk ((k a (by unfold add; rw [one_self]; omega)).trans h) e nd (Rps.mono s r (fun b hb => k b (by unfold add; omega)))
  | _, _, _, _, .dt (a := a) h e nd r, k => .dt ((k a (by unfold add; rw [one_self]; omega)).trans h) e nd (Rps.mono s r (fun b hb => k b (by unfold add; omega)))
theorem Rps.mono (s : Same F F') : ∀ {n : Nat} {vs : List V} {ds : List D} {c : Cnt}, Rps K F H n vs ds c → (∀ a, 0 < c a → H' a = H a) → Rps K F' H' n vs ds c
  | _, _, _, _, .nil, _ => .nil
  | _, _, _, _, .cons h r, k => .cons (Rp.mono s h (fun b hb => k b (by unfold add; omega))) (Rps.mono s r (fun b hb => k b (by unfold add; omega)))
end
mutual
/-- .. as shared data of a heap that holds both its own and the shared parts -/
theorem Rp.view (s : Same F G) : ∀ {n : Nat} {v : V} {d : D} {c : Cnt}, Rp K F H n v d c → (∀ a o, 0 < c a → H a = some o → G a = some o) → Dd K G v d
  | _, _, _, _, .at_ a h, _ => h G
  | _, _, _, _, .sh h, _ => Dd.mono s h
  | _, _, _, _, .lst (a := a) h r, k => .lst (.inl (.inl (k a _ (by unfold add; rw [one_self]; omega) h))) (.inl (k a _ (by unfold add; rw [one_self]; omega) h)) (Rps.view s r (fun b o hb => k b o (by unfold add; omega)))
  | _, _, _, _, .tup (a := a) h r, k => .tup (.inl (.inl (k a _ (by unfold add; rw [one_self]; omega) h))) (.inl (k a _ (by unfold add; rw [one_self]; omega) h)) (Rps.view s r (fun b o hb => k b o (by unfold add; omega)))
  | _, _, _, _, .dk (a := a) (ks := ks) (xs := xs) h e _ r, k => .dk (.inl (k a _ (by unfold add; rw [one_self]; omega) h)) e (Rps.view s r (fun b o hb => k b o (by unfold add; omega)))
  | _, _, _, _, .dt (a := a) (ks := ks) (xs := xs) h e _ r, k => .dt (k a _ (by unfold add; rw [one_self]; omega) h) e (Rps.view s r (fun b o hb => k b o (by unfold add; omega)))
theorem Rps.view (s : Same F G) : ∀ {n : Nat} {vs : List V} {ds : List D} {c : Cnt}, Rps K F H n vs ds c → (∀ a o, 0 < c a → H a = some o → G a = some o) → DdAll K G vs ds
  | _, _, _, _, .nil, _ => .nil
  | _, _, _, _, .cons h r, k => .cons (Rp.view s h (fun b o hb => k b o (by unfold add; omega))) (Rps.view s r (fun b o hb => k b o (by unfold add; omega)))
end
mutual
/-- fewer levels: the rest is let go into the shared part -/
theorem Rp.weak : ∀ {n : Nat} {v : V} {d : D} {c : Cnt} (m : Nat), m ≤ n → Rp K F H n v d c →
    ∃ c', (∀ a, c' a ≤ c a) ∧ ∀ G, Same F G → (∀ a o, c' a < c a → H a = some o → G a = some o) → Rp K G H m v d c'
  | _, _, _, _, m, _, .at_ a h => ⟨zro, fun _ => Nat.le_refl _, fun _ _ _ => .at_ a h⟩
  | _, _, _, _, m, hm, .sh h => ⟨zro, fun _ => Nat.le_refl _, fun G s _ => by
      have e : m = 0 := Nat.le_zero.mp hm
      subst e
      exact .sh (Dd.mono s h)⟩
  | _, _, _, c, 0, _, h => ⟨zro, fun _ => Nat.zero_le _, fun G s k => .sh (Rp.view s h (fun a o hc e => k a o hc e))⟩
  | _, _, _, _, m + 1, hm, .lst (a := a) h r => by
    obtain ⟨c', l, q⟩ := Rps.weak m (by omega) r
    exact ⟨add (one a) c', fun b => by have := l b; unfold add; omega, fun G s k => .lst h (q G s fun b o hb e => k b o (by unfold add; omega) e)⟩
  | _, _, _, _, m + 1, hm, .tup (a := a) h r => by
    obtain ⟨c', l, q⟩ := Rps.weak m (by omega) r
    exact ⟨add (one a) c', fun b => by have := l b; unfold add; omega, fun G s k => .tup h (q G s fun b o hb e => k b o (by unfold add; omega) e)⟩
  | _, _, _, _, m + 1, hm, .dk (a := a) h e nd r => by
    obtain ⟨c', l, q⟩ := Rps.weak m (by omega) r
    exact ⟨add (one a) c', fun b => by have := l b; unfold add; omega, fun G s k => .dk h e nd (q G s fun b o hb e => k b o (by unfold add; omega) e)⟩
  | _, _, _, _, m + 1, hm, .dt (a := a) h e nd r => by
    obtain ⟨c', l, q⟩ := Rps.weak m (by omega) r
    exact ⟨add (one a) c', fun b => by have := l b; unfold add; omega, fun G s k => .dt h e nd (q G s fun b o hb e => k b o (by unfold add; omega) e)⟩
theorem Rps.weak : ∀ {n : Nat} {vs : List V} {ds : List D} {c : Cnt} (m : Nat), m ≤ n → Rps K F H n vs ds c →
    ∃ c', (∀ a, c' a ≤ c a) ∧ ∀ G, Same F G → (∀ a o, c' a < c a → H a = some o → G a = some o) → Rps K G H m vs ds c'
  | _, _, _, _, m, _, .nil => ⟨zro, fun _ => Nat.le_refl _, fun _ _ _ => .nil⟩
  | _, _, _, _, m, hm, .cons h r => by
    obtain ⟨c1, l1, q1⟩ := Rp.weak m hm h
    obtain ⟨c2, l2, q2⟩ := Rps.weak m hm r
    exact ⟨add c1 c2, fun b => by have := l1 b; have := l2 b; unfold add; omega, fun G s k => .cons (q1 G s fun b o hb e => k b o (by have := l2 b; unfold add; omega) e) (q2 G s fun b o hb e => k b o (by have := l1 b; unfold add; omega) e)⟩
end
theorem Rps.len : ∀ {n : Nat} {vs : List V} {ds : List D} {c : Cnt}, Rps K F H n vs ds c → vs.length = ds.length
  | _, _, _, _, .nil => rfl
  | _, _, _, _, .cons _ a => by rw [List.length_cons, List.length_cons, Rps.len a]
theorem Rps.append : ∀ {n : Nat} {vs ws : List V} {ds es : List D} {c c' : Cnt}, Rps K F H n vs ds c → Rps K F H n ws es c' → Rps K F H n (vs ++ ws) (ds ++ es) (add c c')
  | _, _, _, _, _, _, c', .nil, b => by rw [zro_add]; exact b
  | _, _, _, _, _, _, _, .cons h a, b => by rw [add_assoc]; exact .cons h (Rps.append a b)
/-- shared items -/
theorem Rps.sh : ∀ {vs : List V} {ds : List D}, DdAll K F vs ds → Rps K F H 0 vs ds zro
  | _, _, .nil => .nil
  | _, _, .cons h a => by
    have q : Rps K F H 0 _ _ (add zro zro) := Rps.cons (Rp.sh h) (Rps.sh a)
    rw [add_zro] at q
    exact q
/-- an item taken out, the others; and put back -/
theorem Rps.at : ∀ {n : Nat} {vs : List V} {ds : List D} {c : Cnt} {i : Nat} {d : D}, Rps K F H n vs ds c → ds[i]? = some d →
    ∃ v c1 c2, vs[i]? = some v ∧ Rp K F H n v d c1 ∧ c = add c1 c2 ∧ (∀ F' H' m w e c', Same F F' → (∀ a, 0 < c2 a → H' a = H a) → m ≤ n → Rp K F' H' m w e c' → 
      ∃ c2', (∀ a, c2' a ≤ c2 a) ∧ ∀ G, Same F' G → (∀ a o, c2' a < c2 a → H' a = some o → G a = some o) → ∃ cc, Rps K G H' m (vs.set i w) (ds.set i e) cc ∧ cc = add c' c2')
  | _, _, _, _, _, _, .nil, e => by simp at e
  | n, v :: vs, d :: ds, _, 0, _, .cons (c := c) (c' := c') h a, e => by
    simp at e; subst e
    refine ⟨v, c, c', rfl, h, rfl, fun F' H' m w e cw s k hm hw => ?_⟩
    obtain ⟨c2', l, q⟩ := Rps.weak m hm (Rps.mono s a k)
    refine ⟨c2', l, fun G s2 k2 => ⟨_, .cons (Rp.mono s2 hw (fun _ _ => rfl)) (q G s2 k2), rfl⟩⟩
  | n, v :: vs, d :: ds, _, i + 1, _, .cons (c := c) (c' := c') h a, e => by
    obtain ⟨x, c1, c2, h1, h2, h3, h4⟩ := Rps.at (i := i) a (by simpa using e)
    refine ⟨x, c1, add c c2, by simpa using h1, h2, by rw [h3]; funext b; unfold add; omega, fun F' H' m w e cw s k hm hw => ?_⟩
    obtain ⟨c2', l, q⟩ := h4 F' H' m w e cw s (fun b hb => k b (by unfold add; omega)) hm hw
    obtain ⟨c1', l1, q1⟩ := Rp.weak m hm (Rp.mono s h (fun b hb => k b (by unfold add; omega)))
    refine ⟨add c1' c2', fun b => by have := l b; have := l1 b; unfold add; omega, fun G s2 k2 => ?_⟩
    obtain ⟨cc, r1, r2⟩ := q G s2 fun b o hb e => k2 b o (by have := l1 b; unfold add; omega) e
    refine ⟨_, .cons (q1 G s2 fun b o hb e => k2 b o (by have := l b; unfold add; omega) e) r1, ?_⟩
    rw [r2]; funext b; unfold add; omega
end
end PL

/-! PL3: the locals in the heap, a state with values at hand (MS), what a computation comes to (Po, Px), readings (rd). -/
namespace PL
open PySem L2
open PySem (PyData Str)

/-! ### the locals -/
inductive Envs (K : Frag) (F H : Hp) : St → Env → Cnt → Prop
  | nil : Envs K F H [] [] zro
  | no {o : Option V} {σ : St} {ρ : Env} {c : Cnt} : Envs K F H σ ρ c → Envs K F H (o :: σ) (none :: ρ) c
  | so {n : Nat} {v : V} {d : D} {σ : St} {ρ : Env} {c c' : Cnt} : Rp K F H n v d c → Envs K F H σ ρ c' → Envs K F H (some v :: σ) (some (n, d) :: ρ) (add c c')
section
variable {K : Frag} {F F' H H' : Hp}
theorem Envs.mono (s : Same F F') : ∀ {σ : St} {ρ : Env} {c : Cnt}, Envs K F H σ ρ c → (∀ a, 0 < c a → H' a = H a) → Envs K F' H' σ ρ c
  | _, _, _, .nil, _ => .nil
  | _, _, _, .no h, k => .no (Envs.mono s h k)
  | _, _, _, .so h r, k => .so (Rp.mono s h fun b hb => k b (by unfold add; omega)) (Envs.mono s r fun b hb => k b (by unfold add; omega))
theorem Envs.len : ∀ {σ : St} {ρ : Env} {c : Cnt}, Envs K F H σ ρ c → σ.length = ρ.length
  | _, _, _, .nil => rfl
  | _, _, _, .no h => by rw [List.length_cons, List.length_cons, h.len]
  | _, _, _, .so _ h => by rw [List.length_cons, List.length_cons, h.len]
/-- a local taken out -/
theorem Envs.take : ∀ {σ : St} {ρ : Env} {c : Cnt} {i n : Nat} {d : D}, Envs K F H σ ρ c → getE ρ i = some (n, d) →
    ∃ v c1 c2, σ[i]? = some (some v) ∧ Rp K F H n v d c1 ∧ Envs K F H σ (setE ρ i none) c2 ∧ c = add c1 c2
  | _, _, _, _, _, _, .nil, e => by simp [getE] at e
  | _, _, _, 0, _, _, .no h, e => by simp [getE] at e
  | _, _, _, 0, _, _, .so h r, e => by
    simp only [getE, Option.some.injEq, Prod.mk.injEq] at e
    obtain ⟨rfl, rfl⟩ := e
    exact ⟨_, _, _, rfl, h, .no r, rfl⟩
  | _, _, _, i + 1, _, _, .no h, e => by
    obtain ⟨v, c1, c2, h1, h2, h3, h4⟩ := Envs.take (i := i) h (by simpa [getE] using e)
    exact ⟨v, c1, c2, by simpa using h1, h2, .no h3, h4⟩
  | _, _, _, i + 1, _, _, .so (c := c0) q h, e => by
    obtain ⟨v, c1, c2, h1, h2, h3, h4⟩ := Envs.take (i := i) h (by simpa [getE] using e)
    refine ⟨v, c1, add c0 c2, by simpa using h1, h2, .so q h3, ?_⟩
    rw [h4]; funext b; unfold add; omega
/-- a local let go -/
theorem Envs.drop : ∀ {σ : St} {ρ : Env} {c : Cnt} (i : Nat), Envs K F H σ ρ c → ∃ c', (∀ a, c' a ≤ c a) ∧ Envs K F H σ (setE ρ i none) c'
  | _, _, _, _, .nil => ⟨zro, fun _ => Nat.le_refl _, .nil⟩
  | _, _, _, 0, .no h => ⟨_, fun _ => Nat.le_refl _, .no h⟩
  | _, _, _, 0, .so (c' := c') h r => ⟨c', fun b => by unfold add; omega, .no r⟩
  | _, _, _, i + 1, .no h => by
    obtain ⟨c', l, q⟩ := Envs.drop i h
    exact ⟨c', l, .no q⟩
  | _, _, _, i + 1, .so (c := c0) r h => by
    obtain ⟨c', l, q⟩ := Envs.drop i h
    exact ⟨add c0 c', fun b => by have := l b; unfold add; omega, .so r q⟩
theorem getE_none : ∀ (ρ : Env) (i : Nat), getE (setE ρ i none) i = none
  | [], _ => rfl
  | _ :: _, 0 => rfl
  | _ :: r, i + 1 => getE_none r i
theorem setE_setE : ∀ (ρ : Env) (i : Nat) (v w : Option (Nat × D)), setE (setE ρ i v) i w = setE ρ i w
  | [], _, _, _ => rfl
  | _ :: _, 0, _, _ => rfl
  | o :: r, i + 1, v, w => by simp only [setE]; rw [setE_setE r i v w]
theorem getE_set : ∀ (ρ : Env) (i j : Nat) (v : Option (Nat × D)), i ≠ j → getE (setE ρ i v) j = getE ρ j
  | [], _, _, _, _ => rfl
  | _ :: _, 0, 0, _, h => absurd rfl h
  | _ :: _, 0, _ + 1, _, _ => rfl
  | _ :: _, _ + 1, 0, _, _ => rfl
  | _ :: r, i + 1, j + 1, v, h => getE_set r i j v fun e => h (by rw [e])
theorem getE_self : ∀ (ρ : Env) (i : Nat) (v : Option (Nat × D)), i < ρ.length → getE (setE ρ i v) i = v
  | [], i, _, h => by simp at h
  | _ :: _, 0, _, _ => rfl
  | _ :: r, i + 1, v, h => getE_self r i v (by simpa using h)
theorem getE_lt : ∀ {ρ : Env} {i : Nat} {v : Nat × D}, getE ρ i = some v → i < ρ.length
  | [], _, _, h => by simp [getE] at h
  | _ :: _, 0, _, _ => by simp
  | _ :: r, i + 1, _, h => by have := getE_lt (ρ := r) (i := i) (by simpa [getE] using h); simp; omega
theorem setE_len : ∀ (ρ : Env) (i : Nat) (v : Option (Nat × D)), (setE ρ i v).length = ρ.length
  | [], _, _ => rfl
  | _ :: _, 0, _ => rfl
  | _ :: r, i + 1, v => by simp only [setE, List.length_cons, setE_len r i v]
theorem setE_same : ∀ {ρ : Env} {i : Nat} {v : Nat × D}, getE ρ i = some v → setE ρ i (some v) = ρ
  | [], _, _, h => by simp [getE] at h
  | _ :: _, 0, _, h => by simp only [getE] at h; simp only [setE, h]
  | _ :: r, i + 1, _, h => by simp only [setE]; rw [setE_same (ρ := r) (i := i) (by simpa [getE] using h)]
/-- a local put in, where it holds v already -/
theorem Envs.put : ∀ {σ : St} {ρ : Env} {c c1 : Cnt} {i n : Nat} {v : V} {d : D}, Envs K F H σ ρ c → getE ρ i = none → σ[i]? = some (some v) → Rp K F H n v d c1 →
    Envs K F H σ (setE ρ i (some (n, d))) (add c1 c)
  | _, _, _, _, _, _, _, _, .nil, _, e, _ => by simp at e
  | _, _, _, _, 0, _, _, _, .no h, _, e, q => by
    simp at e; subst e
    exact .so q h
  | _, _, _, _, 0, _, _, _, .so _ _, g, _, _ => by simp [getE] at g
  | _, _, _, _, i + 1, _, _, _, .no h, g, e, q => .no (Envs.put (i := i) h (by simpa [getE] using g) (by simpa using e) q)
  | _, _, _, c1, i + 1, _, _, _, .so (c := c0) (c' := c2) r h, g, e, q => by
    have z : Envs K F H _ _ (add c0 (add c1 c2)) := Envs.so r (Envs.put (i := i) h (by simpa [getE] using g) (by simpa using e) q)
    have w : add c1 (add c0 c2) = add c0 (add c1 c2) := by funext b; unfold add; omega
    rw [w]; exact z
/-- what an unassigned local holds does not matter -/
theorem Envs.slot : ∀ {σ : St} {ρ : Env} {c : Cnt} {i : Nat} (o : Option V), Envs K F H σ ρ c → getE ρ i = none → Envs K F H (σ.set i o) ρ c
  | _, _, _, _, _, .nil, _ => .nil
  | _, _, _, 0, _, .no h, _ => .no h
  | _, _, _, 0, _, .so _ _, g => by simp [getE] at g
  | _, _, _, i + 1, o, .no h, g => .no (Envs.slot (i := i) o h (by simpa [getE] using g))
  | _, _, _, i + 1, o, .so r h, g => .so r (Envs.slot (i := i) o h (by simpa [getE] using g))
end

/-! ### a list of values at hand -/
inductive Rpl (K : Frag) (F H : Hp) : List V → List (Nat × D) → Cnt → Prop
  | nil : Rpl K F H [] [] zro
  | cons {n : Nat} {v : V} {d : D} {vs : List V} {as : List (Nat × D)} {c c' : Cnt} : Rp K F H n v d c → Rpl K F H vs as c' → Rpl K F H (v :: vs) ((n, d) :: as) (add c c')
section
variable {K : Frag} {F F' H H' : Hp}
theorem Rpl.mono (s : Same F F') : ∀ {vs : List V} {as : List (Nat × D)} {c : Cnt}, Rpl K F H vs as c → (∀ a, 0 < c a → H' a = H a) → Rpl K F' H' vs as c
  | _, _, _, .nil, _ => .nil
  | _, _, _, .cons h r, k => .cons (Rp.mono s h fun b hb => k b (by unfold add; omega)) (Rpl.mono s r fun b hb => k b (by unfold add; omega))
theorem Rpl.snoc : ∀ {vs : List V} {as : List (Nat × D)} {c c1 : Cnt} {n : Nat} {v : V} {d : D}, Rpl K F H vs as c → Rp K F H n v d c1 → Rpl K F H (vs ++ [v]) (as ++ [(n, d)]) (add c c1)
  | _, _, _, c1, _, _, _, .nil, q => by
    have z : Rpl K F H _ _ (add c1 zro) := Rpl.cons q .nil
    rw [add_zro] at z
    rw [zro_add]; exact z
  | _, _, _, _, _, _, _, .cons h r, q => by rw [add_assoc]; exact .cons h (Rpl.snoc r q)
theorem Rpl.len : ∀ {vs : List V} {as : List (Nat × D)} {c : Cnt}, Rpl K F H vs as c → vs.length = as.length
  | _, _, _, .nil => rfl
  | _, _, _, .cons _ r => by rw [List.length_cons, List.length_cons, r.len]
end

/-! ### states -/
/-- the written part, and slots that are known to stay as they are -/
structure KF where
  k : PySem.W.Frag
  fx : List (Nat × V)
instance : Coe KF PySem.W.Frag := ⟨KF.k⟩
def KF.ok (K : KF) (σ : St) : Prop := ∀ p ∈ K.fx, σ[p.1]? = some (some p.2)
structure StR (K : KF) (r : Cnt) (σ : St) (H : Hp) (ρ : Env) (c : Cnt) : Prop where
  fxs : K.ok σ
  env : Envs K (hid H (add c r)) H σ ρ c
  lin : ∀ a, c a + r a ≤ 1
  ex : ∀ a, 0 < r a → ∃ o, H a = some o
/-- what is shared stays so, as it is -/
def Lk (H : Hp) (t : Cnt) (H' : Hp) (t' : Cnt) : Prop := Same (hid H t) (hid H' t')
def Kp (r : Cnt) (H H' : Hp) : Prop := ∀ a, 0 < r a → H' a = H a
theorem Lk.refl (H : Hp) (t : Cnt) : Lk H t H t := fun _ _ e => e
theorem Lk.trans {H H1 H2 : Hp} {t t1 t2 : Cnt} (a : Lk H t H1 t1) (b : Lk H1 t1 H2 t2) : Lk H t H2 t2 := fun x o e => b x o (a x o e)
/-- fewer are hidden -/
theorem Lk.less {H : Hp} {t t' : Cnt} (h : ∀ a, t' a ≤ t a) : Lk H t H t' := fun a o e => by
  obtain ⟨z, q⟩ := hid_some.mp e
  exact hid_some.mpr ⟨by have := h a; omega, q⟩
/-- the state with values vs at hand, out of the state (H, c) -/
def MS (K : KF) (r : Cnt) (σ : St) (H : Hp) (c : Cnt) (H1 : Hp) (ρ1 : Env) (vs : List V) (as : List (Nat × D)) : Prop :=
  ∃ c1 cv, StR K (add r cv) σ H1 ρ1 c1 ∧ Rpl K (hid H1 (add c1 (add r cv))) H1 vs as cv ∧ Lk H (add c r) H1 (add c1 (add r cv)) ∧ Kp r H H1
/-- behind an expression -/
def Po (K : KF) (r : Cnt) (σ : St) (H : Hp) (c : Cnt) (v : Nat × D) (ρ' : Env) (u : V) (H' : Hp) : Prop := MS K r σ H c H' ρ' [u] [v]

/-- static facts of a text -/
structure Tab where
  tbl : List Fn
  names : List Str
  slots : List (List Str)
  sub : Nat → Nat → Bool
  errs : List (Str × List Str)
  gls : List (Str × D)
  fx : List (Nat × V)
abbrev kf (T : Tab) (X : Cx) : KF := ⟨X.K, T.fx⟩
/-- an error in the heap -/
def ErR (T : Tab) (ea : Nat → Addr) (K : Frag) (F : Hp) (k : Nat) (ds : List D) (cls : Value) (dx : Option Addr) : Prop :=
  cls = .ref (ea k) ∧ ∃ x fs, T.errs[k]? = some (x, fs) ∧ ((fs = [] ∧ dx = none) ∨ (fs ≠ [] ∧ ∃ a vs, dx = some a ∧ F a = some (.xd (fs.zip vs)) ∧ DdAll K F vs ds ∧ fs.length = vs.length))
theorem ErR.mono {T : Tab} {ea : Nat → Addr} {K : Frag} {F F' : Hp} {k : Nat} {ds : List D} {cls : Value} {dx : Option Addr} (s : Same F F') (h : ErR T ea K F k ds cls dx) : ErR T ea K F' k ds cls dx := by
  obtain ⟨e, x, fs, h1, h2 | ⟨h3, a, vs, h4, h5, h6, h7⟩⟩ := h
  · exact ⟨e, x, fs, h1, .inl h2⟩
  · exact ⟨e, x, fs, h1, .inr ⟨h3, a, vs, h4, s _ _ h5, DdAll.mono s h6, h7⟩⟩
def Px (T : Tab) (ea : Nat → Addr) (K : KF) (r : Cnt) (σ : St) (H : Hp) (c : Cnt) (k : Nat) (ds : List D) (ρ' : Env) (cls : Value) (dx : Option Addr) (H' : Hp) : Prop :=
  ∃ c', StR K r σ H' ρ' c' ∧ ErR T ea K (hid H' (add c' r)) k ds cls dx ∧ Lk H (add c r) H' (add c' r) ∧ Kp r H H'
section
variable {T : Tab} {ea : Nat → Addr} {K : Frag} {r c : Cnt} {σ : St} {H H1 H2 : Hp} {ρ ρ1 ρ2 : Env} {vs : List V} {as : List (Nat × D)} {v : Nat × D} {u : V}
theorem MS.start {K : KF} (S : StR K r σ H ρ c) : MS K r σ H c H ρ [] [] := ⟨c, zro, by rw [add_zro]; exact S, .nil, by rw [add_zro]; exact .refl _ _, fun _ _ => rfl⟩
theorem MS.push {K : KF} (m : MS K r σ H c H1 ρ1 vs as) (h : ∀ c1 cv, StR K (add r cv) σ H1 ρ1 c1 → Po K (add r cv) σ H1 c1 v ρ2 u H2) : MS K r σ H c H2 ρ2 (vs ++ [u]) (as ++ [v]) := by
  obtain ⟨c1, cv, S, R, L, k⟩ := m
  obtain ⟨c2, cw, S2, R2, L2, k2⟩ := h c1 cv S
  refine ⟨c2, add cv cw, by rw [← add_assoc]; exact S2, ?_, ?_, fun a ha => (k2 a (by unfold add; omega)).trans (k a ha)⟩
  · have z := Rpl.mono L2 R fun a ha => k2 a (by unfold add; omega)
    rw [add_assoc r cv cw] at z R2
    cases R2 with
    | cons q q' =>
      cases q'
      rw [add_zro] at z ⊢
      exact Rpl.snoc z (by simpa [add_zro] using q)
  · rw [show add c2 (add r (add cv cw)) = add c2 (add (add r cv) cw) by rw [add_assoc]]
    exact L.trans L2

/-- what is wanted behind a computation -/
def aft (T : Tab) (ea : Nat → Addr) (K : KF) (W : WX) (r : Cnt) (σ : St) (H : Hp) (c : Cnt) (Q : VK) : R (Nat × D) → Prop
  | .ok v ρ' => ∀ u H', Po K r σ H c v ρ' u H' → Q u H'
  | .exc k ds ρ' => ∀ cls dx H', Px T ea K r σ H c k ds ρ' cls dx H' → W cls dx σ H'
  | .bad => False
/-- an expression's reading: by its evaluation -/
def rd (T : Tab) (ea : Nat → Addr) (K : KF) (W : WX) (C : C) (e : E) : TE := fun σ H Q => ∃ ρ c r, StR K r σ H ρ c ∧ aft T ea K W r σ H c Q (ev C e ρ)
/-- a computation is asked behind others -/
theorem use {K : KF} {W : WX} {C : PL.C} {e : E} {Q : VK} (m : MS K r σ H c H1 ρ1 vs as)
    (hx : ∀ k ds ρ' cls dx H', ev C e ρ1 = .exc k ds ρ' → Px T ea K r σ H c k ds ρ' cls dx H' → W cls dx σ H') (hb : ev C e ρ1 ≠ .bad)
    (hk : ∀ v ρ2 u H2, ev C e ρ1 = .ok v ρ2 → MS K r σ H c H2 ρ2 (vs ++ [u]) (as ++ [v]) → Q u H2) : rd T ea K W C e σ H1 Q := by
  have m0 := m
  obtain ⟨c1, cv, S, R, L, k⟩ := m
  refine ⟨ρ1, c1, add r cv, S, ?_⟩
  cases e' : ev C e ρ1 with
  | bad => exact absurd e' hb
  | ok v ρ2 =>
    intro u H2 p
    refine hk v ρ2 u H2 e' ?_
    obtain ⟨c2, cw, S2, R2, L2, k2⟩ := p
    refine ⟨c2, add cv cw, by rw [← add_assoc]; exact S2, ?_, ?_, fun a ha => (k2 a (by unfold add; omega)).trans (k a ha)⟩
    · have z := Rpl.mono L2 R fun a ha => k2 a (by unfold add; omega)
      rw [add_assoc r cv cw] at z R2
      cases R2 with
      | cons q q' =>
        cases q'
        exact Rpl.snoc z (by simpa [add_zro] using q)
    · rw [show add c2 (add r (add cv cw)) = add c2 (add (add r cv) cw) by rw [add_assoc]]
      exact L.trans L2
  | exc kk ds ρ2 =>
    intro cls dx H2 p
    refine hx kk ds ρ2 cls dx H2 e' ?_
    obtain ⟨c2, S2, R2, L2, k2⟩ := p
    have l : Lk H2 (add c2 (add r cv)) H2 (add c2 r) := Lk.less fun a => by unfold add; omega
    exact ⟨c2, ⟨S2.fxs, Envs.mono l S2.env fun _ _ => rfl, fun a => by have := S2.lin a; unfold add at this; omega, fun a ha => S2.ex a (by unfold add; omega)⟩, R2.mono l, (L.trans L2).trans l, fun a ha => (k2 a (by unfold add; omega)).trans (k a ha)⟩
end
end PL

/-! PL4: how a step ends (fin_..), the operators by values. -/
namespace PL
open PySem L2
open PySem (PyData Str)
section
variable {K : Frag} {F F' G H H' : Hp}
mutual
theorem Rp.ex : ∀ {n : Nat} {v : V} {d : D} {c : Cnt} {a : Addr}, Rp K F H n v d c → 0 < c a → ∃ o, H a = some o
  | _, _, _, _, _, .at_ _ _, h => absurd h (Nat.lt_irrefl 0)
  | _, _, _, _, _, .sh _, h => absurd h (Nat.lt_irrefl 0)
  | _, _, _, _, b, .lst (a := a) e r, h => by
    by_cases q : b = a
    · exact ⟨_, q ▸ e⟩
    · exact Rps.ex r (by unfold add at h; rw [one_ne q] at h; omega)
  | _, _, _, _, b, .tup (a := a) e r, h => by
    by_cases q : b = a
    · exact ⟨_, q ▸ e⟩
    · exact Rps.ex r (by unfold add at h; rw [one_ne q] at h; omega)
  | _, _, _, _, b, .dk (a := a) e _ _ r, h => by
    by_cases q : b = a
    · exact ⟨_, q ▸ e⟩
    · exact Rps.ex r (by unfold add at h; rw [one_ne q] at h; omega)
  | _, _, _, _, b, .dt (a := a) e _ _ r, h => by
    by_cases q : b = a
    · exact ⟨_, q ▸ e⟩
    · exact Rps.ex r (by unfold add at h; rw [one_ne q] at h; omega)
theorem Rps.ex : ∀ {n : Nat} {vs : List V} {ds : List D} {c : Cnt} {a : Addr}, Rps K F H n vs ds c → 0 < c a → ∃ o, H a = some o
  | _, _, _, _, _, .nil, h => absurd h (Nat.lt_irrefl 0)
  | _, _, _, _, b, .cons (c := c) (c' := c') x r, h => by
    by_cases q : 0 < c b
    · exact Rp.ex x q
    · exact Rps.ex r (by unfold add at h; omega)
end
theorem Rpl.ex : ∀ {vs : List V} {as : List (Nat × D)} {c : Cnt} {a : Addr}, Rpl K F H vs as c → 0 < c a → ∃ o, H a = some o
  | _, _, _, _, .nil, h => absurd h (Nat.lt_irrefl 0)
  | _, _, _, b, .cons (c := c) x r, h => by
    by_cases q : 0 < c b
    · exact Rp.ex x q
    · exact Rpl.ex r (by unfold add at h; omega)
theorem Envs.ex : ∀ {σ : St} {ρ : Env} {c : Cnt} {a : Addr}, Envs K F H σ ρ c → 0 < c a → ∃ o, H a = some o
  | _, _, _, _, .nil, h => absurd h (Nat.lt_irrefl 0)
  | _, _, _, _, .no r, h => Envs.ex r h
  | _, _, _, b, .so (c := c) x r, h => by
    by_cases q : 0 < c b
    · exact Rp.ex x q
    · exact Envs.ex r (by unfold add at h; omega)
/-- to a lower depth; an atom to any -/
theorem Rp.lower {n k : Nat} {v : V} {d : D} {c : Cnt} (h : Rp K F H n v d c) (hk : atm d = true ∨ k ≤ n) :
    ∃ c', (∀ a, c' a ≤ c a) ∧ ∀ G, Same F G → (∀ a o, c' a < c a → H a = some o → G a = some o) → Rp K G H k v d c' := by
  by_cases e : atm d = true
  · refine ⟨zro, fun _ => Nat.zero_le _, fun G s q => .at_ e ?_⟩
    exact Dd.atom (Rp.view s h fun a o hc ho => q a o hc ho) e
  · exact Rp.weak k (by rcases hk with h | h; exact absurd h e; exact h) h
theorem Rpl.rps : ∀ {vs : List V} {as : List (Nat × D)} {c : Cnt} {k : Nat}, Rpl K F H vs as c → k ≤ cdep as →
    ∃ c', (∀ a, c' a ≤ c a) ∧ ∀ G, Same F G → (∀ a o, c' a < c a → H a = some o → G a = some o) → Rps K G H k vs (as.map (·.2)) c'
  | _, _, _, _, .nil, _ => ⟨zro, fun _ => Nat.le_refl _, fun _ _ _ => .nil⟩
  | _, _, _, k, .cons (n := n) (d := d) x r, h => by
    have h1 : k ≤ (if atm d then 9 else n) := Nat.le_trans h (Nat.min_le_left _ _)
    have h2 : k ≤ cdep _ := Nat.le_trans h (Nat.min_le_right _ _)
    obtain ⟨c1, l1, q1⟩ := Rp.lower (k := k) x (by
      by_cases e : atm d = true
      · exact .inl e
      · rw [if_neg e] at h1; exact .inr h1)
    obtain ⟨c2, l2, q2⟩ := Rpl.rps r h2
    exact ⟨add c1 c2, fun b => by have := l1 b; have := l2 b; unfold add; omega, fun G s q => .cons (q1 G s fun b o hb e => q b o (by have := l2 b; unfold add; omega) e) (q2 G s fun b o hb e => q b o (by have := l1 b; unfold add; omega) e)⟩
end

/-- a part of what is counted kept, the rest let go into the shared part -/
def Part (F H : Hp) (c : Cnt) (P : Hp → Cnt → Prop) : Prop := ∃ c', (∀ a, c' a ≤ c a) ∧ ∀ G, Same F G → (∀ a o, c' a < c a → H a = some o → G a = some o) → P G c'
section
variable {K : Frag} {F H : Hp} {c c1 c2 : Cnt} {P P1 P2 P' : Hp → Cnt → Prop}
theorem Part.imp (h : Part F H c P) (k : ∀ G c', P G c' → P' G c') : Part F H c P' := let ⟨c', l, q⟩ := h; ⟨c', l, fun G s e => k _ _ (q G s e)⟩
theorem Part.none (h : ∀ G, Same F G → P G zro) : Part F H c P := ⟨zro, fun _ => Nat.zero_le _, fun G s _ => h G s⟩
/-- nothing of one's own is kept, all may be looked at -/
theorem Part.all (h : ∀ G, Same F G → (∀ a o, 0 < c a → H a = some o → G a = some o) → P G zro) : Part F H c P := ⟨zro, fun _ => Nat.zero_le _, fun G s e => h G s e⟩
theorem Part.pair (h1 : Part F H c1 P1) (h2 : Part F H c2 P2) : Part F H (add c1 c2) (fun G c' => ∃ a b, c' = add a b ∧ P1 G a ∧ P2 G b) := by
  obtain ⟨a, l1, q1⟩ := h1
  obtain ⟨b, l2, q2⟩ := h2
  exact ⟨add a b, fun x => by have := l1 x; have := l2 x; unfold add; omega, fun G s e => ⟨a, b, rfl, q1 G s fun x o hx => e x o (by have := l2 x; unfold add; omega), q2 G s fun x o hx => e x o (by have := l1 x; unfold add; omega)⟩⟩
theorem Part.left (h : Part F H c1 P) : Part F H (add c1 c2) P := by
  obtain ⟨a, l, q⟩ := h
  exact ⟨a, fun x => by have := l x; unfold add; omega, fun G s e => q G s fun x o hx => e x o (by unfold add; omega)⟩
theorem Part.right (h : Part F H c2 P) : Part F H (add c1 c2) P := by
  obtain ⟨a, l, q⟩ := h
  exact ⟨a, fun x => by have := l x; unfold add; omega, fun G s e => q G s fun x o hx => e x o (by unfold add; omega)⟩
theorem Part.bind (sub : Same F H) (h : Part F H c P) (k : ∀ F' c', Same F' H → P F' c' → Part F' H c' P') : Part F H c P' := by
  obtain ⟨a, l, q⟩ := h
  obtain ⟨F0, hF0⟩ : ∃ F0 : Hp, ∀ x, F0 x = if (F x).isSome then F x else if a x < c x then H x else .none := ⟨_, fun _ => rfl⟩
  have s0 : Same F F0 := fun x o e => by rw [hF0, if_pos (by rw [e]; rfl)]; exact e
  have s1 : Same F0 H := fun x o e => by
    rw [hF0] at e
    split at e
    · exact sub x o e
    · split at e
      · exact e
      · cases e
  have hP := q F0 s0 fun x o hx e => by
    rw [hF0]
    split
    · rename_i z
      obtain ⟨y, hy⟩ := Option.isSome_iff_exists.mp z
      have := sub x y hy
      rw [e] at this; cases this
      exact hy
    · first | exact e | (rw [if_pos hx]; exact e)
  obtain ⟨b, l2, q2⟩ := k F0 a s1 hP
  refine ⟨b, fun x => Nat.le_trans (l2 x) (l x), fun G s e => q2 G (fun x o ho => ?_) fun x o hx ho => e x o (by have := l x; omega) ho⟩
  have ho' := s1 x o ho
  rw [hF0] at ho
  split at ho
  · exact s x o ho
  · split at ho
    · rename_i z
      exact e x o (by have := l2 x; omega) ho'
    · cases ho
end

section
variable {T : Tab} {ea : Nat → Addr} {K : Frag} {r c : Cnt} {σ : St} {H H1 H2 : Hp} {ρ ρ1 ρ2 : Env} {vs : List V} {as : List (Nat × D)} {v : Nat × D} {u : V} {d : D} {n : Nat}
theorem MS.view {K : KF} (m : MS K r σ H c H1 ρ1 vs as) : DdAll K H1 vs (as.map (·.2)) := by
  obtain ⟨c1, cv, S, R, L, k⟩ := m
  have go : ∀ {vs : List V} {as : List (Nat × D)} {cc : Cnt}, Rpl K (hid H1 (add c1 (add r cv))) H1 vs as cc → DdAll K H1 vs (as.map (·.2)) := by
    intro vs as cc R
    induction R with
    | nil => exact .nil
    | cons x _ ih => exact .cons (Rp.view hid_sub x fun _ _ _ e => e) ih
  exact go R
/-- values at hand forgotten, a part kept as the result -/
theorem fin_part0 {K : KF} {c1 cv : Cnt} (S : StR K (add r cv) σ H1 ρ1 c1) (L : Lk H (add c r) H1 (add c1 (add r cv))) (k : Kp r H H1) (h : Part (hid H1 (add c1 (add r cv))) H1 cv fun G cv' => Rp K G H1 n u d cv') :
    Po K r σ H c (n, d) ρ1 u H1 := by
  obtain ⟨cv', le, q⟩ := h
  have l : Lk H1 (add c1 (add r cv)) H1 (add c1 (add r cv')) := Lk.less fun a => by have := le a; unfold add; omega
  refine ⟨c1, cv', ⟨S.fxs, Envs.mono l S.env fun _ _ => rfl, fun a => by have := S.lin a; have := le a; unfold add at *; omega, fun a ha => S.ex a (by have := le a; unfold add at *; omega)⟩, ?_, L.trans l, k⟩
  have z : Rp K (hid H1 (add c1 (add r cv'))) H1 n u d cv' := q _ l fun a o hc e => hid_some.mpr ⟨by have := S.lin a; unfold add at *; omega, e⟩
  have w := Rpl.cons z .nil
  rw [add_zro] at w
  exact w
theorem fin_part {K : KF} (m : MS K r σ H c H1 ρ1 vs as) (h : ∀ F cv, Same F H1 → Rpl K F H1 vs as cv → Part F H1 cv fun G cv' => Rp K G H1 n u d cv') :
    Po K r σ H c (n, d) ρ1 u H1 := by
  obtain ⟨c1, cv, S, R, L, k⟩ := m
  exact fin_part0 S L k (h _ cv hid_sub R)
theorem fin_at {K : KF} (m : MS K r σ H c H1 ρ1 vs as) (n : Nat) (ha : atm d = true) (hd : ∀ G, Dd K G u d) : Po K r σ H c (n, d) ρ1 u H1 :=
  fin_part m fun F cv _ R => .none fun _ _ => .at_ ha hd
/-- a new object as the result -/
theorem fin_new0 {K : KF} {c1 cv : Cnt} (S : StR K (add r cv) σ H1 ρ1 c1) (L : Lk H (add c r) H1 (add c1 (add r cv))) (k : Kp r H H1) {p : Addr} (hp : H1 p = none) (o : HO)
    (h : Part (hid H1 (add c1 (add r cv))) H1 cv fun G cv' => Rp K G (upd H1 p o) n (.ref p) d (add (one p) cv')) :
    Po K r σ H c (n, d) ρ1 (.ref p) (upd H1 p o) := by
  obtain ⟨cv', le, q⟩ := h
  have ne : ∀ a, (∃ o, H1 a = some o) → a ≠ p := fun a ⟨o, e⟩ z => by rw [z, hp] at e; cases e
  have up : ∀ a, (∃ o, H1 a = some o) → upd H1 p o a = H1 a := fun a z => upd_ne (ne a z)
  have n1 : c1 p = 0 := by
    by_cases z : 0 < c1 p
    · exact absurd rfl (ne p (Envs.ex S.env z))
    · omega
  have n2 : r p + cv p = 0 := by
    by_cases z : 0 < (add r cv) p
    · exact absurd rfl (ne p (S.ex p z))
    · unfold add at z; omega
  have l : Lk H1 (add c1 (add r cv)) (upd H1 p o) (add c1 (add r (add (one p) cv'))) := fun a x e => by
    obtain ⟨z, e⟩ := hid_some.mp e
    have nap := ne a ⟨x, e⟩
    refine hid_some.mpr ⟨?_, by rw [upd_ne nap]; exact e⟩
    have := le a
    unfold add at *
    rw [one_ne nap]
    omega
  refine ⟨c1, add (one p) cv', ⟨S.fxs, Envs.mono l S.env fun a ha => up a (Envs.ex S.env ha), fun a => ?_, fun a ha => ?_⟩, ?_, L.trans l, fun a ha => (up a (S.ex a (by unfold add; omega))).trans (k a ha)⟩
  · have := S.lin a
    have := le a
    unfold add at *
    by_cases e : a = p
    · subst e; rw [one_self]; omega
    · rw [one_ne e]; omega
  · by_cases e : a = p
    · subst e; exact ⟨o, upd_same⟩
    · obtain ⟨x, hx⟩ := S.ex a (by have := le a; unfold add at *; rw [one_ne e] at ha; omega)
      exact ⟨x, by rw [upd_ne e]; exact hx⟩
  · have z : Rp K (hid (upd H1 p o) (add c1 (add r (add (one p) cv')))) (upd H1 p o) n (.ref p) d (add (one p) cv') := q _ l fun a x hc e => by
      have nap := ne a ⟨x, e⟩
      refine hid_some.mpr ⟨?_, by rw [upd_ne nap]; exact e⟩
      have := S.lin a
      unfold add at *
      rw [one_ne nap]
      omega
    have w := Rpl.cons z .nil
    rw [add_zro] at w
    exact w
theorem fin_lst0 {K : KF} {c1 cv : Cnt} (S : StR K (add r cv) σ H1 ρ1 c1) (L : Lk H (add c r) H1 (add c1 (add r cv))) (k : Kp r H H1) {p : Addr} (hp : H1 p = none) {kk : Nat} {xs : List V} {ds : List D}
    (h : Part (hid H1 (add c1 (add r cv))) H1 cv fun G cv' => Rps K G H1 kk xs ds cv') : Po K r σ H c (kk + 1, .list ds) ρ1 (.ref p) (upd H1 p (.lst xs)) :=
  fin_new0 S L k hp _ (h.imp fun G cv' q => .lst upd_same (Rps.mono (fun _ _ z => z) q fun a ha => upd_ne fun z => by
      obtain ⟨o, ho⟩ := Rps.ex q ha
      rw [z, hp] at ho; cases ho))
theorem fin_lst {K : KF} (m : MS K r σ H c H1 ρ1 vs as) {p : Addr} (hp : H1 p = none) {k : Nat} {xs : List V} {ds : List D} (h : ∀ F cv, Same F H1 → Rpl K F H1 vs as cv → Part F H1 cv fun G cv' => Rps K G H1 k xs ds cv') :
    Po K r σ H c (k + 1, .list ds) ρ1 (.ref p) (upd H1 p (.lst xs)) := by
  obtain ⟨c1, cv, S, R, L, kk⟩ := m
  exact fin_lst0 S L kk hp (h _ cv hid_sub R)
theorem fin_tup0 {K : KF} {c1 cv : Cnt} (S : StR K (add r cv) σ H1 ρ1 c1) (L : Lk H (add c r) H1 (add c1 (add r cv))) (k : Kp r H H1) {p : Addr} (hp : H1 p = none) {kk : Nat} {xs : List V} {ds : List D}
    (h : Part (hid H1 (add c1 (add r cv))) H1 cv fun G cv' => Rps K G H1 kk xs ds cv') : Po K r σ H c (kk + 1, .tuple ds) ρ1 (.ref p) (upd H1 p (.tup xs)) :=
  fin_new0 S L k hp _ (h.imp fun G cv' q => .tup upd_same (Rps.mono (fun _ _ z => z) q fun a ha => upd_ne fun z => by
      obtain ⟨o, ho⟩ := Rps.ex q ha
      rw [z, hp] at ho; cases ho))
theorem fin_tup {K : KF} (m : MS K r σ H c H1 ρ1 vs as) {p : Addr} (hp : H1 p = none) {k : Nat} {xs : List V} {ds : List D} (h : ∀ F cv, Same F H1 → Rpl K F H1 vs as cv → Part F H1 cv fun G cv' => Rps K G H1 k xs ds cv') :
    Po K r σ H c (k + 1, .tuple ds) ρ1 (.ref p) (upd H1 p (.tup xs)) := by
  obtain ⟨c1, cv, S, R, L, kk⟩ := m
  exact fin_tup0 S L kk hp (h _ cv hid_sub R)
end

/-! ### values off their data -/
section
variable {K : Frag} {H : Hp} {v : V}
theorem Dd.int' {i : Int} (h : Dd K H v (.int i)) : v = .int i := by cases h; rfl
theorem Dd.bl' {i : Bool} (h : Dd K H v (.bool i)) : v = .bl i := by cases h; rfl
theorem Dd.str' {i : Str} (h : Dd K H v (.str i)) : v = .str i := by cases h; rfl
theorem Dd.non' (h : Dd K H v .none) : v = .non := by cases h; rfl
theorem Dd.lst' {ds : List D} (h : Dd K H v (.list ds)) : ∃ a xs, v = .ref a ∧ SqL K H a xs ∧ (H a = some (.lst xs) ∨ ds.all intA = true) ∧ DdAll K H xs ds := by
  cases h with
  | lst h z a => exact ⟨_, _, rfl, h, z, a⟩
theorem Dd.tup' {ds : List D} (h : Dd K H v (.tuple ds)) : ∃ a xs, v = .ref a ∧ SqT K H a xs ∧ (H a = some (.tup xs) ∨ ds.all strA = true) ∧ DdAll K H xs ds := by
  cases h with
  | tup h z a => exact ⟨_, _, rfl, h, z, a⟩
theorem DdAll.one' {vs : List V} {d : D} (h : DdAll K H vs [d]) : ∃ v, vs = [v] ∧ Dd K H v d := by
  cases h with
  | cons a b =>
    cases b
    exact ⟨_, rfl, a⟩
theorem DdAll.two' {vs : List V} {d e : D} (h : DdAll K H vs [d, e]) : ∃ v w, vs = [v, w] ∧ Dd K H v d ∧ Dd K H w e := by
  cases h with
  | cons a b =>
    obtain ⟨w, rfl, q⟩ := b.one'
    exact ⟨_, _, rfl, a, q⟩
end
end PL

/-! PL5: operators, comparisons, by values. -/
namespace PL
open PySem L2
open PySem (PyData Str)
open PyProof.Rows hiding St
section
variable {X : Cx}
/-! ### lists that are read, whatever holds them -/
theorem listObj {pins : List (Addr × Obj)} {σ : L2.St} {H : Hp} {s : Shared} {a : Addr} {xs : List V} (I : Inv X pins σ H s) (h : SqL X.K H a xs) :
    ∃ (its : List Value) (n : Nat) (sl : Array (Option Value)), Vals xs its ∧ xs.length = its.length ∧ xs.length ≤ sizeLine ∧ s.heap.get? a = some { cls := .type "list", dict := none, data := .seq its.toArray n, slots := sl } := by
  obtain ⟨its, r, ⟨⟨cls, dd, data, sl⟩, n, ho, hc, hdd, hd⟩, hz⟩ := I.list h
  simp only at hc hdd hd
  subst hc hdd hd
  exact ⟨its, n, sl, r, r.length, hz, ho⟩
def rCatL (K : PySem.W.Frag) : R2 := fun x y H Q => ∃ l b xs zs, x = .ref l ∧ y = .ref b ∧ SqL K H l xs ∧ SqL K H b zs ∧ xs.length + zs.length ≤ sizeLine ∧ ∀ p, H p = none → Q (.ref p) (upd H p (.lst (xs ++ zs)))
theorem op_catL : OpR X (binaryOp .Add) (rCatL X.K) := by
  intro pins s σ H x y v u Q I rx ry h
  obtain ⟨l, b, xs, zs, rfl, rfl, hH, hB, hz, q⟩ := h
  cases rx
  cases ry
  obtain ⟨its, n, sl, r, hl, _, e⟩ := listObj I hH
  obtain ⟨its2, n2, sl2, r2, hl2, _, e2⟩ := listObj I hB
  refine concat_meets ⟨_, e, rfl⟩ ⟨_, e2, rfl⟩ noFill_list_add seq_list_add PySem.F.slot_list_add PySem.F.entry_list_add (PySem.F.args_list_add_2 _ _)
    (list_addW l b its.toArray its2.toArray n n2 none none sl sl2 (by rw [List.size_toArray, List.size_toArray]; omega)) ⟨e, e2, ?_⟩
  have ea : its.toArray ++ its2.toArray = (its ++ its2).toArray := by simp
  rw [ea]
  exact ⟨.ref _, _, I.lnew (t' := s.toks) (r.append r2) (by rw [List.length_append]; omega), rfl, q _ I.fresh⟩
def rRepL (K : PySem.W.Frag) : R2 := fun x y H Q => ∃ l k xs, x = .ref l ∧ y = .int k ∧ SqL K H l xs ∧ -(2 ^ 63) ≤ k ∧ k < 2 ^ 63 ∧ xs.length * k.toNat ≤ sizeLine ∧
  ∀ p, H p = none → Q (.ref p) (upd H p (.lst (List.replicate k.toNat xs).flatten))
theorem op_repL : OpR X (binaryOp .Mult) (rRepL X.K) := by
  intro pins s σ H x y v u Q I rx ry h
  obtain ⟨l, k, xs, rfl, rfl, hH, h1, h2, hz, q⟩ := h
  cases rx
  obtain ⟨t, rfl⟩ := ry
  obtain ⟨its, n, sl, r, hl, _, e⟩ := listObj I hH
  have hsz' : its.toArray.size * k.toNat ≤ 2 ^ 24 := by
    rw [List.size_toArray, ← hl]
    have : sizeLine = 2 ^ 24 := by rw [sizeLine_eq]
    omega
  refine wpAny_binaryOp_repeat_ref (T := "list") (U := "int") (by decide) ⟨_, e, rfl⟩ (fun s' => typeIs_int s' k t) noFill_list_mul PySem.F.fills_int_mul PySem.F.slot_int_rmul repeat_list PySem.F.slot_int_index.lookup
    (call_meets PySem.F.slot_int_rmul (typeIs_int s k t) PySem.F.entry_int_rmul (PySem.F.args_int_rmul_2 _ _) (lm_int_rmul_list_any k t l its.toArray n none sl)
      ⟨e, rfl, ⟨_, e, rfl⟩, call_meets PySem.F.slot_list_mul ⟨_, e, rfl⟩ PySem.F.entry_list_mul (PySem.F.args_list_mul_2 _ _)
        (lm_list_mul_any l its.toArray n none sl k t (by simp [Builtin.List.listFitsIndex]; omega) (by omega) (by simp [Builtin.List.listTooLong, sizeLine]; omega))
        ⟨e, ?_⟩⟩)
  have hnew : List.foldl (fun x1 x2 => x1 ++ x2) #[] (List.replicate (if its.toArray.isEmpty = true then 0 else k.toNat) its.toArray) = (List.replicate k.toNat its).flatten.toArray := listMul_foldl_if ..
  rw [hnew]
  exact ⟨.ref _, _, I.lnew (t' := s.toks) (r.rep k.toNat) (by rw [lm_len_rep_flat, Nat.mul_comm]; exact hz), rfl, q _ I.fresh⟩
end

/-! ### numbers -/
theorem bits_log {n : Nat} (h0 : 0 < n) {i : Int} (h : bitsOk n i = true) : i.natAbs.log2 < n := PySem.Flt.log2_lt_of h0 (of_decide_eq_true h)
def CPowW (i j : Int) : Prop := 0 ≤ j ∧ (Builtin.Int.intBits i : Int) * j ≤ 2 ^ 27
section
variable {X : Cx}
theorem op_powW : OpR X (binaryOp .Pow) (rI CPowW fun i j => .int (i ^ j.toNat)) := opI fun _ _ _ _ _ _ _ hc q => pow_int hc.1 hc.2 q
def opOf : Op → Operator
  | .add => .Add
  | .sub => .Sub
  | .mul => .Mult
  | .fdiv => .FloorDiv
  | .mod => .Mod
  | .pow => .Pow
def rStrAdd : R2 := fun x y H Q => ∃ i j, x = .str i ∧ y = .str j ∧ i.length + j.length ≤ sizeLine ∧ Q (.str (i ++ j)) H
def rop (K : PySem.W.Frag) : Op → R2
  | .add => fun x y H Q => (rI0 (fun i j => .int (i + j)) x y H Q ∨ rStrAdd x y H Q) ∨ rCatL K x y H Q
  | .sub => rI0 fun i j => .int (i - j)
  | .mul => fun x y H Q => rI CMulW (fun i j => .int (i * j)) x y H Q ∨ rRepL K x y H Q
  | .fdiv => rI CDivW fun i j => .int (i / j)
  | .mod => rI (fun _ j => 0 < j) fun i j => .int (i % j)
  | .pow => rI CPowW fun i j => .int (i ^ j.toNat)
theorem rop_ok : ∀ op, OpR X (binaryOp (opOf op)) (rop X.K op)
  | .add => .or (.or op_add op_add_str) op_catL
  | .sub => op_sub
  | .mul => .or op_mulW op_repL
  | .fdiv => op_fdivW
  | .mod => op_mod
  | .pow => op_powW
end

section
variable {K : Frag} {r c : Cnt} {σ : L2.St} {H H1 : Hp} {ρ1 : Env} {u w : V} {v1 v2 x : Nat × D}
/-- the items of a list at hand, to be put into a new one: at depth n - 1 -/
theorem Rp.items {F H : Hp} {n : Nat} {v : V} {ds : List D} {cc : Cnt} (h : Rp K F H n v (.list ds) cc) (sub : Same F H) :
    ∃ a xs, v = .ref a ∧ SqL K H a xs ∧ Part F H cc fun G c' => Rps K G H (n - 1) xs ds c' := by
  cases h with
  | at_ a _ => cases a
  | sh h =>
    cases h with
    | lst hs _ ha => exact ⟨_, _, rfl, SqL.mono sub hs, .none fun G s => Rps.sh (DdAll.mono s ha)⟩
  | lst e r => exact ⟨_, _, rfl, .inl (.inl e), _, fun b => by unfold add; omega, fun G s k => Rps.mono s r fun _ _ => rfl⟩
theorem Rp.itemsT {F H : Hp} {n : Nat} {v : V} {ds : List D} {cc : Cnt} (h : Rp K F H n v (.tuple ds) cc) (sub : Same F H) :
    ∃ a xs, v = .ref a ∧ SqT K H a xs ∧ Part F H cc fun G c' => Rps K G H (n - 1) xs ds c' := by
  cases h with
  | at_ a _ => cases a
  | sh h =>
    cases h with
    | tup hs _ ha => exact ⟨_, _, rfl, SqT.mono sub hs, .none fun G s => Rps.sh (DdAll.mono s ha)⟩
  | tup e r => exact ⟨_, _, rfl, .inl (.inl e), _, fun b => by unfold add; omega, fun G s k => Rps.mono s r fun _ _ => rfl⟩
/-- the same of a state: the items of the first value at hand -/
theorem pow_bits {i j : Int} (h : (decide (0 ≤ j) && decide (j ≤ 64) && bitsOk 4000 i) = true) : CPowW i j := by
  simp only [Bool.and_eq_true, decide_eq_true_eq] at h
  obtain ⟨⟨h1, h2⟩, h3⟩ := h
  refine ⟨h1, ?_⟩
  have b : Builtin.Int.intBits i ≤ 4001 := by
    have := bits_log (by decide) h3
    unfold Builtin.Int.intBits
    split <;> omega
  have : ((Builtin.Int.intBits i : Nat) : Int) * j ≤ 4001 * 64 := Int.mul_le_mul (by omega) h2 h1 (by decide)
  omega
theorem Rpl.two {F H : Hp} {cv : Cnt} (R : Rpl K F H [u, w] [v1, v2] cv) : ∃ c1 c2, Rp K F H v1.1 u v1.2 c1 ∧ Rp K F H v2.1 w v2.2 c2 ∧ cv = add c1 c2 := by
  cases R with
  | cons a b =>
    cases b with
    | cons b e =>
      cases e
      exact ⟨_, _, a, b, by rw [add_zro]⟩
theorem Rpl.one1 {F H : Hp} {cv : Cnt} (R : Rpl K F H [u] [v1] cv) : Rp K F H v1.1 u v1.2 cv := by
  cases R with
  | cons a b =>
    cases b
    rw [add_zro]
    exact a
theorem Rps.wk {F H : Hp} {n m : Nat} {vs : List V} {ds : List D} {cc : Cnt} (h : Rps K F H n vs ds cc) (hm : m ≤ n) : Part F H cc fun G c' => Rps K G H m vs ds c' := Rps.weak m hm h
/-- an operator by the data of its two values -/
theorem op_snd {K : KF} {op : Op} {Q : VK} (m : MS K r σ H c H1 ρ1 [u, w] [v1, v2]) (e : opD op v1 v2 = some x) (hQ : ∀ y H', Po K r σ H c x ρ1 y H' → Q y H') : rop K op u w H1 Q := by
  obtain ⟨n1, d1⟩ := v1
  obtain ⟨n2, d2⟩ := v2
  obtain ⟨_, _, e1, g1, g2⟩ := (MS.view m).two'
  cases e1
  have I : ∀ {i j : Int}, d1 = .int i → d2 = .int j → u = .int i ∧ w = .int j := fun h1 h2 => ⟨(h1 ▸ g1).int', (h2 ▸ g2).int'⟩
  cases op with
  | sub =>
    cases d1 <;> cases d2 <;> simp [opD] at e
    subst e
    obtain ⟨rfl, rfl⟩ := I rfl rfl
    exact ⟨_, _, rfl, rfl, hQ _ _ (fin_at m 9 rfl fun _ => .int _)⟩
  | fdiv =>
    cases d1 <;> cases d2 <;> simp [opD] at e
    obtain ⟨⟨h1, h2⟩, rfl⟩ := e
    obtain ⟨rfl, rfl⟩ := I rfl rfl
    exact ⟨_, _, rfl, rfl, ⟨h1, by have := bits_log (by decide) h2; omega⟩, hQ _ _ (fin_at m 9 rfl fun _ => .int _)⟩
  | mod =>
    cases d1 <;> cases d2 <;> simp [opD] at e
    obtain ⟨h1, rfl⟩ := e
    obtain ⟨rfl, rfl⟩ := I rfl rfl
    exact ⟨_, _, rfl, rfl, h1, hQ _ _ (fin_at m 9 rfl fun _ => .int _)⟩
  | pow =>
    cases d1 <;> cases d2 <;> simp only [opD, reduceCtorEq, Option.ite_none_right_eq_some, Option.some.injEq] at e
    obtain ⟨h1, rfl⟩ := e
    obtain ⟨rfl, rfl⟩ := I rfl rfl
    exact ⟨_, _, rfl, rfl, pow_bits h1, hQ _ _ (fin_at m 9 rfl fun _ => .int _)⟩
  | add =>
    cases d1 <;> cases d2 <;> simp only [opD, reduceCtorEq, Option.ite_none_right_eq_some, Option.some.injEq] at e
    · subst e
      obtain ⟨rfl, rfl⟩ := I rfl rfl
      exact .inl (.inl ⟨_, _, rfl, rfl, hQ _ _ (fin_at m 9 rfl fun _ => .int _)⟩)
    · obtain ⟨h1, rfl⟩ := e
      exact .inl (.inr ⟨_, _, g1.str', g2.str', by rw [sizeLine_eq]; exact h1, hQ _ _ (fin_at m 9 rfl fun _ => .str _)⟩)
    · obtain ⟨h1, rfl⟩ := e
      rename_i ds es
      obtain ⟨c1, cv, S, R, L, k⟩ := m
      obtain ⟨ca, cb, r1, r2, rfl⟩ := R.two
      obtain ⟨a, xs, rfl, s1, p1⟩ := r1.items hid_sub
      obtain ⟨b, ys, rfl, s2, p2⟩ := r2.items hid_sub
      have l1 : xs.length = ds.length := by
        obtain ⟨_, _, q⟩ := p1
        exact (q H1 hid_sub fun _ _ _ e => e).len
      have l2 : ys.length = es.length := by
        obtain ⟨_, _, q⟩ := p2
        exact (q H1 hid_sub fun _ _ _ e => e).len
      refine .inr ⟨a, b, xs, ys, rfl, rfl, s1, s2, by rw [l1, l2, sizeLine_eq]; exact h1, fun p hp => hQ _ _ ?_⟩
      rw [show max 1 (min n1 n2) = min (n1 - 1) (n2 - 1) + 1 by omega]
      refine fin_lst0 S L k hp (Part.bind hid_sub (p1.pair p2) fun F' c' sub' q => ?_)
      obtain ⟨a1, a2, rfl, q1, q2⟩ := q
      refine (Part.pair (q1.wk (Nat.min_le_left (n1 - 1) (n2 - 1))) (q2.wk (Nat.min_le_right (n1 - 1) (n2 - 1)))).imp fun G cc z => ?_
      obtain ⟨b1, b2, rfl, z1, z2⟩ := z
      exact z1.append z2
  | mul =>
    cases d1 <;> cases d2 <;> simp only [opD, reduceCtorEq, Option.ite_none_right_eq_some, Option.some.injEq] at e
    · obtain ⟨h1, rfl⟩ := e
      obtain ⟨rfl, rfl⟩ := I rfl rfl
      simp only [Bool.and_eq_true] at h1
      exact .inl ⟨_, _, rfl, rfl, by have := bits_log (by decide) h1.1; have := bits_log (by decide) h1.2; unfold CMulW; omega, hQ _ _ (fin_at m 9 rfl fun _ => .int _)⟩
    · obtain ⟨h1, rfl⟩ := e
      rename_i ds j
      simp only [Bool.and_eq_true, decide_eq_true_eq] at h1
      obtain ⟨c1, cv, S, R, L, k⟩ := m
      obtain ⟨ca, cb, r1, r2, rfl⟩ := R.two
      obtain ⟨a, xs, rfl, s1, p1⟩ := r1.items hid_sub
      have l1 : xs.length = ds.length := by
        obtain ⟨_, _, q⟩ := p1
        exact (q H1 hid_sub fun _ _ _ e => e).len
      obtain rfl := g2.int'
      refine .inr ⟨a, j, xs, rfl, rfl, s1, by omega, by omega, by rw [l1, sizeLine_eq]; exact h1.1.2, fun p hp => hQ _ _ ?_⟩
      refine fin_lst0 (kk := 0) S L k hp (Part.left (Part.bind hid_sub p1 fun F' c' sub' q => ?_))
      refine .all fun G sg eg => ?_
      have base : DdAll K G xs ds := Rps.view sg q eg
      refine Rps.sh ?_
      generalize j.toNat = m
      induction m with
      | zero => exact .nil
      | succ m ih => rw [List.replicate_succ, List.replicate_succ, List.flatten_cons, List.flatten_cons]; exact base.append ih
end
end PL

/-! PL6: comparisons, subscripts, slices, by the data. -/
namespace PL
open PySem L2
open PySem (PyData Str)
/-! ### data as the library's -/
section
variable {K : Frag} {H : Hp}
mutual
theorem Dd.dp : ∀ {n : Nat} {v : V} {d : D}, Dd K H v d → shp n d = true → Dp K H v d
  | _, _, _, .non, _ => .non
  | _, _, _, .bl b, _ => .bl b
  | _, _, _, .int i, _ => .int i
  | _, _, _, .str x, _ => .str x
  | 0, _, _, .lst h _ a, s => by simp [shp] at s
  | n + 1, _, _, .lst h _ a, s => .lst h (DdAll.dp (n := n) a (by simpa [shp] using s))
  | 0, _, _, .tup h _ a, s => by simp [shp] at s
  | n + 1, _, _, .tup h _ a, s => .tup h (DdAll.dp (n := n) a (by simpa [shp] using s))
  | n, _, _, .dk _ _ _, s => by cases n <;> simp [shp] at s
  | n, _, _, .dt _ _ _, s => by cases n <;> simp [shp] at s
theorem DdAll.dp : ∀ {n : Nat} {vs : List V} {ds : List D}, DdAll K H vs ds → shpAll n ds = true → DpAll K H vs ds
  | _, _, _, .nil, _ => .nil
  | n, _, _, .cons h a, s => by
    simp only [shpAll, Bool.and_eq_true] at s
    exact .cons (Dd.dp h s.1) (DdAll.dp a s.2)
end
end
mutual
theorem shp_lay : ∀ (n : Nat) (d : D), shp n d = true → d.canLay0 = true ∧ d.depth ≤ n
  | n, .none, _ => by simp [PyData.canLay0, PyData.depth]
  | n, .bool _, _ => by simp [PyData.canLay0, PyData.depth]
  | n, .int _, _ => by simp [PyData.canLay0, PyData.depth]
  | n, .str x, h => by
    have h' : PyData.strOk x = true := by cases n <;> simpa [shp] using h
    simp [PyData.canLay0, PyData.depth, h']
  | 0, .list _, h => by simp [shp] at h
  | n + 1, .list xs, h => by
    obtain ⟨a, b⟩ := shpAll_lay n xs (by simpa [shp] using h)
    exact ⟨by simpa [PyData.canLay0] using a, by simp only [PyData.depth]; omega⟩
  | 0, .tuple _, h => by simp [shp] at h
  | n + 1, .tuple xs, h => by
    obtain ⟨a, b⟩ := shpAll_lay n xs (by simpa [shp] using h)
    exact ⟨by simpa [PyData.canLay0] using a, by simp only [PyData.depth]; omega⟩
  | n, .dict _, h => by cases n <;> simp [shp] at h
theorem shpAll_lay : ∀ (n : Nat) (ds : List D), shpAll n ds = true → PyData.canLayAll0 ds = true ∧ PyData.depthAll ds ≤ n
  | n, [], _ => by simp [PyData.canLayAll0, PyData.depthAll]
  | n, d :: ds, h => by
    simp only [shpAll, Bool.and_eq_true] at h
    obtain ⟨a, b⟩ := shp_lay n d h.1
    obtain ⟨a', b'⟩ := shpAll_lay n ds h.2
    simp only [PyData.canLayAll0, PyData.depthAll, a, a', Bool.and_self, true_and]
    exact Nat.max_le.mpr ⟨b, b'⟩
end
theorem shp_shaped {d : D} (h : shp 60 d = true) : SeqAt.shaped d = true := by
  obtain ⟨a, b⟩ := shp_lay 60 d h
  unfold SeqAt.shaped
  rw [a, decide_eq_true (Nat.le_trans b (by decide))]
  rfl
theorem atm_flat {K : Frag} {H : Hp} {v : V} {d : D} (h : Dd K H v d) (a : atm d = true) : flatV v = true := by
  cases h with
  | non => rfl
  | bl _ => rfl
  | int _ => rfl
  | str _ => rfl
  | lst _ _ _ => cases a
  | tup _ _ _ => cases a
  | dk _ _ _ => cases a
  | dt _ _ _ => cases a
theorem eqV_eqv {K : Frag} {H H' : Hp} {v w : V} {d e : D} (h : Dd K H v d) (h' : Dd K H' w e) (a : atm d = true) (a' : atm e = true) : eqV v w = PyData.eqv d e := by
  cases h with
  | non => cases h' <;> first | rfl | (cases a') | (simp [eqV, PyData.eqv])
  | bl _ => cases h' <;> first | rfl | (cases a') | (simp [eqV, PyData.eqv])
  | int _ => cases h' <;> first | rfl | (cases a') | (simp [eqV, PyData.eqv])
  | str _ => cases h' <;> first | rfl | (cases a') | (simp [eqV, PyData.eqv])
  | lst _ _ _ => cases a
  | tup _ _ _ => cases a
  | dk _ _ _ => cases a
  | dt _ _ _ => cases a
theorem inV_any {K : Frag} {H : Hp} {x : V} {d : D} (hx : Dd K H x d) (ax : atm d = true) : ∀ {vs : List V} {ds : List D}, DdAll K H vs ds → ds.all atm = true → vs.all flatV = true ∧ inV x vs = ds.any fun z => PyData.eqv z d
  | _, _, .nil, _ => ⟨rfl, rfl⟩
  | _, _, .cons h a, s => by
    rw [List.all_cons, Bool.and_eq_true] at s
    obtain ⟨p, q⟩ := inV_any hx ax a s.2
    refine ⟨by rw [List.all_cons, atm_flat h s.1, p]; rfl, ?_⟩
    unfold inV at q ⊢
    rw [List.any_cons, List.any_cons, q, eqV_eqv h hx s.1 ax]

/-! ### keys -/
theorem kD_eqv (a b : Key) : PyData.eqv (kD a) (kD b) = decide (a = b) := by
  cases a with
  | inl i => cases b with
    | inl j =>
      rw [key_ll]
      simp [kD, PyData.eqv]
    | inr y =>
      rw [key_lr]
      simp [kD, PyData.eqv]
  | inr x => cases b with
    | inl j =>
      rw [key_rl]
      simp [kD, PyData.eqv]
    | inr y =>
      rw [key_rr]
      simp only [kD, PyData.eqv]
      exact Bool.beq_eq_decide_eq x y
theorem kDs_eqv : ∀ (a b : List Key), PyData.eqvAll (a.map kD) (b.map kD) = decide (a = b)
  | [], [] => by simp [PyData.eqvAll]
  | [], _ :: _ => by simp [PyData.eqvAll]
  | _ :: _, [] => by simp [PyData.eqvAll]
  | x :: xs, y :: ys => by
    simp only [List.map_cons, PyData.eqvAll, kD_eqv, kDs_eqv xs ys, List.cons.injEq, Bool.decide_and]
theorem tD_eqv (a b : List Key) : PyData.eqv (tD a) (tD b) = decide (a = b) := by
  unfold tD
  simp only [PyData.eqv]
  exact kDs_eqv a b
theorem kD_of {d : D} (h : keyA d = true) : ∃ k, d = kD k := by
  cases d <;> simp [keyA] at h
  · exact ⟨.inl _, rfl⟩
  · exact ⟨.inr _, rfl⟩
theorem kDs_of : ∀ {ds : List D}, ds.all keyA = true → ∃ ks : List Key, ds = ks.map kD
  | [], _ => ⟨[], rfl⟩
  | d :: ds, h => by
    rw [List.all_cons, Bool.and_eq_true] at h
    obtain ⟨k, rfl⟩ := kD_of h.1
    obtain ⟨ks, rfl⟩ := kDs_of h.2
    exact ⟨k :: ks, rfl⟩
theorem tD_of {d : D} (h : isKey d = true) (h2 : keyA d = false) : ∃ k, d = tD k ∧ (k.map kD).all strA = false := by
  cases d with
  | tuple xs =>
    simp only [isKey, Bool.and_eq_true, Bool.not_eq_true'] at h
    obtain ⟨ks, rfl⟩ := kDs_of h.1
    exact ⟨ks, rfl, h.2⟩
  | int _ => cases h2
  | str _ => cases h2
  | none => cases h
  | bool _ => cases h
  | list _ => cases h
  | dict _ => cases h
theorem Dd.kV' {K : Frag} {H : Hp} {v : V} {k : Key} (h : Dd K H v (kD k)) : v = kV k := by
  cases k with
  | inl i => exact h.int'
  | inr x => exact h.str'
theorem DdAll.kVs {K : Frag} {H : Hp} : ∀ {ks : List Key} {vs : List V}, DdAll K H vs (ks.map kD) → vs = ks.map kV
  | [], _, h => by cases h; rfl
  | k :: ks, _, h => by
    cases h with
    | cons a b => rw [a.kV', b.kVs]; rfl
theorem Dd.tV' {K : Frag} {H : Hp} {v : V} {k : List Key} (h : Dd K H v (tD k)) (n : (k.map kD).all strA = false) : ∃ b, v = .ref b ∧ H b = some (.tup (k.map kV)) := by
  obtain ⟨a, xs, rfl, s, z, l⟩ := Dd.tup' h
  rcases z with z | z
  · exact ⟨a, rfl, by rw [← l.kVs]; exact z⟩
  · rw [n] at z; cases z
/-- what a dict holds, by its pairs -/
def RelD (K : Frag) (H : Hp) : Option V → Option D → Prop
  | some v, some d => Dd K H v d
  | none, none => True
  | _, _ => False
theorem look_zip {κ : Type} [DecidableEq κ] {K : Frag} {H : Hp} (f : κ → D) (hf : ∀ a b, PyData.eqv (f a) (f b) = decide (a = b)) (k : κ) :
    ∀ {ks : List κ} {xs : List V} {ds : List D}, ks.length = xs.length → DdAll K H xs ds → RelD K H (valV (ks.zip xs) k) (lookK ((ks.map f).zip ds) (f k))
  | [], xs, ds, e, h => by
    have : valV ((([] : List κ)).zip xs) k = none := by simp [valV]
    rw [this]
    simp [lookK, RelD]
  | q :: ks, [], ds, e, h => by simp at e
  | q :: ks, x :: xs, _, e, .cons h a => by
    rw [List.zip_cons_cons, List.map_cons, List.zip_cons_cons]
    by_cases z : q = k
    · rw [valV_pos (p := (q, x)) z]
      have : ∀ d r, lookK ((f q, d) :: r) (f k) = some d := fun d r => by
        show (if keq (f q) (f k) then _ else _) = _
        unfold keq
        rw [hf, decide_eq_true z]; rfl
      rw [this]
      exact h
    · rw [valV_neg (p := (q, x)) z]
      have : ∀ d r, lookK ((f q, d) :: r) (f k) = lookK r (f k) := fun d r => by
        show (if keq (f q) (f k) then _ else _) = _
        unfold keq
        rw [hf, decide_eq_false z]; rfl
      rw [this]
      exact look_zip f hf k (by simpa using e) a
theorem look_mrk (r : List (D × D)) {k : D} (h : isKey k = true) : lookK (mrk :: r) k = lookK r k := by
  show (if keq .none k then _ else _) = _
  cases k <;> simp [isKey] at h <;> rfl
theorem Dd.dget {K : Frag} {H : Hp} {v k : V} {kvs : List (D × D)} {kd : D} (h : Dd K H v (.dict kvs)) (hk : Dd K H k kd) (ok : kindOk kvs kd = true) :
    ∃ a o, v = .ref a ∧ DGet H a k o ∧ RelD K H o (lookK kvs kd) := by
  cases h with
  | @dk a ks xs ds e hl ha =>
    have ka : keyA kd = true := by
      cases ks with
      | nil => simpa [kindOk] using ok
      | cons q ks => cases ds with
        | nil => simpa [kindOk] using ok
        | cons d ds => cases q <;> simpa [kindOk, kD] using ok
    obtain ⟨q, rfl⟩ := kD_of ka
    obtain rfl := hk.kV'
    exact ⟨a, _, rfl, .inl ⟨_, q, e, rfl, rfl⟩, look_zip kD kD_eqv q hl ha⟩
  | @dt a ks xs ds e hl ha =>
    simp only [kindOk, mrk, Bool.and_eq_true, Bool.not_eq_true'] at ok
    obtain ⟨q, rfl, nq⟩ := tD_of ok.1 ok.2
    obtain ⟨b, rfl, hb⟩ := hk.tV' nq
    rw [look_mrk _ ok.1]
    exact ⟨a, _, rfl, .inr ⟨_, q, b, .inl e, rfl, hb, rfl⟩, look_zip tD tD_eqv q hl ha⟩
section
variable {X : Cx}
/-! ### comparisons -/
def rInT (K : PySem.W.Frag) (neg : Bool) : R2 := rIn K neg
def rInDict (neg : Bool) : R2 := fun x y H Q => ∃ a o, y = .ref a ∧ DGet H a x o ∧ Q (.bl (if neg then !o.isSome else o.isSome)) H
theorem op_inDict (hu : X.A.units + 1 < cLine) : OpR X (compareOp .In) (rInDict false) := by
  intro pins s σ H x y v u Q I rx ry h
  obtain ⟨a, o, rfl, g, q⟩ := h
  cases ry
  exact d_in hu I g rx fun s' I' => ⟨.bl _, H, I', rfl, q⟩
theorem op_notInDict (hu : X.A.units + 1 < cLine) : OpR X (compareOp .NotIn) (rInDict true) := by
  intro pins s σ H x y v u Q I rx ry h
  obtain ⟨a, o, rfl, g, q⟩ := h
  cases ry
  exact d_notIn hu I g rx fun s' I' => ⟨.bl _, H, I', rfl, q⟩
def cpOf : Cp → CmpOp
  | .eq => .Eq
  | .ne => .NotEq
  | .lt => .Lt
  | .le => .LtE
  | .gt => .Gt
  | .ge => .GtE
  | .isN => .Is
  | .notN => .IsNot
  | .in_ => .In
  | .notIn => .NotIn
def rcp (K : PySem.W.Frag) : Cp → R2
  | .eq => rEqD K
  | .ne => rNeD K
  | .lt => rI0 fun i j => .bl (decide (i < j))
  | .le => rI0 fun i j => .bl (decide (i ≤ j))
  | .gt => rI0 fun i j => .bl (decide (j < i))
  | .ge => rI0 fun i j => .bl (decide (j ≤ i))
  | .isN => fun x y H Q => y = .non ∧ Q (.bl (decide (x = .non))) H
  | .notN => fun x y H Q => y = .non ∧ Q (.bl (!decide (x = .non))) H
  | .in_ => fun x y H Q => (rInD K x y H Q ∨ rIn K false x y H Q) ∨ rInDict false x y H Q
  | .notIn => fun x y H Q => (rNotInD K x y H Q ∨ rIn K true x y H Q) ∨ rInDict true x y H Q
theorem rcp_ok (hu : X.A.units + 65 < cLine) : ∀ op, OpR X (compareOp (cpOf op)) (rcp X.K op)
  | .eq => op_eqD (by omega)
  | .ne => op_neD (by omega)
  | .lt => op_lt
  | .le => op_le
  | .gt => op_gt
  | .ge => op_ge
  | .isN => op_isN
  | .notN => op_notN
  | .in_ => .or (.or (op_inD hu) op_in_seq) (op_inDict (by omega))
  | .notIn => .or (.or (op_notInD hu) op_notIn_seq) (op_notInDict (by omega))
end
theorem Dd.non_iff {K : Frag} {H : Hp} {v : V} {d : D} (h : Dd K H v d) : v = .non ↔ d = .none := by
  cases h <;> simp
/-- a comparison by the data -/
theorem cmp_snd {K : Frag} {op : Cp} {H : Hp} {Q : VK} {u w : V} {d e : D} {b : Bool} (hd : Dd K H u d) (he : Dd K H w e) (h : cmpD op d e = some b) (hQ : Q (.bl b) H) : rcp K op u w H Q := by
  have I : ∀ {i j : Int}, d = .int i → e = .int j → u = .int i ∧ w = .int j := fun h1 h2 => ⟨(h1 ▸ hd).int', (h2 ▸ he).int'⟩
  have inn : ∀ {b : Bool}, inD d e = some b → ∀ (neg : Bool), Q (.bl (if neg then !b else b)) H →
      (if neg then rNotInD K u w H Q else rInD K u w H Q) ∨ rIn K neg u w H Q ∨ rInDict neg u w H Q := by
    intro b hb neg hQ
    cases e with
    | list xs =>
      simp only [inD, Option.ite_none_right_eq_some, Bool.and_eq_true, Option.some.injEq] at hb
      obtain ⟨⟨s1, s2⟩, rfl⟩ := hb
      refine .inl ?_
      cases neg with
      | false => exact ⟨d, xs, hd.dp s1, he.dp s2, shp_shaped s1, shp_shaped s2, hQ⟩
      | true => exact ⟨d, xs, hd.dp s1, he.dp s2, shp_shaped s1, shp_shaped s2, hQ⟩
    | tuple xs =>
      simp only [inD, Option.ite_none_right_eq_some, Bool.and_eq_true, Option.some.injEq] at hb
      obtain ⟨⟨s1, s2⟩, rfl⟩ := hb
      obtain ⟨a, vs, rfl, sq, _, l⟩ := he.tup'
      obtain ⟨f1, f2⟩ := inV_any hd s1 l s2
      exact .inr (.inl ⟨a, vs, rfl, .inr sq, atm_flat hd s1, f1, by rw [f2]; exact hQ⟩)
    | dict kvs =>
      simp only [inD, Option.ite_none_right_eq_some, Option.some.injEq] at hb
      obtain ⟨s1, rfl⟩ := hb
      obtain ⟨a, o, rfl, g, r⟩ := he.dget hd s1
      refine .inr (.inr ⟨a, o, rfl, g, ?_⟩)
      have : o.isSome = (lookK kvs d).isSome := by
        cases o with
        | none => cases q : lookK kvs d with
          | none => rfl
          | some _ => rw [q] at r; exact r.elim
        | some _ => cases q : lookK kvs d with
          | none => rw [q] at r; exact r.elim
          | some _ => rfl
      rw [this]
      exact hQ
    | none => cases hb
    | bool _ => cases hb
    | int _ => cases hb
    | str _ => cases hb
  cases op with
  | eq =>
    simp only [cmpD, eqD, Option.ite_none_right_eq_some, Bool.and_eq_true, Option.some.injEq] at h
    obtain ⟨⟨s1, s2⟩, rfl⟩ := h
    exact ⟨d, e, hd.dp s1, he.dp s2, shp_shaped s1, shp_shaped s2, hQ⟩
  | ne =>
    simp only [cmpD, eqD, Option.map_eq_some_iff, Option.ite_none_right_eq_some, Bool.and_eq_true, Option.some.injEq] at h
    obtain ⟨_, ⟨⟨s1, s2⟩, rfl⟩, rfl⟩ := h
    exact ⟨d, e, hd.dp s1, he.dp s2, shp_shaped s1, shp_shaped s2, hQ⟩
  | lt =>
    cases d <;> cases e <;> simp only [cmpD, reduceCtorEq, Option.some.injEq] at h
    subst h
    obtain ⟨rfl, rfl⟩ := I rfl rfl
    exact ⟨_, _, rfl, rfl, hQ⟩
  | le =>
    cases d <;> cases e <;> simp only [cmpD, reduceCtorEq, Option.some.injEq] at h
    subst h
    obtain ⟨rfl, rfl⟩ := I rfl rfl
    exact ⟨_, _, rfl, rfl, hQ⟩
  | gt =>
    cases d <;> cases e <;> simp only [cmpD, reduceCtorEq, Option.some.injEq] at h
    subst h
    obtain ⟨rfl, rfl⟩ := I rfl rfl
    exact ⟨_, _, rfl, rfl, hQ⟩
  | ge =>
    cases d <;> cases e <;> simp only [cmpD, reduceCtorEq, Option.some.injEq] at h
    subst h
    obtain ⟨rfl, rfl⟩ := I rfl rfl
    exact ⟨_, _, rfl, rfl, hQ⟩
  | isN =>
    cases e <;> (try (cases d <;> cases h; done))
    obtain rfl := he.non'
    refine ⟨rfl, ?_⟩
    have : b = decide (u = .non) := by
      by_cases z : d = .none
      · rw [decide_eq_true (hd.non_iff.mpr z)]
        subst z
        simpa [cmpD] using h.symm
      · rw [decide_eq_false fun q => z (hd.non_iff.mp q)]
        cases d <;> first | exact absurd rfl z | (simpa [cmpD] using h.symm)
    rw [← this]; exact hQ
  | notN =>
    cases e <;> (try (cases d <;> cases h; done))
    obtain rfl := he.non'
    refine ⟨rfl, ?_⟩
    have : b = !decide (u = .non) := by
      by_cases z : d = .none
      · rw [decide_eq_true (hd.non_iff.mpr z)]
        subst z
        simpa [cmpD] using h.symm
      · rw [decide_eq_false fun q => z (hd.non_iff.mp q)]
        cases d <;> first | exact absurd rfl z | (simpa [cmpD] using h.symm)
    rw [← this]; exact hQ
  | in_ =>
    rcases inn (b := b) (by simpa [cmpD] using h) false hQ with q | q | q
    · exact .inl (.inl q)
    · exact .inl (.inr q)
    · exact .inr q
  | notIn =>
    simp only [cmpD, Option.map_eq_some_iff] at h
    obtain ⟨b', h, rfl⟩ := h
    rcases inn h true hQ with q | q | q
    · exact .inl (.inl q)
    · exact .inl (.inr q)
    · exact .inr q

/-! ### subscripts -/
theorem ixn_eq (n : Nat) (i : Int) : ixn n i = ixN n i := rfl
theorem atL_eq {α : Type} (xs : List α) (i : Int) : atL xs i = atI xs i := by
  unfold atL atI
  rw [ixn_eq]
  cases ixN xs.length i <;> rfl
section
variable {X : Cx}
def rIxDc : R2 := fun x y H Q => ∃ a v, x = .ref a ∧ DGet H a y (some v) ∧ Q v H
theorem ix_dict (hu : X.A.units + 1 < cLine) : IxR X rIxDc := by
  intro value slice pins s σ H x y v u Q I rx ry h hs
  obtain ⟨a, z, rfl, g, q⟩ := h
  cases rx
  exact PyProof.Rows.tail_any (dict_typeIs I g) PySem.F.slot_dict_getitem.lookup (d_getItem hu I g ry fun w' s' I' r => ⟨z, H, I', r, q⟩) hs
def rix (K : PySem.W.Frag) : R2 := fun x y H Q => rIx K x y H Q ∨ rIxDc x y H Q
theorem rix_ok (hu : X.A.units + 1 < cLine) : IxR X (rix X.K) := .or ix_seq (ix_dict hu)
end
theorem DdAll.at_ {K : Frag} {H : Hp} {vs : List V} {ds : List D} {i : Int} {d : D} (h : DdAll K H vs ds) (e : atL ds i = some d) : ∃ v, atI vs i = some v ∧ Dd K H v d := by
  rw [atL_eq] at e
  unfold atI at e ⊢
  rw [h.len]
  cases q : ixN ds.length i with
  | none => rw [q] at e; cases e
  | some j =>
    rw [q] at e
    exact Dd.get h e
/-- an item by the data: what is there, as a thing of the heap -/
theorem idx_view {K : Frag} {H : Hp} {Q : VK} {u w : V} {d e x : D} (hd : Dd K H u d) (he : Dd K H w e) (h : idxD d e = some x) (hQ : ∀ y, Dd K H y x → Q y H) : rix K u w H Q := by
  cases d with
  | list xs =>
    cases e <;> simp only [idxD, reduceCtorEq] at h
    obtain ⟨a, vs, rfl, sq, _, l⟩ := hd.lst'
    obtain rfl := he.int'
    obtain ⟨v, h1, h2⟩ := l.at_ h
    exact .inl (.inl ⟨a, vs, _, v, rfl, rfl, sq, h1, hQ v h2⟩)
  | tuple xs =>
    cases e <;> simp only [idxD, reduceCtorEq] at h
    obtain ⟨a, vs, rfl, sq, _, l⟩ := hd.tup'
    obtain rfl := he.int'
    obtain ⟨v, h1, h2⟩ := l.at_ h
    exact .inl (.inr (.inl ⟨a, vs, _, v, rfl, rfl, sq, h1, hQ v h2⟩))
  | str z =>
    cases e <;> simp only [idxD, reduceCtorEq, Option.ite_none_right_eq_some, Option.map_eq_some_iff] at h
    obtain ⟨hz, c, h1, rfl⟩ := h
    obtain rfl := hd.str'
    obtain rfl := he.int'
    rw [atL_eq] at h1
    exact .inl (.inr (.inr ⟨z, _, c, rfl, rfl, by rw [sizeLine_eq]; exact hz, h1, hQ _ (.str _)⟩))
  | dict kvs =>
    simp only [idxD, Option.ite_none_right_eq_some] at h
    obtain ⟨ok, h⟩ := h
    obtain ⟨a, o, rfl, g, r⟩ := hd.dget he ok
    rw [h] at r
    cases o with
    | none => exact r.elim
    | some v => exact .inr ⟨a, v, rfl, g, hQ v r⟩
  | none => cases h
  | bool _ => cases h
  | int _ => cases h
end PL

/-! PL6S: sorted() of rows: tuples of ints and texts, lists of ints, texts. -/
namespace PL
open PySem L2
open PySem (PyData Str)
open PySem.W (alike alikeAll dataLt dataLe keyToks keyToksAll AllAlike Sortable EachIs TotalLe)
theorem lexN_eq : ∀ a b : List Nat, lexN a b = decide (a < b)
  | [], [] => by simp [lexN]
  | [], _ :: _ => by simp [lexN]
  | _ :: _, [] => by simp [lexN]
  | x :: xs, y :: ys => by
    unfold lexN
    by_cases h : x = y
    · subst h
      rw [if_pos rfl, lexN_eq xs ys]
      simp [List.cons_lt_cons_iff]
    · rw [if_neg h]
      simp [List.cons_lt_cons_iff, h]
theorem eq1_eqv {a b : D} (ha : keyA a = true) (hb : keyA b = true) : eq1 a b = PyData.eqv a b := by
  cases a <;> simp [keyA] at ha <;> cases b <;> simp [keyA] at hb <;> simp [eq1, PyData.eqv]
  all_goals exact (Bool.beq_eq_decide_eq _ _).symm
theorem alike1 {a b : D} (ha : keyA a = true) (hb : keyA b = true) (h : intA a = intA b) : alike a b = true := by
  cases a <;> simp [keyA] at ha <;> cases b <;> simp [keyA] at hb <;> simp [intA] at h <;> simp [alike]
theorem dlt1_eq {a b : D} (ha : keyA a = true) (hb : keyA b = true) (h : intA a = intA b) : dlt1 a b = dataLt a b := by
  cases a <;> simp [keyA] at ha <;> cases b <;> simp [keyA] at hb <;> simp [intA] at h
  · rw [PySem.W.dataLt_int]; rfl
  · rw [PySem.W.dataLt_str]
    simp only [dlt1, lexN_eq]
theorem alikeR : ∀ {xs ys : List D}, xs.all keyA = true → ys.all keyA = true → (xs.map intA).take ys.length = (ys.map intA).take xs.length → alikeAll xs ys = true
  | [], _, _, _, _ => by simp [alikeAll]
  | _ :: _, [], _, _, _ => by simp [alikeAll]
  | x :: xs, y :: ys, h1, h2, h3 => by
    simp only [List.all_cons, Bool.and_eq_true] at h1 h2
    simp only [List.map_cons, List.length_cons, List.take_succ_cons, List.cons.injEq] at h3
    rw [alikeAll, alike1 h1.1 h2.1 h3.1, alikeR h1.2 h2.2 h3.2]
    rfl
theorem dltR_eq : ∀ {xs ys : List D}, xs.all keyA = true → ys.all keyA = true → (xs.map intA).take ys.length = (ys.map intA).take xs.length → dltR xs ys = PySem.W.rowLt xs ys
  | [], [], _, _, _ => by
    have e : PySem.W.rowLt [] [] = false := PyProof.Rows.lex_irrefl _
    rw [e]; rfl
  | [], y :: ys, _, _, _ => by
    unfold PySem.W.rowLt dltR
    symm
    simp only [keyToksAll]
    exact (PyProof.Rows.lex_diff (O := PyProof.Rows.itemOrd) (by simp)).trans (by decide)
  | x :: xs, [], _, _, _ => by
    unfold PySem.W.rowLt dltR
    symm
    simp only [keyToksAll]
    exact (PyProof.Rows.lex_diff (O := PyProof.Rows.itemOrd) (by simp)).trans (by decide)
  | x :: xs, y :: ys, h1, h2, h3 => by
    simp only [List.all_cons, Bool.and_eq_true] at h1 h2
    simp only [List.map_cons, List.length_cons, List.take_succ_cons, List.cons.injEq] at h3
    unfold PySem.W.rowLt dltR
    rw [PySem.W.dataLt_cons (alike1 h1.1 h2.1 h3.1), eq1_eqv h1.1 h2.1, dlt1_eq h1.1 h2.1 h3.1, dltR_eq h1.2 h2.2 h3.2]
    rfl

/-! ### data that sorted() serves -/
theorem take_map_eq {ks ys : List D} (h : ys.map intA = ks.map intA) : (ks.map intA).take ys.length = (ys.map intA).take ks.length := by
  have l : ys.length = ks.length := by simpa using congrArg List.length h
  rw [l, h]
theorem ints_keys {ks : List D} (h : ks.all intA = true) : ks.all keyA = true := by
  rw [List.all_eq_true] at h ⊢
  intro x hx
  have := h x hx
  cases x <;> simp [intA] at this <;> rfl
theorem ints_take : ∀ {xs ys : List D}, xs.all intA = true → ys.all intA = true → (xs.map intA).take ys.length = (ys.map intA).take xs.length
  | [], ys, _, _ => by simp
  | _ :: _, [], _, _ => by simp
  | x :: xs, y :: ys, h1, h2 => by
    simp only [List.all_cons, Bool.and_eq_true] at h1 h2
    simp only [List.map_cons, List.length_cons, List.take_succ_cons, h1.1, h2.1, ints_take h1.2 h2.2]
/-- two that sorted() may meet -/
def Al (a b : D) : Prop := alike a b = true ∧ dle a b = (!dataLt b a) ∧ (dle a b = true → dle b a = true → a = b)
theorem eq1_iff {a b : D} (ha : keyA a = true) : eq1 a b = true ↔ a = b := by
  constructor
  · intro h
    cases a <;> simp [keyA] at ha <;> cases b <;> simp [eq1] at h <;> rw [h]
  · rintro rfl
    cases a <;> simp [keyA] at ha <;> simp [eq1]
theorem lexN_anti : ∀ {a b : List Nat}, lexN a b = false → lexN b a = false → a = b := by
  intro a b h1 h2
  rw [lexN_eq] at h1 h2
  have h1 := of_decide_eq_false h1
  have h2 := of_decide_eq_false h2
  exact List.le_antisymm h2 h1
theorem dltR_anti : ∀ {xs ys : List D}, xs.all keyA = true → ys.all keyA = true → (xs.map intA).take ys.length = (ys.map intA).take xs.length → dltR xs ys = false → dltR ys xs = false → xs = ys
  | [], [], _, _, _, _, _ => rfl
  | [], _ :: _, _, _, _, h, _ => by cases h
  | _ :: _, [], _, _, _, _, h => by cases h
  | x :: xs, y :: ys, h1, h2, h3, h4, h5 => by
    simp only [List.all_cons, Bool.and_eq_true] at h1 h2
    simp only [List.map_cons, List.length_cons, List.take_succ_cons, List.cons.injEq] at h3
    unfold dltR at h4 h5
    by_cases e : x = y
    · subst e
      rw [if_pos ((eq1_iff h1.1).mpr rfl)] at h4 h5
      rw [dltR_anti h1.2 h2.2 h3.2 h4 h5]
    · rw [if_neg (fun z => e ((eq1_iff h1.1).mp z))] at h4
      rw [if_neg (fun z => e ((eq1_iff h2.1).mp z).symm)] at h5
      exfalso
      have ha := h1.1
      have hb := h2.1
      have hk := h3.1
      cases x <;> simp [keyA] at ha <;> cases y <;> simp [keyA] at hb <;> simp [intA] at hk
      · simp only [dlt1, decide_eq_false_iff_not] at h4 h5
        exact e (by congr 1; omega)
      · simp only [dlt1] at h4 h5
        exact e (by congr 1; exact PySem.W.str_of_cps (lexN_anti h4 h5))
theorem al_tup {xs ys : List D} (h1 : xs.all keyA = true) (h2 : ys.all keyA = true) (h3 : (xs.map intA).take ys.length = (ys.map intA).take xs.length) : Al (.tuple xs) (.tuple ys) := by
  refine ⟨by simpa [alike] using alikeR h1 h2 h3, ?_, fun a b => ?_⟩
  · rw [PySem.W.dataLt_tuple]
    show (!dltR ys xs) = _
    rw [dltR_eq h2 h1 h3.symm]
    rfl
  · have a : (!dltR ys xs) = true := a
    have b : (!dltR xs ys) = true := b
    rw [Bool.not_eq_true'] at a b
    rw [dltR_anti h1 h2 h3 b a]
theorem al_lst {xs ys : List D} (h1 : xs.all keyA = true) (h2 : ys.all keyA = true) (h3 : (xs.map intA).take ys.length = (ys.map intA).take xs.length) : Al (.list xs) (.list ys) := by
  refine ⟨by simpa [alike] using alikeR h1 h2 h3, ?_, fun a b => ?_⟩
  · rw [PySem.W.dataLt_list]
    show (!dltR ys xs) = _
    rw [dltR_eq h2 h1 h3.symm]
    rfl
  · have a : (!dltR ys xs) = true := a
    have b : (!dltR xs ys) = true := b
    rw [Bool.not_eq_true'] at a b
    rw [dltR_anti h1 h2 h3 b a]
theorem al_str (x y : Str) : Al (.str x) (.str y) := by
  refine ⟨by simp [alike], ?_, fun a b => ?_⟩
  · show (!lexN y.cps.toList x.cps.toList) = _
    rw [PySem.W.dataLt_str, lexN_eq]
  · have a : (!lexN y.cps.toList x.cps.toList) = true := a
    have b : (!lexN x.cps.toList y.cps.toList) = true := b
    rw [Bool.not_eq_true'] at a b
    rw [PySem.W.str_of_cps (lexN_anti b a)]
theorem sort_al {ds : List D} (h : sortOk ds = true) : (∀ a ∈ ds, ∀ b ∈ ds, Al a b) ∧ Sortable ds ∧ ∀ a ∈ ds, a.depth ≤ 1 := by
  have dep : ∀ xs : List D, xs.all keyA = true → PyData.depthAll xs = 0 := by
    intro xs
    induction xs with
    | nil => intro _; simp [PyData.depthAll]
    | cons x xs ih =>
      intro h
      simp only [List.all_cons, Bool.and_eq_true] at h
      have hx := h.1
      rw [PyData.depthAll, ih h.2]
      cases x <;> simp [keyA] at hx <;> simp [PyData.depth]
  unfold sortOk at h
  split at h
  · rename_i k ks r
    simp only [Bool.and_eq_true, List.all_eq_true] at h
    have all : ∀ a ∈ PyData.tuple (k :: ks) :: r, ∃ ys, a = .tuple ys ∧ ys.all keyA = true ∧ ys.map intA = (k :: ks).map intA := by
      intro a ha
      rcases List.mem_cons.mp ha with rfl | ha
      · exact ⟨_, rfl, List.all_eq_true.mpr h.1, rfl⟩
      · have := h.2 a ha
        cases a <;> simp only [rowAs, Bool.and_eq_true, reduceCtorEq, Bool.false_eq_true] at this
        exact ⟨_, rfl, this.1, by simpa using this.2⟩
    refine ⟨fun a ha b hb => ?_, .inl fun d hd => ?_, fun a ha => ?_⟩
    · obtain ⟨xs, rfl, h1, h2⟩ := all a ha
      obtain ⟨ys, rfl, h3, h4⟩ := all b hb
      exact al_tup h1 h3 (take_map_eq (h4.trans h2.symm))
    · obtain ⟨xs, rfl, h1, h2⟩ := all d hd
      cases xs with
      | nil => simp at h2
      | cons x xs => exact ⟨x, xs, rfl⟩
    · obtain ⟨xs, rfl, h1, h2⟩ := all a ha
      simp only [PyData.depth, dep xs h1]
      omega
  · rename_i ks r
    simp only [Bool.and_eq_true, List.all_eq_true] at h
    have all : ∀ a ∈ PyData.list ks :: r, ∃ ys, a = .list ys ∧ ys.all intA = true := by
      intro a ha
      rcases List.mem_cons.mp ha with rfl | ha
      · exact ⟨_, rfl, List.all_eq_true.mpr h.1⟩
      · have := h.2 a ha
        cases a <;> simp only [rowAs, reduceCtorEq, Bool.false_eq_true] at this
        exact ⟨_, rfl, this⟩
    refine ⟨fun a ha b hb => ?_, .inr fun d hd => ?_, fun a ha => ?_⟩
    · obtain ⟨xs, rfl, h1⟩ := all a ha
      obtain ⟨ys, rfl, h3⟩ := all b hb
      exact al_lst (ints_keys h1) (ints_keys h3) (ints_take h1 h3)
    · obtain ⟨xs, rfl, h1⟩ := all d hd
      exact ⟨(nomatch ·), fun _ => (nomatch ·)⟩
    · obtain ⟨xs, rfl, h1⟩ := all a ha
      simp only [PyData.depth, dep xs (ints_keys h1)]
      omega
  · rename_i x r
    simp only [List.all_eq_true] at h
    have all : ∀ a ∈ PyData.str x :: r, ∃ y, a = .str y := by
      intro a ha
      rcases List.mem_cons.mp ha with rfl | ha
      · exact ⟨_, rfl⟩
      · have := h a ha
        cases a <;> simp only [rowAs, reduceCtorEq, Bool.false_eq_true] at this
        exact ⟨_, rfl⟩
    refine ⟨fun a ha b hb => ?_, .inr fun d hd => ?_, fun a ha => ?_⟩
    · obtain ⟨xs, rfl⟩ := all a ha
      obtain ⟨ys, rfl⟩ := all b hb
      exact al_str _ _
    · obtain ⟨xs, rfl⟩ := all d hd
      exact ⟨(nomatch ·), fun _ => (nomatch ·)⟩
    · obtain ⟨xs, rfl⟩ := all a ha
      simp [PyData.depth]
  · cases h
/-! ### putting in, by an order that is total on the items -/
section
variable {α : Type} {le : α → α → Bool}
theorem insB_perm (x : α) : ∀ l : List α, (insB le x l).Perm (x :: l)
  | [] => .refl _
  | y :: l => by
    unfold insB
    split
    · exact .refl _
    · exact ((insB_perm x l).cons y).trans (.swap x y l)
theorem sortB_perm : ∀ l : List α, (sortB le l).Perm l
  | [] => .refl _
  | x :: l => (insB_perm x _).trans ((sortB_perm l).cons x)
theorem insB_sorted {P : α → Prop} (tr : ∀ a b c, P a → P b → P c → le a b = true → le b c = true → le a c = true) (to : ∀ a b, P a → P b → le a b = true ∨ le b a = true) (x : α) (hx : P x) :
    ∀ l : List α, (∀ y ∈ l, P y) → l.Pairwise (fun a b => le a b = true) → (insB le x l).Pairwise (fun a b => le a b = true)
  | [], _, _ => by simp [insB]
  | y :: l, hl, h => by
    obtain ⟨h1, h2⟩ := List.pairwise_cons.mp h
    have py := hl y (by simp)
    unfold insB
    split
    · rename_i e
      refine List.pairwise_cons.mpr ⟨fun z hz => ?_, h⟩
      rcases List.mem_cons.mp hz with rfl | hz
      · exact e
      · exact tr _ _ _ hx py (hl z (by simp [hz])) e (h1 z hz)
    · rename_i e
      refine List.pairwise_cons.mpr ⟨fun z hz => ?_, insB_sorted tr to x hx l (fun z hz => hl z (by simp [hz])) h2⟩
      rcases List.mem_cons.mp ((insB_perm x l).mem_iff.mp hz) with rfl | hz
      · exact (to _ _ py hx).resolve_right e
      · exact h1 z hz
theorem sortB_sorted {P : α → Prop} (tr : ∀ a b c, P a → P b → P c → le a b = true → le b c = true → le a c = true) (to : ∀ a b, P a → P b → le a b = true ∨ le b a = true) :
    ∀ l : List α, (∀ y ∈ l, P y) → (sortB le l).Pairwise (fun a b => le a b = true)
  | [], _ => .nil
  | x :: l, h => insB_sorted tr to x (h x (by simp)) _ (fun y hy => h y (by simp [(sortB_perm l).mem_iff.mp hy])) (sortB_sorted tr to l fun y hy => h y (by simp [hy]))
theorem sort_uniq {P : α → Prop} (an : ∀ a b, P a → P b → le a b = true → le b a = true → a = b) : ∀ {l m : List α}, l.Perm m → (∀ y ∈ l, P y) → l.Pairwise (fun a b => le a b = true) → m.Pairwise (fun a b => le a b = true) → l = m
  | [], m, p, _, _, _ => (List.nil_perm.mp p).symm
  | x :: l, [], p, _, _, _ => by have := p.length_eq; simp at this
  | x :: l, y :: m, p, hP, h, h' => by
    have a := List.pairwise_cons.mp h
    have b := List.pairwise_cons.mp h'
    have e : x = y := by
      have h1 : x ∈ y :: m := p.mem_iff.mp (by simp)
      have h2 : y ∈ x :: l := p.mem_iff.mpr (by simp)
      rcases List.mem_cons.mp h1 with h1 | h1
      · exact h1
      · rcases List.mem_cons.mp h2 with h2 | h2
        · exact h2.symm
        · exact an _ _ (hP _ (by simp)) (hP _ (by simp [h2])) (a.1 _ h2) (b.1 _ h1)
    subst e
    rw [sort_uniq an p.cons_inv (fun y hy => hP y (by simp [hy])) a.2 b.2]
end
/-- the library's sorted list is ours -/
theorem sort_same {ds : List D} (h : sortOk ds = true) : ds.mergeSort (dataLe false id) = sortB dle ds := by
  obtain ⟨al, _, _⟩ := sort_al h
  have T : TotalLe (dataLe false (id : D → D)) := PySem.W.sortLe_total (PyProof.Rows.listOrd PyProof.Rows.itemOrd) false fun b => keyToks b
  have E : ∀ a ∈ ds, ∀ b ∈ ds, dataLe false id a b = dle a b := fun a ha b hb => by
    rw [(al a ha b hb).2.1]; rfl
  have pm := List.mergeSort_perm ds (dataLe false id)
  refine sort_uniq (le := dle) (P := fun a => a ∈ ds) (fun a b ha hb => (al a ha b hb).2.2) (pm.trans (sortB_perm ds).symm) (fun y hy => pm.mem_iff.mp hy) ?_ ?_
  · have := PySem.W.sort_pairwise T ds
    refine this.imp_of_mem fun {a b} ha hb hab => ?_
    rw [← E a (pm.mem_iff.mp ha) b (pm.mem_iff.mp hb)]
    exact hab
  · refine sortB_sorted (P := fun a => a ∈ ds) (fun a b c ha hb hc h1 h2 => ?_) (fun a b ha hb => ?_) ds fun y hy => hy
    · rw [← E a ha b hb] at h1
      rw [← E b hb c hc] at h2
      rw [← E a ha c hc]
      exact T.trans _ _ _ h1 h2
    · rw [← E a ha b hb, ← E b hb a ha]
      exact T.total a b
mutual
theorem Dd.dp' {K : Frag} {H : Hp} : ∀ {v : V} {d : D}, Dd K H v d → d.depth ≤ 1 → (∀ k, d ≠ .dict k) → (∀ xs, d = .list xs ∨ d = .tuple xs → xs.all keyA = true) → Dp K H v d
  | _, _, .non, _, _, _ => .non
  | _, _, .bl b, _, _, _ => .bl b
  | _, _, .int i, _, _, _ => .int i
  | _, _, .str x, _, _, _ => .str x
  | _, _, .lst (ds := ds) h _ a, _, _, k => .lst h (DdAll.dpK a (k ds (.inl rfl)))
  | _, _, .tup (ds := ds) h _ a, _, _, k => .tup h (DdAll.dpK a (k ds (.inr rfl)))
  | _, _, .dk _ _ _, _, k, _ => absurd rfl (k _)
  | _, _, .dt _ _ _, _, k, _ => absurd rfl (k _)
theorem DdAll.dpK {K : Frag} {H : Hp} : ∀ {vs : List V} {ds : List D}, DdAll K H vs ds → ds.all keyA = true → DpAll K H vs ds
  | _, _, .nil, _ => .nil
  | _, _, .cons (d := d) h a, s => by
    simp only [List.all_cons, Bool.and_eq_true] at s
    have hd := s.1
    refine .cons ?_ (DdAll.dpK a s.2)
    cases h <;> simp [keyA] at hd <;> constructor
end
theorem sort_dp {K : Frag} {H : Hp} {ds : List D} (h : sortOk ds = true) {v : V} {d : D} (hd : d ∈ ds) (r : Dd K H v d) : Dp K H v d := by
  refine r.dp' ((sort_al h).2.2 d hd) (fun k e => ?_) (fun xs e => ?_)
  · have := ((sort_al h).1 d hd d hd).1
    subst e
    simp [alike] at this
  · unfold sortOk at h
    split at h
    · rename_i k ks r
      simp only [Bool.and_eq_true, List.all_eq_true] at h
      rcases List.mem_cons.mp hd with rfl | hd
      · rcases e with e | e <;> cases e
        exact List.all_eq_true.mpr h.1
      · have := h.2 d hd
        rcases e with e | e <;> subst e <;> simp only [rowAs, Bool.and_eq_true, reduceCtorEq, Bool.false_eq_true] at this
        exact this.1
    · rename_i ks r
      simp only [Bool.and_eq_true, List.all_eq_true] at h
      rcases List.mem_cons.mp hd with rfl | hd
      · rcases e with e | e <;> cases e
        exact ints_keys (List.all_eq_true.mpr h.1)
      · have := h.2 d hd
        rcases e with e | e <;> subst e <;> simp only [rowAs, Bool.and_eq_true, reduceCtorEq, Bool.false_eq_true] at this
        exact ints_keys this
    · rename_i x r
      simp only [List.all_eq_true] at h
      rcases List.mem_cons.mp hd with rfl | hd
      · rcases e with e | e <;> cases e
      · have := h d hd
        rcases e with e | e <;> subst e <;> simp only [rowAs, Bool.and_eq_true, reduceCtorEq, Bool.false_eq_true] at this
    · cases h
/-! ### the call -/
def rSortedD (K : PySem.W.Frag) : List V → Hp → VK → Prop := fun vs H Q => ∃ (a : Addr) (xs : List V) (ds : List D), vs = [V.ref a] ∧ SqL K H a xs ∧ DdAll K H xs ds ∧ sortOk ds = true ∧
  ∀ (zs : List V) (p : Addr), (∀ G, DdAll K G xs ds → DdAll K G zs (sortB dle ds)) → H p = none → Q (.ref p) (upd H p (.lst zs))
theorem ddAll_zip {K : Frag} {H : Hp} : ∀ {vs : List V} {ds : List D}, DdAll K H vs ds → ∀ p ∈ vs.zip ds, Dd K H p.1 p.2
  | _, _, .nil, _, h => by simp at h
  | _, _, .cons h a, p, hp => by
    rw [List.zip_cons_cons] at hp
    rcases List.mem_cons.mp hp with rfl | hp
    · exact h
    · exact ddAll_zip a p hp
theorem ddAll_of {K : Frag} {H : Hp} : ∀ {zs : List (V × D)}, (∀ p ∈ zs, Dd K H p.1 p.2) → DdAll K H (zs.map Prod.fst) (zs.map Prod.snd)
  | [], _ => .nil
  | z :: zs, h => .cons (h z (by simp)) (ddAll_of fun p hp => h p (by simp [hp]))
theorem vals_each {bs : List (V × D)} : ∀ {us : List Value}, EachIs (fun (v : Value) (b : V × D) => RelV b.1 v) us bs → Vals (bs.map Prod.fst) us
  | _, .nil => .nil
  | _, .cons h t => .cons h (vals_each t)
theorem each_vals : ∀ {xs : List V} {us : List Value} {ds : List D}, Vals xs us → xs.length = ds.length → EachIs (fun (v : Value) (b : V × D) => RelV b.1 v) us (xs.zip ds)
  | _, _, [], .nil, _ => .nil
  | _, _, _ :: _, .nil, h => by simp at h
  | _, _, [], .cons _ _, h => by simp at h
  | _, _, d :: ds, .cons r t, h => .cons r (each_vals t (by simpa using h))
theorem cr_sortedD {X : Cx} (hu : X.A.units + 8 < cLine) : CallR X (.builtin "sorted") (rSortedD X.K) := by
  intro pins s σ H vs us Q I r h
  obtain ⟨a, xs, ds, rfl, hs, dd, ok, q⟩ := h
  obtain ⟨its, rv, hl, hz⟩ := I.list hs
  rw [Vals.ref1 r]
  have len : xs.length = ds.length := dd.len
  have sn : (xs.zip ds).map Prod.snd = ds := List.map_snd_zip (by omega)
  obtain ⟨al, so, dep⟩ := sort_al ok
  have mem : ∀ {p : V × D}, p ∈ xs.zip ds → p.2 ∈ ds := fun {p} hp => by
    rw [← sn]; exact List.mem_map_of_mem hp
  have ev := each_vals rv len
  refine PySem.W.sorted_data (bs := xs.zip ds) (enc := Prod.snd) (R := fun (v : Value) (b : V × D) => RelV b.1 v) hl.isList ev ?_ ?_ ?_ ?_ ?_ fun out ho eo => ?_
  · refine (PySem.W.each_mem ev).mono fun v b hb => ?_
    exact Dp.reads I _ _ _ (sort_dp ok (mem hb.2) (ddAll_zip dd _ hb.2)) hb.1
  · rw [sn]
    exact fun a ha b hb => (al a ha b hb).1
  · rw [sn]; exact so
  · rw [List.length_zip, ← len, Nat.min_self]; exact hz
  · intro b hb
    have := dep _ (mem hb)
    omega
  · have pm := List.mergeSort_perm (xs.zip ds) (dataLe false Prod.snd)
    have sn2 : ((xs.zip ds).mergeSort (dataLe false Prod.snd)).map Prod.snd = sortB dle ds := by
      have t := PySem.W.sort_maps (r := dataLe false Prod.snd) (s := dataLe false id) (l := xs.zip ds) (Prod.snd : V × D → D) (fun a _ b _ => rfl)
      rw [sn] at t
      exact t.trans (sort_same ok)
    have dz : ∀ G, DdAll X.K G xs ds → DdAll X.K G (((xs.zip ds).mergeSort (dataLe false Prod.snd)).map Prod.fst) (sortB dle ds) := by
      intro G dd
      rw [← sn2]
      exact ddAll_of fun p hp => ddAll_zip dd p (pm.mem_iff.mp hp)
    have vz := vals_each eo
    obtain ⟨ep, he'⟩ := PyProof.Rows.sortedAll_at s.heap its out.toArray
    have hlen : (((xs.zip ds).mergeSort (dataLe false Prod.snd)).map Prod.fst).length ≤ sizeLine := by
      rw [List.length_map, pm.length_eq, List.length_zip, ← len, Nat.min_self]
      exact hz
    exact ⟨.ref _, upd H (s.heap.objs.size + 1) (.lst (((xs.zip ds).mergeSort (dataLe false Prod.snd)).map Prod.fst)), I.laid (t' := s.toks) (fun _ _ => PyProof.Rows.sortedAll_old) (Nat.le_succ _) ⟨hlen, out, ep, vz, he'⟩, rfl, q _ _ dz (I.hok.fresh (Nat.le_succ _))⟩
end PL

/-! PL7: slices, built-in functions, methods, by the data. -/
namespace PL
open PySem L2
open PySem (PyData Str)
/-! ### parts of lists -/
section
variable {K : Frag} {F H : Hp} {n : Nat} {vs : List V} {ds : List D} {cc : Cnt}
theorem Part.rps (h : Rps K F H n vs ds cc) : Part F H cc fun G c' => Rps K G H n vs ds c' := ⟨cc, fun _ => Nat.le_refl _, fun _ s _ => Rps.mono s h fun _ _ => rfl⟩
theorem Part.rp {v : V} {d : D} (h : Rp K F H n v d cc) : Part F H cc fun G c' => Rp K G H n v d c' := ⟨cc, fun _ => Nat.le_refl _, fun _ s _ => Rp.mono s h fun _ _ => rfl⟩
theorem Rps.drop : ∀ {vs : List V} {ds : List D} {cc : Cnt} (i : Nat), Rps K F H n vs ds cc → Part F H cc fun G c' => Rps K G H n (vs.drop i) (ds.drop i) c'
  | _, _, _, 0, h => Part.rps h
  | _, _, _, _ + 1, .nil => Part.none fun _ _ => .nil
  | _, _, _, i + 1, .cons _ a => Part.right (Rps.drop i a)
theorem Rps.take : ∀ {vs : List V} {ds : List D} {cc : Cnt} (i : Nat), Rps K F H n vs ds cc → Part F H cc fun G c' => Rps K G H n (vs.take i) (ds.take i) c'
  | _, _, _, 0, _ => Part.none fun _ _ => by simpa using (.nil : Rps K _ H n [] [] zro)
  | _, _, _, _ + 1, .nil => Part.none fun _ _ => .nil
  | _, _, _, i + 1, .cons x a => (Part.pair (Part.rp x) (Rps.take i a)).imp fun G c' ⟨p, q, e, h1, h2⟩ => by rw [e]; exact .cons h1 h2
theorem sIx_eq (n d : Nat) (o : Option Int) : sIx n d o = HT.sIx n d o := by cases o <;> rfl
theorem Rps.cut (h : Rps K F H n vs ds cc) (sub : Same F H) (lo hi : Option Int) : Part F H cc fun G c' => Rps K G H n (cutV vs lo hi) (cutL ds lo hi) c' := by
  unfold cutV cutL
  rw [sIx_eq, sIx_eq, h.len]
  exact Part.bind sub (h.drop _) fun F' c' s q => q.take _
end
section
variable {X : Cx}
def rsl (K : PySem.W.Frag) : V → Option Int → Option Int → Hp → VK → Prop := fun x lo hi H Q => (rSlL K x lo hi H Q ∨ rSlA K x lo hi H Q) ∨ rSlS x lo hi H Q
theorem rsl_ok : SlR X (rsl X.K) := .or (.or sl_list sl_tupA) sl_str
end
section
variable {K : Frag} {r c : Cnt} {σ : L2.St} {H H1 : Hp} {ρ1 : Env} {u w : V} {us : List V} {as : List (Nat × D)} {v v1 v2 x : Nat × D} {Q : VK}
theorem slc_snd {K : KF} {lo hi : Option Int} (m : MS K r σ H c H1 ρ1 (u :: us) (v :: as)) (e : slcD v.1 v.2 lo hi = some x) (hQ : ∀ y H', Po K r σ H c x ρ1 y H' → Q y H') : rsl K u lo hi H1 Q := by
  obtain ⟨n, d⟩ := v
  have g := MS.view m
  cases g with
  | cons g1 _ =>
  cases d <;> simp only [slcD, reduceCtorEq, Option.some.injEq, Option.ite_none_right_eq_some] at e
  · obtain ⟨h1, rfl⟩ := e
    rename_i z
    obtain rfl := g1.str'
    refine .inr ⟨z, rfl, by rw [sizeLine_eq]; exact h1, hQ _ _ ?_⟩
    have : cutS z lo hi = ⟨(cutL z.cps.toList lo hi).toArray⟩ := by
      unfold cutS cutL
      rw [sIx_eq, sIx_eq]
      rfl
    rw [this]
    obtain ⟨c1, cv, S, R, L, k⟩ := m
    exact fin_part0 S L k (.none fun _ _ => .at_ rfl fun _ => .str _)
  · subst e
    obtain ⟨c1, cv, S, R, L, k⟩ := m
    cases R with
    | cons r1 r2 =>
    obtain ⟨a, vs, rfl, s1, p1⟩ := r1.items hid_sub
    refine .inl (.inl ⟨a, vs, rfl, s1, fun p hp => hQ _ _ ?_⟩)
    rw [show max n 1 = (n - 1) + 1 by omega]
    exact fin_lst0 S L k hp (Part.left (Part.bind hid_sub p1 fun F' c' sub' q => q.cut sub' lo hi))
  · subst e
    rename_i ds
    obtain ⟨c1, cv, S, R, L, k⟩ := m
    cases R with
    | cons r1 r2 =>
    obtain ⟨a, vs, rfl, s1, p1⟩ := r1.itemsT hid_sub
    have l1 : vs.length = ds.length := by
      obtain ⟨_, _, q⟩ := p1
      exact (q H1 hid_sub fun _ _ _ e => e).len
    have b1 : HT.sIx ds.length 0 lo ≤ ds.length := HT.sIx_le _ _ (Nat.zero_le _) _
    have b2 : HT.sIx ds.length ds.length hi ≤ ds.length := HT.sIx_le _ _ (Nat.le_refl _) _
    have cl : (cutL ds lo hi).length = min (HT.sIx ds.length ds.length hi - HT.sIx ds.length 0 lo) (ds.length - HT.sIx ds.length 0 lo) := by
      unfold cutL
      rw [sIx_eq, sIx_eq, List.length_take, List.length_drop]
    refine .inl (.inr ⟨a, vs, rfl, s1, ?_, ?_⟩)
    · intro hw
      rw [l1] at hw
      have e2 : cutL ds lo hi = ds := by
        unfold cutL
        rw [sIx_eq, sIx_eq, hw.1, hw.2, List.drop_zero, Nat.sub_zero, List.take_length]
      refine hQ _ _ ?_
      rw [e2, if_pos (by simp)]
      exact fin_part0 S L k (Part.left (Part.rp r1))
    · intro hw p hp
      rw [l1] at hw
      refine hQ _ _ ?_
      rw [if_neg (by rw [cl]; simp only [beq_iff_eq]; omega), show max n 1 = (n - 1) + 1 by omega]
      exact fin_tup0 S L k hp (Part.left (Part.bind hid_sub p1 fun F' c' sub' q => q.cut sub' lo hi))
/-! ### built-in functions -/
theorem DdAll.ints : ∀ {vs : List V} {ds : List D} {ns : List Int}, DdAll K H vs ds → PL.intsD ds = some ns → vs = ns.map V.int
  | _, _, _, .nil, e => by simp [PL.intsD] at e; subst e; rfl
  | _, d :: _, _, .cons h a, e => by
    cases d <;> simp only [PL.intsD, reduceCtorEq, Option.map_eq_some_iff] at e
    obtain ⟨ns, e, rfl⟩ := e
    rw [h.int', DdAll.ints a e]
    rfl
theorem DdAll.bools : ∀ {vs : List V} {ds : List D} {ns : List Bool}, DdAll K H vs ds → PL.bools ds = some ns → vs = ns.map V.bl
  | _, _, _, .nil, e => by simp [PL.bools] at e; subst e; rfl
  | _, d :: _, _, .cons h a, e => by
    cases d <;> simp only [PL.bools, reduceCtorEq, Option.map_eq_some_iff] at e
    obtain ⟨ns, e, rfl⟩ := e
    rw [h.bl', DdAll.bools a e]
    rfl
theorem maxI_spec : ∀ (r : List Int) (i : Int), maxI i r ∈ i :: r ∧ ∀ y ∈ i :: r, y ≤ maxI i r
  | [], i => by simp [maxI]
  | j :: r, i => by
    obtain ⟨h1, h2⟩ := maxI_spec r (if i < j then j else i)
    simp only [maxI]
    generalize maxI (if i < j then j else i) r = M at h1 h2 ⊢
    refine ⟨?_, fun y hy => ?_⟩
    · rcases List.mem_cons.mp h1 with h | h
      · rw [h]; split <;> simp
      · simp [h]
    · have a := h2 (if i < j then j else i) (by simp)
      rcases List.mem_cons.mp hy with rfl | hy
      · split at a <;> omega
      · rcases List.mem_cons.mp hy with rfl | hy
        · split at a <;> omega
        · exact h2 y (by simp [hy])
theorem minI_spec : ∀ (r : List Int) (i : Int), minI i r ∈ i :: r ∧ ∀ y ∈ i :: r, minI i r ≤ y
  | [], i => by simp [minI]
  | j :: r, i => by
    obtain ⟨h1, h2⟩ := minI_spec r (if j < i then j else i)
    simp only [minI]
    generalize minI (if j < i then j else i) r = M at h1 h2 ⊢
    refine ⟨?_, fun y hy => ?_⟩
    · rcases List.mem_cons.mp h1 with h | h
      · rw [h]; split <;> simp
      · simp [h]
    · have a := h2 (if j < i then j else i) (by simp)
      rcases List.mem_cons.mp hy with rfl | hy
      · split at a <;> omega
      · rcases List.mem_cons.mp hy with rfl | hy
        · split at a <;> omega
        · exact h2 y (by simp [hy])
theorem insI_perm (x : Int) : ∀ l : List Int, (insB (fun a b => decide (a ≤ b)) x l).Perm (x :: l)
  | [] => .refl _
  | y :: r => by
    unfold insB
    split
    · exact .refl _
    · exact ((insI_perm x r).cons y).trans (.swap x y r)
theorem sortI_perm : ∀ l : List Int, (sortB (fun a b => decide (a ≤ b)) l).Perm l
  | [] => .refl _
  | x :: r => (insI_perm x _).trans ((sortI_perm r).cons x)
theorem insI_sorted (x : Int) : ∀ l : List Int, l.Pairwise (· ≤ ·) → (insB (fun a b => decide (a ≤ b)) x l).Pairwise (· ≤ ·)
  | [], _ => by simp [insB]
  | y :: r, h => by
    rw [List.pairwise_cons] at h
    unfold insB
    split
    · rename_i z
      have z := of_decide_eq_true z
      exact List.pairwise_cons.mpr ⟨fun a ha => by
        rcases List.mem_cons.mp ha with rfl | ha
        · exact z
        · have := h.1 a ha; omega, List.pairwise_cons.mpr h⟩
    · rename_i z
      have z : ¬ x ≤ y := fun q => z (decide_eq_true q)
      exact List.pairwise_cons.mpr ⟨fun a ha => by
        rcases List.mem_cons.mp ((insI_perm x r).mem_iff.mp ha) with rfl | ha
        · omega
        · exact h.1 a ha, insI_sorted x r h.2⟩
theorem sortI_sorted : ∀ l : List Int, (sortB (fun a b => decide (a ≤ b)) l).Pairwise (· ≤ ·)
  | [] => .nil
  | x :: r => insI_sorted x _ (sortI_sorted r)
theorem sorted_uniq : ∀ {l m : List Int}, l.Perm m → l.Pairwise (· ≤ ·) → m.Pairwise (· ≤ ·) → l = m
  | [], m, p, _, _ => (List.nil_perm.mp p).symm
  | x :: l, [], p, _, _ => by have := p.length_eq; simp at this
  | x :: l, y :: m, p, h, h' => by
    have a := List.pairwise_cons.mp h
    have b := List.pairwise_cons.mp h'
    have e : x = y := by
      have h1 : x ∈ y :: m := p.mem_iff.mp (by simp)
      have h2 : y ∈ x :: l := p.mem_iff.mpr (by simp)
      rcases List.mem_cons.mp h1 with h1 | h1
      · exact h1
      · rcases List.mem_cons.mp h2 with h2 | h2
        · exact h2.symm
        · have := a.1 _ h2; have := b.1 _ h1; omega
    subst e
    rw [sorted_uniq (p.cons_inv) a.2 b.2]
theorem ddInts : ∀ (ns : List Int) (G : Hp), DdAll K G (ns.map V.int) (ns.map PyData.int)
  | [], _ => .nil
  | _ :: ns, G => .cons (.int _) (ddInts ns G)
theorem rpsAt : ∀ {F H : Hp} (k : Nat) (ns : List Int), Rps K F H k (ns.map V.int) (ns.map PyData.int) zro
  | _, _, _, [] => .nil
  | F, H, k, i :: ns => by
    have z : Rps K F H k (V.int i :: ns.map V.int) (PyData.int i :: ns.map PyData.int) (add zro zro) := Rps.cons (.at_ rfl fun _ => .int _) (rpsAt k ns)
    rw [add_zro] at z
    exact z
def rLenK : List V → Hp → VK → Prop := fun xs H Q => ∃ (p : Addr) (kvs : List (L2.Key × V)), xs = [.ref p] ∧ Rd H p (.dK kvs) ∧ Q (.int ((kvs.length : Nat) : Int)) H
theorem call_lenK {X : Cx} : CallR X (.builtin "len") rLenK := by
  intro pins s σ H xs us Q I r h
  obtain ⟨a, kvs, rfl, ha, q⟩ := h
  obtain ⟨u, rfl, ru⟩ := vals1 r
  cases ru
  exact d_len I ha fun t s' I' => ⟨.int kvs.length, H, I', ⟨t, rfl⟩, q⟩
theorem CallR.or {X : Cx} {f : Value} {r r' : List V → Hp → VK → Prop} (h : CallR X f r) (h' : CallR X f r') : CallR X f (fun xs H Q => r xs H Q ∨ r' xs H Q) := by
  intro pins s σ H xs us Q I rx q
  rcases q with q | q
  · exact h pins s σ H xs us Q I rx q
  · exact h' pins s σ H xs us Q I rx q
/-- the built-in function behind a word: its value; is it a type -/
def biV : Bi → Option (Str × Value)
  | .len => some ("len", .builtin "len")
  | .abs => some ("abs", .builtin "abs")
  | .max2 => some ("max", .builtin "max")
  | .min2 => some ("min", .builtin "min")
  | .maxL => some ("max", .builtin "max")
  | .minL => some ("min", .builtin "min")
  | .sum => some ("sum", .builtin "sum")
  | .any => some ("any", .builtin "any")
  | .all => some ("all", .builtin "all")
  | .int => some ("int", .type "int")
  | .list => some ("list", .type "list")
  | .tuple => some ("tuple", .type "tuple")
  | .sorted => some ("sorted", .builtin "sorted")
  | _ => none
/-- .. asks for the calm -/
def biCalm : Bi → Bool
  | .max2 => true
  | .min2 => true
  | .maxL => true
  | .minL => true
  | .sum => true
  | .any => true
  | .all => true
  | _ => false
def rLen (K : PySem.W.Frag) : List V → Hp → VK → Prop := fun xs H Q => ∃ x n, xs = [x] ∧ LenV K x H n ∧ Q (.int n) H
def rbi (K : PySem.W.Frag) : Bi → List V → Hp → VK → Prop
  | .len => fun xs H Q => (rLen K xs H Q ∨ rLenK xs H Q) ∨ rLenT xs H Q
  | .abs => fun xs H Q => ∃ i, xs = [.int i] ∧ Q (.int (if i < 0 then -i else i)) H
  | .max2 => fun xs H Q => ∃ i j, xs = [.int i, .int j] ∧ Q (.int (if j > i then j else i)) H
  | .min2 => fun xs H Q => ∃ i j, xs = [.int i, .int j] ∧ Q (.int (if j < i then j else i)) H
  | .maxL => rMax K
  | .minL => rMin K
  | .sum => rSum K
  | .any => rAny K
  | .all => rAll K
  | .int => fun xs H Q => (∃ i, xs = [.int i] ∧ Q (.int i) H) ∨ ∃ k, xs = [.bl k] ∧ Q (.int (if k then 1 else 0)) H
  | .list => fun xs H Q => ∃ p ys, xs = [.ref p] ∧ (SqL K H p ys ∨ SqT K H p ys) ∧ ∀ l, H l = none → Q (.ref l) (upd H l (.lst ys))
  | .tuple => fun xs H Q => ∃ p ys, xs = [.ref p] ∧ ((SqL K H p ys ∧ ∀ l, H l = none → Q (.ref l) (upd H l (.tup ys))) ∨ (SqT K H p ys ∧ Q (.ref p) H))
  | .sorted => fun xs H Q => rSortedI K xs H Q ∨ rSortedD K xs H Q
  | _ => fun _ _ _ => False
theorem rbi_ok {X : Cx} (hu : X.A.units + 8 < cLine) : ∀ {b : Bi} {x : Str} {f : Value}, biV b = some (x, f) → (biCalm b = true → X.calm = true) → CallR X f (rbi X.K b) := by
  intro b x f e hc
  cases b <;> simp only [biV, Option.some.injEq, Prod.mk.injEq, reduceCtorEq] at e <;> obtain ⟨_, rfl⟩ := e
  · exact .or (.or call_len call_lenK) call_len_dT
  · exact call_abs
  · exact call_max2 (hc rfl)
  · exact call_min2 (hc rfl)
  · exact cr_max (hc rfl)
  · exact cr_min (hc rfl)
  · exact cr_sum (hc rfl)
  · exact cr_any (hc rfl)
  · exact cr_all (hc rfl)
  · exact call_int1
  · exact call_list_of
  · exact call_tuple_of
  · exact .or cr_sortedI (cr_sortedD hu)
theorem bare_k {ks : List L2.Key} {ds : List D} (h : ks.length = ds.length) : (bare ((ks.map kD).zip ds)).length = ks.length := by
  cases ks with
  | nil => rfl
  | cons k ks => cases ds with
    | nil => simp at h
    | cons d ds =>
      have : bare ((((k :: ks).map kD)).zip (d :: ds)) = ((k :: ks).map kD).zip (d :: ds) := by cases k <;> rfl
      rw [this, List.length_zip, List.length_map]
      omega
theorem DdAll.one {vs : List V} {d : D} (h : DdAll K H vs [d]) : ∃ v, vs = [v] ∧ Dd K H v d := h.one'
theorem asOne {K : KF} {as : List (Nat × D)} {n : Nat} {d : D} (m : MS K r σ H c H1 ρ1 us as) (e : as = [(n, d)]) : ∃ u, us = [u] ∧ Dd K H1 u d := by
  subst e
  exact (MS.view m).one'
theorem asTwo {K : KF} {as : List (Nat × D)} {n n' : Nat} {d d' : D} (m : MS K r σ H c H1 ρ1 us as) (e : as = [(n, d), (n', d')]) : ∃ u w, us = [u, w] ∧ Dd K H1 u d ∧ Dd K H1 w d' := by
  subst e
  exact (MS.view m).two'
theorem bi_snd {K : KF} {b : Bi} (m : MS K r σ H c H1 ρ1 us as) (e : biD b as = some x) (hb : (biV b).isSome = true) (hQ : ∀ y H', Po K r σ H c x ρ1 y H' → Q y H') : rbi K b us H1 Q := by
  have at9 : ∀ {d : D} {u : V}, atm d = true → (∀ G, Dd K G u d) → x = (9, d) → Q u H1 := fun ha hd ex => hQ _ _ (by rw [ex]; exact fin_at m 9 ha hd)
  unfold biD at e
  split at e <;> (try simp only [Option.some.injEq, Option.ite_none_right_eq_some, Option.map_eq_some_iff, reduceCtorEq] at e)
  · obtain ⟨u, rfl, h⟩ := asOne m rfl
    obtain ⟨a, xs, rfl, sq, _, l⟩ := h.lst'
    exact .inl (.inl ⟨_, _, rfl, .inl ⟨xs, sq, rfl⟩, at9 rfl (fun _ => .int _) (by rw [← e, l.len])⟩)
  · obtain ⟨u, rfl, h⟩ := asOne m rfl
    obtain ⟨a, xs, rfl, sq, _, l⟩ := h.tup'
    exact .inl (.inl ⟨_, _, rfl, .inr ⟨xs, sq, rfl⟩, at9 rfl (fun _ => .int _) (by rw [← e, l.len])⟩)
  · obtain ⟨u, rfl, h⟩ := asOne m rfl
    cases h with
    | @dk a ks vs ds e1 hl ha =>
      refine .inl (.inr ⟨a, _, rfl, e1, at9 rfl (fun _ => .int _) ?_⟩)
      rw [← e, bare_k (hl.trans ha.len), List.length_zip, ← hl, Nat.min_self]
    | @dt a ks vs ds e1 hl ha =>
      refine .inr ⟨a, _, rfl, e1, at9 rfl (fun _ => .int _) ?_⟩
      rw [← e]
      show (9, PyData.int ((((ks.map tD).zip ds).length : Nat) : Int)) = _
      rw [List.length_zip, List.length_zip, List.length_map, ha.len]
  · obtain ⟨u, rfl, h⟩ := asOne m rfl
    obtain rfl := h.str'
    obtain ⟨e0, e⟩ := e
    exact .inl (.inl ⟨_, _, rfl, ⟨by rw [sizeLine_eq]; exact e0, rfl⟩, at9 rfl (fun _ => .int _) e.symm⟩)
  · obtain ⟨u, rfl, h⟩ := asOne m rfl
    obtain rfl := h.int'
    exact ⟨_, rfl, at9 rfl (fun _ => .int _) e.symm⟩
  · obtain ⟨u, w, rfl, h, h'⟩ := asTwo m rfl
    obtain rfl := h.int'
    obtain rfl := h'.int'
    exact ⟨_, _, rfl, at9 rfl (fun _ => .int _) e.symm⟩
  · obtain ⟨u, w, rfl, h, h'⟩ := asTwo m rfl
    obtain rfl := h.int'
    obtain rfl := h'.int'
    exact ⟨_, _, rfl, at9 rfl (fun _ => .int _) e.symm⟩
  · obtain ⟨u, rfl, h⟩ := asOne m rfl
    obtain ⟨a, vs, rfl, sq, _, l⟩ := h.lst'
    split at e <;> simp only [Option.some.injEq, reduceCtorEq] at e
    rename_i i rr hi
    obtain rfl := l.ints hi
    refine ⟨a, i :: rr, rfl, sq, by simp, fun mx h1 h2 => at9 rfl (fun _ => .int _) ?_⟩
    obtain ⟨h3, h4⟩ := maxI_spec rr i
    have : mx = maxI i rr := by have := h2 _ h3; have := h4 _ h1; omega
    rw [← e, this]
  · obtain ⟨u, rfl, h⟩ := asOne m rfl
    obtain ⟨a, vs, rfl, sq, _, l⟩ := h.lst'
    split at e <;> simp only [Option.some.injEq, reduceCtorEq] at e
    rename_i i rr hi
    obtain rfl := l.ints hi
    refine ⟨a, i :: rr, rfl, sq, by simp, fun mx h1 h2 => at9 rfl (fun _ => .int _) ?_⟩
    obtain ⟨h3, h4⟩ := minI_spec rr i
    have : mx = minI i rr := by have := h2 _ h3; have := h4 _ h1; omega
    rw [← e, this]
  · obtain ⟨u, rfl, h⟩ := asOne m rfl
    obtain ⟨a, vs, rfl, sq, _, l⟩ := h.lst'
    obtain ⟨ns, hi, e⟩ := e
    obtain rfl := l.ints hi
    exact ⟨a, ns, rfl, sq, at9 rfl (fun _ => .int _) e.symm⟩
  · obtain ⟨u, rfl, h⟩ := asOne m rfl
    obtain ⟨a, vs, rfl, sq, _, l⟩ := h.lst'
    obtain ⟨ns, hi, e⟩ := e
    obtain rfl := l.bools hi
    exact ⟨a, ns, rfl, sq, at9 rfl (fun _ => .bl _) e.symm⟩
  · obtain ⟨u, rfl, h⟩ := asOne m rfl
    obtain ⟨a, vs, rfl, sq, _, l⟩ := h.lst'
    obtain ⟨ns, hi, e⟩ := e
    obtain rfl := l.bools hi
    exact ⟨a, ns, rfl, sq, at9 rfl (fun _ => .bl _) e.symm⟩
  · obtain ⟨u, rfl, h⟩ := asOne m rfl
    obtain rfl := h.int'
    exact .inl ⟨_, rfl, at9 rfl (fun _ => .int _) e.symm⟩
  · obtain ⟨u, rfl, h⟩ := asOne m rfl
    obtain rfl := h.bl'
    exact .inr ⟨_, rfl, at9 rfl (fun _ => .int _) e.symm⟩
  · subst e
    rename_i n xs
    obtain ⟨u, rfl, h⟩ := asOne m rfl
    obtain ⟨c1, cv, S, R, L, k⟩ := m
    obtain ⟨a, vs, rfl, s1, p1⟩ := R.one1.items hid_sub
    refine ⟨a, vs, rfl, .inl s1, fun p hp => hQ _ _ ?_⟩
    rw [show max n 1 = (n - 1) + 1 by omega]
    exact fin_lst0 S L k hp p1
  · subst e
    rename_i n xs
    obtain ⟨u, rfl, h⟩ := asOne m rfl
    obtain ⟨c1, cv, S, R, L, k⟩ := m
    obtain ⟨a, vs, rfl, s1, p1⟩ := R.one1.itemsT hid_sub
    refine ⟨a, vs, rfl, .inr s1, fun p hp => hQ _ _ ?_⟩
    rw [show max n 1 = (n - 1) + 1 by omega]
    exact fin_lst0 S L k hp p1
  · subst e
    rename_i n xs
    obtain ⟨u, rfl, h⟩ := asOne m rfl
    obtain ⟨c1, cv, S, R, L, k⟩ := m
    obtain ⟨a, vs, rfl, s1, p1⟩ := R.one1.items hid_sub
    refine ⟨a, vs, rfl, .inl ⟨s1, fun p hp => hQ _ _ ?_⟩⟩
    rw [show max n 1 = (n - 1) + 1 by omega]
    exact fin_tup0 S L k hp p1
  · subst e
    rename_i n xs
    obtain ⟨u, rfl, h⟩ := asOne m rfl
    obtain ⟨c1, cv, S, R, L, k⟩ := m
    obtain ⟨a, vs, rfl, s1, p1⟩ := R.one1.itemsT hid_sub
    exact ⟨a, vs, rfl, .inr ⟨s1, hQ _ _ (fin_part0 S L k (Part.rp R.one1))⟩⟩
  · obtain ⟨u, rfl, h⟩ := asOne m rfl
    obtain ⟨a, vs, rfl, sq, _, l⟩ := h.lst'
    split at e <;> simp only [Option.some.injEq, reduceCtorEq, Option.ite_none_right_eq_some] at e
    rename_i ns hi
    subst e
    obtain rfl := l.ints hi
    refine .inl ⟨a, ns, rfl, sq, fun ns' p h1 h2 hp => hQ _ _ ?_⟩
    have : ns' = sortB (fun a b => decide (a ≤ b)) ns := sorted_uniq (h1.trans (sortI_perm ns).symm) h2 (sortI_sorted ns)
    subst this
    exact fin_lst (k := 9) m hp fun F cv _ _ => .none fun G _ => rpsAt 9 _
    rename_i n0 ds0 _ _ _
    obtain ⟨ok, e⟩ := e
    subst e
    obtain ⟨c1, cv, S, R, L, k⟩ := m
    obtain ⟨a', vs', e1, s1, p1⟩ := R.one1.items hid_sub
    cases e1
    have l' : DdAll K.k H1 vs' ds0 := by
      obtain ⟨cz, le, q⟩ := p1
      exact Rps.view (H := H1) (F := H1) (fun _ _ z => z) (q H1 hid_sub fun _ _ _ z => z) fun _ _ _ z => z
    refine .inr ⟨a, vs', _, rfl, s1, l', ok, fun zs p dz hp => hQ _ _ ?_⟩
    exact fin_lst0 (kk := 0) S L k hp (Part.bind hid_sub p1 fun F' c' sub' q => Part.all fun G sg eg => Rps.sh (dz G (Rps.view sg q eg)))
  · cases hb
  · cases hb
  · cases hb
end
end PL

/-! PL8: the readings of expressions, one construct after the other. -/
namespace PL
open PySem L2
open PySem (PyData Str)
/-! ### weaker readings -/
section
variable {X : Cx}
theorem pe_imp {e : Expr} {t t' : TE} (h : PE X e t) (k : ∀ σ H Q, t' σ H Q → t σ H Q) : PE X e t' := ⟨fun pins s σ H Q I q => h.run pins s σ H Q I (k _ _ _ q)⟩
theorem pt_imp {e : Expr} {t t' : TT} (h : PT X e t) (k : ∀ σ H Q, t' σ H Q → t σ H Q) : PT X e t' := ⟨fun pins s σ H Q I q => h.run pins s σ H Q I (k _ _ _ q)⟩
theorem pw_imp {e : Expr} {t t' : TT} (h : PW X e t) (k : ∀ σ H Q, t' σ H Q → t σ H Q) : PW X e t' := ⟨fun wh pins s σ H Q I q => h.run wh pins s σ H Q I (k _ _ _ q)⟩
theorem pa_imp {e : List Expr} {t t' : TA} (h : PA X e t) (k : ∀ σ H Q, t' σ H Q → t σ H Q) : PA X e t' := ⟨fun pos pins s σ H Q I q => h.run pos pins s σ H Q I (k _ _ _ q)⟩
theorem ps_imp {e : Stmt} {t t' : TS} (h : PS X e t) (k : ∀ D σ H, t' D σ H → t D σ H) : PS X e t' := ⟨fun pins s σ H D I q => h.run pins s σ H D I (k _ _ _ q)⟩
theorem pss_imp {e : List Stmt} {t t' : TS} (h : PSs X e t) (k : ∀ D σ H, t' D σ H → t D σ H) : PSs X e t' := ⟨fun pins s σ H D I q => h.run pins s σ H D I (k _ _ _ q)⟩
end
/-! ### states -/
section
variable {K : Frag} {F H : Hp}
theorem Rpl.app : ∀ {vs ws : List V} {as bs : List (Nat × D)} {c c' : Cnt}, Rpl K F H vs as c → Rpl K F H ws bs c' → Rpl K F H (vs ++ ws) (as ++ bs) (add c c')
  | _, _, _, _, _, c', .nil, b => by rw [zro_add]; exact b
  | _, _, _, _, _, _, .cons h a, b => by rw [add_assoc]; exact .cons h (Rpl.app a b)
theorem Rp.zero {n : Nat} {v : V} {d : D} {c : Cnt} (h : Rp K F H n v d c) (h0 : n = 0 ∨ atm d = true) : c = zro ∧ Dd K F v d := by
  cases h with
  | at_ a h => exact ⟨rfl, h F⟩
  | sh h => exact ⟨rfl, h⟩
  | lst _ _ => rcases h0 with h | h <;> cases h
  | tup _ _ => rcases h0 with h | h <;> cases h
  | dk _ _ _ _ => rcases h0 with h | h <;> cases h
  | dt _ _ _ _ => rcases h0 with h | h <;> cases h
end
section
variable {T : Tab} {ea : Nat → Addr} {K : Frag} {r c : Cnt} {σ : L2.St} {H H1 H2 : Hp} {ρ ρ1 ρ2 : Env} {vs : List V} {as : List (Nat × D)} {v w : Nat × D} {u : V} {W : WX} {C : PL.C} {Q : VK}
/-- the values at hand let go -/
theorem MS.forget {K : KF} (m : MS K r σ H c H1 ρ1 vs as) : ∃ c', StR K r σ H1 ρ1 c' ∧ Lk H (add c r) H1 (add c' r) ∧ Kp r H H1 := by
  obtain ⟨c1, cv, S, R, L, k⟩ := m
  have l : Lk H1 (add c1 (add r cv)) H1 (add c1 r) := Lk.less fun a => by unfold add; omega
  exact ⟨c1, ⟨S.fxs, Envs.mono l S.env fun _ _ => rfl, fun a => by have := S.lin a; unfold add at this; omega, fun a ha => S.ex a (by unfold add; omega)⟩, L.trans l, k⟩
theorem MS.of {K : KF} (S : StR K r σ H1 ρ1 c) (L : Lk H (add ρc r) H1 (add c r)) (k : Kp r H H1) : MS K r σ H ρc H1 ρ1 [] [] := ⟨c, zro, by rw [add_zro]; exact S, .nil, by rw [add_zro]; exact L, k⟩
/-- new objects that nobody counts -/
theorem StR.grow {K : KF} (S : StR K r σ H ρ c) {H' : Hp} (g : ∀ b o, H b = some o → H' b = some o) : StR K r σ H' ρ c ∧ Lk H (add c r) H' (add c r) ∧ Kp r H H' := by
  have l : Lk H (add c r) H' (add c r) := fun a o e => by
    obtain ⟨z, e⟩ := hid_some.mp e
    exact hid_some.mpr ⟨z, g _ _ e⟩
  have kp : ∀ (a : Addr), (∃ o, H a = some o) → H' a = H a := fun a ⟨o, e⟩ => (g a o e).trans e.symm
  exact ⟨⟨S.fxs, Envs.mono l S.env fun a ha => kp a (Envs.ex S.env ha), S.lin, fun a ha => let ⟨o, e⟩ := S.ex a ha; ⟨o, g _ _ e⟩⟩, l, fun a ha => kp a (S.ex a ha)⟩
theorem MS.grow {K : KF} (m : MS K r σ H c H1 ρ1 vs as) {H' : Hp} (g : ∀ b o, H1 b = some o → H' b = some o) : MS K r σ H c H' ρ1 vs as := by
  obtain ⟨c1, cv, S, R, L, k⟩ := m
  obtain ⟨S', l, k'⟩ := S.grow g
  exact ⟨c1, cv, S', Rpl.mono l R fun a ha => k' a (by unfold add; omega), L.trans l, fun a ha => (k' a (by unfold add; omega)).trans (k a ha)⟩
theorem grow_upd {p : Addr} {o : HO} (hp : H p = none) : ∀ b x, H b = some x → upd H p o b = some x := fun b x e => by
  rw [upd_ne fun z => by rw [z, hp] at e; cases e]; exact e
/-- the ends of a computation of values, of tests, of arguments -/
def aftB (T : Tab) (ea : Nat → Addr) (K : KF) (W : WX) (r : Cnt) (σ : L2.St) (H : Hp) (c : Cnt) (Q : Bool → Hp → Prop) : R Bool → Prop
  | .ok b ρ' => ∀ H' c', StR K r σ H' ρ' c' → Lk H (add c r) H' (add c' r) → Kp r H H' → Q b H'
  | .exc k ds ρ' => ∀ cls dx H', Px T ea K r σ H c k ds ρ' cls dx H' → W cls dx σ H'
  | .bad => False
/-- a test's reading, by a computation of a truth value -/
def rdB (T : Tab) (ea : Nat → Addr) (K : KF) (W : WX) (f : Env → R Bool) : TT := fun σ H Q => ∃ ρ c r, StR K r σ H ρ c ∧ aftB T ea K W r σ H c Q (f ρ)
/-- .. of an expression -/
abbrev rdT (T : Tab) (ea : Nat → Addr) (K : KF) (W : WX) (C : PL.C) (e : E) : TT := rdB T ea K W fun ρ => (ev C e ρ).bind tru
inductive Wv (σ : L2.St) : E → List V → List V → Prop
  | nil : Wv σ .nil [] []
  | lend {i : Nat} {v : V} {b : E} {us ws : List V} : σ[i]? = some (some v) → Wv σ b us ws → Wv σ (.cons (.lend i) b) us (v :: ws)
  | cons {a b : E} {u : V} {us ws : List V} : (∀ i, a ≠ .lend i) → Wv σ b us ws → Wv σ (.cons a b) (u :: us) (u :: ws)
def aftA (T : Tab) (ea : Nat → Addr) (K : KF) (W : WX) (r : Cnt) (σ : L2.St) (H : Hp) (c : Cnt) (es : E) (Q : List V → Hp → Prop) : R (List (Nat × D)) → Prop
  | .ok as ρ' => ∀ us ws H', MS K r σ H c H' ρ' us as → Wv σ es us ws → Q ws H'
  | .exc k ds ρ' => ∀ cls dx H', Px T ea K r σ H c k ds ρ' cls dx H' → W cls dx σ H'
  | .bad => False
def rdA (T : Tab) (ea : Nat → Addr) (K : KF) (W : WX) (C : PL.C) (es : E) : TA := fun σ H Q => ∃ ρ c r, StR K r σ H ρ c ∧ aftA T ea K W r σ H c es Q (evs C es ρ)

theorem aft_bind {K : KF} {α : Type} {x : R α} {k : α → Env → R (Nat × D)} (h : aft T ea K W r σ H c Q (x.bind k)) :
    (∃ a ρ', x = .ok a ρ' ∧ aft T ea K W r σ H c Q (k a ρ')) ∨ ∃ kk ds ρ', x = .exc kk ds ρ' ∧ ∀ cls dx H', Px T ea K r σ H c kk ds ρ' cls dx H' → W cls dx σ H' := by
  cases x with
  | ok a ρ' => exact .inl ⟨a, ρ', rfl, h⟩
  | exc kk ds ρ' => exact .inr ⟨kk, ds, ρ', rfl, h⟩
  | bad => exact h.elim
theorem aft_ofO {K : KF} {o : Option (Nat × D)} (h : aft T ea K W r σ H c Q (ofO o ρ)) : ∃ x, o = some x ∧ ∀ y H', Po K r σ H c x ρ y H' → Q y H' := by
  cases o with
  | none => exact h.elim
  | some x => exact ⟨x, rfl, h⟩
/-- an expression asked behind others, what comes next -/
theorem useE {K : KF} {e : E} {k : (Nat × D) → Env → R (Nat × D)} {Q' : VK} (m : MS K r σ H c H1 ρ1 vs as) (h : aft T ea K W r σ H c Q ((ev C e ρ1).bind k))
    (hk : ∀ v ρ2 u H2, ev C e ρ1 = .ok v ρ2 → MS K r σ H c H2 ρ2 (vs ++ [u]) (as ++ [v]) → aft T ea K W r σ H c Q (k v ρ2) → Q' u H2) : rd T ea K W C e σ H1 Q' := by
  rcases aft_bind h with ⟨a, ρ', e1, h1⟩ | ⟨kk, ds, ρ', e1, h1⟩
  · exact use m (fun _ _ _ _ _ _ e2 => by rw [e1] at e2; cases e2) (by rw [e1]; intro z; cases z) fun v ρ2 u H2 e2 m2 => by
      rw [e1] at e2; cases e2
      exact hk _ _ _ _ e1 m2 h1
  · exact use m (fun _ _ _ _ _ _ e2 p => by rw [e1] at e2; cases e2; exact h1 _ _ _ p) (by rw [e1]; intro z; cases z) fun v ρ2 u H2 e2 m2 => by
      rw [e1] at e2; cases e2
/-- arguments asked behind others -/
theorem useA {K : KF} {es : E} {k : List (Nat × D) → Env → R (Nat × D)} {Q' : List V → Hp → Prop} (m : MS K r σ H c H1 ρ1 vs as) (h : aft T ea K W r σ H c Q ((evs C es ρ1).bind k))
    (hk : ∀ bs ρ2 us ws H2, evs C es ρ1 = .ok bs ρ2 → MS K r σ H c H2 ρ2 (vs ++ us) (as ++ bs) → Wv σ es us ws → aft T ea K W r σ H c Q (k bs ρ2) → Q' ws H2) : rdA T ea K W C es σ H1 Q' := by
  obtain ⟨c1, cv, S, R, L, kp⟩ := m
  refine ⟨ρ1, c1, add r cv, S, ?_⟩
  rcases aft_bind h with ⟨a, ρ', e1, h1⟩ | ⟨kk, ds, ρ', e1, h1⟩
  · rw [e1]
    intro us ws H2 p q
    refine hk a ρ' us ws H2 e1 ?_ q h1
    obtain ⟨c2, cw, S2, R2, L2, k2⟩ := p
    refine ⟨c2, add cv cw, by rw [← add_assoc]; exact S2, ?_, ?_, fun a ha => (k2 a (by unfold add; omega)).trans (kp a ha)⟩
    · have z := Rpl.mono L2 R fun a ha => k2 a (by unfold add; omega)
      rw [add_assoc r cv cw] at z R2
      exact Rpl.app z R2
    · rw [show add c2 (add r (add cv cw)) = add c2 (add (add r cv) cw) by rw [add_assoc]]
      exact L.trans L2
  · rw [e1]
    intro cls dx H2 p
    refine h1 cls dx H2 ?_
    obtain ⟨c2, S2, R2, L2, k2⟩ := p
    have l : Lk H2 (add c2 (add r cv)) H2 (add c2 r) := Lk.less fun a => by unfold add; omega
    exact ⟨c2, ⟨S2.fxs, Envs.mono l S2.env fun _ _ => rfl, fun a => by have := S2.lin a; unfold add at this; omega, fun a ha => S2.ex a (by unfold add; omega)⟩, R2.mono l, (L.trans L2).trans l, fun a ha => (k2 a (by unfold add; omega)).trans (kp a ha)⟩
end
end PL

/-! PL9: the expressions. -/
namespace PL
open PySem L2
open PySem (PyData Str)
section
variable {T : Tab} {ea : Nat → Addr} {X : Cx} {W : WX} {C : PL.C} {pos : Pos}
abbrev RD (T : Tab) (ea : Nat → Addr) (X : Cx) (W : WX) (C : PL.C) (e : E) : TE := rd T ea (kf T X) W C e
abbrev RT (T : Tab) (ea : Nat → Addr) (X : Cx) (W : WX) (C : PL.C) (e : E) : TT := rdT T ea (kf T X) W C e
abbrev RA (T : Tab) (ea : Nat → Addr) (X : Cx) (W : WX) (C : PL.C) (e : E) : TA := rdA T ea (kf T X) W C e
theorem s_int {i : Int} {j pos} : PE X (.Constant (.int i) j pos) (RD T ea X W C (.int i)) := pe_imp pe_int fun σ H Q ⟨ρ, c, r, S, h⟩ => h _ _ (fin_at (MS.start S) 9 rfl fun _ => .int _)
theorem s_bl {i : Bool} {j pos} : PE X (.Constant (.bool i) j pos) (RD T ea X W C (.bl i)) := pe_imp pe_bl fun σ H Q ⟨ρ, c, r, S, h⟩ => h _ _ (fin_at (MS.start S) 9 rfl fun _ => .bl _)
theorem s_str {i : Str} {j pos} : PE X (.Constant (.str i) j pos) (RD T ea X W C (.str i)) := pe_imp pe_str fun σ H Q ⟨ρ, c, r, S, h⟩ => h _ _ (fin_at (MS.start S) 9 rfl fun _ => .str _)
theorem s_non {j pos} : PE X (.Constant .none j pos) (RD T ea X W C .non) := pe_imp pe_non fun σ H Q ⟨ρ, c, r, S, h⟩ => h _ _ (fin_at (MS.start S) 9 rfl fun _ => .non)
/-- a name: shared from now on -/
theorem var_ms {K : KF} {r c : Cnt} {σ : L2.St} {H : Hp} {ρ : Env} {i n : Nat} {d : D} (S : StR K r σ H ρ c) (g : getE ρ i = some (n, d)) : ∃ v, σ[i]? = some (some v) ∧
    (atm d = true → Po K r σ H c (9, d) ρ v H) ∧ (atm d = false → Po K r σ H c (0, d) (setE ρ i (some (0, d))) v H) := by
  obtain ⟨v, c1, c2, h1, h2, h3, rfl⟩ := Envs.take S.env g
  refine ⟨v, h1, fun a => ?_, fun a => ?_⟩
  · obtain ⟨_, hd⟩ := h2.zero (.inr a)
    exact fin_at (MS.start S) 9 a (hd.atom a)
  · obtain ⟨c', l, q⟩ := h2.weak 0 (Nat.zero_le _)
    have l2 : Lk H (add (add c1 c2) r) H (add (add zro c2) (add r zro)) := Lk.less fun a => by unfold add zro; omega
    have hv : Dd K (hid H (add (add zro c2) (add r zro))) v d := by
      have := q (hid H (add (add zro c2) (add r zro))) l2 fun a o hc ho => by
        refine hid_some.mpr ⟨?_, ho⟩
        have := S.lin a
        have h0 := (Rp.zero (q H hid_sub fun _ _ _ e => e) (.inl rfl)).1
        rw [h0] at hc
        unfold add zro at *
        omega
      exact (this.zero (.inl rfl)).2
    refine ⟨add zro c2, zro, ⟨S.fxs, ?_, fun a => by have := S.lin a; unfold add zro at *; omega, fun a ha => S.ex a (by unfold add zro at *; omega)⟩, ?_, l2, fun _ _ => rfl⟩
    · have z := Envs.put (Envs.mono l2 h3 fun _ _ => rfl) (getE_none ρ i) h1 (Rp.sh (H := H) hv)
      rw [setE_setE] at z
      exact z
    · have z := Rpl.cons (H := H) (Rp.sh hv) .nil
      rw [add_zro] at z
      exact z
theorem s_var {i : Nat} {x : Str} (hN : X.N[i]? = some x) (hv : Vis X.env.scope x) (hd : (x == ("__debug__" : Str)) = false) (hcd : (x == ("__classdict__" : Str)) = false) : PE X (.Name x pos) (RD T ea X W C (.var i)) :=
  pe_imp (pe_var hN hv hd hcd) fun σ H Q ⟨ρ, c, r, S, h⟩ => by
    show ∃ v, _
    simp only [ev] at h
    cases g : getE ρ i with
    | none => rw [g] at h; exact h.elim
    | some p =>
      obtain ⟨n, d⟩ := p
      rw [g] at h
      obtain ⟨v, h1, h2, h3⟩ := var_ms S g
      refine ⟨v, h1, ?_⟩
      cases a : atm d with
      | true => simp only [a, if_true] at h; exact h _ _ (h2 a)
      | false => simp only [a, Bool.false_eq_true, if_false] at h; exact h _ _ (h3 a)
theorem s_mov {i : Nat} {x : Str} (hN : X.N[i]? = some x) (hv : Vis X.env.scope x) (hd : (x == ("__debug__" : Str)) = false) (hcd : (x == ("__classdict__" : Str)) = false) : PE X (.Name x pos) (RD T ea X W C (.mov i)) :=
  pe_imp (pe_var hN hv hd hcd) fun σ H Q ⟨ρ, c, r, S, h⟩ => by
    show ∃ v, _
    simp only [ev] at h
    cases g : getE ρ i with
    | none => rw [g] at h; exact h.elim
    | some p =>
      obtain ⟨n, d⟩ := p
      rw [g] at h
      obtain ⟨v, c1, c2, h1, h2, h3, rfl⟩ := Envs.take S.env g
      refine ⟨v, h1, h _ _ ?_⟩
      have l2 : Lk H (add (add c1 c2) r) H (add c2 (add r c1)) := Lk.less fun a => by unfold add; omega
      refine ⟨c2, c1, ⟨S.fxs, Envs.mono l2 h3 fun _ _ => rfl, fun a => by have := S.lin a; unfold add at *; omega, fun a ha => ?_⟩, ?_, l2, fun _ _ => rfl⟩
      · by_cases z : 0 < c1 a
        · exact h2.ex z
        · exact S.ex a (by unfold add at *; omega)
      · have z := Rpl.cons (Rp.mono l2 h2 fun _ _ => rfl) .nil
        rw [add_zro] at z
        exact z
/-- a global that holds plain shared data -/
theorem s_glob {x : Str} {d : D} {u : Value} {v : V} (hg : Gl X x) (hm : X.mg x = some u) (hr : RelV v u) (hd : ∀ G, Dd X.K G v d) (hdb : (x == ("__debug__" : Str)) = false) : PE X (.Name x pos) (RD T ea X W C (.glob x d)) :=
  pe_imp (pe_glob hg hm hr hdb) fun σ H Q ⟨ρ, c, r, S, h⟩ => by
    show Q v H
    simp only [ev] at h
    refine h _ _ ?_
    unfold sv
    cases a : atm d with
    | true => exact fin_at (MS.start S) 9 a hd
    | false => exact fin_part (MS.start S) fun F cv s R => .none fun G _ => .sh (hd G)
theorem s_neg {a : E} {e : Expr} (ha : PE X e (RD T ea X W C a)) : PE X (.UnaryOp .USub e pos) (RD T ea X W C (.neg a)) :=
  pe_imp (pe_un un_neg ha) fun σ H Q ⟨ρ, c, r, S, h⟩ => by
    refine useE (MS.start S) (by simpa only [ev] using h) fun v ρ1 u H1 e1 m1 h1 => ?_
    split at h1
    · obtain ⟨_, e2, g⟩ := (MS.view m1).one'
      cases e2
      obtain rfl := g.int'
      exact ⟨_, rfl, h1 _ _ (fin_at m1 9 rfl fun _ => .int _)⟩
    · exact h1.elim
theorem s_bin {op : Op} {a b : E} {x y : Expr} (ha : PE X x (RD T ea X W C a)) (hb : PE X y (RD T ea X W C b)) : PE X (.BinOp x (opOf op) y pos) (RD T ea X W C (.bin op a b)) :=
  pe_imp (pe_op (rop_ok op) ha hb) fun σ H Q ⟨ρ, c, r, S, h⟩ =>
    useE (MS.start S) (by simpa only [ev] using h) fun v ρ1 u H1 e1 m1 h1 => useE m1 h1 fun w ρ2 u2 H2 e2 m2 h2 => by
      obtain ⟨z, e3, h3⟩ := aft_ofO h2
      exact op_snd m2 e3 h3
theorem s_cmp_rd {op : Cp} {a b : E} {σ : L2.St} {H : Hp} {Q : VK} (h : RD T ea X W C (.cmp op a b) σ H Q) : tOp (rcp X.K op) (RD T ea X W C a) (RD T ea X W C b) σ H Q := by
  obtain ⟨ρ, c, r, S, h⟩ := h
  exact useE (MS.start S) (by simpa only [ev] using h) fun v ρ1 u H1 e1 m1 h1 => useE m1 h1 fun w ρ2 u2 H2 e2 m2 h2 => by
      obtain ⟨z, e3, h3⟩ := aft_ofO h2
      obtain ⟨k, e4, rfl⟩ := Option.map_eq_some_iff.mp e3
      obtain ⟨_, _, e5, g1, g2⟩ := (MS.view m2).two'
      cases e5
      exact cmp_snd g1 g2 e4 (h3 _ _ (fin_at m2 9 rfl fun _ => .bl _))
theorem s_cmp (hu : X.A.units + 65 < cLine) {op : Cp} {a b : E} {x y : Expr} (ha : PE X x (RD T ea X W C a)) (hb : PE X y (RD T ea X W C b)) (hm : behindInMarks (cpOf op) y = false) : PE X (.Compare x [cpOf op] [y] pos) (RD T ea X W C (.cmp op a b)) :=
  pe_imp (pe_cmpR (rcp_ok hu op) ha hb hm) fun σ H Q h => s_cmp_rd h
/-- a test out of a value -/
theorem rdT_of {e : E} {σ : L2.St} {H : Hp} {Q : Bool → Hp → Prop} (h : RT T ea X W C e σ H Q) : tB (RD T ea X W C e) σ H Q := by
  obtain ⟨ρ, c, r, S, h⟩ := h
  refine ⟨ρ, c, r, S, ?_⟩
  cases e1 : ev C e ρ with
  | bad => simp only [e1] at h; exact h.elim
  | exc k ds ρ' => simp only [e1] at h; exact h
  | ok v ρ' =>
    simp only [e1, R.bind_ok] at h
    intro u H' p
    obtain ⟨n, d⟩ := v
    cases d <;> simp only [tru] at h <;> try exact h.elim
    rename_i b
    obtain ⟨_, e2, g⟩ := (MS.view p).one'
    cases e2
    obtain rfl := g.bl'
    obtain ⟨c', S', L', k'⟩ := MS.forget p
    exact ⟨b, rfl, h _ _ S' L' k'⟩
theorem t_cmp (hu : X.A.units + 65 < cLine) {op : Cp} {a b : E} {x y : Expr} (ha : PE X x (RD T ea X W C a)) (hb : PE X y (RD T ea X W C b)) (hm : behindInMarks (cpOf op) y = false) : PT X (.Compare x [cpOf op] [y] pos) (RT T ea X W C (.cmp op a b)) :=
  pt_imp (pt_cmpR (rcp_ok hu op) ha hb hm) fun σ H Q h => s_cmp_rd (rdT_of h)
theorem s_chain_rd {o1 o2 : Cp} {a b d : E} {σ : L2.St} {H : Hp} {Q : VK} (h : RD T ea X W C (.chain o1 o2 a b d) σ H Q) : tChain (rcp X.K o1) (rcp X.K o2) (RD T ea X W C a) (RD T ea X W C b) (RD T ea X W C d) σ H Q := by
  obtain ⟨ρ, c, r, S, h⟩ := h
  exact useE (MS.start S) (by simpa only [ev] using h) fun v ρ1 u H1 e1 m1 h1 => useE m1 h1 fun w ρ2 u2 H2 e2 m2 h2 => by
      obtain ⟨_, _, e5, g1, g2⟩ := (MS.view m2).two'
      cases e5
      cases e3 : cmpD o1 v.2 w.2 with
      | none => rw [e3] at h2; exact h2.elim
      | some k =>
        rw [e3] at h2
        refine cmp_snd g1 g2 e3 ⟨k, rfl, ?_⟩
        cases k with
        | false => exact h2 _ _ (fin_at m2 9 rfl fun _ => .bl _)
        | true =>
          refine useE m2 h2 fun z ρ3 u3 H3 e4 m3 h3 => ?_
          obtain ⟨y, e6, h6⟩ := aft_ofO h3
          obtain ⟨k, e7, rfl⟩ := Option.map_eq_some_iff.mp e6
          have mv := MS.view m3
          cases mv with
          | cons g1 mv => cases mv with
            | cons g2 mv => cases mv with
              | cons g3 mv => exact cmp_snd g2 g3 e7 (h6 _ _ (fin_at m3 9 rfl fun _ => .bl _))
theorem s_chain (hu : X.A.units + 65 < cLine) {o1 o2 : Cp} {a b d : E} {x y z : Expr} (ha : PE X x (RD T ea X W C a)) (hb : PE X y (RD T ea X W C b)) (hd : PE X z (RD T ea X W C d)) (hm : lastMarks [cpOf o1, cpOf o2] [y, z] = false) :
    PE X (.Compare x [cpOf o1, cpOf o2] [y, z] pos) (RD T ea X W C (.chain o1 o2 a b d)) := pe_imp (pe_chain (rcp_ok hu o1) (rcp_ok hu o2) ha hb hd hm) fun σ H Q h => s_chain_rd h
theorem t_chain (hu : X.A.units + 65 < cLine) {o1 o2 : Cp} {a b d : E} {x y z : Expr} (ha : PE X x (RD T ea X W C a)) (hb : PE X y (RD T ea X W C b)) (hd : PE X z (RD T ea X W C d)) (hm : lastMarks [cpOf o1, cpOf o2] [y, z] = false) :
    PT X (.Compare x [cpOf o1, cpOf o2] [y, z] pos) (RT T ea X W C (.chain o1 o2 a b d)) := pt_imp (pt_chain (rcp_ok hu o1) (rcp_ok hu o2) ha hb hd hm) fun σ H Q h => s_chain_rd (rdT_of h)
/-- the boolean value at hand let go, the rest of the computation -/
theorem go_bl {K : KF} {r c : Cnt} {σ : L2.St} {H H1 : Hp} {ρ1 : Env} {b : E} {u : V} {v : Nat × D} {Q : VK} (m : MS K r σ H c H1 ρ1 [u] [v]) (h : aft T ea K W r σ H c Q (ev C b ρ1)) : rd T ea K W C b σ H1 Q := by
  obtain ⟨c', S', L', k'⟩ := MS.forget m
  have m0 : MS K r σ H c H1 ρ1 [] [] := ⟨c', zro, by rw [add_zro]; exact S', .nil, by rw [add_zro]; exact L', k'⟩
  refine use m0 (fun k ds ρ' cls dx H' e p => by rw [e] at h; exact h _ _ _ p) (fun e => by rw [e] at h; exact h) fun v ρ2 u H2 e m2 => by rw [e] at h; exact h _ _ m2
theorem s_and {a b : E} {x y : Expr} {rest : List Expr} (ha : PE X x (RD T ea X W C a)) (hb : PE X (.BoolOp .And (y :: rest) pos) (RD T ea X W C b)) : PE X (.BoolOp .And (x :: y :: rest) pos) (RD T ea X W C (.and_ a b)) :=
  pe_imp (pe_and ha hb) fun σ H Q ⟨ρ, c, r, S, h⟩ => useE (MS.start S) (by simpa only [ev] using h) fun v ρ1 u H1 e1 m1 h1 => by
    obtain ⟨_, e2, g⟩ := (MS.view m1).one'
    cases e2
    split at h1
    · obtain rfl := g.bl'
      exact ⟨true, rfl, go_bl m1 h1⟩
    · obtain rfl := g.bl'
      exact ⟨false, rfl, h1 _ _ (fin_at m1 9 rfl fun _ => .bl _)⟩
    · exact h1.elim
theorem s_or {a b : E} {x y : Expr} {rest : List Expr} (ha : PE X x (RD T ea X W C a)) (hb : PE X (.BoolOp .Or (y :: rest) pos) (RD T ea X W C b)) : PE X (.BoolOp .Or (x :: y :: rest) pos) (RD T ea X W C (.or_ a b)) :=
  pe_imp (pe_or ha hb) fun σ H Q ⟨ρ, c, r, S, h⟩ => useE (MS.start S) (by simpa only [ev] using h) fun v ρ1 u H1 e1 m1 h1 => by
    obtain ⟨_, e2, g⟩ := (MS.view m1).one'
    cases e2
    split at h1
    · obtain rfl := g.bl'
      exact ⟨true, rfl, h1 _ _ (fin_at m1 9 rfl fun _ => .bl _)⟩
    · obtain rfl := g.bl'
      exact ⟨false, rfl, go_bl m1 h1⟩
    · exact h1.elim
theorem s_not {a : E} {x : Expr} (ha : PE X x (RD T ea X W C a)) : PE X (.UnaryOp .Not x pos) (RD T ea X W C (.not_ a)) :=
  pe_imp (pe_not ha) fun σ H Q ⟨ρ, c, r, S, h⟩ => useE (MS.start S) (by simpa only [ev] using h) fun v ρ1 u H1 e1 m1 h1 => by
    obtain ⟨_, e2, g⟩ := (MS.view m1).one'
    cases e2
    split at h1
    · obtain rfl := g.bl'
      exact ⟨_, rfl, h1 _ _ (fin_at m1 9 rfl fun _ => .bl _)⟩
    · exact h1.elim
/-- tests -/
theorem aftB_bind {α : Type} {K : KF} {r c : Cnt} {σ : L2.St} {H : Hp} {Q : Bool → Hp → Prop} {x : R α} {k : α → Env → R Bool} (h : aftB T ea K W r σ H c Q (x.bind k)) :
    (∃ a ρ', x = .ok a ρ' ∧ aftB T ea K W r σ H c Q (k a ρ')) ∨ ∃ kk ds ρ', x = .exc kk ds ρ' ∧ ∀ cls dx H', Px T ea K r σ H c kk ds ρ' cls dx H' → W cls dx σ H' := by
  cases x with
  | ok a ρ' => exact .inl ⟨a, ρ', rfl, h⟩
  | exc kk ds ρ' => exact .inr ⟨kk, ds, ρ', rfl, h⟩
  | bad => exact h.elim
theorem Px.from {K : KF} {r c c1 : Cnt} {σ : L2.St} {H H1 : Hp} {k : Nat} {ds : List D} {ρ' : Env} {cls : Value} {dx : Option Addr} {H' : Hp} (L : Lk H (add c r) H1 (add c1 r)) (kp : Kp r H H1) (p : Px T ea K r σ H1 c1 k ds ρ' cls dx H') :
    Px T ea K r σ H c k ds ρ' cls dx H' := by
  obtain ⟨c2, S2, R2, L2, k2⟩ := p
  exact ⟨c2, S2, R2, L.trans L2, fun a ha => (k2 a ha).trans (kp a ha)⟩
/-- a test asked, then what comes -/
theorem useB {K : KF} {r c : Cnt} {σ : L2.St} {H H1 : Hp} {ρ1 : Env} {c1 : Cnt} {f : Env → R Bool} {Q Q' : Bool → Hp → Prop} {k : Bool → Env → R Bool} (S : StR K r σ H1 ρ1 c1) (L : Lk H (add c r) H1 (add c1 r)) (kp : Kp r H H1)
    (h : aftB T ea K W r σ H c Q ((f ρ1).bind k)) (hk : ∀ b ρ2 H2 c2, f ρ1 = .ok b ρ2 → StR K r σ H2 ρ2 c2 → Lk H (add c r) H2 (add c2 r) → Kp r H H2 → aftB T ea K W r σ H c Q (k b ρ2) → Q' b H2) : rdB T ea K W f σ H1 Q' := by
  refine ⟨ρ1, c1, r, S, ?_⟩
  rcases aftB_bind h with ⟨a, ρ', e1, h1⟩ | ⟨kk, ds, ρ', e1, h1⟩
  · rw [e1]
    exact fun H' c' S' L' k' => hk a ρ' H' c' e1 S' (L.trans L') (fun x hx => (k' x hx).trans (kp x hx)) h1
  · rw [e1]
    exact fun cls dx H' p => h1 _ _ _ (p.from L kp)
theorem aftB_imp {K : KF} {r c : Cnt} {σ : L2.St} {H : Hp} {Q Q' : Bool → Hp → Prop} {x : R Bool} (h : aftB T ea K W r σ H c Q x) (hq : ∀ b H', Q b H' → Q' b H') : aftB T ea K W r σ H c Q' x := by
  cases x with
  | ok a ρ' => exact fun H' c' S L k => hq _ _ (h H' c' S L k)
  | exc kk ds ρ' => exact h
  | bad => exact h
theorem useB0 {K : KF} {r c : Cnt} {σ : L2.St} {H H1 : Hp} {ρ1 : Env} {c1 : Cnt} {f : Env → R Bool} {Q : Bool → Hp → Prop} (S : StR K r σ H1 ρ1 c1) (L : Lk H (add c r) H1 (add c1 r)) (kp : Kp r H H1)
    (h : aftB T ea K W r σ H c Q (f ρ1)) : rdB T ea K W f σ H1 Q := by
  refine useB (k := fun b ρ => .ok b ρ) S L kp ?_ fun b ρ2 H2 c2 e S2 L2 k2 h2 => h2 _ _ S2 L2 k2
  cases e : f ρ1 <;> rw [e] at h <;> exact h
/-- what a boolean operator's evaluation comes to as a test -/
theorem tru_bind (x : R (Nat × D)) (k : Bool → Env → R (Nat × D)) (j : (Nat × D) → Env → R (Nat × D)) (hj : ∀ n b ρ, j (n, .bool b) ρ = k b ρ) (hj2 : ∀ v ρ, (∀ b, v.2 ≠ .bool b) → j v ρ = .bad) : (x.bind j) = (x.bind tru).bind k := by
  cases x with
  | bad => rfl
  | exc _ _ _ => rfl
  | ok v ρ =>
    obtain ⟨n, d⟩ := v
    cases d with
    | bool b => simp only [R.bind_ok, tru]; exact hj n b ρ
    | none => simp only [R.bind_ok, tru, R.bind_bad]; exact hj2 _ _ fun b e => by cases e
    | int _ => simp only [R.bind_ok, tru, R.bind_bad]; exact hj2 _ _ fun b e => by cases e
    | str _ => simp only [R.bind_ok, tru, R.bind_bad]; exact hj2 _ _ fun b e => by cases e
    | list _ => simp only [R.bind_ok, tru, R.bind_bad]; exact hj2 _ _ fun b e => by cases e
    | tuple _ => simp only [R.bind_ok, tru, R.bind_bad]; exact hj2 _ _ fun b e => by cases e
    | dict _ => simp only [R.bind_ok, tru, R.bind_bad]; exact hj2 _ _ fun b e => by cases e
theorem R.bind_assoc {α β γ : Type} (x : R α) (k : α → Env → R β) (j : β → Env → R γ) : (x.bind k).bind j = x.bind fun a ρ => (k a ρ).bind j := by cases x <;> rfl
theorem ev_and (a b : E) (ρ : Env) : (ev C (.and_ a b) ρ).bind tru = ((ev C a ρ).bind tru).bind fun k ρ1 => if k then (ev C b ρ1).bind tru else .ok false ρ1 := by
  simp only [ev]
  rw [tru_bind _ (fun k ρ1 => if k then ev C b ρ1 else .ok (9, .bool false) ρ1), R.bind_assoc]
  · congr 1; funext k ρ1; cases k <;> rfl
  · intro n k ρ; cases k <;> rfl
  · intro v ρ h; split
    · exact absurd rfl (h true)
    · exact absurd rfl (h false)
    · rfl
theorem ev_or (a b : E) (ρ : Env) : (ev C (.or_ a b) ρ).bind tru = ((ev C a ρ).bind tru).bind fun k ρ1 => if k then .ok true ρ1 else (ev C b ρ1).bind tru := by
  simp only [ev]
  rw [tru_bind _ (fun k ρ1 => if k then .ok (9, .bool true) ρ1 else ev C b ρ1), R.bind_assoc]
  · congr 1; funext k ρ1; cases k <;> rfl
  · intro n k ρ; cases k <;> rfl
  · intro v ρ h; split
    · exact absurd rfl (h true)
    · exact absurd rfl (h false)
    · rfl
theorem ev_ite (t a b : E) (ρ : Env) : ev C (.ite t a b) ρ = ((ev C t ρ).bind tru).bind fun k ρ1 => if k then ev C a ρ1 else ev C b ρ1 := by
  simp only [ev]
  rw [tru_bind _ (fun k ρ1 => if k then ev C a ρ1 else ev C b ρ1)]
  · intro n k ρ; cases k <;> rfl
  · intro v ρ h; split
    · exact absurd rfl (h true)
    · exact absurd rfl (h false)
    · rfl
theorem ev_not (a : E) (ρ : Env) : (ev C (.not_ a) ρ).bind tru = ((ev C a ρ).bind tru).bind fun k ρ1 => .ok (!k) ρ1 := by
  simp only [ev]
  rw [tru_bind _ (fun k ρ1 => .ok (9, .bool !k) ρ1), R.bind_assoc]
  · congr 1
  · intro n k ρ; rfl
  · intro v ρ h; split
    · exact absurd rfl (h _)
    · rfl
theorem t_and {a b : E} {x y : Expr} {rest : List Expr} (ha : PT X x (RT T ea X W C a)) (hb : PW X (.BoolOp .And (y :: rest) pos) (RT T ea X W C b)) : PW X (.BoolOp .And (x :: y :: rest) pos) (RT T ea X W C (.and_ a b)) :=
  pw_imp (pw_and ha hb) fun σ H Q ⟨ρ, c, r, S, h⟩ => by
    simp only [ev_and] at h
    exact useB (f := fun ρ => (ev C a ρ).bind tru) S (.refl _ _) (fun _ _ => rfl) h fun b' ρ2 H2 c2 e S2 L2 k2 h2 => by
      cases b' with
      | true => exact useB0 (f := fun ρ => (ev C b ρ).bind tru) S2 L2 k2 h2
      | false => exact h2 _ _ S2 L2 k2
theorem t_or {a b : E} {x y : Expr} {rest : List Expr} (ha : PT X x (RT T ea X W C a)) (hb : PW X (.BoolOp .Or (y :: rest) pos) (RT T ea X W C b)) : PW X (.BoolOp .Or (x :: y :: rest) pos) (RT T ea X W C (.or_ a b)) :=
  pw_imp (pw_or ha hb) fun σ H Q ⟨ρ, c, r, S, h⟩ => by
    simp only [ev_or] at h
    exact useB (f := fun ρ => (ev C a ρ).bind tru) S (.refl _ _) (fun _ _ => rfl) h fun b' ρ2 H2 c2 e S2 L2 k2 h2 => by
      cases b' with
      | true => exact h2 _ _ S2 L2 k2
      | false => exact useB0 (f := fun ρ => (ev C b ρ).bind tru) S2 L2 k2 h2
theorem t_not {a : E} {x : Expr} (ha : PT X x (RT T ea X W C a)) : PT X (.UnaryOp .Not x pos) (RT T ea X W C (.not_ a)) :=
  pt_imp (pt_not ha) fun σ H Q ⟨ρ, c, r, S, h⟩ => by
    simp only [ev_not] at h
    exact useB (f := fun ρ => (ev C a ρ).bind tru) S (.refl _ _) (fun _ _ => rfl) h fun b' ρ2 H2 c2 e S2 L2 k2 h2 => h2 _ _ S2 L2 k2
theorem s_ite {t a b : E} {z x y : Expr} (ht : PT X z (RT T ea X W C t)) (ha : PE X x (RD T ea X W C a)) (hb : PE X y (RD T ea X W C b)) : PE X (.IfExp z x y pos) (RD T ea X W C (.ite t a b)) :=
  pe_imp (pe_ifExp ht ha hb) fun σ H Q ⟨ρ, c, r, S, h⟩ => by
    simp only [ev_ite] at h
    show RT T ea X W C t σ H _
    refine ⟨ρ, c, r, S, ?_⟩
    rcases aft_bind h with ⟨k, ρ', e1, h1⟩ | ⟨kk, ds, ρ', e1, h1⟩
    · simp only [e1]
      intro H' c' S' L' k'
      have m0 : MS (kf T X) r σ H c H' ρ' [V.bl k] [(9, .bool k)] := ⟨c', zro, by rw [add_zro]; exact S', by
        have z := Rpl.cons (K := kf T X) (F := hid H' (add c' (add r zro))) (H := H') (n := 9) (Rp.at_ (d := .bool k) rfl fun _ => .bl k) .nil
        rw [add_zro] at z
        exact z, by rw [add_zro]; exact L', k'⟩
      cases k with
      | true => exact go_bl m0 h1
      | false => exact go_bl m0 h1
    · simp only [e1]
      exact h1
theorem pt_ifExp {z x y : Expr} {tc ta tb : TT} (hc : PT X z tc) (ha : PT X x ta) (hb : PT X y tb) : PT X (.IfExp z x y pos) (fun σ H Q => tc σ H fun k H1 => if k = true then ta σ H1 Q else tb σ H1 Q) := by
  refine ⟨fun pins s σ H Q I h => ?_⟩
  rw [show ∀ w, PySem.isTrue (.IfExp z x y pos) X.env w = (do if ← PySem.isTrue z X.env (eval z X.env) then PySem.isTrue x X.env (eval x X.env) else PySem.isTrue y X.env (eval y X.env)) from fun w => by rw [PySem.isTrue]]
  refine wpAny_bind (thn (hc.run pins s σ H _ I h) fun k s1 ⟨H1, I1, q1⟩ => ?_)
  cases k with
  | true => exact ha.run pins s1 σ H1 Q I1 q1
  | false => exact hb.run pins s1 σ H1 Q I1 q1
theorem t_ite {t a b : E} {z x y : Expr} (ht : PT X z (RT T ea X W C t)) (ha : PT X x (RT T ea X W C a)) (hb : PT X y (RT T ea X W C b)) : PT X (.IfExp z x y pos) (RT T ea X W C (.ite t a b)) :=
  pt_imp (pt_ifExp ht ha hb) fun σ H Q ⟨ρ, c, r, S, h⟩ => by
    simp only [ev_ite, R.bind_assoc] at h
    have e2 : ((ev C t ρ).bind fun a_1 ρ_1 => (tru a_1 ρ_1).bind fun a_2 ρ_2 => (if a_2 = true then ev C a ρ_2 else ev C b ρ_2).bind tru) = ((ev C t ρ).bind tru).bind fun k ρ1 => if k then (ev C a ρ1).bind tru else (ev C b ρ1).bind tru := by
      rw [R.bind_assoc]
      congr 1; funext v ρ1; congr 1; funext k ρ2; cases k <;> rfl
    rw [e2] at h
    exact useB (f := fun ρ => (ev C t ρ).bind tru) S (.refl _ _) (fun _ _ => rfl) h fun b' ρ2 H2 c2 e S2 L2 k2 h2 => by
      cases b' with
      | true => exact useB0 (f := fun ρ => (ev C a ρ).bind tru) S2 L2 k2 h2
      | false => exact useB0 (f := fun ρ => (ev C b ρ).bind tru) S2 L2 k2 h2
end
end PL

/-! PL10: subscripts, slices, displays, built-in functions and methods. -/
namespace PL
open PySem L2
open PySem (PyData Str)
/-! ### dicts by places -/
def kix {κ : Type} [DecidableEq κ] : List κ → κ → Option Nat
  | [], _ => none
  | q :: ks, k => if q = k then some 0 else (kix ks k).map (· + 1)
section
variable {κ : Type} [DecidableEq κ]
theorem valV_kix : ∀ {ks : List κ} {xs : List V} (k : κ), ks.length = xs.length → valV (ks.zip xs) k = (kix ks k).bind fun i => xs[i]?
  | [], xs, k, _ => by simp [kix, valV]
  | q :: ks, [], k, e => by simp at e
  | q :: ks, x :: xs, k, e => by
    rw [List.zip_cons_cons]
    by_cases z : q = k
    · rw [valV_pos (p := (q, x)) z]; simp [kix, z]
    · rw [valV_neg (p := (q, x)) z, valV_kix k (by simpa using e)]
      simp only [kix, if_neg z]
      cases kix ks k <;> simp
theorem lookK_kix (f : κ → D) (hf : ∀ a b, PyData.eqv (f a) (f b) = decide (a = b)) (k : κ) : ∀ {ks : List κ} {ds : List D}, lookK ((ks.map f).zip ds) (f k) = (kix ks k).bind fun i => ds[i]?
  | [], ds => by simp [kix, lookK]
  | q :: ks, [] => by
    simp only [List.zip_nil_right, lookK]
    cases kix (q :: ks) k <;> simp
  | q :: ks, d :: ds => by
    rw [List.map_cons, List.zip_cons_cons]
    show (if keq (f q) (f k) then some d else lookK ((ks.map f).zip ds) (f k)) = _
    unfold keq
    rw [hf]
    by_cases z : q = k
    · simp [z, kix]
    · rw [lookK_kix f hf k]
      simp only [kix, if_neg z, decide_eq_false z, Bool.false_eq_true, if_false]
      cases kix ks k <;> simp
end
/-- a value known in the heap H as the item at e -/
def Stp (K : Frag) (H : Hp) (v w y : V) : Prop := ∀ Q : VK, Q y H → rix K v w H Q
section
variable {K : Frag} {F H : Hp}
theorem atL_ix {α : Type} {xs : List α} {i : Int} {d : α} (h : atL xs i = some d) : ∃ j, ixn xs.length i = some j ∧ xs[j]? = some d := by
  unfold atL at h
  split at h
  · exact ⟨_, by assumption, h⟩
  · cases h
theorem stpL {a : Addr} {xs : List V} {i : Int} {j : Nat} {y : V} (s : SqL K H a xs) (h : ixn xs.length i = some j) (e : xs[j]? = some y) : Stp K H (.ref a) (.int i) y := fun Q q =>
  .inl (.inl ⟨a, xs, i, y, rfl, rfl, s, by unfold atI; rw [← ixn_eq, h]; exact e, q⟩)
theorem stpT {a : Addr} {xs : List V} {i : Int} {j : Nat} {y : V} (s : SqT K H a xs) (h : ixn xs.length i = some j) (e : xs[j]? = some y) : Stp K H (.ref a) (.int i) y := fun Q q =>
  .inl (.inr (.inl ⟨a, xs, i, y, rfl, rfl, s, by unfold atI; rw [← ixn_eq, h]; exact e, q⟩))
/-- the part of a dict's tree at a key: its place, and how the heap shows it -/
theorem key_at {kd : D} {kvs : List (D × D)} {ds : List D} :
    (∀ (ks : List L2.Key), kvs = (ks.map kD).zip ds → ks.length = ds.length → kindOk kvs kd = true → ∃ q, kd = kD q ∧ (∀ w, Dd K H w kd → w = kV q) ∧ lookK kvs kd = (kix ks q).bind fun i => ds[i]?) ∧
    (∀ (ks : List (List L2.Key)), kvs = mrk :: (ks.map tD).zip ds → kindOk kvs kd = true → ∃ q, kd = tD q ∧ (∀ w, Dd K H w kd → ∃ b, w = .ref b ∧ H b = some (.tup (q.map kV))) ∧ lookK kvs kd = (kix ks q).bind fun i => ds[i]?) := by
  refine ⟨fun ks e hl ok => ?_, fun ks e ok => ?_⟩
  · have ka : keyA kd = true := by
      subst e
      cases ks with
      | nil => simpa [kindOk] using ok
      | cons q ks => cases ds with
        | nil => simpa [kindOk] using ok
        | cons d ds => cases q <;> simpa [kindOk, kD] using ok
    obtain ⟨q, rfl⟩ := kD_of ka
    exact ⟨q, rfl, fun w hk => hk.kV', by rw [e, lookK_kix kD kD_eqv]⟩
  · subst e
    simp only [kindOk, mrk, Bool.and_eq_true, Bool.not_eq_true'] at ok
    obtain ⟨q, rfl, nq⟩ := tD_of ok.1 ok.2
    exact ⟨q, rfl, fun w hk => hk.tV' nq, by rw [look_mrk _ ok.1, lookK_kix tD tD_eqv]⟩
theorem Rps.item {n : Nat} {vs : List V} {ds : List D} {cc : Cnt} {j : Nat} {x : D} (h : Rps K F H n vs ds cc) (e : ds[j]? = some x) : ∃ y, vs[j]? = some y ∧ Part F H cc fun G c' => Rp K G H n y x c' := by
  obtain ⟨y, c1, c2, h1, h2, rfl, _⟩ := Rps.at h e
  exact ⟨y, h1, Part.left (Part.rp h2)⟩
theorem Rp.dep {n m : Nat} {v : V} {d : D} {c : Cnt} (h : Rp K F H n v d c) (k : n = m ∨ atm d = true) : Rp K F H m v d c := by
  rcases k with rfl | a
  · exact h
  · obtain ⟨rfl, hd⟩ := h.zero (.inr a)
    exact .at_ a (hd.atom a)
theorem idx_part {n : Nat} {v : V} {d e x : D} {c : Cnt} (h : Rp K F H n v d c) (sub : Same F H) (ex : idxD d e = some x) :
    ∃ y, (∀ w, Dd K H w e → Stp K H v w y) ∧ Part F H c fun G c' => Rp K G H (if atm x then 9 else n - 1) y x c' := by
  have fix : ∀ {m : Nat} {y : V} {cc : Cnt}, (m = n - 1) → Part F H cc (fun G c' => Rp K G H m y x c') → Part F H cc fun G c' => Rp K G H (if atm x then 9 else n - 1) y x c' := fun {m y cc} hm p =>
    p.imp fun G c' q => q.dep (by
      cases a : atm x with
      | true => exact .inr rfl
      | false => left; rw [if_neg (by simp)]; exact hm)
  have shr : ∀ {y : V}, Dd K F y x → n = 0 → Part F H c fun G c' => Rp K G H (if atm x then 9 else n - 1) y x c' := fun {y} hd h0 =>
    fix (m := 0) (by omega) (.none fun G s => .sh (Dd.mono s hd))
  cases d with
  | list ds =>
    cases e <;> simp only [idxD, reduceCtorEq] at ex
    obtain ⟨j, h1, h2⟩ := atL_ix ex
    cases h with
    | at_ a _ => cases a
    | sh h =>
      obtain ⟨a, xs, rfl, s, _, l⟩ := h.lst'
      obtain ⟨y, h3, h4⟩ := Dd.get l h2
      exact ⟨y, fun w hk => hk.int' ▸ stpL (SqL.mono sub s) (by rw [l.len]; exact h1) h3, shr h4 rfl⟩
    | lst e r =>
      obtain ⟨y, h3, p⟩ := r.item h2
      exact ⟨y, fun w hk => hk.int' ▸ stpL (.inl (.inl e)) (by rw [r.len]; exact h1) h3, fix rfl (Part.right p)⟩
  | tuple ds =>
    cases e <;> simp only [idxD, reduceCtorEq] at ex
    obtain ⟨j, h1, h2⟩ := atL_ix ex
    cases h with
    | at_ a _ => cases a
    | sh h =>
      obtain ⟨a, xs, rfl, s, _, l⟩ := h.tup'
      obtain ⟨y, h3, h4⟩ := Dd.get l h2
      exact ⟨y, fun w hk => hk.int' ▸ stpT (SqT.mono sub s) (by rw [l.len]; exact h1) h3, shr h4 rfl⟩
    | tup e r =>
      obtain ⟨y, h3, p⟩ := r.item h2
      exact ⟨y, fun w hk => hk.int' ▸ stpT (.inl (.inl e)) (by rw [r.len]; exact h1) h3, fix rfl (Part.right p)⟩
  | str z =>
    cases e <;> simp only [idxD, reduceCtorEq, Option.ite_none_right_eq_some, Option.map_eq_some_iff] at ex
    obtain ⟨hz, q, h1, rfl⟩ := ex
    obtain ⟨rfl, hd⟩ := h.zero (.inr rfl)
    obtain rfl := hd.str'
    rw [atL_eq] at h1
    exact ⟨.str ⟨#[q]⟩, fun w hk Q q => hk.int' ▸ .inl (.inr (.inr ⟨z, _, _, rfl, rfl, by rw [sizeLine_eq]; exact hz, h1, q⟩)), .none fun G _ => .at_ rfl fun _ => .str _⟩
  | dict kvs =>
    simp only [idxD, Option.ite_none_right_eq_some] at ex
    obtain ⟨ok, ex⟩ := ex
    cases h with
    | at_ a _ => cases a
    | sh h =>
      cases h with
      | @dk a ks vs ds e1 hl ha =>
        obtain ⟨q, rfl, hw, e2⟩ := (key_at (K := K) (H := H) (ds := ds)).1 ks rfl (hl.trans ha.len) ok
        rw [e2] at ex
        obtain ⟨j, h1, h2⟩ := Option.bind_eq_some_iff.mp ex
        obtain ⟨y, h3, h4⟩ := Dd.get ha h2
        exact ⟨y, fun w hk Q z => hw w hk ▸ .inr ⟨a, y, rfl, .inl ⟨_, q, Rd.mono sub e1, rfl, by rw [valV_kix q hl, h1]; exact h3.symm⟩, z⟩, shr h4 rfl⟩
      | @dt a ks vs ds e1 hl ha =>
        obtain ⟨q, rfl, hw, e2⟩ := (key_at (K := K) (H := H) (ds := ds)).2 ks rfl ok
        rw [e2] at ex
        obtain ⟨j, h1, h2⟩ := Option.bind_eq_some_iff.mp ex
        obtain ⟨y, h3, h4⟩ := Dd.get ha h2
        exact ⟨y, fun w hk Q z => let ⟨b, ew, hb⟩ := hw w hk; ew ▸ .inr ⟨a, y, rfl, .inr ⟨_, q, b, .inl (sub _ _ e1), rfl, hb, by rw [valV_kix q hl, h1]; exact h3.symm⟩, z⟩, shr h4 rfl⟩
    | @dk _ a ks vs ds c e1 hl nd ha =>
      obtain ⟨q, rfl, hw, e2⟩ := (key_at (K := K) (H := H) (ds := ds)).1 ks rfl (hl.trans ha.len) ok
      rw [e2] at ex
      obtain ⟨j, h1, h2⟩ := Option.bind_eq_some_iff.mp ex
      obtain ⟨y, h3, p⟩ := ha.item h2
      exact ⟨y, fun w hk Q z => hw w hk ▸ .inr ⟨a, y, rfl, .inl ⟨_, q, .inl e1, rfl, by rw [valV_kix q hl, h1]; exact h3.symm⟩, z⟩, fix rfl (Part.right p)⟩
    | @dt _ a ks vs ds c e1 hl nd ha =>
      obtain ⟨q, rfl, hw, e2⟩ := (key_at (K := K) (H := H) (ds := ds)).2 ks rfl ok
      rw [e2] at ex
      obtain ⟨j, h1, h2⟩ := Option.bind_eq_some_iff.mp ex
      obtain ⟨y, h3, p⟩ := ha.item h2
      exact ⟨y, fun w hk Q z => let ⟨b, ew, hb⟩ := hw w hk; ew ▸ .inr ⟨a, y, rfl, .inr ⟨_, q, b, .inl e1, rfl, hb, by rw [valV_kix q hl, h1]; exact h3.symm⟩, z⟩, fix rfl (Part.right p)⟩
  | none => cases ex
  | bool _ => cases ex
  | int _ => cases ex
end
section
variable {T : Tab} {ea : Nat → Addr} {X : Cx} {W : WX} {C : PL.C} {pos : Pos}
theorem s_idx (hu : X.A.units + 1 < cLine) {a i : E} {x y : Expr} (ha : PE X x (RD T ea X W C a)) (hi : PE X y (RD T ea X W C i)) (hs : PlainIx y) : PE X (.Subscript x y pos) (RD T ea X W C (.idx a i)) :=
  pe_imp (pe_ix (rix_ok hu) ha hi hs) fun σ H Q ⟨ρ, c, r, S, h⟩ =>
    useE (MS.start S) (by simpa only [ev] using h) fun v ρ1 u H1 e1 m1 h1 => useE m1 h1 fun w ρ2 u2 H2 e2 m2 h2 => by
      obtain ⟨z, e3, h3⟩ := aft_ofO h2
      obtain ⟨d, e4, rfl⟩ := Option.map_eq_some_iff.mp e3
      obtain ⟨n, dv⟩ := v
      obtain ⟨_, _, e5, g1, g2⟩ := (MS.view m2).two'
      cases e5
      obtain ⟨c1, cv, S2, R2, L2, k2⟩ := m2
      obtain ⟨ca, cb, r1, r2, rfl⟩ := R2.two
      obtain ⟨y, st, p⟩ := idx_part r1 hid_sub e4
      exact st _ g2 _ (h3 _ _ (fin_part0 S2 L2 k2 (Part.left p)))
theorem evs_cons {a b : E} (h : ∀ i, a ≠ .lend i) (ρ : Env) : evs C (.cons a b) ρ = (ev C a ρ).bind fun v ρ1 => (evs C b ρ1).bind fun vs ρ2 => .ok (v :: vs) ρ2 := by
  cases a <;> first | rfl | exact absurd rfl (h _)
/-- a slice's end -/
inductive OPart (T : Tab) (ea : Nat → Addr) (X : Cx) (W : WX) (C : PL.C) : E → Option Expr → TO → Prop
  | no : OPart T ea X W C .nil none tNoPart
  | so {a : E} {e : Expr} : (∀ i, a ≠ .lend i) → PE X e (RD T ea X W C a) → OPart T ea X W C (.cons a .nil) (some e) (tPart (RD T ea X W C a))
theorem OPart.po {a : E} {e : Option Expr} {t : TO} (h : OPart T ea X W C a e t) : PO X e t := by
  cases h with
  | no => exact po_none
  | so _ h => exact po_some h
theorem useO {K : KF} {r c : Cnt} {σ : L2.St} {H H1 : Hp} {ρ1 : Env} {vs : List V} {as : List (Nat × D)} {Q : VK} {lo : E} {e : Option Expr} {t : TO} {k : Option Int → Env → R (Nat × D)} {Q' : Option Int → Hp → Prop} (o : OPart T ea X W C lo e t) (m : MS (kf T X) r σ H c H1 ρ1 vs as)
    (h : aft T ea (kf T X) W r σ H c Q ((evs C lo ρ1).bind fun l ρ2 => match optI (l.head?.map (·.2)) with
      | some l' => k l' ρ2
      | none => .bad)) (hk : ∀ l ρ2 us bs H2, MS (kf T X) r σ H c H2 ρ2 (vs ++ us) (as ++ bs) → aft T ea (kf T X) W r σ H c Q (k l ρ2) → Q' l H2) : t σ H1 Q' := by
  cases o with
  | no => exact hk none ρ1 [] [] H1 (by simpa using m) h
  | so hl he =>
    rename_i a ee
    rw [evs_cons hl, R.bind_assoc] at h
    refine useE m h fun v ρ2 u H2 e1 m1 h1 => ?_
    simp only [evs, R.bind_ok] at h1
    obtain ⟨n, d⟩ := v
    cases d <;> simp only [List.head?_cons, Option.map_some, optI] at h1 <;> try exact h1.elim
    rename_i i
    have g : Dd X.K H2 u (.int i) := by
      have := MS.view m1
      rw [List.map_append] at this
      have go : ∀ {vs : List V} {ds : List D}, DdAll X.K H2 (vs ++ [u]) (ds ++ [.int i]) → vs.length = ds.length → Dd X.K H2 u (.int i) := by
        intro vs ds q hl
        induction vs generalizing ds with
        | nil => cases ds with
          | nil => obtain ⟨_, e, g⟩ := q.one'; cases e; exact g
          | cons _ _ => simp at hl
        | cons v vs ih => cases ds with
          | nil => simp at hl
          | cons _ _ => cases q with
            | cons _ q => exact ih q (by simpa using hl)
      obtain ⟨c1, cv, S, R, L, kk⟩ := m
      exact go this (by rw [List.length_map]; exact R.len)
    exact ⟨i, g.int', hk _ _ [u] [(n, .int i)] _ m1 h1⟩
theorem s_slc {a lo hi : E} {x : Expr} {xl xh : Option Expr} {tl th : TO} {p2 : Pos} (ha : PE X x (RD T ea X W C a)) (hl : OPart T ea X W C lo xl tl) (hh : OPart T ea X W C hi xh th) : PE X (.Subscript x (.Slice xl xh none p2) pos) (RD T ea X W C (.slc a lo hi)) :=
  pe_imp (pe_slice rsl_ok ha hl.po hh.po) fun σ H Q ⟨ρ, c, r, S, h⟩ =>
    useE (MS.start S) (by have h' := h; simp only [ev] at h'; exact h') fun v ρ1 u H1 e1 m1 h1 => useO (K := kf T X) hl m1 h1 fun l ρ2 us bs H2 m2 h2 => useO (K := kf T X) hh m2 h2 fun l2 ρ3 us2 bs2 H3 m3 h3 => by
      obtain ⟨z, e3, h3⟩ := aft_ofO h3
      exact slc_snd (us := us ++ us2) (as := bs ++ bs2) (by simpa using m3) e3 h3
theorem Rps.rev {K : Frag} {F H : Hp} {n : Nat} : ∀ {vs : List V} {ds : List D} {cc : Cnt}, Rps K F H n vs ds cc → Rps K F H n vs.reverse ds.reverse cc
  | _, _, _, .nil => .nil
  | _, _, _, .cons (c := c1) (c' := c2) x r => by
    rw [List.reverse_cons, List.reverse_cons, add_comm]
    have z := (Rps.rev r).append (.cons x .nil)
    rw [add_zro] at z
    exact z
theorem s_rev {a : E} {x : Expr} {k : Nat} {p1 p2 p3 : Pos} (ha : PE X x (RD T ea X W C a)) : PE X (.Subscript x (.Slice none none (some (.UnaryOp .USub (.Constant (.int 1) k p1) p2)) p3) pos) (RD T ea X W C (.rev a)) :=
  pe_imp (pe_revL ha) fun σ H Q ⟨ρ, c, r, S, h⟩ =>
    useE (MS.start S) (by simpa only [ev] using h) fun v ρ1 u H1 e1 m1 h1 => by
      obtain ⟨n, d⟩ := v
      cases d <;> simp only at h1 <;> try exact h1.elim
      obtain ⟨c1, cv, S, R, L, k⟩ := m1
      obtain ⟨a, vs, rfl, s1, p1⟩ := R.one1.items hid_sub
      refine ⟨a, vs, rfl, s1, fun p hp => h1 _ _ ?_⟩
      rw [show max n 1 = (n - 1) + 1 by omega]
      exact fin_lst0 S L k hp (p1.imp fun G c' q => q.rev)
/-! ### argument lists -/
theorem a_nil : PA X [] (RA T ea X W C .nil) := pa_imp pa_nil fun σ H Q ⟨ρ, c, r, S, h⟩ => h [] [] H (MS.start S) .nil
def notStar : Expr → Bool
  | .Starred _ _ => false
  | _ => true
theorem star_cons {e : Expr} {es : List Expr} {env : PySem.Env} (h : notStar e = true) : starEach (e :: es) env = (false, eval e env) :: starEach es env := by
  cases e <;> first | (simp only [starEach]; done) | (cases h)
theorem star_back {pos : Pos} {env : PySem.Env} : ∀ {es : List Expr}, es.all notStar = true → (backTo pos (starEach es env)).any (·.1) = false
  | [], _ => rfl
  | e :: es, h => by
    rw [List.all_cons, Bool.and_eq_true] at h
    rw [star_cons h.1]
    show (false || (backTo pos (starEach es env)).any (·.1)) = false
    rw [Bool.false_or]
    exact star_back h.2
theorem a_cons {a b : E} {e : Expr} {es : List Expr} (hl : ∀ i, a ≠ .lend i) (ha : PE X e (RD T ea X W C a)) (hb : PA X es (RA T ea X W C b)) (hs : notStar e = true) : PA X (e :: es) (RA T ea X W C (.cons a b)) :=
  pa_imp (pa_cons ha hb (star_cons hs)) fun σ H Q ⟨ρ, c, r, S, h⟩ => by
    rw [evs_cons hl] at h
    have m0 := MS.start S
    rcases q : ev C a ρ with ⟨v, ρ1⟩ | ⟨k, ds, ρ1⟩ | _
    · rw [q] at h
      simp only [R.bind_ok] at h
      refine use m0 (fun _ _ _ _ _ _ e2 => by rw [q] at e2; cases e2) (by rw [q]; intro z; cases z) fun v' ρ' u H1 e1 m1 => ?_
      rw [q] at e1; cases e1
      obtain ⟨c1, cv, S1, R1, L1, k1⟩ := m1
      refine ⟨ρ1, c1, add r cv, S1, ?_⟩
      rcases q2 : evs C b ρ1 with ⟨bs, ρ2⟩ | ⟨kk, ds, ρ2⟩ | _
      · rw [q2] at h
        simp only [R.bind_ok] at h
        intro us ws H2 m2 wv
        refine h (u :: us) (u :: ws) H2 ?_ (.cons hl wv)
        obtain ⟨c2, cw, S2, R2, L2, k2⟩ := m2
        refine ⟨c2, add cv cw, by rw [← add_assoc]; exact S2, ?_, ?_, fun a ha => (k2 a (by unfold add; omega)).trans (k1 a ha)⟩
        · have z := Rpl.mono L2 R1 fun a ha => k2 a (by unfold add; omega)
          rw [add_assoc r cv cw] at z R2
          exact Rpl.app z R2
        · rw [show add c2 (add r (add cv cw)) = add c2 (add (add r cv) cw) by rw [add_assoc]]
          exact L1.trans L2
      · rw [q2] at h
        intro cls dx H2 p
        refine h cls dx H2 ?_
        obtain ⟨c2, S2, R2, L2, k2⟩ := p
        have l : Lk H2 (add c2 (add r cv)) H2 (add c2 r) := Lk.less fun a => by unfold add; omega
        exact ⟨c2, ⟨S2.fxs, Envs.mono l S2.env fun _ _ => rfl, fun a => by have := S2.lin a; unfold add at this; omega, fun a ha => S2.ex a (by unfold add; omega)⟩, R2.mono l, (L1.trans L2).trans l, fun a ha => (k2 a (by unfold add; omega)).trans (k1 a ha)⟩
      · rw [q2] at h; exact h.elim
    · rw [q] at h
      exact use m0 (fun _ _ _ _ _ _ e2 p => by rw [q] at e2; cases e2; exact h _ _ _ p) (by rw [q]; intro z; cases z) fun v' ρ' u H1 e1 m1 => by rw [q] at e1; cases e1
    · rw [q] at h; exact h.elim
theorem a_lend {i : Nat} {x : Str} {p : Pos} {b : E} {es : List Expr} (hN : X.N[i]? = some x) (hv : Vis X.env.scope x) (hd : (x == ("__debug__" : Str)) = false) (hcd : (x == ("__classdict__" : Str)) = false) (hb : PA X es (RA T ea X W C b)) :
    PA X (.Name x p :: es) (RA T ea X W C (.cons (.lend i) b)) :=
  pa_imp (pa_cons (pe_var hN hv hd hcd) hb (star_cons rfl)) fun σ H Q ⟨ρ, c, r, S, h⟩ => by
    simp only [evs] at h
    show ∃ v, _
    cases g : getE ρ i with
    | none => rw [g] at h; exact h.elim
    | some p =>
      obtain ⟨n, d⟩ := p
      rw [g] at h
      obtain ⟨v, c1, c2, h1, _, _, _⟩ := Envs.take S.env g
      refine ⟨v, h1, ρ, c, r, S, ?_⟩
      cases q : evs C b ρ with
      | ok bs ρ2 =>
        simp only [q] at h
        intro us ws H2 m2 wv
        exact h us (v :: ws) H2 m2 (.lend h1 wv)
      | exc k ds ρ2 => simp only [q] at h; exact h
      | bad => simp only [q] at h; exact h.elim
/-- no lent ones -/
def noL : E → Bool
  | .cons (.lend _) _ => false
  | .cons _ b => noL b
  | _ => true
theorem noL_cons {a b : E} (h : noL (.cons a b) = true) : (∀ i, a ≠ .lend i) ∧ noL b = true := by
  refine ⟨fun i e => ?_, ?_⟩
  · subst e; cases h
  · cases a <;> first | exact h | cases h
theorem Wv.same {σ : L2.St} {es : E} {us ws : List V} (h : Wv σ es us ws) (n : noL es = true) : us = ws := by
  induction h with
  | nil => rfl
  | lend _ _ _ => cases n
  | cons _ _ ih => rw [ih (noL_cons n).2]
def elen : E → Nat
  | .cons _ b => elen b + 1
  | _ => 0
theorem evs_len : ∀ (es : E) {ρ : Env} {bs : List (Nat × D)} {ρ' : Env}, evs C es ρ = .ok bs ρ' → bs.length ≤ elen es
  | .nil, ρ, bs, ρ', h => by cases h; exact Nat.le_refl _
  | .cons a b, ρ, bs, ρ', h => by
    by_cases z : ∀ i, a ≠ .lend i
    · rw [evs_cons z] at h
      rcases q : ev C a ρ with ⟨v, ρ1⟩ | _ | _ <;> rw [q] at h <;> try cases h
      simp only [R.bind_ok] at h
      rcases q2 : evs C b ρ1 with ⟨vs, ρ2⟩ | _ | _ <;> rw [q2] at h <;> try cases h
      have := evs_len b q2
      show vs.length + 1 ≤ elen b + 1
      omega
    · obtain ⟨i, rfl⟩ : ∃ i, a = .lend i := Classical.byContradiction fun q => z fun i e => q ⟨i, e⟩
      simp only [evs] at h
      cases g : getE ρ i with
      | none => rw [g] at h; cases h
      | some p =>
        rw [g] at h
        have := evs_len b h
        show bs.length ≤ elen b + 1
        omega
theorem cdep_ok {vs : List V} {as : List (Nat × D)} {F H : Hp} {K : Frag} {cv : Cnt} (R : Rpl K F H vs as cv) : Part F H cv fun G c' => Rps K G H (cdep as) vs (as.map (·.2)) c' := R.rps (Nat.le_refl _)
theorem s_tup {es : E} {xs : List Expr} {x1 : Nat} (h : PA X xs (RA T ea X W C es)) (hn : noL es = true) (hl : elen es ≤ 16777216) : PE X (.Tuple xs x1 pos) (RD T ea X W C (.tup es)) :=
  pe_imp (pe_tup h) fun σ H Q ⟨ρ, c, r, S, h⟩ =>
    useA (MS.start S) (by simpa only [ev] using h) fun bs ρ2 us ws H2 e1 m2 wv h2 => by
      obtain rfl := wv.same hn
      rw [List.nil_append, List.nil_append] at m2
      obtain ⟨c1, cv, S2, R2, L2, k2⟩ := m2
      refine ⟨?_, fun p hp => h2 _ _ (fin_tup0 S2 L2 k2 hp (cdep_ok R2))⟩
      have := evs_len es e1
      rw [R2.len, sizeLine_eq]
      omega
theorem s_lst {es : E} {xs : List Expr} (h : PA X xs (RA T ea X W C es)) (hn : noL es = true) (hl : elen es ≤ 16777216) : PE X (.List xs pos) (RD T ea X W C (.lst es)) :=
  pe_imp (pe_lst h) fun σ H Q ⟨ρ, c, r, S, h⟩ =>
    useA (MS.start S) (by simpa only [ev] using h) fun bs ρ2 us ws H2 e1 m2 wv h2 => by
      obtain rfl := wv.same hn
      rw [List.nil_append, List.nil_append] at m2
      obtain ⟨c1, cv, S2, R2, L2, k2⟩ := m2
      refine ⟨?_, fun p hp => h2 _ _ (fin_lst0 S2 L2 k2 hp (cdep_ok R2))⟩
      have := evs_len es e1
      rw [R2.len, sizeLine_eq]
      omega
/-! ### built-in functions -/
theorem bi_boot {b : Bi} {x : Str} {f : Value} (h : biV b = some (x, f)) : bootBuiltins x = some f ∧ ((∃ id, f = .builtin id) ∨ ∃ t, f = .type t) ∧ x ≠ "__name__" ∧ (x == ("__debug__" : Str)) = false := by
  cases b <;> simp only [biV, Option.some.injEq, Prod.mk.injEq, reduceCtorEq] at h <;> obtain ⟨rfl, rfl⟩ := h
  all_goals exact ⟨by first | rfl | decide, by first | exact .inl ⟨_, rfl⟩ | exact .inr ⟨_, rfl⟩, by decide, by decide⟩
theorem s_bi (hu : X.A.units + 8 < cLine) {b : Bi} {x : Str} {f : Value} {es : E} {e : Expr} {xs : List Expr} {p : Pos} (hb : biV b = some (x, f)) (hc : biCalm b = true → X.calm = true) (hg : Gl X x) (hm : X.mg x = none) (h : PA X (e :: xs) (RA T ea X W C es)) (hn : noL es = true) (hs : (e :: xs).all notStar = true) :
    PE X (.Call (.Name x p) (e :: xs) [] pos) (RD T ea X W C (.bi b es)) := by
  obtain ⟨h1, h2, h3, h4⟩ := bi_boot hb
  rw [List.all_cons, Bool.and_eq_true] at hs
  have main : PE X (.Call (.Name x p) (e :: xs) [] pos) (tCB (rbi X.K b) (RA T ea X W C es)) := by
    rcases h2 with ⟨id, rfl⟩ | ⟨t, rfl⟩
    · exact pe_callB (rbi_ok hu hb hc) hg hm h1 h h3 h4 (star_cons hs.1) (star_back hs.2)
    · exact pe_callTy (rbi_ok hu hb hc) hg hm h1 h h3 h4 (star_cons hs.1) (star_back hs.2)
  exact pe_imp main fun σ H Q ⟨ρ, c, r, S, h⟩ =>
    useA (MS.start S) (by simpa only [ev] using h) fun bs ρ2 us ws H2 e1 m2 wv h2 => by
      obtain rfl := wv.same hn
      obtain ⟨z, e3, h3⟩ := aft_ofO h2
      exact bi_snd (by simpa using m2) e3 (by rw [hb]; rfl) h3
end
end PL

/-! PL11: ranges, bits, methods, isinstance, quiet expressions and paths. -/
namespace PL
open PySem L2
open PySem (PyData Str)
section
variable {K : Frag} {F H : Hp}
/-! ### what a dict holds at a key -/
theorem dget_part {n : Nat} {v w : V} {kvs : List (D × D)} {e : D} {c : Cnt} (h : Rp K F H n v (.dict kvs) c) (sub : Same F H) (hk : Dd K H w e) (ok : kindOk kvs e = true) :
    ∃ a o, v = .ref a ∧ IsD H a ∧ DGet H a w o ∧ (lookK kvs e = none → o = none) ∧ ∀ x, lookK kvs e = some x → ∃ y, o = some y ∧ Part F H c fun G c' => Rp K G H (n - 1) y x c' := by
  cases h with
  | at_ a _ => cases a
  | sh h =>
    cases h with
    | @dk a ks vs ds e1 hl ha =>
      obtain ⟨q, rfl, hw, e2⟩ := (key_at (K := K) (H := H) (ds := ds)).1 ks rfl (hl.trans ha.len) ok
      obtain rfl := hw w hk
      refine ⟨a, _, rfl, .inl ⟨_, Rd.mono sub e1⟩, .inl ⟨_, q, Rd.mono sub e1, rfl, rfl⟩, fun en => ?_, fun x ex => ?_⟩
      · rw [valV_kix q hl]
        rw [e2] at en
        cases z : kix ks q with
        | none => rfl
        | some j =>
          rw [z] at en
          simp only [Option.bind_some, List.getElem?_eq_none_iff] at en ⊢
          rw [ha.len]; exact en
      · rw [e2] at ex
        obtain ⟨j, h1, h2⟩ := Option.bind_eq_some_iff.mp ex
        obtain ⟨y, h3, h4⟩ := Dd.get ha h2
        exact ⟨y, by rw [valV_kix q hl, h1]; exact h3, .none fun G s => .sh (Dd.mono s h4)⟩
    | @dt a ks vs ds e1 hl ha =>
      obtain ⟨q, rfl, hw, e2⟩ := (key_at (K := K) (H := H) (ds := ds)).2 ks rfl ok
      obtain ⟨b, rfl, hb⟩ := hw w hk
      refine ⟨a, _, rfl, .inr ⟨_, .inl (sub _ _ e1)⟩, .inr ⟨_, q, b, .inl (sub _ _ e1), rfl, hb, rfl⟩, fun en => ?_, fun x ex => ?_⟩
      · rw [valV_kix q hl]
        rw [e2] at en
        cases z : kix ks q with
        | none => rfl
        | some j =>
          rw [z] at en
          simp only [Option.bind_some, List.getElem?_eq_none_iff] at en ⊢
          rw [ha.len]; exact en
      · rw [e2] at ex
        obtain ⟨j, h1, h2⟩ := Option.bind_eq_some_iff.mp ex
        obtain ⟨y, h3, h4⟩ := Dd.get ha h2
        exact ⟨y, by rw [valV_kix q hl, h1]; exact h3, .none fun G s => .sh (Dd.mono s h4)⟩
  | @dk _ a ks vs ds c e1 hl nd ha =>
    obtain ⟨q, rfl, hw, e2⟩ := (key_at (K := K) (H := H) (ds := ds)).1 ks rfl (hl.trans ha.len) ok
    obtain rfl := hw w hk
    refine ⟨a, _, rfl, .inl ⟨_, .inl e1⟩, .inl ⟨_, q, .inl e1, rfl, rfl⟩, fun en => ?_, fun x ex => ?_⟩
    · rw [valV_kix q hl]
      rw [e2] at en
      cases z : kix ks q with
      | none => rfl
      | some j =>
        rw [z] at en
        simp only [Option.bind_some, List.getElem?_eq_none_iff] at en ⊢
        rw [ha.len]; exact en
    · rw [e2] at ex
      obtain ⟨j, h1, h2⟩ := Option.bind_eq_some_iff.mp ex
      obtain ⟨y, h3, p⟩ := ha.item h2
      exact ⟨y, by rw [valV_kix q hl, h1]; exact h3, Part.right p⟩
  | @dt _ a ks vs ds c e1 hl nd ha =>
    obtain ⟨q, rfl, hw, e2⟩ := (key_at (K := K) (H := H) (ds := ds)).2 ks rfl ok
    obtain ⟨b, rfl, hb⟩ := hw w hk
    refine ⟨a, _, rfl, .inr ⟨_, .inl e1⟩, .inr ⟨_, q, b, .inl e1, rfl, hb, rfl⟩, fun en => ?_, fun x ex => ?_⟩
    · rw [valV_kix q hl]
      rw [e2] at en
      cases z : kix ks q with
      | none => rfl
      | some j =>
        rw [z] at en
        simp only [Option.bind_some, List.getElem?_eq_none_iff] at en ⊢
        rw [ha.len]; exact en
    · rw [e2] at ex
      obtain ⟨j, h1, h2⟩ := Option.bind_eq_some_iff.mp ex
      obtain ⟨y, h3, p⟩ := ha.item h2
      exact ⟨y, by rw [valV_kix q hl, h1]; exact h3, Part.right p⟩
/-- given away: shared from now on -/
theorem part_sv {n : Nat} {y : V} {x : D} {c : Cnt} (sub : Same F H) (h : Part F H c fun G c' => Rp K G H n y x c') : Part F H c fun G c' => Rp K G H (sv x).1 y x c' := by
  refine Part.bind sub h fun F' c' s q => ?_
  unfold sv
  cases a : atm x with
  | true => exact .none fun G sg => .at_ a (((q.zero (.inr a)).2).atom a)
  | false => exact q.weak 0 (Nat.zero_le _)
end
section
variable {T : Tab} {ea : Nat → Addr} {X : Cx} {W : WX} {C : PL.C} {pos : Pos}
/-! ### list(range(..)) -/
theorem rpsRg {K : Frag} {F H : Hp} (k : Nat) : ∀ (n : Nat) (a : Int), Rps K F H k ((List.range n).map fun i => V.int (a + (i : Nat))) (rng a n) zro
  | 0, a => .nil
  | n + 1, a => by
    rw [List.range_succ_eq_map, List.map_cons, List.map_map]
    have e : ((fun i => V.int (a + ((i : Nat) : Int))) ∘ Nat.succ) = fun i => V.int (a + 1 + ((i : Nat) : Int)) := by
      funext i
      simp only [Function.comp, Nat.succ_eq_add_one]
      congr 1
      omega
    rw [e]
    have z : Rps K F H k (V.int a :: (List.range n).map fun i => V.int (a + 1 + (i : Nat))) (PyData.int a :: rng (a + 1) n) (add zro zro) := Rps.cons (.at_ rfl fun _ => .int _) (rpsRg k n (a + 1))
    rw [add_zro] at z
    show Rps K F H k _ (PyData.int a :: rng (a + 1) n) zro
    simpa using z
theorem rgOk_of {a b : Int} {xs : List D} (h : rngLo a b = some xs) : RgOk a b ∧ xs = rng a (b - a).toNat := by
  unfold rngLo at h
  simp only [Option.ite_none_right_eq_some, Bool.and_eq_true, decide_eq_true_eq, Option.some.injEq] at h
  obtain ⟨⟨⟨⟨⟨h1, h2⟩, h3⟩, h4⟩, h5⟩, rfl⟩ := h
  refine ⟨⟨by omega, by omega, by omega, by omega, by omega⟩, rfl⟩
theorem evs_one {a : E} (h : ∀ i, a ≠ .lend i) (ρ : Env) : evs C (.cons a .nil) ρ = (ev C a ρ).bind fun v ρ1 => .ok [v] ρ1 := by
  rw [evs_cons h]; rfl
theorem evs_two {a b : E} (h : ∀ i, a ≠ .lend i) (h2 : ∀ i, b ≠ .lend i) (ρ : Env) : evs C (.cons a (.cons b .nil)) ρ = (ev C a ρ).bind fun v ρ1 => (ev C b ρ1).bind fun w ρ2 => .ok [v, w] ρ2 := by
  rw [evs_cons h]
  congr 1; funext v ρ1
  rw [evs_one h2, R.bind_assoc]
  rfl
theorem s_rng1 {a : E} {x : Expr} {p q p2 : Pos} (hc : X.calm = true) (hg : Gl X "list") (hm : X.mg "list" = none) (hg2 : Gl X "range") (hm2 : X.mg "range" = none) (ha : PE X x (RD T ea X W C a)) (hl : ∀ i, a ≠ .lend i) (hs : notStar x = true) :
    PE X (.Call (.Name "list" p) [.Call (.Name "range" q) [x] [] p2] [] pos) (RD T ea X W C (.bi .rng1 (.cons a .nil))) :=
  pe_imp (pe_listRg hc hg hm (prg_1 hg2 hm2 ha (star_cons hs)) rfl) fun σ H Q ⟨ρ, c, r, S, h⟩ => by
    simp only [ev, evs_one hl, R.bind_assoc] at h
    refine useE (MS.start S) h fun v ρ1 u H1 e1 m1 h1 => ?_
    obtain ⟨z, e3, h3⟩ := aft_ofO h1
    obtain ⟨n, d⟩ := v
    cases d <;> simp only [biD, reduceCtorEq, Option.map_eq_some_iff] at e3
    obtain ⟨xs, e4, rfl⟩ := e3
    obtain ⟨_, e5, g⟩ := (MS.view m1).one'
    cases e5
    obtain rfl := g.int'
    obtain ⟨ok, rfl⟩ := rgOk_of e4
    exact ⟨_, rfl, ok, fun p hp => h3 _ _ (fin_lst (k := 9) m1 hp fun F cv _ _ => .none fun G _ => rpsRg 9 _ _)⟩
theorem s_rng2 {a b : E} {x y : Expr} {p q p2 : Pos} (hc : X.calm = true) (hg : Gl X "list") (hm : X.mg "list" = none) (hg2 : Gl X "range") (hm2 : X.mg "range" = none) (ha : PE X x (RD T ea X W C a)) (hb : PE X y (RD T ea X W C b)) (hl : ∀ i, a ≠ .lend i) (hl2 : ∀ i, b ≠ .lend i) (hs : notStar x = true) (hs2 : notStar y = true) :
    PE X (.Call (.Name "list" p) [.Call (.Name "range" q) [x, y] [] p2] [] pos) (RD T ea X W C (.bi .rng2 (.cons a (.cons b .nil)))) :=
  pe_imp (pe_listRg hc hg hm (prg_2 hg2 hm2 ha hb (star_cons hs) (star_cons hs2) (star_back (by simp [hs2]))) rfl) fun σ H Q ⟨ρ, c, r, S, h⟩ => by
    simp only [ev, evs_two hl hl2, R.bind_assoc] at h
    refine useE (MS.start S) h fun v ρ1 u H1 e1 m1 h1 => useE m1 h1 fun w ρ2 u2 H2 e2 m2 h2 => ?_
    obtain ⟨z, e3, h3⟩ := aft_ofO h2
    obtain ⟨n, d⟩ := v
    obtain ⟨n2, d2⟩ := w
    cases d <;> cases d2 <;> simp only [biD, reduceCtorEq, Option.map_eq_some_iff] at e3
    obtain ⟨xs, e4, rfl⟩ := e3
    obtain ⟨_, _, e5, g, g2⟩ := (MS.view m2).two'
    cases e5
    obtain rfl := g.int'
    obtain rfl := g2.int'
    obtain ⟨ok, rfl⟩ := rgOk_of e4
    exact ⟨_, _, rfl, rfl, ok, fun p hp => h3 _ _ (fin_lst (k := 9) m2 hp fun F cv _ _ => .none fun G _ => rpsRg 9 _ _)⟩
/-! ### methods -/
def plainBase : Expr → Bool
  | .Call _ _ _ _ => false
  | _ => true
theorem base_plain {o : Expr} {m : Str} {env : PySem.Env} {w : Sem Value} (h : plainBase o = true) : attributeBase o m env w = w := by
  cases o <;> first | (simp only [attributeBase]; done) | rfl | cases h
theorem s_bits {a : E} {x : Expr} {ap : Pos} (ha : PE X x (RD T ea X W C a)) (hl : ∀ i, a ≠ .lend i) (hb : plainBase x = true) (hln : (ap.endLine == pos.line) = true) :
    PE X (.Call (.Attribute x "bit_length" ap) [] [] pos) (RD T ea X W C (.bi .bitLen (.cons a .nil))) :=
  pe_imp (pe_bits ha (base_plain hb) hln) fun σ H Q ⟨ρ, c, r, S, h⟩ => by
    simp only [ev, evs_one hl, R.bind_assoc] at h
    refine useE (MS.start S) h fun v ρ1 u H1 e1 m1 h1 => ?_
    obtain ⟨z, e3, h3⟩ := aft_ofO h1
    obtain ⟨n, d⟩ := v
    cases d <;> simp only [biD, reduceCtorEq, Option.some.injEq] at e3
    subst e3
    rename_i i
    obtain ⟨_, e5, g⟩ := (MS.view m1).one'
    cases e5
    obtain rfl := g.int'
    refine ⟨_, rfl, h3 _ _ (fin_at m1 9 rfl fun _ => ?_)⟩
    have : Builtin.Int.intBits i = if i = 0 then 0 else (i.natAbs.log2 + 1 : Nat) := by
      unfold Builtin.Int.intBits
      by_cases z : i = 0
      · subst z; rfl
      · simp [z]
    rw [this]
    by_cases z : i = 0
    · rw [if_pos z, if_pos z]; exact .int _
    · rw [if_neg z, if_neg z]; exact .int _
theorem findD_at (d : D) : ∀ {ds : List D} {j : Nat}, findD d ds = some j → ∃ z, ds[j]? = some z ∧ PyData.eqv z d = true ∧ ∀ (m : Nat) (z' : PyData), m < j → ds[m]? = some z' → PyData.eqv z' d = false
  | [], _, h => by cases h
  | x :: r, j, h => by
    unfold findD at h
    by_cases q : PyData.eqv x d = true
    · rw [if_pos q] at h; cases h
      exact ⟨x, rfl, q, fun m z' hm => absurd hm (by omega)⟩
    · rw [if_neg q] at h
      obtain ⟨i, h1, rfl⟩ := Option.map_eq_some_iff.mp h
      obtain ⟨z, h2, h3, h4⟩ := findD_at d h1
      refine ⟨z, by simpa using h2, h3, fun m z' hm hz => ?_⟩
      cases m with
      | zero => simp at hz; subst hz; simpa using q
      | succ m => exact h4 m z' (by omega) (by simpa using hz)
theorem few_of {cpos : Pos} {env : PySem.Env} : ∀ {es : List Expr}, es.all notStar = true → es.length < 30 → ((backTo cpos (starEach es env)).all (fun x => !x.1) && (backToKw cpos (keywordEach [] env)).all (fun x => x.1.isSome)
    && decide (es.length + ([] : List Keyword).length + (if ([] : List Keyword).isEmpty then 0 else 1) < 30)) = true := by
  intro es h hl
  have h1 : (backTo cpos (starEach es env)).all (fun x => !x.1) = true := by
    clear hl
    induction es with
    | nil => rfl
    | cons e es ih =>
      rw [List.all_cons, Bool.and_eq_true] at h
      rw [star_cons h.1]
      show (!false && (backTo cpos (starEach es env)).all (fun x => !x.1)) = true
      rw [ih h.2]; rfl
  rw [h1]
  have h2 : (backToKw cpos (keywordEach [] env)).all (fun x => x.1.isSome) = true := by simp [keywordEach, backToKw]
  rw [h2]
  simp
  omega
theorem s_index (hu : X.A.units + 65 < cLine) {a b : E} {x y : Expr} {ap : Pos} (ha : PE X x (RD T ea X W C a)) (hb : PE X y (RD T ea X W C b)) (hl : ∀ i, b ≠ .lend i) (hp : plainBase x = true) (hs : notStar y = true) (hln : (ap.endLine == pos.line) = true) :
    PE X (.Call (.Attribute x "index" ap) [y] [] pos) (RD T ea X W C (.mth .index a (.cons b .nil))) :=
  pe_imp (pe_bm PySem.F.plainAttrs_list PySem.F.slot_list_index PySem.F.type_list_index (mt_indexD hu) ha (pa_cons hb pa_nil (star_cons hs)) (base_plain hp) (few_of (by simp [hs]) (by simp)) hln (star_cons hs) rfl) fun σ H Q ⟨ρ, c, r, S, h⟩ => by
    simp only [ev, evs_one hl, R.bind_assoc] at h
    refine useE (MS.start S) h fun v ρ1 u H1 e1 m1 h1 => ?_
    obtain ⟨n, d⟩ := v
    split at h1
    · rename_i ok
      cases d <;> simp only [mthOk, Bool.false_eq_true] at ok
      obtain ⟨_, e5, g⟩ := (MS.view m1).one'
      cases e5
      obtain ⟨p, xs, rfl, sq, _, _⟩ := g.lst'
      refine ⟨.inl ⟨rfl, xs, sq⟩, useE m1 h1 fun w ρ2 u2 H2 e2 m2 h2 => ?_⟩
      obtain ⟨z, e3, h3⟩ := aft_ofO h2
      simp only [mthD, Option.ite_none_right_eq_some, Bool.and_eq_true, Option.map_eq_some_iff] at e3
      obtain ⟨⟨s1, s2⟩, j, e4, rfl⟩ := e3
      obtain ⟨_, _, e5, g1, g2⟩ := (MS.view m2).two'
      cases e5
      obtain ⟨z, f1, f2, f3⟩ := findD_at _ e4
      exact ⟨p, u2, w.2, _, j, z, rfl, rfl, g1.dp s2, g2.dp s1, shp_shaped s2, shp_shaped s1, f1, f2, f3, h3 _ _ (fin_at m2 9 rfl fun _ => .int _)⟩
    · exact h1.elim
theorem Rpl.three {K : Frag} {F H : Hp} {u w z : V} {v1 v2 v3 : Nat × D} {cv : Cnt} (R : Rpl K F H [u, w, z] [v1, v2, v3] cv) : ∃ c1 c2 c3, Rp K F H v1.1 u v1.2 c1 ∧ Rp K F H v2.1 w v2.2 c2 ∧ Rp K F H v3.1 z v3.2 c3 ∧ cv = add c1 (add c2 c3) := by
  cases R with
  | cons a b =>
    obtain ⟨c2, c3, h1, h2, rfl⟩ := b.two
    exact ⟨_, c2, c3, a, h1, h2, rfl⟩
theorem s_get2 (hu : X.A.units + 1 < cLine) {a b d : E} {x y z : Expr} {ap : Pos} (ha : PE X x (RD T ea X W C a)) (hb : PE X y (RD T ea X W C b)) (hd : PE X z (RD T ea X W C d)) (hl : ∀ i, b ≠ .lend i) (hl2 : ∀ i, d ≠ .lend i) (hp : plainBase x = true) (hs : notStar y = true) (hs2 : notStar z = true) (hln : (ap.endLine == pos.line) = true) :
    PE X (.Call (.Attribute x "get" ap) [y, z] [] pos) (RD T ea X W C (.mth .get a (.cons b (.cons d .nil)))) :=
  pe_imp (pe_dget2 hu ha hb hd ⟨base_plain hp, few_of (by simp [hs, hs2]) (by simp), hln, by rw [star_cons hs, star_cons hs2]; rfl⟩) fun σ H Q ⟨ρ, c, r, S, h⟩ => by
    simp only [ev, evs_two hl hl2, R.bind_assoc] at h
    refine useE (MS.start S) h fun v ρ1 u H1 e1 m1 h1 => ?_
    obtain ⟨n, dd⟩ := v
    split at h1
    · rename_i ok
      cases dd <;> simp only [mthOk, Bool.false_eq_true] at ok
      obtain ⟨_, e5, g⟩ := (MS.view m1).one'
      cases e5
      have isd : ∃ p, u = .ref p ∧ IsD H1 p := by
        cases g with
        | dk e _ _ => exact ⟨_, rfl, .inl ⟨_, e⟩⟩
        | dt e _ _ => exact ⟨_, rfl, .inr ⟨_, .inl e⟩⟩
      obtain ⟨p, rfl, isd⟩ := isd
      refine ⟨p, rfl, isd, useE m1 h1 fun w ρ2 u2 H2 e2 m2 h2 => useE m2 h2 fun w3 ρ3 u3 H3 e3 m3 h3 => ?_⟩
      obtain ⟨z, e4, h4⟩ := aft_ofO h3
      simp only [mthD, Option.ite_none_right_eq_some, Option.some.injEq] at e4
      obtain ⟨ok, rfl⟩ := e4
      have mv := MS.view m3
      cases mv with
      | cons _ mv => cases mv with
        | cons g2 mv =>
          obtain ⟨c1, cv, S3, R3, L3, k3⟩ := m3
          obtain ⟨ca, cb, cc, r1, r2, r3, rfl⟩ := R3.three
          obtain ⟨p', o, e6, _, dg, hn, hsm⟩ := dget_part r1 hid_sub g2 ok
          cases e6
          refine ⟨o, dg, ?_⟩
          cases q : lookK _ w.2 with
          | none =>
            have ho := hn q
            subst ho
            rw [q] at h4
            exact h4 _ _ (fin_part0 S3 L3 k3 (Part.right (Part.right (part_sv hid_sub (Part.rp r3)))))
          | some x =>
            obtain ⟨y, rfl, pt⟩ := hsm x q
            rw [q] at h4
            exact h4 _ _ (fin_part0 S3 L3 k3 (Part.left (part_sv hid_sub pt)))
    · exact h1.elim
theorem s_get1 (hu : X.A.units + 1 < cLine) {a b : E} {x y : Expr} {ap : Pos} (ha : PE X x (RD T ea X W C a)) (hb : PE X y (RD T ea X W C b)) (hl : ∀ i, b ≠ .lend i) (hp : plainBase x = true) (hs : notStar y = true) (hln : (ap.endLine == pos.line) = true) :
    PE X (.Call (.Attribute x "get" ap) [y] [] pos) (RD T ea X W C (.mth .get1 a (.cons b .nil))) :=
  pe_imp (pe_dget1 hu ha hb ⟨base_plain hp, few_of (by simp [hs]) (by simp), hln, by rw [star_cons hs]; rfl⟩) fun σ H Q ⟨ρ, c, r, S, h⟩ => by
    simp only [ev, evs_one hl, R.bind_assoc] at h
    refine useE (MS.start S) h fun v ρ1 u H1 e1 m1 h1 => ?_
    obtain ⟨n, dd⟩ := v
    split at h1
    · rename_i ok
      cases dd <;> simp only [mthOk, Bool.false_eq_true] at ok
      obtain ⟨_, e5, g⟩ := (MS.view m1).one'
      cases e5
      have isd : ∃ p, u = .ref p ∧ IsD H1 p := by
        cases g with
        | dk e _ _ => exact ⟨_, rfl, .inl ⟨_, e⟩⟩
        | dt e _ _ => exact ⟨_, rfl, .inr ⟨_, .inl e⟩⟩
      obtain ⟨p, rfl, isd⟩ := isd
      refine ⟨p, rfl, isd, useE m1 h1 fun w ρ2 u2 H2 e2 m2 h2 => ?_⟩
      obtain ⟨z, e4, h4⟩ := aft_ofO h2
      simp only [mthD, Option.ite_none_right_eq_some, Option.some.injEq] at e4
      obtain ⟨ok, rfl⟩ := e4
      obtain ⟨_, _, e5, _, g2⟩ := (MS.view m2).two'
      cases e5
      have m2' := m2
      obtain ⟨c1, cv, S3, R3, L3, k3⟩ := m2
      obtain ⟨ca, cb, r1, r2, rfl⟩ := R3.two
      obtain ⟨p', o, e6, _, dg, hn, hsm⟩ := dget_part r1 hid_sub g2 ok
      cases e6
      refine ⟨o, dg, ?_⟩
      cases q : lookK _ w.2 with
      | none =>
        have ho := hn q
        subst ho
        rw [q] at h4
        exact h4 _ _ (fin_at m2' 9 rfl fun _ => .non)
      | some x =>
        obtain ⟨y, rfl, pt⟩ := hsm x q
        rw [q] at h4
        exact h4 _ _ (fin_part0 S3 L3 k3 (Part.left (part_sv hid_sub pt)))
    · exact h1.elim
/-! ### isinstance -/
def tyN : Ty → String
  | .int => "int"
  | .bool => "bool"
  | .list => "list"
  | .tuple => "tuple"
  | .str => "str"
  | .dict => "dict"
def tyD : D → String
  | .none => "NoneType"
  | .bool _ => "bool"
  | .int _ => "int"
  | .str _ => "str"
  | .list _ => "list"
  | .tuple _ => "tuple"
  | .dict _ => "dict"
theorem kit_tys (d : D) (t : Ty) : kitB (tyD d) (tyN t) = some (isTy t d) := by
  cases d <;> cases t <;> simp only [tyD, tyN, isTy] <;> decide +kernel
theorem Dd.tyx {K : Frag} {H : Hp} {v : V} {d : D} (h : Dd K H v d) : TyX K H v (.type (tyD d)) := by
  cases h with
  | non => exact .base .non
  | bl b => exact .base (.bl b)
  | int i => exact .base (.int i)
  | str x => exact .base (.str x)
  | lst s _ _ =>
    rcases s with (s | ⟨o, s⟩) | ⟨o, its, n, e, c, _⟩
    · exact .base (.lst s)
    · exact .base (.frz s)
    · exact .kList e c
  | tup s _ _ =>
    rcases s with (s | ⟨o, s⟩) | ⟨o, its, n, e, c, _⟩
    · exact .base (.tup s)
    · exact .fTuple s
    · exact .kTuple e c
  | dk s _ _ =>
    rcases s with s | ⟨o, s⟩
    · exact .base (.dK s)
    · exact .fDict s
  | dt s _ _ => exact .base (.dT s)
theorem kit_any {K : Frag} (d : D) : ∀ ts : List Ty, PySem.W.kitAny K (.type (tyD d)) (ts.map fun t => .type (tyN t)) = some (ts.any fun t => isTy t d)
  | [] => rfl
  | t :: ts => by
    rw [List.map_cons, List.any_cons]
    refine kitAny_cons (kit_ty (kit_tys d t)) (fun e => ?_) fun e => ?_
    · rw [e, Bool.false_or]; exact kit_any d ts
    · rw [e, Bool.true_or]
theorem ty_boot (t : Ty) : bootBuiltins (Str.ofString (tyN t)) = some (.type (tyN t)) ∧ Str.ofString (tyN t) ≠ "__name__" ∧ (Str.ofString (tyN t) == ("__debug__" : Str)) = false := by
  cases t <;> exact ⟨by first | rfl | decide, by decide, by decide⟩
theorem pe_tyn {t : Ty} {p : Pos} (hg : Gl X (Str.ofString (tyN t))) (hm : X.mg (Str.ofString (tyN t)) = none) : PE X (.Name (Str.ofString (tyN t)) p) (tC (.ty (tyN t))) :=
  let ⟨h1, h2, h3⟩ := ty_boot t
  pe_bltn hg hm h1 rfl h2 h3
theorem s_isi1 {a : E} {x : Expr} {t : Ty} {p q : Pos} (hgi : Gl X "isinstance") (hmi : X.mg "isinstance" = none) (hg : Gl X (Str.ofString (tyN t))) (hm : X.mg (Str.ofString (tyN t)) = none) (ha : PE X x (RD T ea X W C a)) (hs : notStar x = true) :
    PE X (.Call (.Name "isinstance" p) [x, .Name (Str.ofString (tyN t)) q] [] pos) (RD T ea X W C (.isI a [t])) :=
  pe_imp (pe_callB call_isi hgi hmi rfl (pa_cons ha (pa_cons (pe_tyn hg hm) pa_nil rfl) (star_cons hs)) (by decide) (by decide) (star_cons hs) rfl) fun σ H Q ⟨ρ, c, r, S, h⟩ =>
    useE (MS.start S) (by simpa only [ev] using h) fun v ρ1 u H1 e1 m1 h1 => by
      obtain ⟨_, e5, g⟩ := (MS.view m1).one'
      cases e5
      refine ⟨u, _, _, _, _, rfl, .ty (tyN t), g.tyx, kit_ty (kit_tys v.2 t), ?_⟩
      have := h1 _ _ (fin_at m1 9 rfl fun _ => .bl _)
      simpa using this
/-- a tuple of built-in types -/
def tysOk (X : Cx) : List Ty → List Expr → Prop
  | [], [] => True
  | t :: ts, .Name x _ :: es => x = Str.ofString (tyN t) ∧ Gl X x ∧ X.mg x = none ∧ tysOk X ts es
  | _, _ => False
theorem pa_tys : ∀ {ts : List Ty} {es : List Expr}, tysOk X ts es → PA X es (fun _ H Q => Q (ts.map fun t => .ty (tyN t)) H)
  | [], [], _ => pa_nil
  | t :: ts, .Name x p :: es, ⟨e, hg, hm, r⟩ => by subst e; exact pa_cons (pe_tyn hg hm) (pa_tys r) rfl
  | [], _ :: _, h => h.elim
  | _ :: _, [], h => h.elim
theorem tys_paired : ∀ ts : List Ty, Paired ClsV (ts.map fun t => V.ty (tyN t)) (ts.map fun t => Value.type (tyN t))
  | [] => .nil
  | t :: ts => .cons (.ty _) (tys_paired ts)
theorem s_isiT {a : E} {x : Expr} {ts : List Ty} {es : List Expr} {p q : Pos} {k : Nat} (hgi : Gl X "isinstance") (hmi : X.mg "isinstance" = none) (ht : tysOk X ts es) (hl : ts.length ≤ 16777216) (ha : PE X x (RD T ea X W C a)) (hs : notStar x = true) :
    PE X (.Call (.Name "isinstance" p) [x, .Tuple es k q] [] pos) (RD T ea X W C (.isI a ts)) :=
  pe_imp (pe_callB call_isiT hgi hmi rfl (pa_cons ha (pa_cons (pe_tup (pa_tys ht)) pa_nil rfl) (star_cons hs)) (by decide) (by decide) (star_cons hs) rfl) fun σ H Q ⟨ρ, c, r, S, h⟩ =>
    useE (MS.start S) (by simpa only [ev] using h) fun v ρ1 u H1 e1 m1 h1 => by
      obtain ⟨_, e5, g⟩ := (MS.view m1).one'
      cases e5
      refine ⟨by rw [List.length_map, sizeLine_eq]; exact hl, fun p hp => ?_⟩
      have gr := grow_upd (o := .tup (ts.map fun t => V.ty (tyN t))) hp
      have m2 := MS.grow m1 gr
      exact ⟨u, p, ts.map fun t => V.ty (tyN t), .type (tyD v.2), ts.map fun t => .type (tyN t), _, rfl, upd_same, tys_paired ts, (Dd.mono (fun b o e => gr b o e) g).tyx, kit_any v.2 ts, h1 _ _ (fin_at m2 9 rfl fun _ => .bl _)⟩
end
end PL

/-! PL12: objects of one's own rewritten; quiet expressions and paths; dict displays. -/
namespace PL
open PySem L2
open PySem (PyData Str)
section
variable {K : Frag} {F H : Hp}
/-- a container's content -/
inductive Ct (K : Frag) (F H : Hp) (n : Nat) : HO → D → Cnt → Prop
  | lst {xs : List V} {ds : List D} {c : Cnt} : Rps K F H n xs ds c → Ct K F H n (.lst xs) (.list ds) c
  | tup {xs : List V} {ds : List D} {c : Cnt} : Rps K F H n xs ds c → Ct K F H n (.tup xs) (.tuple ds) c
  | dk {ks : List L2.Key} {xs : List V} {ds : List D} {c : Cnt} : ks.length = xs.length → ks.Nodup → Rps K F H n xs ds c → Ct K F H n (.dK (ks.zip xs)) (.dict ((ks.map kD).zip ds)) c
  | dt {ks : List (List L2.Key)} {xs : List V} {ds : List D} {c : Cnt} : ks.length = xs.length → ks.Nodup → Rps K F H n xs ds c → Ct K F H n (.dT (ks.zip xs)) (.dict (mrk :: (ks.map tD).zip ds)) c
theorem Rp.opn {n : Nat} {v : V} {d : D} {c : Cnt} (h : Rp K F H (n + 1) v d c) (ha : atm d = false) : ∃ a o c', v = .ref a ∧ H a = some o ∧ c = add (one a) c' ∧ Ct K F H n o d c' := by
  cases h with
  | at_ a _ => rw [ha] at a; cases a
  | lst e r => exact ⟨_, _, _, rfl, e, rfl, .lst r⟩
  | tup e r => exact ⟨_, _, _, rfl, e, rfl, .tup r⟩
  | dk e l n r => exact ⟨_, _, _, rfl, e, rfl, .dk l n r⟩
  | dt e l n r => exact ⟨_, _, _, rfl, e, rfl, .dt l n r⟩
theorem Ct.cls {n : Nat} {o : HO} {d : D} {c : Cnt} {a : Addr} {H' : Hp} (h : Ct K F H n o d c) (e : H' a = some o) (k : ∀ b, 0 < c b → H' b = H b) : Rp K F H' (n + 1) (.ref a) d (add (one a) c) := by
  cases h with
  | lst r => exact .lst e (Rps.mono (fun _ _ z => z) r k)
  | tup r => exact .tup e (Rps.mono (fun _ _ z => z) r k)
  | dk l n r => exact .dk e l n (Rps.mono (fun _ _ z => z) r k)
  | dt l n r => exact .dt e l n (Rps.mono (fun _ _ z => z) r k)
theorem Ct.mono {F' : Hp} (s : Same F F') {n : Nat} {o : HO} {d : D} {c : Cnt} (h : Ct K F H n o d c) : Ct K F' H n o d c := by
  cases h with
  | lst r => exact .lst (Rps.mono s r fun _ _ => rfl)
  | tup r => exact .tup (Rps.mono s r fun _ _ => rfl)
  | dk l n r => exact .dk l n (Rps.mono s r fun _ _ => rfl)
  | dt l n r => exact .dt l n (Rps.mono s r fun _ _ => rfl)
end
section
variable {K : Frag} {r c c1 cv : Cnt} {σ : L2.St} {H H1 : Hp} {ρ ρ1 : Env} {a : Addr}
/-- an object of one's own, at hand, rewritten -/
theorem set_hand {K : KF} {P : Hp → Cnt → Prop} (S : StR K (add r (add (one a) cv)) σ H1 ρ1 c1) (o : HO) (h : Part (hid H1 (add c1 (add r (add (one a) cv)))) H1 cv P) :
    ∃ cv', (∀ b, cv' b ≤ cv b) ∧ StR K (add r (add (one a) cv')) σ (upd H1 a o) ρ1 c1 ∧ P (hid (upd H1 a o) (add c1 (add r (add (one a) cv')))) cv' ∧
      Lk H1 (add c1 (add r (add (one a) cv))) (upd H1 a o) (add c1 (add r (add (one a) cv'))) ∧ (∀ b, 0 < add c1 (add r cv') b → upd H1 a o b = H1 b) := by
  obtain ⟨cv', le, q⟩ := h
  have ne : ∀ b, 0 < add c1 (add r cv') b → b ≠ a := fun b hb e => by
    subst e
    have q1 := S.lin b
    have q2 := le b
    unfold add at *
    rw [one_self] at q1
    omega
  have up : ∀ b, 0 < add c1 (add r cv') b → upd H1 a o b = H1 b := fun b hb => upd_ne (ne b hb)
  have l : Lk H1 (add c1 (add r (add (one a) cv))) (upd H1 a o) (add c1 (add r (add (one a) cv'))) := fun b x e => by
    obtain ⟨z, e⟩ := hid_some.mp e
    have nb : b ≠ a := fun z' => by subst z'; unfold add at z; rw [one_self] at z; omega
    refine hid_some.mpr ⟨?_, by rw [upd_ne nb]; exact e⟩
    have := le b
    unfold add at *
    omega
  refine ⟨cv', le, ⟨S.fxs, Envs.mono l S.env fun b hb => up b (by unfold add; omega), fun b => by have := S.lin b; have := le b; unfold add at *; omega, fun b hb => ?_⟩, ?_, l, up⟩
  · by_cases e : b = a
    · subst e; exact ⟨o, upd_same⟩
    · obtain ⟨x, hx⟩ := S.ex b (by have := le b; unfold add at *; omega)
      exact ⟨x, by rw [upd_ne e]; exact hx⟩
  · refine q _ l fun b x hb e => ?_
    have nb : b ≠ a := fun z => by
      subst z
      have := S.lin b
      unfold add at this
      rw [one_self] at this
      omega
    refine hid_some.mpr ⟨?_, by rw [upd_ne nb]; exact e⟩
    have := S.lin b
    unfold add at *
    rw [one_ne nb]
    omega
/-- a local taken to hand -/
theorem to_hand {K : KF} {i n : Nat} {d : D} (S : StR K (add r cv) σ H1 ρ1 c1) (g : getE ρ1 i = some (n, d)) : ∃ v ci c2, σ[i]? = some (some v) ∧ c1 = add ci c2 ∧ StR K (add r (add ci cv)) σ H1 (setE ρ1 i none) c2 ∧ Rp K (hid H1 (add c1 (add r cv))) H1 n v d ci := by
  obtain ⟨v, ci, c2, h1, h2, h3, rfl⟩ := Envs.take S.env g
  have l2 : Lk H1 (add (add ci c2) (add r cv)) H1 (add c2 (add r (add ci cv))) := Lk.less fun b => by unfold add; omega
  refine ⟨v, ci, c2, h1, rfl, ⟨S.fxs, Envs.mono l2 h3 fun _ _ => rfl, fun b => by have := S.lin b; unfold add at *; omega, fun b hb => ?_⟩, h2⟩
  by_cases z : 0 < ci b
  · exact h2.ex z
  · exact S.ex b (by unfold add at *; omega)
/-- and put back -/
theorem of_hand {K : KF} {i n : Nat} {v : V} {d : D} {ci : Cnt} (S : StR K (add r (add ci cv)) σ H1 (setE ρ1 i none) c1) (hv : σ[i]? = some (some v)) (h : Rp K (hid H1 (add c1 (add r (add ci cv)))) H1 n v d ci) : StR K (add r cv) σ H1 (setE ρ1 i (some (n, d))) (add ci c1) := by
  have l2 : Lk H1 (add c1 (add r (add ci cv))) H1 (add (add ci c1) (add r cv)) := Lk.less fun b => by unfold add; omega
  refine ⟨S.fxs, ?_, fun b => by have := S.lin b; unfold add at *; omega, fun b hb => S.ex b (by unfold add at *; omega)⟩
  have z := Envs.put (Envs.mono l2 S.env fun _ _ => rfl) (getE_none ρ1 i) hv (Rp.mono l2 h fun _ _ => rfl)
  rw [setE_setE] at z
  exact z
/-- what a local's object is rewritten to, the value that comes of it -/
theorem fin_mut {K : KF} (Z : HO → V → Prop) {i n : Nat} {d : D} {vs : List V} {as : List (Nat × D)} {w x : Nat × D} (m : MS K r σ H c H1 ρ1 vs as) (g : getE ρ1 i = some (n + 1, d)) (ha : atm d = false) :
    ∃ a o, σ[i]? = some (some (.ref a)) ∧ H1 a = some o ∧
      ((∀ F cc cv, Same F H1 → Ct K F H1 n o d cc → Rpl K F H1 vs as cv → ∃ k o' u, w.1 = k + 1 ∧ Z o' u ∧ Part F H1 (add cc cv) fun G c' => ∃ ca cu, c' = add ca cu ∧ Ct K G H1 k o' w.2 ca ∧ Rp K G H1 x.1 u x.2 cu) →
        ∃ o' u, Z o' u ∧ Po K r σ H c x (setE ρ1 i (some w)) u (upd H1 a o')) := by
  obtain ⟨c1, cv, S, R, L, kp⟩ := m
  obtain ⟨v, ci, c2, h1, rfl, S2, h2⟩ := to_hand S g
  obtain ⟨a, o, cc, rfl, e1, rfl, ct⟩ := h2.opn ha
  refine ⟨a, o, h1, e1, fun step => ?_⟩
  obtain ⟨k, o', u, ek, hz, pt⟩ := step _ cc cv hid_sub ct R
  have eq : add (add (one a) cc) cv = add (one a) (add cc cv) := add_assoc _ _ _
  rw [eq] at S2
  have eq2 : add (add (add (one a) cc) c2) (add r cv) = add c2 (add r (add (one a) (add cc cv))) := by funext b; unfold add; omega
  rw [eq2] at pt
  obtain ⟨cv', le, S3, ⟨ca, cu, rfl, ct', ru⟩, l3, up⟩ := set_hand S2 o' pt
  have back : StR K (add r cu) σ (upd H1 a o') (setE ρ1 i (some (k + 1, w.2))) (add (add (one a) ca) c2) := by
    refine of_hand (cv := cu) (by rw [add_assoc (one a) ca cu]; exact S3) h1 ?_
    rw [add_assoc (one a) ca cu]
    exact ct'.cls upd_same fun b hb => up b (by unfold add; omega)
  refine ⟨o', u, hz, add (add (one a) ca) c2, cu, ?_, ?_, ?_, fun b hb => (up b (by unfold add; omega)).trans (kp b hb)⟩
  · rw [← ek] at back; exact back
  · have eq3 : add (add (add (one a) ca) c2) (add r cu) = add c2 (add r (add (one a) (add ca cu))) := by funext b; unfold add; omega
    rw [eq3]
    have z := Rpl.cons (Rp.mono (fun _ _ z => z) ru fun b hb => up b (by unfold add; omega)) .nil
    rw [add_zro] at z
    exact z
  · have eq3 : add (add (add (one a) ca) c2) (add r cu) = add c2 (add r (add (one a) (add ca cu))) := by funext b; unfold add; omega
    rw [eq3]
    rw [eq2] at L
    exact L.trans l3
end
/-! ### methods that rewrite a list -/
def muV : Mu → Option (String × Str)
  | .append => some ("list.append", "append")
  | .extend => some ("list.extend", "extend")
  | .pop => some ("list.pop", "pop")
  | .popAt => some ("list.pop", "pop")
  | _ => none
def rmu : Mu → V → List V → Hp → VK → Prop
  | .append => rAppend
  | .extend => rExtend
  | .pop => rPop
  | .popAt => rPopAt
  | _ => fun _ _ _ _ => False
theorem rmu_ok {X : Cx} {m : Mu} {id : String} {x : Str} (h : muV m = some (id, x)) : MtR X id (rmu m) ∧ Slot "list" x id ∧ typeOf (.builtin id) = pure (.type "method_descriptor") := by
  cases m <;> simp only [muV, Option.some.injEq, Prod.mk.injEq, reduceCtorEq] at h <;> obtain ⟨rfl, rfl⟩ := h
  · exact ⟨mt_append, PySem.F.slot_list_append, PySem.F.type_list_append⟩
  · exact ⟨mt_extend, PySem.F.slot_list_extend, PySem.F.type_list_extend⟩
  · exact ⟨mt_pop, PySem.F.slot_list_pop, PySem.F.type_list_pop⟩
  · exact ⟨mt_popAt, PySem.F.slot_list_pop, PySem.F.type_list_pop⟩
section
variable {K : Frag} {F H : Hp}
theorem Rps.erase {n : Nat} : ∀ {vs : List V} {ds : List D} {cc : Cnt} {j : Nat} {x : D}, Rps K F H n vs ds cc → ds[j]? = some x →
    ∃ y, vs[j]? = some y ∧ Part F H cc fun G c' => ∃ ca cu, c' = add ca cu ∧ Rps K G H n (vs.eraseIdx j) (ds.eraseIdx j) ca ∧ Rp K G H n y x cu
  | _, _, _, _, _, .nil, e => by simp at e
  | _, _, _, 0, _, .cons h a, e => by
    simp at e; subst e
    refine ⟨_, rfl, (Part.pair (Part.rp h) (Part.rps a)).imp fun G c' ⟨p, q, e, h1, h2⟩ => ⟨q, p, by rw [e, add_comm], h2, h1⟩⟩
  | _, _, _, j + 1, _, .cons h a, e => by
    obtain ⟨y, h1, pt⟩ := Rps.erase (j := j) a (by simpa using e)
    refine ⟨y, by simpa using h1, (Part.pair (Part.rp h) pt).imp fun G c' ⟨p, q, e, h2, ca, cu, e2, h3, h4⟩ => ⟨add p ca, cu, by rw [e, e2, add_assoc], .cons h2 h3, h4⟩⟩
theorem Rp.low {n k : Nat} {v : V} {d : D} {c : Cnt} (h : Rp K F H n v d c) (hk : atm d = true ∨ k ≤ n) : Part F H c fun G c' => Rp K G H k v d c' := h.lower hk
theorem mu_snd {m : Mu} {n : Nat} {o : HO} {d : D} {cc cv : Cnt} {vs : List V} {as : List (Nat × D)} {w x : Nat × D} {a : Addr} (hm : (muV m).isSome = true) (ho : H a = some o) (ct : Ct K F H n o d cc) (R : Rpl K F H vs as cv) (sub : Same F H) (e : muD m (n + 1) d as = some (w, x)) :
    ∃ k o' u, w.1 = k + 1 ∧ (∀ Q : VK, Q u (upd H a o') → rmu m (.ref a) vs H Q) ∧ Part F H (add cc cv) fun G c' => ∃ ca cu, c' = add ca cu ∧ Ct K G H k o' w.2 ca ∧ Rp K G H x.1 u x.2 cu := by
  unfold muD at e
  split at e <;> (try simp only [Option.some.injEq, Option.ite_none_right_eq_some, Prod.mk.injEq, reduceCtorEq] at e)
  · rename_i v
    obtain ⟨hz, rfl, rfl⟩ := e
    obtain ⟨m2, d2⟩ := v
    cases ct with
    | @lst xs ds _ r =>
    cases R with
    | @cons _ y _ _ _ cy _ ry rn =>
    cases rn
    rw [add_zro]
    refine ⟨min n (if atm d2 then 9 else m2), .lst (xs ++ [y]), .non, ?_, fun Q q => ⟨a, xs, y, rfl, rfl, ho, by rw [r.len, sizeLine_eq]; exact hz, q⟩, ?_⟩
    · show min (n + 1) ((if atm d2 then 9 else m2) + 1) = _
      omega
    · have p1 : Part F H cc fun G c' => Rps K G H (min n (if atm d2 then 9 else m2)) xs _ c' := r.wk (Nat.min_le_left _ _)
      have p2 : Part F H cy fun G c' => Rp K G H (min n (if atm d2 then 9 else m2)) y d2 c' := ry.low (by
        cases z : atm d2 with
        | true => exact .inl rfl
        | false => right; rw [if_neg (by simp)]; exact Nat.min_le_right _ _)
      refine (Part.pair p1 p2).imp fun G c' hh => ?_
      obtain ⟨p, q, e, h1, h2⟩ := hh
      refine ⟨c', zro, (add_zro _).symm, ?_, .at_ rfl fun _ => .non⟩
      rw [e]
      have z := h1.append (.cons h2 .nil)
      rw [add_zro] at z
      exact .lst z
  · rename_i m2 ys
    obtain ⟨hz, rfl, rfl⟩ := e
    cases ct with
    | @lst xs ds _ r =>
    cases R with
    | @cons _ y _ _ _ cy _ ry rn =>
    cases rn
    rw [add_zro]
    obtain ⟨b, o2, c2, rfl, hb, rfl, ct2⟩ := ry.opn rfl
    cases ct2 with
    | @lst zs _ _ r2 =>
    refine ⟨min n m2, .lst (xs ++ zs), .non, by show min (n + 1) (m2 + 1) = _; omega, fun Q q => ⟨a, b, xs, zs, rfl, rfl, ho, hb, by rw [r.len, r2.len, sizeLine_eq]; exact hz, q⟩, ?_⟩
    have p1 : Part F H cc fun G c' => Rps K G H (min n m2) xs _ c' := r.wk (Nat.min_le_left n m2)
    have p2 : Part F H (add (one b) c2) fun G c' => Rps K G H (min n m2) zs _ c' := Part.right (r2.wk (Nat.min_le_right n m2))
    refine (Part.pair p1 p2).imp fun G c' hh => ?_
    obtain ⟨p, q, e, h1, h2⟩ := hh
    refine ⟨c', zro, (add_zro _).symm, ?_, .at_ rfl fun _ => .non⟩
    rw [e]
    exact .lst (h1.append h2)
  · rename_i ds
    cases ct with
    | @lst xs _ _ r =>
    split at e
    · rename_i dl hl
      cases e
      cases R
      rw [add_zro]
      have hx : ds[ds.length - 1]? = some dl := by rw [← hl, List.getLast?_eq_getElem?]
      obtain ⟨y, h1, pt⟩ := r.erase hx
      refine ⟨n, .lst xs.dropLast, y, rfl, fun Q q => ⟨a, xs, y, rfl, rfl, ho, by rw [r.len]; exact h1, q⟩, pt.imp fun G c' ⟨ca, cu, e, h2, h3⟩ => ⟨ca, cu, e, .lst ?_, h3⟩⟩
      have e1 : xs.eraseIdx (ds.length - 1) = xs.dropLast := by rw [← r.len, List.eraseIdx_length_sub_one]
      have e2 : ds.eraseIdx (ds.length - 1) = ds.dropLast := List.eraseIdx_length_sub_one
      rw [e1, e2] at h2
      exact h2
    · cases e
  · rename_i m2 i
    obtain ⟨hi0, e⟩ := e
    simp only [Bool.and_eq_true, decide_eq_true_eq] at hi0
    cases ct with
    | @lst xs _ _ r =>
    split at e
    · rename_i j hj
      split at e
      · rename_i dl hl
        cases e
        have ei := (R.len)
        cases R with
        | @cons _ y0 _ _ _ cy _ ry rn =>
        cases rn
        have hi := ((ry.view sub fun _ _ _ e => e) : Dd K H y0 (.int i)).int'
        subst hi
        obtain ⟨y, h1, pt⟩ := r.erase hl
        obtain ⟨q1, q2, q3, q4⟩ := ixN_seq hj
        refine ⟨n, .lst (xs.eraseIdx j), y, rfl, fun Q q => ⟨a, xs, i, j, y, rfl, rfl, ho, by omega, by omega, by rw [r.len]; exact q1, h1, q⟩, Part.left (pt.imp fun G c' ⟨ca, cu, e, h2, h3⟩ => ⟨ca, cu, e, .lst h2, h3⟩)⟩
      · cases e
    · cases e
  · cases hm
end
end PL

/-! PL13: methods that change a local, quiet expressions, dict displays. -/
namespace PL
open PySem L2
open PySem (PyData Str)
section
variable {T : Tab} {ea : Nat → Addr} {X : Cx} {W : WX} {C : PL.C} {pos : Pos}
theorem envs_at {K : KF} {r c : Cnt} {σ : L2.St} {H : Hp} {ρ : Env} {i n : Nat} {d : D} (S : StR K r σ H ρ c) (g : getE ρ i = some (n, d)) : ∃ v, σ[i]? = some (some v) ∧ Dd K H v d := by
  obtain ⟨v, c1, c2, h1, h2, _, _⟩ := Envs.take S.env g
  exact ⟨v, h1, Rp.view hid_sub h2 fun _ _ _ e => e⟩
theorem mut_end {m : Mu} {K : KF} {r c : Cnt} {σ : L2.St} {H H2 : Hp} {ρ2 : Env} {us : List V} {bs : List (Nat × D)} {i : Nat} {v : V} {Q : VK} (hm : (muV m).isSome = true) (m2 : MS K r σ H c H2 ρ2 us bs) (hv : σ[i]? = some (some v))
    (h : aft T ea K W r σ H c Q (match getE ρ2 i with
        | some (n + 1, d) => match muD m (n + 1) d bs with
          | some (w, r) => .ok r (setE ρ2 i (some w))
          | none => .bad
        | _ => .bad)) : rmu m v us H2 Q := by
  split at h
  · rename_i n d g
    split at h
    · rename_i w x e
      have ha : atm d = false := by
        cases m <;> cases hm <;> (unfold muD at e; split at e <;> first | rfl | (cases e))
      obtain ⟨a, o, h1, h2, h3⟩ := fin_mut (w := w) (x := x) (fun o' u => ∀ Q : VK, Q u (upd H2 (match v with | .ref a => a | _ => 0) o') → rmu m v us H2 Q) m2 g ha
      have ev : v = .ref a := by rw [hv] at h1; exact Option.some.inj (Option.some.inj h1)
      subst ev
      obtain ⟨o', u, hz, po⟩ := h3 fun F cc cv s ct R => by
        obtain ⟨k, o', u, e1, e2, e3⟩ := mu_snd hm h2 ct R s e
        exact ⟨k, o', u, e1, e2, e3⟩
      exact hz _ (h _ _ po)
    · exact h.elim
  · exact h.elim
theorem s_mut {m : Mu} {id : String} {nm x : Str} {i : Nat} {es : E} {e : Expr} {xs : List Expr} {p ap : Pos} (hm : muV m = some (id, nm)) (hN : X.N[i]? = some x) (hv : Vis X.env.scope x) (hd : (x == ("__debug__" : Str)) = false) (hcd : (x == ("__classdict__" : Str)) = false)
    (h : PA X (e :: xs) (RA T ea X W C es)) (hn : noL es = true) (hs : (e :: xs).all notStar = true) (hl : (e :: xs).length < 30) (hln : (ap.endLine == pos.line) = true) : PE X (.Call (.Attribute (.Name x p) nm ap) (e :: xs) [] pos) (RD T ea X W C (.mut m (.pv i) es)) := by
  obtain ⟨h1, h2, h3⟩ := rmu_ok (X := X) hm
  have hs' := hs
  rw [List.all_cons, Bool.and_eq_true] at hs'
  refine pe_imp (pe_bm PySem.F.plainAttrs_list h2 h3 h1 (pe_var hN hv hd hcd) h (base_plain rfl) (few_of hs hl) hln (star_cons hs'.1) (star_back hs'.2)) fun σ H Q ⟨ρ, c, r, S, h⟩ => ?_
  simp only [ev, evP] at h
  split at h
  · rename_i ok
    have g : ∃ n ds, getE ρ i = some (n, .list ds) := by
      cases q : getE ρ i with
      | none => rw [q] at ok; cases m <;> cases hm <;> cases ok
      | some p =>
        obtain ⟨n, d⟩ := p
        rw [q] at ok
        cases d <;> first | exact ⟨n, _, rfl⟩ | (cases m <;> cases hm <;> cases ok)
    obtain ⟨n, ds, g⟩ := g
    obtain ⟨v, e1, e2⟩ := envs_at S g
    obtain ⟨a, ys, rfl, sq, _, _⟩ := e2.lst'
    refine ⟨_, e1, .inl ⟨rfl, ys, sq⟩, useA (MS.start S) h fun bs ρ2 us ws H2 e3 m2 wv h2 => ?_⟩
    obtain rfl := wv.same hn
    exact mut_end (by rw [hm]; rfl) (by simpa using m2) e1 h2
  · exact h.elim
theorem s_mut0 {m : Mu} {id : String} {nm x : Str} {i : Nat} {p ap : Pos} (hm : muV m = some (id, nm)) (hN : X.N[i]? = some x) (hv : Vis X.env.scope x) (hd : (x == ("__debug__" : Str)) = false) (hcd : (x == ("__classdict__" : Str)) = false)
    (hln : (ap.endLine == pos.line) = true) : PE X (.Call (.Attribute (.Name x p) nm ap) [] [] pos) (RD T ea X W C (.mut m (.pv i) .nil)) := by
  obtain ⟨h1, h2, h3⟩ := rmu_ok (X := X) hm
  refine pe_imp (pe_bm0 PySem.F.plainAttrs_list h2 h3 h1 (pe_var hN hv hd hcd) (base_plain rfl) hln) fun σ H Q ⟨ρ, c, r, S, h⟩ => ?_
  simp only [ev, evP] at h
  split at h
  · rename_i ok
    have g : ∃ n ds, getE ρ i = some (n, .list ds) := by
      cases q : getE ρ i with
      | none => rw [q] at ok; cases m <;> cases hm <;> cases ok
      | some p =>
        obtain ⟨n, d⟩ := p
        rw [q] at ok
        cases d <;> first | exact ⟨n, _, rfl⟩ | (cases m <;> cases hm <;> cases ok)
    obtain ⟨n, ds, g⟩ := g
    obtain ⟨v, e1, e2⟩ := envs_at S g
    obtain ⟨a, ys, rfl, sq, _, _⟩ := e2.lst'
    simp only [evs, R.bind_ok] at h
    exact ⟨_, e1, .inl ⟨rfl, ys, sq⟩, mut_end (by rw [hm]; rfl) (MS.start S) e1 h⟩
  · exact h.elim
/-! ### quiet expressions -/
/-- a way into a tree, in the heap -/
inductive Chain (K : Frag) (H : Hp) : V → List D → V → Prop
  | nil {v : V} : Chain K H v [] v
  | cons {v y z : V} {k : D} {ks : List D} : (∀ w, Dd K H w k → Stp K H v w y) → Chain K H y ks z → Chain K H v (k :: ks) z
theorem Chain.split {K : Frag} {H : Hp} {z : V} {k : D} : ∀ {v : V} {ks : List D}, Chain K H v (ks ++ [k]) z → ∃ y, Chain K H v ks y ∧ ∀ w, Dd K H w k → Stp K H y w z
  | v, [], h => by
    cases h with
    | cons s r => cases r; exact ⟨v, .nil, s⟩
  | v, _ :: ks, h => by
    cases h with
    | cons s r =>
      obtain ⟨y, h1, h2⟩ := Chain.split r
      exact ⟨y, .cons s h1, h2⟩
theorem idx_dd {K : Frag} {H : Hp} {v : V} {d e x : D} (h : Dd K H v d) (ex : idxD d e = some x) : ∃ y, (∀ w, Dd K H w e → Stp K H v w y) ∧ Dd K H y x := by
  obtain ⟨y, h1, c', _, q⟩ := idx_part (Rp.sh (H := H) h) (fun _ _ e => e) ex
  exact ⟨y, h1, Rp.view (fun _ _ e => e) (q H (fun _ _ e => e) fun _ _ _ e => e) fun _ _ _ e => e⟩
theorem chain_of {K : Frag} {H : Hp} : ∀ {ks : List D} {v : V} {d e : D}, Dd K H v d → getP d ks = some e → ∃ y, Chain K H v ks y ∧ Dd K H y e
  | [], v, d, e, h, g => by
    unfold getP at g; cases g
    exact ⟨v, .nil, h⟩
  | k :: ks, v, d, e, h, g => by
    unfold getP at g
    cases q : idxD d k with
    | none => rw [q] at g; cases g
    | some x =>
      rw [q] at g
      obtain ⟨y, h1, h2⟩ := idx_dd h q
      obtain ⟨z, h3, h4⟩ := chain_of h2 g
      exact ⟨z, .cons h1 h3, h4⟩
def rdQ (K : KF) (k : E) : TE := fun σ H Q => ∃ ρ c r d, StR K r σ H ρ c ∧ evQ k ρ = some d ∧ ∀ u, Dd K H u d → Q u H
def rdP (K : KF) (k : E) : TE := fun σ H Q => ∃ ρ c r i ks v y, StR K r σ H ρ c ∧ evP k ρ = some (i, ks) ∧ σ[i]? = some (some v) ∧ Chain K H v ks y ∧ Q y H
theorem q_int {i : Int} {j pos} : PE X (.Constant (.int i) j pos) (rdQ (kf T X) (.int i)) := pe_imp pe_int fun σ H Q ⟨ρ, c, r, d, S, e, h⟩ => by
  simp only [evQ, Option.some.injEq] at e
  subst e
  exact h _ (.int _)
theorem q_str {i : Str} {j pos} : PE X (.Constant (.str i) j pos) (rdQ (kf T X) (.str i)) := pe_imp pe_str fun σ H Q ⟨ρ, c, r, d, S, e, h⟩ => by
  simp only [evQ, Option.some.injEq] at e
  subst e
  exact h _ (.str _)
theorem q_loc {i : Nat} {x : Str} (hN : X.N[i]? = some x) (hv : Vis X.env.scope x) (hd : (x == ("__debug__" : Str)) = false) (hcd : (x == ("__classdict__" : Str)) = false) : PE X (.Name x pos) (fun σ H Q => ∃ ρ c r d, StR (kf T X) r σ H ρ c ∧ (getE ρ i).map (·.2) = some d ∧ ∀ u, Dd X.K H u d → Q u H) :=
  pe_imp (pe_var hN hv hd hcd) fun σ H Q ⟨ρ, c, r, d, S, e, h⟩ => by
    obtain ⟨⟨n, d'⟩, g, rfl⟩ := Option.map_eq_some_iff.mp e
    obtain ⟨v, h1, h2⟩ := envs_at S g
    exact ⟨v, h1, h _ h2⟩
theorem q_var {i : Nat} {x : Str} (hN : X.N[i]? = some x) (hv : Vis X.env.scope x) (hd : (x == ("__debug__" : Str)) = false) (hcd : (x == ("__classdict__" : Str)) = false) : PE X (.Name x pos) (rdQ (kf T X) (.var i)) :=
  pe_imp (q_loc hN hv hd hcd) fun σ H Q ⟨ρ, c, r, d, S, e, h⟩ => ⟨ρ, c, r, d, S, by simpa only [evQ] using e, h⟩
theorem q_bor {i : Nat} {x : Str} (hN : X.N[i]? = some x) (hv : Vis X.env.scope x) (hd : (x == ("__debug__" : Str)) = false) (hcd : (x == ("__classdict__" : Str)) = false) : PE X (.Name x pos) (rdQ (kf T X) (.bor i)) :=
  pe_imp (q_loc hN hv hd hcd) fun σ H Q ⟨ρ, c, r, d, S, e, h⟩ => ⟨ρ, c, r, d, S, by simpa only [evQ] using e, h⟩
theorem q_bin {op : Op} {a b : E} {x y : Expr} (ha : PE X x (rdQ (kf T X) a)) (hb : PE X y (rdQ (kf T X) b)) : PE X (.BinOp x (opOf op) y pos) (rdQ (kf T X) (.bin op a b)) :=
  pe_imp (pe_op (rop_ok op) ha hb) fun σ H Q ⟨ρ, c, r, d, S, e, h⟩ => by
    simp only [evQ] at e
    split at e
    · rename_i i j e1 e2
      refine ⟨ρ, c, r, _, S, e1, fun u hu => ⟨ρ, c, r, _, S, e2, fun w hw => ?_⟩⟩
      obtain ⟨x, e3, rfl⟩ := Option.map_eq_some_iff.mp e
      obtain rfl := hu.int'
      obtain rfl := hw.int'
      cases op <;> simp only [opD, Option.some.injEq, Option.ite_none_right_eq_some, Bool.and_eq_true] at e3
      · subst e3; exact .inl (.inl ⟨_, _, rfl, rfl, h _ (.int _)⟩)
      · subst e3; exact ⟨_, _, rfl, rfl, h _ (.int _)⟩
      · obtain ⟨h1, rfl⟩ := e3
        exact .inl ⟨_, _, rfl, rfl, by have := bits_log (by decide) h1.1; have := bits_log (by decide) h1.2; unfold CMulW; omega, h _ (.int _)⟩
      · obtain ⟨h1, rfl⟩ := e3
        exact ⟨_, _, rfl, rfl, ⟨of_decide_eq_true h1.1, by have := bits_log (by decide) h1.2; omega⟩, h _ (.int _)⟩
      · obtain ⟨h1, rfl⟩ := e3
        exact ⟨_, _, rfl, rfl, of_decide_eq_true h1, h _ (.int _)⟩
      · obtain ⟨h1, rfl⟩ := e3
        exact ⟨_, _, rfl, rfl, pow_bits (by simpa using h1), h _ (.int _)⟩
    · cases e
theorem q_neg {a : E} {x : Expr} (ha : PE X x (rdQ (kf T X) a)) : PE X (.UnaryOp .USub x pos) (rdQ (kf T X) (.neg a)) :=
  pe_imp (pe_un un_neg ha) fun σ H Q ⟨ρ, c, r, d, S, e, h⟩ => by
    simp only [evQ] at e
    split at e
    · rename_i i e1
      cases e
      refine ⟨ρ, c, r, _, S, e1, fun u hu => ?_⟩
      obtain rfl := hu.int'
      exact ⟨_, rfl, h _ (.int _)⟩
    · cases e
theorem q_idx (hu : X.A.units + 1 < cLine) {a k : E} {x y : Expr} (ha : PE X x (rdQ (kf T X) a)) (hk : PE X y (rdQ (kf T X) k)) (hs : PlainIx y) : PE X (.Subscript x y pos) (rdQ (kf T X) (.idx a k)) :=
  pe_imp (pe_ix (rix_ok hu) ha hk hs) fun σ H Q ⟨ρ, c, r, d, S, e, h⟩ => by
    simp only [evQ] at e
    split at e
    · rename_i d1 d2 e1 e2
      refine ⟨ρ, c, r, _, S, e1, fun u hu => ⟨ρ, c, r, _, S, e2, fun w hw => ?_⟩⟩
      obtain ⟨y, h1, h2⟩ := idx_dd hu e
      exact h1 w hw _ (h _ h2)
    · cases e
theorem len_view {K : Frag} {H : Hp} {u : V} {d : D} {z : Nat × D} {Q : VK} (h : Dd K H u d) (e : biD .len [(0, d)] = some z) (hQ : ∀ w, Dd K H w z.2 → Q w H) : rbi K .len [u] H Q := by
  cases d <;> simp only [biD, Option.some.injEq, Option.ite_none_right_eq_some, reduceCtorEq] at e
  · obtain rfl := h.str'
    obtain ⟨e0, rfl⟩ := e
    exact .inl (.inl ⟨_, _, rfl, ⟨by rw [sizeLine_eq]; exact e0, rfl⟩, hQ _ (.int _)⟩)
  · subst e
    obtain ⟨a, xs, rfl, sq, _, l⟩ := h.lst'
    exact .inl (.inl ⟨_, _, rfl, .inl ⟨xs, sq, rfl⟩, by rw [l.len]; exact hQ _ (.int _)⟩)
  · subst e
    obtain ⟨a, xs, rfl, sq, _, l⟩ := h.tup'
    exact .inl (.inl ⟨_, _, rfl, .inr ⟨xs, sq, rfl⟩, by rw [l.len]; exact hQ _ (.int _)⟩)
  · subst e
    cases h with
    | @dk a ks vs ds e1 hl ha =>
      refine .inl (.inr ⟨a, _, rfl, e1, ?_⟩)
      have := hQ (.int (bare ((ks.map kD).zip ds)).length) (.int _)
      rw [bare_k (hl.trans ha.len)] at this
      rw [List.length_zip, ← hl, Nat.min_self]
      exact this
    | @dt a ks vs ds e1 hl ha =>
      refine .inr ⟨a, _, rfl, e1, ?_⟩
      have := hQ (.int (bare (mrk :: (ks.map tD).zip ds)).length) (.int _)
      have e3 : (bare (mrk :: (ks.map tD).zip ds)).length = ((ks.map tD).zip ds).length := rfl
      rw [e3, List.length_zip, List.length_map] at this
      rw [List.length_zip, ha.len]
      exact this
theorem q_len (hu : X.A.units + 8 < cLine) {a : E} {x : Expr} {p : Pos} (hg : Gl X "len") (hm : X.mg "len" = none) (ha : PE X x (rdQ (kf T X) a)) (hs : notStar x = true) : PE X (.Call (.Name "len" p) [x] [] pos) (rdQ (kf T X) (.bi .len (.cons a .nil))) :=
  pe_imp (pe_callB (rbi_ok (X := X) hu (b := .len) rfl (fun h => by cases h)) hg hm rfl (pa_cons ha pa_nil (star_cons hs)) (by decide) (by decide) (star_cons hs) rfl) fun σ H Q ⟨ρ, c, r, d, S, e, h⟩ => by
    simp only [evQ] at e
    split at e
    · rename_i d1 e1
      refine ⟨ρ, c, r, _, S, e1, fun u hu => ?_⟩
      obtain ⟨z, e2, rfl⟩ := Option.map_eq_some_iff.mp e
      exact len_view hu e2 h
    · cases e
theorem p_pv {i : Nat} {x : Str} (hN : X.N[i]? = some x) (hv : Vis X.env.scope x) (hd : (x == ("__debug__" : Str)) = false) (hcd : (x == ("__classdict__" : Str)) = false) : PE X (.Name x pos) (rdP (kf T X) (.pv i)) :=
  pe_imp (pe_var hN hv hd hcd) fun σ H Q ⟨ρ, c, r, j, ks, v, y, S, e, hv, ch, h⟩ => by
    simp only [evP, Option.some.injEq, Prod.mk.injEq] at e
    obtain ⟨rfl, rfl⟩ := e
    cases ch
    exact ⟨_, hv, h⟩
theorem p_pi (hu : X.A.units + 1 < cLine) {a k : E} {x y : Expr} (ha : PE X x (rdP (kf T X) a)) (hk : PE X y (rdQ (kf T X) k)) (hs : PlainIx y) : PE X (.Subscript x y pos) (rdP (kf T X) (.pi a k)) :=
  pe_imp (pe_ix (rix_ok hu) ha hk hs) fun σ H Q ⟨ρ, c, r, i, ks, v, z, S, e, hv, ch, h⟩ => by
    simp only [evP] at e
    split at e
    · rename_i j ks' d e1 e2
      simp only [Option.some.injEq, Prod.mk.injEq] at e
      obtain ⟨rfl, rfl⟩ := e
      obtain ⟨y, c1, c2⟩ := ch.split
      exact ⟨ρ, c, r, _, _, _, _, S, e1, hv, c1, ρ, c, r, _, S, e2, fun w hw => c2 w hw _ h⟩
    · cases e
theorem q_rdp {a : E} {x : Expr} (ha : PE X x (rdP (kf T X) a)) : PE X x (rdQ (kf T X) (.rdp a)) :=
  pe_imp ha fun σ H Q ⟨ρ, c, r, d, S, e, h⟩ => by
    simp only [evQ] at e
    split at e
    · rename_i i ks e1
      split at e
      · rename_i n d' g
        obtain ⟨v, h1, h2⟩ := envs_at S g
        obtain ⟨y, h3, h4⟩ := chain_of h2 e
        exact ⟨ρ, c, r, i, ks, v, y, S, e1, h1, h3, h _ h4⟩
      · cases e
    · cases e
theorem s_rdp {a : E} {x : Expr} (ha : PE X x (rdP (kf T X) a)) : PE X x (RD T ea X W C (.rdp a)) :=
  pe_imp ha fun σ H Q ⟨ρ, c, r, S, h⟩ => by
    simp only [ev] at h
    split at h
    · rename_i i ks e1
      split at h
      · rename_i n d' g
        split at h
        · rename_i e e2
          split at h
          · rename_i ae
            obtain ⟨v, h1, h2⟩ := envs_at S g
            obtain ⟨y, h3, h4⟩ := chain_of h2 e2
            exact ⟨ρ, c, r, i, ks, v, y, S, e1, h1, h3, h _ _ (fin_at (MS.start S) 9 ae (h4.atom ae))⟩
          · exact h.elim
        · exact h.elim
      · exact h.elim
    · exact h.elim
theorem s_qt {a : E} {x : Expr} (ha : PE X x (rdQ (kf T X) a)) : PE X x (RD T ea X W C (.qt a)) :=
  pe_imp ha fun σ H Q ⟨ρ, c, r, S, h⟩ => by
    simp only [ev] at h
    split at h
    · rename_i d e1
      split at h
      · rename_i ae
        exact ⟨ρ, c, r, d, S, e1, fun u hu => h _ _ (fin_at (MS.start S) 9 ae (hu.atom ae))⟩
      · exact h.elim
    · exact h.elim
/-- a comparison with a quiet second side -/
theorem s_cmpQ_rd {op : Cp} {a q : E} {σ : L2.St} {H : Hp} {Q : VK} (h : RD T ea X W C (.cmpQ op a q) σ H Q) : tOp (rcp X.K op) (RD T ea X W C a) (rdQ (kf T X) q) σ H Q := by
  obtain ⟨ρ, c, r, S, h⟩ := h
  refine useE (MS.start S) (by have h' := h; simp only [ev] at h'; exact h') fun v ρ1 u H1 e1 m1 h1 => ?_
  split at h1
  · rename_i d e2
    have m1' := m1
    obtain ⟨c1, cv, S1, R1, L1, k1⟩ := m1
    refine ⟨ρ1, c1, add r cv, d, S1, e2, fun w hw => ?_⟩
    obtain ⟨z, e3, h3⟩ := aft_ofO h1
    obtain ⟨k, e4, rfl⟩ := Option.map_eq_some_iff.mp e3
    obtain ⟨_, e5, g1⟩ := (MS.view m1').one'
    cases e5
    exact cmp_snd g1 hw e4 (h3 _ _ (fin_at m1' 9 rfl fun _ => .bl _))
  · exact h1.elim
theorem s_cmpQ (hu : X.A.units + 65 < cLine) {op : Cp} {a q : E} {x y : Expr} (ha : PE X x (RD T ea X W C a)) (hb : PE X y (rdQ (kf T X) q)) (hm : behindInMarks (cpOf op) y = false) : PE X (.Compare x [cpOf op] [y] pos) (RD T ea X W C (.cmpQ op a q)) :=
  pe_imp (pe_cmpR (rcp_ok hu op) ha hb hm) fun σ H Q h => s_cmpQ_rd h
theorem t_cmpQ (hu : X.A.units + 65 < cLine) {op : Cp} {a q : E} {x y : Expr} (ha : PE X x (RD T ea X W C a)) (hb : PE X y (rdQ (kf T X) q)) (hm : behindInMarks (cpOf op) y = false) : PT X (.Compare x [cpOf op] [y] pos) (RT T ea X W C (.cmpQ op a q)) :=
  pt_imp (pt_cmpR (rcp_ok hu op) ha hb hm) fun σ H Q h => s_cmpQ_rd (rdT_of h)
/-- a local held while the other side is asked -/
theorem hold {r c : Cnt} {σ : L2.St} {H : Hp} {ρ : Env} {i : Nat} {v : Nat × PL.D} (S : StR (kf T X) r σ H ρ c) (g : getE ρ i = some v) : ∃ u, σ[i]? = some (some u) ∧ MS (kf T X) r σ H c H (setE ρ i none) [u] [v] := by
  obtain ⟨n, d⟩ := v
  obtain ⟨u, ci, c2, h1, rfl, S2, h2⟩ := to_hand (cv := zro) (by rw [add_zro]; exact S) g
  rw [add_zro] at S2 h2
  have l : Lk H (add (add ci c2) r) H (add c2 (add r ci)) := Lk.less fun b => by unfold add; omega
  refine ⟨u, h1, c2, ci, S2, ?_, l, fun _ _ => rfl⟩
  have z := Rpl.cons (Rp.mono l h2 fun _ _ => rfl) .nil
  rw [add_zro] at z
  exact z
/-- .. and given back behind an atom -/
theorem give {r c : Cnt} {σ : L2.St} {H H1 : Hp} {ρ1 : Env} {i : Nat} {v : Nat × PL.D} {u y : V} {us : List V} {as : List (Nat × PL.D)} {d : PL.D} (hv : σ[i]? = some (some u)) (m : MS (kf T X) r σ H c H1 ρ1 (u :: us) (v :: as)) (ha : atm d = true) (hd : ∀ G, Dd X.K G y d) : Po (kf T X) r σ H c (9, d) (setE ρ1 i (some v)) y H1 := by
  obtain ⟨n, dv⟩ := v
  obtain ⟨c1, cv, S, R, L, k⟩ := m
  cases R with
  | @cons _ _ _ _ _ ci cr x R =>
  obtain ⟨c1', le, E⟩ := Envs.drop i S.env
  have l0 : Lk H1 (add c1 (add r (add ci cr))) H1 (add c1' (add r (add ci cr))) := Lk.less fun b => by have := le b; unfold add; omega
  have S2 : StR (kf T X) (add r (add ci cr)) σ H1 (setE ρ1 i none) c1' := ⟨S.fxs, Envs.mono l0 E fun _ _ => rfl, fun b => by have := S.lin b; have := le b; omega, S.ex⟩
  have S3 := of_hand (cv := cr) S2 hv (Rp.mono l0 x fun _ _ => rfl)
  have l : Lk H1 (add c1 (add r (add ci cr))) H1 (add (add ci c1') (add r zro)) := Lk.less fun b => by have := le b; unfold add zro; omega
  refine ⟨add ci c1', zro, ⟨S3.fxs, Envs.mono ?_ S3.env fun _ _ => rfl, fun b => by have := S3.lin b; unfold add zro at *; omega, fun b hb => S3.ex b (by unfold add zro at *; omega)⟩, ?_, L.trans l, k⟩
  · exact Lk.less fun b => by unfold add zro; omega
  · have z := Rpl.cons (K := X.K) (F := hid H1 (add (add ci c1') (add r zro))) (H := H1) (n := 9) (Rp.at_ ha hd) .nil
    rw [add_zro] at z
    exact z
/-- a comparison whose first side is a local that is only looked at -/
theorem s_cmpB_rd {op : Cp} {i : Nat} {b : E} {σ : L2.St} {H : Hp} {Q : VK} (h : RD T ea X W C (.cmpB op i b) σ H Q) : tOp (rcp X.K op) (tVar i) (RD T ea X W C b) σ H Q := by
  obtain ⟨ρ, c, r, S, h⟩ := h
  simp only [ev] at h
  cases g : getE ρ i with
  | none => rw [g] at h; exact h.elim
  | some v =>
    rw [g] at h
    obtain ⟨u, hv, m⟩ := hold (T := T) S g
    refine ⟨u, hv, useE m h fun w ρ1 u2 H1 e1 m1 h1 => ?_⟩
    obtain ⟨z, e3, h3⟩ := aft_ofO h1
    obtain ⟨k, e4, rfl⟩ := Option.map_eq_some_iff.mp e3
    obtain ⟨_, _, e5, g1, g2⟩ := (MS.view m1).two'
    cases e5
    exact cmp_snd g1 g2 e4 (h3 _ _ (give hv m1 rfl fun _ => .bl _))
theorem s_cmpB (hu : X.A.units + 65 < cLine) {op : Cp} {i : Nat} {b : E} {x : Str} {p : Pos} {y : Expr} (hN : X.N[i]? = some x) (hv : Vis X.env.scope x) (hd : (x == ("__debug__" : Str)) = false) (hcd : (x == ("__classdict__" : Str)) = false) (hb : PE X y (RD T ea X W C b)) (hm : behindInMarks (cpOf op) y = false) :
    PE X (.Compare (.Name x p) [cpOf op] [y] pos) (RD T ea X W C (.cmpB op i b)) := pe_imp (pe_cmpR (rcp_ok hu op) (pe_var hN hv hd hcd) hb hm) fun σ H Q h => s_cmpB_rd h
theorem t_cmpB (hu : X.A.units + 65 < cLine) {op : Cp} {i : Nat} {b : E} {x : Str} {p : Pos} {y : Expr} (hN : X.N[i]? = some x) (hv : Vis X.env.scope x) (hd : (x == ("__debug__" : Str)) = false) (hcd : (x == ("__classdict__" : Str)) = false) (hb : PE X y (RD T ea X W C b)) (hm : behindInMarks (cpOf op) y = false) :
    PT X (.Compare (.Name x p) [cpOf op] [y] pos) (RT T ea X W C (.cmpB op i b)) := pt_imp (pt_cmpR (rcp_ok hu op) (pe_var hN hv hd hcd) hb hm) fun σ H Q h => s_cmpB_rd (rdT_of h)
end
end PL

/-! PL14: iterators; dict displays. -/
namespace PL
open PySem L2
open PySem (PyData Str)
/-- what an iterator gives out -/
structure ItOk (K : Frag) (J : It) (ds : List D) (F : Hp) : Prop where
  stop : ∀ H, Same F H → J.stop ds.length H
  go : ∀ i H, Same F H → i < ds.length → J.go i H
  yld : ∀ i H x H', Same F H → J.yld i H x H' → ∀ d, ds[i]? = some d → (∀ b o, H b = some o → H' b = some o) ∧ ∀ G, Same F G → (∀ b o, H b = none → H' b = some o → G b = some o) → Dd K G x d
theorem ItOk.mono {K : Frag} {J : It} {ds : List D} {F F' : Hp} (h : ItOk K J ds F) (s : Same F F') : ItOk K J ds F' :=
  ⟨fun H q => h.stop H fun a o e => q a o (s a o e), fun i H q hi => h.go i H (fun a o e => q a o (s a o e)) hi, fun i H x H' q y d e => by
    obtain ⟨h1, h2⟩ := h.yld i H x H' (fun a o e => q a o (s a o e)) y d e
    exact ⟨h1, fun G sg gg => h2 G (fun a o e => sg a o (s a o e)) gg⟩⟩
theorem ito_list {K : Frag} {F : Hp} {a : Addr} {xs : List V} {ds : List D} (s : SqL K F a xs) (l : DdAll K F xs ds) : ItOk K (Itl K a) ds F :=
  ⟨fun H q => ⟨xs, SqL.mono q s, by rw [l.len]; exact Nat.le_refl _⟩, fun i H q hi => ⟨xs, xs[i]'(by rw [l.len]; exact hi), SqL.mono q s, by simp⟩, fun i H x H' q y d e => by
    obtain ⟨rfl, y⟩ := y
    obtain ⟨v, h1, h2⟩ := Dd.get l e
    have e2 : some v = some x := h1.symm.trans (y xs (SqL.mono q s))
    cases e2
    exact ⟨fun _ _ e => e, fun G sg _ => Dd.mono sg h2⟩⟩
theorem ito_tup {K : Frag} {F : Hp} {a : Addr} {xs : List V} {ds : List D} (s : SqT K F a xs) (l : DdAll K F xs ds) : ItOk K (Itt K a) ds F :=
  ⟨fun H q => ⟨xs, SqT.mono q s, by rw [l.len]; exact Nat.le_refl _⟩, fun i H q hi => ⟨xs, xs[i]'(by rw [l.len]; exact hi), SqT.mono q s, by simp⟩, fun i H x H' q y d e => by
    obtain ⟨rfl, y⟩ := y
    obtain ⟨v, h1, h2⟩ := Dd.get l e
    have e2 : some v = some x := h1.symm.trans (y xs (SqT.mono q s))
    cases e2
    exact ⟨fun _ _ e => e, fun G sg _ => Dd.mono sg h2⟩⟩
theorem rng_len : ∀ (n : Nat) (a : Int), (rng a n).length = n
  | 0, _ => rfl
  | n + 1, a => by unfold rng; rw [List.length_cons, rng_len n]
theorem rng_get : ∀ (n i : Nat) (a : Int), i < n → (rng a n)[i]? = some (.int (a + (i : Nat)))
  | 0, i, a, h => absurd h (Nat.not_lt_zero _)
  | n + 1, 0, a, h => by simp [rng]
  | n + 1, i + 1, a, h => by
    unfold rng
    rw [List.getElem?_cons_succ, rng_get n i (a + 1) (by omega)]
    congr 2
    omega
theorem ito_range {K : Frag} {F : Hp} (lo : Int) (n : Nat) : ItOk K (Itr lo n) (rng lo n) F :=
  ⟨fun H q => by rw [rng_len]; exact Nat.le_refl _, fun i H q hi => by rw [rng_len] at hi; exact hi, fun i H x H' q y d e => by
    obtain ⟨rfl, rfl⟩ := y
    have hi : i < n := by
      by_cases z : i < n
      · exact z
      · rw [List.getElem?_eq_none (by rw [rng_len]; omega)] at e; cases e
    rw [rng_get n i lo hi] at e
    cases e
    exact ⟨fun _ _ e => e, fun G _ _ => .int _⟩⟩
theorem enum_get : ∀ (ds : List D) (k : Int) (i : Nat), (enumL k ds)[i]? = (ds[i]?).map fun d => .tuple [.int (k + (i : Nat)), d]
  | [], _, i => by simp [enumL]
  | x :: r, k, 0 => by simp [enumL]
  | x :: r, k, i + 1 => by
    unfold enumL
    rw [List.getElem?_cons_succ, List.getElem?_cons_succ, enum_get r (k + 1) i]
    congr 1
    funext d
    congr 3
    omega
theorem enum_len : ∀ (ds : List D) (k : Int), (enumL k ds).length = ds.length
  | [], _ => rfl
  | x :: r, k => by unfold enumL; rw [List.length_cons, List.length_cons, enum_len r]
theorem ito_enum {K : Frag} {F : Hp} {a : Addr} {xs : List V} {ds : List D} (s : SqL K F a xs) (l : DdAll K F xs ds) : ItOk K (Ite K a) (enumL 0 ds) F :=
  ⟨fun H q => ⟨xs, SqL.mono q s, by rw [l.len, enum_len]; exact Nat.le_refl _⟩, fun i H q hi => ⟨xs, xs[i]'(by rw [l.len]; rw [enum_len] at hi; exact hi), SqL.mono q s, by simp⟩, fun i H x H' q y d e => by
    obtain ⟨p, z, rfl, hp, rfl, y⟩ := y
    rw [enum_get] at e
    obtain ⟨d', e1, rfl⟩ := Option.map_eq_some_iff.mp e
    obtain ⟨v, h1, h2⟩ := Dd.get l e1
    have e2 : some v = some z := h1.symm.trans (y xs (SqL.mono q s))
    cases e2
    refine ⟨grow_upd hp, fun G sg gg => ?_⟩
    have hG := gg p _ hp upd_same
    refine .tup (.inl (.inl hG)) (.inl hG) (.cons ?_ (.cons (Dd.mono sg h2) .nil))
    rw [Int.zero_add]
    exact .int _⟩
section
variable {T : Tab} {ea : Nat → Addr} {X : Cx} {W : WX} {C : PL.C} {pos : Pos} {tg : Expr}
def aftI (T : Tab) (ea : Nat → Addr) (K : KF) (W : WX) (r : Cnt) (σ : L2.St) (H : Hp) (c : Cnt) (R' : It → Hp → Prop) : R (List D) → Prop
  | .ok ds ρ' => ∀ J H' c', StR K r σ H' ρ' c' → Lk H (add c r) H' (add c' r) → Kp r H H' → ItOk K J ds (hid H' (add c' r)) → R' J H'
  | .exc k ds ρ' => ∀ cls dx H', Px T ea K r σ H c k ds ρ' cls dx H' → W cls dx σ H'
  | .bad => False
def rdI (T : Tab) (ea : Nat → Addr) (K : KF) (W : WX) (C : PL.C) (e : E) : TI := fun σ H R' => ∃ ρ c r, StR K r σ H ρ c ∧ aftI T ea K W r σ H c R' (evI C e ρ)
abbrev RI (T : Tab) (ea : Nat → Addr) (X : Cx) (W : WX) (C : PL.C) (e : E) : TI := rdI T ea (kf T X) W C e
theorem pi_imp {e : Expr} {t t' : TI} (h : PI X tg e t) (k : ∀ σ H Q, t' σ H Q → t σ H Q) : PI X tg e t' := ⟨fun pins s σ H Q I q => h.run pins s σ H Q I (k _ _ _ q)⟩
theorem aftI_bind {α : Type} {K : KF} {r c : Cnt} {σ : L2.St} {H : Hp} {R' : It → Hp → Prop} {x : R α} {k : α → Env → R (List D)} (h : aftI T ea K W r σ H c R' (x.bind k)) :
    (∃ a ρ', x = .ok a ρ' ∧ aftI T ea K W r σ H c R' (k a ρ')) ∨ ∃ kk ds ρ', x = .exc kk ds ρ' ∧ ∀ cls dx H', Px T ea K r σ H c kk ds ρ' cls dx H' → W cls dx σ H' := by
  cases x with
  | ok a ρ' => exact .inl ⟨a, ρ', rfl, h⟩
  | exc kk ds ρ' => exact .inr ⟨kk, ds, ρ', rfl, h⟩
  | bad => exact h.elim
theorem useI {K : KF} {r c : Cnt} {σ : L2.St} {H H1 : Hp} {ρ1 : Env} {vs : List V} {as : List (Nat × D)} {R' : It → Hp → Prop} {e : E} {k : (Nat × D) → Env → R (List D)} {Q' : VK} (m : MS K r σ H c H1 ρ1 vs as) (h : aftI T ea K W r σ H c R' ((ev C e ρ1).bind k))
    (hk : ∀ v ρ2 u H2, ev C e ρ1 = .ok v ρ2 → MS K r σ H c H2 ρ2 (vs ++ [u]) (as ++ [v]) → aftI T ea K W r σ H c R' (k v ρ2) → Q' u H2) : rd T ea K W C e σ H1 Q' := by
  rcases aftI_bind h with ⟨a, ρ', e1, h1⟩ | ⟨kk, ds, ρ', e1, h1⟩
  · exact use m (fun _ _ _ _ _ _ e2 => by rw [e1] at e2; cases e2) (by rw [e1]; intro z; cases z) fun v ρ2 u H2 e2 m2 => by
      rw [e1] at e2; cases e2
      exact hk _ _ _ _ e1 m2 h1
  · exact use m (fun _ _ _ _ _ _ e2 p => by rw [e1] at e2; cases e2; exact h1 _ _ _ p) (by rw [e1]; intro z; cases z) fun v ρ2 u H2 e2 m2 => by
      rw [e1] at e2; cases e2
/-- the values at hand shared from now on -/
theorem MS.share {K : KF} {r c : Cnt} {σ : L2.St} {H H1 : Hp} {ρ1 : Env} {vs : List V} {as : List (Nat × D)} (m : MS K r σ H c H1 ρ1 vs as) :
    ∃ c', StR K r σ H1 ρ1 c' ∧ Lk H (add c r) H1 (add c' r) ∧ Kp r H H1 ∧ DdAll K (hid H1 (add c' r)) vs (as.map (·.2)) := by
  obtain ⟨c1, cv, S, R, L, k⟩ := m
  have l : Lk H1 (add c1 (add r cv)) H1 (add c1 r) := Lk.less fun a => by unfold add; omega
  refine ⟨c1, ⟨S.fxs, Envs.mono l S.env fun _ _ => rfl, fun a => by have := S.lin a; unfold add at this; omega, fun a ha => S.ex a (by unfold add; omega)⟩, L.trans l, k, ?_⟩
  have kk : ∀ b o, 0 < cv b → H1 b = some o → hid H1 (add c1 r) b = some o := fun b o hb e => hid_some.mpr ⟨by have := S.lin b; unfold add at *; omega, e⟩
  have go : ∀ {vs : List V} {as : List (Nat × D)} {cc : Cnt}, Rpl K (hid H1 (add c1 (add r cv))) H1 vs as cc → (∀ b o, 0 < cc b → H1 b = some o → hid H1 (add c1 r) b = some o) → DdAll K (hid H1 (add c1 r)) vs (as.map (·.2)) := by
    intro vs as cc R q
    induction R with
    | nil => exact .nil
    | cons x _ ih => exact .cons (Rp.view l x fun b o hb e => q b o (by unfold add; omega) e) (ih fun b o hb e => q b o (by unfold add; omega) e)
  exact go R kk
theorem i_seq {a : E} {x : Expr} (ha : PE X x (RD T ea X W C a)) : PI X tg x (RI T ea X W C (.iseq a)) := by
  refine ⟨fun pins s σ H R' I h => ?_⟩
  obtain ⟨ρ, c, r, S, h⟩ := h
  simp only [evI] at h
  have base : ∀ (f : ∀ n ds ρ1, ev C a ρ ≠ .ok (n, .tuple ds) ρ1), wpAny (model X.prog X.w) X.A (eval x X.env) (fun v s1 => wpAny (model X.prog X.w) X.A (pyIter v) (PIE X pins σ tg R') X.xe s1) X.xe s := fun f =>
    (pi_list ha).run pins s σ H R' I (useI (MS.start S) h fun v ρ1 u H1 e1 m1 h1 => by
      obtain ⟨n, d⟩ := v
      obtain ⟨c', S', L', k', dd⟩ := MS.share m1
      obtain ⟨_, e2, g⟩ := dd.one'
      cases e2
      cases d <;> simp only [itemsOf] at h1 <;> try exact h1.elim
      · obtain ⟨p, xs, rfl, sq, _, l⟩ := g.lst'
        exact ⟨p, rfl, ⟨xs, SqL.mono hid_sub sq⟩, h1 _ _ c' S' L' k' (ito_list sq l)⟩
      · exact absurd e1 (f _ _ _))
  cases e : ev C a ρ with
  | ok v ρ1 =>
    obtain ⟨n, d⟩ := v
    cases d with
    | tuple ds =>
      exact (pi_tup ha).run pins s σ H R' I (useI (MS.start S) h fun v ρ1 u H1 e1 m1 h1 => by
        rw [e] at e1
        cases e1
        obtain ⟨c', S', L', k', dd⟩ := MS.share m1
        obtain ⟨_, e2, g⟩ := dd.one'
        cases e2
        obtain ⟨p, xs, rfl, sq, _, l⟩ := g.tup'
        exact ⟨p, rfl, ⟨xs, SqT.mono hid_sub sq⟩, h1 _ _ c' S' L' k' (ito_tup sq l)⟩)
    | _ => exact base fun n ds ρ2 z => by rw [e] at z; cases z
  | exc k ds ρ1 => exact base fun n ds ρ2 z => by rw [e] at z; cases z
  | bad => exact base fun n ds ρ2 z => by rw [e] at z; cases z
theorem aftI_ofO {K : KF} {r c : Cnt} {σ : L2.St} {H : Hp} {ρ : Env} {R' : It → Hp → Prop} {o : Option (List D)} (h : aftI T ea K W r σ H c R' (ofO o ρ)) :
    ∃ ds, o = some ds ∧ ∀ J H' c', StR K r σ H' ρ c' → Lk H (add c r) H' (add c' r) → Kp r H H' → ItOk K J ds (hid H' (add c' r)) → R' J H' := by
  cases o with
  | none => exact h.elim
  | some ds => exact ⟨ds, rfl, h⟩
theorem i_rng1 {a : E} {x : Expr} {p : Pos} (hg : Gl X "range") (hm : X.mg "range" = none) (ha : PE X x (RD T ea X W C a)) (hs : notStar x = true) : PI X tg (.Call (.Name "range" p) [x] [] pos) (RI T ea X W C (.irng1 a)) :=
  pi_imp (pi_range1 hg hm (pa_cons ha pa_nil (star_cons hs)) (star_cons hs)) fun σ H R' ⟨ρ, c, r, S, h⟩ => by
    simp only [evI] at h
    refine useI (MS.start S) h fun v ρ1 u H1 e1 m1 h1 => ?_
    obtain ⟨n, d⟩ := v
    cases d <;> try exact h1.elim
    obtain ⟨ds, e3, h3⟩ := aftI_ofO h1
    obtain ⟨_, e5, g⟩ := (MS.view m1).one'
    cases e5
    obtain rfl := g.int'
    obtain ⟨ok, rfl⟩ := rgOk_of e3
    obtain ⟨c', S', L', k'⟩ := MS.forget m1
    rename_i b
    refine ⟨b, rfl, ok.2.2.1, ok.2.2.2.1, h3 _ _ c' S' L' k' ?_⟩
    rw [Int.sub_zero]
    exact ito_range 0 _
theorem i_rng2 {a b : E} {x y : Expr} {p : Pos} (hg : Gl X "range") (hm : X.mg "range" = none) (ha : PE X x (RD T ea X W C a)) (hb : PE X y (RD T ea X W C b)) (hs : notStar x = true) (hs2 : notStar y = true) : PI X tg (.Call (.Name "range" p) [x, y] [] pos) (RI T ea X W C (.irng2 a b)) :=
  pi_imp (pi_range2 hg hm (pa_cons ha (pa_cons hb pa_nil (star_cons hs2)) (star_cons hs)) (by rw [star_cons hs, star_cons hs2]; rfl) (by rw [star_cons hs2]; rfl)) fun σ H R' ⟨ρ, c, r, S, h⟩ => by
    simp only [evI] at h
    refine useI (MS.start S) h fun v ρ1 u H1 e1 m1 h1 => useI m1 h1 fun w ρ2 u2 H2 e2 m2 h2 => ?_
    obtain ⟨n, d⟩ := v
    obtain ⟨n2, d2⟩ := w
    cases d <;> cases d2 <;> try exact h2.elim
    obtain ⟨ds, e3, h3⟩ := aftI_ofO h2
    obtain ⟨_, _, e5, g, g2⟩ := (MS.view m2).two'
    cases e5
    obtain rfl := g.int'
    obtain rfl := g2.int'
    obtain ⟨ok, rfl⟩ := rgOk_of e3
    obtain ⟨c', S', L', k'⟩ := MS.forget m2
    exact ⟨_, _, rfl, ⟨ok.1, ok.2.1, ok.2.2.1, ok.2.2.2.1⟩, h3 _ _ c' S' L' k' (ito_range _ _)⟩
theorem i_enum {a : E} {x : Expr} {p tpos : Pos} {elts : List Expr} {kk : Nat} (hg : Gl X "enumerate") (hm : X.mg "enumerate" = none) (ha : PE X x (RD T ea X W C a)) (hs : notStar x = true) : PI X (.Tuple elts kk tpos) (.Call (.Name "enumerate" p) [x] [] pos) (RI T ea X W C (.ienum a)) :=
  pi_imp (pi_enum hg hm (pa_cons ha pa_nil (star_cons hs)) (star_cons hs)) fun σ H R' ⟨ρ, c, r, S, h⟩ => by
    simp only [evI] at h
    refine useI (MS.start S) h fun v ρ1 u H1 e1 m1 h1 => ?_
    obtain ⟨n, d⟩ := v
    cases d <;> try exact h1.elim
    obtain ⟨c', S', L', k', dd⟩ := MS.share m1
    obtain ⟨_, e2, g⟩ := dd.one'
    cases e2
    obtain ⟨q, xs, rfl, sq, _, l⟩ := g.lst'
    exact ⟨q, xs, rfl, SqL.mono hid_sub sq, h1 _ _ c' S' L' k' (ito_enum sq l)⟩
end
/-! ### an object at hand rewritten -/
section
variable {K : Frag} {r c : Cnt} {σ : L2.St} {H H1 : Hp} {ρ1 : Env}
theorem fin_hand {K : KF} {a : Addr} {n k : Nat} {d d' : D} {vs : List V} {as : List (Nat × D)} (m : MS K r σ H c H1 ρ1 (.ref a :: vs) ((n + 1, d) :: as)) (ha : atm d = false) :
    ∃ o, H1 a = some o ∧ ∀ o', (∀ F cc cv, Same F H1 → Ct K F H1 n o d cc → Rpl K F H1 vs as cv → Part F H1 (add cc cv) fun G c' => Ct K G H1 k o' d' c') → Po K r σ H c (k + 1, d') ρ1 (.ref a) (upd H1 a o') := by
  obtain ⟨c1, cv, S, R, L, kp⟩ := m
  cases R with
  | @cons _ _ _ _ _ ci cr h2 R =>
  obtain ⟨a', o, cc, e0, e1, rfl, ct⟩ := h2.opn ha
  cases e0
  refine ⟨o, e1, fun o' step => ?_⟩
  have eq : add (add (one a) cc) cr = add (one a) (add cc cr) := add_assoc _ _ _
  rw [eq] at S L ct R
  have pt := step _ cc cr hid_sub ct R
  obtain ⟨cv', le, S3, ct', l3, up⟩ := set_hand S o' pt
  refine ⟨c1, add (one a) cv', S3, ?_, L.trans l3, fun b hb => (up b (by unfold add; omega)).trans (kp b hb)⟩
  have z := Rpl.cons (ct'.cls upd_same fun b hb => up b (by unfold add; omega)) .nil
  rw [add_zro] at z
  exact z
end
end PL

/-! PL15: targets; list comprehensions. -/
namespace PL
open PySem L2
open PySem (PyData Str)
/-! ### targets -/
def Off (is : List Nat) (σ σ' : L2.St) : Prop := σ'.length = σ.length ∧ ∀ i, i ∉ is → σ'[i]? = σ[i]?
theorem Off.refl {is : List Nat} {σ : L2.St} : Off is σ σ := ⟨rfl, fun _ _ => rfl⟩
theorem Off.symm {is : List Nat} {σ σ' : L2.St} (a : Off is σ σ') : Off is σ' σ := ⟨a.1.symm, fun i h => (a.2 i h).symm⟩
theorem Off.trans {is : List Nat} {σ σ' σ'' : L2.St} (a : Off is σ σ') (b : Off is σ' σ'') : Off is σ σ'' := ⟨b.1.trans a.1, fun i h => (b.2 i h).trans (a.2 i h)⟩
theorem Off.more {is js : List Nat} {σ σ' : L2.St} (a : Off is σ σ') (h : ∀ i ∈ is, i ∈ js) : Off js σ σ' := ⟨a.1, fun i hi => a.2 i fun z => hi (h i z)⟩
theorem off_set {i : Nat} {is : List Nat} {σ : L2.St} {o : Option V} (h : i ∈ is) : Off is σ (σ.set i o) := ⟨List.length_set, fun j hj => by rw [List.getElem?_set_ne (fun e => hj (by rw [← e]; exact h))]⟩
theorem Envs.agree {K : Frag} {F H : Hp} : ∀ {σ σ' : L2.St} {ρ : Env} {c : Cnt}, Envs K F H σ ρ c → σ'.length = σ.length → (∀ i, getE ρ i ≠ none → σ'[i]? = σ[i]?) → Envs K F H σ' ρ c
  | _, σ', _, _, .nil, h, _ => by
    cases σ' with
    | nil => exact .nil
    | cons _ _ => simp at h
  | _, σ', _, _, .no r, h, k => by
    cases σ' with
    | nil => simp at h
    | cons o σ' => exact .no (Envs.agree r (by simpa using h) fun i hi => by simpa using k (i + 1) (by simpa [getE] using hi))
  | _, σ', _, _, .so x r, h, k => by
    cases σ' with
    | nil => simp at h
    | cons o σ' =>
      have e := k 0 (by simp [getE])
      simp at e
      subst e
      exact .so x (Envs.agree r (by simpa using h) fun i hi => by simpa using k (i + 1) (by simpa [getE] using hi))
theorem setE_ge : ∀ (ρ : Env) (i : Nat) (v : Option (Nat × D)), ρ.length ≤ i → setE ρ i v = ρ
  | [], _, _, _ => rfl
  | _ :: _, 0, _, h => by simp at h
  | o :: r, i + 1, v, h => by simp only [setE]; rw [setE_ge r i v (by simpa using h)]
section
variable {K : Frag} {r : Cnt} {H : Hp}
/-- slots that may change -/
def KF.free (K : KF) (is : List Nat) : Prop := ∀ p ∈ K.fx, p.1 ∉ is
theorem KF.ok.off {K : KF} {is : List Nat} {σ σ' : L2.St} (h : K.ok σ) (f : K.free is) (o : Off is σ σ') : K.ok σ' := fun p hp => (o.2 p.1 (f p hp)).trans (h p hp)
/-- a value at hand bound to a name -/
theorem bind_one {K : KF} {σ : L2.St} {ρ : Env} {c cv : Cnt} {i n : Nat} {u : V} {d : D} (S : StR K (add r cv) σ H ρ c) (hf : K.free [i]) (R : Rp K (hid H (add c (add r cv))) H n u d cv) :
    ∃ c', StR K r (σ.set i (some u)) H (setE ρ i (some (n, d))) c' ∧ Lk H (add c (add r cv)) H (add c' r) ∧ (∀ b, c' b ≤ c b + cv b) := by
  obtain ⟨c0, le, E0⟩ := Envs.drop i S.env
  by_cases hi : i < ρ.length
  · have l : Lk H (add c (add r cv)) H (add (add cv c0) r) := Lk.less fun b => by have := le b; unfold add; omega
    refine ⟨add cv c0, ⟨S.fxs.off hf (off_set (by simp)), ?_, fun b => by have := S.lin b; have := le b; unfold add at *; omega, fun b hb => S.ex b (by unfold add; omega)⟩, l, fun b => by have := le b; unfold add; omega⟩
    have E1 := Envs.slot (some u) (Envs.mono l E0 fun _ _ => rfl) (getE_none ρ i)
    have z := Envs.put E1 (getE_none ρ i) (by rw [List.getElem?_set_self (by rw [S.env.len]; exact hi)]) (Rp.mono l R fun _ _ => rfl)
    rw [setE_setE] at z
    exact z
  · have l : Lk H (add c (add r cv)) H (add c r) := Lk.less fun b => by unfold add; omega
    have hi' : ρ.length ≤ i := Nat.le_of_not_lt hi
    refine ⟨c, ⟨S.fxs.off hf (off_set (by simp)), ?_, fun b => by have := S.lin b; unfold add at *; omega, fun b hb => S.ex b (by unfold add; omega)⟩, l, fun b => by omega⟩
    rw [setE_ge _ _ _ hi', List.set_eq_of_length_le (by rw [S.env.len]; exact hi')]
    exact Envs.mono l S.env fun _ _ => rfl
def gNms : List Nat → TGs
  | [] => gNil
  | i :: is => gCons (gName i) (gNms is)
theorem bind_all {K : KF} {k : Nat} : ∀ {is : List Nat} {vs : List V} {ds : List D} {ρ ρ' : Env} {σ : L2.St} {c cvs : Cnt} {Q : L2.St → Hp → Prop}, StR K (add r cvs) σ H ρ c → K.free is → Rps K (hid H (add c (add r cvs))) H k vs ds cvs → bindAll k is ds ρ = some ρ' →
    (∀ σ' c', StR K r σ' H ρ' c' → Lk H (add c (add r cvs)) H (add c' r) → Off is σ σ' → Q σ' H) → gNms is vs σ H Q
  | [], vs, ds, ρ, ρ', σ, c, cvs, Q, S, hf, R, e, q => by
    cases R with
    | nil =>
      simp only [bindAll, Option.some.injEq] at e
      subst e
      rw [add_zro] at S
      exact ⟨rfl, q σ c S (by rw [add_zro]; exact Lk.refl _ _) .refl⟩
    | cons _ _ => simp [bindAll] at e
  | i :: is, vs, ds, ρ, ρ', σ, c, cvs, Q, S, hf, R, e, q => by
    cases R with
    | nil => simp [bindAll] at e
    | @cons _ u vs d ds cu cr x R =>
      simp only [bindAll] at e
      have S0 : StR K (add (add r cr) cu) σ H ρ c := by
        rw [add_assoc, add_comm cr cu]; exact S
      have x0 : Rp K (hid H (add c (add (add r cr) cu))) H (if atm d then 9 else k) u d cu := by
        rw [add_assoc, add_comm cr cu]
        exact x.dep (by
          cases a : atm d with
          | true => exact .inr rfl
          | false => left; simp)
      obtain ⟨c', S1, l1, _⟩ := bind_one (i := i) S0 (fun p hp z => hf p hp (by simp at z; simp [z])) x0
      have eq : add (add r cr) cu = add r (add cu cr) := by funext b; unfold add; omega
      rw [eq] at l1
      refine ⟨u, vs, rfl, bind_all S1 (fun p hp z => hf p hp (by simp [z])) (Rps.mono l1 R fun _ _ => rfl) e fun σ' c2 S2 l2 o2 => q σ' c2 S2 (l1.trans l2) ?_⟩
      exact (off_set (by simp)).trans (o2.more fun j hj => by simp [hj])
end
def gOf (K : Frag) : Tg → TG
  | .nm i => gName i
  | .nms is => gTup K is.length (gNms is)
def tgS : Tg → List Nat
  | .nm i => [i]
  | .nms is => is
theorem bindAll_len {k : Nat} : ∀ {is : List Nat} {ds : List D} {ρ ρ' : Env}, bindAll k is ds ρ = some ρ' → ds.length = is.length
  | [], [], _, _, _ => rfl
  | [], _ :: _, _, _, h => by simp [bindAll] at h
  | _ :: _, [], _, _, h => by simp [bindAll] at h
  | _ :: _, _ :: _, _, _, h => by simp only [bindAll] at h; rw [List.length_cons, List.length_cons, bindAll_len h]
theorem useG {K : KF} {r c : Cnt} {σ : L2.St} {H H1 : Hp} {ρ1 ρ2 : Env} {u : V} {v : Nat × D} {t : Tg} {Q : L2.St → Hp → Prop} (m : MS K r σ H c H1 ρ1 [u] [v]) (hf : K.free (tgS t)) (e : bindT t v ρ1 = some ρ2)
    (q : ∀ σ' c', StR K r σ' H1 ρ2 c' → Lk H (add c r) H1 (add c' r) → Kp r H H1 → Off (tgS t) σ σ' → Q σ' H1) : gOf K t u σ H1 Q := by
  obtain ⟨n, d⟩ := v
  obtain ⟨c1, cv, S, R, L, k⟩ := m
  cases t with
  | nm i =>
    simp only [bindT, Option.some.injEq] at e
    subst e
    obtain ⟨c', S1, l1, _⟩ := bind_one (i := i) S hf R.one1
    exact q _ c' S1 (L.trans l1) k (off_set (by simp [tgS]))
  | nms is =>
    cases d <;> simp only [bindT, reduceCtorEq] at e
    rename_i ds
    obtain ⟨a, xs, rfl, s1, cv', le, p1⟩ := R.one1.itemsT hid_sub
    have l0 : Lk H1 (add c1 (add r cv)) H1 (add c1 (add r cv')) := Lk.less fun b => by have := le b; unfold add; omega
    have p2 := p1 (hid H1 (add c1 (add r cv'))) l0 fun b o hb e => hid_some.mpr ⟨by have := S.lin b; unfold add at *; omega, e⟩
    refine ⟨a, xs, rfl, s1, by rw [p2.len]; exact bindAll_len e, bind_all (r := r) (c := c1) ⟨S.fxs, Envs.mono l0 S.env fun _ _ => rfl, fun b => by have := S.lin b; have := le b; unfold add at *; omega, fun b hb => S.ex b (by have := le b; unfold add at *; omega)⟩ hf p2 e fun σ' c' S1 l1 o => q σ' c' S1 ((L.trans l0).trans l1) k o⟩
/-! ### list comprehensions -/
theorem wipe_off : ∀ {σ : L2.St} {w : List Nat}, Off w σ (wipe σ w)
  | σ, [] => .refl
  | σ, i :: w => by
    unfold wipe
    exact (wipe_off.more fun j hj => List.mem_cons_of_mem _ hj).trans (off_set (by simp))
theorem wipe_mem : ∀ {σ : L2.St} {w : List Nat} {i : Nat}, i ∈ w → i < σ.length → (wipe σ w)[i]? = some none
  | σ, j :: w, i, h, hl => by
    unfold wipe
    by_cases e : j = i
    · subst e; rw [List.getElem?_set_self (by rw [wipe_length]; exact hl)]
    · rw [List.getElem?_set_ne e]
      exact wipe_mem (by rcases List.mem_cons.mp h with z | z; exact absurd z.symm e; exact z) hl
/-- the same but at the wiped slots -/
theorem wipe_same {σ σ' : L2.St} {w : List Nat} (o : Off w σ σ') : wipe σ' w = wipe σ w := by
  apply List.ext_getElem?
  intro i
  by_cases h : i ∈ w
  · by_cases hl : i < σ.length
    · rw [wipe_mem h hl, wipe_mem h (by rw [o.1]; exact hl)]
    · rw [List.getElem?_eq_none (by rw [wipe_length, o.1]; omega), List.getElem?_eq_none (by rw [wipe_length]; omega)]
  · rw [wipe_off.2 i h, wipe_off.2 i h, o.2 i h]
theorem getE_wipe : ∀ {ρ : Env} {w : List Nat} {i : Nat}, i ∈ w → getE (wipeE ρ w) i = none
  | ρ, j :: w, i, h => by
    unfold wipeE
    by_cases e : j = i
    · subst e; exact getE_none _ _
    · rw [getE_set _ _ _ _ e]
      exact getE_wipe (by rcases List.mem_cons.mp h with z | z; exact absurd z.symm e; exact z)
theorem envs_wipe {K : Frag} {F H : Hp} {σ : L2.St} : ∀ {ρ : Env} {c : Cnt} (w : List Nat), Envs K F H σ ρ c → ∃ c', (∀ a, c' a ≤ c a) ∧ Envs K F H σ (wipeE ρ w) c'
  | ρ, c, [], h => ⟨c, fun _ => Nat.le_refl _, h⟩
  | ρ, c, i :: w, h => by
    obtain ⟨c1, l1, h1⟩ := envs_wipe w h
    obtain ⟨c2, l2, h2⟩ := Envs.drop i h1
    exact ⟨c2, fun a => Nat.le_trans (l2 a) (l1 a), h2⟩
/-- slots forgotten, in the state and in the locals -/
theorem str_wipe {K : KF} {r c : Cnt} {σ σ' : L2.St} {H : Hp} {ρ : Env} {w : List Nat} (S : StR K r σ H ρ c) (hf : K.free w) (o : Off w σ σ') : ∃ c', (∀ a, c' a ≤ c a) ∧ StR K r σ' H (wipeE ρ w) c' ∧ Lk H (add c r) H (add c' r) := by
  obtain ⟨c', le, E⟩ := envs_wipe w S.env
  have l : Lk H (add c r) H (add c' r) := Lk.less fun b => by have := le b; unfold add; omega
  refine ⟨c', le, ⟨S.fxs.off hf o, Envs.agree (Envs.mono l E fun _ _ => rfl) o.1 fun i hi => o.2 i fun z => hi (getE_wipe z), fun b => by have := S.lin b; have := le b; omega, S.ex⟩, l⟩
theorem quiet_ok {α β : Type} {x : R α} {k : α → Env → R β} {b : β} {ρ : Env} (h : x.quiet.bind k = .ok b ρ) : ∃ a ρ1, x = .ok a ρ1 ∧ k a ρ1 = .ok b ρ := by
  cases x with
  | ok a ρ1 => exact ⟨a, ρ1, rfl, h⟩
  | exc _ _ _ => cases h
  | bad => cases h
theorem lcGo_cases {bind : D → Env → Option Env} {tst : Env → R Bool} {el : Env → R (Nat × D)} {wipe : Env → Env} : ∀ {xs acc : List D} {n : Nat} {ρ : Env}, (∃ p ρ', lcGo bind tst el wipe xs acc n ρ = .ok p ρ') ∨ lcGo bind tst el wipe xs acc n ρ = .bad
  | [], acc, n, ρ => .inl ⟨_, _, rfl⟩
  | x :: xs, acc, n, ρ => by
    unfold lcGo
    cases bind x (wipe ρ) with
    | none => exact .inr rfl
    | some ρ1 =>
      simp only
      cases tst ρ1 with
      | ok b ρ2 =>
        cases b with
        | true =>
          cases h : el ρ2 with
          | ok v ρ3 =>
            simp only [R.quiet, R.bind_ok, if_true, h]
            split
            · exact lcGo_cases
            · exact .inr rfl
          | exc _ _ _ => exact .inr (by simp [R.quiet, h])
          | bad => exact .inr (by simp [R.quiet, h])
        | false => simpa [R.quiet] using lcGo_cases
      | exc _ _ _ => exact .inr rfl
      | bad => exact .inr rfl
abbrev noW : WX := fun _ _ _ _ => False
section
variable {T : Tab} {ea : Nat → Addr} {X : Cx} {W : WX} {C : PL.C} {pos : Pos}
/-- the state within a comprehension: the new list at hand -/
structure LcSt (K : KF) (r c : Cnt) (H : Hp) (σw : L2.St) (w : List Nat) (J : It) (ds : List D) (v : V) (a : Nat × D) (ρ0 : Env) (H' : Hp) : Prop where
  ex : ∃ c1 cv, StR K (add r cv) σw H' (wipeE ρ0 w) c1 ∧ Rpl K (hid H' (add c1 (add r cv))) H' [v] [a] cv ∧ Lk H (add c r) H' (add c1 (add r cv)) ∧ Kp r H H' ∧ ItOk K J ds (hid H' (add c1 (add r cv)))
/-- the start -/
theorem lc_start {K : KF} {r c c1 : Cnt} {σ : L2.St} {H H1 : Hp} {ρ1 : Env} {w : List Nat} {J : It} {ds : List D} {D : Addr} {n : Nat} {o : HO} {d : PL.D} (S1 : StR K r σ H1 ρ1 c1) (L1 : Lk H (add c r) H1 (add c1 r)) (K1 : Kp r H H1) (hf : K.free w) (ito : ItOk K J ds (hid H1 (add c1 r))) (hD : H1 D = none)
    (ct : ∀ G, Ct K G H1 n o d zro) : LcSt K r c H (wipe σ w) w J ds (.ref D) (n + 1, d) ρ1 (upd H1 D o) := by
  obtain ⟨c1', le, S2, l2⟩ := str_wipe S1 hf (wipe_off (σ := σ) (w := w))
  have po : Po K r (wipe σ w) H1 c1 (n + 1, d) (wipeE ρ1 w) (.ref D) (upd H1 D o) := by
    refine fin_new0 (c1 := c1') (cv := zro) (by rw [add_zro]; exact S2) (by rw [add_zro]; exact l2) (fun _ _ => rfl) hD o (.none fun G _ => ?_)
    exact (ct G).cls upd_same fun b hb => absurd hb (Nat.lt_irrefl 0)
  obtain ⟨c2, cv, S3, R3, L3, k3⟩ := po
  exact ⟨c2, cv, S3, R3, L1.trans L3, fun a ha => (k3 a ha).trans (K1 a ha), ito.mono L3⟩
/-- an item comes, is bound -/
theorem lc_item {K : KF} {r : Cnt} {σw : L2.St} {H' H'' : Hp} {w : List Nat} {J : It} {ds : List D} {x' : V} {ρ0 ρb : Env} {t : Tg} {i : Nat} {x : PL.D} {Q : L2.St → Hp → Prop} {c1 cv : Cnt}
    (S : StR K (add r cv) σw H' (wipeE ρ0 w) c1) (hf : K.free w) (ht : ∀ i ∈ tgS t, i ∈ w) (ito : ItOk K J ds (hid H' (add c1 (add r cv)))) (y : J.yld i H' x' H'') (ex : ds[i]? = some x) (eb : bindT t (sv x) (wipeE (wipeE ρ0 w) w) = some ρb)
    (q : ∀ σ2 c2, StR K (add r cv) σ2 H'' ρb c2 → Lk H' (add c1 (add r cv)) H'' (add c2 (add r cv)) → Kp (add r cv) H' H'' → Off (tgS t) σw σ2 → Q σ2 H'') : gOf K t x' σw H'' Q := by
  obtain ⟨gr, dd⟩ := ito.yld i H' x' H'' hid_sub y x ex
  obtain ⟨S', l', k'⟩ := S.grow gr
  have hx : Dd K (hid H'' (add c1 (add r cv))) x' x := dd _ l' fun b o hb ho => hid_some.mpr ⟨by
    by_cases z : 0 < add c1 (add r cv) b
    · exfalso
      have : ∃ o, H' b = some o := by
        by_cases z1 : 0 < c1 b
        · exact Envs.ex S.env z1
        · exact S.ex b (by unfold add at *; omega)
      obtain ⟨o', e'⟩ := this
      rw [hb] at e'; cases e'
    · omega, ho⟩
  obtain ⟨c1'', le, S2, l2⟩ := str_wipe S' hf (Off.refl (is := w) (σ := σw))
  have m : MS K (add r cv) σw H'' c1 H'' (wipeE (wipeE ρ0 w) w) [x'] [sv x] := by
    refine ⟨c1'', zro, by rw [add_zro]; exact S2, ?_, by rw [add_zro]; exact l2, fun _ _ => rfl⟩
    have hx2 : Dd K (hid H'' (add c1'' (add (add r cv) zro))) x' x := Dd.mono (by rw [add_zro]; exact l2) hx
    have z : Rp K (hid H'' (add c1'' (add (add r cv) zro))) H'' (sv x).1 x' x zro := by
      unfold sv
      cases ax : atm x with
      | true => exact .at_ ax (hx2.atom ax)
      | false => exact .sh hx2
    have z2 := Rpl.cons z .nil
    rw [add_zro] at z2
    exact z2
  exact useG m (fun p hp z => hf p hp (ht _ z)) eb fun σ2 c2 S3 L3 k3 o => q σ2 c2 S3 (l'.trans L3) k' o
/-- the rest of a turn that adds nothing -/
theorem lc_skip {K : KF} {r c : Cnt} {σw σ2 : L2.St} {H H' H3 : Hp} {w : List Nat} {J : It} {ds : List D} {v : V} {a : Nat × D} {ρ2 : Env} {c1 cv c3 : Cnt}
    (hf : K.free w) (R : Rpl K (hid H' (add c1 (add r cv))) H' [v] [a] cv) (L : Lk H (add c r) H' (add c1 (add r cv))) (kp : Kp r H H') (ito : ItOk K J ds (hid H' (add c1 (add r cv))))
    (S3 : StR K (add r cv) σ2 H3 ρ2 c3) (L3 : Lk H' (add c1 (add r cv)) H3 (add c3 (add r cv))) (k3 : Kp (add r cv) H' H3) (o : Off w σ2 σw) : LcSt K r c H σw w J ds v a ρ2 H3 := by
  obtain ⟨c4, le, S4, l4⟩ := str_wipe S3 hf o
  exact ⟨c4, cv, S4, Rpl.mono (fun x y z => l4 x y (L3 x y z)) R fun b hb => k3 b (by unfold add; omega), L.trans (L3.trans l4), fun b hb => (k3 b (by unfold add; omega)).trans (kp b hb), ito.mono (L3.trans l4)⟩
/-- the rest of a turn: the object at hand is rewritten with the values that came -/
theorem lc_put {K : KF} {r c : Cnt} {σw σ2 : L2.St} {H H' H4 : Hp} {w : List Nat} {J : It} {ds : List D} {D : Addr} {n k : Nat} {d d' : PL.D} {ρ3 : Env} {c1 cv c4 cy : Cnt} {ys : List V} {bs : List (Nat × PL.D)} {o' : HO} (ha : atm d = false) (hf : K.free w)
    (R : Rpl K (hid H' (add c1 (add r cv))) H' [.ref D] [(n + 1, d)] cv) (L : Lk H (add c r) H' (add c1 (add r cv))) (kp : Kp r H H') (ito : ItOk K J ds (hid H' (add c1 (add r cv))))
    (S4 : StR K (add (add r cv) cy) σ2 H4 ρ3 c4) (R4 : Rpl K (hid H4 (add c4 (add (add r cv) cy))) H4 ys bs cy) (L4 : Lk H' (add c1 (add r cv)) H4 (add c4 (add (add r cv) cy))) (k4 : Kp (add r cv) H' H4) (o : Off w σ2 σw)
    (step : ∀ F cc cy o, Same F H4 → H4 D = some o → Ct K F H4 n o d cc → Rpl K F H4 ys bs cy → Part F H4 (add cc cy) fun G c' => Ct K G H4 k o' d' c') : LcSt K r c H σw w J ds (.ref D) (k + 1, d') ρ3 (upd H4 D o') := by
  have eq : add (add c1 cv) r = add c1 (add r cv) := by funext b; unfold add; omega
  have m : MS K r σ2 H' (add c1 cv) H4 ρ3 (.ref D :: ys) ((n + 1, d) :: bs) := by
    refine ⟨c4, add cv cy, by rw [← add_assoc]; exact S4, ?_, by rw [eq, ← add_assoc r cv cy]; exact L4, fun b hb => k4 b (by unfold add; omega)⟩
    have z := Rpl.mono L4 R fun b hb => k4 b (by unfold add; omega)
    rw [add_assoc r cv cy] at z R4
    exact Rpl.app z R4
  obtain ⟨o0, e0, fh⟩ := fin_hand (k := k) (d' := d') m ha
  obtain ⟨c5, cv5, S5, R5, L5, k5⟩ := fh o' fun F cc cy s ct R => step F cc cy o0 s e0 ct R
  obtain ⟨c6, le, S6, l6⟩ := str_wipe S5 hf o
  rw [eq] at L5
  exact ⟨c6, cv5, S6, Rpl.mono l6 R5 fun _ _ => rfl, L.trans (L5.trans l6), fun b hb => (k5 b hb).trans (kp b hb), ito.mono (L5.trans l6)⟩
/-- the end -/
theorem lc_end {K : KF} {r c : Cnt} {σ : L2.St} {H H' : Hp} {w : List Nat} {J : It} {ds : List D} {v : V} {a : Nat × D} {ρ0 : Env} (hf : K.free w) (h : LcSt K r c H (wipe σ w) w J ds v a ρ0 H') : Po K r σ H c a (wipeE ρ0 w) v H' := by
  obtain ⟨c1, cv, S, R, L, kp, _⟩ := h.ex
  exact ⟨c1, cv, ⟨S.fxs.off hf (wipe_off (σ := σ) (w := w)).symm, Envs.agree S.env (wipe_off (σ := σ) (w := w)).symm.1 fun i hi => (wipe_off (σ := σ) (w := w)).symm.2 i fun z => hi (getE_wipe z), S.lin, S.ex⟩, R, L, kp⟩
theorem lc_run {w : List Nat} {t : Tg} {q el : E} {ds : List PL.D} {ρ1 : Env} {K : KF} {r c c1 : Cnt} {σ : L2.St} {H H1 : Hp} {J : It} {Q : VK} (S1 : StR K r σ H1 ρ1 c1) (L1 : Lk H (add c r) H1 (add c1 r)) (K1 : Kp r H H1) (ito : ItOk K J ds (hid H1 (add c1 r))) (D : Addr) (hD : H1 D = none) (hf : K.free w) (ht : ∀ i ∈ tgS t, i ∈ w)
    (h1 : aft T ea K W r σ H c Q ((lcGo (fun x r => bindT t (sv x) r) (fun r => evT C q r) (fun r => ev C el r) (fun r => wipeE r w) ds [] 9 (wipeE ρ1 w)).bind fun p ρ2 => .ok (p.2 + 1, .list p.1) ρ2)) :
    ∃ W' : Nat → Nat → Hp → Prop, (∃ m, W' 0 m (upd H1 D (.lst []))) ∧ ∀ i m H, W' i m H →
  (J.stop i H ∧ Q (.ref D) H) ∨ (J.go i H ∧ ∃ Nx : Hp → Prop, (∀ H', Nx H' → ∃ m', m' < m ∧ W' (i + 1) m' H') ∧ ∀ x H', J.yld i H x H' → gOf K t x (wipe σ w) H' fun σ2 H2 => wipe σ2 w = wipe σ w ∧ rdB T ea K noW (fun ρ => evT C q ρ) σ2 H2 fun b H3 =>
    if b = true then rd T ea K noW C el σ2 H3 fun y H4 => ∃ acc, H4 D = some (.lst acc) ∧ acc.length < sizeLine ∧ Nx (upd H4 D (.lst (acc ++ [y]))) else Nx H3) := by
  rcases lcGo_cases (bind := fun x r => bindT t (sv x) r) (tst := fun r => evT C q r) (el := fun r => ev C el r) (wipe := fun r => wipeE r w) (xs := ds) (acc := []) (n := 9) (ρ := wipeE ρ1 w) with ⟨p, ρe, e2⟩ | e2
  case inr => rw [e2] at h1; exact h1.elim
  rw [e2] at h1
  simp only [R.bind_ok] at h1
  let P : Nat → Hp → Prop := fun i H' => ∃ acc n ρ0, lcGo (fun x r => bindT t (sv x) r) (fun r => evT C q r) (fun r => ev C el r) (fun r => wipeE r w) (ds.drop i) acc n (wipeE ρ0 w) = .ok p ρe ∧ LcSt K r c H (wipe σ w) w J ds (.ref D) (n + 1, .list acc) ρ0 H'
  refine ⟨fun i m H' => m = ds.length - i ∧ i ≤ ds.length ∧ P i H', ⟨ds.length, by omega, Nat.zero_le _, [], 9, ρ1, e2, lc_start S1 L1 K1 hf ito hD fun G => .lst .nil⟩, ?_⟩
  rintro i m H' ⟨rfl, hi, acc, n, ρ0, eg, st⟩
  by_cases hl : i < ds.length
  · obtain ⟨c1, cv, S, R, L, kp, ito⟩ := st.ex
    refine .inr ⟨ito.go i H' hid_sub hl, P (i + 1), fun H'' p' => ⟨ds.length - (i + 1), by omega, rfl, hl, p'⟩, fun x' H'' y => ?_⟩
    rw [List.drop_eq_getElem_cons hl] at eg
    unfold lcGo at eg
    cases eb : bindT t (sv ds[i]) (wipeE (wipeE ρ0 w) w) with
    | none => rw [eb] at eg; cases eg
    | some ρb =>
      rw [eb] at eg
      simp only at eg
      obtain ⟨b, ρ2, et, eg⟩ := quiet_ok eg
      refine lc_item S hf ht ito y (x := ds[i]) (by simp [hl]) eb fun σ2 c2 S2 L2 k2 o => ⟨wipe_same (wipe_off.trans (o.more ht)), ρb, c2, add r cv, S2, ?_⟩
      show aftB T ea K noW (add r cv) σ2 H'' c2 _ (evT C q ρb)
      rw [et]
      intro H3 c3 S3 L3 k3
      have off : Off w σ2 (wipe σ w) := (o.more ht).symm
      cases b with
      | false =>
        rw [if_neg (by simp)]
        simp only [Bool.false_eq_true, if_false] at eg
        exact ⟨acc, n, ρ2, eg, lc_skip hf R L kp ito S3 (L2.trans L3) (fun b hb => (k3 b hb).trans (k2 b hb)) off⟩
      | true =>
        rw [if_pos rfl]
        simp only [if_true] at eg
        obtain ⟨v, ρ3, ee, eg⟩ := quiet_ok eg
        split at eg
        · rename_i hz
          refine ⟨ρ2, c3, add r cv, S3, ?_⟩
          rw [ee]
          intro yv H4 po
          obtain ⟨c4, cy, S4, R4, L4, k4⟩ := po
          have k4' : Kp (add r cv) H' H4 := fun b hb => (k4 b hb).trans ((k3 b hb).trans (k2 b hb))
          have L4' := L2.trans (L3.trans L4)
          obtain ⟨a0, accV, ea0, hav, hl2⟩ : ∃ a0 accV, V.ref D = .ref a0 ∧ H' a0 = some (.lst accV) ∧ accV.length = acc.length := by
            have h := R.one1
            cases h with
            | at_ a _ => cases a
            | lst e r => exact ⟨_, _, rfl, e, r.len⟩
          cases ea0
          have hD4 : H4 D = some (.lst accV) := by
            have z : 0 < cv D := by
              have h := R.one1
              cases h with
              | at_ a _ => cases a
              | lst e r => unfold add; rw [one_self]; omega
            rw [k4' D (by unfold add; omega)]; exact hav
          refine ⟨accV, hD4, by rw [hl2, sizeLine_eq]; exact hz, acc ++ [v.2], min n (if atm v.2 then 9 else v.1), ρ3, eg, lc_put rfl hf R L kp ito S4 R4 L4' k4' off fun F cc cy o s eo ct Ry => ?_⟩
          rw [hD4] at eo
          cases eo
          cases ct with
          | lst rr =>
            have p1 : Part F H4 cc fun G c' => Rps K G H4 (min n (if atm v.2 then 9 else v.1)) accV acc c' := rr.wk (Nat.min_le_left _ _)
            have p2 : Part F H4 cy fun G c' => Rp K G H4 (min n (if atm v.2 then 9 else v.1)) yv v.2 c' := Ry.one1.low (by
              cases z : atm v.2 with
              | true => exact .inl rfl
              | false => right; simp only [Bool.false_eq_true, if_false]; exact Nat.min_le_right _ _)
            refine (Part.pair p1 p2).imp fun G c' hh => ?_
            obtain ⟨p, q, e, h1, h2⟩ := hh
            rw [e]
            have z := h1.append (.cons h2 .nil)
            rw [add_zro] at z
            exact .lst z
        · cases eg
  · have e : i = ds.length := by omega
    subst e
    obtain ⟨c1, cv, S, R, L, kp, ito⟩ := st.ex
    refine .inl ⟨ito.stop H' hid_sub, ?_⟩
    rw [List.drop_length] at eg
    unfold lcGo at eg
    cases eg
    exact h1 _ _ (lc_end hf st)
theorem s_lc_rd {w : List Nat} {t : Tg} {it q el : E} {σ : L2.St} {H : Hp} {Q : VK} (hf : (kf T X).free w) (ht : ∀ i ∈ tgS t, i ∈ w) (h : RD T ea X W C (.lc w t it q el) σ H Q) :
    tLc (RI T ea X W C it) (gOf X.K t) (rdB T ea (kf T X) noW fun ρ => evT C q ρ) (rd T ea (kf T X) noW C el) w σ H Q := by
  obtain ⟨ρ, c, r, S, h⟩ := h
  simp only [ev] at h
  show RI T ea X W C it σ H _
  refine ⟨ρ, c, r, S, ?_⟩
  rcases aft_bind h with ⟨ds, ρ1, e1, h1⟩ | ⟨kk, ds, ρ1, e1, h1⟩
  · rw [e1]
    intro J H1 c1 S1 L1 K1 ito D hD
    exact lc_run S1 L1 K1 ito D hD hf ht h1
  · rw [e1]; exact h1
theorem s_lc {w : List Nat} {t : Tg} {it q el : E} {elt tg iter : Expr} {ifs : List Expr} {scope : Scope} {own : List (Str × Nat)} (hc : X.calm = true) (hN : X.N.Nodup) (hi : PI X tg iter (RI T ea X W C it)) (ok : BlkOk X.N X.env.scope scope own) (hw : own.map (·.2) = w) (hf : (kf T X).free w) (ht : ∀ i ∈ tgS t, i ∈ w)
    (hg : ∀ (s : Shared) (H : Hp) (Ca : Addr) (cl : List (Str × Addr)) (fp : List Addr), PG (X.blk s H scope (compEnvC scope cl Ca X.env) fp) tg (gOf X.K t)) (hq : ∀ (s : Shared) (H : Hp) (Ca : Addr) (cl : List (Str × Addr)) (fp : List Addr), PTs (X.blk s H scope (compEnvC scope cl Ca X.env) fp) ifs (rdB T ea (kf T X) noW fun ρ => evT C q ρ))
    (he : ∀ (s : Shared) (H : Hp) (Ca : Addr) (cl : List (Str × Addr)) (fp : List Addr), PE (X.blk s H scope (compEnvC scope cl Ca X.env) fp) elt (rd T ea (kf T X) noW C el)) (hs : ∀ x, foldedSetIterable iter X.env x = pure x) :
    PE X (.ListComp elt [⟨tg, iter, ifs, 0⟩] scope pos) (RD T ea X W C (.lc w t it q el)) := by
  subst hw
  exact pe_imp (pe_lc hc hN hi ok hg hq he hs) fun σ H Q h => s_lc_rd hf ht h
end
end PL

/-! PL16: dicts made anew: displays and comprehensions. -/
namespace PL
open PySem L2
open PySem (PyData Str)
section
variable {α γ : Type}
theorem map_none (t : α → Bool) (v : γ) : ∀ (ks : List α) (zs : List γ), (∀ q ∈ ks, t q = false) → (ks.zip zs).map (fun p => if t p.1 = true then (p.1, v) else p) = ks.zip zs ∧ (ks.zip zs).any (fun p => t p.1) = false
  | [], zs, _ => by simp
  | q :: ks, [], _ => by simp
  | q :: ks, z :: zs, h => by
    obtain ⟨h1, h2⟩ := map_none t v ks zs fun x hx => h x (List.mem_cons_of_mem _ hx)
    have h0 := h q (by simp)
    simp only [List.zip_cons_cons, List.map_cons, List.any_cons, h1, h2, h0, Bool.false_or]
    simp
theorem map_set (t : α → Bool) (v : γ) : ∀ (ks : List α) (zs : List γ) (j : Nat), ks.Nodup → (∃ q, ks[j]? = some q ∧ t q = true ∧ ∀ x ∈ ks, x ≠ q → t x = false) → ks.length = zs.length →
    (ks.zip zs).map (fun p => if t p.1 = true then (p.1, v) else p) = ks.zip (zs.set j v) ∧ (ks.zip zs).any (fun p => t p.1) = true
  | [], zs, j, _, ⟨q, h, _⟩, _ => by simp at h
  | q :: ks, [], j, _, _, h => by simp at h
  | q :: ks, z :: zs, 0, nd, ⟨q', h, hq, ho⟩, hl => by
    simp at h; subst h
    rw [List.nodup_cons] at nd
    obtain ⟨h1, h2⟩ := map_none t v ks zs fun x hx => ho x (List.mem_cons_of_mem _ hx) fun e => nd.1 (e ▸ hx)
    simp only [List.zip_cons_cons, List.map_cons, List.any_cons, h1, h2, hq, List.set_cons_zero]
    simp
  | q :: ks, z :: zs, j + 1, nd, ⟨q', h, hq, ho⟩, hl => by
    rw [List.nodup_cons] at nd
    have h' : ks[j]? = some q' := by simpa using h
    have hm : q' ∈ ks := List.mem_of_getElem? h'
    obtain ⟨h1, h2⟩ := map_set t v ks zs j nd.2 ⟨q', h', hq, fun x hx => ho x (List.mem_cons_of_mem _ hx)⟩ (by simpa using hl)
    have h0 := ho q (by simp) fun e => nd.1 (e ▸ hm)
    simp only [List.zip_cons_cons, List.map_cons, List.any_cons, h1, h2, h0, List.set_cons_succ]
    simp
end
theorem kix_some {κ : Type} [DecidableEq κ] : ∀ {ks : List κ} {k : κ} {j : Nat}, kix ks k = some j → ks[j]? = some k
  | [], _, _, h => by cases h
  | q :: ks, k, j, h => by
    unfold kix at h
    by_cases z : q = k
    · rw [if_pos z] at h; cases h; simp [z]
    · rw [if_neg z] at h
      obtain ⟨i, h1, rfl⟩ := Option.map_eq_some_iff.mp h
      simpa using kix_some h1
theorem kix_none {κ : Type} [DecidableEq κ] : ∀ {ks : List κ} {k : κ}, kix ks k = none → k ∉ ks
  | [], _, _ => by simp
  | q :: ks, k, h => by
    unfold kix at h
    by_cases z : q = k
    · rw [if_pos z] at h; cases h
    · rw [if_neg z] at h
      have := kix_none (Option.map_eq_none_iff.mp h)
      simp only [List.mem_cons, not_or]
      exact ⟨fun e => z e.symm, this⟩
/-- a key put into a dict, in the heap and in the tree -/
theorem put_zip {κ : Type} [DecidableEq κ] (f : κ → D) (hf : ∀ a b, PyData.eqv (f a) (f b) = decide (a = b)) {ks : List κ} {xs : List V} {ds : List D} (k : κ) (v : V) (d : D) (nd : ks.Nodup) (hl : ks.length = xs.length) (hd : ks.length = ds.length) :
    ∃ (ks' : List κ) (xs' : List V) (ds' : List D), L2.putK (ks.zip xs) k v = ks'.zip xs' ∧ PL.putK ((ks.map f).zip ds) (f k) d = (ks'.map f).zip ds' ∧ ks'.Nodup ∧ ks'.length = xs'.length ∧ ((∃ j, xs' = xs.set j v ∧ ds' = ds.set j d) ∨ (xs' = xs ++ [v] ∧ ds' = ds ++ [d])) := by
  have finj : ∀ a b, f a = f b → a = b := fun a b e => by
    have h1 := hf a b
    have h2 := hf b b
    rw [e, h2, decide_eq_true rfl] at h1
    exact of_decide_eq_true h1.symm
  cases q : kix ks k with
  | some j =>
    have hj := kix_some q
    obtain ⟨h1, h2⟩ := map_set (fun x => decide (x = k)) v ks xs j nd ⟨k, hj, by simp, fun x _ h => decide_eq_false h⟩ hl
    have nd2 : (ks.map f).Nodup := by
      rw [List.nodup_iff_pairwise_ne, List.pairwise_map]
      exact (List.nodup_iff_pairwise_ne.mp nd).imp fun h e => h (finj _ _ e)
    obtain ⟨h3, h4⟩ := map_set (fun x => keq x (f k)) d (ks.map f) ds j nd2 ⟨f k, by rw [List.getElem?_map, hj]; rfl, by unfold keq; rw [hf]; simp, fun x hx h => by
      obtain ⟨a, _, rfl⟩ := List.mem_map.mp hx
      unfold keq
      rw [hf]
      exact decide_eq_false fun e => h (by rw [e])⟩ (by rw [List.length_map]; exact hd)
    refine ⟨ks, xs.set j v, ds.set j d, ?_, ?_, nd, by rw [List.length_set]; exact hl, .inl ⟨j, rfl, rfl⟩⟩
    · unfold L2.putK
      rw [if_pos h2, ← h1]
      apply List.map_congr_left
      intro p _
      by_cases z : p.1 = k
      · simp [z]
      · simp [z]
    · unfold PL.putK
      rw [if_pos h4]
      exact h3
  | none =>
    have hj := kix_none q
    obtain ⟨h1, h2⟩ := map_none (fun x => decide (x = k)) v ks xs fun x hx => decide_eq_false fun e => hj (e ▸ hx)
    obtain ⟨h3, h4⟩ := map_none (fun x => keq x (f k)) d (ks.map f) ds fun x hx => by
      obtain ⟨a, ha, rfl⟩ := List.mem_map.mp hx
      unfold keq
      rw [hf]
      exact decide_eq_false fun e => hj (e ▸ ha)
    refine ⟨ks ++ [k], xs ++ [v], ds ++ [d], ?_, ?_, ?_, by simp [hl], .inr ⟨rfl, rfl⟩⟩
    · unfold L2.putK
      rw [if_neg (by rw [h2]; simp), List.zip_append hl]
      rfl
    · unfold PL.putK
      rw [if_neg (by rw [h4]; simp), List.map_append, List.zip_append (by rw [List.length_map]; exact hd)]
      rfl
    · rw [List.nodup_append]
      exact ⟨nd, by simp, fun a ha b hb e => by simp at hb; subst hb; subst e; exact hj ha⟩
section
variable {K : Frag} {F H : Hp}
theorem Rps.put {n : Nat} {w : V} {e : D} {cw : Cnt} : ∀ {vs : List V} {ds : List D} {c : Cnt} (j : Nat), Rps K F H n vs ds c → Rp K F H n w e cw → Part F H (add c cw) fun G c' => Rps K G H n (vs.set j w) (ds.set j e) c'
  | _, _, _, _, .nil, _ => .none fun _ _ => .nil
  | _, _, _, 0, .cons x r, h => by
    rw [add_comm]
    exact (Part.pair (Part.rp h) (Part.right (Part.rps r))).imp fun G c' hh => by
      obtain ⟨p, q, e, h1, h2⟩ := hh
      rw [e]; exact .cons h1 h2
  | _, _, _, j + 1, .cons x r, h => by
    rw [add_assoc]
    exact (Part.pair (Part.rp x) (Rps.put j r h)).imp fun G c' hh => by
      obtain ⟨p, q, e, h1, h2⟩ := hh
      rw [e]; exact .cons h1 h2
/-- a pair put in -/
theorem put_part {n m : Nat} {ks : List L2.Key} {xs : List V} {ds : List D} {k : L2.Key} {v : V} {d : D} {ca cv : Cnt} (nd : ks.Nodup) (hl : ks.length = xs.length) (sub : Same F H) (p : Part F H ca fun G c' => Rps K G H n xs ds c') (hv : Rp K F H m v d cv) :
    ∃ (ks' : List L2.Key) (xs' : List V) (ds' : List D), L2.putK (ks.zip xs) k v = ks'.zip xs' ∧ PL.putK ((ks.map kD).zip ds) (kD k) d = (ks'.map kD).zip ds' ∧ ks'.Nodup ∧ ks'.length = xs'.length ∧
      Part F H (add ca cv) fun G c' => Rps K G H (min n (if atm d then 9 else m)) xs' ds' c' := by
  have hd : ks.length = ds.length := by
    obtain ⟨_, _, q⟩ := p
    rw [hl]
    exact (q H sub fun _ _ _ e => e).len
  obtain ⟨ks', xs', ds', h1, h2, h3, h4, h5⟩ := put_zip kD kD_eqv k v d nd hl hd
  refine ⟨ks', xs', ds', h1, h2, h3, h4, ?_⟩
  have p1 : Part F H ca fun G c' => Rps K G H (min n (if atm d then 9 else m)) xs ds c' := Part.bind sub p fun F' c' s q => q.wk (Nat.min_le_left _ _)
  have p2 : Part F H cv fun G c' => Rp K G H (min n (if atm d then 9 else m)) v d c' := hv.low (by
    cases z : atm d with
    | true => exact .inl rfl
    | false => right; simp only [Bool.false_eq_true, if_false]; exact Nat.min_le_right _ _)
  refine Part.bind sub (Part.pair p1 p2) fun F' c' s hh => ?_
  obtain ⟨a, b, e, q1, q2⟩ := hh
  rw [e]
  rcases h5 with ⟨j, rfl, rfl⟩ | ⟨rfl, rfl⟩
  · exact q1.put j q2
  · refine Part.rps ?_
    have z := q1.append (.cons q2 .nil)
    rw [add_zro] at z
    exact z
end
theorem kindOk_k {ks : List L2.Key} {ds : List D} {kd : D} (hl : ks.length = ds.length) (ok : kindOk ((ks.map kD).zip ds) kd = true) : keyA kd = true := by
  cases ks with
  | nil => simpa [kindOk] using ok
  | cons q ks => cases ds with
    | nil => simp at hl
    | cons d ds => cases q <;> simpa [kindOk, kD] using ok
theorem dcGo_cases {bind : D → Env → Option Env} {ky el : Env → R (Nat × D)} {wipe : Env → Env} : ∀ {xs : List D} {acc : List (D × D)} {n : Nat} {ρ : Env}, (∃ p ρ', dcGo bind ky el wipe xs acc n ρ = .ok p ρ') ∨ dcGo bind ky el wipe xs acc n ρ = .bad
  | [], acc, n, ρ => .inl ⟨_, _, rfl⟩
  | x :: xs, acc, n, ρ => by
    unfold dcGo
    cases bind x (wipe ρ) with
    | none => exact .inr rfl
    | some ρ1 =>
      simp only
      cases ky ρ1 with
      | ok k ρ2 =>
        cases h : el ρ2 with
        | ok v ρ3 =>
          simp only [R.quiet, R.bind_ok, h]
          split
          · exact dcGo_cases
          · exact .inr rfl
        | exc _ _ _ => exact .inr (by simp [R.quiet, h])
        | bad => exact .inr (by simp [R.quiet, h])
      | exc _ _ _ => exact .inr rfl
      | bad => exact .inr rfl
section
variable {T : Tab} {ea : Nat → Addr} {X : Cx} {W : WX} {C : PL.C} {pos : Pos}
theorem dc_run {w : List Nat} {t : Tg} {ky el : E} {ds : List PL.D} {ρ1 : Env} {K : KF} {r c c1 : Cnt} {σ : L2.St} {H H1 : Hp} {J : It} {Q : VK} (S1 : StR K r σ H1 ρ1 c1) (L1 : Lk H (add c r) H1 (add c1 r)) (K1 : Kp r H H1) (ito : ItOk K J ds (hid H1 (add c1 r))) (D : Addr) (hD : H1 D = none) (hf : K.free w) (ht : ∀ i ∈ tgS t, i ∈ w)
    (h1 : aft T ea K W r σ H c Q ((dcGo (fun x r => bindT t (sv x) r) (fun r => ev C ky r) (fun r => ev C el r) (fun r => wipeE r w) ds [] 9 (wipeE ρ1 w)).bind fun p ρ2 => .ok (p.2 + 1, .dict p.1) ρ2)) :
    ∃ W' : Nat → Nat → Hp → Prop, (∃ m, W' 0 m (upd H1 D (.dK []))) ∧ ∀ i m H, W' i m H →
  (J.stop i H ∧ Q (.ref D) H) ∨ (J.go i H ∧ ∃ Nx : Hp → Prop, (∀ H', Nx H' → ∃ m', m' < m ∧ W' (i + 1) m' H') ∧ ∀ x H', J.yld i H x H' → gOf K t x (wipe σ w) H' fun σ2 H2 => wipe σ2 w = wipe σ w ∧ tYes σ2 H2 fun b H3 =>
    if b = true then rd T ea K noW C ky σ2 H3 fun y H4 => rd T ea K noW C el σ2 H4 fun z H5 => ∃ kvs k, y = kV k ∧ H5 D = some (.dK kvs) ∧ kvs.length < sizeLine ∧ Nx (upd H5 D (.dK (L2.putK kvs k z))) else Nx H3) := by
  rcases dcGo_cases (bind := fun x r => bindT t (sv x) r) (ky := fun r => ev C ky r) (el := fun r => ev C el r) (wipe := fun r => wipeE r w) (xs := ds) (acc := []) (n := 9) (ρ := wipeE ρ1 w) with ⟨p, ρe, e2⟩ | e2
  case inr => rw [e2] at h1; exact h1.elim
  rw [e2] at h1
  simp only [R.bind_ok] at h1
  let P : Nat → Hp → Prop := fun i H' => ∃ acc n ρ0, dcGo (fun x r => bindT t (sv x) r) (fun r => ev C ky r) (fun r => ev C el r) (fun r => wipeE r w) (ds.drop i) acc n (wipeE ρ0 w) = .ok p ρe ∧ LcSt K r c H (wipe σ w) w J ds (.ref D) (n + 1, .dict acc) ρ0 H' ∧ ∃ kvs, H' D = some (.dK kvs)
  refine ⟨fun i m H' => m = ds.length - i ∧ i ≤ ds.length ∧ P i H', ⟨ds.length, by omega, Nat.zero_le _, [], 9, ρ1, e2, lc_start S1 L1 K1 hf ito hD fun G => Ct.dk (ks := []) (xs := []) (ds := []) rfl .nil .nil, _, upd_same⟩, ?_⟩
  rintro i m H' ⟨rfl, hi, acc, n, ρ0, eg, st, kvs0, hkv⟩
  by_cases hl : i < ds.length
  · obtain ⟨c1, cv, S, R, L, kp, ito⟩ := st.ex
    refine .inr ⟨ito.go i H' hid_sub hl, P (i + 1), fun H'' p' => ⟨ds.length - (i + 1), by omega, rfl, hl, p'⟩, fun x' H'' y => ?_⟩
    rw [List.drop_eq_getElem_cons hl] at eg
    unfold dcGo at eg
    cases eb : bindT t (sv ds[i]) (wipeE (wipeE ρ0 w) w) with
    | none => rw [eb] at eg; cases eg
    | some ρb =>
      rw [eb] at eg
      simp only at eg
      obtain ⟨kv, ρ2, et, eg⟩ := quiet_ok eg
      obtain ⟨v, ρ3, ee, eg⟩ := quiet_ok eg
      split at eg
      · rename_i hz
        rw [Bool.and_eq_true, decide_eq_true_eq] at hz
        refine lc_item S hf ht ito y (x := ds[i]) (by simp [hl]) eb fun σ2 c2 S2 lk2 k2 o => ⟨wipe_same (wipe_off.trans (o.more ht)), ?_⟩
        have off : Off w σ2 (wipe σ w) := (o.more ht).symm
        simp only [tYes, if_true]
        refine ⟨ρb, c2, add r cv, S2, ?_⟩
        rw [et]
        intro yk H4 po
        obtain ⟨c4, cy, S4, R4, L4, k4⟩ := po
        refine ⟨ρ2, c4, add (add r cv) cy, S4, ?_⟩
        rw [ee]
        intro z H5 po
        obtain ⟨c5, cz, S5, R5, L5, k5⟩ := po
        have k5' : Kp (add r cv) H' H5 := fun b hb => (k5 b (by unfold add at *; omega)).trans ((k4 b hb).trans (k2 b hb))
        have L5' : Lk H' (add c1 (add r cv)) H5 (add c5 (add (add r cv) (add cy cz))) := by
          rw [← add_assoc (add r cv)]
          exact lk2.trans (L4.trans L5)
        have R5' : Rpl K (hid H5 (add c5 (add (add r cv) (add cy cz)))) H5 [yk, z] [kv, v] (add cy cz) := by
          rw [← add_assoc (add r cv)]
          exact Rpl.app (vs := [yk]) (as := [kv]) (Rpl.mono L5 R4 fun b hb => k5 b (by unfold add; omega)) R5
        obtain ⟨ks, xs, dv, eacc, hav, hlx, nd, hlen⟩ : ∃ (ks : List L2.Key) (xs : List V) (dv : List PL.D), acc = (ks.map kD).zip dv ∧ H' D = some (.dK (ks.zip xs)) ∧ ks.length = xs.length ∧ ks.Nodup ∧ xs.length = dv.length := by
          have h := R.one1
          cases h with
          | at_ a _ => cases a
          | dk e l nd r => exact ⟨_, _, _, rfl, e, l, nd, r.len⟩
          | dt e l nd r => rw [hkv] at e; cases e
        have hD5 : H5 D = some (.dK (ks.zip xs)) := by
          have z : 0 < cv D := by
            have h := R.one1
            cases h with
            | at_ a _ => cases a
            | dk e l nd r => unfold add; rw [one_self]; omega
            | dt e l nd r => unfold add; rw [one_self]; omega
          rw [k5' D (by unfold add; omega)]; exact hav
        subst eacc
        obtain ⟨q, eq⟩ := kD_of (kindOk_k (kd := kv.2) (hlx.trans hlen) hz.1)
        have hyk : yk = kV q := by
          obtain ⟨ck, cz', rk, _, _⟩ := R5'.two
          have h : Dd K H5 yk kv.2 := Rp.view hid_sub rk fun _ _ _ e => e
          rw [eq] at h
          exact h.kV'
        have hn : ((ks.zip xs).length : Nat) = ((ks.map kD).zip dv).length := by
          rw [List.length_zip, List.length_zip, List.length_map, hlen]
        refine ⟨ks.zip xs, q, hyk, hD5, by rw [hn, sizeLine_eq]; exact hz.2, PL.putK ((ks.map kD).zip dv) kv.2 v.2, min n (if atm v.2 then 9 else v.1), ρ3, eg, ?_, _, upd_same⟩
        have S5' : StR K (add (add r cv) (add cy cz)) σ2 H5 ρ3 c5 := by rw [← add_assoc (add r cv)]; exact S5
        refine lc_put rfl hf R L kp ito S5' R5' L5' k5' off fun F cc cy' o s eo ct Ry => ?_
        obtain ⟨ck, cz', rk, rz, rfl⟩ := Ry.two
        rw [hD5] at eo
        cases eo
        generalize ho : HO.dK (ks.zip xs) = o at ct
        generalize hd : PyData.dict ((ks.map kD).zip dv) = dd at ct
        cases ct with
        | lst _ => cases hd
        | tup _ => cases hd
        | dt _ _ _ => cases ho
        | @dk ks1 xs1 ds1 _ hl1 nd1 rr =>
          have e1 : ks.zip xs = ks1.zip xs1 := HO.dK.inj ho
          have e2 : (ks.map kD).zip dv = (ks1.map kD).zip ds1 := PyData.dict.inj hd
          obtain ⟨ks', xs', ds', f1, f2, f3, f4, f5⟩ := put_part (k := q) nd1 hl1 s (Part.rps rr) rz
          have f5' : Part F H5 (add cc (add ck cz')) fun G c' => Rps K G H5 (min n (if atm v.2 then 9 else v.1)) xs' ds' c' := by
            have e : add cc (add ck cz') = add ck (add cc cz') := by funext b; unfold add; omega
            rw [e]
            exact Part.right f5
          refine f5'.imp fun G c' hh => ?_
          rw [e1, e2, eq, f1, f2]
          exact .dk f4 f3 hh
      · cases eg
  · have e : i = ds.length := by omega
    subst e
    obtain ⟨c1, cv, S, R, L, kp, ito⟩ := st.ex
    refine .inl ⟨ito.stop H' hid_sub, ?_⟩
    rw [List.drop_length] at eg
    unfold dcGo at eg
    cases eg
    exact h1 _ _ (lc_end hf st)
theorem s_dc_rd {w : List Nat} {t : Tg} {it ky el : E} {σ : L2.St} {H : Hp} {Q : VK} (hf : (kf T X).free w) (ht : ∀ i ∈ tgS t, i ∈ w) (h : RD T ea X W C (.dc w t it ky el) σ H Q) :
    tDc (RI T ea X W C it) (gOf X.K t) tYes (rd T ea (kf T X) noW C ky) (rd T ea (kf T X) noW C el) w σ H Q := by
  obtain ⟨ρ, c, r, S, h⟩ := h
  simp only [ev] at h
  show RI T ea X W C it σ H _
  refine ⟨ρ, c, r, S, ?_⟩
  rcases aft_bind h with ⟨ds, ρ1, e1, h1⟩ | ⟨kk, ds, ρ1, e1, h1⟩
  · rw [e1]
    intro J H1 c1 S1 L1 K1 ito D hD
    exact dc_run S1 L1 K1 ito D hD hf ht h1
  · rw [e1]; exact h1
theorem s_dc {w : List Nat} {t : Tg} {it ky el : E} {kx vx tg iter : Expr} {scope : Scope} {own : List (Str × Nat)} (hc : X.calm = true) (hN : X.N.Nodup) (hi : PI X tg iter (RI T ea X W C it)) (ok : BlkOk X.N X.env.scope scope own) (hw : own.map (·.2) = w) (hf : (kf T X).free w) (ht : ∀ i ∈ tgS t, i ∈ w)
    (hg : ∀ (s : Shared) (H : Hp) (Ca : Addr) (cl : List (Str × Addr)) (fp : List Addr), PG (X.blk s H scope (compEnvC scope cl Ca X.env) fp) tg (gOf X.K t))
    (hk : ∀ (s : Shared) (H : Hp) (Ca : Addr) (cl : List (Str × Addr)) (fp : List Addr), PE (X.blk s H scope (compEnvC scope cl Ca X.env) fp) kx (rd T ea (kf T X) noW C ky))
    (he : ∀ (s : Shared) (H : Hp) (Ca : Addr) (cl : List (Str × Addr)) (fp : List Addr), PE (X.blk s H scope (compEnvC scope cl Ca X.env) fp) vx (rd T ea (kf T X) noW C el)) (hs : ∀ x, foldedSetIterable iter X.env x = pure x) :
    PE X (.DictComp kx vx [⟨tg, iter, [], 0⟩] scope pos) (RD T ea X W C (.dc w t it ky el)) := by
  subst hw
  exact pe_imp (pe_dc hc hN hi ok hg (fun _ _ _ _ _ => pts_nil) hk he hs) fun σ H Q h => s_dc_rd hf ht h
end
end PL
namespace L2
open PySem PySem.Spec PyProof.Rows
theorem ps_setDc {X : Cx} {i : Nat} {y : Str} {py : Pos} {kx vx tg iter : Expr} {ifs : List Expr} {scope : Scope} {own : List (Str × Nat)} {pos spos : Pos} {wi : TI} {g : TG} {tt : TT} {tk tv : TE} (hc : X.calm = true) (hN : X.N.Nodup) (hy : X.N[i]? = some y) (hyl : X.env.scope.names.lookup y = some .local)
    (hsw : swapsWith (.DictComp kx vx [⟨tg, iter, ifs, 0⟩] scope pos) (some (.Name y py)) spos.line X.env = pure true) (hi : PI X tg iter wi) (ok : BlkOk X.N X.env.scope scope own)
    (hg : ∀ (s : Shared) (H : Hp) (C : Addr) (cl : List (Str × Addr)) (fp : List Addr), PG (X.blk s H scope (compEnvC scope cl C X.env) fp) tg g) (ht : ∀ (s : Shared) (H : Hp) (C : Addr) (cl : List (Str × Addr)) (fp : List Addr), PTs (X.blk s H scope (compEnvC scope cl C X.env) fp) ifs tt)
    (hk : ∀ (s : Shared) (H : Hp) (C : Addr) (cl : List (Str × Addr)) (fp : List Addr), PE (X.blk s H scope (compEnvC scope cl C X.env) fp) kx tk)
    (he : ∀ (s : Shared) (H : Hp) (C : Addr) (cl : List (Str × Addr)) (fp : List Addr), PE (X.blk s H scope (compEnvC scope cl C X.env) fp) vx tv) (hs : ∀ x, foldedSetIterable iter X.env x = pure x) :
    PS X (.Assign [.Name y py] (.DictComp kx vx [⟨tg, iter, ifs, 0⟩] scope pos) spos) (tAsg (tDc wi g tt tk tv (own.map (·.2))) (gName i)) := by
  refine ⟨fun pins s σ H D I h => ?_⟩
  rw [exec_Assign_Name_used _ _ _ _ hsw]
  refine wpAny_bind (wpAny_standAt (wpAny_bind ?_))
  show wpAny _ X.A (do let _ ← comprehension (.DictComp kx vx [⟨tg, iter, ifs, 0⟩] scope pos) scope X.env (firstIterPos [⟨tg, iter, ifs, 0⟩] pos) newDict false (eval iter X.env) (some (assign (.Name y py) X.env))) _ _ s
  have h : tDc wi g tt tk tv (own.map (·.2)) σ H (fun x H1 => gName i x σ H1 D.nx) := h
  refine wpAny_bind (thn (dc_core (Qf := fun _ s' => SP X pins D .next s') hc hN I hi ok hg ht hk he hs h fun L C s' m H' I' q hn f => ?_) fun _ s' hq => wpAny_pure (wpAny_pure hq))
  show wpAny _ _ (assign (.Name y py) X.env (.ref L)) _ _ _
  refine wpAny_assign_Name (store_ok2 (v := V.ref L) I' hN hy (.inl hyl) rfl (fun s2 I2 ⟨a, sb, ha⟩ => ?_) (.inr hyl))
  obtain ⟨f0, f1, f2, f3, f4, f5⟩ := f
  have haC : C ≠ a := by
    rcases ha with z | z
    · rw [z]; exact f1
    · exact fun e => f4 y a z e.symm
  refine ⟨m, hn.sameBut sb haC, fun h3 sb3 => ?_⟩
  exact ⟨_, H', I2.turned (t' := s2.toks) (fun b o hb e => (sb3.2 b hb).trans e) f0 f1 f3 f4 f5, q⟩
theorem sw_trueD {kx vx : Expr} {gs : List Comprehension} {scope : Scope} {pos py : Pos} {y : Str} {l : Nat} {env : Env} (hk : env.scope.kind = .function) (hy : env.scope.names.lookup y = some .local) (hl : (py.line == pos.line) = true)
    (ha : (scope.names.any fun (n, k) => n == y && (k == .local || k == .cell)) = false) : swapsWith (.DictComp kx vx gs scope pos) (some (.Name y py)) l env = pure true := by
  have ky : env.kindOf y = some .local := hy
  have hb : env.blockKind = .function := by unfold Env.blockKind; rw [hk]; rfl
  unfold swapsWith
  simp only [hb, ky, ha, Expr.pos, hl]
  rfl
end L2

/-! PL17: dict displays; what a def promises; calls. -/
namespace PL
open PySem L2
open PySem (PyData Str)
section
variable {T : Tab} {ea : Nat → Addr} {X : Cx} {W : WX} {C : PL.C} {pos : Pos}
def flatP : List (V × V) → List V
  | [] => []
  | p :: r => p.1 :: p.2 :: flatP r
theorem flatP_len : ∀ ps : List (V × V), (flatP ps).length = 2 * ps.length
  | [] => rfl
  | _ :: r => by simp only [flatP, List.length_cons, flatP_len r]; omega
/-- the readings of a display's pairs, with the texts -/
inductive DPs (T : Tab) (ea : Nat → Addr) (X : Cx) (W : WX) (C : PL.C) : E → List (Option Expr) → List Expr → List (TE × TE) → Prop
  | nil : DPs T ea X W C .nil [] [] []
  | cons {k v r : E} {x y : Expr} {ks : List (Option Expr)} {vs : List Expr} {ts : List (TE × TE)} : (∀ i, k ≠ .lend i) → (∀ i, v ≠ .lend i) → PE X x (RD T ea X W C k) → PE X y (RD T ea X W C v) → DPs T ea X W C r ks vs ts →
      DPs T ea X W C (.cons k (.cons v r)) (some x :: ks) (y :: vs) ((RD T ea X W C k, RD T ea X W C v) :: ts)
theorem DPs.pps {es : E} {ks : List (Option Expr)} {vs : List Expr} {ts : List (TE × TE)} (h : DPs T ea X W C es ks vs ts) : PPs X pos ks vs ts := by
  induction h with
  | nil => exact pps_nil
  | cons _ _ hk hv _ ih => exact pps_cons hk hv ih
theorem DPs.all {es : E} {ks : List (Option Expr)} {vs : List Expr} {ts : List (TE × TE)} (h : DPs T ea X W C es ks vs ts) : ks.all (·.isSome) = true ∧ ks.length = vs.length ∧ 2 * ks.length = elen es := by
  induction h with
  | nil => exact ⟨rfl, rfl, rfl⟩
  | cons _ _ _ _ _ ih => exact ⟨by rw [List.all_cons, ih.1]; rfl, by simp [ih.2.1], by simp only [List.length_cons, elen]; omega⟩
theorem useP {r c : Cnt} {σ : L2.St} {H : Hp} {es : E} {ks : List (Option Expr)} {vs : List Expr} {ts : List (TE × TE)} (h : DPs T ea X W C es ks vs ts) : ∀ {H1 : Hp} {ρ1 : Env} {us : List V} {as : List (Nat × D)} {Q : VK} {k : List (Nat × D) → Env → R (Nat × D)} {Q' : List (V × V) → Hp → Prop},
    MS (kf T X) r σ H c H1 ρ1 us as → aft T ea (kf T X) W r σ H c Q ((evs C es ρ1).bind k) → (∀ bs ρ2 ps H2, MS (kf T X) r σ H c H2 ρ2 (us ++ flatP ps) (as ++ bs) → bs.length ≤ elen es → aft T ea (kf T X) W r σ H c Q (k bs ρ2) → Q' ps H2) → tPairs ts σ H1 Q' := by
  induction h with
  | nil =>
    intro H1 ρ1 us as Q k Q' m ha hk
    exact hk [] ρ1 [] H1 (by simpa [flatP] using m) (Nat.zero_le _) ha
  | cons hl hl2 hk hv _ ih =>
    intro H1 ρ1 us as Q k Q' m ha hq
    rw [evs_cons hl] at ha
    simp only [evs_cons hl2, R.bind_assoc] at ha
    refine useE m ha fun v1 ρ2 u1 H2 e1 m1 h1 => useE m1 h1 fun v2 ρ3 u2 H3 e2 m2 h2 => ?_
    refine ih m2 h2 fun bs ρ4 ps H4 m4 hb h4 => hq (v1 :: v2 :: bs) ρ4 ((u1, u2) :: ps) H4 (by simpa [flatP] using m4) (by simp only [List.length_cons, elen]; omega) (by simpa using h4)
theorem dic_fold {K : Frag} {F H : Hp} (sub : Same F H) : ∀ {ps : List (V × V)} {bs : List (Nat × D)} {ks : List L2.Key} {xs : List V} {ds : List D} {acc kvs : List (D × D)} {n n' : Nat} {ca cr : Cnt}, Rpl K F H (flatP ps) bs cr → (Part F H ca fun G c' => Rps K G H n xs ds c') → ks.Nodup → ks.length = xs.length → acc = (ks.map kD).zip ds → dicL bs acc n = some (n', kvs) →
    ∃ (KV : List (L2.Key × V)) (ks' : List L2.Key) (xs' : List V) (ds' : List D), ps = KV.map (fun kv => (kV kv.1, kv.2)) ∧ mergeK (ks.zip xs) KV = ks'.zip xs' ∧ kvs = (ks'.map kD).zip ds' ∧ ks'.Nodup ∧ ks'.length = xs'.length ∧ Part F H (add ca cr) fun G c' => Rps K G H n' xs' ds' c'
  | [], bs, ks, xs, ds, acc, kvs, n, n', ca, cr, R, p, nd, hl, ha, e => by
    cases R
    simp only [dicL, Option.some.injEq, Prod.mk.injEq] at e
    obtain ⟨rfl, rfl⟩ := e
    exact ⟨[], ks, xs, ds, rfl, rfl, ha, nd, hl, by rw [add_zro]; exact p⟩
  | (pk, pv) :: ps, bs, ks, xs, ds, acc, kvs, n, n', ca, cr, R, p, nd, hl, ha, e => by
    cases R with
    | @cons n1 _ d1 _ _ c1 _ r1 R =>
    cases R with
    | @cons n2 _ d2 _ _ c2 c3 r2 R =>
    simp only [dicL, Option.ite_none_right_eq_some] at e
    obtain ⟨ok, e⟩ := e
    have hd : ks.length = ds.length := by
      obtain ⟨_, _, q⟩ := p
      rw [hl]
      exact (q H sub fun _ _ _ e => e).len
    rw [ha] at ok
    obtain ⟨q, rfl⟩ := kD_of (kindOk_k hd ok)
    have hk : pk = kV q := (Rp.view sub r1 fun _ _ _ e => e : Dd K H pk (kD q)).kV'
    obtain ⟨ks', xs', ds', f1, f2, f3, f4, f5⟩ := put_part (k := q) nd hl sub p r2
    rw [ha, f2] at e
    obtain ⟨KV, ks2, xs2, ds2, g1, g2, g3, g4, g5, g6⟩ := dic_fold sub R f5 f3 f4 rfl e
    refine ⟨(q, pv) :: KV, ks2, xs2, ds2, ?_, ?_, g3, g4, g5, ?_⟩
    · rw [List.map_cons, g1, hk]
    · show mergeK (L2.putK (ks.zip xs) q pv) KV = _
      rw [f1]; exact g2
    · have eq : add ca (add c1 (add c2 c3)) = add c1 (add (add ca c2) c3) := by funext b; unfold add; omega
      rw [eq]
      exact Part.right g6
theorem s_dic {es : E} {ks : List (Option Expr)} {vs : List Expr} {ts : List (TE × TE)} (h : DPs T ea X W C es ks vs ts) (h0 : ks ≠ []) (h15 : ks.length ≤ 15) : PE X (.Dict ks vs pos) (RD T ea X W C (.dic false es)) :=
  pe_imp (pe_disp h.pps h.all.1 h.all.2.1 h0 h15) fun σ H Q ⟨ρ, c, r, S, ha⟩ => by
    intro p hp
    simp only [ev] at ha
    have m0 : MS (kf T X) r σ H c (upd H p (.dK [])) ρ [V.ref p] [(10, .dict [])] :=
      fin_new0 (c1 := c) (cv := zro) (by rw [add_zro]; exact S) (by rw [add_zro]; exact .refl _ _) (fun _ _ => rfl) hp (.dK []) (.none fun G _ => Rp.dk (n := 9) (ks := []) (xs := []) (ds := []) upd_same rfl .nil .nil)
    refine useP h m0 ha fun bs ρ2 ps H2 m2 hb h2 => ?_
    split at h2
    · rename_i n kvs e
      simp only [Bool.false_eq_true, if_false] at e
      obtain ⟨o, e0, fh⟩ := fin_hand (k := n) (d' := .dict kvs) m2 rfl
      have hlen : 2 * ps.length ≤ elen es := by
        have : (flatP ps).length = bs.length := by
          obtain ⟨_, _, _, R, _, _⟩ := m2
          have := R.len
          simpa using this
        rw [flatP_len] at this
        omega
      obtain ⟨c1, cv, S2, R2, L2', k2⟩ := m2
      cases R2 with
      | @cons _ _ _ _ _ ci cr hr R2 =>
      obtain ⟨a', o', cc, e1, e2, rfl, ct⟩ := hr.opn rfl
      cases e1
      have ho : o' = .dK [] := by
        generalize hd : PyData.dict [] = dd at ct
        cases ct with
        | lst _ => cases hd
        | tup _ => cases hd
        | @dk ks xs ds _ hl nd rr =>
          have hz : (ks.map kD).zip ds = [] := (PyData.dict.inj hd).symm
          have := rr.len
          cases ks with
          | nil => rfl
          | cons q ks => cases ds with
            | nil => cases xs with
              | nil => simp at hl
              | cons _ _ => simp at this
            | cons d ds => simp at hz
        | dt _ _ _ => simp [mrk] at hd
      subst ho
      obtain ⟨KV, ks', xs', ds', g1, g2, g3, g4, g5, g6⟩ := dic_fold hid_sub R2 (.none fun G _ => .nil : Part _ H2 zro fun G c' => Rps X.K G H2 9 [] [] c') (ks := []) .nil rfl rfl e
      refine ⟨e2, KV, g1, ?_, h2 _ _ (fh _ fun F cc2 cv2 s ct2 R3 => ?_)⟩
      · have : ps.length = KV.length := by rw [g1, List.length_map]
        have := h.all.2.2
        omega
      · obtain ⟨KV2, ks2, xs2, ds2, q1, q2, q3, q4, q5, q6⟩ := dic_fold s R3 (.none fun G _ => .nil : Part _ H2 zro fun G c' => Rps X.K G H2 9 [] [] c') (ks := []) .nil rfl rfl e
        have eKV : KV2 = KV := by
          have e3 : KV2.map (fun kv => (kV kv.1, kv.2)) = KV.map (fun kv => (kV kv.1, kv.2)) := q1.symm.trans g1
          have inj : ∀ (a b : L2.Key × V), (kV a.1, a.2) = (kV b.1, b.2) → a = b := fun ⟨a, x⟩ ⟨b, y⟩ e => by
            simp only [Prod.mk.injEq] at e
            obtain ⟨e1, e2⟩ := e
            have : a = b := by
              cases a <;> cases b <;> simp only [kV, V.int.injEq, V.str.injEq, reduceCtorEq] at e1 <;> rw [e1]
            rw [this, e2]
          clear q1 q2 g1 g2 g6 q6
          induction KV2 generalizing KV with
          | nil => cases KV with
            | nil => rfl
            | cons _ _ => simp at e3
          | cons a KV2 ih => cases KV with
            | nil => simp at e3
            | cons b KV =>
              simp only [List.map_cons, List.cons.injEq] at e3
              rw [inj a b e3.1, ih KV e3.2]
        subst eKV
        have z : mergeK [] KV2 = ks2.zip xs2 := q2
        rw [z, q3]
        rw [zro_add] at q6
        exact (Part.right q6).imp fun G c' hh => .dk q5 q4 hh
    · exact h2.elim
theorem s_dic0 {t : Bool} : PE X (.Dict [] [] pos) (RD T ea X W C (.dic t .nil)) := by
  cases t with
  | false => exact pe_imp pe_dnewK fun σ H Q ⟨ρ, c, r, S, h⟩ p hp => h _ _ (fin_new0 (c1 := c) (cv := zro) (by rw [add_zro]; exact S) (by rw [add_zro]; exact .refl _ _) (fun _ _ => rfl) hp (.dK []) (.none fun G _ => Rp.dk (n := 9) (ks := []) (xs := []) (ds := []) upd_same rfl .nil .nil))
  | true => exact pe_imp pe_dnewT fun σ H Q ⟨ρ, c, r, S, h⟩ p hp => h _ _ (fin_new0 (c1 := c) (cv := zro) (by rw [add_zro]; exact S) (by rw [add_zro]; exact .refl _ _) (fun _ _ => rfl) hp (.dT []) (.none fun G _ => Rp.dt (n := 9) (ks := []) (xs := []) (ds := []) upd_same rfl .nil .nil))
end
/-! ### a def's promise -/
def getAll {α : Type} (vs : List α) : List Nat → Option (List α)
  | [] => some []
  | i :: is => match vs[i]?, getAll vs is with
    | some v, some r => some (v :: r)
    | _, _ => none
def spEnd (T : Tab) (ea : Nat → Addr) (K : Frag) (r cv : Cnt) (H : Hp) (lent : List Nat) (vs : List V) (Q : VK) (E : XK) : CR → Prop
  | .ok v outs => ∀ u H' cu vl, getAll vs lent = some vl → Rpl K (hid H' (add cu r)) H' (u :: vl) (v :: outs) cu → (∀ a, cu a + r a ≤ 1) → Lk H (add cv r) H' (add cu r) → Kp r H H' → Q u H'
  | .exc k ds outs => ∀ cls dx H' cu vl, getAll vs lent = some vl → Rpl K (hid H' (add cu r)) H' vl outs cu → (∀ a, cu a + r a ≤ 1) → ErR T ea K (hid H' (add cu r)) k ds cls dx → Lk H (add cv r) H' (add cu r) → Kp r H H' → E cls dx H'
  | .bad => False
def spF (T : Tab) (ea : Nat → Addr) (K : Frag) (n f : Nat) : Sp := fun vs H Q E => ∃ Fn as cv r, T.tbl[f]? = some Fn ∧ vs.length = Fn.ar ∧ Rpl K (hid H (add cv r)) H vs as cv ∧ (∀ a, cv a + r a ≤ 1) ∧ (∀ a, 0 < r a → ∃ o, H a = some o) ∧
  spEnd T ea K r cv H Fn.lent vs Q E (run T.tbl T.sub n f as)
/-! ### calls -/
def lendOut (ρ : Env) : E → Env
  | .cons (.lend i) b => lendOut (setE ρ i none) b
  | .cons _ b => lendOut ρ b
  | _ => ρ
def lendS : E → List Nat
  | .cons (.lend i) b => i :: lendS b
  | .cons _ b => lendS b
  | _ => []
/-- the places of the lent arguments -/
def lendPos : E → Nat → List Nat
  | .cons (.lend _) b, j => j :: lendPos b (j + 1)
  | .cons _ b, j => lendPos b (j + 1)
  | _, _ => []
theorem setE_comm : ∀ (ρ : Env) (i j : Nat) (v w : Option (Nat × D)), i ≠ j → setE (setE ρ i v) j w = setE (setE ρ j w) i v
  | [], _, _, _, _, _ => rfl
  | _ :: _, 0, 0, _, _, h => absurd rfl h
  | _ :: _, 0, _ + 1, _, _, _ => rfl
  | _ :: _, _ + 1, 0, _, _, _ => rfl
  | o :: r, i + 1, j + 1, v, w, h => by simp only [setE]; rw [setE_comm r i j v w fun e => h (by rw [e])]
theorem lendS_cons {a b : E} (h : ∀ i, a ≠ .lend i) : lendS (.cons a b) = lendS b := by
  cases a <;> first | exact absurd rfl (h _) | rfl
theorem lendOut_set : ∀ (b : E) (ρ : Env) (i : Nat) (v : Option (Nat × D)), i ∉ lendS b → lendOut (setE ρ i v) b = setE (lendOut ρ b) i v
  | .cons a b, ρ, i, v, h => by
    by_cases z : ∃ j, a = .lend j
    · obtain ⟨j, rfl⟩ := z
      simp only [lendS, List.mem_cons, not_or] at h
      simp only [lendOut]
      rw [setE_comm _ _ _ _ _ h.1]
      exact lendOut_set b _ i v h.2
    · have z' : ∀ j, a ≠ .lend j := fun j e => z ⟨j, e⟩
      rw [lendS_cons z'] at h
      have e1 : ∀ ρ, lendOut ρ (.cons a b) = lendOut ρ b := fun ρ => by cases a <;> first | exact absurd rfl (z' _) | rfl
      rw [e1, e1]
      exact lendOut_set b ρ i v h
  | .nil, _, _, _, _ => rfl
  | .int _, _, _, _, _ => rfl | .str _, _, _, _, _ => rfl | .bl _, _, _, _, _ => rfl | .non, _, _, _, _ => rfl | .var _, _, _, _, _ => rfl | .mov _, _, _, _, _ => rfl | .bor _, _, _, _, _ => rfl | .lend _, _, _, _, _ => rfl
  | .glob _ _, _, _, _, _ => rfl | .pv _, _, _, _, _ => rfl | .pi _ _, _, _, _, _ => rfl | .rdp _, _, _, _, _ => rfl | .qt _, _, _, _, _ => rfl | .tup _, _, _, _, _ => rfl | .lst _, _, _, _, _ => rfl | .dic _ _, _, _, _, _ => rfl
  | .neg _, _, _, _, _ => rfl | .bin _ _ _, _, _, _, _ => rfl | .cmp _ _ _, _, _, _, _ => rfl | .cmpQ _ _ _, _, _, _, _ => rfl | .cmpB _ _ _, _, _, _, _ => rfl | .mthB _ _ _, _, _, _, _ => rfl | .chain _ _ _ _ _, _, _, _, _ => rfl | .and_ _ _, _, _, _, _ => rfl | .or_ _ _, _, _, _, _ => rfl | .not_ _, _, _, _, _ => rfl | .ite _ _ _, _, _, _, _ => rfl
  | .idx _ _, _, _, _, _ => rfl | .slc _ _ _, _, _, _, _ => rfl | .rev _, _, _, _, _ => rfl | .call _ _, _, _, _, _ => rfl | .bi _ _, _, _, _, _ => rfl | .mth _ _ _, _, _, _, _ => rfl | .isI _ _, _, _, _, _ => rfl | .mut _ _ _, _, _, _, _ => rfl
  | .sdap _ _ _, _, _, _, _ => rfl | .lc _ _ _ _ _, _, _, _, _ => rfl | .dc _ _ _ _ _, _, _, _, _ => rfl | .irng1 _, _, _, _, _ => rfl | .irng2 _ _, _, _, _, _ => rfl | .irng3 _ _ _, _, _, _, _ => rfl | .ienum _, _, _, _, _ => rfl | .izip _ _, _, _, _, _ => rfl
  | .iitems _, _, _, _, _ => rfl | .ivals _, _, _, _, _ => rfl | .iseq _, _, _, _, _ => rfl | .eis _, _, _, _, _ => rfl | .efld _, _, _, _, _ => rfl
theorem lend_cons {a b : E} (h : ∀ i, a ≠ .lend i) (ρ : Env) (j : Nat) : lendOut ρ (.cons a b) = lendOut ρ b ∧ lendPos (.cons a b) j = lendPos b (j + 1) ∧ (∀ v vs, lendV ρ (.cons a b) (v :: vs) = (lendV ρ b vs).map (sv v.2 :: ·)) ∧ ∀ vs, lendBack (.cons a b) vs ρ = lendBack b vs ρ := by
  cases a <;> first | exact absurd rfl (h _) | exact ⟨rfl, rfl, fun _ _ => rfl, fun vs => by cases vs <;> rfl⟩
section
variable {K : Frag} {σ : L2.St} {H : Hp}
/-- the arguments as the callee gets them -/
theorem lend_take {K : KF} {es : E} {us ws : List V} (wv : Wv σ es us ws) : ∀ {bs as : List (Nat × D)} {ρ : Env} {r cv c : Cnt}, lendV ρ es bs = some as → StR K (add r cv) σ H ρ c → Rpl K (hid H (add c (add r cv))) H us bs cv →
    ∃ cv' c', StR K (add r cv') σ H (lendOut ρ es) c' ∧ Rpl K (hid H (add c' (add r cv'))) H ws as cv' ∧ Lk H (add c (add r cv)) H (add c' (add r cv')) := by
  induction wv with
  | nil =>
    intro bs as ρ r cv c e S R
    cases R
    simp only [lendV, Option.some.injEq] at e
    subst e
    exact ⟨zro, c, S, .nil, .refl _ _⟩
  | @lend i v b us ws hv wv ih =>
    intro bs as ρ r cv c e S R
    simp only [lendV] at e
    split at e
    · rename_i p g
      obtain ⟨n, d⟩ := p
      obtain ⟨as', e1, rfl⟩ := Option.map_eq_some_iff.mp e
      obtain ⟨v', ci, c2, h1, rfl, S2, h2⟩ := to_hand S g
      have ev : v' = v := by rw [hv] at h1; exact (Option.some.inj (Option.some.inj h1)).symm
      subst ev
      have eq : add r (add ci cv) = add (add r ci) cv := (add_assoc _ _ _).symm
      rw [eq] at S2
      have eq2 : add (add ci c2) (add r cv) = add c2 (add (add r ci) cv) := by funext x; unfold add; omega
      obtain ⟨cv', c', S3, R3, l3⟩ := ih e1 S2 (by rw [← eq2]; exact R)
      refine ⟨add ci cv', c', by rw [← add_assoc]; exact S3, ?_, by rw [← add_assoc r, eq2]; exact l3⟩
      rw [← add_assoc r]
      exact .cons (Rp.mono (by rw [eq2]; exact l3) h2 fun _ _ => rfl) R3
    · cases e
  | @cons a b u us ws hl wv ih =>
    intro bs as ρ r cv c e S R
    cases R with
    | @cons n _ d _ bs' ci cr x R =>
    obtain ⟨l1, _, l3, _⟩ := lend_cons hl (b := b) ρ 0
    rw [l3] at e
    obtain ⟨as', e1, rfl⟩ := Option.map_eq_some_iff.mp e
    have l0 : Lk H (add c (add r (add ci cr))) H (add c (add r cr)) := Lk.less fun y => by unfold add; omega
    have hx : Rp K (hid H (add c (add r cr))) H (sv d).1 u d zro := by
      obtain ⟨c0, le, q⟩ := part_sv hid_sub (Part.rp x)
      have z := q (hid H (add c (add r cr))) l0 fun y o hy ho => hid_some.mpr ⟨by have := S.lin y; have := le y; unfold add at *; omega, ho⟩
      have h0 : c0 = zro := (Rp.zero z (by unfold sv; cases a : atm d with | true => exact .inr rfl | false => exact .inl rfl)).1
      rw [h0] at z
      exact z
    obtain ⟨cv', c', S3, R3, l3⟩ := ih (r := r) e1 ⟨S.fxs, Envs.mono l0 S.env fun _ _ => rfl, fun y => by have := S.lin y; unfold add at *; omega, fun y hy => S.ex y (by unfold add at *; omega)⟩ (Rpl.mono l0 R fun _ _ => rfl)
    refine ⟨cv', c', by rw [l1]; exact S3, ?_, l0.trans l3⟩
    have z := Rpl.cons (Rp.mono l3 hx fun _ _ => rfl) R3
    rw [zro_add] at z
    exact z
/-- what was lent comes back -/
theorem lend_back {K : KF} {es : E} {us ws : List V} (wv : Wv σ es us ws) : ∀ {outs : List (Nat × D)} {ρ ρ' : Env} {r cv c : Cnt} {vl : List V} {j : Nat} {vs : List V}, (∀ k, vs[j + k]? = ws[k]?) → (lendS es).Nodup → getAll vs (lendPos es j) = some vl → lendBack es outs ρ = some ρ' → StR K (add r cv) σ H (lendOut ρ es) c → Rpl K (hid H (add c (add r cv))) H vl outs cv →
    ∃ c', StR K r σ H ρ' c' ∧ Lk H (add c (add r cv)) H (add c' r) := by
  induction wv with
  | nil =>
    intro outs ρ ρ' r cv c vl j vs hw nd hv e S R
    simp only [lendPos, getAll, Option.some.injEq] at hv
    subst hv
    cases R
    simp only [lendBack, Option.some.injEq] at e
    subst e
    rw [add_zro] at S ⊢
    exact ⟨c, S, .refl _ _⟩
  | @lend i v b us ws hv wv ih =>
    intro outs ρ ρ' r cv c vl j vs hw nd hg e S R
    simp only [lendPos, getAll] at hg
    have h0 : vs[j]? = some v := by have := hw 0; simpa using this
    rw [h0] at hg
    cases g : getAll vs (lendPos b (j + 1)) with
    | none => rw [g] at hg; cases hg
    | some vl' =>
      rw [g] at hg
      cases hg
      cases R with
      | @cons n _ d _ outs' ci cr x R =>
      simp only [lendBack] at e
      simp only [lendS, List.nodup_cons] at nd
      simp only [lendOut] at S
      rw [lendOut_set b ρ i none nd.1] at S
      have S1 := of_hand S hv x
      rw [← lendOut_set b ρ i (some (n, d)) nd.1] at S1
      have eq : add (add ci c) (add r cr) = add c (add r (add ci cr)) := by funext y; unfold add; omega
      obtain ⟨c', S2, l2⟩ := ih (j := j + 1) (fun k => by have := hw (k + 1); rw [List.getElem?_cons_succ] at this; rw [← this]; congr 1; omega) nd.2 g e S1 (by rw [eq]; exact R)
      exact ⟨c', S2, by rw [← eq]; exact l2⟩
  | @cons a b u us ws hl wv ih =>
    intro outs ρ ρ' r cv c vl j vs hw nd hg e S R
    obtain ⟨l1, l2, _, l4⟩ := lend_cons hl (b := b) ρ j
    rw [l2] at hg
    rw [l4] at e
    rw [l1] at S
    rw [lendS_cons hl] at nd
    exact ih (j := j + 1) (fun k => by have := hw (k + 1); rw [List.getElem?_cons_succ] at this; rw [← this]; congr 1; omega) nd hg e S R
end
end PL

/-! PL18: calls; statements. -/
namespace PL
open PySem L2
open PySem (PyData Str)
theorem run_ar {tbl : List Fn} {sub : Nat → Nat → Bool} {n f : Nat} {as : List (Nat × D)} (h : run tbl sub n f as ≠ .bad) : ∃ F, tbl[f]? = some F ∧ as.length = F.ar := by
  cases n with
  | zero => exact absurd rfl h
  | succ n =>
    unfold run at h
    cases q : tbl[f]? with
    | none => rw [q] at h; exact absurd rfl h
    | some F =>
      rw [q] at h
      simp only at h
      by_cases z : as.length = F.ar
      · exact ⟨F, rfl, z⟩
      · rw [if_neg (by simp [z])] at h; exact absurd rfl h
/-- a def that keeps its promise -/
def FnF (T : Tab) (ea : Nat → Addr) (P : Program) (w : World) (K : PySem.W.Frag) (mg : Str → Option Value) (base : Heap) (n f : Nat) (x : Str) : Prop :=
  ∃ a fd ps, mg x = some (.ref a) ∧ PySem.W.keepIn K (.ref a) = true ∧ Binds K fd ps [] ∧ FnOk P w K mg base (L2.CX P w) n a fd ps (spF T ea K n f)
section
variable {T : Tab} {ea : Nat → Addr} {X : Cx} {W : WX} {C : PL.C} {pos : Pos}
theorem wv_len {σ : L2.St} {es : E} {us ws : List V} (h : Wv σ es us ws) {ρ : Env} {bs as : List (Nat × D)} (e : lendV ρ es bs = some as) : ws.length = as.length := by
  induction h generalizing ρ bs as with
  | nil =>
    cases bs with
    | nil => simp only [lendV, Option.some.injEq] at e; subst e; rfl
    | cons _ _ => simp [lendV] at e
  | lend _ _ ih =>
    simp only [lendV] at e
    split at e
    · obtain ⟨as', e1, rfl⟩ := Option.map_eq_some_iff.mp e
      rw [List.length_cons, List.length_cons, ih e1]
    · cases e
  | @cons a b u us ws hl _ ih =>
    obtain ⟨_, _, l3, _⟩ := lend_cons hl (b := b) ρ 0
    cases bs with
    | nil => cases a <;> first | exact absurd rfl (hl _) | simp [lendV] at e
    | cons v vs =>
      rw [l3] at e
      obtain ⟨as', e1, rfl⟩ := Option.map_eq_some_iff.mp e
      rw [List.length_cons, List.length_cons, ih e1]
theorem s_call {n f : Nat} {es : E} {x : Str} {e : Expr} {xs : List Expr} {p : Pos} (F : FnF T ea X.prog X.w X.K X.mg X.base n f x) (hr : Room n X.A) (hg : Gl X x) (tk : Takes X W) (hC : C.call = run T.tbl T.sub n) (ha : PA X (e :: xs) (RA T ea X W C es)) (hs : (e :: xs).all notStar = true) (nd : (lendS es).Nodup)
    (hl : ∀ Fn, T.tbl[f]? = some Fn → lendPos es 0 = Fn.lent) (hdb : (x == ("__debug__" : Str)) = false) : PE X (.Call (.Name x p) (e :: xs) [] pos) (RD T ea X W C (.call f es)) := by
  obtain ⟨a, fd, ps, hm, hk, hb, F⟩ := F
  rw [List.all_cons, Bool.and_eq_true] at hs
  refine pe_imp (pe_callS F hr hg hm hk hb (passAt tk) ha hdb (star_cons hs.1) (star_back hs.2)) fun σ H Q ⟨ρ, c, r, S, h⟩ => useA (MS.start S) (by have h' := h; simp only [ev] at h'; exact h') fun bs ρ2 us ws H2 e1 m2 wv h2 => ?_
  rw [List.nil_append, List.nil_append] at m2
  simp only at h2
  obtain ⟨c1, cv, S2, R2, L2', k2⟩ := m2
  cases el : lendV ρ2 es bs with
  | none => rw [el] at h2; exact h2.elim
  | some as =>
  rw [el] at h2
  simp only [hC] at h2
  obtain ⟨cv', c', S3, R3, l3⟩ := lend_take wv el S2 R2
  have nb : run T.tbl T.sub n f as ≠ .bad := fun z => by rw [z] at h2; exact h2.elim
  obtain ⟨Fn, hF, har⟩ := run_ar nb
  have eq : ∀ x, add x (add c' r) = add c' (add r x) := fun x => by funext y; unfold add; omega
  refine ⟨Fn, as, cv', add c' r, hF, by rw [wv_len wv el]; exact har, by rw [eq]; exact R3, fun y => by have := S3.lin y; unfold add at *; omega, fun y hy => ?_, ?_⟩
  · by_cases z : 0 < c' y
    · exact Envs.ex S3.env z
    · exact S3.ex y (by unfold add at *; omega)
  have back : ∀ {H' : Hp} {cu : Cnt} {vl : List V} {outs : List (Nat × D)} {r' : Cnt} {ρ' : Env}, (∀ y, cu y + add c' r y ≤ 1) → Lk H2 (add cv' (add c' r)) H' (add cu (add c' r)) → Kp (add c' r) H2 H' → (∀ y, 0 < cu y → ∃ o, H' y = some o) → StR (kf T X) (add r cu) σ H' (lendOut ρ2 es) c' := by
    intro H' cu vl outs r' ρ' lin L k ex
    refine ⟨S3.fxs, Envs.mono (by rw [eq, eq] at L; exact L) S3.env fun y hy => k y (by unfold add; omega), fun y => by have := lin y; unfold add at *; omega, fun y hy => ?_⟩
    by_cases z : 0 < r y
    · obtain ⟨o, ho⟩ := S3.ex y (by unfold add; omega)
      exact ⟨o, by rw [k y (by unfold add; omega)]; exact ho⟩
    · exact ex y (by unfold add at *; omega)
  cases er : run T.tbl T.sub n f as with
  | bad => exact absurd er nb
  | ok v outs =>
    rw [er] at h2
    simp only [callK] at h2
    intro u H' cu vl hv Ru lin L k
    cases eb : lendBack es outs ρ2 with
    | none => rw [eb] at h2; exact h2.elim
    | some ρ' =>
      rw [eb] at h2
      have S4 := back (vl := vl) (outs := outs) (r' := r) (ρ' := ρ') lin L k fun y hy => Rpl.ex Ru hy
      rw [eq] at Ru
      cases Ru with
      | @cons nv _ dv _ _ ca cb x R =>
      have e4 : add r (add ca cb) = add (add r ca) cb := (add_assoc _ _ _).symm
      rw [e4] at S4 R x
      obtain ⟨c'', S5, l5⟩ := lend_back wv (j := 0) (vs := ws) (fun k => by rw [Nat.zero_add]) nd (by rw [hl Fn hF]; exact hv) eb S4 R
      refine h2 u H' ⟨c'', ca, S5, ?_, ?_, fun y hy => (k y (by unfold add; omega)).trans (k2 y hy)⟩
      · have z := Rpl.cons (Rp.mono l5 x fun _ _ => rfl) .nil
        rw [add_zro] at z
        exact z
      · rw [eq, eq, e4] at L
        exact L2'.trans (l3.trans (L.trans l5))
  | exc kk ds outs =>
    rw [er] at h2
    simp only [callK] at h2
    intro cls dx H' cu vl hv Ru lin er L k
    cases eb : lendBack es outs ρ2 with
    | none => rw [eb] at h2; exact h2.elim
    | some ρ' =>
      rw [eb] at h2
      have S4 := back (vl := vl) (outs := outs) (r' := r) (ρ' := ρ') lin L k fun y hy => Rpl.ex Ru hy
      rw [eq] at Ru er
      obtain ⟨c'', S5, l5⟩ := lend_back wv (j := 0) (vs := ws) (fun k => by rw [Nat.zero_add]) nd (by rw [hl Fn hF]; exact hv) eb S4 Ru
      refine h2 cls dx H' ⟨c'', S5, er.mono l5, ?_, fun y hy => (k y (by unfold add; omega)).trans (k2 y hy)⟩
      rw [eq, eq] at L
      exact L2'.trans (l3.trans (L.trans l5))
/-- isinstance of the error in hand -/
theorem s_eis {i k c : Nat} {ds : List D} {a D0 : Addr} {x y : Str} {p q q2 : Pos} (hgi : Gl X "isinstance") (hmi : X.mg "isinstance" = none) (hN : X.N[i]? = some x) (hv : Vis X.env.scope x) (hd : (x == ("__debug__" : Str)) = false) (hcd : (x == ("__classdict__" : Str)) = false)
    (hc : CallR X (.builtin "isinstance") (rIsE X.K D0 a)) (hfx : (i, V.ref a) ∈ T.fx) (hcur : C.cur = some (k, ds)) (hg : Gl X y) (hm : X.mg y = some (.ref (ea c))) (hdb : (y == ("__debug__" : Str)) = false) (hk : PySem.W.kitOne X.K (.ref D0) (.ref (ea c)) = some (C.sub k c)) :
    PE X (.Call (.Name "isinstance" p) [.Name x q, .Name y q2] [] pos) (RD T ea X W C (.eis [c])) :=
  pe_imp (pe_callB hc hgi hmi rfl (pa_cons (pe_var hN hv hd hcd) (pa_cons (pe_glob hg hm (v := V.ref (ea c)) rfl hdb) pa_nil rfl) rfl) (by decide) (by decide) rfl rfl) fun σ H Q ⟨ρ, c0, r, S, h⟩ => by
    have hs := S.fxs _ hfx
    simp only [ev, hcur, List.any_cons, List.any_nil, Bool.or_false] at h
    exact ⟨_, hs, _, _, _, rfl, fun u hu => hu, hk, h _ _ (fin_at (MS.start S) 9 rfl fun _ => .bl _)⟩
/-! ### statements -/
def aftS (T : Tab) (ea : Nat → Addr) (K : KF) (W : WX) (r : Cnt) (H : Hp) (c : Cnt) (D : Ends) : O → Prop
  | .nx ρ' => ∀ σ' H' c', StR K r σ' H' ρ' c' → Lk H (add c r) H' (add c' r) → Kp r H H' → D.nx σ' H'
  | .bk ρ' => ∀ σ' H' c', StR K r σ' H' ρ' c' → Lk H (add c r) H' (add c' r) → Kp r H H' → D.bk σ' H'
  | .ct ρ' => ∀ σ' H' c', StR K r σ' H' ρ' c' → Lk H (add c r) H' (add c' r) → Kp r H H' → D.ct σ' H'
  | .rt v ρ' => ∀ σ' u H', MS K r σ' H c H' ρ' [u] [v] → D.rt u H'
  | .exc k ds ρ' => ∀ σ' cls dx H', Px T ea K r σ' H c k ds ρ' cls dx H' → W cls dx σ' H'
  | .bad => False
def rdS (T : Tab) (ea : Nat → Addr) (K : KF) (W : WX) (C : PL.C) (s : S) : TS := fun D σ H => ∃ ρ c r, StR K r σ H ρ c ∧ aftS T ea K W r H c D (ex C s ρ)
abbrev RS (T : Tab) (ea : Nat → Addr) (X : Cx) (W : WX) (C : PL.C) (s : S) : TS := rdS T ea (kf T X) W C s
theorem MS.from {K : KF} {r c c1 : Cnt} {σ : L2.St} {H H1 H2 : Hp} {ρ : Env} {vs : List V} {as : List (Nat × D)} (L : Lk H (add c r) H1 (add c1 r)) (k : Kp r H H1) (m : MS K r σ H1 c1 H2 ρ vs as) : MS K r σ H c H2 ρ vs as := by
  obtain ⟨c2, cv, S, R, L2, k2⟩ := m
  exact ⟨c2, cv, S, R, L.trans L2, fun a ha => (k2 a ha).trans (k a ha)⟩
theorem aftS_from {K : KF} {r c c1 : Cnt} {H H1 : Hp} {D : Ends} {o : O} (L : Lk H (add c r) H1 (add c1 r)) (k : Kp r H H1) (h : aftS T ea K W r H c D o) : aftS T ea K W r H1 c1 D o := by
  cases o with
  | nx ρ' => exact fun σ' H' c' S L2 k2 => h σ' H' c' S (L.trans L2) fun a ha => (k2 a ha).trans (k a ha)
  | bk ρ' => exact fun σ' H' c' S L2 k2 => h σ' H' c' S (L.trans L2) fun a ha => (k2 a ha).trans (k a ha)
  | ct ρ' => exact fun σ' H' c' S L2 k2 => h σ' H' c' S (L.trans L2) fun a ha => (k2 a ha).trans (k a ha)
  | rt v ρ' => exact fun σ' u H' m => h σ' u H' (m.from L k)
  | exc kk ds ρ' => exact fun σ' cls dx H' p => h σ' cls dx H' (p.from L k)
  | bad => exact h
/-- a value asked in a statement -/
theorem useS {K : KF} {r c : Cnt} {σ : L2.St} {H H1 : Hp} {ρ1 : Env} {vs : List V} {as : List (Nat × D)} {D : Ends} {e : E} {k : (Nat × PL.D) → Env → O} {Q' : VK} (m : MS K r σ H c H1 ρ1 vs as) (h : aftS T ea K W r H c D ((ev C e ρ1).toO k))
    (hk : ∀ v ρ2 u H2, ev C e ρ1 = .ok v ρ2 → MS K r σ H c H2 ρ2 (vs ++ [u]) (as ++ [v]) → aftS T ea K W r H c D (k v ρ2) → Q' u H2) : rd T ea K W C e σ H1 Q' := by
  cases e1 : ev C e ρ1 with
  | ok a ρ' =>
    rw [e1] at h
    exact use m (fun _ _ _ _ _ _ e2 => by rw [e1] at e2; cases e2) (by rw [e1]; intro z; cases z) fun v ρ2 u H2 e2 m2 => by
      rw [e1] at e2; cases e2
      exact hk _ _ _ _ e1 m2 h
  | exc kk ds ρ' =>
    rw [e1] at h
    exact use m (fun _ _ _ _ _ _ e2 p => by rw [e1] at e2; cases e2; exact h _ _ _ _ p) (by rw [e1]; intro z; cases z) fun v ρ2 u H2 e2 m2 => by
      rw [e1] at e2; cases e2
  | bad => rw [e1] at h; exact h.elim
theorem w_pass : PS X (.Pass pos) (RS T ea X W C .pass) := ps_imp ps_pass fun D σ H ⟨ρ, c, r, S, h⟩ => h σ H c S (.refl _ _) fun _ _ => rfl
theorem w_brk : PS X (.Break pos) (RS T ea X W C .brk) := ps_imp ps_break fun D σ H ⟨ρ, c, r, S, h⟩ => h σ H c S (.refl _ _) fun _ _ => rfl
theorem w_cont : PS X (.Continue pos) (RS T ea X W C .cont) := ps_imp ps_continue fun D σ H ⟨ρ, c, r, S, h⟩ => h σ H c S (.refl _ _) fun _ _ => rfl
theorem w_nop : PSs X [] (RS T ea X W C .nop) := pss_imp pss_nil fun D σ H ⟨ρ, c, r, S, h⟩ => h σ H c S (.refl _ _) fun _ _ => rfl
theorem w_seq {a b : S} {st : Stmt} {sts : List Stmt} (ha : PS X st (RS T ea X W C a)) (hb : PSs X sts (RS T ea X W C b)) : PSs X (st :: sts) (RS T ea X W C (.seq a b)) :=
  pss_imp (pss_cons ha hb) fun D σ H ⟨ρ, c, r, S, h⟩ => by
    refine ⟨ρ, c, r, S, ?_⟩
    simp only [ex] at h
    cases q : ex C a ρ with
    | nx ρ1 =>
      rw [q] at h
      exact fun σ' H' c' S' L k => ⟨ρ1, c', r, S', aftS_from L k h⟩
    | rt v ρ1 => rw [q] at h; exact h
    | bk ρ1 => rw [q] at h; exact h
    | ct ρ1 => rw [q] at h; exact h
    | exc kk ds ρ1 => rw [q] at h; exact h
    | bad => rw [q] at h; exact h
theorem w_expr {e : E} {x : Expr} (he : PE X x (RD T ea X W C e)) (hs : swapsWith x none pos.line X.env = pure false) : PS X (.Expr x pos) (RS T ea X W C (.expr e)) :=
  ps_imp (ps_expr he hs) fun D σ H ⟨ρ, c, r, S, h⟩ => by
    simp only [ex] at h
    refine useS (MS.start S) h fun v ρ1 u H1 e1 m1 h1 => ?_
    obtain ⟨c', S', L', k'⟩ := MS.forget m1
    exact h1 σ H1 c' S' L' k'
theorem w_ret {e : E} {x : Expr} (he : PE X x (RD T ea X W C e)) : PS X (.Return (some x) pos) (RS T ea X W C (.ret e)) :=
  ps_imp (ps_ret he) fun D σ H ⟨ρ, c, r, S, h⟩ => by
    simp only [ex] at h
    exact useS (MS.start S) h fun v ρ1 u H1 e1 m1 h1 => h1 σ u H1 m1
theorem w_retN : PS X (.Return none pos) (RS T ea X W C .retN) :=
  ps_imp ps_retN fun D σ H ⟨ρ, c, r, S, h⟩ => h σ .non H (fin_at (MS.start S) 9 rfl fun _ => .non)
theorem w_if {t : E} {a b : S} {x : Expr} {xs ys : List Stmt} (ht : PT X x (RT T ea X W C t)) (ha : PSs X xs (RS T ea X W C a)) (hb : PSs X ys (RS T ea X W C b)) : PS X (.If x xs ys pos) (RS T ea X W C (.ite t a b)) :=
  ps_imp (ps_if ht ha hb) fun D σ H ⟨ρ, c, r, S, h⟩ => by
    simp only [ex] at h
    refine ⟨ρ, c, r, S, ?_⟩
    show aftB T ea (kf T X) W r σ H c _ ((ev C t ρ).bind tru)
    cases q : (ev C t ρ).bind tru with
    | ok k ρ1 =>
      rw [q] at h
      intro H' c' S' L' k'
      cases k with
      | true => exact ⟨ρ1, c', r, S', aftS_from L' k' h⟩
      | false => exact ⟨ρ1, c', r, S', aftS_from L' k' h⟩
    | exc kk ds ρ1 => rw [q] at h; exact fun cls dx H' p => h σ cls dx H' p
    | bad => rw [q] at h; exact h.elim
theorem w_asg {t : Tg} {e : E} {x tg : Expr} (he : PE X x (RD T ea X W C e)) (hg : PG X tg (gOf X.K t)) (hf : (kf T X).free (tgS t)) (hs : swapsWithSole [tg] x pos.line X.env = pure false) (hw : swappedStores [tg] x X.env = pure none) (h1 : (assignEach [tg] X.env).map (·.2) = [assign tg X.env]) : PS X (.Assign [tg] x pos) (RS T ea X W C (.asg t e)) :=
  ps_imp (ps_asg he hg hs hw h1) fun D σ H ⟨ρ, c, r, S, h⟩ => by
    simp only [ex] at h
    refine useS (MS.start S) h fun v ρ1 u H1 e1 m1 h1 => ?_
    split at h1
    · rename_i ρ2 eb
      exact useG m1 hf eb fun σ' c' S' L' k' _ => h1 σ' H1 c' S' L' k'
    · exact h1.elim
/-- name = [..] on one line -/
theorem w_setE {i : Nat} {e : E} {st : Stmt} {te : TE} (hp : PS X st (tAsg te (gName i))) (hr : ∀ σ H Q, RD T ea X W C e σ H Q → te σ H Q) (hf : (kf T X).free [i]) : PS X st (RS T ea X W C (.asg (.nm i) e)) :=
  ps_imp hp fun D σ H ⟨ρ, c, r, S, h⟩ => by
    simp only [ex] at h
    refine hr σ H _ (useS (MS.start S) h fun v ρ1 u H1 e1 m1 h1 => ?_)
    exact useG (t := .nm i) (Q := D.nx) m1 hf rfl fun σ' c' S' L' k' _ => h1 σ' H1 c' S' L' k'
/-- a, b = x, y -/
theorem w_par {i j : Nat} {e1 e2 : E} {a b : Expr} {x y : Str} {px py pt : Pos} {kt k2 : Nat} {pt2 : Pos} (hc : X.calm = true) (hN : X.N.Nodup) (hi : X.N[i]? = some x) (hj : X.N[j]? = some y) (hij : i ≠ j) (hx : X.env.scope.names.lookup x = some .local) (hy : X.env.scope.names.lookup y = some .local)
    (ha : PA X [a, b] (RA T ea X W C (.cons e1 (.cons e2 .nil)))) (hl1 : ∀ i, e1 ≠ .lend i) (hl2 : ∀ i, e2 ≠ .lend i) (hf : (kf T X).free [i, j]) (hw : swappedStores [.Tuple [.Name x px, .Name y py] kt pt] (.Tuple [a, b] k2 pt2) X.env = pure (some [x, y])) :
    PS X (.Assign [.Tuple [.Name x px, .Name y py] kt pt] (.Tuple [a, b] k2 pt2) pos) (RS T ea X W C (.asg (.nms [i, j]) (.tup (.cons e1 (.cons e2 .nil))))) :=
  ps_imp (ps_par hc hN hi hj hij hx hy ha hw) fun D σ H ⟨ρ, c, r, S, h⟩ => by
    simp only [ex, ev, evs_two hl1 hl2] at h
    refine ⟨ρ, c, r, S, ?_⟩
    rw [evs_two hl1 hl2]
    have hn : noL (.cons e1 (.cons e2 .nil)) = true := by
      have : ∀ {e b : E}, (∀ i, e ≠ .lend i) → noL (.cons e b) = noL b := fun {e b} h => by cases e <;> first | exact absurd rfl (h _) | rfl
      rw [this hl1, this hl2]; rfl
    cases q1 : ev C e1 ρ with
    | bad => rw [q1] at h; exact h.elim
    | exc kk ds ρ1 => rw [q1] at h; exact fun cls dx H' p => h σ cls dx H' p
    | ok v ρ1 =>
    rw [q1] at h
    simp only [R.bind_ok] at h ⊢
    cases q2 : ev C e2 ρ1 with
    | bad => rw [q2] at h; exact h.elim
    | exc kk ds ρ2 => rw [q2] at h; exact fun cls dx H' p => h σ cls dx H' p
    | ok w ρ2 =>
    rw [q2] at h
    simp only [R.bind_ok, R.toO, List.map_cons, List.map_nil, bindT, bindAll] at h
    intro us ws H' m wv
    obtain rfl := wv.same hn
    obtain ⟨c1, cv, S1, R1, L1, k1⟩ := m
    have hlen := R1.len
    match us, R1, hlen with
    | [u1, u2], R1, _ =>
    obtain ⟨ca, cb, r1, r2, rfl⟩ := R1.two
    refine ⟨u1, u2, rfl, ?_⟩
    have dep : ∀ {G H : Hp} {n : Nat} {u : V} {d : PL.D} {cc : Cnt}, Rp X.K G H n u d cc → (if atm d then 9 else cdep [v, w] + 1 - 1) ≤ n ∨ atm d = true → Part G H cc fun F c' => Rp X.K F H (if atm d then 9 else cdep [v, w] + 1 - 1) u d c' := by
      intro G H n u d cc hr hk
      cases a : atm d with
      | true =>
        obtain ⟨rfl, hd⟩ := hr.zero (.inr a)
        exact .none fun F s => .at_ a (hd.atom a)
      | false =>
        rw [a] at hk
        rcases hk with hk | hk
        · exact Rps.wk (vs := [u]) (ds := [d]) (by have z := Rps.cons hr .nil; rw [add_zro] at z; exact z) hk |>.imp fun G c' z => by
            cases z with
            | cons z1 z2 => cases z2; rw [add_zro]; exact z1
        · cases hk
    have d1 : (if atm v.2 then 9 else cdep [v, w] + 1 - 1) ≤ v.1 ∨ atm v.2 = true := by
      cases a : atm v.2 with
      | true => exact .inr rfl
      | false =>
        left
        simp only [cdep, a, Bool.false_eq_true, if_false]
        omega
    have d2 : (if atm w.2 then 9 else cdep [v, w] + 1 - 1) ≤ w.1 ∨ atm w.2 = true := by
      cases a : atm w.2 with
      | true => exact .inr rfl
      | false =>
        left
        simp only [cdep, a, Bool.false_eq_true, if_false]
        omega
    obtain ⟨cc, le, pp⟩ := Part.pair (dep r1 d1) (dep r2 d2)
    have l0 : Lk H' (add c1 (add r (add ca cb))) H' (add c1 (add r cc)) := Lk.less fun b => by have := le b; unfold add at *; omega
    obtain ⟨a', b', rfl, p1, p2⟩ := pp (hid H' (add c1 (add r cc))) l0 fun b o hb e => hid_some.mpr ⟨by have := S1.lin b; unfold add at *; omega, e⟩
    have S2 : StR (kf T X) (add (add r b') a') σ H' ρ2 c1 := ⟨S1.fxs, by have z := Envs.mono l0 S1.env fun _ _ => rfl; have e : add r (add a' b') = add (add r b') a' := by { funext y; unfold add; omega }; rw [e] at z; exact z, fun b => by have := S1.lin b; have := le b; unfold add at *; omega, fun b hb => S1.ex b (by have := le b; unfold add at *; omega)⟩
    have e : add r (add a' b') = add (add r b') a' := by funext y; unfold add; omega
    rw [e] at p1 p2 l0
    obtain ⟨c2, S3, l3, _⟩ := bind_one (i := i) S2 (fun p hp z => hf p hp (by simp at z; simp [z])) p1
    have p2' := Rp.mono l3 p2 fun _ _ => rfl
    obtain ⟨c3, S4, l4, _⟩ := bind_one (i := j) S3 (fun p hp z => hf p hp (by simp at z; simp [z])) p2'
    exact h _ H' c3 S4 (L1.trans (l0.trans (l3.trans l4))) k1
end
end PL

/-! PL19: stores, loops, errors. -/
namespace PL
open PySem L2
open PySem (PyData Str)
/-! ### stores -/
def rset : TSet := fun o i v H Q => rSetL o i v H Q ∨ rSetD o i v H Q
theorem rset_ok {X : Cx} (hu : X.A.units + 1 < cLine) : PSet X rset := by
  intro pins s σ H o i v ov iv u Q I ro ri rv h
  rcases h with h | h
  · exact set_list pins s σ H o i v ov iv u Q I ro ri rv h
  · exact set_dict hu pins s σ H o i v ov iv u Q I ro ri rv h
theorem sto_snd {K : Frag} {F H : Hp} {n : Nat} {o : HO} {d kd : D} {cc cv : Cnt} {u ku : V} {v w : Nat × D} {a : Addr} (ho : H a = some o) (ct : Ct K F H n o d cc) (R : Rp K F H v.1 u v.2 cv) (sub : Same F H) (hk : Dd K H ku kd) (e : stoD (n + 1) d kd v = some w) :
    ∃ k o', w.1 = k + 1 ∧ (∀ Q : Hp → Prop, Q (upd H a o') → rset (.ref a) ku u H Q) ∧ Part F H (add cc cv) fun G c' => Ct K G H k o' w.2 c' := by
  obtain ⟨m, dv⟩ := v
  have pv : Part F H cv fun G c' => Rp K G H (min n (if atm dv then 9 else m)) u dv c' := R.low (by
    cases z : atm dv with
    | true => exact .inl rfl
    | false => right; simp only [Bool.false_eq_true, if_false]; exact Nat.min_le_right _ _)
  have dm : dmin (n + 1) (m, dv) = min n (if atm dv then 9 else m) + 1 := by unfold dmin; simp only; omega
  cases d with
  | list ds =>
    cases kd <;> simp only [stoD, reduceCtorEq] at e
    rename_i i
    obtain rfl := hk.int'
    split at e
    · rename_i j hj
      cases e
      cases ct with
      | @lst xs _ _ r =>
      refine ⟨min n (if atm dv then 9 else m), .lst (xs.set j u), dm, fun Q q => .inl ⟨a, xs, i, j, rfl, rfl, ho, by rw [r.len]; exact hj, q⟩, ?_⟩
      refine Part.bind sub (Part.pair (r.wk (m := min n (if atm dv then 9 else m)) (Nat.min_le_left _ _)) pv) fun F' c' s hh => ?_
      obtain ⟨p, q, e, h1, h2⟩ := hh
      rw [e]
      exact (h1.put j h2).imp fun G c' z => .lst z
    · cases e
  | dict kvs =>
    simp only [stoD, Option.ite_none_right_eq_some, Bool.and_eq_true, decide_eq_true_eq, Option.some.injEq] at e
    obtain ⟨⟨⟨ok, ka⟩, hz⟩, rfl⟩ := e
    obtain ⟨q, rfl⟩ := kD_of ka
    obtain rfl := hk.kV'
    generalize hd : PyData.dict kvs = dd at ct
    cases ct with
    | lst _ => cases hd
    | tup _ => cases hd
    | @dk ks xs ds _ hl nd r =>
      cases hd
      obtain ⟨ks', xs', ds', f1, f2, f3, f4, f5⟩ := put_part (k := q) (v := u) nd hl sub (Part.rps r) R
      refine ⟨min n (if atm dv then 9 else m), .dK (L2.putK (ks.zip xs) q u), dm, fun Q z => .inr ⟨a, _, rfl, .inl ⟨_, q, ho, rfl, ?_, rfl⟩, z⟩, ?_⟩
      · have hn : ((ks.zip xs).length : Nat) = ((ks.map kD).zip ds).length := by rw [List.length_zip, List.length_zip, List.length_map, r.len]
        rw [hn, sizeLine_eq]; exact hz
      · show Part F H (add cc cv) fun G c' => Ct K G H _ (.dK (L2.putK (ks.zip xs) q u)) (.dict (PL.putK ((ks.map kD).zip ds) (kD q) dv)) c'
        rw [f1, f2]
        exact f5.imp fun G c' z => .dk f4 f3 z
    | @dt ks xs ds _ hl nd r =>
      cases hd
      simp only [kindOk, mrk, Bool.and_eq_true, Bool.not_eq_true'] at ok
      rw [ok.2] at ka; cases ka
  | none => cases e
  | bool _ => cases e
  | int _ => cases e
  | str _ => cases e
  | tuple _ => cases e
section
variable {T : Tab} {ea : Nat → Addr} {X : Cx} {W : WX} {C : PL.C} {pos : Pos}
/-- the local's object behind a store -/
theorem sto_end {r c : Cnt} {σ : L2.St} {H H1 : Hp} {ρ1 : Env} {u ku : V} {v : Nat × PL.D} {i : Nat} {kd : PL.D} {vo : V} {D : Ends} (m : MS (kf T X) r σ H c H1 ρ1 [u] [v]) (hv : σ[i]? = some (some vo)) (hk : Dd X.K H1 ku kd) (h : aftS T ea (kf T X) W r H c D (stoE (i, [kd]) v ρ1 .nx)) :
    rset vo ku u H1 fun H2 => D.nx σ H2 := by
  unfold stoE at h
  simp only at h
  cases g : getE ρ1 i with
  | none => rw [g] at h; exact h.elim
  | some p =>
    obtain ⟨n, d⟩ := p
    rw [g] at h
    simp only [List.reverse_cons, List.reverse_nil, List.nil_append] at h
    cases n with
    | zero => simp only [chgP] at h; exact h.elim
    | succ n =>
      simp only [chgP] at h
      cases es : stoD (n + 1) d kd v with
      | none => rw [es] at h; exact h.elim
      | some w =>
        rw [es] at h
        simp only [Option.map_some] at h
        have ha : atm d = false := by cases d <;> first | rfl | (cases kd <;> cases es)
        obtain ⟨a, o, h1, h2, h3⟩ := fin_mut (w := w) (x := (9, .none)) (fun o' x => ∀ Q : Hp → Prop, Q (upd H1 (match vo with | .ref a => a | _ => 0) o') → rset vo ku u H1 Q) m g ha
        have ev : vo = .ref a := by rw [hv] at h1; exact Option.some.inj (Option.some.inj h1)
        subst ev
        obtain ⟨o', x, hz, po⟩ := h3 fun F cc cv s ct R => by
          obtain ⟨k, o', e1, e2, e3⟩ := sto_snd h2 ct R.one1 s hk es
          refine ⟨k, o', .non, e1, e2, e3.imp fun G c' z => ⟨c', zro, (add_zro _).symm, z, .at_ rfl fun _ => .non⟩⟩
        obtain ⟨c', S', L', k'⟩ := MS.forget po
        exact hz _ (h σ _ c' S' L' k')
theorem w_sto {i : Nat} {k e : E} {x y z : Expr} {p2 : Pos} (hu : X.A.units + 1 < cLine) (he : PE X z (RD T ea X W C e)) (ho : PE X x (rdP (kf T X) (.pv i))) (hk : PE X y (rdQ (kf T X) k))
    (ha : ∀ v, assign (.Subscript x y p2) X.env v = (do
      let ov ← holding [v] (eval x X.env)
      let iv ← holding [v, ov] (eval y X.env)
      standAt p2
      holding [v, ov, iv] (setItem ov iv v)
      release [v, ov, iv] []))
    (hs : swapsWithSole [.Subscript x y p2] z pos.line X.env = pure false) (hw : swappedStores [.Subscript x y p2] z X.env = pure none) : PS X (.Assign [.Subscript x y p2] z pos) (RS T ea X W C (.sto (.pi (.pv i) k) e)) := by
  refine ps_imp (ps_asg he (pg_sub ho hk (rset_ok hu) ha) hs hw rfl) fun D σ H ⟨ρ, c, r, S, h⟩ => ?_
  simp only [ex] at h
  refine useS (MS.start S) h fun v ρ1 u H1 e1 m1 h1 => ?_
  simp only [evP] at h1
  cases q : evQ k ρ1 with
  | none => rw [q] at h1; exact h1.elim
  | some kd =>
    rw [q] at h1
    simp only [List.nil_append] at h1
    have m1' := m1
    obtain ⟨c1, cv, S1, R1, L1, k1⟩ := m1
    have hg : ∃ n d, getE ρ1 i = some (n, d) := by
      cases g : getE ρ1 i with
      | none => unfold stoE at h1; simp only [g] at h1; exact h1.elim
      | some p => exact ⟨p.1, p.2, rfl⟩
    obtain ⟨n, d, g⟩ := hg
    obtain ⟨vo, h2, _⟩ := envs_at S1 g
    exact ⟨ρ1, c1, add r cv, i, [], vo, vo, S1, rfl, h2, .nil, ρ1, c1, add r cv, kd, S1, q, fun ku hku => sto_end (ku := ku) m1' h2 hku h1⟩
/-! ### for -/
theorem for_item {K : KF} {r : Cnt} {σ : L2.St} {H' H'' : Hp} {J : It} {ds : List PL.D} {x' : V} {ρ ρb : Env} {t : Tg} {i : Nat} {x : PL.D} {Q : L2.St → Hp → Prop} {c1 : Cnt}
    (S : StR K r σ H' ρ c1) (hf : K.free (tgS t)) (ito : ItOk K J ds (hid H' (add c1 r))) (y : J.yld i H' x' H'') (ex : ds[i]? = some x) (eb : bindT t (sv x) ρ = some ρb)
    (q : ∀ σ2 c2, StR K r σ2 H'' ρb c2 → Lk H' (add c1 r) H'' (add c2 r) → Kp r H' H'' → Q σ2 H'') : gOf K t x' σ H'' Q := by
  obtain ⟨gr, dd⟩ := ito.yld i H' x' H'' hid_sub y x ex
  obtain ⟨S', l', k'⟩ := S.grow gr
  have hx : Dd K (hid H'' (add c1 r)) x' x := dd _ l' fun b o hb ho => hid_some.mpr ⟨by
    by_cases z : 0 < add c1 r b
    · exfalso
      have : ∃ o, H' b = some o := by
        by_cases z1 : 0 < c1 b
        · exact Envs.ex S.env z1
        · exact S.ex b (by unfold add at *; omega)
      obtain ⟨o', e'⟩ := this
      rw [hb] at e'; cases e'
    · omega, ho⟩
  have m : MS K r σ H'' c1 H'' ρ [x'] [sv x] := by
    refine ⟨c1, zro, by rw [add_zro]; exact S', ?_, by rw [add_zro]; exact .refl _ _, fun _ _ => rfl⟩
    have hx2 : Dd K (hid H'' (add c1 (add r zro))) x' x := by rw [add_zro]; exact hx
    have z : Rp K (hid H'' (add c1 (add r zro))) H'' (sv x).1 x' x zro := by
      unfold sv
      cases ax : atm x with
      | true => exact .at_ ax (hx2.atom ax)
      | false => exact .sh hx2
    have z2 := Rpl.cons z .nil
    rw [add_zro] at z2
    exact z2
  exact useG m hf eb fun σ2 c2 S3 L3 k3 o => q σ2 c2 S3 (l'.trans L3) k'
theorem w_for {t : Tg} {it : E} {b : S} {x tg : Expr} {body : List Stmt} (hp : PassesOwn (model X.prog X.w) X.A X.env X.xe) (hc : X.calm = true) (hi : PI X tg x (RI T ea X W C it)) (hg : PG X tg (gOf X.K t)) (hf : (kf T X).free (tgS t)) (hb : PSs X body (RS T ea X W C b)) (hs : ∀ v, foldedSetIterable x X.env v = pure v) :
    PS X (.For tg x body [] pos) (RS T ea X W C (.for_ t it b)) :=
  ps_imp (ps_for hp hc hi hg hb hs) fun D σ H ⟨ρ, c, r, S, h⟩ => by
    simp only [ex] at h
    refine ⟨ρ, c, r, S, ?_⟩
    cases q : evI C it ρ with
    | bad => rw [q] at h; exact h.elim
    | exc kk ds ρ1 => rw [q] at h; exact fun cls dx H' p => h σ cls dx H' p
    | ok ds ρ1 =>
    rw [q] at h
    simp only [R.toO_ok] at h
    intro J H1 c1 S1 L1 K1 ito
    let P : Nat → L2.St → Hp → Prop := fun i σ' H' => ∃ ρ' c', StR (kf T X) r σ' H' ρ' c' ∧ Lk H (add c r) H' (add c' r) ∧ Kp r H H' ∧ ItOk X.K J ds (hid H' (add c' r)) ∧ aftS T ea (kf T X) W r H c D (forGo (fun x r => bindT t (sv x) r) (fun r => PL.ex C b r) (ds.drop i) ρ')
    refine ⟨fun i m σ' H' => m = ds.length - i ∧ i ≤ ds.length ∧ P i σ' H', ⟨ds.length, by omega, Nat.zero_le _, ρ1, c1, S1, L1, K1, ito, h⟩, ?_⟩
    rintro i m σ' H' ⟨rfl, hi, ρ', c', S', L', K', ito, eg⟩
    by_cases hl : i < ds.length
    · refine .inr ⟨ito.go i H' hid_sub hl, P (i + 1), fun σ'' H'' p' => ⟨ds.length - (i + 1), by omega, rfl, hl, p'⟩, fun x' H'' y => ?_⟩
      rw [List.drop_eq_getElem_cons hl] at eg
      unfold forGo at eg
      cases eb : bindT t (sv ds[i]) ρ' with
      | none => rw [eb] at eg; exact eg.elim
      | some ρb =>
        rw [eb] at eg
        simp only at eg
        refine for_item S' hf ito y (x := ds[i]) (by simp [hl]) eb fun σ2 c2 S2 L2' k2 => ⟨ρb, c2, r, S2, ?_⟩
        have LL := L'.trans L2'
        have KK : Kp r H H'' := fun b hb => (k2 b hb).trans (K' b hb)
        cases e : PL.ex C b ρb with
        | nx ρ2 =>
          rw [e] at eg
          exact fun σ3 H3 c3 S3 L3 k3 => ⟨ρ2, c3, S3, LL.trans L3, fun b hb => (k3 b hb).trans (KK b hb), ito.mono (L2'.trans L3), eg⟩
        | ct ρ2 =>
          rw [e] at eg
          exact fun σ3 H3 c3 S3 L3 k3 => ⟨ρ2, c3, S3, LL.trans L3, fun b hb => (k3 b hb).trans (KK b hb), ito.mono (L2'.trans L3), eg⟩
        | bk ρ2 =>
          rw [e] at eg
          exact fun σ3 H3 c3 S3 L3 k3 => eg σ3 H3 c3 S3 (LL.trans L3) fun b hb => (k3 b hb).trans (KK b hb)
        | rt v ρ2 =>
          rw [e] at eg
          exact fun σ3 u H3 m => eg σ3 u H3 (m.from LL KK)
        | exc kk dd ρ2 =>
          rw [e] at eg
          exact fun σ3 cls dx H3 p => eg σ3 cls dx H3 (p.from LL KK)
        | bad => rw [e] at eg; exact eg
    · have e : i = ds.length := by omega
      subst e
      rw [List.drop_length] at eg
      unfold forGo at eg
      exact .inl ⟨ito.stop H' hid_sub, eg σ' H' c' S' L' K'⟩
/-! ### errors -/
theorem w_raise {k : Nat} {m x : Str} {j : Nat} {p p2 p3 : Pos} {bmB : List Value} {B newId initId : String} (hc : X.calm = true) (tk : Takes X W) (he : T.errs[k]? = some (x, [])) (F : ExcBaseFacts B newId initId bmB) (q : PySem.W.excIn X.K (ea k) bmB newId = true) (gC : X.mg x = some (.ref (ea k))) (kC : PySem.W.keepIn X.K (.ref (ea k)) = true) (r : Raises X (.ref (ea k))) (hg : Gl X x)
    (hdb : (x == ("__debug__" : Str)) = false) : PS X (.Raise (some (.Call (.Name x p) [.Constant (.str m) j p2] [] p3)) none pos) (RS T ea X W C (.rais k (.cons (.str m) .nil))) :=
  ps_imp (ps_raise hc tk (pmk_own F q gC kC r hg hdb)) fun D σ H ⟨ρ, c, r, S, h⟩ => by
    simp only [ex, evs, ev, R.bind_ok, R.toO_ok] at h
    exact h σ _ none H ⟨c, S, ⟨rfl, x, [], he, .inl ⟨rfl, rfl⟩⟩, .refl _ _, fun _ _ => rfl⟩
theorem StR.fewer {K K' : KF} {r c : Cnt} {σ : L2.St} {H : Hp} {ρ : Env} (hk : K'.k = K.k) (hf : K'.ok σ) (S : StR K r σ H ρ c) : StR K' r σ H ρ c := ⟨hf, by rw [hk]; exact S.env, S.lin, S.ex⟩
/-- a slot given up, set to what one likes -/
theorem StR.slot {K K' : KF} {r c : Cnt} {σ : L2.St} {H : Hp} {ρ : Env} {i : Nat} {o : Option V} (hk : K'.k = K.k) (hf : K'.ok (σ.set i o)) (S : StR K r σ H ρ c) : ∃ c', StR K' r (σ.set i o) H (setE ρ i none) c' ∧ Lk H (add c r) H (add c' r) := by
  obtain ⟨c', le, E⟩ := Envs.drop i S.env
  have l : Lk H (add c r) H (add c' r) := Lk.less fun b => by have := le b; unfold add; omega
  exact ⟨c', ⟨hf, by rw [hk]; exact Envs.slot o (Envs.mono l E fun _ _ => rfl) (getE_none ρ i), fun b => by have := S.lin b; have := le b; omega, S.ex⟩, l⟩
/-- the table within a handler -/
abbrev Tab.hot (T : Tab) (i : Nat) (a : Addr) : Tab := { T with fx := (i, V.ref a) :: T.fx }
theorem w_try {i k : Nat} {b h : S} {x n : Str} {body suite : List Stmt} {b₀ : Stmt} {np pos' : Pos} (hs : X.stack = X.env :: X.outer) (hfr : X.env.frame = some X.env.locals) (hN : X.N.Nodup) (hi : X.N[i]? = some n) (hln : X.env.kindOf n = some .local) (hc : Names X x (.ref (ea k))) (tk : Takes X W) (hf : (kf T X).free [i])
    (hex : ∀ k', (∃ p, T.errs[k']? = some p) → PySem.W.exmOne X.K (.ref (ea k')) (.ref (ea k)) = some (C.sub k' k))
    (hb : ∀ (W' : WX) (pn : List (Addr × Obj)) (xe : Value → Shared → Prop), Takes (X.tr pn xe) W' → PassesOwn (model X.prog X.w) X.A X.env xe → PSs (X.tr pn xe) body (rdS T ea (kf T X) W' C b))
    (hsu : ∀ (a : Addr) (oe : Obj) (k' : Nat) (ds : List PL.D) (d : Option Addr) (pn : List (Addr × Obj)), (∃ p, T.errs[k']? = some p) → (∃ fs x, T.errs[k']? = some (x, fs) ∧ (fs = [] → d = none)) → Zc (.ref (ea k')) d oe → (∃ vs, oe.data = .fields vs) → PSs (X.suite a ((a, oe) :: pn)) (b₀ :: suite) (rdS (T.hot i a) ea (kf (T.hot i a) X) noW { C with cur := some (k', ds) } h)) :
    PS X (.Try body [.ExceptHandler (some (.Name x np)) (some n) (b₀ :: suite) pos'] [] [] pos) (RS T ea X W C (.try1 b k i h)) := by
  have base := ps_try_as (pos := pos) (np := np) (pos' := pos') (body := body) (suite := suite) (b₀ := b₀) (tb := fun W' => rdS T ea (kf T X) W' C b)
    (ts := fun a cls d => fun D σ H => ∃ k' ds fs y, cls = .ref (ea k') ∧ T.errs[k']? = some (y, fs) ∧ (fs = [] → d = none) ∧ rdS (T.hot i a) ea (kf (T.hot i a) X) noW { C with cur := some (k', ds) } h D σ H) (Wout := W) hs hfr hN hi hln hc tk hb (fun a oe cls d pn hz hv => ⟨fun pins s σ H D I hh => by
      obtain ⟨k', ds, fs, y, rfl, he, hd, hh⟩ := hh
      exact (hsu a oe k' ds d pn ⟨_, he⟩ ⟨fs, y, he, hd⟩ hz hv).run pins s σ H D I hh⟩)
  refine ps_imp base fun D σ H ⟨ρ, c, r, S, hh⟩ => ⟨ρ, c, r, S, ?_⟩
  simp only [ex] at hh
  cases e : PL.ex C b ρ with
  | nx ρ1 => rw [e] at hh; exact hh
  | bk ρ1 => rw [e] at hh; exact hh
  | ct ρ1 => rw [e] at hh; exact hh
  | rt v ρ1 => rw [e] at hh; exact hh
  | bad => rw [e] at hh; exact hh
  | exc k' ds ρ1 =>
    rw [e] at hh
    simp only at hh
    split at hh
    · rename_i hlen
      intro σ' cls dx H' px
      have px0 := px
      obtain ⟨c1, S1, er, L1, k1⟩ := px
      obtain ⟨rfl, y, fs, he, hfs⟩ := er
      refine ⟨C.sub k' k, hex k' ⟨_, he⟩, fun hbt a ha => ?_, fun hbf => ?_⟩
      · rw [if_pos hbt] at hh
        have hi2 : i < σ'.length := by rw [S1.env.len]; exact hlen
        have hok : (kf (T.hot i a) X).ok (σ'.set i (some (.ref a))) := fun p hp => by
          rcases List.mem_cons.mp hp with rfl | hp
          · exact List.getElem?_set_self hi2
          · rw [List.getElem?_set_ne fun z => hf p hp (by simp [z])]
            exact S1.fxs p hp
        obtain ⟨c2, S2, l2⟩ := StR.slot (K := kf T X) (K' := kf (T.hot i a) X) (i := i) (o := some (.ref a)) rfl hok S1
        have LL := L1.trans l2
        refine ⟨k', ds, fs, y, rfl, he, fun z => by rcases hfs with ⟨_, q⟩ | ⟨q, _⟩; exact q; exact absurd z q, setE ρ1 i none, c2, r, S2, ?_⟩
        have put : ∀ {σ3 : L2.St} {H3 : Hp} {ρ3 : Env} {c3 : Cnt}, StR (kf (T.hot i a) X) r σ3 H3 ρ3 c3 → Lk H' (add c2 r) H3 (add c3 r) → Kp r H' H3 → ∃ c4, StR (kf T X) r (σ3.set i none) H3 (setE ρ3 i none) c4 ∧ Lk H (add c r) H3 (add c4 r) ∧ Kp r H H3 := fun {σ3 H3 ρ3 c3} S3 L3 k3 => by
          obtain ⟨c4, S4, l4⟩ := StR.slot (K := kf (T.hot i a) X) (K' := kf T X) (i := i) (o := none) rfl (fun p hp => by
            rw [List.getElem?_set_ne fun z => hf p hp (by simp [z])]
            exact S3.fxs p (List.mem_cons_of_mem _ hp)) S3
          exact ⟨c4, S4, LL.trans (L3.trans l4), fun b hb => (k3 b hb).trans (k1 b hb)⟩
        cases e2 : PL.ex { C with cur := some (k', ds) } h (setE ρ1 i none) with
        | nx ρ3 =>
          rw [e2] at hh
          intro σ3 H3 c3 S3 L3 k3
          obtain ⟨c4, S4, L4, k4⟩ := put S3 L3 k3
          exact hh _ H3 c4 S4 L4 k4
        | bk ρ3 =>
          rw [e2] at hh
          intro σ3 H3 c3 S3 L3 k3
          obtain ⟨c4, S4, L4, k4⟩ := put S3 L3 k3
          exact hh _ H3 c4 S4 L4 k4
        | ct ρ3 =>
          rw [e2] at hh
          intro σ3 H3 c3 S3 L3 k3
          obtain ⟨c4, S4, L4, k4⟩ := put S3 L3 k3
          exact hh _ H3 c4 S4 L4 k4
        | rt v ρ3 =>
          rw [e2] at hh
          intro σ3 u H3 m
          obtain ⟨c4, cv, S4, R4, L4, k4⟩ := m
          exact hh σ3 u H3 ⟨c4, cv, StR.fewer (K := kf (T.hot i a) X) (K' := kf T X) rfl (fun p hp => S4.fxs p (List.mem_cons_of_mem _ hp)) S4, R4, LL.trans L4, fun b hb => (k4 b hb).trans (k1 b hb)⟩
        | exc _ _ _ => rw [e2] at hh; exact hh.elim
        | bad => rw [e2] at hh; exact hh.elim
      · rw [if_neg (by rw [hbf]; simp)] at hh
        exact hh σ' _ dx H' px0
    · exact hh.elim
/-! ### name += e -/
theorem w_aug {op : Op} {i : Nat} {e : E} {x : Str} {y : Expr} {p2 : Pos} (ho : op = .add ∨ op = .sub) (hN : X.N.Nodup) (hi : X.N[i]? = some x) (hx : Loc X.env.scope x) (hfn : X.fn x = true ∨ X.env.scope.names.lookup x = some .local) (hf : (kf T X).free [i]) (he : PE X y (RD T ea X W C e)) :
    PS X (.AugAssign (.Name x p2) (opOf op) y pos) (RS T ea X W C (.aug op i e)) := by
  have key : ∀ (f : Int → Int → Int), (∀ a b : Int, opD op (9, .int a) (9, .int b) = some (9, .int (f a b))) → PIp X (opOf op) (ipI f) → PS X (.AugAssign (.Name x p2) (opOf op) y pos) (RS T ea X W C (.aug op i e)) := fun f hop hip =>
    ps_imp (ps_aug hN hi hx he hip hfn) fun D σ H ⟨ρ, c, r, S, h⟩ => by
      simp only [ex] at h
      split at h
      · rename_i n0 j g
        obtain ⟨v, h1, h2⟩ := envs_at S g
        obtain rfl := h2.int'
        refine ⟨_, h1, useS (MS.start S) h fun w ρ1 u H1 e1 m1 h3 => ?_⟩
        split at h3
        · rename_i n1 k
          rw [hop] at h3
          simp only at h3
          obtain ⟨_, e5, g1⟩ := (MS.view m1).one'
          cases e5
          obtain rfl := g1.int'
          refine ⟨j, k, rfl, rfl, ?_⟩
          obtain ⟨c', S', L', k'⟩ := MS.forget m1
          have S2 : StR (kf T X) (add r zro) σ H1 ρ1 c' := by rw [add_zro]; exact S'
          obtain ⟨c2, S3, l3, _⟩ := bind_one (i := i) (n := 9) (u := V.int (f j k)) (d := .int (f j k)) S2 hf (.at_ rfl fun _ => .int _)
          rw [add_zro] at l3
          exact h3 _ H1 c2 S3 (L'.trans l3) k'
        · exact h3.elim
      · exact h.elim
  rcases ho with rfl | rfl
  · exact key (fun a b => a + b) (fun a b => rfl) ip_add
  · exact key (fun a b => a - b) (fun a b => rfl) ip_sub
/-! ### while -/
theorem w_whl {f : Nat} {t : E} {b : S} {x : Expr} {body : List Stmt} (hp : PassesOwn (model X.prog X.w) X.A X.env X.xe) (ht : PT X x (RT T ea X W C t)) (hb : PSs X body (RS T ea X W C b)) : PS X (.While x body [] pos) (RS T ea X W C (.whl f t b)) :=
  ps_imp (ps_while hp ht hb) fun D σ H ⟨ρ, c, r, S, h⟩ => by
    simp only [ex] at h
    refine ⟨fun m σ' H' => ∃ ρ' c', StR (kf T X) r σ' H' ρ' c' ∧ Lk H (add c r) H' (add c' r) ∧ Kp r H H' ∧ aftS T ea (kf T X) W r H c D (whlGo (fun r => (ev C t r).bind tru) (fun r => PL.ex C b r) m ρ'), ⟨f, ρ, c, S, .refl _ _, fun _ _ => rfl, h⟩, ?_⟩
    rintro m σ' H' ⟨ρ', c', S', L', K', eg⟩
    cases m with
    | zero => exact eg.elim
    | succ m =>
      unfold whlGo at eg
      refine ⟨ρ', c', r, S', ?_⟩
      show aftB T ea (kf T X) W r σ' H' c' _ ((ev C t ρ').bind tru)
      cases q : (ev C t ρ').bind tru with
      | bad => rw [q] at eg; exact eg.elim
      | exc kk ds ρ1 => rw [q] at eg; exact fun cls dx H1 p => eg σ' cls dx H1 (p.from L' K')
      | ok k ρ1 =>
        rw [q] at eg
        intro H1 c1 S1 L1 K1
        have LL := L'.trans L1
        have KK : Kp r H H1 := fun b hb => (K1 b hb).trans (K' b hb)
        cases k with
        | false => exact eg σ' H1 c1 S1 LL KK
        | true =>
          simp only at eg
          refine ⟨fun σ'' H'' => ∃ ρ2 c2, StR (kf T X) r σ'' H'' ρ2 c2 ∧ Lk H (add c r) H'' (add c2 r) ∧ Kp r H H'' ∧ aftS T ea (kf T X) W r H c D (whlGo (fun r => (ev C t r).bind tru) (fun r => PL.ex C b r) m ρ2), fun σ'' H'' z => ⟨m, by omega, z⟩, ρ1, c1, r, S1, ?_⟩
          cases e : PL.ex C b ρ1 with
          | nx ρ2 => rw [e] at eg; exact fun σ3 H3 c3 S3 L3 k3 => ⟨ρ2, c3, S3, LL.trans L3, fun b hb => (k3 b hb).trans (KK b hb), eg⟩
          | ct ρ2 => rw [e] at eg; exact fun σ3 H3 c3 S3 L3 k3 => ⟨ρ2, c3, S3, LL.trans L3, fun b hb => (k3 b hb).trans (KK b hb), eg⟩
          | bk ρ2 => rw [e] at eg; exact fun σ3 H3 c3 S3 L3 k3 => eg σ3 H3 c3 S3 (LL.trans L3) fun b hb => (k3 b hb).trans (KK b hb)
          | rt v ρ2 => rw [e] at eg; exact fun σ3 u H3 m => eg σ3 u H3 (m.from LL KK)
          | exc kk dd ρ2 => rw [e] at eg; exact fun σ3 cls dx H3 p => eg σ3 cls dx H3 (p.from LL KK)
          | bad => rw [e] at eg; exact eg
end
end PL

/-! PL20: the check of a text against the small language's; expressions. -/
namespace PL
open PySem L2
open PySem (PyData Str)
mutual
def sameD : D → D → Bool
  | .none, .none => true
  | .bool a, .bool b => a == b
  | .int a, .int b => a == b
  | .str a, .str b => decide (a = b)
  | .list xs, .list ys => sameDs xs ys
  | .tuple xs, .tuple ys => sameDs xs ys
  | _, _ => false
def sameDs : List D → List D → Bool
  | [], [] => true
  | x :: xs, y :: ys => sameD x y && sameDs xs ys
  | _, _ => false
end
mutual
theorem sameD_eq : ∀ {a b : D}, sameD a b = true → a = b
  | .none, b, h => by cases b <;> first | rfl | cases h
  | .bool a, b, h => by cases b <;> first | (simp only [sameD, beq_iff_eq] at h; rw [h]) | cases h
  | .int a, b, h => by cases b <;> first | (simp only [sameD, beq_iff_eq] at h; rw [h]) | cases h
  | .str a, b, h => by cases b <;> first | (simp only [sameD, decide_eq_true_eq] at h; rw [h]) | cases h
  | .list xs, b, h => by cases b <;> first | (simp only [sameD] at h; rw [sameDs_eq h]) | cases h
  | .tuple xs, b, h => by cases b <;> first | (simp only [sameD] at h; rw [sameDs_eq h]) | cases h
  | .dict _, b, h => by cases b <;> cases h
theorem sameDs_eq : ∀ {a b : List D}, sameDs a b = true → a = b
  | [], b, h => by cases b <;> first | rfl | cases h
  | x :: xs, b, h => by
    cases b with
    | nil => cases h
    | cons y ys =>
      simp only [sameDs, Bool.and_eq_true] at h
      rw [sameD_eq h.1, sameDs_eq h.2]
end
/-- what the check knows -/
structure Sx where
  sc : Scope
  N : List Str
  calm : Bool
  fx : List Nat
  hot : Option Nat
  tbl : List Fn
  names : List Str
  errs : List (Str × List Str)
  gls : List (Str × D)
  co : Bool
def bltNames : List Str := ["len", "abs", "max", "min", "sum", "any", "all", "int", "list", "tuple", "sorted", "range", "enumerate", "isinstance", "bool", "str", "dict"]
def Sx.vis (G : Sx) (x : Str) : Bool := match G.sc.names.lookup x with
  | some .local => true
  | some .cell => true
  | some .free => true
  | _ => false
def Sx.gl (G : Sx) (x : Str) : Bool := decide (G.sc.names.lookup x = some .globalImplicit)
def dbg (x : Str) : Bool := !(x == ("__debug__" : Str))
def Sx.loc (G : Sx) (i : Nat) (x : Str) : Bool := decide (G.N[i]? = some x) && G.vis x && dbg x && !(x == ("__classdict__" : Str))
/-- a name that may be set -/
def Sx.put (G : Sx) (i : Nat) (x : Str) : Bool := decide (G.N[i]? = some x) && (decide (G.sc.names.lookup x = some .local) || (G.co && decide (G.sc.names.lookup x = some .cell)))
def Sx.putL (G : Sx) (i : Nat) (x : Str) : Bool := decide (G.N[i]? = some x) && decide (G.sc.names.lookup x = some .local)
def isOp : Op → Operator → Bool := fun o p => decide (opOf o = p)
def isCp : Cp → CmpOp → Bool := fun o p => decide (cpOf o = p)
def plainIx : Expr → Bool
  | .Slice _ _ _ _ => false
  | _ => true
theorem plainIx_ok {e : Expr} (h : plainIx e = true) : PlainIx e := by
  cases e <;> first | (intro o i; rfl) | cases h
/-- its truth is its value's -/
def plainT : Expr → Bool
  | .UnaryOp .Not _ _ => false
  | .BoolOp _ _ _ => false
  | .IfExp _ _ _ _ => false
  | .Compare _ _ _ _ => false
  | _ => true
theorem plainT_ok {x : Expr} {env : PySem.Env} (h : plainT x = true) : (∀ whole, PySem.isTrue x env whole = (do let v ← whole; standAt x.pos; holding [v] (truthy v))) ∧ ∀ op vs pos, x ≠ .BoolOp op vs pos := by
  cases x with
  | UnaryOp op a p => cases op <;> first | (refine ⟨fun _ => rfl, fun _ _ _ z => by cases z⟩; done) | cases h
  | BoolOp _ _ _ => cases h
  | IfExp _ _ _ _ => cases h
  | Compare _ _ _ _ => cases h
  | _ => exact ⟨fun _ => rfl, fun _ _ _ z => by cases z⟩
def notSet : Expr → Bool
  | .Set _ _ _ => false
  | _ => true
theorem notSet_ok {e : Expr} {env : PySem.Env} (h : notSet e = true) : ∀ x, foldedSetIterable e env x = pure x := by
  cases e <;> first | (intro x; rfl) | cases h
def noLend : E → Bool
  | .lend _ => false
  | _ => true
theorem noLend_ok {e : E} (h : noLend e = true) : ∀ i, e ≠ .lend i := fun i z => by subst z; cases h
def Sx.okT (G : Sx) : List Ty → List Expr → Bool
  | [], [] => true
  | t :: ts, .Name x _ :: es => decide (x = Str.ofString (tyN t)) && G.gl x && G.okT ts es
  | _, _ => false
def Sx.okTg (G : Sx) : Tg → Expr → Bool
  | .nm i, .Name x _ => G.put i x && decide (i ∉ G.fx)
  | .nms is, .Tuple es _ _ => G.calm && okNs is es
  | _, _ => false
where okNs : List Nat → List Expr → Bool
  | [], [] => true
  | i :: is, .Name x _ :: es => G.put i x && decide (i ∉ G.fx) && okNs is es
  | _, _ => false
def ownOf (N : List Str) (w : List Nat) : List (Str × Nat) := w.map fun i => ((N[i]?).getD "", i)
theorem ownOf_snd (N : List Str) : ∀ w, (ownOf N w).map (·.2) = w
  | [] => rfl
  | i :: w => by
    show i :: (ownOf N w).map (·.2) = i :: w
    rw [ownOf_snd N w]
/-- the check within a comprehension -/
def Sx.blk (G : Sx) (scope : Scope) : Sx := { G with sc := relS scope G.sc, co := false }
def biGen : Bi → Bool
  | .rng1 => false
  | .rng2 => false
  | .bitLen => false
  | _ => true
def Sx.isiC (G : Sx) : List Ty → Expr → Bool
  | [t], .Name z _ => decide (z = Str.ofString (tyN t)) && G.gl z
  | ts, .Tuple es _ _ => G.okT ts es && decide (ts.length ≤ 16777216)
  | _, _ => false
def Sx.eisC (G : Sx) (cs : List Nat) (f x y : Str) : Bool := match cs, G.hot with
  | [c], some i => decide (f = "isinstance") && G.gl "isinstance" && G.loc i x && G.gl y && dbg y && (match G.errs[c]? with
    | some p => decide (p.1 = y)
    | none => false)
  | _, _ => false
def Sx.pvC (G : Sx) : E → Str → Bool
  | .pv i, x => G.loc i x
  | _, _ => false
def muNm (m : Mu) (nm : Str) : Bool := match muV m with
  | some (_, n) => decide (nm = n)
  | none => false
def isNilE : E → Bool
  | .nil => true
  | _ => false
def Sx.biC (G : Sx) (b : Bi) : Expr → Bool
  | .Name x _ => (match biV b with
    | some (n, _) => decide (x = n) && G.gl x && bltNames.contains x && (!biCalm b || G.calm)
    | none => false)
  | _ => false
def isBit : Bi → Bool
  | .bitLen => true
  | _ => false
def isR1 : Bi → Bool
  | .rng1 => true
  | _ => false
def bitX : Expr → Option Expr
  | .Attribute x _ _ => some x
  | _ => none
def bitC : Expr → List Expr → List Keyword → Pos → Bool
  | .Attribute x m ap, [], [], pos => decide (m = "bit_length") && plainBase x && (ap.endLine == pos.line)
  | _, _, _, _ => false
/-- the arguments of range within list(range(..)) -/
def rngA : List Expr → List Expr
  | [.Call (.Name r _) xs [] _] => if r = "range" then xs else []
  | _ => []
def rngN (args : List Expr) : Nat := (rngA args).length
def rng0 (args : List Expr) : Expr := (rngA args).headD (.Starred (.Name "" ⟨0, 0, 0, 0⟩) ⟨0, 0, 0, 0⟩)
def rngI (args : List Expr) : Expr := (rngA args).tail.headD (.Starred (.Name "" ⟨0, 0, 0, 0⟩) ⟨0, 0, 0, 0⟩)
def Sx.lstC (G : Sx) : Expr → List Keyword → Bool
  | .Name l _, [] => G.calm && decide (l = "list") && G.gl "list" && G.gl "range"
  | _, _ => false
mutual
def chkE (G : Sx) : E → Expr → Bool
  | .int i, .Constant (.int j) _ _ => decide (i = j)
  | .str s, .Constant (.str t) _ _ => decide (s = t)
  | .bl a, .Constant (.bool b) _ _ => a == b
  | .non, .Constant .none _ _ => true
  | .var i, .Name x _ => G.loc i x
  | .mov i, .Name x _ => G.loc i x
  | .glob x d, .Name y _ => decide (x = y) && G.gl x && dbg x && G.gls.any fun p => decide (p.1 = x) && sameD p.2 d
  | .neg a, .UnaryOp .USub x _ => chkE G a x
  | .bin op a b, .BinOp x o y _ => isOp op o && chkE G a x && chkE G b y
  | .cmp op a b, .Compare x [o] [y] _ => isCp op o && chkE G a x && chkE G b y && !behindInMarks o y
  | .cmpQ op a q, .Compare x [o] [y] _ => isCp op o && chkE G a x && chkQ G q y && !behindInMarks o y
  | .cmpB op i b, .Compare (.Name x _) [o] [y] _ => isCp op o && G.loc i x && chkE G b y && !behindInMarks o y
  | .chain o1 o2 a b d, .Compare x [p1, p2] [y, z] _ => isCp o1 p1 && isCp o2 p2 && chkE G a x && chkE G b y && chkE G d z && !lastMarks [p1, p2] [y, z]
  | .and_ a b, .BoolOp .And (x :: y :: rest) pos => chkE G a x && (match rest with
    | [] => chkE G b y
    | z :: rest => chkE G b (.BoolOp .And (y :: z :: rest) pos))
  | .or_ a b, .BoolOp .Or (x :: y :: rest) pos => chkE G a x && (match rest with
    | [] => chkE G b y
    | z :: rest => chkE G b (.BoolOp .Or (y :: z :: rest) pos))
  | .not_ a, .UnaryOp .Not x _ => chkE G a x
  | .ite t a b, .IfExp x y z _ => chkE G t x && chkE G a y && chkE G b z
  | .idx a i, .Subscript x y _ => plainIx y && chkE G a x && chkE G i y
  | .slc a lo hi, .Subscript x (.Slice l h none _) _ => chkE G a x && chkO G lo l && chkO G hi h
  | .rev a, .Subscript x (.Slice none none (some (.UnaryOp .USub (.Constant (.int 1) _ _) _)) _) _ => chkE G a x
  | .tup es, .Tuple xs _ _ => chkA G es xs && noL es && decide (elen es ≤ 16777216)
  | .lst es, .List xs _ => chkA G es xs && noL es && decide (elen es ≤ 16777216)
  | .dic t es, .Dict ks vs _ => match es, ks, vs with
    | .nil, [], [] => true
    | es, k :: ks, vs => !t && chkD G es (k :: ks) vs && decide ((k :: ks).length ≤ 15)
    | _, _, _ => false
  | .call f es, .Call (.Name x _) (e :: xs) [] _ => G.calm && decide (G.names[f]? = some x) && G.gl x && dbg x && chkA G es (e :: xs) && (e :: xs).all notStar && decide (lendS es).Nodup && (match G.tbl[f]? with
    | some F => decide (lendPos es 0 = F.lent)
    | none => false)
  | .bi b es, .Call fn args kw p => if biGen b then G.biC b fn && kw.isEmpty && !args.isEmpty && chkA G es args && noL es && args.all notStar
    else if isBit b then bitC fn args kw p && chkO G es (bitX fn)
    else G.lstC fn kw && (if isR1 b then notStar (rng0 args) && decide (rngN args = 1) && chkO G es (some (rng0 args)) else notStar (rng0 args) && notStar (rngI args) && decide (rngN args = 2) && chkD G es [some (rng0 args)] [rngI args])
  | .mth .index a es, .Call (.Attribute x nm ap) [y] [] pos => plainBase x && (ap.endLine == pos.line) && chkE G a x && decide (nm = "index") && notStar y && chkO G es (some y)
  | .mth .get a es, .Call (.Attribute x nm ap) [y, z] [] pos => plainBase x && (ap.endLine == pos.line) && chkE G a x && decide (nm = "get") && notStar y && notStar z && chkD G es [some y] [z]
  | .mth .get1 a es, .Call (.Attribute x nm ap) [y] [] pos => plainBase x && (ap.endLine == pos.line) && chkE G a x && decide (nm = "get") && notStar y && chkO G es (some y)
  | .isI a ts, .Call (.Name f _) [x, y] [] _ => decide (f = "isinstance") && G.gl "isinstance" && notStar x && chkE G a x && G.isiC ts y
  | .rdp a, x => plainT x && chkP G a x
  | .qt a, x => plainT x && chkQ G a x
  | .mut m p es, .Call (.Attribute (.Name x _) nm ap) args [] pos => G.pvC p x && (ap.endLine == pos.line) && muNm m nm && (if args.isEmpty then isNilE es else chkA G es args && noL es && args.all notStar && decide (args.length < 30))
  | .lc w t it q el, .ListComp elt [⟨tg, iter, ifs, k⟩] scope _ => decide (k = 0) && G.calm && blkC G.N G.sc scope (ownOf G.N w) && decide (∀ i ∈ w, i ∉ G.fx) && decide (∀ i ∈ tgS t, i ∈ w) && notSet iter && chkI G it tg iter && (G.blk scope).okTg t tg && chkT (G.blk scope) q ifs && chkE (G.blk scope) el elt
  | .dc w t it ky el, .DictComp kx vx [⟨tg, iter, [], k⟩] scope _ => decide (k = 0) && G.calm && blkC G.N G.sc scope (ownOf G.N w) && decide (∀ i ∈ w, i ∉ G.fx) && decide (∀ i ∈ tgS t, i ∈ w) && notSet iter && chkI G it tg iter && (G.blk scope).okTg t tg && chkE (G.blk scope) ky kx && chkE (G.blk scope) el vx
  | .eis cs, .Call (.Name f _) [.Name x _, .Name y _] [] _ => G.eisC cs f x y
  | _, _ => false
termination_by structural e => e
def chkA (G : Sx) : E → List Expr → Bool
  | .nil, [] => true
  | .cons a b, x :: xs => (match a, x with
    | .lend i, .Name y _ => G.loc i y
    | a, x => noLend a && notStar x && chkE G a x) && chkA G b xs
  | _, _ => false
termination_by structural e => e
def chkO (G : Sx) : E → Option Expr → Bool
  | .nil, none => true
  | .cons a b, some x => (match b with
    | .nil => true
    | _ => false) && noLend a && chkE G a x
  | _, _ => false
termination_by structural e => e
def chkD (G : Sx) : E → List (Option Expr) → List Expr → Bool
  | .nil, [], [] => true
  | .cons k b, some x :: ks, y :: vs => noLend k && chkE G k x && chkD2 G b ks (y :: vs)
  | _, _, _ => false
termination_by structural e => e
def chkD2 (G : Sx) : E → List (Option Expr) → List Expr → Bool
  | .cons v r, ks, y :: vs => noLend v && chkE G v y && chkD G r ks vs
  | _, _, _ => false
termination_by structural e => e
def chkT (G : Sx) : E → List Expr → Bool
  | .nil, [] => true
  | .cons a b, [x] => (match b with
    | .nil => true
    | _ => false) && chkE G a x
  | _, _ => false
termination_by structural e => e
def chkI (G : Sx) : E → Expr → Expr → Bool
  | .irng1 a, _, .Call (.Name f _) [x] [] _ => decide (f = "range") && G.gl "range" && notStar x && chkE G a x
  | .irng2 a b, _, .Call (.Name f _) [x, y] [] _ => decide (f = "range") && G.gl "range" && notStar x && notStar y && chkE G a x && chkE G b y
  | .ienum a, .Tuple _ _ _, .Call (.Name f _) [x] [] _ => decide (f = "enumerate") && G.gl "enumerate" && notStar x && chkE G a x
  | .iseq a, _, x => chkE G a x
  | _, _, _ => false
termination_by structural e => e
def chkQ (G : Sx) : E → Expr → Bool
  | .int i, .Constant (.int j) _ _ => decide (i = j)
  | .str s, .Constant (.str t) _ _ => decide (s = t)
  | .var i, .Name x _ => G.loc i x
  | .bor i, .Name x _ => G.loc i x
  | .bin op a b, .BinOp x o y _ => isOp op o && chkQ G a x && chkQ G b y
  | .neg a, .UnaryOp .USub x _ => chkQ G a x
  | .idx a k, .Subscript x y _ => plainIx y && chkQ G a x && chkQ G k y
  | .bi .len (.cons a .nil), .Call (.Name f _) [x] [] _ => decide (f = "len") && G.gl "len" && notStar x && chkQ G a x
  | .rdp a, x => chkP G a x
  | _, _ => false
termination_by structural e => e
def chkP (G : Sx) : E → Expr → Bool
  | .pv i, .Name x _ => G.loc i x
  | .pi a k, .Subscript x y _ => plainIx y && chkP G a x && chkQ G k y
  | _, _ => false
termination_by structural e => e
end
end PL

/-! PL21: the check is sound: expressions. -/
namespace PL
open PySem L2
open PySem (PyData Str)
structure Gd (T : Tab) (ea : Nat → Addr) (G : Sx) (X : Cx) (W : WX) (C : PL.C) (n : Nat) : Prop where
  sc : X.env.scope = G.sc
  N : X.N = G.N
  nd : X.N.Nodup
  calm : G.calm = true → X.calm = true
  fx : ∀ p ∈ T.fx, p.1 ∈ G.fx
  room : G.calm = true → Room n X.A
  un : X.A.units + 65 < cLine
  tk : Takes X W
  call : C.call = run T.tbl T.sub n
  sub : C.sub = T.sub
  tbl : T.tbl = G.tbl
  errs : T.errs = G.errs
  fns : G.calm = true → ∀ f x, G.names[f]? = some x → FnF T ea X.prog X.w X.K X.mg X.base n f x
  cls : ∀ k p, G.errs[k]? = some p → X.mg p.1 = some (.ref (ea k))
  glo : ∀ p ∈ G.gls, ∃ u v, X.mg p.1 = some u ∧ RelV v u ∧ ∀ H, Dd X.K H v p.2
  blt : ∀ x ∈ bltNames, X.mg x = none
  hotc : G.calm = true → G.hot = none
  fnok : G.co = true → ∀ x, X.fn x = true
  hot : ∀ i, G.hot = some i → ∃ a k ds, C.cur = some (k, ds) ∧ (i, V.ref a) ∈ T.fx ∧ CallR X (.builtin "isinstance") (rIsE X.K (ea k) a) ∧ ∀ c p, G.errs[c]? = some p → PySem.W.kitOne X.K (.ref (ea k)) (.ref (ea c)) = some (C.sub k c)
section
variable {T : Tab} {ea : Nat → Addr} {G : Sx} {X : Cx} {W : WX} {C : PL.C} {n : Nat}
theorem Gd.gl (g : Gd T ea G X W C n) {x : Str} (h : G.gl x = true) : Gl X x := by
  unfold Gl PySem.Env.kindOf
  rw [g.sc]
  exact of_decide_eq_true h
theorem Gd.vis (g : Gd T ea G X W C n) {x : Str} (h : G.vis x = true) : Vis X.env.scope x := by
  unfold Vis
  rw [g.sc]
  unfold Sx.vis at h
  split at h
  · exact .inl (by assumption)
  · exact .inr (.inl (by assumption))
  · exact .inr (.inr (by assumption))
  · cases h
theorem dbg_ok {x : Str} (h : dbg x = true) : (x == ("__debug__" : Str)) = false := by simpa [dbg] using h
theorem Gd.loc (g : Gd T ea G X W C n) {i : Nat} {x : Str} (h : G.loc i x = true) : X.N[i]? = some x ∧ Vis X.env.scope x ∧ (x == ("__debug__" : Str)) = false ∧ (x == ("__classdict__" : Str)) = false := by
  unfold Sx.loc at h
  simp only [Bool.and_eq_true, decide_eq_true_eq, Bool.not_eq_true'] at h
  obtain ⟨⟨⟨h1, h2⟩, h3⟩, h4⟩ := h
  exact ⟨by rw [g.N]; exact h1, g.vis h2, dbg_ok h3, h4⟩
/-- a name that may be set -/
theorem Gd.put (g : Gd T ea G X W C n) {i : Nat} {x : Str} (h : G.put i x = true) : X.N[i]? = some x ∧ Loc X.env.scope x ∧ (X.fn x = true ∨ X.env.scope.names.lookup x = some .local) := by
  unfold Sx.put at h
  simp only [Bool.and_eq_true, decide_eq_true_eq, Bool.or_eq_true] at h
  obtain ⟨h1, h2⟩ := h
  rw [g.N, g.sc]
  rcases h2 with h2 | ⟨h2, h3⟩
  · exact ⟨h1, .inl (by exact h2), .inr h2⟩
  · exact ⟨h1, .inr (by exact h3), .inl (g.fnok h2 x)⟩
theorem Gd.un1 (g : Gd T ea G X W C n) : X.A.units + 1 < cLine := by have := g.un; omega
theorem Gd.free (g : Gd T ea G X W C n) {is : List Nat} (h : ∀ i ∈ is, i ∉ G.fx) : (kf T X).free is := fun p hp z => h _ z (g.fx p hp)
/-- within a comprehension -/
theorem Gd.blk (g : Gd T ea G X W C n) (hc : G.calm = true) (scope : Scope) (s : Shared) (H : Hp) (Ca : Addr) (cl : List (Str × Addr)) (fp : List Addr) : Gd T ea (G.blk scope) (X.blk s H scope (compEnvC scope cl Ca X.env) fp) noW C n :=
  ⟨by rw [Sx.blk, ← g.sc]; rfl, g.N, g.nd, g.calm, g.fx, g.room, g.un, takes_none5, g.call, g.sub, g.tbl, g.errs, g.fns, g.cls, g.glo, g.blt, g.hotc, (fun z => by cases z), fun i hi => by have := g.hotc hc; rw [show (G.blk scope).hot = G.hot from rfl, this] at hi; cases hi⟩
/-- an expression's reading, a test's -/
def Snd (T : Tab) (ea : Nat → Addr) (X : Cx) (W : WX) (C : PL.C) (e : E) (x : Expr) : Prop := PE X x (RD T ea X W C e) ∧ PT X x (RT T ea X W C e) ∧ ((∃ op vs pos, x = .BoolOp op vs pos) → PW X x (RT T ea X W C e))
theorem snd_of {e : E} {x : Expr} (h : PE X x (RD T ea X W C e)) (hp : ∀ whole, PySem.isTrue x X.env whole = (do let v ← whole; standAt x.pos; holding [v] (truthy v))) (nb : ∀ op vs pos, x ≠ .BoolOp op vs pos) : Snd T ea X W C e x :=
  ⟨h, pt_imp (pt_val h hp) fun σ H Q q => rdT_of q, fun ⟨op, vs, pos, z⟩ => absurd z (nb op vs pos)⟩
end
structure Claim (e : E) : Prop where
  ex : ∀ {T : Tab} {ea : Nat → Addr} {G : Sx} {X : Cx} {W : WX} {C : PL.C} {n : Nat} (_ : Gd T ea G X W C n) (x : Expr), chkE G e x = true → Snd T ea X W C e x
  as : ∀ {T : Tab} {ea : Nat → Addr} {G : Sx} {X : Cx} {W : WX} {C : PL.C} {n : Nat} (_ : Gd T ea G X W C n) (xs : List Expr), chkA G e xs = true → PA X xs (RA T ea X W C e)
  po : ∀ {T : Tab} {ea : Nat → Addr} {G : Sx} {X : Cx} {W : WX} {C : PL.C} {n : Nat} (_ : Gd T ea G X W C n) (x : Option Expr), chkO G e x = true → ∃ t, OPart T ea X W C e x t
  dp : ∀ {T : Tab} {ea : Nat → Addr} {G : Sx} {X : Cx} {W : WX} {C : PL.C} {n : Nat} (_ : Gd T ea G X W C n) (ks : List (Option Expr)) (vs : List Expr), chkD G e ks vs = true → ∃ ts, DPs T ea X W C e ks vs ts
  dp2 : ∀ {T : Tab} {ea : Nat → Addr} {G : Sx} {X : Cx} {W : WX} {C : PL.C} {n : Nat} (_ : Gd T ea G X W C n) (k : E) (x : Expr) (ks : List (Option Expr)) (vs : List Expr), (∀ i, k ≠ .lend i) → PE X x (RD T ea X W C k) → chkD2 G e ks vs = true → ∃ ts, DPs T ea X W C (.cons k e) (some x :: ks) vs ts
  te : ∀ {T : Tab} {ea : Nat → Addr} {G : Sx} {X : Cx} {W : WX} {C : PL.C} {n : Nat} (_ : Gd T ea G X W C n) (xs : List Expr), chkT G e xs = true → PTs X xs (rdB T ea (kf T X) W fun ρ => evT C e ρ)
  it : ∀ {T : Tab} {ea : Nat → Addr} {G : Sx} {X : Cx} {W : WX} {C : PL.C} {n : Nat} (_ : Gd T ea G X W C n) (tg x : Expr), chkI G e tg x = true → PI X tg x (RI T ea X W C e)
  qu : ∀ {T : Tab} {ea : Nat → Addr} {G : Sx} {X : Cx} {W : WX} {C : PL.C} {n : Nat} (_ : Gd T ea G X W C n) (x : Expr), chkQ G e x = true → PE X x (rdQ (kf T X) e)
  pa : ∀ {T : Tab} {ea : Nat → Addr} {G : Sx} {X : Cx} {W : WX} {C : PL.C} {n : Nat} (_ : Gd T ea G X W C n) (x : Expr), chkP G e x = true → PE X x (rdP (kf T X) e)
theorem nope {p : Prop} (h : false = true) : p := by cases h
theorem and4 {a b : Bool} (h : (a && b) = true) : a = true ∧ b = true := by simpa using h
/-- all but the expression's and the quiet one are false of it -/
theorem claim_ex {e : E} (h : ∀ {T : Tab} {ea : Nat → Addr} {G : Sx} {X : Cx} {W : WX} {C : PL.C} {n : Nat} (_ : Gd T ea G X W C n) (x : Expr), chkE G e x = true → Snd T ea X W C e x)
    (q : ∀ {T : Tab} {ea : Nat → Addr} {G : Sx} {X : Cx} {W : WX} {C : PL.C} {n : Nat} (_ : Gd T ea G X W C n) (x : Expr), chkQ G e x = true → PE X x (rdQ (kf T X) e))
    (h1 : ∀ G xs, chkA G e xs = false) (h2 : ∀ G x, chkO G e x = false) (h3 : ∀ G ks vs, chkD G e ks vs = false) (h4 : ∀ G ks vs, chkD2 G e ks vs = false) (h5 : ∀ G xs, chkT G e xs = false) (h6 : ∀ G tg x, chkI G e tg x = false) (h7 : ∀ G x, chkP G e x = false) : Claim e where
  ex := h
  as := fun g xs z => nope ((h1 _ _).symm.trans z)
  po := fun g x z => nope ((h2 _ _).symm.trans z)
  dp := fun g ks vs z => nope ((h3 _ _ _).symm.trans z)
  dp2 := fun g k x ks vs _ _ z => nope ((h4 _ _ _).symm.trans z)
  te := fun g xs z => nope ((h5 _ _).symm.trans z)
  it := fun g tg x z => nope ((h6 _ _ _).symm.trans z)
  qu := q
  pa := fun g x z => nope ((h7 _ _).symm.trans z)
theorem snd_plain {T : Tab} {ea : Nat → Addr} {X : Cx} {W : WX} {C : PL.C} {e : E} {x : Expr} (h : PE X x (RD T ea X W C e)) (p : plainT x = true) : Snd T ea X W C e x := snd_of h (plainT_ok (env := X.env) p).1 (plainT_ok (env := X.env) p).2
theorem c_int (i : Int) : Claim (.int i) := claim_ex (fun {T ea G X W C n} g x h => by
    cases x with
    | Constant v k p =>
      cases v with
      | int j =>
        have e : i = j := of_decide_eq_true (h : decide (i = j) = true)
        subst e
        exact snd_plain s_int rfl
      | _ => exact nope h
    | _ => exact nope h)
  (fun {T ea G X W C n} g x h => by
    cases x with
    | Constant v k p =>
      cases v with
      | int j =>
        have e : i = j := of_decide_eq_true (h : decide (i = j) = true)
        subst e
        exact q_int
      | _ => exact nope h
    | _ => exact nope h)
  (fun _ _ => rfl) (fun _ _ => rfl) (fun _ _ _ => rfl) (fun _ _ _ => rfl) (fun _ _ => rfl) (fun _ _ _ => rfl) (fun _ _ => rfl)
theorem c_str (i : Str) : Claim (.str i) := claim_ex (fun {T ea G X W C n} g x h => by
    cases x with
    | Constant v k p =>
      cases v with
      | str j =>
        have e : i = j := of_decide_eq_true (h : decide (i = j) = true)
        subst e
        exact snd_plain s_str rfl
      | _ => exact nope h
    | _ => exact nope h)
  (fun {T ea G X W C n} g x h => by
    cases x with
    | Constant v k p =>
      cases v with
      | str j =>
        have e : i = j := of_decide_eq_true (h : decide (i = j) = true)
        subst e
        exact q_str
      | _ => exact nope h
    | _ => exact nope h)
  (fun _ _ => rfl) (fun _ _ => rfl) (fun _ _ _ => rfl) (fun _ _ _ => rfl) (fun _ _ => rfl) (fun _ _ _ => rfl) (fun _ _ => rfl)
theorem c_bl (i : Bool) : Claim (.bl i) := claim_ex (fun {T ea G X W C n} g x h => by
    cases x with
    | Constant v k p =>
      cases v with
      | bool j =>
        have e : i = j := eq_of_beq (h : (i == j) = true)
        subst e
        exact snd_plain s_bl rfl
      | _ => exact nope h
    | _ => exact nope h)
  (fun g x h => nope h)
  (fun _ _ => rfl) (fun _ _ => rfl) (fun _ _ _ => rfl) (fun _ _ _ => rfl) (fun _ _ => rfl) (fun _ _ _ => rfl) (fun _ _ => rfl)
theorem c_non : Claim (.non) := claim_ex (fun {T ea G X W C n} g x h => by
    cases x with
    | Constant v k p =>
      cases v with
      | none => exact snd_plain s_non rfl
      | _ => exact nope h
    | _ => exact nope h)
  (fun g x h => nope h)
  (fun _ _ => rfl) (fun _ _ => rfl) (fun _ _ _ => rfl) (fun _ _ _ => rfl) (fun _ _ => rfl) (fun _ _ _ => rfl) (fun _ _ => rfl)
theorem c_var (i : Nat) : Claim (.var i) := claim_ex (fun {T ea G X W C n} g x h => by
    cases x with
    | Name x p =>
      obtain ⟨h1, h2, h3, h4⟩ := g.loc (h : G.loc i x = true)
      exact snd_plain (s_var h1 h2 h3 h4) rfl
    | _ => exact nope h)
  (fun {T ea G X W C n} g x h => by
    cases x with
    | Name x p =>
      obtain ⟨h1, h2, h3, h4⟩ := g.loc (h : G.loc i x = true)
      exact q_var h1 h2 h3 h4
    | _ => exact nope h)
  (fun _ _ => rfl) (fun _ _ => rfl) (fun _ _ _ => rfl) (fun _ _ _ => rfl) (fun _ _ => rfl) (fun _ _ _ => rfl) (fun _ _ => rfl)
theorem c_mov (i : Nat) : Claim (.mov i) := claim_ex (fun {T ea G X W C n} g x h => by
    cases x with
    | Name x p =>
      obtain ⟨h1, h2, h3, h4⟩ := g.loc (h : G.loc i x = true)
      exact snd_plain (s_mov h1 h2 h3 h4) rfl
    | _ => exact nope h)
  (fun g x h => nope h)
  (fun _ _ => rfl) (fun _ _ => rfl) (fun _ _ _ => rfl) (fun _ _ _ => rfl) (fun _ _ => rfl) (fun _ _ _ => rfl) (fun _ _ => rfl)
theorem c_bor (i : Nat) : Claim (.bor i) := claim_ex (fun {T ea G X W C n} g x h => by
    exact nope h)
  (fun {T ea G X W C n} g x h => by
    cases x with
    | Name x p =>
      obtain ⟨h1, h2, h3, h4⟩ := g.loc (h : G.loc i x = true)
      exact q_bor h1 h2 h3 h4
    | _ => exact nope h)
  (fun _ _ => rfl) (fun _ _ => rfl) (fun _ _ _ => rfl) (fun _ _ _ => rfl) (fun _ _ => rfl) (fun _ _ _ => rfl) (fun _ _ => rfl)
theorem c_lend (i : Nat) : Claim (.lend i) := claim_ex (fun {T ea G X W C n} g x h => by
    exact nope h)
  (fun g x h => nope h)
  (fun _ _ => rfl) (fun _ _ => rfl) (fun _ _ _ => rfl) (fun _ _ _ => rfl) (fun _ _ => rfl) (fun _ _ _ => rfl) (fun _ _ => rfl)
theorem c_glob (y : Str) (d : D) : Claim (.glob y d) := claim_ex (fun {T ea G X W C n} g x h => by
    cases x with
    | Name x p =>
      have h' : (decide (y = x) && G.gl y && dbg y && G.gls.any fun p => decide (p.1 = y) && sameD p.2 d) = true := h
      simp only [Bool.and_eq_true, decide_eq_true_eq, List.any_eq_true] at h'
      obtain ⟨⟨⟨rfl, h2⟩, h3⟩, q, h4, h5, h6⟩ := h'
      obtain ⟨u, v, e1, e2, e3⟩ := g.glo q h4
      have e4 := sameD_eq h6
      subst e4
      rw [h5] at e1
      exact snd_plain (s_glob (g.gl h2) e1 e2 e3 (dbg_ok h3)) rfl
    | _ => exact nope h)
  (fun g x h => nope h)
  (fun _ _ => rfl) (fun _ _ => rfl) (fun _ _ _ => rfl) (fun _ _ _ => rfl) (fun _ _ => rfl) (fun _ _ _ => rfl) (fun _ _ => rfl)
theorem c_neg {a : E} (ca : Claim a) : Claim (.neg a) := claim_ex (fun {T ea G X W C n} g x h => by
    cases x with
    | UnaryOp op x p =>
      cases op with
      | USub =>
        have h' : chkE G a x = true := h
        exact snd_plain (s_neg (ca.ex g x h').1) rfl
      | _ => exact nope h
    | _ => exact nope h)
  (fun {T ea G X W C n} g x h => by
    cases x with
    | UnaryOp op x p =>
      cases op with
      | USub =>
        have h' : chkQ G a x = true := h
        exact q_neg (ca.qu g x h')
      | _ => exact nope h
    | _ => exact nope h)
  (fun _ _ => rfl) (fun _ _ => rfl) (fun _ _ _ => rfl) (fun _ _ _ => rfl) (fun _ _ => rfl) (fun _ _ _ => rfl) (fun _ _ => rfl)
theorem c_bin (op : Op) {a b : E} (ca : Claim a) (cb : Claim b) : Claim (.bin op a b) := claim_ex (fun {T ea G X W C n} g x h => by
    cases x with
    | BinOp x o y p =>
      have h' : (isOp op o && chkE G a x && chkE G b y) = true := h
      simp only [Bool.and_eq_true] at h'
      have e : opOf op = o := of_decide_eq_true h'.1.1
      subst e
      exact snd_plain (s_bin (ca.ex g x h'.1.2).1 (cb.ex g y h'.2).1) rfl
    | _ => exact nope h)
  (fun {T ea G X W C n} g x h => by
    cases x with
    | BinOp x o y p =>
      have h' : (isOp op o && chkQ G a x && chkQ G b y) = true := h
      simp only [Bool.and_eq_true] at h'
      have e : opOf op = o := of_decide_eq_true h'.1.1
      subst e
      exact q_bin (ca.qu g x h'.1.2) (cb.qu g y h'.2)
    | _ => exact nope h)
  (fun _ _ => rfl) (fun _ _ => rfl) (fun _ _ _ => rfl) (fun _ _ _ => rfl) (fun _ _ => rfl) (fun _ _ _ => rfl) (fun _ _ => rfl)
theorem c_cmp (op : Cp) {a b : E} (ca : Claim a) (cb : Claim b) : Claim (.cmp op a b) := claim_ex (fun {T ea G X W C n} g x h => by
    cases x with
    | Compare x ops ys p =>
      match ops, ys, h with
      | [o], [y], h =>
        have h' : (isCp op o && chkE G a x && chkE G b y && !behindInMarks o y) = true := h
        simp only [Bool.and_eq_true, Bool.not_eq_true'] at h'
        obtain ⟨⟨⟨h1, h2⟩, h3⟩, h4⟩ := h'
        have e : cpOf op = o := of_decide_eq_true h1
        subst e
        exact ⟨s_cmp g.un (ca.ex g x h2).1 (cb.ex g y h3).1 h4, t_cmp g.un (ca.ex g x h2).1 (cb.ex g y h3).1 h4, fun ⟨_, _, _, z⟩ => by cases z⟩
      | [], _, h => exact nope h
      | [_], [], h => exact nope h
      | [_], _ :: _ :: _, h => exact nope h
      | _ :: _ :: _, _, h => exact nope h
    | _ => exact nope h)
  (fun g x h => nope h)
  (fun _ _ => rfl) (fun _ _ => rfl) (fun _ _ _ => rfl) (fun _ _ _ => rfl) (fun _ _ => rfl) (fun _ _ _ => rfl) (fun _ _ => rfl)
theorem c_chain (o1 o2 : Cp) {a b d : E} (ca : Claim a) (cb : Claim b) (cd : Claim d) : Claim (.chain o1 o2 a b d) := claim_ex (fun {T ea G X W C n} g x h => by
    cases x with
    | Compare x ops ys p =>
      match ops, ys, h with
      | [p1, p2], [y, z], h =>
        have h' : (isCp o1 p1 && isCp o2 p2 && chkE G a x && chkE G b y && chkE G d z && !lastMarks [p1, p2] [y, z]) = true := h
        simp only [Bool.and_eq_true, Bool.not_eq_true'] at h'
        obtain ⟨⟨⟨⟨⟨h1, h2⟩, h3⟩, h4⟩, h5⟩, h6⟩ := h'
        have e1 : cpOf o1 = p1 := of_decide_eq_true h1
        have e2 : cpOf o2 = p2 := of_decide_eq_true h2
        subst e1 e2
        exact ⟨s_chain g.un (ca.ex g x h3).1 (cb.ex g y h4).1 (cd.ex g z h5).1 h6, t_chain g.un (ca.ex g x h3).1 (cb.ex g y h4).1 (cd.ex g z h5).1 h6, fun ⟨_, _, _, z⟩ => by cases z⟩
      | [], _, h => exact nope h
      | [_], _, h => exact nope h
      | [_, _], [], h => exact nope h
      | [_, _], [_], h => exact nope h
      | [_, _], _ :: _ :: _ :: _, h => exact nope h
      | _ :: _ :: _ :: _, _, h => exact nope h
    | _ => exact nope h)
  (fun g x h => nope h)
  (fun _ _ => rfl) (fun _ _ => rfl) (fun _ _ _ => rfl) (fun _ _ _ => rfl) (fun _ _ => rfl) (fun _ _ _ => rfl) (fun _ _ => rfl)
theorem c_and_x {a b : E} (ca : Claim a) (cb : Claim b) : Claim (.and_ a b) := claim_ex (fun {T ea G X W C n} g x h => by
    cases x with
    | BoolOp op vs p =>
      cases op with
      | And =>
        match vs, h with
        | [x, y], h =>
          obtain ⟨h1, h2⟩ := and4 (h : (chkE G a x && chkE G b y) = true)
          have pb := cb.ex g y h2
          exact ⟨s_and (ca.ex g x h1).1 (pe_one pb.1), (t_and (ca.ex g x h1).2.1 (pw_and1 pb.2.1)).pt, fun _ => t_and (ca.ex g x h1).2.1 (pw_and1 pb.2.1)⟩
        | x :: y :: z :: rest, h =>
          obtain ⟨h1, h2⟩ := and4 (h : (chkE G a x && chkE G b (.BoolOp .And (y :: z :: rest) p)) = true)
          have pb := cb.ex g _ h2
          have pw := pb.2.2 ⟨_, _, _, rfl⟩
          exact ⟨s_and (ca.ex g x h1).1 pb.1, (t_and (ca.ex g x h1).2.1 pw).pt, fun _ => t_and (ca.ex g x h1).2.1 pw⟩
        | [], h => exact nope h
        | [_], h => exact nope h
      | _ => exact nope h
    | _ => exact nope h)
  (fun g x h => nope h)
  (fun _ _ => rfl) (fun _ _ => rfl) (fun _ _ _ => rfl) (fun _ _ _ => rfl) (fun _ _ => rfl) (fun _ _ _ => rfl) (fun _ _ => rfl)
theorem c_or_x {a b : E} (ca : Claim a) (cb : Claim b) : Claim (.or_ a b) := claim_ex (fun {T ea G X W C n} g x h => by
    cases x with
    | BoolOp op vs p =>
      cases op with
      | Or =>
        match vs, h with
        | [x, y], h =>
          obtain ⟨h1, h2⟩ := and4 (h : (chkE G a x && chkE G b y) = true)
          have pb := cb.ex g y h2
          exact ⟨s_or (ca.ex g x h1).1 (pe_one pb.1), (t_or (ca.ex g x h1).2.1 (pw_or1 pb.2.1)).pt, fun _ => t_or (ca.ex g x h1).2.1 (pw_or1 pb.2.1)⟩
        | x :: y :: z :: rest, h =>
          obtain ⟨h1, h2⟩ := and4 (h : (chkE G a x && chkE G b (.BoolOp .Or (y :: z :: rest) p)) = true)
          have pb := cb.ex g _ h2
          have pw := pb.2.2 ⟨_, _, _, rfl⟩
          exact ⟨s_or (ca.ex g x h1).1 pb.1, (t_or (ca.ex g x h1).2.1 pw).pt, fun _ => t_or (ca.ex g x h1).2.1 pw⟩
        | [], h => exact nope h
        | [_], h => exact nope h
      | _ => exact nope h
    | _ => exact nope h)
  (fun g x h => nope h)
  (fun _ _ => rfl) (fun _ _ => rfl) (fun _ _ _ => rfl) (fun _ _ _ => rfl) (fun _ _ => rfl) (fun _ _ _ => rfl) (fun _ _ => rfl)
theorem c_not_x {a : E} (ca : Claim a) : Claim (.not_ a) := claim_ex (fun {T ea G X W C n} g x h => by
    cases x with
    | UnaryOp op x p =>
      cases op with
      | Not =>
        have h' : chkE G a x = true := h
        exact ⟨s_not (ca.ex g x h').1, t_not (ca.ex g x h').2.1, fun ⟨_, _, _, z⟩ => by cases z⟩
      | _ => exact nope h
    | _ => exact nope h)
  (fun g x h => nope h)
  (fun _ _ => rfl) (fun _ _ => rfl) (fun _ _ _ => rfl) (fun _ _ _ => rfl) (fun _ _ => rfl) (fun _ _ _ => rfl) (fun _ _ => rfl)
theorem c_ite {t a b : E} (ct : Claim t) (ca : Claim a) (cb : Claim b) : Claim (.ite t a b) := claim_ex (fun {T ea G X W C n} g x h => by
    cases x with
    | IfExp x y z p =>
      have h' : (chkE G t x && chkE G a y && chkE G b z) = true := h
      simp only [Bool.and_eq_true] at h'
      have p1 := ct.ex g x h'.1.1
      have p2 := ca.ex g y h'.1.2
      have p3 := cb.ex g z h'.2
      exact ⟨s_ite p1.2.1 p2.1 p3.1, t_ite p1.2.1 p2.2.1 p3.2.1, fun ⟨_, _, _, z⟩ => by cases z⟩
    | _ => exact nope h)
  (fun g x h => nope h)
  (fun _ _ => rfl) (fun _ _ => rfl) (fun _ _ _ => rfl) (fun _ _ _ => rfl) (fun _ _ => rfl) (fun _ _ _ => rfl) (fun _ _ => rfl)
theorem c_idx {a i : E} (ca : Claim a) (ci : Claim i) : Claim (.idx a i) := claim_ex (fun {T ea G X W C n} g x h => by
    cases x with
    | Subscript x y p =>
      have h' : (plainIx y && chkE G a x && chkE G i y) = true := h
      simp only [Bool.and_eq_true] at h'
      exact snd_plain (s_idx g.un1 (ca.ex g x h'.1.2).1 (ci.ex g y h'.2).1 (plainIx_ok h'.1.1)) rfl
    | _ => exact nope h)
  (fun {T ea G X W C n} g x h => by
    cases x with
    | Subscript x y p =>
      have h' : (plainIx y && chkQ G a x && chkQ G i y) = true := h
      simp only [Bool.and_eq_true] at h'
      exact q_idx g.un1 (ca.qu g x h'.1.2) (ci.qu g y h'.2) (plainIx_ok h'.1.1)
    | _ => exact nope h)
  (fun _ _ => rfl) (fun _ _ => rfl) (fun _ _ _ => rfl) (fun _ _ _ => rfl) (fun _ _ => rfl) (fun _ _ _ => rfl) (fun _ _ => rfl)
theorem c_slc {a l r : E} (ca : Claim a) (cl : Claim l) (cr : Claim r) : Claim (.slc a l r) := claim_ex (fun {T ea G X W C n} g x h => by
    cases x with
    | Subscript x y p =>
      match y, h with
      | .Slice xl xh none p2, h =>
        have h' : (chkE G a x && chkO G l xl && chkO G r xh) = true := h
        simp only [Bool.and_eq_true] at h'
        obtain ⟨t1, o1⟩ := cl.po g xl h'.1.2
        obtain ⟨t2, o2⟩ := cr.po g xh h'.2
        exact snd_plain (s_slc (ca.ex g x h'.1.1).1 o1 o2) rfl
      | .Slice _ _ (some _) _, h => exact nope h
      | .BoolOp _ _ _, h => exact nope h
      | .NamedExpr _ _ _, h => exact nope h
      | .BinOp _ _ _ _, h => exact nope h
      | .UnaryOp _ _ _, h => exact nope h
      | .Lambda _ _ _ _, h => exact nope h
      | .IfExp _ _ _ _, h => exact nope h
      | .Dict _ _ _, h => exact nope h
      | .Set _ _ _, h => exact nope h
      | .ListComp _ _ _ _, h => exact nope h
      | .SetComp _ _ _ _, h => exact nope h
      | .DictComp _ _ _ _ _, h => exact nope h
      | .GeneratorExp _ _ _ _, h => exact nope h
      | .Await _ _, h => exact nope h
      | .Yield _ _, h => exact nope h
      | .YieldFrom _ _, h => exact nope h
      | .Compare _ _ _ _, h => exact nope h
      | .Call _ _ _ _, h => exact nope h
      | .FormattedValue _ _ _ _, h => exact nope h
      | .JoinedStr _ _, h => exact nope h
      | .Constant _ _ _, h => exact nope h
      | .Attribute _ _ _, h => exact nope h
      | .Subscript _ _ _, h => exact nope h
      | .Starred _ _, h => exact nope h
      | .Name _ _, h => exact nope h
      | .List _ _, h => exact nope h
      | .Tuple _ _ _, h => exact nope h
    | _ => exact nope h)
  (fun g x h => nope h)
  (fun _ _ => rfl) (fun _ _ => rfl) (fun _ _ _ => rfl) (fun _ _ _ => rfl) (fun _ _ => rfl) (fun _ _ _ => rfl) (fun _ _ => rfl)
theorem c_cmpQ (op : Cp) {a b : E} (ca : Claim a) (cb : Claim b) : Claim (.cmpQ op a b) := claim_ex (fun {T ea G X W C n} g x h => by
    cases x with
    | Compare x ops ys p =>
      match ops, ys, h with
      | [o], [y], h =>
        have h' : (isCp op o && chkE G a x && chkQ G b y && !behindInMarks o y) = true := h
        simp only [Bool.and_eq_true, Bool.not_eq_true'] at h'
        obtain ⟨⟨⟨h1, h2⟩, h3⟩, h4⟩ := h'
        have e : cpOf op = o := of_decide_eq_true h1
        subst e
        exact ⟨s_cmpQ g.un (ca.ex g x h2).1 (cb.qu g y h3) h4, t_cmpQ g.un (ca.ex g x h2).1 (cb.qu g y h3) h4, fun ⟨_, _, _, z⟩ => by cases z⟩
      | [], _, h => exact nope h
      | [_], [], h => exact nope h
      | [_], _ :: _ :: _, h => exact nope h
      | _ :: _ :: _, _, h => exact nope h
    | _ => exact nope h)
  (fun g x h => nope h)
  (fun _ _ => rfl) (fun _ _ => rfl) (fun _ _ _ => rfl) (fun _ _ _ => rfl) (fun _ _ => rfl) (fun _ _ _ => rfl) (fun _ _ => rfl)
theorem c_cmpB (op : Cp) (i : Nat) {b : E} (cb : Claim b) : Claim (.cmpB op i b) := claim_ex (fun {T ea G X W C n} g x h => by
    cases x with
    | Compare x ops ys p =>
      cases x with
      | Name x q =>
        match ops, ys, h with
        | [o], [y], h =>
          have h' : (isCp op o && G.loc i x && chkE G b y && !behindInMarks o y) = true := h
          simp only [Bool.and_eq_true, Bool.not_eq_true'] at h'
          obtain ⟨⟨⟨h1, h2⟩, h3⟩, h4⟩ := h'
          have e : cpOf op = o := of_decide_eq_true h1
          subst e
          obtain ⟨l1, l2, l3, l4⟩ := g.loc h2
          exact ⟨s_cmpB g.un l1 l2 l3 l4 (cb.ex g y h3).1 h4, t_cmpB g.un l1 l2 l3 l4 (cb.ex g y h3).1 h4, fun ⟨_, _, _, z⟩ => by cases z⟩
        | [], _, h => exact nope h
        | [_], [], h => exact nope h
        | [_], _ :: _ :: _, h => exact nope h
        | _ :: _ :: _, _, h => exact nope h
      | _ => exact nope h
    | _ => exact nope h)
  (fun g x h => nope h)
  (fun _ _ => rfl) (fun _ _ => rfl) (fun _ _ _ => rfl) (fun _ _ _ => rfl) (fun _ _ => rfl) (fun _ _ _ => rfl) (fun _ _ => rfl)
theorem c_mthB (m : Mth) (i : Nat) (es : E) : Claim (.mthB m i es) := claim_ex (fun g x h => nope h)
  (fun g x h => nope h)
  (fun _ _ => rfl) (fun _ _ => rfl) (fun _ _ _ => rfl) (fun _ _ _ => rfl) (fun _ _ => rfl) (fun _ _ _ => rfl) (fun _ _ => rfl)
end PL

/-! PL22: the check is sound: the other expressions. -/
namespace PL
open PySem L2
open PySem (PyData Str)
theorem c_rev {a : E} (ca : Claim a) : Claim (.rev a) := claim_ex (fun {T ea G X W C n} g x h => by
    cases x with
    | Subscript x y p =>
      cases y with
      | Slice xl xh st p2 =>
        cases xl with
        | some _ => exact nope h
        | none =>
          cases xh with
          | some _ => exact nope h
          | none =>
            cases st with
            | none => exact nope h
            | some z =>
              cases z with
              | UnaryOp op c p3 =>
                cases op with
                | USub =>
                  cases c with
                  | Constant v k p4 =>
                    cases v with
                    | int i =>
                      match i, h with
                      | 1, h =>
                        have h' : chkE G a x = true := h
                        exact snd_plain (s_rev (ca.ex g x h').1) rfl
                      | 0, h => exact nope h
                      | Int.ofNat (_ + 2), h => exact nope h
                      | Int.negSucc _, h => exact nope h
                    | _ => exact nope h
                  | _ => exact nope h
                | _ => exact nope h
              | _ => exact nope h
      | _ => exact nope h
    | _ => exact nope h)
  (fun g x h => nope h)
  (fun _ _ => rfl) (fun _ _ => rfl) (fun _ _ _ => rfl) (fun _ _ _ => rfl) (fun _ _ => rfl) (fun _ _ _ => rfl) (fun _ _ => rfl)
theorem c_tup {es : E} (ce : Claim es) : Claim (.tup es) := claim_ex (fun {T ea G X W C n} g x h => by
    cases x with
    | Tuple xs k p =>
      have h' : (chkA G es xs && noL es && decide (elen es ≤ 16777216)) = true := h
      simp only [Bool.and_eq_true, decide_eq_true_eq] at h'
      exact snd_plain (s_tup (ce.as g xs h'.1.1) h'.1.2 h'.2) rfl
    | _ => exact nope h)
  (fun g x h => nope h)
  (fun _ _ => rfl) (fun _ _ => rfl) (fun _ _ _ => rfl) (fun _ _ _ => rfl) (fun _ _ => rfl) (fun _ _ _ => rfl) (fun _ _ => rfl)
theorem c_lst {es : E} (ce : Claim es) : Claim (.lst es) := claim_ex (fun {T ea G X W C n} g x h => by
    cases x with
    | List xs p =>
      have h' : (chkA G es xs && noL es && decide (elen es ≤ 16777216)) = true := h
      simp only [Bool.and_eq_true, decide_eq_true_eq] at h'
      exact snd_plain (s_lst (ce.as g xs h'.1.1) h'.1.2 h'.2) rfl
    | _ => exact nope h)
  (fun g x h => nope h)
  (fun _ _ => rfl) (fun _ _ => rfl) (fun _ _ _ => rfl) (fun _ _ _ => rfl) (fun _ _ => rfl) (fun _ _ _ => rfl) (fun _ _ => rfl)
theorem c_call (f : Nat) {es : E} (ce : Claim es) : Claim (.call f es) := claim_ex (fun {T ea G X W C n} g x h => by
    cases x with
    | Call fn args kw p =>
      cases fn with
      | Name x q =>
        cases args with
        | nil => exact nope h
        | cons e xs =>
          cases kw with
          | cons _ _ => exact nope h
          | nil =>
            have h' : (G.calm && decide (G.names[f]? = some x) && G.gl x && dbg x && chkA G es (e :: xs) && (e :: xs).all notStar && decide (lendS es).Nodup && (match G.tbl[f]? with
              | some F => decide (lendPos es 0 = F.lent)
              | none => false)) = true := h
            simp only [Bool.and_eq_true, decide_eq_true_eq] at h'
            obtain ⟨⟨⟨⟨⟨⟨⟨h1, h2⟩, h3⟩, h4⟩, h5⟩, h6⟩, h7⟩, h8⟩ := h'
            refine snd_plain (s_call (g.fns h1 f x h2) (g.room h1) (g.gl h3) g.tk g.call (ce.as g _ h5) (by simpa only [List.all_cons, Bool.and_eq_true] using h6) h7 (fun Fn hF => ?_) (dbg_ok h4)) rfl
            rw [g.tbl] at hF
            rw [hF] at h8
            exact of_decide_eq_true h8
      | _ => exact nope h
    | _ => exact nope h)
  (fun g x h => nope h)
  (fun _ _ => rfl) (fun _ _ => rfl) (fun _ _ _ => rfl) (fun _ _ _ => rfl) (fun _ _ => rfl) (fun _ _ _ => rfl) (fun _ _ => rfl)
theorem ty_blt (t : Ty) : Str.ofString (tyN t) ∈ bltNames := by cases t <;> decide
theorem okT_ok {T : Tab} {ea : Nat → Addr} {G : Sx} {X : Cx} {W : WX} {C : PL.C} {n : Nat} (g : Gd T ea G X W C n) : ∀ {ts : List Ty} {es : List Expr}, G.okT ts es = true → tysOk X ts es
  | [], [], _ => trivial
  | t :: ts, e :: es, h => by
    cases e with
    | Name x p =>
      have h' : (decide (x = Str.ofString (tyN t)) && G.gl x && G.okT ts es) = true := h
      simp only [Bool.and_eq_true, decide_eq_true_eq] at h'
      obtain ⟨⟨rfl, h2⟩, h3⟩ := h'
      exact ⟨rfl, g.gl h2, g.blt _ (ty_blt t), okT_ok g h3⟩
    | _ => exact nope h
  | [], _ :: _, h => nope h
  | _ :: _, [], h => nope h
theorem c_isI {a : E} (ca : Claim a) (ts : List Ty) : Claim (.isI a ts) := claim_ex (fun {T ea G X W C n} g x h => by
    cases x with
    | Call fn args kw p =>
      cases fn with
      | Name f q =>
        match args, kw, h with
        | [x, y], [], h =>
          have h0 : (decide (f = "isinstance") && G.gl "isinstance" && notStar x && chkE G a x && G.isiC ts y) = true := h
          simp only [Bool.and_eq_true, decide_eq_true_eq] at h0
          obtain ⟨⟨⟨⟨rfl, h2⟩, h3⟩, h4⟩, h5⟩ := h0
          have hm : X.mg "isinstance" = none := g.blt _ (by decide)
          cases y with
          | Name z q2 =>
            match ts, h5 with
            | [t], h5 =>
              obtain ⟨e1, h6⟩ := and4 (h5 : (decide (z = Str.ofString (tyN t)) && G.gl z) = true)
              have e1 := of_decide_eq_true e1
              subst e1
              exact snd_plain (s_isi1 (g.gl h2) hm (g.gl h6) (g.blt _ (ty_blt t)) (ca.ex g x h4).1 h3) rfl
            | [], h5 => exact nope h5
            | _ :: _ :: _, h5 => exact nope h5
          | Tuple es k q2 =>
            have h6 : (G.okT ts es && decide (ts.length ≤ 16777216)) = true := by
              match ts, h5 with
              | [], h5 => exact h5
              | [t], h5 => exact h5
              | _ :: _ :: _, h5 => exact h5
            simp only [Bool.and_eq_true, decide_eq_true_eq] at h6
            exact snd_plain (s_isiT (g.gl h2) hm (okT_ok g h6.1) h6.2 (ca.ex g x h4).1 h3) rfl
          | _ =>
            match ts, h5 with
            | [], h5 => exact nope h5
            | [t], h5 => exact nope h5
            | _ :: _ :: _, h5 => exact nope h5
        | [], _, h => exact nope h
        | [_], _, h => exact nope h
        | [_, _], _ :: _, h => exact nope h
        | _ :: _ :: _ :: _, _, h => exact nope h
      | _ => exact nope h
    | _ => exact nope h)
  (fun g x h => nope h)
  (fun _ _ => rfl) (fun _ _ => rfl) (fun _ _ _ => rfl) (fun _ _ _ => rfl) (fun _ _ => rfl) (fun _ _ _ => rfl) (fun _ _ => rfl)
theorem pg_nms {T : Tab} {ea : Nat → Addr} {G : Sx} {X : Cx} {W : WX} {C : PL.C} {n : Nat} (g : Gd T ea G X W C n) : ∀ {is : List Nat} {es : List Expr}, Sx.okTg.okNs G is es = true → PGs X es (gNms is) ∧ (assignEach es X.env).length = is.length ∧ (assignEach es X.env).findIdx? (·.1) = none
  | [], [], _ => ⟨pgs_nil, rfl, rfl⟩
  | i :: is, e :: es, h => by
    cases e with
    | Name x p =>
      have h' : (G.put i x && decide (i ∉ G.fx) && Sx.okTg.okNs G is es) = true := h
      simp only [Bool.and_eq_true, decide_eq_true_eq] at h'
      obtain ⟨⟨h1, _⟩, h3⟩ := h'
      obtain ⟨p1, p2, p3⟩ := g.put h1
      obtain ⟨q1, q2, q3⟩ := pg_nms g h3
      refine ⟨pgs_cons (pg_name g.nd p1 p2 p3) q1, ?_, ?_⟩
      · show (assignEach es X.env).length + 1 = is.length + 1
        rw [q2]
      · show List.findIdx? (·.1) ((false, assign (.Name x p) X.env) :: assignEach es X.env) = none
        rw [List.findIdx?_cons]
        simp [q3]
    | _ => exact nope h
  | [], _ :: _, h => nope h
  | _ :: _, [], h => nope h
theorem okTg_ok {T : Tab} {ea : Nat → Addr} {G : Sx} {X : Cx} {W : WX} {C : PL.C} {n : Nat} (g : Gd T ea G X W C n) {t : Tg} {tg : Expr} (h : G.okTg t tg = true) : PG X tg (gOf X.K t) := by
  cases t with
  | nm i =>
    cases tg with
    | Name x p =>
      have h' : (G.put i x && decide (i ∉ G.fx)) = true := h
      rw [Bool.and_eq_true] at h'
      obtain ⟨p1, p2, p3⟩ := g.put h'.1
      exact pg_name g.nd p1 p2 p3
    | _ => exact nope h
  | nms is =>
    cases tg with
    | Tuple es k p =>
      obtain ⟨h1, h2⟩ := and4 (h : (G.calm && Sx.okTg.okNs G is es) = true)
      obtain ⟨q1, q2, q3⟩ := pg_nms g h2
      exact pg_tup (g.calm h1) q1 q2 q3
    | _ => exact nope h
theorem lc_of {G : Sx} {w : List Nat} {t : Tg} {it q el : E} {elt tg iter : Expr} {ifs : List Expr} {k : Int} {scope : Scope} {p : Pos} (h : chkE G (.lc w t it q el) (.ListComp elt [⟨tg, iter, ifs, k⟩] scope p) = true) :
    k = 0 ∧ blkC G.N G.sc scope (ownOf G.N w) = true ∧ (∀ i ∈ w, i ∉ G.fx) ∧ (∀ i ∈ tgS t, i ∈ w) ∧ notSet iter = true ∧ chkI G it tg iter = true ∧ (G.blk scope).okTg t tg = true ∧ chkT (G.blk scope) q ifs = true ∧ chkE (G.blk scope) el elt = true ∧ G.calm = true := by
  have h' : (decide (k = 0) && G.calm && blkC G.N G.sc scope (ownOf G.N w) && decide (∀ i ∈ w, i ∉ G.fx) && decide (∀ i ∈ tgS t, i ∈ w) && notSet iter && chkI G it tg iter && (G.blk scope).okTg t tg && chkT (G.blk scope) q ifs && chkE (G.blk scope) el elt) = true := h
  simp only [Bool.and_eq_true, decide_eq_true_eq] at h'
  obtain ⟨⟨⟨⟨⟨⟨⟨⟨⟨h1, h2⟩, h3⟩, h4⟩, h5⟩, h6⟩, h7⟩, h8⟩, h9⟩, h10⟩ := h'
  exact ⟨h1, h3, h4, h5, h6, h7, h8, h9, h10, h2⟩
theorem dc_of {G : Sx} {w : List Nat} {t : Tg} {it ky el : E} {kx vx tg iter : Expr} {k : Int} {scope : Scope} {p : Pos} (h : chkE G (.dc w t it ky el) (.DictComp kx vx [⟨tg, iter, [], k⟩] scope p) = true) :
    k = 0 ∧ blkC G.N G.sc scope (ownOf G.N w) = true ∧ (∀ i ∈ w, i ∉ G.fx) ∧ (∀ i ∈ tgS t, i ∈ w) ∧ notSet iter = true ∧ chkI G it tg iter = true ∧ (G.blk scope).okTg t tg = true ∧ chkE (G.blk scope) ky kx = true ∧ chkE (G.blk scope) el vx = true ∧ G.calm = true := by
  have h' : (decide (k = 0) && G.calm && blkC G.N G.sc scope (ownOf G.N w) && decide (∀ i ∈ w, i ∉ G.fx) && decide (∀ i ∈ tgS t, i ∈ w) && notSet iter && chkI G it tg iter && (G.blk scope).okTg t tg && chkE (G.blk scope) ky kx && chkE (G.blk scope) el vx) = true := h
  simp only [Bool.and_eq_true, decide_eq_true_eq] at h'
  obtain ⟨⟨⟨⟨⟨⟨⟨⟨⟨h1, h2⟩, h3⟩, h4⟩, h5⟩, h6⟩, h7⟩, h8⟩, h9⟩, h10⟩ := h'
  exact ⟨h1, h3, h4, h5, h6, h7, h8, h9, h10, h2⟩
theorem c_rdp {a : E} (ca : Claim a) : Claim (.rdp a) := claim_ex (fun {T ea G X W C n} g x h => by
    obtain ⟨h1, h2⟩ := and4 (h : (plainT x && chkP G a x) = true)
    exact snd_plain (s_rdp (ca.pa g x h2)) h1)
  (fun {T ea G X W C n} g x h => by
    exact q_rdp (ca.pa g x h))
  (fun _ _ => rfl) (fun _ _ => rfl) (fun _ _ _ => rfl) (fun _ _ _ => rfl) (fun _ _ => rfl) (fun _ _ _ => rfl) (fun _ _ => rfl)
theorem c_qt {a : E} (ca : Claim a) : Claim (.qt a) := claim_ex (fun {T ea G X W C n} g x h => by
    obtain ⟨h1, h2⟩ := and4 (h : (plainT x && chkQ G a x) = true)
    exact snd_plain (s_qt (ca.qu g x h2)) h1)
  (fun g x h => nope h)
  (fun _ _ => rfl) (fun _ _ => rfl) (fun _ _ _ => rfl) (fun _ _ _ => rfl) (fun _ _ => rfl) (fun _ _ _ => rfl) (fun _ _ => rfl)
theorem c_lc (w : List Nat) (t : Tg) {it q el : E} (ci : Claim it) (cq : Claim q) (ce : Claim el) : Claim (.lc w t it q el) := claim_ex (fun {T ea G X W C n} g x h => by
    cases x with
    | ListComp elt gens scope p =>
      match gens, h with
      | [⟨tg, iter, ifs, k⟩], h =>
        obtain ⟨hk, ok, hf, ht, hs, hi, hg, hq, he, hc⟩ := lc_of h
        subst hk
        exact snd_plain (s_lc (g.calm hc) g.nd (ci.it g tg iter hi) (by rw [g.N, g.sc]; exact blkOk_by ok) (ownOf_snd _ _) (g.free hf) ht (fun s H Ca cl fp => okTg_ok (g.blk hc scope s H Ca cl fp) hg) (fun s H Ca cl fp => cq.te (g.blk hc scope s H Ca cl fp) ifs hq) (fun s H Ca cl fp => (ce.ex (g.blk hc scope s H Ca cl fp) elt he).1) (notSet_ok hs)) rfl
      | [], h => exact nope h
      | ⟨_, _, _, _⟩ :: _ :: _, h => exact nope h
    | _ => exact nope h)
  (fun g x h => nope h)
  (fun _ _ => rfl) (fun _ _ => rfl) (fun _ _ _ => rfl) (fun _ _ _ => rfl) (fun _ _ => rfl) (fun _ _ _ => rfl) (fun _ _ => rfl)
theorem c_dc (w : List Nat) (t : Tg) {it ky el : E} (ci : Claim it) (ck : Claim ky) (ce : Claim el) : Claim (.dc w t it ky el) := claim_ex (fun {T ea G X W C n} g x h => by
    cases x with
    | DictComp kx vx gens scope p =>
      match gens, h with
      | [⟨tg, iter, [], k⟩], h =>
        obtain ⟨hk, ok, hf, ht, hs, hi, hg, hq, he, hc⟩ := dc_of h
        subst hk
        exact snd_plain (s_dc (g.calm hc) g.nd (ci.it g tg iter hi) (by rw [g.N, g.sc]; exact blkOk_by ok) (ownOf_snd _ _) (g.free hf) ht (fun s H Ca cl fp => okTg_ok (g.blk hc scope s H Ca cl fp) hg) (fun s H Ca cl fp => (ck.ex (g.blk hc scope s H Ca cl fp) kx hq).1) (fun s H Ca cl fp => (ce.ex (g.blk hc scope s H Ca cl fp) vx he).1) (notSet_ok hs)) rfl
      | [⟨_, _, _ :: _, _⟩], h => exact nope h
      | [], h => exact nope h
      | ⟨_, _, [], _⟩ :: _ :: _, h => exact nope h
      | ⟨_, _, _ :: _, _⟩ :: _ :: _, h => exact nope h
    | _ => exact nope h)
  (fun g x h => nope h)
  (fun _ _ => rfl) (fun _ _ => rfl) (fun _ _ _ => rfl) (fun _ _ _ => rfl) (fun _ _ => rfl) (fun _ _ _ => rfl) (fun _ _ => rfl)
theorem c_eis (cs : List Nat) : Claim (.eis cs) := claim_ex (fun {T ea G X W C n} g x h => by
    cases x with
    | Call fn args kw p =>
      cases fn with
      | Name f q =>
        cases args with
        | nil => exact nope h
        | cons a1 r =>
          cases a1 with
          | Name x p1 =>
            cases r with
            | nil => exact nope h
            | cons a2 r2 =>
              cases a2 with
              | Name y p2 =>
                cases r2 with
                | cons _ _ => exact nope h
                | nil =>
                  cases kw with
                  | cons _ _ => exact nope h
                  | nil =>
                    have h' : G.eisC cs f x y = true := h
                    clear h
                    unfold Sx.eisC at h'
                    split at h'
                    · rename_i c i hh
                      simp only [Bool.and_eq_true, decide_eq_true_eq] at h'
                      obtain ⟨⟨⟨⟨⟨rfl, h2⟩, h3⟩, h4⟩, h5⟩, h6⟩ := h'
                      obtain ⟨l1, l2, l3, l4⟩ := g.loc h3
                      obtain ⟨a, k, ds, e1, e2, e3, e4⟩ := g.hot i hh
                      cases he : G.errs[c]? with
                      | none => rw [he] at h6; exact nope h6
                      | some pe =>
                        rw [he] at h6
                        have e5 : pe.1 = y := of_decide_eq_true h6
                        have hm := g.cls c pe he
                        rw [e5] at hm
                        exact snd_plain (s_eis (g.gl h2) (g.blt _ (by decide)) l1 l2 l3 l4 e3 e2 e1 (g.gl h4) hm (dbg_ok h5) (e4 c pe he)) rfl
                    · exact nope h'
              | _ => exact nope h
          | _ => exact nope h
      | _ => exact nope h
    | _ => exact nope h)
  (fun g x h => nope h)
  (fun _ _ => rfl) (fun _ _ => rfl) (fun _ _ _ => rfl) (fun _ _ _ => rfl) (fun _ _ => rfl) (fun _ _ _ => rfl) (fun _ _ => rfl)
theorem c_sdap (i : Nat) (k v : E) : Claim (.sdap i k v) := claim_ex (fun {T ea G X W C n} g x h => by
    exact nope h)
  (fun g x h => nope h)
  (fun _ _ => rfl) (fun _ _ => rfl) (fun _ _ _ => rfl) (fun _ _ _ => rfl) (fun _ _ => rfl) (fun _ _ _ => rfl) (fun _ _ => rfl)
theorem c_izip (a b : E) : Claim (.izip a b) := claim_ex (fun {T ea G X W C n} g x h => by
    exact nope h)
  (fun g x h => nope h)
  (fun _ _ => rfl) (fun _ _ => rfl) (fun _ _ _ => rfl) (fun _ _ _ => rfl) (fun _ _ => rfl) (fun _ _ _ => rfl) (fun _ _ => rfl)
theorem c_iitems (a : E) : Claim (.iitems a) := claim_ex (fun {T ea G X W C n} g x h => by
    exact nope h)
  (fun g x h => nope h)
  (fun _ _ => rfl) (fun _ _ => rfl) (fun _ _ _ => rfl) (fun _ _ _ => rfl) (fun _ _ => rfl) (fun _ _ _ => rfl) (fun _ _ => rfl)
theorem c_ivals (a : E) : Claim (.ivals a) := claim_ex (fun {T ea G X W C n} g x h => by
    exact nope h)
  (fun g x h => nope h)
  (fun _ _ => rfl) (fun _ _ => rfl) (fun _ _ _ => rfl) (fun _ _ _ => rfl) (fun _ _ => rfl) (fun _ _ _ => rfl) (fun _ _ => rfl)
theorem c_irng3 (a b c : E) : Claim (.irng3 a b c) := claim_ex (fun {T ea G X W C n} g x h => by
    exact nope h)
  (fun g x h => nope h)
  (fun _ _ => rfl) (fun _ _ => rfl) (fun _ _ _ => rfl) (fun _ _ _ => rfl) (fun _ _ => rfl) (fun _ _ _ => rfl) (fun _ _ => rfl)
theorem c_efld (k : Nat) : Claim (.efld k) := claim_ex (fun {T ea G X W C n} g x h => by
    exact nope h)
  (fun g x h => nope h)
  (fun _ _ => rfl) (fun _ _ => rfl) (fun _ _ _ => rfl) (fun _ _ _ => rfl) (fun _ _ => rfl) (fun _ _ _ => rfl) (fun _ _ => rfl)
end PL

/-! PL23: the check is sound: displays of dicts, built-ins, methods, iterators, lists of expressions; all together. -/
namespace PL
open PySem L2
open PySem (PyData Str)
theorem c_dic (t : Bool) {es : E} (ce : Claim es) : Claim (.dic t es) := claim_ex (fun {T ea G X W C n} g x h => by
    cases x with
    | Dict ks vs p =>
      cases ks with
      | nil =>
        cases vs with
        | nil =>
          cases es with
          | nil => exact snd_plain s_dic0 rfl
          | _ => exact nope h
        | cons _ _ => cases es <;> exact nope h
      | cons k ks =>
        have h' : (!t && chkD G es (k :: ks) vs && decide ((k :: ks).length ≤ 15)) = true := by
          cases es <;> cases vs <;> exact h
        simp only [Bool.and_eq_true, Bool.not_eq_true', decide_eq_true_eq] at h'
        obtain ⟨⟨rfl, h2⟩, h3⟩ := h'
        obtain ⟨ts, d⟩ := ce.dp g (k :: ks) vs h2
        exact snd_plain (s_dic d (by simp) h3) rfl
    | _ => exact nope h)
  (fun g x h => nope h)
  (fun _ _ => rfl) (fun _ _ => rfl) (fun _ _ _ => rfl) (fun _ _ _ => rfl) (fun _ _ => rfl) (fun _ _ _ => rfl) (fun _ _ => rfl)
/-- a list of expressions: nothing, or a first and the rest -/
theorem claim_l {e : E} (h0 : ∀ G x, chkE G e x = false) (hq : ∀ G x, chkQ G e x = false) (h6 : ∀ G tg x, chkI G e tg x = false) (h7 : ∀ G x, chkP G e x = false)
    (as : ∀ {T : Tab} {ea : Nat → Addr} {G : Sx} {X : Cx} {W : WX} {C : PL.C} {n : Nat} (_ : Gd T ea G X W C n) (xs : List Expr), chkA G e xs = true → PA X xs (RA T ea X W C e))
    (po : ∀ {T : Tab} {ea : Nat → Addr} {G : Sx} {X : Cx} {W : WX} {C : PL.C} {n : Nat} (_ : Gd T ea G X W C n) (x : Option Expr), chkO G e x = true → ∃ t, OPart T ea X W C e x t)
    (dp : ∀ {T : Tab} {ea : Nat → Addr} {G : Sx} {X : Cx} {W : WX} {C : PL.C} {n : Nat} (_ : Gd T ea G X W C n) (ks : List (Option Expr)) (vs : List Expr), chkD G e ks vs = true → ∃ ts, DPs T ea X W C e ks vs ts)
    (dp2 : ∀ {T : Tab} {ea : Nat → Addr} {G : Sx} {X : Cx} {W : WX} {C : PL.C} {n : Nat} (_ : Gd T ea G X W C n) (k : E) (x : Expr) (ks : List (Option Expr)) (vs : List Expr), (∀ i, k ≠ .lend i) → PE X x (RD T ea X W C k) → chkD2 G e ks vs = true → ∃ ts, DPs T ea X W C (.cons k e) (some x :: ks) vs ts)
    (te : ∀ {T : Tab} {ea : Nat → Addr} {G : Sx} {X : Cx} {W : WX} {C : PL.C} {n : Nat} (_ : Gd T ea G X W C n) (xs : List Expr), chkT G e xs = true → PTs X xs (rdB T ea (kf T X) W fun ρ => evT C e ρ)) : Claim e where
  ex := fun g x z => nope ((h0 _ _).symm.trans z)
  as := as
  po := po
  dp := dp
  dp2 := dp2
  te := te
  it := fun g tg x z => nope ((h6 _ _ _).symm.trans z)
  qu := fun g x z => nope ((hq _ _).symm.trans z)
  pa := fun g x z => nope ((h7 _ _).symm.trans z)
theorem pts_imp {X : Cx} {xs : List Expr} {t t' : TT} (h : PTs X xs t) (k : ∀ σ H Q, t' σ H Q → t σ H Q) : PTs X xs t' := ⟨fun pins s σ H Q I q => h.run pins s σ H Q I (k _ _ _ q)⟩
theorem c_nil : Claim .nil := claim_l (fun _ _ => rfl) (fun _ _ => rfl) (fun _ _ _ => rfl) (fun _ _ => rfl)
  (fun g xs h => by cases xs with | nil => exact a_nil | cons _ _ => exact nope h)
  (fun g x h => by cases x with | none => exact ⟨_, .no⟩ | some _ => exact nope h)
  (fun g ks vs h => by cases ks with | nil => (cases vs with | nil => exact ⟨_, .nil⟩ | cons _ _ => exact nope h) | cons _ _ => exact nope h)
  (fun g k x ks vs _ _ h => nope h)
  (fun {T ea G X W C n} g xs h => by
    cases xs with
    | nil => exact pts_imp pts_nil fun σ H Q ⟨ρ, c, r, S, q⟩ => q H c S (.refl _ _) fun _ _ => rfl
    | cons _ _ => exact nope h)
theorem c_cons {a b : E} (ca : Claim a) (cb : Claim b) : Claim (.cons a b) := claim_l (fun _ _ => rfl) (fun _ _ => rfl) (fun _ _ _ => rfl) (fun _ _ => rfl)
  (fun {T ea G X W C n} g xs h => by
    cases xs with
    | nil => exact nope h
    | cons x xs =>
      by_cases z : ∃ i, a = .lend i
      · obtain ⟨i, rfl⟩ := z
        cases x with
        | Name y p =>
          obtain ⟨h1, h2⟩ := and4 (h : (G.loc i y && chkA G b xs) = true)
          obtain ⟨l1, l2, l3, l4⟩ := g.loc h1
          exact a_lend l1 l2 l3 l4 (cb.as g xs h2)
        | _ => exact nope h
      · have h' : ((noLend a && notStar x && chkE G a x) && chkA G b xs) = true := by
          cases a <;> first | exact h | exact absurd ⟨_, rfl⟩ z
        simp only [Bool.and_eq_true] at h'
        obtain ⟨⟨⟨h1, h2⟩, h3⟩, h4⟩ := h'
        exact a_cons (noLend_ok h1) (ca.ex g x h3).1 (cb.as g xs h4) h2)
  (fun {T ea G X W C n} g x h => by
    cases x with
    | none => exact nope h
    | some x =>
      cases b with
      | nil =>
        have h' : (true && noLend a && chkE G a x) = true := h
        simp only [Bool.and_eq_true] at h'
        exact ⟨_, .so (noLend_ok h'.1.2) (ca.ex g x h'.2).1⟩
      | _ => exact nope h)
  (fun {T ea G X W C n} g ks vs h => by
    cases ks with
    | nil => exact nope h
    | cons k ks =>
      cases k with
      | none => exact nope h
      | some x =>
        cases vs with
        | nil => exact nope h
        | cons y vs =>
          have h' : (noLend a && chkE G a x && chkD2 G b ks (y :: vs)) = true := h
          simp only [Bool.and_eq_true] at h'
          exact cb.dp2 g a x ks (y :: vs) (noLend_ok h'.1.1) (ca.ex g x h'.1.2).1 h'.2)
  (fun {T ea G X W C n} g k x ks vs hk hx h => by
    cases vs with
    | nil => exact nope h
    | cons y vs =>
      have h' : (noLend a && chkE G a y && chkD G b ks vs) = true := h
      simp only [Bool.and_eq_true] at h'
      obtain ⟨ts, d⟩ := cb.dp g ks vs h'.2
      exact ⟨_, .cons hk (noLend_ok h'.1.1) hx (ca.ex g y h'.1.2).1 d⟩)
  (fun {T ea G X W C n} g xs h => by
    cases xs with
    | nil => exact nope h
    | cons x xs =>
      cases xs with
      | cons _ _ => exact nope h
      | nil =>
        cases b with
        | nil =>
          have h2 : chkE G a x = true := h
          exact pts_one (ca.ex g x h2).2.1
        | _ => exact nope h)
/-- an iterator -/
theorem claim_i {e : E} (h0 : ∀ G x, chkE G e x = false) (hq : ∀ G x, chkQ G e x = false) (h1 : ∀ G xs, chkA G e xs = false) (h2 : ∀ G x, chkO G e x = false) (h3 : ∀ G ks vs, chkD G e ks vs = false) (h4 : ∀ G ks vs, chkD2 G e ks vs = false) (h5 : ∀ G xs, chkT G e xs = false) (h7 : ∀ G x, chkP G e x = false)
    (it : ∀ {T : Tab} {ea : Nat → Addr} {G : Sx} {X : Cx} {W : WX} {C : PL.C} {n : Nat} (_ : Gd T ea G X W C n) (tg x : Expr), chkI G e tg x = true → PI X tg x (RI T ea X W C e)) : Claim e where
  ex := fun g x z => nope ((h0 _ _).symm.trans z)
  as := fun g xs z => nope ((h1 _ _).symm.trans z)
  po := fun g x z => nope ((h2 _ _).symm.trans z)
  dp := fun g ks vs z => nope ((h3 _ _ _).symm.trans z)
  dp2 := fun g k x ks vs _ _ z => nope ((h4 _ _ _).symm.trans z)
  te := fun g xs z => nope ((h5 _ _).symm.trans z)
  it := it
  qu := fun g x z => nope ((hq _ _).symm.trans z)
  pa := fun g x z => nope ((h7 _ _).symm.trans z)
theorem c_iseq {a : E} (ca : Claim a) : Claim (.iseq a) := claim_i (fun _ _ => rfl) (fun _ _ => rfl) (fun _ _ => rfl) (fun _ _ => rfl) (fun _ _ _ => rfl) (fun _ _ _ => rfl) (fun _ _ => rfl) (fun _ _ => rfl)
  (fun {T ea G X W C n} g tg x h => i_seq (ca.ex g x h).1)
theorem c_irng1 {a : E} (ca : Claim a) : Claim (.irng1 a) := claim_i (fun _ _ => rfl) (fun _ _ => rfl) (fun _ _ => rfl) (fun _ _ => rfl) (fun _ _ _ => rfl) (fun _ _ _ => rfl) (fun _ _ => rfl) (fun _ _ => rfl)
  (fun {T ea G X W C n} g tg x h => by
    cases x with
    | Call fn args kw p =>
      cases fn with
      | Name f q =>
        match args, kw, h with
        | [x], [], h =>
          have h' : (decide (f = "range") && G.gl "range" && notStar x && chkE G a x) = true := h
          simp only [Bool.and_eq_true, decide_eq_true_eq] at h'
          obtain ⟨⟨⟨rfl, h2⟩, h3⟩, h4⟩ := h'
          exact i_rng1 (g.gl h2) (g.blt _ (by decide)) (ca.ex g x h4).1 h3
        | [], _, h => exact nope h
        | [_], _ :: _, h => exact nope h
        | _ :: _ :: _, _, h => exact nope h
      | _ => exact nope h
    | _ => exact nope h)
theorem c_irng2 {a b : E} (ca : Claim a) (cb : Claim b) : Claim (.irng2 a b) := claim_i (fun _ _ => rfl) (fun _ _ => rfl) (fun _ _ => rfl) (fun _ _ => rfl) (fun _ _ _ => rfl) (fun _ _ _ => rfl) (fun _ _ => rfl) (fun _ _ => rfl)
  (fun {T ea G X W C n} g tg x h => by
    cases x with
    | Call fn args kw p =>
      cases fn with
      | Name f q =>
        match args, kw, h with
        | [x, y], [], h =>
          have h' : (decide (f = "range") && G.gl "range" && notStar x && notStar y && chkE G a x && chkE G b y) = true := h
          simp only [Bool.and_eq_true, decide_eq_true_eq] at h'
          obtain ⟨⟨⟨⟨⟨rfl, h2⟩, h3⟩, h4⟩, h5⟩, h6⟩ := h'
          exact i_rng2 (g.gl h2) (g.blt _ (by decide)) (ca.ex g x h5).1 (cb.ex g y h6).1 h3 h4
        | [], _, h => exact nope h
        | [_], _, h => exact nope h
        | [_, _], _ :: _, h => exact nope h
        | _ :: _ :: _ :: _, _, h => exact nope h
      | _ => exact nope h
    | _ => exact nope h)
theorem c_ienum {a : E} (ca : Claim a) : Claim (.ienum a) := claim_i (fun _ _ => rfl) (fun _ _ => rfl) (fun _ _ => rfl) (fun _ _ => rfl) (fun _ _ _ => rfl) (fun _ _ _ => rfl) (fun _ _ => rfl) (fun _ _ => rfl)
  (fun {T ea G X W C n} g tg x h => by
    cases tg with
    | Tuple es kk tp =>
      cases x with
      | Call fn args kw p =>
        cases fn with
        | Name f q =>
          match args, kw, h with
          | [x], [], h =>
            have h' : (decide (f = "enumerate") && G.gl "enumerate" && notStar x && chkE G a x) = true := h
            simp only [Bool.and_eq_true, decide_eq_true_eq] at h'
            obtain ⟨⟨⟨rfl, h2⟩, h3⟩, h4⟩ := h'
            exact i_enum (g.gl h2) (g.blt _ (by decide)) (ca.ex g x h4).1 h3
          | [], _, h => exact nope h
          | [_], _ :: _, h => exact nope h
          | _ :: _ :: _, _, h => exact nope h
        | _ => exact nope h
      | _ => exact nope h
    | _ => cases x <;> exact nope h)
/-- a path -/
theorem claim_p {e : E} (h0 : ∀ G x, chkE G e x = false) (hq : ∀ G x, chkQ G e x = false) (h1 : ∀ G xs, chkA G e xs = false) (h2 : ∀ G x, chkO G e x = false) (h3 : ∀ G ks vs, chkD G e ks vs = false) (h4 : ∀ G ks vs, chkD2 G e ks vs = false) (h5 : ∀ G xs, chkT G e xs = false) (h6 : ∀ G tg x, chkI G e tg x = false)
    (pa : ∀ {T : Tab} {ea : Nat → Addr} {G : Sx} {X : Cx} {W : WX} {C : PL.C} {n : Nat} (_ : Gd T ea G X W C n) (x : Expr), chkP G e x = true → PE X x (rdP (kf T X) e)) : Claim e where
  ex := fun g x z => nope ((h0 _ _).symm.trans z)
  as := fun g xs z => nope ((h1 _ _).symm.trans z)
  po := fun g x z => nope ((h2 _ _).symm.trans z)
  dp := fun g ks vs z => nope ((h3 _ _ _).symm.trans z)
  dp2 := fun g k x ks vs _ _ z => nope ((h4 _ _ _).symm.trans z)
  te := fun g xs z => nope ((h5 _ _).symm.trans z)
  it := fun g tg x z => nope ((h6 _ _ _).symm.trans z)
  qu := fun g x z => nope ((hq _ _).symm.trans z)
  pa := pa
theorem c_pv (i : Nat) : Claim (.pv i) := claim_p (fun _ _ => rfl) (fun _ _ => rfl) (fun _ _ => rfl) (fun _ _ => rfl) (fun _ _ _ => rfl) (fun _ _ _ => rfl) (fun _ _ => rfl) (fun _ _ _ => rfl)
  (fun {T ea G X W C n} g x h => by
    cases x with
    | Name x p =>
      obtain ⟨h1, h2, h3, h4⟩ := g.loc (h : G.loc i x = true)
      exact p_pv h1 h2 h3 h4
    | _ => exact nope h)
theorem c_pi {a k : E} (ca : Claim a) (ck : Claim k) : Claim (.pi a k) := claim_p (fun _ _ => rfl) (fun _ _ => rfl) (fun _ _ => rfl) (fun _ _ => rfl) (fun _ _ _ => rfl) (fun _ _ _ => rfl) (fun _ _ => rfl) (fun _ _ _ => rfl)
  (fun {T ea G X W C n} g x h => by
    cases x with
    | Subscript x y p =>
      have h' : (plainIx y && chkP G a x && chkQ G k y) = true := h
      simp only [Bool.and_eq_true] at h'
      exact p_pi g.un1 (ca.pa g x h'.1.2) (ck.qu g y h'.2) (plainIx_ok h'.1.1)
    | _ => exact nope h)
theorem c_mut (m : Mu) (p : E) {es : E} (ce : Claim es) : Claim (.mut m p es) := claim_ex (fun {T ea G X W C n} g x h => by
    cases x with
    | Call fn args kw pos =>
      cases fn with
      | Attribute o nm ap =>
        cases o with
        | Name x q =>
          cases kw with
          | cons _ _ => exact nope h
          | nil =>
            have h' : (G.pvC p x && (ap.endLine == pos.line) && muNm m nm && (if args.isEmpty then isNilE es else chkA G es args && noL es && args.all notStar && decide (args.length < 30))) = true := h
            clear h
            simp only [Bool.and_eq_true] at h'
            obtain ⟨⟨⟨h1, h3⟩, h4⟩, h5⟩ := h'
            cases p with
            | pv i =>
              have h1 : G.loc i x = true := h1
              obtain ⟨l1, l2, l3, l4⟩ := g.loc h1
              unfold muNm at h4
              cases hm : muV m with
              | none => rw [hm] at h4; exact nope h4
              | some v =>
                obtain ⟨id, nn⟩ := v
                rw [hm] at h4
                have h4 : nm = nn := of_decide_eq_true h4
                subst h4
                cases args with
                | nil =>
                  cases es with
                  | nil => exact snd_plain (s_mut0 hm l1 l2 l3 l4 h3) rfl
                  | _ => exact nope h5
                | cons e xs =>
                  have h6 : (chkA G es (e :: xs) && noL es && (e :: xs).all notStar && decide ((e :: xs).length < 30)) = true := h5
                  rw [Bool.and_eq_true, Bool.and_eq_true, Bool.and_eq_true, decide_eq_true_eq] at h6
                  exact snd_plain (s_mut hm l1 l2 l3 l4 (ce.as g _ h6.1.1.1) h6.1.1.2 h6.1.2 h6.2 h3) rfl
            | _ => exact nope h1
        | _ => exact nope h
      | _ => exact nope h
    | _ => exact nope h)
  (fun g x h => nope h)
  (fun _ _ => rfl) (fun _ _ => rfl) (fun _ _ _ => rfl) (fun _ _ _ => rfl) (fun _ _ => rfl) (fun _ _ _ => rfl) (fun _ _ => rfl)
end PL

/-! PL24: built-ins, methods; every expression. -/
namespace PL
open PySem L2
open PySem (PyData Str)
section
variable {T : Tab} {ea : Nat → Addr} {G : Sx} {X : Cx} {W : WX} {C : PL.C} {n : Nat}
theorem one_of {es : E} {x : Expr} (ce : Claim es) (g : Gd T ea G X W C n) (h : chkO G es (some x) = true) : ∃ a, es = .cons a .nil ∧ (∀ i, a ≠ .lend i) ∧ PE X x (RD T ea X W C a) := by
  obtain ⟨t, o⟩ := ce.po g (some x) h
  cases o with
  | so h1 h2 => exact ⟨_, rfl, h1, h2⟩
theorem two_of {es : E} {x y : Expr} (ce : Claim es) (g : Gd T ea G X W C n) (h : chkD G es [some x] [y] = true) : ∃ a b, es = .cons a (.cons b .nil) ∧ (∀ i, a ≠ .lend i) ∧ (∀ i, b ≠ .lend i) ∧ PE X x (RD T ea X W C a) ∧ PE X y (RD T ea X W C b) := by
  obtain ⟨t, o⟩ := ce.dp g [some x] [y] h
  cases o with
  | cons h1 h2 h3 h4 r =>
    cases r
    exact ⟨_, _, rfl, h1, h2, h3, h4⟩
theorem gen_of {b : Bi} {es : E} {fn : Expr} {args : List Expr} {kw : List Keyword} {p : Pos} (ce : Claim es) (g : Gd T ea G X W C n)
    (h : (G.biC b fn && kw.isEmpty && !args.isEmpty && chkA G es args && noL es && args.all notStar) = true) : Snd T ea X W C (.bi b es) (.Call fn args kw p) := by
  simp only [Bool.and_eq_true] at h
  obtain ⟨⟨⟨⟨⟨h2, h1⟩, h3⟩, h4⟩, h5⟩, h6⟩ := h
  cases kw with
  | cons _ _ => exact nope h1
  | nil =>
  cases fn with
  | Name x q =>
    unfold Sx.biC at h2
    cases hb : biV b with
    | none => rw [hb] at h2; exact nope h2
    | some v =>
      obtain ⟨nn, f⟩ := v
      rw [hb] at h2
      simp only [Bool.and_eq_true, decide_eq_true_eq] at h2
      obtain ⟨⟨⟨rfl, h7⟩, h8⟩, h9⟩ := h2
      cases args with
      | nil => exact nope h3
      | cons e xs =>
        exact snd_plain (s_bi (by have := g.un; omega) hb (fun z => g.calm (by rw [z] at h9; simpa using h9)) (g.gl h7) (g.blt _ (by simpa using h8)) (ce.as g _ h4) h5 h6) rfl
  | _ => exact nope h2
theorem len_two {α : Type} : ∀ {l : List α}, l.length = 2 → ∃ x y, l = [x, y]
  | [x, y], _ => ⟨x, y, rfl⟩
  | [], h => by simp at h
  | [_], h => by simp at h
  | _ :: _ :: _ :: _, h => by simp at h
theorem rngA_of {args : List Expr} {k : Nat} (h : rngN args = k + 1) : ∃ q p2, args = [.Call (.Name "range" q) (rngA args) [] p2] := by
  unfold rngN rngA at h
  split at h
  · rename_i r q xs p2
    split at h
    · rename_i e
      subst e
      exact ⟨q, p2, by simp [rngA]⟩
    · cases h
  · cases h
end
theorem c_bi (b : Bi) {es : E} (ce : Claim es) (hq : ∀ a, es = .cons a .nil → Claim a) : Claim (.bi b es) := claim_ex (fun {T ea G X W C n} g x h => by
    cases x with
    | Call fn args kw p =>
      have h' : (if biGen b then G.biC b fn && kw.isEmpty && !args.isEmpty && chkA G es args && noL es && args.all notStar
        else if isBit b then bitC fn args kw p && chkO G es (bitX fn)
        else G.lstC fn kw && (if isR1 b then notStar (rng0 args) && decide (rngN args = 1) && chkO G es (some (rng0 args)) else notStar (rng0 args) && notStar (rngI args) && decide (rngN args = 2) && chkD G es [some (rng0 args)] [rngI args])) = true := h
      clear h
      by_cases hb : biGen b = true
      · rw [if_pos hb] at h'
        exact gen_of ce g h'
      · rw [if_neg hb] at h'
        by_cases hb2 : isBit b = true
        · rw [if_pos hb2] at h'
          obtain ⟨h1, h2⟩ := and4 h'
          have e : b = .bitLen := by cases b <;> first | rfl | cases hb2
          subst e
          cases fn with
          | Attribute x m ap =>
            cases args with
            | cons _ _ => exact nope h1
            | nil =>
              cases kw with
              | cons _ _ => exact nope h1
              | nil =>
                have h1 : (decide (m = "bit_length") && plainBase x && (ap.endLine == p.line)) = true := h1
                rw [Bool.and_eq_true, Bool.and_eq_true, decide_eq_true_eq] at h1
                obtain ⟨⟨rfl, h4⟩, h5⟩ := h1
                obtain ⟨a, rfl, hl, pa⟩ := one_of ce g h2
                exact snd_plain (s_bits pa hl h4 h5) rfl
          | _ => cases args <;> exact nope h1
        · rw [if_neg hb2] at h'
          obtain ⟨h1, h2⟩ := and4 h'
          cases fn with
          | Name l q =>
            cases kw with
            | cons _ _ => exact nope h1
            | nil =>
              have h1 : (G.calm && decide (l = "list") && G.gl "list" && G.gl "range") = true := h1
              rw [Bool.and_eq_true, Bool.and_eq_true, Bool.and_eq_true, decide_eq_true_eq] at h1
              obtain ⟨⟨⟨h3, rfl⟩, h4⟩, h5⟩ := h1
              by_cases hr : isR1 b = true
              · rw [if_pos hr] at h2
                have e : b = .rng1 := by cases b <;> first | rfl | cases hr
                subst e
                rw [Bool.and_eq_true, Bool.and_eq_true, decide_eq_true_eq] at h2
                obtain ⟨⟨h6, h7⟩, h8⟩ := h2
                obtain ⟨q2, p2, ea'⟩ := rngA_of h7
                obtain ⟨x, ex⟩ : ∃ x, rngA args = [x] := List.length_eq_one_iff.mp h7
                have e0 : rng0 args = x := by unfold rng0; rw [ex]; rfl
                rw [e0] at h6 h8
                rw [ex] at ea'
                subst ea'
                obtain ⟨a, rfl, hl, pa⟩ := one_of ce g h8
                exact snd_plain (s_rng1 (g.calm h3) (g.gl h4) (g.blt _ (by decide)) (g.gl h5) (g.blt _ (by decide)) pa hl h6) rfl
              · rw [if_neg hr] at h2
                have e : b = .rng2 := by cases b <;> first | rfl | exact absurd rfl hb | exact absurd rfl hb2 | exact absurd rfl hr
                subst e
                rw [Bool.and_eq_true, Bool.and_eq_true, Bool.and_eq_true, decide_eq_true_eq] at h2
                obtain ⟨⟨⟨h6, h7⟩, h8⟩, h9⟩ := h2
                obtain ⟨q2, p2, ea'⟩ := rngA_of h8
                obtain ⟨x, y, ex⟩ : ∃ x y, rngA args = [x, y] := len_two h8
                have e0 : rng0 args = x := by unfold rng0; rw [ex]; rfl
                have e1 : rngI args = y := by unfold rngI; rw [ex]; rfl
                rw [e0] at h6 h9
                rw [e1] at h7 h9
                rw [ex] at ea'
                subst ea'
                obtain ⟨a, b, rfl, hl, hl2, pa, pb⟩ := two_of ce g h9
                exact snd_plain (s_rng2 (g.calm h3) (g.gl h4) (g.blt _ (by decide)) (g.gl h5) (g.blt _ (by decide)) pa pb hl hl2 h6 h7) rfl
          | _ => cases kw <;> exact nope h1
    | _ => exact nope h)
  (fun {T ea G X W C n} g x h => by
    cases x with
    | Call fn args kw p =>
      cases b with
      | len =>
        cases es with
        | cons a r =>
          cases r with
          | nil =>
            cases fn with
            | Name f q =>
              match args, kw, h with
              | [x], [], h =>
                have h' : (decide (f = "len") && G.gl "len" && notStar x && chkQ G a x) = true := h
                simp only [Bool.and_eq_true, decide_eq_true_eq] at h'
                obtain ⟨⟨⟨rfl, h2⟩, h3⟩, h4⟩ := h'
                exact q_len (by have := g.un; omega) (g.gl h2) (g.blt _ (by decide)) ((hq a rfl).qu g x h4) h3
              | [], _, h => exact nope h
              | [_], _ :: _, h => exact nope h
              | _ :: _ :: _, _, h => exact nope h
            | _ => exact nope h
          | _ => exact nope h
        | _ => exact nope h
      | _ => exact nope h
    | _ => cases b <;> first | exact nope h | (cases es <;> first | exact nope h | (rename_i a r; cases r <;> exact nope h)))
  (fun _ _ => rfl) (fun _ _ => rfl) (fun _ _ _ => rfl) (fun _ _ _ => rfl) (fun _ _ => rfl) (fun _ _ _ => rfl) (fun _ _ => rfl)
theorem c_mth (m : Mth) {a es : E} (ca : Claim a) (ce : Claim es) : Claim (.mth m a es) := claim_ex (fun {T ea G X W C n} g x h => by
    cases x with
    | Call fn args kw p =>
      cases fn with
      | Attribute x nm ap =>
        cases m with
        | index =>
          match args, kw, h with
          | [y], [], h =>
            have h' : (plainBase x && (ap.endLine == p.line) && chkE G a x && decide (nm = "index") && notStar y && chkO G es (some y)) = true := h
            simp only [Bool.and_eq_true, decide_eq_true_eq] at h'
            obtain ⟨⟨⟨⟨⟨h1, h2⟩, h3⟩, rfl⟩, h5⟩, h6⟩ := h'
            obtain ⟨b, rfl, hl, pb⟩ := one_of ce g h6
            exact snd_plain (s_index g.un (ca.ex g x h3).1 pb hl h1 h5 h2) rfl
          | [], _, h => exact nope h
          | [_], _ :: _, h => exact nope h
          | _ :: _ :: _, _, h => exact nope h
        | get =>
          match args, kw, h with
          | [y, z], [], h =>
            have h' : (plainBase x && (ap.endLine == p.line) && chkE G a x && decide (nm = "get") && notStar y && notStar z && chkD G es [some y] [z]) = true := h
            simp only [Bool.and_eq_true, decide_eq_true_eq] at h'
            obtain ⟨⟨⟨⟨⟨⟨h1, h2⟩, h3⟩, rfl⟩, h5⟩, h6⟩, h7⟩ := h'
            obtain ⟨b, d, rfl, hl, hl2, pb, pd⟩ := two_of ce g h7
            exact snd_plain (s_get2 g.un1 (ca.ex g x h3).1 pb pd hl hl2 h1 h5 h6 h2) rfl
          | [], _, h => exact nope h
          | [_], _, h => exact nope h
          | [_, _], _ :: _, h => exact nope h
          | _ :: _ :: _ :: _, _, h => exact nope h
        | get1 =>
          match args, kw, h with
          | [y], [], h =>
            have h' : (plainBase x && (ap.endLine == p.line) && chkE G a x && decide (nm = "get") && notStar y && chkO G es (some y)) = true := h
            simp only [Bool.and_eq_true, decide_eq_true_eq] at h'
            obtain ⟨⟨⟨⟨⟨h1, h2⟩, h3⟩, rfl⟩, h5⟩, h6⟩ := h'
            obtain ⟨b, rfl, hl, pb⟩ := one_of ce g h6
            exact snd_plain (s_get1 g.un1 (ca.ex g x h3).1 pb hl h1 h5 h2) rfl
          | [], _, h => exact nope h
          | [_], _ :: _, h => exact nope h
          | _ :: _ :: _, _, h => exact nope h
      | _ => cases m <;> exact nope h
    | _ => cases m <;> exact nope h)
  (fun g x h => nope h)
  (fun _ _ => rfl) (fun _ _ => rfl) (fun _ _ _ => rfl) (fun _ _ _ => rfl) (fun _ _ => rfl) (fun _ _ _ => rfl) (fun _ _ => rfl)
theorem claim : ∀ e : E, Claim e
  | .nil => c_nil
  | .cons a b => c_cons (claim a) (claim b)
  | .int i => c_int i
  | .str s => c_str s
  | .bl b => c_bl b
  | .non => c_non
  | .var i => c_var i
  | .mov i => c_mov i
  | .bor i => c_bor i
  | .lend i => c_lend i
  | .glob x d => c_glob x d
  | .pv i => c_pv i
  | .pi a k => c_pi (claim a) (claim k)
  | .rdp a => c_rdp (claim a)
  | .qt a => c_qt (claim a)
  | .tup es => c_tup (claim es)
  | .lst es => c_lst (claim es)
  | .dic t es => c_dic t (claim es)
  | .neg a => c_neg (claim a)
  | .bin op a b => c_bin op (claim a) (claim b)
  | .cmp op a b => c_cmp op (claim a) (claim b)
  | .cmpQ op a b => c_cmpQ op (claim a) (claim b)
  | .cmpB op i b => c_cmpB op i (claim b)
  | .mthB m i es => c_mthB m i es
  | .chain o1 o2 a b c => c_chain o1 o2 (claim a) (claim b) (claim c)
  | .and_ a b => c_and_x (claim a) (claim b)
  | .or_ a b => c_or_x (claim a) (claim b)
  | .not_ a => c_not_x (claim a)
  | .ite c a b => c_ite (claim c) (claim a) (claim b)
  | .idx a i => c_idx (claim a) (claim i)
  | .slc a lo hi => c_slc (claim a) (claim lo) (claim hi)
  | .rev a => c_rev (claim a)
  | .call f es => c_call f (claim es)
  | .bi b es => c_bi b (claim es) (fun a z => match es, z with | .cons a' .nil, z => by cases z; exact claim a)
  | .mth m a es => c_mth m (claim a) (claim es)
  | .isI a ts => c_isI (claim a) ts
  | .mut m a es => c_mut m a (claim es)
  | .sdap i k v => c_sdap i k v
  | .lc w t it c el => c_lc w t (claim it) (claim c) (claim el)
  | .dc w t it k v => c_dc w t (claim it) (claim k) (claim v)
  | .irng1 a => c_irng1 (claim a)
  | .irng2 a b => c_irng2 (claim a) (claim b)
  | .irng3 a b c => c_irng3 a b c
  | .ienum a => c_ienum (claim a)
  | .izip a b => c_izip a b
  | .iitems a => c_iitems a
  | .ivals a => c_ivals a
  | .iseq a => c_iseq (claim a)
  | .eis cs => c_eis cs
  | .efld k => c_efld k
end PL

/-! PL25: the check of statements, and that it is sound. -/
namespace PL
open PySem L2
open PySem (PyData Str)
def notComp : Expr → Bool
  | .ListComp _ _ _ _ => false
  | .SetComp _ _ _ _ => false
  | .DictComp _ _ _ _ _ => false
  | _ => true
theorem notComp_ok {x : Expr} {t : Option Expr} {l : Nat} {env : PySem.Env} (h : notComp x = true) : swapsWith x t l env = pure false := by
  cases x <;> first | rfl | cases h
def notTup : Expr → Bool
  | .Tuple _ _ _ => false
  | _ => true
/-- a plain assignment's two sides -/
def asgC : Expr → Expr → Bool
  | .Name _ _, _ => true
  | .Subscript _ _ _, _ => true
  | .Tuple _ _ _, x => notTup x
  | _, _ => false
theorem asgC_ok {tg x : Expr} {env : PySem.Env} (h : asgC tg x = true) : swappedStores [tg] x env = pure none ∧ (assignEach [tg] env).map (·.2) = [assign tg env] := by
  cases tg with
  | Name _ _ => exact ⟨by cases x <;> rfl, rfl⟩
  | Subscript _ _ _ => exact ⟨by cases x <;> rfl, rfl⟩
  | Tuple es k p =>
    refine ⟨?_, rfl⟩
    cases x <;> first | rfl | cases h
  | _ => cases h
def Sx.hotG (G : Sx) (i : Nat) : Sx := { G with calm := false, fx := i :: G.fx, hot := some i }
/-- a, b = x, y: what must be seen for it -/
def parC (G : Sx) (i j : Nat) : Expr → Expr → Bool
  | .Tuple [.Name x px, .Name y py] _ _, .Tuple [a, b] _ _ => G.calm && decide (i ≠ j) && G.putL i x && G.putL j y && decide (i ∉ G.fx) && decide (j ∉ G.fx) && notStar a && notStar b && (py.line == px.line) && !(x == y) &&
      !(([a, b] : List Expr).all (foldedForSure 8)) && !(([a, b] : List Expr).all (constantsAlone 8)) && decide (G.sc.kind = .function)
  | _, _ => false
def parA : Expr → List Expr
  | .Tuple xs _ _ => xs
  | _ => []
def setC (G : Sx) (i : Nat) : Expr → Expr → Bool
  | .Name y py, .ListComp _ _ scope pos => G.putL i y && decide (i ∉ G.fx) && (py.line == pos.line) && !(scope.names.any fun (n, k) => n == y && (k == .local || k == .cell)) && decide (G.sc.kind = .function)
  | _, _ => false
def setCD (G : Sx) (i : Nat) : Expr → Expr → Bool
  | .Name y py, .DictComp _ _ _ scope pos => G.putL i y && decide (i ∉ G.fx) && (py.line == pos.line) && !(scope.names.any fun (n, k) => n == y && (k == .local || k == .cell)) && decide (G.sc.kind = .function)
  | _, _ => false
def raiC (G : Sx) (k : Nat) (m : Str) : Expr → Bool
  | .Call (.Name x _) [.Constant (.str t) _ _] [] _ => G.calm && decide (m = t) && decide (G.errs[k]? = some (x, [])) && G.gl x && dbg x
  | _ => false
def excC (G : Sx) (k : Nat) : Option Expr → Bool
  | some (.Name x _) => (match G.errs[k]? with
    | some p => decide (p.1 = x)
    | none => false) && G.gl x && dbg x
  | _ => false
/-- the target is a cell: no swapping -/
def celC (G : Sx) : Expr → Bool
  | .Name y _ => decide (G.sc.names.lookup y = some .cell)
  | _ => false
/-- two names, one of them a cell -/
def twoC (G : Sx) : Expr → Expr → Bool
  | .Tuple [.Name x _, .Name y _] _ _, .Tuple [_, _] _ _ => decide (G.sc.names.lookup x = some .cell) || decide (G.sc.names.lookup y = some .cell)
  | _, _ => false
theorem celC_ok {G : Sx} {tg x : Expr} {l : Nat} {env : PySem.Env} (hs : env.scope = G.sc) (h : celC G tg = true) : swapsWith x (some tg) l env = pure false := by
  cases tg with
  | Name y p =>
    have h : decide (G.sc.names.lookup y = some .cell) = true := h
    have k : env.kindOf y = some .cell := by unfold PySem.Env.kindOf; rw [hs]; exact of_decide_eq_true h
    have kk : (NameKind.cell == NameKind.local) = false := rfl
    unfold swapsWith
    cases x <;> first | rfl | (simp [k, kk]; done)
  | _ => cases h
theorem twoC_ok {G : Sx} {tg x : Expr} {env : PySem.Env} (hs : env.scope = G.sc) (h : twoC G tg x = true) : swappedStores [tg] x env = pure none ∧ (assignEach [tg] env).map (·.2) = [assign tg env] := by
  unfold twoC at h
  split at h
  · rename_i xn px yn py kt pt a b k2 pt2
    rw [Bool.or_eq_true, decide_eq_true_eq, decide_eq_true_eq] at h
    refine ⟨?_, rfl⟩
    have kx : env.kindOf xn = G.sc.names.lookup xn := by unfold PySem.Env.kindOf; rw [hs]
    have ky : env.kindOf yn = G.sc.names.lookup yn := by unfold PySem.Env.kindOf; rw [hs]
    have kk : (NameKind.cell == NameKind.local) = false := rfl
    have len : ∀ (f : Expr → Option Str), (f (.Name xn px) = none ∨ f (.Name yn py) = none) → ((([.Name xn px, .Name yn py] : List Expr).filterMap f).length != 2) = true := by
      intro f hf
      rcases hf with hf | hf
      · simp only [List.filterMap_cons, hf, List.filterMap_nil]
        cases f (.Name yn py) <;> rfl
      · simp only [List.filterMap_cons, hf, List.filterMap_nil]
        cases f (.Name xn px) <;> rfl
    unfold swappedStores
    simp only [List.length_cons, List.length_nil]
    split
    · rfl
    · split
      · rfl
      · rw [if_pos]
        rw [Bool.or_eq_true]
        left
        refine len _ ?_
        rcases h with h | h
        · left; simp [kx, h, kk]
        · right; simp [ky, h, kk]
  · cases h
def asgP (G : Sx) : Tg → E → Expr → Expr → Bool
  | .nms [i, j], .tup es, tg, x => parC G i j tg x && noL es && chkA G es (parA x)
  | .nm i, .lc w t it q el, tg, x => setC G i tg x && chkE G (.lc w t it q el) x
  | .nm i, .dc w t it k el, tg, x => setCD G i tg x && chkE G (.dc w t it k el) x
  | _, _, _, _ => false
def stoP (G : Sx) : E → E → Expr → Expr → Expr → Bool
  | .pi (.pv i) k, e, x, y, z => plainIx y && chkP G (.pv i) x && chkQ G k y && chkE G e z && notComp z
  | _, _, _, _, _ => false
def raiP (G : Sx) : Nat → E → Expr → Bool
  | k, .cons (.str m) .nil, x => raiC G k m x
  | _, _, _ => false
mutual
def chkS (G : Sx) : S → Stmt → Bool
  | .pass, .Pass _ => true
  | .brk, .Break _ => true
  | .cont, .Continue _ => true
  | .expr e, .Expr x _ => chkE G e x && notComp x
  | .asg t e, .Assign [tg] x _ => (G.okTg t tg && chkE G e x && (notComp x || celC G tg) && (asgC tg x || twoC G tg x)) || asgP G t e tg x
  | .sto a e, .Assign [.Subscript x y _] z _ => stoP G a e x y z
  | .aug op i e, .AugAssign (.Name x _) o y _ => isOp op o && (decide (op = .add) || decide (op = .sub)) && G.put i x && decide (i ∉ G.fx) && chkE G e y
  | .ret e, .Return (some x) _ => chkE G e x
  | .retN, .Return none _ => true
  | .ite t a b, .If x xs ys _ => chkE G t x && chkSs G a xs && chkSs G b ys
  | .for_ t it b, .For tg x body [] _ => G.calm && notSet x && G.okTg t tg && chkI G it tg x && chkSs G b body
  | .whl _ t b, .While x body [] _ => G.calm && chkE G t x && chkSs G b body
  | .rais k es, .Raise (some x) none _ => raiP G k es x
  | .try1 b k i h, .Try body [.ExceptHandler ty (some n) suite _] [] [] _ => G.calm && excC G k ty && decide (G.N[i]? = some n) && decide (G.sc.names.lookup n = some .local) && decide (i ∉ G.fx) && (G.errs.all fun p => p.2.isEmpty) && !suite.isEmpty && chkSs G b body && chkSs (G.hotG i) h suite
  | _, _ => false
termination_by structural s => s
def chkSs (G : Sx) : S → List Stmt → Bool
  | .nop, [] => true
  | .seq a b, st :: sts => chkS G a st && chkSs G b sts
  | _, _ => false
termination_by structural s => s
end
end PL

/-! PL26: the check of statements is sound. -/
namespace PL
open PySem L2
open PySem (PyData Str)
structure Gs (T : Tab) (ea : Nat → Addr) (G : Sx) (X : Cx) (W : WX) (C : PL.C) (n : Nat) : Prop extends Gd T ea G X W C n where
  ps : PassesOwn (model X.prog X.w) X.A X.env X.xe
  stk : X.stack = X.env :: X.outer
  fr : X.env.frame = some X.env.locals
  rai : ∀ k x, G.errs[k]? = some (x, []) → ∃ (bmB : List Value) (B newId initId : String), ExcBaseFacts B newId initId bmB ∧ PySem.W.excIn X.K (ea k) bmB newId = true ∧ PySem.W.keepIn X.K (.ref (ea k)) = true ∧ PySem.W.subIn X.K (.ref (ea k)) (.type "BaseException") = some true ∧ PySem.W.typeIn X.K (.ref (ea k)) = some (.type "type")
  exm : ∀ k k', (∃ p, G.errs[k]? = some p) → (∃ p, G.errs[k']? = some p) → PySem.W.exmOne X.K (.ref (ea k')) (.ref (ea k)) = some (T.sub k' k) ∧ PySem.W.kitOne X.K (.ref (ea k')) (.ref (ea k)) = some (T.sub k' k)
  isE : ∀ k, (∃ p, G.errs[k]? = some p) → ExcC X.K (ea k)
section
variable {T : Tab} {ea : Nat → Addr} {G : Sx} {X : Cx} {W : WX} {C : PL.C} {n : Nat}
theorem okNs_free : ∀ {is : List Nat} {es : List Expr}, Sx.okTg.okNs G is es = true → ∀ i ∈ is, i ∉ G.fx
  | [], _, _, i, h => by simp at h
  | j :: is, e :: es, h, i, hi => by
    cases e with
    | Name x p =>
      have h' : (G.put j x && decide (j ∉ G.fx) && Sx.okTg.okNs G is es) = true := h
      simp only [Bool.and_eq_true, decide_eq_true_eq] at h'
      rcases List.mem_cons.mp hi with rfl | hi
      · exact h'.1.2
      · exact okNs_free h'.2 i hi
    | _ => exact nope h
  | _ :: _, [], h, _, _ => nope h
theorem okTg_free {t : Tg} {tg : Expr} (h : G.okTg t tg = true) : ∀ i ∈ tgS t, i ∉ G.fx := by
  cases t with
  | nm i =>
    cases tg with
    | Name x p =>
      obtain ⟨_, h2⟩ := and4 (h : (G.put i x && decide (i ∉ G.fx)) = true)
      intro j hj
      simp only [tgS, List.mem_singleton] at hj
      subst hj
      exact of_decide_eq_true h2
    | _ => exact nope h
  | nms is =>
    cases tg with
    | Tuple es k p => exact okNs_free (and4 (h : (G.calm && Sx.okTg.okNs G is es) = true)).2
    | _ => exact nope h
theorem put_of (g : Gd T ea G X W C n) {i : Nat} {x : Str} (h : G.putL i x = true) : X.N[i]? = some x ∧ X.env.scope.names.lookup x = some .local := by
  unfold Sx.putL at h
  simp only [Bool.and_eq_true, decide_eq_true_eq] at h
  exact ⟨by rw [g.N]; exact h.1, by rw [g.sc]; exact h.2⟩
theorem parC_of {i j : Nat} {tg x : Expr} (h : parC G i j tg x = true) : ∃ (xn yn : Str) (px py pt pt2 : Pos) (kt k2 : Nat) (a b : Expr), tg = .Tuple [.Name xn px, .Name yn py] kt pt ∧ x = .Tuple [a, b] k2 pt2 ∧ (G.calm && decide (i ≠ j) && G.putL i xn && G.putL j yn && decide (i ∉ G.fx) && decide (j ∉ G.fx) && notStar a && notStar b && (py.line == px.line) && !(xn == yn) &&
      !(([a, b] : List Expr).all (foldedForSure 8)) && !(([a, b] : List Expr).all (constantsAlone 8)) && decide (G.sc.kind = .function)) = true := by
  unfold parC at h
  split at h
  · exact ⟨_, _, _, _, _, _, _, _, _, _, rfl, rfl, h⟩
  · exact nope h
theorem swap_par {env : PySem.Env} {xn yn : Str} {px py pt pt2 : Pos} {kt k2 : Nat} {a b : Expr} (hk : env.blockKind = .function) (k1 : env.kindOf xn = some .local) (k2' : env.kindOf yn = some .local) (sa : notStar a = true) (sb : notStar b = true) (ln : py.line = px.line) (hne : xn ≠ yn)
    (c11 : ([a, b] : List Expr).all (foldedForSure 8) = false) (c12 : ([a, b] : List Expr).all (constantsAlone 8) = false) : swappedStores [.Tuple [.Name xn px, .Name yn py] kt pt] (.Tuple [a, b] k2 pt2) env = pure (some [xn, yn]) := by
  have st : (([a, b] : List Expr).any fun | .Starred .. => true | _ => false) = false := by
    cases a <;> first | exact nope sa | (cases b <;> first | exact nope sb | rfl)
  have hb : (xn == yn) = false := by simpa using hne
  unfold swappedStores
  simp only [List.length_cons, List.length_nil, hk, st, c11, c12, List.filterMap_cons, List.filterMap_nil, List.head?_cons, Option.map_some, Option.getD_some, Expr.pos, k1, k2', ln]
  simp [List.eraseDups_cons, hne, hb, Ne.symm hne]
  intro z
  exfalso
  rcases z with z | z
  · cases a <;> first | exact nope sa | exact nope z
  · cases b <;> first | exact nope sb | exact nope z
theorem chkA_tail {a b : E} {x : Expr} {xs : List Expr} (h : chkA G (.cons a b) (x :: xs) = true) : chkA G b xs = true := by
  unfold chkA at h
  exact (and4 h).2
theorem chkA_nil {es : E} (h : chkA G es [] = true) : es = .nil := by
  cases es <;> first | rfl | exact nope h
theorem chkA_cons {es : E} {x : Expr} {xs : List Expr} (h : chkA G es (x :: xs) = true) : ∃ a b, es = .cons a b := by
  cases es <;> first | exact ⟨_, _, rfl⟩ | exact nope h
theorem chkA_two {es : E} {x y : Expr} (h : chkA G es [x, y] = true) : ∃ a b, es = .cons a (.cons b .nil) := by
  obtain ⟨a, r, rfl⟩ := chkA_cons h
  have h1 := chkA_tail h
  obtain ⟨b, r, rfl⟩ := chkA_cons h1
  have h2 := chkA_nil (chkA_tail h1)
  subst h2
  exact ⟨_, _, rfl⟩
theorem par_ok (g : Gs T ea G X W C n) {i j : Nat} {es : E} {tg x : Expr} {pos : Pos} (h : (parC G i j tg x && noL es && chkA G es (parA x)) = true) : PS X (.Assign [tg] x pos) (RS T ea X W C (.asg (.nms [i, j]) (.tup es))) := by
  obtain ⟨h, h3⟩ := and4 h
  obtain ⟨h1, h2⟩ := and4 h
  obtain ⟨xn, yn, px, py, pt, pt2, kt, k2, a, b, rfl, rfl, hc⟩ := parC_of h1
  simp only [Bool.and_eq_true, decide_eq_true_eq, Bool.not_eq_true'] at hc
  obtain ⟨⟨⟨⟨⟨⟨⟨⟨⟨⟨⟨⟨c1, c2⟩, c3⟩, c4⟩, c5⟩, c6⟩, c7⟩, c8⟩, c9⟩, c10⟩, c11⟩, c12⟩, c13⟩ := hc
  obtain ⟨p1, p2⟩ := put_of g.toGd c3
  obtain ⟨q1, q2⟩ := put_of g.toGd c4
  have h3 : chkA G es [a, b] = true := h3
  obtain ⟨e1, e2, rfl⟩ := chkA_two h3
  have hne : xn ≠ yn := fun z => by subst z; simp at c10
  have hk : X.env.blockKind = .function := by unfold PySem.Env.blockKind; rw [g.sc, c13]; rfl
  refine w_par (g.calm c1) g.nd p1 q1 c2 p2 q2 ((claim _).as g.toGd _ h3) (noL_cons h2).1 (noL_cons (noL_cons h2).2).1 (g.free fun k hk => ?_) (swap_par hk p2 q2 c7 c8 (eq_of_beq c9) hne c11 c12)
  simp only [List.mem_cons, List.not_mem_nil, or_false] at hk
  rcases hk with rfl | rfl
  · exact c5
  · exact c6
theorem set_ok (g : Gs T ea G X W C n) {i : Nat} {w : List Nat} {t : Tg} {it q el : E} {tg x : Expr} {pos : Pos} (h : (setC G i tg x && chkE G (.lc w t it q el) x) = true) : PS X (.Assign [tg] x pos) (RS T ea X W C (.asg (.nm i) (.lc w t it q el))) := by
  obtain ⟨h1, h2⟩ := and4 h
  cases tg with
  | Name y py =>
    cases x with
    | ListComp elt gens scope cp =>
      have h1 : (G.putL i y && decide (i ∉ G.fx) && (py.line == cp.line) && !(scope.names.any fun (n, k) => n == y && (k == .local || k == .cell)) && decide (G.sc.kind = .function)) = true := h1
      simp only [Bool.and_eq_true, decide_eq_true_eq, Bool.not_eq_true'] at h1
      obtain ⟨⟨⟨⟨c1, c2⟩, c3⟩, c4⟩, c5⟩ := h1
      obtain ⟨p1, p2⟩ := put_of g.toGd c1
      match gens, h2 with
      | [⟨tg, iter, ifs, k⟩], h2 =>
        obtain ⟨hk, ok, hf, ht, hs, hi, hg, hq, he, hc⟩ := lc_of h2
        subst hk
        have base := ps_setLc (spos := pos) (pos := cp) (py := py) (te := rd T ea (kf T X) noW C el) (tt := rdB T ea (kf T X) noW fun ρ => evT C q ρ) (g := gOf X.K t) (g.calm hc) g.nd p1 p2 (sw_true (by rw [g.sc]; exact c5) p2 c3 c4) ((claim it).it g.toGd tg iter hi) (by rw [g.N, g.sc]; exact blkOk_by ok)
          (fun s H Ca cl fp => okTg_ok (g.blk hc scope s H Ca cl fp) hg) (fun s H Ca cl fp => (claim q).te (g.blk hc scope s H Ca cl fp) ifs hq) (fun s H Ca cl fp => ((claim el).ex (g.blk hc scope s H Ca cl fp) elt he).1) (notSet_ok hs)
        rw [ownOf_snd] at base
        exact w_setE base (fun σ H Q z => s_lc_rd (g.free hf) ht z) (g.free fun j hj => by simp only [List.mem_singleton] at hj; subst hj; exact c2)
      | [], h2 => exact nope h2
      | ⟨_, _, _, _⟩ :: _ :: _, h2 => exact nope h2
    | _ => exact nope h1
  | _ => exact nope h1
theorem setD_ok (g : Gs T ea G X W C n) {i : Nat} {w : List Nat} {t : Tg} {it ky el : E} {tg x : Expr} {pos : Pos} (h : (setCD G i tg x && chkE G (.dc w t it ky el) x) = true) : PS X (.Assign [tg] x pos) (RS T ea X W C (.asg (.nm i) (.dc w t it ky el))) := by
  obtain ⟨h1, h2⟩ := and4 h
  cases tg with
  | Name y py =>
    cases x with
    | DictComp kx vx gens scope cp =>
      have h1 : (G.putL i y && decide (i ∉ G.fx) && (py.line == cp.line) && !(scope.names.any fun (n, k) => n == y && (k == .local || k == .cell)) && decide (G.sc.kind = .function)) = true := h1
      simp only [Bool.and_eq_true, decide_eq_true_eq, Bool.not_eq_true'] at h1
      obtain ⟨⟨⟨⟨c1, c2⟩, c3⟩, c4⟩, c5⟩ := h1
      obtain ⟨p1, p2⟩ := put_of g.toGd c1
      match gens, h2 with
      | [⟨tg, iter, [], k⟩], h2 =>
        obtain ⟨hk, ok, hf, ht, hs, hi, hg, hq, he, hc⟩ := dc_of h2
        subst hk
        have base := ps_setDc (spos := pos) (pos := cp) (py := py) (tk := rd T ea (kf T X) noW C ky) (tv := rd T ea (kf T X) noW C el) (tt := tYes) (ifs := []) (g := gOf X.K t) (g.calm hc) g.nd p1 p2 (sw_trueD (by rw [g.sc]; exact c5) p2 c3 c4) ((claim it).it g.toGd tg iter hi) (by rw [g.N, g.sc]; exact blkOk_by ok)
          (fun s H Ca cl fp => okTg_ok (g.blk hc scope s H Ca cl fp) hg) (fun _ _ _ _ _ => pts_nil) (fun s H Ca cl fp => ((claim ky).ex (g.blk hc scope s H Ca cl fp) kx hq).1) (fun s H Ca cl fp => ((claim el).ex (g.blk hc scope s H Ca cl fp) vx he).1) (notSet_ok hs)
        rw [ownOf_snd] at base
        exact w_setE base (fun σ H Q z => s_dc_rd (g.free hf) ht z) (g.free fun j hj => by simp only [List.mem_singleton] at hj; subst hj; exact c2)
      | [⟨_, _, _ :: _, _⟩], h2 => exact nope h2
      | [], h2 => exact nope h2
      | ⟨_, _, [], _⟩ :: _ :: _, h2 => exact nope h2
      | ⟨_, _, _ :: _, _⟩ :: _ :: _, h2 => exact nope h2
    | _ => exact nope h1
  | _ => exact nope h1
theorem asg_ok (g : Gs T ea G X W C n) {t : Tg} {e : E} {tg x : Expr} {pos : Pos} (h : ((G.okTg t tg && chkE G e x && (notComp x || celC G tg) && (asgC tg x || twoC G tg x)) || asgP G t e tg x) = true) : PS X (.Assign [tg] x pos) (RS T ea X W C (.asg t e)) := by
  rw [Bool.or_eq_true] at h
  rcases h with h | h
  · simp only [Bool.and_eq_true] at h
    obtain ⟨⟨⟨h1, h2⟩, h3⟩, h4⟩ := h
    have hs : swapsWithSole [tg] x pos.line X.env = pure false := by
      rw [Bool.or_eq_true] at h3
      rw [swapsWithSole]
      rcases h3 with h3 | h3
      · exact notComp_ok h3
      · exact celC_ok g.sc h3
    rw [Bool.or_eq_true] at h4
    rcases h4 with h4 | h4
    · obtain ⟨q1, q2⟩ := asgC_ok (env := X.env) h4
      exact w_asg ((claim e).ex g.toGd x h2).1 (okTg_ok g.toGd h1) (g.free (okTg_free h1)) hs q1 q2
    · obtain ⟨q1, q2⟩ := twoC_ok g.sc h4
      exact w_asg ((claim e).ex g.toGd x h2).1 (okTg_ok g.toGd h1) (g.free (okTg_free h1)) hs q1 q2
  · unfold asgP at h
    split at h
    · exact par_ok g h
    · exact set_ok g h
    · exact setD_ok g h
    · exact nope h
theorem sole_ok {t x : Expr} {l : Nat} {env : PySem.Env} (h : notComp x = true) : swapsWithSole [t] x l env = pure false := by
  rw [swapsWithSole]
  exact notComp_ok h
theorem sub_asg {x y : Expr} {p2 : Pos} {env : PySem.Env} (h : plainIx y = true) : ∀ v, assign (.Subscript x y p2) env v = (do
      let ov ← holding [v] (eval x env)
      let iv ← holding [v, ov] (eval y env)
      standAt p2
      holding [v, ov, iv] (setItem ov iv v)
      release [v, ov, iv] []) := by
  cases y <;> first | exact nope h | (intro v; rfl)
theorem sto_ok (g : Gs T ea G X W C n) {a e : E} {x y z : Expr} {p2 pos : Pos} (h : stoP G a e x y z = true) : PS X (.Assign [.Subscript x y p2] z pos) (RS T ea X W C (.sto a e)) := by
  unfold stoP at h
  split at h
  · simp only [Bool.and_eq_true] at h
    obtain ⟨⟨⟨⟨h1, h2⟩, h3⟩, h4⟩, h5⟩ := h
    exact w_sto g.un1 ((claim _).ex g.toGd _ h4).1 ((claim _).pa g.toGd _ h2) ((claim _).qu g.toGd _ h3) (sub_asg h1) (sole_ok h5) (asgC_ok rfl).1
  · exact nope h
theorem rai_ok (g : Gs T ea G X W C n) {k : Nat} {es : E} {x : Expr} {pos : Pos} (h : raiP G k es x = true) : PS X (.Raise (some x) none pos) (RS T ea X W C (.rais k es)) := by
  unfold raiP at h
  split at h
  · unfold raiC at h
    split at h
    · simp only [Bool.and_eq_true, decide_eq_true_eq] at h
      obtain ⟨⟨⟨⟨h1, rfl⟩, h3⟩, h4⟩, h5⟩ := h
      obtain ⟨bmB, B, newId, initId, r1, r2, r3, r4, r5⟩ := g.rai _ _ h3
      have hm := g.cls _ _ h3
      exact w_raise (g.calm h1) g.tk (by rw [g.errs]; exact h3) r1 r2 hm r3 (raises_own r4 r5) (g.gl h4) (dbg_ok h5)
    · exact nope h
  · exact nope h
structure ClaimS (s : S) : Prop where
  st : ∀ {T : Tab} {ea : Nat → Addr} {G : Sx} {X : Cx} {W : WX} {C : PL.C} {n : Nat} (_ : Gs T ea G X W C n) (x : Stmt), chkS G s x = true → PS X x (RS T ea X W C s)
  sq : ∀ {T : Tab} {ea : Nat → Addr} {G : Sx} {X : Cx} {W : WX} {C : PL.C} {n : Nat} (_ : Gs T ea G X W C n) (xs : List Stmt), chkSs G s xs = true → PSs X xs (RS T ea X W C s)
theorem claim_s {s : S} (h : ∀ {T : Tab} {ea : Nat → Addr} {G : Sx} {X : Cx} {W : WX} {C : PL.C} {n : Nat} (_ : Gs T ea G X W C n) (x : Stmt), chkS G s x = true → PS X x (RS T ea X W C s)) (h1 : ∀ G xs, chkSs G s xs = false) : ClaimS s :=
  ⟨h, fun g xs z => nope ((h1 _ _).symm.trans z)⟩
/-- within a try's body -/
theorem Gs.tr (g : Gs T ea G X W C n) (hc : G.calm = true) {W' : WX} {pn : List (Addr × Obj)} {xe : Value → Shared → Prop} (tk : Takes (X.tr pn xe) W') (hp : PassesOwn (model X.prog X.w) X.A X.env xe) : Gs T ea G (X.tr pn xe) W' C n :=
  ⟨⟨g.sc, g.N, g.nd, g.calm, g.fx, g.room, g.un, tk, g.call, g.sub, g.tbl, g.errs, g.fns, g.cls, g.glo, g.blt, g.hotc, g.fnok, fun i hi => by rw [g.hotc hc] at hi; cases hi⟩, hp, g.stk, g.fr, g.rai, g.exm, g.isE⟩
/-- within a handler -/
theorem Gs.hot_ (g : Gs T ea G X W C n) {i k : Nat} {a : Addr} {oe : Obj} {ds : List PL.D} {pn : List (Addr × Obj)} (hk : ∃ p, G.errs[k]? = some p) (hz : Zc (.ref (ea k)) none oe) (hv : ∃ vs, oe.data = .fields vs) :
    Gs (T.hot i a) ea (G.hotG i) (X.suite a ((a, oe) :: pn)) noW { C with cur := some (k, ds) } n :=
  ⟨⟨g.sc, g.N, g.nd, fun z => nope z, fun p hp => by
      rcases List.mem_cons.mp hp with rfl | hp
      · exact List.mem_cons_self
      · exact List.mem_cons_of_mem _ (g.fx p hp), fun z => nope z, g.un, takes_none5, g.call, g.sub, g.tbl, g.errs, fun z => nope z, g.cls, g.glo, g.blt, fun z => nope z, g.fnok, fun j hj => by
      have hj : some i = some j := hj
      cases hj
      exact ⟨a, k, ds, rfl, List.mem_cons_self, call_isE (g.isE k hk) hz hv, fun c p hc => by rw [show ({ C with cur := some (k, ds) } : PL.C).sub = C.sub from rfl, g.sub]; exact (g.exm c k ⟨p, hc⟩ hk).2⟩⟩, .never, g.stk, g.fr, g.rai, g.exm, g.isE⟩
theorem try_ok (g : Gs T ea G X W C n) {b h : S} (cb : ClaimS b) (ch : ClaimS h) {k i : Nat} {ty : Option Expr} {nm : Str} {body suite : List Stmt} {p pos : Pos}
    (hh : (G.calm && excC G k ty && decide (G.N[i]? = some nm) && decide (G.sc.names.lookup nm = some .local) && decide (i ∉ G.fx) && (G.errs.all fun p => p.2.isEmpty) && !suite.isEmpty && chkSs G b body && chkSs (G.hotG i) h suite) = true) :
    PS X (.Try body [.ExceptHandler ty (some nm) suite p] [] [] pos) (RS T ea X W C (.try1 b k i h)) := by
  simp only [Bool.and_eq_true, decide_eq_true_eq] at hh
  obtain ⟨⟨⟨⟨⟨⟨⟨⟨h1, h2⟩, h3⟩, h4⟩, h5⟩, h6⟩, h7⟩, h8⟩, h9⟩ := hh
  cases suite with
  | nil => exact nope h7
  | cons b0 suite =>
  cases ty with
  | none => exact nope h2
  | some ty =>
  cases ty with
  | Name x np =>
    have h2 : ((match G.errs[k]? with
      | some p => decide (p.1 = x)
      | none => false) && G.gl x && dbg x) = true := h2
    simp only [Bool.and_eq_true] at h2
    obtain ⟨⟨q1, q2⟩, q3⟩ := h2
    cases he : G.errs[k]? with
    | none => rw [he] at q1; exact nope q1
    | some pe =>
      rw [he] at q1
      have e : pe.1 = x := of_decide_eq_true q1
      have hm := g.cls k pe he
      rw [e] at hm
      have nof : ∀ (k' : Nat) (p : Str × List Str), G.errs[k']? = some p → p.2 = [] := fun k' p hp => by
        have := List.all_eq_true.mp h6 p (List.mem_of_getElem? hp)
        simpa using this
      refine w_try g.stk g.fr g.nd (by rw [g.N]; exact h3) (by show X.env.scope.names.lookup nm = _; rw [g.sc]; exact h4) ⟨g.gl q2, dbg_ok q3, .inl hm⟩ g.tk (g.free fun j hj => by simp only [List.mem_singleton] at hj; subst hj; exact h5) (fun k' hk' => ?_) (fun W' pn xe tk hp => cb.sq (g.tr h1 tk hp) body h8) (fun a oe k' ds d pn hk' hd hz hv => ?_)
      · rw [g.sub]
        rw [g.errs] at hk'
        exact (g.exm k k' ⟨pe, he⟩ hk').1
      · obtain ⟨fs, y, e1, e2⟩ := hd
        rw [g.errs] at e1
        have e3 := e2 (nof k' _ e1)
        subst e3
        exact ch.sq (g.hot_ ⟨_, e1⟩ hz hv) (b0 :: suite) h9
  | _ => exact nope h2
end
theorem claimS : ∀ s : S, ClaimS s
  | .nop => ⟨fun g x h => nope h, fun {T ea G X W C n} g xs h => by cases xs with | nil => exact w_nop | cons _ _ => exact nope h⟩
  | .seq a b => ⟨fun g x h => nope h, fun {T ea G X W C n} g xs h => by
      cases xs with
      | nil => exact nope h
      | cons st sts =>
        have h' : (chkS G a st && chkSs G b sts) = true := h
        rw [Bool.and_eq_true] at h'
        exact w_seq ((claimS a).st g st h'.1) ((claimS b).sq g sts h'.2)⟩
  | .pass => claim_s (fun g x h => by cases x with | Pass _ => exact w_pass | _ => exact nope h) (fun _ _ => rfl)
  | .brk => claim_s (fun g x h => by cases x with | Break _ => exact w_brk | _ => exact nope h) (fun _ _ => rfl)
  | .cont => claim_s (fun g x h => by cases x with | Continue _ => exact w_cont | _ => exact nope h) (fun _ _ => rfl)
  | .expr e => claim_s (fun {T ea G X W C n} g x h => by
      cases x with
      | Expr x p =>
        have h' : (chkE G e x && notComp x) = true := h
        rw [Bool.and_eq_true] at h'
        exact w_expr ((claim e).ex g.toGd x h'.1).1 (notComp_ok h'.2)
      | _ => exact nope h) (fun _ _ => rfl)
  | .asg t e => claim_s (fun {T ea G X W C n} g x h => by
      cases x with
      | Assign tgs x p =>
        match tgs, h with
        | [tg], h => exact asg_ok g h
        | [], h => exact nope h
        | _ :: _ :: _, h => exact nope h
      | _ => exact nope h) (fun _ _ => rfl)
  | .sto a e => claim_s (fun {T ea G X W C n} g x h => by
      cases x with
      | Assign tgs z p =>
        match tgs, h with
        | [tg], h =>
          cases tg with
          | Subscript x y p2 => exact sto_ok g h
          | _ => exact nope h
        | [], h => exact nope h
        | tg :: _ :: _, h => cases tg <;> exact nope h
      | _ => exact nope h) (fun _ _ => rfl)
  | .sto2 a b e => claim_s (fun g x h => nope h) (fun _ _ => rfl)
  | .aug op i e => claim_s (fun {T ea G X W C n} g x h => by
      cases x with
      | AugAssign tg o y p =>
        cases tg with
        | Name x p2 =>
          have h' : (isOp op o && (decide (op = .add) || decide (op = .sub)) && G.put i x && decide (i ∉ G.fx) && chkE G e y) = true := h
          simp only [Bool.and_eq_true, Bool.or_eq_true, decide_eq_true_eq] at h'
          obtain ⟨⟨⟨⟨h1, h2⟩, h3⟩, h4⟩, h5⟩ := h'
          have e1 : opOf op = o := of_decide_eq_true h1
          subst e1
          obtain ⟨p1, p2, p3⟩ := g.put h3
          exact w_aug h2 g.nd p1 p2 p3 (g.free fun j hj => by simp only [List.mem_singleton] at hj; subst hj; exact h4) ((claim e).ex g.toGd y h5).1
        | _ => exact nope h
      | _ => exact nope h) (fun _ _ => rfl)
  | .augs op a e => claim_s (fun g x h => nope h) (fun _ _ => rfl)
  | .ret e => claim_s (fun {T ea G X W C n} g x h => by
      cases x with
      | Return v p =>
        cases v with
        | none => exact nope h
        | some x => exact w_ret ((claim e).ex g.toGd x h).1
      | _ => exact nope h) (fun _ _ => rfl)
  | .retN => claim_s (fun {T ea G X W C n} g x h => by
      cases x with
      | Return v p =>
        cases v with
        | none => exact w_retN
        | some x => exact nope h
      | _ => exact nope h) (fun _ _ => rfl)
  | .ite t a b => claim_s (fun {T ea G X W C n} g x h => by
      cases x with
      | If x xs ys p =>
        have h' : (chkE G t x && chkSs G a xs && chkSs G b ys) = true := h
        rw [Bool.and_eq_true, Bool.and_eq_true] at h'
        exact w_if ((claim t).ex g.toGd x h'.1.1).2.1 ((claimS a).sq g xs h'.1.2) ((claimS b).sq g ys h'.2)
      | _ => exact nope h) (fun _ _ => rfl)
  | .for_ t it b => claim_s (fun {T ea G X W C n} g x h => by
      cases x with
      | For tg x body els p =>
        cases els with
        | cons _ _ => exact nope h
        | nil =>
          have h' : (G.calm && notSet x && G.okTg t tg && chkI G it tg x && chkSs G b body) = true := h
          simp only [Bool.and_eq_true] at h'
          obtain ⟨⟨⟨⟨h1, h2⟩, h3⟩, h4⟩, h5⟩ := h'
          exact w_for g.ps (g.calm h1) ((claim it).it g.toGd tg x h4) (okTg_ok g.toGd h3) (g.free (okTg_free h3)) ((claimS b).sq g body h5) (notSet_ok h2)
      | _ => exact nope h) (fun _ _ => rfl)
  | .whl f t b => claim_s (fun {T ea G X W C n} g x h => by
      cases x with
      | While x body els p =>
        cases els with
        | cons _ _ => exact nope h
        | nil =>
          have h' : (G.calm && chkE G t x && chkSs G b body) = true := h
          rw [Bool.and_eq_true, Bool.and_eq_true] at h'
          exact w_whl g.ps ((claim t).ex g.toGd x h'.1.2).2.1 ((claimS b).sq g body h'.2)
      | _ => exact nope h) (fun _ _ => rfl)
  | .rais k es => claim_s (fun {T ea G X W C n} g x h => by
      cases x with
      | Raise x c p =>
        cases x with
        | none => exact nope h
        | some x =>
          cases c with
          | some _ => exact nope h
          | none => exact rai_ok g h
      | _ => exact nope h) (fun _ _ => rfl)
  | .try1 b k i hd => claim_s (fun {T ea G X W C n} g x h => by
      cases x with
      | Try body hs els fin p =>
        match hs, els, fin, h with
        | [.ExceptHandler ty (some nm) suite p2], [], [], h => exact try_ok g (claimS b) (claimS hd) h
        | [.ExceptHandler ty none suite p2], _, _, h => exact nope h
        | [.ExceptHandler ty (some nm) suite p2], _ :: _, _, h => exact nope h
        | [.ExceptHandler ty (some nm) suite p2], [], _ :: _, h => exact nope h
        | [], _, _, h => exact nope h
        | .ExceptHandler _ none _ _ :: _ :: _, _, _, h => exact nope h
        | .ExceptHandler _ (some _) _ _ :: _ :: _, _, _, h => exact nope h
      | _ => exact nope h) (fun _ _ => rfl)
  | .try2 b k1 n1 h1 k2 n2 h2 => claim_s (fun g x h => nope h) (fun _ _ => rfl)
end PL

/-! PL27: defs whose texts pass the check keep their promises. -/
namespace PL
open PySem L2
open PySem (PyData Str)
section
variable {K : Frag} {F H : Hp}
/-- lent locals as they stand at the end -/
theorem envs_outs : ∀ {is : List Nat} {σ : L2.St} {ρ : Env} {c : Cnt} {outs : List (Nat × D)} {vl : List V}, Envs K F H σ ρ c → is.Nodup → outsOf ρ is = some outs → vl.length = is.length → (∀ p ∈ is.zip vl, σ[p.1]? = some (some p.2)) → ∃ cu, (∀ a, cu a ≤ c a) ∧ Rpl K F H vl outs cu
  | [], σ, ρ, c, outs, vl, E, nd, e, hl, hv => by
    simp only [outsOf, Option.some.injEq] at e
    subst e
    cases vl with
    | nil => exact ⟨zro, fun _ => Nat.zero_le _, .nil⟩
    | cons _ _ => simp at hl
  | i :: is, σ, ρ, c, outs, vl, E, nd, e, hl, hv => by
    cases vl with
    | nil => simp at hl
    | cons v vl =>
      rw [List.nodup_cons] at nd
      simp only [outsOf] at e
      split at e
      · rename_i o os g1 g2
        cases e
        obtain ⟨n, d⟩ := o
        obtain ⟨v', c1, c2, h1, h2, h3, rfl⟩ := Envs.take E g1
        have ev := hv (i, v) (by simp)
        have e3 : v' = v := by rw [ev] at h1; exact (Option.some.inj (Option.some.inj h1)).symm
        subst e3
        have g2' : outsOf (setE ρ i none) is = some os := by
          rw [← g2]
          have : ∀ (js : List Nat), i ∉ js → outsOf (setE ρ i none) js = outsOf ρ js := by
            intro js
            induction js with
            | nil => intro _; rfl
            | cons j js ih =>
              intro hj
              simp only [List.mem_cons, not_or] at hj
              simp only [outsOf]
              rw [getE_set ρ i j none hj.1, ih hj.2]
          exact this is nd.1
        obtain ⟨cu, le, R⟩ := envs_outs h3 nd.2 g2' (by simpa using hl) fun p hp => hv p (by simp [hp])
        exact ⟨add c1 cu, fun a => by have := le a; unfold add; omega, .cons h2 R⟩
      · cases e
theorem envs_start : ∀ {vs : List V} {as : List (Nat × D)} {c : Cnt}, Rpl K F H vs as c → ∀ (m : Nat), Envs K F H (vs.map some ++ List.replicate m none) (as.map some ++ List.replicate m none) c
  | _, _, _, .nil, m => by
    simp only [List.map_nil, List.nil_append]
    induction m with
    | zero => exact .nil
    | succ m ih => rw [List.replicate_succ, List.replicate_succ]; exact .no ih
  | _, _, _, .cons h r, m => .so h (envs_start r m)
end
theorem getAll_zip : ∀ {is : List Nat} {vs vl : List V}, getAll vs is = some vl → vl.length = is.length ∧ ∀ p ∈ is.zip vl, vs[p.1]? = some p.2
  | [], _, _, h => by simp only [getAll, Option.some.injEq] at h; subst h; exact ⟨rfl, fun p hp => by simp at hp⟩
  | i :: is, vs, vl, h => by
    simp only [getAll] at h
    split at h
    · rename_i v r h1 h2
      cases h
      obtain ⟨q1, q2⟩ := getAll_zip h2
      refine ⟨by simp [q1], fun p hp => ?_⟩
      simp only [List.zip_cons_cons, List.mem_cons] at hp
      rcases hp with rfl | hp
      · exact h1
      · exact q2 p hp
    · cases h
theorem getAll_some : ∀ {is : List Nat} {vs : List V}, (∀ i ∈ is, i < vs.length) → ∃ vl, getAll vs is = some vl
  | [], vs, _ => ⟨[], rfl⟩
  | i :: is, vs, h => by
    obtain ⟨vl, e⟩ := getAll_some (is := is) (vs := vs) fun j hj => h j (by simp [hj])
    have hi := h i (by simp)
    refine ⟨vs[i] :: vl, ?_⟩
    simp only [getAll, e, List.getElem?_eq_getElem hi]
/-- what is known of the module -/
structure Mf (ea : Nat → Addr) (sub : Nat → Nat → Bool) (errs : List (Str × List Str)) (gls : List (Str × D)) (K : PySem.W.Frag) (mg : Str → Option Value) : Prop where
  cls : ∀ k p, errs[k]? = some p → mg p.1 = some (.ref (ea k))
  glo : ∀ p ∈ gls, ∃ u v, mg p.1 = some u ∧ RelV v u ∧ ∀ H, Dd K H v p.2
  blt : ∀ x ∈ bltNames, mg x = none
  rai : ∀ k x, errs[k]? = some (x, []) → ∃ (bmB : List Value) (B newId initId : String), ExcBaseFacts B newId initId bmB ∧ PySem.W.excIn K (ea k) bmB newId = true ∧ PySem.W.keepIn K (.ref (ea k)) = true ∧ PySem.W.subIn K (.ref (ea k)) (.type "BaseException") = some true ∧ PySem.W.typeIn K (.ref (ea k)) = some (.type "type")
  exm : ∀ k k', (∃ p, errs[k]? = some p) → (∃ p, errs[k']? = some p) → PySem.W.exmOne K (.ref (ea k')) (.ref (ea k)) = some (sub k' k) ∧ PySem.W.kitOne K (.ref (ea k')) (.ref (ea k)) = some (sub k' k)
  isE : ∀ k, (∃ p, errs[k]? = some p) → ExcC K (ea k)
/-- the check of a def -/
def gOfDef (tbl : List Fn) (names : List Str) (errs : List (Str × List Str)) (gls : List (Str × D)) (F : Fn) (N : List Str) (sc : Scope) : Sx := ⟨sc, N, true, F.lent, none, tbl, names, errs, gls, true⟩
def scopeC (N ps : List Str) (sc : Scope) : Bool := decide (sc.kind = .function) && !sc.isCoroutine && !sc.isGenerator && decide N.Nodup && decide (N.take ps.length = ps) && (ps.all fun x => decide (sc.names.lookup x = some .local) || decide (sc.names.lookup x = some .cell)) && (sc.names.all fun y => decide (y.2 ≠ .free))
theorem scopeC_ok {N ps : List Str} {sc : Scope} (h : scopeC N ps sc = true) : FnScope N ps sc := by
  unfold scopeC at h
  simp only [Bool.and_eq_true, decide_eq_true_eq, Bool.not_eq_true', List.all_eq_true, Bool.or_eq_true] at h
  obtain ⟨⟨⟨⟨⟨⟨h1, h2⟩, h3⟩, h4⟩, h5⟩, h6⟩, h7⟩ := h
  exact ⟨h1, h2, h3, h4, h5, h6, h7⟩
def chkF (tbl : List Fn) (names : List Str) (errs : List (Str × List Str)) (gls : List (Str × D)) (F : Fn) (N ps : List Str) (sc : Scope) (body : List Stmt) : Bool :=
  scopeC N ps sc && decide (F.ar = ps.length) && decide (F.slots = N.length) && decide (F.ar ≤ F.slots) && decide F.lent.Nodup && decide (∀ i ∈ F.lent, i < F.ar) && chkSs (gOfDef tbl names errs gls F N sc) F.body body
theorem spF_fx {T : Tab} {ea : Nat → Addr} {K : Frag} {n f : Nat} {l : List (Nat × V)} : spF { T with fx := l } ea K n f = spF T ea K n f := by
  funext vs H Q E
  unfold spF
  have : ∀ r cv H lent vs Q E R, spEnd { T with fx := l } ea K r cv H lent vs Q E R = spEnd T ea K r cv H lent vs Q E R := by
    intro r cv H lent vs Q E R
    cases R <;> rfl
  simp only [this]
theorem fnF_fx {T : Tab} {ea : Nat → Addr} {P : Program} {w : World} {K : Frag} {mg : Str → Option Value} {base : Heap} {n f : Nat} {x : Str} {l : List (Nat × V)} (h : FnF T ea P w K mg base n f x) : FnF { T with fx := l } ea P w K mg base n f x := by
  unfold FnF at *
  rw [spF_fx]
  exact h
section
variable {T : Tab} {ea : Nat → Addr} {P : Program} {w : World} {K : PySem.W.Frag} {mg : Str → Option Value} {base : Heap} {names : List Str} {gls : List (Str × D)}
/-- one def, one level up -/
theorem def_ok {n f : Nat} {x : Str} {st : Stmt} {N ps : List Str} {Fn : Fn} {a : Addr} {fd : FuncData} (M : Mf ea T.sub T.errs gls K mg) (hfx : T.fx = []) (hF : T.tbl[f]? = some Fn) (D : FunD K x x (defArgs st) (defBody st) (defScope st) [] [] a fd) (hc : chkF T.tbl names T.errs gls Fn N ps (defScope st) (defBody st) = true)
    (ih : ∀ (f : Nat) (x : Str), names[f]? = some x → FnF T ea P w K mg base n f x) : FnOk P w K mg base (L2.CX P w) (n + 1) a fd ps (spF T ea K (n + 1) f) := by
  unfold chkF at hc
  simp only [Bool.and_eq_true, decide_eq_true_eq] at hc
  obtain ⟨⟨⟨⟨⟨⟨h1, h2⟩, h3⟩, h4⟩, h5⟩, h6⟩, h7⟩ := hc
  have S := scopeC_ok h1
  refine D.ok S (fun vs H Q E h => ?_) (fun cdv A outer s H vs Q E hr h => ?_)
  · obtain ⟨Fn', as, cv, r, e1, e2, _⟩ := h
    rw [hF] at e1
    cases e1
    rw [e2, h2]
  · obtain ⟨Fn', as, cv, r, e1, e2, R, lin, hex, fin⟩ := h
    rw [hF] at e1
    cases e1
    obtain ⟨vl, hvl⟩ := getAll_some (is := Fn.lent) (vs := vs) fun i hi => by rw [e2]; exact h6 i hi
    obtain ⟨q1, q2⟩ := getAll_zip hvl
    let T1 : Tab := { T with fx := Fn.lent.zip vl }
    let X := cxOf (L2.CX P w) P w K mg base N x (defScope st) a cdv A outer s H E
    let W : WX := fun cls d _ H => E cls d H
    let C : PL.C := ⟨run T.tbl T.sub n, T.sub, none⟩
    have G : Gs T1 ea (gOfDef T.tbl names T.errs gls Fn N (defScope st)) X W C n :=
      ⟨⟨rfl, rfl, S.nd, fun _ => rfl, fun p hp => (List.of_mem_zip hp).1, fun _ => hr, by have := hr.un; show (A.deeper _).units + 65 < cLine; omega, takes_of rfl rfl rfl rfl, rfl, rfl, rfl, rfl, fun _ f x hx => fnF_fx (ih f x hx), M.cls, M.glo, M.blt, fun _ => rfl, fun _ _ => rfl, fun i hi => nomatch hi⟩,
        passes_of rfl, rfl, rfl, M.rai, M.exm, M.isE⟩
    refine ⟨_, (claimS Fn.body).sq G _ h7, ?_⟩
    have has : as.length = vs.length := R.len.symm
    have st0 : StR (kf T1 X) r (L2.start N vs) H (startE Fn.slots as) cv := by
      refine ⟨fun p hp => ?_, ?_, lin, hex⟩
      · have := q2 p hp
        unfold L2.start
        have hlt : p.1 < vs.length := by
          by_cases z : p.1 < vs.length
          · exact z
          · rw [List.getElem?_eq_none (by omega)] at this; cases this
        rw [List.getElem?_append_left (by rw [List.length_map]; exact hlt), List.getElem?_map, this]
        rfl
      · unfold L2.start startE
        rw [has, h3]
        exact envs_start R _
    refine ⟨startE Fn.slots as, cv, r, st0, ?_⟩
    unfold run at fin
    rw [hF] at fin
    simp only at fin
    rw [if_pos (by rw [has, e2]; simp)] at fin
    -- how the lent ones stand at an end
    have outs : ∀ {σ' : L2.St} {H' : Hp} {ρ' : Env} {c' r' : Cnt} {os : List (Nat × PL.D)}, StR (kf T1 X) r' σ' H' ρ' c' → outsOf ρ' Fn.lent = some os → ∃ cu, (∀ b, cu b ≤ c' b) ∧ Rpl K (hid H' (add c' r')) H' vl os cu := fun {σ' H' ρ' c' r' os} S' e => envs_outs S'.env h5 e q1 fun p hp => S'.fxs p hp
    cases e : PL.ex C Fn.body (startE Fn.slots as) with
    | bad => rw [e] at fin; exact fin.elim
    | bk ρ' => rw [e] at fin; exact fin.elim
    | ct ρ' => rw [e] at fin; exact fin.elim
    | nx ρ' =>
      rw [e] at fin
      simp only [retC, PL.fin] at fin
      cases eo : outsOf ρ' Fn.lent with
      | none => rw [eo] at fin; exact fin.elim
      | some os =>
        rw [eo] at fin
        intro σ' H' c' S' L' k'
        obtain ⟨cu, le, Ro⟩ := outs S' eo
        have l : Lk H' (add c' r) H' (add cu r) := Lk.less fun b => by have := le b; unfold add; omega
        refine fin .non H' cu vl hvl ?_ (fun b => by have := S'.lin b; have := le b; omega) (L'.trans l) k'
        have z := Rpl.cons (K := K) (F := hid H' (add cu r)) (H := H') (n := 9) (Rp.at_ (d := .none) rfl fun _ => .non) (Rpl.mono l Ro fun _ _ => rfl)
        rw [zro_add] at z
        exact z
    | rt v ρ' =>
      rw [e] at fin
      simp only [retC, PL.fin] at fin
      cases eo : outsOf ρ' Fn.lent with
      | none => rw [eo] at fin; exact fin.elim
      | some os =>
        rw [eo] at fin
        intro σ' u H' m
        obtain ⟨c1, cu, S', Ru, L', k'⟩ := m
        obtain ⟨co, le, Ro⟩ := outs S' eo
        have l : Lk H' (add c1 (add r cu)) H' (add (add cu co) r) := Lk.less fun b => by have := le b; unfold add; omega
        refine fin u H' (add cu co) vl hvl ?_ (fun b => by have := S'.lin b; have := le b; unfold add at *; omega) (L'.trans l) k'
        exact Rpl.cons (Rp.mono l Ru.one1 fun _ _ => rfl) (Rpl.mono l Ro fun _ _ => rfl)
    | exc kk ds ρ' =>
      rw [e] at fin
      simp only [retC, PL.fin] at fin
      cases eo : outsOf ρ' Fn.lent with
      | none => rw [eo] at fin; exact fin.elim
      | some os =>
        rw [eo] at fin
        intro σ' cls dx H' px
        obtain ⟨c', S', er, L', k'⟩ := px
        obtain ⟨cu, le, Ro⟩ := outs S' eo
        have l : Lk H' (add c' r) H' (add cu r) := Lk.less fun b => by have := le b; unfold add; omega
        exact fin cls dx H' cu vl hvl (Rpl.mono l Ro fun _ _ => rfl) (fun b => by have := S'.lin b; have := le b; omega) (er.mono l) (L'.trans l) k'
/-- a def that is left out: nothing is promised of it -/
def stub (ar : Nat) : Fn := ⟨ar, ar, [], .expr .nil⟩
theorem stub_bad {tbl : List Fn} {sub : Nat → Nat → Bool} {n f ar : Nat} {as : List (Nat × PL.D)} (h : tbl[f]? = some (stub ar)) : run tbl sub n f as = .bad := by
  cases n with
  | zero => rfl
  | succ n =>
    unfold run
    rw [h]
    simp only
    split
    · rfl
    · rfl
theorem bad_ok {n k f : Nat} {ps : List Str} {a : Addr} {fd : FuncData} (h : ∀ as, run T.tbl T.sub n f as = .bad) : FnOk P w K mg base (L2.CX P w) k a fd ps (spF T ea K n f) := by
  have no : ∀ vs H Q E, ¬ spF T ea K n f vs H Q E := fun vs H Q E ⟨Fn, as, cv, r, _, _, _, _, _, z⟩ => by rw [h] at z; exact z
  exact ⟨fun vs H Q E z => absurd z (no _ _ _ _), fun A outer s H args us vs Q E _ _ _ _ z => absurd z (no _ _ _ _)⟩
/-- every def, at every level -/
theorem defs_ok (M : Mf ea T.sub T.errs gls K mg) (hfx : T.fx = [])
    (hd : ∀ (f : Nat) (x : Str), names[f]? = some x → ∃ a fd ps Fn, mg x = some (.ref a) ∧ PySem.W.keepIn K (.ref a) = true ∧ Binds K fd ps [] ∧ T.tbl[f]? = some Fn ∧ ((∃ ar, Fn = stub ar) ∨ ∃ st N, FunD K x x (defArgs st) (defBody st) (defScope st) [] [] a fd ∧ chkF T.tbl names T.errs gls Fn N ps (defScope st) (defBody st) = true)) :
    ∀ (n f : Nat) (x : Str), names[f]? = some x → FnF T ea P w K mg base n f x
  | 0, f, x, hx => by
    obtain ⟨a, fd, ps, Fn, h1, h2, h3, h4, _⟩ := hd f x hx
    exact ⟨a, fd, ps, h1, h2, h3, bad_ok fun as => rfl⟩
  | n + 1, f, x, hx => by
    obtain ⟨a, fd, ps, Fn, h1, h2, h3, h4, h5⟩ := hd f x hx
    refine ⟨a, fd, ps, h1, h2, h3, ?_⟩
    rcases h5 with ⟨ar, rfl⟩ | ⟨st, N, D, hc⟩
    · exact bad_ok fun as => stub_bad h4
    · exact def_ok M hfx h4 D hc (defs_ok M hfx hd n)
end
end PL

/-! PL28: the head's facts, by a check; a law's end. -/
namespace PL
open PySem L2
open PySem (PyData Str)
/-! ### a Hook with a free check -/
abbrev AlP : Type := Bool × List He.FnW
def obsP (mb : Frag → Bool) (fn : List He.DefD) (K : Frag) : AlP := (mb K && fn.all fun d => d.ok K, fn.map fun d => He.fnW K d.at_)
def valP (fn : List He.DefD) : AlP := (true, fn.map He.DefD.val)
def SaysP (mb : Frag → Bool) (fn : List He.DefD) (K : Frag) : Prop := obsP mb fn K = valP fn
def obsPG (n : Nat) (mb : Frag → Bool) (fn : List He.DefD) (g : Addr → Option Obj) : AlP := obsP mb fn (He.frG g (He.asD g n))
def hookP (n : Nat) (mb : Frag → Bool) (fn : List He.DefD) : PySem.W.Hook where
  α := AlP
  obs := fun s => obsPG n mb fn s.heap.get?
  val := fun _ => valP fn
  says := fun _ h => ∃ K : PySem.W.Frag, K.In h ∧ SaysP mb fn K
  of := fun _ _ e => ⟨_, He.frG_in, e⟩
  keeps := fun _ _ _ ⟨K, hK, c⟩ k => ⟨K, PySem.W.Frag.In.keeps hK k, c⟩
theorem obsPG_eq {n : Nat} {mb : Frag → Bool} {fn : List He.DefD} {g : Addr → Option Obj} {s : Shared} (h : ∀ a, g a = s.heap.get? a) : obsPG n mb fn g = (hookP n mb fn).obs s := by
  have e : g = s.heap.get? := funext h
  rw [e] <;> rfl
theorem SaysP.fact {mb : Frag → Bool} {fn : List He.DefD} {K : Frag} (c : SaysP mb fn K) : mb K = true :=
  (He.ba (show (mb K && fn.all fun d => d.ok K) = true from congrArg (fun z : AlP => z.1) c)).1
theorem SaysP.def_ {mb : Frag → Bool} {fn : List He.DefD} {K : Frag} (c : SaysP mb fn K) (i : Nat) {d : He.DefD} (h : fn[i]? = some d) : ∃ fd, FunD K d.name d.qual d.params d.body d.scope (d.dvs K) (d.kws K) (He.fAd K d.at_) fd := by
  have c2 := (He.ba (show (mb K && fn.all fun d => d.ok K) = true from congrArg (fun z : AlP => z.1) c)).2
  have e : fn.map (fun d => He.fnW K d.at_) = fn.map He.DefD.val := congrArg (fun z : AlP => z.2) c
  have e2 : (fn.map fun d => He.fnW K d.at_)[i]? = (fn.map He.DefD.val)[i]? := by rw [e]
  rw [List.getElem?_map, List.getElem?_map, h] at e2
  exact He.DefD.funD (Option.some.inj e2) (List.all_eq_true.mp c2 d (List.mem_of_getElem? h))
/-! ### the module's facts -/
def excCB (K : Frag) (D : Addr) : Bool := He.eqO (PySem.W.findIn K (.ref D) "__getattribute__") (some (some (.builtin "BaseException.__getattribute__"))) && He.eqO (PySem.W.findIn K (.ref D) "__getattr__") (some none) && decide (PySem.W.subIn K (.ref D) (.type "BaseException") = some true) && PySem.W.hasDictIn K D &&
  He.eqO (PySem.W.findIn K (.ref D) "__class__") (some (some (.builtin "object.__class__"))) && He.eqO (PySem.W.specialIn K (.builtin "object.__class__") "__get__") (some (some (.builtin "getset_descriptor.__get__"))) && decide (PySem.W.takesIn K (.builtin "object.__class__") = some true) && decide (PySem.W.mroIn K D (.type "object") = some true)
theorem excCB_ok {K : Frag} {D : Addr} (h : excCB K D = true) : ExcC K D := by
  unfold excCB at h
  simp only [Bool.and_eq_true, decide_eq_true_eq] at h
  obtain ⟨⟨⟨⟨⟨⟨⟨h1, h2⟩, h3⟩, h4⟩, h5⟩, h6⟩, h7⟩, h8⟩ := h
  exact ⟨He.eqO_ok h1, He.eqO_ok h2, h3, h4, He.eqO_ok h5, He.eqO_ok h6, h7, h8⟩
def errN (errs : List (Str × List Str)) (k : Nat) : Str := ((errs[k]?).map (·.1)).getD ""
def eaOf (K : Frag) (errs : List (Str × List Str)) (k : Nat) : Addr := He.ga K (errN errs k)
def strsD : List D → Option (List Str)
  | [] => some []
  | .str x :: r => (strsD r).map (x :: ·)
  | _ => none
def glB (K : Frag) (p : Str × D) : Bool := match p.2 with
  | .int i => (He.Fa.int p.1 i).ok K
  | .tuple ds => (match strsD ds with
    | some xs => (He.Fa.glo p.1).ok K && He.tupB K p.1 (xs.map He.Dv.str)
    | none => false)
  | _ => false
def mfB (sub : Nat → Nat → Bool) (errs : List (Str × List Str)) (gls : List (Str × D)) (names : List Str) (K : Frag) : Bool :=
  (bltNames.all fun x => (He.Fa.free x).ok K) && (gls.all fun p => glB K p) && (errs.all fun p => (He.Fa.glo p.1).ok K && (He.Fa.exc p.1).ok K && excCB K (He.ga K p.1)) &&
  ((List.range errs.length).all fun k => (List.range errs.length).all fun k' => decide (PySem.W.exmOne K (.ref (eaOf K errs k')) (.ref (eaOf K errs k)) = some (sub k' k)) && decide (PySem.W.kitOne K (.ref (eaOf K errs k')) (.ref (eaOf K errs k)) = some (sub k' k))) &&
  (names.all fun x => (He.Fa.glo x).ok K && decide (He.fAd K (x, none) = He.ga K x))
theorem strs_dd {K : Frag} {H : Hp} : ∀ {ds : List D} {xs : List Str}, strsD ds = some xs → DdAll K H (xs.map V.str) ds ∧ ds.all strA = true
  | [], xs, h => by simp only [strsD, Option.some.injEq] at h; subst h; exact ⟨.nil, rfl⟩
  | d :: ds, xs, h => by
    cases d <;> simp only [strsD, reduceCtorEq, Option.map_eq_some_iff] at h
    obtain ⟨r, h1, rfl⟩ := h
    obtain ⟨q1, q2⟩ := strs_dd h1
    exact ⟨.cons (.str _) q1, by rw [List.all_cons, q2]; rfl⟩
theorem mf_ok {K : Frag} {h : Heap} {mg : Str → Option Value} {sub : Nat → Nat → Bool} {errs : List (Str × List Str)} {gls : List (Str × D)} {names : List Str} (X : K.In h) (G : h.Ns mainGlobals mg) (c : mfB sub errs gls names K = true) :
    Mf (eaOf K errs) sub errs gls K mg ∧ ∀ x ∈ names, mg x = some (.ref (He.ga K x)) ∧ He.fAd K (x, none) = He.ga K x := by
  unfold mfB at c
  simp only [Bool.and_eq_true, List.all_eq_true] at c
  obtain ⟨⟨⟨⟨c1, c2⟩, c3⟩, c4⟩, c5⟩ := c
  have nm : ∀ {k : Nat} {p : Str × List Str}, errs[k]? = some p → eaOf K errs k = He.ga K p.1 := fun {k p} h => by unfold eaOf errN; rw [h]; rfl
  refine ⟨⟨fun k p hp => ?_, fun p hp => ?_, fun x hx => He.free_ok X G (c1 x hx), fun k x hk => ?_, fun k k' hk hk' => ?_, fun k hk => ?_⟩, fun x hx => ⟨He.glo_ok X G (c5 x hx).1, of_decide_eq_true (c5 x hx).2⟩⟩
  · rw [nm hp]
    exact He.glo_ok X G (c3 p (List.mem_of_getElem? hp)).1.1
  · have := c2 p hp
    obtain ⟨x, d⟩ := p
    unfold glB at this
    cases d <;> (try exact nope this)
    · obtain ⟨t, e⟩ := He.int_ok X G this
      exact ⟨_, .int _, e, ⟨t, rfl⟩, fun H => .int _⟩
    · rename_i ds
      simp only at this
      cases hs : strsD ds with
      | none => rw [hs] at this; cases this
      | some xs =>
        rw [hs] at this
        simp only [Bool.and_eq_true] at this
        refine ⟨_, .ref (He.ga K x), He.glo_ok X G this.1, rfl, fun H => ?_⟩
        have t := He.tupB_ok this.2 H
        have e : (xs.map He.Dv.str).map (He.Dv.v K) = xs.map V.str := by rw [List.map_map]; rfl
        rw [e] at t
        obtain ⟨q1, q2⟩ := strs_dd (K := K) (H := H) hs
        exact .tup t (.inr q2) q1
  · have e := c3 _ (List.mem_of_getElem? hk)
    obtain ⟨r1, r2, r3, r4⟩ := He.exc_ok e.1.2
    rw [nm hk]
    exact ⟨_, _, _, _, PySem.F.excBase_ValueError, r1, r2, r3, r4⟩
  · obtain ⟨p, hp⟩ := hk
    obtain ⟨p', hp'⟩ := hk'
    have l1 : k < errs.length := (List.getElem?_eq_some_iff.mp hp).1
    have l2 : k' < errs.length := (List.getElem?_eq_some_iff.mp hp').1
    have := c4 k (List.mem_range.mpr l1) k' (List.mem_range.mpr l2)
    simpa using this
  · obtain ⟨p, hp⟩ := hk
    rw [nm hp]
    exact excCB_ok (c3 p (List.mem_of_getElem? hp)).2
/-! ### a law's end -/
theorem ddInts' {K : Frag} {H : Hp} (ns : List Int) : DdAll K H (ns.map V.int) (ns.map PyData.int) ∧ (ns.map PyData.int).all intA = true := ⟨ddInts ns H, by simp [intA]⟩
theorem law_sp {T : Tab} {ea : Nat → Addr} {K : Frag} {n f : Nat} {Fn : Fn} (hF : T.tbl[f]? = some Fn) (har : Fn.ar = 1) (hl : Fn.lent = []) {H : Hp} {a : Addr} {ns : List Int} (hS : SqL K H a (ns.map V.int))
    (hr : ∃ v, run T.tbl T.sub n f [(0, .list (ns.map PyData.int))] = .ok v [] ∧ v.2 = .bool true) : spF T ea K n f [.ref a] H (fun v _ => v = .bl true) fun _ _ _ => False := by
  obtain ⟨v, e, hv⟩ := hr
  obtain ⟨q1, q2⟩ := ddInts' (K := K) (H := H) ns
  have hz : hid H (add zro zro) = H := by funext b; rfl
  refine ⟨Fn, [(0, .list (ns.map PyData.int))], zro, zro, hF, by rw [har]; rfl, ?_, fun _ => Nat.zero_le _, fun b hb => absurd hb (Nat.lt_irrefl 0), ?_⟩
  · have z : Rpl K (hid H (add zro zro)) H [.ref a] [(0, .list (ns.map PyData.int))] (add zro zro) := .cons (.sh (by rw [hz]; exact .lst hS (.inr q2) q1)) .nil
    exact z
  · rw [e, hl]
    intro u H' cu vl hvl R _ _ _
    simp only [getAll, Option.some.injEq] at hvl
    subst hvl
    obtain ⟨n', d⟩ := v
    simp only at hv
    subst hv
    exact (Rp.view hid_sub R.one1 fun _ _ _ e => e : Dd K H' u (.bool true)).bl'
theorem cx_false {P : Program} {w : World} : ∀ (H : Hp) (s : Shared) (e : Value) (s' : Shared), L2.CX P w [] H s (fun _ _ _ => False) e s' → False := fun H s e s' ⟨_, _, _, _, _, _, _, _, _, _, _, _, z⟩ => z
end PL
namespace L2
open PySem PySem.Spec PyProof.Rows
/-- a law's end: what a def may let out is told of each world (after HandS.HeadEnd's walk_ofE) -/
theorem walk_ofW {l : PySem.W.OpenLaw} {n k : Nat} {q : Program} {loose : List Str} {XP : (Str → Option Value) → Heap → Prop} {YP : World → Heap → Prop} {d : DefRec} {CX : World → CXT} {x : Str}
    (hn : l.most = some n) (hn2 : n ≤ sizeLine) (hdf : d.params.defaults = []) (hr : Room k callerA)
    (F : ∀ (w : World) (mg : Str → Option Value) (fa : Addr) (h : Heap), YP w h → h.Ns mainGlobals mg → mg d.name = some (.ref fa) →
      ∃ (K : PySem.W.Frag) (fd : FuncData) (sp : Sp), K.In h ∧ (∀ (s : Shared) (u : Value), BindsTo s fd ⟨[u], []⟩ [(x, u)]) ∧
        (∀ (H : Hp) (a : Addr) (ns : List Int), ns.length ≤ n → Only H → SqL K H a (ns.map V.int) → sp [.ref a] H (fun v _ => v = .bl true) fun _ _ _ => False) ∧
        ∀ base : Heap, K.In base → base.Ns mainGlobals mg → FnOk l.prog w K mg base (CX w) k fa fd [x] sp)
    (hCX : ∀ (w : World) (H : Hp) (s : Shared) (e : Value) (s' : Shared), CX w [] H s (fun _ _ _ => False) e s' → False) :
    PySem.W.WalkO q loose XP YP l.row.toRowW d [] (fun f vs => PySem.call f vs) := by
  refine Att.attach_call hn hdf fun w s₀ s₁ mg mb fa o pm cd doc a vs ns G Y ho hd hcd hmg hobj hints hlen hg => ?_
  obtain ⟨K, fd, sp, KX, hb, hsp, hF⟩ := F w mg fa _ Y G.T.g hmg
  exact law_call KX G.T.g G.T.b G.T.builtins G.T.nolimit hg hobj hints (Nat.le_trans hlen hn2) hr hF hb (fun H hO hS => hsp H a ns hlen hO hS) fun H e s' => hCX w H s₁ e s'
end L2

/-! PL30: running a text of the small language with letters: one rewriting rule a construct, what comes next as a continuation. -/
namespace PL
open PySem L2
open PySem (PyData Str)
/-- what is held is not looked into by simp -/
inductive Hold {α : Sort u} (a : α) : Type
  | mk
/-- a computation that comes to nothing is served by no continuation -/
def stR {α : Type} (K : R α → Prop) : R α → Prop
  | .bad => False
  | r => K r
def stO (K : O → Prop) : O → Prop
  | .bad => False
  | r => K r
@[simp] theorem stR_ok {α : Type} {K : R α → Prop} {a : α} {ρ : Env} : stR K (.ok a ρ) = K (.ok a ρ) := rfl
@[simp] theorem stR_exc {α : Type} {K : R α → Prop} {c : Nat} {ds : List D} {ρ : Env} : stR K (.exc c ds ρ) = K (.exc c ds ρ) := rfl
@[simp] theorem stR_bad {α : Type} {K : R α → Prop} : stR K .bad = False := rfl
@[simp] theorem stO_nx {K : O → Prop} {ρ : Env} : stO K (.nx ρ) = K (.nx ρ) := rfl
@[simp] theorem stO_rt {K : O → Prop} {v : Nat × D} {ρ : Env} : stO K (.rt v ρ) = K (.rt v ρ) := rfl
@[simp] theorem stO_bk {K : O → Prop} {ρ : Env} : stO K (.bk ρ) = K (.bk ρ) := rfl
@[simp] theorem stO_ct {K : O → Prop} {ρ : Env} : stO K (.ct ρ) = K (.ct ρ) := rfl
@[simp] theorem stO_exc {K : O → Prop} {c : Nat} {ds : List D} {ρ : Env} : stO K (.exc c ds ρ) = K (.exc c ds ρ) := rfl
@[simp] theorem stO_bad {K : O → Prop} : stO K .bad = False := rfl
def wpe (c : C) (e : E) (ρ : Env) (K : R (Nat × D) → Prop) (_ : Hold K := .mk) : Prop := stR K (ev c e ρ)
def wps (c : C) (e : E) (ρ : Env) (K : R (List (Nat × D)) → Prop) (_ : Hold K := .mk) : Prop := stR K (evs c e ρ)
def wpt (c : C) (e : E) (ρ : Env) (K : R Bool → Prop) (_ : Hold K := .mk) : Prop := stR K (evT c e ρ)
def wpi (c : C) (e : E) (ρ : Env) (K : R (List D) → Prop) (_ : Hold K := .mk) : Prop := stR K (evI c e ρ)
def wpx (c : C) (s : S) (ρ : Env) (K : O → Prop) (_ : Hold K := .mk) : Prop := stO K (ex c s ρ)
structure wpc (r : CR) (K : CR → Prop) (_ : Hold K := .mk) : Prop where
  h : K r
/-- an optional value -/
def wpo {α : Type} (o : Option α) (y : α → Prop) (n : Prop) (_ : Hold (y, n) := .mk) : Prop := match o with
  | some a => y a
  | none => n
theorem wpo_some {α : Type} (a : α) (y : α → Prop) (n : Prop) : wpo (some a) y n = y a := rfl
theorem wpo_none {α : Type} (y : α → Prop) (n : Prop) : wpo none y n = n := rfl
theorem wpo_ite {α : Type} (p : Prop) [Decidable p] (h : p) (o o' : Option α) (y : α → Prop) (n : Prop) : wpo (if p then o else o') y n = wpo o y n := by rw [if_pos h]
/-- what comes next behind a value; errors go on -/
def kb {α β : Type} (K : R β → Prop) (f : α → Env → Prop) : R α → Prop
  | .ok a ρ => f a ρ
  | .exc c ds ρ => K (.exc c ds ρ)
  | .bad => False
def ke {α : Type} (K : O → Prop) (f : α → Env → Prop) : R α → Prop
  | .ok a ρ => f a ρ
  | .exc c ds ρ => K (.exc c ds ρ)
  | .bad => False
def kq (K : O → Prop) (f : Env → Prop) : O → Prop
  | .nx ρ => f ρ
  | .rt v ρ => K (.rt v ρ)
  | .bk ρ => K (.bk ρ)
  | .ct ρ => K (.ct ρ)
  | .exc c ds ρ => K (.exc c ds ρ)
  | .bad => False
section
variable {α β : Type} {K : R β → Prop} {L : O → Prop} {f : α → Env → Prop} {g : Env → Prop} {a : α} {ρ : Env} {c : Nat} {ds : List D} {v : Nat × D}
theorem kb_ok : kb K f (.ok a ρ) = f a ρ := rfl
theorem kb_exc : kb K f (.exc c ds ρ) = K (.exc c ds ρ) := rfl
theorem ke_ok : ke L f (.ok a ρ) = f a ρ := rfl
theorem ke_exc : ke L f (.exc c ds ρ) = L (.exc c ds ρ) := rfl
theorem kq_nx : kq L g (.nx ρ) = g ρ := rfl
theorem kq_rt : kq L g (.rt v ρ) = L (.rt v ρ) := rfl
theorem kq_bk : kq L g (.bk ρ) = L (.bk ρ) := rfl
theorem kq_ct : kq L g (.ct ρ) = L (.ct ρ) := rfl
theorem kq_exc : kq L g (.exc c ds ρ) = L (.exc c ds ρ) := rfl
end
theorem kb_bind {α β : Type} {r : R α} {k : α → Env → R β} {K : R β → Prop} : stR K (r.bind k) = stR (kb K (fun a ρ => stR K (k a ρ))) r := by cases r <;> rfl
theorem ke_toO {α : Type} {r : R α} {k : α → Env → O} {K : O → Prop} : stO K (r.toO k) = stR (ke K (fun a ρ => stO K (k a ρ))) r := by cases r <;> rfl
theorem kbc {α β : Type} {K : R β → Prop} {f g : α → Env → Prop} {r : R α} (h : ∀ a ρ, f a ρ = g a ρ) : stR (kb K f) r = stR (kb K g) r := by
  have e : f = g := funext fun a => funext fun ρ => h a ρ
  rw [e]
theorem kec {α : Type} {K : O → Prop} {f g : α → Env → Prop} {r : R α} (h : ∀ a ρ, f a ρ = g a ρ) : stR (ke K f) r = stR (ke K g) r := by
  have e : f = g := funext fun a => funext fun ρ => h a ρ
  rw [e]
/-- a local's value as it is read -/
def wvar (v : Option (Nat × D)) (i : Nat) (ρ : Env) (K : R (Nat × D) → Prop) (_ : Hold (ρ, K) := .mk) : Prop := match v with
  | some (n, d) => if atm d then K (.ok (9, d) ρ) else K (.ok (0, d) (setE ρ i (some (0, d))))
  | none => False
def wtru (v : Nat × D) (T F : Prop) (B : Prop) : Prop := match v.2 with
  | .bool true => T
  | .bool false => F
  | _ => B
/-- two ways by a truth value -/
def way (b : Bool) (T F : Prop) (_ : Hold (T, F) := .mk) : Prop := (b = true → T) ∧ (b = false → F)
theorem way_t {T F : Prop} : way true T F = T := by simp [way]
theorem way_f {T F : Prop} : way false T F = F := by simp [way]
theorem way_dt {p : Prop} [Decidable p] {T F : Prop} (h : p) : way (decide p) T F = T := by simp [way, h]
theorem way_df {p : Prop} [Decidable p] {T F : Prop} (h : ¬p) : way (decide p) T F = F := by simp [way, h]
def wbool (v : Nat × D) (k : Bool → Prop) (B : Prop) (_ : Hold (k, B) := .mk) : Prop := match v.2 with
  | .bool b => k b
  | _ => B
theorem wbool_b {n : Nat} {b : Bool} {k : Bool → Prop} {B : Prop} : wbool (n, .bool b) k B = k b := rfl
section
variable {c : C} {ρ : Env} {K : R (Nat × D) → Prop}
theorem we_int {i : Int} : wpe c (.int i) ρ K = K (.ok (9, .int i) ρ) := rfl
theorem we_str {s : Str} : wpe c (.str s) ρ K = K (.ok (9, .str s) ρ) := rfl
theorem we_bl {b : Bool} : wpe c (.bl b) ρ K = K (.ok (9, .bool b) ρ) := rfl
theorem we_non : wpe c .non ρ K = K (.ok (9, .none) ρ) := rfl
theorem we_var {i : Nat} : wpe c (.var i) ρ K = wvar (getE ρ i) i ρ K := by
  unfold wpe wvar ev
  cases getE ρ i with
  | none => rfl
  | some v => obtain ⟨n, d⟩ := v; simp only; split <;> rfl
theorem we_mov {i : Nat} : wpe c (.mov i) ρ K = wpo (getE ρ i) (fun v => K (.ok v (setE ρ i none))) False := by
  unfold wpe wpo ev
  cases getE ρ i <;> rfl
theorem we_glob {x : Str} {d : D} : wpe c (.glob x d) ρ K = K (.ok (sv d) ρ) := rfl
theorem we_rdp {a : E} : wpe c (.rdp a) ρ K = wpo (evP a ρ) (fun q => wpo (getE ρ q.1) (fun v => wpo (getP v.2 q.2) (fun e => way (atm e) (K (.ok (9, e) ρ)) False) False) False) False := by
  unfold wpe ev
  simp only [wpo, way]
  cases h : evP a ρ with
  | none => rfl
  | some q =>
    obtain ⟨i, ks⟩ := q
    simp only
    cases h2 : getE ρ i with
    | none => rfl
    | some v =>
      obtain ⟨n, d⟩ := v
      simp only
      cases h3 : getP d ks with
      | none => rfl
      | some e =>
        simp only
        cases atm e <;> simp
theorem we_qt {a : E} : wpe c (.qt a) ρ K = wpo (evQ a ρ) (fun e => way (atm e) (K (.ok (9, e) ρ)) False) False := by
  unfold wpe ev
  simp only [wpo, way]
  cases h : evQ a ρ with
  | none => rfl
  | some e =>
    simp only
    cases atm e <;> simp
theorem we_tup {es : E} : wpe c (.tup es) ρ K = wps c es ρ (kb K fun vs ρ1 => K (.ok (cdep vs + 1, .tuple (vs.map (·.2))) ρ1)) := kb_bind
theorem we_lst {es : E} : wpe c (.lst es) ρ K = wps c es ρ (kb K fun vs ρ1 => K (.ok (cdep vs + 1, .list (vs.map (·.2))) ρ1)) := kb_bind
def wint (v : Nat × D) (k : Int → Prop) (B : Prop) (_ : Hold (k, B) := .mk) : Prop := match v.2 with
  | .int i => k i
  | _ => B
theorem wint_i {n : Nat} {i : Int} {k : Int → Prop} {B : Prop} : wint (n, .int i) k B = k i := rfl
theorem we_neg {a : E} : wpe c (.neg a) ρ K = wpe c a ρ (kb K fun v ρ1 => wint v (fun i => K (.ok (9, .int (-i)) ρ1)) False) := by
  refine kb_bind.trans ?_
  unfold wpe
  refine kbc fun v ρ1 => ?_
  obtain ⟨n, d⟩ := v
  unfold wint
  cases d <;> rfl
theorem k_ofO {α : Type} {o : Option α} {ρ : Env} {K : R α → Prop} : stR K (ofO o ρ) = wpo o (fun x => K (.ok x ρ)) False := by cases o <;> rfl
theorem we_bin {op : Op} {a b : E} : wpe c (.bin op a b) ρ K = wpe c a ρ (kb K fun v ρ1 => wpe c b ρ1 (kb K fun w ρ2 => wpo (opD op v w) (fun x => K (.ok x ρ2)) False)) := by
  refine kb_bind.trans ?_
  unfold wpe
  refine kbc fun v ρ1 => ?_
  refine kb_bind.trans ?_
  refine kbc fun w ρ2 => ?_
  exact k_ofO
theorem k_map {o : Option Bool} {ρ : Env} {K : R (Nat × D) → Prop} : stR K (ofO (o.map fun k => (9, PyData.bool k)) ρ) = wpo o (fun x => K (.ok (9, .bool x) ρ)) False := by cases o <;> rfl
theorem we_cmp {op : Cp} {a b : E} : wpe c (.cmp op a b) ρ K = wpe c a ρ (kb K fun v ρ1 => wpe c b ρ1 (kb K fun w ρ2 => wpo (cmpD op v.2 w.2) (fun x => K (.ok (9, .bool x) ρ2)) False)) := by
  refine kb_bind.trans ?_
  unfold wpe
  refine kbc fun v ρ1 => ?_
  refine kb_bind.trans ?_
  refine kbc fun w ρ2 => ?_
  exact k_map
theorem we_cmpQ {op : Cp} {a q : E} : wpe c (.cmpQ op a q) ρ K = wpe c a ρ (kb K fun v ρ1 => wpo (evQ q ρ1) (fun d => wpo (cmpD op v.2 d) (fun x => K (.ok (9, .bool x) ρ1)) False) False) := by
  refine kb_bind.trans ?_
  unfold wpe
  refine kbc fun v ρ1 => ?_
  cases h : evQ q ρ1 with
  | none => rfl
  | some d => exact k_map
theorem we_cmpB {op : Cp} {i : Nat} {b : E} : wpe c (.cmpB op i b) ρ K = wpo (getE ρ i) (fun v => wpe c b (setE ρ i none) (kb K fun w ρ1 => wpo (cmpD op v.2 w.2) (fun x => K (.ok (9, .bool x) (setE ρ1 i (some v)))) False)) False := by
  have e : ev c (.cmpB op i b) ρ = match getE ρ i with
    | some v => (ev c b (setE ρ i none)).bind fun w ρ1 => ofO ((cmpD op v.2 w.2).map fun k => (9, .bool k)) (setE ρ1 i (some v))
    | none => .bad := rfl
  show stR K (ev c (.cmpB op i b) ρ) = _
  rw [e]
  cases h : getE ρ i with
  | none => rfl
  | some v =>
    refine kb_bind.trans ?_
    unfold wpo wpe
    simp only
    refine kbc fun w ρ1 => ?_
    exact k_map
theorem we_chain {o1 o2 : Cp} {a b d : E} : wpe c (.chain o1 o2 a b d) ρ K = wpe c a ρ (kb K fun v ρ1 => wpe c b ρ1 (kb K fun w ρ2 => wpo (cmpD o1 v.2 w.2) (fun t => way t (wpe c d ρ2 (kb K fun u ρ3 => wpo (cmpD o2 w.2 u.2) (fun x => K (.ok (9, .bool x) ρ3)) False)) (K (.ok (9, .bool false) ρ2))) False)) := by
  refine kb_bind.trans ?_
  unfold wpe
  refine kbc fun v ρ1 => ?_
  refine kb_bind.trans ?_
  refine kbc fun w ρ2 => ?_
  cases h : cmpD o1 v.2 w.2 with
  | none => rfl
  | some t =>
    cases t with
    | false => simp [wpo, way]
    | true =>
      simp only [wpo, way, true_implies, reduceCtorEq, false_implies, and_true]
      refine kb_bind.trans ?_
      refine kbc fun u ρ3 => ?_
      exact k_map
theorem we_and {a b : E} : wpe c (.and_ a b) ρ K = wpe c a ρ (kb K fun v ρ1 => wbool v (fun t => way t (wpe c b ρ1 K) (K (.ok (9, .bool false) ρ1))) False) := by
  refine kb_bind.trans ?_
  unfold wpe
  refine kbc fun v ρ1 => ?_
  obtain ⟨n, d⟩ := v
  unfold wbool
  cases d <;> (try rfl)
  rename_i t
  cases t <;> simp [way]
theorem we_or {a b : E} : wpe c (.or_ a b) ρ K = wpe c a ρ (kb K fun v ρ1 => wbool v (fun t => way t (K (.ok (9, .bool true) ρ1)) (wpe c b ρ1 K)) False) := by
  refine kb_bind.trans ?_
  unfold wpe
  refine kbc fun v ρ1 => ?_
  obtain ⟨n, d⟩ := v
  unfold wbool
  cases d <;> (try rfl)
  rename_i t
  cases t <;> simp [way]
theorem we_not {a : E} : wpe c (.not_ a) ρ K = wpe c a ρ (kb K fun v ρ1 => wbool v (fun t => K (.ok (9, .bool (!t)) ρ1)) False) := by
  refine kb_bind.trans ?_
  unfold wpe
  refine kbc fun v ρ1 => ?_
  obtain ⟨n, d⟩ := v
  unfold wbool
  cases d <;> rfl
theorem we_ite {t a b : E} : wpe c (.ite t a b) ρ K = wpe c t ρ (kb K fun v ρ1 => wbool v (fun t => way t (wpe c a ρ1 K) (wpe c b ρ1 K)) False) := by
  refine kb_bind.trans ?_
  unfold wpe
  refine kbc fun v ρ1 => ?_
  obtain ⟨n, d⟩ := v
  unfold wbool
  cases d <;> (try rfl)
  rename_i t
  cases t <;> simp [way]
theorem we_idx {a i : E} : wpe c (.idx a i) ρ K = wpe c a ρ (kb K fun v ρ1 => wpe c i ρ1 (kb K fun k ρ2 => wpo (idxD v.2 k.2) (fun d => K (.ok (if atm d then 9 else v.1 - 1, d) ρ2)) False)) := by
  refine kb_bind.trans ?_
  unfold wpe
  refine kbc fun v ρ1 => ?_
  refine kb_bind.trans ?_
  refine kbc fun k ρ2 => ?_
  cases idxD v.2 k.2 <;> rfl
theorem we_slc {a lo hi : E} : wpe c (.slc a lo hi) ρ K = wpe c a ρ (kb K fun v ρ1 => wps c lo ρ1 (kb K fun l ρ2 => wpo (optI (l.head?.map (·.2))) (fun l' => wps c hi ρ2 (kb K fun h ρ3 => wpo (optI (h.head?.map (·.2))) (fun h' => wpo (slcD v.1 v.2 l' h') (fun x => K (.ok x ρ3)) False) False)) False)) := by
  refine kb_bind.trans ?_
  unfold wpe wps
  refine kbc fun v ρ1 => ?_
  refine kb_bind.trans ?_
  refine kbc fun l ρ2 => ?_
  cases h1 : optI (l.head?.map (·.2)) with
  | none => rfl
  | some l' =>
    simp only [wpo]
    refine kb_bind.trans ?_
    refine kbc fun h ρ3 => ?_
    cases h2 : optI (h.head?.map (·.2)) with
    | none => rfl
    | some h' => exact k_ofO
def wlst (v : Nat × D) (k : List D → Prop) (B : Prop) (_ : Hold (k, B) := .mk) : Prop := match v.2 with
  | .list i => k i
  | _ => B
theorem wlst_l {n : Nat} {i : List D} {k : List D → Prop} {B : Prop} : wlst (n, .list i) k B = k i := rfl
theorem we_rev {a : E} : wpe c (.rev a) ρ K = wpe c a ρ (kb K fun v ρ1 => wlst v (fun xs => K (.ok (max v.1 1, .list xs.reverse) ρ1)) False) := by
  refine kb_bind.trans ?_
  unfold wpe
  refine kbc fun v ρ1 => ?_
  obtain ⟨n, d⟩ := v
  unfold wlst
  cases d <;> rfl
/-- a call, the arguments known -/
structure kcall (es : E) (ρ : Env) (K : R (Nat × D) → Prop) (r : CR) (_ : Hold (ρ, K) := .mk) : Prop where
  h : stR K (callK ρ es r)
theorem kcall_eq {es : E} {ρ : Env} {K : R (Nat × D) → Prop} {r : CR} : kcall es ρ K r = stR K (callK ρ es r) := propext ⟨fun x => x.h, fun x => ⟨x⟩⟩
theorem we_call {f : Nat} {es : E} : wpe c (.call f es) ρ K = wps c es ρ (kb K fun vs ρ1 => wpo (lendV ρ1 es vs) (fun as => wpc (c.call f as) (fun r => kcall es ρ1 K r)) False) := by
  refine kb_bind.trans ?_
  unfold wps
  refine kbc fun vs ρ1 => ?_
  cases lendV ρ1 es vs with
  | none => rfl
  | some as => exact propext ⟨fun x => ⟨⟨x⟩⟩, fun x => x.h.h⟩
theorem kcall_ok {es : E} {v : Nat × D} {outs : List (Nat × D)} : kcall es ρ K (.ok v outs) = wpo (lendBack es outs ρ) (fun ρ' => K (.ok v ρ')) False := by
  rw [kcall_eq]
  unfold callK
  cases h : lendBack es outs ρ <;> simp only [wpo, h] <;> rfl
theorem kcall_exc {es : E} {k : Nat} {ds : List D} {outs : List (Nat × D)} : kcall es ρ K (.exc k ds outs) = wpo (lendBack es outs ρ) (fun ρ' => K (.exc k ds ρ')) False := by
  rw [kcall_eq]
  unfold callK
  cases h : lendBack es outs ρ <;> simp only [wpo, h] <;> rfl
theorem we_bi {b : Bi} {es : E} : wpe c (.bi b es) ρ K = wps c es ρ (kb K fun vs ρ1 => wpo (biD b vs) (fun x => K (.ok x ρ1)) False) := by
  refine kb_bind.trans ?_
  unfold wps
  refine kbc fun vs ρ1 => ?_
  exact k_ofO
theorem we_mth {m : Mth} {a es : E} : wpe c (.mth m a es) ρ K = wpe c a ρ (kb K fun v ρ1 => way (mthOk m v.2) (wps c es ρ1 (kb K fun vs ρ2 => wpo (mthD m v.2 vs) (fun x => K (.ok x ρ2)) False)) False) := by
  refine kb_bind.trans ?_
  unfold wpe
  refine kbc fun v ρ1 => ?_
  cases h : mthOk m v.2 with
  | false => simp [way]
  | true =>
    simp only [if_true, way, true_implies, reduceCtorEq, false_implies, and_true]
    refine kb_bind.trans ?_
    unfold wps
    refine kbc fun vs ρ2 => ?_
    exact k_ofO
theorem we_isI {a : E} {ts : List Ty} : wpe c (.isI a ts) ρ K = wpe c a ρ (kb K fun v ρ1 => K (.ok (9, .bool (ts.any fun t => isTy t v.2)) ρ1)) := kb_bind
theorem we_dic {t : Bool} {es : E} : wpe c (.dic t es) ρ K = wps c es ρ (kb K fun vs ρ1 => wpo (dicL vs (if t then [mrk] else []) 9) (fun p => K (.ok (p.1 + 1, .dict p.2) ρ1)) False) := by
  refine kb_bind.trans ?_
  unfold wps
  refine kbc fun vs ρ1 => ?_
  cases dicL vs (if t then [mrk] else []) 9 <;> rfl
theorem we_mut0 {m : Mu} {i : Nat} {es : E} : wpe c (.mut m (.pv i) es) ρ K = way (mutOk m (getE ρ i)) (wps c es ρ (kb K fun vs ρ2 => wpo (getE ρ2 i) (fun w => wpo (muD m w.1 w.2 vs) (fun x => match w.1 with
    | 0 => False
    | _ + 1 => K (.ok x.2 (setE ρ2 i (some x.1)))) False) False)) False := by
  unfold wpe ev evP
  simp only
  cases h : mutOk m (getE ρ i) with
  | false => simp [way]
  | true =>
    simp only [if_true, way, true_implies, reduceCtorEq, false_implies, and_true]
    refine kb_bind.trans ?_
    unfold wps
    refine kbc fun vs ρ2 => ?_
    cases h2 : getE ρ2 i with
    | none => rfl
    | some w =>
      obtain ⟨n, d⟩ := w
      cases n with
      | zero =>
        simp only [wpo]
        cases muD m 0 d vs <;> rfl
      | succ n =>
        simp only [wpo]
        cases h3 : muD m (n + 1) d vs with
        | none => rfl
        | some x => rfl
theorem we_eis {cs : List Nat} : wpe c (.eis cs) ρ K = wpo c.cur (fun k => K (.ok (9, .bool (cs.any fun x => c.sub k.1 x)) ρ)) False := by
  unfold wpe ev
  cases h : c.cur with
  | none => rfl
  | some k => rfl
theorem wps_nil {K : R (List (Nat × D)) → Prop} : wps c .nil ρ K = K (.ok [] ρ) := rfl
theorem wps_lend {i : Nat} {b : E} {K : R (List (Nat × D)) → Prop} : wps c (.cons (.lend i) b) ρ K = wpo (getE ρ i) (fun _ => wps c b ρ K) False := by
  have e : evs c (.cons (.lend i) b) ρ = match getE ρ i with
    | some _ => evs c b ρ
    | none => .bad := rfl
  show stR K (evs c (.cons (.lend i) b) ρ) = _
  rw [e]
  cases getE ρ i <;> rfl
theorem wps_cons {a b : E} {K : R (List (Nat × D)) → Prop} (h : noLend a = true) : wps c (.cons a b) ρ K = wpe c a ρ (kb K fun v ρ1 => wps c b ρ1 (kb K fun vs ρ2 => K (.ok (v :: vs) ρ2))) := by
  have e : evs c (.cons a b) ρ = (ev c a ρ).bind fun v ρ1 => (evs c b ρ1).bind fun vs ρ2 => .ok (v :: vs) ρ2 := by
    cases a <;> first | rfl | (simp [noLend] at h; done)
  unfold wps wpe
  rw [e]
  refine kb_bind.trans ?_
  refine kbc fun v ρ1 => ?_
  exact kb_bind
theorem wpt_nil {K : R Bool → Prop} : wpt c .nil ρ K = K (.ok true ρ) := rfl
theorem wpt_one {a : E} {K : R Bool → Prop} : wpt c (.cons a .nil) ρ K = wpe c a ρ (kb K fun v ρ1 => wbool v (fun t => K (.ok t ρ1)) False) := by
  refine kb_bind.trans ?_
  unfold wpe
  refine kbc fun v ρ1 => ?_
  obtain ⟨n, d⟩ := v
  unfold wbool
  cases d <;> rfl
theorem wpi_r1 {a : E} {K : R (List D) → Prop} : wpi c (.irng1 a) ρ K = wpe c a ρ (kb K fun v ρ1 => wint v (fun b => wpo (rngLo 0 b) (fun xs => K (.ok xs ρ1)) False) False) := by
  refine kb_bind.trans ?_
  unfold wpe
  refine kbc fun v ρ1 => ?_
  obtain ⟨n, d⟩ := v
  unfold wint
  cases d <;> first | rfl | exact k_ofO
theorem wpi_r2 {a b : E} {K : R (List D) → Prop} : wpi c (.irng2 a b) ρ K = wpe c a ρ (kb K fun v ρ1 => wpe c b ρ1 (kb K fun w ρ2 => wint v (fun i => wint w (fun j => wpo (rngLo i j) (fun xs => K (.ok xs ρ2)) False) False) False)) := by
  refine kb_bind.trans ?_
  unfold wpe
  refine kbc fun v ρ1 => ?_
  refine kb_bind.trans ?_
  refine kbc fun w ρ2 => ?_
  obtain ⟨n, d⟩ := v
  obtain ⟨m, e⟩ := w
  unfold wint
  cases d <;> cases e <;> first | rfl | exact k_ofO
theorem wpi_enum {a : E} {K : R (List D) → Prop} : wpi c (.ienum a) ρ K = wpe c a ρ (kb K fun v ρ1 => wlst v (fun xs => K (.ok (enumL 0 xs) ρ1)) False) := by
  refine kb_bind.trans ?_
  unfold wpe
  refine kbc fun v ρ1 => ?_
  obtain ⟨n, d⟩ := v
  unfold wlst
  cases d <;> rfl
theorem wpi_seq {a : E} {K : R (List D) → Prop} : wpi c (.iseq a) ρ K = wpe c a ρ (kb K fun v ρ1 => wpo (itemsOf v.2) (fun xs => K (.ok xs ρ1)) False) := by
  refine kb_bind.trans ?_
  unfold wpe
  refine kbc fun v ρ1 => ?_
  exact k_ofO
end
section
variable {c : C} {ρ : Env} {K : O → Prop}
theorem wx_nop : wpx c .nop ρ K = K (.nx ρ) := rfl
theorem wx_pass : wpx c .pass ρ K = K (.nx ρ) := rfl
theorem wx_brk : wpx c .brk ρ K = K (.bk ρ) := rfl
theorem wx_cont : wpx c .cont ρ K = K (.ct ρ) := rfl
theorem wx_seq {a b : S} : wpx c (.seq a b) ρ K = wpx c a ρ (kq K fun ρ1 => wpx c b ρ1 K) := by
  have e : ex c (.seq a b) ρ = match ex c a ρ with
    | .nx ρ1 => ex c b ρ1
    | o => o := rfl
  show stO K (ex c (.seq a b) ρ) = stO (kq K _) (ex c a ρ)
  rw [e]
  cases ex c a ρ <;> rfl
theorem wx_expr {e : E} : wpx c (.expr e) ρ K = wpe c e ρ (ke K fun _ ρ1 => K (.nx ρ1)) := ke_toO
theorem wx_asg {t : Tg} {e : E} : wpx c (.asg t e) ρ K = wpe c e ρ (ke K fun v ρ1 => wpo (bindT t v ρ1) (fun ρ2 => K (.nx ρ2)) False) := by
  refine ke_toO.trans ?_
  unfold wpe
  refine kec fun v ρ1 => ?_
  cases bindT t v ρ1 <;> rfl
theorem wx_sto {a e : E} : wpx c (.sto a e) ρ K = wpe c e ρ (ke K fun v ρ1 => wpo (evP a ρ1) (fun q => stO K (stoE q v ρ1 .nx)) False) := by
  refine ke_toO.trans ?_
  unfold wpe
  refine kec fun v ρ1 => ?_
  cases evP a ρ1 <;> rfl
theorem wx_aug {op : Op} {i : Nat} {e : E} : wpx c (.aug op i e) ρ K = wpo (getE ρ i) (fun u => wint u (fun j => wpe c e ρ (ke K fun v ρ1 => wint v (fun k => wpo (opD op (9, .int j) (9, .int k)) (fun w => K (.nx (setE ρ1 i (some w)))) False) False)) False) False := by
  unfold wpx ex
  cases h : getE ρ i with
  | none => rfl
  | some u =>
    obtain ⟨n, d⟩ := u
    unfold wpo wint
    cases d <;> (try rfl)
    refine ke_toO.trans ?_
    unfold wpe
    refine kec fun v ρ1 => ?_
    obtain ⟨m, e2⟩ := v
    cases e2 <;> (try rfl)
    simp only
    rename_i j k
    cases opD op (9, .int j) (9, .int k) <;> rfl
theorem wx_ret {e : E} : wpx c (.ret e) ρ K = wpe c e ρ (ke K fun v ρ1 => K (.rt v ρ1)) := ke_toO
theorem wx_retN : wpx c .retN ρ K = K (.rt (9, .none) ρ) := rfl
theorem wx_ite {t : E} {a b : S} : wpx c (.ite t a b) ρ K = wpe c t ρ (ke K fun v ρ1 => wbool v (fun k => way k (wpx c a ρ1 K) (wpx c b ρ1 K)) False) := by
  have e : ex c (.ite t a b) ρ = ((ev c t ρ).bind tru).toO fun k ρ1 => if k then ex c a ρ1 else ex c b ρ1 := rfl
  show stO K (ex c (.ite t a b) ρ) = stR (ke K _) (ev c t ρ)
  rw [e]
  cases h : ev c t ρ with
  | exc _ _ _ => rfl
  | bad => rfl
  | ok v ρ1 =>
    obtain ⟨n, d⟩ := v
    unfold wbool
    cases d <;> (try rfl)
    rename_i k
    cases k <;> simp [R.bind, R.toO, tru, ke, way, wpx, stR]
theorem wx_rais {k : Nat} {es : E} : wpx c (.rais k es) ρ K = wps c es ρ (ke K fun vs ρ1 => K (.exc k (vs.map (·.2)) ρ1)) := ke_toO
/-- loops wait -/
structure wfor (bind : D → Env → Option Env) (body : Env → O) (xs : List D) (ρ : Env) (K : O → Prop) (_ : Hold (bind, body, K) := .mk) : Prop where
  h : stO K (forGo bind body xs ρ)
theorem wx_for {t : Tg} {it : E} {b : S} : wpx c (.for_ t it b) ρ K = wpi c it ρ (ke K fun xs ρ1 => wfor (fun x r => bindT t (sv x) r) (fun r => ex c b r) xs ρ1 K) := by
  refine ke_toO.trans ?_
  refine kec fun xs ρ1 => ?_
  exact propext ⟨fun x => ⟨x⟩, fun x => x.h⟩
/-- what is wanted, not to be looked into -/
structure Go (p : Prop) (_ : Hold p := .mk) : Prop where
  h : p
theorem go_eq {p : Prop} : Go p = p := propext ⟨fun x => x.h, fun x => ⟨x⟩⟩
/-- a loop by an invariant over what is left -/
theorem wfor_inv {bind : D → Env → Option Env} {b : S} {K : O → Prop} (I : List D → Env → Prop) {xs : List D} {ρ : Env} (h0 : I xs ρ)
    (h : ∀ x r ρ, I (x :: r) ρ → Go (wpo (bind x ρ) (fun ρ1 => wpx c b ρ1 (fun o => match o with
      | .nx ρ2 => I r ρ2
      | .ct ρ2 => I r ρ2
      | .bk ρ2 => K (.nx ρ2)
      | o => K o)) False)) (hk : ∀ ρ, I [] ρ → Go (K (.nx ρ))) : wfor bind (fun r => ex c b r) xs ρ K := by
  refine ⟨?_⟩
  induction xs generalizing ρ with
  | nil => exact (hk ρ h0).h
  | cons x xs ih =>
    have := (h x xs ρ h0).h
    have e0 : forGo bind (fun r => ex c b r) (x :: xs) ρ = match bind x ρ with
      | none => .bad
      | some ρ1 => match ex c b ρ1 with
        | .nx ρ2 => forGo bind (fun r => ex c b r) xs ρ2
        | .ct ρ2 => forGo bind (fun r => ex c b r) xs ρ2
        | .bk ρ2 => .nx ρ2
        | o => o := rfl
    rw [e0]
    cases e : bind x ρ with
    | none => rw [e] at this; exact this.elim
    | some ρ1 =>
      rw [e] at this
      simp only [wpo, wpx] at this
      simp only
      cases e2 : ex c b ρ1 with
      | nx ρ2 => rw [e2] at this; exact ih this
      | ct ρ2 => rw [e2] at this; exact ih this
      | bk ρ2 => rw [e2] at this; exact this
      | rt v ρ2 => rw [e2] at this; exact this
      | exc k ds ρ2 => rw [e2] at this; exact this
      | bad => rw [e2] at this; exact this
end
/-! ### data -/
section
variable {n m : Nat} {K : R (Nat × D) → Prop} {ρ : Env} {i : Nat}
theorem wvar_i {k : Int} : wvar (some (n, .int k)) i ρ K = K (.ok (9, .int k) ρ) := rfl
theorem wvar_b {k : Bool} : wvar (some (n, .bool k)) i ρ K = K (.ok (9, .bool k) ρ) := rfl
theorem wvar_s {k : Str} : wvar (some (n, .str k)) i ρ K = K (.ok (9, .str k) ρ) := rfl
theorem wvar_n : wvar (some (n, .none)) i ρ K = K (.ok (9, .none) ρ) := rfl
theorem wvar_l {k : List D} : wvar (some (n, .list k)) i ρ K = K (.ok (0, .list k) (setE ρ i (some (0, .list k)))) := rfl
theorem wvar_t {k : List D} : wvar (some (n, .tuple k)) i ρ K = K (.ok (0, .tuple k) (setE ρ i (some (0, .tuple k)))) := rfl
theorem wvar_d {k : List (D × D)} : wvar (some (n, .dict k)) i ρ K = K (.ok (0, .dict k) (setE ρ i (some (0, .dict k)))) := rfl
/-- any value that is read as shared -/
theorem wvar_x {d : D} (h : getE ρ i = some (sv d)) : wvar (some (sv d)) i ρ K = K (.ok (sv d) ρ) := by
  unfold wvar sv
  cases e : atm d with
  | true => simp [e]
  | false =>
    simp only [e]
    have := setE_same h
    unfold sv at this
    simp only [e, Bool.false_eq_true, if_false] at this ⊢
    rw [this]
end
/-! ### paths -/
section
variable {ρ : Env} {y : Nat × List D → Prop} {z : D → Prop} {n : Prop}
theorem wp_pv {i : Nat} : wpo (evP (.pv i) ρ) y n = y (i, []) := rfl
theorem wp_pi {a k : E} : wpo (evP (.pi a k) ρ) y n = wpo (evP a ρ) (fun q => wpo (evQ k ρ) (fun d => y (q.1, q.2 ++ [d])) n) n := by
  have e : evP (.pi a k) ρ = match evP a ρ, evQ k ρ with
    | some (i, ks), some d => some (i, ks ++ [d])
    | _, _ => none := rfl
  rw [e]
  cases evP a ρ with
  | none => rfl
  | some q => cases evQ k ρ <;> rfl
theorem wq_int {i : Int} : wpo (evQ (.int i) ρ) z n = z (.int i) := rfl
theorem wq_str {i : Str} : wpo (evQ (.str i) ρ) z n = z (.str i) := rfl
theorem wq_var {i : Nat} : wpo (evQ (.var i) ρ) z n = wpo (getE ρ i) (fun v => z v.2) n := by
  show wpo ((getE ρ i).map (·.2)) z n = _
  cases getE ρ i <;> rfl
theorem wq_bor {i : Nat} : wpo (evQ (.bor i) ρ) z n = wpo (getE ρ i) (fun v => z v.2) n := by
  show wpo ((getE ρ i).map (·.2)) z n = _
  cases getE ρ i <;> rfl
def wintD (d : D) (k : Int → Prop) (B : Prop) (_ : Hold (k, B) := .mk) : Prop := match d with
  | .int i => k i
  | _ => B
theorem wintD_i {i : Int} {k : Int → Prop} {B : Prop} : wintD (.int i) k B = k i := rfl
theorem wq_bin {op : Op} {a b : E} : wpo (evQ (.bin op a b) ρ) z n = wpo (evQ a ρ) (fun d => wpo (evQ b ρ) (fun e => wintD d (fun i => wintD e (fun j => wpo (opD op (9, .int i) (9, .int j)) (fun v => z v.2) n) n) n) n) n := by
  have e : evQ (.bin op a b) ρ = match evQ a ρ, evQ b ρ with
    | some (.int i), some (.int j) => (opD op (9, .int i) (9, .int j)).map (·.2)
    | _, _ => none := rfl
  rw [e]
  cases evQ a ρ with
  | none => cases evQ b ρ <;> rfl
  | some d =>
    cases evQ b ρ with
    | none => cases d <;> rfl
    | some e =>
      unfold wintD
      cases d <;> cases e <;> (try rfl)
      simp only [wpo]
      rename_i i j
      cases opD op (9, .int i) (9, .int j) <;> rfl
theorem wq_neg {a : E} : wpo (evQ (.neg a) ρ) z n = wpo (evQ a ρ) (fun d => wintD d (fun i => z (.int (-i))) n) n := by
  have e : evQ (.neg a) ρ = match evQ a ρ with
    | some (.int i) => some (.int (-i))
    | _ => none := rfl
  rw [e]
  cases evQ a ρ with
  | none => rfl
  | some d => cases d <;> rfl
theorem wq_idx {a k : E} : wpo (evQ (.idx a k) ρ) z n = wpo (evQ a ρ) (fun d => wpo (evQ k ρ) (fun e => wpo (idxD d e) z n) n) n := by
  have e : evQ (.idx a k) ρ = match evQ a ρ, evQ k ρ with
    | some d, some e => idxD d e
    | _, _ => none := rfl
  rw [e]
  cases evQ a ρ with
  | none => cases evQ k ρ <;> rfl
  | some d => cases evQ k ρ <;> rfl
theorem wq_len {a : E} : wpo (evQ (.bi .len (.cons a .nil)) ρ) z n = wpo (evQ a ρ) (fun d => wpo (biD .len [(0, d)]) (fun v => z v.2) n) n := by
  have e : evQ (.bi .len (.cons a .nil)) ρ = match evQ a ρ with
    | some d => (biD .len [(0, d)]).map (·.2)
    | none => none := rfl
  rw [e]
  cases evQ a ρ with
  | none => rfl
  | some d => simp only [wpo]; cases biD .len [(0, d)] <;> rfl
theorem wq_rdp {a : E} : wpo (evQ (.rdp a) ρ) z n = wpo (evP a ρ) (fun q => wpo (getE ρ q.1) (fun v => wpo (getP v.2 q.2) z n) n) n := by
  have e : evQ (.rdp a) ρ = match evP a ρ with
    | some (i, ks) => match getE ρ i with
      | some (_, d) => getP d ks
      | none => none
    | none => none := rfl
  rw [e]
  cases evP a ρ with
  | none => rfl
  | some q =>
    simp only [wpo]
    cases getE ρ q.1 <;> rfl
end
/-! ### data that are known -/
theorem getE_0 {x : Option (Nat × D)} {r : Env} : getE (x :: r) 0 = x := rfl
theorem getE_s {x : Option (Nat × D)} {r : Env} {i : Nat} : getE (x :: r) (i + 1) = getE r i := rfl
theorem setE_0 {x v : Option (Nat × D)} {r : Env} : setE (x :: r) 0 v = v :: r := rfl
theorem setE_s {x v : Option (Nat × D)} {r : Env} {i : Nat} : setE (x :: r) (i + 1) v = x :: setE r i v := rfl
section
variable {n m : Nat} {i j : Int}
theorem op_add : opD .add (n, .int i) (m, .int j) = some (9, .int (i + j)) := rfl
theorem op_sub : opD .sub (n, .int i) (m, .int j) = some (9, .int (i - j)) := rfl
theorem op_mul (h : bitsOk 4000 i = true) (h' : bitsOk 4000 j = true) : opD .mul (n, .int i) (m, .int j) = some (9, .int (i * j)) := by simp [opD, h, h']
theorem op_fdiv (h : 0 < j) (h' : bitsOk 8000 j = true) : opD .fdiv (n, .int i) (m, .int j) = some (9, .int (i / j)) := by simp [opD, h, h']
theorem op_mod (h : 0 < j) : opD .mod (n, .int i) (m, .int j) = some (9, .int (i % j)) := by simp [opD, h]
theorem op_pow (h : 0 ≤ j) (h1 : j ≤ 64) (h' : bitsOk 4000 i = true) : opD .pow (n, .int i) (m, .int j) = some (9, .int (i ^ j.toNat)) := by simp [opD, h, h1, h']
theorem op_cat {xs ys : List D} (h : xs.length + ys.length ≤ 16777216) : opD .add (n, .list xs) (m, .list ys) = some (max 1 (min n m), .list (xs ++ ys)) := by simp [opD, h]
theorem cp_eq_i : cmpD .eq (.int i) (.int j) = some (decide (i = j)) := by simp [cmpD, eqD, shp, PyData.eqv]; rfl
theorem cp_ne_i : cmpD .ne (.int i) (.int j) = some (!decide (i = j)) := by simp [cmpD, eqD, shp, PyData.eqv]; rfl
theorem cp_lt_i : cmpD .lt (.int i) (.int j) = some (decide (i < j)) := rfl
theorem cp_le_i : cmpD .le (.int i) (.int j) = some (decide (i ≤ j)) := rfl
theorem cp_gt_i : cmpD .gt (.int i) (.int j) = some (decide (j < i)) := rfl
theorem cp_ge_i : cmpD .ge (.int i) (.int j) = some (decide (j ≤ i)) := rfl
end
theorem bitsOk_of {n : Nat} {i : Int} (h : i.natAbs < 2 ^ n) : bitsOk n i = true := decide_eq_true h
theorem bitsOk_le {n : Nat} {i : Int} {k : Nat} (h0 : 0 ≤ i) (h : i < 2 ^ k) (hk : k ≤ n) : bitsOk n i = true := by
  refine decide_eq_true ?_
  have h1 : i.natAbs < 2 ^ k := by
    have : ((2 ^ k : Nat) : Int) = (2 : Int) ^ k := by norm_cast
    omega
  exact Nat.lt_of_lt_of_le h1 (Nat.pow_le_pow_right (by decide) hk)
/-! ### comprehensions -/
structure wlc (c : C) (w : List Nat) (t : Tg) (q el : E) (xs : List D) (ρ : Env) (K : R (Nat × D) → Prop) (_ : Hold (w, t, q, el, ρ, K) := .mk) : Prop where
  h : stR K ((lcGo (fun x r => bindT t (sv x) r) (fun r => evT c q r) (fun r => ev c el r) (fun r => wipeE r w) xs [] 9 (wipeE ρ w)).bind fun p ρ2 => .ok (p.2 + 1, .list p.1) ρ2)
theorem we_lc {c : C} {ρ : Env} {K : R (Nat × D) → Prop} {w : List Nat} {t : Tg} {it q el : E} : wpe c (.lc w t it q el) ρ K = wpi c it ρ (kb K fun xs ρ1 => wlc c w t q el xs ρ1 K) := by
  refine kb_bind.trans ?_
  refine kbc fun xs ρ1 => ?_
  exact propext ⟨fun x => ⟨x⟩, fun x => x.h⟩
abbrev kF {α : Type} : R α → Prop := fun _ => False
theorem wlc_inv {c : C} {w : List Nat} {t : Tg} {q el : E} {xs : List D} {ρ : Env} {K : R (Nat × D) → Prop} (I : List D → List D → Nat → Env → Prop) (h0 : I xs [] 9 (wipeE ρ w))
    (h : ∀ x r acc n ρ, I (x :: r) acc n ρ → Go (wpo (bindT t (sv x) (wipeE ρ w)) (fun ρ1 => wpt c q ρ1 (kb (β := Unit) kF fun b ρ2 => way b (wpe c el ρ2 (kb (β := Unit) kF fun v ρ3 => acc.length < 16777216 ∧ I r (acc ++ [v.2]) (min n (if atm v.2 then 9 else v.1)) (wipeE ρ3 w))) (I r acc n (wipeE ρ2 w)))) False))
    (hk : ∀ acc n ρ, I [] acc n ρ → Go (K (.ok (n + 1, .list acc) ρ))) : wlc c w t q el xs ρ K := by
  refine ⟨?_⟩
  have go : ∀ xs acc n ρ, I xs acc n ρ → ∃ acc' n' ρ', lcGo (fun x r => bindT t (sv x) r) (fun r => evT c q r) (fun r => ev c el r) (fun r => wipeE r w) xs acc n ρ = .ok (acc', n') ρ' ∧ I [] acc' n' ρ' := by
    intro xs
    induction xs with
    | nil => intro acc n ρ h; exact ⟨acc, n, ρ, rfl, h⟩
    | cons x xs ih =>
      intro acc n ρ hI
      have := (h x xs acc n ρ hI).h
      unfold lcGo
      cases e : bindT t (sv x) (wipeE ρ w) with
      | none => rw [e] at this; exact this.elim
      | some ρ1 =>
        rw [e] at this
        simp only [wpo, wpt] at this
        simp only
        cases e2 : evT c q ρ1 with
        | bad => rw [e2] at this; exact this.elim
        | exc _ _ _ => rw [e2] at this; exact this.elim
        | ok b ρ2 =>
          rw [e2] at this
          simp only [stR, kb, way] at this
          simp only [R.quiet, R.bind_ok]
          cases b with
          | false => exact ih _ _ _ (this.2 rfl)
          | true =>
            have := this.1 rfl
            unfold wpe at this
            simp only [if_true]
            cases e3 : ev c el ρ2 with
            | bad => rw [e3] at this; exact this.elim
            | exc _ _ _ => rw [e3] at this; exact this.elim
            | ok v ρ3 =>
              rw [e3] at this
              obtain ⟨l, i⟩ := this
              simp only [R.bind_ok]
              rw [if_pos l]
              exact ih _ _ _ i
  obtain ⟨acc, n, ρ', e, i⟩ := go xs [] 9 (wipeE ρ w) h0
  rw [e]
  exact (hk _ _ _ i).h
/-- turns that leave the locals as they are -/
theorem wlc_pure {α : Type} {c : C} {w : List Nat} {t : Tg} {q el : E} {g : α → D} {as : List α} {ρ : Env} {K : R (Nat × D) → Prop} (f : α → Option D) (k : Nat) (hw : wipeE (wipeE ρ w) w = wipeE ρ w) (hl : as.length ≤ 16777216)
    (h : ∀ a ∈ as, Go (wpo (bindT t (sv (g a)) (wipeE ρ w)) (fun ρ1 => wpt c q ρ1 (kb (β := Unit) kF fun b ρ2 => way b (wpe c el ρ2 (kb (β := Unit) kF fun v ρ3 => f a = some v.2 ∧ k ≤ (if atm v.2 then 9 else v.1) ∧ wipeE ρ3 w = wipeE ρ w)) (f a = none ∧ wipeE ρ2 w = wipeE ρ w))) False))
    (hk : ∀ n, k ≤ n → n ≤ 9 → Go (K (.ok (n + 1, .list (as.filterMap f)) (wipeE ρ w)))) (h9 : k ≤ 9) : wlc c w t q el (as.map g) ρ K := by
  refine wlc_inv (fun xs acc n ρ' => ρ' = wipeE ρ w ∧ k ≤ n ∧ n ≤ 9 ∧ ∃ as1 as2, as = as1 ++ as2 ∧ xs = as2.map g ∧ acc = as1.filterMap f) ⟨rfl, h9, Nat.le_refl 9, [], as, rfl, rfl, rfl⟩ ?_ ?_
  · rintro x r acc n ρ' ⟨rfl, hn, h9, as1, as2, e1, e2, e3⟩
    cases as2 with
    | nil => simp at e2
    | cons a as2 =>
      simp only [List.map_cons, List.cons.injEq] at e2
      obtain ⟨rfl, rfl⟩ := e2
      have ha : a ∈ as := by rw [e1]; simp
      have := (h a ha).h
      have la : acc.length < 16777216 := by
        have h1 := congrArg List.length e1
        rw [List.length_append, List.length_cons] at h1
        have h2 := List.length_filterMap_le f as1
        rw [e3]; omega
      refine ⟨?_⟩
      rw [hw]
      cases e : bindT t (sv (g a)) (wipeE ρ w) with
      | none => rw [e] at this; exact this.elim
      | some ρ1 =>
        rw [e] at this
        simp only [wpo, wpt] at this ⊢
        cases e2 : evT c q ρ1 with
        | bad => rw [e2] at this; exact this.elim
        | exc _ _ _ => rw [e2] at this; exact this.elim
        | ok b ρ2 =>
          rw [e2] at this
          simp only [stR, kb, way] at this ⊢
          refine ⟨fun hb => ?_, fun hb => ?_⟩
          · have := this.1 hb
            unfold wpe at this ⊢
            cases e3 : ev c el ρ2 with
            | bad => rw [e3] at this; exact this.elim
            | exc _ _ _ => rw [e3] at this; exact this.elim
            | ok v ρ3 =>
              rw [e3] at this
              obtain ⟨h1, h2, h3⟩ := this
              exact ⟨la, h3, by omega, by omega, as1 ++ [a], as2, by rw [e1]; simp, rfl, by rw [List.filterMap_append, ‹acc = _›]; simp [h1]⟩
          · obtain ⟨h1, h2⟩ := this.2 hb
            exact ⟨h2, hn, h9, as1 ++ [a], as2, by rw [e1]; simp, rfl, by rw [List.filterMap_append, ‹acc = _›]; simp [h1]⟩
  · rintro acc n ρ' ⟨rfl, hn, h9, as1, as2, e1, e2, e3⟩
    cases as2 with
    | cons _ _ => simp at e2
    | nil =>
      rw [List.append_nil] at e1
      subst e1 e3
      exact hk n hn h9
end PL

/-! PL31: rules about data, bundled. -/
namespace PL
open PySem L2
open PySem (PyData Str)
/-! ### stores -/
def stoW (u : Nat × D) (ks : List D) (v : Nat × D) : Option (Nat × D) := match ks.reverse with
  | k :: r => (chgP u.1 u.2 r.reverse (fun m o => (stoD m o k v).map fun w => (w, (9, .none)))).map (·.1)
  | [] => none
theorem k_stoE {q : Nat × List D} {v : Nat × D} {ρ : Env} {K : O → Prop} : stO K (stoE q v ρ .nx) = wpo (getE ρ q.1) (fun u => wpo (stoW u q.2 v) (fun w => K (.nx (setE ρ q.1 (some w)))) False) False := by
  unfold stoE
  cases getE ρ q.1 with
  | none => rfl
  | some u =>
    obtain ⟨n, d⟩ := u
    unfold stoW
    simp only [wpo]
    cases q.2.reverse with
    | nil => rfl
    | cons k r =>
      simp only
      cases chgP n d r.reverse (fun m o => (stoD m o k v).map fun w => (w, (9, .none))) with
      | none => rfl
      | some w => obtain ⟨w, z⟩ := w; rfl
theorem wx_sto' {c : C} {ρ : Env} {K : O → Prop} {a e : E} : wpx c (.sto a e) ρ K = wpe c e ρ (ke K fun v ρ1 => wpo (evP a ρ1) (fun q => wpo (getE ρ1 q.1) (fun u => wpo (stoW u q.2 v) (fun w => K (.nx (setE ρ1 q.1 (some w)))) False) False) False) := by
  rw [wx_sto]
  have e : (fun (v : Nat × D) ρ1 => wpo (evP a ρ1) (fun q => stO K (stoE q v ρ1 .nx)) False) = fun v ρ1 => wpo (evP a ρ1) (fun q => wpo (getE ρ1 q.1) (fun u => wpo (stoW u q.2 v) (fun w => K (.nx (setE ρ1 q.1 (some w)))) False) False) False := by
    funext v ρ1
    cases evP a ρ1 with
    | none => rfl
    | some q => exact k_stoE
  rw [e]
theorem stoW_1 {n : Nat} {d k : D} {v : Nat × D} : stoW (n + 1, d) [k] v = stoD (n + 1) d k v := by
  unfold stoW
  simp only [List.reverse_cons, List.reverse_nil, List.nil_append, chgP]
  cases stoD (n + 1) d k v <;> rfl
def sto2 (n : Nat) (d k : D) (o : Option (Nat × D)) : Option (Nat × D) := match o with
  | some w => stoD (n + 2) d k w
  | none => none
theorem sto2_s {n : Nat} {d k : D} {w : Nat × D} : sto2 n d k (some w) = stoD (n + 2) d k w := rfl
def sto1 (n : Nat) (k : D) (v : Nat × D) (o : Option D) : Option (Nat × D) := match o with
  | some e => stoD (n + 1) e k v
  | none => none
theorem sto1_s {n : Nat} {k : D} {v : Nat × D} {d : D} : sto1 n k v (some d) = stoD (n + 1) d k v := rfl
theorem stoW_2 {n : Nat} {d k k2 : D} {v : Nat × D} : stoW (n + 2, d) [k, k2] v = sto2 n d k (sto1 n k2 v (idxD d k)) := by
  unfold stoW sto2 sto1
  simp only [List.reverse_cons, List.reverse_nil, List.nil_append, List.cons_append, chgP]
  cases idxD d k with
  | none => rfl
  | some e =>
    simp only
    cases stoD (n + 1) e k2 v with
    | none => rfl
    | some w =>
      simp only [Option.map_some]
      cases stoD (n + 2) d k w <;> rfl
theorem sto_l {n : Nat} {xs : List D} {i : Int} {v : Nat × D} (h : 0 ≤ i) (h2 : i.toNat < xs.length) : stoD n (.list xs) (.int i) v = some (dmin n v, .list (xs.set i.toNat v.2)) := by
  have h3 : i < xs.length := by omega
  simp [stoD, ixn, h, h3]
theorem dmin_i {n k : Nat} {i : Int} : dmin n (k, .int i) = min n 10 := rfl
theorem dmin_b {n k : Nat} {i : Bool} : dmin n (k, .bool i) = min n 10 := rfl
theorem dmin_s {n k : Nat} {i : Str} : dmin n (k, .str i) = min n 10 := rfl
theorem dmin_l {n k : Nat} {i : List D} : dmin n (k, .list i) = min n (k + 1) := rfl
theorem dmin_t {n k : Nat} {i : List D} : dmin n (k, .tuple i) = min n (k + 1) := rfl
/-! ### indices -/
theorem ix_l {xs : List D} {i : Int} (h : 0 ≤ i) : idxD (.list xs) (.int i) = xs[i.toNat]? := by
  simp only [idxD, atL, ixn, if_pos h]
  by_cases h2 : i < xs.length
  · rw [if_pos h2]
  · rw [if_neg h2, List.getElem?_eq_none (by omega)]
theorem ix_t {xs : List D} {i : Int} (h : 0 ≤ i) : idxD (.tuple xs) (.int i) = xs[i.toNat]? := by
  simp only [idxD, atL, ixn, if_pos h]
  by_cases h2 : i < xs.length
  · rw [if_pos h2]
  · rw [if_neg h2, List.getElem?_eq_none (by omega)]
theorem ix_last {xs : List D} (h : xs ≠ []) : idxD (.list xs) (.int (-1)) = xs.getLast? := by
  have hl : 0 < xs.length := List.length_pos_iff.mpr h
  simp only [idxD, atL, ixn]
  rw [if_neg (by decide), if_pos (by omega), List.getLast?_eq_getElem?]
  show xs[((-1 : Int) + (xs.length : Int)).toNat]? = _
  congr 1
  omega
theorem gp_nil {d : D} : getP d [] = some d := rfl
def gp1 (ks : List D) (o : Option D) : Option D := match o with
  | some e => getP e ks
  | none => none
theorem gp1_s {ks : List D} {e : D} : gp1 ks (some e) = getP e ks := rfl
theorem gp_cons {d k : D} {ks : List D} : getP d (k :: ks) = gp1 ks (idxD d k) := rfl
/-! ### atoms -/
theorem atm_i {i : Int} : atm (.int i) = true := rfl
theorem atm_b {i : Bool} : atm (.bool i) = true := rfl
theorem atm_s {i : Str} : atm (.str i) = true := rfl
theorem atm_n : atm .none = true := rfl
theorem atm_l {i : List D} : atm (.list i) = false := rfl
theorem atm_t {i : List D} : atm (.tuple i) = false := rfl
theorem atm_d {i : List (D × D)} : atm (.dict i) = false := rfl
theorem sv_i {i : Int} : sv (.int i) = (9, .int i) := rfl
theorem sv_b {i : Bool} : sv (.bool i) = (9, .bool i) := rfl
theorem sv_s {i : Str} : sv (.str i) = (9, .str i) := rfl
theorem sv_n : sv .none = (9, .none) := rfl
theorem sv_l {i : List D} : sv (.list i) = (0, .list i) := rfl
theorem sv_t {i : List D} : sv (.tuple i) = (0, .tuple i) := rfl
theorem sv_d {i : List (D × D)} : sv (.dict i) = (0, .dict i) := rfl
/-! ### targets -/
theorem bt_nm {i : Nat} {v : Nat × D} {ρ : Env} : bindT (.nm i) v ρ = some (setE ρ i (some v)) := rfl
theorem bt_nms {is : List Nat} {n : Nat} {ds : List D} {ρ : Env} : bindT (.nms is) (n, .tuple ds) ρ = bindAll (n - 1) is ds ρ := rfl
theorem ba_nil {n : Nat} {ρ : Env} : bindAll n [] [] ρ = some ρ := rfl
theorem ba_cons {n i : Nat} {is : List Nat} {d : D} {ds : List D} {ρ : Env} : bindAll n (i :: is) (d :: ds) ρ = bindAll n is ds (setE ρ i (some (if atm d then 9 else n, d))) := rfl
/-! ### arguments -/
theorem lv_nil {ρ : Env} : lendV ρ .nil [] = some [] := rfl
def lv1 (v : Nat × D) (o : Option (List (Nat × D))) : Option (List (Nat × D)) := match o with
  | some vs => some (v :: vs)
  | none => none
theorem lv1_s {v : Nat × D} {vs : List (Nat × D)} : lv1 v (some vs) = some (v :: vs) := rfl
theorem lv_cons {ρ : Env} {a r : E} {v : Nat × D} {vs : List (Nat × D)} (h : noLend a = true) : lendV ρ (.cons a r) (v :: vs) = lv1 (sv v.2) (lendV ρ r vs) := by
  have e : lendV ρ (.cons a r) (v :: vs) = (lendV ρ r vs).map (sv v.2 :: ·) := by cases a <;> first | rfl | (simp [noLend] at h; done)
  rw [e]
  cases lendV ρ r vs <;> rfl
def lvl (ρ : Env) (i : Nat) (r : E) (vs : List (Nat × D)) (o : Option (Nat × D)) : Option (List (Nat × D)) := match o with
  | some v => lv1 v (lendV (setE ρ i none) r vs)
  | none => none
theorem lvl_s {ρ : Env} {i : Nat} {r : E} {vs : List (Nat × D)} {v : Nat × D} : lvl ρ i r vs (some v) = lv1 v (lendV (setE ρ i none) r vs) := rfl
theorem lv_lend {ρ : Env} {i : Nat} {r : E} {vs : List (Nat × D)} : lendV ρ (.cons (.lend i) r) vs = lvl ρ i r vs (getE ρ i) := by
  have e : lendV ρ (.cons (.lend i) r) vs = match getE ρ i with
    | some v => (lendV (setE ρ i none) r vs).map (v :: ·)
    | none => none := by cases vs <;> rfl
  rw [e]
  cases getE ρ i with
  | none => rfl
  | some v =>
    simp only [lvl]
    cases lendV (setE ρ i none) r vs <;> rfl
theorem lb_nil {ρ : Env} : lendBack .nil [] ρ = some ρ := rfl
theorem lb_cons {ρ : Env} {a r : E} {vs : List (Nat × D)} (h : noLend a = true) : lendBack (.cons a r) vs ρ = lendBack r vs ρ := by
  cases a <;> first | (cases vs <;> rfl) | (simp [noLend] at h; done)
theorem lb_lend {ρ : Env} {i : Nat} {r : E} {v : Nat × D} {vs : List (Nat × D)} : lendBack (.cons (.lend i) r) (v :: vs) ρ = lendBack r vs (setE ρ i (some v)) := rfl
/-! ### built-ins -/
section
variable {n m : Nat} {i j : Int} {xs : List D}
theorem bi_len : biD .len [(n, .list xs)] = some (9, .int xs.length) := rfl
theorem bi_lenT : biD .len [(n, .tuple xs)] = some (9, .int xs.length) := rfl
theorem bi_abs : biD .abs [(n, .int i)] = some (9, .int (if i < 0 then -i else i)) := rfl
theorem bi_max2 : biD .max2 [(n, .int i), (m, .int j)] = some (9, .int (if i < j then j else i)) := rfl
theorem bi_min2 : biD .min2 [(n, .int i), (m, .int j)] = some (9, .int (if j < i then j else i)) := rfl
theorem bi_int : biD .int [(n, .int i)] = some (9, .int i) := rfl
theorem bi_intb {b : Bool} : biD .int [(n, .bool b)] = some (9, .int (if b then 1 else 0)) := rfl
theorem bi_list : biD .list [(n, .list xs)] = some (max n 1, .list xs) := rfl
theorem bi_listT : biD .list [(n, .tuple xs)] = some (max n 1, .list xs) := rfl
theorem bi_tuple : biD .tuple [(n, .list xs)] = some (max n 1, .tuple xs) := rfl
theorem bi_bit : biD .bitLen [(n, .int i)] = some (9, .int (if i = 0 then 0 else (i.natAbs.log2 + 1 : Nat))) := rfl
theorem bi_r1 : biD .rng1 [(n, .int i)] = (rngLo 0 i).map fun xs => (10, .list xs) := rfl
theorem bi_r2 : biD .rng2 [(n, .int i), (m, .int j)] = (rngLo i j).map fun xs => (10, .list xs) := rfl
end
theorem omap_s {α β : Type} {f : α → β} {a : α} : Option.map f (some a) = some (f a) := rfl
theorem rng_lo {a b : Int} (h1 : -(2 ^ 61) < a) (h2 : b < 2 ^ 61) (h3 : b - a ≤ 1000000) (h4 : a < 2 ^ 61) (h5 : -(2 ^ 61) < b) : rngLo a b = some (rng a (b - a).toNat) := by
  unfold rngLo
  rw [decide_eq_true h1, decide_eq_true h2, decide_eq_true h3, decide_eq_true h4, decide_eq_true h5]
  rfl
theorem it_l {xs : List D} : itemsOf (.list xs) = some xs := rfl
theorem it_t {xs : List D} : itemsOf (.tuple xs) = some xs := rfl
theorem cd_nil : cdep [] = 9 := rfl
theorem cd_cons {v : Nat × D} {r : List (Nat × D)} : cdep (v :: r) = min (if atm v.2 then 9 else v.1) (cdep r) := rfl
theorem mok_l {xs : List D} : mthOk .index (.list xs) = true := rfl
theorem mok_g {xs : List (D × D)} : mthOk .get (.dict xs) = true := rfl
theorem mok_g1 {xs : List (D × D)} : mthOk .get1 (.dict xs) = true := rfl
theorem muk_a {n : Nat} {xs : List D} : mutOk .append (some (n, .list xs)) = true := rfl
theorem muk_e {n : Nat} {xs : List D} : mutOk .extend (some (n, .list xs)) = true := rfl
theorem muk_p {n : Nat} {xs : List D} : mutOk .pop (some (n, .list xs)) = true := rfl
theorem mu_app {n : Nat} {xs : List D} {v : Nat × D} (h : xs.length < 16777216) : muD .append n (.list xs) [v] = some ((dmin n v, .list (xs ++ [v.2])), (9, .none)) := by simp [muD, h]
theorem mu_ext {n m : Nat} {xs ys : List D} (h : xs.length + ys.length ≤ 16777216) : muD .extend n (.list xs) [(m + 1, .list ys)] = some ((min n (m + 1), .list (xs ++ ys)), (9, .none)) := by simp [muD, h]
theorem slc_l {n : Nat} {xs : List D} {lo hi : Option Int} : slcD n (.list xs) lo hi = some (max n 1, .list (cutL xs lo hi)) := rfl
theorem opt_n : optI none = some none := rfl
theorem opt_i {i : Int} : optI (some (.int i)) = some (some i) := rfl
theorem hd_nil {α : Type} : ([] : List α).head? = none := rfl
theorem hd_cons {α : Type} {a : α} {r : List α} : (a :: r).head? = some a := rfl
theorem omap_n {α β : Type} {f : α → β} : Option.map f none = none := rfl
theorem cp_isN {d : D} : cmpD .isN d .none = some (match d with | .none => true | _ => false) := by cases d <;> rfl
theorem cp_notN {d : D} : cmpD .notN d .none = some (match d with | .none => false | _ => true) := by cases d <;> rfl
theorem wpo_ofI {α : Type} {p : Prop} [Decidable p] {o : Option α} {y : α → Prop} {n : Prop} : wpo (if p then o else none) y n = way (decide p) (wpo o y n) n := by
  by_cases h : p <;> simp [h, wpo, way]
theorem rs_rt {v : Nat × D} {ρ : Env} {is : List Nat} : retC is (.rt v ρ) = fin ρ is fun outs => .ok v outs := rfl
theorem nl_int (i : Int) : noLend (.int i) = true := rfl
theorem nl_str (s : Str) : noLend (.str s) = true := rfl
theorem nl_bl (b : Bool) : noLend (.bl b) = true := rfl
theorem nl_non  : noLend (.non ) = true := rfl
theorem nl_var (i : Nat) : noLend (.var i) = true := rfl
theorem nl_mov (i : Nat) : noLend (.mov i) = true := rfl
theorem nl_bor (i : Nat) : noLend (.bor i) = true := rfl
theorem nl_glob (x : Str) (d : D) : noLend (.glob x d) = true := rfl
theorem nl_rdp (a : E) : noLend (.rdp a) = true := rfl
theorem nl_qt (a : E) : noLend (.qt a) = true := rfl
theorem nl_tup (a : E) : noLend (.tup a) = true := rfl
theorem nl_lst (a : E) : noLend (.lst a) = true := rfl
theorem nl_dic (t : Bool) (a : E) : noLend (.dic t a) = true := rfl
theorem nl_neg (a : E) : noLend (.neg a) = true := rfl
theorem nl_bin (o : Op) (a b : E) : noLend (.bin o a b) = true := rfl
theorem nl_cmp (o : Cp) (a b : E) : noLend (.cmp o a b) = true := rfl
theorem nl_cmpQ (o : Cp) (a b : E) : noLend (.cmpQ o a b) = true := rfl
theorem nl_cmpB (o : Cp) (i : Nat) (b : E) : noLend (.cmpB o i b) = true := rfl
theorem nl_mthB (m : Mth) (i : Nat) (es : E) : noLend (.mthB m i es) = true := rfl
theorem nl_chain (o1 o2 : Cp) (a b c : E) : noLend (.chain o1 o2 a b c) = true := rfl
theorem nl_and_ (a b : E) : noLend (.and_ a b) = true := rfl
theorem nl_or_ (a b : E) : noLend (.or_ a b) = true := rfl
theorem nl_not_ (a : E) : noLend (.not_ a) = true := rfl
theorem nl_ite (a b c : E) : noLend (.ite a b c) = true := rfl
theorem nl_idx (a i : E) : noLend (.idx a i) = true := rfl
theorem nl_slc (a b c : E) : noLend (.slc a b c) = true := rfl
theorem nl_rev (a : E) : noLend (.rev a) = true := rfl
theorem nl_call (f : Nat) (es : E) : noLend (.call f es) = true := rfl
theorem nl_bi (b : Bi) (es : E) : noLend (.bi b es) = true := rfl
theorem nl_mth (m : Mth) (a es : E) : noLend (.mth m a es) = true := rfl
theorem nl_isI (a : E) (ts : List Ty) : noLend (.isI a ts) = true := rfl
theorem nl_mut (m : Mu) (a es : E) : noLend (.mut m a es) = true := rfl
theorem nl_sdap (i : Nat) (k v : E) : noLend (.sdap i k v) = true := rfl
theorem nl_lc (w : List Nat) (t : Tg) (a b c : E) : noLend (.lc w t a b c) = true := rfl
theorem nl_dc (w : List Nat) (t : Tg) (a b c : E) : noLend (.dc w t a b c) = true := rfl
theorem nl_eis (cs : List Nat) : noLend (.eis cs) = true := rfl
theorem nl_efld (k : Nat) : noLend (.efld k) = true := rfl
def NU := And.intro @nl_int <| And.intro @nl_str <| And.intro @nl_bl <| And.intro @nl_non <| And.intro @nl_var <| And.intro @nl_mov <| And.intro @nl_bor <| And.intro @nl_glob <| And.intro @nl_rdp <| And.intro @nl_qt <| And.intro @nl_tup <| And.intro @nl_lst <| And.intro @nl_dic <| And.intro @nl_neg <| And.intro @nl_bin <| And.intro @nl_cmp <| And.intro @nl_cmpQ <| And.intro @nl_cmpB <| And.intro @nl_mthB <| And.intro @nl_chain <| And.intro @nl_and_ <| And.intro @nl_or_ <| And.intro @nl_not_ <| And.intro @nl_ite <| And.intro @nl_idx <| And.intro @nl_slc <| And.intro @nl_rev <| And.intro @nl_call <| And.intro @nl_bi <| And.intro @nl_mth <| And.intro @nl_isI <| And.intro @nl_mut <| And.intro @nl_sdap <| And.intro @nl_lc <| And.intro @nl_dc <| And.intro @nl_eis <| @nl_efld
theorem MU : min 0 1 = (0 : Nat) ∧ max 0 1 = (1 : Nat) ∧ min 0 2 = (0 : Nat) ∧ max 0 2 = (2 : Nat) ∧ min 0 3 = (0 : Nat) ∧ max 0 3 = (3 : Nat) ∧ min 0 4 = (0 : Nat) ∧ max 0 4 = (4 : Nat) ∧ min 0 5 = (0 : Nat) ∧ max 0 5 = (5 : Nat) ∧ min 0 6 = (0 : Nat) ∧ max 0 6 = (6 : Nat) ∧ min 0 7 = (0 : Nat) ∧ max 0 7 = (7 : Nat) ∧ min 0 8 = (0 : Nat) ∧ max 0 8 = (8 : Nat) ∧ min 0 9 = (0 : Nat) ∧ max 0 9 = (9 : Nat) ∧ min 0 10 = (0 : Nat) ∧ max 0 10 = (10 : Nat) ∧ min 0 11 = (0 : Nat) ∧ max 0 11 = (11 : Nat) ∧ min 1 0 = (0 : Nat) ∧ max 1 0 = (1 : Nat) ∧ min 1 2 = (1 : Nat) ∧ max 1 2 = (2 : Nat) ∧ min 1 3 = (1 : Nat) ∧ max 1 3 = (3 : Nat) ∧ min 1 4 = (1 : Nat) ∧ max 1 4 = (4 : Nat) ∧ min 1 5 = (1 : Nat) ∧ max 1 5 = (5 : Nat) ∧ min 1 6 = (1 : Nat) ∧ max 1 6 = (6 : Nat) ∧ min 1 7 = (1 : Nat) ∧ max 1 7 = (7 : Nat) ∧ min 1 8 = (1 : Nat) ∧ max 1 8 = (8 : Nat) ∧ min 1 9 = (1 : Nat) ∧ max 1 9 = (9 : Nat) ∧ min 1 10 = (1 : Nat) ∧ max 1 10 = (10 : Nat) ∧ min 1 11 = (1 : Nat) ∧ max 1 11 = (11 : Nat) ∧ min 2 0 = (0 : Nat) ∧ max 2 0 = (2 : Nat) ∧ min 2 1 = (1 : Nat) ∧ max 2 1 = (2 : Nat) ∧ min 2 3 = (2 : Nat) ∧ max 2 3 = (3 : Nat) ∧ min 2 4 = (2 : Nat) ∧ max 2 4 = (4 : Nat) ∧ min 2 5 = (2 : Nat) ∧ max 2 5 = (5 : Nat) ∧ min 2 6 = (2 : Nat) ∧ max 2 6 = (6 : Nat) ∧ min 2 7 = (2 : Nat) ∧ max 2 7 = (7 : Nat) ∧ min 2 8 = (2 : Nat) ∧ max 2 8 = (8 : Nat) ∧ min 2 9 = (2 : Nat) ∧ max 2 9 = (9 : Nat) ∧ min 2 10 = (2 : Nat) ∧ max 2 10 = (10 : Nat) ∧ min 2 11 = (2 : Nat) ∧ max 2 11 = (11 : Nat) ∧ min 3 0 = (0 : Nat) ∧ max 3 0 = (3 : Nat) ∧ min 3 1 = (1 : Nat) ∧ max 3 1 = (3 : Nat) ∧ min 3 2 = (2 : Nat) ∧ max 3 2 = (3 : Nat) ∧ min 3 4 = (3 : Nat) ∧ max 3 4 = (4 : Nat) ∧ min 3 5 = (3 : Nat) ∧ max 3 5 = (5 : Nat) ∧ min 3 6 = (3 : Nat) ∧ max 3 6 = (6 : Nat) ∧ min 3 7 = (3 : Nat) ∧ max 3 7 = (7 : Nat) ∧ min 3 8 = (3 : Nat) ∧ max 3 8 = (8 : Nat) ∧ min 3 9 = (3 : Nat) ∧ max 3 9 = (9 : Nat) ∧ min 3 10 = (3 : Nat) ∧ max 3 10 = (10 : Nat) ∧ min 3 11 = (3 : Nat) ∧ max 3 11 = (11 : Nat) ∧ min 4 0 = (0 : Nat) ∧ max 4 0 = (4 : Nat) ∧ min 4 1 = (1 : Nat) ∧ max 4 1 = (4 : Nat) ∧ min 4 2 = (2 : Nat) ∧ max 4 2 = (4 : Nat) ∧ min 4 3 = (3 : Nat) ∧ max 4 3 = (4 : Nat) ∧ min 4 5 = (4 : Nat) ∧ max 4 5 = (5 : Nat) ∧ min 4 6 = (4 : Nat) ∧ max 4 6 = (6 : Nat) ∧ min 4 7 = (4 : Nat) ∧ max 4 7 = (7 : Nat) ∧ min 4 8 = (4 : Nat) ∧ max 4 8 = (8 : Nat) ∧ min 4 9 = (4 : Nat) ∧ max 4 9 = (9 : Nat) ∧ min 4 10 = (4 : Nat) ∧ max 4 10 = (10 : Nat) ∧ min 4 11 = (4 : Nat) ∧ max 4 11 = (11 : Nat) ∧ min 5 0 = (0 : Nat) ∧ max 5 0 = (5 : Nat) ∧ min 5 1 = (1 : Nat) ∧ max 5 1 = (5 : Nat) ∧ min 5 2 = (2 : Nat) ∧ max 5 2 = (5 : Nat) ∧ min 5 3 = (3 : Nat) ∧ max 5 3 = (5 : Nat) ∧ min 5 4 = (4 : Nat) ∧ max 5 4 = (5 : Nat) ∧ min 5 6 = (5 : Nat) ∧ max 5 6 = (6 : Nat) ∧ min 5 7 = (5 : Nat) ∧ max 5 7 = (7 : Nat) ∧ min 5 8 = (5 : Nat) ∧ max 5 8 = (8 : Nat) ∧ min 5 9 = (5 : Nat) ∧ max 5 9 = (9 : Nat) ∧ min 5 10 = (5 : Nat) ∧ max 5 10 = (10 : Nat) ∧ min 5 11 = (5 : Nat) ∧ max 5 11 = (11 : Nat) ∧ min 6 0 = (0 : Nat) ∧ max 6 0 = (6 : Nat) ∧ min 6 1 = (1 : Nat) ∧ max 6 1 = (6 : Nat) ∧ min 6 2 = (2 : Nat) ∧ max 6 2 = (6 : Nat) ∧ min 6 3 = (3 : Nat) ∧ max 6 3 = (6 : Nat) ∧ min 6 4 = (4 : Nat) ∧ max 6 4 = (6 : Nat) ∧ min 6 5 = (5 : Nat) ∧ max 6 5 = (6 : Nat) ∧ min 6 7 = (6 : Nat) ∧ max 6 7 = (7 : Nat) ∧ min 6 8 = (6 : Nat) ∧ max 6 8 = (8 : Nat) ∧ min 6 9 = (6 : Nat) ∧ max 6 9 = (9 : Nat) ∧ min 6 10 = (6 : Nat) ∧ max 6 10 = (10 : Nat) ∧ min 6 11 = (6 : Nat) ∧ max 6 11 = (11 : Nat) ∧ min 7 0 = (0 : Nat) ∧ max 7 0 = (7 : Nat) ∧ min 7 1 = (1 : Nat) ∧ max 7 1 = (7 : Nat) ∧ min 7 2 = (2 : Nat) ∧ max 7 2 = (7 : Nat) ∧ min 7 3 = (3 : Nat) ∧ max 7 3 = (7 : Nat) ∧ min 7 4 = (4 : Nat) ∧ max 7 4 = (7 : Nat) ∧ min 7 5 = (5 : Nat) ∧ max 7 5 = (7 : Nat) ∧ min 7 6 = (6 : Nat) ∧ max 7 6 = (7 : Nat) ∧ min 7 8 = (7 : Nat) ∧ max 7 8 = (8 : Nat) ∧ min 7 9 = (7 : Nat) ∧ max 7 9 = (9 : Nat) ∧ min 7 10 = (7 : Nat) ∧ max 7 10 = (10 : Nat) ∧ min 7 11 = (7 : Nat) ∧ max 7 11 = (11 : Nat) ∧ min 8 0 = (0 : Nat) ∧ max 8 0 = (8 : Nat) ∧ min 8 1 = (1 : Nat) ∧ max 8 1 = (8 : Nat) ∧ min 8 2 = (2 : Nat) ∧ max 8 2 = (8 : Nat) ∧ min 8 3 = (3 : Nat) ∧ max 8 3 = (8 : Nat) ∧ min 8 4 = (4 : Nat) ∧ max 8 4 = (8 : Nat) ∧ min 8 5 = (5 : Nat) ∧ max 8 5 = (8 : Nat) ∧ min 8 6 = (6 : Nat) ∧ max 8 6 = (8 : Nat) ∧ min 8 7 = (7 : Nat) ∧ max 8 7 = (8 : Nat) ∧ min 8 9 = (8 : Nat) ∧ max 8 9 = (9 : Nat) ∧ min 8 10 = (8 : Nat) ∧ max 8 10 = (10 : Nat) ∧ min 8 11 = (8 : Nat) ∧ max 8 11 = (11 : Nat) ∧ min 9 0 = (0 : Nat) ∧ max 9 0 = (9 : Nat) ∧ min 9 1 = (1 : Nat) ∧ max 9 1 = (9 : Nat) ∧ min 9 2 = (2 : Nat) ∧ max 9 2 = (9 : Nat) ∧ min 9 3 = (3 : Nat) ∧ max 9 3 = (9 : Nat) ∧ min 9 4 = (4 : Nat) ∧ max 9 4 = (9 : Nat) ∧ min 9 5 = (5 : Nat) ∧ max 9 5 = (9 : Nat) ∧ min 9 6 = (6 : Nat) ∧ max 9 6 = (9 : Nat) ∧ min 9 7 = (7 : Nat) ∧ max 9 7 = (9 : Nat) ∧ min 9 8 = (8 : Nat) ∧ max 9 8 = (9 : Nat) ∧ min 9 10 = (9 : Nat) ∧ max 9 10 = (10 : Nat) ∧ min 9 11 = (9 : Nat) ∧ max 9 11 = (11 : Nat) ∧ min 10 0 = (0 : Nat) ∧ max 10 0 = (10 : Nat) ∧ min 10 1 = (1 : Nat) ∧ max 10 1 = (10 : Nat) ∧ min 10 2 = (2 : Nat) ∧ max 10 2 = (10 : Nat) ∧ min 10 3 = (3 : Nat) ∧ max 10 3 = (10 : Nat) ∧ min 10 4 = (4 : Nat) ∧ max 10 4 = (10 : Nat) ∧ min 10 5 = (5 : Nat) ∧ max 10 5 = (10 : Nat) ∧ min 10 6 = (6 : Nat) ∧ max 10 6 = (10 : Nat) ∧ min 10 7 = (7 : Nat) ∧ max 10 7 = (10 : Nat) ∧ min 10 8 = (8 : Nat) ∧ max 10 8 = (10 : Nat) ∧ min 10 9 = (9 : Nat) ∧ max 10 9 = (10 : Nat) ∧ min 10 11 = (10 : Nat) ∧ max 10 11 = (11 : Nat) ∧ min 11 0 = (0 : Nat) ∧ max 11 0 = (11 : Nat) ∧ min 11 1 = (1 : Nat) ∧ max 11 1 = (11 : Nat) ∧ min 11 2 = (2 : Nat) ∧ max 11 2 = (11 : Nat) ∧ min 11 3 = (3 : Nat) ∧ max 11 3 = (11 : Nat) ∧ min 11 4 = (4 : Nat) ∧ max 11 4 = (11 : Nat) ∧ min 11 5 = (5 : Nat) ∧ max 11 5 = (11 : Nat) ∧ min 11 6 = (6 : Nat) ∧ max 11 6 = (11 : Nat) ∧ min 11 7 = (7 : Nat) ∧ max 11 7 = (11 : Nat) ∧ min 11 8 = (8 : Nat) ∧ max 11 8 = (11 : Nat) ∧ min 11 9 = (9 : Nat) ∧ max 11 9 = (11 : Nat) ∧ min 11 10 = (10 : Nat) ∧ max 11 10 = (11 : Nat) := by repeat (first | exact rfl | refine ⟨rfl, ?_⟩)
theorem dl_nil {acc : List (D × D)} {n : Nat} : dicL [] acc n = some (n, acc) := rfl
theorem dl_cons {k v : Nat × D} {r : List (Nat × D)} {acc : List (D × D)} {n : Nat} (h : kindOk acc k.2 = true) : dicL (k :: v :: r) acc n = dicL r (putK acc k.2 v.2) (min n (if atm v.2 then 9 else v.1)) := by
  show (if kindOk acc k.2 then _ else _) = _
  rw [if_pos h]
/-- the part at an index -/
theorem pick {α β : Type} (f : α → β) (xs : List α) {x : Int} (h0 : 0 ≤ x) (h1 : x < xs.length) : ∃ a ∈ xs, (xs.map f)[x.toNat]? = some (f a) := by
  have h : x.toNat < xs.length := by omega
  exact ⟨xs[x.toNat], List.getElem_mem h, by simp [h]⟩
theorem wi_nil {ρ : Env} : wipeE ρ [] = ρ := rfl
theorem wi_cons {ρ : Env} {i : Nat} {is : List Nat} : wipeE ρ (i :: is) = setE (wipeE ρ is) i none := rfl
theorem wpc_ok {v : Nat × D} {outs : List (Nat × D)} {K : CR → Prop} : wpc (.ok v outs) K = K (.ok v outs) := propext ⟨fun x => x.h, fun x => ⟨x⟩⟩
theorem wpc_exc {c : Nat} {ds : List D} {outs : List (Nat × D)} {K : CR → Prop} : wpc (.exc c ds outs) K = K (.exc c ds outs) := propext ⟨fun x => x.h, fun x => ⟨x⟩⟩
/-! ### calls -/
def kret (is : List Nat) (K : CR → Prop) (o : O) (_ : Hold K := .mk) : Prop := match retC is o with
  | .bad => False
  | r => K r
theorem kr_nx {is : List Nat} {K : CR → Prop} {ρ : Env} : kret is K (.nx ρ) = wpo (outsOf ρ is) (fun outs => K (.ok (9, .none) outs)) False := by
  unfold kret
  simp only [retC, fin]
  cases outsOf ρ is <;> rfl
theorem kr_rt {is : List Nat} {K : CR → Prop} {v : Nat × D} {ρ : Env} : kret is K (.rt v ρ) = wpo (outsOf ρ is) (fun outs => K (.ok v outs)) False := by
  unfold kret
  simp only [retC, fin]
  cases outsOf ρ is <;> rfl
theorem kr_exc {is : List Nat} {K : CR → Prop} {c : Nat} {ds : List D} {ρ : Env} : kret is K (.exc c ds ρ) = wpo (outsOf ρ is) (fun outs => K (.exc c ds outs)) False := by
  unfold kret
  simp only [retC, fin]
  cases outsOf ρ is <;> rfl
theorem oo_nil {ρ : Env} : outsOf ρ [] = some [] := rfl
def oo1 (v : Option (Nat × D)) (o : Option (List (Nat × D))) : Option (List (Nat × D)) := match v, o with
  | some v, some vs => some (v :: vs)
  | _, _ => none
theorem oo1_s {v : Nat × D} {vs : List (Nat × D)} : oo1 (some v) (some vs) = some (v :: vs) := rfl
theorem oo_cons {ρ : Env} {i : Nat} {is : List Nat} : outsOf ρ (i :: is) = oo1 (getE ρ i) (outsOf ρ is) := by
  show (match getE ρ i, outsOf ρ is with
    | some v, some vs => some (v :: vs)
    | _, _ => none) = _
  cases getE ρ i <;> cases outsOf ρ is <;> rfl
theorem wpc_run {tbl : List Fn} {sub : Nat → Nat → Bool} {n f : Nat} {as : List (Nat × D)} {F : Fn} {K : CR → Prop} (h : tbl[f]? = some F) (ha : as.length = F.ar) (hb : wpx ⟨run tbl sub n, sub, none⟩ F.body (startE F.slots as) (kret F.lent K)) : wpc (run tbl sub (n + 1) f as) K := by
  have e : run tbl sub (n + 1) f as = retC F.lent (ex ⟨run tbl sub n, sub, none⟩ F.body (startE F.slots as)) := by
    unfold run
    rw [h]
    simp only
    rw [if_pos (by simpa using ha)]
  refine ⟨?_⟩
  rw [e]
  unfold wpx at hb
  cases e2 : ex ⟨run tbl sub n, sub, none⟩ F.body (startE F.slots as) with
  | bad => rw [e2] at hb; exact hb.elim
  | nx ρ => rw [e2] at hb; simp only [stO, kret] at hb; split at hb; exact hb.elim; exact hb
  | rt v ρ => rw [e2] at hb; simp only [stO, kret] at hb; split at hb; exact hb.elim; exact hb
  | bk ρ => rw [e2] at hb; exact hb.elim
  | ct ρ => rw [e2] at hb; exact hb.elim
  | exc c ds ρ => rw [e2] at hb; simp only [stO, kret] at hb; split at hb; exact hb.elim; exact hb
/-! ### the rules as two bundles: what goes ahead, what is known -/
def RU := And.intro @go_eq <| And.intro @we_int <| And.intro @we_str <| And.intro @we_bl <| And.intro @we_non <| And.intro @we_var <| And.intro @we_mov <| And.intro @we_glob <| And.intro @we_rdp <| And.intro @we_qt <| And.intro @we_tup <| And.intro @we_lst <| And.intro @we_neg <| And.intro @we_bin <| And.intro @we_cmp <| And.intro @we_cmpQ <| And.intro @we_cmpB <| And.intro @we_chain <| And.intro @we_and <| And.intro @we_or <| And.intro @we_not <| And.intro @we_ite <| And.intro @we_idx <| And.intro @we_slc <| And.intro @we_rev <| And.intro @we_call <| And.intro @wpc_ok <| And.intro @wpc_exc <| And.intro @kcall_ok <| And.intro @kcall_exc <| And.intro @we_bi <| And.intro @we_mth <| And.intro @we_isI <| And.intro @we_mut0 <| And.intro @we_dic <| And.intro @we_eis <| And.intro @we_lc <| And.intro @wps_nil <| And.intro @wps_lend <| And.intro @wps_cons <| And.intro @wpt_nil <| And.intro @wpt_one <| And.intro @wpi_r1 <| And.intro @wpi_r2 <| And.intro @wpi_enum <| And.intro @wpi_seq <| And.intro @wx_nop <| And.intro @wx_pass <| And.intro @wx_brk <| And.intro @wx_cont <| And.intro @wx_seq <| And.intro @wx_expr <| And.intro @wx_asg <| And.intro @wx_sto' <| And.intro @wx_aug <| And.intro @wx_ret <| And.intro @wx_retN <| And.intro @wx_ite <| And.intro @wx_rais <| And.intro @wx_for <|
  And.intro @kb_ok <| And.intro @kb_exc <| And.intro @ke_ok <| And.intro @ke_exc <| And.intro @kq_nx <| And.intro @kq_rt <| And.intro @kq_bk <| And.intro @kq_ct <| And.intro @kq_exc <| And.intro @kr_nx <| And.intro @kr_rt <| And.intro @kr_exc <| And.intro @wp_pv <| And.intro @wp_pi <| And.intro @wq_int <| And.intro @wq_str <| And.intro @wq_var <| And.intro @wq_bor <| And.intro @wq_bin <| And.intro @wq_neg <| And.intro @wq_idx <| And.intro @wq_len <| And.intro @wq_rdp <| And.intro @wpo_some <| And.intro @wpo_none <| And.intro @wbool_b <| And.intro @wint_i <| And.intro @wintD_i <| And.intro @wlst_l <| And.intro @way_t <| And.intro @way_f <| And.intro @wvar_i <| And.intro @wvar_b <| And.intro @wvar_s <| And.intro @wvar_n <| And.intro @wvar_l <| And.intro @wvar_t <| @wvar_d
def DU := And.intro @getE_0 <| And.intro @getE_s <| And.intro @setE_0 <| And.intro @setE_s <| And.intro @op_add <| And.intro @op_sub <| And.intro @op_mul <| And.intro @op_fdiv <| And.intro @op_mod <| And.intro @op_pow <| And.intro @op_cat <| And.intro @cp_eq_i <| And.intro @cp_ne_i <| And.intro @cp_lt_i <| And.intro @cp_le_i <| And.intro @cp_gt_i <| And.intro @cp_ge_i <| And.intro @stoW_1 <| And.intro @stoW_2 <| And.intro @sto2_s <| And.intro @sto1_s <| And.intro @sto_l <| And.intro @dmin_i <| And.intro @dmin_b <| And.intro @dmin_s <| And.intro @dmin_l <| And.intro @dmin_t <| And.intro @ix_l <| And.intro @ix_t <| And.intro @gp_nil <| And.intro @gp1_s <| And.intro @gp_cons <| And.intro @atm_i <| And.intro @atm_b <| And.intro @atm_s <| And.intro @atm_n <| And.intro @atm_l <| And.intro @atm_t <| And.intro @atm_d <| And.intro @sv_i <| And.intro @sv_b <| And.intro @sv_s <| And.intro @sv_n <| And.intro @sv_l <| And.intro @sv_t <| And.intro @sv_d <| And.intro @bt_nm <| And.intro @bt_nms <| And.intro @ba_nil <| And.intro @ba_cons <| And.intro @lv_nil <| And.intro @lv1_s <| And.intro @lv_cons <| And.intro @lvl_s <| And.intro @lv_lend <| And.intro @lb_nil <| And.intro @lb_cons <| And.intro @lb_lend <| And.intro @bi_len <| And.intro @bi_lenT <| And.intro @bi_abs <| And.intro @bi_max2 <| And.intro @bi_min2 <| And.intro @bi_int <| And.intro @bi_intb <| And.intro @bi_list <| And.intro @bi_listT <| And.intro @bi_tuple <| And.intro @bi_bit <| And.intro @bi_r1 <| And.intro @bi_r2 <| And.intro @omap_s <| And.intro @omap_n <| And.intro @rng_lo <| And.intro @it_l <| And.intro @it_t <| And.intro @cd_nil <| And.intro @cd_cons <| And.intro @mok_l <| And.intro @mok_g <| And.intro @mok_g1 <| And.intro @muk_a <| And.intro @muk_e <| And.intro @muk_p <| And.intro @mu_app <| And.intro @mu_ext <| And.intro @slc_l <| And.intro @opt_n <| And.intro @opt_i <| And.intro @hd_nil <| And.intro @hd_cons <| And.intro @cp_isN <| And.intro @cp_notN <| And.intro @wi_nil <| And.intro @dl_nil <| And.intro @wi_cons <| And.intro @oo_nil <| And.intro @oo1_s <| And.intro @oo_cons <| @MU
end PL

/-! PL32: draws off a bag of numbers. -/
namespace PL
open PySem L2
open PySem (PyData Str)
def drawB (fs : Nat) : S := (.seq (.ite (.and_ (.cmp .eq (.rdp (.pi (.pv 0) (.int 2))) (.int 0)) (.cmp .lt (.rdp (.pi (.pv 0) (.int 1))) (.qt (.bi .len (.cons (.rdp (.pi (.pv 0) (.int 0))) .nil))))) (.seq (.sto (.pi (.pv 0) (.int 2)) (.rdp (.pi (.pi (.pv 0) (.int 0)) (.rdp (.pi (.pv 0) (.int 1)))))) (.seq (.sto (.pi (.pv 0) (.int 1)) (.bin .add (.rdp (.pi (.pv 0) (.int 1))) (.int 1))) .nop)) (.seq (.ite (.cmp .eq (.rdp (.pi (.pv 0) (.int 2))) (.int 0)) (.seq (.ret (.call fs (.cons (.lend 0) (.cons (.var 1) .nil)))) .nop) .nop) .nop)) (.seq (.asg (.nm 2) (.bin .mod (.bi .int (.cons (.rdp (.pi (.pv 0) (.int 2))) .nil)) (.var 1))) (.seq (.sto (.pi (.pv 0) (.int 2)) (.bin .fdiv (.rdp (.pi (.pv 0) (.int 2))) (.var 1))) (.seq (.ret (.mov 2)) .nop))))
def stirB : S := (.seq (.asg (.nm 2) (.int 0)) (.seq (.for_ (.nm 3) (.irng1 (.bin .add (.int 1) (.bin .fdiv (.bi .bitLen (.cons (.var 1) .nil)) (.int 27)))) (.seq (.sto (.pi (.pv 0) (.int 4)) (.bin .add (.rdp (.pi (.pv 0) (.int 4))) (.int 1))) (.seq (.asg (.nm 4) (.bin .add (.bin .add (.bin .add (.bin .pow (.rdp (.pi (.pv 0) (.int 3))) (.int 3)) (.bin .mul (.int 69621) (.rdp (.pi (.pv 0) (.int 3))))) (.bin .mul (.int 1031) (.rdp (.pi (.pv 0) (.int 4))))) (.int 1))) (.seq (.sto (.pi (.pv 0) (.int 3)) (.bin .mod (.bi .int (.cons (.mov 4) .nil)) (.int 2147483647))) (.seq (.asg (.nm 2) (.bin .add (.bin .mul (.var 2) (.int 134217728)) (.bin .fdiv (.rdp (.pi (.pv 0) (.int 3))) (.int 16)))) .nop))))) (.seq (.ret (.bin .mod (.bi .int (.cons (.mov 2) .nil)) (.var 1))) .nop)))
def bagB (seed : Int) : S := (.seq (.asg (.nm 1) (.int seed)) (.seq (.for_ (.nm 2) (.iseq (.slc (.var 0) .nil (.cons (.int 63) .nil))) (.seq (.asg (.nm 1) (.bin .mod (.bi .int (.cons (.bin .add (.bin .add (.bin .mul (.var 1) (.int 48271)) (.bin .mod (.bi .int (.cons (.var 2) .nil)) (.int 2147483629))) (.int 1)) .nil)) (.int 2147483647))) .nop)) (.seq (.ret (.lst (.cons (.lc [2] (.nm 2) (.iseq (.slc (.var 0) .nil (.cons (.int 63) .nil))) .nil (.bin .mod (.bi .int (.cons (.bi .abs (.cons (.var 2) .nil)) .nil)) (.bin .pow (.bin .pow (.int 10) (.int 60)) (.int 10)))) (.cons (.int 0) (.cons (.int 0) (.cons (.mov 1) (.cons (.int 0) .nil))))))) .nop)))
def bagD (cells : List Int) (i r s c : Int) : D := .list [.list (cells.map .int), .int i, .int r, .int s, .int c]
/-- a bag that can be drawn from k times more -/
def BagOk (k : Nat) (v : Nat × D) : Prop := ∃ cells i r s c, v = (10, bagD cells i r s c) ∧ (∀ x ∈ cells, 0 ≤ x) ∧ 0 ≤ i ∧ 0 ≤ r ∧ 0 ≤ s ∧ s < 2147483647 ∧ 0 ≤ c ∧ c + 8 * k ≤ 2 ^ 40
theorem BagOk.less {k m : Nat} {v : Nat × D} (h : BagOk k v) (hm : m ≤ k) : BagOk m v := by
  obtain ⟨cells, i, r, s, c, e, h1, h2, h3, h4, h5, h6, h7⟩ := h
  exact ⟨cells, i, r, s, c, e, h1, h2, h3, h4, h5, h6, by omega⟩
theorem b4 {i : Int} (h0 : 0 ≤ i) (h : i < 2 ^ 216) : bitsOk 4000 i = true := bitsOk_le (k := 216) h0 h (by decide)
theorem b8 {i : Int} (h0 : 0 ≤ i) (h : i < 2 ^ 216) : bitsOk 8000 i = true := bitsOk_le (k := 216) h0 h (by decide)
def BB : Nat → Int
  | 0 => 1
  | j + 1 => BB j * 134217728
theorem BB_le : ∀ j, j ≤ 8 → BB j ≤ 2 ^ 216 := by decide
theorem bk27 : bitsOk 8000 27 = true := by decide +kernel
theorem bk16 : bitsOk 8000 16 = true := by decide +kernel
theorem bk69 : bitsOk 4000 69621 = true := by decide +kernel
theorem bk1031 : bitsOk 4000 1031 = true := by decide +kernel
theorem bk134 : bitsOk 4000 134217728 = true := by decide +kernel
section
variable {tbl : List Fn} {sub : Nat → Nat → Bool} {n fd fs : Nat}
theorem stir_ok (hs : tbl[fs]? = some ⟨2, 5, [0], stirB⟩) {k : Nat} {cells : List Int} {i r s c w : Int} (hw : 0 < w) (hw2 : w < 2 ^ 200) (h4 : 0 ≤ s) (h5 : s < 2147483647) (h6 : 0 ≤ c) (h7 : c + 8 * (k + 1) ≤ 2 ^ 40) (K : CR → Prop)
    (hK : ∀ (s' c' x : Int), 0 ≤ s' → s' < 2147483647 → 0 ≤ c' → c' + 8 * k ≤ 2 ^ 40 → 0 ≤ x → x < w → K (.ok (9, .int x) [(10, bagD cells i r s' c')])) : wpc (run tbl sub (n + 1) fs [(10, bagD cells i r s c), (9, .int w)]) K := by
  refine wpc_run hs rfl ?_
  show wpx _ stirB [some (10, bagD cells i r s c), some (9, .int w), none, none, none] (kret [0] K)
  unfold stirB bagD
  have hb : (if w = 0 then (0 : Int) else ((w.natAbs.log2 + 1 : Nat) : Int)) ≤ 200 ∧ 0 ≤ (if w = 0 then (0 : Int) else ((w.natAbs.log2 + 1 : Nat) : Int)) := by
    rw [if_neg (by omega)]
    have : w.natAbs.log2 < 200 := by
      rw [Nat.log2_lt (by omega)]
      have : ((2 ^ 200 : Nat) : Int) = (2 : Int) ^ 200 := by norm_cast
      omega
    omega
  generalize hbl : (if w = 0 then (0 : Int) else ((w.natAbs.log2 + 1 : Nat) : Int)) = bl at hb
  have hm : ∃ m : Nat, 1 + bl / 27 = (m : Int) ∧ m ≤ 8 := ⟨(1 + bl / 27).toNat, by omega, by omega⟩
  obtain ⟨m, em, hm⟩ := hm
  simp only [↓RU, DU, NU, if_true, if_false, ite_true, ite_false, Bool.false_eq_true, reduceIte, reduceCtorEq, Int.reduceLE, Int.reduceLT, Int.reduceNeg, Int.reduceAdd, Int.reduceSub, Int.reduceMul, Int.reducePow, Int.reduceToNat, Nat.reduceAdd, Nat.reduceSub, Nat.reduceMul, Nat.reduceLT, Nat.reduceLeDiff, Nat.reduceDiv, Nat.reduceMod, Nat.min_self, Nat.max_self, List.getElem?_cons_zero, List.getElem?_cons_succ, List.set_cons_zero, List.set_cons_succ, List.length_cons, List.length_nil, List.map_cons, List.map_nil, List.nil_append, List.cons_append, Bool.not_true, Bool.not_false, decide_true, decide_false, decide_eq_true_eq, decide_eq_false_iff_not, hbl, op_fdiv (by decide : (0 : Int) < 27) bk27, em, rng_lo (a := 0) (b := m) (by decide) (by omega) (by omega) (by decide) (by omega)]
  refine wfor_inv (fun xs ρ => ∃ s c f o3 o4, ρ = [some (10, bagD cells i r s c), some (9, .int w), some (9, .int f), o3, o4] ∧ 0 ≤ s ∧ s < 2147483647 ∧ 0 ≤ c ∧ c + xs.length + 8 * k ≤ 2 ^ 40 ∧ 0 ≤ f ∧ xs.length ≤ m ∧ f < BB (m - xs.length)) ?_ ?_ ?_
  · refine ⟨s, c, 0, none, none, rfl, h4, h5, h6, ?_, by decide, ?_, ?_⟩
    · rw [rng_len]; omega
    · rw [rng_len]; omega
    · rw [rng_len, show m - (((m : Int) - 0).toNat) = 0 by omega]; decide
  · rintro x rest ρ ⟨s, c, f, o3, o4, rfl, g1, g2, g3, g4, g5, g6, g7⟩
    rw [List.length_cons] at g4 g6 g7
    have hB := BB_le (m - rest.length) (by omega)
    have hB1 : BB (m - rest.length) = BB (m - (rest.length + 1)) * 134217728 := by
      rw [show m - rest.length = (m - (rest.length + 1)) + 1 by omega]; rfl
    have q1 := b4 (i := s) g1 (by omega)
    have q2 := b4 (i := c + 1) (by omega) (by omega)
    have q3 := b4 (i := f) g5 (by omega)
    unfold bagD
    simp only [↓RU, DU, NU, if_true, if_false, ite_true, ite_false, Bool.false_eq_true, reduceIte, reduceCtorEq, Int.reduceLE, Int.reduceLT, Int.reduceNeg, Int.reduceAdd, Int.reduceSub, Int.reduceMul, Int.reducePow, Int.reduceToNat, Nat.reduceAdd, Nat.reduceSub, Nat.reduceMul, Nat.reduceLT, Nat.reduceLeDiff, Nat.reduceDiv, Nat.reduceMod, Nat.min_self, Nat.max_self, List.getElem?_cons_zero, List.getElem?_cons_succ, List.set_cons_zero, List.set_cons_succ, List.length_cons, List.length_nil, List.map_cons, List.map_nil, List.nil_append, List.cons_append, Bool.not_true, Bool.not_false, decide_true, decide_false, decide_eq_true_eq, decide_eq_false_iff_not, op_pow (i := s) (j := 3) (by decide) (by decide) q1, op_mul bk69 q1, op_mul bk1031 q2, op_mod (j := 2147483647) (by decide), op_mul q3 bk134, op_fdiv (j := 16) (by decide) bk16]
    refine ⟨_, _, _, _, _, rfl, Int.emod_nonneg _ (by decide), Int.emod_lt_of_pos _ (by decide), by omega, by omega, ?_, by omega, ?_⟩
    · have := Int.emod_nonneg (s ^ Int.toNat 3 + 69621 * s + 1031 * (c + 1) + 1) (b := 2147483647) (by decide)
      omega
    · rw [hB1]
      have := Int.emod_nonneg (s ^ Int.toNat 3 + 69621 * s + 1031 * (c + 1) + 1) (b := 2147483647) (by decide)
      have := Int.emod_lt_of_pos (s ^ Int.toNat 3 + 69621 * s + 1031 * (c + 1) + 1) (b := 2147483647) (by decide)
      omega
  · rintro ρ ⟨s, c, f, o3, o4, rfl, g1, g2, g3, g4, g5, g6, g7⟩
    simp only [↓RU, DU, NU, if_true, if_false, ite_true, ite_false, Bool.false_eq_true, reduceIte, reduceCtorEq, Int.reduceLE, Int.reduceLT, Int.reduceNeg, Int.reduceAdd, Int.reduceSub, Int.reduceMul, Int.reducePow, Int.reduceToNat, Nat.reduceAdd, Nat.reduceSub, Nat.reduceMul, Nat.reduceLT, Nat.reduceLeDiff, Nat.reduceDiv, Nat.reduceMod, Nat.min_self, Nat.max_self, List.getElem?_cons_zero, List.getElem?_cons_succ, List.set_cons_zero, List.set_cons_succ, List.length_cons, List.length_nil, List.map_cons, List.map_nil, List.nil_append, List.cons_append, Bool.not_true, Bool.not_false, decide_true, decide_false, decide_eq_true_eq, decide_eq_false_iff_not, op_mod hw]
    refine hK _ _ _ g1 g2 g3 ?_ (Int.emod_nonneg _ (by omega)) (Int.emod_lt_of_pos _ hw)
    rw [List.length_nil] at g4
    omega
theorem draw_ok (hd : tbl[fd]? = some ⟨2, 3, [0], drawB fs⟩) (hs : tbl[fs]? = some ⟨2, 5, [0], stirB⟩) {k : Nat} {v : Nat × D} {w : Int} (hb : BagOk (k + 1) v) (hw : 0 < w) (hw2 : w < 2 ^ 200) (K : CR → Prop)
    (hK : ∀ b' x, BagOk k b' → 0 ≤ x → x < w → K (.ok (9, .int x) [b'])) : wpc (run tbl sub (n + 2) fd [v, (9, .int w)]) K := by
  obtain ⟨cells, i, r, s, c, rfl, h1, h2, h3, h4, h5, h6, h7⟩ := hb
  refine wpc_run hd rfl ?_
  show wpx _ (drawB fs) [some (10, bagD cells i r s c), some (9, .int w), none] (kret [0] K)
  have hw3 := b8 (i := w) (by omega) (by omega)
  by_cases hr : r = 0
  · by_cases hi : i < cells.length
    · subst hr
      obtain ⟨j, rfl⟩ : ∃ j : Nat, i = (j : Int) := ⟨i.toNat, by omega⟩
      have hj : j < cells.length := by omega
      have e : (cells.map PyData.int)[(j : Int).toNat]? = some (.int (cells[j])) := by simp [hj]
      have e2 : (decide ((j : Int) < ((cells.map PyData.int).length : Int))) = true := by simpa using hj
      have e3 : (0 : Int) ≤ (j : Int) := by omega
      have hx := h1 (cells[j]) (List.getElem_mem hj)
      unfold drawB bagD
      simp only [↓RU, DU, NU, if_true, if_false, ite_true, ite_false, Bool.false_eq_true, reduceIte, reduceCtorEq, Int.reduceLE, Int.reduceLT, Int.reduceNeg, Int.reduceAdd, Int.reduceSub, Int.reduceMul, Int.reducePow, Int.reduceToNat, Nat.reduceAdd, Nat.reduceSub, Nat.reduceMul, Nat.reduceLT, Nat.reduceLeDiff, Nat.reduceDiv, Nat.reduceMod, Nat.min_self, Nat.max_self, List.getElem?_cons_zero, List.getElem?_cons_succ, List.set_cons_zero, List.set_cons_succ, List.length_cons, List.length_nil, List.map_cons, List.map_nil, List.nil_append, List.cons_append, Bool.not_true, Bool.not_false, decide_true, decide_false, decide_eq_true_eq, decide_eq_false_iff_not, e, e2, e3, op_mod hw, op_fdiv hw hw3]
      exact hK _ _ ⟨cells, _, _, s, c, rfl, h1, by omega, Int.ediv_nonneg hx (by omega), h4, h5, h6, by omega⟩ (Int.emod_nonneg _ (by omega)) (Int.emod_lt_of_pos _ hw)
    · subst hr
      have e2 : (decide (i < ((cells.map PyData.int).length : Int))) = false := by simpa using hi
      unfold drawB bagD
      simp only [↓RU, DU, NU, if_true, if_false, ite_true, ite_false, Bool.false_eq_true, reduceIte, reduceCtorEq, Int.reduceLE, Int.reduceLT, Int.reduceNeg, Int.reduceAdd, Int.reduceSub, Int.reduceMul, Int.reducePow, Int.reduceToNat, Nat.reduceAdd, Nat.reduceSub, Nat.reduceMul, Nat.reduceLT, Nat.reduceLeDiff, Nat.reduceDiv, Nat.reduceMod, Nat.min_self, Nat.max_self, List.getElem?_cons_zero, List.getElem?_cons_succ, List.set_cons_zero, List.set_cons_succ, List.length_cons, List.length_nil, List.map_cons, List.map_nil, List.nil_append, List.cons_append, Bool.not_true, Bool.not_false, decide_true, decide_false, decide_eq_true_eq, decide_eq_false_iff_not, e2]
      refine stir_ok (k := k) (cells := cells) hs hw hw2 h4 h5 h6 (by omega) _ fun s' c' x g1 g2 g3 g4 g5 g6 => ?_
      simp only [↓RU, DU, NU, if_true, if_false, ite_true, ite_false, Bool.false_eq_true, reduceIte, reduceCtorEq, Int.reduceLE, Int.reduceLT, Int.reduceNeg, Int.reduceAdd, Int.reduceSub, Int.reduceMul, Int.reducePow, Int.reduceToNat, Nat.reduceAdd, Nat.reduceSub, Nat.reduceMul, Nat.reduceLT, Nat.reduceLeDiff, Nat.reduceDiv, Nat.reduceMod, Nat.min_self, Nat.max_self, List.getElem?_cons_zero, List.getElem?_cons_succ, List.set_cons_zero, List.set_cons_succ, List.length_cons, List.length_nil, List.map_cons, List.map_nil, List.nil_append, List.cons_append, Bool.not_true, Bool.not_false, decide_true, decide_false, decide_eq_true_eq, decide_eq_false_iff_not]
      exact hK _ _ ⟨cells, i, 0, s', c', rfl, h1, h2, by decide, g1, g2, g3, g4⟩ g5 g6
  · unfold drawB bagD
    simp only [↓RU, DU, NU, if_true, if_false, ite_true, ite_false, Bool.false_eq_true, reduceIte, reduceCtorEq, Int.reduceLE, Int.reduceLT, Int.reduceNeg, Int.reduceAdd, Int.reduceSub, Int.reduceMul, Int.reducePow, Int.reduceToNat, Nat.reduceAdd, Nat.reduceSub, Nat.reduceMul, Nat.reduceLT, Nat.reduceLeDiff, Nat.reduceDiv, Nat.reduceMod, Nat.min_self, Nat.max_self, List.getElem?_cons_zero, List.getElem?_cons_succ, List.set_cons_zero, List.set_cons_succ, List.length_cons, List.length_nil, List.map_cons, List.map_nil, List.nil_append, List.cons_append, Bool.not_true, Bool.not_false, decide_true, decide_false, decide_eq_true_eq, decide_eq_false_iff_not, hr, op_mod hw, op_fdiv hw hw3]
    exact hK _ _ ⟨cells, i, r / w, s, c, rfl, h1, h2, Int.ediv_nonneg h3 (by omega), h4, h5, h6, by omega⟩ (Int.emod_nonneg _ (by omega)) (Int.emod_lt_of_pos _ hw)
theorem fm_some {α β : Type} (f : α → β) : ∀ l : List α, l.filterMap (fun x => some (f x)) = l.map f
  | [] => rfl
  | x :: l => by simp only [List.filterMap_cons, List.map_cons, fm_some f l]
theorem cutL_map {α β : Type} (f : α → β) (xs : List α) (lo hi : Option Int) : cutL (xs.map f) lo hi = (cutL xs lo hi).map f := by
  unfold cutL
  rw [List.length_map, List.map_take, List.map_drop]
theorem bk48 : bitsOk 4000 48271 = true := by decide +kernel
theorem bag_ok {fb : Nat} {seed : Int} (hd : tbl[fb]? = some ⟨1, 3, [], bagB seed⟩) (hs0 : 0 ≤ seed) (hs1 : seed < 2147483647) {ns : List Int} (hl : ns.length ≤ 63) (K : CR → Prop) (hK : ∀ b, BagOk (2 ^ 36) b → K (.ok b [])) : wpc (run tbl sub (n + 1) fb [(0, .list (ns.map .int))]) K := by
  refine wpc_run hd rfl ?_
  show wpx _ (bagB seed) [some (0, .list (ns.map .int)), none, none] (kret [] K)
  unfold bagB
  simp only [↓RU, DU, NU, if_true, if_false, ite_true, ite_false, Bool.false_eq_true, reduceIte, reduceCtorEq, Int.reduceLE, Int.reduceLT, Int.reduceNeg, Int.reduceAdd, Int.reduceSub, Int.reduceMul, Int.reducePow, Int.reduceToNat, Nat.reduceAdd, Nat.reduceSub, Nat.reduceMul, Nat.reduceLT, Nat.reduceLeDiff, Nat.reduceDiv, Nat.reduceMod, Nat.min_self, Nat.max_self, List.getElem?_cons_zero, List.getElem?_cons_succ, List.set_cons_zero, List.set_cons_succ, List.length_cons, List.length_nil, List.map_cons, List.map_nil, List.nil_append, List.cons_append, Bool.not_true, Bool.not_false, decide_true, decide_false, decide_eq_true_eq, decide_eq_false_iff_not, cutL_map]
  refine wfor_inv (fun xs ρ => (∃ ys : List Int, xs = ys.map .int) ∧ ∃ s o, ρ = [some (0, .list (ns.map .int)), some (9, .int s), o] ∧ 0 ≤ s ∧ s < 2147483647) ⟨⟨_, rfl⟩, _, _, rfl, hs0, hs1⟩ ?_ ?_
  · rintro x r ρ ⟨⟨ys, e⟩, s, o, rfl, g1, g2⟩
    cases ys with
    | nil => simp at e
    | cons y ys =>
      simp only [List.map_cons, List.cons.injEq] at e
      obtain ⟨rfl, rfl⟩ := e
      have q1 := b4 (i := s) g1 (by omega)
      simp only [↓RU, DU, NU, if_true, if_false, ite_true, ite_false, Bool.false_eq_true, reduceIte, reduceCtorEq, Int.reduceLE, Int.reduceLT, Int.reduceNeg, Int.reduceAdd, Int.reduceSub, Int.reduceMul, Int.reducePow, Int.reduceToNat, Nat.reduceAdd, Nat.reduceSub, Nat.reduceMul, Nat.reduceLT, Nat.reduceLeDiff, Nat.reduceDiv, Nat.reduceMod, Nat.min_self, Nat.max_self, List.getElem?_cons_zero, List.getElem?_cons_succ, List.set_cons_zero, List.set_cons_succ, List.length_cons, List.length_nil, List.map_cons, List.map_nil, List.nil_append, List.cons_append, Bool.not_true, Bool.not_false, decide_true, decide_false, decide_eq_true_eq, decide_eq_false_iff_not, op_mul q1 bk48, op_mod (j := 2147483629) (by decide), op_mod (j := 2147483647) (by decide)]
      exact ⟨⟨ys, rfl⟩, _, _, rfl, Int.emod_nonneg _ (by decide), Int.emod_lt_of_pos _ (by decide)⟩
  · rintro ρ ⟨⟨ys, e⟩, s, o, rfl, g1, g2⟩
    have p1 : bitsOk 4000 10 = true := by decide +kernel
    have p2 : bitsOk 4000 1000000000000000000000000000000000000000000000000000000000000 = true := by decide +kernel
    have p3 : (0 : Int) < 1000000000000000000000000000000000000000000000000000000000000000000000000000000000000000000000000000000000000000000000000000000000000000000000000000000000000000000000000000000000000000000000000000000000000000000000000000000000000000000000000000000000000000000000000000000000000000000000000000000000000000000000000000000000000000000000000000000000000000000000000000000000000000000000000000000000000000000000000000000000000000000000000000000000000000000000000000000000000000000000000000000000000000000000000000000000000000000000000000000000000000000000000000000000000000000000000000000000000000000000000 := by decide +kernel
    simp only [↓RU, DU, NU, if_true, if_false, ite_true, ite_false, Bool.false_eq_true, reduceIte, reduceCtorEq, Int.reduceLE, Int.reduceLT, Int.reduceNeg, Int.reduceAdd, Int.reduceSub, Int.reduceMul, Int.reducePow, Int.reduceToNat, Nat.reduceAdd, Nat.reduceSub, Nat.reduceMul, Nat.reduceLT, Nat.reduceLeDiff, Nat.reduceDiv, Nat.reduceMod, Nat.min_self, Nat.max_self, List.getElem?_cons_zero, List.getElem?_cons_succ, List.set_cons_zero, List.set_cons_succ, List.length_cons, List.length_nil, List.map_cons, List.map_nil, List.nil_append, List.cons_append, Bool.not_true, Bool.not_false, decide_true, decide_false, decide_eq_true_eq, decide_eq_false_iff_not, cutL_map]
    refine wlc_pure (g := PyData.int) (fun x : Int => some (.int ((if x < 0 then -x else x) % 1000000000000000000000000000000000000000000000000000000000000000000000000000000000000000000000000000000000000000000000000000000000000000000000000000000000000000000000000000000000000000000000000000000000000000000000000000000000000000000000000000000000000000000000000000000000000000000000000000000000000000000000000000000000000000000000000000000000000000000000000000000000000000000000000000000000000000000000000000000000000000000000000000000000000000000000000000000000000000000000000000000000000000000000000000000000000000000000000000000000000000000000000000000000000000000000000000000000000000000000000))) 9 rfl ?_ ?_ ?_ (by decide)
    · have := List.length_take_le (sIx ns.length ns.length (some 63) - sIx ns.length 0 none) (ns.drop (sIx ns.length 0 none))
      unfold cutL
      rw [List.length_take, List.length_drop]
      omega
    · intro a _
      simp only [↓RU, DU, NU, if_true, if_false, ite_true, ite_false, Bool.false_eq_true, reduceIte, reduceCtorEq, Int.reduceLE, Int.reduceLT, Int.reduceNeg, Int.reduceAdd, Int.reduceSub, Int.reduceMul, Int.reducePow, Int.reduceToNat, Nat.reduceAdd, Nat.reduceSub, Nat.reduceMul, Nat.reduceLT, Nat.reduceLeDiff, Nat.reduceDiv, Nat.reduceMod, Nat.min_self, Nat.max_self, List.getElem?_cons_zero, List.getElem?_cons_succ, List.set_cons_zero, List.set_cons_succ, List.length_cons, List.length_nil, List.map_cons, List.map_nil, List.nil_append, List.cons_append, Bool.not_true, Bool.not_false, decide_true, decide_false, decide_eq_true_eq, decide_eq_false_iff_not, op_pow (i := 10) (j := 60) (by decide) (by decide) p1, op_pow (i := 1000000000000000000000000000000000000000000000000000000000000) (j := 10) (by decide) (by decide) p2, op_mod p3, Nat.le_refl, and_self]
    · intro n h1 h2
      have : n = 9 := by omega
      subst this
      simp only [↓RU, DU, NU, if_true, if_false, ite_true, ite_false, Bool.false_eq_true, reduceIte, reduceCtorEq, Int.reduceLE, Int.reduceLT, Int.reduceNeg, Int.reduceAdd, Int.reduceSub, Int.reduceMul, Int.reducePow, Int.reduceToNat, Nat.reduceAdd, Nat.reduceSub, Nat.reduceMul, Nat.reduceLT, Nat.reduceLeDiff, Nat.reduceDiv, Nat.reduceMod, Nat.min_self, Nat.max_self, List.getElem?_cons_zero, List.getElem?_cons_succ, List.set_cons_zero, List.set_cons_succ, List.length_cons, List.length_nil, List.map_cons, List.map_nil, List.nil_append, List.cons_append, Bool.not_true, Bool.not_false, decide_true, decide_false, decide_eq_true_eq, decide_eq_false_iff_not]
      refine hK _ ⟨(cutL ns none (some 63)).map fun x => (if x < 0 then -x else x) % 1000000000000000000000000000000000000000000000000000000000000000000000000000000000000000000000000000000000000000000000000000000000000000000000000000000000000000000000000000000000000000000000000000000000000000000000000000000000000000000000000000000000000000000000000000000000000000000000000000000000000000000000000000000000000000000000000000000000000000000000000000000000000000000000000000000000000000000000000000000000000000000000000000000000000000000000000000000000000000000000000000000000000000000000000000000000000000000000000000000000000000000000000000000000000000000000000000000000000000000000000, 0, 0, s, 0, ?_, ?_, by decide, by decide, g1, g2, by decide, by decide⟩
      · unfold bagD
        rw [List.map_map, fm_some]
        rfl
      · intro x hx
        obtain ⟨y, _, rfl⟩ := List.mem_map.mp hx
        exact Int.emod_nonneg _ (Int.ne_of_gt p3)
end
end PL

namespace PL
namespace K
open PySem L2
open PySem (PyData Str)
abbrev C_PaneError : Nat := 0
abbrev C_InvalidPlan : Nat := 1
abbrev C_InvalidWord : Nat := 2
abbrev C_InvalidPane : Nat := 3
abbrev C_NotNeighbours : Nat := 4
abbrev C_ValueError : Nat := 5
def subC (a b : Nat) : Bool := match a with
  | 0 => [0, 5].contains b
  | 1 => [1, 0, 5].contains b
  | 2 => [2, 0, 5].contains b
  | 3 => [3, 0, 5].contains b
  | 4 => [4, 0, 5].contains b
  | _ => false
def g_MOST_PANES : D := (.int 60)
def g_KINDS : D := (.tuple [(.str "left"), (.str "above")])
def g_MIRRORS : D := (.tuple [(.str "sides"), (.str "ends"), (.str "corners")])
abbrev F_is_integer : Nat := 0
abbrev F_need_name : Nat := 1
abbrev F_need_word : Nat := 2
abbrev F_is_row : Nat := 3
abbrev F_has_pattern : Nat := 4
abbrev F_is_plan : Nat := 5
abbrev F_need_plan : Nat := 6
abbrev F_need_pane : Nat := 7
abbrev F_without : Nat := 8
abbrev F_need_kind : Nat := 9
abbrev F_are_neighbours : Nat := 10
abbrev F_whole_pairs : Nat := 11
abbrev F_need_neighbours : Nat := 12
abbrev F_merged_plan : Nat := 13
abbrev F_swung_plan : Nat := 14
abbrev F_split_plan : Nat := 15
abbrev F_rows_plan : Nat := 16
abbrev F_mirror : Nat := 17
abbrev F_mirrored_plan : Nat := 18
abbrev F_turned_plans : Nat := 19
abbrev F__law_bag : Nat := 20
abbrev F__law_stirred : Nat := 21
abbrev F__law_draw : Nat := 22
abbrev F__law_alike : Nat := 23
abbrev F__law_asked : Nat := 24
abbrev F_law : Nat := 25
def n_is_integer : List Str := ["thing"]
def p_is_integer : List Str := ["thing"]
def b_is_integer : S := (.seq (.ret (.and_ (.isI (.var 0) [.int]) (.not_ (.isI (.var 0) [.bool])))) .nop)
def f_is_integer : Fn := ⟨1, 1, [], b_is_integer⟩
def n_need_name : List Str := ["pane", "count"]
def p_need_name : List Str := ["pane", "count"]
def b_need_name : S := (.seq (.ite (.not_ (.chain .le .lt (.int 0) (.var 0) (.var 1))) (.seq (.rais C_InvalidPane (.cons (.str "there is no such pane") .nil)) .nop) .nop) .nop)
def f_need_name : Fn := ⟨2, 2, [], b_need_name⟩
def n_need_word : List Str := ["word", "words"]
def p_need_word : List Str := ["word", "words"]
def b_need_word : S := (.seq (.ite (.cmp .notIn (.var 0) (.var 1)) (.seq (.rais C_InvalidWord (.cons (.str "not a word that is meant") .nil)) .nop) .nop) .nop)
def f_need_word : Fn := ⟨2, 2, [], b_need_word⟩
def n_is_row : List Str := ["thing", "number"]
def p_is_row : List Str := ["thing"]
def b_is_row : S := (.seq (.ite (.or_ (.not_ (.isI (.var 0) [.list])) (.not_ (.chain .le .le (.int 1) (.bi .len (.cons (.var 0) .nil)) (.glob "MOST_PANES" g_MOST_PANES)))) (.seq (.ret (.bl false)) .nop) .nop) (.seq (.ret (.and_ (.bi .all (.cons (.lc [1] (.nm 1) (.iseq (.var 0)) .nil (.call F_is_integer (.cons (.var 1) .nil))) .nil)) (.cmp .eq (.bi .sorted (.cons (.var 0) .nil)) (.bi .rng1 (.cons (.bi .len (.cons (.var 0) .nil)) .nil))))) .nop))
def f_is_row : Fn := ⟨1, 2, [], b_is_row⟩
def n_has_pattern : List Str := ["row", "place", "number", "later", "low", "high", "sooner", "behind", "one"]
def p_has_pattern : List Str := ["row"]
def b_has_pattern : S := (.seq (.for_ (.nms [1, 2]) (.ienum (.slc (.var 0) .nil (.cons (.neg (.int 1)) .nil))) (.seq (.asg (.nm 3) (.idx (.var 0) (.bin .add (.var 1) (.int 1)))) (.seq (.asg (.nms [4, 5]) (.tup (.cons (.bi .min2 (.cons (.var 2) (.cons (.var 3) .nil))) (.cons (.bi .max2 (.cons (.var 2) (.cons (.var 3) .nil))) .nil)))) (.seq (.asg (.nm 6) (.lc [8] (.nm 8) (.iseq (.slc (.var 0) .nil (.cons (.var 1) .nil))) (.cons (.chain .lt .lt (.var 4) (.var 8) (.var 5)) .nil) (.var 8))) (.seq (.asg (.nm 7) (.lc [8] (.nm 8) (.iseq (.slc (.var 0) (.cons (.bin .add (.var 1) (.int 2)) .nil) .nil)) (.cons (.chain .lt .lt (.var 4) (.var 8) (.var 5)) .nil) (.var 8))) (.seq (.ite (.and_ (.cmp .ne (.var 6) (.lst .nil)) (.cmp .ne (.var 7) (.lst .nil))) (.seq (.ite (.ite (.cmp .gt (.mov 2) (.mov 3)) (.cmp .lt (.bi .minL (.cons (.var 6) .nil)) (.bi .maxL (.cons (.var 7) .nil))) (.cmp .lt (.bi .minL (.cons (.var 7) .nil)) (.bi .maxL (.cons (.var 6) .nil)))) (.seq (.ret (.bl true)) .nop) .nop) .nop) .nop) .nop)))))) (.seq (.ret (.bl false)) .nop))
def f_has_pattern : Fn := ⟨1, 9, [], b_has_pattern⟩
def n_is_plan : List Str := ["thing"]
def p_is_plan : List Str := ["thing"]
def b_is_plan : S := (.seq (.ret (.and_ (.call F_is_row (.cons (.var 0) .nil)) (.not_ (.call F_has_pattern (.cons (.var 0) .nil))))) .nop)
def f_is_plan : Fn := ⟨1, 1, [], b_is_plan⟩
def n_need_plan : List Str := ["thing"]
def p_need_plan : List Str := ["thing"]
def b_need_plan : S := (.seq (.ite (.not_ (.call F_is_plan (.cons (.var 0) .nil))) (.seq (.rais C_InvalidPlan (.cons (.str "not a plan") .nil)) .nop) .nop) .nop)
def f_need_plan : Fn := ⟨1, 1, [], b_need_plan⟩
def n_need_pane : List Str := ["pane", "count"]
def p_need_pane : List Str := ["pane", "count"]
def b_need_pane : S := (.seq (.expr (.call F_need_name (.cons (.var 0) (.cons (.var 1) .nil)))) .nop)
def f_need_pane : Fn := ⟨2, 2, [], b_need_pane⟩
def n_without : List Str := ["plan", "pane", "number"]
def p_without : List Str := ["plan", "pane"]
def b_without : S := (.seq (.ret (.lc [2] (.nm 2) (.iseq (.var 0)) (.cons (.cmp .ne (.var 2) (.var 1)) .nil) (.ite (.cmp .gt (.var 2) (.var 1)) (.bin .sub (.var 2) (.int 1)) (.var 2)))) .nop)
def f_without : Fn := ⟨2, 3, [], b_without⟩
def n_need_kind : List Str := ["kind"]
def p_need_kind : List Str := ["kind"]
def b_need_kind : S := (.seq (.expr (.call F_need_word (.cons (.var 0) (.cons (.glob "KINDS" g_KINDS) .nil)))) .nop)
def f_need_kind : Fn := ⟨1, 1, [], b_need_kind⟩
def n_are_neighbours : List Str := ["plan", "pane"]
def p_are_neighbours : List Str := ["plan", "pane"]
def b_are_neighbours : S := (.seq (.ret (.and_ (.cmp .lt (.bin .add (.var 1) (.int 1)) (.bi .len (.cons (.var 0) .nil))) (.cmp .eq (.bi .abs (.cons (.bin .sub (.mth .index (.var 0) (.cons (.var 1) .nil)) (.mth .index (.var 0) (.cons (.bin .add (.var 1) (.int 1)) .nil))) .nil)) (.int 1)))) .nop)
def f_are_neighbours : Fn := ⟨2, 2, [], b_are_neighbours⟩
def n_whole_pairs : List Str := ["plan", "pane"]
def p_whole_pairs : List Str := ["plan"]
def b_whole_pairs : S := (.seq (.expr (.call F_need_plan (.cons (.var 0) .nil))) (.seq (.ret (.lc [1] (.nm 1) (.irng1 (.bi .len (.cons (.var 0) .nil))) (.cons (.call F_are_neighbours (.cons (.var 0) (.cons (.var 1) .nil))) .nil) (.tup (.cons (.var 1) (.cons (.bin .add (.var 1) (.int 1)) .nil))))) .nop))
def f_whole_pairs : Fn := ⟨1, 2, [], b_whole_pairs⟩
def n_need_neighbours : List Str := ["plan", "pane"]
def p_need_neighbours : List Str := ["plan", "pane"]
def b_need_neighbours : S := (.seq (.ite (.not_ (.call F_are_neighbours (.cons (.var 0) (.cons (.var 1) .nil)))) (.seq (.rais C_NotNeighbours (.cons (.str "the two panes do not share a whole segment") .nil)) .nop) .nop) .nop)
def f_need_neighbours : Fn := ⟨2, 2, [], b_need_neighbours⟩
def n_merged_plan : List Str := ["plan", "pane"]
def p_merged_plan : List Str := ["plan", "pane"]
def b_merged_plan : S := (.seq (.expr (.call F_need_plan (.cons (.var 0) .nil))) (.seq (.expr (.call F_need_pane (.cons (.var 1) (.cons (.bi .len (.cons (.var 0) .nil)) .nil)))) (.seq (.expr (.call F_need_neighbours (.cons (.var 0) (.cons (.var 1) .nil)))) (.seq (.ret (.call F_without (.cons (.var 0) (.cons (.bin .add (.var 1) (.int 1)) .nil)))) .nop))))
def f_merged_plan : Fn := ⟨2, 2, [], b_merged_plan⟩
def n_swung_plan : List Str := ["plan", "pane", "other", "number"]
def p_swung_plan : List Str := ["plan", "pane"]
def b_swung_plan : S := (.seq (.expr (.call F_need_plan (.cons (.var 0) .nil))) (.seq (.expr (.call F_need_pane (.cons (.var 1) (.cons (.bi .len (.cons (.var 0) .nil)) .nil)))) (.seq (.expr (.call F_need_neighbours (.cons (.var 0) (.cons (.var 1) .nil)))) (.seq (.asg (.nm 2) (.dic false (.cons (.var 1) (.cons (.bin .add (.var 1) (.int 1)) (.cons (.bin .add (.var 1) (.int 1)) (.cons (.var 1) .nil)))))) (.seq (.ret (.lc [3] (.nm 3) (.iseq (.var 0)) .nil (.mth .get (.var 2) (.cons (.var 3) (.cons (.var 3) .nil))))) .nop)))))
def f_swung_plan : Fn := ⟨2, 4, [], b_swung_plan⟩
def n_split_plan : List Str := ["plan", "pane", "kind", "found", "number"]
def p_split_plan : List Str := ["plan", "pane", "kind"]
def b_split_plan : S := (.seq (.expr (.call F_need_plan (.cons (.var 0) .nil))) (.seq (.ite (.cmp .eq (.bi .len (.cons (.var 0) .nil)) (.glob "MOST_PANES" g_MOST_PANES)) (.seq (.rais C_InvalidPlan (.cons (.str "there are too many panes") .nil)) .nop) .nop) (.seq (.expr (.call F_need_pane (.cons (.var 1) (.cons (.bi .len (.cons (.var 0) .nil)) .nil)))) (.seq (.expr (.call F_need_kind (.cons (.var 2) .nil))) (.seq (.asg (.nm 3) (.lst .nil)) (.seq (.for_ (.nm 4) (.iseq (.var 0)) (.seq (.ite (.cmp .eq (.var 4) (.var 1)) (.seq (.expr (.mut .extend (.pv 3) (.cons (.ite (.cmp .eq (.var 2) (.str "left")) (.lst (.cons (.var 1) (.cons (.bin .add (.var 1) (.int 1)) .nil))) (.lst (.cons (.bin .add (.var 1) (.int 1)) (.cons (.var 1) .nil)))) .nil))) .nop) (.seq (.expr (.mut .append (.pv 3) (.cons (.ite (.cmp .gt (.var 4) (.var 1)) (.bin .add (.var 4) (.int 1)) (.var 4)) .nil))) .nop)) .nop)) (.seq (.ret (.mov 3)) .nop)))))))
def f_split_plan : Fn := ⟨3, 5, [], b_split_plan⟩
def n_rows_plan : List Str := ["falling", "rising", "places", "place", "pane"]
def p_rows_plan : List Str := ["falling", "rising"]
def b_rows_plan : S := (.seq (.asg (.nm 2) (.dc [3, 4] (.nms [3, 4]) (.ienum (.var 0)) (.var 4) (.var 3))) (.seq (.ret (.lc [4] (.nm 4) (.iseq (.var 1)) .nil (.idx (.var 2) (.var 4)))) .nop))
def f_rows_plan : Fn := ⟨2, 5, [], b_rows_plan⟩
def n_mirror : List Str := ["plan", "way", "falling"]
def p_mirror : List Str := ["plan", "way"]
def b_mirror : S := (.seq (.asg (.nm 2) (.bi .rng1 (.cons (.bi .len (.cons (.var 0) .nil)) .nil))) (.seq (.ite (.cmp .eq (.var 1) (.str "sides")) (.seq (.ret (.call F_rows_plan (.cons (.rev (.var 0)) (.cons (.rev (.var 2)) .nil)))) .nop) .nop) (.seq (.ite (.cmp .eq (.var 1) (.str "ends")) (.seq (.ret (.call F_rows_plan (.cons (.var 0) (.cons (.mov 2) .nil)))) .nop) .nop) (.seq (.ret (.rev (.var 0))) .nop))))
def f_mirror : Fn := ⟨2, 3, [], b_mirror⟩
def n_mirrored_plan : List Str := ["plan", "way"]
def p_mirrored_plan : List Str := ["plan", "way"]
def b_mirrored_plan : S := (.seq (.expr (.call F_need_plan (.cons (.var 0) .nil))) (.seq (.expr (.call F_need_word (.cons (.var 1) (.cons (.glob "MIRRORS" g_MIRRORS) .nil)))) (.seq (.ret (.call F_mirror (.cons (.var 0) (.cons (.var 1) .nil)))) .nop)))
def f_mirrored_plan : Fn := ⟨2, 2, [], b_mirrored_plan⟩
def n_turned_plans : List Str := ["plan", "found", "way", "rows", "index", "row"]
def p_turned_plans : List Str := ["plan"]
def b_turned_plans : S := (.seq (.expr (.call F_need_plan (.cons (.var 0) .nil))) (.seq (.asg (.nm 1) (.lst (.cons (.bi .list (.cons (.var 0) .nil)) .nil))) (.seq (.for_ (.nm 2) (.iseq (.glob "MIRRORS" g_MIRRORS)) (.seq (.asg (.nm 1) (.bin .add (.var 1) (.lc [5] (.nm 5) (.iseq (.var 1)) .nil (.call F_mirror (.cons (.var 5) (.cons (.var 2) .nil)))))) .nop)) (.seq (.asg (.nm 3) (.bi .sorted (.cons (.mov 1) .nil))) (.seq (.ret (.lc [4, 5] (.nms [4, 5]) (.ienum (.var 3)) (.cons (.cmp .notIn (.var 5) (.slc (.var 3) .nil (.cons (.var 4) .nil))) .nil) (.var 5))) .nop)))))
def f_turned_plans : Fn := ⟨1, 6, [], b_turned_plans⟩
def n__law_bag : List Str := ["script", "stir", "cell"]
def p__law_bag : List Str := ["script"]
def b__law_bag : S := (.seq (.asg (.nm 1) (.int 147)) (.seq (.for_ (.nm 2) (.iseq (.slc (.var 0) .nil (.cons (.int 63) .nil))) (.seq (.asg (.nm 1) (.bin .mod (.bi .int (.cons (.bin .add (.bin .add (.bin .mul (.var 1) (.int 48271)) (.bin .mod (.bi .int (.cons (.var 2) .nil)) (.int 2147483629))) (.int 1)) .nil)) (.int 2147483647))) .nop)) (.seq (.ret (.lst (.cons (.lc [2] (.nm 2) (.iseq (.slc (.var 0) .nil (.cons (.int 63) .nil))) .nil (.bin .mod (.bi .int (.cons (.bi .abs (.cons (.var 2) .nil)) .nil)) (.bin .pow (.bin .pow (.int 10) (.int 60)) (.int 10)))) (.cons (.int 0) (.cons (.int 0) (.cons (.mov 1) (.cons (.int 0) .nil))))))) .nop)))
def f__law_bag : Fn := ⟨1, 3, [], b__law_bag⟩
def n__law_stirred : List Str := ["bag", "wide", "found", "k", "mixed"]
def p__law_stirred : List Str := ["bag", "wide"]
def b__law_stirred : S := (.seq (.asg (.nm 2) (.int 0)) (.seq (.for_ (.nm 3) (.irng1 (.bin .add (.int 1) (.bin .fdiv (.bi .bitLen (.cons (.var 1) .nil)) (.int 27)))) (.seq (.sto (.pi (.pv 0) (.int 4)) (.bin .add (.rdp (.pi (.pv 0) (.int 4))) (.int 1))) (.seq (.asg (.nm 4) (.bin .add (.bin .add (.bin .add (.bin .pow (.rdp (.pi (.pv 0) (.int 3))) (.int 3)) (.bin .mul (.int 69621) (.rdp (.pi (.pv 0) (.int 3))))) (.bin .mul (.int 1031) (.rdp (.pi (.pv 0) (.int 4))))) (.int 1))) (.seq (.sto (.pi (.pv 0) (.int 3)) (.bin .mod (.bi .int (.cons (.mov 4) .nil)) (.int 2147483647))) (.seq (.asg (.nm 2) (.bin .add (.bin .mul (.var 2) (.int 134217728)) (.bin .fdiv (.rdp (.pi (.pv 0) (.int 3))) (.int 16)))) .nop))))) (.seq (.ret (.bin .mod (.bi .int (.cons (.mov 2) .nil)) (.var 1))) .nop)))
def f__law_stirred : Fn := ⟨2, 5, [0], b__law_stirred⟩
def n__law_draw : List Str := ["bag", "wide", "found"]
def p__law_draw : List Str := ["bag", "wide"]
def b__law_draw : S := (.seq (.ite (.and_ (.cmp .eq (.rdp (.pi (.pv 0) (.int 2))) (.int 0)) (.cmp .lt (.rdp (.pi (.pv 0) (.int 1))) (.qt (.bi .len (.cons (.rdp (.pi (.pv 0) (.int 0))) .nil))))) (.seq (.sto (.pi (.pv 0) (.int 2)) (.rdp (.pi (.pi (.pv 0) (.int 0)) (.rdp (.pi (.pv 0) (.int 1)))))) (.seq (.sto (.pi (.pv 0) (.int 1)) (.bin .add (.rdp (.pi (.pv 0) (.int 1))) (.int 1))) .nop)) (.seq (.ite (.cmp .eq (.rdp (.pi (.pv 0) (.int 2))) (.int 0)) (.seq (.ret (.call F__law_stirred (.cons (.lend 0) (.cons (.var 1) .nil)))) .nop) .nop) .nop)) (.seq (.asg (.nm 2) (.bin .mod (.bi .int (.cons (.rdp (.pi (.pv 0) (.int 2))) .nil)) (.var 1))) (.seq (.sto (.pi (.pv 0) (.int 2)) (.bin .fdiv (.rdp (.pi (.pv 0) (.int 2))) (.var 1))) (.seq (.ret (.mov 2)) .nop))))
def f__law_draw : Fn := ⟨2, 3, [0], b__law_draw⟩
def n__law_alike : List Str := ["found", "due", "k"]
def p__law_alike : List Str := ["found", "due"]
def b__law_alike : S := (.seq (.ite (.isI (.var 1) [.list, .tuple]) (.seq (.ite (.or_ (.not_ (.isI (.var 0) [.list, .tuple])) (.cmp .ne (.isI (.var 0) [.list]) (.isI (.var 1) [.list]))) (.seq (.ret (.bl false)) .nop) .nop) (.seq (.ite (.cmp .ne (.bi .len (.cons (.var 0) .nil)) (.bi .len (.cons (.var 1) .nil))) (.seq (.ret (.bl false)) .nop) .nop) (.seq (.ret (.bi .all (.cons (.lc [2] (.nm 2) (.irng1 (.bi .len (.cons (.var 1) .nil))) .nil (.call F__law_alike (.cons (.idx (.var 0) (.var 2)) (.cons (.idx (.var 1) (.var 2)) .nil)))) .nil))) .nop))) .nop) (.seq (.ite (.or_ (.cmp .ne (.isI (.var 0) [.bool]) (.isI (.var 1) [.bool])) (.cmp .ne (.isI (.var 0) [.int]) (.isI (.var 1) [.int]))) (.seq (.ret (.bl false)) .nop) .nop) (.seq (.ret (.and_ (.cmp .eq (.isI (.var 0) [.str]) (.isI (.var 1) [.str])) (.cmp .eq (.var 0) (.var 1)))) .nop)))
def f__law_alike : Fn := ⟨2, 3, [], b__law_alike⟩
def n__law_asked : List Str := ["way", "one", "two", "three", "e", "shown"]
def p__law_asked : List Str := ["way", "one", "two", "three"]
def b__law_asked : S := (.seq (.try1 (.seq (.ite (.cmp .eq (.var 0) (.int 0)) (.seq (.expr (.call F_merged_plan (.cons (.var 1) (.cons (.var 2) .nil)))) .nop) (.seq (.ite (.cmp .eq (.var 0) (.int 1)) (.seq (.expr (.call F_swung_plan (.cons (.var 1) (.cons (.var 2) .nil)))) .nop) (.seq (.ite (.cmp .eq (.var 0) (.int 2)) (.seq (.expr (.call F_split_plan (.cons (.var 1) (.cons (.var 2) (.cons (.var 3) .nil))))) .nop) (.seq (.ite (.cmp .eq (.var 0) (.int 3)) (.seq (.expr (.call F_mirrored_plan (.cons (.var 1) (.cons (.var 3) .nil)))) .nop) (.seq (.ite (.cmp .eq (.var 0) (.int 4)) (.seq (.expr (.call F_turned_plans (.cons (.var 1) .nil))) .nop) (.seq (.expr (.call F_whole_pairs (.cons (.var 1) .nil))) .nop)) .nop)) .nop)) .nop)) .nop)) .nop) C_PaneError 4 (.seq (.asg (.nm 5) (.lst (.cons (.eis [C_InvalidPlan]) (.cons (.eis [C_InvalidPane]) (.cons (.eis [C_InvalidWord]) .nil))))) (.seq (.ret (.mth .index (.bin .add (.mov 5) (.lst (.cons (.eis [C_NotNeighbours]) (.cons (.bl true) .nil)))) (.cons (.bl true) .nil))) .nop))) (.seq (.ret .non) .nop))
def f__law_asked : Fn := ⟨4, 6, [], b__law_asked⟩
def n_law : List Str := ["script", "bag", "good", "plans", "turn", "far", "word", "way", "row", "told"]
def p_law : List Str := ["script"]
def b_law : S := (.seq (.asg (.nm 1) (.call F__law_bag (.cons (.var 0) .nil))) (.seq (.asg (.nm 2) (.lst (.cons (.int 1) (.cons (.int 4) (.cons (.int 2) (.cons (.int 0) (.cons (.int 3) .nil))))))) (.seq (.asg (.nm 3) (.lst (.cons .non (.cons (.tup .nil) (.cons (.lst .nil) (.cons (.tup (.cons (.int 0) (.cons (.int 1) .nil))) (.cons (.lst (.cons (.int 1) .nil)) (.cons (.lst (.cons (.int 0) (.cons (.int 0) .nil))) (.cons (.lst (.cons (.int 0) (.cons (.int 2) .nil))) (.cons (.lst (.cons (.int 0) (.cons (.bl true) .nil))) (.cons (.lst (.cons (.str "0") .nil)) (.cons (.lst (.cons (.int 1) (.cons (.int 3) (.cons (.int 0) (.cons (.int 2) .nil))))) (.cons (.lst (.cons (.int 2) (.cons (.int 0) (.cons (.int 3) (.cons (.int 1) .nil))))) (.cons (.int 3) (.cons (.dic false .nil) .nil))))))))))))))) (.seq (.asg (.nm 3) (.bin .add (.var 3) (.lst (.cons (.bi .rng1 (.cons (.int 61) .nil)) (.cons (.lst (.cons (.int 0) (.cons (.int 1) (.cons .non .nil)))) (.cons (.lst (.cons (.lst (.cons (.int 0) .nil)) .nil)) (.cons (.str "0") (.cons (.lst (.cons (.int 3) (.cons (.int 1) (.cons (.int 2) .nil)))) (.cons (.lst (.cons (.int 0) (.cons (.neg (.int 1)) .nil))) (.cons (.lst (.cons (.int 0) (.cons (.bin .pow (.int 10) (.int 29)) .nil))) .nil)))))))))) (.seq (.asg (.nm 3) (.bin .add (.var 3) (.lst (.cons (.lst (.cons (.int 0) (.cons (.int 2) (.cons (.int 4) (.cons (.int 1) (.cons (.int 3) .nil)))))) (.cons (.lst (.cons (.int 1) (.cons (.int 4) (.cons (.int 0) (.cons (.int 3) .nil))))) .nil))))) (.seq (.for_ (.nm 4) (.irng1 (.int 8)) (.seq (.asg (.nm 5) (.idx (.lst (.cons (.neg (.int 1)) (.cons (.int 5) (.cons (.bin .pow (.int 10) (.int 29)) (.cons (.bin .sub (.int 0) (.bin .pow (.int 10) (.int 29))) .nil))))) (.call F__law_draw (.cons (.lend 1) (.cons (.int 4) .nil))))) (.seq (.asg (.nm 6) (.idx (.lst (.cons (.str "") (.cons (.str "Left") (.cons (.str "right") (.cons (.str "below") (.cons (.str "left ") (.cons (.str "sides") .nil))))))) (.call F__law_draw (.cons (.lend 1) (.cons (.int 6) .nil))))) (.seq (.asg (.nms [7, 8]) (.tup (.cons (.call F__law_draw (.cons (.lend 1) (.cons (.int 6) .nil))) (.cons (.idx (.var 3) (.call F__law_draw (.cons (.lend 1) (.cons (.int 22) .nil)))) .nil)))) (.seq (.asg (.nm 9) (.lst (.cons (.call F__law_asked (.cons (.var 7) (.cons (.mov 8) (.cons (.var 5) (.cons (.var 6) .nil))))) (.cons (.call F__law_asked (.cons (.bin .mod (.bi .int (.cons (.var 7) .nil)) (.int 3)) (.cons (.var 2) (.cons (.var 5) (.cons (.var 6) .nil))))) .nil)))) (.seq (.expr (.mut .append (.pv 9) (.cons (.call F__law_asked (.cons (.int 2) (.cons (.var 2) (.cons (.call F__law_draw (.cons (.lend 1) (.cons (.int 5) .nil))) (.cons (.var 6) .nil))))) .nil))) (.seq (.expr (.mut .append (.pv 9) (.cons (.call F__law_asked (.cons (.int 3) (.cons (.var 2) (.cons (.int 0) (.cons (.idx (.lst (.cons (.str "left") (.cons (.str "side") (.cons (.str "") .nil)))) (.call F__law_draw (.cons (.lend 1) (.cons (.int 3) .nil)))) .nil))))) .nil))) (.seq (.asg (.nm 9) (.bin .add (.var 9) (.lst (.cons (.call F__law_asked (.cons (.bin .mod (.bi .int (.cons (.mov 7) .nil)) (.int 2)) (.cons (.var 2) (.cons (.call F__law_draw (.cons (.lend 1) (.cons (.int 5) .nil))) (.cons (.int 0) .nil))))) (.cons (.call F__law_asked (.cons (.int 2) (.cons (.bi .rng1 (.cons (.int 60) .nil)) (.cons (.mov 5) (.cons (.mov 6) .nil))))) .nil))))) (.seq (.ite (.not_ (.call F__law_alike (.cons (.mov 9) (.cons (.lst (.cons (.int 0) (.cons (.int 1) (.cons (.int 2) (.cons (.int 2) (.cons (.int 3) (.cons (.int 0) .nil))))))) .nil)))) (.seq (.ret (.bl false)) .nop) .nop) .nop))))))))) (.seq (.asg (.nm 9) (.lst (.cons (.call F__law_asked (.cons (.int 0) (.cons (.lst (.cons (.int 0) (.cons (.int 1) .nil))) (.cons (.int 1) (.cons (.int 0) .nil))))) (.cons (.call F__law_asked (.cons (.int 1) (.cons (.lst (.cons (.int 0) .nil)) (.cons (.int 0) (.cons (.int 0) .nil))))) (.cons (.call F__law_asked (.cons (.int 2) (.cons (.bi .rng1 (.cons (.int 59) .nil)) (.cons (.int 58) (.cons (.str "left") .nil))))) .nil))))) (.seq (.asg (.nm 9) (.bin .add (.var 9) (.lst (.cons (.call F__law_asked (.cons (.int 0) (.cons (.bi .rng1 (.cons (.int 60) .nil)) (.cons (.int 58) (.cons (.int 0) .nil))))) (.cons (.call F__law_asked (.cons (.int 1) (.cons (.bi .rng1 (.cons (.int 60) .nil)) (.cons (.int 59) (.cons (.int 0) .nil))))) .nil))))) (.seq (.asg (.nm 9) (.bin .add (.var 9) (.lst (.cons (.call F__law_asked (.cons (.int 3) (.cons (.bi .rng1 (.cons (.int 60) .nil)) (.cons (.int 0) (.cons (.str "ends") .nil))))) (.cons (.call F__law_asked (.cons (.int 4) (.cons (.bi .rng1 (.cons (.int 60) .nil)) (.cons (.int 0) (.cons (.int 0) .nil))))) .nil))))) (.seq (.ret (.call F__law_alike (.cons (.mov 9) (.cons (.lst (.cons (.int 3) (.cons (.int 3) (.cons .non (.cons .non (.cons (.int 3) (.cons .non (.cons .non .nil)))))))) .nil)))) .nop))))))))))
def f_law : Fn := ⟨1, 10, [], b_law⟩
def tbl : List Fn := [f_is_integer, f_need_name, f_need_word, f_is_row, f_has_pattern, f_is_plan, f_need_plan, f_need_pane, f_without, f_need_kind, f_are_neighbours, f_whole_pairs, f_need_neighbours, f_merged_plan, f_swung_plan, f_split_plan, f_rows_plan, f_mirror, f_mirrored_plan, f_turned_plans, f__law_bag, f__law_stirred, f__law_draw, f__law_alike, f__law_asked, f_law]
def names : List Str := ["is_integer", "need_name", "need_word", "is_row", "has_pattern", "is_plan", "need_plan", "need_pane", "without", "need_kind", "are_neighbours", "whole_pairs", "need_neighbours", "merged_plan", "swung_plan", "split_plan", "rows_plan", "mirror", "mirrored_plan", "turned_plans", "_law_bag", "_law_stirred", "_law_draw", "_law_alike", "_law_asked", "law"]
def errs : List (Str × List Str) := [("PaneError", []), ("InvalidPlan", []), ("InvalidWord", []), ("InvalidPane", []), ("NotNeighbours", [])]
def gls : List (Str × D) := [("MOST_PANES", g_MOST_PANES), ("KINDS", g_KINDS), ("MIRRORS", g_MIRRORS)]
end K
end PL

namespace PL
namespace K
open PySem L2
open PySem (PyData Str)
def top (i : Nat) : Stmt := PySem.Challenge.pw_paneplans_k48_errors_of_changes.main.body.getD i (.Pass ⟨0, 0, 0, 0⟩)
abbrev s_is_integer : Stmt := top 8
theorem k_is_integer : chkF tbl names errs gls f_is_integer n_is_integer p_is_integer (defScope s_is_integer) (defBody s_is_integer) = true := by decide +kernel
abbrev s_need_name : Stmt := top 9
theorem k_need_name : chkF tbl names errs gls f_need_name n_need_name p_need_name (defScope s_need_name) (defBody s_need_name) = true := by decide +kernel
abbrev s_need_word : Stmt := top 10
theorem k_need_word : chkF tbl names errs gls f_need_word n_need_word p_need_word (defScope s_need_word) (defBody s_need_word) = true := by decide +kernel
abbrev s_is_row : Stmt := top 12
theorem k_is_row : chkF tbl names errs gls f_is_row n_is_row p_is_row (defScope s_is_row) (defBody s_is_row) = true := by decide +kernel
abbrev s_has_pattern : Stmt := top 13
theorem k_has_pattern : chkF tbl names errs gls f_has_pattern n_has_pattern p_has_pattern (defScope s_has_pattern) (defBody s_has_pattern) = true := by decide +kernel
abbrev s_is_plan : Stmt := top 14
theorem k_is_plan : chkF tbl names errs gls f_is_plan n_is_plan p_is_plan (defScope s_is_plan) (defBody s_is_plan) = true := by decide +kernel
abbrev s_need_plan : Stmt := top 15
theorem k_need_plan : chkF tbl names errs gls f_need_plan n_need_plan p_need_plan (defScope s_need_plan) (defBody s_need_plan) = true := by decide +kernel
abbrev s_need_pane : Stmt := top 16
theorem k_need_pane : chkF tbl names errs gls f_need_pane n_need_pane p_need_pane (defScope s_need_pane) (defBody s_need_pane) = true := by decide +kernel
abbrev s_without : Stmt := top 18
theorem k_without : chkF tbl names errs gls f_without n_without p_without (defScope s_without) (defBody s_without) = true := by decide +kernel
abbrev s_need_kind : Stmt := top 22
theorem k_need_kind : chkF tbl names errs gls f_need_kind n_need_kind p_need_kind (defScope s_need_kind) (defBody s_need_kind) = true := by decide +kernel
abbrev s_are_neighbours : Stmt := top 23
theorem k_are_neighbours : chkF tbl names errs gls f_are_neighbours n_are_neighbours p_are_neighbours (defScope s_are_neighbours) (defBody s_are_neighbours) = true := by decide +kernel
abbrev s_whole_pairs : Stmt := top 24
theorem k_whole_pairs : chkF tbl names errs gls f_whole_pairs n_whole_pairs p_whole_pairs (defScope s_whole_pairs) (defBody s_whole_pairs) = true := by decide +kernel
abbrev s_need_neighbours : Stmt := top 25
theorem k_need_neighbours : chkF tbl names errs gls f_need_neighbours n_need_neighbours p_need_neighbours (defScope s_need_neighbours) (defBody s_need_neighbours) = true := by decide +kernel
abbrev s_merged_plan : Stmt := top 26
theorem k_merged_plan : chkF tbl names errs gls f_merged_plan n_merged_plan p_merged_plan (defScope s_merged_plan) (defBody s_merged_plan) = true := by decide +kernel
abbrev s_swung_plan : Stmt := top 27
theorem k_swung_plan : chkF tbl names errs gls f_swung_plan n_swung_plan p_swung_plan (defScope s_swung_plan) (defBody s_swung_plan) = true := by decide +kernel
abbrev s_split_plan : Stmt := top 28
theorem k_split_plan : chkF tbl names errs gls f_split_plan n_split_plan p_split_plan (defScope s_split_plan) (defBody s_split_plan) = true := by decide +kernel
abbrev s_rows_plan : Stmt := top 29
theorem k_rows_plan : chkF tbl names errs gls f_rows_plan n_rows_plan p_rows_plan (defScope s_rows_plan) (defBody s_rows_plan) = true := by decide +kernel
abbrev s_mirror : Stmt := top 30
theorem k_mirror : chkF tbl names errs gls f_mirror n_mirror p_mirror (defScope s_mirror) (defBody s_mirror) = true := by decide +kernel
abbrev s_mirrored_plan : Stmt := top 31
theorem k_mirrored_plan : chkF tbl names errs gls f_mirrored_plan n_mirrored_plan p_mirrored_plan (defScope s_mirrored_plan) (defBody s_mirrored_plan) = true := by decide +kernel
abbrev s_turned_plans : Stmt := top 32
theorem k_turned_plans : chkF tbl names errs gls f_turned_plans n_turned_plans p_turned_plans (defScope s_turned_plans) (defBody s_turned_plans) = true := by decide +kernel
abbrev s__law_bag : Stmt := top 34
theorem k__law_bag : chkF tbl names errs gls f__law_bag n__law_bag p__law_bag (defScope s__law_bag) (defBody s__law_bag) = true := by decide +kernel
abbrev s__law_stirred : Stmt := top 35
theorem k__law_stirred : chkF tbl names errs gls f__law_stirred n__law_stirred p__law_stirred (defScope s__law_stirred) (defBody s__law_stirred) = true := by decide +kernel
abbrev s__law_draw : Stmt := top 36
theorem k__law_draw : chkF tbl names errs gls f__law_draw n__law_draw p__law_draw (defScope s__law_draw) (defBody s__law_draw) = true := by decide +kernel
abbrev s__law_alike : Stmt := top 37
theorem k__law_alike : chkF tbl names errs gls f__law_alike n__law_alike p__law_alike (defScope s__law_alike) (defBody s__law_alike) = true := by decide +kernel
abbrev s__law_asked : Stmt := top 38
theorem k__law_asked : chkF tbl names errs gls f__law_asked n__law_asked p__law_asked (defScope s__law_asked) (defBody s__law_asked) = true := by decide +kernel
abbrev s_law : Stmt := top 39
theorem k_law : chkF tbl names errs gls f_law n_law p_law (defScope s_law) (defBody s_law) = true := by decide +kernel
def d_is_integer : He.DefD := ⟨("is_integer", none), "is_integer", "is_integer", defArgs s_is_integer, defBody s_is_integer, defScope s_is_integer, [], []⟩
theorem b_of_is_integer {K : Frag} {a : Addr} {fd : FuncData} (F : FunD K "is_integer" "is_integer" (defArgs s_is_integer) (defBody s_is_integer) (defScope s_is_integer) [] [] a fd) : Binds K fd p_is_integer [] := F.bindsN fun _ _ _ _ _ _ us hl => match us, hl with | [_], _ => rfl
def d_need_name : He.DefD := ⟨("need_name", none), "need_name", "need_name", defArgs s_need_name, defBody s_need_name, defScope s_need_name, [], []⟩
theorem b_of_need_name {K : Frag} {a : Addr} {fd : FuncData} (F : FunD K "need_name" "need_name" (defArgs s_need_name) (defBody s_need_name) (defScope s_need_name) [] [] a fd) : Binds K fd p_need_name [] := F.bindsN fun _ _ _ _ _ _ us hl => match us, hl with | [_, _], _ => rfl
def d_need_word : He.DefD := ⟨("need_word", none), "need_word", "need_word", defArgs s_need_word, defBody s_need_word, defScope s_need_word, [], []⟩
theorem b_of_need_word {K : Frag} {a : Addr} {fd : FuncData} (F : FunD K "need_word" "need_word" (defArgs s_need_word) (defBody s_need_word) (defScope s_need_word) [] [] a fd) : Binds K fd p_need_word [] := F.bindsN fun _ _ _ _ _ _ us hl => match us, hl with | [_, _], _ => rfl
def d_is_row : He.DefD := ⟨("is_row", none), "is_row", "is_row", defArgs s_is_row, defBody s_is_row, defScope s_is_row, [], []⟩
theorem b_of_is_row {K : Frag} {a : Addr} {fd : FuncData} (F : FunD K "is_row" "is_row" (defArgs s_is_row) (defBody s_is_row) (defScope s_is_row) [] [] a fd) : Binds K fd p_is_row [] := F.bindsN fun _ _ _ _ _ _ us hl => match us, hl with | [_], _ => rfl
def d_has_pattern : He.DefD := ⟨("has_pattern", none), "has_pattern", "has_pattern", defArgs s_has_pattern, defBody s_has_pattern, defScope s_has_pattern, [], []⟩
theorem b_of_has_pattern {K : Frag} {a : Addr} {fd : FuncData} (F : FunD K "has_pattern" "has_pattern" (defArgs s_has_pattern) (defBody s_has_pattern) (defScope s_has_pattern) [] [] a fd) : Binds K fd p_has_pattern [] := F.bindsN fun _ _ _ _ _ _ us hl => match us, hl with | [_], _ => rfl
def d_is_plan : He.DefD := ⟨("is_plan", none), "is_plan", "is_plan", defArgs s_is_plan, defBody s_is_plan, defScope s_is_plan, [], []⟩
theorem b_of_is_plan {K : Frag} {a : Addr} {fd : FuncData} (F : FunD K "is_plan" "is_plan" (defArgs s_is_plan) (defBody s_is_plan) (defScope s_is_plan) [] [] a fd) : Binds K fd p_is_plan [] := F.bindsN fun _ _ _ _ _ _ us hl => match us, hl with | [_], _ => rfl
def d_need_plan : He.DefD := ⟨("need_plan", none), "need_plan", "need_plan", defArgs s_need_plan, defBody s_need_plan, defScope s_need_plan, [], []⟩
theorem b_of_need_plan {K : Frag} {a : Addr} {fd : FuncData} (F : FunD K "need_plan" "need_plan" (defArgs s_need_plan) (defBody s_need_plan) (defScope s_need_plan) [] [] a fd) : Binds K fd p_need_plan [] := F.bindsN fun _ _ _ _ _ _ us hl => match us, hl with | [_], _ => rfl
def d_need_pane : He.DefD := ⟨("need_pane", none), "need_pane", "need_pane", defArgs s_need_pane, defBody s_need_pane, defScope s_need_pane, [], []⟩
theorem b_of_need_pane {K : Frag} {a : Addr} {fd : FuncData} (F : FunD K "need_pane" "need_pane" (defArgs s_need_pane) (defBody s_need_pane) (defScope s_need_pane) [] [] a fd) : Binds K fd p_need_pane [] := F.bindsN fun _ _ _ _ _ _ us hl => match us, hl with | [_, _], _ => rfl
def d_without : He.DefD := ⟨("without", none), "without", "without", defArgs s_without, defBody s_without, defScope s_without, [], []⟩
theorem b_of_without {K : Frag} {a : Addr} {fd : FuncData} (F : FunD K "without" "without" (defArgs s_without) (defBody s_without) (defScope s_without) [] [] a fd) : Binds K fd p_without [] := F.bindsN fun _ _ _ _ _ _ us hl => match us, hl with | [_, _], _ => rfl
def d_need_kind : He.DefD := ⟨("need_kind", none), "need_kind", "need_kind", defArgs s_need_kind, defBody s_need_kind, defScope s_need_kind, [], []⟩
theorem b_of_need_kind {K : Frag} {a : Addr} {fd : FuncData} (F : FunD K "need_kind" "need_kind" (defArgs s_need_kind) (defBody s_need_kind) (defScope s_need_kind) [] [] a fd) : Binds K fd p_need_kind [] := F.bindsN fun _ _ _ _ _ _ us hl => match us, hl with | [_], _ => rfl
def d_are_neighbours : He.DefD := ⟨("are_neighbours", none), "are_neighbours", "are_neighbours", defArgs s_are_neighbours, defBody s_are_neighbours, defScope s_are_neighbours, [], []⟩
theorem b_of_are_neighbours {K : Frag} {a : Addr} {fd : FuncData} (F : FunD K "are_neighbours" "are_neighbours" (defArgs s_are_neighbours) (defBody s_are_neighbours) (defScope s_are_neighbours) [] [] a fd) : Binds K fd p_are_neighbours [] := F.bindsN fun _ _ _ _ _ _ us hl => match us, hl with | [_, _], _ => rfl
def d_whole_pairs : He.DefD := ⟨("whole_pairs", none), "whole_pairs", "whole_pairs", defArgs s_whole_pairs, defBody s_whole_pairs, defScope s_whole_pairs, [], []⟩
theorem b_of_whole_pairs {K : Frag} {a : Addr} {fd : FuncData} (F : FunD K "whole_pairs" "whole_pairs" (defArgs s_whole_pairs) (defBody s_whole_pairs) (defScope s_whole_pairs) [] [] a fd) : Binds K fd p_whole_pairs [] := F.bindsN fun _ _ _ _ _ _ us hl => match us, hl with | [_], _ => rfl
def d_need_neighbours : He.DefD := ⟨("need_neighbours", none), "need_neighbours", "need_neighbours", defArgs s_need_neighbours, defBody s_need_neighbours, defScope s_need_neighbours, [], []⟩
theorem b_of_need_neighbours {K : Frag} {a : Addr} {fd : FuncData} (F : FunD K "need_neighbours" "need_neighbours" (defArgs s_need_neighbours) (defBody s_need_neighbours) (defScope s_need_neighbours) [] [] a fd) : Binds K fd p_need_neighbours [] := F.bindsN fun _ _ _ _ _ _ us hl => match us, hl with | [_, _], _ => rfl
def d_merged_plan : He.DefD := ⟨("merged_plan", none), "merged_plan", "merged_plan", defArgs s_merged_plan, defBody s_merged_plan, defScope s_merged_plan, [], []⟩
theorem b_of_merged_plan {K : Frag} {a : Addr} {fd : FuncData} (F : FunD K "merged_plan" "merged_plan" (defArgs s_merged_plan) (defBody s_merged_plan) (defScope s_merged_plan) [] [] a fd) : Binds K fd p_merged_plan [] := F.bindsN fun _ _ _ _ _ _ us hl => match us, hl with | [_, _], _ => rfl
def d_swung_plan : He.DefD := ⟨("swung_plan", none), "swung_plan", "swung_plan", defArgs s_swung_plan, defBody s_swung_plan, defScope s_swung_plan, [], []⟩
theorem b_of_swung_plan {K : Frag} {a : Addr} {fd : FuncData} (F : FunD K "swung_plan" "swung_plan" (defArgs s_swung_plan) (defBody s_swung_plan) (defScope s_swung_plan) [] [] a fd) : Binds K fd p_swung_plan [] := F.bindsN fun _ _ _ _ _ _ us hl => match us, hl with | [_, _], _ => rfl
def d_split_plan : He.DefD := ⟨("split_plan", none), "split_plan", "split_plan", defArgs s_split_plan, defBody s_split_plan, defScope s_split_plan, [], []⟩
theorem b_of_split_plan {K : Frag} {a : Addr} {fd : FuncData} (F : FunD K "split_plan" "split_plan" (defArgs s_split_plan) (defBody s_split_plan) (defScope s_split_plan) [] [] a fd) : Binds K fd p_split_plan [] := F.bindsN fun _ _ _ _ _ _ us hl => match us, hl with | [_, _, _], _ => rfl
def d_rows_plan : He.DefD := ⟨("rows_plan", none), "rows_plan", "rows_plan", defArgs s_rows_plan, defBody s_rows_plan, defScope s_rows_plan, [], []⟩
theorem b_of_rows_plan {K : Frag} {a : Addr} {fd : FuncData} (F : FunD K "rows_plan" "rows_plan" (defArgs s_rows_plan) (defBody s_rows_plan) (defScope s_rows_plan) [] [] a fd) : Binds K fd p_rows_plan [] := F.bindsN fun _ _ _ _ _ _ us hl => match us, hl with | [_, _], _ => rfl
def d_mirror : He.DefD := ⟨("mirror", none), "mirror", "mirror", defArgs s_mirror, defBody s_mirror, defScope s_mirror, [], []⟩
theorem b_of_mirror {K : Frag} {a : Addr} {fd : FuncData} (F : FunD K "mirror" "mirror" (defArgs s_mirror) (defBody s_mirror) (defScope s_mirror) [] [] a fd) : Binds K fd p_mirror [] := F.bindsN fun _ _ _ _ _ _ us hl => match us, hl with | [_, _], _ => rfl
def d_mirrored_plan : He.DefD := ⟨("mirrored_plan", none), "mirrored_plan", "mirrored_plan", defArgs s_mirrored_plan, defBody s_mirrored_plan, defScope s_mirrored_plan, [], []⟩
theorem b_of_mirrored_plan {K : Frag} {a : Addr} {fd : FuncData} (F : FunD K "mirrored_plan" "mirrored_plan" (defArgs s_mirrored_plan) (defBody s_mirrored_plan) (defScope s_mirrored_plan) [] [] a fd) : Binds K fd p_mirrored_plan [] := F.bindsN fun _ _ _ _ _ _ us hl => match us, hl with | [_, _], _ => rfl
def d_turned_plans : He.DefD := ⟨("turned_plans", none), "turned_plans", "turned_plans", defArgs s_turned_plans, defBody s_turned_plans, defScope s_turned_plans, [], []⟩
theorem b_of_turned_plans {K : Frag} {a : Addr} {fd : FuncData} (F : FunD K "turned_plans" "turned_plans" (defArgs s_turned_plans) (defBody s_turned_plans) (defScope s_turned_plans) [] [] a fd) : Binds K fd p_turned_plans [] := F.bindsN fun _ _ _ _ _ _ us hl => match us, hl with | [_], _ => rfl
def d__law_bag : He.DefD := ⟨("_law_bag", none), "_law_bag", "_law_bag", defArgs s__law_bag, defBody s__law_bag, defScope s__law_bag, [], []⟩
theorem b_of__law_bag {K : Frag} {a : Addr} {fd : FuncData} (F : FunD K "_law_bag" "_law_bag" (defArgs s__law_bag) (defBody s__law_bag) (defScope s__law_bag) [] [] a fd) : Binds K fd p__law_bag [] := F.bindsN fun _ _ _ _ _ _ us hl => match us, hl with | [_], _ => rfl
def d__law_stirred : He.DefD := ⟨("_law_stirred", none), "_law_stirred", "_law_stirred", defArgs s__law_stirred, defBody s__law_stirred, defScope s__law_stirred, [], []⟩
theorem b_of__law_stirred {K : Frag} {a : Addr} {fd : FuncData} (F : FunD K "_law_stirred" "_law_stirred" (defArgs s__law_stirred) (defBody s__law_stirred) (defScope s__law_stirred) [] [] a fd) : Binds K fd p__law_stirred [] := F.bindsN fun _ _ _ _ _ _ us hl => match us, hl with | [_, _], _ => rfl
def d__law_draw : He.DefD := ⟨("_law_draw", none), "_law_draw", "_law_draw", defArgs s__law_draw, defBody s__law_draw, defScope s__law_draw, [], []⟩
theorem b_of__law_draw {K : Frag} {a : Addr} {fd : FuncData} (F : FunD K "_law_draw" "_law_draw" (defArgs s__law_draw) (defBody s__law_draw) (defScope s__law_draw) [] [] a fd) : Binds K fd p__law_draw [] := F.bindsN fun _ _ _ _ _ _ us hl => match us, hl with | [_, _], _ => rfl
def d__law_alike : He.DefD := ⟨("_law_alike", none), "_law_alike", "_law_alike", defArgs s__law_alike, defBody s__law_alike, defScope s__law_alike, [], []⟩
theorem b_of__law_alike {K : Frag} {a : Addr} {fd : FuncData} (F : FunD K "_law_alike" "_law_alike" (defArgs s__law_alike) (defBody s__law_alike) (defScope s__law_alike) [] [] a fd) : Binds K fd p__law_alike [] := F.bindsN fun _ _ _ _ _ _ us hl => match us, hl with | [_, _], _ => rfl
def d__law_asked : He.DefD := ⟨("_law_asked", none), "_law_asked", "_law_asked", defArgs s__law_asked, defBody s__law_asked, defScope s__law_asked, [], []⟩
theorem b_of__law_asked {K : Frag} {a : Addr} {fd : FuncData} (F : FunD K "_law_asked" "_law_asked" (defArgs s__law_asked) (defBody s__law_asked) (defScope s__law_asked) [] [] a fd) : Binds K fd p__law_asked [] := F.bindsN fun _ _ _ _ _ _ us hl => match us, hl with | [_, _, _, _], _ => rfl
def d_law : He.DefD := ⟨("law", none), "law", "law", defArgs s_law, defBody s_law, defScope s_law, [], []⟩
theorem b_of_law {K : Frag} {a : Addr} {fd : FuncData} (F : FunD K "law" "law" (defArgs s_law) (defBody s_law) (defScope s_law) [] [] a fd) : Binds K fd p_law [] := F.bindsN fun _ _ _ _ _ _ us hl => match us, hl with | [_], _ => rfl
def fn : List He.DefD := [d_is_integer, d_need_name, d_need_word, d_is_row, d_has_pattern, d_is_plan, d_need_plan, d_need_pane, d_without, d_need_kind, d_are_neighbours, d_whole_pairs, d_need_neighbours, d_merged_plan, d_swung_plan, d_split_plan, d_rows_plan, d_mirror, d_mirrored_plan, d_turned_plans, d__law_bag, d__law_stirred, d__law_draw, d__law_alike, d__law_asked, d_law]
def T : Tab := ⟨tbl, names, [], subC, errs, gls, []⟩
def mb (K : Frag) : Bool := mfB subC errs gls names K
abbrev R : PySem.W.OpenRow := PySem.W.OpenLaw.row PySem.Challenge.rw_paneplans_k48_errors_of_changes
abbrev hk : PySem.W.Hook := hookP 4 mb fn
def ob (s : PySem.W.SharedT) : AlP := obsPG 4 mb fn (HandSHeadRun.getT s)
theorem ob_eq (s : PySem.W.SharedT) : ob s = hk.obs s.abs := obsPG_eq (HandSHeadRun.getT_eq s)
def loose : List Str := ([("PaneError" : Str), ("InvalidPlan" : Str), ("InvalidWord" : Str), ("InvalidPane" : Str), ("NotNeighbours" : Str), ("is_integer" : Str), ("need_name" : Str), ("need_word" : Str)] : List Str) ++ ([("is_row" : Str), ("has_pattern" : Str), ("is_plan" : Str), ("need_plan" : Str), ("need_pane" : Str), ("without" : Str), ("need_kind" : Str), ("are_neighbours" : Str)] : List Str) ++ ([("whole_pairs" : Str), ("need_neighbours" : Str), ("merged_plan" : Str), ("swung_plan" : Str), ("split_plan" : Str), ("rows_plan" : Str), ("mirror" : Str), ("mirrored_plan" : Str)] : List Str) ++ ([("turned_plans" : Str), ("_law_bag" : Str), ("_law_stirred" : Str), ("_law_draw" : Str), ("_law_alike" : Str), ("_law_asked" : Str), ("MOST_PANES" : Str), ("KINDS" : Str)] : List Str) ++ ([("MIRRORS" : Str)] : List Str)
theorem run_eq (w : World) : HandSHeadRun.RunEq R (PySem.W.view R.prog [39]) hk ob 4000 loose w := by
  intro os
  kernel_rfl
theorem defs {P : Program} {w : World} {K : Frag} {h : Heap} {mg : Str → Option Value} {base : Heap} (X : K.In h) (G : h.Ns mainGlobals mg) (c : SaysP mb fn K) : ∀ (n f : Nat) (x : Str), names[f]? = some x → FnF T (eaOf K errs) P w K mg base n f x := by
  obtain ⟨M, N⟩ := mf_ok X G (show mfB subC errs gls names K = true from c.fact)
  refine defs_ok (gls := gls) M rfl fun f x hx => ?_
  have hm := N x (List.mem_of_getElem? hx)
  match f, hx with
  | 0, hx =>
    have e : x = "is_integer" := (Option.some.inj hx).symm
    subst e
    obtain ⟨fd, F⟩ := c.def_ 0 (d := d_is_integer) rfl
    have F : FunD K "is_integer" "is_integer" (defArgs s_is_integer) (defBody s_is_integer) (defScope s_is_integer) [] [] (He.ga K "is_integer") fd := by rw [← hm.2]; exact F
    exact ⟨_, fd, p_is_integer, f_is_integer, hm.1, F.kp, b_of_is_integer F, rfl, .inr ⟨s_is_integer, n_is_integer, F, k_is_integer⟩⟩
  | 1, hx =>
    have e : x = "need_name" := (Option.some.inj hx).symm
    subst e
    obtain ⟨fd, F⟩ := c.def_ 1 (d := d_need_name) rfl
    have F : FunD K "need_name" "need_name" (defArgs s_need_name) (defBody s_need_name) (defScope s_need_name) [] [] (He.ga K "need_name") fd := by rw [← hm.2]; exact F
    exact ⟨_, fd, p_need_name, f_need_name, hm.1, F.kp, b_of_need_name F, rfl, .inr ⟨s_need_name, n_need_name, F, k_need_name⟩⟩
  | 2, hx =>
    have e : x = "need_word" := (Option.some.inj hx).symm
    subst e
    obtain ⟨fd, F⟩ := c.def_ 2 (d := d_need_word) rfl
    have F : FunD K "need_word" "need_word" (defArgs s_need_word) (defBody s_need_word) (defScope s_need_word) [] [] (He.ga K "need_word") fd := by rw [← hm.2]; exact F
    exact ⟨_, fd, p_need_word, f_need_word, hm.1, F.kp, b_of_need_word F, rfl, .inr ⟨s_need_word, n_need_word, F, k_need_word⟩⟩
  | 3, hx =>
    have e : x = "is_row" := (Option.some.inj hx).symm
    subst e
    obtain ⟨fd, F⟩ := c.def_ 3 (d := d_is_row) rfl
    have F : FunD K "is_row" "is_row" (defArgs s_is_row) (defBody s_is_row) (defScope s_is_row) [] [] (He.ga K "is_row") fd := by rw [← hm.2]; exact F
    exact ⟨_, fd, p_is_row, f_is_row, hm.1, F.kp, b_of_is_row F, rfl, .inr ⟨s_is_row, n_is_row, F, k_is_row⟩⟩
  | 4, hx =>
    have e : x = "has_pattern" := (Option.some.inj hx).symm
    subst e
    obtain ⟨fd, F⟩ := c.def_ 4 (d := d_has_pattern) rfl
    have F : FunD K "has_pattern" "has_pattern" (defArgs s_has_pattern) (defBody s_has_pattern) (defScope s_has_pattern) [] [] (He.ga K "has_pattern") fd := by rw [← hm.2]; exact F
    exact ⟨_, fd, p_has_pattern, f_has_pattern, hm.1, F.kp, b_of_has_pattern F, rfl, .inr ⟨s_has_pattern, n_has_pattern, F, k_has_pattern⟩⟩
  | 5, hx =>
    have e : x = "is_plan" := (Option.some.inj hx).symm
    subst e
    obtain ⟨fd, F⟩ := c.def_ 5 (d := d_is_plan) rfl
    have F : FunD K "is_plan" "is_plan" (defArgs s_is_plan) (defBody s_is_plan) (defScope s_is_plan) [] [] (He.ga K "is_plan") fd := by rw [← hm.2]; exact F
    exact ⟨_, fd, p_is_plan, f_is_plan, hm.1, F.kp, b_of_is_plan F, rfl, .inr ⟨s_is_plan, n_is_plan, F, k_is_plan⟩⟩
  | 6, hx =>
    have e : x = "need_plan" := (Option.some.inj hx).symm
    subst e
    obtain ⟨fd, F⟩ := c.def_ 6 (d := d_need_plan) rfl
    have F : FunD K "need_plan" "need_plan" (defArgs s_need_plan) (defBody s_need_plan) (defScope s_need_plan) [] [] (He.ga K "need_plan") fd := by rw [← hm.2]; exact F
    exact ⟨_, fd, p_need_plan, f_need_plan, hm.1, F.kp, b_of_need_plan F, rfl, .inr ⟨s_need_plan, n_need_plan, F, k_need_plan⟩⟩
  | 7, hx =>
    have e : x = "need_pane" := (Option.some.inj hx).symm
    subst e
    obtain ⟨fd, F⟩ := c.def_ 7 (d := d_need_pane) rfl
    have F : FunD K "need_pane" "need_pane" (defArgs s_need_pane) (defBody s_need_pane) (defScope s_need_pane) [] [] (He.ga K "need_pane") fd := by rw [← hm.2]; exact F
    exact ⟨_, fd, p_need_pane, f_need_pane, hm.1, F.kp, b_of_need_pane F, rfl, .inr ⟨s_need_pane, n_need_pane, F, k_need_pane⟩⟩
  | 8, hx =>
    have e : x = "without" := (Option.some.inj hx).symm
    subst e
    obtain ⟨fd, F⟩ := c.def_ 8 (d := d_without) rfl
    have F : FunD K "without" "without" (defArgs s_without) (defBody s_without) (defScope s_without) [] [] (He.ga K "without") fd := by rw [← hm.2]; exact F
    exact ⟨_, fd, p_without, f_without, hm.1, F.kp, b_of_without F, rfl, .inr ⟨s_without, n_without, F, k_without⟩⟩
  | 9, hx =>
    have e : x = "need_kind" := (Option.some.inj hx).symm
    subst e
    obtain ⟨fd, F⟩ := c.def_ 9 (d := d_need_kind) rfl
    have F : FunD K "need_kind" "need_kind" (defArgs s_need_kind) (defBody s_need_kind) (defScope s_need_kind) [] [] (He.ga K "need_kind") fd := by rw [← hm.2]; exact F
    exact ⟨_, fd, p_need_kind, f_need_kind, hm.1, F.kp, b_of_need_kind F, rfl, .inr ⟨s_need_kind, n_need_kind, F, k_need_kind⟩⟩
  | 10, hx =>
    have e : x = "are_neighbours" := (Option.some.inj hx).symm
    subst e
    obtain ⟨fd, F⟩ := c.def_ 10 (d := d_are_neighbours) rfl
    have F : FunD K "are_neighbours" "are_neighbours" (defArgs s_are_neighbours) (defBody s_are_neighbours) (defScope s_are_neighbours) [] [] (He.ga K "are_neighbours") fd := by rw [← hm.2]; exact F
    exact ⟨_, fd, p_are_neighbours, f_are_neighbours, hm.1, F.kp, b_of_are_neighbours F, rfl, .inr ⟨s_are_neighbours, n_are_neighbours, F, k_are_neighbours⟩⟩
  | 11, hx =>
    have e : x = "whole_pairs" := (Option.some.inj hx).symm
    subst e
    obtain ⟨fd, F⟩ := c.def_ 11 (d := d_whole_pairs) rfl
    have F : FunD K "whole_pairs" "whole_pairs" (defArgs s_whole_pairs) (defBody s_whole_pairs) (defScope s_whole_pairs) [] [] (He.ga K "whole_pairs") fd := by rw [← hm.2]; exact F
    exact ⟨_, fd, p_whole_pairs, f_whole_pairs, hm.1, F.kp, b_of_whole_pairs F, rfl, .inr ⟨s_whole_pairs, n_whole_pairs, F, k_whole_pairs⟩⟩
  | 12, hx =>
    have e : x = "need_neighbours" := (Option.some.inj hx).symm
    subst e
    obtain ⟨fd, F⟩ := c.def_ 12 (d := d_need_neighbours) rfl
    have F : FunD K "need_neighbours" "need_neighbours" (defArgs s_need_neighbours) (defBody s_need_neighbours) (defScope s_need_neighbours) [] [] (He.ga K "need_neighbours") fd := by rw [← hm.2]; exact F
    exact ⟨_, fd, p_need_neighbours, f_need_neighbours, hm.1, F.kp, b_of_need_neighbours F, rfl, .inr ⟨s_need_neighbours, n_need_neighbours, F, k_need_neighbours⟩⟩
  | 13, hx =>
    have e : x = "merged_plan" := (Option.some.inj hx).symm
    subst e
    obtain ⟨fd, F⟩ := c.def_ 13 (d := d_merged_plan) rfl
    have F : FunD K "merged_plan" "merged_plan" (defArgs s_merged_plan) (defBody s_merged_plan) (defScope s_merged_plan) [] [] (He.ga K "merged_plan") fd := by rw [← hm.2]; exact F
    exact ⟨_, fd, p_merged_plan, f_merged_plan, hm.1, F.kp, b_of_merged_plan F, rfl, .inr ⟨s_merged_plan, n_merged_plan, F, k_merged_plan⟩⟩
  | 14, hx =>
    have e : x = "swung_plan" := (Option.some.inj hx).symm
    subst e
    obtain ⟨fd, F⟩ := c.def_ 14 (d := d_swung_plan) rfl
    have F : FunD K "swung_plan" "swung_plan" (defArgs s_swung_plan) (defBody s_swung_plan) (defScope s_swung_plan) [] [] (He.ga K "swung_plan") fd := by rw [← hm.2]; exact F
    exact ⟨_, fd, p_swung_plan, f_swung_plan, hm.1, F.kp, b_of_swung_plan F, rfl, .inr ⟨s_swung_plan, n_swung_plan, F, k_swung_plan⟩⟩
  | 15, hx =>
    have e : x = "split_plan" := (Option.some.inj hx).symm
    subst e
    obtain ⟨fd, F⟩ := c.def_ 15 (d := d_split_plan) rfl
    have F : FunD K "split_plan" "split_plan" (defArgs s_split_plan) (defBody s_split_plan) (defScope s_split_plan) [] [] (He.ga K "split_plan") fd := by rw [← hm.2]; exact F
    exact ⟨_, fd, p_split_plan, f_split_plan, hm.1, F.kp, b_of_split_plan F, rfl, .inr ⟨s_split_plan, n_split_plan, F, k_split_plan⟩⟩
  | 16, hx =>
    have e : x = "rows_plan" := (Option.some.inj hx).symm
    subst e
    obtain ⟨fd, F⟩ := c.def_ 16 (d := d_rows_plan) rfl
    have F : FunD K "rows_plan" "rows_plan" (defArgs s_rows_plan) (defBody s_rows_plan) (defScope s_rows_plan) [] [] (He.ga K "rows_plan") fd := by rw [← hm.2]; exact F
    exact ⟨_, fd, p_rows_plan, f_rows_plan, hm.1, F.kp, b_of_rows_plan F, rfl, .inr ⟨s_rows_plan, n_rows_plan, F, k_rows_plan⟩⟩
  | 17, hx =>
    have e : x = "mirror" := (Option.some.inj hx).symm
    subst e
    obtain ⟨fd, F⟩ := c.def_ 17 (d := d_mirror) rfl
    have F : FunD K "mirror" "mirror" (defArgs s_mirror) (defBody s_mirror) (defScope s_mirror) [] [] (He.ga K "mirror") fd := by rw [← hm.2]; exact F
    exact ⟨_, fd, p_mirror, f_mirror, hm.1, F.kp, b_of_mirror F, rfl, .inr ⟨s_mirror, n_mirror, F, k_mirror⟩⟩
  | 18, hx =>
    have e : x = "mirrored_plan" := (Option.some.inj hx).symm
    subst e
    obtain ⟨fd, F⟩ := c.def_ 18 (d := d_mirrored_plan) rfl
    have F : FunD K "mirrored_plan" "mirrored_plan" (defArgs s_mirrored_plan) (defBody s_mirrored_plan) (defScope s_mirrored_plan) [] [] (He.ga K "mirrored_plan") fd := by rw [← hm.2]; exact F
    exact ⟨_, fd, p_mirrored_plan, f_mirrored_plan, hm.1, F.kp, b_of_mirrored_plan F, rfl, .inr ⟨s_mirrored_plan, n_mirrored_plan, F, k_mirrored_plan⟩⟩
  | 19, hx =>
    have e : x = "turned_plans" := (Option.some.inj hx).symm
    subst e
    obtain ⟨fd, F⟩ := c.def_ 19 (d := d_turned_plans) rfl
    have F : FunD K "turned_plans" "turned_plans" (defArgs s_turned_plans) (defBody s_turned_plans) (defScope s_turned_plans) [] [] (He.ga K "turned_plans") fd := by rw [← hm.2]; exact F
    exact ⟨_, fd, p_turned_plans, f_turned_plans, hm.1, F.kp, b_of_turned_plans F, rfl, .inr ⟨s_turned_plans, n_turned_plans, F, k_turned_plans⟩⟩
  | 20, hx =>
    have e : x = "_law_bag" := (Option.some.inj hx).symm
    subst e
    obtain ⟨fd, F⟩ := c.def_ 20 (d := d__law_bag) rfl
    have F : FunD K "_law_bag" "_law_bag" (defArgs s__law_bag) (defBody s__law_bag) (defScope s__law_bag) [] [] (He.ga K "_law_bag") fd := by rw [← hm.2]; exact F
    exact ⟨_, fd, p__law_bag, f__law_bag, hm.1, F.kp, b_of__law_bag F, rfl, .inr ⟨s__law_bag, n__law_bag, F, k__law_bag⟩⟩
  | 21, hx =>
    have e : x = "_law_stirred" := (Option.some.inj hx).symm
    subst e
    obtain ⟨fd, F⟩ := c.def_ 21 (d := d__law_stirred) rfl
    have F : FunD K "_law_stirred" "_law_stirred" (defArgs s__law_stirred) (defBody s__law_stirred) (defScope s__law_stirred) [] [] (He.ga K "_law_stirred") fd := by rw [← hm.2]; exact F
    exact ⟨_, fd, p__law_stirred, f__law_stirred, hm.1, F.kp, b_of__law_stirred F, rfl, .inr ⟨s__law_stirred, n__law_stirred, F, k__law_stirred⟩⟩
  | 22, hx =>
    have e : x = "_law_draw" := (Option.some.inj hx).symm
    subst e
    obtain ⟨fd, F⟩ := c.def_ 22 (d := d__law_draw) rfl
    have F : FunD K "_law_draw" "_law_draw" (defArgs s__law_draw) (defBody s__law_draw) (defScope s__law_draw) [] [] (He.ga K "_law_draw") fd := by rw [← hm.2]; exact F
    exact ⟨_, fd, p__law_draw, f__law_draw, hm.1, F.kp, b_of__law_draw F, rfl, .inr ⟨s__law_draw, n__law_draw, F, k__law_draw⟩⟩
  | 23, hx =>
    have e : x = "_law_alike" := (Option.some.inj hx).symm
    subst e
    obtain ⟨fd, F⟩ := c.def_ 23 (d := d__law_alike) rfl
    have F : FunD K "_law_alike" "_law_alike" (defArgs s__law_alike) (defBody s__law_alike) (defScope s__law_alike) [] [] (He.ga K "_law_alike") fd := by rw [← hm.2]; exact F
    exact ⟨_, fd, p__law_alike, f__law_alike, hm.1, F.kp, b_of__law_alike F, rfl, .inr ⟨s__law_alike, n__law_alike, F, k__law_alike⟩⟩
  | 24, hx =>
    have e : x = "_law_asked" := (Option.some.inj hx).symm
    subst e
    obtain ⟨fd, F⟩ := c.def_ 24 (d := d__law_asked) rfl
    have F : FunD K "_law_asked" "_law_asked" (defArgs s__law_asked) (defBody s__law_asked) (defScope s__law_asked) [] [] (He.ga K "_law_asked") fd := by rw [← hm.2]; exact F
    exact ⟨_, fd, p__law_asked, f__law_asked, hm.1, F.kp, b_of__law_asked F, rfl, .inr ⟨s__law_asked, n__law_asked, F, k__law_asked⟩⟩
  | 25, hx =>
    have e : x = "law" := (Option.some.inj hx).symm
    subst e
    obtain ⟨fd, F⟩ := c.def_ 25 (d := d_law) rfl
    have F : FunD K "law" "law" (defArgs s_law) (defBody s_law) (defScope s_law) [] [] (He.ga K "law") fd := by rw [← hm.2]; exact F
    exact ⟨_, fd, p_law, f_law, hm.1, F.kp, b_of_law F, rfl, .inr ⟨s_law, n_law, F, k_law⟩⟩
  | _ + 26, hx => cases hx
theorem facts {P : Program} {w : World} {K : Frag} {h : Heap} {mg : Str → Option Value} {f : Addr} (X : K.In h) (G : h.Ns mainGlobals mg) (hfa : mg ("law" : Str) = some (.ref f)) (c : SaysP mb fn K) :
    ∃ fd : FuncData, (∀ (s : Shared) (v : Value), BindsTo s fd ⟨[v], []⟩ [("script", v)]) ∧ ∀ base : Heap, K.In base → base.Ns mainGlobals mg → FnOk P w K mg base (L2.CX P w) 100 f fd ["script"] (spF T (eaOf K errs) K 100 25) := by
  obtain ⟨fd, F⟩ := c.def_ 25 (d := d_law) rfl
  obtain ⟨M, N⟩ := mf_ok X G (show mfB subC errs gls names K = true from c.fact)
  have hm := N "law" (by decide)
  have F : FunD K "law" "law" (defArgs s_law) (defBody s_law) (defScope s_law) [] [] (He.ga K "law") fd := by rw [← hm.2]; exact F
  have e := hfa.symm.trans hm.1
  cases e
  have b := FunD.bindsA (ps := ["script"]) F fun _ _ _ _ _ _ us hl => match us, hl with | [_], _ => rfl
  exact ⟨fd, fun s v => b s [v] rfl, fun base _ _ => def_ok (Fn := f_law) (N := n_law) (gls := gls) (names := names) M rfl rfl F k_law (defs X G c 99)⟩
end K
end PL
open PySem PySem.W PySem.Calls PyProof.Rows
theorem PL.K.head_ends (hyp : ∀ ns : List Int, ns.length ≤ 63 → ∃ v, PL.run PL.K.tbl PL.K.subC 100 25 [(0, .list (ns.map PyData.int))] = .ok v [] ∧ v.2 = .bool true) : PySem.Challenge.rw_paneplans_k48_errors_of_changes.Holds := by
  w_on; o_law
  refine HandSHeadRun.head_any (r := OpenLaw.row PySem.Challenge.rw_paneplans_k48_errors_of_changes) (q := view (OpenLaw.row PySem.Challenge.rw_paneplans_k48_errors_of_changes).prog [39]) (H := PL.K.hk) (ob := PL.K.ob) (M := 4000) (loose := PL.K.loose) (d := HandSHeadRun.topDef (OpenLaw.row PySem.Challenge.rw_paneplans_k48_errors_of_changes).prog 39) (kwd := []) PL.K.ob_eq
    (by kernel_rfl) (fun s => by kernel_rfl) PL.K.run_eq (by kernel_rfl) (by kernel_rfl) (by kernel_rfl) (by rfl) (by first | assumption | decide +kernel) (by decide +kernel) ⟨rfl, rfl, rfl, rfl, rfl, by decide +kernel⟩ ?hw ?hc
  case hw => w_witness2
  case hc =>
    refine L2.walk_ofW (l := PySem.Challenge.rw_paneplans_k48_errors_of_changes) (n := 63) (k := 100) (x := "script") (CX := fun w => L2.CX (PySem.Challenge.rw_paneplans_k48_errors_of_changes).prog w) rfl (by decide) (by kernel_rfl) ⟨rfl, by decide, by decide⟩ ?F (fun w => PL.cx_false)
    intro w mg fa h Y G hmg0
    obtain ⟨K, KX, c⟩ := Y
    have hmg : mg ("law" : PySem.Str) = some (.ref fa) := by
      have e : (HandSHeadRun.topDef (OpenLaw.row PySem.Challenge.rw_paneplans_k48_errors_of_changes).prog 39).name = ("law" : PySem.Str) := by kernel_rfl
      rw [← e]
      exact hmg0
    obtain ⟨fd, hb, hF⟩ := PL.K.facts (P := (PySem.Challenge.rw_paneplans_k48_errors_of_changes).prog) (w := w) KX G hmg c
    exact ⟨K, fd, _, KX, hb, fun H a ns hl _ hS => PL.law_sp (T := PL.K.T) (Fn := PL.K.f_law) rfl rfl rfl hS (hyp ns hl), hF⟩

namespace PL
namespace K
open PySem L2
open PySem (PyData Str)
def plansD : List D := [.none, .tuple [], .list [], .tuple [.int 0, .int 1], .list [.int 1], .list [.int 0, .int 0], .list [.int 0, .int 2], .list [.int 0, .bool true], .list [.str "0"], .list [.int 1, .int 3, .int 0, .int 2], .list [.int 2, .int 0, .int 3, .int 1], .int 3, .dict [], .list (rng 0 61), .list [.int 0, .int 1, .none], .list [.list [.int 0]], .str "0", .list [.int 3, .int 1, .int 2], .list [.int 0, .int (-1)], .list [.int 0, .int 100000000000000000000000000000], .list [.int 0, .int 2, .int 4, .int 1, .int 3], .list [.int 1, .int 4, .int 0, .int 3]]
def goodD : D := .list [.int 1, .int 4, .int 2, .int 0, .int 3]
/-- what asking comes to -/
abbrev Asks (way : Int) (row : D) (two three r : D) : Prop := run tbl subC 99 F__law_asked [(9, .int way), sv row, sv two, sv three] = .ok (9, r) []
theorem bad_0_0 (far : Int) (word : Str) : Asks 0 (.none) (.int far) (.str word) (.int 0) := by kernel_rfl
theorem bad_0_1 (far : Int) (word : Str) : Asks 1 (.none) (.int far) (.str word) (.int 0) := by kernel_rfl
theorem bad_0_2 (far : Int) (word : Str) : Asks 2 (.none) (.int far) (.str word) (.int 0) := by kernel_rfl
theorem bad_0_3 (far : Int) (word : Str) : Asks 3 (.none) (.int far) (.str word) (.int 0) := by kernel_rfl
theorem bad_0_4 (far : Int) (word : Str) : Asks 4 (.none) (.int far) (.str word) (.int 0) := by kernel_rfl
theorem bad_0_5 (far : Int) (word : Str) : Asks 5 (.none) (.int far) (.str word) (.int 0) := by kernel_rfl
theorem bad_1_0 (far : Int) (word : Str) : Asks 0 (.tuple []) (.int far) (.str word) (.int 0) := by kernel_rfl
theorem bad_1_1 (far : Int) (word : Str) : Asks 1 (.tuple []) (.int far) (.str word) (.int 0) := by kernel_rfl
theorem bad_1_2 (far : Int) (word : Str) : Asks 2 (.tuple []) (.int far) (.str word) (.int 0) := by kernel_rfl
theorem bad_1_3 (far : Int) (word : Str) : Asks 3 (.tuple []) (.int far) (.str word) (.int 0) := by kernel_rfl
theorem bad_1_4 (far : Int) (word : Str) : Asks 4 (.tuple []) (.int far) (.str word) (.int 0) := by kernel_rfl
theorem bad_1_5 (far : Int) (word : Str) : Asks 5 (.tuple []) (.int far) (.str word) (.int 0) := by kernel_rfl
theorem bad_2_0 (far : Int) (word : Str) : Asks 0 (.list []) (.int far) (.str word) (.int 0) := by kernel_rfl
theorem bad_2_1 (far : Int) (word : Str) : Asks 1 (.list []) (.int far) (.str word) (.int 0) := by kernel_rfl
theorem bad_2_2 (far : Int) (word : Str) : Asks 2 (.list []) (.int far) (.str word) (.int 0) := by kernel_rfl
theorem bad_2_3 (far : Int) (word : Str) : Asks 3 (.list []) (.int far) (.str word) (.int 0) := by kernel_rfl
theorem bad_2_4 (far : Int) (word : Str) : Asks 4 (.list []) (.int far) (.str word) (.int 0) := by kernel_rfl
theorem bad_2_5 (far : Int) (word : Str) : Asks 5 (.list []) (.int far) (.str word) (.int 0) := by kernel_rfl
theorem bad_3_0 (far : Int) (word : Str) : Asks 0 (.tuple [.int 0, .int 1]) (.int far) (.str word) (.int 0) := by kernel_rfl
theorem bad_3_1 (far : Int) (word : Str) : Asks 1 (.tuple [.int 0, .int 1]) (.int far) (.str word) (.int 0) := by kernel_rfl
theorem bad_3_2 (far : Int) (word : Str) : Asks 2 (.tuple [.int 0, .int 1]) (.int far) (.str word) (.int 0) := by kernel_rfl
theorem bad_3_3 (far : Int) (word : Str) : Asks 3 (.tuple [.int 0, .int 1]) (.int far) (.str word) (.int 0) := by kernel_rfl
theorem bad_3_4 (far : Int) (word : Str) : Asks 4 (.tuple [.int 0, .int 1]) (.int far) (.str word) (.int 0) := by kernel_rfl
theorem bad_3_5 (far : Int) (word : Str) : Asks 5 (.tuple [.int 0, .int 1]) (.int far) (.str word) (.int 0) := by kernel_rfl
theorem bad_4_0 (far : Int) (word : Str) : Asks 0 (.list [.int 1]) (.int far) (.str word) (.int 0) := by kernel_rfl
theorem bad_4_1 (far : Int) (word : Str) : Asks 1 (.list [.int 1]) (.int far) (.str word) (.int 0) := by kernel_rfl
theorem bad_4_2 (far : Int) (word : Str) : Asks 2 (.list [.int 1]) (.int far) (.str word) (.int 0) := by kernel_rfl
theorem bad_4_3 (far : Int) (word : Str) : Asks 3 (.list [.int 1]) (.int far) (.str word) (.int 0) := by kernel_rfl
theorem bad_4_4 (far : Int) (word : Str) : Asks 4 (.list [.int 1]) (.int far) (.str word) (.int 0) := by kernel_rfl
theorem bad_4_5 (far : Int) (word : Str) : Asks 5 (.list [.int 1]) (.int far) (.str word) (.int 0) := by kernel_rfl
theorem bad_5_0 (far : Int) (word : Str) : Asks 0 (.list [.int 0, .int 0]) (.int far) (.str word) (.int 0) := by kernel_rfl
theorem bad_5_1 (far : Int) (word : Str) : Asks 1 (.list [.int 0, .int 0]) (.int far) (.str word) (.int 0) := by kernel_rfl
theorem bad_5_2 (far : Int) (word : Str) : Asks 2 (.list [.int 0, .int 0]) (.int far) (.str word) (.int 0) := by kernel_rfl
theorem bad_5_3 (far : Int) (word : Str) : Asks 3 (.list [.int 0, .int 0]) (.int far) (.str word) (.int 0) := by kernel_rfl
theorem bad_5_4 (far : Int) (word : Str) : Asks 4 (.list [.int 0, .int 0]) (.int far) (.str word) (.int 0) := by kernel_rfl
theorem bad_5_5 (far : Int) (word : Str) : Asks 5 (.list [.int 0, .int 0]) (.int far) (.str word) (.int 0) := by kernel_rfl
theorem bad_6_0 (far : Int) (word : Str) : Asks 0 (.list [.int 0, .int 2]) (.int far) (.str word) (.int 0) := by kernel_rfl
theorem bad_6_1 (far : Int) (word : Str) : Asks 1 (.list [.int 0, .int 2]) (.int far) (.str word) (.int 0) := by kernel_rfl
theorem bad_6_2 (far : Int) (word : Str) : Asks 2 (.list [.int 0, .int 2]) (.int far) (.str word) (.int 0) := by kernel_rfl
theorem bad_6_3 (far : Int) (word : Str) : Asks 3 (.list [.int 0, .int 2]) (.int far) (.str word) (.int 0) := by kernel_rfl
theorem bad_6_4 (far : Int) (word : Str) : Asks 4 (.list [.int 0, .int 2]) (.int far) (.str word) (.int 0) := by kernel_rfl
theorem bad_6_5 (far : Int) (word : Str) : Asks 5 (.list [.int 0, .int 2]) (.int far) (.str word) (.int 0) := by kernel_rfl
theorem bad_7_0 (far : Int) (word : Str) : Asks 0 (.list [.int 0, .bool true]) (.int far) (.str word) (.int 0) := by kernel_rfl
theorem bad_7_1 (far : Int) (word : Str) : Asks 1 (.list [.int 0, .bool true]) (.int far) (.str word) (.int 0) := by kernel_rfl
theorem bad_7_2 (far : Int) (word : Str) : Asks 2 (.list [.int 0, .bool true]) (.int far) (.str word) (.int 0) := by kernel_rfl
theorem bad_7_3 (far : Int) (word : Str) : Asks 3 (.list [.int 0, .bool true]) (.int far) (.str word) (.int 0) := by kernel_rfl
theorem bad_7_4 (far : Int) (word : Str) : Asks 4 (.list [.int 0, .bool true]) (.int far) (.str word) (.int 0) := by kernel_rfl
theorem bad_7_5 (far : Int) (word : Str) : Asks 5 (.list [.int 0, .bool true]) (.int far) (.str word) (.int 0) := by kernel_rfl
theorem bad_8_0 (far : Int) (word : Str) : Asks 0 (.list [.str "0"]) (.int far) (.str word) (.int 0) := by kernel_rfl
theorem bad_8_1 (far : Int) (word : Str) : Asks 1 (.list [.str "0"]) (.int far) (.str word) (.int 0) := by kernel_rfl
theorem bad_8_2 (far : Int) (word : Str) : Asks 2 (.list [.str "0"]) (.int far) (.str word) (.int 0) := by kernel_rfl
theorem bad_8_3 (far : Int) (word : Str) : Asks 3 (.list [.str "0"]) (.int far) (.str word) (.int 0) := by kernel_rfl
theorem bad_8_4 (far : Int) (word : Str) : Asks 4 (.list [.str "0"]) (.int far) (.str word) (.int 0) := by kernel_rfl
theorem bad_8_5 (far : Int) (word : Str) : Asks 5 (.list [.str "0"]) (.int far) (.str word) (.int 0) := by kernel_rfl
theorem bad_9_0 (far : Int) (word : Str) : Asks 0 (.list [.int 1, .int 3, .int 0, .int 2]) (.int far) (.str word) (.int 0) := by kernel_rfl
theorem bad_9_1 (far : Int) (word : Str) : Asks 1 (.list [.int 1, .int 3, .int 0, .int 2]) (.int far) (.str word) (.int 0) := by kernel_rfl
theorem bad_9_2 (far : Int) (word : Str) : Asks 2 (.list [.int 1, .int 3, .int 0, .int 2]) (.int far) (.str word) (.int 0) := by kernel_rfl
theorem bad_9_3 (far : Int) (word : Str) : Asks 3 (.list [.int 1, .int 3, .int 0, .int 2]) (.int far) (.str word) (.int 0) := by kernel_rfl
theorem bad_9_4 (far : Int) (word : Str) : Asks 4 (.list [.int 1, .int 3, .int 0, .int 2]) (.int far) (.str word) (.int 0) := by kernel_rfl
theorem bad_9_5 (far : Int) (word : Str) : Asks 5 (.list [.int 1, .int 3, .int 0, .int 2]) (.int far) (.str word) (.int 0) := by kernel_rfl
theorem bad_10_0 (far : Int) (word : Str) : Asks 0 (.list [.int 2, .int 0, .int 3, .int 1]) (.int far) (.str word) (.int 0) := by kernel_rfl
theorem bad_10_1 (far : Int) (word : Str) : Asks 1 (.list [.int 2, .int 0, .int 3, .int 1]) (.int far) (.str word) (.int 0) := by kernel_rfl
theorem bad_10_2 (far : Int) (word : Str) : Asks 2 (.list [.int 2, .int 0, .int 3, .int 1]) (.int far) (.str word) (.int 0) := by kernel_rfl
theorem bad_10_3 (far : Int) (word : Str) : Asks 3 (.list [.int 2, .int 0, .int 3, .int 1]) (.int far) (.str word) (.int 0) := by kernel_rfl
theorem bad_10_4 (far : Int) (word : Str) : Asks 4 (.list [.int 2, .int 0, .int 3, .int 1]) (.int far) (.str word) (.int 0) := by kernel_rfl
theorem bad_10_5 (far : Int) (word : Str) : Asks 5 (.list [.int 2, .int 0, .int 3, .int 1]) (.int far) (.str word) (.int 0) := by kernel_rfl
theorem bad_11_0 (far : Int) (word : Str) : Asks 0 (.int 3) (.int far) (.str word) (.int 0) := by kernel_rfl
theorem bad_11_1 (far : Int) (word : Str) : Asks 1 (.int 3) (.int far) (.str word) (.int 0) := by kernel_rfl
theorem bad_11_2 (far : Int) (word : Str) : Asks 2 (.int 3) (.int far) (.str word) (.int 0) := by kernel_rfl
theorem bad_11_3 (far : Int) (word : Str) : Asks 3 (.int 3) (.int far) (.str word) (.int 0) := by kernel_rfl
theorem bad_11_4 (far : Int) (word : Str) : Asks 4 (.int 3) (.int far) (.str word) (.int 0) := by kernel_rfl
theorem bad_11_5 (far : Int) (word : Str) : Asks 5 (.int 3) (.int far) (.str word) (.int 0) := by kernel_rfl
theorem bad_12_0 (far : Int) (word : Str) : Asks 0 (.dict []) (.int far) (.str word) (.int 0) := by kernel_rfl
theorem bad_12_1 (far : Int) (word : Str) : Asks 1 (.dict []) (.int far) (.str word) (.int 0) := by kernel_rfl
theorem bad_12_2 (far : Int) (word : Str) : Asks 2 (.dict []) (.int far) (.str word) (.int 0) := by kernel_rfl
theorem bad_12_3 (far : Int) (word : Str) : Asks 3 (.dict []) (.int far) (.str word) (.int 0) := by kernel_rfl
theorem bad_12_4 (far : Int) (word : Str) : Asks 4 (.dict []) (.int far) (.str word) (.int 0) := by kernel_rfl
theorem bad_12_5 (far : Int) (word : Str) : Asks 5 (.dict []) (.int far) (.str word) (.int 0) := by kernel_rfl
theorem bad_13_0 (far : Int) (word : Str) : Asks 0 (.list (rng 0 61)) (.int far) (.str word) (.int 0) := by kernel_rfl
theorem bad_13_1 (far : Int) (word : Str) : Asks 1 (.list (rng 0 61)) (.int far) (.str word) (.int 0) := by kernel_rfl
theorem bad_13_2 (far : Int) (word : Str) : Asks 2 (.list (rng 0 61)) (.int far) (.str word) (.int 0) := by kernel_rfl
theorem bad_13_3 (far : Int) (word : Str) : Asks 3 (.list (rng 0 61)) (.int far) (.str word) (.int 0) := by kernel_rfl
theorem bad_13_4 (far : Int) (word : Str) : Asks 4 (.list (rng 0 61)) (.int far) (.str word) (.int 0) := by kernel_rfl
theorem bad_13_5 (far : Int) (word : Str) : Asks 5 (.list (rng 0 61)) (.int far) (.str word) (.int 0) := by kernel_rfl
theorem bad_14_0 (far : Int) (word : Str) : Asks 0 (.list [.int 0, .int 1, .none]) (.int far) (.str word) (.int 0) := by kernel_rfl
theorem bad_14_1 (far : Int) (word : Str) : Asks 1 (.list [.int 0, .int 1, .none]) (.int far) (.str word) (.int 0) := by kernel_rfl
theorem bad_14_2 (far : Int) (word : Str) : Asks 2 (.list [.int 0, .int 1, .none]) (.int far) (.str word) (.int 0) := by kernel_rfl
theorem bad_14_3 (far : Int) (word : Str) : Asks 3 (.list [.int 0, .int 1, .none]) (.int far) (.str word) (.int 0) := by kernel_rfl
theorem bad_14_4 (far : Int) (word : Str) : Asks 4 (.list [.int 0, .int 1, .none]) (.int far) (.str word) (.int 0) := by kernel_rfl
theorem bad_14_5 (far : Int) (word : Str) : Asks 5 (.list [.int 0, .int 1, .none]) (.int far) (.str word) (.int 0) := by kernel_rfl
theorem bad_15_0 (far : Int) (word : Str) : Asks 0 (.list [.list [.int 0]]) (.int far) (.str word) (.int 0) := by kernel_rfl
theorem bad_15_1 (far : Int) (word : Str) : Asks 1 (.list [.list [.int 0]]) (.int far) (.str word) (.int 0) := by kernel_rfl
theorem bad_15_2 (far : Int) (word : Str) : Asks 2 (.list [.list [.int 0]]) (.int far) (.str word) (.int 0) := by kernel_rfl
theorem bad_15_3 (far : Int) (word : Str) : Asks 3 (.list [.list [.int 0]]) (.int far) (.str word) (.int 0) := by kernel_rfl
theorem bad_15_4 (far : Int) (word : Str) : Asks 4 (.list [.list [.int 0]]) (.int far) (.str word) (.int 0) := by kernel_rfl
theorem bad_15_5 (far : Int) (word : Str) : Asks 5 (.list [.list [.int 0]]) (.int far) (.str word) (.int 0) := by kernel_rfl
theorem bad_16_0 (far : Int) (word : Str) : Asks 0 (.str "0") (.int far) (.str word) (.int 0) := by kernel_rfl
theorem bad_16_1 (far : Int) (word : Str) : Asks 1 (.str "0") (.int far) (.str word) (.int 0) := by kernel_rfl
theorem bad_16_2 (far : Int) (word : Str) : Asks 2 (.str "0") (.int far) (.str word) (.int 0) := by kernel_rfl
theorem bad_16_3 (far : Int) (word : Str) : Asks 3 (.str "0") (.int far) (.str word) (.int 0) := by kernel_rfl
theorem bad_16_4 (far : Int) (word : Str) : Asks 4 (.str "0") (.int far) (.str word) (.int 0) := by kernel_rfl
theorem bad_16_5 (far : Int) (word : Str) : Asks 5 (.str "0") (.int far) (.str word) (.int 0) := by kernel_rfl
theorem bad_17_0 (far : Int) (word : Str) : Asks 0 (.list [.int 3, .int 1, .int 2]) (.int far) (.str word) (.int 0) := by kernel_rfl
theorem bad_17_1 (far : Int) (word : Str) : Asks 1 (.list [.int 3, .int 1, .int 2]) (.int far) (.str word) (.int 0) := by kernel_rfl
theorem bad_17_2 (far : Int) (word : Str) : Asks 2 (.list [.int 3, .int 1, .int 2]) (.int far) (.str word) (.int 0) := by kernel_rfl
theorem bad_17_3 (far : Int) (word : Str) : Asks 3 (.list [.int 3, .int 1, .int 2]) (.int far) (.str word) (.int 0) := by kernel_rfl
theorem bad_17_4 (far : Int) (word : Str) : Asks 4 (.list [.int 3, .int 1, .int 2]) (.int far) (.str word) (.int 0) := by kernel_rfl
theorem bad_17_5 (far : Int) (word : Str) : Asks 5 (.list [.int 3, .int 1, .int 2]) (.int far) (.str word) (.int 0) := by kernel_rfl
theorem bad_18_0 (far : Int) (word : Str) : Asks 0 (.list [.int 0, .int (-1)]) (.int far) (.str word) (.int 0) := by kernel_rfl
theorem bad_18_1 (far : Int) (word : Str) : Asks 1 (.list [.int 0, .int (-1)]) (.int far) (.str word) (.int 0) := by kernel_rfl
theorem bad_18_2 (far : Int) (word : Str) : Asks 2 (.list [.int 0, .int (-1)]) (.int far) (.str word) (.int 0) := by kernel_rfl
theorem bad_18_3 (far : Int) (word : Str) : Asks 3 (.list [.int 0, .int (-1)]) (.int far) (.str word) (.int 0) := by kernel_rfl
theorem bad_18_4 (far : Int) (word : Str) : Asks 4 (.list [.int 0, .int (-1)]) (.int far) (.str word) (.int 0) := by kernel_rfl
theorem bad_18_5 (far : Int) (word : Str) : Asks 5 (.list [.int 0, .int (-1)]) (.int far) (.str word) (.int 0) := by kernel_rfl
theorem bad_19_0 (far : Int) (word : Str) : Asks 0 (.list [.int 0, .int 100000000000000000000000000000]) (.int far) (.str word) (.int 0) := by kernel_rfl
theorem bad_19_1 (far : Int) (word : Str) : Asks 1 (.list [.int 0, .int 100000000000000000000000000000]) (.int far) (.str word) (.int 0) := by kernel_rfl
theorem bad_19_2 (far : Int) (word : Str) : Asks 2 (.list [.int 0, .int 100000000000000000000000000000]) (.int far) (.str word) (.int 0) := by kernel_rfl
theorem bad_19_3 (far : Int) (word : Str) : Asks 3 (.list [.int 0, .int 100000000000000000000000000000]) (.int far) (.str word) (.int 0) := by kernel_rfl
theorem bad_19_4 (far : Int) (word : Str) : Asks 4 (.list [.int 0, .int 100000000000000000000000000000]) (.int far) (.str word) (.int 0) := by kernel_rfl
theorem bad_19_5 (far : Int) (word : Str) : Asks 5 (.list [.int 0, .int 100000000000000000000000000000]) (.int far) (.str word) (.int 0) := by kernel_rfl
theorem bad_20_0 (far : Int) (word : Str) : Asks 0 (.list [.int 0, .int 2, .int 4, .int 1, .int 3]) (.int far) (.str word) (.int 0) := by kernel_rfl
theorem bad_20_1 (far : Int) (word : Str) : Asks 1 (.list [.int 0, .int 2, .int 4, .int 1, .int 3]) (.int far) (.str word) (.int 0) := by kernel_rfl
theorem bad_20_2 (far : Int) (word : Str) : Asks 2 (.list [.int 0, .int 2, .int 4, .int 1, .int 3]) (.int far) (.str word) (.int 0) := by kernel_rfl
theorem bad_20_3 (far : Int) (word : Str) : Asks 3 (.list [.int 0, .int 2, .int 4, .int 1, .int 3]) (.int far) (.str word) (.int 0) := by kernel_rfl
theorem bad_20_4 (far : Int) (word : Str) : Asks 4 (.list [.int 0, .int 2, .int 4, .int 1, .int 3]) (.int far) (.str word) (.int 0) := by kernel_rfl
theorem bad_20_5 (far : Int) (word : Str) : Asks 5 (.list [.int 0, .int 2, .int 4, .int 1, .int 3]) (.int far) (.str word) (.int 0) := by kernel_rfl
theorem bad_21_0 (far : Int) (word : Str) : Asks 0 (.list [.int 1, .int 4, .int 0, .int 3]) (.int far) (.str word) (.int 0) := by kernel_rfl
theorem bad_21_1 (far : Int) (word : Str) : Asks 1 (.list [.int 1, .int 4, .int 0, .int 3]) (.int far) (.str word) (.int 0) := by kernel_rfl
theorem bad_21_2 (far : Int) (word : Str) : Asks 2 (.list [.int 1, .int 4, .int 0, .int 3]) (.int far) (.str word) (.int 0) := by kernel_rfl
theorem bad_21_3 (far : Int) (word : Str) : Asks 3 (.list [.int 1, .int 4, .int 0, .int 3]) (.int far) (.str word) (.int 0) := by kernel_rfl
theorem bad_21_4 (far : Int) (word : Str) : Asks 4 (.list [.int 1, .int 4, .int 0, .int 3]) (.int far) (.str word) (.int 0) := by kernel_rfl
theorem bad_21_5 (far : Int) (word : Str) : Asks 5 (.list [.int 1, .int 4, .int 0, .int 3]) (.int far) (.str word) (.int 0) := by kernel_rfl
theorem bad_ok {way far : Int} {word : Str} {row : D} (hr : row ∈ plansD) (h0 : 0 ≤ way) (h1 : way < 6) : Asks way row (.int far) (.str word) (.int 0) := by
  have hw : way = 0 ∨ way = 1 ∨ way = 2 ∨ way = 3 ∨ way = 4 ∨ way = 5 := by omega
  unfold plansD at hr
  simp only [List.mem_cons, List.not_mem_nil, or_false] at hr
  rcases hr with rfl | rfl | rfl | rfl | rfl | rfl | rfl | rfl | rfl | rfl | rfl | rfl | rfl | rfl | rfl | rfl | rfl | rfl | rfl | rfl | rfl | rfl
  · rcases hw with rfl | rfl | rfl | rfl | rfl | rfl
    · exact bad_0_0 far word
    · exact bad_0_1 far word
    · exact bad_0_2 far word
    · exact bad_0_3 far word
    · exact bad_0_4 far word
    · exact bad_0_5 far word
  · rcases hw with rfl | rfl | rfl | rfl | rfl | rfl
    · exact bad_1_0 far word
    · exact bad_1_1 far word
    · exact bad_1_2 far word
    · exact bad_1_3 far word
    · exact bad_1_4 far word
    · exact bad_1_5 far word
  · rcases hw with rfl | rfl | rfl | rfl | rfl | rfl
    · exact bad_2_0 far word
    · exact bad_2_1 far word
    · exact bad_2_2 far word
    · exact bad_2_3 far word
    · exact bad_2_4 far word
    · exact bad_2_5 far word
  · rcases hw with rfl | rfl | rfl | rfl | rfl | rfl
    · exact bad_3_0 far word
    · exact bad_3_1 far word
    · exact bad_3_2 far word
    · exact bad_3_3 far word
    · exact bad_3_4 far word
    · exact bad_3_5 far word
  · rcases hw with rfl | rfl | rfl | rfl | rfl | rfl
    · exact bad_4_0 far word
    · exact bad_4_1 far word
    · exact bad_4_2 far word
    · exact bad_4_3 far word
    · exact bad_4_4 far word
    · exact bad_4_5 far word
  · rcases hw with rfl | rfl | rfl | rfl | rfl | rfl
    · exact bad_5_0 far word
    · exact bad_5_1 far word
    · exact bad_5_2 far word
    · exact bad_5_3 far word
    · exact bad_5_4 far word
    · exact bad_5_5 far word
  · rcases hw with rfl | rfl | rfl | rfl | rfl | rfl
    · exact bad_6_0 far word
    · exact bad_6_1 far word
    · exact bad_6_2 far word
    · exact bad_6_3 far word
    · exact bad_6_4 far word
    · exact bad_6_5 far word
  · rcases hw with rfl | rfl | rfl | rfl | rfl | rfl
    · exact bad_7_0 far word
    · exact bad_7_1 far word
    · exact bad_7_2 far word
    · exact bad_7_3 far word
    · exact bad_7_4 far word
    · exact bad_7_5 far word
  · rcases hw with rfl | rfl | rfl | rfl | rfl | rfl
    · exact bad_8_0 far word
    · exact bad_8_1 far word
    · exact bad_8_2 far word
    · exact bad_8_3 far word
    · exact bad_8_4 far word
    · exact bad_8_5 far word
  · rcases hw with rfl | rfl | rfl | rfl | rfl | rfl
    · exact bad_9_0 far word
    · exact bad_9_1 far word
    · exact bad_9_2 far word
    · exact bad_9_3 far word
    · exact bad_9_4 far word
    · exact bad_9_5 far word
  · rcases hw with rfl | rfl | rfl | rfl | rfl | rfl
    · exact bad_10_0 far word
    · exact bad_10_1 far word
    · exact bad_10_2 far word
    · exact bad_10_3 far word
    · exact bad_10_4 far word
    · exact bad_10_5 far word
  · rcases hw with rfl | rfl | rfl | rfl | rfl | rfl
    · exact bad_11_0 far word
    · exact bad_11_1 far word
    · exact bad_11_2 far word
    · exact bad_11_3 far word
    · exact bad_11_4 far word
    · exact bad_11_5 far word
  · rcases hw with rfl | rfl | rfl | rfl | rfl | rfl
    · exact bad_12_0 far word
    · exact bad_12_1 far word
    · exact bad_12_2 far word
    · exact bad_12_3 far word
    · exact bad_12_4 far word
    · exact bad_12_5 far word
  · rcases hw with rfl | rfl | rfl | rfl | rfl | rfl
    · exact bad_13_0 far word
    · exact bad_13_1 far word
    · exact bad_13_2 far word
    · exact bad_13_3 far word
    · exact bad_13_4 far word
    · exact bad_13_5 far word
  · rcases hw with rfl | rfl | rfl | rfl | rfl | rfl
    · exact bad_14_0 far word
    · exact bad_14_1 far word
    · exact bad_14_2 far word
    · exact bad_14_3 far word
    · exact bad_14_4 far word
    · exact bad_14_5 far word
  · rcases hw with rfl | rfl | rfl | rfl | rfl | rfl
    · exact bad_15_0 far word
    · exact bad_15_1 far word
    · exact bad_15_2 far word
    · exact bad_15_3 far word
    · exact bad_15_4 far word
    · exact bad_15_5 far word
  · rcases hw with rfl | rfl | rfl | rfl | rfl | rfl
    · exact bad_16_0 far word
    · exact bad_16_1 far word
    · exact bad_16_2 far word
    · exact bad_16_3 far word
    · exact bad_16_4 far word
    · exact bad_16_5 far word
  · rcases hw with rfl | rfl | rfl | rfl | rfl | rfl
    · exact bad_17_0 far word
    · exact bad_17_1 far word
    · exact bad_17_2 far word
    · exact bad_17_3 far word
    · exact bad_17_4 far word
    · exact bad_17_5 far word
  · rcases hw with rfl | rfl | rfl | rfl | rfl | rfl
    · exact bad_18_0 far word
    · exact bad_18_1 far word
    · exact bad_18_2 far word
    · exact bad_18_3 far word
    · exact bad_18_4 far word
    · exact bad_18_5 far word
  · rcases hw with rfl | rfl | rfl | rfl | rfl | rfl
    · exact bad_19_0 far word
    · exact bad_19_1 far word
    · exact bad_19_2 far word
    · exact bad_19_3 far word
    · exact bad_19_4 far word
    · exact bad_19_5 far word
  · rcases hw with rfl | rfl | rfl | rfl | rfl | rfl
    · exact bad_20_0 far word
    · exact bad_20_1 far word
    · exact bad_20_2 far word
    · exact bad_20_3 far word
    · exact bad_20_4 far word
    · exact bad_20_5 far word
  · rcases hw with rfl | rfl | rfl | rfl | rfl | rfl
    · exact bad_21_0 far word
    · exact bad_21_1 far word
    · exact bad_21_2 far word
    · exact bad_21_3 far word
    · exact bad_21_4 far word
    · exact bad_21_5 far word
theorem far_0_0 (word : Str) : Asks 0 goodD (.int (-1)) (.str word) (.int 1) := by kernel_rfl
theorem far_0_1 (word : Str) : Asks 1 goodD (.int (-1)) (.str word) (.int 1) := by kernel_rfl
theorem far_0_2 (word : Str) : Asks 2 goodD (.int (-1)) (.str word) (.int 1) := by kernel_rfl
theorem far_1_0 (word : Str) : Asks 0 goodD (.int 5) (.str word) (.int 1) := by kernel_rfl
theorem far_1_1 (word : Str) : Asks 1 goodD (.int 5) (.str word) (.int 1) := by kernel_rfl
theorem far_1_2 (word : Str) : Asks 2 goodD (.int 5) (.str word) (.int 1) := by kernel_rfl
theorem far_2_0 (word : Str) : Asks 0 goodD (.int 100000000000000000000000000000) (.str word) (.int 1) := by kernel_rfl
theorem far_2_1 (word : Str) : Asks 1 goodD (.int 100000000000000000000000000000) (.str word) (.int 1) := by kernel_rfl
theorem far_2_2 (word : Str) : Asks 2 goodD (.int 100000000000000000000000000000) (.str word) (.int 1) := by kernel_rfl
theorem far_3_0 (word : Str) : Asks 0 goodD (.int (-100000000000000000000000000000)) (.str word) (.int 1) := by kernel_rfl
theorem far_3_1 (word : Str) : Asks 1 goodD (.int (-100000000000000000000000000000)) (.str word) (.int 1) := by kernel_rfl
theorem far_3_2 (word : Str) : Asks 2 goodD (.int (-100000000000000000000000000000)) (.str word) (.int 1) := by kernel_rfl
theorem wrd_0_0 : Asks 2 goodD (.int 0) (.str "") (.int 2) := by kernel_rfl
theorem wrd_0_1 : Asks 2 goodD (.int 1) (.str "") (.int 2) := by kernel_rfl
theorem wrd_0_2 : Asks 2 goodD (.int 2) (.str "") (.int 2) := by kernel_rfl
theorem wrd_0_3 : Asks 2 goodD (.int 3) (.str "") (.int 2) := by kernel_rfl
theorem wrd_0_4 : Asks 2 goodD (.int 4) (.str "") (.int 2) := by kernel_rfl
theorem wrd_1_0 : Asks 2 goodD (.int 0) (.str "Left") (.int 2) := by kernel_rfl
theorem wrd_1_1 : Asks 2 goodD (.int 1) (.str "Left") (.int 2) := by kernel_rfl
theorem wrd_1_2 : Asks 2 goodD (.int 2) (.str "Left") (.int 2) := by kernel_rfl
theorem wrd_1_3 : Asks 2 goodD (.int 3) (.str "Left") (.int 2) := by kernel_rfl
theorem wrd_1_4 : Asks 2 goodD (.int 4) (.str "Left") (.int 2) := by kernel_rfl
theorem wrd_2_0 : Asks 2 goodD (.int 0) (.str "right") (.int 2) := by kernel_rfl
theorem wrd_2_1 : Asks 2 goodD (.int 1) (.str "right") (.int 2) := by kernel_rfl
theorem wrd_2_2 : Asks 2 goodD (.int 2) (.str "right") (.int 2) := by kernel_rfl
theorem wrd_2_3 : Asks 2 goodD (.int 3) (.str "right") (.int 2) := by kernel_rfl
theorem wrd_2_4 : Asks 2 goodD (.int 4) (.str "right") (.int 2) := by kernel_rfl
theorem wrd_3_0 : Asks 2 goodD (.int 0) (.str "below") (.int 2) := by kernel_rfl
theorem wrd_3_1 : Asks 2 goodD (.int 1) (.str "below") (.int 2) := by kernel_rfl
theorem wrd_3_2 : Asks 2 goodD (.int 2) (.str "below") (.int 2) := by kernel_rfl
theorem wrd_3_3 : Asks 2 goodD (.int 3) (.str "below") (.int 2) := by kernel_rfl
theorem wrd_3_4 : Asks 2 goodD (.int 4) (.str "below") (.int 2) := by kernel_rfl
theorem wrd_4_0 : Asks 2 goodD (.int 0) (.str "left ") (.int 2) := by kernel_rfl
theorem wrd_4_1 : Asks 2 goodD (.int 1) (.str "left ") (.int 2) := by kernel_rfl
theorem wrd_4_2 : Asks 2 goodD (.int 2) (.str "left ") (.int 2) := by kernel_rfl
theorem wrd_4_3 : Asks 2 goodD (.int 3) (.str "left ") (.int 2) := by kernel_rfl
theorem wrd_4_4 : Asks 2 goodD (.int 4) (.str "left ") (.int 2) := by kernel_rfl
theorem wrd_5_0 : Asks 2 goodD (.int 0) (.str "sides") (.int 2) := by kernel_rfl
theorem wrd_5_1 : Asks 2 goodD (.int 1) (.str "sides") (.int 2) := by kernel_rfl
theorem wrd_5_2 : Asks 2 goodD (.int 2) (.str "sides") (.int 2) := by kernel_rfl
theorem wrd_5_3 : Asks 2 goodD (.int 3) (.str "sides") (.int 2) := by kernel_rfl
theorem wrd_5_4 : Asks 2 goodD (.int 4) (.str "sides") (.int 2) := by kernel_rfl
theorem mir_0 : Asks 3 goodD (.int 0) (.str "left") (.int 2) := by kernel_rfl
theorem mir_1 : Asks 3 goodD (.int 0) (.str "side") (.int 2) := by kernel_rfl
theorem mir_2 : Asks 3 goodD (.int 0) (.str "") (.int 2) := by kernel_rfl
theorem nei_0_0 : Asks 0 goodD (.int 0) (.int 0) (.int 3) := by kernel_rfl
theorem nei_0_1 : Asks 0 goodD (.int 1) (.int 0) (.int 3) := by kernel_rfl
theorem nei_0_2 : Asks 0 goodD (.int 2) (.int 0) (.int 3) := by kernel_rfl
theorem nei_0_3 : Asks 0 goodD (.int 3) (.int 0) (.int 3) := by kernel_rfl
theorem nei_0_4 : Asks 0 goodD (.int 4) (.int 0) (.int 3) := by kernel_rfl
theorem nei_1_0 : Asks 1 goodD (.int 0) (.int 0) (.int 3) := by kernel_rfl
theorem nei_1_1 : Asks 1 goodD (.int 1) (.int 0) (.int 3) := by kernel_rfl
theorem nei_1_2 : Asks 1 goodD (.int 2) (.int 0) (.int 3) := by kernel_rfl
theorem nei_1_3 : Asks 1 goodD (.int 3) (.int 0) (.int 3) := by kernel_rfl
theorem nei_1_4 : Asks 1 goodD (.int 4) (.int 0) (.int 3) := by kernel_rfl
end K
end PL

namespace PL
namespace K
open PySem L2
open PySem (PyData Str)
theorem full_far (far : Int) (word : Str) : Asks 2 (.list (rng 0 60)) (.int far) (.str word) (.int 0) := by kernel_rfl
theorem end_1 : Asks 0 (.list [.int 0, .int 1]) (.int 1) (.int 0) (.int 3) := by kernel_rfl
theorem end_2 : Asks 1 (.list [.int 0]) (.int 0) (.int 0) (.int 3) := by kernel_rfl
theorem end_3 : Asks 2 (.list (rng 0 59)) (.int 58) (.str "left") .none := by kernel_rfl
theorem end_4 : Asks 0 (.list (rng 0 60)) (.int 58) (.int 0) .none := by kernel_rfl
theorem end_5 : Asks 1 (.list (rng 0 60)) (.int 59) (.int 0) (.int 3) := by kernel_rfl
theorem end_6 : Asks 3 (.list (rng 0 60)) (.int 0) (.str "ends") .none := by kernel_rfl
theorem end_7 : Asks 4 (.list (rng 0 60)) (.int 0) (.int 0) .none := by kernel_rfl
end K
end PL

namespace PL
namespace K
open PySem L2
open PySem (PyData Str)
theorem wpc_of {r r' : CR} {K : CR → Prop} (h : r = r') (k : K r') : wpc r K := ⟨by rw [h]; exact k⟩
theorem far_ok {way far : Int} {word : Str} (hf : far ∈ [(-1 : Int), 5, 100000000000000000000000000000, -100000000000000000000000000000]) (h0 : 0 ≤ way) (h1 : way < 3) : Asks way goodD (.int far) (.str word) (.int 1) := by
  have hw : way = 0 ∨ way = 1 ∨ way = 2 := by omega
  simp only [List.mem_cons, List.not_mem_nil, or_false] at hf
  rcases hf with rfl | rfl | rfl | rfl
  · rcases hw with rfl | rfl | rfl
    · exact far_0_0 word
    · exact far_0_1 word
    · exact far_0_2 word
  · rcases hw with rfl | rfl | rfl
    · exact far_1_0 word
    · exact far_1_1 word
    · exact far_1_2 word
  · rcases hw with rfl | rfl | rfl
    · exact far_2_0 word
    · exact far_2_1 word
    · exact far_2_2 word
  · rcases hw with rfl | rfl | rfl
    · exact far_3_0 word
    · exact far_3_1 word
    · exact far_3_2 word
theorem wrd_ok {two : Int} {word : Str} (hf : word ∈ ([ "", "Left", "right", "below", "left ", "sides"] : List Str)) (h0 : 0 ≤ two) (h1 : two < 5) : Asks 2 goodD (.int two) (.str word) (.int 2) := by
  have hw : two = 0 ∨ two = 1 ∨ two = 2 ∨ two = 3 ∨ two = 4 := by omega
  simp only [List.mem_cons, List.not_mem_nil, or_false] at hf
  rcases hf with rfl | rfl | rfl | rfl | rfl | rfl
  · rcases hw with rfl | rfl | rfl | rfl | rfl
    · exact wrd_0_0
    · exact wrd_0_1
    · exact wrd_0_2
    · exact wrd_0_3
    · exact wrd_0_4
  · rcases hw with rfl | rfl | rfl | rfl | rfl
    · exact wrd_1_0
    · exact wrd_1_1
    · exact wrd_1_2
    · exact wrd_1_3
    · exact wrd_1_4
  · rcases hw with rfl | rfl | rfl | rfl | rfl
    · exact wrd_2_0
    · exact wrd_2_1
    · exact wrd_2_2
    · exact wrd_2_3
    · exact wrd_2_4
  · rcases hw with rfl | rfl | rfl | rfl | rfl
    · exact wrd_3_0
    · exact wrd_3_1
    · exact wrd_3_2
    · exact wrd_3_3
    · exact wrd_3_4
  · rcases hw with rfl | rfl | rfl | rfl | rfl
    · exact wrd_4_0
    · exact wrd_4_1
    · exact wrd_4_2
    · exact wrd_4_3
    · exact wrd_4_4
  · rcases hw with rfl | rfl | rfl | rfl | rfl
    · exact wrd_5_0
    · exact wrd_5_1
    · exact wrd_5_2
    · exact wrd_5_3
    · exact wrd_5_4
theorem mir_ok {word : Str} (hf : word ∈ (["left", "side", ""] : List Str)) : Asks 3 goodD (.int 0) (.str word) (.int 2) := by
  simp only [List.mem_cons, List.not_mem_nil, or_false] at hf
  rcases hf with rfl | rfl | rfl
  · exact mir_0
  · exact mir_1
  · exact mir_2
theorem nei_ok {way two : Int} (g0 : 0 ≤ way) (g1 : way < 2) (h0 : 0 ≤ two) (h1 : two < 5) : Asks way goodD (.int two) (.int 0) (.int 3) := by
  have hw : two = 0 ∨ two = 1 ∨ two = 2 ∨ two = 3 ∨ two = 4 := by omega
  have hv : way = 0 ∨ way = 1 := by omega
  rcases hv with rfl | rfl
  · rcases hw with rfl | rfl | rfl | rfl | rfl
    · exact nei_0_0
    · exact nei_0_1
    · exact nei_0_2
    · exact nei_0_3
    · exact nei_0_4
  · rcases hw with rfl | rfl | rfl | rfl | rfl
    · exact nei_1_0
    · exact nei_1_1
    · exact nei_1_2
    · exact nei_1_3
    · exact nei_1_4
theorem al_1 : run tbl subC 99 F__law_alike [(0, .list [.int 0, .int 1, .int 2, .int 2, .int 3, .int 0]), (0, .list [.int 0, .int 1, .int 2, .int 2, .int 3, .int 0])] = .ok (9, .bool true) [] := by kernel_rfl
theorem al_2 : run tbl subC 99 F__law_alike [(0, .list [.int 3, .int 3, .none, .none, .int 3, .none, .none]), (0, .list [.int 3, .int 3, .none, .none, .int 3, .none, .none])] = .ok (9, .bool true) [] := by kernel_rfl
abbrev As (way : Int) (row two three : Nat × D) (r : D) : Prop := run tbl subC 99 F__law_asked [(9, .int way), row, two, three] = .ok (9, r) []
theorem r_bad {way far : Int} {word : Str} {row : D} (hr : row ∈ plansD) (h0 : 0 ≤ way) (h1 : way < 6) : As way (sv row) (9, .int far) (9, .str word) (.int 0) := bad_ok hr h0 h1
theorem r_far {way far : Int} {word : Str} (hf : far ∈ [(-1 : Int), 5, 100000000000000000000000000000, -100000000000000000000000000000]) (h0 : 0 ≤ way) (h1 : way < 3) : As way (0, .list [.int 1, .int 4, .int 2, .int 0, .int 3]) (9, .int far) (9, .str word) (.int 1) := far_ok hf h0 h1
theorem r_wrd {two : Int} {word : Str} (hf : word ∈ ([ "", "Left", "right", "below", "left ", "sides"] : List Str)) (h0 : 0 ≤ two) (h1 : two < 5) : As 2 (0, .list [.int 1, .int 4, .int 2, .int 0, .int 3]) (9, .int two) (9, .str word) (.int 2) := wrd_ok hf h0 h1
theorem r_mir {word : Str} (hf : word ∈ (["left", "side", ""] : List Str)) : As 3 (0, .list [.int 1, .int 4, .int 2, .int 0, .int 3]) (9, .int 0) (9, .str word) (.int 2) := mir_ok hf
theorem r_nei {way two : Int} (g0 : 0 ≤ way) (g1 : way < 2) (h0 : 0 ≤ two) (h1 : two < 5) : As way (0, .list [.int 1, .int 4, .int 2, .int 0, .int 3]) (9, .int two) (9, .int 0) (.int 3) := nei_ok g0 g1 h0 h1
theorem r_full {far : Int} {word : Str} : As 2 (0, .list (rng 0 60)) (9, .int far) (9, .str word) (.int 0) := full_far far word
theorem r_1 : As 0 (0, .list [.int 0, .int 1]) (9, .int 1) (9, .int 0) (.int 3) := end_1
theorem r_2 : As 1 (0, .list [.int 0]) (9, .int 0) (9, .int 0) (.int 3) := end_2
theorem r_3 : As 2 (0, .list (rng 0 59)) (9, .int 58) (9, .str "left") .none := end_3
theorem r_4 : As 0 (0, .list (rng 0 60)) (9, .int 58) (9, .int 0) .none := end_4
theorem r_5 : As 1 (0, .list (rng 0 60)) (9, .int 59) (9, .int 0) (.int 3) := end_5
theorem r_6 : As 3 (0, .list (rng 0 60)) (9, .int 0) (9, .str "ends") .none := end_6
theorem r_7 : As 4 (0, .list (rng 0 60)) (9, .int 0) (9, .int 0) .none := end_7
theorem law_ok (ns : List Int) (hl : ns.length ≤ 63) : wpc (run tbl subC 100 F_law [(0, .list (ns.map PyData.int))]) fun r => ∃ v, r = .ok v [] ∧ v.2 = .bool true := by
  refine wpc_run (F := f_law) rfl rfl ?_
  show wpx _ b_law [some (0, .list (ns.map .int)), none, none, none, none, none, none, none, none, none] (kret [] _)
  unfold b_law
  have p10 : bitsOk 4000 10 = true := by decide +kernel
  simp only [↓RU, DU, NU, if_true, if_false, ite_true, ite_false, Bool.false_eq_true, reduceIte, reduceCtorEq, Int.reduceLE, Int.reduceLT, Int.reduceNeg, Int.reduceAdd, Int.reduceSub, Int.reduceMul, Int.reducePow, Int.reduceToNat, Nat.reduceAdd, Nat.reduceSub, Nat.reduceMul, Nat.reduceLT, Nat.reduceLeDiff, Nat.reduceDiv, Nat.reduceMod, Nat.min_self, Nat.max_self, List.getElem?_cons_zero, List.getElem?_cons_succ, List.set_cons_zero, List.set_cons_succ, List.length_cons, List.length_nil, List.map_cons, List.map_nil, List.nil_append, List.cons_append, Bool.not_true, Bool.not_false, decide_true, decide_false, decide_eq_true_eq, decide_eq_false_iff_not]
  refine bag_ok (n := 98) (seed := 147) rfl (by decide) (by decide) hl _ fun b hb => ?_
  simp only [↓RU, DU, NU, if_true, if_false, ite_true, ite_false, Bool.false_eq_true, reduceIte, reduceCtorEq, Int.reduceLE, Int.reduceLT, Int.reduceNeg, Int.reduceAdd, Int.reduceSub, Int.reduceMul, Int.reducePow, Int.reduceToNat, Nat.reduceAdd, Nat.reduceSub, Nat.reduceMul, Nat.reduceLT, Nat.reduceLeDiff, Nat.reduceDiv, Nat.reduceMod, Nat.min_self, Nat.max_self, List.getElem?_cons_zero, List.getElem?_cons_succ, List.set_cons_zero, List.set_cons_succ, List.length_cons, List.length_nil, List.map_cons, List.map_nil, List.nil_append, List.cons_append, Bool.not_true, Bool.not_false, decide_true, decide_false, decide_eq_true_eq, decide_eq_false_iff_not, op_pow (i := 10) (j := 29) (by decide) (by decide) p10, rng_lo (a := 0) (b := 61) (by decide) (by decide) (by decide) (by decide) (by decide), rng_lo (a := 0) (b := 8) (by decide) (by decide) (by decide) (by decide) (by decide)]
  have lw : ∀ {k : Nat} {w : Int} {v : Nat × D}, BagOk (k + 1) v → 0 < w → w < 2 ^ 200 → ∀ K : CR → Prop, (∀ b' x, BagOk k b' → 0 ≤ x → x < w → K (.ok (9, .int x) [b'])) → wpc (run tbl subC 99 F__law_draw [v, (9, .int w)]) K := fun h1 h2 h3 K hK => draw_ok (n := 97) rfl rfl h1 h2 h3 K hK
  refine wfor_inv (fun xs ρ => ∃ b g p o4 o5 o6 o7 o8 o9, ρ = [some (0, .list (ns.map .int)), some b, some (g, goodD), some (p, .list plansD), o4, o5, o6, o7, o8, o9] ∧ BagOk (xs.length * 10) b) ⟨_, _, _, _, _, _, _, _, _, rfl, hb.less (by rw [rng_len]; decide)⟩ ?_ ?_
  · rintro x rest ρ ⟨b, g, p, o4, o5, o6, o7, o8, o9, rfl, hb⟩
    rw [List.length_cons, Nat.add_mul] at hb
    unfold goodD
    simp only [↓RU, DU, NU, if_true, if_false, ite_true, ite_false, Bool.false_eq_true, reduceIte, reduceCtorEq, Int.reduceLE, Int.reduceLT, Int.reduceNeg, Int.reduceAdd, Int.reduceSub, Int.reduceMul, Int.reducePow, Int.reduceToNat, Nat.reduceAdd, Nat.reduceSub, Nat.reduceMul, Nat.reduceLT, Nat.reduceLeDiff, Nat.reduceDiv, Nat.reduceMod, Nat.min_self, Nat.max_self, List.getElem?_cons_zero, List.getElem?_cons_succ, List.set_cons_zero, List.set_cons_succ, List.length_cons, List.length_nil, List.map_cons, List.map_nil, List.nil_append, List.cons_append, Bool.not_true, Bool.not_false, decide_true, decide_false, decide_eq_true_eq, decide_eq_false_iff_not, op_pow (i := 10) (j := 29) (by decide) (by decide) p10]
    refine lw (hb.less (by omega : rest.length * 10 + 6 + 1 ≤ _)) (by decide) (by decide) _ fun b x1 hb h0 h1 => ?_
    refine Exists.elim (pick PyData.int [-1, 5, 100000000000000000000000000000, -100000000000000000000000000000] h0 h1) fun far hq => ?_
    have hf := hq.1
    have e1 := hq.2
    clear hq
    simp only [List.map_cons, List.map_nil] at e1
    simp only [↓RU, DU, NU, if_true, if_false, ite_true, ite_false, Bool.false_eq_true, reduceIte, reduceCtorEq, Int.reduceLE, Int.reduceLT, Int.reduceNeg, Int.reduceAdd, Int.reduceSub, Int.reduceMul, Int.reducePow, Int.reduceToNat, Nat.reduceAdd, Nat.reduceSub, Nat.reduceMul, Nat.reduceLT, Nat.reduceLeDiff, Nat.reduceDiv, Nat.reduceMod, Nat.min_self, Nat.max_self, List.getElem?_cons_zero, List.getElem?_cons_succ, List.set_cons_zero, List.set_cons_succ, List.length_cons, List.length_nil, List.map_cons, List.map_nil, List.nil_append, List.cons_append, Bool.not_true, Bool.not_false, decide_true, decide_false, decide_eq_true_eq, decide_eq_false_iff_not, h0, e1, op_pow (i := 10) (j := 29) (by decide) (by decide) p10]
    refine lw hb (by decide) (by decide) _ fun b x2 hb h0 h1 => ?_
    refine Exists.elim (pick PyData.str ["", "Left", "right", "below", "left ", "sides"] h0 h1) fun word hq => ?_
    have hw := hq.1
    have e2 := hq.2
    clear hq
    simp only [List.map_cons, List.map_nil] at e2
    simp only [↓RU, DU, NU, if_true, if_false, ite_true, ite_false, Bool.false_eq_true, reduceIte, reduceCtorEq, Int.reduceLE, Int.reduceLT, Int.reduceNeg, Int.reduceAdd, Int.reduceSub, Int.reduceMul, Int.reducePow, Int.reduceToNat, Nat.reduceAdd, Nat.reduceSub, Nat.reduceMul, Nat.reduceLT, Nat.reduceLeDiff, Nat.reduceDiv, Nat.reduceMod, Nat.min_self, Nat.max_self, List.getElem?_cons_zero, List.getElem?_cons_succ, List.set_cons_zero, List.set_cons_succ, List.length_cons, List.length_nil, List.map_cons, List.map_nil, List.nil_append, List.cons_append, Bool.not_true, Bool.not_false, decide_true, decide_false, decide_eq_true_eq, decide_eq_false_iff_not, h0, e2]
    refine lw hb (by decide) (by decide) _ fun b way hb w0 w1 => ?_
    simp only [↓RU, DU, NU, if_true, if_false, ite_true, ite_false, Bool.false_eq_true, reduceIte, reduceCtorEq, Int.reduceLE, Int.reduceLT, Int.reduceNeg, Int.reduceAdd, Int.reduceSub, Int.reduceMul, Int.reducePow, Int.reduceToNat, Nat.reduceAdd, Nat.reduceSub, Nat.reduceMul, Nat.reduceLT, Nat.reduceLeDiff, Nat.reduceDiv, Nat.reduceMod, Nat.min_self, Nat.max_self, List.getElem?_cons_zero, List.getElem?_cons_succ, List.set_cons_zero, List.set_cons_succ, List.length_cons, List.length_nil, List.map_cons, List.map_nil, List.nil_append, List.cons_append, Bool.not_true, Bool.not_false, decide_true, decide_false, decide_eq_true_eq, decide_eq_false_iff_not]
    refine lw hb (by decide) (by decide) _ fun b x3 hb h0 h1 => ?_
    refine Exists.elim (pick id plansD h0 h1) fun row hq => ?_
    have hr := hq.1
    have e3 := hq.2
    clear hq
    simp only [List.map_id, id] at e3
    simp only [↓RU, DU, NU, if_true, if_false, ite_true, ite_false, Bool.false_eq_true, reduceIte, reduceCtorEq, Int.reduceLE, Int.reduceLT, Int.reduceNeg, Int.reduceAdd, Int.reduceSub, Int.reduceMul, Int.reducePow, Int.reduceToNat, Nat.reduceAdd, Nat.reduceSub, Nat.reduceMul, Nat.reduceLT, Nat.reduceLeDiff, Nat.reduceDiv, Nat.reduceMod, Nat.min_self, Nat.max_self, List.getElem?_cons_zero, List.getElem?_cons_succ, List.set_cons_zero, List.set_cons_succ, List.length_cons, List.length_nil, List.map_cons, List.map_nil, List.nil_append, List.cons_append, Bool.not_true, Bool.not_false, decide_true, decide_false, decide_eq_true_eq, decide_eq_false_iff_not, h0, e3]
    rw [r_bad hr w0 w1]
    simp only [↓RU, DU, NU, if_true, if_false, ite_true, ite_false, Bool.false_eq_true, reduceIte, reduceCtorEq, Int.reduceLE, Int.reduceLT, Int.reduceNeg, Int.reduceAdd, Int.reduceSub, Int.reduceMul, Int.reducePow, Int.reduceToNat, Nat.reduceAdd, Nat.reduceSub, Nat.reduceMul, Nat.reduceLT, Nat.reduceLeDiff, Nat.reduceDiv, Nat.reduceMod, Nat.min_self, Nat.max_self, List.getElem?_cons_zero, List.getElem?_cons_succ, List.set_cons_zero, List.set_cons_succ, List.length_cons, List.length_nil, List.map_cons, List.map_nil, List.nil_append, List.cons_append, Bool.not_true, Bool.not_false, decide_true, decide_false, decide_eq_true_eq, decide_eq_false_iff_not]
    rw [r_far (way := way % 3) hf (Int.emod_nonneg _ (by decide)) (Int.emod_lt_of_pos _ (by decide))]
    simp only [↓RU, DU, NU, if_true, if_false, ite_true, ite_false, Bool.false_eq_true, reduceIte, reduceCtorEq, Int.reduceLE, Int.reduceLT, Int.reduceNeg, Int.reduceAdd, Int.reduceSub, Int.reduceMul, Int.reducePow, Int.reduceToNat, Nat.reduceAdd, Nat.reduceSub, Nat.reduceMul, Nat.reduceLT, Nat.reduceLeDiff, Nat.reduceDiv, Nat.reduceMod, Nat.min_self, Nat.max_self, List.getElem?_cons_zero, List.getElem?_cons_succ, List.set_cons_zero, List.set_cons_succ, List.length_cons, List.length_nil, List.map_cons, List.map_nil, List.nil_append, List.cons_append, Bool.not_true, Bool.not_false, decide_true, decide_false, decide_eq_true_eq, decide_eq_false_iff_not]
    refine lw hb (by decide) (by decide) _ fun b x4 hb h0 h1 => ?_
    simp only [↓RU, DU, NU, if_true, if_false, ite_true, ite_false, Bool.false_eq_true, reduceIte, reduceCtorEq, Int.reduceLE, Int.reduceLT, Int.reduceNeg, Int.reduceAdd, Int.reduceSub, Int.reduceMul, Int.reducePow, Int.reduceToNat, Nat.reduceAdd, Nat.reduceSub, Nat.reduceMul, Nat.reduceLT, Nat.reduceLeDiff, Nat.reduceDiv, Nat.reduceMod, Nat.min_self, Nat.max_self, List.getElem?_cons_zero, List.getElem?_cons_succ, List.set_cons_zero, List.set_cons_succ, List.length_cons, List.length_nil, List.map_cons, List.map_nil, List.nil_append, List.cons_append, Bool.not_true, Bool.not_false, decide_true, decide_false, decide_eq_true_eq, decide_eq_false_iff_not]
    rw [r_wrd hw h0 h1]
    simp only [↓RU, DU, NU, if_true, if_false, ite_true, ite_false, Bool.false_eq_true, reduceIte, reduceCtorEq, Int.reduceLE, Int.reduceLT, Int.reduceNeg, Int.reduceAdd, Int.reduceSub, Int.reduceMul, Int.reducePow, Int.reduceToNat, Nat.reduceAdd, Nat.reduceSub, Nat.reduceMul, Nat.reduceLT, Nat.reduceLeDiff, Nat.reduceDiv, Nat.reduceMod, Nat.min_self, Nat.max_self, List.getElem?_cons_zero, List.getElem?_cons_succ, List.set_cons_zero, List.set_cons_succ, List.length_cons, List.length_nil, List.map_cons, List.map_nil, List.nil_append, List.cons_append, Bool.not_true, Bool.not_false, decide_true, decide_false, decide_eq_true_eq, decide_eq_false_iff_not]
    refine lw hb (by decide) (by decide) _ fun b x5 hb h0 h1 => ?_
    refine Exists.elim (pick PyData.str ["left", "side", ""] h0 h1) fun mir hq => ?_
    have hm := hq.1
    have e4 := hq.2
    clear hq
    simp only [List.map_cons, List.map_nil] at e4
    simp only [↓RU, DU, NU, if_true, if_false, ite_true, ite_false, Bool.false_eq_true, reduceIte, reduceCtorEq, Int.reduceLE, Int.reduceLT, Int.reduceNeg, Int.reduceAdd, Int.reduceSub, Int.reduceMul, Int.reducePow, Int.reduceToNat, Nat.reduceAdd, Nat.reduceSub, Nat.reduceMul, Nat.reduceLT, Nat.reduceLeDiff, Nat.reduceDiv, Nat.reduceMod, Nat.min_self, Nat.max_self, List.getElem?_cons_zero, List.getElem?_cons_succ, List.set_cons_zero, List.set_cons_succ, List.length_cons, List.length_nil, List.map_cons, List.map_nil, List.nil_append, List.cons_append, Bool.not_true, Bool.not_false, decide_true, decide_false, decide_eq_true_eq, decide_eq_false_iff_not, h0, e4]
    rw [r_mir hm]
    simp only [↓RU, DU, NU, if_true, if_false, ite_true, ite_false, Bool.false_eq_true, reduceIte, reduceCtorEq, Int.reduceLE, Int.reduceLT, Int.reduceNeg, Int.reduceAdd, Int.reduceSub, Int.reduceMul, Int.reducePow, Int.reduceToNat, Nat.reduceAdd, Nat.reduceSub, Nat.reduceMul, Nat.reduceLT, Nat.reduceLeDiff, Nat.reduceDiv, Nat.reduceMod, Nat.min_self, Nat.max_self, List.getElem?_cons_zero, List.getElem?_cons_succ, List.set_cons_zero, List.set_cons_succ, List.length_cons, List.length_nil, List.map_cons, List.map_nil, List.nil_append, List.cons_append, Bool.not_true, Bool.not_false, decide_true, decide_false, decide_eq_true_eq, decide_eq_false_iff_not]
    refine lw hb (by decide) (by decide) _ fun b x6 hb h0 h1 => ?_
    simp only [↓RU, DU, NU, if_true, if_false, ite_true, ite_false, Bool.false_eq_true, reduceIte, reduceCtorEq, Int.reduceLE, Int.reduceLT, Int.reduceNeg, Int.reduceAdd, Int.reduceSub, Int.reduceMul, Int.reducePow, Int.reduceToNat, Nat.reduceAdd, Nat.reduceSub, Nat.reduceMul, Nat.reduceLT, Nat.reduceLeDiff, Nat.reduceDiv, Nat.reduceMod, Nat.min_self, Nat.max_self, List.getElem?_cons_zero, List.getElem?_cons_succ, List.set_cons_zero, List.set_cons_succ, List.length_cons, List.length_nil, List.map_cons, List.map_nil, List.nil_append, List.cons_append, Bool.not_true, Bool.not_false, decide_true, decide_false, decide_eq_true_eq, decide_eq_false_iff_not]
    rw [r_nei (way := way % 2) (Int.emod_nonneg _ (by decide)) (Int.emod_lt_of_pos _ (by decide)) h0 h1]
    simp only [↓RU, DU, NU, if_true, if_false, ite_true, ite_false, Bool.false_eq_true, reduceIte, reduceCtorEq, Int.reduceLE, Int.reduceLT, Int.reduceNeg, Int.reduceAdd, Int.reduceSub, Int.reduceMul, Int.reducePow, Int.reduceToNat, Nat.reduceAdd, Nat.reduceSub, Nat.reduceMul, Nat.reduceLT, Nat.reduceLeDiff, Nat.reduceDiv, Nat.reduceMod, Nat.min_self, Nat.max_self, List.getElem?_cons_zero, List.getElem?_cons_succ, List.set_cons_zero, List.set_cons_succ, List.length_cons, List.length_nil, List.map_cons, List.map_nil, List.nil_append, List.cons_append, Bool.not_true, Bool.not_false, decide_true, decide_false, decide_eq_true_eq, decide_eq_false_iff_not, rng_lo (a := 0) (b := 60) (by decide) (by decide) (by decide) (by decide) (by decide)]
    rw [r_full]
    simp only [↓RU, DU, NU, if_true, if_false, ite_true, ite_false, Bool.false_eq_true, reduceIte, reduceCtorEq, Int.reduceLE, Int.reduceLT, Int.reduceNeg, Int.reduceAdd, Int.reduceSub, Int.reduceMul, Int.reducePow, Int.reduceToNat, Nat.reduceAdd, Nat.reduceSub, Nat.reduceMul, Nat.reduceLT, Nat.reduceLeDiff, Nat.reduceDiv, Nat.reduceMod, Nat.min_self, Nat.max_self, List.getElem?_cons_zero, List.getElem?_cons_succ, List.set_cons_zero, List.set_cons_succ, List.length_cons, List.length_nil, List.map_cons, List.map_nil, List.nil_append, List.cons_append, Bool.not_true, Bool.not_false, decide_true, decide_false, decide_eq_true_eq, decide_eq_false_iff_not]
    rw [al_1]
    simp only [↓RU, DU, NU, if_true, if_false, ite_true, ite_false, Bool.false_eq_true, reduceIte, reduceCtorEq, Int.reduceLE, Int.reduceLT, Int.reduceNeg, Int.reduceAdd, Int.reduceSub, Int.reduceMul, Int.reducePow, Int.reduceToNat, Nat.reduceAdd, Nat.reduceSub, Nat.reduceMul, Nat.reduceLT, Nat.reduceLeDiff, Nat.reduceDiv, Nat.reduceMod, Nat.min_self, Nat.max_self, List.getElem?_cons_zero, List.getElem?_cons_succ, List.set_cons_zero, List.set_cons_succ, List.length_cons, List.length_nil, List.map_cons, List.map_nil, List.nil_append, List.cons_append, Bool.not_true, Bool.not_false, decide_true, decide_false, decide_eq_true_eq, decide_eq_false_iff_not]
    exact ⟨_, _, _, _, _, _, _, _, _, rfl, hb.less (by omega)⟩
  · rintro ρ ⟨b, g, p, o4, o5, o6, o7, o8, o9, rfl, hb⟩
    simp only [↓RU, DU, NU, if_true, if_false, ite_true, ite_false, Bool.false_eq_true, reduceIte, reduceCtorEq, Int.reduceLE, Int.reduceLT, Int.reduceNeg, Int.reduceAdd, Int.reduceSub, Int.reduceMul, Int.reducePow, Int.reduceToNat, Nat.reduceAdd, Nat.reduceSub, Nat.reduceMul, Nat.reduceLT, Nat.reduceLeDiff, Nat.reduceDiv, Nat.reduceMod, Nat.min_self, Nat.max_self, List.getElem?_cons_zero, List.getElem?_cons_succ, List.set_cons_zero, List.set_cons_succ, List.length_cons, List.length_nil, List.map_cons, List.map_nil, List.nil_append, List.cons_append, Bool.not_true, Bool.not_false, decide_true, decide_false, decide_eq_true_eq, decide_eq_false_iff_not]
    rw [r_1]
    simp only [↓RU, DU, NU, if_true, if_false, ite_true, ite_false, Bool.false_eq_true, reduceIte, reduceCtorEq, Int.reduceLE, Int.reduceLT, Int.reduceNeg, Int.reduceAdd, Int.reduceSub, Int.reduceMul, Int.reducePow, Int.reduceToNat, Nat.reduceAdd, Nat.reduceSub, Nat.reduceMul, Nat.reduceLT, Nat.reduceLeDiff, Nat.reduceDiv, Nat.reduceMod, Nat.min_self, Nat.max_self, List.getElem?_cons_zero, List.getElem?_cons_succ, List.set_cons_zero, List.set_cons_succ, List.length_cons, List.length_nil, List.map_cons, List.map_nil, List.nil_append, List.cons_append, Bool.not_true, Bool.not_false, decide_true, decide_false, decide_eq_true_eq, decide_eq_false_iff_not]
    rw [r_2]
    simp only [↓RU, DU, NU, if_true, if_false, ite_true, ite_false, Bool.false_eq_true, reduceIte, reduceCtorEq, Int.reduceLE, Int.reduceLT, Int.reduceNeg, Int.reduceAdd, Int.reduceSub, Int.reduceMul, Int.reducePow, Int.reduceToNat, Nat.reduceAdd, Nat.reduceSub, Nat.reduceMul, Nat.reduceLT, Nat.reduceLeDiff, Nat.reduceDiv, Nat.reduceMod, Nat.min_self, Nat.max_self, List.getElem?_cons_zero, List.getElem?_cons_succ, List.set_cons_zero, List.set_cons_succ, List.length_cons, List.length_nil, List.map_cons, List.map_nil, List.nil_append, List.cons_append, Bool.not_true, Bool.not_false, decide_true, decide_false, decide_eq_true_eq, decide_eq_false_iff_not, rng_lo (a := 0) (b := 59) (by decide) (by decide) (by decide) (by decide) (by decide)]
    rw [r_3]
    simp only [↓RU, DU, NU, if_true, if_false, ite_true, ite_false, Bool.false_eq_true, reduceIte, reduceCtorEq, Int.reduceLE, Int.reduceLT, Int.reduceNeg, Int.reduceAdd, Int.reduceSub, Int.reduceMul, Int.reducePow, Int.reduceToNat, Nat.reduceAdd, Nat.reduceSub, Nat.reduceMul, Nat.reduceLT, Nat.reduceLeDiff, Nat.reduceDiv, Nat.reduceMod, Nat.min_self, Nat.max_self, List.getElem?_cons_zero, List.getElem?_cons_succ, List.set_cons_zero, List.set_cons_succ, List.length_cons, List.length_nil, List.map_cons, List.map_nil, List.nil_append, List.cons_append, Bool.not_true, Bool.not_false, decide_true, decide_false, decide_eq_true_eq, decide_eq_false_iff_not, rng_lo (a := 0) (b := 60) (by decide) (by decide) (by decide) (by decide) (by decide)]
    rw [r_4]
    simp only [↓RU, DU, NU, if_true, if_false, ite_true, ite_false, Bool.false_eq_true, reduceIte, reduceCtorEq, Int.reduceLE, Int.reduceLT, Int.reduceNeg, Int.reduceAdd, Int.reduceSub, Int.reduceMul, Int.reducePow, Int.reduceToNat, Nat.reduceAdd, Nat.reduceSub, Nat.reduceMul, Nat.reduceLT, Nat.reduceLeDiff, Nat.reduceDiv, Nat.reduceMod, Nat.min_self, Nat.max_self, List.getElem?_cons_zero, List.getElem?_cons_succ, List.set_cons_zero, List.set_cons_succ, List.length_cons, List.length_nil, List.map_cons, List.map_nil, List.nil_append, List.cons_append, Bool.not_true, Bool.not_false, decide_true, decide_false, decide_eq_true_eq, decide_eq_false_iff_not, rng_lo (a := 0) (b := 60) (by decide) (by decide) (by decide) (by decide) (by decide)]
    rw [r_5]
    simp only [↓RU, DU, NU, if_true, if_false, ite_true, ite_false, Bool.false_eq_true, reduceIte, reduceCtorEq, Int.reduceLE, Int.reduceLT, Int.reduceNeg, Int.reduceAdd, Int.reduceSub, Int.reduceMul, Int.reducePow, Int.reduceToNat, Nat.reduceAdd, Nat.reduceSub, Nat.reduceMul, Nat.reduceLT, Nat.reduceLeDiff, Nat.reduceDiv, Nat.reduceMod, Nat.min_self, Nat.max_self, List.getElem?_cons_zero, List.getElem?_cons_succ, List.set_cons_zero, List.set_cons_succ, List.length_cons, List.length_nil, List.map_cons, List.map_nil, List.nil_append, List.cons_append, Bool.not_true, Bool.not_false, decide_true, decide_false, decide_eq_true_eq, decide_eq_false_iff_not, rng_lo (a := 0) (b := 60) (by decide) (by decide) (by decide) (by decide) (by decide)]
    rw [r_6]
    simp only [↓RU, DU, NU, if_true, if_false, ite_true, ite_false, Bool.false_eq_true, reduceIte, reduceCtorEq, Int.reduceLE, Int.reduceLT, Int.reduceNeg, Int.reduceAdd, Int.reduceSub, Int.reduceMul, Int.reducePow, Int.reduceToNat, Nat.reduceAdd, Nat.reduceSub, Nat.reduceMul, Nat.reduceLT, Nat.reduceLeDiff, Nat.reduceDiv, Nat.reduceMod, Nat.min_self, Nat.max_self, List.getElem?_cons_zero, List.getElem?_cons_succ, List.set_cons_zero, List.set_cons_succ, List.length_cons, List.length_nil, List.map_cons, List.map_nil, List.nil_append, List.cons_append, Bool.not_true, Bool.not_false, decide_true, decide_false, decide_eq_true_eq, decide_eq_false_iff_not, rng_lo (a := 0) (b := 60) (by decide) (by decide) (by decide) (by decide) (by decide)]
    rw [r_7]
    simp only [↓RU, DU, NU, if_true, if_false, ite_true, ite_false, Bool.false_eq_true, reduceIte, reduceCtorEq, Int.reduceLE, Int.reduceLT, Int.reduceNeg, Int.reduceAdd, Int.reduceSub, Int.reduceMul, Int.reducePow, Int.reduceToNat, Nat.reduceAdd, Nat.reduceSub, Nat.reduceMul, Nat.reduceLT, Nat.reduceLeDiff, Nat.reduceDiv, Nat.reduceMod, Nat.min_self, Nat.max_self, List.getElem?_cons_zero, List.getElem?_cons_succ, List.set_cons_zero, List.set_cons_succ, List.length_cons, List.length_nil, List.map_cons, List.map_nil, List.nil_append, List.cons_append, Bool.not_true, Bool.not_false, decide_true, decide_false, decide_eq_true_eq, decide_eq_false_iff_not]
    rw [al_2]
    simp only [↓RU, DU, NU, if_true, if_false, ite_true, ite_false, Bool.false_eq_true, reduceIte, reduceCtorEq, Int.reduceLE, Int.reduceLT, Int.reduceNeg, Int.reduceAdd, Int.reduceSub, Int.reduceMul, Int.reducePow, Int.reduceToNat, Nat.reduceAdd, Nat.reduceSub, Nat.reduceMul, Nat.reduceLT, Nat.reduceLeDiff, Nat.reduceDiv, Nat.reduceMod, Nat.min_self, Nat.max_self, List.getElem?_cons_zero, List.getElem?_cons_succ, List.set_cons_zero, List.set_cons_succ, List.length_cons, List.length_nil, List.map_cons, List.map_nil, List.nil_append, List.cons_append, Bool.not_true, Bool.not_false, decide_true, decide_false, decide_eq_true_eq, decide_eq_false_iff_not]
    exact ⟨_, rfl, rfl⟩
end K
end PL

theorem PySem.Challenge.cw_paneplans_k48_errors_of_changes_holds : PySem.Challenge.rw_paneplans_k48_errors_of_changes.Holds := by
  exact PL.K.head_ends fun ns hl => (PL.K.law_ok ns hl).h
