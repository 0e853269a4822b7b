import PyProof.Rows.All
import Wide.All
import OpenK.AllK
import Wide.FinOn
import HandS.ForMost
import HandS.Deep
import HandS.IsInst
import HandS.Wide
import HandS.SortInts
import HandS.SetKeys
import HandS.TupAny
import HandS.TupLe
import HandS.Style
import HandS.Conv
import HandS.NoneIn
import KE.GoesEnum
import HandS.ForExc
import HandS.CallSlots
import HandS.ExcField
import HandS.ExcIs
import HandS.TryMany
import KE.KExcInit
import HandS.NamedTupSort
import HandS.Small
import KE.KIsAll
import KE.KExcIs
import PyProof.InstNe
import PySem.Challenge.RW_craterhouse_k15_counts_and_traces
set_option Elab.async false
set_option linter.all false
set_option maxRecDepth 100000
section
/-! PvA: a small language of values (no heap): its terms, its reckoning. -/
set_option autoImplicit false
namespace Pv
open PySem

abbrev D := PyData
/-- what a deck of draws holds -/
structure Dk where
  cells : List Int
  mixed : Int
  turn : Int
abbrev G := Option Dk
abbrev Sl := List (Option D)

inductive Res (α : Type) where
  | ok (a : α) (g : G)
  | exc (c : Nat) (vs : List D) (g : G)
  | no
def Res.bind {α β : Type} : Res α → (α → G → Res β) → Res β
  | .ok a g, f => f a g
  | .exc c vs g, _ => .exc c vs g
  | .no, _ => .no
def lift {α : Type} : Option α → G → Res α
  | some a, g => .ok a g
  | none, _ => .no
@[simp] theorem bind_ok {α β : Type} (a : α) (g : G) (f : α → G → Res β) : (Res.ok a g).bind f = f a g := rfl
@[simp] theorem bind_no {α β : Type} (f : α → G → Res β) : (Res.no : Res α).bind f = .no := rfl
@[simp] theorem bind_exc {α β : Type} (c : Nat) (vs : List D) (g : G) (f : α → G → Res β) : (Res.exc c vs g : Res α).bind f = .exc c vs g := rfl
@[simp] theorem lift_some {α : Type} (a : α) (g : G) : lift (some a) g = .ok a g := rfl
@[simp] theorem lift_none {α : Type} (g : G) : lift (none : Option α) g = .no := rfl
theorem bind_eq_ok {α β : Type} {r : Res α} {f : α → G → Res β} {b : β} {g : G} (h : r.bind f = .ok b g) : ∃ a g1, r = .ok a g1 ∧ f a g1 = .ok b g := by
  cases r with
  | ok a g1 => exact ⟨a, g1, rfl, h⟩
  | exc c vs g1 => cases h
  | no => cases h
theorem lift_eq_ok {α : Type} {o : Option α} {g g' : G} {a : α} (h : lift o g = .ok a g') : o = some a ∧ g' = g := by
  cases o with
  | none => cases h
  | some b => cases h; exact ⟨rfl, rfl⟩

/-- marks that stand for things outside as values: 0 the deck, 1 the script -/
def tokD (n : Int) : D := .dict [(.list [], .int n)]
def isDeck : List (D × D) → Bool
  | (.list _, _) :: _ => true
  | (.none, _) :: _ => true
  | _ => false
/-- an object of the class with a number, by its attributes -/
def objD (c : Nat) (kvs : List (D × D)) : D := .dict ((.list [.int c], .none) :: kvs)
/-- a dict whose keys are tuples of ints and texts -/
def tdD (kvs : List (D × D)) : D := .dict ((.none, .none) :: kvs)
def isOb (c : Nat) : D → Bool
  | .dict ((.list [.int i], .none) :: _) => decide (i = c)
  | _ => false
def tdOf : List (D × D) → Option (List (D × D))
  | (.none, .none) :: r => some r
  | _ => none

/-! ### operators -/
inductive Bop where | add | sub | mul | fdiv | mod | pow | shl | shr | band | bor | bxor | lcat | lrep
inductive Cop where | eq | ne | lt | le | gt | ge | isin | notin | isN | notN
def mulOk (i j : Int) : Bool := decide (i.natAbs < 18446744073709551616) || decide (j.natAbs < 18446744073709551616) || decide (i.natAbs.log2 + j.natAbs.log2 < 1000000)
def powOk (i j : Int) : Bool := decide (0 ≤ j) && decide (j ≤ 1000000) && decide (i.natAbs < 18446744073709551616)
def lineN : Nat := 16777216
def binV : Bop → D → D → Option D
  | .add, .int i, .int j => some (.int (i + j))
  | .sub, .int i, .int j => some (.int (i - j))
  | .mul, .int i, .int j => if mulOk i j then some (.int (i * j)) else none
  | .fdiv, .int i, .int j => if decide (0 < j) && decide (j.natAbs.log2 < 9000) then some (.int (i / j)) else if decide (j < 0) && decide (j.natAbs.log2 < 9000) then some (.int (i.fdiv j)) else none
  | .mod, .int i, .int j => if decide (0 < j) then some (.int (i % j)) else none
  | .pow, .int i, .int j => if powOk i j then some (.int (i ^ j.toNat)) else none
  | .shl, .int i, .int j => if powOk i j then some (.int (i * 2 ^ j.toNat)) else none
  | .shr, .int i, .int j => if decide (0 ≤ j) then some (.int (i / 2 ^ j.toNat)) else none
  | .band, .int i, .int j => some (.int (Builtin.bitAnd i j))
  | .bor, .int i, .int j => some (.int (Builtin.bitOr i j))
  | .bxor, .int i, .int j => some (.int (Builtin.bitXor i j))
  | .add, .str x, .str y => if decide (x.length + y.length ≤ lineN) then some (.str (x ++ y)) else none
  | .add, .list xs, .list ys => if decide (xs.length + ys.length ≤ lineN) then some (.list (xs ++ ys)) else none
  | .add, .tuple xs, .tuple ys => if decide (xs.length + ys.length ≤ lineN) then some (.tuple (xs ++ ys)) else none
  | .mul, .list xs, .int k => if decide (k.natAbs < 16777217) && decide (xs.length * k.toNat ≤ lineN) then some (.list (List.replicate k.toNat xs).flatten) else none
  | .lcat, .list xs, .list ys => if decide (xs.length + ys.length ≤ lineN) then some (.list (xs ++ ys)) else none
  | .lrep, .list xs, .int k => if decide (k.natAbs < 16777217) && decide (xs.length * k.toNat ≤ lineN) then some (.list (List.replicate k.toNat xs).flatten) else none
  | _, _, _ => none
def isInt : D → Bool
  | .int _ => true
  | _ => false
def shp (d : D) : Bool := SeqAt.shaped d
/-- lists of different lengths, of whatever they hold -/
def lensV : D → D → Option Bool
  | .list xs, .list ys => if decide (xs.length = ys.length) then none else some false
  | _, _ => none
def eqD : D → D → Option Bool
  | .int i, .int j => some (decide (i = j))
  | .bool i, .bool j => some (i == j)
  | .str x, .str y => some (decide (x = y))
  | .none, .none => some true
  | x, y => if shp x && shp y then some (PyData.eqv x y) else lensV x y
def intsOf : List D → Option (List Int)
  | [] => some []
  | .int i :: r => (intsOf r).map (i :: ·)
  | _ :: _ => none
def ltT : D → D → Option Bool
  | .int i, .int j => some (decide (i < j))
  | .tuple xs, .tuple ys => match intsOf xs, intsOf ys with
    | some ns, some ms => some (HT.lexLt ns ms)
    | _, _ => none
  | _, _ => none
def inD (x : D) : D → Option Bool
  | .list ds => if shp x && shp (.list ds) then some (ds.any fun z => PyData.eqv z x) else none
  | .tuple ds => if shp x && shp (.tuple ds) then some (ds.any fun z => PyData.eqv z x) else none
  | _ => none
/-- tuples of ints, none of them empty -/
def tupsOf : List D → Option (List (List Int))
  | [] => some []
  | .tuple ds :: r => match intsOf ds, tupsOf r with
    | some (n :: ns), some ts => some ((n :: ns) :: ts)
    | _, _ => none
  | _ :: _ => none
def boolsOf : List D → Option (List Bool)
  | [] => some []
  | .bool b :: r => (boolsOf r).map (b :: ·)
  | _ :: _ => none
def tupD (ns : List Int) : D := .tuple (ns.map .int)
def keyD : D → Option L2.Key
  | .int i => some (.inl i)
  | .str x => some (.inr x)
  | _ => none
def keysOf : List D → Option (List L2.Key)
  | [] => some []
  | d :: ds => match keyD d, keysOf ds with
    | some k, some ks => some (k :: ks)
    | _, _ => none
def keyT : D → Option (List L2.Key)
  | .tuple ds => keysOf ds
  | _ => none
def cmpV : Cop → D → D → Option Bool
  | .eq, x, y => eqD x y
  | .ne, x, y => (eqD x y).map (!·)
  | .lt, x, y => ltT x y
  | .gt, .int i, .int j => some (decide (j < i))
  | .le, .int i, .int j => some (decide (i ≤ j))
  | .ge, .int i, .int j => some (decide (j ≤ i))
  | .isN, x, .none => some (match x with | .none => true | _ => false)
  | .notN, x, .none => some (match x with | .none => false | _ => true)
  | .isN, .bool a, .bool b => some (decide (a = b))
  | .notN, .bool a, .bool b => some (!decide (a = b))
  | .isin, x, y => inD x y
  | .notin, x, y => (inD x y).map (!·)
  | _, _, _ => none
def truV : D → Option Bool
  | .none => some false
  | .bool b => some b
  | .int i => some (i != 0)
  | .str x => if decide (x.length ≤ lineN) then some (decide (x.length ≠ 0)) else none
  | .list xs => some (!xs.isEmpty)
  | .tuple xs => some (!xs.isEmpty)
  | .dict _ => none

/-! ### subscripts -/
def ixD (xs : List D) (i : Int) : Option D := L2.atI xs i
def idxV : D → D → Option D
  | .list xs, .int i => ixD xs i
  | .tuple xs, .int i => ixD xs i
  | _, _ => none
def optI : D → Option (Option Int)
  | .none => some none
  | .int i => some (some i)
  | _ => none
def cutD (xs : List D) (lo hi : Option Int) : List D := (xs.drop (HT.sIx xs.length 0 lo)).take (HT.sIx xs.length xs.length hi - HT.sIx xs.length 0 lo)
def slcV : D → D → D → Option D
  | .list xs, l, h => match optI l, optI h with
    | some lo, some hi => some (.list (cutD xs lo hi))
    | _, _ => none
  | .tuple xs, l, h => match optI l, optI h with
    | some lo, some hi => some (.tuple (cutD xs lo hi))
    | _, _ => none
  | _, _, _ => none
def revV : D → Option D
  | .list xs => some (.list xs.reverse)
  | .tuple xs => some (.tuple xs.reverse)
  | _ => none

/-! ### built-in functions, by values -/
inductive Bi where | all | len | abs | min2 | max2 | sum | toInt | toStr | toList | toTuple | isInt | isBool | isStr | isTuple | isList | repr | sorted | listRange1 | listRange2 | divmod | sortSet | maxL | minL | any
/-- the greatest, and the least, of some numbers -/
def maxI : Int → List Int → Int
  | n, [] => n
  | n, x :: r => maxI (if n < x then x else n) r
def minI : Int → List Int → Int
  | n, [] => n
  | n, x :: r => minI (if x < n then x else n) r
def lenV : D → Option D
  | .list xs => some (.int xs.length)
  | .tuple xs => some (.int xs.length)
  | .str x => if decide (x.length ≤ lineN) then some (.int x.length) else none
  | _ => none
def isDk : D → Bool
  | .dict kvs => isDeck kvs
  | _ => false
def isObj : D → Bool
  | .dict ((.list [.int _], .none) :: _) => true
  | _ => false
def rangeD (a : Int) (n : Nat) : List D := (List.range n).map fun (k : Nat) => .int (a + k)
def downD (a : Int) (n : Nat) : List D := (List.range n).map fun (k : Nat) => .int (a - k)
def scalD : D → Bool
  | .none | .bool _ | .int _ | .str _ => true
  | _ => false
def flatD : D → Bool
  | .dict kvs => !isDeck kvs && kvs.all fun p => (keyD p.1).isSome && scalD p.2
  | _ => false
def showOk (d : D) : Bool := (shp d || (flatD d && decide (d.depth ≤ 64))) && d.showable && decide (d.shown.length ≤ lineN)
def insI (x : Int) : List Int → List Int
  | [] => [x]
  | y :: r => if x ≤ y then x :: y :: r else y :: insI x r
def sortI (xs : List Int) : List Int := xs.foldr insI []
def insT (x : List Int) : List (List Int) → List (List Int)
  | [] => [x]
  | y :: r => if HT.lexLt y x then y :: insT x r else x :: y :: r
def sortT (xs : List (List Int)) : List (List Int) := xs.foldr insT []
def sortV (xs : List D) : Option D := match intsOf xs with
  | some ns => some (.list ((sortI ns).map .int))
  | none => (tupsOf xs).map fun ts => .list ((sortT ts).map tupD)
/-- into a row that climbs strictly -/
def insS (x : Int) : List Int → List Int
  | [] => [x]
  | y :: r => if x < y then x :: y :: r else if x = y then y :: r else y :: insS x r
def setI (xs : List Int) : List Int := xs.foldr insS []
def biV : Bi → List D → Option D
  | .divmod, [.int i, .int j] => if decide (j ≠ 0) && decide (j.natAbs < 1073741824) then some (.tuple [.int (i.fdiv j), .int (i.fmod j)]) else none
  | .sortSet, [.list xs] => match intsOf xs with
    | some ns => if decide (ns.length ≤ 60) then some (.list ((setI ns).map .int)) else none
    | none => none
  | .all, [.list xs] => (boolsOf xs).map fun bs => .bool (bs.all id)
  | .len, [x] => lenV x
  | .abs, [.int i] => some (.int (if i < 0 then -i else i))
  | .min2, [.int i, .int j] => some (.int (if j < i then j else i))
  | .max2, [.int i, .int j] => some (.int (if j > i then j else i))
  | .sum, [.list xs] => (intsOf xs).map fun ns => .int ns.sum
  | .toInt, [.int i] => some (.int i)
  | .toInt, [.bool b] => some (.int (if b then 1 else 0))
  | .maxL, [.list xs] => match intsOf xs with
    | some (n :: ns) => some (.int (maxI n ns))
    | _ => none
  | .minL, [.list xs] => match intsOf xs with
    | some (n :: ns) => some (.int (minI n ns))
    | _ => none
  | .any, [.list xs] => (boolsOf xs).map fun bs => .bool (bs.any id)
  | .toStr, [.str x] => some (.str x)
  | .toStr, [.list xs] => if showOk (.list xs) then some (.str (PyData.shown (.list xs))) else none
  | .toStr, [.tuple xs] => if showOk (.tuple xs) then some (.str (PyData.shown (.tuple xs))) else none
  | .toStr, [.int i] => if decide (i.natAbs.log2 < 1920) then some (.str (toString i)) else none
  | .toList, [.list xs] => some (.list xs)
  | .toList, [.tuple xs] => some (.list xs)
  | .toTuple, [.list xs] => some (.tuple xs)
  | .toTuple, [.tuple xs] => some (.tuple xs)
  | .isInt, [x] => if isDk x && !isObj x then none else some (.bool (match x with | .int _ => true | .bool _ => true | _ => false))
  | .isBool, [x] => if isDk x && !isObj x then none else some (.bool (match x with | .bool _ => true | _ => false))
  | .isStr, [x] => if isDk x && !isObj x then none else some (.bool (match x with | .str _ => true | _ => false))
  | .isTuple, [x] => if isDk x && !isObj x then none else some (.bool (match x with | .tuple _ => true | _ => false))
  | .isList, [x] => if isDk x && !isObj x then none else some (.bool (match x with | .list _ => true | _ => false))
  | .repr, [x] => if showOk x then some (.str x.shown) else none
  | .sorted, [.list xs] => sortV xs
  | .listRange1, [.int j] => if decide (j.natAbs ≤ 16777216) then some (.list (rangeD 0 j.toNat)) else none
  | .listRange2, [.int i, .int j] => if decide (i.natAbs < 4611686018427387904) && decide (j.natAbs < 4611686018427387904) && decide ((j - i).toNat ≤ lineN) then some (.list (rangeD i (j - i).toNat)) else none
  | _, _ => none

/-! ### what a loop walks -/
inductive Ik where | seq | rng1 | rng2 | rngd | enum | zip
def itV : Ik → List D → Option (List D)
  | .seq, [.list xs] => some xs
  | .seq, [.tuple xs] => some xs
  | .rng1, [.int j] => if decide (j.natAbs < 4611686018427387904) then some (rangeD 0 j.toNat) else none
  | .rng2, [.int i, .int j] => if decide (i.natAbs < 4611686018427387904) && decide (j.natAbs < 4611686018427387904) then some (rangeD i (j - i).toNat) else none
  | .rngd, [.int i, .int j, .int c] => if decide (i.natAbs < 4611686018427387904) && decide (j.natAbs < 4611686018427387904) && decide (c = -1) then some (downD i (i - j).toNat) else none
  | .enum, [.list xs] => some (xs.zipIdx.map fun p => .tuple [.int p.2, p.1])
  | .enum, [.tuple xs] => some (xs.zipIdx.map fun p => .tuple [.int p.2, p.1])
  | .zip, [.list xs, .list ys] => if decide (xs.length ≤ lineN) then some ((xs.zip ys).map fun p => .tuple [p.1, p.2]) else none
  | _, _ => none

/-! ### the terms -/
mutual
inductive Ex where
  | c (v : D)
  | var (i : Nat)
  | bin (op : Bop) (a b : Ex)
  | neg (a : Ex)
  | cmp (op : Cop) (a b : Ex)
  | chain (o1 o2 : Cop) (a b c : Ex)
  | chain3 (o1 o2 o3 : Cop) (a b c d : Ex)
  | and (a b : Ex)
  | or (a b : Ex)
  | not (a : Ex)
  | truth (a : Ex)
  | ite (t a b : Ex)
  | idx (a i : Ex)
  | slc (a lo hi : Ex)
  | rev (a : Ex)
  | tup (as : Exs)
  | lst (as : Exs)
  | bi (f : Bi) (as : Exs)
  | call (f : Nat) (as : Exs)
  | callK (f : Nat) (as : Exs) (perm : List Nat)
  | comp (t : List Nat) (k : Ik) (as : Exs) (cond elt : Ex)
  | dnew
  | dget (d k x : Ex)
  | dix (d k : Ex)
  | dhas (k d : Ex) (neg : Bool)
  | ddisp (kvs : Exs)
  | lrev (a : Ex)
  | scr (a : Ex) (ns : List Int) (n : Nat)
  | dkGet (turn : Bool) (a : Ex)
  | dkHas (a : Ex)
  | dkPop (a : Ex)
  | dkPush (a e : Ex)
  | dkNew (a b c : Ex)
  | dkNew2 (a b : Ex)
  | asI (a : Ex)
  | fld (a : Ex) (f : Str)
  | meth (c fi : Nat) (o : Ex) (as : Exs)
  | mk (c fi : Nat) (as : Exs)
  | tnew
  | own (c fi : Nat) (neg : Bool) (a b : Ex)
  | dct (a : Ex)
  | isO (c : Nat) (a : Ex)
inductive Exs where
  | nil
  | cons (a : Ex) (as : Exs)
end
/-- a target: one name, or the names of a tuple -/
def setMany : List Nat → List D → Sl → Option Sl
  | [], [], σ => some σ
  | i :: is, v :: vs, σ => setMany is vs (σ.set i (some v))
  | _, _, _ => none
def setT : List Nat → D → Sl → Option Sl
  | [i], v, σ => some (σ.set i (some v))
  | is, .tuple vs, σ => setMany is vs σ
  | is, .list vs, σ => setMany is vs σ
  | _, _, _ => none
/-- names in groups: the items of a tuple, each by a target of its own -/
def setGs : List (List Nat) → List D → Sl → Option Sl
  | [], [], σ => some σ
  | t :: ts, v :: vs, σ => (setT t v σ).bind (setGs ts vs)
  | _, _, _ => none
def setG : List (List Nat) → D → Sl → Option Sl
  | ts, .tuple vs, σ => setGs ts vs σ
  | _, _, _ => none
def compL (f : D → G → Res (Option D)) : List D → List D → G → Res (List D)
  | [], acc, g => .ok acc.reverse g
  | x :: r, acc, g => (f x g).bind fun o g => match o with
    | some y => compL f r (y :: acc) g
    | none => compL f r acc g
/-- the slots forgotten -/
def wipeS (σ : Sl) : List Nat → Sl
  | [] => σ
  | v :: vs => (wipeS σ vs).set v none
/-- dicts as pairs of values -/
def keq (a b : D) : Bool := match keyD a, keyD b with
  | some x, some y => decide (x = y)
  | _, _ => false
def dLook (k : D) (kvs : List (D × D)) : Option D := (kvs.find? fun p => keq p.1 k).map (·.2)
def dPut (k v : D) (kvs : List (D × D)) : List (D × D) := if (kvs.any fun p => keq p.1 k) then kvs.map (fun p => if keq p.1 k then (p.1, v) else p) else kvs ++ [(k, v)]
def teq (a b : D) : Bool := match keyT a, keyT b with
  | some x, some y => decide (x = y)
  | _, _ => false
def tLook (k : D) (kvs : List (D × D)) : Option D := (kvs.find? fun p => teq p.1 k).map (·.2)
def tPut (k v : D) (kvs : List (D × D)) : List (D × D) := if (kvs.any fun p => teq p.1 k) then kvs.map (fun p => if teq p.1 k then (p.1, v) else p) else kvs ++ [(k, v)]
/-- what stands at a key: none where it can't be asked -/
def dlkV (kvs : List (D × D)) (k : D) : Option (Option D) := match tdOf kvs with
  | some r => if (keyT k).isNone then none else some (tLook k r)
  | none => if isDeck kvs || (keyD k).isNone then none else some (dLook k kvs)
def dgetV : D → D → D → Option D
  | .dict kvs, k, x => (dlkV kvs k).map fun o => o.getD x
  | _, _, _ => none
def dixV : D → D → Option D
  | .dict kvs, k => (dlkV kvs k).bind id
  | _, _ => none
def dhasV : D → D → Option Bool
  | k, .dict kvs => (dlkV kvs k).map fun o => o.isSome
  | _, _ => none
/-- an attribute -/
def fldV : D → Str → Option D
  | .dict ((.list [.int _], .none) :: r), f => dLook (.str f) r
  | _, _ => none
def fPut (f : Str) (v : D) : List (D × D) → List (D × D)
  | [] => [(.str f, v)]
  | (k, d) :: r => if keq k (.str f) then (k, v) :: r else (k, d) :: fPut f v r
def setFV (c : Nat) (f : Str) (v : D) : D → Option D
  | .dict ((.list [.int i], .none) :: r) => if decide (i = c) && decide (r.length < 900) then some (.dict ((.list [.int i], .none) :: fPut f v r)) else none
  | _ => none
def dispV : List D → List (D × D) → Option (List (D × D))
  | [], acc => some acc
  | k :: v :: r, acc => if (keyD k).isNone then none else dispV r (dPut k v acc)
  | _, _ => none
/-- a dict of pairs -/
def pairV : List D → List (D × D) → Option (List (D × D))
  | [], acc => some acc
  | .tuple [k, v] :: r, acc => if (keyD k).isNone then none else pairV r (dPut k v acc)
  | _, _ => none
/-- a dict of lists: one more item in the list at a key -/
def buckL (k v : D) : List (D × D) → Option (List (D × D))
  | [] => some [(k, .list [v])]
  | (a, d) :: r => if keq a k then (match d with
    | .list l => if decide (l.length < lineN) then some ((a, .list (l ++ [v])) :: r) else none
    | _ => none) else (buckL k v r).map ((a, d) :: ·)
def buckV (acc : List (D × D)) (k v : D) : Option (List (D × D)) := if (keyD k).isNone || !decide (acc.length < lineN) then none else buckL k v acc
def grpL (f : D → G → Res (D × D)) : List D → List (D × D) → G → Res (List (D × D))
  | [], acc, g => .ok acc g
  | y :: r, acc, g => (f y g).bind fun kv g => (lift (buckV acc kv.1 kv.2) g).bind fun acc g => grpL f r acc g
def noneAt (σ : Sl) (i : Nat) : Bool := match σ[i]? with
  | some (some (.dict [])) => true
  | _ => false
/-! ### decks -/
def isTok (n : Int) : D → Bool
  | .dict [(.list [], .int k)] => decide (k = n)
  | _ => false
theorem of_isTok {n : Int} {d : D} (h : isTok n d = true) : d = tokD n := by
  unfold isTok at h
  split at h
  · rw [of_decide_eq_true h]; rfl
  · cases h
@[simp] theorem isTok_tok (n : Int) : isTok n (tokD n) = true := by simp [isTok, tokD]
def dkGetV (t : Bool) (d : D) : G → Option D
  | some st => if isTok 0 d then some (.int (if t then st.turn else st.mixed)) else none
  | none => none
def dkHasV (d : D) : G → Option D
  | some st => if isTok 0 d then some (.bool (!st.cells.isEmpty)) else none
  | none => none
def dkPopV (d : D) : G → Res D
  | some st => if isTok 0 d then match st.cells.getLast? with
      | some c => .ok (.int c) (some { st with cells := st.cells.dropLast })
      | none => .no
    else .no
  | none => .no
def dkPushV (d v : D) : G → Res D
  | some st => if isTok 0 d && decide (st.cells.length < lineN) then match v with
      | .int c => .ok .none (some { st with cells := st.cells ++ [c] })
      | _ => .no
    else .no
  | none => .no
def dkSetV (t : Bool) (d v : D) : G → Option G
  | some st => if isTok 0 d then match v with
      | .int c => some (some (if t then { st with turn := c } else { st with mixed := c }))
      | _ => none
    else none
  | none => none
def dkNewV (l m t : D) : G → Res D
  | none => match l, m, t with
    | .list xs, .int m, .int t => match intsOf xs with
      | some ns => .ok (tokD 0) (some ⟨ns, m, t⟩)
      | none => .no
    | _, _, _ => .no
  | some _ => .no
/-- items by their places -/
def pm {α : Type} (perm : List Nat) (xs : List α) : List α := perm.filterMap fun j => xs[j]?
abbrev Fns := Nat → List D → G → Res D
mutual
def ev (Φ : Fns) : Ex → Sl → G → Res D
  | .c v, _, g => .ok v g
  | .var i, σ, g => match σ[i]? with
    | some (some v) => .ok v g
    | _ => .no
  | .bin op a b, σ, g => (ev Φ a σ g).bind fun x g => (ev Φ b σ g).bind fun y g => lift (binV op x y) g
  | .neg a, σ, g => (ev Φ a σ g).bind fun x g => match x with
    | .int i => .ok (.int (-i)) g
    | _ => .no
  | .cmp op a b, σ, g => (ev Φ a σ g).bind fun x g => (ev Φ b σ g).bind fun y g => lift ((cmpV op x y).map .bool) g
  | .chain o1 o2 a b c, σ, g => (ev Φ a σ g).bind fun x g => (ev Φ b σ g).bind fun y g => (lift (cmpV o1 x y) g).bind fun k g =>
      if k then (ev Φ c σ g).bind fun z g => lift ((cmpV o2 y z).map .bool) g else .ok (.bool false) g
  | .chain3 o1 o2 o3 a b c d, σ, g => (ev Φ a σ g).bind fun x g => (ev Φ b σ g).bind fun y g => (lift (cmpV o1 x y) g).bind fun k g =>
      if k then (ev Φ c σ g).bind fun z g => (lift (cmpV o2 y z) g).bind fun k g => if k then (ev Φ d σ g).bind fun w g => lift ((cmpV o3 z w).map .bool) g else .ok (.bool false) g else .ok (.bool false) g
  | .and a b, σ, g => (ev Φ a σ g).bind fun x g => match x with
    | .bool true => ev Φ b σ g
    | .bool false => .ok (.bool false) g
    | _ => .no
  | .or a b, σ, g => (ev Φ a σ g).bind fun x g => match x with
    | .bool true => .ok (.bool true) g
    | .bool false => ev Φ b σ g
    | _ => .no
  | .not a, σ, g => (ev Φ a σ g).bind fun x g => match x with
    | .bool k => .ok (.bool (!k)) g
    | _ => .no
  | .truth a, σ, g => (ev Φ a σ g).bind fun x g => lift ((truV x).map .bool) g
  | .ite t a b, σ, g => (ev Φ t σ g).bind fun x g => match x with
    | .bool true => ev Φ a σ g
    | .bool false => ev Φ b σ g
    | _ => .no
  | .idx a i, σ, g => (ev Φ a σ g).bind fun x g => (ev Φ i σ g).bind fun y g => lift (idxV x y) g
  | .slc a lo hi, σ, g => (ev Φ a σ g).bind fun x g => (ev Φ lo σ g).bind fun l g => (ev Φ hi σ g).bind fun h g => lift (slcV x l h) g
  | .rev a, σ, g => (ev Φ a σ g).bind fun x g => lift (revV x) g
  | .tup as, σ, g => (evs Φ as σ g).bind fun xs g => .ok (.tuple xs) g
  | .lst as, σ, g => (evs Φ as σ g).bind fun xs g => .ok (.list xs) g
  | .bi f as, σ, g => (evs Φ as σ g).bind fun xs g => lift (biV f xs) g
  | .call f as, σ, g => (evs Φ as σ g).bind fun xs g => Φ f xs g
  | .callK f as perm, σ, g => (evs Φ as σ g).bind fun xs g => Φ f (pm perm xs) g
  | .comp t k as cond elt, σ, g => (evs Φ as σ g).bind fun vs g => (lift (itV k vs) g).bind fun xs g =>
      if decide (xs.length ≤ lineN) then (compL (fun x g => (lift (setT t x (wipeS σ t)) g).bind fun σ' g => (ev Φ cond σ' g).bind fun b g => match b with
        | .bool true => (ev Φ elt σ' g).bind fun v g => .ok (some v) g
        | .bool false => .ok none g
        | _ => .no) xs [] g).bind fun ys g => .ok (.list ys) g else .no
  | .dnew, _, g => .ok (.dict []) g
  | .dget d k x, σ, g => (ev Φ d σ g).bind fun dv g => (ev Φ k σ g).bind fun kv g => (ev Φ x σ g).bind fun xv g => lift (dgetV dv kv xv) g
  | .dix d k, σ, g => (ev Φ d σ g).bind fun dv g => (ev Φ k σ g).bind fun kv g => lift (dixV dv kv) g
  | .dhas k d n, σ, g => (ev Φ k σ g).bind fun kv g => (ev Φ d σ g).bind fun dv g => lift ((dhasV kv dv).map fun b => .bool (b != n)) g
  | .ddisp kvs, σ, g => (evs Φ kvs σ g).bind fun xs g => lift ((dispV xs []).map .dict) g
  | .lrev a, σ, g => (ev Φ a σ g).bind fun x g => match x with
    | .list xs => .ok (.list xs.reverse) g
    | _ => .no
  | .scr a ns n, σ, g => (ev Φ a σ g).bind fun x g => if isTok 1 x then .ok (.list ((ns.take n).map .int)) g else .no
  | .dkGet t a, σ, g => (ev Φ a σ g).bind fun x g => lift (dkGetV t x g) g
  | .dkHas a, σ, g => (ev Φ a σ g).bind fun x g => lift (dkHasV x g) g
  | .dkPop a, σ, g => (ev Φ a σ g).bind fun x g => dkPopV x g
  | .dkPush a e, σ, g => (ev Φ a σ g).bind fun x g => match g with
    | none => .no
    | some _ => (ev Φ e σ g).bind fun v g => dkPushV x v g
  | .dkNew a b c, σ, g => (ev Φ a σ g).bind fun x g => (ev Φ b σ g).bind fun y g => (ev Φ c σ g).bind fun z g => dkNewV x y z g
  | .asI a, σ, g => (ev Φ a σ g).bind fun x g => match x with
    | .int i => .ok (.int i) g
    | _ => .no
  | .dkNew2 a b, σ, g => (ev Φ a σ g).bind fun x g => (ev Φ b σ g).bind fun y g => dkNewV x y (.int 0) g
  | .fld a f, σ, g => (ev Φ a σ g).bind fun x g => lift (fldV x f) g
  | .meth c fi o as, σ, g => (ev Φ o σ g).bind fun x g => if isOb c x then (evs Φ as σ g).bind fun xs g => Φ fi (x :: xs) g else .no
  | .mk c fi as, σ, g => (evs Φ as σ g).bind fun xs g => Φ fi (objD c [] :: xs) g
  | .tnew, _, g => .ok (tdD []) g
  | .own c fi n a b, σ, g => (ev Φ a σ g).bind fun x g => (ev Φ b σ g).bind fun y g => if isOb c x && isOb c y then (Φ fi [x, y] g).bind fun r g => match r with
    | .bool z => .ok (.bool (z != n)) g
    | _ => .no else .no
  | .dct a, σ, g => (ev Φ a σ g).bind fun x g => match x with
    | .list xs => (lift (pairV xs []) g).bind fun kvs g => .ok (.dict kvs) g
    | _ => .no
  | .isO c a, σ, g => (ev Φ a σ g).bind fun x g => if isObj x then .ok (.bool (isOb c x)) g else if isDk x then .no else .ok (.bool false) g
def evs (Φ : Fns) : Exs → Sl → G → Res (List D)
  | .nil, _, g => .ok [] g
  | .cons a as, σ, g => (ev Φ a σ g).bind fun x g => (evs Φ as σ g).bind fun xs g => .ok (x :: xs) g
end

def Exs.len : Exs → Nat
  | .nil => 0
  | .cons _ as => as.len + 1
theorem evs_len (Φ : Fns) : ∀ (as : Exs) (σ : Sl) (g g' : G) (vs : List D), evs Φ as σ g = .ok vs g' → vs.length = as.len
  | .nil, σ, g, g', vs, h => by unfold evs at h; cases h; rfl
  | .cons a as, σ, g, g', vs, h => by
    unfold evs at h
    obtain ⟨x, g1, _, h⟩ := bind_eq_ok h
    obtain ⟨xs, g2, h2, h⟩ := bind_eq_ok h
    cases h
    rw [List.length_cons, evs_len Φ as _ _ _ _ h2]; rfl
/-! ### statements -/
/-- what is done with the answer of a call that may raise -/
inductive Kx where
  | ret
  | ex
  | set (t : List Nat)
inductive Sm where
  | skip
  | seq (a b : Sm)
  | set (t : List Nat) (e : Ex)
  | setG (ts : List (List Nat)) (e : Ex)
  | par (i j : Nat) (a b : Ex)
  | par3 (i j k : Nat) (a b c : Ex)
  | aug (i : Nat) (op : Bop) (e : Ex)
  | setIx (i : Nat) (k e : Ex)
  | setKey (i : Nat) (k e : Ex)
  | augIx (i : Nat) (op : Bop) (k e : Ex)
  | popS (i : Nat)
  | app (i : Nat) (e : Ex)
  | ext (i : Nat) (e : Ex)
  | setd (i : Nat) (k e : Ex)
  | ite (t : Ex) (a b : Sm)
  | forr (t : List Nat) (k : Ik) (as : Exs) (b : Sm)
  | whil (t : Ex) (b : Sm)
  | ret (e : Ex)
  | brk
  | cnt
  | ex (e : Ex)
  | dkSet (turn : Bool) (a e : Ex)
  | setF (i c : Nat) (f : Str) (e : Ex)
  | popX (j i : Nat)
  | popI (j i : Nat) (e : Ex)
  | rais (c : Nat) (as : Exs)
  | callX (k : Kx) (f : Nat) (as : Exs) (perm : Option (List Nat))
  | methX (k : Kx) (c f : Nat) (o : Ex) (as : Exs)
  | mkX (k : Kx) (c f : Nat) (as : Exs)
  | try_ (b : Sm) (sel : Nat → Bool) (h : Nat → List D → Sm) (i : Option Nat)
  | grp (t n x : Nat) (k : Ik) (as : Exs) (ik ie : Ex)
  | bad
inductive Fl where
  | nx (σ : Sl)
  | rt (v : D)
  | bk (σ : Sl)
  | ct (σ : Sl)
  | ex (σ : Sl) (c : Nat) (vs : List D)
/-- what becomes of a call's answer -/
def endX (k : Kx) (σ : Sl) : Res D → Res Fl
  | .ok v g => match k with
    | .ret => .ok (.rt v) g
    | .ex => .ok (.nx σ) g
    | .set t => (lift (setT t v σ) g).bind fun σ g => .ok (.nx σ) g
  | .exc c ws g => .ok (.ex σ c ws) g
  | .no => .no
def clr : Option Nat → Sl → Sl
  | none, σ => σ
  | some i, σ => σ.set i none
def okI : Option Nat → Sl → Bool
  | none, _ => true
  | some i, σ => decide (i < σ.length)
/-- behind an except suite its name is free -/
def clrF (i : Option Nat) : Fl → G → Res Fl
  | .nx σ, g => .ok (.nx (clr i σ)) g
  | .bk σ, g => .ok (.bk (clr i σ)) g
  | .ct σ, g => .ok (.ct (clr i σ)) g
  | .rt v, g => .ok (.rt v) g
  | .ex _ _ _, _ => .no
def forL (f : D → Sl → G → Res Fl) : List D → Sl → G → Res Fl
  | [], σ, g => .ok (.nx σ) g
  | x :: r, σ, g => (f x σ g).bind fun fl g => match fl with
    | .nx σ => forL f r σ g
    | .ct σ => forL f r σ g
    | .bk σ => .ok (.nx σ) g
    | .rt v => .ok (.rt v) g
    | .ex σ c vs => .ok (.ex σ c vs) g
def whileL (c : Sl → G → Res D) (b : Sl → G → Res Fl) : Nat → Sl → G → Res Fl
  | 0, _, _ => .no
  | n + 1, σ, g => (c σ g).bind fun v g => match v with
    | .bool true => (b σ g).bind fun fl g => match fl with
      | .nx σ => whileL c b n σ g
      | .ct σ => whileL c b n σ g
      | .bk σ => .ok (.nx σ) g
      | .rt v => .ok (.rt v) g
      | .ex σ c vs => .ok (.ex σ c vs) g
    | .bool false => .ok (.nx σ) g
    | _ => .no
def setIxV : D → D → D → Option D
  | .list xs, .int i, v => (L2.ixN xs.length i).map fun j => .list (xs.set j v)
  | _, _, _ => none
def augV : Bop → D → D → Option D
  | .add, .int i, .int j => some (.int (i + j))
  | .sub, .int i, .int j => some (.int (i - j))
  | .mul, .int i, .int j => if decide (i.natAbs < 18446744073709551616) || decide (j.natAbs < 18446744073709551616) then some (.int (i * j)) else none
  | .fdiv, .int i, .int j => if decide (0 < j) && decide (j < 1073741824) then some (.int (i / j)) else none
  | .add, .str x, .str y => if decide (x.length + y.length ≤ lineN) then some (.str (x ++ y)) else none
  | _, _, _ => none
def setKeyV : D → D → D → Option D
  | .dict kvs, k, v => match tdOf kvs with
    | some r => if (keyT k).isNone || !decide (r.length < lineN) then none else some (tdD (tPut k v r))
    | none => if isDeck kvs || (keyD k).isNone || !decide (kvs.length < lineN) then none else some (.dict (dPut k v kvs))
  | _, _, _ => none
def popV : D → Option D
  | .list xs => if xs.isEmpty then none else some (.list xs.dropLast)
  | _ => none
def appV : D → D → Option D
  | .list xs, v => if decide (xs.length < lineN) then some (.list (xs ++ [v])) else none
  | _, _ => none
def extV : D → D → Option D
  | .list xs, .list ys => if decide (xs.length + ys.length ≤ lineN) then some (.list (xs ++ ys)) else none
  | _, _ => none
def setdV : D → D → D → Option D
  | .dict kvs, k, v => if isDeck kvs || (keyD k).isNone || !decide (kvs.length < lineN) then none else match dLook k kvs with
    | some _ => some (.dict kvs)
    | none => some (.dict (dPut k v kvs))
  | _, _, _ => none
/-- the last item, and what is left -/
def popD : D → Option (D × D)
  | .list xs => xs.getLast?.map fun v => (v, .list xs.dropLast)
  | _ => none
def popAtD : D → D → Option (D × D)
  | .list xs, .int i => if decide (0 ≤ i) && decide (xs.length ≤ lineN) then xs[i.toNat]?.map fun v => (v, .list (xs.eraseIdx i.toNat)) else none
  | _, _ => none
def slot (σ : Sl) (i : Nat) (g : G) : Res D := match σ[i]? with
  | some (some v) => .ok v g
  | _ => .no
def run (Φ : Fns) (fu : Nat) : Sm → Sl → G → Res Fl
  | .skip, σ, g => .ok (.nx σ) g
  | .seq a b, σ, g => (run Φ fu a σ g).bind fun fl g => match fl with
    | .nx σ => run Φ fu b σ g
    | fl => .ok fl g
  | .set t e, σ, g => (ev Φ e σ g).bind fun v g => (lift (setT t v σ) g).bind fun σ g => .ok (.nx σ) g
  | .setG ts e, σ, g => (ev Φ e σ g).bind fun v g => (lift (setG ts v σ) g).bind fun σ g => .ok (.nx σ) g
  | .par i j a b, σ, g => (ev Φ a σ g).bind fun v g => (ev Φ b σ g).bind fun w g => .ok (.nx ((σ.set i (some v)).set j (some w))) g
  | .par3 i j k a b c, σ, g => (ev Φ a σ g).bind fun u g => (ev Φ b σ g).bind fun v g => (ev Φ c σ g).bind fun w g => .ok (.nx (((σ.set i (some u)).set j (some v)).set k (some w))) g
  | .aug i op e, σ, g => (slot σ i g).bind fun x g => (ev Φ e σ g).bind fun y g => (lift (augV op x y) g).bind fun z g => .ok (.nx (σ.set i (some z))) g
  | .setIx i k e, σ, g => (ev Φ e σ g).bind fun v g => (slot σ i g).bind fun d g => (ev Φ k σ g).bind fun kv g => (lift (setIxV d kv v) g).bind fun d' g => .ok (.nx (σ.set i (some d'))) g
  | .setKey i k e, σ, g => (ev Φ e σ g).bind fun v g => (slot σ i g).bind fun d g => (ev Φ k σ g).bind fun kv g => (lift (setKeyV d kv v) g).bind fun d' g => .ok (.nx (σ.set i (some d'))) g
  | .augIx i op k e, σ, g => (slot σ i g).bind fun d g => (ev Φ k σ g).bind fun kv g => (lift (idxV d kv) g).bind fun old g => (ev Φ e σ g).bind fun y g => (lift (augV op old y) g).bind fun z g => (lift (setIxV d kv z) g).bind fun d' g => .ok (.nx (σ.set i (some d'))) g
  | .popS i, σ, g => (slot σ i g).bind fun d g => (lift (popV d) g).bind fun d' g => .ok (.nx (σ.set i (some d'))) g
  | .app i e, σ, g => (slot σ i g).bind fun _ g => (ev Φ e σ g).bind fun v g => (slot σ i g).bind fun d g => (lift (appV d v) g).bind fun d' g => .ok (.nx (σ.set i (some d'))) g
  | .ext i e, σ, g => (slot σ i g).bind fun _ g => (ev Φ e σ g).bind fun v g => (slot σ i g).bind fun d g => (lift (extV d v) g).bind fun d' g => .ok (.nx (σ.set i (some d'))) g
  | .setd i k e, σ, g => (slot σ i g).bind fun d g => (ev Φ k σ g).bind fun kv g => (ev Φ e σ g).bind fun v g => (lift (setdV d kv v) g).bind fun d' g => .ok (.nx (σ.set i (some d'))) g
  | .ite t a b, σ, g => (ev Φ t σ g).bind fun x g => match x with
    | .bool true => run Φ fu a σ g
    | .bool false => run Φ fu b σ g
    | _ => .no
  | .forr t k as b, σ, g => (evs Φ as σ g).bind fun vs g => (lift (itV k vs) g).bind fun xs g =>
      forL (fun x σ g => (lift (setT t x σ) g).bind fun σ g => run Φ fu b σ g) xs σ g
  | .whil t b, σ, g => whileL (fun σ g => ev Φ t σ g) (fun σ g => run Φ fu b σ g) fu σ g
  | .ret e, σ, g => (ev Φ e σ g).bind fun v g => .ok (.rt v) g
  | .brk, σ, g => .ok (.bk σ) g
  | .cnt, σ, g => .ok (.ct σ) g
  | .ex e, σ, g => (ev Φ e σ g).bind fun _ g => .ok (.nx σ) g
  | .dkSet t a e, σ, g => (ev Φ e σ g).bind fun v g => (ev Φ a σ g).bind fun x g => (lift (dkSetV t x v g) g).bind fun g' _ => .ok (.nx σ) g'
  | .setF i c f e, σ, g => (ev Φ e σ g).bind fun v g => (slot σ i g).bind fun d g => (lift (setFV c f v d) g).bind fun d' g => .ok (.nx (σ.set i (some d'))) g
  | .popX j i, σ, g => (slot σ i g).bind fun d g => (lift (popD d) g).bind fun p g => .ok (.nx ((σ.set i (some p.2)).set j (some p.1))) g
  | .popI j i e, σ, g => (slot σ i g).bind fun _ g => (ev Φ e σ g).bind fun k g => (slot σ i g).bind fun d g => (lift (popAtD d k) g).bind fun p g => .ok (.nx ((σ.set i (some p.2)).set j (some p.1))) g
  | .rais c as, σ, g => (evs Φ as σ g).bind fun vs g => .ok (.ex σ c vs) g
  | .callX k f as perm, σ, g => (evs Φ as σ g).bind fun vs g => endX k σ (Φ f (match perm with | some p => pm p vs | none => vs) g)
  | .methX k c fi o as, σ, g => (ev Φ o σ g).bind fun x g => if isOb c x then (evs Φ as σ g).bind fun vs g => endX k σ (Φ fi (x :: vs) g) else .no
  | .mkX k c fi as, σ, g => (evs Φ as σ g).bind fun vs g => match g with
    | none => .no
    | some st => endX k σ (Φ fi (objD c [] :: vs) (some st))
  | .try_ b sel h i, σ, g => (run Φ fu b σ g).bind fun fl g => match fl with
    | .ex σ c vs => if sel c then if okI i σ then (run Φ fu (h c vs) (clr i σ) g).bind (clrF i) else .no else .ok (.ex σ c vs) g
    | fl => .ok fl g
  | .grp t n x k as ik ie, σ, g => (evs Φ as σ g).bind fun vs g => (lift (itV k vs) g).bind fun xs g => if noneAt σ n && decide (x < σ.length) then
      (grpL (fun y g => (ev Φ ik (((σ.set n none).set x none).set t (some y)) g).bind fun kv g => (ev Φ ie (((σ.set n none).set x none).set t (some y)) g).bind fun v g => .ok (kv, v) g) xs [] g).bind fun kvs g =>
        .ok (.nx ((((σ.set n none).set x none).set t none).set n (some (.dict kvs)))) g else .no
  | .bad, _, _ => .no
/-- no return within -/
def noRet : Sm → Bool
  | .ret _ => false
  | .seq a b => noRet a && noRet b
  | .ite _ a b => noRet a && noRet b
  | .forr _ _ _ b => noRet b
  | .whil _ b => noRet b
  | .callX _ _ _ _ => false
  | .methX _ _ _ _ _ => false
  | .mkX _ _ _ _ => false
  | .try_ _ _ _ _ => false
  | .grp _ _ _ _ _ _ _ => false
  | _ => true

/-- an attribute of a handled exception: what the classes bear, by their numbers -/
def xfE (xt : List (Option Str)) (c : Nat) (vs : List D) (f : Str) : Ex := if xt[c]? = some (some f) then .c (vs.getD 0 .none) else .idx (.c .none) (.c .none)
def xiE (bt : List Bool) (c : Nat) : Ex := .c (.bool (bt.getD c false))
/-! ### functions -/
structure Fn where
  np : Nat
  nl : Nat
  body : Sm
def fin : Res Fl → Res D
  | .ok (.rt v) g => .ok v g
  | .ok (.nx _) g => .ok .none g
  | .ok (.ex _ c vs) g => .exc c vs g
  | .ok _ _ => .no
  | .exc _ _ _ => .no
  | .no => .no
def fuel : Nat := 18446744073709551616
abbrev Prims := Nat → Option (List D → G → Res D)
def FT (T : List Fn) (pr : Prims) : Nat → Fns
  | 0, _, _, _ => .no
  | d + 1, f, as, g => match pr f with
    | some p => p as g
    | none => match T[f]? with
      | some fn => if as.length = fn.np then fin (run (FT T pr d) fuel fn.body (as.map some ++ List.replicate (fn.nl - fn.np) none) g) else .no
      | none => .no
end Pv
end

section
/-! PvB: values of the small language over the hand layer's heap: the relation, the state, the judgements. -/
set_option autoImplicit false
namespace Pv
open PySem PySem.Spec PyProof.Rows L2

/-- the frozen part of the heap; the deck's dict and list; the script -/
structure Fz where
  h : Hp
  dk : Option (Addr × Addr)
  sc : Option (Addr × List Int) × List (Addr × List Str)
def Fz.isDk (F : Fz) (a : Addr) : Prop := ∃ d l, F.dk = some (d, l) ∧ (a = d ∨ a = l)
def Fz.put (F : Fz) (p : Addr) (o : HO) : Fz := { F with h := upd F.h p o }
structure Fsub (F F' : Fz) : Prop where
  h : Same F.h F'.h
  dk : ∀ p, F.dk = some p → F'.dk = some p
  sc : F'.sc = F.sc
theorem Fsub.refl (F : Fz) : Fsub F F := ⟨Same.refl _, fun _ h => h, rfl⟩
theorem Fsub.trans {F F1 F2 : Fz} (a : Fsub F F1) (b : Fsub F1 F2) : Fsub F F2 := ⟨a.h.trans b.h, fun p h => b.dk p (a.dk p h), b.sc.trans a.sc⟩
theorem Fsub.isDk {F F' : Fz} (s : Fsub F F') {a : Addr} (h : F.isDk a) : F'.isDk a := let ⟨d, l, e, q⟩ := h; ⟨d, l, s.dk _ e, q⟩
theorem same_upd {H : Hp} {p : Addr} {o : HO} (h : H p = none) : Same H (upd H p o) := fun b x e => by
  rw [upd_ne (ne_of_none e h)]
  exact e
theorem Fsub.put {F : Fz} {p : Addr} {o : HO} (h : F.h p = none) : Fsub F (F.put p o) := ⟨same_upd h, fun _ h => h, rfl⟩
theorem sqT_mono {K : PySem.W.Frag} {H H' : Hp} {a : Addr} {xs : List V} (e : Same H H') (h : H a = some (.tup xs)) : SqT K H' a xs := .of (e _ _ h)
theorem sqL_mono {K : PySem.W.Frag} {H H' : Hp} {a : Addr} {xs : List V} (e : Same H H') (h : SqL K H a xs) : SqL K H' a xs := e.seq h

section
variable (K : PySem.W.Frag) (F : Fz)
mutual
def Rel : D → V → Prop
  | .none, v => v = .non
  | .bool b, v => v = .bl b
  | .int i, v => v = .int i
  | .str x, v => v = .str x
  | .list xs, v => ∃ a vs, v = .ref a ∧ F.h a = some (.lst vs) ∧ RelL xs vs
  | .tuple xs, v => ∃ a vs, v = .ref a ∧ F.h a = some (.tup vs) ∧ RelL xs vs
  | .dict kvs, v => (isDeck kvs = true ∧ ((∃ d l, F.dk = some (d, l) ∧ v = .ref d ∧ tokD 0 = .dict kvs) ∨ (∃ a ns, F.sc.1 = some (a, ns) ∧ v = .ref a ∧ SqL K F.h a (ns.map V.int) ∧ tokD 1 = .dict kvs) ∨ RelO kvs v ∨ RelTd kvs v)) ∨
      (isDeck kvs = false ∧ ∃ a kk, v = .ref a ∧ F.h a = some (.dK kk) ∧ RelKV kvs kk)
def RelL : List D → List V → Prop
  | [], vs => vs = []
  | d :: ds, vs => ∃ v vr, vs = v :: vr ∧ Rel d v ∧ RelL ds vr
def RelKV : List (D × D) → List (Key × V) → Prop
  | [], kk => kk = []
  | (k, d) :: r, kk => ∃ kv v kr, kk = (kv, v) :: kr ∧ keyD k = some kv ∧ Rel d v ∧ RelKV r kr
def RelKT : List (D × D) → List (List Key × V) → Prop
  | [], kk => kk = []
  | (k, d) :: r, kk => ∃ kv v kr, kk = (kv, v) :: kr ∧ keyT k = some kv ∧ Rel d v ∧ RelKT r kr
/-- an object by its attributes -/
def RelO : List (D × D) → V → Prop
  | [], _ => False
  | (k, m) :: r, v => m = .none ∧ ∃ (c : Nat) (Cn : Addr × List Str) (a dx : Addr) (fs : List (Str × V)), k = .list [.int c] ∧ F.sc.2[c]? = some Cn ∧ v = .ref a ∧ F.h a = some (.ins Cn.1 dx fs) ∧ (∀ p ∈ fs, p.1 ∈ Cn.2) ∧ RelKV r (fs.map fun p => ((.inr p.1, p.2) : Key × V))
def RelTd : List (D × D) → V → Prop
  | [], _ => False
  | (k, m) :: r, v => k = .none ∧ m = .none ∧ ∃ a kk, v = .ref a ∧ F.h a = some (.dT kk) ∧ RelKT r kk
end
end

section
variable {K : PySem.W.Frag} {F F' : Fz}
mutual
theorem Rel.mono (s : Fsub F F') : ∀ (d : D) (v : V), Rel K F d v → Rel K F' d v
  | .none, v, h => by unfold Rel at h ⊢; exact h
  | .bool b, v, h => by unfold Rel at h ⊢; exact h
  | .int i, v, h => by unfold Rel at h ⊢; exact h
  | .str x, v, h => by unfold Rel at h ⊢; exact h
  | .list xs, v, h => by
    unfold Rel at h ⊢
    obtain ⟨a, vs, e, q, r⟩ := h
    exact ⟨a, vs, e, s.h _ _ q, RelL.mono s xs vs r⟩
  | .tuple xs, v, h => by
    unfold Rel at h ⊢
    obtain ⟨a, vs, e, q, r⟩ := h
    exact ⟨a, vs, e, s.h _ _ q, RelL.mono s xs vs r⟩
  | .dict kvs, v, h => by
    unfold Rel at h ⊢
    rcases h with ⟨m, ⟨d, l, e, q⟩ | ⟨a, ns, e, q, q1, q2⟩ | q | q⟩ | ⟨m, a, kk, e, q, r⟩
    · exact .inl ⟨m, .inl ⟨d, l, s.dk _ e, q⟩⟩
    · exact .inl ⟨m, .inr (.inl ⟨a, ns, by rw [s.sc]; exact e, q, sqL_mono s.h q1, q2⟩)⟩
    · exact .inl ⟨m, .inr (.inr (.inl (RelO.mono s kvs v q)))⟩
    · exact .inl ⟨m, .inr (.inr (.inr (RelTd.mono s kvs v q)))⟩
    · exact .inr ⟨m, a, kk, e, s.h _ _ q, RelKV.mono s kvs kk r⟩
theorem RelL.mono (s : Fsub F F') : ∀ (ds : List D) (vs : List V), RelL K F ds vs → RelL K F' ds vs
  | [], vs, h => by unfold RelL at h ⊢; exact h
  | d :: ds, vs, h => by
    unfold RelL at h ⊢
    obtain ⟨v, vr, e, h1, h2⟩ := h
    exact ⟨v, vr, e, Rel.mono s d v h1, RelL.mono s ds vr h2⟩
theorem RelKV.mono (s : Fsub F F') : ∀ (ds : List (D × D)) (vs : List (Key × V)), RelKV K F ds vs → RelKV K F' ds vs
  | [], vs, h => by unfold RelKV at h ⊢; exact h
  | (k, d) :: ds, vs, h => by
    unfold RelKV at h ⊢
    obtain ⟨kv, v, vr, e, h0, h1, h2⟩ := h
    exact ⟨kv, v, vr, e, h0, Rel.mono s d v h1, RelKV.mono s ds vr h2⟩
theorem RelKT.mono (s : Fsub F F') : ∀ (ds : List (D × D)) (vs : List (List Key × V)), RelKT K F ds vs → RelKT K F' ds vs
  | [], vs, h => by unfold RelKT at h ⊢; exact h
  | (k, d) :: ds, vs, h => by
    unfold RelKT at h ⊢
    obtain ⟨kv, v, vr, e, h0, h1, h2⟩ := h
    exact ⟨kv, v, vr, e, h0, Rel.mono s d v h1, RelKT.mono s ds vr h2⟩
theorem RelO.mono (s : Fsub F F') : ∀ (ds : List (D × D)) (v : V), RelO K F ds v → RelO K F' ds v
  | [], v, h => by unfold RelO at h; exact h.elim
  | (k, m) :: ds, v, h => by
    unfold RelO at h ⊢
    obtain ⟨hm, c, Cn, a, dx, fs, e1, e2, e3, e4, e5, e6⟩ := h
    exact ⟨hm, c, Cn, a, dx, fs, e1, by rw [s.sc]; exact e2, e3, s.h _ _ e4, e5, RelKV.mono s ds _ e6⟩
theorem RelTd.mono (s : Fsub F F') : ∀ (ds : List (D × D)) (v : V), RelTd K F ds v → RelTd K F' ds v
  | [], v, h => by unfold RelTd at h; exact h.elim
  | (k, m) :: ds, v, h => by
    unfold RelTd at h ⊢
    obtain ⟨hk, hm, a, kk, e1, e2, e3⟩ := h
    exact ⟨hk, hm, a, kk, e1, s.h _ _ e2, RelKT.mono s ds _ e3⟩
end
theorem RelL.nil : RelL K F [] [] := by unfold RelL; rfl
theorem RelL.cons {d : D} {ds : List D} {v : V} {vs : List V} (h : Rel K F d v) (r : RelL K F ds vs) : RelL K F (d :: ds) (v :: vs) := by
  unfold RelL; exact ⟨v, vs, rfl, h, r⟩
theorem RelL.inv {d : D} {ds : List D} {vs : List V} (h : RelL K F (d :: ds) vs) : ∃ v vr, vs = v :: vr ∧ Rel K F d v ∧ RelL K F ds vr := by
  unfold RelL at h; exact h
theorem RelL.inv0 {vs : List V} (h : RelL K F [] vs) : vs = [] := by unfold RelL at h; exact h
theorem RelL.length : ∀ {ds : List D} {vs : List V}, RelL K F ds vs → ds.length = vs.length
  | [], vs, h => by rw [h.inv0]; rfl
  | d :: ds, vs, h => by
    obtain ⟨v, vr, rfl, _, r⟩ := h.inv
    rw [List.length_cons, List.length_cons, r.length]
theorem RelL.get : ∀ {ds : List D} {vs : List V} {i : Nat} {d : D}, RelL K F ds vs → ds[i]? = some d → ∃ v, vs[i]? = some v ∧ Rel K F d v
  | [], vs, i, d, h, e => by simp at e
  | x :: ds, vs, 0, d, h, e => by
    obtain ⟨v, vr, rfl, r1, r⟩ := h.inv
    simp at e; subst e
    exact ⟨v, rfl, r1⟩
  | x :: ds, vs, i + 1, d, h, e => by
    obtain ⟨v, vr, rfl, r1, r⟩ := h.inv
    obtain ⟨u, e1, e2⟩ := r.get (i := i) (d := d) (by simpa using e)
    exact ⟨u, by simpa using e1, e2⟩
theorem RelL.append : ∀ {ds es : List D} {vs us : List V}, RelL K F ds vs → RelL K F es us → RelL K F (ds ++ es) (vs ++ us)
  | [], es, vs, us, h, r => by rw [h.inv0]; exact r
  | d :: ds, es, vs, us, h, r => by
    obtain ⟨v, vr, rfl, h1, h2⟩ := h.inv
    exact .cons h1 (h2.append r)
theorem RelL.take : ∀ {ds : List D} {vs : List V} (n : Nat), RelL K F ds vs → RelL K F (ds.take n) (vs.take n)
  | ds, vs, 0, h => by simp; exact .nil
  | [], vs, n + 1, h => by rw [h.inv0]; simp; exact .nil
  | d :: ds, vs, n + 1, h => by
    obtain ⟨v, vr, rfl, h1, h2⟩ := h.inv
    exact .cons h1 (h2.take n)
theorem RelL.drop : ∀ {ds : List D} {vs : List V} (n : Nat), RelL K F ds vs → RelL K F (ds.drop n) (vs.drop n)
  | ds, vs, 0, h => by simpa using h
  | [], vs, n + 1, h => by rw [h.inv0]; simp; exact .nil
  | d :: ds, vs, n + 1, h => by
    obtain ⟨v, vr, rfl, h1, h2⟩ := h.inv
    simpa using h2.drop n
theorem RelL.set {d : D} {v : V} (r : Rel K F d v) : ∀ {ds : List D} {vs : List V} (i : Nat), RelL K F ds vs → RelL K F (ds.set i d) (vs.set i v)
  | [], vs, i, h => by rw [h.inv0]; simp; exact .nil
  | x :: ds, vs, 0, h => by
    obtain ⟨y, vr, rfl, h1, h2⟩ := h.inv
    exact .cons r h2
  | x :: ds, vs, i + 1, h => by
    obtain ⟨y, vr, rfl, h1, h2⟩ := h.inv
    exact .cons h1 (h2.set r i)
theorem RelL.reverse : ∀ {ds : List D} {vs : List V}, RelL K F ds vs → RelL K F ds.reverse vs.reverse
  | [], vs, h => by rw [h.inv0]; exact .nil
  | d :: ds, vs, h => by
    obtain ⟨v, vr, rfl, h1, h2⟩ := h.inv
    rw [List.reverse_cons, List.reverse_cons]
    exact h2.reverse.append (.cons h1 .nil)
theorem RelL.rep {ds : List D} {vs : List V} (h : RelL K F ds vs) : ∀ k : Nat, RelL K F (List.replicate k ds).flatten (List.replicate k vs).flatten
  | 0 => .nil
  | k + 1 => by
    rw [List.replicate_succ, List.replicate_succ, List.flatten_cons, List.flatten_cons]
    exact h.append (h.rep k)
theorem RelL.ints : ∀ {ds : List D} {vs : List V} {ns : List Int}, RelL K F ds vs → intsOf ds = some ns → vs = ns.map V.int
  | [], vs, ns, h, e => by cases e; rw [h.inv0]; rfl
  | .int i :: ds, vs, ns, h, e => by
    obtain ⟨v, vr, rfl, h1, h2⟩ := h.inv
    unfold intsOf at e
    cases q : intsOf ds with
    | none => rw [q] at e; cases e
    | some ms =>
      rw [q] at e; cases e
      unfold Rel at h1
      rw [h1, h2.ints q]; rfl
  | .none :: ds, vs, ns, h, e => by cases e
  | .bool _ :: ds, vs, ns, h, e => by cases e
  | .str _ :: ds, vs, ns, h, e => by cases e
  | .list _ :: ds, vs, ns, h, e => by cases e
  | .tuple _ :: ds, vs, ns, h, e => by cases e
  | .dict _ :: ds, vs, ns, h, e => by cases e
theorem relL_ints : ∀ (ns : List Int), RelL K F (ns.map .int) (ns.map V.int)
  | [] => .nil
  | n :: ns => .cons (by unfold Rel; rfl) (relL_ints ns)

/-! plain data is data of the hand layer -/
mutual
theorem dp_of {H : Hp} (s : Same F.h H) : ∀ (d : D) (v : V), d.canLay0 = true → Rel K F d v → Dp K H v d
  | .none, v, _, h => by unfold Rel at h; subst h; exact .non
  | .bool b, v, _, h => by unfold Rel at h; subst h; exact .bl b
  | .int i, v, _, h => by unfold Rel at h; subst h; exact .int i
  | .str x, v, _, h => by unfold Rel at h; subst h; exact .str x
  | .list xs, v, c, h => by
    unfold Rel at h
    obtain ⟨a, vs, rfl, q, r⟩ := h
    unfold PyData.canLay0 at c
    exact .lst (SqL.of (s _ _ q)) (dpAll_of s xs vs c r)
  | .tuple xs, v, c, h => by
    unfold Rel at h
    obtain ⟨a, vs, rfl, q, r⟩ := h
    unfold PyData.canLay0 at c
    exact .tup (sqT_mono s q) (dpAll_of s xs vs c r)
  | .dict kvs, v, c, _ => by unfold PyData.canLay0 at c; cases c
theorem dpAll_of {H : Hp} (s : Same F.h H) : ∀ (ds : List D) (vs : List V), PyData.canLayAll0 ds = true → RelL K F ds vs → DpAll K H vs ds
  | [], vs, _, h => by rw [h.inv0]; exact .nil
  | d :: ds, vs, c, h => by
    obtain ⟨v, vr, rfl, h1, h2⟩ := h.inv
    unfold PyData.canLayAll0 at c
    simp only [Bool.and_eq_true] at c
    exact .cons (dp_of s d v c.1 h1) (dpAll_of s ds vr c.2 h2)
end
end

/-! ### the root of a value, read off the heap -/
section
variable (K : PySem.W.Frag) (F : Fz)
/-- an object that stands in H -/
def ShO (H : Hp) (kvs : List (D × D)) (a : Addr) : Prop := ∃ (c : Nat) (r : List (D × D)) (Cn : Addr × List Str) (dx : Addr) (fs : List (Str × V)), kvs = (.list [.int c], .none) :: r ∧ F.sc.2[c]? = some Cn ∧ H a = some (.ins Cn.1 dx fs) ∧ (∀ p ∈ fs, p.1 ∈ Cn.2) ∧ RelKV K F r (fs.map fun p => ((.inr p.1, p.2) : Key × V))
/-- a dict of tuples that stands in H -/
def ShT (H : Hp) (kvs : List (D × D)) (a : Addr) : Prop := ∃ r kk, kvs = (.none, .none) :: r ∧ H a = some (.dT kk) ∧ RelKT K F r kk
def Sh (H : Hp) (d : D) (v : V) : Prop := match d with
  | .none => v = .non
  | .bool b => v = .bl b
  | .int i => v = .int i
  | .str x => v = .str x
  | .list xs => ∃ a vs, v = .ref a ∧ H a = some (.lst vs) ∧ RelL K F xs vs
  | .tuple xs => ∃ a vs, v = .ref a ∧ F.h a = some (.tup vs) ∧ RelL K F xs vs
  | .dict kvs => (isDeck kvs = true ∧ ∃ a, v = .ref a ∧ ((∃ n, tokD n = .dict kvs) ∨ ShO K F H kvs a ∨ ShT K F H kvs a)) ∨ (isDeck kvs = false ∧ ∃ a kk, v = .ref a ∧ H a = some (.dK kk) ∧ RelKV K F kvs kk)
/-- what a name holds alone -/
def OwnAt (H : Hp) (d : D) (a : Addr) : Prop := match d with
  | .list xs => ∃ vs, H a = some (.lst vs) ∧ RelL K F xs vs
  | .dict kvs => (isDeck kvs = false ∧ ∃ kk, H a = some (.dK kk) ∧ RelKV K F kvs kk) ∨ ShO K F H kvs a ∨ ShT K F H kvs a
  | _ => False
end
section
variable {K : PySem.W.Frag} {F F' : Fz} {H H' : Hp}
theorem RelO.sh {kvs : List (D × D)} {v : V} (s : Same F.h H) (h : RelO K F kvs v) : ∃ a, v = .ref a ∧ ShO K F H kvs a := by
  cases kvs with
  | nil => unfold RelO at h; exact h.elim
  | cons p r =>
    obtain ⟨k, m⟩ := p
    unfold RelO at h
    obtain ⟨rfl, c, Cn, a, dx, fs, rfl, e2, e3, e4, e5, e6⟩ := h
    exact ⟨a, e3, c, r, Cn, dx, fs, rfl, e2, s _ _ e4, e5, e6⟩
theorem RelTd.sh {kvs : List (D × D)} {v : V} (s : Same F.h H) (h : RelTd K F kvs v) : ∃ a, v = .ref a ∧ ShT K F H kvs a := by
  cases kvs with
  | nil => unfold RelTd at h; exact h.elim
  | cons p r =>
    obtain ⟨k, m⟩ := p
    unfold RelTd at h
    obtain ⟨rfl, rfl, a, kk, e1, e2, e3⟩ := h
    exact ⟨a, e1, r, kk, rfl, s _ _ e2, e3⟩
theorem ShO.mark {kvs : List (D × D)} {a : Addr} (h : ShO K F H kvs a) : isDeck kvs = true := by
  obtain ⟨c, r, Cn, dx, fs, rfl, _⟩ := h; rfl
theorem ShT.mark {kvs : List (D × D)} {a : Addr} (h : ShT K F H kvs a) : isDeck kvs = true := by
  obtain ⟨r, kk, rfl, _⟩ := h; rfl
theorem ShO.move {kvs : List (D × D)} {a : Addr} (h : ShO K F H kvs a) (s : Fsub F F') (k : ∀ o, H a = some o → H' a = some o) : ShO K F' H' kvs a := by
  obtain ⟨c, r, Cn, dx, fs, e1, e2, e3, e4, e5⟩ := h
  exact ⟨c, r, Cn, dx, fs, e1, by rw [s.sc]; exact e2, k _ e3, e4, e5.mono s _ _⟩
theorem ShT.move {kvs : List (D × D)} {a : Addr} (h : ShT K F H kvs a) (s : Fsub F F') (k : ∀ o, H a = some o → H' a = some o) : ShT K F' H' kvs a := by
  obtain ⟨r, kk, e1, e3, e5⟩ := h
  exact ⟨r, kk, e1, k _ e3, e5.mono s _ _⟩
theorem Rel.sh (s : Same F.h H) {d : D} {v : V} (h : Rel K F d v) : Sh K F H d v := by
  cases d with
  | none => unfold Rel at h; exact h
  | bool b => unfold Rel at h; exact h
  | int i => unfold Rel at h; exact h
  | str x => unfold Rel at h; exact h
  | list xs => unfold Rel at h; obtain ⟨a, vs, e, q, r⟩ := h; exact ⟨a, vs, e, s _ _ q, r⟩
  | tuple xs => unfold Rel at h; exact h
  | dict kvs =>
    unfold Rel at h
    rcases h with ⟨m, ⟨d, l, e, q, z⟩ | ⟨a, ns, e, q, _, z⟩ | q | q⟩ | ⟨m, a, kk, e, q, r⟩
    · exact .inl ⟨m, d, q, .inl ⟨_, z⟩⟩
    · exact .inl ⟨m, a, q, .inl ⟨_, z⟩⟩
    · obtain ⟨a, e, z⟩ := RelO.sh s q
      exact .inl ⟨m, a, e, .inr (.inl z)⟩
    · obtain ⟨a, e, z⟩ := RelTd.sh s q
      exact .inl ⟨m, a, e, .inr (.inr z)⟩
    · exact .inr ⟨m, a, kk, e, s _ _ q, r⟩
theorem OwnAt.sh {d : D} {a : Addr} (h : OwnAt K F H d a) : Sh K F H d (.ref a) := by
  cases d with
  | list xs => obtain ⟨vs, q, r⟩ := h; exact ⟨a, vs, rfl, q, r⟩
  | dict kvs =>
    rcases h with ⟨m, kk, q, r⟩ | q | q
    · exact .inr ⟨m, a, kk, rfl, q, r⟩
    · exact .inl ⟨q.mark, a, rfl, .inr (.inl q)⟩
    · exact .inl ⟨q.mark, a, rfl, .inr (.inr q)⟩
  | none => exact h.elim
  | bool b => exact h.elim
  | int i => exact h.elim
  | str x => exact h.elim
  | tuple xs => exact h.elim
theorem OwnAt.there {d : D} {a : Addr} (h : OwnAt K F H d a) : ∃ o, H a = some o := by
  cases d with
  | list xs => obtain ⟨vs, q, r⟩ := h; exact ⟨_, q⟩
  | dict kvs =>
    rcases h with ⟨m, kk, q, r⟩ | ⟨_, _, _, _, _, _, _, q, _⟩ | ⟨_, _, _, q, _⟩
    · exact ⟨_, q⟩
    · exact ⟨_, q⟩
    · exact ⟨_, q⟩
  | none => exact h.elim
  | bool b => exact h.elim
  | int i => exact h.elim
  | str x => exact h.elim
  | tuple xs => exact h.elim
theorem OwnAt.move {d : D} {a : Addr} (h : OwnAt K F H d a) (s : Fsub F F') (k : ∀ o, H a = some o → H' a = some o) : OwnAt K F' H' d a := by
  cases d with
  | list xs => obtain ⟨vs, q, r⟩ := h; exact ⟨vs, k _ q, r.mono s _ _⟩
  | dict kvs =>
    rcases h with ⟨m, kk, q, r⟩ | q | q
    · exact .inl ⟨m, kk, k _ q, r.mono s _ _⟩
    · exact .inr (.inl (q.move s k))
    · exact .inr (.inr (q.move s k))
  | none => exact h.elim
  | bool b => exact h.elim
  | int i => exact h.elim
  | str x => exact h.elim
  | tuple xs => exact h.elim
/-- what a name holds alone, frozen -/
theorem OwnAt.frozen {d : D} {a : Addr} (h : OwnAt K F H d a) (n : F.h a = none) {o : HO} (e : H a = some o) : Rel K (F.put a o) d (.ref a) := by
  have s : Fsub F (F.put a o) := Fsub.put n
  cases d with
  | list xs =>
    obtain ⟨vs, q, r⟩ := h
    rw [q] at e; cases e
    unfold Rel
    exact ⟨a, vs, rfl, upd_same, r.mono s _ _⟩
  | dict kvs =>
    rcases h with ⟨m, kk, q, r⟩ | ⟨c, r, Cn, dx, fs, rfl, e2, e3, e4, e5⟩ | ⟨r, kk, rfl, q, e5⟩
    · rw [q] at e; cases e
      unfold Rel
      exact .inr ⟨m, a, kk, rfl, upd_same, r.mono s _ _⟩
    · rw [e3] at e; cases e
      unfold Rel
      refine .inl ⟨rfl, .inr (.inr (.inl ?_))⟩
      unfold RelO
      exact ⟨rfl, c, Cn, a, dx, fs, rfl, e2, rfl, upd_same, e4, e5.mono s _ _⟩
    · rw [q] at e; cases e
      unfold Rel
      refine .inl ⟨rfl, .inr (.inr (.inr ?_))⟩
      unfold RelTd
      exact ⟨rfl, rfl, a, kk, rfl, upd_same, e5.mono s _ _⟩
  | none => exact h.elim
  | bool b => exact h.elim
  | int i => exact h.elim
  | str x => exact h.elim
  | tuple xs => exact h.elim
end

/-! ### the state -/
/-- what is fixed through a call: the written part, the deck's names, the heap and the frozen part at the call, the functions' values -/
structure Ct where
  K : PySem.W.Frag
  n1 : Str
  n2 : Str
  n3 : Option Str
  sc : Option (Addr × List Int) × List (Addr × List Str)
  H0 : Hp
  F0 : Fz
  Φ : Fns
  fu : Nat
  xc : List (Addr × Option Str) := []
  slf : Option (Nat × Addr) := none
  xf : Option (Addr × Str × D) := none
def dkL (C : Ct) (l : Addr) (st : Dk) : List (Key × V) := (.inr C.n1, .ref l) :: (.inr C.n2, .int st.mixed) :: (C.n3.map fun n => ((.inr n, .int st.turn) : Key × V)).toList
def DkR (C : Ct) (F : Fz) (g : G) (H : Hp) : Prop := match g with
  | none => F.dk = none
  | some st => ∃ d l, F.dk = some (d, l) ∧ d ≠ l ∧ F.h d = none ∧ F.h l = none ∧ H l = some (.lst (st.cells.map V.int)) ∧
      H d = some (.dK (dkL C l st))
/-- a raised exception: its class, its own dict with what it bears -/
def XR (C : Ct) (F : Fz) (c : Nat) (vs : List D) (cls : Value) (d : Option Addr) : Prop := ∃ Ca fo, C.xc[c]? = some (Ca, fo) ∧ cls = .ref Ca ∧ match fo with
  | none => d = none ∧ vs = []
  | some f => ∃ dd v x, d = some dd ∧ vs = [v] ∧ F.h dd = some (.xd [(f, x)]) ∧ Rel C.K F v x
structure R (C : Ct) (Ow : List Nat) (T : Hp) (F : Fz) (σe : Sl) (g : G) (σ : L2.St) (H : Hp) : Prop where
  sub : Same F.h H
  sc : F.sc = C.sc
  grow : Fsub C.F0 F
  new : ∀ a o, F.h a = some o → C.F0.h a = none → C.H0 a = none
  keep : ∀ a o, C.H0 a = some o → F.isDk a ∨ H a = some o
  dnew : ∀ d l, F.dk = some (d, l) → C.F0.dk = some (d, l) ∨ (C.H0 d = none ∧ C.H0 l = none)
  len : σe.length = σ.length
  fz : ∀ i v, σe[i]? = some (some v) → i ∉ Ow → ∃ x, σ[i]? = some (some x) ∧ Rel C.K F v x
  ow : ∀ i v, σe[i]? = some (some v) → i ∈ Ow → ∃ a, σ[i]? = some (some (V.ref a)) ∧ OwnAt C.K F H v a ∧ C.H0 a = none ∧ F.h a = none ∧ ¬ F.isDk a
  inj : ∀ i j a, i ∈ Ow → j ∈ Ow → (∃ v, σe[i]? = some (some v)) → (∃ v, σe[j]? = some (some v)) → σ[i]? = some (some (V.ref a)) → σ[j]? = some (some (V.ref a)) → i = j
  dk : DkR C F g H
  hold : ∀ a o, T a = some o → H a = some o ∧ C.H0 a = none ∧ F.h a = none ∧ ¬ F.isDk a ∧ ∀ i v, i ∈ Ow → σe[i]? = some (some v) → σ[i]? ≠ some (some (V.ref a))
  slf : ∀ j a, C.slf = some (j, a) → j ∈ Ow → σ[j]? = some (some (V.ref a))
  xf : ∀ dd f v, C.xf = some (dd, f, v) → ∃ x, F.h dd = some (.xd [(f, x)]) ∧ Rel C.K F v x
section
variable {C : Ct} {Ow : List Nat} {T : Hp} {F F' : Fz} {σe : Sl} {g g' : G} {σ : L2.St} {H H' : Hp}
theorem R.xfm (r : R C Ow T F σe g σ H) (fs : Fsub F F') : ∀ dd f v, C.xf = some (dd, f, v) → ∃ x, F'.h dd = some (.xd [(f, x)]) ∧ Rel C.K F' v x := fun dd f v z => let ⟨x, e1, e2⟩ := r.xf dd f v z; ⟨x, fs.h _ _ e1, e2.mono fs _ _⟩
theorem DkR.there (h : DkR C F g H) {a : Addr} (q : F.isDk a) : ∃ o, H a = some o := by
  obtain ⟨d, l, e, q⟩ := q
  cases g with
  | none => have h : F.dk = none := h; rw [e] at h; cases h
  | some st =>
    obtain ⟨d', l', e', _, _, _, hl, hd⟩ := h
    rw [e] at e'; cases e'
    rcases q with rfl | rfl
    · exact ⟨_, hd⟩
    · exact ⟨_, hl⟩
theorem R.h0 (r : R C Ow T F σe g σ H) {a : Addr} (h : H a = none) : C.H0 a = none := by
  cases e : C.H0 a with
  | none => rfl
  | some o =>
    rcases r.keep a o e with q | q
    · obtain ⟨o', q⟩ := r.dk.there q
      rw [h] at q; cases q
    · rw [h] at q; cases q
theorem R.fn (r : R C Ow T F σe g σ H) {a : Addr} (h : H a = none) : F.h a = none := r.sub.free h
/-- the heap grows: what stands stays, but the deck; new things may be frozen -/
theorem R.step (r : R C Ow T F σe g σ H) (fs : Fsub F F') (sub : Same F'.h H') (nw : ∀ a o, F'.h a = some o → F.h a = none → H a = none)
    (kp : ∀ a o, H a = some o → F'.isDk a ∨ H' a = some o) (dn : ∀ d l, F'.dk = some (d, l) → F.dk = some (d, l) ∨ (H d = none ∧ H l = none)) (dk : DkR C F' g' H') : R C Ow T F' σe g' σ H' := by
  have nd : ∀ a o, H a = some o → ¬ F.isDk a → ¬ F'.isDk a := fun a o e n q => by
    obtain ⟨d, l, q1, q2⟩ := q
    rcases dn d l q1 with z | ⟨z1, z2⟩
    · exact n ⟨d, l, z, q2⟩
    · rcases q2 with rfl | rfl
      · rw [e] at z1; cases z1
      · rw [e] at z2; cases z2
  refine ⟨sub, fs.sc.trans r.sc, r.grow.trans fs, fun a o e n => ?_, fun a o e => ?_, fun d l e => ?_, r.len, fun i v e n => ?_, fun i v e n => ?_, r.inj, dk, fun a o e => ?_, r.slf, r.xfm fs⟩
  · cases q : F.h a with
    | some o' => exact r.new a o' q n
    | none => exact r.h0 (nw a o e q)
  · rcases r.keep a o e with q | q
    · exact .inl (fs.isDk q)
    · exact kp a o q
  · rcases dn d l e with q | ⟨q1, q2⟩
    · exact r.dnew d l q
    · exact .inr ⟨r.h0 q1, r.h0 q2⟩
  · obtain ⟨x, e1, e2⟩ := r.fz i v e n
    exact ⟨x, e1, e2.mono fs _ _⟩
  · obtain ⟨a, e1, e2, e3, e4, e5⟩ := r.ow i v e n
    obtain ⟨o, eo⟩ := e2.there
    have nn := nd a o eo e5
    refine ⟨a, e1, e2.move fs fun o' q => ?_, e3, ?_, nn⟩
    · rcases kp a o' q with z | z
      · exact (nn z).elim
      · exact z
    · cases q : F'.h a with
      | none => rfl
      | some o' =>
        have z := nw a o' q e4
        rw [eo] at z; cases z
  · obtain ⟨e1, e2, e3, e4, e5⟩ := r.hold a o e
    have nn := nd a o e1 e4
    refine ⟨(kp a o e1).resolve_left nn, e2, ?_, nn, e5⟩
    cases q : F'.h a with
    | none => rfl
    | some o' =>
      have z := nw a o' q e3
      rw [e1] at z; cases z
theorem R.tn (r : R C Ow T F σe g σ H) {a : Addr} (h : H a = none) : T a = none := by
  cases q : T a with
  | none => rfl
  | some o =>
    have z := (r.hold a o q).1
    rw [h] at z; cases z
theorem DkR.put {p : Addr} {o : HO} (h : DkR C F g H) (n : H p = none) : DkR C F g (upd H p o) := by
  cases g with
  | none => exact h
  | some st =>
    obtain ⟨d, l, e, ne, f1, f2, hl, hd⟩ := h
    exact ⟨d, l, e, ne, f1, f2, (upd_ne (ne_of_none hl n)).trans hl, (upd_ne (ne_of_none hd n)).trans hd⟩
theorem DkR.putF {p : Addr} {o : HO} (h : DkR C F g H) (n : ¬ F.isDk p) : DkR C (F.put p o) g H := by
  cases g with
  | none => exact h
  | some st =>
    obtain ⟨d, l, e, ne, f1, f2, hl, hd⟩ := h
    have n1 : d ≠ p := fun z => n ⟨d, l, e, .inl z.symm⟩
    have n2 : l ≠ p := fun z => n ⟨d, l, e, .inr z.symm⟩
    exact ⟨d, l, e, ne, (upd_ne n1).trans f1, (upd_ne n2).trans f2, hl, hd⟩
theorem R.ndk (r : R C Ow T F σe g σ H) {p : Addr} (n : H p = none) : ¬ F.isDk p := fun q => by
  obtain ⟨o, q⟩ := r.dk.there q
  rw [n] at q; cases q
/-- a new thing, not frozen -/
theorem R.grown {p : Addr} {o : HO} (r : R C Ow T F σe g σ H) (n : H p = none) : R C Ow T F σe g σ (upd H p o) :=
  r.step (.refl F) (r.sub.trans (same_upd n)) (fun a o e q => by rw [q] at e; cases e) (fun a o e => .inr ((same_upd n) a o e)) (fun d l e => .inl e) (r.dk.put n)
/-- a new thing, frozen -/
theorem R.laid {p : Addr} {o : HO} (r : R C Ow T F σe g σ H) (n : H p = none) : R C Ow T (F.put p o) σe g σ (upd H p o) := by
  refine r.step (Fsub.put (r.fn n)) (fun a u e => ?_) (fun a u e q => ?_) (fun a u e => .inr ((same_upd n) a u e)) (fun d l e => .inl e) ((r.dk.putF (r.ndk n)).put n)
  · by_cases h : a = p
    · subst h
      have e : (upd F.h a o) a = some u := e
      rw [upd_same] at e ⊢; exact e
    · have e : (upd F.h p o) a = some u := e
      rw [upd_ne h] at e ⊢
      exact r.sub _ _ e
  · by_cases h : a = p
    · rw [h]; exact n
    · have e : (upd F.h p o) a = some u := e
      rw [upd_ne h, q] at e; cases e
/-- a thing that no name holds is frozen -/
theorem R.freeze {p : Addr} {o : HO} (r : R C Ow T F σe g σ H) (e : H p = some o) (n0 : C.H0 p = none) (nf : F.h p = none) (nd : ¬ F.isDk p)
    (no : ∀ i v, i ∈ Ow → σe[i]? = some (some v) → σ[i]? ≠ some (some (V.ref p))) (nt : T p = none) : R C Ow T (F.put p o) σe g σ H := by
  have fs : Fsub F (F.put p o) := Fsub.put nf
  refine ⟨fun a u q => ?_, fs.sc.trans r.sc, r.grow.trans fs, fun a u q n => ?_, r.keep, r.dnew, r.len, fun i v q n => ?_, fun i v q n => ?_, r.inj, r.dk.putF nd, fun a u q => ?_, r.slf, r.xfm fs⟩
  · by_cases h : a = p
    · subst h
      have q : (upd F.h a o) a = some u := q
      rw [upd_same] at q; cases q; exact e
    · have q : (upd F.h p o) a = some u := q
      rw [upd_ne h] at q
      exact r.sub _ _ q
  · by_cases h : a = p
    · rw [h]; exact n0
    · have q : (upd F.h p o) a = some u := q
      rw [upd_ne h] at q
      exact r.new a u q n
  · obtain ⟨x, e1, e2⟩ := r.fz i v q n
    exact ⟨x, e1, e2.mono fs _ _⟩
  · obtain ⟨a, e1, e2, e3, e4, e5⟩ := r.ow i v q n
    have ne : a ≠ p := fun z => no i v n q (z ▸ e1)
    exact ⟨a, e1, e2.move fs fun _ z => z, e3, (upd_ne ne).trans e4, e5⟩
  · obtain ⟨e1, e2, e3, e4, e5⟩ := r.hold a u q
    have ne : a ≠ p := fun z => by rw [z, nt] at q; cases q
    exact ⟨e1, e2, (upd_ne ne).trans e3, e4, e5⟩
/-- a name is no longer held alone -/
theorem R.drop {i : Nat} (r : R C (i :: Ow) T F σe g σ H) (h : i ∉ Ow) : ∃ F', Fsub F F' ∧ R C Ow T F' σe g σ H := by
  cases q : σe[i]? with
  | none =>
    refine ⟨F, .refl F, r.sub, r.sc, r.grow, r.new, r.keep, r.dnew, r.len, fun j v e n => ?_, fun j v e n => r.ow j v e (List.mem_cons_of_mem _ n), fun j k a hj hk => r.inj j k a (List.mem_cons_of_mem _ hj) (List.mem_cons_of_mem _ hk), r.dk, fun a o e => let ⟨e1, e2, e3, e4, e5⟩ := r.hold a o e; ⟨e1, e2, e3, e4, fun j v hj => e5 j v (List.mem_cons_of_mem _ hj)⟩, fun i a e z => r.slf i a e (List.mem_cons_of_mem _ z), r.xf⟩
    refine r.fz j v e fun m => ?_
    rcases List.mem_cons.mp m with rfl | m
    · rw [q] at e; cases e
    · exact n m
  | some ov =>
    cases ov with
    | none =>
      refine ⟨F, .refl F, r.sub, r.sc, r.grow, r.new, r.keep, r.dnew, r.len, fun j v e n => ?_, fun j v e n => r.ow j v e (List.mem_cons_of_mem _ n), fun j k a hj hk => r.inj j k a (List.mem_cons_of_mem _ hj) (List.mem_cons_of_mem _ hk), r.dk, fun a o e => let ⟨e1, e2, e3, e4, e5⟩ := r.hold a o e; ⟨e1, e2, e3, e4, fun j v hj => e5 j v (List.mem_cons_of_mem _ hj)⟩, fun i a e z => r.slf i a e (List.mem_cons_of_mem _ z), r.xf⟩
      refine r.fz j v e fun m => ?_
      rcases List.mem_cons.mp m with rfl | m
      · rw [q] at e; cases e
      · exact n m
    | some v0 =>
      obtain ⟨p, e1, e2, e3, e4, e5⟩ := r.ow i v0 q List.mem_cons_self
      obtain ⟨o, eo⟩ := e2.there
      have r1 : R C Ow T F (σe.set i none) g σ H := by
        refine ⟨r.sub, r.sc, r.grow, r.new, r.keep, r.dnew, by rw [List.length_set]; exact r.len, fun j v e n => ?_, fun j v e n => ?_, fun j k a hj hk h1 h2 => ?_, r.dk, fun a o e => ?_, fun i a e z => r.slf i a e (List.mem_cons_of_mem _ z), r.xf⟩
        · by_cases hj : j = i
          · subst hj
            rw [List.getElem?_set] at e
            simp at e
          · rw [List.getElem?_set_ne (Ne.symm hj)] at e
            refine r.fz j v e fun m => ?_
            rcases List.mem_cons.mp m with z | m
            · exact hj z
            · exact n m
        · have hj : j ≠ i := fun z => h (z ▸ n)
          rw [List.getElem?_set_ne (Ne.symm hj)] at e
          exact r.ow j v e (List.mem_cons_of_mem _ n)
        · have hj' : j ≠ i := fun z => h (z ▸ hj)
          have hk' : k ≠ i := fun z => h (z ▸ hk)
          rw [List.getElem?_set_ne (Ne.symm hj')] at h1
          rw [List.getElem?_set_ne (Ne.symm hk')] at h2
          exact r.inj j k a (List.mem_cons_of_mem _ hj) (List.mem_cons_of_mem _ hk) h1 h2
        · obtain ⟨e1, e2, e3, e4, e5⟩ := r.hold a o e
          refine ⟨e1, e2, e3, e4, fun j v hj e => ?_⟩
          have hj' : j ≠ i := fun z => h (z ▸ hj)
          rw [List.getElem?_set_ne (Ne.symm hj')] at e
          exact e5 j v (List.mem_cons_of_mem _ hj) e
      have r2 := r1.freeze (o := o) eo e3 e4 e5 (fun j v hj e z => by
        have hj' : j ≠ i := fun z => h (z ▸ hj)
        rw [List.getElem?_set_ne (Ne.symm hj')] at e
        exact hj' (r.inj j i p (List.mem_cons_of_mem _ hj) List.mem_cons_self ⟨v, e⟩ ⟨v0, q⟩ z e1)) (by
        cases qt : T p with
        | none => rfl
        | some o' => exact ((r.hold p o' qt).2.2.2.2 i v0 List.mem_cons_self q e1).elim)
      refine ⟨F.put p o, Fsub.put e4, r2.sub, r2.sc, r2.grow, r2.new, r2.keep, r2.dnew, r.len, fun j v e n => ?_, fun j v e n => ?_, fun j k a hj hk => r.inj j k a (List.mem_cons_of_mem _ hj) (List.mem_cons_of_mem _ hk), r2.dk, fun a o e => let ⟨e1, e2, e3, e4, e5⟩ := r2.hold a o e; ⟨e1, e2, e3, e4, fun j v hj => (r.hold a o e).2.2.2.2 j v (List.mem_cons_of_mem _ hj)⟩, fun i a e z => r.slf i a e (List.mem_cons_of_mem _ z), r2.xf⟩
      · by_cases hj : j = i
        · subst hj
          rw [q] at e; cases e
          exact ⟨_, e1, e2.frozen e4 eo⟩
        · refine r2.fz j v ?_ n
          rw [List.getElem?_set_ne (Ne.symm hj)]; exact e
      · have hj : j ≠ i := fun z => h (z ▸ n)
        refine r2.ow j v ?_ n
        rw [List.getElem?_set_ne (Ne.symm hj)]; exact e
end
end Pv
end

section
/-! PvC: the judgements, the operators. -/
set_option autoImplicit false
namespace Pv
open PySem PySem.Spec PyProof.Rows L2

theorem lineN_le {n : Nat} (h : n ≤ lineN) : n ≤ sizeLine := by rw [sizeLine_eq]; exact h
theorem lineN_lt {n : Nat} (h : n < lineN) : n < sizeLine := by rw [sizeLine_eq]; exact h

theorem pe_con {X : Cx} {e : Expr} {t t' : TE} (h : PE X e t) (c : ∀ σ H Q, t' σ H Q → t σ H Q) : PE X e t' := ⟨fun pins s σ H Q I hw => h.run pins s σ H Q I (c σ H Q hw)⟩
theorem pt_con {X : Cx} {e : Expr} {t t' : TT} (h : PT X e t) (c : ∀ σ H Q, t' σ H Q → t σ H Q) : PT X e t' := ⟨fun pins s σ H Q I hw => h.run pins s σ H Q I (c σ H Q hw)⟩
theorem pw_con {X : Cx} {e : Expr} {t t' : TT} (h : PW X e t) (c : ∀ σ H Q, t' σ H Q → t σ H Q) : PW X e t' := ⟨fun wh pins s σ H Q I hw => h.run wh pins s σ H Q I (c σ H Q hw)⟩
theorem pa_con {X : Cx} {es : List Expr} {t t' : TA} (h : PA X es t) (c : ∀ σ H Q, t' σ H Q → t σ H Q) : PA X es t' := ⟨fun pos pins s σ H Q I hw => h.run pos pins s σ H Q I (c σ H Q hw)⟩
theorem ps_con {X : Cx} {st : Stmt} {t t' : TS} (h : PS X st t) (c : ∀ D σ H, t' D σ H → t D σ H) : PS X st t' := ⟨fun pins s σ H D I hw => h.run pins s σ H D I (c D σ H hw)⟩
theorem pss_con {X : Cx} {st : List Stmt} {t t' : TS} (h : PSs X st t) (c : ∀ D σ H, t' D σ H → t D σ H) : PSs X st t' := ⟨fun pins s σ H D I hw => h.run pins s σ H D I (c D σ H hw)⟩

abbrev Mv := Sl → G → Res D
/-- the value is frozen -/
def tS (C : Ct) (Ow : List Nat) (m : Mv) : TE := fun σ H Q => ∃ T F σe g v g', R C Ow T F σe g σ H ∧ m σe g = .ok v g' ∧ ∀ F' H' x, Fsub F F' → R C Ow T F' σe g' σ H' → Rel C.K F' v x → Q x H'
/-- .. or what a name holds alone -/
def Bm (C : Ct) (Ow : List Nat) (F : Fz) (σe : Sl) (σ : L2.St) (v : D) (x : V) : Prop := Rel C.K F v x ∨ ∃ i, i ∈ Ow ∧ σe[i]? = some (some v) ∧ σ[i]? = some (some x)
def tB (C : Ct) (Ow : List Nat) (m : Mv) : TE := fun σ H Q => ∃ T F σe g v g', R C Ow T F σe g σ H ∧ m σe g = .ok v g' ∧ ∀ F' H' x, Fsub F F' → R C Ow T F' σe g' σ H' → Bm C Ow F' σe σ v x → Q x H'
/-- a new thing that nobody holds -/
structure New (C : Ct) (Ow : List Nat) (T : Hp) (F : Fz) (σe : Sl) (σ : L2.St) (H : Hp) (v : D) (a : Addr) : Prop where
  at_ : OwnAt C.K F H v a
  h0 : C.H0 a = none
  fn : F.h a = none
  nd : ¬ F.isDk a
  no : ∀ i v, i ∈ Ow → σe[i]? = some (some v) → σ[i]? ≠ some (some (V.ref a))
  nt : T a = none
def tF (C : Ct) (Ow : List Nat) (m : Mv) : TE := fun σ H Q => ∃ T F σe g v g', R C Ow T F σe g σ H ∧ m σe g = .ok v g' ∧ ∀ F' H' a, Fsub F F' → R C Ow T F' σe g' σ H' → New C Ow T F' σe σ H' v a → Q (.ref a) H'
def tT (C : Ct) (Ow : List Nat) (m : Mv) : TT := fun σ H Q => ∃ T F σe g b g', R C Ow T F σe g σ H ∧ m σe g = .ok (.bool b) g' ∧ ∀ F' H', Fsub F F' → R C Ow T F' σe g' σ H' → Q b H'
def tA (C : Ct) (Ow : List Nat) (m : Sl → G → Res (List D)) : TA := fun σ H Q => ∃ T F σe g vs g', R C Ow T F σe g σ H ∧ m σe g = .ok vs g' ∧ ∀ F' H' xs, Fsub F F' → R C Ow T F' σe g' σ H' → RelL C.K F' vs xs → Q xs H'

structure Es (X : Cx) (C : Ct) (Ow : List Nat) (e : Expr) (i : Ex) : Prop where
  run : PE X e (tS C Ow (ev C.Φ i))
structure Eb (X : Cx) (C : Ct) (Ow : List Nat) (e : Expr) (i : Ex) : Prop where
  run : PE X e (tB C Ow (ev C.Φ i))
structure Ef (X : Cx) (C : Ct) (Ow : List Nat) (e : Expr) (i : Ex) : Prop where
  run : PE X e (tF C Ow (ev C.Φ i))
structure Et (X : Cx) (C : Ct) (Ow : List Nat) (e : Expr) (i : Ex) : Prop where
  run : PT X e (tT C Ow (ev C.Φ i))
structure Ew (X : Cx) (C : Ct) (Ow : List Nat) (e : Expr) (i : Ex) : Prop where
  run : PW X e (tT C Ow (ev C.Φ i))
structure Ea (X : Cx) (C : Ct) (Ow : List Nat) (es : List Expr) (is : Exs) : Prop where
  run : PA X es (tA C Ow (evs C.Φ is))

section
variable {X : Cx} {C : Ct} {Ow : List Nat} {T : Hp} {F F' : Fz} {σe : Sl} {g g' : G} {σ : L2.St} {H H' : Hp} {v : D} {x : V}
theorem Bm.mono (h : Bm C Ow F σe σ v x) (s : Fsub F F') : Bm C Ow F' σe σ v x := by
  rcases h with h | h
  · exact .inl (h.mono s _ _)
  · exact .inr h
theorem R.sh (r : R C Ow T F σe g σ H) (h : Bm C Ow F σe σ v x) : Sh C.K F H v x := by
  rcases h with h | ⟨i, hi, e1, e2⟩
  · exact h.sh r.sub
  · obtain ⟨a, q, o, _⟩ := r.ow i v e1 hi
    rw [q] at e2
    have e2 : V.ref a = x := Option.some.inj (Option.some.inj e2)
    rw [← e2]
    exact o.sh
theorem R.frozen {a : Addr} (r : R C Ow T F σe g σ H) (n : New C Ow T F σe σ H v a) : ∃ F', Fsub F F' ∧ R C Ow T F' σe g σ H ∧ Rel C.K F' v (.ref a) := by
  obtain ⟨o, eo⟩ := n.at_.there
  exact ⟨F.put a o, Fsub.put n.fn, r.freeze eo n.h0 n.fn n.nd n.no n.nt, n.at_.frozen n.fn eo⟩
variable {e : Expr} {i : Ex}
theorem Es.b (h : Es X C Ow e i) : Eb X C Ow e i := ⟨pe_con h.run fun σ H Q ⟨T, F, σe, g, v, g', r, m, q⟩ => ⟨T, F, σe, g, v, g', r, m, fun F' H' x s r' h => q F' H' x s r' (.inl h)⟩⟩
theorem Ef.s (h : Ef X C Ow e i) : Es X C Ow e i := ⟨pe_con h.run fun σ H Q ⟨T, F, σe, g, v, g', r, m, q⟩ => ⟨T, F, σe, g, v, g', r, m, fun F' H' a s r' n => by
  obtain ⟨F2, s2, r2, q2⟩ := r'.frozen n
  exact q F2 H' (.ref a) (s.trans s2) r2 q2⟩⟩
theorem Ef.b (h : Ef X C Ow e i) : Eb X C Ow e i := h.s.b
theorem Ew.t (h : Ew X C Ow e i) : Et X C Ow e i := ⟨h.run.pt⟩

/-! ### results of operators -/
/-- what may come: a value as it stands, or a new thing that is frozen at once -/
def Out (K : PySem.W.Frag) (F : Fz) (H : Hp) (d : D) (Q : V → Hp → Prop) : Prop :=
  (∀ x, Rel K F d x → Q x H) ∧ (∀ p o, H p = none → Rel K (F.put p o) d (.ref p) → Q (.ref p) (upd H p o))
theorem R.out {Q : V → Hp → Prop} (r : R C Ow T F σe g σ H) (h : ∀ F' H' x, Fsub F F' → R C Ow T F' σe g σ H' → Rel C.K F' v x → Q x H') : Out C.K F H v Q :=
  ⟨fun x q => h F H x (.refl F) r q, fun p o n q => h (F.put p o) (upd H p o) (.ref p) (Fsub.put (r.fn n)) (r.laid n) q⟩
theorem rel_int {K : PySem.W.Frag} {i : Int} : Rel K F (.int i) (.int i) := by unfold Rel; rfl
theorem rel_bl {K : PySem.W.Frag} {i : Bool} : Rel K F (.bool i) (.bl i) := by unfold Rel; rfl
theorem rel_str {K : PySem.W.Frag} {i : Str} : Rel K F (.str i) (.str i) := by unfold Rel; rfl
theorem rel_non {K : PySem.W.Frag} : Rel K F .none .non := by unfold Rel; rfl
theorem rel_lst {K : PySem.W.Frag} {xs : List D} {vs : List V} {p : Addr} (n : F.h p = none) (r : RelL K F xs vs) : Rel K (F.put p (.lst vs)) (.list xs) (.ref p) := by
  unfold Rel; exact ⟨p, vs, rfl, upd_same, r.mono (Fsub.put n) _ _⟩
theorem rel_tup {K : PySem.W.Frag} {xs : List D} {vs : List V} {p : Addr} (n : F.h p = none) (r : RelL K F xs vs) : Rel K (F.put p (.tup vs)) (.tuple xs) (.ref p) := by
  unfold Rel; exact ⟨p, vs, rfl, upd_same, r.mono (Fsub.put n) _ _⟩

def bop : Bop → Operator
  | .add => .Add | .sub => .Sub | .mul => .Mult | .fdiv => .FloorDiv | .mod => .Mod | .pow => .Pow | .shl => .LShift | .shr => .RShift | .band => .BitAnd | .bor => .BitOr | .bxor => .BitXor | .lcat => .Add | .lrep => .Mult
def cop : Cop → CmpOp
  | .eq => .Eq | .ne => .NotEq | .lt => .Lt | .le => .LtE | .gt => .Gt | .ge => .GtE | .isin => .In | .notin => .NotIn | .isN => .Is | .notN => .IsNot

/-- // by a divisor below 0 -/
def CDivNW (_ j : Int) : Prop := j < 0 ∧ j.natAbs.log2 < 9000
theorem op_fdivNW : OpR X (binaryOp .FloorDiv) (rI CDivNW fun i j => .int (i.fdiv j)) := opI fun i j _ _ _ _ _ hc q => by
  have h1 : j < 0 := hc.1
  exact floordiv_int (by omega) q (.inl (PyProof.noPylong_of_log2 hc.2))
def rB (K : PySem.W.Frag) (o : Bop) : R2 := fun x y H Q => ∃ F va vb v, Same F.h H ∧ Sh K F H va x ∧ Sh K F H vb y ∧ binV o va vb = some v ∧ Out K F H v Q
theorem op_bin (o : Bop) : OpR X (binaryOp (bop o)) (rB X.K o) := by
  intro pins s σ H x y u w Q I rx ry h
  obtain ⟨F, va, vb, v, sub, ha, hb, hv, q⟩ := h
  unfold binV at hv
  split at hv
  · cases hv; cases ha; cases hb
    exact op_add pins s σ H _ _ u w Q I rx ry ⟨_, _, rfl, rfl, q.1 _ rel_int⟩
  · cases hv; cases ha; cases hb
    exact op_sub pins s σ H _ _ u w Q I rx ry ⟨_, _, rfl, rfl, q.1 _ rel_int⟩
  · rename_i i j
    cases ha; cases hb
    split at hv
    · rename_i hc
      cases hv
      have q := q.1 _ rel_int
      unfold mulOk at hc
      simp only [Bool.or_eq_true, decide_eq_true_eq] at hc
      rcases hc with (hc | hc) | hc
      · exact op_mul pins s σ H _ _ u w Q I rx ry ⟨_, _, rfl, rfl, .inl ⟨by omega, by omega⟩, q⟩
      · exact op_mul pins s σ H _ _ u w Q I rx ry ⟨_, _, rfl, rfl, .inr ⟨by omega, by omega⟩, q⟩
      · exact op_mulW pins s σ H _ _ u w Q I rx ry ⟨_, _, rfl, rfl, hc, q⟩
    · cases hv
  · cases ha; cases hb
    split at hv
    · rename_i hc
      cases hv
      simp only [Bool.and_eq_true, decide_eq_true_eq] at hc
      exact op_fdivW pins s σ H _ _ u w Q I rx ry ⟨_, _, rfl, rfl, hc, q.1 _ rel_int⟩
    · split at hv
      · rename_i hc
        cases hv
        simp only [Bool.and_eq_true, decide_eq_true_eq] at hc
        exact op_fdivNW pins s σ H _ _ u w Q I rx ry ⟨_, _, rfl, rfl, hc, q.1 _ rel_int⟩
      · cases hv
  · cases ha; cases hb
    split at hv
    · rename_i hc
      cases hv
      simp only [decide_eq_true_eq] at hc
      exact op_mod pins s σ H _ _ u w Q I rx ry ⟨_, _, rfl, rfl, hc, q.1 _ rel_int⟩
    · cases hv
  · cases ha; cases hb
    split at hv
    · rename_i hc
      cases hv
      unfold powOk at hc
      simp only [Bool.and_eq_true, decide_eq_true_eq] at hc
      exact op_pow pins s σ H _ _ u w Q I rx ry ⟨_, _, rfl, rfl, ⟨hc.1.1, hc.1.2, hc.2⟩, q.1 _ rel_int⟩
    · cases hv
  · cases ha; cases hb
    split at hv
    · rename_i hc
      cases hv
      unfold powOk at hc
      simp only [Bool.and_eq_true, decide_eq_true_eq] at hc
      exact op_shl pins s σ H _ _ u w Q I rx ry ⟨_, _, rfl, rfl, ⟨hc.1.1, hc.1.2, hc.2⟩, q.1 _ rel_int⟩
    · cases hv
  · cases ha; cases hb
    split at hv
    · rename_i hc
      cases hv
      simp only [decide_eq_true_eq] at hc
      exact op_shr pins s σ H _ _ u w Q I rx ry ⟨_, _, rfl, rfl, hc, q.1 _ rel_int⟩
    · cases hv
  · cases hv; cases ha; cases hb
    exact op_and pins s σ H _ _ u w Q I rx ry ⟨_, _, rfl, rfl, q.1 _ rel_int⟩
  · cases hv; cases ha; cases hb
    exact op_or pins s σ H _ _ u w Q I rx ry ⟨_, _, rfl, rfl, q.1 _ rel_int⟩
  · cases hv; cases ha; cases hb
    exact op_xor pins s σ H _ _ u w Q I rx ry ⟨_, _, rfl, rfl, q.1 _ rel_int⟩
  · cases ha; cases hb
    split at hv
    · rename_i hc
      cases hv
      simp only [decide_eq_true_eq] at hc
      exact op_add_str pins s σ H _ _ u w Q I rx ry ⟨_, _, rfl, rfl, lineN_le hc, q.1 _ rel_str⟩
    · cases hv
  · obtain ⟨a, vs, rfl, h1, r1⟩ := ha
    obtain ⟨b, us, rfl, h2, r2⟩ := hb
    split at hv
    · rename_i hc
      cases hv
      simp only [decide_eq_true_eq] at hc
      rw [r1.length, r2.length] at hc
      exact op_cat pins s σ H _ _ u w Q I rx ry ⟨_, _, _, _, rfl, rfl, h1, h2, lineN_le hc, fun p n => q.2 p _ n (rel_lst (sub.free n) (r1.append r2))⟩
    · cases hv
  · obtain ⟨a, vs, rfl, h1, r1⟩ := ha
    obtain ⟨b, us, rfl, h2, r2⟩ := hb
    split at hv
    · rename_i xs ys hc
      cases hv
      simp only [decide_eq_true_eq] at hc
      rw [r1.length, r2.length] at hc
      refine op_catA pins s σ H _ _ u w Q I rx ry ⟨_, _, _, _, rfl, rfl, sqT_mono sub h1, sqT_mono sub h2, lineN_le hc, fun e => ?_, fun e1 e2 => ?_, fun e1 e2 p n => q.2 p _ n (rel_tup (sub.free n) (r1.append r2))⟩
      · subst e
        have e : xs = [] := List.eq_nil_of_length_eq_zero r1.length
        subst e
        exact q.1 _ (by unfold Rel; exact ⟨_, _, rfl, h2, r2⟩)
      · subst e2
        have e : ys = [] := List.eq_nil_of_length_eq_zero r2.length
        subst e
        exact q.1 _ (by unfold Rel; exact ⟨_, _, rfl, h1, by rw [List.append_nil]; exact r1⟩)
    · cases hv
  · obtain ⟨a, vs, rfl, h1, r1⟩ := ha
    cases hb
    split at hv
    · rename_i xs k hc
      cases hv
      simp only [Bool.and_eq_true, decide_eq_true_eq] at hc
      rw [r1.length] at hc
      exact op_rep pins s σ H _ _ u w Q I rx ry ⟨_, _, _, rfl, rfl, h1, by omega, by omega, lineN_le hc.2, fun p n => q.2 p _ n (rel_lst (sub.free n) (r1.rep _))⟩
    · cases hv
  · obtain ⟨a, vs, rfl, h1, r1⟩ := ha
    obtain ⟨b, us, rfl, h2, r2⟩ := hb
    split at hv
    · rename_i hc
      cases hv
      simp only [decide_eq_true_eq] at hc
      rw [r1.length, r2.length] at hc
      exact op_cat pins s σ H _ _ u w Q I rx ry ⟨_, _, _, _, rfl, rfl, h1, h2, lineN_le hc, fun p n => q.2 p _ n (rel_lst (sub.free n) (r1.append r2))⟩
    · cases hv
  · obtain ⟨a, vs, rfl, h1, r1⟩ := ha
    cases hb
    split at hv
    · rename_i xs k hc
      cases hv
      simp only [Bool.and_eq_true, decide_eq_true_eq] at hc
      rw [r1.length] at hc
      exact op_rep pins s σ H _ _ u w Q I rx ry ⟨_, _, _, rfl, rfl, h1, by omega, by omega, lineN_le hc.2, fun p n => q.2 p _ n (rel_lst (sub.free n) (r1.rep _))⟩
    · cases hv
  · cases hv

/-! ### comparisons -/
theorem op_inT (hu : X.A.units + 65 < cLine) : OpR X (compareOp .In) (fun x y H Q => ∃ d ds, Dp X.K H x d ∧ Dp X.K H y (.tuple ds) ∧ SeqAt.shaped d = true ∧ SeqAt.shaped (.tuple ds) = true ∧ Q (.bl (ds.any fun z => PyData.eqv z d)) H) := by
  intro pins s σ H x y v u Q I rx ry h
  obtain ⟨d, ds, hd, he, sd, se, q⟩ := h
  obtain ⟨as, r1⟩ := Dp.reads I d x v hd rx
  obtain ⟨bs, r2⟩ := Dp.reads I (.tuple ds) y u he ry
  exact SeqAt.in_tuple_reads r2 r1 (SeqAt.canLay_of_shaped se) (SeqAt.canLay_of_shaped sd) (room_in_shaped sd hu) ⟨.bl _, H, I, rfl, q⟩
theorem op_notInT (hu : X.A.units + 65 < cLine) : OpR X (compareOp .NotIn) (fun x y H Q => ∃ d ds, Dp X.K H x d ∧ Dp X.K H y (.tuple ds) ∧ SeqAt.shaped d = true ∧ SeqAt.shaped (.tuple ds) = true ∧ Q (.bl (!ds.any fun z => PyData.eqv z d)) H) := by
  intro pins s σ H x y v u Q I rx ry h
  obtain ⟨d, ds, hd, he, sd, se, q⟩ := h
  obtain ⟨as, r1⟩ := Dp.reads I d x v hd rx
  obtain ⟨bs, r2⟩ := Dp.reads I (.tuple ds) y u he ry
  exact SeqAt.notIn_tuple_reads r2 r1 (SeqAt.canLay_of_shaped se) (SeqAt.canLay_of_shaped sd) (room_in_shaped sd hu) ⟨.bl _, H, I, rfl, q⟩
theorem dp_sh {K : PySem.W.Frag} (s : Same F.h H) {d : D} {x : V} (c : d.canLay0 = true) (h : Sh K F H d x) : Dp K H x d := by
  cases d with
  | none => cases h; exact .non
  | bool b => cases h; exact .bl b
  | int i => cases h; exact .int i
  | str y => cases h; exact .str y
  | list xs =>
    obtain ⟨a, vs, rfl, q, r⟩ := h
    unfold PyData.canLay0 at c
    exact .lst (SqL.of q) (dpAll_of s xs vs c r)
  | tuple xs =>
    obtain ⟨a, vs, rfl, q, r⟩ := h
    unfold PyData.canLay0 at c
    exact .tup (sqT_mono s q) (dpAll_of s xs vs c r)
  | dict kvs => unfold PyData.canLay0 at c; cases c
theorem lay_of_shp {d : D} (h : shp d = true) : d.canLay0 = true := by
  unfold shp SeqAt.shaped at h
  simp only [Bool.and_eq_true] at h
  exact h.1
theorem sh_non {K : PySem.W.Frag} {d : D} {x : V} (h : Sh K F H d x) : decide (x = V.non) = (match d with | .none => true | _ => false) := by
  cases d with
  | none => cases h; rfl
  | bool b => cases h; rfl
  | int i => cases h; rfl
  | str y => cases h; rfl
  | list xs => obtain ⟨a, vs, rfl, q, r⟩ := h; rfl
  | tuple xs => obtain ⟨a, vs, rfl, q, r⟩ := h; rfl
  | dict kvs =>
    rcases h with ⟨_, a, rfl, _⟩ | ⟨_, a, kk, rfl, _⟩
    · rfl
    · rfl
def rC (K : PySem.W.Frag) (o : Cop) : R2 := fun x y H Q => ∃ F va vb b, Same F.h H ∧ Sh K F H va x ∧ Sh K F H vb y ∧ cmpV o va vb = some b ∧ Q (.bl b) H
theorem dI {i j : Int} : decide (V.int i = V.int j) = decide (i = j) := by
  by_cases h : i = j
  · subst h; simp
  · rw [decide_eq_false h, decide_eq_false fun z => h (V.int.inj z)]
theorem dS {i j : Str} : decide (V.str i = V.str j) = decide (i = j) := by
  by_cases h : i = j
  · subst h; simp
  · rw [decide_eq_false h, decide_eq_false fun z => h (V.str.inj z)]
theorem lensV_some {va vb : D} {b : Bool} (h : lensV va vb = some b) : b = false ∧ ∃ xs ys, va = .list xs ∧ vb = .list ys ∧ xs.length ≠ ys.length := by
  unfold lensV at h
  split at h
  · split at h
    · cases h
    · rename_i z
      cases h
      exact ⟨rfl, _, _, rfl, rfl, by simpa using z⟩
  · cases h
theorem lists_lens {va vb : List D} {x y : V} {u w : Value} {pins : List (Addr × Obj)} {s : Shared} (I : Inv X pins σ H s) (rx : RelV x u) (ry : RelV y w)
    (ha : Sh X.K F H (.list va) x) (hb : Sh X.K F H (.list vb) y) (hl : va.length ≠ vb.length) : ∃ l b items items2, u = .ref l ∧ w = .ref b ∧ s.heap.IsList l items ∧ s.heap.IsList b items2 ∧ (items.size != items2.size) = true := by
  obtain ⟨p, vs, rfl, e1, r1⟩ := ha
  obtain ⟨p2, vs2, rfl, e2, r2⟩ := hb
  cases rx
  cases ry
  obtain ⟨its, v1, pl1, _⟩ := I.list (SqL.of e1)
  obtain ⟨its2, v2, pl2, _⟩ := I.list (SqL.of e2)
  refine ⟨p, p2, _, _, rfl, rfl, pl1.isList, pl2.isList, ?_⟩
  have k1 := v1.length; have k2 := v2.length; have k3 := r1.length; have k4 := r2.length
  simp only [List.size_toArray, bne_iff_ne]
  omega
theorem op_eqV {b : Bool} {va vb : D} {x y : V} {u w : Value} {Q : VK} {pins : List (Addr × Obj)} {s : Shared} (hu : X.A.units + 64 < cLine) (I : Inv X pins σ H s) (rx : RelV x u) (ry : RelV y w)
    (sub : Same F.h H) (ha : Sh X.K F H va x) (hb : Sh X.K F H vb y) (hv : eqD va vb = some b) (q : Q (.bl b) H) : wpAny (model X.prog X.w) X.A (compareOp .Eq u w) (EP X pins σ Q) X.xe s := by
  unfold eqD at hv
  split at hv
  · cases ha; cases hb; cases hv
    refine op_eq pins s σ H _ _ u w Q I rx ry ⟨rfl, ?_⟩
    rw [dI]; exact q
  · cases ha; cases hb; cases hv
    refine op_eq pins s σ H _ _ u w Q I rx ry ⟨rfl, ?_⟩
    rw [dec_bl]; exact q
  · cases ha; cases hb; cases hv
    refine op_eq pins s σ H _ _ u w Q I rx ry ⟨rfl, ?_⟩
    rw [dS]; exact q
  · cases ha; cases hb; cases hv
    exact op_eq pins s σ H _ _ u w Q I rx ry ⟨rfl, q⟩
  · split at hv
    · rename_i hc
      cases hv
      simp only [Bool.and_eq_true] at hc
      exact op_eqD hu pins s σ H _ _ u w Q I rx ry ⟨_, _, dp_sh sub (lay_of_shp hc.1) ha, dp_sh sub (lay_of_shp hc.2) hb, hc.1, hc.2, q⟩
    · obtain ⟨rfl, xs, ys, rfl, rfl, hl⟩ := lensV_some hv
      obtain ⟨l, b, i1, i2, rfl, rfl, l1, l2, hn⟩ := lists_lens I rx ry ha hb hl
      exact SeqAt.RcAt.lists_lengths l1 l2 hn (by omega) _ _ _ _ ⟨.bl false, H, I, rfl, q⟩
theorem op_neV {b : Bool} {va vb : D} {x y : V} {u w : Value} {Q : VK} {pins : List (Addr × Obj)} {s : Shared} (hu : X.A.units + 64 < cLine) (I : Inv X pins σ H s) (rx : RelV x u) (ry : RelV y w)
    (sub : Same F.h H) (ha : Sh X.K F H va x) (hb : Sh X.K F H vb y) (hv : eqD va vb = some b) (q : Q (.bl (!b)) H) : wpAny (model X.prog X.w) X.A (compareOp .NotEq u w) (EP X pins σ Q) X.xe s := by
  unfold eqD at hv
  split at hv
  · cases ha; cases hb; cases hv
    refine op_ne pins s σ H _ _ u w Q I rx ry ⟨rfl, ?_⟩
    rw [dI]; exact q
  · cases ha; cases hb; cases hv
    refine op_ne pins s σ H _ _ u w Q I rx ry ⟨rfl, ?_⟩
    rw [dec_bl]; exact q
  · cases ha; cases hb; cases hv
    refine op_ne pins s σ H _ _ u w Q I rx ry ⟨rfl, ?_⟩
    rw [dS]; exact q
  · cases ha; cases hb; cases hv
    exact op_ne pins s σ H _ _ u w Q I rx ry ⟨rfl, q⟩
  · split at hv
    · rename_i hc
      cases hv
      simp only [Bool.and_eq_true] at hc
      exact op_neD hu pins s σ H _ _ u w Q I rx ry ⟨_, _, dp_sh sub (lay_of_shp hc.1) ha, dp_sh sub (lay_of_shp hc.2) hb, hc.1, hc.2, q⟩
    · obtain ⟨rfl, xs, ys, rfl, rfl, hl⟩ := lensV_some hv
      obtain ⟨l, b, i1, i2, rfl, rfl, l1, l2, hn⟩ := lists_lens I rx ry ha hb hl
      exact SeqAt.RcNeAt.lists_lengths l1 l2 hn (by omega) _ _ _ _ ⟨.bl true, H, I, rfl, q⟩
theorem map_some {α β : Type} {o : Option α} {f : α → β} {b : β} (h : o.map f = some b) : ∃ a, o = some a ∧ f a = b := by
  cases o with
  | none => cases h
  | some a => exact ⟨a, rfl, Option.some.inj h⟩
theorem op_cmp (o : Cop) (hu : X.A.units + 65 < cLine) : OpR X (compareOp (cop o)) (rC X.K o) := by
  intro pins s σ H x y u w Q I rx ry h
  obtain ⟨F, va, vb, b, sub, ha, hb, hv, q⟩ := h
  unfold cmpV at hv
  split at hv
  · exact op_eqV (by omega) I rx ry sub ha hb hv q
  · obtain ⟨b', e, rfl⟩ := map_some hv
    exact op_neV (by omega) I rx ry sub ha hb e q
  · unfold ltT at hv
    split at hv
    · cases ha; cases hb; cases hv
      exact op_lt pins s σ H _ _ u w Q I rx ry ⟨_, _, rfl, rfl, q⟩
    · obtain ⟨a, vs, rfl, h1, r1⟩ := ha
      obtain ⟨c, us, rfl, h2, r2⟩ := hb
      split at hv
      · rename_i ns ms e1 e2
        cases hv
        rw [r1.ints e1] at h1
        rw [r2.ints e2] at h2
        exact op_ltT (by omega) pins s σ H _ _ u w Q I rx ry ⟨_, _, _, _, rfl, rfl, sqT_mono sub h1, sqT_mono sub h2, q⟩
      · cases hv
    · cases hv
  · cases ha; cases hb; cases hv
    exact op_gt pins s σ H _ _ u w Q I rx ry ⟨_, _, rfl, rfl, q⟩
  · cases ha; cases hb; cases hv
    exact op_le pins s σ H _ _ u w Q I rx ry ⟨_, _, rfl, rfl, q⟩
  · cases ha; cases hb; cases hv
    exact op_ge pins s σ H _ _ u w Q I rx ry ⟨_, _, rfl, rfl, q⟩
  · cases hb
    have e := sh_non ha
    cases hv
    refine op_isN pins s σ H _ _ u w Q I rx ry ⟨rfl, ?_⟩
    rw [e]
    cases va <;> exact q
  · cases hb
    have e := sh_non ha
    refine op_notN pins s σ H _ _ u w Q I rx ry ⟨rfl, ?_⟩
    rw [e]
    have hv := Option.some.inj hv
    subst hv
    cases va <;> exact q
  · cases ha; cases hb; cases hv
    exact op_is_bl pins s σ H _ _ u w Q I rx ry ⟨_, _, rfl, rfl, q⟩
  · cases ha; cases hb; cases hv
    exact op_isnot_bl pins s σ H _ _ u w Q I rx ry ⟨_, _, rfl, rfl, q⟩
  · unfold inD at hv
    split at hv
    · split at hv
      · rename_i ds hc
        cases hv
        simp only [Bool.and_eq_true] at hc
        exact op_inD hu pins s σ H _ _ u w Q I rx ry ⟨_, _, dp_sh sub (lay_of_shp hc.1) ha, dp_sh sub (lay_of_shp hc.2) hb, hc.1, hc.2, q⟩
      · cases hv
    · split at hv
      · rename_i ds hc
        cases hv
        simp only [Bool.and_eq_true] at hc
        exact op_inT hu pins s σ H _ _ u w Q I rx ry ⟨_, _, dp_sh sub (lay_of_shp hc.1) ha, dp_sh sub (lay_of_shp hc.2) hb, hc.1, hc.2, q⟩
      · cases hv
    · cases hv
  · obtain ⟨b', hz, e0⟩ := map_some hv
    clear hv
    subst e0
    unfold inD at hz
    split at hz
    · split at hz
      · rename_i ds hc
        have hz := Option.some.inj hz
        subst hz
        simp only [Bool.and_eq_true] at hc
        exact op_notInD hu pins s σ H _ _ u w Q I rx ry ⟨_, _, dp_sh sub (lay_of_shp hc.1) ha, dp_sh sub (lay_of_shp hc.2) hb, hc.1, hc.2, q⟩
      · cases hz
    · split at hz
      · rename_i ds hc
        have hz := Option.some.inj hz
        subst hz
        simp only [Bool.and_eq_true] at hc
        exact op_notInT hu pins s σ H _ _ u w Q I rx ry ⟨_, _, dp_sh sub (lay_of_shp hc.1) ha, dp_sh sub (lay_of_shp hc.2) hb, hc.1, hc.2, q⟩
      · cases hz
    · cases hz
  · cases hv
end
end Pv
end

section
/-! PvD: the rules for expressions. -/
set_option autoImplicit false
namespace Pv
open PySem PySem.Spec PyProof.Rows L2

section
variable {X : Cx} {C : Ct} {Ow : List Nat} {e a b c : Expr} {i ia ib ic : Ex} {pos : Pos}

/-! ### names and constants -/
theorem Es.var (n : Nat) {x : Str} (hi : n ∉ Ow) (hN : X.N[n]? = some x) (hv : Vis X.env.scope x) (hd : (x == ("__debug__" : Str)) = false) (hcd : (x == ("__classdict__" : Str)) = false) : Es X C Ow (.Name x pos) (.var n) :=
  ⟨pe_con (pe_var hN hv hd hcd) fun σ H Q ⟨T, F, σe, g, v, g', r, m, q⟩ => by
    unfold ev at m
    split at m
    · rename_i w e
      cases m
      obtain ⟨y, e1, e2⟩ := r.fz n _ e hi
      exact ⟨y, e1, q F H y (.refl F) r e2⟩
    · cases m⟩
theorem Eb.var (n : Nat) {x : Str} (hN : X.N[n]? = some x) (hv : Vis X.env.scope x) (hd : (x == ("__debug__" : Str)) = false) (hcd : (x == ("__classdict__" : Str)) = false) : Eb X C Ow (.Name x pos) (.var n) :=
  ⟨pe_con (pe_var hN hv hd hcd) fun σ H Q ⟨T, F, σe, g, v, g', r, m, q⟩ => by
    unfold ev at m
    split at m
    · rename_i w e
      cases m
      by_cases hi : n ∈ Ow
      · obtain ⟨p, e1, e2, _⟩ := r.ow n _ e hi
        exact ⟨_, e1, q F H _ (.refl F) r (.inr ⟨n, hi, e, e1⟩)⟩
      · obtain ⟨y, e1, e2⟩ := r.fz n _ e hi
        exact ⟨y, e1, q F H y (.refl F) r (.inl e2)⟩
    · cases m⟩
theorem es_const {d : D} {x : V} (h : PE X e (tC x)) (hr : ∀ F, Rel C.K F d x) : Es X C Ow e (.c d) :=
  ⟨pe_con h fun σ H Q ⟨T, F, σe, g, v, g', r, m, q⟩ => by
    unfold ev at m
    cases m
    exact q F H x (.refl F) r (hr F)⟩
theorem Es.int {n : Int} {j : Nat} : Es X C Ow (.Constant (.int n) j pos) (.c (.int n)) := es_const pe_int fun _ => rel_int
theorem Es.str {n : Str} {j : Nat} : Es X C Ow (.Constant (.str n) j pos) (.c (.str n)) := es_const pe_str fun _ => rel_str
theorem Es.bl {n : Bool} {j : Nat} : Es X C Ow (.Constant (.bool n) j pos) (.c (.bool n)) := es_const pe_bl fun _ => rel_bl
theorem Es.non {j : Nat} : Es X C Ow (.Constant .none j pos) (.c .none) := es_const pe_non fun _ => rel_non
/-- a module's constant -/
theorem Es.glob {x : Str} {u : Value} {d : D} {v : V} (hg : Gl X x) (hm : X.mg x = some u) (rv : RelV v u) (hr : ∀ F, Rel C.K F d v) (hd : (x == ("__debug__" : Str)) = false) : Es X C Ow (.Name x pos) (.c d) :=
  es_const (pe_glob hg hm rv hd) hr

/-! ### operators -/
theorem Es.bin (o : Bop) (hK : X.K = C.K) (ha : Eb X C Ow a ia) (hb : Eb X C Ow b ib) : Es X C Ow (.BinOp a (bop o) b pos) (.bin o ia ib) :=
  ⟨pe_con (pe_op (op_bin o) ha.run hb.run) fun σ H Q ⟨T, F, σe, g, v, g', r, m, q⟩ => by
    unfold ev at m
    obtain ⟨va, g1, m1, m⟩ := bind_eq_ok m
    obtain ⟨vb, g2, m2, m⟩ := bind_eq_ok m
    obtain ⟨m3, e⟩ := lift_eq_ok m
    subst e
    refine ⟨T, F, σe, g, va, g1, r, m1, fun F1 H1 x s1 r1 b1 => ⟨T, F1, σe, g1, vb, _, r1, m2, fun F2 H2 y s2 r2 b2 => ⟨F2, va, vb, v, r2.sub, ?_, ?_, m3, ?_⟩⟩⟩
    · rw [hK]; exact r2.sh (b1.mono s2)
    · rw [hK]; exact r2.sh b2
    · rw [hK]; exact r2.out fun F' H' z s r' => q F' H' z (s1.trans (s2.trans s)) r'⟩
theorem new_of {T : Hp} {F : Fz} {σe : Sl} {g : G} {σ : L2.St} {H : Hp} {v : D} {p : Addr} {o : HO} (r : R C Ow T F σe g σ H) (n : H p = none) (h : OwnAt C.K F (upd H p o) v p) : New C Ow T F σe σ (upd H p o) v p :=
  ⟨h, r.h0 n, r.fn n, r.ndk n, (fun i w hi e z => by
    obtain ⟨a', e1, e2, _⟩ := r.ow i w e hi
    rw [e1] at z
    have z : V.ref a' = V.ref p := Option.some.inj (Option.some.inj z)
    cases z
    obtain ⟨o', eo⟩ := e2.there
    rw [n] at eo; cases eo), r.tn n⟩
theorem lcat_inv {va vb v : D} (h : binV .lcat va vb = some v) : ∃ xs ys, va = .list xs ∧ vb = .list ys ∧ xs.length + ys.length ≤ lineN ∧ v = .list (xs ++ ys) := by
  cases va with
  | list xs =>
    cases vb with
    | list ys =>
      simp only [binV] at h
      split at h
      · rename_i hc
        cases h
        exact ⟨xs, ys, rfl, rfl, of_decide_eq_true hc, rfl⟩
      · cases h
    | _ => simp [binV] at h
  | _ => simp [binV] at h
theorem lrep_inv {va vb v : D} (h : binV .lrep va vb = some v) : ∃ xs k, va = .list xs ∧ vb = .int k ∧ (-9223372036854775808 ≤ k ∧ k < 16777217 ∧ xs.length * k.toNat ≤ lineN) ∧ v = .list (List.replicate k.toNat xs).flatten := by
  cases va with
  | list xs =>
    cases vb with
    | int k =>
      simp only [binV] at h
      split at h
      · rename_i hc
        cases h
        simp only [Bool.and_eq_true, decide_eq_true_eq] at hc
        exact ⟨xs, k, rfl, rfl, ⟨by omega, by omega, hc.2⟩, rfl⟩
      · cases h
    | _ => simp [binV] at h
  | _ => simp [binV] at h
theorem Ef.cat (ha : Eb X C Ow a ia) (hb : Eb X C Ow b ib) : Ef X C Ow (.BinOp a .Add b pos) (.bin .lcat ia ib) :=
  ⟨pe_con (pe_op op_cat ha.run hb.run) fun σ H Q ⟨T, F, σe, g, v, g', r, m, q⟩ => by
    unfold ev at m
    obtain ⟨va, g1, m1, m⟩ := bind_eq_ok m
    obtain ⟨vb, g2, m2, m⟩ := bind_eq_ok m
    obtain ⟨m3, e⟩ := lift_eq_ok m
    subst e
    refine ⟨T, F, σe, g, va, g1, r, m1, fun F1 H1 x s1 r1 b1 => ⟨T, F1, σe, g1, vb, _, r1, m2, fun F2 H2 y s2 r2 b2 => ?_⟩⟩
    have ha := r2.sh (b1.mono s2)
    have hb := r2.sh b2
    obtain ⟨xs, ys, e1, e2, hc, e3⟩ := lcat_inv m3
    subst e1; subst e2; subst e3
    obtain ⟨p, vs, rfl, h1, q1⟩ := ha
    obtain ⟨p', us, rfl, h2, q2⟩ := hb
    rw [q1.length, q2.length] at hc
    exact ⟨_, _, _, _, rfl, rfl, h1, h2, lineN_le hc, fun p n => q F2 _ p (s1.trans s2) (r2.grown n) (new_of r2 n ⟨_, upd_same, q1.append q2⟩)⟩⟩
theorem Ef.rep (ha : Eb X C Ow a ia) (hb : Eb X C Ow b ib) : Ef X C Ow (.BinOp a .Mult b pos) (.bin .lrep ia ib) :=
  ⟨pe_con (pe_op op_rep ha.run hb.run) fun σ H Q ⟨T, F, σe, g, v, g', r, m, q⟩ => by
    unfold ev at m
    obtain ⟨va, g1, m1, m⟩ := bind_eq_ok m
    obtain ⟨vb, g2, m2, m⟩ := bind_eq_ok m
    obtain ⟨m3, e⟩ := lift_eq_ok m
    subst e
    refine ⟨T, F, σe, g, va, g1, r, m1, fun F1 H1 x s1 r1 b1 => ⟨T, F1, σe, g1, vb, _, r1, m2, fun F2 H2 y s2 r2 b2 => ?_⟩⟩
    have ha := r2.sh (b1.mono s2)
    have hb := r2.sh b2
    obtain ⟨xs, k, e1, e2, hc, e3⟩ := lrep_inv m3
    subst e1; subst e2; subst e3
    obtain ⟨p, vs, rfl, h1, q1⟩ := ha
    cases hb
    rw [q1.length] at hc
    exact ⟨_, _, _, rfl, rfl, h1, by omega, by omega, lineN_le hc.2.2, fun p n => q F2 _ p (s1.trans s2) (r2.grown n) (new_of r2 n ⟨_, upd_same, q1.rep _⟩)⟩⟩
theorem Es.neg (hK : X.K = C.K) (ha : Eb X C Ow a ia) : Es X C Ow (.UnaryOp .USub a pos) (.neg ia) :=
  ⟨pe_con (pe_un un_neg ha.run) fun σ H Q ⟨T, F, σe, g, v, g', r, m, q⟩ => by
    unfold ev at m
    obtain ⟨va, g1, m1, m⟩ := bind_eq_ok m
    refine ⟨T, F, σe, g, va, g1, r, m1, fun F1 H1 x s1 r1 b1 => ?_⟩
    have h := r1.sh b1
    split at m
    · cases m; cases h
      exact ⟨_, rfl, q F1 H1 _ s1 r1 rel_int⟩
    · cases m⟩

/-! ### comparisons -/
theorem Es.cmp (o : Cop) (hK : X.K = C.K) (hu : X.A.units + 65 < cLine) (ha : Eb X C Ow a ia) (hb : Eb X C Ow b ib) (hm : behindInMarks (cop o) b = false) : Es X C Ow (.Compare a [cop o] [b] pos) (.cmp o ia ib) :=
  ⟨pe_con (pe_cmpR (op_cmp o hu) ha.run hb.run hm) fun σ H Q ⟨T, F, σe, g, v, g', r, m, q⟩ => by
    unfold ev at m
    obtain ⟨va, g1, m1, m⟩ := bind_eq_ok m
    obtain ⟨vb, g2, m2, m⟩ := bind_eq_ok m
    obtain ⟨m3, e⟩ := lift_eq_ok m
    obtain ⟨k, m4, e2⟩ := map_some m3
    subst e; subst e2
    refine ⟨T, F, σe, g, va, g1, r, m1, fun F1 H1 x s1 r1 b1 => ⟨T, F1, σe, g1, vb, _, r1, m2, fun F2 H2 y s2 r2 b2 => ⟨F2, va, vb, k, r2.sub, ?_, ?_, m4, q F2 H2 _ (s1.trans s2) r2 rel_bl⟩⟩⟩
    · rw [hK]; exact r2.sh (b1.mono s2)
    · rw [hK]; exact r2.sh b2⟩
theorem Et.cmp (o : Cop) (hK : X.K = C.K) (hu : X.A.units + 65 < cLine) (ha : Eb X C Ow a ia) (hb : Eb X C Ow b ib) (hm : behindInMarks (cop o) b = false) : Et X C Ow (.Compare a [cop o] [b] pos) (.cmp o ia ib) :=
  ⟨pt_con (pt_cmpR (op_cmp o hu) ha.run hb.run hm) fun σ H Q ⟨T, F, σe, g, v, g', r, m, q⟩ => by
    unfold ev at m
    obtain ⟨va, g1, m1, m⟩ := bind_eq_ok m
    obtain ⟨vb, g2, m2, m⟩ := bind_eq_ok m
    obtain ⟨m3, e⟩ := lift_eq_ok m
    obtain ⟨k, m4, e2⟩ := map_some m3
    subst e; cases e2
    refine ⟨T, F, σe, g, va, g1, r, m1, fun F1 H1 x s1 r1 b1 => ⟨T, F1, σe, g1, vb, _, r1, m2, fun F2 H2 y s2 r2 b2 => ⟨F2, va, vb, _, r2.sub, ?_, ?_, m4, ⟨_, rfl, q F2 H2 (s1.trans s2) r2⟩⟩⟩⟩
    · rw [hK]; exact r2.sh (b1.mono s2)
    · rw [hK]; exact r2.sh b2⟩
theorem chain_ok {o1 o2 : Cop} (hK : X.K = C.K) {σ : L2.St} {H : Hp} {P : V → Hp → Prop} {T : Hp} {F : Fz} {σe : Sl} {g g' : G} {v : D} (r : R C Ow T F σe g σ H) (m : ev C.Φ (.chain o1 o2 ia ib ic) σe g = .ok v g')
    (q : ∀ (k : Bool) (F' : Fz) (H' : Hp), v = .bool k → Fsub F F' → R C Ow T F' σe g' σ H' → P (.bl k) H') :
    tChain (rC X.K o1) (rC X.K o2) (tB C Ow (ev C.Φ ia)) (tB C Ow (ev C.Φ ib)) (tB C Ow (ev C.Φ ic)) σ H P := by
  unfold ev at m
  obtain ⟨va, g1, m1, m⟩ := bind_eq_ok m
  obtain ⟨vb, g2, m2, m⟩ := bind_eq_ok m
  obtain ⟨k, g3, m30, m⟩ := bind_eq_ok m
  obtain ⟨m3, e⟩ := lift_eq_ok m30
  clear m30
  subst e
  refine ⟨T, F, σe, g, va, g1, r, m1, fun F1 H1 x s1 r1 b1 => ⟨T, F1, σe, g1, vb, _, r1, m2, fun F2 H2 y s2 r2 b2 => ⟨F2, va, vb, k, r2.sub, ?_, ?_, m3, k, rfl, ?_⟩⟩⟩
  · rw [hK]; exact r2.sh (b1.mono s2)
  · rw [hK]; exact r2.sh b2
  · cases k with
    | false =>
      rw [if_neg Bool.false_ne_true] at m ⊢
      cases m
      exact q false F2 H2 rfl (s1.trans s2) r2
    | true =>
      rw [if_pos rfl] at m ⊢
      obtain ⟨vc, g4, m4, m⟩ := bind_eq_ok m
      obtain ⟨m5, e⟩ := lift_eq_ok m
      obtain ⟨k2, m6, e2⟩ := map_some m5
      subst e
      refine ⟨T, F2, σe, _, vc, _, r2, m4, fun F3 H3 z s3 r3 b3 => ⟨F3, vb, vc, k2, r3.sub, ?_, ?_, m6, q k2 F3 H3 e2.symm (s1.trans (s2.trans s3)) r3⟩⟩
      · rw [hK]; exact r3.sh (b2.mono s3)
      · rw [hK]; exact r3.sh b3
theorem Es.chain (o1 o2 : Cop) (hK : X.K = C.K) (hu : X.A.units + 65 < cLine) (ha : Eb X C Ow a ia) (hb : Eb X C Ow b ib) (hc : Eb X C Ow c ic) (hm : lastMarks [cop o1, cop o2] [b, c] = false) :
    Es X C Ow (.Compare a [cop o1, cop o2] [b, c] pos) (.chain o1 o2 ia ib ic) :=
  ⟨pe_con (pe_chain (op_cmp o1 hu) (op_cmp o2 hu) ha.run hb.run hc.run hm) fun σ H Q ⟨T, F, σe, g, v, g', r, m, q⟩ =>
    chain_ok hK r m fun k F' H' e s r' => q F' H' _ s r' (by rw [e]; exact rel_bl)⟩
theorem Et.chain (o1 o2 : Cop) (hK : X.K = C.K) (hu : X.A.units + 65 < cLine) (ha : Eb X C Ow a ia) (hb : Eb X C Ow b ib) (hc : Eb X C Ow c ic) (hm : lastMarks [cop o1, cop o2] [b, c] = false) :
    Et X C Ow (.Compare a [cop o1, cop o2] [b, c] pos) (.chain o1 o2 ia ib ic) :=
  ⟨pt_con (pt_chain (op_cmp o1 hu) (op_cmp o2 hu) ha.run hb.run hc.run hm) fun σ H Q ⟨T, F, σe, g, v, g', r, m, q⟩ =>
    chain_ok hK r m fun k F' H' e s r' => ⟨k, rfl, by cases e; exact q F' H' s r'⟩⟩

/-- a op1 b op2 c op3 d -/
def tChain3 (r r' r'' : R2) (ta tb tc td : TE) : TE := fun σ H Q => ta σ H fun x H1 => tb σ H1 fun y H2 => r x y H2 fun z H3 => ∃ k, z = .bl k ∧
  (if k = true then tc σ H3 fun w' H4 => r' y w' H4 fun z2 H5 => ∃ k2, z2 = .bl k2 ∧ (if k2 = true then td σ H5 fun w2 H6 => r'' w' w2 H6 Q else Q (.bl false) H5) else Q (.bl false) H3)
theorem pe_chain3 {op op' op'' : CmpOp} {r r' r'' : R2} {d : Expr} {ta tb tc td : TE} (ho : OpR X (compareOp op) r) (ho' : OpR X (compareOp op') r') (ho'' : OpR X (compareOp op'') r'') (ha : PE X a ta) (hb : PE X b tb) (hc : PE X c tc) (hd : PE X d td)
    (hm : lastMarks [op, op', op''] [b, c, d] = false) : PE X (.Compare a [op, op', op''] [b, c, d] pos) (tChain3 r r' r'' ta tb tc td) := by
  refine ⟨fun pins s σ H Q I h => ?_⟩
  refine Compare_chain (thn (ha.run pins s σ H _ I h) fun v s1 ⟨x, H1, I1, r1, q1⟩ => chain_link (thn (hb.run pins s1 σ H1 _ I1 q1) fun u s2 ⟨y, H2, I2, r2, q2⟩ =>
    thn (ho pins s2 σ H2 x y v u _ I2 r1 r2 q2) fun d s3 ⟨z, H3, I3, r3, k, e, q3⟩ => ?_)) hm
  subst e
  cases r3
  refine wpAny_truthy_bool ?_
  cases k with
  | false => exact ite_ff ⟨.bl false, H3, I3, rfl, q3⟩
  | true =>
    refine ite_tt (chain_link (thn (hc.run pins s3 σ H3 _ I3 q3) fun u' s4 ⟨y', H4, I4, r4, q4⟩ => thn (ho' pins s4 σ H4 y y' u u' _ I4 r2 r4 q4) fun d' s5 ⟨z', H5, I5, r5, k2, e2, q5⟩ => ?_))
    subst e2
    cases r5
    refine wpAny_truthy_bool ?_
    cases k2 with
    | false => exact ite_ff ⟨.bl false, H5, I5, rfl, q5⟩
    | true => exact ite_tt (chain_last (thn (hd.run pins s5 σ H5 _ I5 q5) fun w' s6 ⟨z6, H6, I6, r6, q6⟩ => ho'' pins s6 σ H6 y' z6 u' w' Q I6 r4 r6 q6))
theorem pt_chain3 {op op' op'' : CmpOp} {r r' r'' : R2} {d : Expr} {ta tb tc td : TE} (ho : OpR X (compareOp op) r) (ho' : OpR X (compareOp op') r') (ho'' : OpR X (compareOp op'') r'') (ha : PE X a ta) (hb : PE X b tb) (hc : PE X c tc) (hd : PE X d td)
    (hm : lastMarks [op, op', op''] [b, c, d] = false) : PT X (.Compare a [op, op', op''] [b, c, d] pos) (tTest (tChain3 r r' r'' ta tb tc td)) := by
  refine ⟨fun pins s σ H Q I h => ?_⟩
  refine isTrue_chain (thn (ha.run pins s σ H _ I h) fun v s1 ⟨x, H1, I1, r1, q1⟩ => test_link (thn (hb.run pins s1 σ H1 _ I1 q1) fun u s2 ⟨y, H2, I2, r2, q2⟩ =>
    thn (ho pins s2 σ H2 x y v u _ I2 r1 r2 q2) fun d s3 ⟨z, H3, I3, r3, k, e, q3⟩ => ?_)) hm
  subst e
  cases r3
  refine wpAny_truthy_bool ?_
  cases k with
  | false =>
    obtain ⟨k', e', q'⟩ := q3
    cases e'
    exact ite_ff ⟨H3, I3, q'⟩
  | true =>
    refine ite_tt (test_link (thn (hc.run pins s3 σ H3 _ I3 q3) fun u' s4 ⟨y', H4, I4, r4, q4⟩ => thn (ho' pins s4 σ H4 y y' u u' _ I4 r2 r4 q4) fun d' s5 ⟨z', H5, I5, r5, k2, e2, q5⟩ => ?_))
    subst e2
    cases r5
    refine wpAny_truthy_bool ?_
    cases k2 with
    | false =>
      obtain ⟨k', e', q'⟩ := q5
      cases e'
      exact ite_ff ⟨H5, I5, q'⟩
    | true =>
      refine ite_tt (test_last (thn (hd.run pins s5 σ H5 _ I5 q5) fun w' s6 ⟨z6, H6, I6, r6, q6⟩ => thn (ho'' pins s6 σ H6 y' z6 u' w' _ I6 r4 r6 q6) fun d' s7 ⟨z7, H7, I7, r7, k3, e3, q7⟩ => ?_))
      subst e3
      cases r7
      exact wpAny_truthy_bool ⟨H7, I7, q7⟩
theorem chain3_ok {o1 o2 o3 : Cop} {id : Ex} (hK : X.K = C.K) {σ : L2.St} {H : Hp} {P : V → Hp → Prop} {T : Hp} {F : Fz} {σe : Sl} {g g' : G} {v : D} (r : R C Ow T F σe g σ H) (m : ev C.Φ (.chain3 o1 o2 o3 ia ib ic id) σe g = .ok v g')
    (q : ∀ (k : Bool) (F' : Fz) (H' : Hp), v = .bool k → Fsub F F' → R C Ow T F' σe g' σ H' → P (.bl k) H') :
    tChain3 (rC X.K o1) (rC X.K o2) (rC X.K o3) (tB C Ow (ev C.Φ ia)) (tB C Ow (ev C.Φ ib)) (tB C Ow (ev C.Φ ic)) (tB C Ow (ev C.Φ id)) σ H P := by
  unfold ev at m
  obtain ⟨va, g1, m1, m⟩ := bind_eq_ok m
  obtain ⟨vb, g2, m2, m⟩ := bind_eq_ok m
  obtain ⟨k, g3, m30, m⟩ := bind_eq_ok m
  obtain ⟨m3, e⟩ := lift_eq_ok m30
  clear m30
  subst e
  refine ⟨T, F, σe, g, va, g1, r, m1, fun F1 H1 x s1 r1 b1 => ⟨T, F1, σe, g1, vb, _, r1, m2, fun F2 H2 y s2 r2 b2 => ⟨F2, va, vb, k, r2.sub, ?_, ?_, m3, k, rfl, ?_⟩⟩⟩
  · rw [hK]; exact r2.sh (b1.mono s2)
  · rw [hK]; exact r2.sh b2
  · cases k with
    | false =>
      rw [if_neg Bool.false_ne_true] at m ⊢
      cases m
      exact q false F2 H2 rfl (s1.trans s2) r2
    | true =>
      rw [if_pos rfl] at m ⊢
      obtain ⟨vc, g4, m4, m⟩ := bind_eq_ok m
      obtain ⟨k2, g5, m50, m⟩ := bind_eq_ok m
      obtain ⟨m5, e⟩ := lift_eq_ok m50
      clear m50
      subst e
      refine ⟨T, F2, σe, _, vc, _, r2, m4, fun F3 H3 z s3 r3 b3 => ⟨F3, vb, vc, k2, r3.sub, ?_, ?_, m5, k2, rfl, ?_⟩⟩
      · rw [hK]; exact r3.sh (b2.mono s3)
      · rw [hK]; exact r3.sh b3
      · cases k2 with
        | false =>
          rw [if_neg Bool.false_ne_true] at m ⊢
          cases m
          exact q false F3 H3 rfl (s1.trans (s2.trans s3)) r3
        | true =>
          rw [if_pos rfl] at m ⊢
          obtain ⟨vd, g6, m6, m⟩ := bind_eq_ok m
          obtain ⟨m7, e⟩ := lift_eq_ok m
          obtain ⟨k3, m8, e2⟩ := map_some m7
          subst e
          refine ⟨T, F3, σe, _, vd, _, r3, m6, fun F4 H4 z4 s4 r4 b4 => ⟨F4, vc, vd, k3, r4.sub, ?_, ?_, m8, q k3 F4 H4 e2.symm (s1.trans (s2.trans (s3.trans s4))) r4⟩⟩
          · rw [hK]; exact r4.sh (b3.mono s4)
          · rw [hK]; exact r4.sh b4
theorem Es.chain3 (o1 o2 o3 : Cop) {d : Expr} {id : Ex} (hK : X.K = C.K) (hu : X.A.units + 65 < cLine) (ha : Eb X C Ow a ia) (hb : Eb X C Ow b ib) (hc : Eb X C Ow c ic) (hd : Eb X C Ow d id) (hm : lastMarks [cop o1, cop o2, cop o3] [b, c, d] = false) :
    Es X C Ow (.Compare a [cop o1, cop o2, cop o3] [b, c, d] pos) (.chain3 o1 o2 o3 ia ib ic id) :=
  ⟨pe_con (pe_chain3 (op_cmp o1 hu) (op_cmp o2 hu) (op_cmp o3 hu) ha.run hb.run hc.run hd.run hm) fun σ H Q ⟨T, F, σe, g, v, g', r, m, q⟩ =>
    chain3_ok hK r m fun k F' H' e s r' => q F' H' _ s r' (by rw [e]; exact rel_bl)⟩
theorem Et.chain3 (o1 o2 o3 : Cop) {d : Expr} {id : Ex} (hK : X.K = C.K) (hu : X.A.units + 65 < cLine) (ha : Eb X C Ow a ia) (hb : Eb X C Ow b ib) (hc : Eb X C Ow c ic) (hd : Eb X C Ow d id) (hm : lastMarks [cop o1, cop o2, cop o3] [b, c, d] = false) :
    Et X C Ow (.Compare a [cop o1, cop o2, cop o3] [b, c, d] pos) (.chain3 o1 o2 o3 ia ib ic id) :=
  ⟨pt_con (pt_chain3 (op_cmp o1 hu) (op_cmp o2 hu) (op_cmp o3 hu) ha.run hb.run hc.run hd.run hm) fun σ H Q ⟨T, F, σe, g, v, g', r, m, q⟩ =>
    chain3_ok hK r m fun k F' H' e s r' => ⟨k, rfl, by cases e; exact q F' H' s r'⟩⟩

/-! ### and, or, not, if -/
theorem Et.not (ha : Et X C Ow a ia) : Et X C Ow (.UnaryOp .Not a pos) (.not ia) :=
  ⟨pt_con (pt_not ha.run) fun σ H Q ⟨T, F, σe, g, v, g', r, m, q⟩ => by
    unfold ev at m
    obtain ⟨va, g1, m1, m⟩ := bind_eq_ok m
    split at m
    · cases m
      exact ⟨T, F, σe, g, _, _, r, m1, fun F1 H1 s1 r1 => q F1 H1 s1 r1⟩
    · cases m⟩
theorem Ew.one {op : BoolOp} (ha : Et X C Ow a ia) : Ew X C Ow (.BoolOp op [a] pos) ia := by
  cases op with
  | And => exact ⟨pw_and1 ha.run⟩
  | Or => exact ⟨pw_or1 ha.run⟩
theorem Ew.and {rest : List Expr} (ha : Et X C Ow a ia) (hb : Ew X C Ow (.BoolOp .And (b :: rest) pos) ib) : Ew X C Ow (.BoolOp .And (a :: b :: rest) pos) (.and ia ib) :=
  ⟨pw_con (pw_and ha.run hb.run) fun σ H Q ⟨T, F, σe, g, v, g', r, m, q⟩ => by
    unfold ev at m
    obtain ⟨va, g1, m1, m⟩ := bind_eq_ok m
    split at m
    · exact ⟨T, F, σe, g, _, _, r, m1, fun F1 H1 s1 r1 => by
        refine iteT ?_
        exact ⟨T, F1, σe, _, v, g', r1, m, fun F2 H2 s2 r2 => q F2 H2 (s1.trans s2) r2⟩⟩
    · cases m
      exact ⟨T, F, σe, g, _, _, r, m1, fun F1 H1 s1 r1 => by
        refine iteF ?_
        exact q F1 H1 s1 r1⟩
    · cases m⟩
theorem Ew.or {rest : List Expr} (ha : Et X C Ow a ia) (hb : Ew X C Ow (.BoolOp .Or (b :: rest) pos) ib) : Ew X C Ow (.BoolOp .Or (a :: b :: rest) pos) (.or ia ib) :=
  ⟨pw_con (pw_or ha.run hb.run) fun σ H Q ⟨T, F, σe, g, v, g', r, m, q⟩ => by
    unfold ev at m
    obtain ⟨va, g1, m1, m⟩ := bind_eq_ok m
    split at m
    · cases m
      exact ⟨T, F, σe, g, _, _, r, m1, fun F1 H1 s1 r1 => by
        refine iteT ?_
        exact q F1 H1 s1 r1⟩
    · exact ⟨T, F, σe, g, _, _, r, m1, fun F1 H1 s1 r1 => by
        refine iteF ?_
        exact ⟨T, F1, σe, _, v, g', r1, m, fun F2 H2 s2 r2 => q F2 H2 (s1.trans s2) r2⟩⟩
    · cases m⟩
theorem Es.not (hK : X.K = C.K) (ha : Eb X C Ow a ia) : Es X C Ow (.UnaryOp .Not a pos) (.not ia) :=
  ⟨pe_con (pe_not ha.run) fun σ H Q ⟨T, F, σe, g, v, g', r, m, q⟩ => by
    unfold ev at m
    obtain ⟨va, g1, m1, m⟩ := bind_eq_ok m
    refine ⟨T, F, σe, g, va, g1, r, m1, fun F1 H1 x s1 r1 b1 => ?_⟩
    have h := r1.sh b1
    split at m
    · cases m; cases h
      exact ⟨_, rfl, q F1 H1 _ s1 r1 rel_bl⟩
    · cases m⟩
theorem Es.one {op : BoolOp} (ha : Es X C Ow a ia) : Es X C Ow (.BoolOp op [a] pos) ia := ⟨pe_one ha.run⟩
theorem Es.and {rest : List Expr} (ha : Eb X C Ow a ia) (hb : Es X C Ow (.BoolOp .And (b :: rest) pos) ib) : Es X C Ow (.BoolOp .And (a :: b :: rest) pos) (.and ia ib) :=
  ⟨pe_con (pe_and ha.run hb.run) fun σ H Q ⟨T, F, σe, g, v, g', r, m, q⟩ => by
    unfold ev at m
    obtain ⟨va, g1, m1, m⟩ := bind_eq_ok m
    refine ⟨T, F, σe, g, va, g1, r, m1, fun F1 H1 x s1 r1 b1 => ?_⟩
    have h := r1.sh b1
    split at m
    · cases h
      refine ⟨_, rfl, ?_⟩
      refine iteT ?_
      exact ⟨T, F1, σe, _, v, g', r1, m, fun F2 H2 y s2 r2 => q F2 H2 y (s1.trans s2) r2⟩
    · cases m; cases h
      refine ⟨_, rfl, ?_⟩
      refine iteF ?_
      exact q F1 H1 _ s1 r1 rel_bl
    · cases m⟩
theorem Es.or {rest : List Expr} (ha : Eb X C Ow a ia) (hb : Es X C Ow (.BoolOp .Or (b :: rest) pos) ib) : Es X C Ow (.BoolOp .Or (a :: b :: rest) pos) (.or ia ib) :=
  ⟨pe_con (pe_or ha.run hb.run) fun σ H Q ⟨T, F, σe, g, v, g', r, m, q⟩ => by
    unfold ev at m
    obtain ⟨va, g1, m1, m⟩ := bind_eq_ok m
    refine ⟨T, F, σe, g, va, g1, r, m1, fun F1 H1 x s1 r1 b1 => ?_⟩
    have h := r1.sh b1
    split at m
    · cases m; cases h
      refine ⟨_, rfl, ?_⟩
      refine iteT ?_
      exact q F1 H1 _ s1 r1 rel_bl
    · cases h
      refine ⟨_, rfl, ?_⟩
      refine iteF ?_
      exact ⟨T, F1, σe, _, v, g', r1, m, fun F2 H2 y s2 r2 => q F2 H2 y (s1.trans s2) r2⟩
    · cases m⟩
theorem Es.ite {t : Expr} {it : Ex} (ht : Et X C Ow t it) (ha : Es X C Ow a ia) (hb : Es X C Ow b ib) : Es X C Ow (.IfExp t a b pos) (.ite it ia ib) :=
  ⟨pe_con (pe_ifExp ht.run ha.run hb.run) fun σ H Q ⟨T, F, σe, g, v, g', r, m, q⟩ => by
    unfold ev at m
    obtain ⟨va, g1, m1, m⟩ := bind_eq_ok m
    split at m
    · refine ⟨T, F, σe, g, _, g1, r, m1, fun F1 H1 s1 r1 => ?_⟩
      refine iteT ?_
      exact ⟨T, F1, σe, _, v, g', r1, m, fun F2 H2 y s2 r2 => q F2 H2 y (s1.trans s2) r2⟩
    · refine ⟨T, F, σe, g, _, g1, r, m1, fun F1 H1 s1 r1 => ?_⟩
      refine iteF ?_
      exact ⟨T, F1, σe, _, v, g', r1, m, fun F2 H2 y s2 r2 => q F2 H2 y (s1.trans s2) r2⟩
    · cases m⟩
theorem tru_sh {K : PySem.W.Frag} {F : Fz} {H : Hp} {d : D} {x : V} {k : Bool} (s : Same F.h H) (h : Sh K F H d x) (t : truV d = some k) : TruV K x H k := by
  cases d with
  | none => cases h; cases t; rfl
  | bool b => cases h; cases t; rfl
  | int i => cases h; cases t; rfl
  | str y =>
    cases h
    have t : (if decide (y.length ≤ lineN) then some (decide (y.length ≠ 0)) else none) = some k := t
    split at t
    · rename_i hz
      cases t
      refine ⟨lineN_le (of_decide_eq_true hz), ?_⟩
      by_cases e : y.length = 0 <;> simp [e]
    · cases t
  | list xs =>
    obtain ⟨p, vs, rfl, q, r⟩ := h
    cases t
    refine .inl ⟨vs, SqL.of q, ?_⟩
    have e := r.length
    cases xs <;> cases vs <;> first | rfl | simp at e
  | tuple xs =>
    obtain ⟨p, vs, rfl, q, r⟩ := h
    cases t
    refine .inr (.inl ⟨vs, sqT_mono s q, ?_⟩)
    have e := r.length
    cases xs <;> cases vs <;> first | rfl | simp at e
  | dict kvs => cases t
/-- a value's truth, as a test -/
theorem Et.truth (hK : X.K = C.K) (ha : Eb X C Ow a ia) (he : ∀ whole, isTrue a X.env whole = (do let v ← whole; standAt a.pos; holding [v] (truthy v))) : Et X C Ow a (.truth ia) :=
  ⟨pt_con (pt_truth ha.run he) fun σ H Q ⟨T, F, σe, g, v, g', r, m, q⟩ => by
    unfold ev at m
    obtain ⟨va, g1, m1, m⟩ := bind_eq_ok m
    obtain ⟨m2, e⟩ := lift_eq_ok m
    obtain ⟨k, m3, e2⟩ := map_some m2
    subst e; cases e2
    refine ⟨T, F, σe, g, va, _, r, m1, fun F1 H1 x s1 r1 b1 => ⟨_, ?_, q F1 H1 s1 r1⟩⟩
    rw [hK]
    exact tru_sh r1.sub (r1.sh b1) m3⟩
/-- a bool, as a test -/
theorem Et.val (ha : Eb X C Ow a ia) (he : ∀ whole, isTrue a X.env whole = (do let v ← whole; standAt a.pos; holding [v] (truthy v))) : Et X C Ow a ia :=
  ⟨pt_con (pt_val ha.run he) fun σ H Q ⟨T, F, σe, g, v, g', r, m, q⟩ =>
    ⟨T, F, σe, g, _, _, r, m, fun F1 H1 x s1 r1 b1 => ⟨v, r1.sh b1, q F1 H1 s1 r1⟩⟩⟩
end
end Pv
end

section
/-! PvE: calls of defs; arguments, displays, subscripts. -/
set_option autoImplicit false
namespace Pv
open PySem PySem.Spec PyProof.Rows L2

/-! ### a def's promise, called where nothing is being shown -/
structure FnG (P : Program) (w : World) (K : PySem.W.Frag) (mg : Str → Option Value) (base : Heap) (CX : CXT) (k : Nat) (f : Addr) (fd : FuncData) (ps : List Str) (sp : Sp) : Prop where
  len : ∀ vs H Q E, sp vs H Q E → vs.length = ps.length
  run : ∀ (A : Around) (outer : List Env) (s : Shared) (H : Hp) (args : Args) (us : List Value) (vs : List V) (Q : VK) (E : XK), A.guards = some [] → Room k A → Env0 P w K mg base A outer s H → BindsTo s fd args (ps.zip us) → Vals vs us → sp vs H Q E →
    codeAny (model P w) A (.call (.ref f) args) (CR CX outer P w H s Q E) s
section
variable {P : Program} {w : World} {K : PySem.W.Frag} {mg : Str → Option Value} {base : Heap} {CX : CXT} {k : Nat} {f : Addr} {fd : FuncData} {ps : List Str} {sp sp' : Sp}
theorem FnG.mono {j : Nat} (F : FnG P w K mg base CX j f fd ps sp) (h : j ≤ k) : FnG P w K mg base CX k f fd ps sp :=
  ⟨F.len, fun A outer s H args us vs Q E hg hr => F.run A outer s H args us vs Q E hg (hr.mono h)⟩
theorem FnG.of (F : FnOk P w K mg base CX k f fd ps sp) : FnG P w K mg base CX k f fd ps sp :=
  ⟨F.len, fun A outer s H args us vs Q E _ hr => F.run A outer s H args us vs Q E hr⟩
theorem FnG.imp (F : FnG P w K mg base CX k f fd ps sp) (h : ∀ vs H Q E, sp' vs H Q E → sp vs H Q E) : FnG P w K mg base CX k f fd ps sp' :=
  ⟨fun vs H Q E q => F.len vs H Q E (h _ _ _ _ q), fun A outer s H args us vs Q E hg hr he hb hv hs => F.run A outer s H args us vs Q E hg hr he hb hv (h _ _ _ _ hs)⟩
end
section
variable {P : Program} {w : World} {K : PySem.W.Frag} {mg : Str → Option Value} {base : Heap} {x qual : Str} {st : Stmt} {f : Addr} {fd : FuncData} {N ps : List Str} {k : Nat} {sp : Sp}
def flV : Flow → Value
  | .ret v => v
  | _ => .none
/-- where a def may lead: it hands back a value -/
theorem sp_end {X : Cx} {CX : CXT} {s' : Shared} {Q : VK} {E : XK} {fl : Flow} (hx : X.ex = []) (h : SP X [] { nx := fun _ H' => Q .non H', rt := Q } fl s') : CR CX X.outer X.prog X.w X.H_0 X.s_0 Q E (.ok (.ret (flV fl))) s' := by
  have out : ∀ {σ' : L2.St} {H' : Hp} {v : V} {u : Value}, Inv X [] σ' H' s' → RelV v u → Q v H' → CR CX X.outer X.prog X.w X.H_0 X.s_0 Q E (.ok (.ret u)) s' := fun {σ' H' v u} J rv q =>
    ⟨v, H', J.os, J.bare, by have z := J.base; rw [hx] at z; exact z, J.hok, rv, q⟩
  cases fl with
  | next => obtain ⟨_, H', J, q⟩ := h; exact out (v := .non) J rfl q
  | ret u => obtain ⟨v, _, H', J, rv, q⟩ := h; exact out J rv q
  | brk => obtain ⟨_, _, _, q⟩ := h; exact q.elim
  | cont => obtain ⟨_, _, _, q⟩ := h; exact q.elim
/-- THE RULE for a def that may raise, called where nothing is being shown -/
theorem funOk (F : Fun K x qual st f fd) (S : FnScope N ps (defScope st)) (len : ∀ vs H Q E, sp vs H Q E → vs.length = ps.length)
    (body : ∀ (cdv : Value) (A : Around) (outer : List Env) (s : Shared) (H : Hp) (vs : List V) (Q : VK) (E : XK), A.guards = some [] → Room k (A.deeper (envOfC qual (defScope st) s.heap.objs.size f cdv)) → sp vs H Q E →
      ∃ t, PSs (cxOf (L2.CX P w) P w K mg base N qual (defScope st) f cdv A outer s H E) (defBody st) t ∧ t { nx := fun _ H' => Q .non H', rt := Q } (start N vs) H) : FnG P w K mg base (L2.CX P w) (k + 1) f fd ps sp := by
  obtain ⟨oc, od, kV, doc, pm, an, cdv, ct, osl, rfl, lk, hcd⟩ := F.ex
  refine ⟨len, ?_⟩
  intro A outer s H args us vs Q E hg hr e0 hb r hsp
  have inK : K.In s.heap := e0.mod.kin.keeps fun b o e => (e0.bs b o e).1
  refine codeAny_call_function hr.depth (inK _ _ lk) rfl S.co S.gen rfl (PySem.W.codeRec_of inK hcd) (hb _ _ _ _ ?_)
  refine wpAny_newFunctionEnv_cells S.kind (fun y hy => (S.par y.1 (List.of_mem_zip hy).1).imp id fun q => ⟨q, PySem.W.cellsFrom_some _ _ _ (.inl q)⟩) ?_
  rintro env rfl s1 x1
  refine ⟨(e0.mod.nolimit.keeps fun b o e => (e0.bs b o e).1).keeps x1.toInCall.keep, codeAny_func ?_⟩
  obtain ⟨t, ht, hq⟩ := body cdv A outer s H vs Q E hg (hr.deeper _) hsp
  have I := inv_start (CX := L2.CX P w) (E := E) S hr.hd e0 (len _ _ _ _ hsp) r x1
  exact wpAny_mono (ht.run [] s1 _ H _ I hq) (fun fl s' hs => by
    have z := sp_end (CX := L2.CX P w) (E := E) rfl hs
    cases fl <;> exact z) fun e s' hs => hs
end

/-! ### the promise of the small language -/
/-- how the heap goes on in a call -/
structure Goes (C : Ct) (F : Fz) (H : Hp) (g' : G) (F' : Fz) (H' : Hp) : Prop where
  fs : Fsub F F'
  sub : Same F'.h H'
  nw : ∀ a o, F'.h a = some o → F.h a = none → H a = none
  kp : ∀ a o, H a = some o → F'.isDk a ∨ H' a = some o
  dn : ∀ d l, F'.dk = some (d, l) → F.dk = some (d, l) ∨ (H d = none ∧ H l = none)
  dk : DkR C F' g' H'
def spS (C : Ct) (Φ : List D → G → Res D) (n : Nat) : Sp := fun vs H Q E => vs.length = n ∧ ∃ F ds g, Same F.h H ∧ F.sc = C.sc ∧ DkR C F g H ∧ RelL C.K F ds vs ∧
  ((∃ v g', Φ ds g = .ok v g' ∧ ∀ F' H' x, Goes C F H g' F' H' → Rel C.K F' v x → Q x H') ∨
   (∃ c ws g', Φ ds g = .exc c ws g' ∧ ∀ F' H' cls d, Goes C F H g' F' H' → XR C F' c ws cls d → E cls d H'))
section
variable {X : Cx} {C : Ct} {Ow : List Nat} {e a b c : Expr} {es : List Expr} {i ia ib ic : Ex} {is : Exs} {pos : Pos}
theorem Ea.nil : Ea X C Ow [] .nil := ⟨pa_con pa_nil fun σ H Q ⟨T, F, σe, g, v, g', r, m, q⟩ => by
  unfold evs at m
  cases m
  exact q F H _ (.refl F) r .nil⟩
theorem Ea.cons (ha : Es X C Ow e i) (hs : Ea X C Ow es is) (hst : starEach (e :: es) X.env = (false, eval e X.env) :: starEach es X.env) : Ea X C Ow (e :: es) (.cons i is) :=
  ⟨pa_con (pa_cons ha.run hs.run hst) fun σ H Q ⟨T, F, σe, g, v, g', r, m, q⟩ => by
    unfold evs at m
    obtain ⟨x, g1, m1, m⟩ := bind_eq_ok m
    obtain ⟨xs, g2, m2, m⟩ := bind_eq_ok m
    cases m
    exact ⟨T, F, σe, g, x, g1, r, m1, fun F1 H1 y s1 r1 q1 => ⟨T, F1, σe, g1, xs, _, r1, m2, fun F2 H2 ys s2 r2 q2 => q F2 H2 _ (s1.trans s2) r2 (.cons (q1.mono s2 _ _) q2)⟩⟩⟩
theorem Es.tup {k : Nat} (hs : Ea X C Ow es is) (hl : is.len ≤ 1000) : Es X C Ow (.Tuple es k pos) (.tup is) :=
  ⟨pe_con (pe_tup hs.run) fun σ H Q ⟨T, F, σe, g, v, g', r, m, q⟩ => by
    unfold ev at m
    obtain ⟨xs, g1, m1, m⟩ := bind_eq_ok m
    cases m
    refine ⟨T, F, σe, g, xs, _, r, m1, fun F1 H1 ys s1 r1 q1 => ⟨?_, fun p n => ?_⟩⟩
    · rw [← q1.length, evs_len _ _ _ _ _ _ m1, sizeLine_eq]; omega
    · exact q (F1.put p _) _ _ (s1.trans (Fsub.put (r1.fn n))) (r1.laid n) (rel_tup (r1.fn n) q1)⟩
theorem Ef.lst (hs : Ea X C Ow es is) (hl : is.len ≤ 1000) : Ef X C Ow (.List es pos) (.lst is) :=
  ⟨pe_con (pe_lst hs.run) fun σ H Q ⟨T, F, σe, g, v, g', r, m, q⟩ => by
    unfold ev at m
    obtain ⟨xs, g1, m1, m⟩ := bind_eq_ok m
    cases m
    refine ⟨T, F, σe, g, xs, _, r, m1, fun F1 H1 ys s1 r1 q1 => ⟨?_, fun p n => ?_⟩⟩
    · rw [← q1.length, evs_len _ _ _ _ _ _ m1, sizeLine_eq]; omega
    · exact q F1 _ _ s1 (r1.grown n) (new_of r1 n ⟨_, upd_same, q1⟩)⟩

/-! ### calls -/
variable {CX : CXT} {E : XK} {k n : Nat} {f : Addr} {fd : FuncData} {ps : List Str} {x : Str} {p : Pos} {fi : Nat}
theorem R.goes {T : Hp} {F F' : Fz} {σe : Sl} {g g' : G} {σ : L2.St} {H H' : Hp} (r : R C Ow T F σe g σ H) (h : Goes C F H g' F' H') : R C Ow T F' σe g' σ H' := r.step h.fs h.sub h.nw h.kp h.dn h.dk
theorem R.call {T : Hp} {F : Fz} {σe : Sl} {g : G} {σ : L2.St} {H : Hp} {vs : List V} {ds : List D} {v : D} {g' : G} {Q : VK} {E : XK} (r : R C Ow T F σe g σ H) (h : RelL C.K F ds vs) (hn : vs.length = n) (hf : C.Φ fi ds g = .ok v g')
    (q : ∀ F' H' x, Fsub F F' → R C Ow T F' σe g' σ H' → Rel C.K F' v x → Q x H') : spS C (C.Φ fi) n vs H Q E :=
  ⟨hn, F, ds, g, r.sub, r.sc, r.dk, h, .inl ⟨v, g', hf, fun F' H' x s rx => q F' H' x s.fs (r.goes s) rx⟩⟩
theorem R.callE {T : Hp} {F : Fz} {σe : Sl} {g : G} {σ : L2.St} {H : Hp} {vs : List V} {ds : List D} {c : Nat} {ws : List D} {g' : G} {Q : VK} {E : XK} (r : R C Ow T F σe g σ H) (h : RelL C.K F ds vs) (hn : vs.length = n) (hf : C.Φ fi ds g = .exc c ws g')
    (q : ∀ F' H' cls d, Fsub F F' → R C Ow T F' σe g' σ H' → XR C F' c ws cls d → E cls d H') : spS C (C.Φ fi) n vs H Q E :=
  ⟨hn, F, ds, g, r.sub, r.sc, r.dk, h, .inr ⟨c, ws, g', hf, fun F' H' cls d s rx => q F' H' cls d s.fs (r.goes s) rx⟩⟩
theorem passAtOf {X : Cx} {CX : CXT} {E : XK} {σ : L2.St} (h : Passes CX X E) : PassesAt CX X σ E := fun pins H s e s' I q => h pins σ H s e s' I q
theorem passF {X : Cx} {P : Program} {w : World} : Passes (L2.CX P w) X (fun _ _ _ => False) := fun pins σ H s e s' I ⟨_, _, _, _, _, _, _, _, _, _, _, _, z⟩ => z.elim
theorem run_fnG {pins : List (Addr × Obj)} {σ : L2.St} {H : Hp} {s : Shared} {Q : VK} {us : List Value} {vs : List V} {sp : Sp} {args : Args} (F : FnG X.prog X.w X.K X.mg X.base CX k f fd ps sp) (hG : X.A.guards = some []) (hr : Room k X.A) (hx : PassesAt CX X σ E)
    (I : Inv X pins σ H s) (hb : BindsTo s fd args (ps.zip us)) (r : Vals vs us) (h : sp vs H Q E) : codeAny (model X.prog X.w) X.A (.call (.ref f) args) (fun r s' => match r with
      | .ok (.ret u) => EP X pins σ Q u s'
      | .ok _ => False
      | .error e => X.xe e s') s := by
  refine codeAny_mono (F.run X.A X.stack s H args us vs Q E hG hr I.env0 hb r h) fun r s' hq => ?_
  cases r with
  | error e => exact hx pins H s e s' I hq
  | ok fl =>
    cases fl with
    | ret u => exact I.after hq
    | next => exact False.elim hq
    | brk => exact False.elim hq
    | cont => exact False.elim hq
theorem Es.call (fi : Nat) (F : FnG X.prog X.w X.K X.mg X.base CX k f fd ps (spS C (C.Φ fi) ps.length)) (hG : X.A.guards = some []) (hr : Room k X.A) (hg : Gl X x) (hm : X.mg x = some (.ref f)) (hk : PySem.W.keepIn X.K (.ref f) = true) (hb : Binds X.K fd ps []) (hx : Passes CX X E)
    (ha : Ea X C Ow (e :: es) is) (hdb : (x == ("__debug__" : Str)) = false) (he : starEach (e :: es) X.env = (false, eval e X.env) :: starEach es X.env) (hpl : (backTo pos (starEach es X.env)).any (·.1) = false) (hl : is.len = ps.length) :
    Es X C Ow (.Call (.Name x p) (e :: es) [] pos) (.call fi is) := by
  refine ⟨⟨fun pins s σ H Q I h => ?_⟩⟩
  refine wpAny_Call_Name_kw (ld_glob I hg hm ?_ hdb)
  obtain ⟨T, F0, σe, g, v, g', r, m, q⟩ := h
  unfold ev at m
  obtain ⟨ds, g1, m1, m⟩ := bind_eq_ok m
  refine PySem.W.callWith_K (h₀ := X.base) I.ok.mod.kin hk (thn (ha.run.run pos pins s σ H (fun vs H' => vs.length = ps.length ∧ spS C (C.Φ fi) ps.length vs H' Q E) I ⟨T, F0, σe, g, ds, g1, r, m1, fun F1 H1 xs s1 r1 q1 => ?_⟩) fun us s1 ⟨vs, H1, I1, rv, hn, hsp⟩ => ⟨I1.kIn, ?_⟩) he hpl
  · have hn : xs.length = ps.length := by rw [← q1.length, evs_len _ _ _ _ _ _ m1, hl]
    exact ⟨hn, r1.call q1 hn m fun F' H' x s2 r2 q2 => q F' H' x (s1.trans s2) r2 q2⟩
  · have hl : us.length = ps.length := by rw [← rv.length]; exact hn
    have bt := hb s1 us I1.kIn (by rw [List.append_nil]; exact hl)
    rw [List.append_nil] at bt
    refine wpAny_call (codeAny_mono (run_fnG F hG hr (passAtOf hx) I1 bt rv hsp) fun r s' hq => ?_)
    cases r with
    | error e => exact hq
    | ok fl =>
      cases fl with
      | ret u => exact hq
      | next => exact False.elim hq
      | brk => exact False.elim hq
      | cont => exact False.elim hq

/-! ### calls with keywords -/
structure KB (K : PySem.W.Frag) (fd : FuncData) (ps ks : List Str) (n : Nat) (perm : List Nat) : Prop where
  to : ∀ (s : Shared) (us ws : List Value), K.In s.heap → us.length = n → ws.length = ks.length → BindsTo s fd ⟨us, ks.zip ws⟩ (ps.zip (pm perm (us ++ ws)))
theorem RelL.pm {K : PySem.W.Frag} {F : Fz} {ds : List D} {vs : List V} (h : RelL K F ds vs) : ∀ perm : List Nat, RelL K F (pm perm ds) (pm perm vs)
  | [] => .nil
  | j :: r => by
    have ih := h.pm r
    unfold Pv.pm at ih ⊢
    rw [List.filterMap_cons, List.filterMap_cons]
    cases e : ds[j]? with
    | none =>
      have e2 : vs[j]? = none := by
        rw [List.getElem?_eq_none_iff] at e ⊢
        rw [← h.length]; exact e
      rw [e2]; exact ih
    | some d =>
      obtain ⟨v, e2, rv⟩ := h.get e
      rw [e2]; exact .cons rv ih
theorem Vals.pm {vs : List V} {us : List Value} (h : Vals vs us) : ∀ perm : List Nat, Vals (Pv.pm perm vs) (Pv.pm perm us)
  | [] => .nil
  | j :: r => by
    have ih := Vals.pm h r
    unfold Pv.pm at ih ⊢
    rw [List.filterMap_cons, List.filterMap_cons]
    cases e : vs[j]? with
    | none =>
      rw [Vals.none_of h e]; exact ih
    | some d =>
      obtain ⟨v, e2, rv⟩ := Vals.get h e
      rw [e2]; exact .cons rv ih
/-- keyword arguments -/
structure Ek (X : Cx) (C : Ct) (Ow : List Nat) (kws : List Keyword) (is : Exs) : Prop where
  run : PK X kws (tA C Ow (evs C.Φ is))
theorem Ek.nil : Ek X C Ow [] .nil := ⟨⟨fun pos pins s σ H Q I h => pk_nil.run pos pins s σ H Q I (by
  obtain ⟨T, F, σe, g, v, g', r, m, q⟩ := h
  unfold evs at m
  cases m
  exact q F H _ (.refl F) r .nil)⟩⟩
theorem Ek.cons {nm : Option Str} {kpos : Pos} {kws : List Keyword} (ha : Es X C Ow e i) (hs : Ek X C Ow kws is) : Ek X C Ow (⟨nm, e, kpos⟩ :: kws) (.cons i is) :=
  ⟨⟨fun pos pins s σ H Q I h => (pk_cons ha.run hs.run).run pos pins s σ H Q I (by
    obtain ⟨T, F, σe, g, v, g', r, m, q⟩ := h
    unfold evs at m
    obtain ⟨x, g1, m1, m⟩ := bind_eq_ok m
    obtain ⟨xs, g2, m2, m⟩ := bind_eq_ok m
    cases m
    exact ⟨T, F, σe, g, x, g1, r, m1, fun F1 H1 y s1 r1 q1 => ⟨T, F1, σe, g1, xs, _, r1, m2, fun F2 H2 ys s2 r2 q2 => q F2 H2 _ (s1.trans s2) r2 (.cons (q1.mono s2 _ _) q2)⟩⟩)⟩⟩
def Exs.app : Exs → Exs → Exs
  | .nil, bs => bs
  | .cons a as, bs => .cons a (as.app bs)
theorem evs_app (Φ : Fns) : ∀ (as bs : Exs) (σ : Sl) (g g' : G) (vs : List D), evs Φ (as.app bs) σ g = .ok vs g' → ∃ xs ys g1, vs = xs ++ ys ∧ evs Φ as σ g = .ok xs g1 ∧ evs Φ bs σ g1 = .ok ys g'
  | .nil, bs, σ, g, g', vs, h => ⟨[], vs, g, rfl, by unfold evs; rfl, h⟩
  | .cons a as, bs, σ, g, g', vs, h => by
    unfold Exs.app evs at h
    obtain ⟨x, g1, h1, h⟩ := bind_eq_ok h
    obtain ⟨xs, g2, h2, h⟩ := bind_eq_ok h
    cases h
    obtain ⟨us, ws, g3, e, q1, q2⟩ := evs_app Φ as bs _ _ _ _ h2
    refine ⟨x :: us, ws, g3, by rw [e]; rfl, ?_, q2⟩
    unfold evs
    rw [h1, bind_ok, q1, bind_ok]
theorem Es.callK {ks : List Str} {kws : List Keyword} {perm : List Nat} {iks : Exs} (fi : Nat) (F : FnG X.prog X.w X.K X.mg X.base CX k f fd ps (spS C (C.Φ fi) ps.length)) (hG : X.A.guards = some []) (hr : Room k X.A) (hg : Gl X x) (hm : X.mg x = some (.ref f)) (hk : PySem.W.keepIn X.K (.ref f) = true) (hb : KB X.K fd ps ks n perm) (hx : Passes CX X E)
    (ha : Ea X C Ow (e :: es) is) (hkw : Ek X C Ow kws iks) (hall : (backToKw pos (keywordEach kws X.env)).all (·.1.isSome) = true) (hks : (backToKw pos (keywordEach kws X.env)).filterMap (·.1) = ks)
    (hdb : (x == ("__debug__" : Str)) = false) (he : starEach (e :: es) X.env = (false, eval e X.env) :: starEach es X.env)
    (hpl : ((backTo pos (starEach (e :: es) X.env)).any (·.1) || (backToKw pos (keywordEach kws X.env)).any (·.1.isNone)) = false) (h1 : is.len = n) (h2 : iks.len = ks.length) (h3 : ∀ {α : Type} (l : List α), l.length = n + ks.length → (pm perm l).length = ps.length) :
    Es X C Ow (.Call (.Name x p) (e :: es) kws pos) (.callK fi (is.app iks) perm) := by
  refine ⟨⟨fun pins s σ H Q I h => ?_⟩⟩
  refine wpAny_Call_Name_kw (ld_glob I hg hm ?_ hdb)
  obtain ⟨T, F0, σe, g, v, g', r, m, q⟩ := h
  unfold ev at m
  obtain ⟨ds, g1, m1, m⟩ := bind_eq_ok m
  obtain ⟨as, bs, g2, e0, ma, mb⟩ := evs_app _ _ _ _ _ _ _ m1
  subst e0
  refine PySem.W.callWith_KW (h₀ := X.base) I.ok.mod.kin hk hall (thn (ha.run.run pos pins s σ H (fun vs H' => vs.length = n ∧ tA C Ow (evs C.Φ iks) σ H' fun zs H2 => zs.length = ks.length ∧ spS C (C.Φ fi) ps.length (Pv.pm perm (vs ++ zs)) H2 Q E) I ⟨T, F0, σe, g, as, g2, r, ma, fun F1 H1 xs s1 r1 q1 =>
      ⟨by rw [← q1.length, evs_len _ _ _ _ _ _ ma, h1], T, F1, σe, g2, bs, g1, r1, mb, fun F2 H2 ys s2 r2 q2 => ?_⟩⟩) fun us s1 ⟨vs, H1, I1, rv, hn, hsp⟩ => ?_) hpl he
  · have e1 : ys.length = ks.length := by rw [← q2.length, evs_len _ _ _ _ _ _ mb, h2]
    have e2 : xs.length = n := by rw [← q1.length, evs_len _ _ _ _ _ _ ma, h1]
    refine ⟨e1, r2.call (((q1.mono s2 _ _).append q2).pm perm) (h3 _ (by rw [List.length_append, e1, e2])) m fun F' H' x s3 r3 q3 => q F' H' x (s1.trans (s2.trans s3)) r3 q3⟩
  · refine thn (hkw.run.run pos pins s1 σ H1 _ I1 hsp) fun ws s2 ⟨zs, H2, I2, rz, hz, hsp⟩ => ⟨I2.kIn, ?_⟩
    rw [hks]
    have bt := hb.to s2 us ws I2.kIn (by rw [← rv.length]; exact hn) (by rw [← rz.length]; exact hz)
    refine wpAny_call (codeAny_mono (run_fnG F hG hr (passAtOf hx) I2 bt (Vals.pm (rv.append rz) perm) hsp) fun r s' hq => ?_)
    cases r with
    | error e => exact hq
    | ok fl =>
      cases fl with
      | ret u => exact hq
      | next => exact False.elim hq
      | brk => exact False.elim hq
      | cont => exact False.elim hq
theorem Es.callK0 {ks : List Str} {kws : List Keyword} {perm : List Nat} {iks : Exs} (fi : Nat) (F : FnG X.prog X.w X.K X.mg X.base CX k f fd ps (spS C (C.Φ fi) ps.length)) (hG : X.A.guards = some []) (hr : Room k X.A) (hg : Gl X x) (hm : X.mg x = some (.ref f)) (hk : PySem.W.keepIn X.K (.ref f) = true) (hb : KB X.K fd ps ks 0 perm) (hx : Passes CX X E)
    (hkw : Ek X C Ow kws iks) (hall : (backToKw pos (keywordEach kws X.env)).all (·.1.isSome) = true) (hks : (backToKw pos (keywordEach kws X.env)).filterMap (·.1) = ks)
    (hdb : (x == ("__debug__" : Str)) = false)
    (hpl : ((backTo pos (starEach [] X.env)).any (·.1) || (backToKw pos (keywordEach kws X.env)).any (·.1.isNone)) = false) (h2 : iks.len = ks.length) (h3 : ∀ {α : Type} (l : List α), l.length = ks.length → (pm perm l).length = ps.length) :
    Es X C Ow (.Call (.Name x p) [] kws pos) (.callK fi iks perm) := by
  refine ⟨⟨fun pins s σ H Q I h => ?_⟩⟩
  refine wpAny_Call_Name_kw (ld_glob I hg hm ?_ hdb)
  obtain ⟨T, F0, σe, g, v, g', r, m, q⟩ := h
  unfold ev at m
  obtain ⟨ds, g1, m1, m⟩ := bind_eq_ok m
  refine PySem.W.callWith_KW0 (h₀ := X.base) I.ok.mod.kin hk hall (thn (hkw.run.run pos pins s σ H (fun zs H2 => zs.length = ks.length ∧ spS C (C.Φ fi) ps.length (Pv.pm perm zs) H2 Q E) I ⟨T, F0, σe, g, ds, g1, r, m1, fun F1 H1 xs s1 r1 q1 => ?_⟩) fun ws s2 ⟨zs, H2, I2, rz, hz, hsp⟩ => ⟨I2.kIn, ?_⟩) hpl
  · have e1 : xs.length = ks.length := by rw [← q1.length, evs_len _ _ _ _ _ _ m1, h2]
    exact ⟨e1, r1.call (q1.pm perm) (h3 _ e1) m fun F' H' x s3 r3 q3 => q F' H' x (s1.trans s3) r3 q3⟩
  · rw [hks]
    have bt := hb.to s2 [] ws I2.kIn rfl (by rw [← rz.length]; exact hz)
    refine wpAny_call (codeAny_mono (run_fnG F hG hr (passAtOf hx) I2 bt (Vals.pm rz perm) hsp) fun r s' hq => ?_)
    cases r with
    | error e => exact hq
    | ok fl =>
      cases fl with
      | ret u => exact hq
      | next => exact False.elim hq
      | brk => exact False.elim hq
      | cont => exact False.elim hq
end
end Pv
end

section
/-! PvEn: enumerate(t), t a list or a tuple. -/
set_option autoImplicit false
namespace Pv
open PySem PySem.Spec PyProof.Rows L2
set_option maxHeartbeats 1000000 in
/-- a new enumerate over anything that begins -/
theorem enumNew {v : Value} {io : Obj} {Hh : Heap → Prop} (Bg : Begins v io Hh) :
    Meets (Builtin.«enumerate.__new__» ⟨[.type "enumerate", v], []⟩) (fun _ Rr z => Hh z.heap ∧
      Rr (.ok (.ret (.ref (z.heap.push io).objs.size))) { z with heap := (z.heap.push io).push { cls := .type "enumerate", data := .fields #[.none, .bool false, .ref z.heap.objs.size, rawInt 0, .none, .none] } }) :=
  .of_wp fun prog w A Rr z hz => by
    obtain ⟨hp, gg, dd, tt, oo⟩ := z
    obtain ⟨hh, hr⟩ := hz
    have se := sub_enumerate
    have qi : ∀ {B : Around} {Ex : Value → Shared → Prop} {Qq : Value → Shared → Prop}, Qq (.ref hp.objs.size) ⟨hp.push io, gg, dd, tt, oo⟩ → wpAny (model prog w) B (pyIter v) Qq Ex ⟨hp, gg, dd, tt, oo⟩ :=
      fun q0 => Bg.iter prog w _ _ ⟨hp, gg, dd, tt, oo⟩ _ hh q0
    wp_walk using qi
    refine wpAny_stack_any fun stk => wpAny_pure ?_
    split
    · rename_i cc _ _ _ _ _
      cases (cc == Value.type "enumerate") <;> (wp_walk using qi; exact ⟨_, rfl, hr⟩)
    · wp_walk using qi
      exact ⟨_, rfl, hr⟩
theorem enumCall {prog : Program} {w : World} {A : Around} {Ex : Value → Shared → Prop} {z : Shared} {v : Value} {io : Obj} {Hh : Heap → Prop} {Qq : Value → Shared → Prop} (Bg : Begins v io Hh) (hh : Hh z.heap)
    (hq : ∀ h2, IsEnum h2 (z.heap.objs.size + 1) z.heap.objs.size 0 .none → h2.get? z.heap.objs.size = some io → (∀ b o, z.heap.get? b = some o → h2.get? b = some o) → Qq (.ref (z.heap.objs.size + 1)) { z with heap := h2 }) :
    wpAny (model prog w) A (call (.type "enumerate") [v]) Qq Ex z := by
  refine callType_new F.called_enumerate (by decide) (F.typeCall_enumerate_1 _) (F.newCall_enumerate_1 _) (fun ob => F.args_object_init_2 ob _) F.entry_enumerate_new (enumNew Bg) ⟨hh, ?_⟩
  have sz : (z.heap.push io).objs.size = z.heap.objs.size + 1 := Heap.size_push ..
  have ie := Heap.get?_push_size (z.heap.push io) (o := { cls := .type "enumerate", data := .fields #[.none, .bool false, .ref z.heap.objs.size, rawInt 0, .none, .none] }) rfl
  rw [sz] at ie
  show _ ∧ _
  rw [sz]
  exact ⟨⟨_, ie, rfl⟩, hq _ ie (Heap.get?_push_of_some _ (Heap.get?_push_size _ Bg.free)) fun b ob eb => Heap.get?_push_of_some _ (Heap.get?_push_of_some _ eb)⟩
/-- the tuple at a, each item in a new pair -/
def IteT (K : PySem.W.Frag) (a : Addr) : It :=
  ⟨fun n H => ∃ (vs : List V) (y : V), SqT K H a vs ∧ vs[n]? = some y, fun n H v H' => ∃ p y, v = .ref p ∧ H p = none ∧ H' = upd H p (.tup [.int (n : Nat), y]) ∧ ∀ vs, SqT K H a vs → vs[n]? = some y, fun n H => ∃ vs : List V, SqT K H a vs ∧ vs.length ≤ n⟩
theorem turn_enT {P : Program} {w : World} {K : PySem.W.Frag} {ts : List Expr} {kk : Nat} {tp : Pos} (a e j : Addr) :
    Turn P w K (.Tuple ts kk tp) (IteT K a) [e, j] e (fun n h => (∃ v, IsEnum h e j ((n : Nat) : Int) v) ∧ h.IsTupleIter j a n ∧ e ≠ j) where
  mem := by simp
  obj := fun n h z b hb => by
    obtain ⟨⟨v, ie⟩, ⟨o, o1, o2, o3⟩, _⟩ := z
    rcases List.mem_cons.mp hb with rfl | hb
    · exact ⟨_, ie, fun _ q => nomatch q⟩
    · rw [List.mem_singleton.mp hb]
      exact ⟨o, o1, fun _ q => by rw [o3] at q; cases q⟩
  keep := fun n h h' z k => ⟨⟨z.1.choose, k e (by simp) _ z.1.choose_spec⟩, z.2.1.at fun o q => k j (by simp) o q, z.2.2⟩
  item := by
    intro X eP ew eK cal n pins z σ H Ex Iv fr sts go
    subst eP ew eK
    obtain ⟨⟨old, ie⟩, ij, ne⟩ := sts
    obtain ⟨vs, y, sq, ey⟩ := go
    obtain ⟨its, rl, tp', _⟩ := Iv.tuple sq
    obtain ⟨u, eu, ru⟩ := rl.get ey
    have le : e < z.heap.objs.size := Heap.lt_size ie
    have lj : j < z.heap.objs.size := by obtain ⟨_, q, _⟩ := ij; exact Heap.lt_size q
    obtain ⟨to, t1, t2, t3⟩ := id tp'
    have nej : a ≠ j := fun q => by
      subst q
      obtain ⟨_, q1, q2, _⟩ := ij
      rw [t1] at q1
      cases q1
      have q3 := t2.symm.trans q2
      simp at q3
    have nee : a ≠ e := fun q => by
      subst q
      have q1 := t1.symm.trans ie
      cases q1
      simp at t2
    have Dt := Draws.tuple (prog := X.prog) (w := X.w) (A := X.A.in1) (Iv.ok.hd cal) j a nej its.toArray
    have lt : n < its.toArray.size := by
      have := (List.getElem?_eq_some_iff.mp eu).1
      simpa using this
    refine wpAny_pyNext_enum_itemD Dt ie ⟨ij, tp'⟩ lt ne (by simp [ne, Ne.symm nee]) fun x h1 tk hx io sj hT _ kp => ?_
    have ex : x = u := by
      have q : its.toArray[n]? = some u := by simpa using eu
      rw [q] at hx
      exact (Option.some.inj hx).symm
    subst ex
    refine ⟨_, rfl, wpAny_letOwnedTupleGo_enum (s := { z with heap := h1, toks := tk + 1 }) io fun h2 ie2 sb => ?_⟩
    have T2 := (sb.2 _ (Nat.ne_of_gt le)).trans hT
    have ok : ObjOk X.prog X.w (upd H z.heap.objs.size (.tup [.int (n : Nat), y])) h2 z.heap.objs.size (.tup [.int (n : Nat), y]) := by
      refine ⟨by show 2 ≤ sizeLine; decide, [.int n tk, x], .cons ⟨_, rfl⟩ (.cons ru .nil), ?_⟩
      exact ⟨_, T2, rfl, _, rfl⟩
    have Iv2 : Inv X pins σ (upd H z.heap.objs.size (.tup [.int (n : Nat), y])) { z with heap := h2, toks := tk + 1 } :=
      Iv.turnedNew (ch := [e, j]) (fun b ob hb q => by
        have b1 : b ≠ e := fun q => hb (q ▸ List.mem_cons_self)
        have b2 : b ≠ j := fun q => hb (q ▸ List.mem_cons_of_mem _ List.mem_cons_self)
        exact (sb.2 b b1).trans (kp b ob b1 b2 q)) fr (Nat.le_refl _) ok
    refine ⟨.ref z.heap.objs.size, _, Iv2, rfl, ⟨_, y, rfl, Iv.hok.fresh (Nat.le_refl _), rfl, fun ys sq2 => ?_⟩, ⟨⟨x, ?_⟩, sj.1.at fun o q => (sb.2 j (Ne.symm ne)).trans q, ne⟩, fun b hb => ?_⟩
    · rw [Iv.tuple_inj sq2 sq]; exact ey
    · rw [show ((n + 1 : Nat) : Int) = (n : Int) + 1 by omega]
      exact ie2
    · have bl : b < z.heap.objs.size := by
        rcases List.mem_cons.mp hb with rfl | hb
        · exact le
        · rw [List.mem_singleton.mp hb]; exact lj
      rw [upd_ne (Nat.ne_of_lt bl)]
      exact (fr b hb).1
  done := by
    intro X eP ew eK cal n pins z σ H Ex Iv fr sts stp
    subst eP ew eK
    obtain ⟨⟨old, ie⟩, ij, ne⟩ := sts
    obtain ⟨vs, sq, ll⟩ := stp
    obtain ⟨its, rl, tp', _⟩ := Iv.tuple sq
    obtain ⟨f0, f1, f2, f3, f4, f5⟩ := fr j (by simp)
    have hl := rl.length
    obtain ⟨to, t1, t2, t3⟩ := id tp'
    have nej : a ≠ j := fun q => by
      subst q
      obtain ⟨_, q1, q2, _⟩ := ij
      rw [t1] at q1
      cases q1
      have q3 := t2.symm.trans q2
      simp at q3
    have Dt := Draws.tuple (prog := X.prog) (w := X.w) (A := X.A.in1) (Iv.ok.hd cal) j a nej its.toArray
    -- the end, wherever the count stands
    have ends : wpAny (model X.prog X.w) X.A (pyNext (.ref e)) (fun r s1 => r = none ∧ Inv X pins σ H s1) Ex z := by
      have Ty : z.TypeIs (.ref e) "enumerate" := ⟨_, ie, rfl⟩
      unfold pyNext
      refine wpAny_bind (wpAny_attempt (wpAny_callSpecial?_slot (name := Str.ofString "__next__") Ty F.slot_enumerate_next (wpAny_call_entry F.slot_enumerate_next Ty F.entry_enumerate_next ?_ (F.args_enumerate_next_1 _))))
      show wpAny _ _ (field (.ref e) 2 >>= _) _ _ _
      refine wpAny_bind (wpAny_field ie rfl (x := .ref j) rfl ?_)
      refine wpAny_bind (wpAny_nextOf_tuple_end (Iv.ok.hd cal) ij tp' (by simp; omega) fun h2 x eb sx => ?_)
      obtain ⟨o, so, co⟩ := sx
      refine wpAny_bind (wpAny_isInstance (T := "StopIteration") (b := true) ⟨o, so, co⟩ isSubtype_stop (wpAny_pure ?_))
      exact ⟨rfl, Iv.turned (t' := z.toks) (fun b o hb q => eb b o hb q) f0 f1 f3 f4 f5⟩
    exact ends
  self := fun A n z Qq Ex sts hq => wpAny_pyIter_enum sts.1.choose_spec hq
def iEn (K : PySem.W.Frag) (ta : TA) : TI := fun σ H R => ta σ H fun vs H1 => ∃ a xs, vs = [.ref a] ∧ (SqL K H1 a xs ∧ R (Ite K a) H1 ∨ SqT K H1 a xs ∧ R (IteT K a) H1)
theorem pi_en {X : Cx} {e : Expr} {ta : TA} {p pos tpos : Pos} {elts : List Expr} {kk : Nat} (hg : Gl X "enumerate") (hm : X.mg "enumerate" = none) (ha : PA X [e] ta) (hs : starEach [e] X.env = [(false, eval e X.env)]) :
    PI X (.Tuple elts kk tpos) (.Call (.Name "enumerate" p) [e] [] pos) (iEn X.K ta) := by
  refine ⟨fun pins z σ H R Iv hw => ?_⟩
  refine Call_ (ld_blt Iv hg hm boot_enumerate (callWith_type1 (thn (ha.run pos pins z σ H _ Iv hw) fun us s1 ⟨vs, H1, I1, r1, a, xs, ev, q⟩ => ?_) hs rfl))
  subst ev
  cases r1 with
  | cons r0 rr =>
    cases rr
    cases r0
    have fresh : ∀ b ∈ [s1.heap.objs.size + 1, s1.heap.objs.size], FpOk X pins H1 b := fun b hb => by
      have lb : s1.heap.objs.size ≤ b := by
        rcases List.mem_cons.mp hb with rfl | hb
        · omega
        · rw [List.mem_singleton.mp hb]; exact Nat.le_refl _
      exact I1.fpOk lb (I1.hok.fresh lb)
    rcases q with ⟨sq, q⟩ | ⟨sq, q⟩
    · obtain ⟨its, rv, pl, _⟩ := I1.list sq
      refine enumCall (begins_list a its.toArray) pl.isList fun h2 ie io kp => wpAny_pyIter_enum ie ?_
      exact ⟨s1.heap.objs.size + 1, [s1.heap.objs.size + 1, s1.heap.objs.size], _, _, H1, rfl, I1.kept (t' := s1.toks) kp, turn_enum a (s1.heap.objs.size + 1) s1.heap.objs.size, ⟨⟨.none, ie⟩, ⟨_, io, rfl, rfl⟩, Nat.succ_ne_self _⟩, fresh, q⟩
    · obtain ⟨its, rv, pl, _⟩ := I1.tuple sq
      refine enumCall (begins_tuple a its.toArray) pl fun h2 ie io kp => wpAny_pyIter_enum ie ?_
      exact ⟨s1.heap.objs.size + 1, [s1.heap.objs.size + 1, s1.heap.objs.size], _, _, H1, rfl, I1.kept (t' := s1.toks) kp, turn_enT a (s1.heap.objs.size + 1) s1.heap.objs.size, ⟨⟨.none, ie⟩, ⟨_, io, rfl, rfl⟩, Nat.succ_ne_self _⟩, fresh, q⟩
end Pv
end

section
/-! PvF: targets, what is walked, comprehensions. -/
set_option autoImplicit false
namespace Pv
open PySem PySem.Spec PyProof.Rows L2

section
variable {C : Ct} {Ow : List Nat} {T : Hp} {F F' : Fz} {σe σe' : Sl} {g g' : G} {σ : L2.St} {H H' : Hp} {v : D} {x : V}
/-- a name is given a frozen value -/
theorem R.setS {i : Nat} (r : R C Ow T F σe g σ H) (hi : i ∉ Ow) (h : Rel C.K F v x) : R C Ow T F (σe.set i (some v)) g (σ.set i (some x)) H := by
  refine ⟨r.sub, r.sc, r.grow, r.new, r.keep, r.dnew, by rw [List.length_set, List.length_set]; exact r.len, fun j w e n => ?_, fun j w e n => ?_, fun j k a hj hk h1 h2 q1 q2 => ?_, r.dk, fun a o e => ?_, fun k a e z => by
    have ne : i ≠ k := fun y => hi (by rw [y]; exact z)
    rw [List.getElem?_set_ne ne]; exact r.slf k a e z, r.xf⟩
  · by_cases hj : j = i
    · subst hj
      have hl : j < σe.length := by
        have := (List.getElem?_eq_some_iff.mp e).1
        rwa [List.length_set] at this
      rw [List.getElem?_set_self hl] at e
      cases e
      exact ⟨x, by rw [List.getElem?_set_self (r.len ▸ hl)], h⟩
    · rw [List.getElem?_set_ne (Ne.symm hj)] at e
      obtain ⟨y, e1, e2⟩ := r.fz j w e n
      exact ⟨y, by rw [List.getElem?_set_ne (Ne.symm hj)]; exact e1, e2⟩
  · have hj : j ≠ i := fun z => hi (z ▸ n)
    rw [List.getElem?_set_ne (Ne.symm hj)] at e
    obtain ⟨a, e1, e2⟩ := r.ow j w e n
    exact ⟨a, by rw [List.getElem?_set_ne (Ne.symm hj)]; exact e1, e2⟩
  · have hj' : j ≠ i := fun z => hi (z ▸ hj)
    have hk' : k ≠ i := fun z => hi (z ▸ hk)
    rw [List.getElem?_set_ne (Ne.symm hj')] at h1 q1
    rw [List.getElem?_set_ne (Ne.symm hk')] at h2 q2
    exact r.inj j k a hj hk h1 h2 q1 q2
  · obtain ⟨e1, e2, e3, e4, e5⟩ := r.hold a o e
    refine ⟨e1, e2, e3, e4, fun j w hj q => ?_⟩
    have hj' : j ≠ i := fun z => hi (z ▸ hj)
    rw [List.getElem?_set_ne (Ne.symm hj')] at q ⊢
    exact e5 j w hj q
/-- a name is forgotten -/
theorem R.wipe1 {i : Nat} (r : R C Ow T F σe g σ H) (hi : i ∉ Ow) : R C Ow T F (σe.set i none) g (σ.set i none) H := by
  refine ⟨r.sub, r.sc, r.grow, r.new, r.keep, r.dnew, by rw [List.length_set, List.length_set]; exact r.len, fun j w e n => ?_, fun j w e n => ?_, fun j k a hj hk h1 h2 q1 q2 => ?_, r.dk, fun a o e => ?_, fun k a e z => by
    have ne : i ≠ k := fun y => hi (by rw [y]; exact z)
    rw [List.getElem?_set_ne ne]; exact r.slf k a e z, r.xf⟩
  · by_cases hj : j = i
    · subst hj
      rw [List.getElem?_set] at e
      simp at e
    · rw [List.getElem?_set_ne (Ne.symm hj)] at e
      obtain ⟨y, e1, e2⟩ := r.fz j w e n
      exact ⟨y, by rw [List.getElem?_set_ne (Ne.symm hj)]; exact e1, e2⟩
  · have hj : j ≠ i := fun z => hi (z ▸ n)
    rw [List.getElem?_set_ne (Ne.symm hj)] at e
    obtain ⟨a, e1, e2⟩ := r.ow j w e n
    exact ⟨a, by rw [List.getElem?_set_ne (Ne.symm hj)]; exact e1, e2⟩
  · have hj' : j ≠ i := fun z => hi (z ▸ hj)
    have hk' : k ≠ i := fun z => hi (z ▸ hk)
    rw [List.getElem?_set_ne (Ne.symm hj')] at h1 q1
    rw [List.getElem?_set_ne (Ne.symm hk')] at h2 q2
    exact r.inj j k a hj hk h1 h2 q1 q2
  · obtain ⟨e1, e2, e3, e4, e5⟩ := r.hold a o e
    refine ⟨e1, e2, e3, e4, fun j w hj q => ?_⟩
    have hj' : j ≠ i := fun z => hi (z ▸ hj)
    rw [List.getElem?_set_ne (Ne.symm hj')] at q ⊢
    exact e5 j w hj q
theorem R.wipe (r : R C Ow T F σe g σ H) : ∀ t : List Nat, (∀ i ∈ t, i ∉ Ow) → R C Ow T F (wipeS σe t) g (L2.wipe σ t) H
  | [], _ => r
  | i :: t, h => (r.wipe t fun j hj => h j (List.mem_cons_of_mem _ hj)).wipe1 (h i List.mem_cons_self)
theorem wipe_set {i : Nat} {o : Option V} : ∀ {t : List Nat}, i ∈ t → L2.wipe (σ.set i o) t = L2.wipe σ t
  | j :: t, h => by
    show (L2.wipe (σ.set i o) t).set j none = (L2.wipe σ t).set j none
    by_cases hi : i ∈ t
    · rw [wipe_set hi]
    · have e : i = j := (List.mem_cons.mp h).resolve_right hi
      subst e
      have q : ∀ (t : List Nat) (s : L2.St), i ∉ t → L2.wipe (s.set i o) t = (L2.wipe s t).set i o := by
        intro t
        induction t with
        | nil => intro s _; rfl
        | cons k t ih =>
          intro s hk
          have h1 : i ≠ k := fun z => hk (z ▸ List.mem_cons_self)
          have h2 : i ∉ t := fun z => hk (List.mem_cons_of_mem _ z)
          show (L2.wipe (s.set i o) t).set k none = ((L2.wipe s t).set k none).set i o
          rw [ih s h2, List.set_comm _ _ h1]
      rw [q t σ hi, List.set_set]
theorem wipe_wipe : ∀ (t u : List Nat), (∀ i ∈ t, i ∈ u) → L2.wipe (L2.wipe σ t) u = L2.wipe σ u
  | [], u, _ => rfl
  | i :: t, u, h => by
    show L2.wipe ((L2.wipe σ t).set i none) u = _
    rw [wipe_set (h i List.mem_cons_self)]
    exact wipe_wipe t u fun j hj => h j (List.mem_cons_of_mem _ hj)
/-- the held thing is changed -/
theorem R.held {p : Addr} {o o' : HO} (r : R C Ow T F σe g σ H) (h : T p = some o) : R C Ow (upd T p o') F σe g σ (upd H p o') := by
  obtain ⟨e1, e2, e3, e4, e5⟩ := r.hold p o h
  refine ⟨fun a u q => ?_, r.sc, r.grow, r.new, fun a u q => ?_, r.dnew, r.len, r.fz, fun i w q n => ?_, r.inj, ?_, fun a u q => ?_, r.slf, r.xf⟩
  · have ne : a ≠ p := fun z => by rw [z, e3] at q; cases q
    rw [upd_ne ne]; exact r.sub a u q
  · have ne : a ≠ p := fun z => by rw [z, e2] at q; cases q
    rw [upd_ne ne]; exact r.keep a u q
  · obtain ⟨a, q1, q2, q3, q4, q5⟩ := r.ow i w q n
    have ne : a ≠ p := fun z => e5 i w n q (z ▸ q1)
    exact ⟨a, q1, q2.move (.refl F) fun u z => by rw [upd_ne ne]; exact z, q3, q4, q5⟩
  · have dk := r.dk
    cases g with
    | none => exact dk
    | some st =>
      obtain ⟨d, l, z, ne, f1, f2, hl, hd⟩ := dk
      have n1 : d ≠ p := fun y => e4 ⟨d, l, z, .inl y.symm⟩
      have n2 : l ≠ p := fun y => e4 ⟨d, l, z, .inr y.symm⟩
      exact ⟨d, l, z, ne, f1, f2, (upd_ne n2).trans hl, (upd_ne n1).trans hd⟩
  · by_cases ne : a = p
    · subst ne
      rw [upd_same] at q ⊢
      exact ⟨q, e2, e3, e4, e5⟩
    · rw [upd_ne ne] at q
      rw [upd_ne ne]
      exact r.hold a u q
/-- a new thing is held -/
theorem R.take {p : Addr} {o : HO} (r : R C Ow T F σe g σ H) (n : H p = none) : R C Ow (upd T p o) F σe g σ (upd H p o) := by
  have r1 := r.grown (o := o) n
  refine ⟨r1.sub, r1.sc, r1.grow, r1.new, r1.keep, r1.dnew, r1.len, r1.fz, r1.ow, r1.inj, r1.dk, fun a u q => ?_, r1.slf, r1.xf⟩
  by_cases ne : a = p
  · subst ne
    rw [upd_same] at q ⊢
    refine ⟨q, r.h0 n, r.fn n, r.ndk n, fun i w hi e z => ?_⟩
    obtain ⟨b, q1, q2, _⟩ := r.ow i w e hi
    rw [q1] at z
    have z : V.ref b = V.ref a := Option.some.inj (Option.some.inj z)
    cases z
    obtain ⟨o', eo⟩ := q2.there
    rw [n] at eo; cases eo
  · rw [upd_ne ne] at q
    exact r1.hold a u q
/-- .. and let go -/
theorem R.letgo {T' : Hp} (r : R C Ow T' F σe g σ H) (h : ∀ a o, T a = some o → T' a = some o) : R C Ow T F σe g σ H :=
  ⟨r.sub, r.sc, r.grow, r.new, r.keep, r.dnew, r.len, r.fz, r.ow, r.inj, r.dk, fun a o e => r.hold a o (h a o e), r.slf, r.xf⟩
end

/-! ### targets -/
def gS (C : Ct) (Ow : List Nat) (t : List Nat) : TG := fun x σ H Q => ∃ T F σe g v σe', R C Ow T F σe g σ H ∧ Rel C.K F v x ∧ setT t v σe = some σe' ∧ ∀ σ', R C Ow T F σe' g σ' H → L2.wipe σ' t = L2.wipe σ t → Q σ' H
structure Eg (X : Cx) (C : Ct) (Ow : List Nat) (tg : Expr) (t : List Nat) : Prop where
  run : PG X tg (gS C Ow t)
def gSs (C : Ct) (Ow : List Nat) (t : List Nat) : TGs := fun xs σ H Q => ∃ T F σe g vs σe', R C Ow T F σe g σ H ∧ RelL C.K F vs xs ∧ setMany t vs σe = some σe' ∧ ∀ σ', R C Ow T F σe' g σ' H → (∀ u, (∀ i ∈ t, i ∈ u) → L2.wipe σ' u = L2.wipe σ u) → Q σ' H
structure Egs (X : Cx) (C : Ct) (Ow : List Nat) (ts : List Expr) (t : List Nat) : Prop where
  run : PGs X ts (gSs C Ow t)
theorem pg_con {X : Cx} {e : Expr} {t t' : TG} (h : PG X e t) (c : ∀ x σ H Q, t' x σ H Q → t x σ H Q) : PG X e t' := ⟨fun pins s σ H v u Q I r hw => h.run pins s σ H v u Q I r (c v σ H Q hw)⟩
theorem pgs_con {X : Cx} {e : List Expr} {t t' : TGs} (h : PGs X e t) (c : ∀ x σ H Q, t' x σ H Q → t x σ H Q) : PGs X e t' := ⟨fun pins s σ H v u Q I r hw => h.run pins s σ H v u Q I r (c v σ H Q hw)⟩
section
variable {X : Cx} {C : Ct} {Ow : List Nat} {pos : Pos}
theorem Eg.name {x : Str} (i : Nat) (hi : i ∉ Ow) (hN : X.N.Nodup) (hx : X.N[i]? = some x) (hl : Loc X.env.scope x) (hf : X.fn x = true ∨ X.env.scope.names.lookup x = some .local) : Eg X C Ow (.Name x pos) [i] :=
  ⟨pg_con (pg_name hN hx hl hf) fun x σ H Q ⟨T, F, σe, g, v, σe', r, h, e, q⟩ => by
    cases e
    exact q _ (r.setS hi h) (wipe_set List.mem_cons_self)⟩
theorem Egs.nil : Egs X C Ow [] [] := ⟨pgs_con pgs_nil fun xs σ H Q ⟨T, F, σe, g, vs, σe', r, h, e, q⟩ => by
  cases vs with
  | nil => cases e; rw [h.inv0]; exact ⟨rfl, q σ r fun _ _ => rfl⟩
  | cons _ _ => cases e⟩
theorem Egs.cons {e : Expr} {es : List Expr} {i : Nat} {t : List Nat} (h1 : Eg X C Ow e [i]) (h2 : Egs X C Ow es t) (hs : (assignEach (e :: es) X.env).map (·.2) = assign e X.env :: (assignEach es X.env).map (·.2)) : Egs X C Ow (e :: es) (i :: t) :=
  ⟨pgs_con (pgs_cons h1.run h2.run hs) fun xs σ H Q ⟨T, F, σe, g, vs, σe', r, h, em, q⟩ => by
    cases vs with
    | nil => cases em
    | cons v vs =>
      obtain ⟨y, yr, rfl, e1, e2⟩ := h.inv
      exact ⟨y, yr, rfl, T, F, σe, g, v, _, r, e1, rfl, fun σ1 r1 w1 => ⟨T, F, _, g, vs, σe', r1, e2, em, fun σ2 r2 w2 => q σ2 r2 fun u hu => by
        rw [w2 u fun j hj => hu j (List.mem_cons_of_mem _ hj)]
        have w : L2.wipe (L2.wipe σ1 [i]) u = L2.wipe (L2.wipe σ [i]) u := by rw [w1]
        rw [wipe_wipe _ _ (fun j hj => hu j (by rw [List.mem_singleton.mp hj]; exact List.mem_cons_self)), wipe_wipe _ _ (fun j hj => hu j (by rw [List.mem_singleton.mp hj]; exact List.mem_cons_self))] at w
        exact w⟩⟩⟩
/-- a tuple or a list, unpacked -/
theorem pg_seq {es : List Expr} {k : Nat} {t : TGs} {n : Nat} (hc : X.calm = true) (h : PGs X es t)
    (hn : (assignEach es X.env).length = n) (hst : (assignEach es X.env).findIdx? (·.1) = none) : PG X (.Tuple es k pos) (fun v σ H Q => gTup X.K n t v σ H Q ∨ gUnl X.K n t v σ H Q) :=
  ⟨fun pins s σ H v u Q I r hw => hw.elim ((pg_tup hc h hn hst).run pins s σ H v u Q I r) ((pg_unl hc h hn hst).run pins s σ H v u Q I r)⟩
theorem Eg.tup {es : List Expr} {k : Nat} {t : List Nat} (hK : X.K = C.K) (hc : X.calm = true) (h : Egs X C Ow es t) (hl : 2 ≤ t.length) (hn : (assignEach es X.env).length = t.length) (hst : (assignEach es X.env).findIdx? (·.1) = none) : Eg X C Ow (.Tuple es k pos) t :=
  ⟨pg_con (pg_seq (n := t.length) hc h.run hn hst) fun x σ H Q ⟨T, F, σe, g, v, σe', r, h, em, q⟩ => by
    have len : ∀ (t : List Nat) (vs : List D) (σe σe' : Sl), setMany t vs σe = some σe' → t.length = vs.length := by
      intro t
      induction t with
      | nil => intro vs σe σe' e; cases vs with
        | nil => rfl
        | cons _ _ => cases e
      | cons i t ih => intro vs σe σe' e; cases vs with
        | nil => cases e
        | cons v vs => rw [List.length_cons, List.length_cons, ih vs _ _ e]
    have two : (∃ vs, v = .tuple vs ∧ setMany t vs σe = some σe') ∨ ∃ vs, v = .list vs ∧ setMany t vs σe = some σe' := by
      unfold setT at em
      split at em
      · simp at hl
      · exact .inl ⟨_, rfl, em⟩
      · exact .inr ⟨_, rfl, em⟩
      · cases em
    clear em
    rcases two with ⟨vs, rfl, em2⟩ | ⟨vs, rfl, em2⟩
    · left
      unfold Rel at h
      obtain ⟨a, us, rfl, hq, rl⟩ := h
      refine ⟨a, us, rfl, ?_, ?_, T, F, σe, g, vs, σe', r, rl, em2, fun σ' r' w => q σ' r' (w t fun _ h => h)⟩
      · rw [hK]; exact sqT_mono r.sub hq
      · rw [← rl.length]; exact (len t vs σe σe' em2).symm
    · right
      unfold Rel at h
      obtain ⟨a, us, rfl, hq, rl⟩ := h
      refine ⟨a, us, rfl, .of (r.sub _ _ hq), ?_, T, F, σe, g, vs, σe', r, rl, em2, fun σ' r' w => q σ' r' (w t fun _ h => h)⟩
      rw [← rl.length]; exact (len t vs σe σe' em2).symm⟩
end

/-! ### names in groups -/
section
variable {X : Cx} {C : Ct} {Ow : List Nat} {pos : Pos}
def gSg (C : Ct) (Ow : List Nat) (ts : List (List Nat)) : TGs := fun xs σ H Q => ∃ T F σe g vs σe', R C Ow T F σe g σ H ∧ RelL C.K F vs xs ∧ setGs ts vs σe = some σe' ∧ ∀ σ', R C Ow T F σe' g σ' H → Q σ' H
structure Egg (X : Cx) (C : Ct) (Ow : List Nat) (es : List Expr) (ts : List (List Nat)) : Prop where
  run : PGs X es (gSg C Ow ts)
def gG (C : Ct) (Ow : List Nat) (ts : List (List Nat)) : TG := fun x σ H Q => ∃ T F σe g v σe', R C Ow T F σe g σ H ∧ Rel C.K F v x ∧ setG ts v σe = some σe' ∧ ∀ σ', R C Ow T F σe' g σ' H → Q σ' H
structure EgG (X : Cx) (C : Ct) (Ow : List Nat) (tg : Expr) (ts : List (List Nat)) : Prop where
  run : PG X tg (gG C Ow ts)
theorem Egg.nil : Egg X C Ow [] [] := ⟨pgs_con pgs_nil fun xs σ H Q ⟨T, F, σe, g, vs, σe', r, h, e, q⟩ => by
  cases vs with
  | nil => cases e; rw [h.inv0]; exact ⟨rfl, q σ r⟩
  | cons _ _ => cases e⟩
theorem Egg.cons {e : Expr} {es : List Expr} {t : List Nat} {ts : List (List Nat)} (h1 : Eg X C Ow e t) (h2 : Egg X C Ow es ts) (hs : (assignEach (e :: es) X.env).map (·.2) = assign e X.env :: (assignEach es X.env).map (·.2)) : Egg X C Ow (e :: es) (t :: ts) :=
  ⟨pgs_con (pgs_cons h1.run h2.run hs) fun xs σ H Q ⟨T, F, σe, g, vs, σe', r, h, em, q⟩ => by
    cases vs with
    | nil => cases em
    | cons v vs =>
      obtain ⟨y, yr, rfl, e1, e2⟩ := h.inv
      unfold setGs at em
      cases e3 : setT t v σe with
      | none => rw [e3] at em; cases em
      | some σ1 =>
        rw [e3] at em
        exact ⟨y, yr, rfl, T, F, σe, g, v, _, r, e1, e3, fun σ1' r1 w1 => ⟨T, F, _, g, vs, σe', r1, e2, em, fun σ2 r2 => q σ2 r2⟩⟩⟩
theorem EgG.tup {es : List Expr} {k : Nat} {ts : List (List Nat)} (hK : X.K = C.K) (hc : X.calm = true) (h : Egg X C Ow es ts) (hn : (assignEach es X.env).length = ts.length) (hst : (assignEach es X.env).findIdx? (·.1) = none) : EgG X C Ow (.Tuple es k pos) ts :=
  ⟨pg_con (pg_tup (n := ts.length) hc h.run hn hst) fun x σ H Q ⟨T, F, σe, g, v, σe', r, h, em, q⟩ => by
    have len : ∀ (ts : List (List Nat)) (vs : List D) (σe σe' : Sl), setGs ts vs σe = some σe' → ts.length = vs.length := by
      intro ts
      induction ts with
      | nil => intro vs σe σe' e; cases vs with
        | nil => rfl
        | cons _ _ => cases e
      | cons i t ih => intro vs σe σe' e; cases vs with
        | nil => cases e
        | cons v vs =>
          unfold setGs at e
          cases e3 : setT i v σe with
          | none => rw [e3] at e; cases e
          | some σ1 => rw [e3] at e; rw [List.length_cons, List.length_cons, ih vs _ _ e]
    have two : ∃ vs, v = .tuple vs ∧ setGs ts vs σe = some σe' := by
      unfold setG at em
      split at em
      · exact ⟨_, rfl, em⟩
      · cases em
    obtain ⟨vs, rfl, em2⟩ := two
    clear em
    unfold Rel at h
    obtain ⟨a, us, rfl, hq, rl⟩ := h
    refine ⟨a, us, rfl, ?_, ?_, T, F, σe, g, vs, σe', r, rl, em2, fun σ' r' => q σ' r'⟩
    · rw [hK]; exact sqT_mono r.sub hq
    · rw [← rl.length]; exact (len ts vs σe σe' em2).symm⟩
end
/-! ### what is walked -/
structure Walk (C : Ct) (F : Fz) (xs : List D) (J : It) : Prop where
  go : ∀ i F1 H, i < xs.length → Fsub F F1 → Same F1.h H → J.go i H
  stop : ∀ F1 H, Fsub F F1 → Same F1.h H → J.stop xs.length H
  yld : ∀ i d F1 H x H', xs[i]? = some d → Fsub F F1 → Same F1.h H → J.yld i H x H' → (H' = H ∧ Rel C.K F1 d x) ∨ ∃ p o, x = .ref p ∧ H p = none ∧ H' = upd H p o ∧ (F1.h p = none → Rel C.K (F1.put p o) d x)
theorem Walk.mono {C : Ct} {F F' : Fz} {xs : List D} {J : It} (w : Walk C F xs J) (s : Fsub F F') : Walk C F' xs J :=
  ⟨fun i F1 H h s1 => w.go i F1 H h (s.trans s1), fun F1 H s1 => w.stop F1 H (s.trans s1), fun i d F1 H x H' h s1 => w.yld i d F1 H x H' h (s.trans s1)⟩
abbrev Ms := Sl → G → Res (List D)
def tI (C : Ct) (Ow : List Nat) (m : Ms) : TI := fun σ H Rr => ∃ T F σe g xs g', R C Ow T F σe g σ H ∧ m σe g = .ok xs g' ∧ ∀ F' H' J, Fsub F F' → R C Ow T F' σe g' σ H' → Walk C F' xs J → Rr J H'
def itm (Φ : Fns) (k : Ik) (as : Exs) : Ms := fun σ g => (evs Φ as σ g).bind fun vs g => lift (itV k vs) g
structure Ei (X : Cx) (C : Ct) (Ow : List Nat) (tg iter : Expr) (k : Ik) (as : Exs) : Prop where
  run : PI X tg iter (tI C Ow (itm C.Φ k as))
theorem pi_con {X : Cx} {tg e : Expr} {t t' : TI} (h : PI X tg e t) (c : ∀ σ H Q, t' σ H Q → t σ H Q) : PI X tg e t' := ⟨fun pins s σ H Q I hw => h.run pins s σ H Q I (c σ H Q hw)⟩
theorem walk_list {C : Ct} {F : Fz} {xs : List D} {K : PySem.W.Frag} {a : Addr} {vs : List V} (hK : K = C.K) (h : F.h a = some (.lst vs)) (r : RelL C.K F xs vs) : Walk C F xs (Itl K a) := by
  refine ⟨fun i F1 H hi s sub => ?_, fun F1 H s sub => ?_, fun i d F1 H x H' hd s sub y => ?_⟩
  · obtain ⟨v, e, _⟩ := r.get (i := i) (d := xs[i]) (by simp [hi])
    exact ⟨vs, v, SqL.of (sub _ _ (s.h _ _ h)), e⟩
  · exact ⟨vs, SqL.of (sub _ _ (s.h _ _ h)), by rw [r.length]; exact Nat.le_refl _⟩
  · obtain ⟨e, y⟩ := y
    obtain ⟨v, e2, rv⟩ := r.get hd
    have z := y vs (SqL.of (sub _ _ (s.h _ _ h)))
    rw [e2] at z; cases z
    exact .inl ⟨e, rv.mono s _ _⟩
theorem walk_tup {C : Ct} {F : Fz} {xs : List D} {K : PySem.W.Frag} {a : Addr} {vs : List V} (hK : K = C.K) (h : F.h a = some (.tup vs)) (r : RelL C.K F xs vs) : Walk C F xs (Itt K a) := by
  subst hK
  refine ⟨fun i F1 H hi s sub => ?_, fun F1 H s sub => ?_, fun i d F1 H x H' hd s sub y => ?_⟩
  · obtain ⟨v, e, _⟩ := r.get (i := i) (d := xs[i]) (by simp [hi])
    exact ⟨vs, v, sqT_mono sub (s.h _ _ h), e⟩
  · exact ⟨vs, sqT_mono sub (s.h _ _ h), by rw [r.length]; exact Nat.le_refl _⟩
  · obtain ⟨e, y⟩ := y
    obtain ⟨v, e2, rv⟩ := r.get hd
    have z := y vs (sqT_mono sub (s.h _ _ h))
    rw [e2] at z; cases z
    exact .inl ⟨e, rv.mono s _ _⟩
theorem walk_rng {C : Ct} {F : Fz} {lo : Int} {n : Nat} : Walk C F (rangeD lo n) (Itr lo n) := by
  have hl : (rangeD lo n).length = n := by unfold rangeD; rw [List.length_map, List.length_range]
  refine ⟨fun i F1 H hi s sub => ?_, fun F1 H s sub => ?_, fun i d F1 H x H' hd s sub y => ?_⟩
  · rw [hl] at hi; exact hi
  · rw [hl]; exact Nat.le_refl n
  · obtain ⟨e, y⟩ := y
    have hi : i < n := by
      have := (List.getElem?_eq_some_iff.mp hd).1
      rwa [hl] at this
    unfold rangeD at hd
    rw [List.getElem?_map, List.getElem?_range hi] at hd
    cases hd
    exact .inl ⟨e, by rw [y]; exact rel_int⟩
theorem walk_down {C : Ct} {F : Fz} {lo : Int} {n : Nat} : Walk C F (downD lo n) (Itc lo (-1) n) := by
  have hl : (downD lo n).length = n := by unfold downD; rw [List.length_map, List.length_range]
  refine ⟨fun i F1 H hi s sub => ?_, fun F1 H s sub => ?_, fun i d F1 H x H' hd s sub y => ?_⟩
  · rw [hl] at hi; exact hi
  · rw [hl]; exact Nat.le_refl n
  · obtain ⟨e, y⟩ := y
    have hi : i < n := by
      have := (List.getElem?_eq_some_iff.mp hd).1
      rwa [hl] at this
    unfold downD at hd
    rw [List.getElem?_map, List.getElem?_range hi] at hd
    cases hd
    refine .inl ⟨e, ?_⟩
    rw [y, show lo + (i : Int) * -1 = lo - i by omega]
    exact rel_int
theorem walk_enum {C : Ct} {F : Fz} {xs : List D} {K : PySem.W.Frag} {a : Addr} {vs : List V} (h : F.h a = some (.lst vs)) (r : RelL C.K F xs vs) : Walk C F (xs.zipIdx.map fun p => .tuple [.int p.2, p.1]) (Ite K a) := by
  have hl : (xs.zipIdx.map fun p => (PyData.tuple [.int p.2, p.1] : D)).length = xs.length := by simp
  refine ⟨fun i F1 H hi s sub => ?_, fun F1 H s sub => ?_, fun i d F1 H x H' hd s sub y => ?_⟩
  · rw [hl] at hi
    obtain ⟨v, e, _⟩ := r.get (i := i) (d := xs[i]) (by simp [hi])
    exact ⟨vs, v, SqL.of (sub _ _ (s.h _ _ h)), e⟩
  · exact ⟨vs, SqL.of (sub _ _ (s.h _ _ h)), by rw [hl, r.length]; exact Nat.le_refl _⟩
  · obtain ⟨p, u, rfl, hn, e, y⟩ := y
    rw [List.getElem?_map, List.getElem?_zipIdx] at hd
    cases q : xs[i]? with
    | none => rw [q] at hd; cases hd
    | some d0 =>
      rw [q] at hd
      cases hd
      obtain ⟨v, e2, rv⟩ := r.get q
      have z := y vs (SqL.of (sub _ _ (s.h _ _ h)))
      rw [e2] at z; cases z
      refine .inr ⟨p, _, rfl, hn, e, fun hf => rel_tup hf (.cons ?_ (.cons (rv.mono s _ _) .nil))⟩
      simp only [Nat.zero_add]
      exact rel_int
theorem walk_enumT {C : Ct} {F : Fz} {xs : List D} {K : PySem.W.Frag} {a : Addr} {vs : List V} (hK : K = C.K) (h : F.h a = some (.tup vs)) (r : RelL C.K F xs vs) : Walk C F (xs.zipIdx.map fun p => .tuple [.int p.2, p.1]) (IteT K a) := by
  subst hK
  have hl : (xs.zipIdx.map fun p => (PyData.tuple [.int p.2, p.1] : D)).length = xs.length := by simp
  refine ⟨fun i F1 H hi s sub => ?_, fun F1 H s sub => ?_, fun i d F1 H x H' hd s sub y => ?_⟩
  · rw [hl] at hi
    obtain ⟨v, e, _⟩ := r.get (i := i) (d := xs[i]) (by simp [hi])
    exact ⟨vs, v, sqT_mono sub (s.h _ _ h), e⟩
  · exact ⟨vs, sqT_mono sub (s.h _ _ h), by rw [hl, r.length]; exact Nat.le_refl _⟩
  · obtain ⟨p, u, rfl, hn, e, y⟩ := y
    rw [List.getElem?_map, List.getElem?_zipIdx] at hd
    cases q : xs[i]? with
    | none => rw [q] at hd; cases hd
    | some d0 =>
      rw [q] at hd
      cases hd
      obtain ⟨v, e2, rv⟩ := r.get q
      have z := y vs (sqT_mono sub (s.h _ _ h))
      rw [e2] at z; cases z
      refine .inr ⟨p, _, rfl, hn, e, fun hf => rel_tup hf (.cons ?_ (.cons (rv.mono s _ _) .nil))⟩
      simp only [Nat.zero_add]
      exact rel_int
theorem walk_zip {C : Ct} {F : Fz} {xs ys : List D} {K : PySem.W.Frag} {a b : Addr} {vs us : List V} (h : F.h a = some (.lst vs)) (r : RelL C.K F xs vs) (h2 : F.h b = some (.lst us)) (r2 : RelL C.K F ys us) : Walk C F ((xs.zip ys).map fun p => .tuple [p.1, p.2]) (Itz K a b) := by
  have hl : ((xs.zip ys).map fun p => (PyData.tuple [p.1, p.2] : D)).length = min xs.length ys.length := by simp
  refine ⟨fun i F1 H hi s sub => ?_, fun F1 H s sub => ?_, fun i d F1 H x H' hd s sub y => ?_⟩
  · rw [hl] at hi
    have i1 : i < xs.length := by omega
    have i2 : i < ys.length := by omega
    obtain ⟨v, e, _⟩ := r.get (i := i) (d := xs[i]) (by simp [i1])
    obtain ⟨u, e', _⟩ := r2.get (i := i) (d := ys[i]) (by simp [i2])
    exact ⟨vs, us, v, u, SqL.of (sub _ _ (s.h _ _ h)), SqL.of (sub _ _ (s.h _ _ h2)), e, e'⟩
  · refine ⟨vs, us, SqL.of (sub _ _ (s.h _ _ h)), SqL.of (sub _ _ (s.h _ _ h2)), ?_⟩
    rw [hl, ← r.length, ← r2.length]; omega
  · obtain ⟨p, u, u', rfl, hn, e, y, y'⟩ := y
    rw [List.getElem?_map] at hd
    cases q : (xs.zip ys)[i]? with
    | none => rw [q] at hd; cases hd
    | some d0 =>
      rw [q] at hd
      cases hd
      rw [List.getElem?_zip_eq_some] at q
      obtain ⟨v, e2, rv⟩ := r.get q.1
      obtain ⟨v', e2', rv'⟩ := r2.get q.2
      have z := y vs (SqL.of (sub _ _ (s.h _ _ h)))
      rw [e2] at z; cases z
      have z := y' us (SqL.of (sub _ _ (s.h _ _ h2)))
      rw [e2'] at z; cases z
      exact .inr ⟨p, _, rfl, hn, e, fun hf => rel_tup hf (.cons (rv.mono s _ _) (.cons (rv'.mono s _ _) .nil))⟩

/-! ### sources -/
section
variable {X : Cx} {C : Ct} {Ow : List Nat} {pos p : Pos} {tg e e2 : Expr} {i : Ex} {is : Exs}
/-- a list or a tuple -/
theorem pi_seq {tl : TE} (hl : PE X e tl) : PI X tg e (fun σ H Rr => tl σ H fun x H1 => (∃ a, x = .ref a ∧ (∃ xs, SqL X.K H1 a xs) ∧ Rr (Itl X.K a) H1) ∨ ∃ a, x = .ref a ∧ (∃ xs, SqT X.K H1 a xs) ∧ Rr (Itt X.K a) H1) := by
  refine ⟨fun pins s σ H R I h => ?_⟩
  refine thn (hl.run pins s σ H _ I h) fun v s1 ⟨x, H1, I1, r1, q1⟩ => ?_
  rcases q1 with ⟨a, e, ⟨xs, hq⟩, q⟩ | ⟨a, e, ⟨xs, hq⟩, q⟩
  · subst e
    cases r1
    obtain ⟨its, rv, p, hz⟩ := I1.list hq
    refine wpAny_pyIter_list p.isList ?_
    refine ⟨s1.heap.objs.size, [s1.heap.objs.size], _, _, H1, rfl, I1.kept (t' := s1.toks) fun b o e => Heap.get?_push_of_some _ e, turn_list a _, ⟨_, Heap.get?_push_size _ rfl, rfl, rfl⟩, fun b hb => ?_, q⟩
    have e : b = s1.heap.objs.size := by simpa using hb
    subst e
    exact I1.fpOk (Nat.le_refl _) (I1.hok.fresh (Nat.le_refl _))
  · subst e
    cases r1
    obtain ⟨its, rv, p, hz⟩ := I1.tuple hq
    refine wpAny_pyIter_tuple (show s1.heap.IsTuple a its.toArray from p) ?_
    refine ⟨s1.heap.objs.size, [s1.heap.objs.size], _, _, H1, rfl, I1.kept (t' := s1.toks) fun b o e => Heap.get?_push_of_some _ e, turn_tuple a _, ⟨_, Heap.get?_push_size _ rfl, rfl, rfl⟩, fun b hb => ?_, q⟩
    have e : b = s1.heap.objs.size := by simpa using hb
    subst e
    exact I1.fpOk (Nat.le_refl _) (I1.hok.fresh (Nat.le_refl _))
theorem itm1 {Φ : Fns} {k : Ik} {σe : Sl} {g g' : G} {xs : List D} (m : itm Φ k (.cons i .nil) σe g = .ok xs g') : ∃ v, ev Φ i σe g = .ok v g' ∧ itV k [v] = some xs := by
  unfold itm evs at m
  obtain ⟨vs, g1, m1, m⟩ := bind_eq_ok m
  obtain ⟨v, g2, m2, m1⟩ := bind_eq_ok m1
  obtain ⟨ws, g3, m3, m1⟩ := bind_eq_ok m1
  unfold evs at m3
  cases m3; cases m1
  obtain ⟨m4, e⟩ := lift_eq_ok m
  clear m
  subst e
  exact ⟨v, m2, m4⟩
theorem itm0 {Φ : Fns} {k : Ik} {σe : Sl} {g g' : G} {xs : List D} (m : itm Φ k is σe g = .ok xs g') : ∃ vs, evs Φ is σe g = .ok vs g' ∧ itV k vs = some xs := by
  unfold itm at m
  obtain ⟨vs, g1, m1, m2⟩ := bind_eq_ok m
  obtain ⟨m4, e⟩ := lift_eq_ok m2
  clear m m2
  subst e
  exact ⟨vs, m1, m4⟩
theorem itV_seq {v : D} {xs : List D} (h : itV .seq [v] = some xs) : v = .list xs ∨ v = .tuple xs := by
  cases v <;> simp [itV] at h
  · exact .inl (by rw [h])
  · exact .inr (by rw [h])
theorem itV_rng1 {vs xs : List D} (h : itV .rng1 vs = some xs) : ∃ j : Int, vs = [.int j] ∧ (-4611686018427387904 ≤ j ∧ j < 4611686018427387904) ∧ xs = rangeD 0 j.toNat := by
  rcases vs with _ | ⟨v, _ | ⟨w, r⟩⟩
  · simp [itV] at h
  · cases v <;> simp [itV] at h
    exact ⟨_, rfl, ⟨by omega, by omega⟩, h.2.symm⟩
  · simp [itV] at h
theorem itV_rngd {vs xs : List D} (h : itV .rngd vs = some xs) : ∃ i j : Int, vs = [.int i, .int j, .int (-1)] ∧ (-4611686018427387904 ≤ i ∧ i < 4611686018427387904 ∧ -4611686018427387904 ≤ j ∧ j < 4611686018427387904) ∧ xs = downD i (i - j).toNat := by
  rcases vs with _ | ⟨v, _ | ⟨w, _ | ⟨u, _ | ⟨u2, r⟩⟩⟩⟩
  · simp [itV] at h
  · simp [itV] at h
  · simp [itV] at h
  · cases v <;> cases w <;> cases u <;> simp [itV] at h
    obtain ⟨⟨h1, h2⟩, h3⟩ := h
    subst h2
    exact ⟨_, _, rfl, ⟨by omega, by omega, by omega, by omega⟩, h3.symm⟩
  · simp [itV] at h
theorem itV_rng2 {vs xs : List D} (h : itV .rng2 vs = some xs) : ∃ i j : Int, vs = [.int i, .int j] ∧ (-4611686018427387904 ≤ i ∧ i < 4611686018427387904 ∧ -4611686018427387904 ≤ j ∧ j < 4611686018427387904) ∧ xs = rangeD i (j - i).toNat := by
  rcases vs with _ | ⟨v, _ | ⟨w, _ | ⟨u, r⟩⟩⟩
  · simp [itV] at h
  · simp [itV] at h
  · cases v <;> cases w <;> simp [itV] at h
    exact ⟨_, _, rfl, ⟨by omega, by omega, by omega, by omega⟩, h.2.symm⟩
  · simp [itV] at h
theorem itV_enum {vs xs : List D} (h : itV .enum vs = some xs) : ∃ ys, (vs = [.list ys] ∨ vs = [.tuple ys]) ∧ xs = ys.zipIdx.map fun p => .tuple [.int p.2, p.1] := by
  rcases vs with _ | ⟨v, _ | ⟨w, r⟩⟩
  · simp [itV] at h
  · cases v <;> simp [itV] at h
    · exact ⟨_, .inl rfl, h.symm⟩
    · exact ⟨_, .inr rfl, h.symm⟩
  · simp [itV] at h
theorem itV_zip {vs xs : List D} (h : itV .zip vs = some xs) : ∃ ys zs, vs = [.list ys, .list zs] ∧ xs = (ys.zip zs).map fun p => .tuple [p.1, p.2] := by
  rcases vs with _ | ⟨v, _ | ⟨w, _ | ⟨u, r⟩⟩⟩
  · simp [itV] at h
  · simp [itV] at h
  · cases v <;> cases w <;> simp [itV] at h
    exact ⟨_, _, rfl, h.2.symm⟩
  · simp [itV] at h
theorem Ei.seq (hK : X.K = C.K) (h : Es X C Ow e i) : Ei X C Ow tg e .seq (.cons i .nil) :=
  ⟨pi_con (pi_seq h.run) fun σ H Q ⟨T, F, σe, g, xs, g', r, m, q⟩ => by
    obtain ⟨v, m1, m2⟩ := itm1 m
    refine ⟨T, F, σe, g, v, g', r, m1, fun F1 H1 x s1 r1 h1 => ?_⟩
    rcases itV_seq m2 with e | e
    · subst e
      unfold Rel at h1
      obtain ⟨a, vs, rfl, ha, rl⟩ := h1
      exact .inl ⟨a, rfl, ⟨vs, SqL.of (r1.sub _ _ ha)⟩, q F1 H1 _ s1 r1 (walk_list hK ha rl)⟩
    · subst e
      unfold Rel at h1
      obtain ⟨a, vs, rfl, ha, rl⟩ := h1
      exact .inr ⟨a, rfl, ⟨vs, by rw [hK]; exact sqT_mono r1.sub ha⟩, q F1 H1 _ s1 r1 (walk_tup hK ha rl)⟩⟩
theorem Ei.rng1 (hg : Gl X "range") (hm : X.mg "range" = none) (ha : Ea X C Ow [e] is) (hs : starEach [e] X.env = [(false, eval e X.env)]) : Ei X C Ow tg (.Call (.Name "range" p) [e] [] pos) .rng1 is :=
  ⟨pi_con (pi_range1 hg hm ha.run hs) fun σ H Q ⟨T, F, σe, g, xs, g', r, m, q⟩ => by
    obtain ⟨vs, m1, m2⟩ := itm0 m
    obtain ⟨j, e1, hc, e2⟩ := itV_rng1 m2
    subst e1; subst e2
    refine ⟨T, F, σe, g, _, g', r, m1, fun F1 H1 ys s1 r1 h1 => ?_⟩
    obtain ⟨y, yr, rfl, e1, e2⟩ := h1.inv
    unfold Rel at e1
    rw [e1, e2.inv0]
    exact ⟨j, rfl, by omega, by omega, q F1 H1 _ s1 r1 walk_rng⟩⟩
theorem Ei.rng2 (hg : Gl X "range") (hm : X.mg "range" = none) (ha : Ea X C Ow [e, e2] is) (hs : starEach [e, e2] X.env = [(false, eval e X.env), (false, eval e2 X.env)]) (hs2 : starEach [e2] X.env = [(false, eval e2 X.env)]) : Ei X C Ow tg (.Call (.Name "range" p) [e, e2] [] pos) .rng2 is :=
  ⟨pi_con (pi_range2 hg hm ha.run hs hs2) fun σ H Q ⟨T, F, σe, g, xs, g', r, m, q⟩ => by
    obtain ⟨vs, m1, m2⟩ := itm0 m
    obtain ⟨j, k, e1, hc, e2⟩ := itV_rng2 m2
    subst e1; subst e2
    refine ⟨T, F, σe, g, _, g', r, m1, fun F1 H1 ys s1 r1 h1 => ?_⟩
    obtain ⟨y, yr, rfl, e1, e2⟩ := h1.inv
    obtain ⟨z, zr, rfl, e3, e4⟩ := e2.inv
    unfold Rel at e1 e3
    rw [e1, e3, e4.inv0]
    exact ⟨j, k, rfl, ⟨by omega, by omega, by omega, by omega⟩, q F1 H1 _ s1 r1 walk_rng⟩⟩
theorem Ei.rngd {e3 : Expr} (hg : Gl X "range") (hm : X.mg "range" = none) (ha : Ea X C Ow [e, e2, e3] is) (hs : starEach [e, e2, e3] X.env = (false, eval e X.env) :: starEach [e2, e3] X.env) (hpl : (backTo pos (starEach [e2, e3] X.env)).any (·.1) = false) : Ei X C Ow tg (.Call (.Name "range" p) [e, e2, e3] [] pos) .rngd is :=
  ⟨pi_con (pi_range3 hg hm ha.run hs hpl) fun σ H Q ⟨T, F, σe, g, xs, g', r, m, q⟩ => by
    obtain ⟨vs, m1, m2⟩ := itm0 m
    obtain ⟨j, k, e1, hc, e2⟩ := itV_rngd m2
    subst e1; subst e2
    refine ⟨T, F, σe, g, _, g', r, m1, fun F1 H1 ys s1 r1 h1 => ?_⟩
    obtain ⟨y, yr, rfl, e1, e2⟩ := h1.inv
    obtain ⟨z, zr, rfl, e3, e4⟩ := e2.inv
    obtain ⟨w, wr, rfl, e5, e6⟩ := e4.inv
    unfold Rel at e1 e3 e5
    rw [e1, e3, e5, e6.inv0]
    exact ⟨j, k, -1, _, rfl, .neg (by omega) (by omega) (by omega) (by omega), q F1 H1 _ s1 r1 walk_down⟩⟩
theorem Ei.enum {elts : List Expr} {kk : Nat} {tpos : Pos} (hK : X.K = C.K) (hg : Gl X "enumerate") (hm : X.mg "enumerate" = none) (ha : Ea X C Ow [e] is) (hs : starEach [e] X.env = [(false, eval e X.env)]) : Ei X C Ow (.Tuple elts kk tpos) (.Call (.Name "enumerate" p) [e] [] pos) .enum is :=
  ⟨pi_con (pi_en hg hm ha.run hs) fun σ H Q ⟨T, F, σe, g, xs, g', r, m, q⟩ => by
    obtain ⟨vs, m1, m2⟩ := itm0 m
    obtain ⟨ds, e1, e2⟩ := itV_enum m2
    subst e2
    refine ⟨T, F, σe, g, _, g', r, m1, fun F1 H1 ys s1 r1 h1 => ?_⟩
    rcases e1 with rfl | rfl
    · obtain ⟨y, yr, rfl, e1, e2⟩ := h1.inv
      unfold Rel at e1
      obtain ⟨a, us, rfl, ha, rl⟩ := e1
      rw [e2.inv0]
      exact ⟨a, us, rfl, .inl ⟨SqL.of (r1.sub _ _ ha), q F1 H1 _ s1 r1 (walk_enum ha rl)⟩⟩
    · obtain ⟨y, yr, rfl, e1, e2⟩ := h1.inv
      unfold Rel at e1
      obtain ⟨a, us, rfl, ha, rl⟩ := e1
      rw [e2.inv0]
      exact ⟨a, us, rfl, .inr ⟨by rw [hK]; exact sqT_mono r1.sub ha, q F1 H1 _ s1 r1 (walk_enumT hK ha rl)⟩⟩⟩
theorem Ei.zip {elts : List Expr} {kk : Nat} {tpos : Pos} (hK : X.K = C.K) (hg : Gl X "zip") (hm : X.mg "zip" = none) (ha : Ea X C Ow [e, e2] is) (hs : starEach [e, e2] X.env = (false, eval e X.env) :: starEach [e2] X.env) (hpl : (backTo pos (starEach [e2] X.env)).any (·.1) = false) : Ei X C Ow (.Tuple elts kk tpos) (.Call (.Name "zip" p) [e, e2] [] pos) .zip is :=
  ⟨pi_con (pi_zip hg hm ha.run hs hpl) fun σ H Q ⟨T, F, σe, g, xs, g', r, m, q⟩ => by
    obtain ⟨vs, m1, m2⟩ := itm0 m
    obtain ⟨ds, es, e1, e2⟩ := itV_zip m2
    subst e1; subst e2
    refine ⟨T, F, σe, g, _, g', r, m1, fun F1 H1 ys s1 r1 h1 => ?_⟩
    obtain ⟨y, yr, rfl, e1, e2⟩ := h1.inv
    obtain ⟨z, zr, rfl, e3, e4⟩ := e2.inv
    unfold Rel at e1 e3
    obtain ⟨a, us, rfl, ha, rl⟩ := e1
    obtain ⟨b, ws, rfl, hb, rl2⟩ := e3
    rw [e4.inv0]
    exact ⟨a, b, us, ws, rfl, SqL.of (r1.sub _ _ ha), SqL.of (r1.sub _ _ hb), q F1 H1 _ s1 r1 (walk_zip ha rl hb rl2)⟩⟩

/-! ### comprehensions -/
/-- the tests of a clause: none, or one -/
structure Ec (X : Cx) (C : Ct) (Ow : List Nat) (ifs : List Expr) (i : Ex) : Prop where
  run : PTs X ifs (tT C Ow (ev C.Φ i))
theorem pts_con {X : Cx} {es : List Expr} {t t' : TT} (h : PTs X es t) (c : ∀ σ H Q, t' σ H Q → t σ H Q) : PTs X es t' := ⟨fun pins s σ H Q I hw => h.run pins s σ H Q I (c σ H Q hw)⟩
theorem Ec.none : Ec X C Ow [] (.c (.bool true)) := ⟨pts_con pts_nil fun σ H Q ⟨T, F, σe, g, b, g', r, m, q⟩ => by
  unfold ev at m
  cases m
  exact q F H (.refl F) r⟩
theorem Ec.one (h : Et X C Ow e i) : Ec X C Ow [e] i := ⟨pts_one h.run⟩
/-- what a turn of a comprehension reckons -/
def cturn (Φ : Fns) (t : List Nat) (cond elt : Ex) (σ : Sl) : D → G → Res (Option D) := fun x g => (lift (setT t x (wipeS σ t)) g).bind fun σ' g => (ev Φ cond σ' g).bind fun b g => match b with
  | .bool true => (ev Φ elt σ' g).bind fun v g => .ok (some v) g
  | .bool false => .ok none g
  | _ => .no
theorem comp_eq {Φ : Fns} {t : List Nat} {k : Ik} {as : Exs} {cond elt : Ex} {σ : Sl} {g g' : G} {v : D} (m : ev Φ (.comp t k as cond elt) σ g = .ok v g') :
    ∃ xs ys g1, itm Φ k as σ g = .ok xs g1 ∧ xs.length ≤ lineN ∧ compL (cturn Φ t cond elt σ) xs [] g1 = .ok ys g' ∧ v = .list ys := by
  unfold ev at m
  obtain ⟨vs, g1, m1, m⟩ := bind_eq_ok m
  obtain ⟨xs, g2, m2, m⟩ := bind_eq_ok m
  split at m
  · rename_i hl
    obtain ⟨ys, g3, m3, m⟩ := bind_eq_ok m
    cases m
    refine ⟨xs, ys, g2, ?_, of_decide_eq_true hl, m3, rfl⟩
    unfold itm
    rw [m1]; exact m2
  · cases m
theorem compL_len (f : D → G → Res (Option D)) : ∀ (xs acc : List D) (g g' : G) (ys : List D), compL f xs acc g = .ok ys g' → ys.length ≤ acc.length + xs.length
  | [], acc, g, g', ys, h => by
    unfold compL at h
    cases h
    rw [List.length_reverse]; exact Nat.le_add_right _ _
  | x :: r, acc, g, g', ys, h => by
    unfold compL at h
    obtain ⟨o, g1, h1, h⟩ := bind_eq_ok h
    cases o with
    | none => have := compL_len f r acc _ _ _ h; rw [List.length_cons]; omega
    | some y => have := compL_len f r _ _ _ _ h; rw [List.length_cons] at *; omega
theorem setMany_out : ∀ (t : List Nat) (vs : List D) (σ σ' : Sl) (i : Nat), setMany t vs σ = some σ' → i ∉ t → σ'[i]? = σ[i]?
  | [], [], σ, σ', i, h, _ => by cases h; rfl
  | [], _ :: _, σ, σ', i, h, _ => by cases h
  | _ :: _, [], σ, σ', i, h, _ => by cases h
  | j :: t, v :: vs, σ, σ', i, h, hi => by
    rw [setMany_out t vs _ _ i h fun z => hi (List.mem_cons_of_mem _ z)]
    exact List.getElem?_set_ne (fun z : j = i => hi (by rw [z]; exact List.mem_cons_self))
theorem setT_out {t : List Nat} {v : D} {σ σ' : Sl} {i : Nat} (h : setT t v σ = some σ') (hi : i ∉ t) : σ'[i]? = σ[i]? := by
  unfold setT at h
  split at h
  · cases h
    refine List.getElem?_set_ne fun z => hi ?_
    rw [z]; exact List.mem_cons_self
  · exact setMany_out _ _ _ _ _ h hi
  · exact setMany_out _ _ _ _ _ h hi
  · cases h
theorem wipeS_out {σ : Sl} {i : Nat} : ∀ {t : List Nat}, i ∉ t → (wipeS σ t)[i]? = σ[i]?
  | [], _ => rfl
  | j :: t, h => by
    show ((wipeS σ t).set j none)[i]? = _
    rw [List.getElem?_set_ne (show j ≠ i from fun z => h (by rw [z]; exact List.mem_cons_self))]
    exact wipeS_out fun z => h (List.mem_cons_of_mem _ z)
theorem wipe_out2 {σ : L2.St} {i : Nat} : ∀ {t : List Nat}, i ∉ t → (L2.wipe σ t)[i]? = σ[i]?
  | [], _ => rfl
  | j :: t, h => by
    show ((L2.wipe σ t).set j none)[i]? = _
    rw [List.getElem?_set_ne (show j ≠ i from fun z => h (by rw [z]; exact List.mem_cons_self))]
    exact wipe_out2 fun z => h (List.mem_cons_of_mem _ z)
/-- back to the slots as they stood, but for those of t -/
theorem R.back {T T' : Hp} {F F5 : Fz} {σe σ' : Sl} {g g5 : G} {σ σ2 : L2.St} {H H5 : Hp} {t : List Nat} (r : R C Ow T F σe g σ H) (r5 : R C Ow T' F5 σ' g5 σ2 H5) (s : Fsub F F5) (out : ∀ i, i ∉ t → σ'[i]? = σe[i]? ∧ σ2[i]? = σ[i]?) (ht : ∀ i ∈ t, i ∉ Ow) : R C Ow T' F5 σe g5 σ H5 := by
  have no : ∀ i, i ∈ Ow → i ∉ t := fun i hi z => ht i z hi
  refine ⟨r5.sub, r5.sc, r5.grow, r5.new, r5.keep, r5.dnew, r.len, fun i v e n => ?_, fun i v e n => ?_, fun i j a hi hj h1 h2 q1 q2 => ?_, r5.dk, fun a o e => ?_, r.slf, r5.xf⟩
  · obtain ⟨x, e1, e2⟩ := r.fz i v e n
    exact ⟨x, e1, e2.mono s _ _⟩
  · obtain ⟨o1, o2⟩ := out i (no i n)
    obtain ⟨a, e1, e2⟩ := r5.ow i v (o1.trans e) n
    exact ⟨a, o2.symm.trans e1, e2⟩
  · obtain ⟨o1, o2⟩ := out i (no i hi)
    obtain ⟨o3, o4⟩ := out j (no j hj)
    exact r5.inj i j a hi hj (by rw [o1]; exact h1) (by rw [o3]; exact h2) (o2.trans q1) (o4.trans q2)
  · obtain ⟨e1, e2, e3, e4, e5⟩ := r5.hold a o e
    refine ⟨e1, e2, e3, e4, fun j v hj q => ?_⟩
    obtain ⟨o1, o2⟩ := out j (no j hj)
    rw [← o2]
    exact e5 j v hj (o1.trans q)
/-- the reading of a comprehension -/
theorem lc_run {elt cond : Ex} {t : List Nat} {k : Ik} {is : Exs} {σ : L2.St} {H : Hp} {Q : VK} (ht : ∀ i ∈ t, i ∉ Ow) (h : tF C Ow (ev C.Φ (.comp t k is cond elt)) σ H Q) :
    tLc (tI C Ow (itm C.Φ k is)) (gS C Ow t) (tT C Ow (ev C.Φ cond)) (tS C Ow (ev C.Φ elt)) t σ H Q := by
  obtain ⟨T, F, σe, g, v, g', r, m, q⟩ := h
  obtain ⟨xs, ys, g1, m1, hl, m2, rfl⟩ := comp_eq m
  refine ⟨T, F, σe, g, xs, g1, r, m1, fun F1 H1 J s1 r1 w => fun D hD => ?_⟩
  refine ⟨fun i m H => ∃ F2 g2 acc vs, m + i = xs.length ∧ Fsub F1 F2 ∧ R C Ow (upd T D (.lst vs)) F2 σe g2 σ H ∧ RelL C.K F2 acc.reverse vs ∧ acc.length ≤ i ∧ compL (cturn C.Φ t cond elt σe) (xs.drop i) acc g2 = .ok ys g', ⟨xs.length, F1, g1, [], [], rfl, .refl _, r1.take hD, .nil, Nat.le_refl _, by rw [List.drop_zero]; exact m2⟩, ?_⟩
  rintro i m H ⟨F2, g2, acc, vs, hm, s2, r2, ra, hacc, hc⟩
  have holdD : (upd T D (.lst vs)) D = some (.lst vs) := upd_same
  have tD : T D = none := r1.tn hD
  by_cases hi : i < xs.length
  · refine .inr ⟨w.go i F2 H hi s2 r2.sub, fun H => ∃ m', m' < m ∧ (∃ F2 g2 acc vs, m' + (i + 1) = xs.length ∧ Fsub F1 F2 ∧ R C Ow (upd T D (.lst vs)) F2 σe g2 σ H ∧ RelL C.K F2 acc.reverse vs ∧ acc.length ≤ i + 1 ∧ compL (cturn C.Φ t cond elt σe) (xs.drop (i + 1)) acc g2 = .ok ys g'), fun H' h => h, fun x H' hy => ?_⟩
    have hd : xs[i]? = some xs[i] := List.getElem?_eq_getElem hi
    rw [List.drop_eq_getElem_cons hi] at hc
    unfold compL at hc
    obtain ⟨o, g3, hc1, hc2⟩ := bind_eq_ok hc
    unfold cturn at hc1
    obtain ⟨σ', g4, hc3, hc4⟩ := bind_eq_ok hc1
    obtain ⟨hc5, e⟩ := lift_eq_ok hc3
    subst e
    obtain ⟨b, g5, hc6, hc7⟩ := bind_eq_ok hc4
    -- the item
    obtain ⟨F3, s3, r3, rx⟩ : ∃ F3, Fsub F2 F3 ∧ R C Ow (upd T D (.lst vs)) F3 σe g4 σ H' ∧ Rel C.K F3 xs[i] x := by
      rcases w.yld i _ F2 H x H' hd s2 r2.sub hy with ⟨e, rx⟩ | ⟨p, o', rfl, hn, e, rx⟩
      · subst e; exact ⟨F2, .refl _, r2, rx⟩
      · subst e; exact ⟨F2.put p o', Fsub.put (r2.fn hn), r2.laid hn, rx (r2.fn hn)⟩
    refine ⟨_, F3, _, g4, xs[i], σ', r3.wipe t ht, rx, hc5, fun σ2 r4 w2 => ⟨by rw [w2, wipe_wipe t t fun _ h => h], ?_⟩⟩
    have out : ∀ i, i ∉ t → σ'[i]? = σe[i]? ∧ σ2[i]? = σ[i]? := fun i hi => ⟨(setT_out hc5 hi).trans (wipeS_out hi), by
      have z : (L2.wipe σ2 t)[i]? = (L2.wipe (L2.wipe σ t) t)[i]? := by rw [w2]
      rw [wipe_out2 hi, wipe_out2 hi, wipe_out2 hi] at z
      exact z⟩
    split at hc7
    · obtain ⟨y, g6, hc8, hc9⟩ := bind_eq_ok hc7
      injection hc9 with e1 e2
      subst e1; subst e2
      refine ⟨_, F3, σ', _, true, g5, r4, hc6, fun F5 H5 s5 r5 => iteT ⟨_, F5, σ', g5, y, _, r5, hc8, fun F6 H6 yv s6 r6 ry => ?_⟩⟩
      have r7 := r3.back (t := t) r6 (s5.trans s6) out ht
      have hh := r7.hold D _ holdD
      refine ⟨vs, hh.1, ?_, m - 1, by omega, F6, _, y :: acc, vs ++ [yv], by omega, s2.trans (s3.trans (s5.trans s6)), ?_, ?_, by rw [List.length_cons]; omega, hc2⟩
      · have e1 := ra.length
        rw [List.length_reverse] at e1
        rw [← e1]
        exact lineN_lt (by omega)
      · have z := r7.held (o' := .lst (vs ++ [yv])) holdD
        rw [upd_upd] at z
        exact z
      · rw [List.reverse_cons]
        exact (ra.mono (s3.trans (s5.trans s6)) _ _).append (.cons ry .nil)
    · cases hc7
      refine ⟨_, F3, σ', _, false, _, r4, hc6, fun F5 H5 s5 r5 => iteF ?_⟩
      have r7 := r3.back (t := t) r5 s5 out ht
      exact ⟨m - 1, by omega, F5, _, acc, vs, by omega, s2.trans (s3.trans s5), r7, ra.mono (s3.trans s5) _ _, by omega, hc2⟩
    · cases hc7
  · have e : i = xs.length := by omega
    subst e
    rw [List.drop_length] at hc
    unfold compL at hc
    cases hc
    refine .inl ⟨w.stop F2 H s2 r2.sub, ?_⟩
    have hh := r2.hold D _ holdD
    refine q F2 H D (s1.trans s2) (r2.letgo fun a o e => ?_) ⟨⟨vs, hh.1, ra⟩, hh.2.1, hh.2.2.1, hh.2.2.2.1, hh.2.2.2.2, tD⟩
    have ne : a ≠ D := fun z => by rw [z, tD] at e; cases e
    rw [upd_ne ne]; exact e
theorem Ef.comp {elt iter : Expr} {ifs : List Expr} {scope : Scope} {own : List (Str × Nat)} {t : List Nat} {k : Ik} {cond ei : Ex} (hc : X.calm = true) (hN : X.N.Nodup) (hi : Ei X C Ow tg iter k is) (ok : BlkOk X.N X.env.scope scope own) (hown : own.map (·.2) = t)
    (hg : ∀ (s : Shared) (H : Hp) (A : Addr) (cl : List (Str × Addr)) (fp : List Addr), Eg (X.blk s H scope (compEnvC scope cl A X.env) fp) C Ow tg t)
    (ht : ∀ (s : Shared) (H : Hp) (A : Addr) (cl : List (Str × Addr)) (fp : List Addr), Ec (X.blk s H scope (compEnvC scope cl A X.env) fp) C Ow ifs cond)
    (he : ∀ (s : Shared) (H : Hp) (A : Addr) (cl : List (Str × Addr)) (fp : List Addr), Es (X.blk s H scope (compEnvC scope cl A X.env) fp) C Ow elt ei)
    (hs : ∀ x, foldedSetIterable iter X.env x = pure x) (hno : ∀ i ∈ t, i ∉ Ow) : Ef X C Ow (.ListComp elt [⟨tg, iter, ifs, 0⟩] scope pos) (.comp t k is cond ei) :=
  ⟨pe_con (pe_lc hc hN hi.run ok (fun s H A cl fp => (hg s H A cl fp).run) (fun s H A cl fp => (ht s H A cl fp).run) (fun s H A cl fp => (he s H A cl fp).run) hs) fun σ H Q h => by
    rw [hown]
    exact lc_run hno h⟩
end
end Pv
end

section
/-! PvG: the rules for statements. -/
set_option autoImplicit false
namespace Pv
open PySem PySem.Spec PyProof.Rows L2

abbrev Mf := Sl → G → Res Fl
def EndOk (C : Ct) (W : WX) (T : Hp) (Ow' OwL : List Nat) (F : Fz) (g' : G) (D : Ends) : Fl → Prop
  | .nx σe' => ∀ F' σ' H', Fsub F F' → R C Ow' T F' σe' g' σ' H' → D.nx σ' H'
  | .bk σe' => ∀ F' σ' H', Fsub F F' → R C OwL T F' σe' g' σ' H' → D.bk σ' H'
  | .ct σe' => ∀ F' σ' H', Fsub F F' → R C OwL T F' σe' g' σ' H' → D.ct σ' H'
  | .rt v => ∀ F' Ow2 σe2 σ2 H' x, Fsub F F' → R C Ow2 T F' σe2 g' σ2 H' → Rel C.K F' v x → D.rt x H'
  | .ex σe' c vs => ∀ F' Ow2 σ' H' cls d, Fsub F F' → R C Ow2 T F' σe' g' σ' H' → XR C F' c vs cls d → W cls d σ' H'
def tSt (C : Ct) (W : WX) (Ow Ow' OwL : List Nat) (m : Mf) : TS := fun D σ H => ∃ T F σe g fl g', R C Ow T F σe g σ H ∧ m σe g = .ok fl g' ∧ EndOk C W T Ow' OwL F g' D fl
structure Ss (X : Cx) (C : Ct) (W : WX) (Ow Ow' OwL : List Nat) (st : Stmt) (m : Sm) : Prop where
  run : PS X st (tSt C W Ow Ow' OwL (run C.Φ C.fu m))
structure Sb (X : Cx) (C : Ct) (W : WX) (Ow Ow' OwL : List Nat) (sts : List Stmt) (m : Sm) : Prop where
  run : PSs X sts (tSt C W Ow Ow' OwL (Pv.run C.Φ C.fu m))
theorem EndOk.mono {C : Ct} {W : WX} {T : Hp} {Ow' OwL : List Nat} {F F1 : Fz} {g' : G} {D : Ends} (s : Fsub F F1) : ∀ {fl : Fl}, EndOk C W T Ow' OwL F g' D fl → EndOk C W T Ow' OwL F1 g' D fl
  | .nx _, h => fun F' σ' H' s' r => h F' σ' H' (s.trans s') r
  | .bk _, h => fun F' σ' H' s' r => h F' σ' H' (s.trans s') r
  | .ct _, h => fun F' σ' H' s' r => h F' σ' H' (s.trans s') r
  | .rt _, h => fun F' Ow2 σe2 σ2 H' x s' r q => h F' Ow2 σe2 σ2 H' x (s.trans s') r q
  | .ex _ _ _, h => fun F' Ow2 σ' H' cls d s' r q => h F' Ow2 σ' H' cls d (s.trans s') r q

section
variable {C : Ct} {Ow Ow2 : List Nat} {T : Hp} {F F' : Fz} {σe σe' : Sl} {g g' : G} {σ : L2.St} {H H' : Hp} {v v' : D} {x : V}
theorem R.congr (r : R C Ow T F σe g σ H) (h : ∀ j, j ∈ Ow ↔ j ∈ Ow2) : R C Ow2 T F σe g σ H :=
  ⟨r.sub, r.sc, r.grow, r.new, r.keep, r.dnew, r.len, fun i v e n => r.fz i v e fun z => n ((h i).mp z), fun i v e n => r.ow i v e ((h i).mpr n), fun i j a hi hj => r.inj i j a ((h i).mpr hi) ((h j).mpr hj), r.dk,
    fun a o e => let ⟨e1, e2, e3, e4, e5⟩ := r.hold a o e; ⟨e1, e2, e3, e4, fun i v hi => e5 i v ((h i).mpr hi)⟩, fun i a e z => r.slf i a e ((h i).mpr z), r.xf⟩
theorem R.dropAll : ∀ (L : List Nat) {F : Fz}, R C (L ++ Ow2) T F σe g σ H → ∃ F', Fsub F F' ∧ R C Ow2 T F' σe g σ H
  | [], F, r => ⟨F, .refl F, r⟩
  | i :: L, F, r => by
    by_cases h : i ∈ L ++ Ow2
    · have r' : R C (L ++ Ow2) T F σe g σ H := R.congr (Ow := i :: (L ++ Ow2)) r fun j => by
        rw [List.mem_cons]
        constructor
        · rintro (rfl | z)
          · exact h
          · exact z
        · exact .inr
      exact r'.dropAll L
    · have r0 : R C (i :: (L ++ Ow2)) T F σe g σ H := r
      obtain ⟨F1, s1, r1⟩ := r0.drop h
      obtain ⟨F2, s2, r2⟩ := r1.dropAll L
      exact ⟨F2, s1.trans s2, r2⟩
theorem R.less (r : R C Ow T F σe g σ H) (h : ∀ j ∈ Ow2, j ∈ Ow) : ∃ F', Fsub F F' ∧ R C Ow2 T F' σe g σ H :=
  R.dropAll Ow (r.congr fun j => by
    rw [List.mem_append]
    exact ⟨.inl, fun z => z.elim id (h j)⟩)
/-- what a name holds alone is changed -/
theorem R.write {i : Nat} {a : Addr} {o' : HO} (r : R C Ow T F σe g σ H) (hi : i ∈ Ow) (e : σe[i]? = some (some v)) (ea : σ[i]? = some (some (V.ref a))) (h : OwnAt C.K F (upd H a o') v' a) : R C Ow T F (σe.set i (some v')) g σ (upd H a o') := by
  obtain ⟨b, e1, e2, e3, e4, e5⟩ := r.ow i v e hi
  rw [ea] at e1
  have e1 : V.ref a = V.ref b := Option.some.inj (Option.some.inj e1)
  cases e1
  have hl : i < σe.length := (List.getElem?_eq_some_iff.mp e).1
  have there : ∀ {j : Nat}, (∃ w, (σe.set i (some v'))[j]? = some (some w)) → ∃ w, σe[j]? = some (some w) := fun {j} ⟨w, q⟩ => by
    by_cases hj : j = i
    · exact ⟨v, hj ▸ e⟩
    · rw [List.getElem?_set_ne (Ne.symm hj)] at q; exact ⟨w, q⟩
  refine ⟨fun c u q => ?_, r.sc, r.grow, r.new, fun c u q => ?_, r.dnew, by rw [List.length_set]; exact r.len, fun j w q n => ?_, fun j w q n => ?_, fun j k c hj hk h1 h2 => r.inj j k c hj hk (there h1) (there h2), ?_, fun c u q => ?_, r.slf, r.xf⟩
  · have ne : c ≠ a := fun z => by rw [z, e4] at q; cases q
    rw [upd_ne ne]; exact r.sub c u q
  · have ne : c ≠ a := fun z => by rw [z, e3] at q; cases q
    rw [upd_ne ne]; exact r.keep c u q
  · have hj : j ≠ i := fun z => n (z ▸ hi)
    rw [List.getElem?_set_ne (Ne.symm hj)] at q
    exact r.fz j w q n
  · by_cases hj : j = i
    · subst hj
      rw [List.getElem?_set_self hl] at q
      cases q
      exact ⟨a, ea, h, e3, e4, e5⟩
    · rw [List.getElem?_set_ne (Ne.symm hj)] at q
      obtain ⟨c, q1, q2, q3, q4, q5⟩ := r.ow j w q n
      have ne : c ≠ a := fun z => hj (r.inj j i a n hi ⟨w, q⟩ ⟨v, e⟩ (z ▸ q1) ea)
      exact ⟨c, q1, q2.move (.refl F) fun u z => by rw [upd_ne ne]; exact z, q3, q4, q5⟩
  · have dk := r.dk
    cases g with
    | none => exact dk
    | some st =>
      obtain ⟨d, l, z, ne, f1, f2, hl, hd⟩ := dk
      have n1 : d ≠ a := fun y => e5 ⟨d, l, z, .inl y.symm⟩
      have n2 : l ≠ a := fun y => e5 ⟨d, l, z, .inr y.symm⟩
      exact ⟨d, l, z, ne, f1, f2, (upd_ne n2).trans hl, (upd_ne n1).trans hd⟩
  · obtain ⟨q1, q2, q3, q4, q5⟩ := r.hold c u q
    have ne : c ≠ a := fun z => q5 i v hi e (z ▸ ea)
    refine ⟨(upd_ne ne).trans q1, q2, q3, q4, fun j w hj z => ?_⟩
    obtain ⟨w', z'⟩ := there ⟨w, z⟩
    exact q5 j w' hj z'
/-- a slot that is not the one of self, or of a handled exception -/
def SlfOk (C : Ct) (i : Nat) : Prop := C.slf = none ∨ ∃ j a, C.slf = some (j, a) ∧ i ≠ j
/-- a name is given a new thing to hold alone -/
theorem R.own {i : Nat} {a : Addr} (hs : SlfOk C i) (r : R C Ow T F σe g σ H) (n : New C Ow T F σe σ H v a) : R C (i :: Ow) T F (σe.set i (some v)) g (σ.set i (some (V.ref a))) H := by
  obtain ⟨o0, eo⟩ := n.at_.there
  refine ⟨r.sub, r.sc, r.grow, r.new, r.keep, r.dnew, by rw [List.length_set, List.length_set]; exact r.len, fun j w e hj => ?_, fun j w e hj => ?_, fun j k c hj hk h1 h2 q1 q2 => ?_, r.dk, fun c o e => ?_, fun k c e z => ?_, r.xf⟩
  · have n1 : j ≠ i := fun z => hj (z ▸ List.mem_cons_self)
    have n2 : j ∉ Ow := fun z => hj (List.mem_cons_of_mem _ z)
    rw [List.getElem?_set_ne (Ne.symm n1)] at e
    obtain ⟨y, e1, e2⟩ := r.fz j w e n2
    exact ⟨y, by rw [List.getElem?_set_ne (Ne.symm n1)]; exact e1, e2⟩
  · by_cases hji : j = i
    · subst hji
      have hl : j < σe.length := by
        have := (List.getElem?_eq_some_iff.mp e).1
        rwa [List.length_set] at this
      rw [List.getElem?_set_self hl] at e
      cases e
      exact ⟨a, by rw [List.getElem?_set_self (r.len ▸ hl)], n.at_, n.h0, n.fn, n.nd⟩
    · rw [List.getElem?_set_ne (Ne.symm hji)] at e
      obtain ⟨c, e1, e2⟩ := r.ow j w e ((List.mem_cons.mp hj).resolve_left hji)
      exact ⟨c, by rw [List.getElem?_set_ne (Ne.symm hji)]; exact e1, e2⟩
  · have one : ∀ j, j ∈ i :: Ow → j ≠ i → (∃ w, (σe.set i (some v))[j]? = some (some w)) → (σ.set i (some (V.ref a)))[j]? = some (some (V.ref c)) → j ∈ Ow ∧ (∃ w, σe[j]? = some (some w)) ∧ σ[j]? = some (some (V.ref c)) := fun j hj hji ⟨w, h⟩ q => by
      rw [List.getElem?_set_ne (Ne.symm hji)] at h q
      exact ⟨(List.mem_cons.mp hj).resolve_left hji, ⟨w, h⟩, q⟩
    have self : (σ.set i (some (V.ref a)))[i]? = some (some (V.ref c)) → c = a := fun q => by
      have hl : i < σ.length := by
        have := (List.getElem?_eq_some_iff.mp q).1
        rwa [List.length_set] at this
      rw [List.getElem?_set_self hl] at q
      cases q; rfl
    by_cases hji : j = i
    · by_cases hki : k = i
      · exact hji.trans hki.symm
      · subst hji
        have z := self q1
        obtain ⟨z1, ⟨w, z2⟩, z3⟩ := one k hk hki h2 q2
        exact (n.no k w z1 z2 (z ▸ z3)).elim
    · obtain ⟨z1, ⟨w, z2⟩, z3⟩ := one j hj hji h1 q1
      by_cases hki : k = i
      · subst hki
        have z := self q2
        exact (n.no j w z1 z2 (z ▸ z3)).elim
      · obtain ⟨y1, y2, y3⟩ := one k hk hki h2 q2
        exact r.inj j k c z1 y1 ⟨w, z2⟩ y2 z3 y3
  · obtain ⟨e1, e2, e3, e4, e5⟩ := r.hold c o e
    refine ⟨e1, e2, e3, e4, fun j w hj q => ?_⟩
    by_cases hji : j = i
    · subst hji
      have hl : j < σe.length := by
        have := (List.getElem?_eq_some_iff.mp q).1
        rwa [List.length_set] at this
      rw [List.getElem?_set_self (r.len ▸ hl)]
      intro z
      cases z
      rw [n.nt] at e; cases e
    · rw [List.getElem?_set_ne (Ne.symm hji)] at q ⊢
      exact e5 j w ((List.mem_cons.mp hj).resolve_left hji) q
  · rcases hs with hs | ⟨j, a', hs, hn⟩
    · rw [hs] at e; cases e
    · rw [hs] at e
      cases e
      rw [List.getElem?_set_ne hn]
      exact r.slf _ _ hs ((List.mem_cons.mp z).resolve_left (Ne.symm hn))
end

section
variable {X : Cx} {C : Ct} {W : WX} {Ow Ow' Ow1 Ow2 OwL : List Nat} {st : Stmt} {rest sts : List Stmt} {e : Expr} {i ie : Ex} {m m' : Sm} {pos pos' : Pos}
/-! ### blocks -/
theorem Sb.nil : Sb X C W Ow Ow OwL [] .skip := ⟨pss_con pss_nil fun D σ H ⟨T, F, σe, g, fl, g', r, m, q⟩ => by
  unfold Pv.run at m
  cases m
  exact q F σ H (.refl F) r⟩
theorem Sb.one (h : Ss X C W Ow Ow' OwL st m) : Sb X C W Ow Ow' OwL [st] m := ⟨pss_one h.run⟩
theorem Sb.cons (h : Ss X C W Ow Ow1 OwL st m) (h2 : Sb X C W Ow1 Ow' OwL rest m') : Sb X C W Ow Ow' OwL (st :: rest) (.seq m m') :=
  ⟨pss_con (pss_cons h.run h2.run) fun D σ H ⟨T, F, σe, g, fl, g', r, m, q⟩ => by
    unfold Pv.run at m
    obtain ⟨fl1, g1, m1, m2⟩ := bind_eq_ok m
    cases fl1 with
    | nx σ1 => exact ⟨T, F, σe, g, .nx σ1, g1, r, m1, fun F1 σ' H1 s1 r1 => ⟨T, F1, σ1, g1, fl, g', r1, m2, q.mono s1⟩⟩
    | rt v => cases m2; exact ⟨T, F, σe, g, .rt v, _, r, m1, q⟩
    | bk σ1 => cases m2; exact ⟨T, F, σe, g, .bk σ1, _, r, m1, q⟩
    | ct σ1 => cases m2; exact ⟨T, F, σe, g, .ct σ1, _, r, m1, q⟩
    | ex σ1 c vs => cases m2; exact ⟨T, F, σe, g, .ex σ1 c vs, _, r, m1, q⟩⟩
/-- names are no longer held alone ahead of a statement -/
theorem Ss.pre (h : Ss X C W Ow2 Ow' OwL st m) (s : ∀ j ∈ Ow2, j ∈ Ow) : Ss X C W Ow Ow' OwL st m :=
  ⟨ps_con h.run fun D σ H ⟨T, F, σe, g, fl, g', r, m, q⟩ => by
    obtain ⟨F1, s1, r1⟩ := r.less s
    exact ⟨T, F1, σe, g, fl, g', r1, m, q.mono s1⟩⟩
theorem Sb.pre (h : Sb X C W Ow2 Ow' OwL sts m) (s : ∀ j ∈ Ow2, j ∈ Ow) : Sb X C W Ow Ow' OwL sts m :=
  ⟨pss_con h.run fun D σ H ⟨T, F, σe, g, fl, g', r, m, q⟩ => by
    obtain ⟨F1, s1, r1⟩ := r.less s
    exact ⟨T, F1, σe, g, fl, g', r1, m, q.mono s1⟩⟩
theorem EndOk.less {T : Hp} {F : Fz} {g' : G} {D : Ends} {OwL1 : List Nat} (s : ∀ j ∈ Ow', j ∈ Ow1) (sl : ∀ j ∈ OwL, j ∈ OwL1) : ∀ {fl : Fl}, EndOk C W T Ow' OwL F g' D fl → EndOk C W T Ow1 OwL1 F g' D fl
  | .nx _, h => fun F' σ' H' s' r => let ⟨F2, s2, r2⟩ := r.less s; h F2 σ' H' (s'.trans s2) r2
  | .bk _, h => fun F' σ' H' s' r => let ⟨F2, s2, r2⟩ := r.less sl; h F2 σ' H' (s'.trans s2) r2
  | .ct _, h => fun F' σ' H' s' r => let ⟨F2, s2, r2⟩ := r.less sl; h F2 σ' H' (s'.trans s2) r2
  | .rt _, h => fun F' Ow2 σe2 σ2 H' x s' r q => h F' Ow2 σe2 σ2 H' x s' r q
  | .ex _ _ _, h => fun F' Ow2 σ' H' cls d s' r q => h F' Ow2 σ' H' cls d s' r q
theorem Ss.post (h : Ss X C W Ow Ow1 OwL st m) (s : ∀ j ∈ Ow', j ∈ Ow1) : Ss X C W Ow Ow' OwL st m :=
  ⟨ps_con h.run fun D σ H ⟨T, F, σe, g, fl, g', r, m, q⟩ => ⟨T, F, σe, g, fl, g', r, m, q.less s fun _ z => z⟩⟩
theorem Sb.post (h : Sb X C W Ow Ow1 OwL sts m) (s : ∀ j ∈ Ow', j ∈ Ow1) : Sb X C W Ow Ow' OwL sts m :=
  ⟨pss_con h.run fun D σ H ⟨T, F, σe, g, fl, g', r, m, q⟩ => ⟨T, F, σe, g, fl, g', r, m, q.less s fun _ z => z⟩⟩
/-- a block that never runs to its end may promise any names -/
theorem Ss.pass : Ss X C W Ow Ow OwL (.Pass pos) .skip := ⟨ps_con ps_pass fun D σ H ⟨T, F, σe, g, fl, g', r, m, q⟩ => by
  unfold Pv.run at m
  cases m
  exact q F σ H (.refl F) r⟩
theorem Ss.brk : Ss X C W Ow Ow' Ow (.Break pos) .brk := ⟨ps_con ps_break fun D σ H ⟨T, F, σe, g, fl, g', r, m, q⟩ => by
  unfold Pv.run at m
  cases m
  exact q F σ H (.refl F) r⟩
theorem Ss.cnt : Ss X C W Ow Ow' Ow (.Continue pos) .cnt := ⟨ps_con ps_continue fun D σ H ⟨T, F, σe, g, fl, g', r, m, q⟩ => by
  unfold Pv.run at m
  cases m
  exact q F σ H (.refl F) r⟩
theorem Ss.bad : Ss X C W Ow Ow' OwL st .bad := ⟨ps_con ps_never fun D σ H ⟨T, F, σe, g, fl, g', r, m, q⟩ => by
  unfold Pv.run at m
  cases m⟩
theorem Ss.ret (h : Es X C Ow e i) : Ss X C W Ow Ow' OwL (.Return (some e) pos) (.ret i) := ⟨ps_con (ps_ret h.run) fun D σ H ⟨T, F, σe, g, fl, g', r, m, q⟩ => by
  unfold Pv.run at m
  obtain ⟨v, g1, m1, m2⟩ := bind_eq_ok m
  cases m2
  exact ⟨T, F, σe, g, v, _, r, m1, fun F1 H1 x s1 r1 h1 => q F1 _ σe σ H1 x s1 r1 h1⟩⟩
theorem Ss.retN : Ss X C W Ow Ow' OwL (.Return none pos) (.ret (.c .none)) := ⟨ps_con ps_retN fun D σ H ⟨T, F, σe, g, fl, g', r, m, q⟩ => by
  unfold Pv.run ev at m
  cases m
  exact q F _ σe σ H _ (.refl F) r rel_non⟩
theorem Ss.ex (h : Eb X C Ow e i) (hs : swapsWith e none pos.line X.env = pure false) : Ss X C W Ow Ow OwL (.Expr e pos) (.ex i) := ⟨ps_con (ps_expr h.run hs) fun D σ H ⟨T, F, σe, g, fl, g', r, m, q⟩ => by
  unfold Pv.run at m
  obtain ⟨v, g1, m1, m2⟩ := bind_eq_ok m
  cases m2
  exact ⟨T, F, σe, g, v, _, r, m1, fun F1 H1 x s1 r1 _ => q F1 σ H1 s1 r1⟩⟩
theorem Ss.doc {x : Str} {j : Nat} : Ss X C W Ow Ow OwL (.Expr (.Constant (.str x) j pos) pos') .skip := ⟨ps_con ps_doc fun D σ H ⟨T, F, σe, g, fl, g', r, m, q⟩ => by
  unfold Pv.run at m
  cases m
  exact q F σ H (.refl F) r⟩
theorem Ss.ite {t : Expr} {a b : List Stmt} {it : Ex} {ma mb : Sm} (ht : Et X C Ow t it) (ha : Sb X C W Ow Ow' OwL a ma) (hb : Sb X C W Ow Ow' OwL b mb) : Ss X C W Ow Ow' OwL (.If t a b pos) (.ite it ma mb) :=
  ⟨ps_con (ps_if ht.run ha.run hb.run) fun D σ H ⟨T, F, σe, g, fl, g', r, m, q⟩ => by
    unfold Pv.run at m
    obtain ⟨v, g1, m1, m2⟩ := bind_eq_ok m
    split at m2
    · exact ⟨T, F, σe, g, _, g1, r, m1, fun F1 H1 s1 r1 => iteT ⟨T, F1, σe, g1, fl, g', r1, m2, q.mono s1⟩⟩
    · exact ⟨T, F, σe, g, _, g1, r, m1, fun F1 H1 s1 r1 => iteF ⟨T, F1, σe, g1, fl, g', r1, m2, q.mono s1⟩⟩
    · cases m2⟩

/-! ### stores -/
theorem Ss.set {tg : Expr} {t : List Nat} (h : Es X C Ow e i) (hg : Eg X C Ow tg t) (hs : swapsWithSole [tg] e pos.line X.env = pure false) (hw : swappedStores [tg] e X.env = pure none) (h1 : (assignEach [tg] X.env).map (·.2) = [assign tg X.env]) :
    Ss X C W Ow Ow OwL (.Assign [tg] e pos) (.set t i) := ⟨ps_con (ps_asg h.run hg.run hs hw h1) fun D σ H ⟨T, F, σe, g, fl, g', r, m, q⟩ => by
  unfold Pv.run at m
  obtain ⟨v, g1, m1, m2⟩ := bind_eq_ok m
  obtain ⟨σe', g2, m3, m4⟩ := bind_eq_ok m2
  obtain ⟨m5, e5⟩ := lift_eq_ok m3
  subst e5
  cases m4
  exact ⟨T, F, σe, g, v, _, r, m1, fun F1 H1 x s1 r1 h1 => ⟨T, F1, σe, _, v, σe', r1, h1, m5, fun σ' r' _ => q F1 σ' H1 s1 r'⟩⟩⟩
theorem Ss.setG {tg : Expr} {ts : List (List Nat)} (h : Es X C Ow e i) (hg : EgG X C Ow tg ts) (hs : swapsWithSole [tg] e pos.line X.env = pure false) (hw : swappedStores [tg] e X.env = pure none) (h1 : (assignEach [tg] X.env).map (·.2) = [assign tg X.env]) :
    Ss X C W Ow Ow OwL (.Assign [tg] e pos) (.setG ts i) := ⟨ps_con (ps_asg h.run hg.run hs hw h1) fun D σ H ⟨T, F, σe, g, fl, g', r, m, q⟩ => by
  unfold Pv.run at m
  obtain ⟨v, g1, m1, m2⟩ := bind_eq_ok m
  obtain ⟨σe', g2, m3, m4⟩ := bind_eq_ok m2
  obtain ⟨m5, e5⟩ := lift_eq_ok m3
  subst e5
  cases m4
  exact ⟨T, F, σe, g, v, _, r, m1, fun F1 H1 x s1 r1 h1 => ⟨T, F1, σe, _, v, σe', r1, h1, m5, fun σ' r' => q F1 σ' H1 s1 r'⟩⟩⟩
theorem Ss.own {x : Str} (n : Nat) (h : Ef X C Ow e i) (hN : X.N.Nodup) (hi : X.N[n]? = some x) (hx : Loc X.env.scope x) (hf : X.fn x = true ∨ X.env.scope.names.lookup x = some .local) (hs : swapsWith e (some (.Name x pos')) pos.line X.env = pure false) (hsl : SlfOk C n) :
    Ss X C W Ow (n :: Ow) OwL (.Assign [.Name x pos'] e pos) (.set [n] i) := ⟨ps_con (ps_set hN hi hx h.run hs hf) fun D σ H ⟨T, F, σe, g, fl, g', r, m, q⟩ => by
  unfold Pv.run at m
  obtain ⟨v, g1, m1, m2⟩ := bind_eq_ok m
  cases m2
  exact ⟨T, F, σe, g, v, _, r, m1, fun F1 H1 a s1 r1 h1 => q F1 _ H1 s1 (r1.own hsl h1)⟩⟩
theorem Ss.par {x y : Str} {a b : Expr} {ia ib : Ex} {px py pt : Pos} {kt k2 : Nat} {pt2 : Pos} (n k : Nat) (hc : X.calm = true) (hN : X.N.Nodup) (hi : X.N[n]? = some x) (hj : X.N[k]? = some y) (hij : n ≠ k) (hn : n ∉ Ow) (hk : k ∉ Ow)
    (hx : X.env.scope.names.lookup x = some .local) (hy : X.env.scope.names.lookup y = some .local) (ha : Ea X C Ow [a, b] (.cons ia (.cons ib .nil)))
    (hw : swappedStores [.Tuple [.Name x px, .Name y py] kt pt] (.Tuple [a, b] k2 pt2) X.env = pure (some [x, y]))
    (hs : swapsWithSole [.Tuple [.Name x px, .Name y py] kt pt] (.Tuple [a, b] k2 pt2) pos.line X.env = pure false) :
    Ss X C W Ow Ow OwL (.Assign [.Tuple [.Name x px, .Name y py] kt pt] (.Tuple [a, b] k2 pt2) pos) (.par n k ia ib) := ⟨ps_con (ps_par hc hN hi hj hij hx hy ha.run hw hs) fun D σ H ⟨T, F, σe, g, fl, g', r, m, q⟩ => by
  unfold Pv.run at m
  obtain ⟨v, g1, m1, m2⟩ := bind_eq_ok m
  obtain ⟨w, g2, m3, m4⟩ := bind_eq_ok m2
  cases m4
  refine ⟨T, F, σe, g, [v, w], g', r, ?_, fun F1 H1 xs s1 r1 h1 => ?_⟩
  · simp only [evs, m1, m3, bind_ok]
  · obtain ⟨x1, xr, rfl, e1, e2⟩ := h1.inv
    obtain ⟨x2, xr2, rfl, e3, e4⟩ := e2.inv
    rw [e4.inv0]
    exact ⟨x1, x2, rfl, q F1 _ H1 s1 ((r1.setS hn e1).setS hk e3)⟩⟩
theorem Ss.par3 {x y z : Str} {a b c : Expr} {ia ib ic : Ex} {px py pz pt : Pos} {kt k2 : Nat} {pt2 : Pos} (n k l : Nat) (hc : X.calm = true) (hN : X.N.Nodup) (hi : X.N[n]? = some x) (hj : X.N[k]? = some y) (hl : X.N[l]? = some z) (hij : n ≠ k) (hil : n ≠ l) (hjl : k ≠ l) (hn : n ∉ Ow) (hk : k ∉ Ow) (hll : l ∉ Ow)
    (hx : X.env.scope.names.lookup x = some .local) (hy : X.env.scope.names.lookup y = some .local) (hz : X.env.scope.names.lookup z = some .local) (ha : Ea X C Ow [a, b, c] (.cons ia (.cons ib (.cons ic .nil))))
    (hw : swappedStores [.Tuple [.Name x px, .Name y py, .Name z pz] kt pt] (.Tuple [a, b, c] k2 pt2) X.env = pure (some [x, y, z]))
    (hs : swapsWithSole [.Tuple [.Name x px, .Name y py, .Name z pz] kt pt] (.Tuple [a, b, c] k2 pt2) pos.line X.env = pure false) :
    Ss X C W Ow Ow OwL (.Assign [.Tuple [.Name x px, .Name y py, .Name z pz] kt pt] (.Tuple [a, b, c] k2 pt2) pos) (.par3 n k l ia ib ic) := ⟨ps_con (ps_par3 hc hN hi hj hl hij hil hjl hx hy hz ha.run hw hs) fun D σ H ⟨T, F, σe, g, fl, g', r, m, q⟩ => by
  unfold Pv.run at m
  obtain ⟨v, g1, m1, m2⟩ := bind_eq_ok m
  obtain ⟨w, g2, m3, m4⟩ := bind_eq_ok m2
  obtain ⟨u, g3, m5, m6⟩ := bind_eq_ok m4
  cases m6
  refine ⟨T, F, σe, g, [v, w, u], g', r, ?_, fun F1 H1 xs s1 r1 h1 => ?_⟩
  · simp only [evs, m1, m3, m5, bind_ok]
  · obtain ⟨x1, xr, rfl, e1, e2⟩ := h1.inv
    obtain ⟨x2, xr2, rfl, e3, e4⟩ := e2.inv
    obtain ⟨x3, xr3, rfl, e5, e6⟩ := e4.inv
    rw [e6.inv0]
    exact ⟨x1, x2, x3, rfl, q F1 _ H1 s1 (((r1.setS hn e1).setS hk e3).setS hll e5)⟩⟩
theorem op_ip (o : Bop) : PIp X (bop o) (fun x y H Q => ∃ va vb v F K, Sh K F H va x ∧ Sh K F H vb y ∧ augV o va vb = some v ∧ ∀ z, Rel K F v z → Q z H) := by
  intro pins s σ H x y u w Q I rx ry h
  obtain ⟨va, vb, v, F, K, ha, hb, hv, q⟩ := h
  unfold augV at hv
  split at hv
  · cases hv; cases ha; cases hb
    exact iop_add pins s σ H _ _ u w Q I rx ry ⟨_, _, rfl, rfl, q _ rel_int⟩
  · cases hv; cases ha; cases hb
    exact iop_sub pins s σ H _ _ u w Q I rx ry ⟨_, _, rfl, rfl, q _ rel_int⟩
  · cases ha; cases hb
    split at hv
    · rename_i hc
      cases hv
      simp only [Bool.or_eq_true, decide_eq_true_eq] at hc
      refine iop_mul pins s σ H _ _ u w Q I rx ry ⟨_, _, rfl, rfl, ?_, q _ rel_int⟩
      rcases hc with hc | hc
      · exact .inl ⟨by omega, by omega⟩
      · exact .inr ⟨by omega, by omega⟩
    · cases hv
  · cases ha; cases hb
    split at hv
    · rename_i hc
      cases hv
      simp only [Bool.and_eq_true, decide_eq_true_eq] at hc
      exact iop_fdiv pins s σ H _ _ u w Q I rx ry ⟨_, _, rfl, rfl, hc, q _ rel_int⟩
    · cases hv
  · cases ha; cases hb
    split at hv
    · rename_i hc
      cases hv
      simp only [decide_eq_true_eq] at hc
      exact iop_add_str pins s σ H _ _ u w Q I rx ry ⟨_, _, rfl, rfl, lineN_le hc, q _ rel_str⟩
    · cases hv
  · cases hv
theorem slot_ok {σ : Sl} {n : Nat} {g g' : G} {v : D} (h : slot σ n g = .ok v g') : σ[n]? = some (some v) ∧ g' = g := by
  unfold slot at h
  split at h
  · cases h; exact ⟨by assumption, rfl⟩
  · cases h
theorem Ss.aug {x : Str} (n : Nat) (o : Bop) (hn : n ∉ Ow) (h : Eb X C Ow e i) (hN : X.N.Nodup) (hi : X.N[n]? = some x) (hx : Loc X.env.scope x) (hf : X.fn x = true ∨ X.env.scope.names.lookup x = some .local) :
    Ss X C W Ow Ow OwL (.AugAssign (.Name x pos') (bop o) e pos) (.aug n o i) := ⟨ps_con (ps_aug hN hi hx h.run (op_ip o) hf) fun D σ H ⟨T, F, σe, g, fl, g', r, m, q⟩ => by
  unfold Pv.run at m
  obtain ⟨v, g1, m1, m2⟩ := bind_eq_ok m
  obtain ⟨e1, e2⟩ := slot_ok m1
  subst e2
  obtain ⟨w, g2, m3, m4⟩ := bind_eq_ok m2
  obtain ⟨z, g3, m5, m6⟩ := bind_eq_ok m4
  obtain ⟨m7, e7⟩ := lift_eq_ok m5
  subst e7
  cases m6
  obtain ⟨x1, q1, q2⟩ := r.fz n v e1 hn
  exact ⟨x1, q1, T, F, σe, _, w, _, r, m3, fun F1 H1 y s1 r1 b1 => ⟨v, w, z, F1, C.K, (q2.mono s1 _ _).sh r1.sub, r1.sh b1, m7, fun z' hz => q F1 _ H1 s1 (r1.setS hn hz)⟩⟩⟩

/-! ### loops -/
theorem Ss.for_ {tg iter : Expr} {body : List Stmt} {t : List Nat} {k : Ik} {is : Exs} (hp : PassesOwn (model X.prog X.w) X.A X.env X.xe) (hc : X.calm = true) (hi : Ei X C Ow tg iter k is) (hg : Eg X C Ow tg t) (hb : Sb X C W Ow Ow Ow body m)
    (hs : ∀ x, foldedSetIterable iter X.env x = pure x) : Ss X C W Ow Ow OwL (.For tg iter body [] pos) (.forr t k is m) :=
  ⟨ps_con (ps_for hp hc hi.run hg.run hb.run hs) fun D σ H ⟨T, F, σe, g, fl, g', r, mm, q⟩ => by
    unfold Pv.run at mm
    obtain ⟨vs, g1, m1, m2⟩ := bind_eq_ok mm
    obtain ⟨xs, g2, m3, m4⟩ := bind_eq_ok m2
    have mi : itm C.Φ k is σe g = .ok xs g2 := by
      unfold itm
      rw [m1]; exact m3
    refine ⟨T, F, σe, g, xs, g2, r, mi, fun F1 H1 J s1 r1 w => ?_⟩
    refine ⟨fun j n σ H => ∃ F2 σe2 g2, n + j = xs.length ∧ Fsub F1 F2 ∧ R C Ow T F2 σe2 g2 σ H ∧ forL (fun x σ g => (lift (setT t x σ) g).bind fun σ g => Pv.run C.Φ C.fu m σ g) (xs.drop j) σe2 g2 = .ok fl g', ⟨xs.length, F1, σe, _, rfl, .refl _, r1, by rw [List.drop_zero]; exact m4⟩, ?_⟩
    rintro j n σ H ⟨F2, σe2, g3, hn, s2, r2, hl⟩
    by_cases hj : j < xs.length
    · have hd : xs[j]? = some xs[j] := List.getElem?_eq_getElem hj
      rw [List.drop_eq_getElem_cons hj] at hl
      unfold forL at hl
      obtain ⟨fl1, g4, l1, l2⟩ := bind_eq_ok hl
      obtain ⟨σe3, g5, l3, l4⟩ := bind_eq_ok l1
      obtain ⟨l5, e5⟩ := lift_eq_ok l3
      subst e5
      refine .inr ⟨w.go j F2 H hj s2 r2.sub, fun σ H => ∃ m', m' < n ∧ ∃ F2 σe2 g2, m' + (j + 1) = xs.length ∧ Fsub F1 F2 ∧ R C Ow T F2 σe2 g2 σ H ∧ forL (fun x σ g => (lift (setT t x σ) g).bind fun σ g => Pv.run C.Φ C.fu m σ g) (xs.drop (j + 1)) σe2 g2 = .ok fl g', fun σ' H' h => h, fun x H' hy => ?_⟩
      obtain ⟨F3, s3, r3, rx⟩ : ∃ F3, Fsub F2 F3 ∧ R C Ow T F3 σe2 g5 σ H' ∧ Rel C.K F3 xs[j] x := by
        rcases w.yld j _ F2 H x H' hd s2 r2.sub hy with ⟨e, rx⟩ | ⟨p, o', rfl, hf, e, rx⟩
        · subst e; exact ⟨F2, .refl _, r2, rx⟩
        · subst e; exact ⟨F2.put p o', Fsub.put (r2.fn hf), r2.laid hf, rx (r2.fn hf)⟩
      refine ⟨T, F3, σe2, g5, xs[j], σe3, r3, rx, l5, fun σ3 r4 _ => ⟨T, F3, σe3, g5, fl1, g4, r4, l4, ?_⟩⟩
      cases fl1 with
      | nx σe4 => exact fun F5 σ5 H5 s5 r5 => ⟨n - 1, by omega, F5, σe4, g4, by omega, s2.trans (s3.trans s5), r5, l2⟩
      | ct σe4 => exact fun F5 σ5 H5 s5 r5 => ⟨n - 1, by omega, F5, σe4, g4, by omega, s2.trans (s3.trans s5), r5, l2⟩
      | bk σe4 =>
        cases l2
        exact fun F5 σ5 H5 s5 r5 => q F5 σ5 H5 (s1.trans (s2.trans (s3.trans s5))) r5
      | rt v =>
        cases l2
        exact fun F5 Ow5 σe5 σ5 H5 x5 s5 r5 h5 => q F5 Ow5 σe5 σ5 H5 x5 (s1.trans (s2.trans (s3.trans s5))) r5 h5
      | ex σe4 c vs =>
        cases l2
        exact fun F5 Ow5 σ5 H5 cls d s5 r5 h5 => q F5 Ow5 σ5 H5 cls d (s1.trans (s2.trans (s3.trans s5))) r5 h5
    · have e : j = xs.length := by omega
      subst e
      rw [List.drop_length] at hl
      unfold forL at hl
      cases hl
      exact .inl ⟨w.stop F2 H s2 r2.sub, q F2 σ H (s1.trans s2) r2⟩⟩
theorem Ss.while_ {t : Expr} {body : List Stmt} {it : Ex} (hp : PassesOwn (model X.prog X.w) X.A X.env X.xe) (ht : Et X C Ow t it) (hb : Sb X C W Ow Ow Ow body m) : Ss X C W Ow Ow OwL (.While t body [] pos) (.whil it m) :=
  ⟨ps_con (ps_while hp ht.run hb.run) fun D σ H ⟨T, F, σe, g, fl, g', r, mm, q⟩ => by
    unfold Pv.run at mm
    refine ⟨fun n σ H => ∃ F2 σe2 g2, Fsub F F2 ∧ R C Ow T F2 σe2 g2 σ H ∧ whileL (fun σ g => ev C.Φ it σ g) (fun σ g => Pv.run C.Φ C.fu m σ g) n σe2 g2 = .ok fl g', ⟨C.fu, F, σe, g, .refl _, r, mm⟩, ?_⟩
    rintro n σ H ⟨F2, σe2, g2, s2, r2, hl⟩
    cases n with
    | zero => unfold whileL at hl; cases hl
    | succ n =>
      unfold whileL at hl
      obtain ⟨v, g3, l1, l2⟩ := bind_eq_ok hl
      split at l2
      · obtain ⟨fl1, g4, l3, l4⟩ := bind_eq_ok l2
        refine ⟨T, F2, σe2, g2, _, g3, r2, l1, fun F3 H3 s3 r3 => iteT ⟨fun σ H => ∃ m', m' < n + 1 ∧ ∃ F2 σe2 g2, Fsub F F2 ∧ R C Ow T F2 σe2 g2 σ H ∧ whileL (fun σ g => ev C.Φ it σ g) (fun σ g => Pv.run C.Φ C.fu m σ g) m' σe2 g2 = .ok fl g', fun σ' H' h => h, T, F3, σe2, g3, fl1, g4, r3, l3, ?_⟩⟩
        cases fl1 with
        | nx σe4 => exact fun F5 σ5 H5 s5 r5 => ⟨n, Nat.lt_succ_self n, F5, σe4, g4, s2.trans (s3.trans s5), r5, l4⟩
        | ct σe4 => exact fun F5 σ5 H5 s5 r5 => ⟨n, Nat.lt_succ_self n, F5, σe4, g4, s2.trans (s3.trans s5), r5, l4⟩
        | bk σe4 =>
          cases l4
          exact fun F5 σ5 H5 s5 r5 => q F5 σ5 H5 (s2.trans (s3.trans s5)) r5
        | rt v =>
          cases l4
          exact fun F5 Ow5 σe5 σ5 H5 x5 s5 r5 h5 => q F5 Ow5 σe5 σ5 H5 x5 (s2.trans (s3.trans s5)) r5 h5
        | ex σe4 c vs =>
          cases l4
          exact fun F5 Ow5 σ5 H5 cls d s5 r5 h5 => q F5 Ow5 σ5 H5 cls d (s2.trans (s3.trans s5)) r5 h5
      · cases l2
        exact ⟨T, F2, σe2, g2, _, _, r2, l1, fun F3 H3 s3 r3 => iteF (q F3 σ H3 (s2.trans s3) r3)⟩
      · cases l2⟩
end
end Pv
end

section
/-! PvS: sorted of tuples of ints, of any length and any number. -/
set_option autoImplicit false
namespace Pv
open PySem PySem.Spec PyProof.Rows L2 Srt

/-- a tuple of these ints -/
def IsIt (h : Heap) (v : Value) (ns : List Int) : Prop := ∃ a o items n, v = .ref a ∧ h.get? a = some o ∧ o.cls = .type "tuple" ∧ o.data = .seq items n ∧ IntsAre items.toList ns
theorem IsIt.keeps {h h' : Heap} {v : Value} {ns : List Int} (p : IsIt h v ns) (k : ∀ b o, h.get? b = some o → o.cls = .type "tuple" → h'.get? b = some o) : IsIt h' v ns := by
  obtain ⟨a, o, its, n, e, ho, hc, hd, hi⟩ := p
  exact ⟨a, o, its, n, e, k _ _ ho hc, hc, hd, hi⟩
section
variable {prog : Program} {w : World} {A : Around} {s : Shared}
theorem kat_ints {Q : Bool → Shared → Prop} {b : Bool} : ∀ {vs ws : List Value} {ns ms : List Int} {fin : Bool} {i : Nat}, IntsAre vs ns → IntsAre ws ms → fin = decide (ns.length < ms.length) → Q (HT.lexLt ns ms) s → PySem.W.KatLex prog w A b fin Q (vs.zip ws) i s
  | [], ws, ns, ms, fin, i, hi, hj, hf, q => by
    cases hi
    rw [List.zip_nil_left]
    refine PySem.W.kat_nil ?_
    subst hf
    cases hj with
    | nil => exact q
    | cons y u r => exact q
  | v :: vs, [], ns, ms, fin, i, hi, hj, hf, q => by
    cases hj
    rw [List.zip_nil_right]
    refine PySem.W.kat_nil ?_
    subst hf
    cases hi with
    | cons x t r => exact q
  | v :: vs, w' :: ws, ns, ms, fin, i, hi, hj, hf, q => by
    cases hi with
    | cons x t r =>
      cases hj with
      | cons y u r2 =>
        rw [List.zip_cons_cons]
        rename_i ns' ms'
        rw [HT.lexLt_cons] at q
        refine PySem.W.kat_cons (SeqAt.EqAt.int_int x t y u prog w _ _ ?_)
        refine PySem.W.kat_go (fun e1 => ?_) (fun e1 => ?_)
        · have ex : x = y := by simpa using e1
          rw [if_pos ex] at q
          exact PySem.W.kat_yes (kat_ints r r2 (by rw [hf]; simp [List.length_cons]) q)
        · have ex : ¬ x = y := by simpa using e1
          rw [if_neg ex] at q
          refine PySem.W.kat_no ?_
          cases hb : (b && i == 0) with
          | true => exact oneLt_int q
          | false => exact PySem.W.kat_one _ _ (PyProof.Rows.lt_int q)
theorem it_cmp {vs : List Value} {k : Value → List Int} (hp : ∀ v ∈ vs, IsIt s.heap v (k v)) : SrtO.Cmp prog w A s (tuples' true) (fun p => p.1 ∈ vs) (SrtO.lt2 fun v u => HT.lexLt (k v) (k u)) := by
  intro p q hm hm'
  have h1 := hp _ hm
  have h2 := hp _ hm'
  show wpAny (model prog w) A (keyLt' (tuples' true) p.1 q.1) (fun r s' => s' = s ∧ r = HT.lexLt (k p.1) (k q.1)) (fun _ _ => False) s
  generalize k p.1 = ns at h1 ⊢
  generalize k q.1 = ms at h2 ⊢
  obtain ⟨a, o, its, n, e, ho, hc, hd, hi⟩ := h1
  obtain ⟨a', o', its', n', e', ho', hc', hd', hi'⟩ := h2
  rw [e, e']
  refine PySem.W.kat_lt ho hd ho' hd' ?_
  have l1 := hi.length
  have l2 := hi'.length
  refine kat_ints hi hi' ?_ ⟨rfl, rfl⟩
  rw [← Array.length_toList, ← Array.length_toList, l1, l2]
theorem it_firsts {h : Heap} : ∀ {vs : List Value}, (∀ v ∈ vs, ∃ x xs, IsIt h v (x :: xs)) → ∃ fs : List Value, PySem.W.KatTups h vs fs ∧ fs.length = vs.length ∧ ∀ f ∈ fs, ∃ x t, f = Value.int x t
  | [], _ => ⟨[], PySem.W.KatTups.nil, rfl, fun _ hm => by simp at hm⟩
  | v :: vs, hp => by
    obtain ⟨fs, h1, h2, h3⟩ := it_firsts (vs := vs) fun v' hm => hp v' (List.mem_cons_of_mem _ hm)
    obtain ⟨x, xs, a, o, its, n, e, ho, hc, hd, hi⟩ := hp v (List.mem_cons_self ..)
    subst e
    obtain ⟨y, ys, ey⟩ : ∃ y ys, its.toList = y :: ys := by
      cases q : its.toList with
      | nil => rw [q] at hi; cases hi
      | cons y ys => exact ⟨y, ys, rfl⟩
    rw [ey] at hi
    cases hi with
    | cons x' t r =>
    refine ⟨.int x t :: fs, PySem.W.KatTups.cons ho hc hd ?_ h1, by rw [List.length_cons, List.length_cons, h2], fun f hm => ?_⟩
    · have z := congrArg (fun l : List Value => l[0]?) ey
      simpa using z
    · rcases List.mem_cons.mp hm with rfl | hm
      · exact ⟨x, t, rfl⟩
      · exact h3 f hm
theorem its_sortable {a : Addr} {vs : List Value} {k : Value → List Int} (h0 : 0 < vs.length) (hp : ∀ v ∈ vs, IsIt s.heap v (k v)) (hn : ∀ v ∈ vs, k v ≠ []) (ha : ∀ o, s.heap.get? a = some o → o.cls ≠ .type "tuple") : SrtO.SortableO prog w A s a vs fun v u => HT.lexLt (k v) (k u) := by
  intro h' keep
  have hp' : ∀ v ∈ vs, IsIt h' v (k v) := fun v hm => (hp v hm).keeps fun b o e c => keep b o (fun z => by subst z; exact ha o e c) e
  obtain ⟨fs, h1, h2, h3⟩ := it_firsts (h := h') (vs := vs) fun v hm => by
    have q := hp' v hm
    have n := hn v hm
    cases e : k v with
    | nil => exact absurd e n
    | cons x xs => rw [e] at q; exact ⟨x, xs, q⟩
  refine ⟨tuples' true, fun Q E hq => ?_, it_cmp (s := { s with heap := h' }) hp'⟩
  refine PySem.W.kat_kind (T := .type "int") h1 (by omega) (fun f hm => ?_) (by rfl) ?_
  · obtain ⟨x, t, rfl⟩ := h3 f hm
    exact PySem.W.Looks.now
  · have e : (Value.type "int" != Value.type "tuple") = true := by first | decide +kernel | rfl | decide
    rw [e]
    exact hq
/-- what a heap holds there, read as ints -/
def readIt (h : Heap) : Value → List Int
  | .ref a => match h.get? a with
    | some o => match o.data with
      | .seq its _ => its.toList.map SrtO.iv
      | _ => []
    | none => []
  | _ => []
theorem IsIt.read {h : Heap} {v : Value} {ns : List Int} (p : IsIt h v ns) : readIt h v = ns := by
  obtain ⟨a, o, its, n, rfl, ho, hc, hd, hi⟩ := p
  unfold readIt
  simp only [ho, hd]
  exact SrtO.iv_ints hi
end
/-- these things are these tuples -/
inductive TupsAre (K : PySem.W.Frag) (H : Hp) : List V → List (List Int) → Prop
  | nil : TupsAre K H [] []
  | cons {t : Addr} {n : Int} {ns : List Int} {xs : List V} {ts : List (List Int)} (h : SqT K H t ((n :: ns).map V.int)) (r : TupsAre K H xs ts) : TupsAre K H (.ref t :: xs) ((n :: ns) :: ts)
theorem TupsAre.refs {K : PySem.W.Frag} {H : Hp} : ∀ {xs : List V} {ts : List (List Int)}, TupsAre K H xs ts → ∀ x ∈ xs, ∃ t, x = V.ref t
  | _, _, .nil, x, h => by cases h
  | _, _, .cons (t := t) h r, x, hx => by
    rcases List.mem_cons.mp hx with rfl | hx
    · exact ⟨t, rfl⟩
    · exact r.refs x hx
theorem TupsAre.its {K : PySem.W.Frag} {X : Cx} (hK : X.K = K) {pins : List (Addr × Obj)} {s : Shared} {σ : L2.St} {H : Hp} (I : Inv X pins σ H s) : ∀ {xs : List V} {ts : List (List Int)} {vs : List Value}, TupsAre K H xs ts → Vals xs vs → ts = vs.map (readIt s.heap) ∧ ∀ v ∈ vs, ∃ n ns, IsIt s.heap v (n :: ns)
  | _, _, _, .nil, .nil => ⟨rfl, fun v h => by cases h⟩
  | _, _, _, .cons (t := t) (n := n) (ns := ns) h r, .cons rv rr => by
    cases rv
    obtain ⟨e1, e2⟩ := r.its hK I rr
    subst hK
    obtain ⟨its, r1, p1, _⟩ := I.tuple h
    obtain ⟨o, ho, hc, k, hd⟩ := p1
    have ii : IsIt s.heap (.ref t) (n :: ns) := ⟨t, o, its.toArray, k, rfl, ho, hc, hd, by simpa using r1.ints⟩
    refine ⟨?_, fun v hv => ?_⟩
    · rw [List.map_cons, ii.read, e1]
    · rcases List.mem_cons.mp hv with rfl | hv
      · exact ⟨n, ns, ii⟩
      · exact e2 v hv
def rSortedIt (K : PySem.W.Frag) : List V → Hp → VK → Prop := fun vs H Q => ∃ (a : Addr) (xs : List V) (ts : List (List Int)), vs = [V.ref a] ∧ SqL K H a xs ∧ TupsAre K H xs ts ∧
  ∀ ys us p, ys.length = us.length → (ys.zip us).Perm (xs.zip ts) → us.Pairwise (fun x y => HT.lexLt y x = false) → H p = none → Q (.ref p) (upd H p (.lst ys))
theorem zip_maps {α β γ : Type} (f : α → β) (g : α → γ) : ∀ l : List α, (l.map f).zip (l.map g) = l.map fun x => (f x, g x)
  | [] => rfl
  | x :: l => by rw [List.map_cons, List.map_cons, List.zip_cons_cons, zip_maps f g l]; rfl
theorem cr_sortedIt {X : Cx} : CallR X (.builtin "sorted") (rSortedIt X.K) := by
  intro pins s σ H vs us Q I r h
  obtain ⟨a, xs, ts, rfl, hs, hx, q⟩ := h
  obtain ⟨its, rv, hl, hz⟩ := I.list hs
  obtain ⟨u, rfl, ru⟩ := vals1 r
  obtain rfl : u = Value.ref a := ru
  obtain ⟨e1, e2⟩ := refs_back rv hx.refs
  obtain ⟨t1, t2⟩ := hx.its rfl I rv
  have hp : ∀ v ∈ its, IsIt s.heap v (readIt s.heap v) := fun v hv => by
    obtain ⟨n, ns, hi⟩ := t2 v hv
    rw [hi.read]; exact hi
  have hn : ∀ v ∈ its, readIt s.heap v ≠ [] := fun v hv => by
    obtain ⟨n, ns, hi⟩ := t2 v hv
    rw [hi.read]; exact List.cons_ne_nil _ _
  refine SrtO.sorted_ord (NtL.swo_lexL (readIt s.heap)) hl.isList (by rw [← rv.length]; exact hz) (fun h2 h₁ a ha kk => ?_) fun out h1 h2 => ?_
  · refine its_sortable (s := { s with heap := h₁ }) (by omega) (fun v hm => (hp v hm).keeps fun b o e _ => (kk b o e).2) hn fun o e => ?_
    have e' : some o = some (seqObj "list" its.toArray 0) := e.symm.trans ha
    cases e'
    intro c
    exact absurd (Value.type.inj c) (by decide)
  · have h3 : ∀ u ∈ out, ∃ a, u = Value.ref a := fun u hu => e2 u (h2.perm.mem_iff.mp hu)
    obtain ⟨n, hn'⟩ := PyProof.Rows.sortedAll_at s.heap its out.toArray
    have pm : (out.map backV).Perm xs := by rw [e1]; exact h2.perm.map backV
    have hlen : (out.map backV).length ≤ sizeLine := by
      rw [pm.length_eq]; exact hz
    refine ⟨.ref _, upd H (s.heap.objs.size + 1) (.lst (out.map backV)), I.laid (t' := s.toks) (fun _ _ => PyProof.Rows.sortedAll_old) (Nat.le_succ _) ⟨hlen, out, n, vals_back h3, hn'⟩, rfl, q (out.map backV) (out.map (readIt s.heap)) _ (by rw [List.length_map, List.length_map]) ?_ ?_ (I.hok.fresh (Nat.le_succ _))⟩
    · rw [zip_maps, t1, e1, zip_maps]
      exact h2.perm.map _
    · exact List.pairwise_map.mpr (h1.imp fun {x y} z => z)
/-! ### the sorted list, by values -/
theorem insT_perm (x : List Int) : ∀ ys : List (List Int), (insT x ys).Perm (x :: ys)
  | [] => .refl _
  | y :: r => by
    unfold insT
    split
    · exact ((insT_perm x r).cons y).trans (.swap x y r)
    · exact .refl _
theorem sortT_perm : ∀ xs : List (List Int), (sortT xs).Perm xs
  | [] => .refl _
  | x :: r => (insT_perm x _).trans ((sortT_perm r).cons x)
theorem insT_sorted (x : List Int) : ∀ {ys : List (List Int)}, ys.Pairwise (fun x y => HT.lexLt y x = false) → (insT x ys).Pairwise (fun x y => HT.lexLt y x = false)
  | [], _ => by unfold insT; exact List.pairwise_singleton _ _
  | y :: r, h => by
    unfold insT
    rw [List.pairwise_cons] at h
    split
    · rename_i hc
      refine List.pairwise_cons.mpr ⟨fun z hz => ?_, insT_sorted x h.2⟩
      rcases List.mem_cons.mp ((insT_perm x r).mem_iff.mp hz) with rfl | hz
      · exact NtL.lex_asym _ _ hc
      · exact h.1 z hz
    · rename_i hc
      have hc : HT.lexLt y x = false := by simpa using hc
      refine List.pairwise_cons.mpr ⟨fun z hz => ?_, List.pairwise_cons.mpr h⟩
      rcases List.mem_cons.mp hz with rfl | hz
      · exact hc
      · exact NtL.lex_tr _ _ _ hc (h.1 z hz)
theorem sortT_sorted : ∀ xs : List (List Int), (sortT xs).Pairwise (fun x y => HT.lexLt y x = false)
  | [] => .nil
  | x :: r => insT_sorted x (sortT_sorted r)
theorem lex_eq : ∀ {xs ys : List Int}, HT.lexLt xs ys = false → HT.lexLt ys xs = false → xs = ys
  | [], [], _, _ => rfl
  | [], y :: ys, h, _ => by rw [HT.lexLt_nil_cons] at h; cases h
  | x :: xs, [], _, h => by rw [HT.lexLt_nil_cons] at h; cases h
  | x :: xs, y :: ys, h1, h2 => by
    rw [HT.lexLt_cons] at h1 h2
    by_cases e : x = y
    · rw [if_pos e] at h1
      rw [if_pos e.symm] at h2
      rw [e, lex_eq h1 h2]
    · rw [if_neg e] at h1
      rw [if_neg (Ne.symm e)] at h2
      have := of_decide_eq_false h1
      have := of_decide_eq_false h2
      omega
theorem sortT_unique {xs ys : List (List Int)} (p : xs.Perm ys) (hx : xs.Pairwise (fun x y => HT.lexLt y x = false)) (hy : ys.Pairwise (fun x y => HT.lexLt y x = false)) : xs = ys :=
  p.eq_of_pairwise (fun a b _ _ h1 h2 => lex_eq h2 h1) hx hy
theorem tups_rel {K : PySem.W.Frag} {F : Fz} {H : Hp} (s : Same F.h H) : ∀ {ds : List D} {vs : List V} {ts : List (List Int)}, RelL K F ds vs → tupsOf ds = some ts → TupsAre K H vs ts ∧ ∀ p ∈ vs.zip ts, Rel K F (tupD p.2) p.1
  | [], vs, ts, h, e => by
    rw [h.inv0]
    cases e
    exact ⟨.nil, fun p hp => by simp at hp⟩
  | .tuple ds :: r, vs, ts, h, e => by
    obtain ⟨v, vr, rfl, h1, h2⟩ := h.inv
    unfold tupsOf at e
    split at e
    · rename_i n ns ts' e1 e2
      cases e
      obtain ⟨i1, i2⟩ := tups_rel s h2 e2
      have h0 := h1
      unfold Rel at h1
      obtain ⟨a, us, rfl, q, rl⟩ := h1
      have eu := rl.ints e1
      subst eu
      refine ⟨.cons (sqT_mono s q) i1, fun p hp => ?_⟩
      rw [List.zip_cons_cons] at hp
      rcases List.mem_cons.mp hp with rfl | hp
      · show Rel K F (tupD (n :: ns)) (.ref a)
        unfold tupD Rel
        exact ⟨a, _, rfl, q, relL_ints _⟩
      · exact i2 p hp
    · cases e
  | .none :: r, vs, ts, h, e => by cases e
  | .bool _ :: r, vs, ts, h, e => by cases e
  | .int _ :: r, vs, ts, h, e => by cases e
  | .str _ :: r, vs, ts, h, e => by cases e
  | .list _ :: r, vs, ts, h, e => by cases e
  | .dict _ :: r, vs, ts, h, e => by cases e
theorem rel_of_zip {K : PySem.W.Frag} {F : Fz} : ∀ {ys : List V} {us : List (List Int)}, ys.length = us.length → (∀ p ∈ ys.zip us, Rel K F (tupD p.2) p.1) → RelL K F (us.map tupD) ys
  | [], [], _, _ => .nil
  | y :: ys, u :: us, hl, h => by
    rw [List.zip_cons_cons] at h
    exact .cons (h (y, u) List.mem_cons_self) (rel_of_zip (by simpa using hl) fun p hp => h p (List.mem_cons_of_mem _ hp))
  | [], _ :: _, hl, _ => by simp at hl
  | _ :: _, [], hl, _ => by simp at hl
theorem snd_zip {α β : Type} : ∀ {xs : List α} {ys : List β}, xs.length = ys.length → (xs.zip ys).map (·.2) = ys
  | [], [], _ => rfl
  | x :: xs, y :: ys, h => by rw [List.zip_cons_cons, List.map_cons, snd_zip (by simpa using h)]
  | [], _ :: _, h => by simp at h
  | _ :: _, [], h => by simp at h
theorem TupsAre.len {K : PySem.W.Frag} {H : Hp} : ∀ {xs : List V} {ts : List (List Int)}, TupsAre K H xs ts → xs.length = ts.length
  | _, _, .nil => rfl
  | _, _, .cons h r => by rw [List.length_cons, List.length_cons, r.len]
end Pv
end

section
/-! PvH: built-in functions, subscripts, dicts, the methods of lists. -/
set_option autoImplicit false
namespace Pv
open PySem PySem.Spec PyProof.Rows L2

section
variable {X : Cx} {C : Ct} {Ow Ow' OwL : List Nat} {e a b : Expr} {es : List Expr} {i ia ib ic : Ex} {is : Exs} {pos p apos : Pos} {x : Str}

/-! ### a built-in function by values -/
def ShL (K : PySem.W.Frag) (F : Fz) (H : Hp) : List D → List V → Prop
  | [], vs => vs = []
  | d :: ds, vs => ∃ v vr, vs = v :: vr ∧ Sh K F H d v ∧ ShL K F H ds vr
def rBi (K : PySem.W.Frag) (f : Bi) : List V → Hp → VK → Prop := fun xs H Q => ∃ F vas v, Same F.h H ∧ ShL K F H vas xs ∧ biV f vas = some v ∧ Out K F H v Q
/-- args, one or two, that are only looked at -/
structure Eas (X : Cx) (C : Ct) (Ow : List Nat) (es : List Expr) (is : Exs) : Prop where
  run : PA X es (fun σ H Q => ∃ T F σe g vs g', R C Ow T F σe g σ H ∧ evs C.Φ is σe g = .ok vs g' ∧ ∀ F' H' xs, Fsub F F' → R C Ow T F' σe g' σ H' → ShL C.K F' H' vs xs → Q xs H')
theorem Eas.one (h : Eb X C Ow e i) (hs : starEach [e] X.env = (false, eval e X.env) :: starEach [] X.env) : Eas X C Ow [e] (.cons i .nil) :=
  ⟨pa_con (pa_cons h.run pa_nil hs) fun σ H Q ⟨T, F, σe, g, vs, g', r, m, q⟩ => by
    unfold evs at m
    obtain ⟨v, g1, m1, m2⟩ := bind_eq_ok m
    obtain ⟨ws, g2, m3, m4⟩ := bind_eq_ok m2
    unfold evs at m3
    cases m3; cases m4
    exact ⟨T, F, σe, g, v, _, r, m1, fun F1 H1 y s1 r1 b1 => q F1 H1 _ s1 r1 ⟨y, [], rfl, r1.sh b1, rfl⟩⟩⟩
theorem Eas.two (h : Eb X C Ow a ia) (h2 : Eb X C Ow b ib) (hs : starEach [a, b] X.env = (false, eval a X.env) :: starEach [b] X.env) (hs2 : starEach [b] X.env = (false, eval b X.env) :: starEach [] X.env) : Eas X C Ow [a, b] (.cons ia (.cons ib .nil)) :=
  ⟨pa_con (pa_cons h.run (pa_cons h2.run pa_nil hs2) hs) fun σ H Q ⟨T, F, σe, g, vs, g', r, m, q⟩ => by
    unfold evs at m
    obtain ⟨v, g1, m1, m2⟩ := bind_eq_ok m
    obtain ⟨ws, g2, m3, m4⟩ := bind_eq_ok m2
    unfold evs at m3
    obtain ⟨v2, g3, m5, m6⟩ := bind_eq_ok m3
    obtain ⟨ws2, g4, m7, m8⟩ := bind_eq_ok m6
    unfold evs at m7
    cases m7; cases m8; cases m4
    exact ⟨T, F, σe, g, v, _, r, m1, fun F1 H1 y s1 r1 b1 => ⟨T, F1, σe, _, v2, _, r1, m5, fun F2 H2 z s2 r2 b2 => q F2 H2 _ (s1.trans s2) r2 ⟨y, [z], rfl, r2.sh (b1.mono s2), z, [], rfl, r2.sh b2, rfl⟩⟩⟩⟩
theorem Es.biB (f : Bi) {id : String} (hK : X.K = C.K) (hc : CallR X (.builtin id) (rBi X.K f)) (hg : Gl X x) (hm : X.mg x = none) (hv : bootBuiltins x = some (.builtin id)) (ha : Eas X C Ow (e :: es) is) (hn : x ≠ "__name__") (hdb : (x == ("__debug__" : Str)) = false)
    (he : starEach (e :: es) X.env = (false, eval e X.env) :: starEach es X.env) (hpl : (backTo pos (starEach es X.env)).any (·.1) = false) : Es X C Ow (.Call (.Name x p) (e :: es) [] pos) (.bi f is) :=
  ⟨pe_con (pe_callB hc hg hm hv ha.run hn hdb he hpl) fun σ H Q ⟨T, F, σe, g, v, g', r, m, q⟩ => by
    unfold ev at m
    obtain ⟨vs, g1, m1, m2⟩ := bind_eq_ok m
    obtain ⟨m3, e3⟩ := lift_eq_ok m2
    subst e3
    exact ⟨T, F, σe, g, vs, _, r, m1, fun F1 H1 xs s1 r1 h1 => ⟨F1, vs, v, r1.sub, by rw [hK]; exact h1, m3, by rw [hK]; exact r1.out fun F' H' z s r' => q F' H' z (s1.trans s) r'⟩⟩⟩
theorem Es.biT (f : Bi) {id : String} (hK : X.K = C.K) (hc : CallR X (.type id) (rBi X.K f)) (hg : Gl X x) (hm : X.mg x = none) (hv : bootBuiltins x = some (.type id)) (ha : Eas X C Ow (e :: es) is) (hn : x ≠ "__name__") (hdb : (x == ("__debug__" : Str)) = false)
    (he : starEach (e :: es) X.env = (false, eval e X.env) :: starEach es X.env) (hpl : (backTo pos (starEach es X.env)).any (·.1) = false) : Es X C Ow (.Call (.Name x p) (e :: es) [] pos) (.bi f is) :=
  ⟨pe_con (pe_callTy hc hg hm hv ha.run hn hdb he hpl) fun σ H Q ⟨T, F, σe, g, v, g', r, m, q⟩ => by
    unfold ev at m
    obtain ⟨vs, g1, m1, m2⟩ := bind_eq_ok m
    obtain ⟨m3, e3⟩ := lift_eq_ok m2
    subst e3
    exact ⟨T, F, σe, g, vs, _, r, m1, fun F1 H1 xs s1 r1 h1 => ⟨F1, vs, v, r1.sub, by rw [hK]; exact h1, m3, by rw [hK]; exact r1.out fun F' H' z s r' => q F' H' z (s1.trans s) r'⟩⟩⟩
theorem ShL.one {K : PySem.W.Frag} {F : Fz} {H : Hp} {d : D} {xs : List V} (h : ShL K F H [d] xs) : ∃ v, xs = [v] ∧ Sh K F H d v := by
  obtain ⟨v, vr, e, h1, h2⟩ := h
  exact ⟨v, by rw [e, (show vr = [] from h2)], h1⟩
theorem ShL.two {K : PySem.W.Frag} {F : Fz} {H : Hp} {d d2 : D} {xs : List V} (h : ShL K F H [d, d2] xs) : ∃ v w, xs = [v, w] ∧ Sh K F H d v ∧ Sh K F H d2 w := by
  obtain ⟨v, vr, e, h1, h2⟩ := h
  obtain ⟨w, e2, h3⟩ := ShL.one h2
  exact ⟨v, w, by rw [e, e2], h1, h3⟩
theorem cb_len : CallR X (.builtin "len") (rBi X.K .len) := by
  intro pins s σ H xs us Q I rx h
  obtain ⟨F, vas, v, sub, hs, hv, q⟩ := h
  rcases vas with _ | ⟨d, _ | ⟨d2, r⟩⟩
  · simp [biV] at hv
  · obtain ⟨y, rfl, hy⟩ := hs.one
    refine call_len pins s σ H _ us Q I rx ?_
    cases d with
    | list ds =>
      obtain ⟨a, vs, rfl, h1, h2⟩ := hy
      cases hv
      exact ⟨_, _, rfl, .inl ⟨vs, SqL.of h1, h2.length⟩, q.1 _ rel_int⟩
    | tuple ds =>
      obtain ⟨a, vs, rfl, h1, h2⟩ := hy
      cases hv
      exact ⟨_, _, rfl, .inr ⟨vs, sqT_mono sub h1, h2.length⟩, q.1 _ rel_int⟩
    | str z =>
      cases hy
      simp only [biV, lenV] at hv
      split at hv
      · rename_i hc
        cases hv
        exact ⟨_, _, rfl, ⟨lineN_le (of_decide_eq_true hc), rfl⟩, q.1 _ rel_int⟩
      · cases hv
    | _ => simp [biV, lenV] at hv
  · simp [biV] at hv
theorem cb_abs : CallR X (.builtin "abs") (rBi X.K .abs) := by
  intro pins s σ H xs us Q I rx h
  obtain ⟨F, vas, v, sub, hs, hv, q⟩ := h
  rcases vas with _ | ⟨d, _ | ⟨d2, r⟩⟩
  · simp [biV] at hv
  · obtain ⟨y, rfl, hy⟩ := hs.one
    cases d with
    | int j =>
      cases hy; cases hv
      exact call_abs pins s σ H _ us Q I rx ⟨_, rfl, q.1 _ rel_int⟩
    | _ => simp [biV] at hv
  · cases d <;> simp [biV] at hv
theorem cb_min2 (hc : X.calm = true) : CallR X (.builtin "min") (rBi X.K .min2) := by
  intro pins s σ H xs us Q I rx h
  obtain ⟨F, vas, v, sub, hs, hv, q⟩ := h
  rcases vas with _ | ⟨d, _ | ⟨d2, _ | ⟨d3, r⟩⟩⟩
  · simp [biV] at hv
  · simp [biV] at hv
  · obtain ⟨y, z, rfl, hy, hz⟩ := hs.two
    cases d with
    | int j =>
      cases d2 with
      | int k =>
        cases hy; cases hz; cases hv
        exact call_min2 hc pins s σ H _ us Q I rx ⟨_, _, rfl, q.1 _ rel_int⟩
      | _ => simp [biV] at hv
    | _ => simp [biV] at hv
  · cases d <;> cases d2 <;> simp [biV] at hv
theorem cb_max2 (hc : X.calm = true) : CallR X (.builtin "max") (rBi X.K .max2) := by
  intro pins s σ H xs us Q I rx h
  obtain ⟨F, vas, v, sub, hs, hv, q⟩ := h
  rcases vas with _ | ⟨d, _ | ⟨d2, _ | ⟨d3, r⟩⟩⟩
  · simp [biV] at hv
  · simp [biV] at hv
  · obtain ⟨y, z, rfl, hy, hz⟩ := hs.two
    cases d with
    | int j =>
      cases d2 with
      | int k =>
        cases hy; cases hz; cases hv
        exact call_max2 hc pins s σ H _ us Q I rx ⟨_, _, rfl, q.1 _ rel_int⟩
      | _ => simp [biV] at hv
    | _ => simp [biV] at hv
  · cases d <;> cases d2 <;> simp [biV] at hv
theorem cb_sum (hc : X.calm = true) : CallR X (.builtin "sum") (rBi X.K .sum) := by
  intro pins s σ H xs us Q I rx h
  obtain ⟨F, vas, v, sub, hs, hv, q⟩ := h
  rcases vas with _ | ⟨d, _ | ⟨d2, r⟩⟩
  · simp [biV] at hv
  · obtain ⟨y, rfl, hy⟩ := hs.one
    cases d with
    | list ds =>
      obtain ⟨a, vs, rfl, h1, h2⟩ := hy
      obtain ⟨ns, e1, e2⟩ := map_some hv
      subst e2
      rw [h2.ints e1] at h1
      exact cr_sum hc pins s σ H _ us Q I rx ⟨a, ns, rfl, SqL.of h1, q.1 _ rel_int⟩
    | _ => simp [biV] at hv
  · cases d <;> simp [biV] at hv
theorem cb_toInt : CallR X (.type "int") (rBi X.K .toInt) := by
  intro pins s σ H xs us Q I rx h
  obtain ⟨F, vas, v, sub, hs, hv, q⟩ := h
  rcases vas with _ | ⟨d, _ | ⟨d2, r⟩⟩
  · simp [biV] at hv
  · obtain ⟨y, rfl, hy⟩ := hs.one
    cases d with
    | int j =>
      cases hy; cases hv
      exact call_int1 pins s σ H _ us Q I rx (.inl ⟨_, rfl, q.1 _ rel_int⟩)
    | bool j =>
      cases hy; cases hv
      exact call_int1 pins s σ H _ us Q I rx (.inr ⟨_, rfl, q.1 _ rel_int⟩)
    | _ => simp [biV] at hv
  · cases d <;> simp [biV] at hv
theorem cb_toList : CallR X (.type "list") (rBi X.K .toList) := by
  intro pins s σ H xs us Q I rx h
  obtain ⟨F, vas, v, sub, hs, hv, q⟩ := h
  rcases vas with _ | ⟨d, _ | ⟨d2, r⟩⟩
  · simp [biV] at hv
  · obtain ⟨y, rfl, hy⟩ := hs.one
    cases d with
    | list ds =>
      obtain ⟨a, vs, rfl, h1, h2⟩ := hy
      cases hv
      exact call_list_of pins s σ H _ us Q I rx ⟨a, vs, rfl, .inl (SqL.of h1), fun l hl => q.2 l _ hl (rel_lst (sub.free hl) h2)⟩
    | tuple ds =>
      obtain ⟨a, vs, rfl, h1, h2⟩ := hy
      cases hv
      exact call_list_of pins s σ H _ us Q I rx ⟨a, vs, rfl, .inr (sqT_mono sub h1), fun l hl => q.2 l _ hl (rel_lst (sub.free hl) h2)⟩
    | _ => simp [biV] at hv
  · cases d <;> simp [biV] at hv
theorem cb_toTuple : CallR X (.type "tuple") (rBi X.K .toTuple) := by
  intro pins s σ H xs us Q I rx h
  obtain ⟨F, vas, v, sub, hs, hv, q⟩ := h
  rcases vas with _ | ⟨d, _ | ⟨d2, r⟩⟩
  · simp [biV] at hv
  · obtain ⟨y, rfl, hy⟩ := hs.one
    cases d with
    | list ds =>
      obtain ⟨a, vs, rfl, h1, h2⟩ := hy
      cases hv
      exact call_tuple_of pins s σ H _ us Q I rx ⟨a, vs, rfl, .inl ⟨SqL.of h1, fun l hl => q.2 l _ hl (rel_tup (sub.free hl) h2)⟩⟩
    | tuple ds =>
      obtain ⟨a, vs, rfl, h1, h2⟩ := hy
      cases hv
      exact call_tuple_of pins s σ H _ us Q I rx ⟨a, vs, rfl, .inr ⟨sqT_mono sub h1, q.1 _ (by unfold Rel; exact ⟨a, vs, rfl, h1, h2⟩)⟩⟩
    | _ => simp [biV] at hv
  · cases d <;> simp [biV] at hv
theorem bools_rel {K : PySem.W.Frag} {F : Fz} : ∀ {ds : List D} {vs : List V} {bs : List Bool}, RelL K F ds vs → boolsOf ds = some bs → vs = bs.map V.bl
  | [], vs, bs, h, e => by cases e; rw [h.inv0]; rfl
  | .bool b :: ds, vs, bs, h, e => by
    obtain ⟨v, vr, rfl, h1, h2⟩ := h.inv
    unfold boolsOf at e
    obtain ⟨cs, e1, e2⟩ := map_some e
    subst e2
    unfold Rel at h1
    rw [h1, bools_rel h2 e1]; rfl
  | .none :: r, vs, ts, h, e => by cases e
  | .tuple _ :: r, vs, ts, h, e => by cases e
  | .int _ :: r, vs, ts, h, e => by cases e
  | .str _ :: r, vs, ts, h, e => by cases e
  | .list _ :: r, vs, ts, h, e => by cases e
  | .dict _ :: r, vs, ts, h, e => by cases e
theorem cb_all (hc : X.calm = true) : CallR X (.builtin "all") (rBi X.K .all) := by
  intro pins s σ H xs us Q I rx h
  obtain ⟨F, vas, v, sub, hs, hv, q⟩ := h
  rcases vas with _ | ⟨d, _ | ⟨d2, r⟩⟩
  · simp [biV] at hv
  · obtain ⟨y, rfl, hy⟩ := hs.one
    cases d with
    | list ds =>
      obtain ⟨a, vs, rfl, h1, h2⟩ := hy
      obtain ⟨bs, e1, e2⟩ := map_some hv
      subst e2
      rw [bools_rel h2 e1] at h1
      exact cr_all hc pins s σ H _ us Q I rx ⟨a, bs, rfl, SqL.of h1, q.1 _ rel_bl⟩
    | _ => simp [biV] at hv
  · cases d <;> simp [biV] at hv
theorem maxI_top : ∀ (n : Int) (ns : List Int), maxI n ns ∈ n :: ns ∧ ∀ y, y ∈ n :: ns → y ≤ maxI n ns
  | n, [] => ⟨List.mem_cons_self, fun y h => by simp at h; subst h; exact Int.le_refl _⟩
  | n, x :: r => by
    obtain ⟨h1, h2⟩ := maxI_top (if n < x then x else n) r
    show maxI (if n < x then x else n) r ∈ _ ∧ ∀ y, _ → y ≤ maxI (if n < x then x else n) r
    generalize maxI (if n < x then x else n) r = m at *
    have hc := h2 _ List.mem_cons_self
    refine ⟨?_, fun y h => ?_⟩
    · rcases List.mem_cons.mp h1 with e | e
      · rw [e]; split <;> simp
      · exact List.mem_cons_of_mem _ (List.mem_cons_of_mem _ e)
    · rcases List.mem_cons.mp h with e | e
      · subst e; split at hc <;> omega
      · rcases List.mem_cons.mp e with e | e
        · subst e; split at hc <;> omega
        · exact h2 y (List.mem_cons_of_mem _ e)
theorem minI_low : ∀ (n : Int) (ns : List Int), minI n ns ∈ n :: ns ∧ ∀ y, y ∈ n :: ns → minI n ns ≤ y
  | n, [] => ⟨List.mem_cons_self, fun y h => by simp at h; subst h; exact Int.le_refl _⟩
  | n, x :: r => by
    obtain ⟨h1, h2⟩ := minI_low (if x < n then x else n) r
    show minI (if x < n then x else n) r ∈ _ ∧ ∀ y, _ → minI (if x < n then x else n) r ≤ y
    generalize minI (if x < n then x else n) r = m at *
    have hc := h2 _ List.mem_cons_self
    refine ⟨?_, fun y h => ?_⟩
    · rcases List.mem_cons.mp h1 with e | e
      · rw [e]; split <;> simp
      · exact List.mem_cons_of_mem _ (List.mem_cons_of_mem _ e)
    · rcases List.mem_cons.mp h with e | e
      · subst e; split at hc <;> omega
      · rcases List.mem_cons.mp e with e | e
        · subst e; split at hc <;> omega
        · exact h2 y (List.mem_cons_of_mem _ e)
theorem cb_maxL (hc : X.calm = true) : CallR X (.builtin "max") (rBi X.K .maxL) := by
  intro pins s σ H xs us Q I rx h
  obtain ⟨F, vas, v, sub, hs, hv, q⟩ := h
  rcases vas with _ | ⟨d, _ | ⟨d2, r⟩⟩
  · simp [biV] at hv
  · obtain ⟨y, rfl, hy⟩ := hs.one
    cases d with
    | list ds =>
      obtain ⟨a, vs, rfl, h1, h2⟩ := hy
      simp only [biV] at hv
      split at hv
      · rename_i n ns e1
        cases hv
        rw [h2.ints e1] at h1
        refine cr_max hc pins s σ H _ us Q I rx ⟨a, n :: ns, rfl, SqL.of h1, Nat.succ_pos _, fun m hm hy => ?_⟩
        obtain ⟨t1, t2⟩ := maxI_top n ns
        have := hy _ t1
        have := t2 _ hm
        rw [show m = maxI n ns by omega]
        exact q.1 _ rel_int
      · cases hv
    | _ => simp [biV] at hv
  · cases d <;> simp [biV] at hv
theorem cb_minL (hc : X.calm = true) : CallR X (.builtin "min") (rBi X.K .minL) := by
  intro pins s σ H xs us Q I rx h
  obtain ⟨F, vas, v, sub, hs, hv, q⟩ := h
  rcases vas with _ | ⟨d, _ | ⟨d2, r⟩⟩
  · simp [biV] at hv
  · obtain ⟨y, rfl, hy⟩ := hs.one
    cases d with
    | list ds =>
      obtain ⟨a, vs, rfl, h1, h2⟩ := hy
      simp only [biV] at hv
      split at hv
      · rename_i n ns e1
        cases hv
        rw [h2.ints e1] at h1
        refine cr_min hc pins s σ H _ us Q I rx ⟨a, n :: ns, rfl, SqL.of h1, Nat.succ_pos _, fun m hm hy => ?_⟩
        obtain ⟨t1, t2⟩ := minI_low n ns
        have := hy _ t1
        have := t2 _ hm
        rw [show m = minI n ns by omega]
        exact q.1 _ rel_int
      · cases hv
    | _ => simp [biV] at hv
  · cases d <;> simp [biV] at hv
theorem cb_any (hc : X.calm = true) : CallR X (.builtin "any") (rBi X.K .any) := by
  intro pins s σ H xs us Q I rx h
  obtain ⟨F, vas, v, sub, hs, hv, q⟩ := h
  rcases vas with _ | ⟨d, _ | ⟨d2, r⟩⟩
  · simp [biV] at hv
  · obtain ⟨y, rfl, hy⟩ := hs.one
    cases d with
    | list ds =>
      obtain ⟨a, vs, rfl, h1, h2⟩ := hy
      obtain ⟨bs, e1, e2⟩ := map_some hv
      subst e2
      rw [bools_rel h2 e1] at h1
      exact cr_any hc pins s σ H _ us Q I rx ⟨a, bs, rfl, SqL.of h1, q.1 _ rel_bl⟩
    | _ => simp [biV] at hv
  · cases d <;> simp [biV] at hv
/-! ### sorted of ints -/
theorem insI_perm (x : Int) : ∀ ys : List Int, (insI x ys).Perm (x :: ys)
  | [] => .refl _
  | y :: r => by
    unfold insI
    split
    · exact .refl _
    · exact ((insI_perm x r).cons y).trans (.swap x y r)
theorem sortI_perm : ∀ xs : List Int, (sortI xs).Perm xs
  | [] => .refl _
  | x :: r => (insI_perm x _).trans ((sortI_perm r).cons x)
theorem insI_sorted (x : Int) : ∀ {ys : List Int}, ys.Pairwise (· ≤ ·) → (insI x ys).Pairwise (· ≤ ·)
  | [], _ => by unfold insI; exact List.pairwise_singleton _ _
  | y :: r, h => by
    unfold insI
    rw [List.pairwise_cons] at h
    split
    · rename_i hc
      refine List.pairwise_cons.mpr ⟨fun z hz => ?_, List.pairwise_cons.mpr h⟩
      rcases List.mem_cons.mp hz with rfl | hz
      · exact hc
      · exact Int.le_trans hc (h.1 z hz)
    · rename_i hc
      refine List.pairwise_cons.mpr ⟨fun z hz => ?_, insI_sorted x h.2⟩
      rcases List.mem_cons.mp ((insI_perm x r).mem_iff.mp hz) with rfl | hz
      · omega
      · exact h.1 z hz
theorem sortI_sorted : ∀ xs : List Int, (sortI xs).Pairwise (· ≤ ·)
  | [] => .nil
  | x :: r => insI_sorted x (sortI_sorted r)
theorem sorted_unique {xs ys : List Int} (p : xs.Perm ys) (hx : xs.Pairwise (· ≤ ·)) (hy : ys.Pairwise (· ≤ ·)) : xs = ys :=
  p.eq_of_pairwise (fun a b _ _ h1 h2 => Int.le_antisymm h1 h2) hx hy
theorem cb_sorted : CallR X (.builtin "sorted") (rBi X.K .sorted) := by
  intro pins s σ H xs us Q I rx h
  obtain ⟨F, vas, v, sub, hs, hv, q⟩ := h
  rcases vas with _ | ⟨d, _ | ⟨d2, r⟩⟩
  · simp [biV] at hv
  · obtain ⟨y, rfl, hy⟩ := hs.one
    cases d with
    | list ds =>
      obtain ⟨a, vs, rfl, h1, h2⟩ := hy
      have hv : sortV ds = some v := hv
      unfold sortV at hv
      split at hv
      · rename_i ns e1
        cases hv
        rw [h2.ints e1] at h1
        refine cr_sortedI pins s σ H _ us Q I rx ⟨a, ns, rfl, SqL.of h1, fun ns' p hp hs' hn => ?_⟩
        have e : ns' = sortI ns := sorted_unique (hp.trans (sortI_perm ns).symm) hs' (sortI_sorted ns)
        subst e
        exact q.2 p _ hn (rel_lst (sub.free hn) (relL_ints _))
      · obtain ⟨ts, e1, e2⟩ := map_some hv
        subst e2
        obtain ⟨t1, t2⟩ := tups_rel sub h2 e1
        refine cr_sortedIt pins s σ H _ us Q I rx ⟨a, vs, ts, rfl, SqL.of h1, t1, fun ys ts' p hl hp hs' hn => ?_⟩
        have pm : ts'.Perm ts := by
          have z := hp.map (fun x => x.2)
          rw [snd_zip hl, snd_zip t1.len] at z
          exact z
        have e : ts' = sortT ts := sortT_unique (pm.trans (sortT_perm ts).symm) hs' (sortT_sorted ts)
        subst e
        exact q.2 p _ hn (rel_lst (sub.free hn) (rel_of_zip hl fun z hz => t2 z (hp.mem_iff.mp hz)))
    | _ => simp [biV] at hv
  · cases d <;> simp [biV] at hv
/-! ### divmod -/
theorem cb_divmod : CallR X (.builtin "divmod") (rBi X.K .divmod) := by
  intro pins s σ H xs us Q I rx h
  obtain ⟨F, vas, v, sub, hs, hv, q⟩ := h
  rcases vas with _ | ⟨d, _ | ⟨d2, _ | ⟨d3, r⟩⟩⟩
  · simp [biV] at hv
  · cases d <;> simp [biV] at hv
  · obtain ⟨y, z, rfl, hy, hz⟩ := hs.two
    cases d <;> cases d2 <;> simp only [biV] at hv <;> first
      | (cases hv; done)
      | (rename_i i j
         split at hv
         · rename_i c
           simp only [Bool.and_eq_true, decide_eq_true_eq] at c
           cases hv
           cases hy
           cases hz
           obtain ⟨u, w', rfl, ⟨t, rfl⟩, ⟨t', rfl⟩⟩ := vals2 rx
           refine divmod_int c.1 ?_ (.inl (PyProof.noPylong_small c.2))
           have hn : H s.heap.objs.size = none := I.hok.fresh (Nat.le_refl _)
           refine ⟨.ref s.heap.objs.size, upd H s.heap.objs.size (.tup [.int (i.fdiv j), .int (i.fmod j)]), ?_, rfl, q.2 _ _ hn (rel_tup (sub.free hn) (.cons rel_int (.cons rel_int .nil)))⟩
           refine I.laid (fun b o e => Heap.get?_push_of_some _ e) (Nat.le_refl _) ⟨by simp only [List.length_cons, List.length_nil]; rw [sizeLine_eq]; decide, [.int (i.fdiv j) s.toks, .int (i.fmod j) (s.toks + 1)], .cons ⟨_, rfl⟩ (.cons ⟨_, rfl⟩ .nil), ?_⟩
           exact ⟨_, Heap.get?_push_size s.heap rfl, rfl, 0, rfl⟩
         · cases hv)
  · cases d <;> cases d2 <;> simp [biV] at hv
/-! ### repr -/
theorem reads_scal {h : Heap} {K : PySem.W.Frag} {F : Fz} {d : D} {v : V} {u : Value} (hd : scalD d = true) (hr : Rel K F d v) (ru : RelV v u) : Reads h u d [] := by
  cases d with
  | none => unfold Rel at hr; subst hr; cases ru; exact .none
  | bool b => unfold Rel at hr; subst hr; cases ru; exact .bool b
  | int i => unfold Rel at hr; subst hr; obtain ⟨t, rfl⟩ := ru; exact .int i t
  | str y => unfold Rel at hr; subst hr; obtain ⟨t, rfl⟩ := ru; exact .str y t
  | _ => cases hd
theorem reads_flat {h : Heap} {P : Program} {w : World} {K : PySem.W.Frag} {F : Fz} : ∀ {kvs : List (D × D)} {kk : List (Key × V)} {vs : List (Key × Value)} {es : List DictEntry}, (kvs.all fun p => (keyD p.1).isSome && scalD p.2) = true → RelKV K F kvs kk → KV kk vs →
    PySem.Pairs (mixKind P w) es vs → ReadsAll h (es.map (·.key)) (kvs.map (·.1)) [] ∧ ReadsAll h (es.map (·.val)) (kvs.map (·.2)) []
  | [], kk, vs, es, _, hr, hv, hp => by
    unfold RelKV at hr; subst hr; cases hv; cases hp
    exact ⟨.nil, .nil⟩
  | (k, d) :: r, kk, vs, es, hs, hr, hv, hp => by
    unfold RelKV at hr
    obtain ⟨kx, v, kr, rfl, e1, e2, e3⟩ := hr
    cases hv with
    | cons h1 h2 =>
      cases hp with
      | @cons e kv es' vr p1 p2 p3 =>
        simp only [List.all_cons, Bool.and_eq_true] at hs
        obtain ⟨i1, i2⟩ := reads_flat (h := h) (by simpa using hs.2) e3 h2 p3
        have rk : Reads h e.key k [] := by
          have p1 : keyIs _ e.key = true := p1
          rw [← h1.1] at p1
          rcases keyIs_shape (k := kx) p1 with ⟨i, t, z1, z2⟩ | ⟨i, t, z1, z2⟩
          · rw [z2]
            cases k <;> simp [keyD] at e1
            · subst z1
              have e1 := Sum.inl.inj e1
              subst e1; exact .int _ t
            · subst z1; cases e1
          · rw [z2]
            cases k <;> simp [keyD] at e1
            · subst z1; cases e1
            · subst z1
              have e1 := Sum.inr.inj e1
              subst e1; exact .str _ t
        have rv : Reads h e.val d [] := by
          rw [p2]
          exact reads_scal hs.1.2 e2 h1.2
        exact ⟨.cons (as := []) (bs := []) rk i1, .cons (as := []) (bs := []) rv i2⟩
theorem cb_repr (hG : X.A.guards = some []) (hu : X.A.units + 70 < cLine) : CallR X (.builtin "repr") (rBi X.K .repr) := by
  intro pins s σ H xs us Q I rx h
  obtain ⟨F, vas, v, sub, hs, hv, q⟩ := h
  rcases vas with _ | ⟨d, _ | ⟨d2, r⟩⟩
  · simp [biV] at hv
  · obtain ⟨y, rfl, hy⟩ := hs.one
    obtain ⟨u, rfl, ru⟩ := vals1 rx
    simp only [biV] at hv
    split at hv
    · rename_i hc
      cases hv
      unfold showOk at hc
      simp only [Bool.and_eq_true, decide_eq_true_eq, Bool.or_eq_true] at hc
      obtain ⟨⟨hd, hsh⟩, hl⟩ := hc
      have hl := lineN_le hl
      have q := q.1 _ rel_str
      have fin : ∀ h' tk u, (∀ b o, s.heap.get? b = some o → h'.get? b = some o) → EP X pins σ Q (.str d.shown u) { s with heap := h', toks := tk } := fun h' tk u hk => ⟨.str d.shown, H, I.kept hk, ⟨_, rfl⟩, q⟩
      have disp : ∀ a as, u = .ref a → Reads s.heap u d as → (d.hasDict = true → sysModules ∉ as) → d.depth ≤ 64 → wpAny (model X.prog X.w) X.A (PySem.call (.builtin "repr") [u]) (EP X pins σ Q) X.xe s := fun a as e r1 hm hdp => by
        subst e
        exact repr_of_reads' r1 hsh hm hG (by omega) (fun _ _ e => e) (fun h' u tk hk => fin h' tk u hk) hl
      cases d with
      | none => cases hy; cases ru; exact PySem.P.repr_of_none (fin s.heap _ _ fun _ _ z => z)
      | bool b => cases hy; cases ru; exact PySem.P.repr_of_bool (fin s.heap _ _ fun _ _ z => z)
      | int i =>
        cases hy
        obtain ⟨t, rfl⟩ := ru
        unfold PyData.showable at hsh
        exact PySem.P.repr_of_int (of_decide_eq_true hsh) (fin s.heap _ _ fun _ _ z => z)
      | str z =>
        cases hy
        obtain ⟨t, rfl⟩ := ru
        exact PySem.P.repr_of_str (fin s.heap _ _ fun _ _ z => z) hl
      | list ds =>
        have hd : shp (.list ds) = true := hd.resolve_right (by simp [flatD])
        have hd2 := hd
        unfold shp SeqAt.shaped at hd2
        simp only [Bool.and_eq_true, decide_eq_true_eq] at hd2
        obtain ⟨as, r1⟩ := Dp.reads I (.list ds) y u (dp_sh sub hd2.1 hy) ru
        obtain ⟨a, vs, rfl, _⟩ := hy
        exact disp a as ru r1 (PyData.noDict_hsm (PyData.hasDict_of_canLay _ hd2.1)) hd2.2
      | tuple ds =>
        have hd : shp (.tuple ds) = true := hd.resolve_right (by simp [flatD])
        have hd2 := hd
        unfold shp SeqAt.shaped at hd2
        simp only [Bool.and_eq_true, decide_eq_true_eq] at hd2
        obtain ⟨as, r1⟩ := Dp.reads I (.tuple ds) y u (dp_sh sub hd2.1 hy) ru
        obtain ⟨a, vs, rfl, _⟩ := hy
        exact disp a as ru r1 (PyData.noDict_hsm (PyData.hasDict_of_canLay _ hd2.1)) hd2.2
      | dict kvs =>
        have hd := hd.resolve_left fun z => by
          unfold shp SeqAt.shaped PyData.canLay0 at z
          simp at z
        obtain ⟨hd, hdp⟩ := hd
        unfold flatD at hd
        simp only [Bool.and_eq_true, Bool.not_eq_true'] at hd
        rcases hy with ⟨z, _⟩ | ⟨_, a, kk, rfl, h1, h2⟩
        · rw [hd.1] at z; cases z
        · obtain ⟨_, hsys, vs, kv, o, es, ep, e1, e2, e3, e4, e5, e6⟩ := (show ObjOk X.prog X.w H s.heap a (.dK kk) from I.hok a _ h1)
          obtain ⟨r1, r2⟩ := reads_flat (h := s.heap) hd.2 h2 kv e5
          have hne : a ≠ sysModules := fun z => by rw [z] at hsys; simp at hsys
          cases (show u = Value.ref a from ru)
          refine disp a ([a] ++ [] ++ []) rfl (.dict (as := []) (bs := []) e1 e2.1 e3 r1 r2) (fun _ z => hne ?_) ?_
          · simp at z; exact z.symm
          · exact hdp
    · cases hv
  · simp [biV] at hv
theorem cb_toStr (hG : X.A.guards = some []) (hu : X.A.units + 70 < cLine) : CallR X (.type "str") (rBi X.K .toStr) := by
  intro pins s σ H xs us Q I rx h
  obtain ⟨F, vas, v, sub, hs, hv, q⟩ := h
  rcases vas with _ | ⟨d, _ | ⟨d2, r⟩⟩
  · simp [biV] at hv
  · obtain ⟨y, rfl, hy⟩ := hs.one
    cases d with
    | int j =>
      cases hy
      simp only [biV] at hv
      split at hv
      · rename_i hc
        cases hv
        exact call_str_int pins s σ H _ us Q I rx ⟨_, rfl, of_decide_eq_true hc, q.1 _ rel_str⟩
      · cases hv
    | str z =>
      obtain ⟨u, rfl, ru⟩ := vals1 rx
      cases hy
      cases hv
      obtain ⟨t, rfl⟩ := ru
      exact PySem.P.str_of_str ⟨.str _, H, I, ⟨_, rfl⟩, q.1 _ rel_str⟩
    | list ds =>
      obtain ⟨u, rfl, ru⟩ := vals1 rx
      simp only [biV] at hv
      split at hv
      · rename_i hc
        cases hv
        unfold showOk at hc
        simp only [Bool.and_eq_true, decide_eq_true_eq, Bool.or_eq_true] at hc
        obtain ⟨⟨hd, hsh⟩, hl⟩ := hc
        have hl := lineN_le hl
        have hd : shp (.list ds) = true := hd.resolve_right (by simp [flatD])
        have hd2 := hd
        unfold shp SeqAt.shaped at hd2
        simp only [Bool.and_eq_true, decide_eq_true_eq] at hd2
        obtain ⟨as, r1⟩ := Dp.reads I (.list ds) y u (dp_sh sub hd2.1 hy) ru
        obtain ⟨a, vs, rfl, _⟩ := hy
        cases (show u = Value.ref a from ru)
        exact str_of_reads r1 hsh (PyData.noDict_hsm (PyData.hasDict_of_canLay _ hd2.1)) hG (by have := hd2.2; omega) (fun _ _ e => e) (fun h' tk u hk => ⟨.str _, H, I.kept hk, ⟨_, rfl⟩, q.1 _ rel_str⟩) hl
      · cases hv
    | tuple ds =>
      obtain ⟨u, rfl, ru⟩ := vals1 rx
      simp only [biV] at hv
      split at hv
      · rename_i hc
        cases hv
        unfold showOk at hc
        simp only [Bool.and_eq_true, decide_eq_true_eq, Bool.or_eq_true] at hc
        obtain ⟨⟨hd, hsh⟩, hl⟩ := hc
        have hl := lineN_le hl
        have hd : shp (.tuple ds) = true := hd.resolve_right (by simp [flatD])
        have hd2 := hd
        unfold shp SeqAt.shaped at hd2
        simp only [Bool.and_eq_true, decide_eq_true_eq] at hd2
        obtain ⟨as, r1⟩ := Dp.reads I (.tuple ds) y u (dp_sh sub hd2.1 hy) ru
        obtain ⟨a, vs, rfl, _⟩ := hy
        cases (show u = Value.ref a from ru)
        exact str_of_reads r1 hsh (PyData.noDict_hsm (PyData.hasDict_of_canLay _ hd2.1)) hG (by have := hd2.2; omega) (fun _ _ e => e) (fun h' tk u hk => ⟨.str _, H, I.kept hk, ⟨_, rfl⟩, q.1 _ rel_str⟩) hl
      · cases hv
    | _ => simp [biV] at hv
  · cases d <;> simp [biV] at hv
end
end Pv
end

section
/-! PvT: a tuple turned round, t[::-1]. -/
set_option autoImplicit false
namespace Pv
open PySem PyProof.Rows L2 HT
section
variable {prog : Program} {w : World} {A : Around} {E : Value → Shared → Prop} {s : Shared}
theorem sliceApplied_rev {sl : Addr} {vs : Value} {n : Nat} {Q : Int × Int × Nat → Shared → Prop} (hs : s.heap.IsSliceOf sl .none .none vs) (ps : IsPart vs (some (-1)))
    (h : Q ((n : Int) - 1, -1, n) s) : wpAny (model prog w) A (Builtin.Slice.sliceApplied (.ref sl) (pure (n : Int))) Q E s := by
  obtain ⟨os, hos, hcs, hds⟩ := id hs
  unfold Builtin.Slice.sliceApplied Builtin.Slice.sliceFields
  refine wpAny_bind (wpAny_bind (wpAny_field hos hds (x := .none) rfl (wpAny_bind (wpAny_field hos hds (x := .none) rfl (wpAny_bind (wpAny_field hos hds (x := vs) rfl (wpAny_pure ?_)))))))
  refine wpAny_bind (slicePart_ ps ?_)
  show wpAny _ _ (if ((-1 : Int) == 0) = true then _ else _) _ _ s
  rw [if_neg (by decide)]
  refine wpAny_bind (slicePart_none (wpAny_bind (slicePart_none (wpAny_bind (wpAny_pure ?_)))))
  show wpAny _ _ (pure ((n : Int) - 1, (-1 : Int), Builtin.Slice.slicePlaces ((n : Int) - 1) (-1) (-1))) _ _ s
  have e : Builtin.Slice.slicePlaces ((n : Int) - 1) (-1) (-1) = n := by
    unfold Builtin.Slice.slicePlaces
    have h1 : ¬ ((-1 : Int) > 0) := by omega
    simp only [h1, if_false]
    by_cases h2 : (n : Int) - 1 > -1
    · simp only [h2, if_true]
      rw [show (- -1 : Int) = 1 by decide, Int.ediv_one]; omega
    · simp only [h2, if_false]; omega
  rw [e]
  exact wpAny_pure h
theorem pick_rev (xs : Array Value) : ((List.range xs.size).filterMap fun (m : Nat) => xs[((xs.size : Int) - 1 + (m : Int) * -1).toNat]?).toArray = xs.toList.reverse.toArray := by
  have e : (fun (m : Nat) => xs[((xs.size : Int) - 1 + (m : Int) * -1).toNat]?) = fun m => xs[xs.size - 1 - m]? := by
    funext m
    have : ((xs.size : Int) - 1 + (m : Int) * -1).toNat = xs.size - 1 - m := by omega
    rw [this]
  rw [e, show (fun (m : Nat) => xs[xs.size - 1 - m]?) = (fun m => xs[m]?) ∘ (fun m => xs.size - 1 - m) from rfl, ← List.filterMap_map, PySem.W.krv_range, List.filterMap_reverse, PySem.W.krv_all]
theorem getItem_tuple_rev {t sl : Addr} {items : Array Value} {vs : Value} {Q : Value → Shared → Prop} (ht : IsTup s.heap t items) (hs : s.heap.IsSliceOf sl .none .none vs) (ps : IsPart vs (some (-1)))
    (h : Q (.ref s.heap.objs.size) { s with heap := s.heap.push { cls := .type "tuple", data := .seq items.toList.reverse.toArray } })
    (hsz : items.size ≤ sizeLine) : wpAny (model prog w) A (getItem (.ref t) (.ref sl)) Q E s := by
  have htake : sizeOk (.seq items.toList.reverse.toArray) := by
    show items.toList.reverse.toArray.size ≤ sizeLine
    rw [List.size_toArray, List.length_reverse, Array.length_toList]
    exact hsz
  obtain ⟨os, hos, hcs, hds⟩ := id hs
  have hTs : s.TypeIs (.ref sl) "slice" := ⟨os, hos, hcs⟩
  unfold getItem
  try with_reducible refine wpAny_holding ?_
  first | refine wpAny_bind (wpAny_pure ?_) | skip
  refine wpAny_bind (wpAny_sequenceKey ht.typeIs (by decide) ?_)
  refine wpAny_bind (wpAny_callSpecial?_slot (name := Str.ofString "__getitem__") ht.typeIs PyProof.Rows.slot_tuple_getitem
    (wpAny_call_entry PyProof.Rows.slot_tuple_getitem ht.typeIs entry_tuple_getitem ?_ (args_tuple_getitem _ _)))
  show wpAny _ _ (Builtin.Tuple.tupleItemsOf (.ref t) >>= _) _ _ s
  refine wpAny_bind (tupleItemsOf_ ht ?_)
  refine wpAny_bind (wpAny_typeOf hTs ?_)
  rw [if_pos (by decide)]
  refine wpAny_bind (sliceApplied_rev hs ps ?_)
  have hno : ¬ ((((items.size : Int) - 1) == 0 && (-1 : Int) == 1 && items.size == items.size) = true) := by
    intro q
    rw [Bool.and_eq_true, Bool.and_eq_true] at q
    exact absurd q.1.2 (by decide)
  show wpAny _ _ (if (((items.size : Int) - 1) == 0 && (-1 : Int) == 1 && items.size == items.size) = true then _ else _) _ _ s
  rw [if_neg hno, pick_rev]
  first
    | exact wpAny_bind (m := Builtin.Tuple.tupleExact _) (wpAny_newObj_type (wpAny_pure ⟨_, rfl, wpAny_pure h⟩) htake)
    | exact wpAny_bind (m := Builtin.Tuple.tupleExact _) (wpAny_newObj_type (wpAny_bind (wpAny_pure (wpAny_pure ⟨_, rfl, wpAny_pure h⟩))) htake)
    | exact wpAny_bind (wpAny_bind (m := Builtin.Tuple.tupleExact _) (wpAny_newObj_type (wpAny_pure (wpAny_pure ⟨_, rfl, wpAny_pure h⟩)) htake))
    | exact wpAny_bind (wpAny_bind (m := Builtin.Tuple.tupleExact _) (wpAny_newObj_type (wpAny_pure ⟨_, rfl, wpAny_pure h⟩) htake))
end
def rRev (K : PySem.W.Frag) (x : V) (H1 : Hp) (Q : VK) : Prop := (∃ a xs, x = .ref a ∧ SqL K H1 a xs ∧ ∀ p, H1 p = none → Q (.ref p) (upd H1 p (.lst xs.reverse))) ∨ ∃ a xs, x = .ref a ∧ SqT K H1 a xs ∧ ∀ p, H1 p = none → Q (.ref p) (upd H1 p (.tup xs.reverse))
def tRev (K : PySem.W.Frag) (te : TE) : TE := fun σ H Q => te σ H fun x H1 => rRev K x H1 Q
/-- x[::-1] of a list or a tuple -/
theorem pe_rev {X : Cx} {e : Expr} {te : TE} {k : Nat} {p1 p2 p3 pos : Pos} (he : PE X e te) : PE X (.Subscript e (.Slice none none (some (.UnaryOp .USub (.Constant (.int 1) k p1) p2)) p3) pos) (tRev X.K te) := by
  refine ⟨fun pins s σ H Q I h => ?_⟩
  refine Subscript_ (thn (he.run pins s σ H _ I h) fun v s1 ⟨x, H1, I1, r1, q1⟩ => ?_)
  have hst : PO X (some (.UnaryOp .USub (.Constant (.int 1) k p1) p2)) (tPart (tUn (rU fun i => .int (-i)) (tC (.int 1)))) := po_some (pe_un un_neg pe_int)
  refine wpAny_Slice (thn (po_none.run pins s1 σ H1 (fun o H2 => o = none ∧ H2 = H1) I1 ⟨rfl, rfl⟩) fun vl s2 ⟨l, H2, I2, pl, el, e2⟩ => ?_)
  subst el e2
  refine thn (po_none.run pins s2 σ H2 (fun o H3 => o = none ∧ H3 = H2) I2 ⟨rfl, rfl⟩) fun vu s3 ⟨u, H3, I3, pu, eu, e3⟩ => ?_
  subst eu e3
  refine thn (hst.run pins s3 σ H3 (fun o H4 => o = some (-1) ∧ H4 = H3) I3 ⟨1, rfl, -1, rfl, rfl, rfl⟩) fun vs s4 ⟨o, H4, I4, ps, eo, e4⟩ => ?_
  subst eo e4
  cases pl
  cases pu
  have I5 : Inv X pins σ H4 { s4 with heap := s4.heap.push { cls := .type "slice", data := .fields #[.none, .none, vs] } } := I4.kept (t' := s4.toks) fun b ob q => Heap.get?_push_of_some _ q
  show wpAny (model X.prog X.w) X.A (subscriptTail e (.Slice none none (some (.UnaryOp .USub (.Constant (.int 1) k p1) p2)) p3) v (.ref s4.heap.objs.size)) (EP X pins σ Q) X.xe { s4 with heap := s4.heap.push { cls := .type "slice", data := .fields #[.none, .none, vs] } }
  rcases q1 with ⟨a, xs, ex, hx, q⟩ | ⟨a, xs, ex, hx, q⟩
  · subst ex
    cases r1
    obtain ⟨its, r, ht, hz⟩ := I5.list hx
    have hlen := r.length
    refine tail_any (ops := [.ref a, .ref s4.heap.objs.size]) ht.isList.typeIs (PySem.slot_list_getitem.lookup) ?_ (by with_unfolding_all rfl)
    refine wpAny_getItem_list_slice ht.isList (Heap.IsSliceOf.new _ .none .none vs) .none .none ps (by decide) ?_ (by rw [List.size_toArray]; omega)
    rw [PySem.W.krv_pick]
    refine ⟨.ref _, _, I5.laid (t' := s4.toks) (o := .lst xs.reverse) (fun b ob q => Heap.get?_push_of_some _ q) (Nat.le_refl _) ?_, rfl, q _ (I5.hok.fresh (Nat.le_refl _))⟩
    exact ⟨by rw [List.length_reverse]; exact hz, _, 0, r.reverse, Heap.get?_push_size _ rfl⟩
  · subst ex
    cases r1
    obtain ⟨its, r, ht, hz⟩ := I5.tuple hx
    have hlen := r.length
    refine tail_any (ops := [.ref a, .ref s4.heap.objs.size]) ht.typeIs (PyProof.Rows.slot_tuple_getitem.lookup) ?_ (by with_unfolding_all rfl)
    refine getItem_tuple_rev ht (Heap.IsSliceOf.new _ .none .none vs) ps ?_ (by rw [List.size_toArray]; omega)
    refine ⟨.ref _, _, I5.laid (t' := s4.toks) (o := .tup xs.reverse) (fun b ob q => Heap.get?_push_of_some _ q) (Nat.le_refl _) ?_, rfl, q _ (I5.hok.fresh (Nat.le_refl _))⟩
    exact ⟨by rw [List.length_reverse]; exact hz, _, r.reverse, IsTup.new _ _⟩
end Pv
end

section
/-! PvI: isinstance, subscripts, dicts, lists changed; a def; the law. -/
set_option autoImplicit false
namespace Pv
open PySem PySem.Spec PyProof.Rows L2

section
variable {X : Cx} {C : Ct} {Ow Ow' OwL : List Nat} {e a b c : Expr} {es : List Expr} {i ia ib ic : Ex} {is : Exs} {pos p apos np : Pos} {x : Str}

/-! ### isinstance -/
def tyN : D → String
  | .none => "NoneType" | .bool _ => "bool" | .int _ => "int" | .str _ => "str" | .list _ => "list" | .tuple _ => "tuple" | .dict _ => "dict"
theorem ty_sh {F : Fz} {H : Hp} {d : D} {v : V} (s : Same F.h H) (h : Sh X.K F H d v) (n : isDk d = false) : TyX X.K H v (.type (tyN d)) := by
  cases d with
  | none => cases h; exact .base .non
  | bool b => cases h; exact .base (.bl b)
  | int j => cases h; exact .base (.int j)
  | str y => cases h; exact .base (.str y)
  | list xs => obtain ⟨q, vs, rfl, e1, _⟩ := h; exact .base (.lst e1)
  | tuple xs =>
    obtain ⟨q, vs, rfl, e1, _⟩ := h
    exact .base (.tup (s _ _ e1))
  | dict kvs =>
    rcases h with ⟨z, _⟩ | ⟨_, q, kk, rfl, e1, _⟩
    · have n : isDeck kvs = false := n
      rw [n] at z; cases z
    · exact .base (.dK e1)
def isB : Bi → Option String
  | .isInt => some "int" | .isBool => some "bool" | .isStr => some "str" | .isTuple => some "tuple" | .isList => some "list"
  | _ => none
/-- what isinstance asks of a class -/
structure InsOk (K : PySem.W.Frag) (Ca : Addr) : Prop where
  cls : Cls K Ca
  ha : PySem.W.findIn K (.ref Ca) "__class__" = some (some (.builtin "object.__class__"))
  hn : PySem.W.specialIn K (.builtin "object.__class__") "__get__" = some (some (.builtin "getset_descriptor.__get__"))
  ht : PySem.W.takesIn K (.builtin "object.__class__") = some true
  hm : PySem.W.mroIn K Ca (.type "object") = some true
  kt : ∀ T ∈ ["int", "bool", "str", "tuple", "list"], PySem.W.kitOne K (.ref Ca) (.type T) = some false
theorem isB_mem {f : Bi} {T : String} (hf : isB f = some T) : T ∈ ["int", "bool", "str", "tuple", "list"] := by
  cases f <;> simp only [isB] at hf <;> cases hf <;> simp
theorem isO_sh {K : PySem.W.Frag} {F : Fz} {H : Hp} {d : D} {y : V} (ho : isObj d = true) (h : Sh K F H d y) : ∃ (Cn : Addr × List Str) (a dx : Addr) (fs : List (Str × V)), y = .ref a ∧ Cn ∈ F.sc.2 ∧ H a = some (.ins Cn.1 dx fs) := by
  unfold isObj at ho
  split at ho
  · rcases h with ⟨_, a, rfl, ⟨n, e⟩ | ⟨c, r, Cn, dx, fs, _, e2, e3, _⟩ | ⟨r, kk, e, _⟩⟩ | ⟨hk, _⟩
    · simp [tokD] at e
    · exact ⟨Cn, a, dx, fs, rfl, List.mem_of_getElem? e2, e3⟩
    · simp at e
    · simp [isDeck] at hk
  · cases ho
theorem isi_val {f : Bi} {T : String} (hf : isB f = some T) {d v : D} (h : biV f [d] = some v) : (isDk d = false ∧ ∃ k, v = .bool k ∧ kitB (tyN d) T = some k) ∨ isObj d = true ∧ v = .bool false := by
  cases ho : isObj d with
  | true =>
    right
    refine ⟨rfl, ?_⟩
    have hd : ∃ kvs, d = .dict kvs := by
      unfold isObj at ho
      split at ho
      · exact ⟨_, rfl⟩
      · cases ho
    obtain ⟨kvs, rfl⟩ := hd
    cases f <;> simp only [isB] at hf <;> cases hf <;> simp only [biV, ho, Bool.not_true, Bool.and_false, Bool.false_eq_true, if_false] at h <;> exact (Option.some.inj h).symm
  | false =>
    left
    cases f <;> simp only [isB] at hf <;> cases hf <;> simp only [biV, ho, Bool.not_false, Bool.and_true] at h <;> split at h <;> first
      | (cases h; done)
      | (rename_i hc
         have hc : isDk d = false := by simpa using hc
         refine ⟨hc, _, (Option.some.inj h).symm, ?_⟩
         cases d <;> first | (simp only [tyN]; decide +kernel) | rfl)
theorem Es.isi {nx : Str} {T : String} (f : Bi) (hf : isB f = some T) (hK : X.K = C.K) (hin : ∀ Cn ∈ C.sc.2, InsOk X.K Cn.1) (hg : Gl X "isinstance") (hm : X.mg "isinstance" = none) (hv : bootBuiltins "isinstance" = some (.builtin "isinstance")) (hg2 : Gl X nx) (hm2 : X.mg nx = none) (hv2 : bootBuiltins nx = some (.type T)) (hn2 : nx ≠ "__name__") (hd2 : (nx == ("__debug__" : Str)) = false)
    (ha : Eb X C Ow a ia) (he : starEach [a, .Name nx np] X.env = (false, eval a X.env) :: starEach [.Name nx np] X.env) (he2 : starEach [.Name nx np] X.env = (false, eval (.Name nx np) X.env) :: starEach [] X.env) (hpl : (backTo pos (starEach [.Name nx np] X.env)).any (·.1) = false) :
    Es X C Ow (.Call (.Name "isinstance" p) [a, .Name nx np] [] pos) (.bi f (.cons ia .nil)) :=
  ⟨pe_con (pe_callB call_isi hg hm hv (pa_cons ha.run (pa_cons (pe_bltn hg2 hm2 hv2 (v := .ty T) rfl hn2 hd2) pa_nil he2) he) (by decide) (by decide) he hpl) fun σ H Q ⟨Th, F, σe, g, v, g', r, m, q⟩ => by
    unfold ev evs at m
    obtain ⟨vs, g1, m1, m2⟩ := bind_eq_ok m
    obtain ⟨d, g2, m3, m4⟩ := bind_eq_ok m1
    obtain ⟨ws, g3, m5, m6⟩ := bind_eq_ok m4
    unfold evs at m5
    cases m5; cases m6
    obtain ⟨m7, e7⟩ := lift_eq_ok m2
    subst e7
    rcases isi_val hf m7 with ⟨hn, k, e8, hk⟩ | ⟨ho, e8⟩
    · subst e8
      refine ⟨Th, F, σe, g, d, _, r, m3, fun F1 H1 y s1 r1 b1 => ⟨y, .ty T, _, _, k, rfl, .ty T, ty_sh r1.sub (by rw [hK]; exact r1.sh b1) hn, kit_ty hk, q F1 H1 _ s1 r1 rel_bl⟩⟩
    · subst e8
      refine ⟨Th, F, σe, g, d, _, r, m3, fun F1 H1 y s1 r1 b1 => ?_⟩
      obtain ⟨Cn, p, dx, fs, rfl, z1, z2⟩ := isO_sh ho (r1.sh b1)
      rw [r1.sc] at z1
      have I := hin Cn z1
      exact ⟨.ref p, .ty T, .ref Cn.1, .type T, false, rfl, .ty T, .base (.ins z2 I.cls I.ha I.hn I.ht I.hm), I.kt T (isB_mem hf), q F1 H1 _ s1 r1 rel_bl⟩⟩

/-! ### list(range(..)) -/
theorem rgV_eq {K : PySem.W.Frag} {F : Fz} (lo hi : Int) : RelL K F (rangeD lo (hi - lo).toNat) (rgV lo hi) := by
  have : ∀ (l : List Nat), RelL K F (l.map fun (k : Nat) => (PyData.int (lo + k) : D)) (l.map fun (k : Nat) => V.int (lo + k)) := by
    intro l
    induction l with
    | nil => exact .nil
    | cons n l ih => exact .cons rel_int ih
  exact this _
theorem Ef.listRange1 {e1 : Expr} (hK : X.K = C.K) (hc : X.calm = true) (hg : Gl X "list") (hm : X.mg "list" = none) (hg2 : Gl X "range") (hm2 : X.mg "range" = none) (ha : Eb X C Ow a ia) (na : starEach [a] X.env = (false, eval a X.env) :: starEach [] X.env)
    (na2 : starEach [Expr.Call (.Name "range" np) [a] [] apos] X.env = (false, eval (.Call (.Name "range" np) [a] [] apos) X.env) :: starEach [] X.env) :
    Ef X C Ow (.Call (.Name "list" p) [.Call (.Name "range" np) [a] [] apos] [] pos) (.bi .listRange1 (.cons ia .nil)) :=
  ⟨pe_con (pe_listRg hc hg hm (prg_1 hg2 hm2 ha.run na) na2) fun σ H Q ⟨Th, F, σe, g, v, g', r, m, q⟩ => by
    unfold ev evs at m
    obtain ⟨vs, g1, m1, m2⟩ := bind_eq_ok m
    obtain ⟨d, g2, m3, m4⟩ := bind_eq_ok m1
    obtain ⟨ws, g3, m5, m6⟩ := bind_eq_ok m4
    unfold evs at m5
    cases m5; cases m6
    obtain ⟨m7, e7⟩ := lift_eq_ok m2
    subst e7
    cases d with
    | int j =>
      simp only [biV] at m7
      split at m7
      · rename_i hc
        cases m7
        simp only [Bool.and_eq_true, decide_eq_true_eq] at hc
        refine ⟨Th, F, σe, g, _, _, r, m3, fun F1 H1 y s1 r1 b1 => ?_⟩
        have hy : y = .int j := r1.sh b1
        subst hy
        have e := rgV_eq (K := C.K) (F := F1) 0 j
        rw [Int.sub_zero] at e
        exact ⟨j, rfl, ⟨by omega, by omega, by omega, by omega, by omega⟩, fun p n => q F1 _ p s1 (r1.grown n) (new_of r1 n ⟨_, upd_same, e⟩)⟩
      · cases m7
    | _ => simp [biV] at m7⟩
theorem Ef.listRange2 (hK : X.K = C.K) (hc : X.calm = true) (hg : Gl X "list") (hm : X.mg "list" = none) (hg2 : Gl X "range") (hm2 : X.mg "range" = none) (ha : Eb X C Ow a ia) (hb : Eb X C Ow b ib) (na : starEach [a, b] X.env = (false, eval a X.env) :: starEach [b] X.env)
    (nb : starEach [b] X.env = (false, eval b X.env) :: starEach [] X.env) (hp : (backTo apos (starEach [b] X.env)).any (·.1) = false)
    (na2 : starEach [Expr.Call (.Name "range" np) [a, b] [] apos] X.env = (false, eval (.Call (.Name "range" np) [a, b] [] apos) X.env) :: starEach [] X.env) :
    Ef X C Ow (.Call (.Name "list" p) [.Call (.Name "range" np) [a, b] [] apos] [] pos) (.bi .listRange2 (.cons ia (.cons ib .nil))) :=
  ⟨pe_con (pe_listRg hc hg hm (prg_2 hg2 hm2 ha.run hb.run na nb hp) na2) fun σ H Q ⟨Th, F, σe, g, v, g', r, m, q⟩ => by
    unfold ev evs at m
    obtain ⟨vs, g1, m1, m2⟩ := bind_eq_ok m
    obtain ⟨d, g2, m3, m4⟩ := bind_eq_ok m1
    obtain ⟨ws, g3, m5, m6⟩ := bind_eq_ok m4
    unfold evs at m5
    obtain ⟨d2, g4, m8, m9⟩ := bind_eq_ok m5
    obtain ⟨ws2, g5, m10, m11⟩ := bind_eq_ok m9
    unfold evs at m10
    cases m10; cases m11; cases m6
    obtain ⟨m7, e7⟩ := lift_eq_ok m2
    subst e7
    cases d with
    | int j =>
      cases d2 with
      | int k =>
        simp only [biV] at m7
        split at m7
        · rename_i hc
          cases m7
          simp only [Bool.and_eq_true, decide_eq_true_eq] at hc
          refine ⟨Th, F, σe, g, _, _, r, m3, fun F1 H1 y s1 r1 b1 => ⟨Th, F1, σe, _, _, _, r1, m8, fun F2 H2 z s2 r2 b2 => ?_⟩⟩
          have hy : y = .int j := r1.sh b1
          have hz : z = .int k := r2.sh b2
          subst hy; subst hz
          refine ⟨j, k, rfl, rfl, ⟨by omega, by omega, by omega, by omega, ?_⟩, fun p n => q F2 _ p (s1.trans s2) (r2.grown n) (new_of r2 n ⟨_, upd_same, rgV_eq _ _⟩)⟩
          have := hc.2
          unfold lineN at this
          omega
        · cases m7
      | _ => simp [biV] at m7
    | _ => cases d2 <;> simp [biV] at m7⟩

/-! ### subscripts -/
theorem RelL.atI {K : PySem.W.Frag} {F : Fz} {ds : List D} {vs : List V} {j : Int} {d : D} (h : RelL K F ds vs) (e : L2.atI ds j = some d) : ∃ v, L2.atI vs j = some v ∧ Rel K F d v := by
  unfold L2.atI at e ⊢
  rw [← h.length]
  cases q : ixN ds.length j with
  | none => rw [q] at e; cases e
  | some n =>
    rw [q] at e
    exact h.get e
theorem Es.idx (hK : X.K = C.K) (ha : Eb X C Ow a ia) (hb : Eb X C Ow b ib) (hs : PlainIx b) : Es X C Ow (.Subscript a b pos) (.idx ia ib) :=
  ⟨pe_con (pe_ix (ix_list.or ix_tup) ha.run hb.run hs) fun σ H Q ⟨T, F, σe, g, v, g', r, m, q⟩ => by
    unfold ev at m
    obtain ⟨va, g1, m1, m2⟩ := bind_eq_ok m
    obtain ⟨vb, g2, m3, m4⟩ := bind_eq_ok m2
    obtain ⟨m5, e5⟩ := lift_eq_ok m4
    subst e5
    refine ⟨T, F, σe, g, va, g1, r, m1, fun F1 H1 y s1 r1 b1 => ⟨T, F1, σe, g1, vb, _, r1, m3, fun F2 H2 z s2 r2 b2 => ?_⟩⟩
    have hy := r2.sh (b1.mono s2)
    have hz := r2.sh b2
    cases va with
    | list ds =>
      cases vb with
      | int j =>
        obtain ⟨p, vs, rfl, h1, h2⟩ := hy
        cases hz
        obtain ⟨w, e1, e2⟩ := h2.atI m5
        exact .inl ⟨p, vs, j, w, rfl, rfl, SqL.of h1, e1, q F2 H2 w (s1.trans s2) r2 e2⟩
      | _ => simp [idxV] at m5
    | tuple ds =>
      cases vb with
      | int j =>
        obtain ⟨p, vs, rfl, h1, h2⟩ := hy
        cases hz
        obtain ⟨w, e1, e2⟩ := h2.atI m5
        exact .inr ⟨p, vs, j, w, rfl, rfl, by rw [hK]; exact sqT_mono r2.sub h1, e1, q F2 H2 w (s1.trans s2) r2 e2⟩
      | _ => simp [idxV] at m5
    | _ => simp [idxV] at m5⟩
/-- a part of a slice -/
structure Eo (X : Cx) (C : Ct) (Ow : List Nat) (o : Option Expr) (i : Ex) : Prop where
  run : PO X o (fun σ H Q => ∃ T F σe g v g' oi, R C Ow T F σe g σ H ∧ ev C.Φ i σe g = .ok v g' ∧ optI v = some oi ∧ ∀ F' H', Fsub F F' → R C Ow T F' σe g' σ H' → Q oi H')
theorem po_con {o : Option Expr} {t t' : TO} (h : PO X o t) (c : ∀ σ H Q, t' σ H Q → t σ H Q) : PO X o t' := ⟨fun pins s σ H Q I hw => h.run pins s σ H Q I (c σ H Q hw)⟩
theorem Eo.none : Eo X C Ow none (.c .none) := ⟨po_con po_none fun σ H Q ⟨T, F, σe, g, v, g', oi, r, m, e, q⟩ => by
  unfold ev at m
  cases m; cases e
  exact q F H (.refl F) r⟩
theorem Eo.some (h : Eb X C Ow e i) (hi : ∀ (σ : Sl) (g g' : G), ev C.Φ i σ g ≠ .ok .none g') : Eo X C Ow (some e) i := ⟨po_con (po_some h.run) fun σ H Q ⟨T, F, σe, g, v, g', oi, r, m, e, q⟩ => by
  refine ⟨T, F, σe, g, v, g', r, m, fun F1 H1 y s1 r1 b1 => ?_⟩
  cases v with
  | int j =>
    cases e
    exact ⟨j, r1.sh b1, q F1 H1 s1 r1⟩
  | none => exact (hi _ _ _ m).elim
  | _ => cases e⟩
theorem cut_rel {K : PySem.W.Frag} {F : Fz} {ds : List D} {vs : List V} (h : RelL K F ds vs) (lo hi : Option Int) : RelL K F (cutD ds lo hi) (cutV vs lo hi) := by
  unfold cutD cutV
  rw [h.length]
  exact (h.drop _).take _
theorem Es.slc {lo hi : Option Expr} {il ih : Ex} {p2 : Pos} (hK : X.K = C.K) (ha : Eb X C Ow a ia) (hl : Eo X C Ow lo il) (hh : Eo X C Ow hi ih) : Es X C Ow (.Subscript a (.Slice lo hi none p2) pos) (.slc ia il ih) :=
  ⟨pe_con (pe_slice (sl_list.or sl_tupA) ha.run hl.run hh.run) fun σ H Q ⟨T, F, σe, g, v, g', r, m, q⟩ => by
    unfold ev at m
    obtain ⟨va, g1, m1, m2⟩ := bind_eq_ok m
    obtain ⟨vl, g2, m3, m4⟩ := bind_eq_ok m2
    obtain ⟨vh, g3, m5, m6⟩ := bind_eq_ok m4
    obtain ⟨m7, e7⟩ := lift_eq_ok m6
    subst e7
    have key : ∀ (ds : List D) (P : List D → D), (match optI vl, optI vh with
        | some l, some h => some (P (cutD ds l h))
        | _, _ => none) = some v → ∃ l h, optI vl = some l ∧ optI vh = some h ∧ v = P (cutD ds l h) := fun ds P z => by
      cases e1 : optI vl with
      | none => rw [e1] at z; cases z
      | some l =>
        cases e2 : optI vh with
        | none => rw [e1, e2] at z; cases z
        | some h => rw [e1, e2] at z; exact ⟨l, h, rfl, rfl, (Option.some.inj z).symm⟩
    cases va with
    | list ds =>
      obtain ⟨l, h, e1, e2, rfl⟩ := key ds .list m7
      refine ⟨T, F, σe, g, _, g1, r, m1, fun F1 H1 y s1 r1 b1 => ⟨T, F1, σe, g1, vl, _, l, r1, m3, e1, fun F2 H2 s2 r2 => ⟨T, F2, σe, _, vh, _, h, r2, m5, e2, fun F3 H3 s3 r3 => .inl ?_⟩⟩⟩
      obtain ⟨p, vs, rfl, h1, h2⟩ := r3.sh ((b1.mono s2).mono s3)
      refine ⟨p, vs, rfl, SqL.of h1, fun p n => ?_⟩
      exact q (F3.put p _) _ _ (s1.trans (s2.trans (s3.trans (Fsub.put (r3.fn n))))) (r3.laid n) (rel_lst (r3.fn n) (cut_rel h2 l h))
    | tuple ds =>
      obtain ⟨l, h, e1, e2, rfl⟩ := key ds .tuple m7
      refine ⟨T, F, σe, g, _, g1, r, m1, fun F1 H1 y s1 r1 b1 => ⟨T, F1, σe, g1, vl, _, l, r1, m3, e1, fun F2 H2 s2 r2 => ⟨T, F2, σe, _, vh, _, h, r2, m5, e2, fun F3 H3 s3 r3 => .inr ?_⟩⟩⟩
      obtain ⟨p, vs, rfl, h1, h2⟩ := r3.sh ((b1.mono s2).mono s3)
      refine ⟨p, vs, rfl, by rw [hK]; exact sqT_mono r3.sub h1, fun z => ?_, fun _ p n => ?_⟩
      · refine q F3 H3 _ (s1.trans (s2.trans s3)) r3 ?_
        unfold Rel
        refine ⟨p, vs, rfl, h1, ?_⟩
        have e : cutV vs l h = vs := by
          unfold cutV
          rw [z.1, z.2]
          simp
        have := cut_rel h2 l h
        rwa [e] at this
      · exact q (F3.put p _) _ _ (s1.trans (s2.trans (s3.trans (Fsub.put (r3.fn n))))) (r3.laid n) (rel_tup (r3.fn n) (cut_rel h2 l h))
    | _ => simp [slcV] at m7⟩
/-- xs[::-1], a list or a tuple -/
theorem Es.rev {k : Nat} {p1 p2 p3 : Pos} (hK : X.K = C.K) (ha : Eb X C Ow a ia) : Es X C Ow (.Subscript a (.Slice none none (some (.UnaryOp .USub (.Constant (.int 1) k p1) p2)) p3) pos) (.rev ia) :=
  ⟨pe_con (pe_rev ha.run) fun σ H Q ⟨T, F, σe, g, v, g', r, m, q⟩ => by
    unfold ev at m
    obtain ⟨va, g1, m1, m2⟩ := bind_eq_ok m
    obtain ⟨m3, e3⟩ := lift_eq_ok m2
    subst e3
    refine ⟨T, F, σe, g, va, _, r, m1, fun F1 H1 y s1 r1 b1 => ?_⟩
    cases va with
    | list ds =>
      cases m3
      obtain ⟨p, vs, rfl, h1, h2⟩ := r1.sh b1
      exact .inl ⟨p, vs, rfl, SqL.of h1, fun p n => q (F1.put p _) _ _ (s1.trans (Fsub.put (r1.fn n))) (r1.laid n) (rel_lst (r1.fn n) h2.reverse)⟩
    | tuple ds =>
      cases m3
      obtain ⟨p, vs, rfl, h1, h2⟩ := r1.sh b1
      exact .inr ⟨p, vs, rfl, by rw [hK]; exact sqT_mono r1.sub h1, fun p n => q (F1.put p _) _ _ (s1.trans (Fsub.put (r1.fn n))) (r1.laid n) (rel_tup (r1.fn n) h2.reverse)⟩
    | _ => simp [revV] at m3⟩

/-! ### dicts with keys that are ints and texts -/
theorem Ef.dnew : Ef X C Ow (.Dict [] [] pos) .dnew :=
  ⟨pe_con pe_dnewK fun σ H Q ⟨T, F, σe, g, v, g', r, m, q⟩ => by
    unfold ev at m
    cases m
    exact fun p n => q F _ p (.refl F) (r.grown n) (new_of r n (.inl ⟨rfl, [], upd_same, by unfold RelKV; rfl⟩))⟩
theorem key_rel {K : PySem.W.Frag} {F : Fz} {H : Hp} {k : D} {kx : Key} {y : V} (e : keyD k = some kx) (h : Sh K F H k y) : y = kV kx := by
  cases k <;> simp [keyD] at e
  · subst e; cases h; rfl
  · subst e; cases h; rfl
theorem keq_of {a k : D} {ka kx : Key} (e1 : keyD a = some ka) (e2 : keyD k = some kx) : keq a k = decide (ka = kx) := by
  unfold keq; rw [e1, e2]
theorem look_rel {K : PySem.W.Frag} {F : Fz} {k : D} {kx : Key} (e : keyD k = some kx) : ∀ {kvs : List (D × D)} {kk : List (Key × V)}, RelKV K F kvs kk → (∀ d, dLook k kvs = some d → ∃ v, valV kk kx = some v ∧ Rel K F d v) ∧ (dLook k kvs = none → valV kk kx = none)
  | [], kk, h => by
    unfold RelKV at h; subst h
    exact ⟨(fun d z => by cases z), fun _ => rfl⟩
  | (a, d) :: r, kk, h => by
    unfold RelKV at h
    obtain ⟨ka, v, kr, rfl, e1, e2, e3⟩ := h
    have ih := look_rel (k := k) e e3
    unfold dLook valV at ih ⊢
    rw [List.find?_cons, List.find?_cons]
    simp only [keq_of e1 e]
    by_cases hc : ka = kx
    · simp only [hc, decide_true]
      exact ⟨fun d' z => ⟨v, rfl, by cases z; exact e2⟩, fun z => by cases z⟩
    · simp only [decide_eq_false hc]
      exact ih
theorem any_rel {K : PySem.W.Frag} {F : Fz} {k : D} {kx : Key} (e : keyD k = some kx) : ∀ {kvs : List (D × D)} {kk : List (Key × V)}, RelKV K F kvs kk → (kvs.any fun p => keq p.1 k) = (kk.any fun kv => decide (kv.1 = kx))
  | [], kk, h => by unfold RelKV at h; subst h; rfl
  | (a, d) :: r, kk, h => by
    unfold RelKV at h
    obtain ⟨ka, v, kr, rfl, e1, e2, e3⟩ := h
    rw [List.any_cons, List.any_cons, any_rel e e3]
    simp only [keq_of e1 e]
theorem RelKV.append {K : PySem.W.Frag} {F : Fz} {k d : D} {kx : Key} {v : V} (e : keyD k = some kx) (h : Rel K F d v) : ∀ {kvs : List (D × D)} {kk : List (Key × V)}, RelKV K F kvs kk → RelKV K F (kvs ++ [(k, d)]) (kk ++ [(kx, v)])
  | [], kk, q => by unfold RelKV at q; subst q; unfold RelKV; exact ⟨kx, v, [], rfl, e, h, by unfold RelKV; rfl⟩
  | (a, d0) :: r, kk, q => by
    unfold RelKV at q
    obtain ⟨ka, w, kr, rfl, e1, e2, e3⟩ := q
    show RelKV K F ((a, d0) :: (r ++ [(k, d)])) _
    unfold RelKV
    exact ⟨ka, w, _, rfl, e1, e2, RelKV.append e h e3⟩
theorem RelKV.upd {K : PySem.W.Frag} {F : Fz} {k d : D} {kx : Key} {v : V} (e : keyD k = some kx) (h : Rel K F d v) : ∀ {kvs : List (D × D)} {kk : List (Key × V)}, RelKV K F kvs kk → RelKV K F (kvs.map fun p => if keq p.1 k then (p.1, d) else p) (kk.map fun kv => if kv.1 = kx then (kv.1, v) else kv)
  | [], kk, q => by unfold RelKV at q; subst q; unfold RelKV; rfl
  | (a, d0) :: r, kk, q => by
    unfold RelKV at q
    obtain ⟨ka, w, kr, rfl, e1, e2, e3⟩ := q
    have ih := RelKV.upd (k := k) e h e3
    rw [List.map_cons, List.map_cons]
    simp only [keq_of e1 e]
    by_cases hc : ka = kx
    · simp only [hc, decide_true, if_true]
      unfold RelKV
      exact ⟨kx, v, _, rfl, hc ▸ e1, h, ih⟩
    · simp only [decide_eq_false hc, if_neg hc, Bool.false_eq_true, if_false]
      unfold RelKV
      exact ⟨ka, w, _, rfl, e1, e2, ih⟩
theorem put_rel {K : PySem.W.Frag} {F : Fz} {k d : D} {kx : Key} {v : V} {kvs : List (D × D)} {kk : List (Key × V)} (e : keyD k = some kx) (h : Rel K F d v) (q : RelKV K F kvs kk) : RelKV K F (dPut k d kvs) (putK kk kx v) := by
  unfold dPut putK
  rw [any_rel e q]
  split
  · exact q.upd e h
  · exact q.append e h
theorem RelKV.length {K : PySem.W.Frag} {F : Fz} : ∀ {kvs : List (D × D)} {kk : List (Key × V)}, RelKV K F kvs kk → kvs.length = kk.length
  | [], kk, q => by unfold RelKV at q; subst q; rfl
  | (a, d0) :: r, kk, q => by
    unfold RelKV at q
    obtain ⟨ka, w, kr, rfl, e1, e2, e3⟩ := q
    rw [List.length_cons, List.length_cons, RelKV.length e3]
theorem dPut_mark {k d : D} {kx : Key} {kvs : List (D × D)} (e : keyD k = some kx) (h : isDeck kvs = false) : isDeck (dPut k d kvs) = false := by
  have hk : isDeck [(k, d)] = false := by cases k <;> simp [keyD] at e <;> rfl
  unfold dPut
  cases kvs with
  | nil => exact hk
  | cons p r =>
    obtain ⟨a, w⟩ := p
    split
    · rw [List.map_cons]
      cases a <;> first | (split <;> rfl) | (unfold isDeck at h; cases h)
    · cases a <;> first | rfl | (unfold isDeck at h; cases h)
theorem isDeckN {kvs : List (D × D)} {b : Bool} (h : ¬ ((isDeck kvs || b) = true)) : isDeck kvs = false ∧ b = false := by
  cases e : isDeck kvs <;> cases b <;> simp_all
/-! ### keys that are tuples -/
theorem keys_rel {K : PySem.W.Frag} {F : Fz} : ∀ {ds : List D} {vs : List V} {kl : List Key}, RelL K F ds vs → keysOf ds = some kl → vs = kl.map kV
  | [], vs, kl, h, e => by cases e; rw [h.inv0]; rfl
  | d :: ds, vs, kl, h, e => by
    obtain ⟨v, vr, rfl, h1, h2⟩ := h.inv
    unfold keysOf at e
    cases e1 : keyD d with
    | none => rw [e1] at e; cases e
    | some k =>
      cases e2 : keysOf ds with
      | none => rw [e1, e2] at e; cases e
      | some ks =>
        rw [e1, e2] at e; cases e
        rw [keys_rel h2 e2, key_rel (H := F.h) e1 (h1.sh (Same.refl _))]; rfl
theorem keyT_rel {K : PySem.W.Frag} {F : Fz} {H : Hp} {k : D} {kl : List Key} {y : V} (sub : Same F.h H) (e : keyT k = some kl) (h : Sh K F H k y) : ∃ b, y = .ref b ∧ H b = some (.tup (kl.map kV)) := by
  cases k with
  | tuple ds =>
    obtain ⟨a, vs, rfl, h1, h2⟩ := h
    have := keys_rel h2 e
    subst this
    exact ⟨a, rfl, sub _ _ h1⟩
  | _ => cases e
theorem teq_of {a k : D} {ka kx : List Key} (e1 : keyT a = some ka) (e2 : keyT k = some kx) : teq a k = decide (ka = kx) := by
  unfold teq; rw [e1, e2]
theorem lookT_rel {K : PySem.W.Frag} {F : Fz} {k : D} {kx : List Key} (e : keyT k = some kx) : ∀ {kvs : List (D × D)} {kk : List (List Key × V)}, RelKT K F kvs kk → (∀ d, tLook k kvs = some d → ∃ v, valV kk kx = some v ∧ Rel K F d v) ∧ (tLook k kvs = none → valV kk kx = none)
  | [], kk, h => by
    unfold RelKT at h; subst h
    exact ⟨(fun d z => by cases z), fun _ => rfl⟩
  | (a, d) :: r, kk, h => by
    unfold RelKT at h
    obtain ⟨ka, v, kr, rfl, e1, e2, e3⟩ := h
    have ih := lookT_rel (k := k) e e3
    unfold tLook valV at ih ⊢
    rw [List.find?_cons, List.find?_cons]
    simp only [teq_of e1 e]
    by_cases hc : ka = kx
    · simp only [hc, decide_true]
      exact ⟨fun d' z => ⟨v, rfl, by cases z; exact e2⟩, fun z => by cases z⟩
    · simp only [decide_eq_false hc]
      exact ih
theorem anyT_rel {K : PySem.W.Frag} {F : Fz} {k : D} {kx : List Key} (e : keyT k = some kx) : ∀ {kvs : List (D × D)} {kk : List (List Key × V)}, RelKT K F kvs kk → (kvs.any fun p => teq p.1 k) = (kk.any fun kv => decide (kv.1 = kx))
  | [], kk, h => by unfold RelKT at h; subst h; rfl
  | (a, d) :: r, kk, h => by
    unfold RelKT at h
    obtain ⟨ka, v, kr, rfl, e1, e2, e3⟩ := h
    rw [List.any_cons, List.any_cons, anyT_rel e e3]
    simp only [teq_of e1 e]
theorem RelKT.append {K : PySem.W.Frag} {F : Fz} {k d : D} {kx : List Key} {v : V} (e : keyT k = some kx) (h : Rel K F d v) : ∀ {kvs : List (D × D)} {kk : List (List Key × V)}, RelKT K F kvs kk → RelKT K F (kvs ++ [(k, d)]) (kk ++ [(kx, v)])
  | [], kk, q => by unfold RelKT at q; subst q; unfold RelKT; exact ⟨kx, v, [], rfl, e, h, by unfold RelKT; rfl⟩
  | (a, d0) :: r, kk, q => by
    unfold RelKT at q
    obtain ⟨ka, w, kr, rfl, e1, e2, e3⟩ := q
    show RelKT K F ((a, d0) :: (r ++ [(k, d)])) _
    unfold RelKT
    exact ⟨ka, w, _, rfl, e1, e2, RelKT.append e h e3⟩
theorem RelKT.upd {K : PySem.W.Frag} {F : Fz} {k d : D} {kx : List Key} {v : V} (e : keyT k = some kx) (h : Rel K F d v) : ∀ {kvs : List (D × D)} {kk : List (List Key × V)}, RelKT K F kvs kk → RelKT K F (kvs.map fun p => if teq p.1 k then (p.1, d) else p) (kk.map fun kv => if kv.1 = kx then (kv.1, v) else kv)
  | [], kk, q => by unfold RelKT at q; subst q; unfold RelKT; rfl
  | (a, d0) :: r, kk, q => by
    unfold RelKT at q
    obtain ⟨ka, w, kr, rfl, e1, e2, e3⟩ := q
    have ih := RelKT.upd (k := k) e h e3
    rw [List.map_cons, List.map_cons]
    simp only [teq_of e1 e]
    by_cases hc : ka = kx
    · simp only [hc, decide_true, if_true]
      unfold RelKT
      exact ⟨kx, v, _, rfl, hc ▸ e1, h, ih⟩
    · simp only [decide_eq_false hc, if_neg hc, Bool.false_eq_true, if_false]
      unfold RelKT
      exact ⟨ka, w, _, rfl, e1, e2, ih⟩
theorem putT_rel {K : PySem.W.Frag} {F : Fz} {k d : D} {kx : List Key} {v : V} {kvs : List (D × D)} {kk : List (List Key × V)} (e : keyT k = some kx) (h : Rel K F d v) (q : RelKT K F kvs kk) : RelKT K F (tPut k d kvs) (putK kk kx v) := by
  unfold tPut putK
  rw [anyT_rel e q]
  split
  · exact q.upd e h
  · exact q.append e h
theorem RelKT.length {K : PySem.W.Frag} {F : Fz} : ∀ {kvs : List (D × D)} {kk : List (List Key × V)}, RelKT K F kvs kk → kvs.length = kk.length
  | [], kk, q => by unfold RelKT at q; subst q; rfl
  | (a, d0) :: r, kk, q => by
    unfold RelKT at q
    obtain ⟨ka, w, kr, rfl, e1, e2, e3⟩ := q
    rw [List.length_cons, List.length_cons, RelKT.length e3]
theorem tdOf_some {kvs r : List (D × D)} (h : tdOf kvs = some r) : kvs = (.none, .none) :: r := by
  unfold tdOf at h
  split at h
  · cases h; rfl
  · cases h
theorem noneOf {α : Type} {o : Option α} (h : ¬ (o.isNone = true)) : ∃ a, o = some a := by
  cases o with
  | none => exact (h rfl).elim
  | some a => exact ⟨a, rfl⟩
/-- a dict of either kind, looked at -/
theorem dlk_is {K : PySem.W.Frag} {F : Fz} {H : Hp} {kvs : List (D × D)} {k : D} {o : Option D} {y : V} (h : dlkV kvs k = some o) (hy : Sh K F H (.dict kvs) y) : ∃ p, y = .ref p ∧ IsD H p := by
  unfold dlkV at h
  split at h
  · rename_i r e
    have := tdOf_some e
    subst this
    rcases hy with ⟨_, a, rfl, ⟨n, z⟩ | ⟨c, r', Cn, dx, fs, z, _⟩ | ⟨r', kk, z, z2, _⟩⟩ | ⟨z, _⟩
    · unfold tokD at z; cases z
    · cases z
    · exact ⟨a, rfl, .inr ⟨kk, .inl z2⟩⟩
    · cases z
  · split at h
    · cases h
    · rename_i hc
      obtain ⟨hd, hk⟩ := isDeckN hc
      rcases hy with ⟨z, _⟩ | ⟨_, p, kk, rfl, h1, h2⟩
      · rw [hd] at z; cases z
      · exact ⟨p, rfl, .inl ⟨kk, .inl h1⟩⟩
theorem dlk_rel {K : PySem.W.Frag} {F : Fz} {H : Hp} {kvs : List (D × D)} {k : D} {o : Option D} {y z : V} (h : dlkV kvs k = some o) (sub : Same F.h H) (hy : Sh K F H (.dict kvs) y) (hz : Sh K F H k z) :
    ∃ p w, y = .ref p ∧ DGet H p z w ∧ (∀ d, o = some d → ∃ u, w = some u ∧ Rel K F d u) ∧ (o = none → w = none) := by
  unfold dlkV at h
  split at h
  · rename_i r e
    have := tdOf_some e
    subst this
    split at h
    · cases h
    · rename_i hc
      cases h
      obtain ⟨kl, ek⟩ := noneOf hc
      obtain ⟨b, rfl, hb⟩ := keyT_rel sub ek hz
      rcases hy with ⟨_, a, rfl, ⟨n, z⟩ | ⟨c, r', Cn, dx, fs, z, _⟩ | ⟨r', kk, z, z2, z3⟩⟩ | ⟨z, _⟩
      · unfold tokD at z; cases z
      · cases z
      · cases z
        obtain ⟨l1, l2⟩ := lookT_rel ek z3
        exact ⟨a, _, rfl, DGet.t z2 hb, fun d hd => l1 d hd, l2⟩
      · cases z
  · split at h
    · cases h
    · rename_i hc
      obtain ⟨hd, hk⟩ := isDeckN hc
      cases h
      obtain ⟨kx, ek⟩ := noneOf (o := keyD k) (by rw [hk]; exact Bool.false_ne_true)
      have := key_rel ek hz
      subst this
      rcases hy with ⟨z, _⟩ | ⟨_, p, kk, rfl, h1, h2⟩
      · rw [hd] at z; cases z
      · obtain ⟨l1, l2⟩ := look_rel ek h2
        exact ⟨p, _, rfl, DGet.k h1, fun d hd => l1 d hd, l2⟩
theorem Ef.tnew : Ef X C Ow (.Dict [] [] pos) .tnew :=
  ⟨pe_con pe_dnewT fun σ H Q ⟨T, F, σe, g, v, g', r, m, q⟩ => by
    unfold ev at m
    cases m
    exact fun p n => q F _ p (.refl F) (r.grown n) (new_of r n (.inr (.inr ⟨[], [], rfl, upd_same, by unfold RelKT; rfl⟩)))⟩
theorem Es.dget1 (hK : X.K = C.K) (hu : X.A.units + 1 < cLine) (ha : Eb X C Ow a ia) (hb : Eb X C Ow b ib) (m : M1 X a "get" apos b pos) : Es X C Ow (.Call (.Attribute a "get" apos) [b] [] pos) (.dget ia ib (.c .none)) :=
  ⟨pe_con (pe_dget1 hu ha.run hb.run m) fun σ H Q ⟨T, F, σe, g, v, g', r, m, q⟩ => by
    unfold ev at m
    obtain ⟨dv, g1, m1, m2⟩ := bind_eq_ok m
    obtain ⟨kv, g2, m3, m4⟩ := bind_eq_ok m2
    obtain ⟨xv, g3, m5, m6⟩ := bind_eq_ok m4
    unfold ev at m5
    cases m5
    obtain ⟨m7, e7⟩ := lift_eq_ok m6
    subst e7
    cases dv with
    | dict kvs =>
      obtain ⟨o, m8, e8⟩ := map_some m7
      subst e8
      refine ⟨T, F, σe, g, _, g1, r, m1, fun F1 H1 y s1 r1 b1 => ?_⟩
      obtain ⟨p, rfl, hi⟩ := dlk_is m8 (r1.sh b1)
      refine ⟨p, rfl, hi, T, F1, σe, g1, kv, _, r1, m3, fun F2 H2 z s2 r2 b2 => ?_⟩
      obtain ⟨p', w, e', hg, l1, l2⟩ := dlk_rel m8 r2.sub (r2.sh (b1.mono s2)) (r2.sh b2)
      cases e'
      refine ⟨_, hg, ?_⟩
      cases o with
      | none =>
        rw [l2 rfl]
        exact q F2 H2 _ (s1.trans s2) r2 rel_non
      | some d =>
        obtain ⟨u, e1, e2⟩ := l1 d rfl
        rw [e1]
        exact q F2 H2 _ (s1.trans s2) r2 e2
    | _ => simp [dgetV] at m7⟩
theorem Es.dget2 (hK : X.K = C.K) (hu : X.A.units + 1 < cLine) {c : Expr} {ic : Ex} (ha : Eb X C Ow a ia) (hb : Eb X C Ow b ib) (hc : Es X C Ow c ic) (m : M2 X a "get" apos b c pos) : Es X C Ow (.Call (.Attribute a "get" apos) [b, c] [] pos) (.dget ia ib ic) :=
  ⟨pe_con (pe_dget2 hu ha.run hb.run hc.run m) fun σ H Q ⟨T, F, σe, g, v, g', r, m, q⟩ => by
    unfold ev at m
    obtain ⟨dv, g1, m1, m2⟩ := bind_eq_ok m
    obtain ⟨kv, g2, m3, m4⟩ := bind_eq_ok m2
    obtain ⟨xv, g3, m5, m6⟩ := bind_eq_ok m4
    obtain ⟨m7, e7⟩ := lift_eq_ok m6
    subst e7
    cases dv with
    | dict kvs =>
      obtain ⟨o, m8, e8⟩ := map_some m7
      subst e8
      refine ⟨T, F, σe, g, _, g1, r, m1, fun F1 H1 y s1 r1 b1 => ?_⟩
      obtain ⟨p, rfl, hi⟩ := dlk_is m8 (r1.sh b1)
      refine ⟨p, rfl, hi, T, F1, σe, g1, kv, _, r1, m3, fun F2 H2 z s2 r2 b2 => ⟨T, F2, σe, _, xv, _, r2, m5, fun F3 H3 y3 s3 r3 h3 => ?_⟩⟩
      obtain ⟨p', w, e', hg, l1, l2⟩ := dlk_rel m8 r3.sub (r3.sh (b1.mono (s2.trans s3))) (r3.sh (b2.mono s3))
      cases e'
      refine ⟨_, hg, ?_⟩
      cases o with
      | none =>
        rw [l2 rfl]
        exact q F3 H3 _ (s1.trans (s2.trans s3)) r3 h3
      | some d =>
        obtain ⟨u, e1, e2⟩ := l1 d rfl
        rw [e1]
        exact q F3 H3 _ (s1.trans (s2.trans s3)) r3 e2
    | _ => simp [dgetV] at m7⟩
theorem Es.dix (hK : X.K = C.K) (hu : X.A.units + 1 < cLine) (ha : Eb X C Ow a ia) (hb : Eb X C Ow b ib) (hs : NoSl b) : Es X C Ow (.Subscript a b pos) (.dix ia ib) :=
  ⟨pe_con (pe_dget hu ha.run hb.run hs) fun σ H Q ⟨T, F, σe, g, v, g', r, m, q⟩ => by
    unfold ev at m
    obtain ⟨dv, g1, m1, m2⟩ := bind_eq_ok m
    obtain ⟨kv, g2, m3, m4⟩ := bind_eq_ok m2
    obtain ⟨m7, e7⟩ := lift_eq_ok m4
    subst e7
    cases dv with
    | dict kvs =>
      obtain ⟨o, m8, e8⟩ : ∃ o, dlkV kvs kv = some o ∧ o = some v := by
        simp only [dixV] at m7
        cases z : dlkV kvs kv with
        | none => rw [z] at m7; cases m7
        | some o => rw [z] at m7; exact ⟨o, rfl, m7⟩
      subst e8
      refine ⟨T, F, σe, g, _, g1, r, m1, fun F1 H1 y s1 r1 b1 => ⟨T, F1, σe, g1, kv, _, r1, m3, fun F2 H2 z s2 r2 b2 => ?_⟩⟩
      obtain ⟨p', w, e', hg, l1, l2⟩ := dlk_rel m8 r2.sub (r2.sh (b1.mono s2)) (r2.sh b2)
      subst e'
      obtain ⟨u, e1, e2⟩ := l1 v rfl
      exact ⟨p', u, rfl, by rw [← e1]; exact hg, q F2 H2 _ (s1.trans s2) r2 e2⟩
    | _ => simp [dixV] at m7⟩
theorem Et.dhas0 {n : Bool} {σ : L2.St} {H : Hp} {Q : VK} (h : tS C Ow (ev C.Φ (.dhas ia ib n)) σ H Q) : tB C Ow (ev C.Φ ia) σ H fun x H1 => tB C Ow (ev C.Φ ib) σ H1 fun y H2 => ∃ d o, y = .ref d ∧ DGet H2 d x o ∧ Q (.bl (o.isSome != n)) H2 := by
  obtain ⟨T, F, σe, g, v, g', r, m, q⟩ := h
  unfold ev at m
  obtain ⟨kv, g1, m1, m2⟩ := bind_eq_ok m
  obtain ⟨dv, g2, m3, m4⟩ := bind_eq_ok m2
  obtain ⟨m7, e7⟩ := lift_eq_ok m4
  subst e7
  obtain ⟨k, m8, e8⟩ := map_some m7
  subst e8
  cases dv with
  | dict kvs =>
    obtain ⟨o, m9, e9⟩ := map_some m8
    subst e9
    refine ⟨T, F, σe, g, _, g1, r, m1, fun F1 H1 y s1 r1 b1 => ⟨T, F1, σe, g1, _, _, r1, m3, fun F2 H2 z s2 r2 b2 => ?_⟩⟩
    obtain ⟨p', w, e', hg, l1, l2⟩ := dlk_rel m9 r2.sub (r2.sh b2) (r2.sh (b1.mono s2))
    subst e'
    refine ⟨p', w, rfl, hg, q F2 H2 _ (s1.trans s2) r2 ?_⟩
    cases o with
    | none => rw [l2 rfl]; exact rel_bl
    | some d =>
      obtain ⟨u, e1, e2⟩ := l1 d rfl
      rw [e1]; exact rel_bl
  | _ => simp [dhasV] at m8
theorem Et.dhas (hK : X.K = C.K) (hu : X.A.units + 1 < cLine) (ha : Eb X C Ow a ia) (hb : Eb X C Ow b ib) : PC X .In a b (tS C Ow (ev C.Φ (.dhas ia ib false))) := by
  refine ⟨fun pins s σ H Q I h => (pc_din hu ha.run hb.run).run pins s σ H Q I ?_⟩
  obtain ⟨T, F, σe, g, v, g', r, m, q⟩ := Et.dhas0 h
  refine ⟨T, F, σe, g, v, g', r, m, fun F1 H1 x s1 r1 b1 => ?_⟩
  obtain ⟨T2, F2, σe2, g2, v2, g2', r2, m2, q2⟩ := q F1 H1 x s1 r1 b1
  refine ⟨T2, F2, σe2, g2, v2, g2', r2, m2, fun F3 H3 y s3 r3 b3 => ?_⟩
  obtain ⟨d, o, e1, e2, e3⟩ := q2 F3 H3 y s3 r3 b3
  exact ⟨d, o, e1, e2, by simpa using e3⟩
theorem Et.dhasN (hK : X.K = C.K) (hu : X.A.units + 1 < cLine) (ha : Eb X C Ow a ia) (hb : Eb X C Ow b ib) : PC X .NotIn a b (tS C Ow (ev C.Φ (.dhas ia ib true))) := by
  refine ⟨fun pins s σ H Q I h => (pc_dnotin hu ha.run hb.run).run pins s σ H Q I ?_⟩
  obtain ⟨T, F, σe, g, v, g', r, m, q⟩ := Et.dhas0 h
  refine ⟨T, F, σe, g, v, g', r, m, fun F1 H1 x s1 r1 b1 => ?_⟩
  obtain ⟨T2, F2, σe2, g2, v2, g2', r2, m2, q2⟩ := q F1 H1 x s1 r1 b1
  refine ⟨T2, F2, σe2, g2, v2, g2', r2, m2, fun F3 H3 y s3 r3 b3 => ?_⟩
  obtain ⟨d, o, e1, e2, e3⟩ := q2 F3 H3 y s3 r3 b3
  exact ⟨d, o, e1, e2, by simpa using e3⟩
theorem Es.dhas (hK : X.K = C.K) (hu : X.A.units + 1 < cLine) (ha : Eb X C Ow a ia) (hb : Eb X C Ow b ib) (h1 : behindInMarks .In b = false) : Es X C Ow (.Compare a [.In] [b] pos) (.dhas ia ib false) := ⟨pe_cmp (Et.dhas hK hu ha hb) h1⟩
theorem Es.dhasN (hK : X.K = C.K) (hu : X.A.units + 1 < cLine) (ha : Eb X C Ow a ia) (hb : Eb X C Ow b ib) (h1 : behindInMarks .NotIn b = false) : Es X C Ow (.Compare a [.NotIn] [b] pos) (.dhas ia ib true) := ⟨pe_cmp (Et.dhasN hK hu ha hb) h1⟩
end
end Pv
end

section
/-! PvJ: lists and dicts changed; a def; the law. -/
set_option autoImplicit false
namespace Pv
open PySem PySem.Spec PyProof.Rows L2

section
variable {X : Cx} {C : Ct} {W : WX} {Ow Ow' OwL : List Nat} {e a b c : Expr} {es : List Expr} {i ia ib ic : Ex} {is : Exs} {pos p apos np pos' : Pos} {x : Str} {n : Nat}
theorem own_list {T : Hp} {F : Fz} {σe : Sl} {g : G} {σ : L2.St} {H : Hp} {xs : List D} (r : R C Ow T F σe g σ H) (hn : n ∈ Ow) (e : σe[n]? = some (some (.list xs))) : ∃ a vs, σ[n]? = some (some (V.ref a)) ∧ H a = some (.lst vs) ∧ RelL C.K F xs vs := by
  obtain ⟨a, e1, ⟨vs, e2, e3⟩, _⟩ := r.ow n _ e hn
  exact ⟨a, vs, e1, e2, e3⟩
theorem own_dict {T : Hp} {F : Fz} {σe : Sl} {g : G} {σ : L2.St} {H : Hp} {xs : List (D × D)} (r : R C Ow T F σe g σ H) (hn : n ∈ Ow) (e : σe[n]? = some (some (.dict xs))) (hd : isDeck xs = false) : ∃ a vs, σ[n]? = some (some (V.ref a)) ∧ H a = some (.dK vs) ∧ RelKV C.K F xs vs ∧ isDeck xs = false := by
  obtain ⟨a, e1, ⟨e0, vs, e2, e3⟩ | z | z, _⟩ := r.ow n _ e hn
  · exact ⟨a, vs, e1, e2, e3, e0⟩
  · rw [z.mark] at hd; cases hd
  · rw [z.mark] at hd; cases hd
/-- xs.append(e) -/
theorem Ss.app (n : Nat) (hn : n ∈ Ow) (hN : X.N[n]? = some x) (hv : Vis X.env.scope x) (hd : (x == ("__debug__" : Str)) = false) (hcd : (x == ("__classdict__" : Str)) = false) (h : Es X C Ow e i)
    (hbase : attributeBase (.Name x np) "append" X.env (eval (.Name x np) X.env) = eval (.Name x np) X.env)
    (hfew : ((backTo pos (starEach [e] X.env)).all (fun x => !x.1) && (backToKw pos (keywordEach [] X.env)).all (fun x => x.1.isSome) && decide (([e] : List Expr).length + ([] : List Keyword).length + (if ([] : List Keyword).isEmpty then 0 else 1) < 30)) = true)
    (hline : (apos.endLine == pos.line) = true) (hs : starEach [e] X.env = (false, eval e X.env) :: starEach [] X.env) (hpl : (backTo pos (starEach [] X.env)).any (·.1) = false) (hsw : swapsWith (.Call (.Attribute (.Name x np) "append" apos) [e] [] pos) none pos'.line X.env = pure false) :
    Ss X C W Ow Ow OwL (.Expr (.Call (.Attribute (.Name x np) "append" apos) [e] [] pos) pos') (.app n i) :=
  ⟨ps_con (ps_expr (pe_bm PySem.F.plainAttrs_list PySem.F.slot_list_append PySem.F.type_list_append (by exact mt_append) (pe_var hN hv hd hcd) (pa_cons h.run pa_nil hs) hbase hfew hline hs hpl) hsw) fun D σ H ⟨T, F, σe, g, fl, g', r, m, q⟩ => by
    unfold Pv.run at m
    obtain ⟨d0, g0, m0, m1⟩ := bind_eq_ok m
    obtain ⟨e0, e0'⟩ := slot_ok m0
    subst e0'
    obtain ⟨v, g1, m2, m3⟩ := bind_eq_ok m1
    obtain ⟨d1, g2, m4, m5⟩ := bind_eq_ok m3
    obtain ⟨e1, e1'⟩ := slot_ok m4
    subst e1'
    obtain ⟨d2, g3, m6, m7⟩ := bind_eq_ok m5
    obtain ⟨m8, e8⟩ := lift_eq_ok m6
    subst e8
    cases m7
    rw [e0] at e1
    have e1 : d0 = d1 := Option.some.inj (Option.some.inj e1)
    subst e1
    cases d0 with
    | list xs =>
      simp only [appV] at m8
      split at m8
      · rename_i hc
        cases m8
        obtain ⟨p, vs, q1, q2, q3⟩ := own_list r hn e0
        refine ⟨.ref p, q1, .inl ⟨rfl, vs, SqL.of q2⟩, T, F, σe, _, v, _, r, m2, fun F1 H1 y s1 r1 h1 => ?_⟩
        obtain ⟨p', vs', z1, z2, z3⟩ := own_list r1 hn e0
        rw [q1] at z1
        cases z1
        refine ⟨p, vs', y, rfl, rfl, z2, ?_, q F1 _ _ s1 (r1.write hn e0 q1 ⟨_, upd_same, z3.append (.cons h1 .nil)⟩)⟩
        rw [← z3.length]
        exact lineN_lt (of_decide_eq_true hc)
      · cases m8
    | _ => simp [appV] at m8⟩
/-- xs[k] = e, a list -/
theorem Ss.setIx {k : Expr} {ik : Ex} (n : Nat) (hn : n ∈ Ow) (hN : X.N[n]? = some x) (hv : Vis X.env.scope x) (hd : (x == ("__debug__" : Str)) = false) (hcd : (x == ("__classdict__" : Str)) = false) (h : Es X C Ow e i) (hk : Eb X C Ow k ik)
    (ha : ∀ v, assign (.Subscript (.Name x np) k apos) X.env v = (do
      let ov ← holding [v] (eval (.Name x np) X.env)
      let iv ← holding [v, ov] (eval k X.env)
      standAt apos
      holding [v, ov, iv] (setItem ov iv v)
      release [v, ov, iv] [])) (hs : swapsWithSole [.Subscript (.Name x np) k apos] e pos.line X.env = pure false) (hw : swappedStores [.Subscript (.Name x np) k apos] e X.env = pure none) (h1 : (assignEach [.Subscript (.Name x np) k apos] X.env).map (·.2) = [assign (.Subscript (.Name x np) k apos) X.env]) :
    Ss X C W Ow Ow OwL (.Assign [.Subscript (.Name x np) k apos] e pos) (.setIx n ik i) :=
  ⟨ps_con (ps_asg h.run (pg_sub (pe_var hN hv hd hcd) hk.run set_list ha) hs hw h1) fun D σ H ⟨T, F, σe, g, fl, g', r, m, q⟩ => by
    unfold Pv.run at m
    obtain ⟨v, g1, m1, m2⟩ := bind_eq_ok m
    obtain ⟨d0, g2, m3, m4⟩ := bind_eq_ok m2
    obtain ⟨e0, e0'⟩ := slot_ok m3
    subst e0'
    obtain ⟨kv, g3, m5, m6⟩ := bind_eq_ok m4
    obtain ⟨d2, g4, m7, m8⟩ := bind_eq_ok m6
    obtain ⟨m9, e9⟩ := lift_eq_ok m7
    subst e9
    cases m8
    cases d0 with
    | list xs =>
      cases kv with
      | int j =>
        obtain ⟨jj, e2, e3⟩ := map_some m9
        subst e3
        refine ⟨T, F, σe, g, v, _, r, m1, fun F1 H1 y s1 r1 h1 => ?_⟩
        obtain ⟨p, vs, q1, q2, q3⟩ := own_list r1 hn e0
        refine ⟨.ref p, q1, T, F1, σe, _, _, _, r1, m5, fun F2 H2 z s2 r2 b2 => ?_⟩
        have hz : z = .int j := r2.sh b2
        subst hz
        obtain ⟨p', vs', z1, z2, z3⟩ := own_list r2 hn e0
        rw [q1] at z1
        cases z1
        exact ⟨p, vs', j, jj, rfl, rfl, z2, by rw [← z3.length]; exact e2, q F2 _ _ (s1.trans s2) (r2.write hn e0 q1 ⟨_, upd_same, z3.set (h1.mono s2 _ _) jj⟩)⟩
      | _ => simp [setIxV] at m9
    | _ => simp [setIxV] at m9⟩
/-- d.setdefault(k, e) -/
theorem Ss.setd {k : Expr} {ik : Ex} (n : Nat) (hn : n ∈ Ow) (hN : X.N[n]? = some x) (hv : Vis X.env.scope x) (hd : (x == ("__debug__" : Str)) = false) (hcd : (x == ("__classdict__" : Str)) = false) (hk : Eb X C Ow k ik) (h : Es X C Ow e i)
    (m2 : M2 X (.Name x np) "setdefault" apos k e pos) (hsw : swapsWith (.Call (.Attribute (.Name x np) "setdefault" apos) [k, e] [] pos) none pos'.line X.env = pure false) :
    Ss X C W Ow Ow OwL (.Expr (.Call (.Attribute (.Name x np) "setdefault" apos) [k, e] [] pos) pos') (.setd n ik i) :=
  ⟨ps_con (ps_expr (pe_dsetd (pe_var hN hv hd hcd) hk.run h.run m2) hsw) fun D σ H ⟨T, F, σe, g, fl, g', r, m, q⟩ => by
    unfold Pv.run at m
    obtain ⟨d0, g0, m0, m1⟩ := bind_eq_ok m
    obtain ⟨e0, e0'⟩ := slot_ok m0
    subst e0'
    obtain ⟨kv, g1, m2, m3⟩ := bind_eq_ok m1
    obtain ⟨v, g2, m4, m5⟩ := bind_eq_ok m3
    obtain ⟨d2, g3, m6, m7⟩ := bind_eq_ok m5
    obtain ⟨m8, e8⟩ := lift_eq_ok m6
    subst e8
    cases m7
    cases d0 with
    | dict kvs =>
      simp only [setdV] at m8
      split at m8
      · cases m8
      · rename_i hc
        have hdk : isDeck kvs = false := by
          cases z : isDeck kvs with
          | false => rfl
          | true => rw [z] at hc; simp at hc
        obtain ⟨p, vs, q1, q2, q3, q4⟩ := own_dict r hn e0 hdk
        refine ⟨.ref p, q1, p, rfl, .inl ⟨vs, .inl q2⟩, T, F, σe, _, kv, _, r, m2, fun F1 H1 y s1 r1 b1 => ⟨T, F1, σe, _, v, _, r1, m4, fun F2 H2 z s2 r2 h2 => ?_⟩⟩
        obtain ⟨kx, ek⟩ : ∃ kx, keyD kv = some kx := by
          cases z : keyD kv with
          | none => rw [z] at hc; simp at hc
          | some kx => exact ⟨kx, rfl⟩
        have hz := key_rel ek (r2.sh (b1.mono s2))
        obtain ⟨p', vs', z1, z2, z3, _⟩ := own_dict r2 hn e0 hdk
        rw [q1] at z1
        cases z1
        obtain ⟨l1, l2⟩ := look_rel ek z3
        have hl : vs'.length < sizeLine := by
          rw [← z3.length]
          refine lineN_lt ?_
          simp at hc
          exact hc.2
        refine ⟨vs', kx, z2, hz, hl, fun w hw => ?_, fun hw => ?_⟩
        · cases zl : dLook kv kvs with
          | none => rw [l2 zl] at hw; cases hw
          | some d =>
            rw [zl] at m8
            cases m8
            have e1 : σe.set n (some (.dict kvs)) = σe := by
              apply List.ext_getElem?
              intro j
              by_cases hj : n = j
              · subst hj
                rw [List.getElem?_set_self (List.getElem?_eq_some_iff.mp e0).1, e0]
              · rw [List.getElem?_set_ne hj]
            rw [e1] at q
            exact q F2 _ _ (s1.trans s2) r2
        · cases zl : dLook kv kvs with
          | some d =>
            obtain ⟨w, e1, _⟩ := l1 d zl
            rw [hw] at e1; cases e1
          | none =>
            rw [zl] at m8
            cases m8
            exact q F2 _ _ (s1.trans s2) (r2.write hn e0 q1 (.inl ⟨dPut_mark ek q4, _, upd_same, put_rel ek h2 z3⟩))
    | _ => simp [setdV] at m8⟩
end

/-! ### a def -/
section
variable {P : Program} {w : World} {K : PySem.W.Frag} {mg : Str → Option Value} {base : Heap} {x qual : Str} {st : Stmt} {f : Addr} {fd : FuncData} {N ps : List Str} {k : Nat}
theorem start_len {vs : List V} (h : vs.length ≤ N.length) : (L2.start N vs).length = N.length := by
  unfold L2.start
  rw [List.length_append, List.length_map, List.length_replicate]
  omega
/-- the state at a def's start -/
theorem R.start {C : Ct} {F : Fz} {ds : List D} {g : G} {H : Hp} {vs : List V} (hH : C.H0 = H) (hF : C.F0 = F) (hX : C.xf = none) (sub : Same F.h H) (sc : F.sc = C.sc) (dk : DkR C F g H) (h : RelL C.K F ds vs) (hn : vs.length ≤ N.length) :
    R C [] (fun _ => none) F (ds.map some ++ List.replicate (N.length - ds.length) none) g (L2.start N vs) H := by
  subst hH; subst hF
  have hl := h.length
  refine ⟨sub, sc, .refl _, (fun a o e n => by rw [n] at e; cases e), fun a o e => .inr e, fun d l e => .inl e, ?_, fun i v e n => ?_, fun i v e n => absurd n (List.not_mem_nil), fun i j a hi => absurd hi (List.not_mem_nil), dk, (fun a o e => by cases e), (fun i a e z => absurd z (List.not_mem_nil)), (fun dd f v z => by rw [hX] at z; cases z)⟩
  · rw [start_len hn, List.length_append, List.length_map, List.length_replicate]; omega
  · have hi : i < ds.length := by
      by_cases hi : i < ds.length
      · exact hi
      · rw [List.getElem?_append_right (by rw [List.length_map]; omega), List.getElem?_replicate] at e
        split at e <;> cases e
    rw [List.getElem?_append_left (by rw [List.length_map]; exact hi), List.getElem?_map] at e
    cases q : ds[i]? with
    | none => rw [q] at e; cases e
    | some d =>
      rw [q] at e
      cases e
      obtain ⟨u, e1, e2⟩ := h.get q
      refine ⟨u, ?_, e2⟩
      unfold L2.start
      rw [List.getElem?_append_left (by rw [List.length_map]; rw [← hl]; exact hi), List.getElem?_map, e1]
      rfl
/-- a def's body in the small language gives its promise -/
theorem defOk {C0 : Ct} (F : Fun K x qual st f fd) (S : FnScope N ps (defScope st)) (hK : C0.K = K) (fi : Nat) (m : Sm) (T : List Fn) (pr : Prims) (d : Nat) (hpr : pr fi = none) (hT : T[fi]? = some ⟨ps.length, N.length, m⟩) (hps : ps.length ≤ N.length)
    (body : ∀ (cdv : Value) (A : Around) (outer : List Env) (s : Shared) (H : Hp) (F0 : Fz) (E : XK), A.guards = some [] → Room k (A.deeper (envOfC qual (defScope st) s.heap.objs.size f cdv)) →
      ∃ Ow', Sb (cxOf (L2.CX P w) P w K mg base N qual (defScope st) f cdv A outer s H E) { C0 with H0 := H, F0 := F0, Φ := FT T pr d, fu := fuel, slf := none, xf := none } (fun cls d _ H' => E cls d H') [] Ow' [] (defBody st) m) :
    FnG P w K mg base (L2.CX P w) (k + 1) f fd ps (spS C0 (FT T pr (d + 1) fi) ps.length) := by
  refine funOk F S (fun vs H Q E h => h.1) fun cdv A outer s H vs Q E hg hr hsp => ?_
  obtain ⟨hn, F0, ds, g, sub, sc, dk, rl, hout⟩ := hsp
  obtain ⟨Ow', hb⟩ := body cdv A outer s H F0 E hg hr
  refine ⟨_, (show PSs (cxOf (L2.CX P w) P w K mg base N qual (defScope st) f cdv A outer s H E) _ _ from hb.run), ?_⟩
  have r := R.start (C := { C0 with H0 := H, F0 := F0, Φ := FT T pr d, fu := fuel, slf := none, xf := none }) (N := N) (vs := vs) rfl rfl rfl sub sc (show DkR _ F0 g H from dk) rl (by rw [hn]; exact hps)
  have hl : ds.length = ps.length := by rw [rl.length, hn]
  rw [hl] at r
  have go : ∀ {F' : Fz} {Ow2 : List Nat} {σe2 : Sl} {σ2 : L2.St} {H' : Hp} {g1 : G}, Fsub F0 F' → R { C0 with H0 := H, F0 := F0, Φ := FT T pr d, fu := fuel, slf := none, xf := none } Ow2 (fun _ => none) F' σe2 g1 σ2 H' → Goes C0 F0 H g1 F' H' := fun {F' Ow2 σe2 σ2 H' g1} s1 r1 =>
    ⟨s1, r1.sub, fun a o z1 z2 => r1.new a o z1 z2, fun a o z => r1.keep a o z, fun d l z => r1.dnew d l z, r1.dk⟩
  have hFT : FT T pr (d + 1) fi ds g = fin (Pv.run (FT T pr d) fuel m (ds.map some ++ List.replicate (N.length - ps.length) none) g) := by
    conv => lhs; unfold FT
    rw [hpr]
    simp only [hT]
    exact if_pos hl
  rcases hout with ⟨v, g', hev, q⟩ | ⟨c, ws, g', hev, q⟩
  · rw [hFT] at hev
    cases hr0 : Pv.run (FT T pr d) fuel m (ds.map some ++ List.replicate (N.length - ps.length) none) g with
    | no => rw [hr0] at hev; cases hev
    | exc c vs g1 => rw [hr0] at hev; cases hev
    | ok fl g1 =>
      rw [hr0] at hev
      refine ⟨fun _ => none, F0, _, g, fl, g1, r, hr0, ?_⟩
      cases fl with
      | nx σe' => cases hev; exact fun F' σ' H' s1 r1 => q F' H' _ (go s1 r1) rel_non
      | rt v2 => cases hev; exact fun F' Ow2 σe2 σ2 H' y s1 r1 h1 => q F' H' y (go s1 r1) h1
      | bk σe' => cases hev
      | ct σe' => cases hev
      | ex σe' c vs => cases hev
  · rw [hFT] at hev
    cases hr0 : Pv.run (FT T pr d) fuel m (ds.map some ++ List.replicate (N.length - ps.length) none) g with
    | no => rw [hr0] at hev; cases hev
    | exc c vs g1 => rw [hr0] at hev; cases hev
    | ok fl g1 =>
      rw [hr0] at hev
      refine ⟨fun _ => none, F0, _, g, fl, g1, r, hr0, ?_⟩
      cases fl with
      | nx σe' => cases hev
      | rt v2 => cases hev
      | bk σe' => cases hev
      | ct σe' => cases hev
      | ex σe' c2 vs2 => cases hev; exact fun F' Ow2 σ' H' cls d s1 r1 h1 => q F' H' cls d (go s1 r1) h1
end
end Pv
end

section
/-! PvK: the law's end; decks. -/
set_option autoImplicit false
namespace Pv
open PySem PySem.Spec PyProof.Rows L2

/-! ### the end -/
/-- what is wanted of the law's call -/
def Good (s₁ : Shared) (r : Result) (s' : Shared) : Prop := r = .ok (.ret (.bool true)) ∧ OldK s₁.heap s'.heap ∧ s'.os = s₁.os ∧ AllBare s'.gens
section
variable {P : Program} {w : World} {K : PySem.W.Frag} {mg mb : Str → Option Value} {k : Nat} {fa a : Addr} {fd : FuncData} {x : Str} {sp : Sp} {s₁ : Shared} {vs : List Value} {ns : List Int}
/-- the heap with nothing tracked but the script, and that as it stands -/
def scriptHp (K : PySem.W.Frag) (a : Addr) (vs : List Value) (ns : List Int) : Hp := fun b => if b = a ∧ K.lookup a = none then some (.frz { cls := .type "list", data := .seq vs.toArray } (.lst (ns.map V.int))) else none
theorem scriptHp_cases (b : Addr) : scriptHp K a vs ns b = none ∨ (b = a ∧ K.lookup a = none ∧ scriptHp K a vs ns b = some (.frz { cls := .type "list", data := .seq vs.toArray } (.lst (ns.map V.int)))) := by
  unfold scriptHp
  by_cases h : b = a ∧ K.lookup a = none
  · exact .inr ⟨h.1, h.2, if_pos h⟩
  · exact .inl (if_neg h)
theorem lawEnd (KX : K.In s₁.heap) (hns : s₁.heap.Ns mainGlobals mg) (hb : s₁.heap.Ns builtinsNs mb) (hbb : ∀ x : Str, x ≠ "__name__" → mb x = bootBuiltins x) (hlim : s₁.heap.NoLimit) (hg : s₁.gens = #[])
    (ha : s₁.heap.get? a = some { cls := .type "list", data := .seq vs.toArray }) (hi : IntsAre vs ns) (hl : ns.length ≤ sizeLine) (hr : Room k callerA)
    (F : ∀ base : Heap, K.In base → base.Ns mainGlobals mg → FnG P w K mg base (L2.CX P w) k fa fd [x] sp) (hbind : ∀ (s : Shared) (u : Value), BindsTo s fd ⟨[u], []⟩ [(x, u)])
    (hsp : ∀ H : Hp, (∀ b, H b = none ∨ ∃ o xs, H b = some (.frz o (.lst xs))) → SqL K H a (ns.map V.int) → sp [.ref a] H (fun v _ => v = .bl true) fun _ _ _ => False) : codeAny (model P w) callerA (.call (.ref fa) ⟨[.ref a], []⟩) (Good s₁) s₁ := by
  have rv := vals_ints hi
  have cs := scriptHp_cases (K := K) (a := a) (vs := vs) (ns := ns)
  let H := scriptHp K a vs ns
  have only : ∀ b, H b = none ∨ ∃ o xs, H b = some (.frz o (.lst xs)) := fun b => (cs b).imp id fun z => ⟨_, _, z.2.2⟩
  have isSeq : SqL K H a (ns.map V.int) := by
    cases hk : K.lookup a with
    | none => exact .inl (.inr ⟨_, if_pos ⟨rfl, hk⟩⟩)
    | some o =>
      have e := KX a o hk
      rw [ha] at e
      cases e
      exact .inr ⟨_, vs.toArray, _, hk, rfl, rfl, rfl, by rw [List.size_toArray, hi.length]; exact hl, by simpa using rv⟩
  have hok : HOk P w H s₁.heap := fun b u z => by
    rcases cs b with q | ⟨rfl, _, q⟩
    · rw [show H b = none from q] at z; cases z
    · rw [show H b = _ from q] at z; cases z
      exact ⟨ha, by rw [List.length_map]; exact hl, vs, _, rv, ha⟩
  have keep : ∀ {b : Addr} {o : Obj}, s₁.heap.get? b = some o → (b = a → o.data ≠ .seq vs.toArray 0) → (hidT s₁.heap H).get? b = some o := fun {b o} e n => hidT_get e (by
    rcases cs b with q | ⟨rfl, _, q⟩
    · exact q
    · rw [ha] at e; cases e
      exact (n rfl rfl).elim)
  have ns2 : ∀ {b : Addr} {m : Str → Option Value}, s₁.heap.Ns b m → (hidT s₁.heap H).Ns b m := fun {b m} ⟨o, es, ep, e, d, r⟩ => ⟨o, es, ep, keep e fun _ z => (by rw [d] at z; cases z), d, r⟩
  have inB : K.In (hidT s₁.heap H) := fun b o e => hidT_get (KX b o e) (by
    rcases cs b with q | ⟨rfl, z, _⟩
    · exact q
    · rw [z] at e; cases e)
  have md : Mod K mg (hidT s₁.heap H) := ⟨inB, ns2 hns, ⟨mb, ns2 hb, hbb⟩, hlim.imp fun mc z => ⟨ns2 z.1, z.2⟩⟩
  have e0 : Env0 P w K mg (hidT s₁.heap H) callerA [] s₁ H := ⟨rfl, md, fun b o e => of_hidT e, Nat.le_of_eq (hidT_size _ _), trivial, (fun b hb => nomatch hb), hok, .of_eq hg⟩
  refine codeAny_mono ((F _ inB (ns2 hns)).run callerA [] s₁ H ⟨[.ref a], []⟩ [.ref a] [.ref a] _ _ rfl hr e0 (hbind s₁ (.ref a)) (.cons rfl .nil) (hsp H only isSeq)) fun r s' h => ?_
  match r, h with
  | .error e, ⟨_, _, _, _, _, _, _, _, _, _, _, _, z⟩ => exact False.elim z
  | .ok .next, h => exact False.elim h
  | .ok .brk, h => exact False.elim h
  | .ok .cont, h => exact False.elim h
  | .ok (.ret u), ⟨v, H', os, bare, un, hok', r', q⟩ =>
    subst q
    cases r'
    refine ⟨rfl, OldK.of_keep fun b o e => ?_, os, bare⟩
    rcases cs b with z | ⟨_, _, z⟩
    · exact un.keep b o e z (fun y => nomatch y) (fun y => nomatch y)
    · have e1 := (hok b _ z).1
      rw [e] at e1; cases e1
      exact (hok' b _ (un.frzs b _ _ z)).1
end
/-- the goal that k_head leaves -/
theorem walkEnd {l : PySem.W.OpenLaw} {n k : Nat} {q : Program} {loose : List Str} {XP : (Str → Option Value) → Heap → Prop} {YP : World → Heap → Prop} {d : DefRec} {K : Params → PySem.W.Frag} {x : Str}
    (hn : l.most = some n) (hn2 : n ≤ sizeLine) (hdf : d.params.defaults = []) (hr : Room k callerA)
    (hY : ∀ (w : World) (h : Heap), YP w h → (K w.params).In h)
    (F : ∀ (w : World) (mg : Str → Option Value) (fa : Addr) (h : Heap), (K w.params).In h → h.Ns mainGlobals mg → mg d.name = some (.ref fa) →
      ∃ fd : FuncData, (∀ (s : Shared) (u : Value), BindsTo s fd ⟨[u], []⟩ [(x, u)]) ∧
        ∀ (a : Addr) (ns : List Int), ns.length ≤ n → ∃ sp : Sp, (∀ H : Hp, (∀ b, H b = none ∨ ∃ o xs, H b = some (.frz o (.lst xs))) → SqL (K w.params) H a (ns.map V.int) → sp [.ref a] H (fun v _ => v = .bl true) fun _ _ _ => False) ∧
          ∀ base : Heap, (K w.params).In base → base.Ns mainGlobals mg → FnG l.prog w (K w.params) mg base (L2.CX l.prog w) k fa fd [x] sp) :
    PySem.W.WalkO q loose XP YP l.row.toRowW d [] (fun f vs => PySem.call f vs) := by
  refine Att.attach_call hn hdf fun w s₀ s₁ mg mb fa o pm cd doc a vs ns G Y ho hd hcd hmg hobj hints hlen hg => ?_
  have KX := hY w _ Y
  obtain ⟨fd, hb, hF⟩ := F w mg fa _ KX G.T.g hmg
  obtain ⟨sp, h1, h2⟩ := hF a ns hlen
  exact lawEnd KX G.T.g G.T.b G.T.builtins G.T.nolimit hg hobj hints (Nat.le_trans hlen hn2) hr h2 hb fun H hO hS => h1 H hO hS

/-! ### the law's promise: from its value in the small language -/
theorem law_sp {C : Ct} {H : Hp} {a : Addr} {ns : List Int} {Φ : List D → G → Res D} (hc : C.sc.1 = some (a, ns)) (hS : SqL C.K H a (ns.map V.int)) (hs : ∃ g', Φ [tokD 1] none = .ok (.bool true) g') :
    spS C Φ 1 [.ref a] H (fun v _ => v = .bl true) fun _ _ _ => False := by
  obtain ⟨g', h⟩ := hs
  refine ⟨rfl, ⟨H, none, C.sc⟩, [tokD 1], none, Same.refl _, rfl, rfl, .cons ?_ .nil, .inl ⟨.bool true, g', h, fun F' H' x s rx => ?_⟩⟩
  · unfold tokD Rel
    exact .inl ⟨rfl, .inr (.inl ⟨a, ns, hc, rfl, hS, rfl⟩)⟩
  · unfold Rel at rx; exact rx

/-! ### decks -/
/-- what a primitive of the deck does -/
abbrev Prim := List D → G → Res D
theorem rel_tok0 {K : PySem.W.Frag} {F : Fz} {x : V} (h : Rel K F (tokD 0) x) : ∃ d l, F.dk = some (d, l) ∧ x = .ref d := by
  unfold tokD Rel at h
  rcases h with ⟨_, ⟨d, l, e1, e2, _⟩ | ⟨a, ns, _, _, _, e⟩ | q | q⟩ | ⟨z, _⟩
  · exact ⟨d, l, e1, e2⟩
  · unfold tokD at e
    simp at e
  · unfold RelO at q
    obtain ⟨z, _⟩ := q
    cases z
  · unfold RelTd at q
    obtain ⟨z, _⟩ := q
    cases z
  · cases z
theorem rel_tok1 {K : PySem.W.Frag} {F : Fz} {x : V} (h : Rel K F (tokD 1) x) : ∃ a ns, F.sc.1 = some (a, ns) ∧ x = .ref a ∧ SqL K F.h a (ns.map V.int) := by
  unfold tokD Rel at h
  rcases h with ⟨_, ⟨d, l, e1, e2, e⟩ | ⟨a, ns, e1, e2, e3, _⟩ | q | q⟩ | ⟨z, _⟩
  · unfold tokD at e
    simp at e
  · exact ⟨a, ns, e1, e2, e3⟩
  · unfold RelO at q
    obtain ⟨z, _⟩ := q
    cases z
  · unfold RelTd at q
    obtain ⟨z, _⟩ := q
    cases z
  · cases z
end Pv
end

section
/-! PvL: the rules for decks of draws. -/
set_option autoImplicit false
namespace Pv
open PySem PySem.Spec PyProof.Rows L2

structure DkN (C : Ct) : Prop where
  a : C.n1 ≠ C.n2
  b : ∀ n, C.n3 = some n → n ≠ C.n1 ∧ n ≠ C.n2
section
variable {X : Cx} {C : Ct} {W : WX} {Ow Ow' OwL : List Nat} {e a b c : Expr} {i ia ib ic : Ex} {pos pos' apos kp : Pos}
theorem dk_of_tok {T : Hp} {F : Fz} {σe : Sl} {st : Dk} {σ : L2.St} {H : Hp} {d : D} {x : V} (r : R C Ow T F σe (some st) σ H) (h : Bm C Ow F σe σ d x) (t : isTok 0 d = true) : ∃ d l, F.dk = some (d, l) ∧ x = .ref d ∧ d ≠ l ∧ F.h d = none ∧ F.h l = none ∧ H l = some (.lst (st.cells.map V.int)) ∧ H d = some (.dK (dkL C l st)) := by
  have e := of_isTok t
  subst e
  rcases h with h | ⟨i, hi, e1, e2⟩
  · obtain ⟨d, l, e1, e2⟩ := rel_tok0 h
    obtain ⟨d', l', e3, q⟩ := r.dk
    rw [e1] at e3; cases e3
    exact ⟨d, l, e1, e2, q⟩
  · obtain ⟨a, _, o, _⟩ := r.ow i _ e1 hi
    rcases o with ⟨z, _⟩ | ⟨_, _, _, _, _, z, _⟩ | ⟨_, _, z, _⟩
    · cases z
    · cases z
    · cases z
theorem val_1 {l : Addr} {st : Dk} : valV (dkL C l st) (.inr C.n1) = some (.ref l) := by
  unfold valV dkL
  rw [List.find?_cons_of_pos (by simp)]; rfl
theorem val_2 {l : Addr} {st : Dk} (n : DkN C) : valV (dkL C l st) (.inr C.n2) = some (.int st.mixed) := by
  unfold valV dkL
  rw [List.find?_cons_of_neg (by simpa using n.a), List.find?_cons_of_pos (by simp)]; rfl
theorem val_3 {l : Addr} {st : Dk} {x : Str} (n : DkN C) (h : C.n3 = some x) : valV (dkL C l st) (.inr x) = some (.int st.turn) := by
  obtain ⟨h1, h2⟩ := n.b x h
  unfold valV dkL
  rw [h, List.find?_cons_of_neg (by simpa using Ne.symm h1), List.find?_cons_of_neg (by simpa using Ne.symm h2)]
  simp
theorem put_2 {l : Addr} {st : Dk} {c : Int} (n : DkN C) : putK (dkL C l st) (.inr C.n2) (.int c) = dkL C l { st with mixed := c } := by
  have h : ∀ x, C.n3 = some x → x ≠ C.n2 := fun x e => (n.b x e).2
  unfold putK dkL
  cases e : C.n3 with
  | none => simp [n.a]
  | some x => simp [n.a, h x e]
theorem put_3 {l : Addr} {st : Dk} {c : Int} {x : Str} (n : DkN C) (h : C.n3 = some x) : putK (dkL C l st) (.inr x) (.int c) = dkL C l { st with turn := c } := by
  obtain ⟨h1, h2⟩ := n.b x h
  unfold putK dkL
  rw [h]
  simp [Ne.symm h1, Ne.symm h2]
theorem dkL_len {l : Addr} {st : Dk} : (dkL C l st).length ≤ 3 := by
  unfold dkL
  cases C.n3 <;> simp
/-- the deck changes -/
theorem R.deck {T : Hp} {F : Fz} {σe : Sl} {st st' : Dk} {σ : L2.St} {H H' : Hp} {d l : Addr} (r : R C Ow T F σe (some st) σ H) (e : F.dk = some (d, l)) (ne : d ≠ l) (f1 : F.h d = none) (f2 : F.h l = none)
    (out : ∀ a, a ≠ d → a ≠ l → H' a = H a) (h1 : H' l = some (.lst (st'.cells.map V.int))) (h2 : H' d = some (.dK (dkL C l st'))) : R C Ow T F σe (some st') σ H' := by
  refine r.step (.refl F) (fun a o z => ?_) (fun a o z n => by rw [z] at n; cases n) (fun a o z => ?_) (fun _ _ z => .inl z) ⟨d, l, e, ne, f1, f2, h1, h2⟩
  · rw [out a (fun q => by rw [q, f1] at z; cases z) (fun q => by rw [q, f2] at z; cases z)]
    exact r.sub a o z
  · by_cases q1 : a = d
    · exact .inl ⟨d, l, e, .inl q1⟩
    · by_cases q2 : a = l
      · exact .inl ⟨d, l, e, .inr q2⟩
      · exact .inr (by rw [out a q1 q2]; exact z)

/-- d["mixed"] -/
theorem Es.dkGet {x : Str} {j : Nat} (t : Bool) (hu : X.A.units + 1 < cLine) (n : DkN C) (hx : (if t then C.n3 else some C.n2) = some x) (ha : Eb X C Ow a ia) (hs : NoSl (.Constant (.str x) j kp)) : Es X C Ow (.Subscript a (.Constant (.str x) j kp) pos) (.dkGet t ia) :=
  ⟨pe_con (pe_dget hu ha.run pe_str hs) fun σ H Q ⟨T, F, σe, g, v, g', r, m, q⟩ => by
    unfold ev at m
    obtain ⟨d0, g1, m1, m2⟩ := bind_eq_ok m
    obtain ⟨m3, e3⟩ := lift_eq_ok m2
    subst e3
    refine ⟨T, F, σe, g, d0, _, r, m1, fun F1 H1 y s1 r1 b1 => ?_⟩
    show ∃ a v, y = .ref a ∧ DGet H1 a (.str x) (some v) ∧ Q v H1
    cases g' with
    | none => cases m3
    | some st =>
      simp only [dkGetV] at m3
      split at m3
      · rename_i ht
        cases m3
        obtain ⟨d, l, e1, e2, e3, e4, e5, e6, e7⟩ := dk_of_tok r1 b1 ht
        cases t with
        | true =>
          have z := DGet.k (k := .inr x) e7
          rw [val_3 n hx] at z
          exact ⟨d, _, e2, z, q F1 H1 _ s1 r1 rel_int⟩
        | false =>
          have hx : C.n2 = x := Option.some.inj hx
          subst hx
          have z := DGet.k (k := .inr C.n2) e7
          rw [val_2 n] at z
          exact ⟨d, _, e2, z, q F1 H1 _ s1 r1 rel_int⟩
      · cases m3⟩
/-- the deck's list -/
def tDkl (C : Ct) (Ow : List Nat) (m : Mv) : TE := fun σ H Q => ∃ T F σe g v st, R C Ow T F σe g σ H ∧ m σe g = .ok v (some st) ∧ isTok 0 v = true ∧
  ∀ F' H' d l, Fsub F F' → R C Ow T F' σe (some st) σ H' → F'.dk = some (d, l) → d ≠ l → F'.h d = none → F'.h l = none → H' l = some (.lst (st.cells.map V.int)) → H' d = some (.dK (dkL C l st)) → Q (.ref l) H'
theorem pe_dkl {x : Str} {j : Nat} (hu : X.A.units + 1 < cLine) (hx : C.n1 = x) (ha : Eb X C Ow a ia) (hs : NoSl (.Constant (.str x) j kp)) :
    PE X (.Subscript a (.Constant (.str x) j kp) pos) (tDkl C Ow (ev C.Φ ia)) :=
  pe_con (pe_dget hu ha.run pe_str hs) fun σ H Q ⟨T, F, σe, g, v, st, r, m, ht, q⟩ => ⟨T, F, σe, g, v, _, r, m, fun F1 H1 y s1 r1 b1 => by
    obtain ⟨d, l, e1, e2, e3, e4, e5, e6, e7⟩ := dk_of_tok r1 b1 ht
    have z := DGet.k (k := .inr C.n1) e7
    rw [val_1] at z
    rw [hx] at z
    exact ⟨d, _, e2, z, q F1 H1 d l s1 r1 e1 e3 e4 e5 e6 e7⟩⟩
theorem lay_ints : ∀ ns : List Int, PyData.canLayAll0 (ns.map .int) = true
  | [] => rfl
  | n :: ns => by
    rw [List.map_cons]
    unfold PyData.canLayAll0
    rw [lay_ints ns]; rfl
theorem depth_ints : ∀ ns : List Int, PyData.depthAll (ns.map .int) ≤ 1
  | [] => by rw [List.map_nil]; unfold PyData.depthAll; omega
  | n :: ns => by
    have := depth_ints ns
    rw [List.map_cons]
    unfold PyData.depthAll PyData.depth
    omega
theorem shp_ints (ns : List Int) : SeqAt.shaped (.list (ns.map .int)) = true := by
  have := depth_ints ns
  unfold SeqAt.shaped PyData.canLay0 PyData.depth
  rw [lay_ints ns, Bool.true_and]
  exact decide_eq_true (by omega)
/-- d["left"] != [] -/
theorem neq_nil {K : PySem.W.Frag} {H : Hp} {a : Addr} {p : Addr} {ns : List Int} {Q : V → Hp → Prop} (h : H a = some (.lst (ns.map V.int))) (h2 : H p = some (.lst [])) (q : Q (.bl (!ns.isEmpty)) H) : rNeD K (.ref a) (.ref p) H Q := by
  refine ⟨.list (ns.map .int), .list [], .lst (SqL.of h) ?_, .lst (SqL.of h2) .nil, ?_, rfl, ?_⟩
  · exact dpAll_of (F := ⟨H, none, (none, [])⟩) (Same.refl _) _ _ (lay_ints ns) (relL_ints ns)
  · exact shp_ints ns
  · have e : PyData.eqv (.list (ns.map .int)) (.list []) = ns.isEmpty := by
      cases ns with
      | nil => rfl
      | cons n ns => rfl
    rw [e]; exact q
theorem Et.dkHas {x : Str} {j : Nat} {p1 p2 : Pos} (hu : X.A.units + 65 < cLine) (hx : C.n1 = x) (ha : Eb X C Ow a ia) (hs : NoSl (.Constant (.str x) j kp)) : Et X C Ow (.Compare (.Subscript a (.Constant (.str x) j kp) p1) [.NotEq] [.List [] p2] pos) (.dkHas ia) :=
  ⟨pt_con (pt_cmpR (op_neD (by omega)) (pe_dkl (by omega) hx ha hs) (pe_lst pa_nil) rfl) fun σ H Q ⟨T, F, σe, g, b, g', r, m, q⟩ => by
    unfold ev at m
    obtain ⟨d0, g1, m1, m2⟩ := bind_eq_ok m
    obtain ⟨m3, e3⟩ := lift_eq_ok m2
    subst e3
    cases g' with
    | none => cases m3
    | some st =>
      simp only [dkHasV] at m3
      split at m3
      · rename_i ht
        cases m3
        refine ⟨T, F, σe, g, d0, st, r, m1, ht, fun F1 H1 d l s1 r1 e1 e3 e4 e5 e6 e7 => ⟨by rw [sizeLine_eq]; exact Nat.zero_le _, fun p n => neq_nil ((upd_ne (ne_of_none e6 n)).trans e6) upd_same ?_⟩⟩
        exact ⟨_, rfl, q F1 _ s1 (r1.grown n)⟩
      · cases m3⟩
/-- d["left"].pop() -/
theorem Es.dkPop {x : Str} {j : Nat} {p1 : Pos} (hu : X.A.units + 1 < cLine) (n : DkN C) (hx : C.n1 = x) (ha : Eb X C Ow a ia) (hs : NoSl (.Constant (.str x) j kp))
    (hbase : attributeBase (.Subscript a (.Constant (.str x) j kp) p1) "pop" X.env (eval (.Subscript a (.Constant (.str x) j kp) p1) X.env) = eval (.Subscript a (.Constant (.str x) j kp) p1) X.env)
    (hline : (apos.endLine == pos.line) = true) :
    Es X C Ow (.Call (.Attribute (.Subscript a (.Constant (.str x) j kp) p1) "pop" apos) [] [] pos) (.dkPop ia) :=
  ⟨pe_con (pe_bm0 PySem.F.plainAttrs_list PySem.F.slot_list_pop PySem.F.type_list_pop (by exact mt_pop) (pe_dkl (by omega) hx ha hs) hbase hline) fun σ H Q ⟨T, F, σe, g, v, g', r, m, q⟩ => by
    unfold ev at m
    obtain ⟨d0, g1, m1, m2⟩ := bind_eq_ok m
    cases g1 with
    | none => cases m2
    | some st =>
      simp only [dkPopV] at m2
      split at m2
      · rename_i ht
        split at m2
        · rename_i c hc
          cases m2
          refine ⟨T, F, σe, g, d0, st, r, m1, ht, fun F1 H1 d l s1 r1 e1 e3 e4 e5 e6 e7 => ⟨.inl ⟨rfl, _, SqL.of e6⟩, l, _, .int c, rfl, rfl, e6, ?_, ?_⟩⟩
          · rw [List.length_map, List.getElem?_map, ← List.getLast?_eq_getElem?, hc]; rfl
          · refine q F1 _ _ s1 (r1.deck (st' := { st with cells := st.cells.dropLast }) e1 e3 e4 e5 (fun b h1 h2 => upd_ne h2) (by rw [upd_same, List.map_dropLast]) ((upd_ne e3).trans e7)) rel_int
        · cases m2
      · cases m2⟩
/-- d["left"].append(e) -/
theorem Es.dkPush {x : Str} {j : Nat} {p1 : Pos} (hu : X.A.units + 1 < cLine) (n : DkN C) (hx : C.n1 = x) (ha : Eb X C Ow a ia) (he : Es X C Ow e i) (hs : NoSl (.Constant (.str x) j kp)) (hX : X.K = C.K)
    (hbase : attributeBase (.Subscript a (.Constant (.str x) j kp) p1) "append" X.env (eval (.Subscript a (.Constant (.str x) j kp) p1) X.env) = eval (.Subscript a (.Constant (.str x) j kp) p1) X.env)
    (hfew : ((backTo pos (starEach [e] X.env)).all (fun x => !x.1) && (backToKw pos (keywordEach [] X.env)).all (fun x => x.1.isSome) && decide (([e] : List Expr).length + ([] : List Keyword).length + (if ([] : List Keyword).isEmpty then 0 else 1) < 30)) = true)
    (hline : (apos.endLine == pos.line) = true) (hst : starEach [e] X.env = (false, eval e X.env) :: starEach [] X.env) (hpl : (backTo pos (starEach [] X.env)).any (·.1) = false) :
    Es X C Ow (.Call (.Attribute (.Subscript a (.Constant (.str x) j kp) p1) "append" apos) [e] [] pos) (.dkPush ia i) :=
  ⟨pe_con (pe_bm PySem.F.plainAttrs_list PySem.F.slot_list_append PySem.F.type_list_append (by exact mt_append) (pe_dkl (by omega) hx ha hs) (pa_cons he.run pa_nil hst) hbase hfew hline hst hpl) fun σ H Q ⟨T, F, σe, g, v, g', r, m, q⟩ => by
    unfold ev at m
    obtain ⟨d0, g1, m1, m2⟩ := bind_eq_ok m
    cases g1 with
    | none => cases m2
    | some st1 =>
    obtain ⟨v1, g2, m3, m4⟩ := bind_eq_ok m2
    cases g2 with
    | none => cases m4
    | some st =>
      simp only [dkPushV] at m4
      split at m4
      · rename_i ht
        simp only [Bool.and_eq_true, decide_eq_true_eq] at ht
        split at m4
        · rename_i v0 c
          cases m4
          refine ⟨T, F, σe, g, d0, st1, r, m1, ht.1, fun F1 H1 d l s1 r1 e1 e3 e4 e5 e6 e7 => ⟨.inl ⟨rfl, _, SqL.of e6⟩, T, F1, σe, _, _, _, r1, m3, fun F2 H2 y s2 r2 h2 => ?_⟩⟩
          obtain ⟨d', l', z1, z2, z3, z4, z5, z6⟩ := r2.dk
          rw [s2.dk _ e1] at z1
          cases z1
          have hy : y = .int c := by unfold Rel at h2; exact h2
          subst hy
          refine ⟨l, _, _, rfl, rfl, z5, ?_, ?_⟩
          · rw [List.length_map]; exact lineN_lt ht.2
          · refine q F2 _ _ (s1.trans s2) (r2.deck (st' := { st with cells := st.cells ++ [c] }) (s2.dk _ e1) e3 z3 z4 (fun b h1 h2 => upd_ne h2) (by rw [upd_same, List.map_append]; rfl) ((upd_ne e3).trans z6)) rel_non
        · cases m4
      · cases m4⟩
/-- d["mixed"] = e -/
theorem Ss.dkSet {x : Str} {j : Nat} {p1 : Pos} (t : Bool) (hu : X.A.units + 1 < cLine) (n : DkN C) (hx : (if t then C.n3 else some C.n2) = some x) (ha : Eb X C Ow a ia) (he : Es X C Ow e i)
    (hs : swapsWith e (some (.Subscript a (.Constant (.str x) j kp) p1)) pos.line X.env = pure false) :
    Ss X C W Ow Ow OwL (.Assign [.Subscript a (.Constant (.str x) j kp) p1] e pos) (.dkSet t ia i) :=
  ⟨ps_con (ps_dput hu ha.run pe_str he.run hs) fun D σ H ⟨T, F, σe, g, fl, g', r, m, q⟩ => by
    unfold Pv.run at m
    obtain ⟨v, g1, m1, m2⟩ := bind_eq_ok m
    obtain ⟨d0, g2, m3, m4⟩ := bind_eq_ok m2
    obtain ⟨g4, g5, m6, m7⟩ := bind_eq_ok m4
    obtain ⟨m8, e8⟩ := lift_eq_ok m6
    cases m7
    refine ⟨T, F, σe, g, v, g1, r, m1, fun F1 H1 y s1 r1 h1 => ⟨T, F1, σe, g1, d0, _, r1, m3, fun F2 H2 z s2 r2 b2 => ?_⟩⟩
    cases g2 with
    | none => cases m8
    | some st =>
      simp only [dkSetV] at m8
      split at m8
      · rename_i ht
        split at m8
        · rename_i c
          cases m8
          obtain ⟨d, l, e1, e2, e3, e4, e5, e6, e7⟩ := dk_of_tok r2 b2 ht
          have hy : y = .int c := by unfold Rel at h1; exact h1
          subst hy
          subst e2
          have hl := dkL_len (C := C) (l := l) (st := st)
          show ∃ a H4, V.ref d = .ref a ∧ DPut H2 a (.str x) (.int c) H4 ∧ D.nx σ H4
          refine ⟨d, _, rfl, DPut.k (k := .inr x) e7 (by rw [sizeLine_eq]; omega), ?_⟩
          cases t with
          | true =>
            rw [put_3 n hx]
            exact q F2 _ _ (s1.trans s2) (r2.deck (st' := { st with turn := c }) e1 e3 e4 e5 (fun b h1 h2 => upd_ne h1) ((upd_ne (Ne.symm e3)).trans e6) upd_same)
          | false =>
            have hx : C.n2 = x := Option.some.inj hx
            subst hx
            rw [put_2 n]
            exact q F2 _ _ (s1.trans s2) (r2.deck (st' := { st with mixed := c }) e1 e3 e4 e5 (fun b h1 h2 => upd_ne h1) ((upd_ne (Ne.symm e3)).trans e6) upd_same)
        · cases m8
      · cases m8⟩
/-- xs[::-1] of a list, a new one -/
theorem Ef.lrev {k : Nat} {p1 p2 p3 : Pos} (hK : X.K = C.K) (ha : Eb X C Ow a ia) : Ef X C Ow (.Subscript a (.Slice none none (some (.UnaryOp .USub (.Constant (.int 1) k p1) p2)) p3) pos) (.lrev ia) :=
  ⟨pe_con (pe_revL ha.run) fun σ H Q ⟨T, F, σe, g, v, g', r, m, q⟩ => by
    unfold ev at m
    obtain ⟨va, g1, m1, m2⟩ := bind_eq_ok m
    cases va with
    | list ds =>
      cases m2
      refine ⟨T, F, σe, g, _, _, r, m1, fun F1 H1 y s1 r1 b1 => ?_⟩
      obtain ⟨p, vs, rfl, h1, h2⟩ := r1.sh b1
      exact ⟨p, vs, rfl, SqL.of h1, fun p n => q F1 _ _ s1 (r1.grown n) (new_of r1 n ⟨_, upd_same, h2.reverse⟩)⟩
    | _ => cases m2⟩
/-- script[:n] -/
theorem Es.scr {p1 p2 : Pos} {j : Nat} {a0 : Addr} {ns : List Int} (n : Nat) (hK : X.K = C.K) (hc : C.sc.1 = some (a0, ns)) (ha : Es X C Ow a ia) : Es X C Ow (.Subscript a (.Slice none (some (.Constant (.int n) j p1)) none p2) pos) (.scr ia ns n) :=
  ⟨pe_con (pe_slice sl_list ha.run po_none (po_some (pe_int (i := n)))) fun σ H Q ⟨T, F, σe, g, v, g', r, m, q⟩ => by
    unfold ev at m
    obtain ⟨va, g1, m1, m2⟩ := bind_eq_ok m
    split at m2
    · rename_i ht
      have e := of_isTok ht
      subst e
      cases m2
      refine ⟨T, F, σe, g, _, _, r, m1, fun F1 H1 y s1 r1 b1 => ?_⟩
      obtain ⟨a2, ns2, z1, z2, z3⟩ := rel_tok1 b1
      rw [r1.sc, hc] at z1
      cases z1
      refine ⟨n, rfl, _, _, z2, hK ▸ sqL_mono r1.sub z3, fun p hn => ?_⟩
      refine q (F1.put p _) _ _ (s1.trans (Fsub.put (r1.fn hn))) (r1.laid hn) (rel_lst (r1.fn hn) ?_)
      have h := cut_rel (relL_ints (K := C.K) (F := F1) ns) none (some (n : Int))
      have e : cutD (ns.map .int) none (some (n : Int)) = (ns.take n).map .int := by
        unfold cutD
        rw [HT.sIx_none, HT.sIx_nat, List.drop_zero, List.length_map, Nat.sub_zero, List.map_take]
        by_cases z : n ≤ ns.length
        · rw [Nat.min_eq_left z]
        · rw [Nat.min_eq_right (by omega), List.take_of_length_le (by rw [List.length_map]; omega), List.take_of_length_le (by rw [List.length_map]; omega)]
      rw [e] at h
      exact h
    · cases m2⟩
theorem R.holdN {T : Hp} {F : Fz} {σe : Sl} {g : G} {σ : L2.St} {H : Hp} {v : D} {p : Addr} {o : HO} (r : R C Ow T F σe g σ H) (n : New C Ow T F σe σ H v p) (e : H p = some o) : R C Ow (upd T p o) F σe g σ H :=
  ⟨r.sub, r.sc, r.grow, r.new, r.keep, r.dnew, r.len, r.fz, r.ow, r.inj, r.dk, fun a u q => by
    by_cases z : a = p
    · subst z
      rw [upd_same] at q
      cases q
      exact ⟨e, n.h0, n.fn, n.nd, n.no⟩
    · rw [upd_ne z] at q
      exact r.hold a u q, r.slf, r.xf⟩
/-- the deck is made: {"left": xs, "mixed": m, "draws": 0} -/
theorem R.newDeck {T : Hp} {F : Fz} {σe : Sl} {σ : L2.St} {H : Hp} {d l : Addr} {st : Dk} {o : HO} (r : R C Ow (upd (upd T d o) l (.lst (st.cells.map V.int))) F σe none σ H) (rT : T d = none) (rl : T l = none) (ne : d ≠ l) :
    R C Ow T { F with dk := some (d, l) } σe (some st) σ (upd H d (.dK (dkL C l st))) ∧ Fsub F { F with dk := some (d, l) } := by
  have dk0 : F.dk = none := r.dk
  obtain ⟨e1, e2, e3, e4, e5⟩ := r.hold d o ((upd_ne ne).trans upd_same)
  obtain ⟨f1, f2, f3, f4, f5⟩ := r.hold l _ upd_same
  have fs : Fsub F { F with dk := some (d, l) } := ⟨Same.refl _, (fun p h => by rw [dk0] at h; cases h), rfl⟩
  have nd : ∀ {a}, ¬ F.isDk a := fun {a} z => by
    obtain ⟨x, y, z, _⟩ := z
    rw [dk0] at z
    cases z
  have isd : ∀ {a}, a ≠ d → a ≠ l → ¬ Fz.isDk { F with dk := some (d, l) } a := fun {a} z1 z2 z => by
    obtain ⟨x, y, q, q2⟩ := z
    cases q
    rcases q2 with q2 | q2
    · exact z1 q2
    · exact z2 q2
  refine ⟨⟨fun a u q => ?_, r.sc, r.grow.trans fs, r.new, fun a u q => ?_, fun a b q => ?_, r.len, fun i v q n => ?_, fun i v q hi => ?_, r.inj, ⟨d, l, rfl, ne, e3, f3, (upd_ne (Ne.symm ne)).trans f1, upd_same⟩, fun a u q => ?_, r.slf, r.xfm fs⟩, fs⟩
  · have z : a ≠ d := fun z => by
      rw [z] at q
      rw [show F.h d = none from e3] at q
      cases q
    rw [upd_ne z]
    exact r.sub a u q
  · rcases r.keep a u q with z | z
    · exact (nd z).elim
    · have z1 : a ≠ d := fun y => by
        rw [y, e2] at q
        cases q
      exact .inr ((upd_ne z1).trans z)
  · cases q
    exact .inr ⟨e2, f2⟩
  · obtain ⟨x, z1, z2⟩ := r.fz i v q n
    exact ⟨x, z1, z2.mono fs _ _⟩
  · obtain ⟨a, z1, z2, z3, z4, z5⟩ := r.ow i v q hi
    have q1 : a ≠ d := fun y => e5 i v hi q (y ▸ z1)
    have q2 : a ≠ l := fun y => f5 i v hi q (y ▸ z1)
    exact ⟨a, z1, z2.move fs fun u z => (upd_ne q1).trans z, z3, z4, isd q1 q2⟩
  · have q1 : a ≠ d := fun y => by
      rw [y, rT] at q
      cases q
    have q2 : a ≠ l := fun y => by
      rw [y, rl] at q
      cases q
    obtain ⟨y1, y2, y3, y4, y5⟩ := r.hold a u ((upd_ne q2).trans ((upd_ne q1).trans q))
    exact ⟨(upd_ne q1).trans y1, y2, y3, isd q1 q2, y5⟩
theorem ints_of_some : ∀ {xs : List D} {ns : List Int}, intsOf xs = some ns → xs = ns.map .int
  | [], ns, h => by cases h; rfl
  | .int i :: xs, ns, h => by
    unfold intsOf at h
    obtain ⟨ms, h1, h2⟩ := map_some h
    subst h2
    rw [ints_of_some h1]; rfl
  | .none :: ds, ns, e => by cases e
  | .bool _ :: ds, ns, e => by cases e
  | .str _ :: ds, ns, e => by cases e
  | .list _ :: ds, ns, e => by cases e
  | .tuple _ :: ds, ns, e => by cases e
  | .dict _ :: ds, ns, e => by cases e
theorem Es.dkNew {x1 x2 x3 : Str} {j1 j2 j3 : Nat} {p1 p2 p3 : Pos} (n : DkN C) (h1 : C.n1 = x1) (h2' : C.n2 = x2) (h3' : C.n3 = some x3) (ha : Ef X C Ow a ia) (hb : Es X C Ow b ib) (hc : Es X C Ow c ic) :
    Es X C Ow (.Dict [some (.Constant (.str x1) j1 p1), some (.Constant (.str x2) j2 p2), some (.Constant (.str x3) j3 p3)] [a, b, c] pos) (.dkNew ia ib ic) :=
  ⟨pe_con (pe_disp (pps_cons pe_str ha.run (pps_cons pe_str hb.run (pps_cons pe_str hc.run pps_nil))) rfl rfl (by simp) (Nat.le_of_ble_eq_true rfl)) fun σ H Q ⟨T, F, σe, g, v, g', r, m, q⟩ => by
    unfold ev at m
    obtain ⟨va, g1, m1, m2⟩ := bind_eq_ok m
    obtain ⟨vb, g2, m3, m4⟩ := bind_eq_ok m2
    obtain ⟨vc, g3, m5, m6⟩ := bind_eq_ok m4
    unfold dkNewV at m6
    split at m6
    · split at m6
      · rename_i xs mx tn
        split at m6
        · rename_i ns hi
          cases m6
          have e := ints_of_some hi
          subst e
          intro p hp
          have rT := r.tn hp
          refine ⟨upd T p (.dK []), F, σe, g, _, _, r.take hp, m1, fun F1 H1 y s1 r1 n1 => ?_⟩
          obtain ⟨vs, l1, l2⟩ := n1.at_
          have l3 := l2.ints hi
          subst l3
          have nt := n1.nt
          have ne : p ≠ y := fun z => by
            rw [z, upd_same] at nt
            cases nt
          have rl : T y = none := by
            rw [upd_ne (Ne.symm ne)] at nt
            exact nt
          refine ⟨_, F1, σe, g1, _, _, r1.holdN n1 l1, m3, fun F2 H2 y2 s2 r2 h2 => ⟨_, F2, σe, _, _, _, r2, m5, fun F3 H3 y3 s3 r3 h3 => ?_⟩⟩
          have e2 : y2 = .int mx := by unfold Rel at h2; exact h2
          have e3 : y3 = .int tn := by unfold Rel at h3; exact h3
          subst e2; subst e3
          obtain ⟨z1, z2⟩ := R.newDeck (st := ⟨ns, mx, tn⟩) r3 rT rl ne
          refine ⟨(r3.hold p _ ((upd_ne ne).trans upd_same)).1, [(.inr x1, .ref y), (.inr x2, .int mx), (.inr x3, .int tn)], rfl, Nat.le_of_ble_eq_true rfl, ?_⟩
          have em : mergeK [] [(.inr x1, V.ref y), (.inr x2, .int mx), (.inr x3, .int tn)] = dkL C y ⟨ns, mx, tn⟩ := by
            subst h1; subst h2'
            obtain ⟨b1, b2⟩ := n.b x3 h3'
            unfold mergeK dkL
            rw [h3']
            simp [putK, n.a, Ne.symm n.a, b1, b2, Ne.symm b1, Ne.symm b2]
          rw [em]
          exact q _ _ _ (s1.trans (s2.trans (s3.trans z2))) z1 (by unfold tokD Rel; exact .inl ⟨rfl, .inl ⟨p, y, rfl, rfl, rfl⟩⟩)
        · cases m6
      · cases m6
    · cases m6⟩
theorem Es.dkNew2 {x1 x2 : Str} {j1 j2 : Nat} {p1 p2 : Pos} (n : DkN C) (h1 : C.n1 = x1) (h2' : C.n2 = x2) (h3' : C.n3 = none) (ha : Ef X C Ow a ia) (hb : Es X C Ow b ib) :
    Es X C Ow (.Dict [some (.Constant (.str x1) j1 p1), some (.Constant (.str x2) j2 p2)] [a, b] pos) (.dkNew2 ia ib) :=
  ⟨pe_con (pe_disp (pps_cons pe_str ha.run (pps_cons pe_str hb.run pps_nil)) rfl rfl (by simp) (Nat.le_of_ble_eq_true rfl)) fun σ H Q ⟨T, F, σe, g, v, g', r, m, q⟩ => by
    unfold ev at m
    obtain ⟨va, g1, m1, m2⟩ := bind_eq_ok m
    obtain ⟨vb, g2, m3, m4⟩ := bind_eq_ok m2
    have m6 := m4
    unfold dkNewV at m6
    split at m6
    · split at m6
      · rename_i xs mx tn he
        cases he
        split at m6
        · rename_i ns hi
          cases m6
          have e := ints_of_some hi
          subst e
          intro p hp
          have rT := r.tn hp
          refine ⟨upd T p (.dK []), F, σe, g, _, _, r.take hp, m1, fun F1 H1 y s1 r1 n1 => ?_⟩
          obtain ⟨vs, l1, l2⟩ := n1.at_
          have l3 := l2.ints hi
          subst l3
          have nt := n1.nt
          have ne : p ≠ y := fun z => by
            rw [z, upd_same] at nt
            cases nt
          have rl : T y = none := by
            rw [upd_ne (Ne.symm ne)] at nt
            exact nt
          refine ⟨_, F1, σe, g1, _, _, r1.holdN n1 l1, m3, fun F3 H3 y2 s2 r3 h2 => ?_⟩
          have e2 : y2 = .int mx := by unfold Rel at h2; exact h2
          subst e2
          obtain ⟨z1, z2⟩ := R.newDeck (st := ⟨ns, mx, 0⟩) r3 rT rl ne
          refine ⟨(r3.hold p _ ((upd_ne ne).trans upd_same)).1, [(.inr x1, .ref y), (.inr x2, .int mx)], rfl, Nat.le_of_ble_eq_true rfl, ?_⟩
          have em : mergeK [] [(.inr x1, V.ref y), (.inr x2, .int mx)] = dkL C y ⟨ns, mx, 0⟩ := by
            subst h1; subst h2'
            unfold mergeK dkL
            rw [h3']
            simp [putK, n.a, Ne.symm n.a]
          rw [em]
          exact q _ _ _ (s1.trans (s2.trans z2)) z1 (by unfold tokD Rel; exact .inl ⟨rfl, .inl ⟨p, y, rfl, rfl, rfl⟩⟩)
        · cases m6
      · cases m6
    · cases m6⟩
end
end Pv
end

section
/-! PvM: comprehensions bound to names, displays of dicts, keywords; what a law's texts share. -/
set_option autoImplicit false
namespace Pv
open PySem PySem.Spec PyProof.Rows L2

section
variable {X : Cx} {C : Ct} {W : WX} {Ow Ow' OwL : List Nat} {tg e a b : Expr} {i ia ib : Ex} {is : Exs} {pos : Pos}
/-- x = [elt for .. in ..] on one line -/
theorem Ss.ownLc {elt iter : Expr} {ifs : List Expr} {scope : Scope} {own : List (Str × Nat)} {t : List Nat} {k : Ik} {cond ei : Ex} {y : Str} {py spos : Pos} (n : Nat) (hc : X.calm = true) (hN : X.N.Nodup) (hy : X.N[n]? = some y) (hyl : X.env.scope.names.lookup y = some .local)
    (hsw : swapsWith (.ListComp elt [⟨tg, iter, ifs, 0⟩] scope pos) (some (.Name y py)) spos.line X.env = pure true) (hi : Ei X C Ow tg iter k is) (ok : BlkOk X.N X.env.scope scope own) (hown : own.map (·.2) = t)
    (hg : ∀ (s : Shared) (H : Hp) (A : Addr) (cl : List (Str × Addr)) (fp : List Addr), Eg (X.blk s H scope (compEnvC scope cl A X.env) fp) C Ow tg t)
    (ht : ∀ (s : Shared) (H : Hp) (A : Addr) (cl : List (Str × Addr)) (fp : List Addr), Ec (X.blk s H scope (compEnvC scope cl A X.env) fp) C Ow ifs cond)
    (he : ∀ (s : Shared) (H : Hp) (A : Addr) (cl : List (Str × Addr)) (fp : List Addr), Es (X.blk s H scope (compEnvC scope cl A X.env) fp) C Ow elt ei)
    (hs : ∀ x, foldedSetIterable iter X.env x = pure x) (hno : ∀ i ∈ t, i ∉ Ow) (hsl : SlfOk C n) :
    Ss X C W Ow (n :: Ow) OwL (.Assign [.Name y py] (.ListComp elt [⟨tg, iter, ifs, 0⟩] scope pos) spos) (.set [n] (.comp t k is cond ei)) :=
  ⟨ps_con (ps_setLc hc hN hy hyl hsw hi.run ok (fun s H A cl fp => (hg s H A cl fp).run) (fun s H A cl fp => (ht s H A cl fp).run) (fun s H A cl fp => (he s H A cl fp).run) hs) fun D σ H ⟨T, F, σe, g, fl, g', r, m, q⟩ => by
    unfold Pv.run at m
    obtain ⟨v, g1, m1, m2⟩ := bind_eq_ok m
    cases m2
    rw [hown]
    exact lc_run hno ⟨T, F, σe, g, v, _, r, m1, fun F1 H1 a s1 r1 h1 => q F1 _ H1 s1 (r1.own hsl h1)⟩⟩

/-- x, y = new, e -/
theorem Ss.parO {x y : Str} {px py pt : Pos} {kt k2 : Nat} {pt2 : Pos} (n k : Nat) (hc : X.calm = true) (hN : X.N.Nodup) (hi : X.N[n]? = some x) (hj : X.N[k]? = some y) (hij : n ≠ k) (hk : k ∉ n :: Ow)
    (hx : X.env.scope.names.lookup x = some .local) (hy : X.env.scope.names.lookup y = some .local) (ha : Ef X C Ow a ia) (hb : Es X C Ow b ib)
    (hs1 : starEach [a, b] X.env = (false, eval a X.env) :: starEach [b] X.env) (hs2 : starEach [b] X.env = (false, eval b X.env) :: starEach [] X.env)
    (hw : swappedStores [.Tuple [.Name x px, .Name y py] kt pt] (.Tuple [a, b] k2 pt2) X.env = pure (some [x, y]))
    (hs : swapsWithSole [.Tuple [.Name x px, .Name y py] kt pt] (.Tuple [a, b] k2 pt2) pos.line X.env = pure false) (hsl : SlfOk C n) :
    Ss X C W Ow (n :: Ow) OwL (.Assign [.Tuple [.Name x px, .Name y py] kt pt] (.Tuple [a, b] k2 pt2) pos) (.par n k ia ib) := ⟨ps_con (ps_par hc hN hi hj hij hx hy (pa_cons ha.run (pa_cons hb.run pa_nil hs2) hs1) hw hs) fun D σ H ⟨T, F, σe, g, fl, g', r, m, q⟩ => by
  unfold Pv.run at m
  obtain ⟨v, g1, m1, m2⟩ := bind_eq_ok m
  obtain ⟨w, g2, m3, m4⟩ := bind_eq_ok m2
  cases m4
  refine ⟨T, F, σe, g, v, g1, r, m1, fun F1 H1 p s1 r1 n1 => ?_⟩
  obtain ⟨o, eo⟩ := n1.at_.there
  refine ⟨upd T p o, F1, σe, g1, w, _, r1.holdN n1 eo, m3, fun F2 H2 z s2 r2 h2 => ?_⟩
  obtain ⟨e1, e2, e3, e4, e5⟩ := r2.hold p o upd_same
  have n2 : New C Ow T F2 σe σ H2 v p := ⟨n1.at_.move s2 (fun o' e => by rw [eo] at e; cases e; exact e1), e2, e3, e4, e5, n1.nt⟩
  have r3 : R C Ow T F2 σe _ σ H2 := r2.letgo fun a o' h => by
    have ne : a ≠ p := fun z => by rw [z, n1.nt] at h; cases h
    exact (upd_ne ne).trans h
  exact ⟨.ref p, z, rfl, q F2 _ H2 (s1.trans s2) ((r3.own hsl n2).setS hk h2)⟩⟩
/-- x, y = e, new -/
theorem Ss.parP {x y : Str} {px py pt : Pos} {kt k2 : Nat} {pt2 : Pos} (n k : Nat) (hc : X.calm = true) (hN : X.N.Nodup) (hi : X.N[n]? = some x) (hj : X.N[k]? = some y) (hij : n ≠ k) (hn : n ∉ Ow)
    (hx : X.env.scope.names.lookup x = some .local) (hy : X.env.scope.names.lookup y = some .local) (ha : Es X C Ow a ia) (hb : Ef X C Ow b ib)
    (hs1 : starEach [a, b] X.env = (false, eval a X.env) :: starEach [b] X.env) (hs2 : starEach [b] X.env = (false, eval b X.env) :: starEach [] X.env)
    (hw : swappedStores [.Tuple [.Name x px, .Name y py] kt pt] (.Tuple [a, b] k2 pt2) X.env = pure (some [x, y]))
    (hs : swapsWithSole [.Tuple [.Name x px, .Name y py] kt pt] (.Tuple [a, b] k2 pt2) pos.line X.env = pure false) (hsl : SlfOk C k) :
    Ss X C W Ow (k :: Ow) OwL (.Assign [.Tuple [.Name x px, .Name y py] kt pt] (.Tuple [a, b] k2 pt2) pos) (.par n k ia ib) := ⟨ps_con (ps_par hc hN hi hj hij hx hy (pa_cons ha.run (pa_cons hb.run pa_nil hs2) hs1) hw hs) fun D σ H ⟨T, F, σe, g, fl, g', r, m, q⟩ => by
  unfold Pv.run at m
  obtain ⟨v, g1, m1, m2⟩ := bind_eq_ok m
  obtain ⟨w, g2, m3, m4⟩ := bind_eq_ok m2
  cases m4
  refine ⟨T, F, σe, g, v, g1, r, m1, fun F1 H1 z s1 r1 h1 => ⟨T, F1, σe, g1, w, _, r1, m3, fun F2 H2 p s2 r2 n2 => ?_⟩⟩
  have n3 : New C Ow T F2 (σe.set n (some v)) (σ.set n (some z)) H2 w p := ⟨n2.at_, n2.h0, n2.fn, n2.nd, fun i u hi' e => by
    have ne : n ≠ i := fun y => hn (y ▸ hi')
    rw [List.getElem?_set_ne ne] at e ⊢
    exact n2.no i u hi' e, n2.nt⟩
  exact ⟨z, .ref p, rfl, q F2 _ H2 (s1.trans s2) ((r2.setS hn (h1.mono s2 _ _)).own hsl n3)⟩⟩
/-- x, y = new, new -/
theorem Ss.parQ {x y : Str} {px py pt : Pos} {kt k2 : Nat} {pt2 : Pos} (n k : Nat) (hc : X.calm = true) (hN : X.N.Nodup) (hi : X.N[n]? = some x) (hj : X.N[k]? = some y) (hij : n ≠ k)
    (hx : X.env.scope.names.lookup x = some .local) (hy : X.env.scope.names.lookup y = some .local) (ha : Ef X C Ow a ia) (hb : Ef X C Ow b ib)
    (hs1 : starEach [a, b] X.env = (false, eval a X.env) :: starEach [b] X.env) (hs2 : starEach [b] X.env = (false, eval b X.env) :: starEach [] X.env)
    (hw : swappedStores [.Tuple [.Name x px, .Name y py] kt pt] (.Tuple [a, b] k2 pt2) X.env = pure (some [x, y]))
    (hs : swapsWithSole [.Tuple [.Name x px, .Name y py] kt pt] (.Tuple [a, b] k2 pt2) pos.line X.env = pure false) (hsl : SlfOk C n) (hsl2 : SlfOk C k) :
    Ss X C W Ow (k :: n :: Ow) OwL (.Assign [.Tuple [.Name x px, .Name y py] kt pt] (.Tuple [a, b] k2 pt2) pos) (.par n k ia ib) := ⟨ps_con (ps_par hc hN hi hj hij hx hy (pa_cons ha.run (pa_cons hb.run pa_nil hs2) hs1) hw hs) fun D σ H ⟨T, F, σe, g, fl, g', r, m, q⟩ => by
  unfold Pv.run at m
  obtain ⟨v, g1, m1, m2⟩ := bind_eq_ok m
  obtain ⟨w, g2, m3, m4⟩ := bind_eq_ok m2
  cases m4
  refine ⟨T, F, σe, g, v, g1, r, m1, fun F1 H1 p s1 r1 n1 => ?_⟩
  obtain ⟨o, eo⟩ := n1.at_.there
  refine ⟨upd T p o, F1, σe, g1, w, _, r1.holdN n1 eo, m3, fun F2 H2 p2 s2 r2 m2 => ?_⟩
  obtain ⟨e1, e2, e3, e4, e5⟩ := r2.hold p o upd_same
  have n2 : New C Ow T F2 σe σ H2 v p := ⟨n1.at_.move s2 (fun o' e => by rw [eo] at e; cases e; exact e1), e2, e3, e4, e5, n1.nt⟩
  have np : p2 ≠ p := fun z => by
    have := m2.nt
    rw [z, upd_same] at this; cases this
  have r3 : R C Ow T F2 σe _ σ H2 := r2.letgo fun a o' h => by
    have ne : a ≠ p := fun z => by rw [z, n1.nt] at h; cases h
    exact (upd_ne ne).trans h
  have r4 := r3.own hsl n2
  have nt2 : T p2 = none := by
    have := m2.nt
    rwa [upd_ne np] at this
  have n3 : New C (n :: Ow) T F2 (σe.set n (some v)) (σ.set n (some (V.ref p))) H2 w p2 := ⟨m2.at_, m2.h0, m2.fn, m2.nd, fun i u hi' e z => by
    by_cases ne : n = i
    · subst ne
      have hl : n < σ.length := by
        have := (List.getElem?_eq_some_iff.mp z).1
        rwa [List.length_set] at this
      rw [List.getElem?_set_self hl] at z
      cases z
      exact np rfl
    · rw [List.getElem?_set_ne ne] at e z
      exact m2.no i u ((List.mem_cons.mp hi').resolve_left (Ne.symm ne)) e z, nt2⟩
  exact ⟨.ref p, .ref p2, rfl, q F2 _ H2 (s1.trans s2) (r4.own hsl2 n3)⟩⟩
/-- `in` of a dict, as a test -/
theorem Et.has (hK : X.K = C.K) (hu : X.A.units + 1 < cLine) (ha : Eb X C Ow a ia) (hb : Eb X C Ow b ib) (h1 : behindInMarks .In b = false) : Et X C Ow (.Compare a [.In] [b] pos) (.dhas ia ib false) :=
  ⟨pt_con (pt_cmp (Et.dhas hK hu ha hb) h1) fun σ H Q ⟨T, F, σe, g, v, g', r, m, q⟩ => ⟨T, F, σe, g, _, _, r, m, fun F1 H1 x s1 r1 hx => ⟨v, by unfold Rel at hx; exact hx, q F1 H1 s1 r1⟩⟩⟩
theorem Et.hasN (hK : X.K = C.K) (hu : X.A.units + 1 < cLine) (ha : Eb X C Ow a ia) (hb : Eb X C Ow b ib) (h1 : behindInMarks .NotIn b = false) : Et X C Ow (.Compare a [.NotIn] [b] pos) (.dhas ia ib true) :=
  ⟨pt_con (pt_cmp (Et.dhasN hK hu ha hb) h1) fun σ H Q ⟨T, F, σe, g, v, g', r, m, q⟩ => ⟨T, F, σe, g, _, _, r, m, fun F1 H1 x s1 r1 hx => ⟨v, by unfold Rel at hx; exact hx, q F1 H1 s1 r1⟩⟩⟩
/-- a bound of a slice -/
theorem Eo.int (h : Eb X C Ow e i) : Eo X C Ow (Option.some e) (.asI i) := ⟨po_con (po_some h.run) fun σ H Q ⟨T, F, σe, g, v, g', oi, r, m, eo, q⟩ => by
  unfold ev at m
  obtain ⟨x, g1, m1, m2⟩ := bind_eq_ok m
  cases x with
  | int j =>
    cases m2
    cases eo
    exact ⟨T, F, σe, g, _, _, r, m1, fun F1 H1 y s1 r1 b1 => ⟨j, r1.sh b1, q F1 H1 s1 r1⟩⟩
  | _ => cases m2⟩
/-! ### displays of dicts -/
inductive RelP (K : PySem.W.Frag) (F : Fz) : List D → List (V × V) → Prop
  | nil : RelP K F [] []
  | cons {k d : D} {ds : List D} {x y : V} {ps : List (V × V)} (hk : Rel K F k x) (hd : Rel K F d y) (h : RelP K F ds ps) : RelP K F (k :: d :: ds) ((x, y) :: ps)
structure Ep (X : Cx) (C : Ct) (Ow : List Nat) (pos : Pos) (keys : List (Option Expr)) (vals : List Expr) (is : Exs) : Prop where
  run : ∃ trs, PPs X pos keys vals trs ∧ ∀ (σ : L2.St) (H : Hp) (Q : List (V × V) → Hp → Prop), (∃ T F σe g vs g', R C Ow T F σe g σ H ∧ evs C.Φ is σe g = .ok vs g' ∧ ∀ F' H' ps, Fsub F F' → R C Ow T F' σe g' σ H' → RelP C.K F' vs ps → Q ps H') → tPairs trs σ H Q
theorem Ep.nil : Ep X C Ow pos [] [] .nil := ⟨[], pps_nil, fun σ H Q ⟨T, F, σe, g, vs, g', r, m, q⟩ => by
  unfold evs at m
  cases m
  exact q F H [] (.refl F) r .nil⟩
theorem Ep.cons {keys : List (Option Expr)} {vals : List Expr} (ha : Es X C Ow a ia) (hb : Es X C Ow b ib) (h : Ep X C Ow pos keys vals is) : Ep X C Ow pos (some a :: keys) (b :: vals) (.cons ia (.cons ib is)) := by
  obtain ⟨trs, h1, h2⟩ := h
  refine ⟨_, pps_cons ha.run hb.run h1, fun σ H Q ⟨T, F, σe, g, vs, g', r, m, q⟩ => ?_⟩
  unfold evs at m
  obtain ⟨x, g1, m1, m2⟩ := bind_eq_ok m
  obtain ⟨xs, g2, m3, m4⟩ := bind_eq_ok m2
  cases m4
  unfold evs at m3
  obtain ⟨y, g3, m5, m6⟩ := bind_eq_ok m3
  obtain ⟨ys, g4, m7, m8⟩ := bind_eq_ok m6
  cases m8
  exact ⟨T, F, σe, g, x, g1, r, m1, fun F1 H1 vx s1 r1 hx => ⟨T, F1, σe, g1, y, g3, r1, m5, fun F2 H2 vy s2 r2 hy => h2 σ H2 _ ⟨T, F2, σe, g3, ys, _, r2, m7, fun F3 H3 ps s3 r3 hp => q F3 H3 _ (s1.trans (s2.trans s3)) r3 (.cons (hx.mono (s2.trans s3) _ _) (hy.mono s3 _ _) hp)⟩⟩⟩
theorem disp_rel {K : PySem.W.Frag} {F : Fz} : ∀ {vs : List D} {ps : List (V × V)} {acc out : List (D × D)} {kk : List (Key × V)}, RelP K F vs ps → dispV vs acc = some out → RelKV K F acc kk → ∃ kvs : List (Key × V), ps = kvs.map (fun kv => (kV kv.1, kv.2)) ∧ RelKV K F out (mergeK kk kvs)
  | _, _, acc, out, kk, .nil, h, r => by
    unfold dispV at h
    cases h
    exact ⟨[], rfl, r⟩
  | _, _, acc, out, kk, .cons (k := k) (d := d) (x := x) (y := y) hk hd hp, h, r => by
    unfold dispV at h
    cases e : keyD k with
    | none => rw [e] at h; cases h
    | some kx =>
      rw [e] at h
      have h := h
      simp only [Option.isNone_some, Bool.false_eq_true, if_false] at h
      obtain ⟨kvs, e1, e2⟩ := disp_rel hp h (put_rel e hd r)
      refine ⟨(kx, y) :: kvs, ?_, e2⟩
      rw [List.map_cons, ← e1]
      have z : x = kV kx := key_rel (H := F.h) e (hk.sh (Same.refl _))
      rw [z]
theorem isDeck_put {k v : D} {kvs : List (D × D)} {kx : Key} (e : keyD k = some kx) (h : isDeck kvs = false) : isDeck (dPut k v kvs) = false := dPut_mark e h
theorem disp_mark : ∀ {vs : List D} {acc out : List (D × D)}, dispV vs acc = some out → isDeck acc = false → isDeck out = false
  | [], acc, out, h, n => by
    unfold dispV at h
    cases h
    exact n
  | [k], acc, out, h, n => by
    unfold dispV at h
    cases h
  | k :: d :: vs, acc, out, h, n => by
    unfold dispV at h
    cases e : keyD k with
    | none => rw [e] at h; cases h
    | some kx =>
      rw [e] at h
      simp only [Option.isNone_some, Bool.false_eq_true, if_false] at h
      exact disp_mark h (dPut_mark e n)
theorem RelP.len {K : PySem.W.Frag} {F : Fz} : ∀ {vs : List D} {ps : List (V × V)}, RelP K F vs ps → vs.length = 2 * ps.length
  | _, _, .nil => rfl
  | _, _, .cons _ _ h => by
    have := h.len
    simp only [List.length_cons]
    omega
theorem Ef.ddisp {keys : List (Option Expr)} {vals : List Expr} (h : Ep X C Ow pos keys vals is) (hall : keys.all (·.isSome) = true) (hl : keys.length = vals.length) (h0 : keys ≠ []) (h15 : keys.length ≤ 15) (h30 : is.len ≤ 30) : Ef X C Ow (.Dict keys vals pos) (.ddisp is) := by
  obtain ⟨trs, h1, h2⟩ := h
  refine ⟨pe_con (pe_disp h1 hall hl h0 h15) fun σ H Q ⟨T, F, σe, g, v, g', r, m, q⟩ => ?_⟩
  unfold ev at m
  obtain ⟨xs, g1, m1, m2⟩ := bind_eq_ok m
  obtain ⟨m3, e3⟩ := lift_eq_ok m2
  subst e3
  obtain ⟨kvs, m4, e4⟩ := map_some m3
  subst e4
  intro p hp
  refine h2 σ _ _ ⟨upd T p (.dK []), F, σe, g, xs, _, r.take hp, m1, fun F1 H1 ps s1 r1 hps => ?_⟩
  obtain ⟨kk, e1, e2⟩ := disp_rel hps m4 (kk := []) (by unfold RelKV; rfl)
  have hk := hps.len
  rw [e1, List.length_map, evs_len _ _ _ _ _ _ m1] at hk
  refine ⟨(r1.hold p _ upd_same).1, kk, e1, by omega, ?_⟩
  obtain ⟨w1, w2, w3, w4, w5⟩ := r1.hold p _ upd_same
  have rT := r.tn hp
  have r2 := (r1.held (o' := .dK (mergeK [] kk)) upd_same).letgo (T := T) (fun a o z => by
    have ne : a ≠ p := fun y => by
      rw [y, rT] at z
      cases z
    rw [upd_ne ne, upd_ne ne]
    exact z)
  exact q F1 _ p s1 r2 ⟨.inl ⟨disp_mark m4 rfl, _, upd_same, e2⟩, w2, w3, w4, w5, rT⟩

/-! ### small facts that the printed texts use -/
theorem Room.u65 {k : Nat} {A : Around} (r : Room k A) : A.units + 65 < cLine := by
  have := r.un
  have e : cLine = 9900 := rfl
  omega
theorem Room.u70 {k : Nat} {A : Around} (r : Room k A) : A.units + 70 < cLine := by
  have := r.un
  have e : cLine = 9900 := rfl
  omega
theorem Room.u1 {k : Nat} {A : Around} (r : Room k A) : A.units + 1 < cLine := by
  have := r.un
  have e : cLine = 9900 := rfl
  omega
theorem kb_of {K : PySem.W.Frag} {x qual : Str} {st : Stmt} {f : Addr} {fd : FuncData} {ps ks : List Str} {n : Nat} {perm : List Nat} (F : Fun K x qual st f fd)
    (h : ∀ (kV doc pm : Value) (an : Option Addr) (cdv ct : Value) (us ws : List Value), us.length = n → ws.length = ks.length → bindArgs (PySem.W.fnOf x qual (defArgs st) (defBody st) (defScope st) .none kV doc pm an cdv ct) ⟨us, ks.zip ws⟩ = pure (ps.zip (Pv.pm perm (us ++ ws)))) : KB K fd ps ks n perm := by
  obtain ⟨oc, od, kV, doc, pm, an, cdv, ct, osl, rfl, lk, hcd⟩ := F.ex
  exact ⟨fun s us ws _ h1 h2 => .of_eq (h kV doc pm an cdv ct us ws h1 h2)⟩
/-- at a call -/
abbrev Ct.at (C : Ct) (H : Hp) (F0 : Fz) (Φ : Fns) : Ct := { C with H0 := H, F0 := F0, Φ := Φ, fu := fuel, slf := none, xf := none }
/-- at an __init__'s call -/
abbrev Ct.atI (C : Ct) (H : Hp) (F0 : Fz) (Φ : Fns) (x : Addr) : Ct := { C with H0 := H, F0 := F0, Φ := Φ, fu := fuel, slf := some (0, x), xf := none }
/-- what is fixed through a law's run -/
structure Dc (C : Ct) (n1 n2 : Str) (n3 : Option Str) (a : Addr) (ns : List Int) (cl : List (Addr × List Str)) (xc : List (Addr × Option Str)) : Prop where
  n1 : C.n1 = n1
  n2 : C.n2 = n2
  n3 : C.n3 = n3
  sc : C.sc.1 = some (a, ns)
  cl : C.sc.2 = cl
  xc : C.xc = xc
end
end Pv
end

section
/-! PvMv: list(a) to be held alone; xs.pop(); xs[k] += e. -/
set_option autoImplicit false
namespace Pv
open PySem PySem.Spec PyProof.Rows L2
section
variable {X : Cx} {C : Ct} {W : WX} {Ow Ow' OwL : List Nat} {e a b c : Expr} {es : List Expr} {i ia ib ic : Ex} {is : Exs} {pos p apos np pos' tpos : Pos} {x : Str} {n : Nat}
theorem Ef.toList (hK : X.K = C.K) (hg : Gl X x) (hm : X.mg x = none) (hv : bootBuiltins x = some (.type "list")) (ha : Eb X C Ow a ia) (hn : x ≠ "__name__") (hdb : (x == ("__debug__" : Str)) = false)
    (he : starEach [a] X.env = (false, eval a X.env) :: starEach [] X.env) (hpl : (backTo pos (starEach [] X.env)).any (·.1) = false) : Ef X C Ow (.Call (.Name x p) [a] [] pos) (.bi .toList (.cons ia .nil)) :=
  ⟨pe_con (pe_callTy call_list_of hg hm hv (pa_cons ha.run pa_nil he) hn hdb he hpl) fun σ H Q ⟨T, F, σe, g, v, g', r, m, q⟩ => by
    unfold ev evs at m
    obtain ⟨vs, g1, m1, m2⟩ := bind_eq_ok m
    obtain ⟨d, g2, m3, m4⟩ := bind_eq_ok m1
    obtain ⟨ws, g3, m5, m6⟩ := bind_eq_ok m4
    unfold evs at m5
    cases m5; cases m6
    obtain ⟨m7, e7⟩ := lift_eq_ok m2
    subst e7
    refine ⟨T, F, σe, g, _, _, r, m3, fun F1 H1 y s1 r1 b1 => ?_⟩
    have hy := r1.sh b1
    cases d with
    | list ds =>
      cases m7
      obtain ⟨q1, vs, rfl, h1, h2⟩ := hy
      exact ⟨q1, vs, rfl, .inl (SqL.of h1), fun l hl => q F1 _ l s1 (r1.grown hl) (new_of r1 hl ⟨_, upd_same, h2⟩)⟩
    | tuple ds =>
      cases m7
      obtain ⟨q1, vs, rfl, h1, h2⟩ := hy
      exact ⟨q1, vs, rfl, .inr (by rw [hK]; exact sqT_mono r1.sub h1), fun l hl => q F1 _ l s1 (r1.grown hl) (new_of r1 hl ⟨_, upd_same, h2⟩)⟩
    | _ => simp [biV] at m7⟩
theorem Ss.popS (n : Nat) (hn : n ∈ Ow) (hN : X.N[n]? = some x) (hv : Vis X.env.scope x) (hd : (x == ("__debug__" : Str)) = false) (hcd : (x == ("__classdict__" : Str)) = false)
    (hbase : attributeBase (.Name x np) "pop" X.env (eval (.Name x np) X.env) = eval (.Name x np) X.env) (hline : (apos.endLine == pos.line) = true)
    (hsw : swapsWith (.Call (.Attribute (.Name x np) "pop" apos) [] [] pos) none pos'.line X.env = pure false) :
    Ss X C W Ow Ow OwL (.Expr (.Call (.Attribute (.Name x np) "pop" apos) [] [] pos) pos') (.popS n) :=
  ⟨ps_con (ps_expr (pe_bm0 PySem.F.plainAttrs_list PySem.F.slot_list_pop PySem.F.type_list_pop (by exact mt_pop) (pe_var hN hv hd hcd) hbase hline) hsw) fun D σ H ⟨T, F, σe, g, fl, g', r, m, q⟩ => by
    unfold Pv.run at m
    obtain ⟨d0, g0, m0, m1⟩ := bind_eq_ok m
    obtain ⟨e0, e0'⟩ := slot_ok m0
    subst e0'
    obtain ⟨d2, g3, m6, m7⟩ := bind_eq_ok m1
    obtain ⟨m8, e8⟩ := lift_eq_ok m6
    subst e8
    cases m7
    cases d0 with
    | list xs =>
      simp only [popV] at m8
      split at m8
      · cases m8
      · rename_i hc
        cases m8
        obtain ⟨p, vs, q1, q2, q3⟩ := own_list r hn e0
        have ln := q3.length
        have ne : vs ≠ [] := fun z => by
          rw [z] at ln
          exact hc (by simpa using ln)
        have lt : vs.length - 1 < vs.length := by
          have := List.length_pos_iff.mpr ne
          omega
        have dl : RelL C.K F xs.dropLast vs.dropLast := by
          rw [List.dropLast_eq_take, List.dropLast_eq_take, ln]
          exact q3.take _
        exact ⟨.ref p, q1, .inl ⟨rfl, vs, SqL.of q2⟩, p, vs, vs[vs.length - 1], rfl, rfl, q2, List.getElem?_eq_getElem lt, q F _ _ (.refl F) (r.write hn e0 q1 ⟨_, upd_same, dl⟩)⟩
    | _ => simp [popV] at m8⟩
def rGetL (K : PySem.W.Frag) : V → V → Hp → VK → Prop := fun o i H Q => ∃ p xs j v, o = .ref p ∧ i = .int j ∧ SqL K H p xs ∧ L2.atI xs j = some v ∧ Q v H
theorem get_list : PGet X (rGetL X.K) := by
  intro pins s σ H x y v u Q I rx ry h
  obtain ⟨p, xs, i, z, rfl, rfl, hq, he, q⟩ := h
  cases rx
  obtain ⟨t, rfl⟩ := ry
  obtain ⟨its, r, pl, hz⟩ := I.list hq
  obtain ⟨j, h1, h2, h3, h4, h5⟩ := atI_get he
  obtain ⟨w, ew, rw'⟩ := r.get h2
  have hl := r.length
  have hn := line63
  have fin : EP X pins σ Q w s := ⟨z, H, I, rw', q⟩
  by_cases h0 : 0 ≤ i
  · have hj : i.toNat = j := by
      rw [seqIndex_of h0 h5] at h1
      exact Option.some.inj h1
    exact wpAny_getItem_list pl.isList h0 (by omega) (by rw [hj]; simpa using ew) fin
  · have hj : (i + (its.toArray.size : Int)).toNat = j := by
      rw [seqIndex_neg (by omega) h4] at h1
      rw [List.size_toArray, ← hl]
      exact Option.some.inj h1
    exact wpAny_getItem_list_neg pl.isList (by omega) (by rw [List.size_toArray] <;> omega) (by omega) (by rw [hj]; simpa using ew) fin
theorem Ss.augIx {k : Expr} {ik : Ex} (n : Nat) (o : Bop) (hK : X.K = C.K) (hn : n ∈ Ow) (hN : X.N[n]? = some x) (hv : Vis X.env.scope x) (hd : (x == ("__debug__" : Str)) = false) (hcd : (x == ("__classdict__" : Str)) = false) (hk : Eb X C Ow k ik) (h : Eb X C Ow e i)
    (ha : ∀ ov iv new, augStore k ov iv new = (do holding [new, ov, iv] (setItem ov iv new); release [new, ov, iv] []; pure .next)) :
    Ss X C W Ow Ow OwL (.AugAssign (.Subscript (.Name x np) k tpos) (bop o) e pos) (.augIx n o ik i) :=
  ⟨ps_con (ps_augS (pe_var hN hv hd hcd) hk.run get_list h.run (op_ip o) set_list ha) fun D σ H ⟨T, F, σe, g, fl, g', r, m, q⟩ => by
    unfold Pv.run at m
    obtain ⟨d0, g0, m0, m1⟩ := bind_eq_ok m
    obtain ⟨e0, e0'⟩ := slot_ok m0
    subst e0'
    obtain ⟨kv, g1, m2, m3⟩ := bind_eq_ok m1
    obtain ⟨old, g2, m4, m5⟩ := bind_eq_ok m3
    obtain ⟨m6, e6⟩ := lift_eq_ok m4
    subst e6
    obtain ⟨y, g3, m7, m8⟩ := bind_eq_ok m5
    obtain ⟨z, g4, m9, m10⟩ := bind_eq_ok m8
    obtain ⟨m11, e11⟩ := lift_eq_ok m9
    subst e11
    obtain ⟨d', g5, m12, m13⟩ := bind_eq_ok m10
    obtain ⟨m14, e14⟩ := lift_eq_ok m12
    subst e14
    cases m13
    cases d0 with
    | list xs =>
      cases kv with
      | int j =>
        obtain ⟨jj, e2, e3⟩ := map_some m14
        subst e3
        obtain ⟨p, vs, q1, q2, q3⟩ := own_list r hn e0
        refine ⟨.ref p, q1, T, F, σe, _, _, _, r, m2, fun F1 H1 kx s1 r1 b1 => ?_⟩
        have hz : kx = .int j := r1.sh b1
        subst hz
        obtain ⟨p', vs', z1, z2, z3⟩ := own_list r1 hn e0
        rw [q1] at z1
        cases z1
        obtain ⟨w, w1, w2⟩ := z3.atI m6
        refine ⟨p, vs', j, w, rfl, rfl, SqL.of z2, w1, T, F1, σe, _, y, _, r1, m7, fun F2 H2 yv s2 r2 b2 => ?_⟩
        refine ⟨old, y, z, F2, C.K, (w2.mono s2 _ _).sh r2.sub, r2.sh b2, m11, fun zv hz => ?_⟩
        obtain ⟨p2, vs2, x1, x2, x3⟩ := own_list r2 hn e0
        rw [q1] at x1
        cases x1
        exact ⟨p, vs2, j, jj, rfl, rfl, x2, by rw [← x3.length]; exact e2, q F2 _ _ (s1.trans s2) (r2.write hn e0 q1 ⟨_, upd_same, x3.set hz jj⟩)⟩
      | _ => simp [setIxV] at m14
    | _ => simp [setIxV] at m14⟩
end
end Pv
end

section
/-! PvOb: objects: attributes, methods, making; d[k] = e. -/
set_option autoImplicit false
namespace Pv
open PySem PySem.Spec PyProof.Rows L2

/-- what the top has made of the classes -/
structure ClsOk (K : PySem.W.Frag) (cl : List (Addr × List Str)) : Prop where
  cls : ∀ Cn ∈ cl, Cls K Cn.1
  att : ∀ Cn ∈ cl, ∀ f ∈ Cn.2, NoAttr K Cn.1 f
section
variable {K : PySem.W.Frag} {F : Fz} {H : Hp}
theorem val_fs (f : Str) : ∀ fs : List (Str × V), valV (fs.map fun p => ((.inr p.1, p.2) : Key × V)) (.inr f) = fs.lookup f
  | [] => rfl
  | (g, v) :: fs => by
    have ih := val_fs f fs
    unfold valV at ih ⊢
    rw [List.map_cons, List.find?_cons, List.lookup_cons]
    by_cases h : g = f
    · subst h; simp
    · rw [decide_eq_false (fun z => h (Sum.inr.inj z)), show (f == g) = false from by simpa using fun z => h z.symm]
      exact ih
theorem lookup_mem {f : Str} {v : V} : ∀ {fs : List (Str × V)}, fs.lookup f = some v → (f, v) ∈ fs
  | [], h => by cases h
  | (g, u) :: fs, h => by
    rw [List.lookup_cons] at h
    by_cases e : f == g
    · rw [e] at h
      cases h
      have := beq_iff_eq.mp e
      subst this
      exact List.mem_cons_self
    · rw [show (f == g) = false by simpa using e] at h
      exact List.mem_cons_of_mem _ (lookup_mem h)
theorem tok_no {n i : Int} {r : List (D × D)} : tokD n ≠ .dict ((.list [.int i], .none) :: r) := by
  intro z
  unfold tokD at z
  injection z with z
  injection z with z _
  injection z with z _
  injection z with z
  cases z
theorem sh_obj {i : Int} {r : List (D × D)} {y : V} (h : Sh K F H (.dict ((.list [.int i], .none) :: r)) y) : ∃ (c : Nat) (Cn : Addr × List Str) (p dx : Addr) (fs : List (Str × V)), i = c ∧ y = .ref p ∧ F.sc.2[c]? = some Cn ∧ H p = some (.ins Cn.1 dx fs) ∧ (∀ q ∈ fs, q.1 ∈ Cn.2) ∧ RelKV K F r (fs.map fun p => ((.inr p.1, p.2) : Key × V)) := by
  rcases h with ⟨_, a, rfl, ⟨n, z⟩ | ⟨c, r', Cn, dx, fs, z, z1, z2, z3, z4⟩ | ⟨_, _, z, _⟩⟩ | ⟨z, _⟩
  · exact (tok_no z).elim
  · injection z with z5 z6
    injection z5 with z5 _
    injection z5 with z5
    injection z5 with z5 _
    injection z5 with z5
    subst z6
    exact ⟨c, Cn, a, dx, fs, z5, rfl, z1, z2, z3, z4⟩
  · cases z
  · cases z
theorem fld_sh {d v : D} {f : Str} {y : V} (h : fldV d f = some v) (hs : Sh K F H d y) : ∃ (Cn : Addr × List Str) (p dx : Addr) (fs : List (Str × V)) (w : V), y = .ref p ∧ Cn ∈ F.sc.2 ∧ H p = some (.ins Cn.1 dx fs) ∧ f ∈ Cn.2 ∧ fs.lookup f = some w ∧ Rel K F v w := by
  unfold fldV at h
  split at h
  · obtain ⟨c, Cn, p, dx, fs, _, rfl, z1, z2, z3, z4⟩ := sh_obj hs
    obtain ⟨l1, l2⟩ := look_rel (k := .str f) (kx := .inr f) rfl z4
    obtain ⟨w, e1, e2⟩ := l1 v h
    rw [val_fs] at e1
    exact ⟨Cn, p, dx, fs, w, rfl, List.mem_of_getElem? z1, z2, z3 _ (lookup_mem e1), e1, e2⟩
  · cases h
theorem isOb_eq {c : Nat} {d : D} (h : isOb c d = true) : ∃ r, d = .dict ((.list [.int c], .none) :: r) := by
  unfold isOb at h
  split at h
  · rw [of_decide_eq_true h]; exact ⟨_, rfl⟩
  · cases h
theorem lookup_no {m : Str} {nm : List Str} {fs : List (Str × V)} (h : ∀ q ∈ fs, q.1 ∈ nm) (n : nm.contains m = false) : fs.lookup m = none := by
  cases e : fs.lookup m with
  | none => rfl
  | some v =>
    have := h _ (lookup_mem e)
    have : nm.contains m = true := by simpa using this
    rw [n] at this; cases this
theorem fput_rel {f : Str} {d : D} {v : V} (h : Rel K F d v) : ∀ {r : List (D × D)} {fs : List (Str × V)}, RelKV K F r (fs.map fun p => ((.inr p.1, p.2) : Key × V)) → RelKV K F (fPut f d r) ((L2.putF f v fs).map fun p => ((.inr p.1, p.2) : Key × V))
  | [], fs, q => by
    unfold RelKV at q
    have : fs = [] := List.map_eq_nil_iff.mp q
    subst this
    unfold fPut L2.putF RelKV
    exact ⟨.inr f, v, [], rfl, rfl, h, by unfold RelKV; rfl⟩
  | (k, d0) :: r, fs, q => by
    unfold RelKV at q
    obtain ⟨kv, w, kr, e, e1, e2, e3⟩ := q
    cases fs with
    | nil => cases e
    | cons p fs =>
      obtain ⟨g, u⟩ := p
      rw [List.map_cons] at e
      injection e with e4 e5
      injection e4 with e4 e6
      subst e4; subst e5; subst e6
      have ke : keq k (.str f) = decide (g = f) := by
        rw [keq_of e1 (kx := .inr f) rfl]
        by_cases z : g = f
        · subst z; simp
        · rw [decide_eq_false z, decide_eq_false fun y => z (Sum.inr.inj y)]
      unfold fPut L2.putF
      rw [ke]
      by_cases z : g = f
      · rw [decide_eq_true z, if_pos rfl, if_pos z, List.map_cons]
        unfold RelKV
        exact ⟨_, v, _, rfl, e1, h, e3⟩
      · rw [decide_eq_false z, if_neg Bool.false_ne_true, if_neg z, List.map_cons]
        unfold RelKV
        exact ⟨_, u, _, rfl, e1, e2, fput_rel h e3⟩
theorem putF_names {f : Str} {v : V} {nm : List Str} (hf : f ∈ nm) : ∀ {fs : List (Str × V)}, (∀ q ∈ fs, q.1 ∈ nm) → ∀ q ∈ L2.putF f v fs, q.1 ∈ nm
  | [], _, q, h => by
    unfold L2.putF at h
    rw [List.mem_singleton] at h
    subst h; exact hf
  | (g, u) :: fs, h0, q, h => by
    unfold L2.putF at h
    split at h
    · rcases List.mem_cons.mp h with rfl | h
      · exact h0 (g, u) List.mem_cons_self
      · exact h0 q (List.mem_cons_of_mem _ h)
    · rcases List.mem_cons.mp h with rfl | h
      · exact h0 _ List.mem_cons_self
      · exact putF_names hf (fun q z => h0 q (List.mem_cons_of_mem _ z)) q h
end
section
variable {X : Cx} {C : Ct} {W : WX} {Ow Ow' OwL : List Nat} {e a b c o : Expr} {es : List Expr} {i ia ib ic io : Ex} {is : Exs} {pos p apos np pos' : Pos} {x : Str} {n : Nat}
theorem Es.fld {f : Str} (hc : ClsOk X.K C.sc.2) (ha : Eb X C Ow a ia) (hb : attributeBase a f X.env (eval a X.env) = eval a X.env) : Es X C Ow (.Attribute a f pos) (.fld ia f) :=
  ⟨pe_con (pe_fld ha.run hb) fun σ H Q ⟨T, F, σe, g, v, g', r, m, q⟩ => by
    unfold ev at m
    obtain ⟨d, g1, m1, m2⟩ := bind_eq_ok m
    obtain ⟨m3, e3⟩ := lift_eq_ok m2
    subst e3
    refine ⟨T, F, σe, g, d, _, r, m1, fun F1 H1 y s1 r1 b1 => ?_⟩
    obtain ⟨Cn, p, dx, fs, w, rfl, z1, z2, z3, z4, z5⟩ := fld_sh m3 (r1.sh b1)
    rw [r1.sc] at z1
    exact ⟨p, Cn.1, dx, fs, w, rfl, z2, hc.cls Cn z1, hc.att Cn z1 f z3, z4, q F1 H1 w s1 r1 z5⟩⟩
variable {CX : CXT} {E : XK} {k : Nat} {f Ca : Addr} {nm : List Str} {fd : FuncData} {ps : List Str} {m : Str}
theorem Es.meth {pl : Sem Bool} (cn fi : Nat) (hc : C.sc.2[cn]? = some (Ca, nm)) (hm0 : nm.contains m = false) (hok : ClsOk X.K C.sc.2) (hm : Meth X.K Ca m f) (F : FnG X.prog X.w X.K X.mg X.base CX k f fd ps (spS C (C.Φ fi) ps.length)) (hG : X.A.guards = some []) (hr : Room k X.A) (hb : Binds X.K fd ps []) (hx : Passes CX X E)
    (ho : Es X C Ow o io) (ha : Ea X C Ow (e :: es) is) (hst : starEach (e :: es) X.env = (false, eval e X.env) :: starEach es X.env) (hpl : (backTo pos (starEach es X.env)).any (·.1) = false) (hl : is.len + 1 = ps.length)
    (ht : eval (.Call (.Attribute o m apos) (e :: es) [] pos) X.env = (do
      let ov ← eval o X.env
      standAt apos.atName
      let (f, first) ← holding [ov] (getMethod ov m pl)
      callWith pos f first (backTo pos (starEach (e :: es) X.env)) (backToKw pos (keywordEach [] X.env)))) :
    Es X C Ow (.Call (.Attribute o m apos) (e :: es) [] pos) (.meth cn fi io is) := by
  have hcl : Cls X.K Ca := hok.cls _ (List.mem_of_getElem? hc)
  refine ⟨⟨fun pins s σ H Q I h => ?_⟩⟩
  obtain ⟨T, F0, σe, g, v, g', r, m0, q⟩ := h
  unfold ev at m0
  obtain ⟨d, g1, m1, m2⟩ := bind_eq_ok m0
  split at m2
  · rename_i hob
    obtain ⟨ds, g2, m3, m4⟩ := bind_eq_ok m2
    obtain ⟨rr, ed⟩ := isOb_eq hob
    refine PySem.W.methodCall_KW (pl := pl) (thn (ho.run.run pins s σ H (fun x H1 => ∃ a dx fs, x = .ref a ∧ H1 a = some (.ins Ca dx fs) ∧ fs.lookup m = none ∧ tA C Ow (evs C.Φ is) σ H1 fun vs H2 => (V.ref a :: vs).length = ps.length ∧ spS C (C.Φ fi) ps.length (V.ref a :: vs) H2 Q E) I
      ⟨T, F0, σe, g, d, g1, r, m1, fun F1 H1 y s1 r1 q1 => ?_⟩) fun u s1 ⟨x, H1, I1, rx, a, dx, fs, ex, ea, l, q⟩ => ?_) ht
    · have q1' := q1
      rw [ed] at q1'
      obtain ⟨c', Cn, p, dx, fs, ec, rfl, z1, z2, z3, z4⟩ := sh_obj (q1'.sh r1.sub)
      have ec : cn = c' := by omega
      subst ec
      rw [r1.sc, hc] at z1
      cases z1
      refine ⟨p, dx, fs, rfl, z2, lookup_no z3 hm0, T, F1, σe, g1, ds, g2, r1, m3, fun F2 H2 xs s2 r2 q2 => ?_⟩
      have hn : (V.ref p :: xs).length = ps.length := by rw [List.length_cons, ← q2.length, evs_len _ _ _ _ _ _ m3, hl]
      exact ⟨hn, r2.call (.cons (q1.mono s2 _ _) q2) hn m4 fun F' H' x s3 r3 q3 => q F' H' x (s1.trans (s2.trans s3)) r3 q3⟩
    · subst ex
      obtain rfl : u = Value.ref a := rx
      refine getmeth_ok I1 ea hcl hm l ?_
      refine PySem.W.callWith_K (first := [.ref a]) (h₀ := X.base) I1.ok.mod.kin hm.kp (thn (ha.run.run pos pins s1 σ H1 _ I1 q) fun us s2 ⟨vs, H2, I2, rv, hn, hsp⟩ => ⟨I2.kIn, ?_⟩) hst hpl
      have rv2 : Vals (V.ref a :: vs) (Value.ref a :: us) := .cons rfl rv
      have hl2 : (Value.ref a :: us).length = ps.length := by rw [← rv2.length]; exact hn
      have bt := hb s2 (Value.ref a :: us) I2.kIn (by rw [List.append_nil]; exact hl2)
      rw [List.append_nil] at bt
      refine wpAny_call (codeAny_mono (run_fnG F hG hr (passAtOf hx) I2 bt rv2 hsp) fun r s' hq => ?_)
      cases r with
      | error e => exact hq
      | ok fl =>
        cases fl with
        | ret u => exact hq
        | next => exact False.elim hq
        | brk => exact False.elim hq
        | cont => exact False.elim hq
  · cases m2
theorem Es.meth0 {pl : Sem Bool} (cn fi : Nat) (hc : C.sc.2[cn]? = some (Ca, nm)) (hm0 : nm.contains m = false) (hok : ClsOk X.K C.sc.2) (hm : Meth X.K Ca m f) (F : FnG X.prog X.w X.K X.mg X.base CX k f fd ps (spS C (C.Φ fi) ps.length)) (hG : X.A.guards = some []) (hr : Room k X.A) (hb : Binds X.K fd ps []) (hx : Passes CX X E)
    (ho : Es X C Ow o io) (hl : 1 = ps.length)
    (ht : eval (.Call (.Attribute o m apos) [] [] pos) X.env = (do
      let ov ← eval o X.env
      standAt apos.atName
      let (f, first) ← holding [ov] (getMethod ov m pl)
      callWith pos f first (backTo pos (starEach [] X.env)) (backToKw pos (keywordEach [] X.env)))) :
    Es X C Ow (.Call (.Attribute o m apos) [] [] pos) (.meth cn fi io .nil) := by
  have hcl : Cls X.K Ca := hok.cls _ (List.mem_of_getElem? hc)
  refine ⟨⟨fun pins s σ H Q I h => ?_⟩⟩
  obtain ⟨T, F0, σe, g, v, g', r, m0, q⟩ := h
  unfold ev at m0
  obtain ⟨d, g1, m1, m2⟩ := bind_eq_ok m0
  split at m2
  · rename_i hob
    obtain ⟨ds, g2, m3, m4⟩ := bind_eq_ok m2
    unfold evs at m3
    cases m3
    obtain ⟨rr, ed⟩ := isOb_eq hob
    refine PySem.W.methodCall_KW (pl := pl) (thn (ho.run.run pins s σ H (fun x H1 => ∃ a dx fs, x = .ref a ∧ H1 a = some (.ins Ca dx fs) ∧ fs.lookup m = none ∧ spS C (C.Φ fi) ps.length [V.ref a] H1 Q E) I
      ⟨T, F0, σe, g, d, _, r, m1, fun F1 H1 y s1 r1 q1 => ?_⟩) fun u s1 ⟨x, H1, I1, rx, a, dx, fs, ex, ea, l, q⟩ => ?_) ht
    · have q1' := q1
      rw [ed] at q1'
      obtain ⟨c', Cn, p, dx, fs, ec, rfl, z1, z2, z3, z4⟩ := sh_obj (q1'.sh r1.sub)
      have ec : cn = c' := by omega
      subst ec
      rw [r1.sc, hc] at z1
      cases z1
      exact ⟨p, dx, fs, rfl, z2, lookup_no z3 hm0, r1.call (.cons q1 .nil) hl m4 fun F' H' x s3 r3 q3 => q F' H' x (s1.trans s3) r3 q3⟩
    · subst ex
      obtain rfl : u = Value.ref a := rx
      refine getmeth_ok I1 ea hcl hm l ?_
      refine PySem.W.callWith_K0 (first := [.ref a]) I1.kIn hm.kp ?_
      have rv2 : Vals [V.ref a] [Value.ref a] := .cons rfl .nil
      have bt := hb s1 [Value.ref a] I1.kIn hl
      rw [List.append_nil] at bt
      refine wpAny_call (codeAny_mono (run_fnG F hG hr (passAtOf hx) I1 bt rv2 q) fun r s' hq => ?_)
      cases r with
      | error e => exact hq
      | ok fl =>
        cases fl with
        | ret u => exact hq
        | next => exact False.elim hq
        | brk => exact False.elim hq
        | cont => exact False.elim hq
  · cases m2
/-- how the heap goes on in the making of an object at x -/
structure GoesI (C : Ct) (F : Fz) (H : Hp) (x : Addr) (g' : G) (F' : Fz) (H' : Hp) : Prop where
  fs : Fsub F F'
  sub : Same F'.h H'
  nw : ∀ a o, F'.h a = some o → F.h a = none → H a = none ∨ a = x
  kp : ∀ a o, H a = some o → a ≠ x → F'.isDk a ∨ H' a = some o
  dn : ∀ d l, F'.dk = some (d, l) → F.dk = some (d, l) ∨ (H d = none ∧ H l = none)
  dk : DkR C F' g' H'
/-- the promise of an __init__: self is new -/
def spI (C : Ct) (Φ : List D → G → Res D) (cn n : Nat) : Sp := fun vs H Q E => vs.length = n ∧ ∃ x dx us F ds g Cn, vs = .ref x :: us ∧ C.sc.2[cn]? = some Cn ∧ H x = some (.ins Cn.1 dx []) ∧ F.h x = none ∧ ¬ F.isDk x ∧ Same F.h H ∧ F.sc = C.sc ∧ DkR C F g H ∧ RelL C.K F ds us ∧
  ((∃ v g', Φ (objD cn [] :: ds) g = .ok v g' ∧ ∀ F' H', GoesI C F H x g' F' H' → Rel C.K F' v (.ref x) → Q .non H') ∨
   (∃ c ws g' st, g = some st ∧ Φ (objD cn [] :: ds) g = .exc c ws g' ∧ ∀ F' H' cls d, GoesI C F H x g' F' H' → XR C F' c ws cls d → E cls d H'))
theorem run_makeG {pins : List (Addr × Obj)} {σ : L2.St} {H : Hp} {s : Shared} {Q : VK} {us : List Value} {vs : List V} {sp : Sp} (M : Mk X.K Ca f) (F : FnG X.prog X.w X.K X.mg X.base CX k f fd ps sp) (hG : X.A.guards = some []) (hr : Room (k + 1) X.A) (hb : Binds X.K fd ps []) (hx : PassesAt CX X σ E) (I : Inv X pins σ H s) (r : Vals vs us)
    (h : ∀ x dx, H x = none → H dx = none → dx ≠ x → sp (.ref x :: vs) (upd (upd H dx (.own x)) x (.ins Ca dx [])) (fun v H2 => v = .non ∧ Q (.ref x) H2) E) :
    wpAny (model X.prog X.w) X.A (call (.ref Ca) us) (EP X pins σ Q) X.xe s := by
  have hq := h (s.heap.objs.size + 1) s.heap.objs.size (I.hok.fresh (Nat.le_succ _)) (I.hok.fresh (Nat.le_refl _)) (Nat.ne_of_lt (Nat.lt_succ_self _))
  have I2 := Inv.made (C := Ca) I
  have r2 : Vals (V.ref (s.heap.objs.size + 1) :: vs) (Value.ref (s.heap.objs.size + 1) :: us) := .cons rfl r
  have hl : (Value.ref (s.heap.objs.size + 1) :: us).length = ps.length := by
    have e := r2.length
    rw [F.len _ _ _ _ hq] at e
    exact e.symm
  have bt := hb _ (Value.ref (s.heap.objs.size + 1) :: us) I2.kIn (by rw [List.append_nil]; exact hl)
  rw [List.append_nil] at bt
  have hG2 : (X.A.under (.builtin "type.__call__" ⟨.ref Ca :: us, []⟩)).guards = some [] := by
    unfold Around.under
    first | rfl | (rw [hG]; rfl) | simp [hG]
  refine wpAny_call (make_map (f := f) I.kIn M.makes M.init (beq_iff_eq.mp M.fn) (codeAny_mono (F.run _ X.stack _ _ ⟨Value.ref (s.heap.objs.size + 1) :: us, []⟩ (Value.ref (s.heap.objs.size + 1) :: us) _ _ E hG2 (hr.make Ca us [])
    (I2.env0.make Ca us []) bt r2 hq) fun r s' hq' => ?_))
  cases r with
  | error e => exact hx pins _ _ e s' I2 hq'
  | ok fl =>
    cases fl with
    | ret u =>
      obtain ⟨v, H', I3, rv, ev, q3⟩ := I2.after hq'
      subst ev
      exact ⟨rv, ⟨V.ref (s.heap.objs.size + 1), H', I3, rfl, q3⟩⟩
    | next => exact False.elim hq'
    | brk => exact False.elim hq'
    | cont => exact False.elim hq'
theorem R.goesI {T : Hp} {F F' : Fz} {σe : Sl} {g g' : G} {σ : L2.St} {H H' : Hp} {x dx : Addr} {o : HO} (r : R C Ow T F σe g σ H) (hx : H x = none) (hdx : H dx = none) (ne : dx ≠ x) (h : GoesI C F (upd (upd H dx (.own x)) x o) x g' F' H') : R C Ow T F' σe g' σ H' := by
  have hx2 : (upd H dx (.own x)) x = none := (upd_ne (Ne.symm ne)).trans hx
  have s2 : Same H (upd (upd H dx (.own x)) x o) := (same_upd hdx).trans (same_upd hx2)
  refine r.step h.fs h.sub (fun a o z1 z2 => ?_) (fun a o z => ?_) (fun d l z => ?_) h.dk
  · rcases h.nw a o z1 z2 with w | w
    · cases e : H a with
      | none => rfl
      | some o' => rw [s2 _ _ e] at w; cases w
    · rw [w]; exact hx
  · exact h.kp a o (s2 _ _ z) fun w => by rw [w, hx] at z; cases z
  · rcases h.dn d l z with w | ⟨w1, w2⟩
    · exact .inl w
    · refine .inr ⟨?_, ?_⟩
      · cases e : H d with
        | none => rfl
        | some o' => rw [s2 _ _ e] at w1; cases w1
      · cases e : H l with
        | none => rfl
        | some o' => rw [s2 _ _ e] at w2; cases w2
theorem R.make {T : Hp} {F : Fz} {σe : Sl} {g : G} {σ : L2.St} {H : Hp} {us : List V} {ds : List D} {Q : VK} {cn : Nat} {x dx : Addr} (r : R C Ow T F σe g σ H) (h : RelL C.K F ds us) (hn : us.length + 1 = n) (hc : C.sc.2[cn]? = some (Ca, nm)) (hx : H x = none) (hdx : H dx = none) (ne : dx ≠ x) {fi : Nat}
    (q : (∃ v g', C.Φ fi (objD cn [] :: ds) g = .ok v g' ∧ ∀ F' H', Fsub F F' → R C Ow T F' σe g' σ H' → Rel C.K F' v (.ref x) → Q (.ref x) H') ∨
      (∃ c ws g' st, g = some st ∧ C.Φ fi (objD cn [] :: ds) g = .exc c ws g' ∧ ∀ F' H' cls d, Fsub F F' → R C Ow T F' σe g' σ H' → XR C F' c ws cls d → E cls d H')) :
    spI C (C.Φ fi) cn n (.ref x :: us) (upd (upd H dx (.own x)) x (.ins Ca dx [])) (fun v H2 => v = .non ∧ Q (.ref x) H2) E := by
  have hx2 : (upd H dx (.own x)) x = none := (upd_ne (Ne.symm ne)).trans hx
  have s2 : Same H (upd (upd H dx (.own x)) x (.ins Ca dx [])) := (same_upd hdx).trans (same_upd hx2)
  have dk2 : DkR C F g (upd (upd H dx (.own x)) x (.ins Ca dx [])) := (r.dk.put hdx).put hx2
  refine ⟨hn, x, dx, us, F, ds, g, (Ca, nm), rfl, hc, upd_same, r.fn hx, r.ndk hx, r.sub.trans s2, r.sc, dk2, h, ?_⟩
  rcases q with ⟨v, g', hf, q⟩ | ⟨c, ws, g', st, hg, hf, q⟩
  · exact .inl ⟨v, g', hf, fun F' H' z rl => ⟨rfl, q F' H' z.fs (r.goesI hx hdx ne z) rl⟩⟩
  · exact .inr ⟨c, ws, g', st, hg, hf, fun F' H' cls d z rl => q F' H' cls d z.fs (r.goesI hx hdx ne z) rl⟩
theorem Es.make (cn fi : Nat) (hc : C.sc.2[cn]? = some (Ca, nm)) (M : Mk X.K Ca f) (F : FnG X.prog X.w X.K X.mg X.base CX k f fd ps (spI C (C.Φ fi) cn ps.length)) (hG : X.A.guards = some []) (hr : Room (k + 1) X.A) (hg : Gl X x) (hm : X.mg x = some (.ref Ca)) (hb : Binds X.K fd ps []) (hx : Passes CX X E)
    (ha : Ea X C Ow (e :: es) is) (hdb : (x == ("__debug__" : Str)) = false) (he : starEach (e :: es) X.env = (false, eval e X.env) :: starEach es X.env) (hpl : (backTo pos (starEach es X.env)).any (·.1) = false) (hl : is.len + 1 = ps.length) :
    Es X C Ow (.Call (.Name x p) (e :: es) [] pos) (.mk cn fi is) := by
  refine ⟨⟨fun pins s σ H Q I h => ?_⟩⟩
  refine wpAny_Call_Name_kw (ld_glob I hg hm ?_ hdb)
  obtain ⟨T, F0, σe, g, v, g', r, m0, q⟩ := h
  unfold ev at m0
  obtain ⟨ds, g1, m1, m2⟩ := bind_eq_ok m0
  refine PySem.W.callWith_K (h₀ := X.base) I.ok.mod.kin M.kp (thn (ha.run.run pos pins s σ H (fun vs H1 => ∀ x dx, H1 x = none → H1 dx = none → dx ≠ x → spI C (C.Φ fi) cn ps.length (.ref x :: vs) (upd (upd H1 dx (.own x)) x (.ins Ca dx [])) (fun v H2 => v = .non ∧ Q (.ref x) H2) E) I
    ⟨T, F0, σe, g, ds, g1, r, m1, fun F1 H1 xs s1 r1 q1 x dx n1 n2 n3 => ?_⟩) fun us s1 ⟨vs, H1, I1, rv, hsp⟩ => ⟨I1.kIn, ?_⟩) he hpl
  · have hn : xs.length + 1 = ps.length := by rw [← q1.length, evs_len _ _ _ _ _ _ m1, hl]
    exact r1.make q1 hn hc n1 n2 n3 (.inl ⟨_, _, m2, fun F' H' s2 r2 q2 => q F' H' _ (s1.trans s2) r2 q2⟩)
  · exact run_makeG M F hG hr hb (passAtOf hx) I1 rv hsp
/-- self.f = e -/
theorem Ss.setF {fl : Str} (n cn : Nat) (hn : n ∈ Ow) (hN : X.N[n]? = some x) (hv : Vis X.env.scope x) (hd : (x == ("__debug__" : Str)) = false) (hcd : (x == ("__classdict__" : Str)) = false) (hc : C.sc.2[cn]? = some (Ca, nm)) (hf : nm.contains fl = true) (hok : ClsOk X.K C.sc.2) (h : Es X C Ow e i)
    (hs : swapsWith e (some (.Attribute (.Name x np) fl apos)) pos.line X.env = pure false) :
    Ss X C W Ow Ow OwL (.Assign [.Attribute (.Name x np) fl apos] e pos) (.setF n cn fl i) :=
  ⟨ps_con (ps_fld (pe_var hN hv hd hcd) h.run hs) fun D σ H ⟨T, F, σe, g, fw, g', r, m, q⟩ => by
    unfold Pv.run at m
    obtain ⟨v, g1, m1, m2⟩ := bind_eq_ok m
    obtain ⟨d0, g2, m3, m4⟩ := bind_eq_ok m2
    obtain ⟨e0, e0'⟩ := slot_ok m3
    subst e0'
    obtain ⟨d2, g4, m7, m8⟩ := bind_eq_ok m4
    obtain ⟨m9, e9⟩ := lift_eq_ok m7
    subst e9
    cases m8
    have hf : fl ∈ nm := by simpa using hf
    refine ⟨T, F, σe, g, v, _, r, m1, fun F1 H1 y s1 r1 h1 => ?_⟩
    unfold setFV at m9
    split at m9
    · rename_i ii rr
      split at m9
      · rename_i hcc
        simp only [Bool.and_eq_true, decide_eq_true_eq] at hcc
        cases m9
        obtain ⟨p, e1, o1, n0, n1, n2⟩ := r1.ow n _ e0 hn
        rcases o1 with ⟨z, _⟩ | ⟨c', r', Cn, dx, fs, z, z1, z2, z3, z4⟩ | ⟨_, _, z, _⟩
        · cases z
        · injection z with z5 z6
          injection z5 with z5 _
          injection z5 with z5
          injection z5 with z5 _
          injection z5 with z5
          subst z6
          have ec : cn = c' := by omega
          subst ec
          have z1' := z1
          rw [r1.sc, hc] at z1'
          cases z1'
          have hl : rr.length = fs.length := by rw [z4.length, List.length_map]
          refine ⟨.ref p, e1, p, Ca, dx, fs, rfl, z2, hok.cls _ (List.mem_of_getElem? hc), hok.att _ (List.mem_of_getElem? hc) fl hf, by omega, q F1 _ _ s1 (r1.write hn e0 e1 (.inr (.inl ⟨cn, _, (Ca, nm), dx, _, ?_, z1, upd_same, putF_names hf z3, fput_rel h1 z4⟩)))⟩
          rw [hcc.1]
        · cases z
      · cases m9
    · cases m9⟩
theorem dput_rel {F : Fz} {H : Hp} {kvs : List (D × D)} {k v d' : D} {p0 : Addr} {z w : V} (h : setKeyV (.dict kvs) k v = some d') (sub : Same F.h H) (hp : OwnAt C.K F H (.dict kvs) p0) (hz : Sh C.K F H k z) (hw : Rel C.K F v w) : ∃ o', DPut H p0 z w (upd H p0 o') ∧ OwnAt C.K F (upd H p0 o') d' p0 := by
  simp only [setKeyV] at h
  split at h
  · rename_i r e
    have := tdOf_some e
    subst this
    split at h
    · cases h
    · rename_i hc
      cases h
      have hk : ¬ ((keyT k).isNone = true) := fun z => hc (by rw [z]; rfl)
      obtain ⟨kl, ek⟩ := noneOf hk
      have hl : r.length < lineN := by
        rcases Nat.lt_or_ge r.length lineN with y | y
        · exact y
        · exact (hc (by rw [decide_eq_false (by omega), Bool.not_false, Bool.or_true])).elim
      obtain ⟨b, rfl, hb⟩ := keyT_rel sub ek hz
      rcases hp with ⟨y, _⟩ | ⟨_, _, _, _, _, y, _⟩ | ⟨r', kk, y, y2, y3⟩
      · cases y
      · cases y
      · cases y
        exact ⟨_, DPut.t y2 hb (by rw [← y3.length]; exact lineN_lt hl), .inr (.inr ⟨_, _, rfl, upd_same, putT_rel ek hw y3⟩)⟩
  · split at h
    · cases h
    · rename_i hc
      cases h
      have hd : isDeck kvs = false := by
        cases y : isDeck kvs with
        | false => rfl
        | true => rw [y] at hc; simp at hc
      have hk : ¬ ((keyD k).isNone = true) := fun z => hc (by rw [z]; simp)
      obtain ⟨kx, ek⟩ := noneOf hk
      have hl : kvs.length < lineN := by
        rcases Nat.lt_or_ge kvs.length lineN with y | y
        · exact y
        · exact (hc (by rw [decide_eq_false (by omega), Bool.not_false, Bool.or_true])).elim
      have := key_rel ek hz
      subst this
      rcases hp with ⟨y, kk, y2, y3⟩ | y | y
      · exact ⟨_, DPut.k y2 (by rw [← y3.length]; exact lineN_lt hl), .inl ⟨dPut_mark ek hd, _, upd_same, put_rel ek hw y3⟩⟩
      · rw [y.mark] at hd; cases hd
      · rw [y.mark] at hd; cases hd
/-- d[k] = e -/
theorem Ss.setKey {k : Expr} {ik : Ex} (n : Nat) (hn : n ∈ Ow) (hN : X.N[n]? = some x) (hv : Vis X.env.scope x) (hd : (x == ("__debug__" : Str)) = false) (hcd : (x == ("__classdict__" : Str)) = false) (hu : X.A.units + 1 < cLine) (h : Es X C Ow e i) (hk : Eb X C Ow k ik)
    (ha : ∀ v, assign (.Subscript (.Name x np) k apos) X.env v = (do
      let ov ← holding [v] (eval (.Name x np) X.env)
      let iv ← holding [v, ov] (eval k X.env)
      standAt apos
      holding [v, ov, iv] (setItem ov iv v)
      release [v, ov, iv] [])) (hs : swapsWithSole [.Subscript (.Name x np) k apos] e pos.line X.env = pure false) (hw : swappedStores [.Subscript (.Name x np) k apos] e X.env = pure none) (h1 : (assignEach [.Subscript (.Name x np) k apos] X.env).map (·.2) = [assign (.Subscript (.Name x np) k apos) X.env]) :
    Ss X C W Ow Ow OwL (.Assign [.Subscript (.Name x np) k apos] e pos) (.setKey n ik i) :=
  ⟨ps_con (ps_asg h.run (pg_sub (pe_var hN hv hd hcd) hk.run (set_dict hu) ha) hs hw h1) fun D σ H ⟨T, F, σe, g, fl, g', r, m, q⟩ => by
    unfold Pv.run at m
    obtain ⟨v, g1, m1, m2⟩ := bind_eq_ok m
    obtain ⟨d0, g2, m3, m4⟩ := bind_eq_ok m2
    obtain ⟨e0, e0'⟩ := slot_ok m3
    subst e0'
    obtain ⟨kv, g3, m5, m6⟩ := bind_eq_ok m4
    obtain ⟨d2, g4, m7, m8⟩ := bind_eq_ok m6
    obtain ⟨m9, e9⟩ := lift_eq_ok m7
    subst e9
    cases m8
    cases d0 with
    | dict kvs =>
      refine ⟨T, F, σe, g, v, _, r, m1, fun F1 H1 y s1 r1 h1 => ?_⟩
      obtain ⟨p, e1, _⟩ := r1.ow n _ e0 hn
      refine ⟨.ref p, e1, T, F1, σe, _, _, _, r1, m5, fun F2 H2 z s2 r2 b2 => ?_⟩
      obtain ⟨p', e2, o2, _⟩ := r2.ow n _ e0 hn
      rw [e1] at e2
      cases e2
      obtain ⟨o', w1, w2⟩ := dput_rel m9 r2.sub o2 (r2.sh b2) (h1.mono s2 _ _)
      exact ⟨p, _, rfl, w1, q F2 _ _ (s1.trans s2) (r2.write hn e0 e1 w2)⟩
    | _ => simp [setKeyV] at m9⟩
theorem RelL.eraseIdx {K : PySem.W.Frag} {F : Fz} : ∀ {ds : List D} {vs : List V} (n : Nat), RelL K F ds vs → RelL K F (ds.eraseIdx n) (vs.eraseIdx n)
  | [], vs, n, h => by rw [h.inv0]; simpa using (RelL.nil : RelL K F [] [])
  | d :: ds, vs, 0, h => by
    obtain ⟨v, vr, rfl, h1, h2⟩ := h.inv
    exact h2
  | d :: ds, vs, n + 1, h => by
    obtain ⟨v, vr, rfl, h1, h2⟩ := h.inv
    exact .cons h1 (h2.eraseIdx n)
/-- y = xs.pop() -/
theorem Ss.popX {y : Str} {py spos : Pos} (j n : Nat) (hn : n ∈ Ow) (hj : j ∉ Ow) (hN : X.N[n]? = some x) (hv : Vis X.env.scope x) (hd : (x == ("__debug__" : Str)) = false) (hcd : (x == ("__classdict__" : Str)) = false)
    (hbase : attributeBase (.Name x np) "pop" X.env (eval (.Name x np) X.env) = eval (.Name x np) X.env) (hline : (apos.endLine == pos.line) = true)
    (hND : X.N.Nodup) (hi : X.N[j]? = some y) (hx : Loc X.env.scope y) (hs : swapsWith (.Call (.Attribute (.Name x np) "pop" apos) [] [] pos) (some (.Name y py)) spos.line X.env = pure false) (hf : X.fn y = true ∨ X.env.scope.names.lookup y = some .local) :
    Ss X C W Ow Ow OwL (.Assign [.Name y py] (.Call (.Attribute (.Name x np) "pop" apos) [] [] pos) spos) (.popX j n) :=
  ⟨ps_con (ps_set hND hi hx (pe_bm0 PySem.F.plainAttrs_list PySem.F.slot_list_pop PySem.F.type_list_pop (by exact mt_pop) (pe_var hN hv hd hcd) hbase hline) hs hf) fun D σ H ⟨T, F, σe, g, fl, g', r, m, q⟩ => by
    unfold Pv.run at m
    obtain ⟨d0, g0, m0, m1⟩ := bind_eq_ok m
    obtain ⟨e0, e0'⟩ := slot_ok m0
    subst e0'
    obtain ⟨d2, g3, m6, m7⟩ := bind_eq_ok m1
    obtain ⟨m8, e8⟩ := lift_eq_ok m6
    subst e8
    cases m7
    cases d0 with
    | list xs =>
      obtain ⟨v, e1, e2⟩ := Option.map_eq_some_iff.mp (show xs.getLast?.map _ = some d2 from m8)
      subst e2
      obtain ⟨p, vs, q1, q2, q3⟩ := own_list r hn e0
      have ln := q3.length
      rw [List.getLast?_eq_getElem?] at e1
      obtain ⟨w, e3, e4⟩ := q3.get e1
      have dl : RelL C.K F xs.dropLast vs.dropLast := by
        rw [List.dropLast_eq_take, List.dropLast_eq_take, ln]
        exact q3.take _
      exact ⟨.ref p, q1, .inl ⟨rfl, vs, SqL.of q2⟩, p, vs, w, rfl, rfl, q2, by rw [← ln]; exact e3, q F _ _ (.refl F) ((R.write (v' := .list xs.dropLast) r hn e0 q1 ⟨_, upd_same, dl⟩).setS hj e4)⟩
    | _ => simp [popD] at m8⟩
/-- y = xs.pop(e) -/
theorem Ss.popI {y : Str} {py spos : Pos} (j n : Nat) (hn : n ∈ Ow) (hj : j ∉ Ow) (hN : X.N[n]? = some x) (hv : Vis X.env.scope x) (hd : (x == ("__debug__" : Str)) = false) (hcd : (x == ("__classdict__" : Str)) = false) (h : Es X C Ow e i)
    (hbase : attributeBase (.Name x np) "pop" X.env (eval (.Name x np) X.env) = eval (.Name x np) X.env)
    (hfew : ((backTo pos (starEach [e] X.env)).all (fun x => !x.1) && (backToKw pos (keywordEach [] X.env)).all (fun x => x.1.isSome) && decide (([e] : List Expr).length + ([] : List Keyword).length + (if ([] : List Keyword).isEmpty then 0 else 1) < 30)) = true)
    (hline : (apos.endLine == pos.line) = true) (hst : starEach [e] X.env = (false, eval e X.env) :: starEach [] X.env) (hpl : (backTo pos (starEach [] X.env)).any (·.1) = false)
    (hND : X.N.Nodup) (hi : X.N[j]? = some y) (hx : Loc X.env.scope y) (hs : swapsWith (.Call (.Attribute (.Name x np) "pop" apos) [e] [] pos) (some (.Name y py)) spos.line X.env = pure false) (hf : X.fn y = true ∨ X.env.scope.names.lookup y = some .local) :
    Ss X C W Ow Ow OwL (.Assign [.Name y py] (.Call (.Attribute (.Name x np) "pop" apos) [e] [] pos) spos) (.popI j n i) :=
  ⟨ps_con (ps_set hND hi hx (pe_bm PySem.F.plainAttrs_list PySem.F.slot_list_pop PySem.F.type_list_pop (by exact mt_popAt) (pe_var hN hv hd hcd) (pa_cons h.run pa_nil hst) hbase hfew hline hst hpl) hs hf) fun D σ H ⟨T, F, σe, g, fl, g', r, m, q⟩ => by
    unfold Pv.run at m
    obtain ⟨d0, g0, m0, m1⟩ := bind_eq_ok m
    obtain ⟨e0, e0'⟩ := slot_ok m0
    subst e0'
    obtain ⟨kv, g1, m2, m3⟩ := bind_eq_ok m1
    obtain ⟨d1, g2, m4, m5⟩ := bind_eq_ok m3
    obtain ⟨e1, e1'⟩ := slot_ok m4
    subst e1'
    obtain ⟨d2, g3, m6, m7⟩ := bind_eq_ok m5
    obtain ⟨m8, e8⟩ := lift_eq_ok m6
    subst e8
    cases m7
    rw [e0] at e1
    have e1 : d0 = d1 := Option.some.inj (Option.some.inj e1)
    subst e1
    cases d0 with
    | list xs =>
      cases kv with
      | int ii =>
        simp only [popAtD] at m8
        split at m8
        · rename_i hc
          simp only [Bool.and_eq_true, decide_eq_true_eq] at hc
          obtain ⟨v, e2, e3⟩ := Option.map_eq_some_iff.mp m8
          subst e3
          obtain ⟨p, vs, q1, q2, q3⟩ := own_list r hn e0
          refine ⟨.ref p, q1, .inl ⟨rfl, vs, SqL.of q2⟩, T, F, σe, _, _, _, r, m2, fun F1 H1 z s1 r1 h1 => ?_⟩
          have hz : z = .int ii := by unfold Rel at h1; exact h1
          subst hz
          obtain ⟨p', vs', z1, z2, z3⟩ := own_list r1 hn e0
          rw [q1] at z1
          cases z1
          obtain ⟨w, e4, e5⟩ := z3.get e2
          have lt := (List.getElem?_eq_some_iff.mp e2).1
          have ln := z3.length
          have l2 := hc.2
          unfold lineN at l2
          refine ⟨p, vs', ii, ii.toNat, w, rfl, rfl, z2, by omega, by omega, ?_, e4, q F1 _ _ s1 ((R.write (v' := .list (xs.eraseIdx ii.toNat)) r1 hn e0 q1 ⟨_, upd_same, z3.eraseIdx _⟩).setS hj e5)⟩
          exact seqIndex_of hc.1 (by omega)
        · cases m8
      | _ => simp [popAtD] at m8
    | _ => simp [popAtD] at m8⟩
/-- xs.extend(e) -/
theorem Ss.ext (n : Nat) (hn : n ∈ Ow) (hN : X.N[n]? = some x) (hv : Vis X.env.scope x) (hd : (x == ("__debug__" : Str)) = false) (hcd : (x == ("__classdict__" : Str)) = false) (h : Es X C Ow e i)
    (hbase : attributeBase (.Name x np) "extend" X.env (eval (.Name x np) X.env) = eval (.Name x np) X.env)
    (hfew : ((backTo pos (starEach [e] X.env)).all (fun x => !x.1) && (backToKw pos (keywordEach [] X.env)).all (fun x => x.1.isSome) && decide (([e] : List Expr).length + ([] : List Keyword).length + (if ([] : List Keyword).isEmpty then 0 else 1) < 30)) = true)
    (hline : (apos.endLine == pos.line) = true) (hs : starEach [e] X.env = (false, eval e X.env) :: starEach [] X.env) (hpl : (backTo pos (starEach [] X.env)).any (·.1) = false) (hsw : swapsWith (.Call (.Attribute (.Name x np) "extend" apos) [e] [] pos) none pos'.line X.env = pure false) :
    Ss X C W Ow Ow OwL (.Expr (.Call (.Attribute (.Name x np) "extend" apos) [e] [] pos) pos') (.ext n i) :=
  ⟨ps_con (ps_expr (pe_bm PySem.F.plainAttrs_list PySem.F.slot_list_extend PySem.F.type_list_extend (by exact mt_extend) (pe_var hN hv hd hcd) (pa_cons h.run pa_nil hs) hbase hfew hline hs hpl) hsw) fun D σ H ⟨T, F, σe, g, fl, g', r, m, q⟩ => by
    unfold Pv.run at m
    obtain ⟨d0, g0, m0, m1⟩ := bind_eq_ok m
    obtain ⟨e0, e0'⟩ := slot_ok m0
    subst e0'
    obtain ⟨v, g1, m2, m3⟩ := bind_eq_ok m1
    obtain ⟨d1, g2, m4, m5⟩ := bind_eq_ok m3
    obtain ⟨e1, e1'⟩ := slot_ok m4
    subst e1'
    obtain ⟨d2, g3, m6, m7⟩ := bind_eq_ok m5
    obtain ⟨m8, e8⟩ := lift_eq_ok m6
    subst e8
    cases m7
    rw [e0] at e1
    have e1 : d0 = d1 := Option.some.inj (Option.some.inj e1)
    subst e1
    cases d0 with
    | list xs =>
      cases v with
      | list ys =>
        simp only [extV] at m8
        split at m8
        · rename_i hc
          cases m8
          obtain ⟨p, vs, q1, q2, q3⟩ := own_list r hn e0
          refine ⟨.ref p, q1, .inl ⟨rfl, vs, SqL.of q2⟩, T, F, σe, _, _, _, r, m2, fun F1 H1 z s1 r1 h1 => ?_⟩
          obtain ⟨p', vs', z1, z2, z3⟩ := own_list r1 hn e0
          rw [q1] at z1
          cases z1
          unfold Rel at h1
          obtain ⟨b, ws, rfl, w1, w2⟩ := h1
          refine ⟨p, b, vs', ws, rfl, rfl, z2, r1.sub _ _ w1, ?_, q F1 _ _ s1 (r1.write hn e0 q1 ⟨_, upd_same, z3.append w2⟩)⟩
          rw [← z3.length, ← w2.length]
          exact lineN_le (of_decide_eq_true hc)
        · cases m8
      | _ => simp [extV] at m8
    | _ => simp [extV] at m8⟩
end
/-! ### an __init__ -/
section
variable {P : Program} {w : World} {K : PySem.W.Frag} {mg : Str → Option Value} {base : Heap} {x qual : Str} {st : Stmt} {f : Addr} {fd : FuncData} {N ps : List Str} {k : Nat}
def eraseH (x : Addr) (H : Hp) : Hp := fun b => if b = x then none else H b
theorem R.startI {C : Ct} {F : Fz} {ds : List D} {g : G} {H : Hp} {us : List V} {cn : Nat} {x dx : Addr} {Cn : Addr × List Str} (hH : C.H0 = eraseH x H) (hF : C.F0 = F) (hS : C.slf = some (0, x)) (hX : C.xf = none) (sub : Same F.h H) (sc : F.sc = C.sc) (dk : DkR C F g H) (h : RelL C.K F ds us) (hn : us.length + 1 ≤ N.length)
    (hc : C.sc.2[cn]? = some Cn) (hx : H x = some (.ins Cn.1 dx [])) (nf : F.h x = none) (nd : ¬ F.isDk x) :
    R C [0] (fun _ => none) F ((objD cn [] :: ds).map some ++ List.replicate (N.length - (ds.length + 1)) none) g (L2.start N (.ref x :: us)) H := by
  have hl := h.length
  have er : C.H0 x = none := by rw [hH]; unfold eraseH; rw [if_pos rfl]
  refine ⟨sub, sc, by rw [hF]; exact .refl _, (fun a o e n => by rw [hF, e] at n; cases n), fun a o e => .inr ?_, fun d l e => .inl (by rw [hF]; exact e), ?_, fun i v e n => ?_, fun i v e n => ?_, fun i j a hi hj => ?_, dk, (fun a o e => by cases e), (fun i a e _ => by rw [hS] at e; cases e; rfl), (fun dd f v z => by rw [hX] at z; cases z)⟩
  · rw [hH] at e
    unfold eraseH at e
    split at e
    · cases e
    · exact e
  · rw [start_len (by rw [List.length_cons]; omega), List.length_append, List.length_map, List.length_replicate, List.length_cons]; omega
  · cases i with
    | zero => exact (n (List.mem_singleton.mpr rfl)).elim
    | succ i =>
      have hi : i < ds.length := by
        by_cases hi : i < ds.length
        · exact hi
        · rw [List.getElem?_append_right (by rw [List.length_map, List.length_cons]; omega), List.getElem?_replicate] at e
          split at e <;> cases e
      rw [List.getElem?_append_left (by rw [List.length_map, List.length_cons]; omega), List.getElem?_map, List.getElem?_cons_succ] at e
      cases q : ds[i]? with
      | none => rw [q] at e; cases e
      | some d =>
        rw [q] at e
        cases e
        obtain ⟨u, e1, e2⟩ := h.get q
        refine ⟨u, ?_, e2⟩
        unfold L2.start
        rw [List.getElem?_append_left (by rw [List.length_map, List.length_cons]; rw [← hl]; omega), List.getElem?_map, List.getElem?_cons_succ, e1]
        rfl
  · have := List.mem_singleton.mp n
    subst this
    have e : (some (some (objD cn [])) : Option (Option D)) = some (some v) := e
    cases e
    exact ⟨x, rfl, .inr (.inl ⟨cn, [], Cn, dx, [], rfl, by rw [sc]; exact hc, hx, (fun q hq => nomatch hq), by unfold RelKV; rfl⟩), er, nf, nd⟩
  · have h1 := List.mem_singleton.mp hi
    have h2 := List.mem_singleton.mp hj
    subst h1; subst h2
    exact fun _ _ _ _ => rfl
theorem run_noRet (Φ : Fns) (fu : Nat) : ∀ (m : Sm) (σ : Sl) (g g' : G) (v : D), noRet m = true → Pv.run Φ fu m σ g = .ok (.rt v) g' → False := by
  have forN : ∀ (f : D → Sl → G → Res Fl), (∀ x σ g g' v, f x σ g = .ok (.rt v) g' → False) → ∀ (xs : List D) σ g g' v, forL f xs σ g = .ok (.rt v) g' → False := by
    intro f hf xs
    induction xs with
    | nil => intro σ g g' v h; cases h
    | cons x xs ih =>
      intro σ g g' v h
      obtain ⟨fl, g1, h1, h2⟩ := bind_eq_ok (show (f x σ g).bind _ = _ from h)
      cases fl with
      | nx σ1 => exact ih _ _ _ _ h2
      | ct σ1 => exact ih _ _ _ _ h2
      | bk σ1 => cases h2
      | rt v1 => exact hf _ _ _ _ _ h1
      | ex σ1 c vs => cases h2
  have whN : ∀ (c : Sl → G → Res D) (b : Sl → G → Res Fl), (∀ σ g g' v, b σ g = .ok (.rt v) g' → False) → ∀ (n : Nat) σ g g' v, whileL c b n σ g = .ok (.rt v) g' → False := by
    intro c b hb n
    induction n with
    | zero => intro σ g g' v h; cases h
    | succ n ih =>
      intro σ g g' v h
      obtain ⟨cv, g1, h1, h2⟩ := bind_eq_ok (show (c σ g).bind _ = _ from h)
      cases cv with
      | bool k =>
        cases k with
        | false => cases h2
        | true =>
          obtain ⟨fl, g2, h3, h4⟩ := bind_eq_ok (show (b σ g1).bind _ = _ from h2)
          cases fl with
          | nx σ1 => exact ih _ _ _ _ h4
          | ct σ1 => exact ih _ _ _ _ h4
          | bk σ1 => cases h4
          | rt v1 => exact hb _ _ _ _ h3
          | ex σ1 c vs => cases h4
      | _ => cases h2
  intro m
  induction m with
  | ret e => intro σ g g' v n h; cases n
  | seq a b iha ihb =>
    intro σ g g' v n h
    unfold noRet at n
    rw [Bool.and_eq_true] at n
    unfold Pv.run at h
    obtain ⟨fl, g1, h1, h2⟩ := bind_eq_ok h
    cases fl with
    | nx σ1 => exact ihb _ _ _ _ n.2 h2
    | rt v1 => exact iha _ _ _ _ n.1 h1
    | bk σ1 => cases h2
    | ct σ1 => cases h2
    | ex σ1 c vs => cases h2
  | ite t a b iha ihb =>
    intro σ g g' v n h
    unfold noRet at n
    rw [Bool.and_eq_true] at n
    unfold Pv.run at h
    obtain ⟨x, g1, h1, h2⟩ := bind_eq_ok h
    cases x with
    | bool k => cases k with
      | true => exact iha _ _ _ _ n.1 h2
      | false => exact ihb _ _ _ _ n.2 h2
    | _ => cases h2
  | forr t k as b ih =>
    intro σ g g' v n h
    unfold noRet at n
    unfold Pv.run at h
    obtain ⟨vs, g1, h1, h2⟩ := bind_eq_ok h
    obtain ⟨xs, g2, h3, h4⟩ := bind_eq_ok h2
    refine forN _ (fun x σ g g' v hh => ?_) _ _ _ _ _ h4
    obtain ⟨σ1, g3, h5, h6⟩ := bind_eq_ok hh
    exact ih _ _ _ _ n h6
  | whil t b ih =>
    intro σ g g' v n h
    unfold noRet at n
    unfold Pv.run at h
    exact whN _ _ (fun σ g g' v hh => ih _ _ _ _ n hh) _ _ _ _ _ h
  | callX k f as p => intro σ g g' v n h; cases n
  | methX k c f o as => intro σ g g' v n h; cases n
  | mkX k c f as => intro σ g g' v n h; cases n
  | try_ b sel h i ihb ihh => intro σ g g' v n h; cases n
  | grp t n x k as ik ie => intro σ g g' v n h; cases n
  | _ =>
    intro σ g g' v n h
    unfold Pv.run at h
    repeat' first
      | (cases h; done)
      | (obtain ⟨_, _, _, h⟩ := bind_eq_ok h)
      | (split at h)
theorem initOk {C0 : Ct} (F : Fun K x qual st f fd) (S : FnScope N ps (defScope st)) (hK : C0.K = K) (fi cn : Nat) (m : Sm) (T : List Fn) (pr : Prims) (d : Nat) (hpr : pr fi = none) (hT : T[fi]? = some ⟨ps.length, N.length, .seq m (.ret (.var 0))⟩) (hps : ps.length ≤ N.length) (hm : noRet m = true)
    (body : ∀ (cdv : Value) (A : Around) (outer : List Env) (s : Shared) (H H' : Hp) (F0 : Fz) (x0 : Addr) (E : XK), A.guards = some [] → Room k (A.deeper (envOfC qual (defScope st) s.heap.objs.size f cdv)) →
      Sb (cxOf (L2.CX P w) P w K mg base N qual (defScope st) f cdv A outer s H E) { C0 with H0 := H', F0 := F0, Φ := FT T pr d, fu := fuel, slf := some (0, x0), xf := none } (fun cls d _ H' => E cls d H') [0] [0] [] (defBody st) m) :
    FnG P w K mg base (L2.CX P w) (k + 1) f fd ps (spI C0 (FT T pr (d + 1) fi) cn ps.length) := by
  refine funOk F S (fun vs H Q E h => h.1) fun cdv A outer s H vs Q E hg hr hsp => ?_
  obtain ⟨hn, x0, dx, us, F0, ds, g, Cn, rfl, hc, hx, nf, nd, sub, sc, dk, rl, hout⟩ := hsp
  have hb := body cdv A outer s H (eraseH x0 H) F0 x0 E hg hr
  refine ⟨_, (show PSs (cxOf (L2.CX P w) P w K mg base N qual (defScope st) f cdv A outer s H E) _ _ from hb.run), ?_⟩
  have hl2 : ds.length + 1 = ps.length := by
    have := rl.length
    rw [List.length_cons] at hn
    omega
  have r := R.startI (C := { C0 with H0 := eraseH x0 H, F0 := F0, Φ := FT T pr d, fu := fuel, slf := some (0, x0), xf := none }) (N := N) (us := us) (cn := cn) (x := x0) (dx := dx) (Cn := Cn) rfl rfl rfl rfl sub sc (show DkR _ F0 g H from dk) rl (by
    have := rl.length
    omega) hc hx nf nd
  rw [hl2] at r
  have hFT : FT T pr (d + 1) fi (objD cn [] :: ds) g = fin (Pv.run (FT T pr d) fuel (.seq m (.ret (.var 0))) ((objD cn [] :: ds).map some ++ List.replicate (N.length - ps.length) none) g) := by
    conv => lhs; unfold FT
    rw [hpr]
    simp only [hT]
    exact if_pos hl2
  rcases hout with ⟨v, g', hev, q⟩ | ⟨c, ws, g', st0, hg0, hev, q⟩
  · rw [hFT] at hev
    cases hr0 : Pv.run (FT T pr d) fuel (.seq m (.ret (.var 0))) ((objD cn [] :: ds).map some ++ List.replicate (N.length - ps.length) none) g with
    | no => rw [hr0] at hev; cases hev
    | exc c vs g1 => rw [hr0] at hev; cases hev
    | ok fl g1 =>
      rw [hr0] at hev
      unfold Pv.run at hr0
      obtain ⟨fl1, g2, h1, h2⟩ := bind_eq_ok hr0
      cases fl1 with
      | nx σe' =>
        unfold Pv.run at h2
        obtain ⟨v2, g3, h3, h4⟩ := bind_eq_ok h2
        cases h4
        cases hev
        unfold ev at h3
        have e0 : σe'[0]? = some (some v) ∧ g2 = g' := by
          split at h3
          · rename_i y
            cases h3
            exact ⟨y, rfl⟩
          · cases h3
        obtain ⟨e0, rfl⟩ := e0
        refine ⟨fun _ => none, F0, _, g, .nx σe', g2, r, h1, fun F' σ' H' s1 r1 => ?_⟩
        obtain ⟨p, e1, o1, n0, n1, n2⟩ := r1.ow 0 v e0 (List.mem_singleton.mpr rfl)
        have hpx : p = x0 := by
          have z := r1.slf 0 x0 rfl (List.mem_singleton.mpr rfl)
          rw [e1] at z
          cases z; rfl
        subst hpx
        obtain ⟨F2, s2, r2⟩ := R.drop (i := 0) (Ow := []) r1 List.not_mem_nil
        have rv : Rel C0.K F2 v (.ref p) := by
          obtain ⟨y, z1, z2⟩ := r2.fz 0 v e0 List.not_mem_nil
          rw [e1] at z1
          cases z1
          exact z2
        refine q F2 H' ⟨s1.trans s2, r2.sub, fun a o z1 z2 => ?_, fun a o z1 z2 => ?_, fun d l z => ?_, r2.dk⟩ rv
        · have := r2.new a o z1 z2
          have this : eraseH p H a = none := this
          unfold eraseH at this
          split at this
          · rename_i y; exact .inr y
          · exact .inl this
        · exact r2.keep a o (show eraseH p H a = some o by unfold eraseH; rw [if_neg z2]; exact z1)
        · have hd2 : F'.dk = some (d, l) := by
            cases y : F'.dk with
            | none =>
              have := r1.dk
              cases g2 with
              | none =>
                have w : F2.dk = none := r2.dk
                rw [w] at z; cases z
              | some st =>
                obtain ⟨d', l', w, _⟩ := this
                rw [y] at w; cases w
            | some dl =>
              have := s2.dk dl y
              rw [z] at this; cases this; rfl
          rcases r2.dnew d l z with w | ⟨w1, w2⟩
          · exact .inl w
          · have nd' : ∀ b, (b = d ∨ b = l) → b ≠ p := fun b hb y => n2 ⟨d, l, hd2, y ▸ hb⟩
            refine .inr ⟨?_, ?_⟩
            · have w1 : eraseH p H d = none := w1
              unfold eraseH at w1
              rwa [if_neg (nd' d (.inl rfl))] at w1
            · have w2 : eraseH p H l = none := w2
              unfold eraseH at w2
              rwa [if_neg (nd' l (.inr rfl))] at w2
      | rt v1 => exact (run_noRet _ _ _ _ _ _ _ hm h1).elim
      | bk σ1 => cases h2; cases hev
      | ct σ1 => cases h2; cases hev
      | ex σ1 c vs => cases h2; cases hev
  · rw [hFT] at hev
    cases hr0 : Pv.run (FT T pr d) fuel (.seq m (.ret (.var 0))) ((objD cn [] :: ds).map some ++ List.replicate (N.length - ps.length) none) g with
    | no => rw [hr0] at hev; cases hev
    | exc c vs g1 => rw [hr0] at hev; cases hev
    | ok fl g1 =>
      rw [hr0] at hev
      unfold Pv.run at hr0
      obtain ⟨fl1, g2, h1, h2⟩ := bind_eq_ok hr0
      cases fl1 with
      | nx σe' =>
        unfold Pv.run at h2
        obtain ⟨v2, g3, h3, h4⟩ := bind_eq_ok h2
        cases h4
        cases hev
      | rt v1 => exact (run_noRet _ _ _ _ _ _ _ hm h1).elim
      | bk σ1 => cases h2; cases hev
      | ct σ1 => cases h2; cases hev
      | ex σ1 c2 vs =>
        cases h2
        cases hev
        refine ⟨fun _ => none, F0, _, g, .ex σ1 c ws, _, r, h1, fun F' Ow2 σ' H' cls d s1 r1 xr => ?_⟩
        refine q F' H' cls d ⟨s1, r1.sub, fun a o z1 z2 => ?_, fun a o z1 z2 => ?_, fun d l z => ?_, r1.dk⟩ xr
        · have := r1.new a o z1 z2
          have this : eraseH x0 H a = none := this
          unfold eraseH at this
          split at this
          · rename_i y; exact .inr y
          · exact .inl this
        · exact r1.keep a o (show eraseH x0 H a = some o by unfold eraseH; rw [if_neg z2]; exact z1)
        · subst hg0
          obtain ⟨d0, l0, w, _⟩ := dk
          have := s1.dk _ w
          rw [z] at this
          cases this
          exact .inl w
end
end Pv
end

section
/-! PvXc: own exceptions over Exception: made, raised, passed on. -/
set_option autoImplicit false
namespace Pv
open PySem PySem.Spec PyProof.Rows L2 PySem.W PySem.Calls PySem.HandSPX

abbrev bmE : List Value := [.type "Exception", .type "BaseException", .type "object"]
/-! ### the text of an __init__ that keeps one value -/
def iA (f : Str) (p1 p2 : Pos) : Arguments := { posonlyargs := [], args := [{ arg := "self", annotation := none, pos := p1 }, { arg := f, annotation := none, pos := p2 }], vararg := none, kwonlyargs := [], kw_defaults := [], kwarg := none, defaults := [] }
def iB (f : Str) (q1 q2 q3 q4 : Pos) : List Stmt := [.Assign [.Attribute (.Name "self" q1) f q2] (.Name f q3) q4]
def iS (f : Str) : Scope := { kind := .function, names := [(PySem.Str.ofString "self", .local), (f, .local)], isGenerator := false, isCoroutine := false, more := [] }
/-- what the written part says of a class x at C that keeps its one argument as f; its __init__ at fI -/
structure Xc1 (K : Frag) (mg : Str → Option Value) (x f : Str) (C fI : Addr) : Prop where
  gC : mg x = some (.ref C)
  cls : ∃ nm q N bs bm sn sub ab col dd k0 k1 k2 k3 k5, K.lookup C = some (excClassObj nm q C N bs bm true sn sub ab col dd k0 k1 k2 k3 k5 "Exception.__new__") ∧ excTail bmE bm = true
  sa : findIn K (.ref C) "__setattr__" = some (some (.builtin "object.__setattr__"))
  ga : findIn K (.ref C) "__getattribute__" = some (some (.builtin "BaseException.__getattribute__"))
  gg : findIn K (.ref C) "__getattr__" = some none
  noN : findIn K (.ref C) f = some none
  iC : findIn K (.ref C) "__init__" = some (some (.ref fI))
  tC : typeIn K (.ref fI) = some (.type "function")
  kC : keepIn K (.ref C) = true
  exC : subIn K (.ref C) (.type "BaseException") = some true
  tyC : typeIn K (.ref C) = some (.type "type")
  hdC : hasDictIn K C = true
  fs : f ≠ "self"
  fd : (f == ("__debug__" : Str)) = false
  fn : ∃ (oc : Value) (od : Option Addr) (doc pm : Value) (an : Option Addr) (cdv ct kV : Value) (osl : Array (Option Value)) (p1 p2 q1 q2 q3 q4 : Pos) (q : Str),
    K.lookup fI = some ⟨oc, od, .func (fnOf "__init__" q (iA f p1 p2) (iB f q1 q2 q3 q4) (iS f) .none kV doc pm an cdv ct), osl⟩ ∧ codeIn K cdv q = true ∧
      ∀ a b : Value, bindArgs (fnOf "__init__" q (iA f p1 p2) (iB f q1 q2 q3 q4) (iS f) .none kV doc pm an cdv ct) ⟨[a, b], []⟩ = pure [(PySem.Str.ofString "self", a), (f, b)]
theorem one_size (v : Value) : [v].length ≤ sizeLine := by
  rw [sizeLine_eq]
  exact (by decide : 1 ≤ 16777216)
theorem ldC {M : Model} {s : Shared} {name : Str} {scope : Scope} {L a : Addr} {cd : Value} {m : Str → Option Value} {x : Str} {pos : Pos} {v : Value} {Q : Value → Shared → Prop} {A : Around} {E : Value → Shared → Prop} (hn : s.heap.Ns L m) (hv : m x = some v) (h : Q v s)
    (hk : scope.kind = .function) (hl : (envOfC name scope L a cd).kindOf x = some .local) (hd : (x == ("__debug__" : Str)) = false) :
    wpAny M A (eval (.Name x pos) (envOfC name scope L a cd)) Q E s := wpAny_Name (wpAny_loadName_local hk hl hn hv h) hd
/-- what __init__ leaves of a fresh exception at x -/
structure InitEnd (h₀ h' : Heap) (f : Str) (x C dx t1 : Addr) (v : Value) : Prop where
  keep : ∀ b o, h₀.get? b = some o → h'.get? b = some o
  obj : h'.get? x = some { cls := .ref C, dict := some dx, data := .fields #[.ref t1, .none, .none, .none, .bool false, .none] }
  dbig : x < dx
  ns : h'.Ns1 dx (fun y => if y = f then some v else none)
/-- a made exception -/
structure OwnMade (h h' : Heap) (f : Str) (e C d : Addr) (v : Value) : Prop where
  keep : ∀ b o, h.get? b = some o → h'.get? b = some o
  new : h.objs.size ≤ e
  obj : ∃ oe vs, h'.get? e = some oe ∧ oe.cls = .ref C ∧ oe.dict = some d ∧ oe.data = .fields vs ∧ vs[1]? = some .none
  dbig : h.objs.size ≤ d
  dne : d ≠ e
  ns : h'.Ns1 d (fun y => if y = f then some v else none)
section
variable {prog : Program} {w : World} {A : Around} {E : Value → Shared → Prop} {R : Result → Shared → Prop} {s : Shared} {K : Frag} {mg : Str → Option Value} {C fI : Addr} {x f : Str}
theorem Xc1.clsIn (T : Xc1 K mg x f C fI) : ∃ cd bm, PySem.W.clsIn K C = some cd ∧ cd.mro = .ref C :: bm ∧ excTail bmE bm = true := by
  obtain ⟨nm, q, N, bs, bm, sn, sub, ab, col, dd, k0, k1, k2, k3, k5, hC, hbm⟩ := T.cls
  exact ⟨{ name := nm, bases := bs, mro := .ref C :: bm, ns := N, qualname := q, hasDict := true, slotNames := sn, subclasses := sub, abstract := ab, collection := col, hasDel := false }, bm, by unfold PySem.W.clsIn; rw [hC] <;> rfl, rfl, hbm⟩
theorem Xc1.over (T : Xc1 K mg x f C fI) : excOver K C bmE = true := by
  obtain ⟨cd, bm, h1, h2, h3⟩ := T.clsIn
  unfold excOver
  rw [h1]
  show (match cd.mro with
      | Value.ref C' :: bm => C' == C && excTail bmE bm
      | x => false) = true
  rw [h2]
  simp [h3]
theorem Xc1.taker (T : Xc1 K mg x f C fI) : takerIn K C f = some none := by
  unfold takerIn
  rw [T.noN]; rfl
theorem one_ns (f : Str) (hsh : Int) (tok : Tok) (v : Value) (name : Str) : nsFind #[⟨hsh, .str f tok, v⟩] name = if name = f then some v else none := by
  unfold nsFind findBy
  by_cases h : name = f
  · subst h
    simp [Value.isStr]
  · rw [if_neg h]
    simp [Value.isStr, Ne.symm h]
theorem x1_init (T : Xc1 K mg x f C fI) {h₀ : Heap} {e t0 : Addr} {v : Value} (X : K.In s.heap) (k0 : ∀ b o, h₀.get? b = some o → s.heap.get? b = some o) (n0 : h₀.get? e = none) (sz : h₀.objs.size ≤ s.heap.objs.size) (X0 : K.In h₀) (hlim : s.heap.NoLimit) (hx : s.heap.get? e = some (excO C t0)) (hroom : A.depth < recursionLimit)
    (hq : ∀ h' tk dx, InitEnd h₀ h' f e C dx t0 v → R (.ok (.ret .none)) { s with heap := h', toks := tk }) :
    codeAny (model prog w) A (.call (.ref fI) ⟨[.ref e, v], []⟩) R s := by
  obtain ⟨oc, od, doc, pm, an, cdv, ct, kV, osl, p1, p2, q1, q2, q3, q4, qn, ho, hcd, hba⟩ := T.fn
  have ls : List.lookup f (iS f).names = some .local := by
    unfold iS
    rw [List.lookup_cons, show (f == (PySem.Str.ofString "self" : Str)) = false from by simpa using T.fs, List.lookup_cons, beq_self_eq_true]
  have l0 : List.lookup ("self" : Str) (iS f).names = some .local := rfl
  refine Att.call_fn (binds := [("self", .ref e), (f, v)]) X hlim ho hcd hroom (BindsTo.of_eq (hba _ _)) ?_ (fun s₁ IC => ?_) rfl rfl rfl
  · simp [ls, l0]
  obtain ⟨h₁, tk₁, rfl⟩ := IC.toInCall.same
  have k : ∀ b o, s.heap.get? b = some o → h₁.get? b = some o := IC.toInCall.keep
  have hn := IC.toInCall.ns
  have hxL : e ≠ s.heap.objs.size := Nat.ne_of_lt (Heap.lt_size hx)
  have X₁ : K.In h₁ := X.keeps k
  have hx₁ := k _ _ hx
  show wpAny _ _ (execs _ _) _ _ _
  have kf : (envOfC qn (iS f) s.heap.objs.size fI cdv).kindOf f = some .local := by
    first | exact ls | (simp [envOfC, Env.kindOf]; exact ls)
  have mf : bindL (envOfC qn (iS f) s.heap.objs.size fI cdv).kindOf [("self", .ref e), (f, v)] (fun _ => none) f = some v := by
    unfold bindL
    first
      | (simp [kf]; done)
      | (unfold bindL; simp [kf]; done)
      | simp [bindL, kf, T.fs]
  have ms : bindL (envOfC qn (iS f) s.heap.objs.size fI cdv).kindOf [("self", .ref e), (f, v)] (fun _ => none) "self" = some (.ref e) := by
    have k1 : (envOfC qn (iS f) s.heap.objs.size fI cdv).kindOf "self" = some .local := l0
    have fs := Ne.symm T.fs
    simp [bindL, kf, k1, fs]
  refine wpAny_execs_cons (plainObj_wpAny_Assign_Attribute ?_ ?_)
  · refine ldC (v := v) hn mf (ldC (v := .ref e) hn ms ?_ rfl l0 (by decide)) rfl kf T.fd
    refine set_plain X₁ (ox := excO C t0) (od := none) ⟨hx₁, rfl, rfl, trivial⟩ T.sa ?_
    have fr : Fr h₀ s.heap.objs.size h₁ _ := ⟨hn, fun b o q => k b o (k0 b o q), sz⟩
    refine osa_exc0 (pre := []) (post := []) (x := e) (t := t0) (c2 := .none) (es := [⟨_, _, v⟩]) (n := 1) (od' := dictOf [⟨_, _, v⟩] 1) (h₀ := h₀) PySem.F.store_Exception fr ?_ X₁ T.over T.taker T.hdC (fun p hp => nomatch hp) (fun p hp => nomatch hp) rfl rfl (by rw [List.length_singleton]; decide) ?_
    · intro p hp
      have := List.mem_singleton.mp hp
      subst this
      exact ⟨hx₁, hxL, n0⟩
    · intro dx h₃ fr3 nw lt
      show wpAny _ _ (execs _ _) _ _ _
      refine wpAny_execs_nil (hq h₃ _ dx ⟨fr3.keep, (nw _ (List.mem_cons_of_mem _ List.mem_cons_self)).1, lt _ List.mem_cons_self, ?_⟩)
      refine ⟨_, _, _, (nw _ List.mem_cons_self).1, rfl, ?_, ?_, fun name => one_ns _ _ _ _ _⟩
      · intro d hd
        have hd := Array.mem_toList_iff.mpr hd
        have := List.mem_singleton.mp hd
        subst this
        exact ⟨_, _, rfl⟩
      · exact List.pairwise_singleton _ _
  · rfl
theorem x1_made (T : Xc1 K mg x f C fI) {v : Value} (X : K.In s.heap) (hlim : s.heap.NoLimit) (hroom : A.depth + 1 < recursionLimit)
    (hq : ∀ h' tk e d, OwnMade s.heap h' f e C d v → R (.ok (.ret (.ref e))) { s with heap := h', toks := tk }) :
    codeAny (model prog w) A (.call (.ref C) ⟨[v], []⟩) R s := by
  obtain ⟨nm, q, N, bs, bm, sn, sub, ab, col, dd, k0, k1, k2, k3, k5, hC, hbm⟩ := T.cls
  obtain ⟨hp, g, dr, tk, os⟩ := s
  have ka : ∀ b o, hp.get? b = some o → (hp.push (kdv_tup [v])).get? b = some o := fun b o e => Heap.get?_push_of_some _ e
  have kb : ∀ b o, (hp.push (kdv_tup [v])).get? b = some o → ((hp.push (kdv_tup [v])).push (excO C hp.objs.size)).get? b = some o := fun b o e => Heap.get?_push_of_some _ e
  have k : ∀ b o, hp.get? b = some o → ((hp.push (kdv_tup [v])).push (excO C hp.objs.size)).get? b = some o := fun b o e => kb b o (ka b o e)
  have hget : ((hp.push (kdv_tup [v])).push (excO C hp.objs.size)).get? (hp.objs.size + 1) = some (excO C hp.objs.size) := by heap_get
  have sz1 : (hp.push (kdv_tup [v])).objs.size = hp.objs.size + 1 := by first | rfl | simp [Heap.push] | (rw [Heap.size_push])
  have sz2 : ((hp.push (kdv_tup [v])).push (excO C hp.objs.size)).objs.size = hp.objs.size + 2 := by first | rfl | simp [Heap.push] | (rw [Heap.size_push, Heap.size_push])
  have hn0 : (hp.push (kdv_tup [v])).get? (hp.objs.size + 1) = none := by
    cases e : (hp.push (kdv_tup [v])).get? (hp.objs.size + 1) with
    | none => rfl
    | some o =>
      have := Heap.lt_size e
      rw [sz1] at this
      exact absurd this (Nat.lt_irrefl _)
  refine call_own PySem.F.excBase_Exception (fun X => excTail_contains X bm hbm) (X _ _ hC) (looks_findIn X T.iC) (fun self => bind_fn X self T.tC) (one_size v) ?_
  refine x1_init (s := ⟨(hp.push (kdv_tup [v])).push (excO C hp.objs.size), g, dr, tk, os⟩) T (h₀ := hp.push (kdv_tup [v])) (X.keeps k) kb hn0 (by show (hp.push (kdv_tup [v])).objs.size ≤ ((hp.push (kdv_tup [v])).push (excO C hp.objs.size)).objs.size; rw [sz1, sz2]; omega) (X.keeps ka) (hlim.keeps k) hget ?_ fun h' tk' dx ⟨k', hx, dn, hns⟩ => ?_
  · show A.depth + 1 < recursionLimit
    exact hroom
  · exact ⟨rfl, hq h' tk' (hp.objs.size + 1) dx ⟨fun b o e => k' b o (ka b o e), Nat.le_succ _, ⟨_, _, hx, rfl, rfl, rfl, rfl⟩, Nat.le_of_lt (Nat.lt_trans (Nat.lt_succ_self _) dn), Nat.ne_of_gt dn, hns⟩⟩
end
end Pv
end

section
/-! PvXd: exceptions raised, passed on, caught. -/
set_option autoImplicit false
namespace Pv
open PySem PySem.Spec PyProof.Rows L2

theorem relO_one {v : V} {v' : Value} (r : RelV v v') (f n : Str) : L2.RelO (List.lookup n [(f, v)]) (if n = f then some v' else none) := by
  by_cases hw : n = f
  · subst hw
    rw [if_pos rfl, List.lookup_cons, beq_self_eq_true]
    exact r
  · rw [if_neg hw, List.lookup_cons, show (n == f) = false from by simpa using hw]
    trivial
section
variable {X : Cx} {x f : Str} {Ca fI : Addr}
def tMk1 (Ca : Addr) (f : Str) (ta : TA) : L2.St → Hp → XK → Prop := fun σ H Q => ta σ H fun vs H1 => ∃ v, vs = [v] ∧ ∀ d, H1 d = none → Q (.ref Ca) (some d) (upd H1 d (.xd [(f, v)]))
open PySem.W PySem.Calls PySem.HandSPX in
theorem pmk1 {a : Expr} {ta : TA} {p pos : Pos} {k : Nat} (T : Xc1 X.K X.mg x f Ca fI) (hr : Room k X.A) (ha : PA X [a] ta) (hg : Gl X x) (hd : (x == ("__debug__" : Str)) = false)
    (he : starEach (a :: []) X.env = (false, eval a X.env) :: starEach [] X.env) (hpl : (backTo pos (starEach [] X.env)).any (·.1) = false) :
    PMk X (.Call (.Name x p) [a] [] pos) (tMk1 Ca f ta) := by
  intro pins s σ H Q I h
  refine wpAny_Call_Name_kw (ld_glob I hg T.gC ?_ hd)
  refine PySem.W.callWith_K (h₀ := X.base) I.ok.mod.kin T.kC (thn (ha.run pos pins s σ H _ I h) fun us s1 hh => ?_) he hpl
  obtain ⟨vs, H1, I1, r1, v, ev, q1⟩ := hh
  subst ev
  refine ⟨I1.kIn, ?_⟩
  cases r1 with
  | cons rv rn =>
    rename_i v' us'
    cases rn
    show wpAny _ _ (call (.ref Ca) [v']) _ _ _
    have hlim := I1.nolimit
    obtain ⟨hp, g, dr, tk, os⟩ := s1
    refine wpAny_call (x1_made T I1.kIn hlim (by have := hr.dp; omega) fun h' tk' e d M => ?_)
    show MkP X pins σ Q (.ref e) ⟨h', g, dr, tk', os⟩
    obtain ⟨oe, fv, hoe, hc, hdd, hdat, h1⟩ := M.obj
    have hns := M.ns
    obtain ⟨G', g1, g2⟩ := restrict h' fun b => decide (b ≠ e)
    have gk : ∀ b, b ≠ e → G'.get? b = h'.get? b := fun b hb => g1 b (decide_eq_true hb)
    have ge : G'.get? e = none := g2 e (by simp)
    have old : ∀ b o, hp.get? b = some o → G'.get? b = some o := fun b o q => (gk b (Nat.ne_of_lt (Nat.lt_of_lt_of_le (Heap.lt_size q) M.new))).trans (M.keep b o q)
    have ob : ObjOk X.prog X.w (upd H1 d (.xd [(f, v)])) G' d (.xd [(f, v)]) :=
      ⟨_, hns.at (fun o q => (gk d M.dne).trans q), fun n => relO_one rv f n⟩
    have J : Inv X pins σ (upd H1 d (.xd [(f, v)])) ⟨G', g, dr, tk', os⟩ := I1.laid (t' := tk') old M.dbig ob
    refine ⟨e, oe, fv, ⟨G', g, dr, tk', os⟩, _, .ref Ca, some d, rfl, J, fun b o q => ?_, ge, hoe, ⟨hc, hdd⟩, hdat, h1, ?_, rfl, I1.bare, raises_own T.exC T.tyC, q1 d (I1.hok.fresh M.dbig)⟩
    · by_cases hb : b = e
      · have q' : G'.get? b = some o := q
        rw [hb, ge] at q'; cases q'
      · exact (gk b hb).symm.trans q
    · rw [upd_ne (Ne.symm M.dne)]
      exact I1.hok.fresh M.new
/-- a class that has no __init__ of its own, made without arguments -/
structure Xc0 (K : PySem.W.Frag) (mg : Str → Option Value) (x : Str) (C : Addr) : Prop where
  gC : mg x = some (.ref C)
  xI : PySem.W.excIn K C bmE "Exception.__new__" = true
  kC : PySem.W.keepIn K (.ref C) = true
  exC : PySem.W.subIn K (.ref C) (.type "BaseException") = some true
  tyC : PySem.W.typeIn K (.ref C) = some (.type "type")
open PySem.W PySem.Calls PySem.HandSPX in
theorem pmk0 {p pos : Pos} (T : Xc0 X.K X.mg x Ca) (hg : Gl X x) (hd : (x == ("__debug__" : Str)) = false) : PMk X (.Call (.Name x p) [] [] pos) (fun _ H Q => Q (.ref Ca) none H) := by
  intro pins s σ H Q I h
  refine wpAny_Call_Name_kw (ld_glob I hg T.gC ?_ hd)
  refine PySem.W.callWith_K0 (first := []) I.kIn T.kC ?_
  obtain ⟨bm, N, nm, qn, bs, hdct, sn, sub, ab, col, dd, k0, k1, k2, k3, k5, mN, h1, h2, h3, h4⟩ := exc_obj I.kIn T.xI
  have key : ∀ (h' : Heap) (e : Addr), s.heap.MadeExcOf h' e (.ref Ca) [] → MkP X pins σ Q (.ref e) { heap := h', gens := s.gens, drawn := s.drawn, toks := s.toks, os := s.os } := fun h' e M => by
    refine mk_of I M (raises_own T.exC T.tyC) h ?_
    cases q : H e with
    | none => rfl
    | some o =>
      obtain ⟨u, z⟩ := objOk_get (I.hok e o q)
      rw [M.new] at z; cases z
  obtain ⟨hp, g, dr, tk, os⟩ := s
  exact wpAny_call_exc_subT PySem.F.excBase_Exception h4 h1 h2 h3 key (by rw [sizeLine_eq]; decide)
end
section
variable {X : Cx} {C : Ct} {W : WX} {Ow Ow' OwL : List Nat} {a e b : Expr} {es : List Expr} {i ia ib : Ex} {is : Exs} {pos pos' p apos : Pos} {x f : Str} {Ca fI : Addr} {k n : Nat}
/-! ### raise -/
theorem Ss.rais1 (c : Nat) (hc : X.calm = true) (tk : Takes X W) (T : Xc1 X.K X.mg x f Ca fI) (hx : C.xc[c]? = some (Ca, some f)) (hr : Room k X.A) (hg : Gl X x) (hd : (x == ("__debug__" : Str)) = false) (ha : Es X C Ow a ia)
    (he : starEach (a :: []) X.env = (false, eval a X.env) :: starEach [] X.env) (hpl : (backTo pos (starEach [] X.env)).any (·.1) = false) :
    Ss X C W Ow Ow' OwL (.Raise (some (.Call (.Name x p) [a] [] pos)) none pos') (.rais c (.cons ia .nil)) :=
  ⟨ps_con (ps_raise hc tk (pmk1 T hr (pa_cons ha.run pa_nil he) hg hd he hpl)) fun D σ H ⟨T, F, σe, g, fl, g', r, m, q⟩ => by
    unfold Pv.run at m
    obtain ⟨vs, g1, m1, m2⟩ := bind_eq_ok m
    cases m2
    unfold evs at m1
    obtain ⟨v, g2, m3, m4⟩ := bind_eq_ok m1
    obtain ⟨ws, g3, m5, m6⟩ := bind_eq_ok m4
    unfold evs at m5
    cases m5
    cases m6
    refine ⟨T, F, σe, g, v, _, r, m3, fun F1 H1 y s1 r1 h1 => ⟨y, rfl, fun d hd => ?_⟩⟩
    exact q (F1.put d _) Ow σ _ (.ref Ca) (some d) (s1.trans (Fsub.put (r1.fn hd))) (r1.laid hd) ⟨Ca, some f, hx, rfl, d, v, y, rfl, rfl, upd_same, h1.mono (Fsub.put (r1.fn hd)) _ _⟩⟩
theorem Ss.rais0 (c : Nat) (hc : X.calm = true) (tk : Takes X W) (T : Xc0 X.K X.mg x Ca) (hx : C.xc[c]? = some (Ca, none)) (hg : Gl X x) (hd : (x == ("__debug__" : Str)) = false) :
    Ss X C W Ow Ow' OwL (.Raise (some (.Call (.Name x p) [] [] pos)) none pos') (.rais c .nil) :=
  ⟨ps_con (ps_raise hc tk (pmk0 T hg hd)) fun D σ H ⟨T, F, σe, g, fl, g', r, m, q⟩ => by
    unfold Pv.run at m
    obtain ⟨vs, g1, m1, m2⟩ := bind_eq_ok m
    cases m2
    unfold evs at m1
    cases m1
    exact q F Ow σ H (.ref Ca) none (.refl F) r ⟨Ca, none, hx, rfl, rfl, rfl⟩⟩
/-! ### calls that may raise -/
def pmo : Option (List Nat) → List D → List D
  | some p, vs => pm p vs
  | none, vs => vs
def callM (Φ : Fns) (f : Nat) (as : Exs) (perm : Option (List Nat)) (σ : Sl) (g : G) : Res D := match evs Φ as σ g with
  | .ok vs g => Φ f (pmo perm vs) g
  | _ => .no
def tCx (C : Ct) (W : WX) (Ow : List Nat) (m : Sl → G → Res D) : TE := fun σ H Q => ∃ T F σe g, R C Ow T F σe g σ H ∧
  ((∃ v g', m σe g = .ok v g' ∧ ∀ F' H' x, Fsub F F' → R C Ow T F' σe g' σ H' → Rel C.K F' v x → Q x H') ∨
   (∃ c ws g', m σe g = .exc c ws g' ∧ ∀ F' H' cls d, Fsub F F' → R C Ow T F' σe g' σ H' → XR C F' c ws cls d → W cls d σ H'))
/-- a call whose answer, or exception, is taken by the statement -/
structure Ecx (X : Cx) (C : Ct) (W : WX) (Ow : List Nat) (e : Expr) (m : Sl → G → Res D) : Prop where
  run : PE X e (tCx C W Ow m)
/-- the statement's term, by the call's value -/
def EndB (C : Ct) (k : Kx) (m : Sl → G → Res D) (s : Sm) : Prop := ∀ σ g fl g', Pv.run C.Φ C.fu s σ g = .ok fl g' → endX k σ (m σ g) = .ok fl g'
theorem Ss.retX {m : Sl → G → Res D} {s : Sm} (h : Ecx X C W Ow e m) (hb : EndB C .ret m s) : Ss X C W Ow Ow' OwL (.Return (some e) pos) s := ⟨ps_con (ps_ret h.run) fun D σ H ⟨T, F, σe, g, fl, g', r, mm, q⟩ => by
  have z := hb _ _ _ _ mm
  refine ⟨T, F, σe, g, r, ?_⟩
  cases hm : m σe g with
  | no => rw [hm] at z; cases z
  | ok v g1 => rw [hm] at z; cases z; exact .inl ⟨v, _, rfl, fun F1 H1 x s1 r1 h1 => q F1 _ σe σ H1 x s1 r1 h1⟩
  | exc c ws g1 => rw [hm] at z; cases z; exact .inr ⟨c, ws, _, rfl, fun F1 H1 cls d s1 r1 h1 => q F1 Ow σ H1 cls d s1 r1 h1⟩⟩
theorem Ss.exX {m : Sl → G → Res D} {s : Sm} (h : Ecx X C W Ow e m) (hb : EndB C .ex m s) (hs : swapsWith e none pos.line X.env = pure false) : Ss X C W Ow Ow OwL (.Expr e pos) s := ⟨ps_con (ps_expr h.run hs) fun D σ H ⟨T, F, σe, g, fl, g', r, mm, q⟩ => by
  have z := hb _ _ _ _ mm
  refine ⟨T, F, σe, g, r, ?_⟩
  cases hm : m σe g with
  | no => rw [hm] at z; cases z
  | ok v g1 => rw [hm] at z; cases z; exact .inl ⟨v, _, rfl, fun F1 H1 x s1 r1 _ => q F1 σ H1 s1 r1⟩
  | exc c ws g1 => rw [hm] at z; cases z; exact .inr ⟨c, ws, _, rfl, fun F1 H1 cls d s1 r1 h1 => q F1 Ow σ H1 cls d s1 r1 h1⟩⟩
theorem Ss.setX {m : Sl → G → Res D} {s : Sm} {tg : Expr} {t : List Nat} (h : Ecx X C W Ow e m) (hb : EndB C (.set t) m s) (hg : Eg X C Ow tg t) (hs : swapsWithSole [tg] e pos.line X.env = pure false) (hw : swappedStores [tg] e X.env = pure none) (h1 : (assignEach [tg] X.env).map (·.2) = [assign tg X.env]) :
    Ss X C W Ow Ow OwL (.Assign [tg] e pos) s := ⟨ps_con (ps_asg h.run hg.run hs hw h1) fun D σ H ⟨T, F, σe, g, fl, g', r, mm, q⟩ => by
  have z := hb _ _ _ _ mm
  refine ⟨T, F, σe, g, r, ?_⟩
  cases hm : m σe g with
  | no => rw [hm] at z; cases z
  | ok v g1 =>
    rw [hm] at z
    obtain ⟨σe', g2, m3, m4⟩ := bind_eq_ok (show (lift (setT t v σe) g1).bind _ = _ from z)
    obtain ⟨m5, e5⟩ := lift_eq_ok m3
    subst e5
    cases m4
    exact .inl ⟨v, _, rfl, fun F1 H1 x s1 r1 h1 => ⟨T, F1, σe, _, v, σe', r1, h1, m5, fun σ' r' _ => q F1 σ' H1 s1 r'⟩⟩
  | exc c ws g1 => rw [hm] at z; cases z; exact .inr ⟨c, ws, _, rfl, fun F1 H1 cls d s1 r1 h1 => q F1 Ow σ H1 cls d s1 r1 h1⟩⟩
theorem endB_call {kx : Kx} {f : Nat} {perm : Option (List Nat)} : EndB C kx (callM C.Φ f is perm) (.callX kx f is perm) := fun σ g fl g' h => by
  unfold Pv.run at h
  obtain ⟨vs, g1, m1, m2⟩ := bind_eq_ok h
  unfold callM
  rw [m1]
  cases perm <;> exact m2
def methM (Φ : Fns) (cn f : Nat) (o : Ex) (as : Exs) (σ : Sl) (g : G) : Res D := match ev Φ o σ g with
  | .ok x g => if isOb cn x then match evs Φ as σ g with
    | .ok vs g => Φ f (x :: vs) g
    | _ => .no
    else .no
  | _ => .no
theorem endB_meth {kx : Kx} {cn f : Nat} {o : Ex} : EndB C kx (methM C.Φ cn f o is) (.methX kx cn f o is) := fun σ g fl g' h => by
  unfold Pv.run at h
  obtain ⟨v, g1, m1, m2⟩ := bind_eq_ok h
  split at m2
  · rename_i hob
    obtain ⟨vs, g2, m3, m4⟩ := bind_eq_ok m2
    unfold methM
    simp only [m1, hob, if_true, m3]
    exact m4
  · cases m2
def mkM (Φ : Fns) (cn f : Nat) (as : Exs) (σ : Sl) (g : G) : Res D := match evs Φ as σ g with
  | .ok vs (some st) => Φ f (objD cn [] :: vs) (some st)
  | _ => .no
theorem endB_mk {kx : Kx} {cn f : Nat} : EndB C kx (mkM C.Φ cn f is) (.mkX kx cn f is) := fun σ g fl g' h => by
  unfold Pv.run at h
  obtain ⟨vs, g1, m1, m2⟩ := bind_eq_ok h
  cases g1 with
  | none => cases m2
  | some st =>
    unfold mkM
    rw [m1]
    exact m2
theorem callM_ok {Φ : Fns} {f : Nat} {as : Exs} {perm : Option (List Nat)} {σ : Sl} {g : G} {r : Res D} (h : callM Φ f as perm σ g = r) (hn : r ≠ .no) : ∃ ds g1, evs Φ as σ g = .ok ds g1 ∧ Φ f (pmo perm ds) g1 = r := by
  unfold callM at h
  cases e : evs Φ as σ g with
  | ok ds g1 => rw [e] at h; exact ⟨ds, g1, rfl, h⟩
  | exc c vs g1 => rw [e] at h; exact (hn h.symm).elim
  | no => rw [e] at h; exact (hn h.symm).elim
/-- the promise called, either way -/
theorem R.callX {T : Hp} {F : Fz} {σe : Sl} {g : G} {σ : L2.St} {H : Hp} {vs : List V} {ds : List D} {Q : VK} {E : XK} {fi : Nat} (r : R C Ow T F σe g σ H) (h : RelL C.K F ds vs) (hn : vs.length = n)
    (q : (∃ v g', C.Φ fi ds g = .ok v g' ∧ ∀ F' H' x, Fsub F F' → R C Ow T F' σe g' σ H' → Rel C.K F' v x → Q x H') ∨ (∃ c ws g', C.Φ fi ds g = .exc c ws g' ∧ ∀ F' H' cls d, Fsub F F' → R C Ow T F' σe g' σ H' → XR C F' c ws cls d → E cls d H')) : spS C (C.Φ fi) n vs H Q E := by
  rcases q with ⟨v, g', hf, q⟩ | ⟨c, ws, g', hf, q⟩
  · exact r.call h hn hf q
  · exact r.callE h hn hf q
variable {CX : CXT} {fa : Addr} {fd : FuncData} {ps : List Str}
theorem out_tr {T : Hp} {F F1 : Fz} {σe : Sl} {σ : L2.St} {res res' : Res D} {Q : VK} (s1 : Fsub F F1) (e : res' = res)
    (q : (∃ v g', res' = .ok v g' ∧ ∀ F' H' x, Fsub F F' → R C Ow T F' σe g' σ H' → Rel C.K F' v x → Q x H') ∨ (∃ c ws g', res' = .exc c ws g' ∧ ∀ F' H' cls d, Fsub F F' → R C Ow T F' σe g' σ H' → XR C F' c ws cls d → W cls d σ H')) :
    (∃ v g', res = .ok v g' ∧ ∀ F' H' x, Fsub F1 F' → R C Ow T F' σe g' σ H' → Rel C.K F' v x → Q x H') ∨ (∃ c ws g', res = .exc c ws g' ∧ ∀ F' H' cls d, Fsub F1 F' → R C Ow T F' σe g' σ H' → XR C F' c ws cls d → WE W σ cls d H') := by
  subst e
  rcases q with ⟨v, g', hf, q⟩ | ⟨c, ws, g', hf, q⟩
  · exact .inl ⟨v, g', hf, fun F' H' x s r h => q F' H' x (s1.trans s) r h⟩
  · exact .inr ⟨c, ws, g', hf, fun F' H' cls d s r h => q F' H' cls d (s1.trans s) r h⟩
theorem out_ne {T : Hp} {F : Fz} {σe : Sl} {σ : L2.St} {res : Res D} {Q : VK}
    (q : (∃ v g', res = .ok v g' ∧ ∀ F' H' x, Fsub F F' → R C Ow T F' σe g' σ H' → Rel C.K F' v x → Q x H') ∨ (∃ c ws g', res = .exc c ws g' ∧ ∀ F' H' cls d, Fsub F F' → R C Ow T F' σe g' σ H' → XR C F' c ws cls d → W cls d σ H')) : res ≠ .no := by
  rcases q with ⟨v, g', hf, _⟩ | ⟨c, ws, g', hf, _⟩ <;> rw [hf] <;> exact fun z => nomatch z
theorem Ecx.call (fi : Nat) (tk : Takes X W) (F : FnG X.prog X.w X.K X.mg X.base (L2.CX X.prog X.w) k fa fd ps (spS C (C.Φ fi) ps.length)) (hG : X.A.guards = some []) (hr : Room k X.A) (hg : Gl X x) (hm : X.mg x = some (.ref fa)) (hk : PySem.W.keepIn X.K (.ref fa) = true) (hb : Binds X.K fd ps [])
    (ha : Ea X C Ow (e :: es) is) (hdb : (x == ("__debug__" : Str)) = false) (he : starEach (e :: es) X.env = (false, eval e X.env) :: starEach es X.env) (hpl : (backTo pos (starEach es X.env)).any (·.1) = false) (hl : is.len = ps.length) :
    Ecx X C W Ow (.Call (.Name x p) (e :: es) [] pos) (callM C.Φ fi is none) := by
  refine ⟨⟨fun pins s σ H Q I h => ?_⟩⟩
  refine wpAny_Call_Name_kw (ld_glob I hg hm ?_ hdb)
  obtain ⟨T, F0, σe, g, r, hout⟩ := h
  obtain ⟨ds, g1, m1, m⟩ := callM_ok (r := callM C.Φ fi is none σe g) rfl (out_ne hout)
  refine PySem.W.callWith_K (h₀ := X.base) I.ok.mod.kin hk (thn (ha.run.run pos pins s σ H (fun vs H' => vs.length = ps.length ∧ spS C (C.Φ fi) ps.length vs H' Q (WE W σ)) I ⟨T, F0, σe, g, ds, g1, r, m1, fun F1 H1 xs s1 r1 q1 => ?_⟩) fun us s1 ⟨vs, H1, I1, rv, hn, hsp⟩ => ⟨I1.kIn, ?_⟩) he hpl
  · have hn : xs.length = ps.length := by rw [← q1.length, evs_len _ _ _ _ _ _ m1, hl]
    exact ⟨hn, r1.callX q1 hn (out_tr s1 m.symm hout)⟩
  · have hl : us.length = ps.length := by rw [← rv.length]; exact hn
    have bt := hb s1 us I1.kIn (by rw [List.append_nil]; exact hl)
    rw [List.append_nil] at bt
    refine wpAny_call (codeAny_mono (run_fnG F hG hr (passAt tk σ) I1 bt rv hsp) fun r s' hq => ?_)
    cases r with
    | error e => exact hq
    | ok fl =>
      cases fl with
      | ret u => exact hq
      | next => exact False.elim hq
      | brk => exact False.elim hq
      | cont => exact False.elim hq
end
end Pv
end

section
/-! PvXe: further calls that may raise. -/
set_option autoImplicit false
namespace Pv
open PySem PySem.Spec PyProof.Rows L2
section
variable {X : Cx} {C : Ct} {W : WX} {Ow Ow' OwL : List Nat} {a e b o : Expr} {es : List Expr} {i ia ib io : Ex} {is : Exs} {pos pos' p apos : Pos} {x : Str} {k n : Nat} {CX : CXT} {fa Ca : Addr} {fd : FuncData} {ps nm : List Str} {m : Str}
theorem methM_ok {Φ : Fns} {cn f : Nat} {o : Ex} {as : Exs} {σ : Sl} {g : G} {r : Res D} (h : methM Φ cn f o as σ g = r) (hn : r ≠ .no) : ∃ d g1 ds g2, ev Φ o σ g = .ok d g1 ∧ isOb cn d = true ∧ evs Φ as σ g1 = .ok ds g2 ∧ Φ f (d :: ds) g2 = r := by
  unfold methM at h
  cases e : ev Φ o σ g with
  | exc c vs g1 => rw [e] at h; exact (hn h.symm).elim
  | no => rw [e] at h; exact (hn h.symm).elim
  | ok d g1 =>
    simp only [e] at h
    split at h
    · rename_i hob
      cases e2 : evs Φ as σ g1 with
      | exc c vs g1 => rw [e2] at h; exact (hn h.symm).elim
      | no => rw [e2] at h; exact (hn h.symm).elim
      | ok ds g2 => rw [e2] at h; exact ⟨d, g1, ds, g2, rfl, hob, e2, h⟩
    · exact (hn h.symm).elim
theorem mkM_ok {Φ : Fns} {cn f : Nat} {as : Exs} {σ : Sl} {g : G} {r : Res D} (h : mkM Φ cn f as σ g = r) (hn : r ≠ .no) : ∃ ds st, evs Φ as σ g = .ok ds (some st) ∧ Φ f (objD cn [] :: ds) (some st) = r := by
  unfold mkM at h
  cases e : evs Φ as σ g with
  | exc c vs g1 => rw [e] at h; exact (hn h.symm).elim
  | no => rw [e] at h; exact (hn h.symm).elim
  | ok ds g1 =>
    cases g1 with
    | none => rw [e] at h; exact (hn h.symm).elim
    | some st => rw [e] at h; exact ⟨ds, st, rfl, h⟩
theorem out_mk {T : Hp} {F F1 : Fz} {σe : Sl} {σ : L2.St} {fi cn : Nat} {ds : List D} {st : Dk} {res' : Res D} {Q : VK} {x : Addr} (s1 : Fsub F F1) (e : res' = C.Φ fi (objD cn [] :: ds) (some st))
    (q : (∃ v g', res' = .ok v g' ∧ ∀ F' H' x, Fsub F F' → R C Ow T F' σe g' σ H' → Rel C.K F' v x → Q x H') ∨ (∃ c ws g', res' = .exc c ws g' ∧ ∀ F' H' cls d, Fsub F F' → R C Ow T F' σe g' σ H' → XR C F' c ws cls d → W cls d σ H')) :
    (∃ v g', C.Φ fi (objD cn [] :: ds) (some st) = .ok v g' ∧ ∀ F' H', Fsub F1 F' → R C Ow T F' σe g' σ H' → Rel C.K F' v (.ref x) → Q (.ref x) H') ∨
      (∃ c ws g' st', some st = some st' ∧ C.Φ fi (objD cn [] :: ds) (some st) = .exc c ws g' ∧ ∀ F' H' cls d, Fsub F1 F' → R C Ow T F' σe g' σ H' → XR C F' c ws cls d → WE W σ cls d H') := by
  subst e
  rcases q with ⟨v, g', hf, q⟩ | ⟨c, ws, g', hf, q⟩
  · exact .inl ⟨v, g', hf, fun F' H' s r h => q F' H' _ (s1.trans s) r h⟩
  · exact .inr ⟨c, ws, g', st, rfl, hf, fun F' H' cls d s r h => q F' H' cls d (s1.trans s) r h⟩
theorem Ecx.callK {ks : List Str} {kws : List Keyword} {perm : List Nat} {iks : Exs} (fi : Nat) (tk : Takes X W) (F : FnG X.prog X.w X.K X.mg X.base (L2.CX X.prog X.w) k fa fd ps (spS C (C.Φ fi) ps.length)) (hG : X.A.guards = some []) (hr : Room k X.A) (hg : Gl X x) (hm : X.mg x = some (.ref fa)) (hk : PySem.W.keepIn X.K (.ref fa) = true) (hb : KB X.K fd ps ks n perm)
    (ha : Ea X C Ow (e :: es) is) (hkw : Ek X C Ow kws iks) (hall : (backToKw pos (keywordEach kws X.env)).all (·.1.isSome) = true) (hks : (backToKw pos (keywordEach kws X.env)).filterMap (·.1) = ks)
    (hdb : (x == ("__debug__" : Str)) = false) (he : starEach (e :: es) X.env = (false, eval e X.env) :: starEach es X.env)
    (hpl : ((backTo pos (starEach (e :: es) X.env)).any (·.1) || (backToKw pos (keywordEach kws X.env)).any (·.1.isNone)) = false) (h1 : is.len = n) (h2 : iks.len = ks.length) (h3 : ∀ {α : Type} (l : List α), l.length = n + ks.length → (pm perm l).length = ps.length) :
    Ecx X C W Ow (.Call (.Name x p) (e :: es) kws pos) (callM C.Φ fi (is.app iks) (some perm)) := by
  refine ⟨⟨fun pins s σ H Q I h => ?_⟩⟩
  refine wpAny_Call_Name_kw (ld_glob I hg hm ?_ hdb)
  obtain ⟨T, F0, σe, g, r, hout⟩ := h
  obtain ⟨ds, g1, m1, m⟩ := callM_ok (r := callM C.Φ fi (is.app iks) (some perm) σe g) rfl (out_ne hout)
  obtain ⟨as, bs, g2, e0, ma, mb⟩ := evs_app _ _ _ _ _ _ _ m1
  subst e0
  refine PySem.W.callWith_KW (h₀ := X.base) I.ok.mod.kin hk hall (thn (ha.run.run pos pins s σ H (fun vs H' => vs.length = n ∧ tA C Ow (evs C.Φ iks) σ H' fun zs H2 => zs.length = ks.length ∧ spS C (C.Φ fi) ps.length (Pv.pm perm (vs ++ zs)) H2 Q (WE W σ)) I ⟨T, F0, σe, g, as, g2, r, ma, fun F1 H1 xs s1 r1 q1 =>
      ⟨by rw [← q1.length, evs_len _ _ _ _ _ _ ma, h1], T, F1, σe, g2, bs, g1, r1, mb, fun F2 H2 ys s2 r2 q2 => ?_⟩⟩) fun us s1 ⟨vs, H1, I1, rv, hn, hsp⟩ => ?_) hpl he
  · have e1 : ys.length = ks.length := by rw [← q2.length, evs_len _ _ _ _ _ _ mb, h2]
    have e2 : xs.length = n := by rw [← q1.length, evs_len _ _ _ _ _ _ ma, h1]
    refine ⟨e1, r2.callX (((q1.mono s2 _ _).append q2).pm perm) (h3 _ (by rw [List.length_append, e1, e2])) (out_tr (s1.trans s2) m.symm hout)⟩
  · refine thn (hkw.run.run pos pins s1 σ H1 _ I1 hsp) fun ws s2 ⟨zs, H2, I2, rz, hz, hsp⟩ => ⟨I2.kIn, ?_⟩
    rw [hks]
    have bt := hb.to s2 us ws I2.kIn (by rw [← rv.length]; exact hn) (by rw [← rz.length]; exact hz)
    refine wpAny_call (codeAny_mono (run_fnG F hG hr (passAt tk σ) I2 bt (Vals.pm (rv.append rz) perm) hsp) fun r s' hq => ?_)
    cases r with
    | error e => exact hq
    | ok fl =>
      cases fl with
      | ret u => exact hq
      | next => exact False.elim hq
      | brk => exact False.elim hq
      | cont => exact False.elim hq
theorem Ecx.callK0 {ks : List Str} {kws : List Keyword} {perm : List Nat} {iks : Exs} (fi : Nat) (tk : Takes X W) (F : FnG X.prog X.w X.K X.mg X.base (L2.CX X.prog X.w) k fa fd ps (spS C (C.Φ fi) ps.length)) (hG : X.A.guards = some []) (hr : Room k X.A) (hg : Gl X x) (hm : X.mg x = some (.ref fa)) (hk : PySem.W.keepIn X.K (.ref fa) = true) (hb : KB X.K fd ps ks 0 perm)
    (hkw : Ek X C Ow kws iks) (hall : (backToKw pos (keywordEach kws X.env)).all (·.1.isSome) = true) (hks : (backToKw pos (keywordEach kws X.env)).filterMap (·.1) = ks)
    (hdb : (x == ("__debug__" : Str)) = false)
    (hpl : ((backTo pos (starEach [] X.env)).any (·.1) || (backToKw pos (keywordEach kws X.env)).any (·.1.isNone)) = false) (h2 : iks.len = ks.length) (h3 : ∀ {α : Type} (l : List α), l.length = ks.length → (pm perm l).length = ps.length) :
    Ecx X C W Ow (.Call (.Name x p) [] kws pos) (callM C.Φ fi iks (some perm)) := by
  refine ⟨⟨fun pins s σ H Q I h => ?_⟩⟩
  refine wpAny_Call_Name_kw (ld_glob I hg hm ?_ hdb)
  obtain ⟨T, F0, σe, g, r, hout⟩ := h
  obtain ⟨ds, g1, m1, m⟩ := callM_ok (r := callM C.Φ fi iks (some perm) σe g) rfl (out_ne hout)
  refine PySem.W.callWith_KW0 (h₀ := X.base) I.ok.mod.kin hk hall (thn (hkw.run.run pos pins s σ H (fun zs H2 => zs.length = ks.length ∧ spS C (C.Φ fi) ps.length (Pv.pm perm zs) H2 Q (WE W σ)) I ⟨T, F0, σe, g, ds, g1, r, m1, fun F1 H1 xs s1 r1 q1 => ?_⟩) fun ws s2 ⟨zs, H2, I2, rz, hz, hsp⟩ => ⟨I2.kIn, ?_⟩) hpl
  · have e1 : xs.length = ks.length := by rw [← q1.length, evs_len _ _ _ _ _ _ m1, h2]
    exact ⟨e1, r1.callX (q1.pm perm) (h3 _ e1) (out_tr s1 m.symm hout)⟩
  · rw [hks]
    have bt := hb.to s2 [] ws I2.kIn rfl (by rw [← rz.length]; exact hz)
    refine wpAny_call (codeAny_mono (run_fnG F hG hr (passAt tk σ) I2 bt (Vals.pm rz perm) hsp) fun r s' hq => ?_)
    cases r with
    | error e => exact hq
    | ok fl =>
      cases fl with
      | ret u => exact hq
      | next => exact False.elim hq
      | brk => exact False.elim hq
      | cont => exact False.elim hq
theorem Ecx.meth {pl : Sem Bool} (cn fi : Nat) (tk : Takes X W) (hc : C.sc.2[cn]? = some (Ca, nm)) (hm0 : nm.contains m = false) (hok : ClsOk X.K C.sc.2) (hm : Meth X.K Ca m fa) (F : FnG X.prog X.w X.K X.mg X.base (L2.CX X.prog X.w) k fa fd ps (spS C (C.Φ fi) ps.length)) (hG : X.A.guards = some []) (hr : Room k X.A) (hb : Binds X.K fd ps [])
    (ho : Es X C Ow o io) (ha : Ea X C Ow (e :: es) is) (hst : starEach (e :: es) X.env = (false, eval e X.env) :: starEach es X.env) (hpl : (backTo pos (starEach es X.env)).any (·.1) = false) (hl : is.len + 1 = ps.length)
    (ht : eval (.Call (.Attribute o m apos) (e :: es) [] pos) X.env = (do
      let ov ← eval o X.env
      standAt apos.atName
      let (f, first) ← holding [ov] (getMethod ov m pl)
      callWith pos f first (backTo pos (starEach (e :: es) X.env)) (backToKw pos (keywordEach [] X.env)))) :
    Ecx X C W Ow (.Call (.Attribute o m apos) (e :: es) [] pos) (methM C.Φ cn fi io is) := by
  have hcl : Cls X.K Ca := hok.cls _ (List.mem_of_getElem? hc)
  refine ⟨⟨fun pins s σ H Q I h => ?_⟩⟩
  obtain ⟨T, F0, σe, g, r, hout⟩ := h
  obtain ⟨d, g1, ds, g2, m1, hob, m3, m4⟩ := methM_ok (r := methM C.Φ cn fi io is σe g) rfl (out_ne hout)
  · obtain ⟨rr, ed⟩ := isOb_eq hob
    refine PySem.W.methodCall_KW (pl := pl) (thn (ho.run.run pins s σ H (fun x H1 => ∃ a dx fs, x = .ref a ∧ H1 a = some (.ins Ca dx fs) ∧ fs.lookup m = none ∧ tA C Ow (evs C.Φ is) σ H1 fun vs H2 => (V.ref a :: vs).length = ps.length ∧ spS C (C.Φ fi) ps.length (V.ref a :: vs) H2 Q (WE W σ)) I
      ⟨T, F0, σe, g, d, g1, r, m1, fun F1 H1 y s1 r1 q1 => ?_⟩) fun u s1 ⟨x, H1, I1, rx, a, dx, fs, ex, ea, l, q⟩ => ?_) ht
    · have q1' := q1
      rw [ed] at q1'
      obtain ⟨c', Cn, p, dx, fs, ec, rfl, z1, z2, z3, z4⟩ := sh_obj (q1'.sh r1.sub)
      have ec : cn = c' := by omega
      subst ec
      rw [r1.sc, hc] at z1
      cases z1
      refine ⟨p, dx, fs, rfl, z2, lookup_no z3 hm0, T, F1, σe, g1, ds, g2, r1, m3, fun F2 H2 xs s2 r2 q2 => ?_⟩
      have hn : (V.ref p :: xs).length = ps.length := by rw [List.length_cons, ← q2.length, evs_len _ _ _ _ _ _ m3, hl]
      exact ⟨hn, r2.callX (.cons (q1.mono s2 _ _) q2) hn (out_tr (s1.trans s2) m4.symm hout)⟩
    · subst ex
      obtain rfl : u = Value.ref a := rx
      refine getmeth_ok I1 ea hcl hm l ?_
      refine PySem.W.callWith_K (first := [.ref a]) (h₀ := X.base) I1.ok.mod.kin hm.kp (thn (ha.run.run pos pins s1 σ H1 _ I1 q) fun us s2 ⟨vs, H2, I2, rv, hn, hsp⟩ => ⟨I2.kIn, ?_⟩) hst hpl
      have rv2 : Vals (V.ref a :: vs) (Value.ref a :: us) := .cons rfl rv
      have hl2 : (Value.ref a :: us).length = ps.length := by rw [← rv2.length]; exact hn
      have bt := hb s2 (Value.ref a :: us) I2.kIn (by rw [List.append_nil]; exact hl2)
      rw [List.append_nil] at bt
      refine wpAny_call (codeAny_mono (run_fnG F hG hr (passAt tk σ) I2 bt rv2 hsp) fun r s' hq => ?_)
      cases r with
      | error e => exact hq
      | ok fl =>
        cases fl with
        | ret u => exact hq
        | next => exact False.elim hq
        | brk => exact False.elim hq
        | cont => exact False.elim hq
theorem Ecx.meth0 {pl : Sem Bool} (cn fi : Nat) (tk : Takes X W) (hc : C.sc.2[cn]? = some (Ca, nm)) (hm0 : nm.contains m = false) (hok : ClsOk X.K C.sc.2) (hm : Meth X.K Ca m fa) (F : FnG X.prog X.w X.K X.mg X.base (L2.CX X.prog X.w) k fa fd ps (spS C (C.Φ fi) ps.length)) (hG : X.A.guards = some []) (hr : Room k X.A) (hb : Binds X.K fd ps [])
    (ho : Es X C Ow o io) (hl : 1 = ps.length)
    (ht : eval (.Call (.Attribute o m apos) [] [] pos) X.env = (do
      let ov ← eval o X.env
      standAt apos.atName
      let (f, first) ← holding [ov] (getMethod ov m pl)
      callWith pos f first (backTo pos (starEach [] X.env)) (backToKw pos (keywordEach [] X.env)))) :
    Ecx X C W Ow (.Call (.Attribute o m apos) [] [] pos) (methM C.Φ cn fi io .nil) := by
  have hcl : Cls X.K Ca := hok.cls _ (List.mem_of_getElem? hc)
  refine ⟨⟨fun pins s σ H Q I h => ?_⟩⟩
  obtain ⟨T, F0, σe, g, r, hout⟩ := h
  obtain ⟨d, g1, ds, g2, m1, hob, m3, m4⟩ := methM_ok (r := methM C.Φ cn fi io .nil σe g) rfl (out_ne hout)
  unfold evs at m3
  cases m3
  · obtain ⟨rr, ed⟩ := isOb_eq hob
    refine PySem.W.methodCall_KW (pl := pl) (thn (ho.run.run pins s σ H (fun x H1 => ∃ a dx fs, x = .ref a ∧ H1 a = some (.ins Ca dx fs) ∧ fs.lookup m = none ∧ spS C (C.Φ fi) ps.length [V.ref a] H1 Q (WE W σ)) I
      ⟨T, F0, σe, g, d, _, r, m1, fun F1 H1 y s1 r1 q1 => ?_⟩) fun u s1 ⟨x, H1, I1, rx, a, dx, fs, ex, ea, l, q⟩ => ?_) ht
    · have q1' := q1
      rw [ed] at q1'
      obtain ⟨c', Cn, p, dx, fs, ec, rfl, z1, z2, z3, z4⟩ := sh_obj (q1'.sh r1.sub)
      have ec : cn = c' := by omega
      subst ec
      rw [r1.sc, hc] at z1
      cases z1
      exact ⟨p, dx, fs, rfl, z2, lookup_no z3 hm0, r1.callX (.cons q1 .nil) hl (out_tr s1 m4.symm hout)⟩
    · subst ex
      obtain rfl : u = Value.ref a := rx
      refine getmeth_ok I1 ea hcl hm l ?_
      refine PySem.W.callWith_K0 (first := [.ref a]) I1.kIn hm.kp ?_
      have rv2 : Vals [V.ref a] [Value.ref a] := .cons rfl .nil
      have bt := hb s1 [Value.ref a] I1.kIn hl
      rw [List.append_nil] at bt
      refine wpAny_call (codeAny_mono (run_fnG F hG hr (passAt tk σ) I1 bt rv2 q) fun r s' hq => ?_)
      cases r with
      | error e => exact hq
      | ok fl =>
        cases fl with
        | ret u => exact hq
        | next => exact False.elim hq
        | brk => exact False.elim hq
        | cont => exact False.elim hq
theorem Ecx.make (cn fi : Nat) (tk : Takes X W) (hc : C.sc.2[cn]? = some (Ca, nm)) (M : Mk X.K Ca fa) (F : FnG X.prog X.w X.K X.mg X.base (L2.CX X.prog X.w) k fa fd ps (spI C (C.Φ fi) cn ps.length)) (hG : X.A.guards = some []) (hr : Room (k + 1) X.A) (hg : Gl X x) (hm : X.mg x = some (.ref Ca)) (hb : Binds X.K fd ps [])
    (ha : Ea X C Ow (e :: es) is) (hdb : (x == ("__debug__" : Str)) = false) (he : starEach (e :: es) X.env = (false, eval e X.env) :: starEach es X.env) (hpl : (backTo pos (starEach es X.env)).any (·.1) = false) (hl : is.len + 1 = ps.length) :
    Ecx X C W Ow (.Call (.Name x p) (e :: es) [] pos) (mkM C.Φ cn fi is) := by
  refine ⟨⟨fun pins s σ H Q I h => ?_⟩⟩
  refine wpAny_Call_Name_kw (ld_glob I hg hm ?_ hdb)
  obtain ⟨T, F0, σe, g, r, hout⟩ := h
  obtain ⟨ds, st, m1, m2⟩ := mkM_ok (r := mkM C.Φ cn fi is σe g) rfl (out_ne hout)
  refine PySem.W.callWith_K (h₀ := X.base) I.ok.mod.kin M.kp (thn (ha.run.run pos pins s σ H (fun vs H1 => ∀ x dx, H1 x = none → H1 dx = none → dx ≠ x → spI C (C.Φ fi) cn ps.length (.ref x :: vs) (upd (upd H1 dx (.own x)) x (.ins Ca dx [])) (fun v H2 => v = .non ∧ Q (.ref x) H2) (WE W σ)) I
    ⟨T, F0, σe, g, ds, some st, r, m1, fun F1 H1 xs s1 r1 q1 x dx n1 n2 n3 => ?_⟩) fun us s1 ⟨vs, H1, I1, rv, hsp⟩ => ⟨I1.kIn, ?_⟩) he hpl
  · have hn : xs.length + 1 = ps.length := by rw [← q1.length, evs_len _ _ _ _ _ _ m1, hl]
    exact r1.make q1 hn hc n1 n2 n3 (out_mk s1 m2.symm hout)
  · exact run_makeG M F hG hr hb (passAt tk σ) I1 rv hsp
end
end Pv
end

section
/-! PvXf: try; what a suite reads off its exception. -/
set_option autoImplicit false
namespace Pv
open PySem PySem.Spec PyProof.Rows L2

/-- within an except suite: the name in slot i, the exception at a, what it bears -/
def Ct.sui (C : Ct) (i : Nat) (a : Addr) (xf : Option (Addr × Str × D)) : Ct := { C with slf := some (i, a), xf := xf }
def XF (C : Ct) (c : Nat) (vs : List D) (cls : Value) (d : Option Addr) (xf : Option (Addr × Str × D)) : Prop := ∃ Ca fo, C.xc[c]? = some (Ca, fo) ∧ cls = .ref Ca ∧ match fo with
  | none => d = none ∧ vs = [] ∧ xf = none
  | some f => ∃ dd v, d = some dd ∧ vs = [v] ∧ xf = some (dd, f, v)
section
variable {X : Cx} {C : Ct} {W : WX} {Ow Ow1 Ow' OwL : List Nat} {T : Hp} {F F' : Fz} {σe : Sl} {g g' : G} {σ : L2.St} {H H' : Hp} {i : Nat} {a : Addr} {xf : Option (Addr × Str × D)}
theorem R.outS (h0 : C.slf = none) (h1 : C.xf = none) (r : R (C.sui i a xf) Ow T F σe g σ H) : R C Ow T F σe g σ H :=
  ⟨r.sub, r.sc, r.grow, r.new, r.keep, r.dnew, r.len, r.fz, r.ow, r.inj, r.dk, r.hold, (fun j b e => by rw [h0] at e; cases e), (fun dd f v e => by rw [h1] at e; cases e)⟩
theorem R.inS (r : R C [] T F σe g σ H) (hl : i < σ.length) (hx : ∀ dd f v, xf = some (dd, f, v) → ∃ x, F.h dd = some (.xd [(f, x)]) ∧ Rel C.K F v x) : R (C.sui i a xf) [i] T F (σe.set i none) g (σ.set i (some (.ref a))) H := by
  refine ⟨r.sub, r.sc, r.grow, r.new, r.keep, r.dnew, by rw [List.length_set, List.length_set]; exact r.len, fun j w e n => ?_, fun j w e n => ?_, fun j k b hj hk h1 => ?_, r.dk, fun b o e => ?_, fun j b e _ => ?_, hx⟩
  · have hj : j ≠ i := fun z => n (z ▸ List.mem_singleton.mpr rfl)
    rw [List.getElem?_set_ne (Ne.symm hj)] at e ⊢
    exact r.fz j w e List.not_mem_nil
  · have := List.mem_singleton.mp n
    subst this
    rw [List.getElem?_set] at e
    simp at e
  · have := List.mem_singleton.mp hj
    subst this
    obtain ⟨w, e⟩ := h1
    rw [List.getElem?_set] at e
    simp at e
  · obtain ⟨e1, e2, e3, e4, e5⟩ := r.hold b o e
    refine ⟨e1, e2, e3, e4, fun j w hj z => ?_⟩
    have := List.mem_singleton.mp hj
    subst this
    rw [List.getElem?_set] at z
    simp at z
  · cases e
    rw [List.getElem?_set_self hl]
/-- the suite's term -/
def tSui (C : Ct) (i : Nat) (sel : Nat → Bool) (h : Nat → List D → Sm) : Addr → Value → Option Addr → TS := fun a cls d D σ H => ∃ c vs xf, XF C c vs cls d xf ∧ sel c = true ∧ tSt (C.sui i a xf) (fun _ _ _ _ => False) [i] [] [] (Pv.run C.Φ C.fu (h c vs)) D σ H
theorem XR.toXF {c : Nat} {vs : List D} {cls : Value} {d : Option Addr} (h : XR C F c vs cls d) : ∃ xf, XF C c vs cls d xf ∧ ∀ dd f v, xf = some (dd, f, v) → ∃ x, F.h dd = some (.xd [(f, x)]) ∧ Rel C.K F v x := by
  obtain ⟨Ca, fo, h1, h2, h3⟩ := h
  cases fo with
  | none => exact ⟨none, ⟨Ca, none, h1, h2, h3.1, h3.2, rfl⟩, fun dd f v z => nomatch z⟩
  | some f =>
    obtain ⟨dd, v, x, e1, e2, e3, e4⟩ := h3
    exact ⟨some (dd, f, v), ⟨Ca, some f, h1, h2, dd, v, e1, e2, rfl⟩, fun dd' f' v' z => by cases z; exact ⟨x, e3, e4⟩⟩
theorem Ss.try_as {xh n : Str} {hc : Value} {body suite : List Stmt} {b₀ : Stmt} {np pos pos' : Pos} {mb : Sm} {h : Nat → List D → Sm} (sel : Nat → Bool) (i : Nat)
    (hs : X.stack = X.env :: X.outer) (hf : X.env.frame = some X.env.locals) (hN : X.N.Nodup) (hi : X.N[i]? = some n) (hln : X.env.kindOf n = some .local) (hcn : Names X xh hc) (tk : Takes X W) (h0 : C.slf = none) (hx0 : C.xf = none)
    (hsel : ∀ c Ca fo, C.xc[c]? = some (Ca, fo) → PySem.W.exmOne X.K (.ref Ca) hc = some (sel c))
    (hb : ∀ (W' : WX) (pn : List (Addr × Obj)) (xe : Value → Shared → Prop), Takes (X.tr pn xe) W' → PassesOwn (model X.prog X.w) X.A X.env xe → Sb (X.tr pn xe) C W' Ow Ow1 [] body mb)
    (hsu : ∀ (a : Addr) (oe : Obj) (cls : Value) (d : Option Addr) (pn : List (Addr × Obj)) (c : Nat) (vs : List D) (xf : Option (Addr × Str × D)), Zc cls d oe → (∃ vs, oe.data = .fields vs) → XF C c vs cls d xf → Sb (X.suite a ((a, oe) :: pn)) (C.sui i a xf) (fun _ _ _ _ => False) [i] [] [] (b₀ :: suite) (h c vs)) :
    Ss X C W Ow [] [] (.Try body [.ExceptHandler (some (.Name xh np)) (some n) (b₀ :: suite) pos'] [] [] pos) (.try_ mb sel h (some i)) :=
  ⟨ps_con (ps_try_as (i := i) (tb := fun W' => tSt C W' Ow Ow1 [] (Pv.run C.Φ C.fu mb)) (ts := tSui C i sel h) (Wout := W) hs hf hN hi hln hcn tk (fun W' pn xe tk' po => (hb W' pn xe tk' po).run)
    (fun a oe cls d pn hz hdat => ⟨fun pins s σ H D I ⟨c, vs, xf, hx, _, ht⟩ => (hsu a oe cls d pn c vs xf hz hdat hx).run.run pins s σ H D I ht⟩)) fun D σ H ⟨T, F, σe, g, fl, g', r, m, q⟩ => by
    unfold Pv.run at m
    obtain ⟨fl1, g1, m1, m2⟩ := bind_eq_ok m
    refine ⟨T, F, σe, g, fl1, g1, r, m1, ?_⟩
    cases fl1 with
    | nx σ1 => cases m2; exact fun F' σ' H' s r1 => let ⟨F2, s2, r2⟩ := r1.less (Ow2 := []) (fun j hj => nomatch hj); q F2 σ' H' (s.trans s2) r2
    | bk σ1 => cases m2; exact q
    | ct σ1 => cases m2; exact q
    | rt v => cases m2; exact q
    | ex σ1 c vs =>
      intro F1 Ow2 σ1' H1 cls d s1 r1 xr
      obtain ⟨xf, hXF, hxf⟩ := xr.toXF
      have hX := hXF
      obtain ⟨Ca, fo, e1, e2, _⟩ := hX
      refine ⟨sel c, by rw [e2]; exact hsel c Ca fo e1, fun hsc a ha => ?_, fun hsc => ?_⟩
      · have m2 : (if sel c = true then if okI (some i) σ1 = true then (Pv.run C.Φ C.fu (h c vs) (clr (some i) σ1) g1).bind (clrF (some i)) else .no else .ok (.ex σ1 c vs) g1) = .ok fl g' := m2
        rw [if_pos hsc] at m2
        have hok : okI (some i) σ1 = true := by
          cases z : okI (some i) σ1 with
          | true => rfl
          | false => rw [z] at m2; cases m2
        rw [if_pos hok] at m2
        obtain ⟨fl2, g2, m3, m4⟩ := bind_eq_ok m2
        obtain ⟨F2, s2, r2⟩ := r1.less (Ow2 := []) (fun j hj => nomatch hj)
        have hl : i < σ1'.length := by
          rw [← r1.len]
          exact of_decide_eq_true hok
        refine ⟨c, vs, xf, hXF, hsc, T, F2, σ1.set i none, g1, fl2, g2, r2.inS hl (fun dd f v z => let ⟨x, q1, q2⟩ := hxf dd f v z; ⟨x, s2.h _ _ q1, q2.mono s2 _ _⟩), m3, ?_⟩
        cases fl2 with
        | nx σ3 =>
          cases m4
          exact fun F3 σ3' H3 s3 r3 => q F3 _ H3 (s1.trans (s2.trans s3)) ((r3.outS h0 hx0).wipe1 List.not_mem_nil)
        | bk σ3 =>
          cases m4
          exact fun F3 σ3' H3 s3 r3 => q F3 _ H3 (s1.trans (s2.trans s3)) ((r3.outS h0 hx0).wipe1 List.not_mem_nil)
        | ct σ3 =>
          cases m4
          exact fun F3 σ3' H3 s3 r3 => q F3 _ H3 (s1.trans (s2.trans s3)) ((r3.outS h0 hx0).wipe1 List.not_mem_nil)
        | rt v =>
          cases m4
          exact fun F3 Ow3 σe3 σ3 H3 x s3 r3 h3 => q F3 Ow3 σe3 σ3 H3 x (s1.trans (s2.trans s3)) (r3.outS h0 hx0) h3
        | ex σ3 c3 vs3 => cases m4
      · have m2 : (if sel c = true then if okI (some i) σ1 = true then (Pv.run C.Φ C.fu (h c vs) (clr (some i) σ1) g1).bind (clrF (some i)) else .no else .ok (.ex σ1 c vs) g1) = .ok fl g' := m2
        rw [if_neg (by rw [hsc]; exact Bool.false_ne_true)] at m2
        cases m2
        exact q F1 Ow2 σ1' H1 cls d s1 r1 xr⟩
/-- except X: without a name -/
theorem Ss.try_on {xh : Str} {hc : Value} {body suite : List Stmt} {b₀ : Stmt} {np pos pos' : Pos} {mb : Sm} {h : Nat → List D → Sm} (sel : Nat → Bool)
    (hs : X.stack = X.env :: X.outer) (hf : X.env.frame = some X.env.locals) (hcn : Names X xh hc) (tk : Takes X W)
    (hsel : ∀ c Ca fo, C.xc[c]? = some (Ca, fo) → PySem.W.exmOne X.K (.ref Ca) hc = some (sel c))
    (hb : ∀ (W' : WX) (pn : List (Addr × Obj)) (xe : Value → Shared → Prop), Takes (X.tr pn xe) W' → PassesOwn (model X.prog X.w) X.A X.env xe → Sb (X.tr pn xe) C W' Ow Ow1 [] body mb)
    (hsu : ∀ (a : Addr) (oe : Obj) (cls : Value) (d : Option Addr) (pn : List (Addr × Obj)) (c : Nat) (vs : List D), Sb (X.suite a ((a, oe) :: pn)) C (fun _ _ _ _ => False) [] [] [] (b₀ :: suite) (h c vs)) :
    Ss X C W Ow [] [] (.Try body [.ExceptHandler (some (.Name xh np)) none (b₀ :: suite) pos'] [] [] pos) (.try_ mb sel h none) :=
  ⟨ps_con (ps_try_only (tb := fun W' => tSt C W' Ow Ow1 [] (Pv.run C.Φ C.fu mb)) (ts := fun a cls d D σ H => ∃ c vs, tSt C (fun _ _ _ _ => False) [] [] [] (Pv.run C.Φ C.fu (h c vs)) D σ H) (Wout := W) hs hf hcn tk (fun W' pn xe tk' po => (hb W' pn xe tk' po).run)
    (fun a oe cls d pn hz hdat => ⟨fun pins s σ H D I ⟨c, vs, ht⟩ => (hsu a oe cls d pn c vs).run.run pins s σ H D I ht⟩)) fun D σ H ⟨T, F, σe, g, fl, g', r, m, q⟩ => by
    unfold Pv.run at m
    obtain ⟨fl1, g1, m1, m2⟩ := bind_eq_ok m
    refine ⟨T, F, σe, g, fl1, g1, r, m1, ?_⟩
    cases fl1 with
    | nx σ1 => cases m2; exact fun F' σ' H' s r1 => let ⟨F2, s2, r2⟩ := r1.less (Ow2 := []) (fun j hj => nomatch hj); q F2 σ' H' (s.trans s2) r2
    | bk σ1 => cases m2; exact q
    | ct σ1 => cases m2; exact q
    | rt v => cases m2; exact q
    | ex σ1 c vs =>
      intro F1 Ow2 σ1' H1 cls d s1 r1 xr
      have hX := xr
      obtain ⟨Ca, fo, e1, e2, _⟩ := hX
      refine ⟨sel c, by rw [e2]; exact hsel c Ca fo e1, fun hsc a ha => ?_, fun hsc => ?_⟩
      · have m2 : (if sel c = true then if okI none σ1 = true then (Pv.run C.Φ C.fu (h c vs) (clr none σ1) g1).bind (clrF none) else .no else .ok (.ex σ1 c vs) g1) = .ok fl g' := m2
        rw [if_pos hsc, if_pos (show okI none σ1 = true from rfl)] at m2
        obtain ⟨fl2, g2, m3, m4⟩ := bind_eq_ok m2
        obtain ⟨F2, s2, r2⟩ := r1.less (Ow2 := []) (fun j hj => nomatch hj)
        refine ⟨c, vs, T, F2, σ1, g1, fl2, g2, r2, m3, ?_⟩
        cases fl2 with
        | nx σ3 => cases m4; exact fun F3 σ3' H3 s3 r3 => q F3 _ H3 (s1.trans (s2.trans s3)) r3
        | bk σ3 => cases m4; exact fun F3 σ3' H3 s3 r3 => q F3 _ H3 (s1.trans (s2.trans s3)) r3
        | ct σ3 => cases m4; exact fun F3 σ3' H3 s3 r3 => q F3 _ H3 (s1.trans (s2.trans s3)) r3
        | rt v => cases m4; exact fun F3 Ow3 σe3 σ3 H3 x s3 r3 h3 => q F3 Ow3 σe3 σ3 H3 x (s1.trans (s2.trans s3)) r3 h3
        | ex σ3 c3 vs3 => cases m4
      · have m2 : (if sel c = true then if okI none σ1 = true then (Pv.run C.Φ C.fu (h c vs) (clr none σ1) g1).bind (clrF none) else .no else .ok (.ex σ1 c vs) g1) = .ok fl g' := m2
        rw [if_neg (by rw [hsc]; exact Bool.false_ne_true)] at m2
        cases m2
        exact q F1 Ow2 σ1' H1 cls d s1 r1 xr⟩
/-! ### the exception in a suite -/
theorem es_stuck {e : Expr} {is : Exs} : Es X C Ow e (.idx (.c .none) (.c .none)) := ⟨⟨fun pins s σ H Q I ⟨T, F, σe, g, v, g', r, m, q⟩ => by
  unfold ev at m
  simp [ev, idxV] at m⟩⟩
structure XcR (K : PySem.W.Frag) (Ca : Addr) (f : Str) : Prop where
  t : XfC K Ca
  no : PySem.W.findIn K (.ref Ca) f = some none
theorem Es.xfR {n f : Str} {np pos : Pos} {oe : Obj} {cls : Value} {d : Option Addr} {pn : List (Addr × Obj)} {c : Nat} {vs : List D} (xt : List (Option Str)) (hxt : C.xc.map (·.2) = xt) (hz : Zc cls d oe) (hdat : ∃ vs, oe.data = .fields vs) (hx : XF C c vs cls d xf)
    (hR : ∀ (c : Nat) (Ca : Addr), C.xc[c]? = some (Ca, some f) → XcR X.K Ca f) (hi : i ∈ Ow) (hN : X.N[i]? = some n) (hv : Vis X.env.scope n) (hd : (n == ("__debug__" : Str)) = false) (hcd : (n == ("__classdict__" : Str)) = false)
    (hb : attributeBase (.Name n np) f X.env (eval (.Name n np) X.env) = eval (.Name n np) X.env) :
    Es (X.suite a ((a, oe) :: pn)) (C.sui i a xf) Ow (.Attribute (.Name n np) f pos) (xfE xt c vs f) := by
  subst hxt
  obtain ⟨Ca, fo, e1, e2, e3⟩ := hx
  unfold xfE
  split
  · rename_i hc
    rw [List.getElem?_map, e1] at hc
    cases hc
    obtain ⟨dd, v, z1, z2, z3⟩ := e3
    have z := hR c Ca e1
    have pv : PE (X.suite a ((a, oe) :: pn)) (.Name n np) _ := pe_var (i := i) hN hv hd hcd
    refine ⟨pe_con (pe_xf (n := f) z.t z.no hz hdat pv hb) fun σ H Q ⟨T, F, σe, g, w, g', r, m, q⟩ => ?_⟩
    unfold ev at m
    cases m
    obtain ⟨x, q1, q2⟩ := r.xf dd f v z3
    refine ⟨_, r.slf i a rfl hi, rfl, e2, dd, [(f, x)], x, z1, r.sub _ _ q1, by rw [List.lookup_cons, beq_self_eq_true], q F H x (.refl F) r ?_⟩
    rw [z2]
    exact q2
  · exact es_stuck (is := .nil)
/-- isinstance of the handled exception -/
structure XcI (K : PySem.W.Frag) (Ca : Addr) : Prop where
  t : ExcC K Ca
def rIsX (K : PySem.W.Frag) (a : Addr) (cls : Value) (d : Option Addr) : List V → Hp → VK → Prop := fun xs H Q => ∃ Ca c cv b, xs = [V.ref a, c] ∧ cls = .ref Ca ∧ (∀ u, RelV c u → u = cv) ∧ ExcC K Ca ∧ PySem.W.kitOne K (.ref Ca) cv = some b ∧ (d = none ∨ ∃ dd fs, d = some dd ∧ H dd = some (.xd fs)) ∧ Q (.bl b) H
open PySem.W PySem.Calls PySem.HandSPX in
theorem call_isX {oe : Obj} {cls : Value} {d : Option Addr} {pn : List (Addr × Obj)} (hz : Zc cls d oe) (hdat : ∃ vs, oe.data = .fields vs) : CallR (X.suite a ((a, oe) :: pn)) (.builtin "isinstance") (rIsX X.K a cls d) := by
  intro pins s σ H xs us Q I rv h
  obtain ⟨Ca, c, cv, b, e1, e2, e3, E, hk, hd, q⟩ := h
  subst e1; subst e2
  obtain ⟨u1, u2, rfl, r1, r2⟩ : ∃ u1 u2, us = [u1, u2] ∧ RelV (V.ref a) u1 ∧ RelV c u2 := by
    cases rv with
    | cons r1 rest =>
      cases rest with
      | cons r2 rest2 =>
        cases rest2
        exact ⟨_, _, rfl, r1, r2⟩
  obtain rfl : u1 = Value.ref a := r1
  obtain rfl := e3 _ r2
  obtain ⟨ha, _⟩ := I.pin (a, oe) (List.mem_append_left _ List.mem_cons_self)
  obtain ⟨vs, hdv⟩ := hdat
  have hcls : (PySem.W.clsIn X.K Ca).isSome = true := by
    have := E.hm
    unfold PySem.W.mroIn at this
    cases z : PySem.W.clsIn X.K Ca with
    | none => rw [z] at this; cases this
    | some cd => rfl
  obtain ⟨od, inst⟩ : ∃ od, PySem.W.InstAt s.heap a oe Ca od := by
    have no : PySem.W.notCls oe = true := by unfold PySem.W.notCls; rw [hdv] <;> rfl
    rcases hd with hd | ⟨dd, fs, hd, hfs⟩
    · exact ⟨none, ha, hz.1, no, by rw [hz.2, hd]; trivial⟩
    · obtain ⟨mA, hns, _⟩ := (show ObjOk X.prog X.w H s.heap dd (.xd fs) from I.hok dd _ hfs)
      obtain ⟨od, ho, _⟩ := lookIn_ns hns
      exact ⟨some od, ha, hz.1, no, by rw [hz.2, hd]; exact ho⟩
  have kit := kitx_exc (x := a) (ox := oe) (od := od) (gt := none) hcls E.hg E.hk E.hs E.ha E.hn E.ht E.hm
  exact kia_one kit I.kIn inst hk (fun z => nomatch z) fun tk => ⟨.bl b, H, I.tok _, rfl, q⟩
theorem Es.xiR {n tn : Str} {np tp p pos : Pos} {oe : Obj} {cls : Value} {d : Option Addr} {pn : List (Addr × Obj)} {c : Nat} {vs : List D} {Tc : Addr} (bt : List Bool) (hz : Zc cls d oe) (hdat : ∃ vs, oe.data = .fields vs) (hx : XF C c vs cls d xf)
    (hR : ∀ (c : Nat) (Ca : Addr) (fo : Option Str), C.xc[c]? = some (Ca, fo) → ExcC X.K Ca ∧ PySem.W.kitOne X.K (.ref Ca) (.ref Tc) = some (bt.getD c false)) (hi : i ∈ Ow) (hN : X.N[i]? = some n) (hv : Vis X.env.scope n) (hd : (n == ("__debug__" : Str)) = false) (hcd : (n == ("__classdict__" : Str)) = false)
    (hg : Gl X "isinstance") (hm : X.mg "isinstance" = none) (hvi : bootBuiltins "isinstance" = some (.builtin "isinstance")) (hg2 : Gl X tn) (hm2 : X.mg tn = some (.ref Tc)) (hd2 : (tn == ("__debug__" : Str)) = false)
    (he : starEach [.Name n np, .Name tn tp] X.env = (false, eval (.Name n np) X.env) :: starEach [.Name tn tp] X.env) (he2 : starEach [.Name tn tp] X.env = (false, eval (.Name tn tp) X.env) :: starEach [] X.env) (hpl : (backTo pos (starEach [.Name tn tp] X.env)).any (·.1) = false) :
    Es (X.suite a ((a, oe) :: pn)) (C.sui i a xf) Ow (.Call (.Name "isinstance" p) [.Name n np, .Name tn tp] [] pos) (xiE bt c) := by
  obtain ⟨Ca, fo, e1, e2, e3⟩ := hx
  obtain ⟨E, hk⟩ := hR c Ca fo e1
  have pv : PE (X.suite a ((a, oe) :: pn)) (.Name n np) _ := pe_var (i := i) hN hv hd hcd
  have pg : PE (X.suite a ((a, oe) :: pn)) (.Name tn tp) _ := pe_glob (v := .ref Tc) hg2 hm2 rfl hd2
  refine ⟨pe_con (pe_callB (call_isX hz hdat) hg hm hvi (pa_cons pv (pa_cons pg pa_nil he2) he) (by decide) (by decide) he hpl) fun σ H Q ⟨T, F, σe, g, w, g', r, m, q⟩ => ?_⟩
  unfold ev xiE at m
  cases m
  refine ⟨_, r.slf i a rfl hi, Ca, .ref Tc, .ref Tc, _, rfl, e2, fun u hu => hu, E, hk, ?_, q F H _ (.refl F) r rel_bl⟩
  cases fo with
  | none => exact .inl e3.1
  | some f =>
    obtain ⟨dd, v, z1, z2, z3⟩ := e3
    obtain ⟨x, q1, q2⟩ := r.xf dd f v z3
    exact .inr ⟨dd, _, z1, r.sub _ _ q1⟩
/-- what an except clause, and isinstance, ask of the written part -/
theorem kitc_of {K : PySem.W.Frag} {Cb : Addr} {t : Value} {b : Bool} (h2 : PySem.W.isClsIn K Cb = true) (h3 : PySem.W.typeIn K (.ref Cb) = some (.type "type")) (h4 : PySem.W.subIn K t (.ref Cb) = some b) : PySem.W.kitCls K t (.ref Cb) = some b := by
  have e2 : ((PySem.W.clsIn K Cb).isSome && PySem.W.typeIn K (.ref Cb) == some (.type "type")) = true := by
    have h2' : (PySem.W.clsIn K Cb).isSome = true := h2
    rw [h2', h3] <;> rfl
  show (if ((PySem.W.clsIn K Cb).isSome && PySem.W.typeIn K (.ref Cb) == some (.type "type")) = true then PySem.W.subIn K t (.ref Cb) else none) = some b
  rw [if_pos e2]
  exact h4
theorem exm_of2 {K : PySem.W.Frag} {Ca Cb : Addr} {b : Bool} (h1 : PySem.W.subIn K (.ref Cb) (.type "BaseException") = some true) (h2 : PySem.W.isClsIn K Cb = true) (h3 : PySem.W.typeIn K (.ref Cb) = some (.type "type")) (h4 : PySem.W.subIn K (.ref Ca) (.ref Cb) = some b) : PySem.W.exmOne K (.ref Ca) (.ref Cb) = some b := by
  have e1 : (PySem.W.subIn K (.ref Cb) (.type "BaseException") == some true) = true := by rw [h1] <;> rfl
  show (if (PySem.W.subIn K (.ref Cb) (.type "BaseException") == some true) = true then PySem.W.kitCls K (.ref Ca) (.ref Cb) else none) = some b
  rw [if_pos e1]
  exact kitc_of h2 h3 h4
theorem kit_of2 {K : PySem.W.Frag} {Ca Cb : Addr} {b : Bool} (h2 : PySem.W.isClsIn K Cb = true) (h3 : PySem.W.typeIn K (.ref Cb) = some (.type "type")) (hs : PySem.W.subIn K (.ref Cb) (.ref Cb) = some true) (h4 : PySem.W.subIn K (.ref Ca) (.ref Cb) = some b) : PySem.W.kitOne K (.ref Ca) (.ref Cb) = some b := by
  show (if (Value.ref Ca == Value.ref Cb) = true then some true else PySem.W.kitCls K (.ref Ca) (.ref Cb)) = some b
  split
  · rename_i e
    have e := beq_iff_eq.mp e
    cases e
    rw [hs] at h4
    exact h4
  · exact kitc_of h2 h3 h4
end
end Pv
end

section
/-! PvOe: == and != by a class's own __eq__; dict(pairs). -/
set_option autoImplicit false
namespace Pv
open PySem PySem.Spec PyProof.Rows L2

section
variable {M : Model} {prog : Program} {w : World} {A : Around} {E : Value → Shared → Prop} {s : Shared} {K : PySem.W.Frag} {x C f : Addr} {y : Value} {ox : Obj} {od : Option Obj}
theorem oe_bound {args : List Value} {Q : Option Value → Shared → Prop} (X : K.In s.heap) (I : PySem.W.InstAt s.heap x ox C od) (hs : PySem.W.findIn K (.ref C) "__ne__" = some (some (.builtin "object.__ne__")))
    (h : wpAny M A (call (.builtin "object.__ne__") (.ref x :: args)) (fun v => Q (some v)) E s) : wpAny M A (callSpecialIfBound? (.ref x) "__ne__" args) Q E s := by
  simp only [callSpecialIfBound?, bindSpecialIfBound?]
  refine wpAny_holding (wpAny_bind (wpAny_bind (wpAny_bind (I.type.here ((PySem.W.looks_findIn X hs).here ?_)))))
  refine wpAny_bind (wpAny_askSetting (wpAny_ite ?_))
  have fin : wpAny M A (call (.builtin "object.__ne__") ([.ref x] ++ args) >>= fun v => pure (some v)) Q E s := wpAny_bind (wpAny_mono h (fun v s' h' => wpAny_pure h') fun _ _ h' => h')
  split
  · exact wpAny_bind (wpAny_of_eq (PySem.F.cmp_object.ne.bind _) (wpAny_pure (by exact fin)))
  · exact wpAny_tryCatch (wpAny_bind (wpAny_of_eq (PySem.F.cmp_object.ne.bind _) (wpAny_pure (by exact fin))))
theorem oe_entry (X : K.In s.heap) (I : PySem.W.InstAt s.heap x ox C od) (he : PySem.W.findIn K (.ref C) "__eq__" = some (some (.ref f))) (hf : PySem.W.isFn K (.ref f) = true) (hu : A.units < cLine) {Q : Fin → Shared → Prop}
    (hcall : wpAny M A (call (.ref f) [.ref x, y]) (fun v s' => ∃ b, v = .bool b ∧ Q (.done (.ret (.bool (!b)))) s') E s) :
    wpAny M A (Builtin.«object.__ne__» ⟨[.ref x, y], []⟩) Q E s := by
  unfold Builtin.«object.__ne__»
  repeat (first
    | with_reducible refine wpAny_cRoomFor hu ?_
    | (refine wpAny_bind (m := callSpecialIfBound? (.ref x) (Str.ofString "__eq__") [y])
        (PySem.W.ifBound_K X I he hf (wpAny_mono hcall (fun r s' hr => by
          obtain ⟨b, rfl, hq⟩ := hr
          repeat (first | exact hq | exact wpAny_pure hq | exact wpAny_truthy_bool hq | (refine wpAny_bind (m := truthy (.bool _)) (wpAny_truthy_bool ?_)) | wp_step)) fun _ _ e => e)))
    | wp_step)
theorem oe_call (X : K.In s.heap) (I : PySem.W.InstAt s.heap x ox C od) (hm : PySem.W.mroIn K C (.type "object") = some true) (he : PySem.W.findIn K (.ref C) "__eq__" = some (some (.ref f))) (hf : PySem.W.isFn K (.ref f) = true) (hu : A.units + 1 < cLine) {Q : Value → Shared → Prop}
    (hcall : wpAny (model prog w) A.in1 (call (.ref f) [.ref x, y]) (fun v s' => ∃ b, v = .bool b ∧ Q (.bool (!b)) s') E s) :
    wpAny (model prog w) A (call (.builtin "object.__ne__") [.ref x, y]) Q E s :=
  wpAny_call (codeAny_call_builtin PySem.F.cmp_object.ne.plain PySem.F.cmpEntry_ne (PySem.W.check_slot PySem.F.cmpKind_ne PySem.F.cmpSplit_ne (I.type.andThen (PySem.W.looks_mroIn X hm)) (PySem.F.cmpArgs_ne _ _)
    (oe_entry (A := A.in1) X I he hf hu (wpAny_mono hcall (fun v s' hv => by
      obtain ⟨b, rfl, hq⟩ := hv
      exact ⟨b, rfl, hq⟩) fun _ _ e => e))))
/-- x != y, the class of both with its own __eq__ and object's __ne__ -/
theorem oe_ne {y : Addr} {oy : Obj} {od' : Option Obj} (X : K.In s.heap) (I : PySem.W.InstAt s.heap x ox C od) (J : PySem.W.InstAt s.heap y oy C od') (hm : PySem.W.mroIn K C (.type "object") = some true) (hs : PySem.W.findIn K (.ref C) "__ne__" = some (some (.builtin "object.__ne__")))
    (he : PySem.W.findIn K (.ref C) "__eq__" = some (some (.ref f))) (hf : PySem.W.isFn K (.ref f) = true) (hu : A.units + 1 < cLine) {Q : Value → Shared → Prop}
    (hcall : wpAny (model prog w) A.in1 (call (.ref f) [.ref x, .ref y]) (fun v s' => ∃ b, v = .bool b ∧ Q (.bool (!b)) s') E s) :
    wpAny (model prog w) A (richCompare .NotEq (.ref x) (.ref y)) Q E s := by
  have one : wpAny (model prog w) A (tryCompare (.ref x) "__ne__" (.ref y)) (fun r s' => ∃ v, r = some v ∧ Q v s') E s := by
    unfold tryCompare
    refine wpAny_bind (oe_bound X I hs (oe_call X I hm he hf hu (wpAny_mono hcall (fun v s' hv => ?_) fun _ _ e => e)))
    obtain ⟨b, rfl, hq⟩ := hv
    exact ⟨b, rfl, wpAny_pure ⟨_, rfl, hq⟩⟩
  unfold richCompare
  simp only [oneThing_ref]
  refine wpAny_holding ?_
  refine wpAny_bind (wpAny_cRoomFor (Nat.lt_of_succ_lt hu) ?_)
  rw [cmpInfo_NotEq]
  dsimp only
  refine wpAny_bind (I.type.here (wpAny_bind (J.type.here ?_)))
  rw [show (Value.ref C != Value.ref C) = false from by simp]
  simp only [Bool.false_eq_true, if_false]
  refine wpAny_bind (wpAny_pure ?_)
  simp only [Bool.false_eq_true, if_false]
  refine wpAny_bind (wpAny_mono one (fun r s' z => ?_) fun _ _ e => e)
  obtain ⟨v, rfl, hq⟩ := z
  first | exact wpAny_pure hq | exact hq
end

section
variable {X : Cx} {C : Ct} {Ow : List Nat} {a b : Expr} {ia ib : Ex} {pos : Pos} {CX : CXT} {E : XK} {k : Nat} {f Ca : Addr} {nm : List Str} {fd : FuncData} {ps : List Str}
theorem run_fnG1 {pins : List (Addr × Obj)} {σ : L2.St} {H : Hp} {s : Shared} {Q : VK} {us : List Value} {vs : List V} {sp : Sp} {args : Args} {A : Around} (F : FnG X.prog X.w X.K X.mg X.base CX k f fd ps sp) (hG : A.guards = some []) (hfr : A.frames = X.A.frames) (hr : Room k A) (hx : PassesAt CX X σ E)
    (I : Inv X pins σ H s) (hb : BindsTo s fd args (ps.zip us)) (r : Vals vs us) (h : sp vs H Q E) : codeAny (model X.prog X.w) A (.call (.ref f) args) (fun r s' => match r with
      | .ok (.ret u) => EP X pins σ Q u s'
      | .ok _ => False
      | .error e => X.xe e s') s := by
  have e0 : Env0 X.prog X.w X.K X.mg X.base A X.stack s H := by
    have e := I.env0
    exact ⟨by rw [hfr]; exact e.frames, e.mod, e.bs, e.bsz, e.funs, e.frf, e.hok, e.bare⟩
  refine codeAny_mono (F.run A X.stack s H args us vs Q E hG hr e0 hb r h) fun r s' hq => ?_
  cases r with
  | error e => exact hx pins H s e s' I hq
  | ok fl =>
    cases fl with
    | ret u => exact I.after hq
    | next => exact False.elim hq
    | brk => exact False.elim hq
    | cont => exact False.elim hq
/-- what an own == answers, between two objects of the class at Ca -/
def rOwn (C : Ct) (fi : Nat) (Ca : Addr) (neg : Bool) (E : XK) : R2 := fun x y H Q => ∃ p q dx dy fs gs, x = .ref p ∧ y = .ref q ∧ H p = some (.ins Ca dx fs) ∧ H q = some (.ins Ca dy gs) ∧ spS C (C.Φ fi) 2 [.ref p, .ref q] H (fun v H' => ∃ z, v = .bl z ∧ Q (.bl (z != neg)) H') E
theorem op_ownNe (fi : Nat) (hps : ps.length = 2) (F : FnG X.prog X.w X.K X.mg X.base CX k f fd ps (spS C (C.Φ fi) ps.length)) (hG : X.A.guards = some []) (hr : Room (k + 1) X.A) (hx : Passes CX X E) (hb : Binds X.K fd ps [])
    (he : PySem.W.findIn X.K (.ref Ca) "__eq__" = some (some (.ref f))) (hf : PySem.W.isFn X.K (.ref f) = true) (hm : PySem.W.mroIn X.K Ca (.type "object") = some true) (hs : PySem.W.findIn X.K (.ref Ca) "__ne__" = some (some (.builtin "object.__ne__"))) :
    OpR X (compareOp .NotEq) (rOwn C fi Ca true E) := by
  intro pins s σ H x y u v Q I rx ry h
  obtain ⟨p, q, dx, dy, fs, gs, rfl, rfl, hp, hq, hsp⟩ := h
  cases rx
  cases ry
  obtain ⟨mA, O, _⟩ := ins_get I.hok hp
  obtain ⟨od, J, _⟩ := O.look
  obtain ⟨mB, O', _⟩ := ins_get I.hok hq
  obtain ⟨od', J', _⟩ := O'.look
  have hu : X.A.units + 1 < cLine := Pv.Room.u1 hr
  show wpAny (model X.prog X.w) X.A (richCompare .NotEq (.ref p) (.ref q)) (EP X pins σ Q) X.xe s
  refine oe_ne I.kIn J J' hm hs he hf hu ?_
  have r2 : Vals [V.ref p, V.ref q] [Value.ref p, Value.ref q] := .cons rfl (.cons rfl .nil)
  have bt := hb s [.ref p, .ref q] I.kIn (by simpa using hps.symm)
  rw [List.append_nil] at bt
  rw [← hps] at hsp
  refine wpAny_call (codeAny_mono (run_fnG1 (A := X.A.in1) F hG rfl hr.in1 (passAtOf hx) I bt r2 hsp) fun r s' hq => ?_)
  cases r with
  | error e => exact hq
  | ok fl =>
    cases fl with
    | ret u =>
      obtain ⟨v, H', I', rv, z, ez, qz⟩ := hq
      subst ez
      cases rv
      exact ⟨z, rfl, .bl (!z), H', I', rfl, by rw [show (!z) = (z != true) by cases z <;> rfl]; exact qz⟩
    | next => exact False.elim hq
    | brk => exact False.elim hq
    | cont => exact False.elim hq
/-- what an own == needs of the top -/
structure OwnOk (K : PySem.W.Frag) (Ca f : Addr) : Prop where
  eq : PySem.W.findIn K (.ref Ca) "__eq__" = some (some (.ref f))
  fn : PySem.W.isFn K (.ref f) = true
  mro : PySem.W.mroIn K Ca (.type "object") = some true
  ne : PySem.W.findIn K (.ref Ca) "__ne__" = some (some (.builtin "object.__ne__"))
theorem own_core {T : Hp} {F : Fz} {σe : Sl} {g g' : G} {v : D} {σ : L2.St} {H : Hp} {P : VK} (cn fi : Nat) (hc : C.sc.2[cn]? = some (Ca, nm)) (r : R C Ow T F σe g σ H) (m : ev C.Φ (.own cn fi true ia ib) σe g = .ok v g')
    (q : ∀ (F' : Fz) (H' : Hp) (z : Bool), v = .bool z → Fsub F F' → R C Ow T F' σe g' σ H' → P (.bl z) H') : tOp (rOwn C fi Ca true E) (tS C Ow (ev C.Φ ia)) (tS C Ow (ev C.Φ ib)) σ H P := by
  unfold ev at m
  obtain ⟨d1, g1, m1, m2⟩ := bind_eq_ok m
  obtain ⟨d2, g2, m3, m4⟩ := bind_eq_ok m2
  split at m4
  · rename_i hob
    simp only [Bool.and_eq_true] at hob
    obtain ⟨rr, gr, m5, m6⟩ := bind_eq_ok m4
    cases rr with
    | bool z =>
      cases m6
      obtain ⟨r1, e1⟩ := isOb_eq hob.1
      obtain ⟨r2, e2⟩ := isOb_eq hob.2
      refine ⟨T, F, σe, g, d1, g1, r, m1, fun F1 H1 x s1 ra h1 => ⟨T, F1, σe, g1, d2, g2, ra, m3, fun F2 H2 y s2 rb h2 => ?_⟩⟩
      have h1' := h1.mono s2 _ _
      have h1s := h1'.sh rb.sub
      have h2s := h2.sh rb.sub
      rw [e1] at h1s
      rw [e2] at h2s
      obtain ⟨c', Cn, p, dx, fs, ec, rfl, z1, z2, z3, z4⟩ := sh_obj h1s
      have ec : cn = c' := by omega
      subst ec
      rw [rb.sc, hc] at z1
      cases z1
      obtain ⟨c', Cn, p', dx', fs', ec, rfl, z1, z2', z3', z4'⟩ := sh_obj h2s
      have ec : cn = c' := by omega
      subst ec
      rw [rb.sc, hc] at z1
      cases z1
      refine ⟨p, p', dx, dx', fs, fs', rfl, rfl, z2, z2', rb.call (.cons h1' (.cons h2 .nil)) rfl m5 fun F' H' x s3 r3 q3 => ?_⟩
      unfold Rel at q3
      subst q3
      exact ⟨z, rfl, q F' H' _ rfl (s1.trans (s2.trans s3)) r3⟩
    | _ => cases m6
  · cases m4
theorem Es.ownNe (cn fi : Nat) (hc : C.sc.2[cn]? = some (Ca, nm)) (hps : ps.length = 2) (F : FnG X.prog X.w X.K X.mg X.base CX k f fd ps (spS C (C.Φ fi) ps.length)) (hG : X.A.guards = some []) (hr : Room (k + 1) X.A) (hx : Passes CX X E) (hb : Binds X.K fd ps [])
    (hO : OwnOk X.K Ca f) (ha : Es X C Ow a ia) (hb2 : Es X C Ow b ib) (h1 : behindInMarks .NotEq b = false) : Es X C Ow (.Compare a [.NotEq] [b] pos) (.own cn fi true ia ib) :=
  ⟨pe_con (pe_cmpR (op_ownNe (Ca := Ca) fi hps F hG hr hx hb hO.eq hO.fn hO.mro hO.ne) ha.run hb2.run h1) fun σ H Q ⟨T, F0, σe, g, v, g', r, m, q⟩ =>
    own_core cn fi hc r m fun F' H' z e s r' => q F' H' _ s r' (by rw [e]; unfold Rel; rfl)⟩
theorem Et.ownNe (cn fi : Nat) (hc : C.sc.2[cn]? = some (Ca, nm)) (hps : ps.length = 2) (F : FnG X.prog X.w X.K X.mg X.base CX k f fd ps (spS C (C.Φ fi) ps.length)) (hG : X.A.guards = some []) (hr : Room (k + 1) X.A) (hx : Passes CX X E) (hb : Binds X.K fd ps [])
    (hO : OwnOk X.K Ca f) (ha : Es X C Ow a ia) (hb2 : Es X C Ow b ib) (h1 : behindInMarks .NotEq b = false) : Et X C Ow (.Compare a [.NotEq] [b] pos) (.own cn fi true ia ib) :=
  ⟨pt_con (pt_cmpR (op_ownNe (Ca := Ca) fi hps F hG hr hx hb hO.eq hO.fn hO.mro hO.ne) ha.run hb2.run h1) fun σ H Q ⟨T, F0, σe, g, v, g', r, m, q⟩ =>
    own_core cn fi hc r m fun F' H' z e s r' => by
      cases e
      exact ⟨_, rfl, q F' H' s r'⟩⟩

/-! ### isinstance, the class an own one -/
theorem kitT_of {K : PySem.W.Frag} {Cb : Addr} {T : String} (h2 : PySem.W.isClsIn K Cb = true) (h3 : PySem.W.typeIn K (.ref Cb) = some (.type "type")) (hT : T ∈ ["NoneType", "bool", "int", "str", "list", "tuple", "dict"]) : PySem.W.kitOne K (.type T) (.ref Cb) = some false := by
  have sub : PySem.W.subIn K (.type T) (.ref Cb) = some false := by
    show (fastBuiltinMro T).map (·.contains (.ref Cb)) = some false
    simp only [List.mem_cons, List.not_mem_nil, or_false] at hT
    rcases hT with rfl | rfl | rfl | rfl | rfl | rfl | rfl
    · rw [show fastBuiltinMro "NoneType" = some [.type "NoneType", .type "object"] by decide +kernel]; simp
    · rw [show fastBuiltinMro "bool" = some [.type "bool", .type "int", .type "object"] by decide +kernel]; simp
    · rw [show fastBuiltinMro "int" = some [.type "int", .type "object"] by decide +kernel]; simp
    · rw [show fastBuiltinMro "str" = some [.type "str", .type "object"] by decide +kernel]; simp
    · rw [show fastBuiltinMro "list" = some [.type "list", .type "object"] by decide +kernel]; simp
    · rw [show fastBuiltinMro "tuple" = some [.type "tuple", .type "object"] by decide +kernel]; simp
    · rw [show fastBuiltinMro "dict" = some [.type "dict", .type "object"] by decide +kernel]; simp
  show (if (Value.type T == Value.ref Cb) = true then some true else PySem.W.kitCls K (.type T) (.ref Cb)) = some false
  rw [if_neg (by simp)]
  exact kitc_of h2 h3 sub
theorem tyN_mem (d : D) : tyN d ∈ ["NoneType", "bool", "int", "str", "list", "tuple", "dict"] := by
  cases d <;> simp [tyN]
theorem Es.isO {tn : Str} {Tc : Addr} {p np : Pos} (c : Nat) (hK : X.K = C.K) (hin : ∀ Cn ∈ C.sc.2, InsOk X.K Cn.1) (hO : ∀ (j : Nat) (Cn : Addr × List Str), C.sc.2[j]? = some Cn → PySem.W.kitOne X.K (.ref Cn.1) (.ref Tc) = some (decide (j = c)))
    (hT : ∀ T ∈ ["NoneType", "bool", "int", "str", "list", "tuple", "dict"], PySem.W.kitOne X.K (.type T) (.ref Tc) = some false)
    (hg : Gl X "isinstance") (hm : X.mg "isinstance" = none) (hvi : bootBuiltins "isinstance" = some (.builtin "isinstance")) (hg2 : Gl X tn) (hm2 : X.mg tn = some (.ref Tc)) (hd2 : (tn == ("__debug__" : Str)) = false)
    (ha : Eb X C Ow a ia) (he : starEach [a, .Name tn np] X.env = (false, eval a X.env) :: starEach [.Name tn np] X.env) (he2 : starEach [.Name tn np] X.env = (false, eval (.Name tn np) X.env) :: starEach [] X.env) (hpl : (backTo pos (starEach [.Name tn np] X.env)).any (·.1) = false) :
    Es X C Ow (.Call (.Name "isinstance" p) [a, .Name tn np] [] pos) (.isO c ia) := by
  have pg : PE X (.Name tn np) _ := pe_glob (v := .ref Tc) hg2 hm2 rfl hd2
  refine ⟨pe_con (pe_callB call_isi hg hm hvi (pa_cons ha.run (pa_cons pg pa_nil he2) he) (by decide) (by decide) he hpl) fun σ H Q ⟨Th, F, σe, g, v, g', r, m, q⟩ => ?_⟩
  unfold ev at m
  obtain ⟨d, g1, m1, m2⟩ := bind_eq_ok m
  split at m2
  · rename_i ho
    cases m2
    refine ⟨Th, F, σe, g, d, _, r, m1, fun F1 H1 y s1 r1 b1 => ?_⟩
    have hd : ∃ i rr, d = .dict ((.list [.int i], .none) :: rr) := by
      unfold isObj at ho
      split at ho
      · exact ⟨_, _, rfl⟩
      · cases ho
    obtain ⟨i, rr, rfl⟩ := hd
    obtain ⟨j, Cn, p, dx, fs, rfl, rfl, z1, z2, z3, z4⟩ := sh_obj (r1.sh b1)
    rw [r1.sc] at z1
    have I := hin Cn (List.mem_of_getElem? z1)
    have eo : isOb c (.dict ((.list [.int (j : Int)], .none) :: rr)) = decide (j = c) := decide_eq_decide.mpr Int.ofNat_inj
    rw [eo] at q
    exact ⟨.ref p, .ref Tc, .ref Cn.1, .ref Tc, decide (j = c), rfl, .own Tc, .base (.ins z2 I.cls I.ha I.hn I.ht I.hm), hO j Cn z1, q F1 H1 _ s1 r1 rel_bl⟩
  · split at m2
    · cases m2
    · rename_i ho hn
      cases m2
      refine ⟨Th, F, σe, g, d, _, r, m1, fun F1 H1 y s1 r1 b1 => ⟨y, .ref Tc, _, .ref Tc, false, rfl, .own Tc, ty_sh r1.sub (by rw [hK]; exact r1.sh b1) (by simpa using hn), hT _ (tyN_mem d), q F1 H1 _ s1 r1 rel_bl⟩⟩

/-! ### dict(pairs) -/
theorem pair_rel {K : PySem.W.Frag} {F : Fz} : ∀ {xs : List D} {us : List V} {acc out : List (D × D)} {kk : List (Key × V)}, RelL K F xs us → pairV xs acc = some out → RelKV K F acc kk →
    ∃ (ps : List Addr) (kvs : List (Key × V)), us = ps.map V.ref ∧ Paired (fun p kv => F.h p = some (.tup [kV kv.1, kv.2])) ps kvs ∧ RelKV K F out (mergeK kk kvs) ∧ (isDeck acc = false → isDeck out = false)
  | [], us, acc, out, kk, h, e, r => by
    unfold pairV at e
    cases e
    rw [h.inv0]
    exact ⟨[], [], rfl, .nil, r, id⟩
  | d :: xs, us, acc, out, kk, h, e, r => by
    obtain ⟨u, ur, rfl, h1, h2⟩ := h.inv
    unfold pairV at e
    split at e
    · rename_i h0; cases h0
    · rename_i k v tl h0
      cases h0
      unfold Rel at h1
      obtain ⟨p, vs, rfl, e1, e2⟩ := h1
      obtain ⟨ku, vr, rfl, e3, e4⟩ := e2.inv
      obtain ⟨vu, vr2, rfl, e5, e6⟩ := e4.inv
      rw [e6.inv0] at e1
      cases ek : keyD k with
      | none => rw [ek] at e; simp at e
      | some kx =>
        rw [ek] at e
        simp only [Option.isNone_some, Bool.false_eq_true, if_false] at e
        obtain ⟨ps, kvs, q1, q2, q3, q4⟩ := pair_rel h2 e (put_rel ek e5 r)
        have ez : ku = kV kx := key_rel (H := F.h) ek (e3.sh (Same.refl _))
        refine ⟨p :: ps, (kx, vu) :: kvs, by rw [q1]; rfl, .cons (by rw [e1, ez]) q2, q3, fun n => q4 (dPut_mark ek n)⟩
    · cases e
theorem Ef.dct {x : Str} {p : Pos} (hK : X.K = C.K) (hc : X.calm = true) (hg : Gl X x) (hm : X.mg x = none) (hv : bootBuiltins x = some (.type "dict")) (ha : Es X C Ow a ia) (hn : x ≠ "__name__") (hdb : (x == ("__debug__" : Str)) = false)
    (he : starEach [a] X.env = (false, eval a X.env) :: starEach [] X.env) (hpl : (backTo pos (starEach [] X.env)).any (·.1) = false) : Ef X C Ow (.Call (.Name x p) [a] [] pos) (.dct ia) :=
  ⟨pe_con (pe_callTy (call_dictP hc) hg hm hv (pa_cons ha.run pa_nil he) hn hdb he hpl) fun σ H Q ⟨T, F, σe, g, v, g', r, m, q⟩ => by
    unfold ev at m
    obtain ⟨d, g1, m1, m2⟩ := bind_eq_ok m
    cases d with
    | list xs =>
      obtain ⟨kvs, g2, m3, m4⟩ := bind_eq_ok m2
      obtain ⟨m5, e5⟩ := lift_eq_ok m3
      subst e5
      cases m4
      refine ⟨T, F, σe, g, _, _, r, m1, fun F1 H1 y s1 r1 b1 => ?_⟩
      unfold Rel at b1
      obtain ⟨l, us, rfl, e1, e2⟩ := b1
      obtain ⟨ps, kk, rfl, q2, q3, q4⟩ := pair_rel e2 m5 (kk := []) (by unfold RelKV; rfl)
      refine ⟨l, ps, kk, rfl, SqL.of (r1.sub _ _ e1), Paired.mapP q2 (fun p kv z => by rw [hK]; exact sqT_mono r1.sub z), fun p hp => ?_⟩
      exact q F1 _ p s1 (r1.grown hp) (new_of r1 hp (.inl ⟨q4 rfl, _, upd_same, q3⟩))
    | _ => cases m2⟩
end
end Pv
end

section
/-! PvGr: a dict of lists made in a loop: for y in ..: x = d.setdefault(k, []); x.append(e). -/
set_option autoImplicit false
namespace Pv
open PySem PySem.Spec PyProof.Rows L2

theorem upd_nm {H : Hp} {a b : Addr} {o : HO} {bs : List Addr} (ha : a ∈ bs) (hb : b ∉ bs) : upd H b o a = H a := upd_ne fun (y : a = b) => hb (y ▸ ha)
theorem upd_nm' {H : Hp} {a b : Addr} {o : HO} {bs : List Addr} (hb : b ∈ bs) (ha : a ∉ bs) : upd H b o a = H a := upd_ne fun (y : a = b) => ha (y ▸ hb)
theorem upd_nt {H T : Hp} {a b : Addr} {o u : HO} (ha : T a = some u) (hb : T b = none) : upd H b o a = H a := upd_ne fun (y : a = b) => by rw [y, hb] at ha; cases ha
section
variable {C : Ct} {Ow : List Nat} {T : Hp} {F F' : Fz} {σe σe2 : Sl} {g : G} {σ : L2.St} {H : Hp}
/-- less is told of the names -/
theorem R.eff (r : R C Ow T F σe g σ H) (hl : σe2.length = σe.length) (h : ∀ (i : Nat) (v : D), σe2[i]? = some (some v) → σe[i]? = some (some v)) : R C Ow T F σe2 g σ H :=
  ⟨r.sub, r.sc, r.grow, r.new, r.keep, r.dnew, hl.trans r.len, fun i v e n => r.fz i v (h i v e) n, fun i v e n => r.ow i v (h i v e) n,
    fun i j a hi hj ⟨v, e1⟩ ⟨w, e2⟩ => r.inj i j a hi hj ⟨v, h i v e1⟩ ⟨w, h j w e2⟩, r.dk,
    fun a o e => let ⟨e1, e2, e3, e4, e5⟩ := r.hold a o e; ⟨e1, e2, e3, e4, fun i v hi z => e5 i v hi (h i v z)⟩, r.slf, r.xf⟩
/-- a name of which nothing is told is given a value -/
theorem R.setR {i : Nat} {z : Option V} (hs : SlfOk C i) (r : R C Ow T F σe g σ H) (h : ∀ v, σe[i]? ≠ some (some v)) : R C Ow T F σe g (σ.set i z) H := by
  have ne : ∀ {j : Nat} {v : D}, σe[j]? = some (some v) → i ≠ j := fun {j v} e y => h v (by rw [y]; exact e)
  refine ⟨r.sub, r.sc, r.grow, r.new, r.keep, r.dnew, by rw [List.length_set]; exact r.len, fun j w e n => ?_, fun j w e n => ?_, fun j k a hj hk h1 h2 q1 q2 => ?_, r.dk, fun a o e => ?_, fun k a e y => ?_, r.xf⟩
  · rw [List.getElem?_set_ne (ne e)]; exact r.fz j w e n
  · rw [List.getElem?_set_ne (ne e)]; exact r.ow j w e n
  · obtain ⟨v, e1⟩ := h1
    obtain ⟨w, e2⟩ := h2
    rw [List.getElem?_set_ne (ne e1)] at q1
    rw [List.getElem?_set_ne (ne e2)] at q2
    exact r.inj j k a hj hk ⟨v, e1⟩ ⟨w, e2⟩ q1 q2
  · obtain ⟨e1, e2, e3, e4, e5⟩ := r.hold a o e
    exact ⟨e1, e2, e3, e4, fun j w hj q => by rw [List.getElem?_set_ne (ne q)]; exact e5 j w hj q⟩
  · rcases hs with hs | ⟨j, a', hs, hn⟩
    · rw [hs] at e; cases e
    · rw [hs] at e
      cases e
      rw [List.getElem?_set_ne hn]
      exact r.slf _ _ hs y

/-! ### lists held, a dict over them -/
inductive Bk (K : PySem.W.Frag) (F : Fz) (T : Hp) : List (D × D) → List (Key × V) → List Addr → Prop
  | nil : Bk K F T [] [] []
  | cons {k : D} {kx : Key} {l : List D} {vs : List V} {b : Addr} {acc : List (D × D)} {kk : List (Key × V)} {bs : List Addr} : keyD k = some kx → RelL K F l vs → T b = some (.lst vs) → b ∉ bs → Bk K F T acc kk bs → Bk K F T ((k, .list l) :: acc) ((kx, .ref b) :: kk) (b :: bs)
variable {K : PySem.W.Frag} {T' : Hp} {acc acc' : List (D × D)} {kk : List (Key × V)} {bs : List Addr} {k v : D} {kx : Key}
theorem Bk.mono (s : Fsub F F') (h : Bk K F T acc kk bs) (t : ∀ b ∈ bs, T' b = T b) : Bk K F' T' acc kk bs := by
  induction h with
  | nil => exact .nil
  | cons h1 h2 h3 h4 h5 ih => exact .cons h1 (h2.mono s _ _) ((t _ List.mem_cons_self).trans h3) h4 (ih fun b hb => t b (List.mem_cons_of_mem _ hb))
theorem Bk.there (h : Bk K F T acc kk bs) : ∀ b ∈ bs, ∃ o, T b = some o := by
  induction h with
  | nil => exact fun b hb => nomatch hb
  | cons h1 h2 h3 h4 h5 ih =>
    intro b hb
    rcases List.mem_cons.mp hb with rfl | hb
    · exact ⟨_, h3⟩
    · exact ih b hb
theorem Bk.length (h : Bk K F T acc kk bs) : acc.length = kk.length := by
  induction h with
  | nil => rfl
  | cons h1 h2 h3 h4 h5 ih => rw [List.length_cons, List.length_cons, ih]
theorem Bk.mark (h : Bk K F T acc kk bs) : isDeck acc = false := by
  cases h with
  | nil => rfl
  | @cons k kx l vs b acc kk bs h1 h2 h3 h4 h5 => cases k <;> simp [keyD] at h1 <;> rfl
theorem buck_rel (e : keyD k = some kx) (h : Bk K F T acc kk bs) : ∀ {acc' : List (D × D)}, buckL k v acc = some acc' →
    (∃ b vs, valV kk kx = some (.ref b) ∧ b ∈ bs ∧ T b = some (.lst vs) ∧ vs.length < lineN ∧ ∀ F' T' x, Fsub F F' → (∀ c ∈ bs, T' c = T c) → Rel K F' v x → Bk K F' (upd T' b (.lst (vs ++ [x]))) acc' kk bs) ∨
    (valV kk kx = none ∧ ∀ F' T' b x, Fsub F F' → (∀ c ∈ bs, T' c = T c) → b ∉ bs → Rel K F' v x → Bk K F' (upd T' b (.lst [x])) acc' (kk ++ [(kx, .ref b)]) (bs ++ [b])) := by
  induction h with
  | nil =>
    intro acc' m
    unfold buckL at m
    cases m
    exact .inr ⟨rfl, fun F' T' b x s t n r => .cons e (.cons r .nil) upd_same (fun z => nomatch z) .nil⟩
  | @cons a ka l vs b acc kk bs h1 h2 h3 h4 h5 ih =>
    intro acc' m
    unfold buckL at m
    rw [keq_of h1 e] at m
    by_cases z : ka = kx
    · rw [decide_eq_true z, if_pos rfl] at m
      dsimp only at m
      split at m
      · rename_i hl
        cases m
        refine .inl ⟨b, vs, valV_pos z, List.mem_cons_self, h3, ?_, fun F' T' x s t r => .cons h1 ((h2.mono s _ _).append (.cons r .nil)) upd_same h4 ?_⟩
        · rw [← h2.length]; exact of_decide_eq_true hl
        · exact h5.mono s fun c hc => by
            rw [upd_nm hc h4]
            exact t c (List.mem_cons_of_mem _ hc)
      · cases m
    · rw [decide_eq_false z, if_neg Bool.false_ne_true] at m
      obtain ⟨acc2, m2, rfl⟩ := map_some m
      rcases ih m2 with ⟨b', vs', q1, q2, q3, q4, q5⟩ | ⟨q1, q2⟩
      · refine .inl ⟨b', vs', by rw [valV_neg z]; exact q1, List.mem_cons_of_mem _ q2, q3, q4, fun F' T' x s t r => .cons h1 (h2.mono s _ _) ?_ h4 (q5 F' T' x s (fun c hc => t c (List.mem_cons_of_mem _ hc)) r)⟩
        rw [upd_ne fun (y : b = b') => h4 (y ▸ q2)]
        exact (t b List.mem_cons_self).trans h3
      · refine .inr ⟨by rw [valV_neg z]; exact q1, fun F' T' b' x s t n r => ?_⟩
        have nb : b ≠ b' := fun y => n (y ▸ List.mem_cons_self)
        refine .cons h1 (h2.mono s _ _) ?_ (fun y => ?_) (q2 F' T' b' x s (fun c hc => t c (List.mem_cons_of_mem _ hc)) (fun y => n (List.mem_cons_of_mem _ y)) r)
        · rw [upd_ne nb]
          exact (t b List.mem_cons_self).trans h3
        · rcases List.mem_append.mp y with y | y
          · exact h4 y
          · exact nb (List.mem_singleton.mp y)
theorem putK_none {w : V} : ∀ {kk : List (Key × V)}, valV kk kx = none → putK kk kx w = kk ++ [(kx, w)] := fun {kk} h => by
  unfold putK
  rw [if_neg]
  intro z
  obtain ⟨p, hp, e⟩ := List.any_eq_true.mp z
  unfold valV at h
  cases q : kk.find? (fun kv => decide (kv.1 = kx)) with
  | none => exact absurd e (by simpa using List.find?_eq_none.mp q p hp)
  | some p => rw [q] at h; cases h
/-- all of them frozen -/
theorem Bk.freeze (h : Bk K F T' acc kk bs) (hK : C.K = K) : ∀ {F1 : Fz}, Fsub F F1 → R C Ow T F1 σe g σ H →
    (∀ b ∈ bs, H b = T' b ∧ C.H0 b = none ∧ F1.h b = none ∧ ¬ F1.isDk b ∧ (∀ i v, i ∈ Ow → σe[i]? = some (some v) → σ[i]? ≠ some (some (V.ref b))) ∧ T b = none) →
    ∃ F2, Fsub F1 F2 ∧ R C Ow T F2 σe g σ H ∧ RelKV K F2 acc kk ∧ (∀ a, a ∉ bs → F1.h a = none → F2.h a = none) ∧ ∀ a, F2.isDk a → F1.isDk a := by
  induction h with
  | nil => exact fun {F1} s r _ => ⟨F1, .refl _, r, by unfold RelKV; rfl, fun a _ e => e, fun a e => e⟩
  | @cons k kx l vs b acc kk bs h1 h2 h3 h4 h5 ih =>
    intro F1 s r hh
    obtain ⟨w1, w2, w3, w4, w5, w6⟩ := hh b List.mem_cons_self
    have s1 : Fsub F1 (F1.put b (.lst vs)) := Fsub.put w3
    have r1 : R C Ow T (F1.put b (.lst vs)) σe g σ H := r.freeze (w1.trans h3) w2 w3 w4 w5 w6
    obtain ⟨F2, s2, r2, q1, q2, q3⟩ := ih (s.trans s1) r1 fun c hc => by
      obtain ⟨z1, z2, z3, z4, z5, z6⟩ := hh c (List.mem_cons_of_mem _ hc)
      have ne : c ≠ b := fun y => h4 (y ▸ hc)
      exact ⟨z1, z2, (upd_ne ne).trans z3, z4, z5, z6⟩
    refine ⟨F2, s1.trans s2, r2, ?_, fun a ha e => q2 a (fun y => ha (List.mem_cons_of_mem _ y)) ((upd_nm' (List.mem_cons_self) ha).trans e), fun a e => q3 a e⟩
    unfold RelKV
    refine ⟨kx, .ref b, kk, rfl, h1, ?_, q1⟩
    unfold Rel
    exact ⟨b, vs, rfl, s2.h _ _ upd_same, h2.mono (s.trans (s1.trans s2)) _ _⟩
end

section
variable {X : Cx} {C : Ct} {W : WX} {Ow OwL : List Nat} {tg iter k e : Expr} {ik ie : Ex} {is : Exs} {kI : Ik} {d y : Str} {np np2 lp apos apos2 pos pos1 pos2 pos3 posA posF : Pos}
theorem Ss.grp (t n xi : Nat) (hp : PassesOwn (model X.prog X.w) X.A X.env X.xe) (hc : X.calm = true) (hi : Ei X C Ow tg iter kI is) (hg : Eg X C Ow tg [t]) (hsf : ∀ x, foldedSetIterable iter X.env x = pure x)
    (hn : n ∈ Ow) (hxO : xi ∉ Ow) (htO : t ∉ Ow) (hnt : n ≠ t) (hnx : n ≠ xi) (hxt : xi ≠ t) (hNd : X.N.Nodup)
    (hN : X.N[n]? = some d) (hv : Vis X.env.scope d) (hd : (d == ("__debug__" : Str)) = false) (hcd : (d == ("__classdict__" : Str)) = false)
    (hX : X.N[xi]? = some y) (hvx : Vis X.env.scope y) (hdx : (y == ("__debug__" : Str)) = false) (hcdx : (y == ("__classdict__" : Str)) = false) (hlx : Loc X.env.scope y) (hfx : X.fn y = true ∨ X.env.scope.names.lookup y = some .local)
    (hk : Eb X C Ow k ik) (he : Es X C Ow e ie) (m2 : M2 X (.Name d np) "setdefault" apos k (.List [] lp) pos)
    (hs : swapsWith (.Call (.Attribute (.Name d np) "setdefault" apos) [k, .List [] lp] [] pos) (some (.Name y pos1)) posA.line X.env = pure false)
    (hbase : attributeBase (.Name y np2) "append" X.env (eval (.Name y np2) X.env) = eval (.Name y np2) X.env)
    (hfew : ((backTo pos2 (starEach [e] X.env)).all (fun x => !x.1) && (backToKw pos2 (keywordEach [] X.env)).all (fun x => x.1.isSome) && decide (([e] : List Expr).length + ([] : List Keyword).length + (if ([] : List Keyword).isEmpty then 0 else 1) < 30)) = true)
    (hline : (apos2.endLine == pos2.line) = true) (hst : starEach [e] X.env = (false, eval e X.env) :: starEach [] X.env) (hpl : (backTo pos2 (starEach [] X.env)).any (·.1) = false) (hsw : swapsWith (.Call (.Attribute (.Name y np2) "append" apos2) [e] [] pos2) none pos3.line X.env = pure false)
    (hsx : SlfOk C xi) (hsn : SlfOk C n) :
    Ss X C W Ow Ow OwL (.For tg iter [.Assign [.Name y pos1] (.Call (.Attribute (.Name d np) "setdefault" apos) [k, .List [] lp] [] pos) posA, .Expr (.Call (.Attribute (.Name y np2) "append" apos2) [e] [] pos2) pos3] [] posF) (.grp t n xi kI is ik ie) := by
  have body := pss_cons (ps_set hNd hX hlx (pe_dsetd (pe_var hN hv hd hcd) hk.run (pe_lst pa_nil) m2) hs hfx)
    (pss_one (ps_expr (pe_bm PySem.F.plainAttrs_list PySem.F.slot_list_append PySem.F.type_list_append (by exact mt_append) (pe_var hX hvx hdx hcdx) (pa_cons he.run pa_nil hst) hbase hfew hline hst hpl) hsw))
  refine ⟨ps_con (ps_for hp hc hi.run hg.run body hsf) fun Dn σ H ⟨T, F, σe, g, fl, g', r, mm, q⟩ => ?_⟩
  unfold Pv.run at mm
  obtain ⟨vs, g1, m1, mm2⟩ := bind_eq_ok mm
  obtain ⟨xs, g2, m3, m4⟩ := bind_eq_ok mm2
  have mi : itm C.Φ kI is σe g = .ok xs g2 := by
    unfold itm
    rw [m1]; exact m3
  split at m4
  case isFalse => cases m4
  rename_i hE
  rw [Bool.and_eq_true] at hE
  have hxl := of_decide_eq_true hE.2
  have hE := hE.1
  obtain ⟨kvs, g3, m5, m6⟩ := bind_eq_ok m4
  cases m6
  have e0 : σe[n]? = some (some (.dict [])) := by
    unfold noneAt at hE
    split at hE
    · assumption
    · cases hE
  generalize hW : ((σe.set n none).set xi none).set t none = σw at *
  have hWt : ∀ y : D, ((σe.set n none).set xi none).set t (some y) = σw.set t (some y) := fun y => by rw [← hW, List.set_set]
  have hWl : σw.length = σe.length := by rw [← hW]; simp
  have hWs : ∀ (i : Nat) (v : D), σw[i]? = some (some v) → σe[i]? = some (some v) ∧ i ≠ n ∧ i ≠ xi ∧ i ≠ t := fun i v e => by
    rw [← hW] at e
    have h1 : i ≠ t := fun y => by
      subst y
      rw [List.getElem?_set] at e
      simp at e
    rw [List.getElem?_set_ne (Ne.symm h1)] at e
    have h2 : i ≠ xi := fun y => by
      subst y
      rw [List.getElem?_set] at e
      simp at e
    rw [List.getElem?_set_ne (Ne.symm h2)] at e
    have h3 : i ≠ n := fun y => by
      subst y
      rw [List.getElem?_set] at e
      simp at e
    rw [List.getElem?_set_ne (Ne.symm h3)] at e
    exact ⟨e, h3, h2, h1⟩
  refine ⟨T, F, σe, g, xs, g2, r, mi, fun F1 H1 J s1 r1 w => ?_⟩
  obtain ⟨ad, a1, a2, a3, a4, a5⟩ := r1.ow n _ e0 hn
  have a2' : H1 ad = some (.dK []) := by
    rcases a2 with ⟨_, kk, q1, q2⟩ | z | z
    · unfold RelKV at q2
      rw [q2] at q1; exact q1
    · have := z.mark; cases this
    · have := z.mark; cases this
  have noT : T ad = none := by
    cases z : T ad with
    | none => rfl
    | some o => exact absurd a1 ((r1.hold ad o z).2.2.2.2 n _ hn e0)
  have rW : R C Ow (upd T ad (.dK [])) F1 σw g2 σ H1 := by
    have r2 := r1.eff (σe2 := σw) hWl (fun i v e => (hWs i v e).1)
    refine ⟨r2.sub, r2.sc, r2.grow, r2.new, r2.keep, r2.dnew, r2.len, r2.fz, r2.ow, r2.inj, r2.dk, fun a o e => ?_, r2.slf, r2.xf⟩
    by_cases z : a = ad
    · subst z
      rw [upd_same] at e
      cases e
      refine ⟨a2', a3, a4, a5, fun i v hi hv' hh => ?_⟩
      obtain ⟨z1, z2, _⟩ := hWs i v hv'
      exact z2 (r1.inj i n a hi hn ⟨v, z1⟩ ⟨_, e0⟩ hh a1)
    · rw [upd_ne z] at e
      exact r2.hold a o e
  refine ⟨fun j m σ H => ∃ F2 T2 g4 acc kk bs, m + j = xs.length ∧ Fsub F1 F2 ∧ R C Ow T2 F2 σw g4 σ H ∧ σ[n]? = some (some (.ref ad)) ∧ T2 ad = some (.dK kk) ∧ ad ∉ bs ∧ Bk C.K F2 T2 acc kk bs ∧ (∀ a o, T a = some o → T2 a = some o) ∧ (∀ b ∈ bs, T b = none) ∧
      grpL (fun y g => (ev C.Φ ik (((σe.set n none).set xi none).set t (some y)) g).bind fun kv g => (ev C.Φ ie (((σe.set n none).set xi none).set t (some y)) g).bind fun v g => .ok (kv, v) g) (xs.drop j) acc g4 = .ok kvs g',
    ⟨xs.length, F1, _, g2, [], [], [], rfl, .refl _, rW, a1, upd_same, (fun z => nomatch z), .nil, (fun a o e => by rw [upd_nt e noT]; exact e), (fun b z => nomatch z), by rw [List.drop_zero]; exact m5⟩, ?_⟩
  rintro j m σ H ⟨F2, T2, g4, acc, kk, bs, hm, s2, r2, c1, c2, c3, c4, c5, c6, hl⟩
  by_cases hj : j < xs.length
  · have hdj : xs[j]? = some xs[j] := List.getElem?_eq_getElem hj
    rw [List.drop_eq_getElem_cons hj] at hl
    unfold grpL at hl
    obtain ⟨kvv, g5, l1, l2⟩ := bind_eq_ok hl
    obtain ⟨acc2, g6, l3, l4⟩ := bind_eq_ok l2
    obtain ⟨l5, e5⟩ := lift_eq_ok l3
    subst e5
    obtain ⟨kv, g7, l6, l7⟩ := bind_eq_ok l1
    obtain ⟨v, g8, l8, l9⟩ := bind_eq_ok l7
    cases l9
    rw [hWt] at l6 l8
    unfold buckV at l5
    split at l5
    · cases l5
    rename_i hcnd
    obtain ⟨kx, ek⟩ : ∃ kx, keyD kv = some kx := by
      cases z : keyD kv with
      | none => rw [z] at hcnd; simp at hcnd
      | some kx => exact ⟨kx, rfl⟩
    have hlen : acc.length < lineN := by
      rw [ek] at hcnd
      simpa using hcnd
    refine .inr ⟨w.go j F2 H hj s2 r2.sub, fun σ H => ∃ m', m' < m ∧ ∃ F2 T2 g4 acc kk bs, m' + (j + 1) = xs.length ∧ Fsub F1 F2 ∧ R C Ow T2 F2 σw g4 σ H ∧ σ[n]? = some (some (.ref ad)) ∧ T2 ad = some (.dK kk) ∧ ad ∉ bs ∧ Bk C.K F2 T2 acc kk bs ∧ (∀ a o, T a = some o → T2 a = some o) ∧ (∀ b ∈ bs, T b = none) ∧
      grpL (fun y g => (ev C.Φ ik (((σe.set n none).set xi none).set t (some y)) g).bind fun kv g => (ev C.Φ ie (((σe.set n none).set xi none).set t (some y)) g).bind fun v g => .ok (kv, v) g) (xs.drop (j + 1)) acc g4 = .ok kvs g', fun σ' H' h => h, fun x H' hy => ?_⟩
    obtain ⟨F3, s3, r3, rx⟩ : ∃ F3, Fsub F2 F3 ∧ R C Ow T2 F3 σw g4 σ H' ∧ Rel C.K F3 xs[j] x := by
      rcases w.yld j _ F2 H x H' hdj s2 r2.sub hy with ⟨e, rx⟩ | ⟨p, o', rfl, hf, e, rx⟩
      · subst e; exact ⟨F2, .refl _, r2, rx⟩
      · subst e; exact ⟨F2.put p o', Fsub.put (r2.fn hf), r2.laid hf, rx (r2.fn hf)⟩
    refine ⟨T2, F3, σw, g4, xs[j], σw.set t (some xs[j]), r3, rx, rfl, fun σ3 r4 hw => ?_⟩
    have d1 : σ3[n]? = some (some (.ref ad)) := by
      have z : (L2.wipe σ3 [t])[n]? = (L2.wipe σ [t])[n]? := by rw [hw]
      show σ3[n]? = _
      rw [← c1]
      have z : (σ3.set t none)[n]? = (σ.set t none)[n]? := z
      rwa [List.getElem?_set_ne (Ne.symm hnt), List.getElem?_set_ne (Ne.symm hnt)] at z
    have back : ∀ {F5 : Fz} {T5 : Hp} {g5 : G} {σ5 : L2.St} {H5 : Hp}, R C Ow T5 F5 (σw.set t (some xs[j])) g5 σ5 H5 → R C Ow T5 F5 σw g5 σ5 H5 := fun r => r.eff (by simp) fun i v e => by
      rw [List.getElem?_set_ne (Ne.symm (hWs i v e).2.2.2)]; exact e
    have hAd : H' ad = some (.dK kk) := (r4.hold ad _ c2).1
    refine ⟨.ref ad, d1, ad, rfl, .inl ⟨kk, .inl hAd⟩, T2, F3, σw.set t (some xs[j]), g4, kv, g7, r4, l6, fun F4 H4 z s4 r5 b4 => ?_⟩
    have hz := key_rel ek (r5.sh b4)
    refine ⟨by simp, fun b nb => ?_⟩
    have r6 := r5.take (o := .lst []) nb
    have hAd4 : H4 ad = some (.dK kk) := (r5.hold ad _ c2).1
    have nbd : ad ≠ b := fun y => by rw [y, nb] at hAd4; cases hAd4
    have hbs : b ∉ bs := fun y => by
      obtain ⟨o, ho⟩ := c4.there b y
      have := (r5.hold b o ho).1
      rw [nb] at this; cases this
    have nT : T b = none := by
      cases z : T b with
      | none => rfl
      | some o =>
        have := (r5.hold b o (c5 b o z)).1
        rw [nb] at this; cases this
    have sT : ∀ c ∈ bs, upd T2 b (.lst []) c = T2 c := fun c hc => upd_nm hc hbs
    have hkl : kk.length < sizeLine := by
      rw [← c4.length]; exact lineN_lt hlen
    have sT5 : ∀ a o, T a = some o → upd T2 b (.lst []) a = some o := fun a o e => by
      rw [upd_nt e nT]; exact c5 a o e
    have hx3 : xi < σ3.length := by
      have h1 := r4.len
      rw [List.length_set, hWl] at h1
      omega
    have look : ∀ w : V, (σ3.set xi (some w))[xi]? = some (some w) := fun w => List.getElem?_set_self hx3
    have lookn : ∀ w : V, (σ3.set xi (some w))[n]? = some (some (.ref ad)) := fun w => by rw [List.getElem?_set_ne (Ne.symm hnx)]; exact d1
    have noX : ∀ v, (σw.set t (some xs[j]))[xi]? ≠ some (some v) := fun v e => by
      rw [List.getElem?_set_ne (Ne.symm hxt)] at e
      exact (hWs _ _ e).2.2.1 rfl
    refine ⟨kk, kx, (upd_ne nbd).trans hAd4, hz, hkl, fun w' hw' => ?_, fun hw' => ?_⟩
    · -- the list is there
      rcases buck_rel ek c4 l5 with ⟨b', vs', q1, q2, q3, q4, q5⟩ | ⟨q1, _⟩
      · rw [hw'] at q1
        cases q1
        have ne1 : b' ≠ b := fun y => hbs (y ▸ q2)
        have hT' : upd T2 b (.lst []) b' = some (.lst vs') := by rw [upd_ne ne1]; exact q3
        refine ⟨.ref b', look _, .inl ⟨rfl, vs', SqL.of (r6.hold b' _ hT').1⟩, upd T2 b (.lst []), F4, σw.set t (some xs[j]), g7, v, _, r6.setR hsx noX, l8, fun F5 H5 z5 s5 r7 h7 => ?_⟩
        refine ⟨b', vs', z5, rfl, rfl, (r7.hold b' _ hT').1, lineN_lt q4, ?_⟩
        have nb2 : ad ≠ b' := fun y => c3 (by rw [y]; exact q2)
        refine ⟨m - 1, by omega, F5, _, _, acc2, kk, bs, by omega, s2.trans (s3.trans (s4.trans s5)), back (r7.held (o' := .lst (vs' ++ [z5])) hT'), lookn _, ?_, c3, q5 F5 _ z5 (s3.trans (s4.trans s5)) sT h7, fun a o e => ?_, c6, l4⟩
        · rw [upd_ne nb2, upd_ne nbd]; exact c2
        · rw [upd_nt e (c6 b' q2)]; exact sT5 a o e
      · rw [hw'] at q1; cases q1
    · -- a new list
      rcases buck_rel ek c4 l5 with ⟨b', vs', q1, _⟩ | ⟨q1, q5⟩
      · rw [hw'] at q1; cases q1
      · have hT' : upd (upd T2 b (.lst [])) ad (.dK (putK kk kx (.ref b))) b = some (.lst []) := by rw [upd_ne (Ne.symm nbd), upd_same]
        have r8 := r6.held (p := ad) (o := .dK kk) (o' := .dK (putK kk kx (.ref b))) (by rw [upd_ne nbd]; exact c2)
        refine ⟨.ref b, look _, .inl ⟨rfl, [], SqL.of (r8.hold b _ hT').1⟩, _, F4, σw.set t (some xs[j]), g7, v, _, r8.setR hsx noX, l8, fun F5 H5 z5 s5 r7 h7 => ?_⟩
        refine ⟨b, [], z5, rfl, rfl, (r7.hold b _ hT').1, by rw [sizeLine_eq]; simp, ?_⟩
        have sT2 : ∀ c ∈ bs, upd (upd T2 b (.lst [])) ad (.dK (putK kk kx (.ref b))) c = T2 c := fun c hc => by
          rw [upd_nm hc c3]; exact sT c hc
        refine ⟨m - 1, by omega, F5, _, _, acc2, kk ++ [(kx, .ref b)], bs ++ [b], by omega, s2.trans (s3.trans (s4.trans s5)), back (r7.held (o' := .lst [z5]) hT'), lookn _, ?_, ?_, q5 F5 _ b z5 (s3.trans (s4.trans s5)) sT2 hbs h7, fun a o e => ?_, fun c hc => ?_, l4⟩
        · rw [upd_ne nbd, upd_same, putK_none q1]
        · intro y
          rcases List.mem_append.mp y with y | y
          · exact c3 y
          · exact nbd (List.mem_singleton.mp y)
        · have n1 : a ≠ b := fun y => by rw [y, nT] at e; cases e
          have n2 : a ≠ ad := fun y => by rw [y, noT] at e; cases e
          rw [upd_ne n1, upd_ne n2, upd_ne n1]
          exact c5 a o e
        · rcases List.mem_append.mp hc with y | y
          · exact c6 c y
          · rw [List.mem_singleton.mp y]; exact nT
  · have e : j = xs.length := by omega
    subst e
    rw [List.drop_length] at hl
    unfold grpL at hl
    cases hl
    refine .inl ⟨w.stop F2 H s2 r2.sub, ?_⟩
    have rT : R C Ow T F2 σw g' σ H := r2.letgo c5
    obtain ⟨F3, s3, r3, k1, k2, k3⟩ := c4.freeze rfl (.refl _) rT fun b hb => by
      obtain ⟨o, ho⟩ := c4.there b hb
      obtain ⟨h1, h2, h3, h4, h5⟩ := r2.hold b o ho
      exact ⟨h1.trans ho.symm, h2, h3, h4, h5, c6 b hb⟩
    obtain ⟨h1, h2, h3, h4, h5⟩ := r2.hold ad _ c2
    have nw : New C Ow T F3 σw σ H (.dict kvs) ad := ⟨.inl ⟨c4.mark, kk, h1, k1⟩, h2, k2 ad c3 h3, fun z => h4 (k3 ad z), h5, noT⟩
    have rO := r3.own hsn nw
    have eσ : σ.set n (some (.ref ad)) = σ := by
      apply List.ext_getElem?
      intro i
      by_cases hi : n = i
      · subst hi
        rw [List.getElem?_set_self (List.getElem?_eq_some_iff.mp c1).1, c1]
      · rw [List.getElem?_set_ne hi]
    rw [eσ] at rO
    have rO2 : R C Ow T F3 (σw.set n (some (.dict kvs))) g' σ H := rO.congr fun i => by
      rw [List.mem_cons]
      exact ⟨fun z => z.elim (fun y => y ▸ hn) id, .inr⟩
    exact q F3 σ H (s1.trans (s2.trans s3)) rO2
end
end Pv
end

section
/-! the terms of k15: printed by gen.py -/
set_option autoImplicit false
namespace Xk15
open PySem Pv

def m_is_integer : Sm :=
  (.ret (.and (.bi .isInt (.cons (.var 0) .nil)) (.not (.bi .isBool (.cons (.var 0) .nil)))))

def m_is_prime (i_is_integer : Nat) : Sm :=
  (.seq (.ite (.or (.not (.truth (.call i_is_integer (.cons (.var 0) .nil)))) (.or (.cmp .lt (.var 0) (.c (.int 7))) (.cmp .gt (.var 0) (.c (.int 199))))) (.ret (.c (.bool false))) .skip)
    (.seq (.forr [1] .seq (.cons (.tup (.cons (.c (.int 2)) (.cons (.c (.int 3)) (.cons (.c (.int 5)) (.cons (.c (.int 7)) (.cons (.c (.int 11)) (.cons (.c (.int 13)) .nil))))))) .nil) (.ite (.and (.cmp .eq (.bin .mod (.var 0) (.var 1)) (.c (.int 0))) (.cmp .ne (.var 0) (.var 1))) (.ret (.c (.bool false))) .skip))
    (.ret (.c (.bool true)))))

def m_is_number (i_is_integer : Nat) : Sm :=
  (.ret (.and (.call i_is_integer (.cons (.var 1) .nil)) (.chain .le .lt (.c (.int 0)) (.var 1) (.var 0))))

def m_number_power : Sm :=
  (.seq (.set [3] (.c (.int 1)))
    (.seq (.set [4] (.bin .mod (.var 1) (.var 0)))
    (.seq (.set [5] (.var 2))
    (.seq (.whil (.cmp .gt (.var 5) (.c (.int 0))) (.seq (.ite (.truth (.bin .band (.var 5) (.c (.int 1)))) (.set [3] (.bin .mod (.bin .mul (.var 3) (.var 4)) (.var 0))) .skip)
      (.seq (.set [4] (.bin .mod (.bin .mul (.var 4) (.var 4)) (.var 0)))
      (.set [5] (.bin .shr (.var 5) (.c (.int 1)))))))
    (.ret (.var 3))))))

def m_is_square (i_number_power : Nat) : Sm :=
  (.ret (.or (.cmp .eq (.var 1) (.c (.int 0))) (.cmp .eq (.call i_number_power (.cons (.var 0) (.cons (.var 1) (.cons (.bin .fdiv (.bin .sub (.var 0) (.c (.int 1))) (.c (.int 2))) .nil)))) (.c (.int 1)))))

def m_spare (i_is_square : Nat) : Sm :=
  (.seq (.set [1] (.c (.int 2)))
    (.seq (.whil (.truth (.call i_is_square (.cons (.var 0) (.cons (.var 1) .nil)))) (.aug 1 .add (.c (.int 1))))
    (.ret (.var 1))))

def n_Curve___init__ (i_is_number i_is_prime : Nat) : Sm :=
  (.seq (.ite (.not (.truth (.call i_is_prime (.cons (.var 1) .nil)))) .bad .skip)
    (.seq (.ite (.not (.truth (.call i_is_number (.cons (.var 1) (.cons (.var 2) .nil))))) .bad .skip)
    (.seq (.ite (.not (.truth (.call i_is_number (.cons (.var 1) (.cons (.var 3) .nil))))) .bad .skip)
    (.seq (.ite (.cmp .eq (.bin .mod (.bin .add (.bin .mul (.bin .mul (.bin .mul (.c (.int 4)) (.var 2)) (.var 2)) (.var 2)) (.bin .mul (.bin .mul (.c (.int 27)) (.var 3)) (.var 3))) (.var 1)) (.c (.int 0))) .bad .skip)
    (.seq (.setF 0 0 "prime" (.var 1))
    (.seq (.setF 0 0 "a" (.var 2))
    (.setF 0 0 "b" (.var 3))))))))
def m_Curve___init__ (i_is_number i_is_prime : Nat) : Sm := .seq (n_Curve___init__ i_is_number i_is_prime) (.ret (.var 0))

def m_Curve___eq__ : Sm :=
  (.ret (.and (.isO 0 (.var 1)) (.and (.cmp .eq (.fld (.var 0) "prime") (.fld (.var 1) "prime")) (.and (.cmp .eq (.fld (.var 0) "a") (.fld (.var 1) "a")) (.cmp .eq (.fld (.var 0) "b") (.fld (.var 1) "b"))))))

def m_Curve_right : Sm :=
  (.ret (.bin .mod (.bin .add (.bin .add (.bin .mul (.bin .mul (.var 1) (.var 1)) (.var 1)) (.bin .mul (.fld (.var 0) "a") (.var 1))) (.fld (.var 0) "b")) (.fld (.var 0) "prime")))

def m_Curve_points (i_Curve_right : Nat) : Sm :=
  (.seq (.set [1] (.lst (.cons (.c .none) .nil)))
    (.seq (.set [2] .dnew)
    (.seq (.grp 3 2 4 .rng1 (.cons (.fld (.var 0) "prime") .nil) (.bin .mod (.bin .mul (.var 3) (.var 3)) (.fld (.var 0) "prime")) (.var 3))
    (.seq (.forr [5] .rng1 (.cons (.fld (.var 0) "prime") .nil) (.forr [3] .seq (.cons (.dget (.var 2) (.meth 0 i_Curve_right (.var 0) (.cons (.var 5) .nil)) (.lst .nil)) .nil) (.app 1 (.tup (.cons (.var 5) (.cons (.var 3) .nil))))))
    (.ret (.bi .toTuple (.cons (.var 1) .nil)))))))

def m_Curve_twist (i_Curve___init__ i_spare : Nat) : Sm :=
  (.seq (.set [1] (.call i_spare (.cons (.fld (.var 0) "prime") .nil)))
    (.seq (.set [2] (.bin .mul (.var 1) (.var 1)))
    (.ret (.mk 0 i_Curve___init__ (.cons (.fld (.var 0) "prime") (.cons (.bin .mod (.bin .mul (.var 2) (.fld (.var 0) "a")) (.fld (.var 0) "prime")) (.cons (.bin .mod (.bin .mul (.bin .mul (.var 2) (.var 1)) (.fld (.var 0) "b")) (.fld (.var 0) "prime")) .nil)))))))

def m_Curve_scaled (i_Curve___init__ : Nat) : Sm :=
  (.seq (.set [2] (.bin .mul (.var 1) (.var 1)))
    (.ret (.mk 0 i_Curve___init__ (.cons (.fld (.var 0) "prime") (.cons (.bin .mod (.bin .mul (.bin .mul (.var 2) (.var 2)) (.fld (.var 0) "a")) (.fld (.var 0) "prime")) (.cons (.bin .mod (.bin .mul (.bin .mul (.bin .mul (.var 2) (.var 2)) (.var 2)) (.fld (.var 0) "b")) (.fld (.var 0) "prime")) .nil))))))

def m_square_table : Sm :=
  (.seq (.set [1] (.comp [3] .rng1 (.cons (.var 0) .nil) (.c (.bool true)) (.neg (.c (.int 1)))))
    (.seq (.forr [2] .rng1 (.cons (.var 0) .nil) (.setIx 1 (.bin .mod (.bin .mul (.var 2) (.var 2)) (.var 0)) (.c (.int 1))))
    (.seq (.setIx 1 (.c (.int 0)) (.c (.int 0)))
    (.ret (.var 1)))))

def m_trace_by_table : Sm :=
  (.ret (.neg (.bi .sum (.cons (.comp [4] .rng1 (.cons (.var 0) .nil) (.c (.bool true)) (.idx (.var 3) (.bin .mod (.bin .add (.bin .add (.bin .mul (.bin .mul (.var 4) (.var 4)) (.var 4)) (.bin .mul (.var 1) (.var 4))) (.var 2)) (.var 0)))) .nil))))

def m_trace (i_square_table i_trace_by_table : Nat) : Sm :=
  (.ret (.call i_trace_by_table (.cons (.fld (.var 0) "prime") (.cons (.fld (.var 0) "a") (.cons (.fld (.var 0) "b") (.cons (.call i_square_table (.cons (.fld (.var 0) "prime") .nil)) .nil))))))

def m_count (i_trace : Nat) : Sm :=
  (.ret (.bin .sub (.bin .add (.fld (.var 0) "prime") (.c (.int 1))) (.call i_trace (.cons (.var 0) .nil))))

def m__law_deck (ns : List Int) : Sm :=
  (.seq (.par 2 3 (.comp [1] .seq (.cons (.scr (.var 0) ns 63) .nil) (.c (.bool true)) (.bi .toInt (.cons (.var 1) .nil))) (.c (.int 10876015)))
    (.seq (.forr [1] .seq (.cons (.var 2) .nil) (.set [3] (.bin .mod (.bi .toInt (.cons (.bin .add (.bin .add (.bin .mul (.var 3) (.c (.int 48271))) (.bin .mod (.bi .toInt (.cons (.var 1) .nil)) (.c (.int 2147483563)))) (.c (.int 15))) .nil)) (.c (.int 2147483647)))))
    (.ret (.dkNew (.lrev (.var 2)) (.var 3) (.c (.int 0))))))

def m__law_draw : Sm :=
  (.seq (.dkSet true (.var 0) (.bin .add (.dkGet true (.var 0)) (.c (.int 1))))
    (.seq (.ite (.dkHas (.var 0)) (.seq (.set [2] (.dkPop (.var 0)))
      (.seq (.ite (.cmp .ge (.var 2) (.bin .pow (.c (.int 10)) (.c (.int 18)))) (.seq (.ex (.dkPush (.var 0) (.bin .fdiv (.var 2) (.bi .max2 (.cons (.c (.int 2)) (.cons (.var 1) .nil))))))
        (.ret (.bin .mod (.bi .toInt (.cons (.var 2) .nil)) (.var 1)))) .skip)
      (.dkSet false (.var 0) (.bin .mod (.bi .toInt (.cons (.bin .add (.dkGet false (.var 0)) (.var 2)) .nil)) (.c (.int 2147483647)))))) .skip)
    (.seq (.dkSet false (.var 0) (.bin .mod (.bi .toInt (.cons (.bin .add (.bin .add (.bin .mul (.dkGet false (.var 0)) (.c (.int 48271))) (.bin .mul (.dkGet true (.var 0)) (.c (.int 69621)))) (.c (.int 1))) .nil)) (.c (.int 2147483647))))
    (.ret (.bin .mod (.bin .fdiv (.bin .mod (.bi .toInt (.cons (.bin .mul (.dkGet false (.var 0)) (.dkGet false (.var 0))) .nil)) (.c (.int 2147483629))) (.c (.int 64))) (.var 1))))))

def m__law_pick (i__law_draw : Nat) : Sm :=
  (.ret (.idx (.var 1) (.call i__law_draw (.cons (.var 0) (.cons (.bi .len (.cons (.var 1) .nil)) .nil)))))

def m__law_prime (i__law_draw i__law_pick : Nat) : Sm :=
  (.seq (.ite (.cmp .eq (.call i__law_draw (.cons (.var 0) (.cons (.c (.int 5)) .nil))) (.c (.int 4))) (.ret (.call i__law_pick (.cons (.var 0) (.cons (.tup (.cons (.c (.int 61)) (.cons (.c (.int 67)) (.cons (.c (.int 71)) (.cons (.c (.int 73)) (.cons (.c (.int 79)) (.cons (.c (.int 83)) (.cons (.c (.int 89)) (.cons (.c (.int 97)) (.cons (.c (.int 101)) (.cons (.c (.int 103)) (.cons (.c (.int 107)) (.cons (.c (.int 109)) (.cons (.c (.int 113)) (.cons (.c (.int 127)) (.cons (.c (.int 131)) (.cons (.c (.int 137)) (.cons (.c (.int 139)) (.cons (.c (.int 149)) (.cons (.c (.int 151)) (.cons (.c (.int 157)) (.cons (.c (.int 163)) (.cons (.c (.int 167)) (.cons (.c (.int 173)) (.cons (.c (.int 179)) (.cons (.c (.int 181)) (.cons (.c (.int 191)) (.cons (.c (.int 193)) (.cons (.c (.int 197)) (.cons (.c (.int 199)) .nil)))))))))))))))))))))))))))))) .nil)))) .skip)
    (.ret (.call i__law_pick (.cons (.var 0) (.cons (.tup (.cons (.c (.int 7)) (.cons (.c (.int 11)) (.cons (.c (.int 13)) (.cons (.c (.int 17)) (.cons (.c (.int 19)) (.cons (.c (.int 23)) (.cons (.c (.int 29)) (.cons (.c (.int 31)) (.cons (.c (.int 37)) (.cons (.c (.int 41)) (.cons (.c (.int 43)) (.cons (.c (.int 47)) (.cons (.c (.int 53)) (.cons (.c (.int 59)) .nil))))))))))))))) .nil)))))

def m__law_curve (i__law_draw : Nat) : Sm :=
  (.seq (.par3 2 3 4 (.call i__law_draw (.cons (.var 0) (.cons (.c (.int 6)) .nil))) (.call i__law_draw (.cons (.var 0) (.cons (.var 1) .nil))) (.call i__law_draw (.cons (.var 0) (.cons (.var 1) .nil))))
    (.seq (.ite (.cmp .eq (.var 2) (.c (.int 0))) (.set [3] (.c (.int 0))) (.ite (.cmp .eq (.var 2) (.c (.int 1))) (.set [4] (.c (.int 0))) (.ite (.cmp .lt (.var 2) (.c (.int 4))) (.par 3 4 (.bin .mod (.bin .sub (.bin .mul (.var 3) (.var 4)) (.bin .mul (.bin .add (.var 3) (.var 4)) (.bin .add (.var 3) (.var 4)))) (.var 1)) (.bin .mod (.bi .toInt (.cons (.bin .mul (.bin .mul (.var 3) (.var 4)) (.bin .add (.var 3) (.var 4))) .nil)) (.var 1))) .skip)))
    (.seq (.forr [5] .rng1 (.cons (.c (.int 3)) .nil) (.ite (.cmp .eq (.bin .mod (.bi .toInt (.cons (.bin .add (.bin .mul (.bin .mul (.bin .mul (.c (.int 4)) (.var 3)) (.var 3)) (.var 3)) (.bin .mul (.bin .mul (.c (.int 27)) (.var 4)) (.var 4))) .nil)) (.var 1)) (.c (.int 0))) (.set [4] (.bin .mod (.bi .toInt (.cons (.bin .add (.var 4) (.c (.int 1))) .nil)) (.var 1))) .skip))
    (.ret (.tup (.cons (.var 3) (.cons (.var 4) .nil)))))))

def m__law_count : Sm :=
  (.seq (.set [3] (.bin .lrep (.lst (.cons (.c (.int 0)) .nil)) (.var 0)))
    (.seq (.forr [4] .rng1 (.cons (.var 0) .nil) (.setIx 3 (.bin .mod (.bi .toInt (.cons (.bin .mul (.var 4) (.var 4)) .nil)) (.var 0)) (.bin .add (.idx (.var 3) (.bin .mod (.bi .toInt (.cons (.bin .mul (.var 4) (.var 4)) .nil)) (.var 0))) (.c (.int 1)))))
    (.ret (.bin .add (.c (.int 1)) (.bi .sum (.cons (.comp [5] .rng1 (.cons (.var 0) .nil) (.c (.bool true)) (.idx (.var 3) (.bin .mod (.bi .toInt (.cons (.bin .add (.bin .add (.bin .mul (.bin .mul (.var 5) (.var 5)) (.var 5)) (.bin .mul (.var 1) (.var 5))) (.var 2)) .nil)) (.var 0)))) .nil))))))

def m__law_spare : Sm :=
  (.seq (.set [1] (.dct (.comp [2] .rng1 (.cons (.var 0) .nil) (.c (.bool true)) (.tup (.cons (.bin .mod (.bi .toInt (.cons (.bin .mul (.var 2) (.var 2)) .nil)) (.var 0)) (.cons (.c (.bool true)) .nil))))))
    (.ret (.idx (.comp [3] .rng1 (.cons (.var 0) .nil) (.dhas (.var 3) (.var 1) true) (.var 3)) (.c (.int 0)))))

def m__law_is_counted (i_count i_trace : Nat) : Sm :=
  (.seq (.set [3] (.lst (.cons (.call i_count (.cons (.var 0) .nil)) (.cons (.callK i_count (.cons (.var 0) .nil) [0]) (.cons (.call i_trace (.cons (.var 0) .nil)) (.cons (.callK i_trace (.cons (.var 0) .nil) [0]) .nil))))))
    (.ret (.cmp .eq (.bi .repr (.cons (.var 3) .nil)) (.bi .repr (.cons (.lst (.cons (.var 2) (.cons (.var 2) (.cons (.bin .sub (.bin .add (.var 1) (.c (.int 1))) (.var 2)) (.cons (.bin .sub (.bin .add (.var 1) (.c (.int 1))) (.var 2)) .nil))))) .nil)))))

def m_law (i_Curve___eq__ i_Curve___init__ i_Curve_points i_Curve_scaled i_Curve_twist i__law_count i__law_curve i__law_deck i__law_draw i__law_is_counted i__law_prime i__law_spare i_trace : Nat) : Sm :=
  (.seq (.set [1] (.call i__law_deck (.cons (.var 0) .nil)))
    (.seq (.set [2] (.call i__law_prime (.cons (.var 1) .nil)))
    (.seq (.set [3, 4] (.call i__law_curve (.cons (.var 1) (.cons (.var 2) .nil))))
    (.seq (.par 5 6 (.mk 0 i_Curve___init__ (.cons (.var 2) (.cons (.var 3) (.cons (.var 4) .nil)))) (.call i__law_count (.cons (.var 2) (.cons (.var 3) (.cons (.var 4) .nil)))))
    (.seq (.set [7] (.bin .sub (.bin .add (.var 2) (.c (.int 1))) (.var 6)))
    (.seq (.ite (.or (.not (.truth (.call i__law_is_counted (.cons (.var 5) (.cons (.var 2) (.cons (.var 6) .nil)))))) (.or (.cmp .ge (.bin .mul (.var 7) (.var 7)) (.bin .mul (.c (.int 4)) (.var 2))) (.cmp .ne (.bi .len (.cons (.meth 0 i_Curve_points (.var 5) .nil) .nil)) (.var 6)))) (.ret (.c (.bool false))) .skip)
    (.seq (.par 8 9 (.call i__law_spare (.cons (.var 2) .nil)) (.bin .add (.c (.int 1)) (.call i__law_draw (.cons (.var 1) (.cons (.bin .sub (.var 2) (.c (.int 1))) .nil)))))
    (.seq (.set [10] (.mk 0 i_Curve___init__ (.cons (.var 2) (.cons (.bin .mod (.bi .toInt (.cons (.bin .mul (.bin .mul (.var 8) (.var 8)) (.var 3)) .nil)) (.var 2)) (.cons (.bin .mod (.bi .toInt (.cons (.bin .mul (.bin .mul (.bin .mul (.var 8) (.var 8)) (.var 8)) (.var 4)) .nil)) (.var 2)) .nil)))))
    (.seq (.set [11] (.mk 0 i_Curve___init__ (.cons (.var 2) (.cons (.bin .mod (.bi .toInt (.cons (.bin .mul (.bin .pow (.var 9) (.c (.int 4))) (.var 3)) .nil)) (.var 2)) (.cons (.bin .mod (.bi .toInt (.cons (.bin .mul (.bin .pow (.var 9) (.c (.int 6))) (.var 4)) .nil)) (.var 2)) .nil)))))
    (.seq (.ite (.or (.not (.truth (.call i__law_is_counted (.cons (.var 10) (.cons (.var 2) (.cons (.bin .sub (.bin .add (.bin .mul (.c (.int 2)) (.var 2)) (.c (.int 2))) (.var 6)) .nil)))))) (.not (.truth (.call i__law_is_counted (.cons (.var 11) (.cons (.var 2) (.cons (.var 6) .nil))))))) (.ret (.c (.bool false))) .skip)
    (.seq (.ite (.or (.own 0 i_Curve___eq__ true (.meth 0 i_Curve_twist (.var 5) .nil) (.var 10)) (.own 0 i_Curve___eq__ true (.meth 0 i_Curve_scaled (.var 5) (.cons (.var 9) .nil)) (.var 11))) (.ret (.c (.bool false))) .skip)
    (.seq (.set [12] (.comp [16] .rng1 (.cons (.var 2) .nil) (.cmp .eq (.bin .mod (.bi .toInt (.cons (.bin .add (.bin .add (.bin .mul (.bin .mul (.var 16) (.var 16)) (.var 16)) (.bin .mul (.var 3) (.var 16))) (.var 4)) .nil)) (.var 2)) (.c (.int 0))) (.var 16)))
    (.seq (.ite (.cmp .ne (.cmp .eq (.bin .mod (.bi .toInt (.cons (.var 7) .nil)) (.c (.int 2))) (.c (.int 0))) (.cmp .ne (.var 12) (.lst .nil))) (.ret (.c (.bool false))) .skip)
    (.seq (.forr [13] .rng1 (.cons (.call i__law_draw (.cons (.var 1) (.cons (.c (.int 4)) .nil))) .nil) (.seq (.set [14, 15] (.call i__law_curve (.cons (.var 1) (.cons (.var 2) .nil))))
      (.ite (.not (.truth (.call i__law_is_counted (.cons (.mk 0 i_Curve___init__ (.cons (.var 2) (.cons (.var 14) (.cons (.var 15) .nil)))) (.cons (.var 2) (.cons (.call i__law_count (.cons (.var 2) (.cons (.var 14) (.cons (.var 15) .nil)))) .nil)))))) (.ret (.c (.bool false))) .skip)))
    (.ret (.cmp .eq (.bi .repr (.cons (.lst (.cons (.call i_trace (.cons (.var 5) .nil)) (.cons (.fld (.var 5) "prime") (.cons (.fld (.var 5) "a") (.cons (.fld (.var 5) "b") .nil))))) .nil)) (.bi .repr (.cons (.lst (.cons (.var 7) (.cons (.var 2) (.cons (.var 3) (.cons (.var 4) .nil))))) .nil))))))))))))))))))

def T (ns : List Int) : List Fn := [⟨1, 1, m_is_integer⟩, ⟨1, 2, m_is_prime 0⟩, ⟨2, 2, m_is_number 0⟩, ⟨3, 6, m_number_power⟩, ⟨2, 2, m_is_square 3⟩, ⟨1, 2, m_spare 4⟩, ⟨4, 4, m_Curve___init__ 2 1⟩, ⟨2, 2, m_Curve___eq__⟩, ⟨2, 2, m_Curve_right⟩, ⟨1, 6, m_Curve_points 8⟩, ⟨1, 3, m_Curve_twist 6 5⟩, ⟨2, 3, m_Curve_scaled 6⟩, ⟨1, 4, m_square_table⟩, ⟨4, 5, m_trace_by_table⟩, ⟨1, 1, m_trace 12 13⟩, ⟨1, 1, m_count 14⟩, ⟨1, 4, m__law_deck ns⟩, ⟨2, 3, m__law_draw⟩, ⟨2, 2, m__law_pick 17⟩, ⟨1, 1, m__law_prime 17 18⟩, ⟨2, 6, m__law_curve 17⟩, ⟨3, 6, m__law_count⟩, ⟨1, 4, m__law_spare⟩, ⟨3, 4, m__law_is_counted 15 14⟩, ⟨1, 17, m_law 7 6 9 11 10 21 20 16 17 23 19 22 14⟩]

/-- the functions at a height -/
abbrev PH (ns : List Int) (d : Nat) : Fns := FT (T ns) (fun _ => none) d

end Xk15
end

section
/-! the walk of k15: printed by gen.py -/
set_option autoImplicit false
namespace Xk15
open PySem PySem.Spec PyProof.Rows L2 Pv

def topS (i : Nat) : Stmt := PySem.Challenge.pw_craterhouse_k15_counts_and_traces.main.body.getD i (.Pass ⟨0, 0, 0, 0⟩)

abbrev n_1 : Str := "cells"
abbrev n_2 : Str := "mixed"
abbrev n_3 : Option Str := some ("turn" : Str)

theorem dkn_of {C : Ct} {a : Addr} {ns : List Int} {cl : List (Addr × List Str)} {xc : List (Addr × Option Str)} (D : Dc C n_1 n_2 n_3 a ns cl xc) : DkN C := ⟨by rw [D.n1, D.n2]; decide, fun n h => by
  rw [D.n3] at h
  rw [D.n1, D.n2]
  cases h
  decide⟩

theorem hn3_of {C : Ct} {a : Addr} {ns : List Int} {cl : List (Addr × List Str)} {xc : List (Addr × Option Str)} (D : Dc C n_1 n_2 n_3 a ns cl xc) : (if true then C.n3 else some C.n2) = some ("turn" : Str) := by rw [D.n3]; rfl

theorem hn2_of {C : Ct} {a : Addr} {ns : List Int} {cl : List (Addr × List Str)} {xc : List (Addr × Option Str)} (D : Dc C n_1 n_2 n_3 a ns cl xc) : (if false then C.n3 else some C.n2) = some ("mixed" : Str) := by rw [D.n2]; rfl

abbrev s_is_integer : Stmt := topS 7
abbrev p_is_integer : List Str := ["thing"]
theorem sc_is_integer : FnScope ["thing"] p_is_integer (defScope s_is_integer) := ⟨rfl, rfl, rfl, by decide +kernel, rfl, by decide +kernel, by decide +kernel⟩

abbrev s_is_prime : Stmt := topS 8
abbrev p_is_prime : List Str := ["thing"]
theorem sc_is_prime : FnScope ["thing", "divisor"] p_is_prime (defScope s_is_prime) := ⟨rfl, rfl, rfl, by decide +kernel, rfl, by decide +kernel, by decide +kernel⟩

abbrev s_is_number : Stmt := topS 9
abbrev p_is_number : List Str := ["prime", "thing"]
theorem sc_is_number : FnScope ["prime", "thing"] p_is_number (defScope s_is_number) := ⟨rfl, rfl, rfl, by decide +kernel, rfl, by decide +kernel, by decide +kernel⟩

abbrev s_number_power : Stmt := topS 10
abbrev p_number_power : List Str := ["prime", "number", "exponent"]
theorem sc_number_power : FnScope ["prime", "number", "exponent", "result", "base", "left"] p_number_power (defScope s_number_power) := ⟨rfl, rfl, rfl, by decide +kernel, rfl, by decide +kernel, by decide +kernel⟩

abbrev s_is_square : Stmt := topS 11
abbrev p_is_square : List Str := ["prime", "number"]
theorem sc_is_square : FnScope ["prime", "number"] p_is_square (defScope s_is_square) := ⟨rfl, rfl, rfl, by decide +kernel, rfl, by decide +kernel, by decide +kernel⟩

abbrev s_spare : Stmt := topS 12
abbrev p_spare : List Str := ["prime"]
theorem sc_spare : FnScope ["prime", "number"] p_spare (defScope s_spare) := ⟨rfl, rfl, rfl, by decide +kernel, rfl, by decide +kernel, by decide +kernel⟩

abbrev s_Curve___init__ : Stmt := inClass (topS 14) 0
abbrev p_Curve___init__ : List Str := ["self", "prime", "a", "b"]
theorem sc_Curve___init__ : FnScope ["self", "prime", "a", "b"] p_Curve___init__ (defScope s_Curve___init__) := ⟨rfl, rfl, rfl, by decide +kernel, rfl, by decide +kernel, by decide +kernel⟩

abbrev s_Curve___eq__ : Stmt := inClass (topS 14) 1
abbrev p_Curve___eq__ : List Str := ["self", "other"]
theorem sc_Curve___eq__ : FnScope ["self", "other"] p_Curve___eq__ (defScope s_Curve___eq__) := ⟨rfl, rfl, rfl, by decide +kernel, rfl, by decide +kernel, by decide +kernel⟩

abbrev s_Curve_right : Stmt := inClass (topS 14) 3
abbrev p_Curve_right : List Str := ["self", "number"]
theorem sc_Curve_right : FnScope ["self", "number"] p_Curve_right (defScope s_Curve_right) := ⟨rfl, rfl, rfl, by decide +kernel, rfl, by decide +kernel, by decide +kernel⟩

abbrev s_Curve_points : Stmt := inClass (topS 14) 5
abbrev p_Curve_points : List Str := ["self"]
theorem sc_Curve_points : FnScope ["self", "found", "square_roots", "y", "known", "x"] p_Curve_points (defScope s_Curve_points) := ⟨rfl, rfl, rfl, by decide +kernel, rfl, by decide +kernel, by decide +kernel⟩

abbrev s_Curve_twist : Stmt := inClass (topS 14) 7
abbrev p_Curve_twist : List Str := ["self"]
theorem sc_Curve_twist : FnScope ["self", "factor", "square"] p_Curve_twist (defScope s_Curve_twist) := ⟨rfl, rfl, rfl, by decide +kernel, rfl, by decide +kernel, by decide +kernel⟩

abbrev s_Curve_scaled : Stmt := inClass (topS 14) 8
abbrev p_Curve_scaled : List Str := ["self", "u"]
theorem sc_Curve_scaled : FnScope ["self", "u", "square"] p_Curve_scaled (defScope s_Curve_scaled) := ⟨rfl, rfl, rfl, by decide +kernel, rfl, by decide +kernel, by decide +kernel⟩

abbrev s_square_table : Stmt := topS 16
abbrev p_square_table : List Str := ["prime"]
theorem sc_square_table : FnScope ["prime", "table", "root", "number"] p_square_table (defScope s_square_table) := ⟨rfl, rfl, rfl, by decide +kernel, rfl, by decide +kernel, by decide +kernel⟩

abbrev s_trace_by_table : Stmt := topS 17
abbrev p_trace_by_table : List Str := ["prime", "a", "b", "table"]
theorem sc_trace_by_table : FnScope ["prime", "a", "b", "table", "x"] p_trace_by_table (defScope s_trace_by_table) := ⟨rfl, rfl, rfl, by decide +kernel, rfl, by decide +kernel, by decide +kernel⟩

abbrev s_trace : Stmt := topS 18
abbrev p_trace : List Str := ["curve"]
theorem sc_trace : FnScope ["curve"] p_trace (defScope s_trace) := ⟨rfl, rfl, rfl, by decide +kernel, rfl, by decide +kernel, by decide +kernel⟩

abbrev s_count : Stmt := topS 19
abbrev p_count : List Str := ["curve"]
theorem sc_count : FnScope ["curve"] p_count (defScope s_count) := ⟨rfl, rfl, rfl, by decide +kernel, rfl, by decide +kernel, by decide +kernel⟩

abbrev s__law_deck : Stmt := topS 21
abbrev p__law_deck : List Str := ["_law_script"]
theorem sc__law_deck : FnScope ["_law_script", "_law_cell", "_law_cells", "_law_mixed"] p__law_deck (defScope s__law_deck) := ⟨rfl, rfl, rfl, by decide +kernel, rfl, by decide +kernel, by decide +kernel⟩

abbrev s__law_draw : Stmt := topS 22
abbrev p__law_draw : List Str := ["_law_deck_here", "_law_below"]
theorem sc__law_draw : FnScope ["_law_deck_here", "_law_below", "_law_cell"] p__law_draw (defScope s__law_draw) := ⟨rfl, rfl, rfl, by decide +kernel, rfl, by decide +kernel, by decide +kernel⟩

abbrev s__law_pick : Stmt := topS 23
abbrev p__law_pick : List Str := ["_law_deck_here", "_law_some"]
theorem sc__law_pick : FnScope ["_law_deck_here", "_law_some"] p__law_pick (defScope s__law_pick) := ⟨rfl, rfl, rfl, by decide +kernel, rfl, by decide +kernel, by decide +kernel⟩

abbrev s__law_prime : Stmt := topS 24
abbrev p__law_prime : List Str := ["_law_deck_here"]
theorem sc__law_prime : FnScope ["_law_deck_here"] p__law_prime (defScope s__law_prime) := ⟨rfl, rfl, rfl, by decide +kernel, rfl, by decide +kernel, by decide +kernel⟩

abbrev s__law_curve : Stmt := topS 25
abbrev p__law_curve : List Str := ["_law_deck_here", "_law_p"]
theorem sc__law_curve : FnScope ["_law_deck_here", "_law_p", "_law_way", "_law_a", "_law_b", "_law_turn"] p__law_curve (defScope s__law_curve) := ⟨rfl, rfl, rfl, by decide +kernel, rfl, by decide +kernel, by decide +kernel⟩

abbrev s__law_count : Stmt := topS 26
abbrev p__law_count : List Str := ["_law_p", "_law_a", "_law_b"]
theorem sc__law_count : FnScope ["_law_p", "_law_a", "_law_b", "_law_roots", "_law_y", "_law_x"] p__law_count (defScope s__law_count) := ⟨rfl, rfl, rfl, by decide +kernel, rfl, by decide +kernel, by decide +kernel⟩

abbrev s__law_spare : Stmt := topS 27
abbrev p__law_spare : List Str := ["_law_p"]
theorem sc__law_spare : FnScope ["_law_p", "_law_squares", "_law_y", "_law_number"] p__law_spare (defScope s__law_spare) := ⟨rfl, rfl, rfl, by decide +kernel, rfl, by decide +kernel, by decide +kernel⟩

abbrev s__law_is_counted : Stmt := topS 28
abbrev p__law_is_counted : List Str := ["_law_curve_here", "_law_p", "_law_due"]
theorem sc__law_is_counted : FnScope ["_law_curve_here", "_law_p", "_law_due", "_law_told"] p__law_is_counted (defScope s__law_is_counted) := ⟨rfl, rfl, rfl, by decide +kernel, rfl, by decide +kernel, by decide +kernel⟩

abbrev s_law : Stmt := topS 29
abbrev p_law : List Str := ["_law_script"]
theorem sc_law : FnScope ["_law_script", "_law_deck_here", "_law_p", "_law_a", "_law_b", "_law_curve_here", "_law_due", "_law_t", "_law_n", "_law_u", "_law_twin", "_law_other", "_law_roots", "_law_turn", "_law_c", "_law_d", "_law_x"] p_law (defScope s_law) := ⟨rfl, rfl, rfl, by decide +kernel, rfl, by decide +kernel, by decide +kernel⟩

/-- what the top has written -/
structure Fa (K : PySem.W.Frag) (mg : Str → Option Value) where

  f_is_integer : Addr
  d_is_integer : FuncData
  F_is_integer : Fun K "is_integer" "is_integer" s_is_integer f_is_integer d_is_integer
  b_is_integer : Binds K d_is_integer p_is_integer []

  g_is_integer : mg "is_integer" = some (.ref f_is_integer)

  f_is_prime : Addr
  d_is_prime : FuncData
  F_is_prime : Fun K "is_prime" "is_prime" s_is_prime f_is_prime d_is_prime
  b_is_prime : Binds K d_is_prime p_is_prime []

  g_is_prime : mg "is_prime" = some (.ref f_is_prime)

  f_is_number : Addr
  d_is_number : FuncData
  F_is_number : Fun K "is_number" "is_number" s_is_number f_is_number d_is_number
  b_is_number : Binds K d_is_number p_is_number []

  g_is_number : mg "is_number" = some (.ref f_is_number)

  f_number_power : Addr
  d_number_power : FuncData
  F_number_power : Fun K "number_power" "number_power" s_number_power f_number_power d_number_power
  b_number_power : Binds K d_number_power p_number_power []

  g_number_power : mg "number_power" = some (.ref f_number_power)

  f_is_square : Addr
  d_is_square : FuncData
  F_is_square : Fun K "is_square" "is_square" s_is_square f_is_square d_is_square
  b_is_square : Binds K d_is_square p_is_square []

  g_is_square : mg "is_square" = some (.ref f_is_square)

  f_spare : Addr
  d_spare : FuncData
  F_spare : Fun K "spare" "spare" s_spare f_spare d_spare
  b_spare : Binds K d_spare p_spare []

  g_spare : mg "spare" = some (.ref f_spare)

  f_Curve___init__ : Addr
  d_Curve___init__ : FuncData
  F_Curve___init__ : Fun K "__init__" "Curve.__init__" s_Curve___init__ f_Curve___init__ d_Curve___init__
  b_Curve___init__ : Binds K d_Curve___init__ p_Curve___init__ []

  f_Curve___eq__ : Addr
  d_Curve___eq__ : FuncData
  F_Curve___eq__ : Fun K "__eq__" "Curve.__eq__" s_Curve___eq__ f_Curve___eq__ d_Curve___eq__
  b_Curve___eq__ : Binds K d_Curve___eq__ p_Curve___eq__ []

  f_Curve_right : Addr
  d_Curve_right : FuncData
  F_Curve_right : Fun K "right" "Curve.right" s_Curve_right f_Curve_right d_Curve_right
  b_Curve_right : Binds K d_Curve_right p_Curve_right []

  f_Curve_points : Addr
  d_Curve_points : FuncData
  F_Curve_points : Fun K "points" "Curve.points" s_Curve_points f_Curve_points d_Curve_points
  b_Curve_points : Binds K d_Curve_points p_Curve_points []

  f_Curve_twist : Addr
  d_Curve_twist : FuncData
  F_Curve_twist : Fun K "twist" "Curve.twist" s_Curve_twist f_Curve_twist d_Curve_twist
  b_Curve_twist : Binds K d_Curve_twist p_Curve_twist []

  f_Curve_scaled : Addr
  d_Curve_scaled : FuncData
  F_Curve_scaled : Fun K "scaled" "Curve.scaled" s_Curve_scaled f_Curve_scaled d_Curve_scaled
  b_Curve_scaled : Binds K d_Curve_scaled p_Curve_scaled []

  f_square_table : Addr
  d_square_table : FuncData
  F_square_table : Fun K "square_table" "square_table" s_square_table f_square_table d_square_table
  b_square_table : Binds K d_square_table p_square_table []

  g_square_table : mg "square_table" = some (.ref f_square_table)

  f_trace_by_table : Addr
  d_trace_by_table : FuncData
  F_trace_by_table : Fun K "trace_by_table" "trace_by_table" s_trace_by_table f_trace_by_table d_trace_by_table
  b_trace_by_table : Binds K d_trace_by_table p_trace_by_table []

  g_trace_by_table : mg "trace_by_table" = some (.ref f_trace_by_table)

  f_trace : Addr
  d_trace : FuncData
  F_trace : Fun K "trace" "trace" s_trace f_trace d_trace
  b_trace : Binds K d_trace p_trace []

  g_trace : mg "trace" = some (.ref f_trace)

  f_count : Addr
  d_count : FuncData
  F_count : Fun K "count" "count" s_count f_count d_count
  b_count : Binds K d_count p_count []

  g_count : mg "count" = some (.ref f_count)

  f__law_deck : Addr
  d__law_deck : FuncData
  F__law_deck : Fun K "_law_deck" "_law_deck" s__law_deck f__law_deck d__law_deck
  b__law_deck : Binds K d__law_deck p__law_deck []

  g__law_deck : mg "_law_deck" = some (.ref f__law_deck)

  f__law_draw : Addr
  d__law_draw : FuncData
  F__law_draw : Fun K "_law_draw" "_law_draw" s__law_draw f__law_draw d__law_draw
  b__law_draw : Binds K d__law_draw p__law_draw []

  g__law_draw : mg "_law_draw" = some (.ref f__law_draw)

  f__law_pick : Addr
  d__law_pick : FuncData
  F__law_pick : Fun K "_law_pick" "_law_pick" s__law_pick f__law_pick d__law_pick
  b__law_pick : Binds K d__law_pick p__law_pick []

  g__law_pick : mg "_law_pick" = some (.ref f__law_pick)

  f__law_prime : Addr
  d__law_prime : FuncData
  F__law_prime : Fun K "_law_prime" "_law_prime" s__law_prime f__law_prime d__law_prime
  b__law_prime : Binds K d__law_prime p__law_prime []

  g__law_prime : mg "_law_prime" = some (.ref f__law_prime)

  f__law_curve : Addr
  d__law_curve : FuncData
  F__law_curve : Fun K "_law_curve" "_law_curve" s__law_curve f__law_curve d__law_curve
  b__law_curve : Binds K d__law_curve p__law_curve []

  g__law_curve : mg "_law_curve" = some (.ref f__law_curve)

  f__law_count : Addr
  d__law_count : FuncData
  F__law_count : Fun K "_law_count" "_law_count" s__law_count f__law_count d__law_count
  b__law_count : Binds K d__law_count p__law_count []

  g__law_count : mg "_law_count" = some (.ref f__law_count)

  f__law_spare : Addr
  d__law_spare : FuncData
  F__law_spare : Fun K "_law_spare" "_law_spare" s__law_spare f__law_spare d__law_spare
  b__law_spare : Binds K d__law_spare p__law_spare []

  g__law_spare : mg "_law_spare" = some (.ref f__law_spare)

  f__law_is_counted : Addr
  d__law_is_counted : FuncData
  F__law_is_counted : Fun K "_law_is_counted" "_law_is_counted" s__law_is_counted f__law_is_counted d__law_is_counted
  b__law_is_counted : Binds K d__law_is_counted p__law_is_counted []

  g__law_is_counted : mg "_law_is_counted" = some (.ref f__law_is_counted)

  f_law : Addr
  d_law : FuncData
  F_law : Fun K "law" "law" s_law f_law d_law
  b_law : Binds K d_law p_law []

  g_law : mg "law" = some (.ref f_law)

  C_Curve : Addr
  cl_Curve : Cls K C_Curve
  in_Curve : InsOk K C_Curve
  gC_Curve : mg "Curve" = some (.ref C_Curve)
  nA_Curve_prime : NoAttr K C_Curve "prime"
  nA_Curve_a : NoAttr K C_Curve "a"
  nA_Curve_b : NoAttr K C_Curve "b"

  K_Curve : Mk K C_Curve f_Curve___init__

  M_Curve___eq__ : Meth K C_Curve "__eq__" f_Curve___eq__

  O_Curve : OwnOk K C_Curve f_Curve___eq__

  M_Curve_right : Meth K C_Curve "right" f_Curve_right

  M_Curve_points : Meth K C_Curve "points" f_Curve_points

  M_Curve_twist : Meth K C_Curve "twist" f_Curve_twist

  M_Curve_scaled : Meth K C_Curve "scaled" f_Curve_scaled

  kT_Curve : ∀ T ∈ ["NoneType", "bool", "int", "str", "list", "tuple", "dict"], PySem.W.kitOne K (.type T) (.ref C_Curve) = some false
  kO_Curve_Curve : PySem.W.kitOne K (.ref C_Curve) (.ref C_Curve) = some true

  kb_trace_0 : KB K d_trace p_trace ["curve"] 0 [0]

  kb_count_0 : KB K d_count p_count ["curve"] 0 [0]

  v_GREATEST_PRIME : Nat
  g_GREATEST_PRIME : mg "GREATEST_PRIME" = some (.int 199 v_GREATEST_PRIME)

  v_LEAST_PRIME : Nat
  g_LEAST_PRIME : mg "LEAST_PRIME" = some (.int 7 v_LEAST_PRIME)

  z_bool : mg "bool" = none

  z_dict : mg "dict" = none

  z_int : mg "int" = none

  z_isinstance : mg "isinstance" = none

  z_len : mg "len" = none

  z_max : mg "max" = none

  z_range : mg "range" = none

  z_repr : mg "repr" = none

  z_sum : mg "sum" = none

  z_tuple : mg "tuple" = none

abbrev at_Curve : List Str := ["prime", "a", "b"]

def Fa.cl {K : PySem.W.Frag} {mg : Str → Option Value} (A : Fa K mg) : List (Addr × List Str) := [(A.C_Curve, at_Curve)]

def Fa.xc {K : PySem.W.Frag} {mg : Str → Option Value} (A : Fa K mg) : List (Addr × Option Str) := []

theorem Fa.clsOk {K : PySem.W.Frag} {mg : Str → Option Value} (A : Fa K mg) : ClsOk K A.cl := ⟨fun Cn h => by
  simp only [Fa.cl, List.mem_cons, List.not_mem_nil, or_false] at h
  rcases h with rfl
  · exact A.cl_Curve
  , fun Cn h f hf => by
  simp only [Fa.cl, List.mem_cons, List.not_mem_nil, or_false] at h
  rcases h with rfl
  · simp only [List.mem_cons, List.not_mem_nil, or_false] at hf
    rcases hf with rfl | rfl | rfl
    · exact A.nA_Curve_prime
    · exact A.nA_Curve_a
    · exact A.nA_Curve_b
  ⟩

theorem Fa.isO_Curve {K : PySem.W.Frag} {mg : Str → Option Value} (A : Fa K mg) : ∀ (j : Nat) (Cn : Addr × List Str), A.cl[j]? = some Cn → PySem.W.kitOne K (.ref Cn.1) (.ref A.C_Curve) = some (decide (j = 0)) := by
  intro j Cn h
  unfold Fa.cl at h
  cases j with
  | zero =>
    cases h
    exact A.kO_Curve_Curve
  | succ j =>
  exact nomatch h

theorem Fa.insOk {K : PySem.W.Frag} {mg : Str → Option Value} (A : Fa K mg) : ∀ Cn ∈ A.cl, InsOk K Cn.1 := fun Cn h => by
  simp only [Fa.cl, List.mem_cons, List.not_mem_nil, or_false] at h
  rcases h with rfl
  · exact A.in_Curve













def sn_square_table_0 : Scope := { kind := .function, names := [(".0", .local), ("number", .local)], isGenerator := false, isCoroutine := false, more := [] }
def sn_square_table_0r : Scope := { kind := .function, names := [(".0", .local), ("number", .local)], isGenerator := false, isCoroutine := false, more := [] }
theorem bk_square_table_0 : BlkOk ["prime", "table", "root", "number"] (defScope s_square_table) sn_square_table_0 [("number", 3)] := ⟨rfl, by decide +kernel, by decide +kernel, by decide +kernel, by decide +kernel⟩

def sn_trace_by_table_0 : Scope := { kind := .function, names := [(".0", .local), ("x", .local), ("a", .free), ("b", .free), ("prime", .free), ("table", .free)], isGenerator := false, isCoroutine := false, more := [] }
def sn_trace_by_table_0r : Scope := { kind := .function, names := [(".0", .local), ("x", .local), ("a", .cell), ("b", .cell), ("prime", .cell), ("table", .cell)], isGenerator := false, isCoroutine := false, more := [] }
theorem bk_trace_by_table_0 : BlkOk ["prime", "a", "b", "table", "x"] (defScope s_trace_by_table) sn_trace_by_table_0 [("x", 4)] := ⟨rfl, by decide +kernel, by decide +kernel, by decide +kernel, by decide +kernel⟩



def sn__law_deck_0 : Scope := { kind := .function, names := [(".0", .local), ("_law_cell", .local), ("int", .globalImplicit)], isGenerator := false, isCoroutine := false, more := [] }
def sn__law_deck_0r : Scope := { kind := .function, names := [(".0", .local), ("_law_cell", .local), ("int", .globalImplicit)], isGenerator := false, isCoroutine := false, more := [] }
theorem bk__law_deck_0 : BlkOk ["_law_script", "_law_cell", "_law_cells", "_law_mixed"] (defScope s__law_deck) sn__law_deck_0 [("_law_cell", 1)] := ⟨rfl, by decide +kernel, by decide +kernel, by decide +kernel, by decide +kernel⟩





def sn__law_count_0 : Scope := { kind := .function, names := [(".0", .local), ("_law_x", .local), ("int", .globalImplicit), ("_law_a", .free), ("_law_b", .free), ("_law_p", .free), ("_law_roots", .free)], isGenerator := false, isCoroutine := false, more := [] }
def sn__law_count_0r : Scope := { kind := .function, names := [(".0", .local), ("_law_x", .local), ("int", .globalImplicit), ("_law_a", .cell), ("_law_b", .cell), ("_law_p", .cell), ("_law_roots", .cell)], isGenerator := false, isCoroutine := false, more := [] }
theorem bk__law_count_0 : BlkOk ["_law_p", "_law_a", "_law_b", "_law_roots", "_law_y", "_law_x"] (defScope s__law_count) sn__law_count_0 [("_law_x", 5)] := ⟨rfl, by decide +kernel, by decide +kernel, by decide +kernel, by decide +kernel⟩

def sn__law_spare_0 : Scope := { kind := .function, names := [(".0", .local), ("_law_y", .local), ("int", .globalImplicit), ("_law_p", .free)], isGenerator := false, isCoroutine := false, more := [] }
def sn__law_spare_0r : Scope := { kind := .function, names := [(".0", .local), ("_law_y", .local), ("int", .globalImplicit), ("_law_p", .cell)], isGenerator := false, isCoroutine := false, more := [] }
theorem bk__law_spare_0 : BlkOk ["_law_p", "_law_squares", "_law_y", "_law_number"] (defScope s__law_spare) sn__law_spare_0 [("_law_y", 2)] := ⟨rfl, by decide +kernel, by decide +kernel, by decide +kernel, by decide +kernel⟩
def sn__law_spare_1 : Scope := { kind := .function, names := [(".0", .local), ("_law_number", .local), ("_law_squares", .free)], isGenerator := false, isCoroutine := false, more := [] }
def sn__law_spare_1r : Scope := { kind := .function, names := [(".0", .local), ("_law_number", .local), ("_law_squares", .cell)], isGenerator := false, isCoroutine := false, more := [] }
theorem bk__law_spare_1 : BlkOk ["_law_p", "_law_squares", "_law_y", "_law_number"] (defScope s__law_spare) sn__law_spare_1 [("_law_number", 3)] := ⟨rfl, by decide +kernel, by decide +kernel, by decide +kernel, by decide +kernel⟩


def sn_law_0 : Scope := { kind := .function, names := [(".0", .local), ("_law_x", .local), ("int", .globalImplicit), ("_law_a", .free), ("_law_b", .free), ("_law_p", .free)], isGenerator := false, isCoroutine := false, more := [] }
def sn_law_0r : Scope := { kind := .function, names := [(".0", .local), ("_law_x", .local), ("int", .globalImplicit), ("_law_a", .cell), ("_law_b", .cell), ("_law_p", .cell)], isGenerator := false, isCoroutine := false, more := [] }
theorem bk_law_0 : BlkOk ["_law_script", "_law_deck_here", "_law_p", "_law_a", "_law_b", "_law_curve_here", "_law_due", "_law_t", "_law_n", "_law_u", "_law_twin", "_law_other", "_law_roots", "_law_turn", "_law_c", "_law_d", "_law_x"] (defScope s_law) sn_law_0 [("_law_x", 16)] := ⟨rfl, by decide +kernel, by decide +kernel, by decide +kernel, by decide +kernel⟩

theorem ok_is_integer {P : Program} {w : World} {mg : Str → Option Value} {base : Heap} (C : Ct) (A : Fa C.K mg) (a : Addr) (ns : List Int) (D : Dc C n_1 n_2 n_3 a ns A.cl A.xc) (j l : Nat) : FnG P w C.K mg base (L2.CX P w) (l + 0 + 1) A.f_is_integer A.d_is_integer p_is_integer (spS C (FT (T ns) (fun _ => none) (j + 0 + 1) 0) 1) := by
  refine defOk A.F_is_integer sc_is_integer rfl 0 (m_is_integer) (T ns) (fun _ => none) (j + 0) rfl rfl (by decide) (fun cdv A0 outer s H F0 E hG hr => ?_)
  have D' : Dc (C.at H F0 (FT (T ns) (fun _ => none) (j + 0))) n_1 n_2 n_3 a ns A.cl A.xc := ⟨D.n1, D.n2, D.n3, D.sc, D.cl, D.xc⟩
  have hu := Pv.Room.u70 hr
  have hu65 := Pv.Room.u65 hr
  have hu1 := Pv.Room.u1 hr
  have hdk := dkn_of D'
  have hn3 := hn3_of D'
  have hn2 := hn2_of D'
  have hok : ClsOk C.K C.sc.2 := by rw [D.cl]; exact A.clsOk
  have hin : ∀ Cn ∈ C.sc.2, InsOk C.K Cn.1 := by rw [D.cl]; exact A.insOk
  have hcl_Curve : C.sc.2[0]? = some (A.C_Curve, at_Curve) := by rw [D.cl]; rfl
  exact ⟨[],
    (Sb.one (Ss.ret (Es.and (Es.b (Es.isi .isInt rfl rfl hin rfl A.z_isinstance rfl rfl A.z_int rfl (by decide) rfl (Eb.var 0 rfl (.inl rfl) rfl rfl) rfl rfl rfl)) (Es.one (Es.not rfl (Es.b (Es.isi .isBool rfl rfl hin rfl A.z_isinstance rfl rfl A.z_bool rfl (by decide) rfl (Eb.var 0 rfl (.inl rfl) rfl rfl) rfl rfl rfl)))))))⟩

theorem ok_number_power {P : Program} {w : World} {mg : Str → Option Value} {base : Heap} (C : Ct) (A : Fa C.K mg) (a : Addr) (ns : List Int) (D : Dc C n_1 n_2 n_3 a ns A.cl A.xc) (j l : Nat) : FnG P w C.K mg base (L2.CX P w) (l + 0 + 1) A.f_number_power A.d_number_power p_number_power (spS C (FT (T ns) (fun _ => none) (j + 0 + 1) 3) 3) := by
  refine defOk A.F_number_power sc_number_power rfl 3 (m_number_power) (T ns) (fun _ => none) (j + 0) rfl rfl (by decide) (fun cdv A0 outer s H F0 E hG hr => ?_)
  have D' : Dc (C.at H F0 (FT (T ns) (fun _ => none) (j + 0))) n_1 n_2 n_3 a ns A.cl A.xc := ⟨D.n1, D.n2, D.n3, D.sc, D.cl, D.xc⟩
  have hpo := passes_of (X := cxOf (L2.CX P w) P w C.K mg base ["prime", "number", "exponent", "result", "base", "left"] "number_power" (defScope s_number_power) A.f_number_power cdv A0 outer s H E) rfl
  have hu := Pv.Room.u70 hr
  have hu65 := Pv.Room.u65 hr
  have hu1 := Pv.Room.u1 hr
  have hdk := dkn_of D'
  have hn3 := hn3_of D'
  have hn2 := hn2_of D'
  have hok : ClsOk C.K C.sc.2 := by rw [D.cl]; exact A.clsOk
  have hin : ∀ Cn ∈ C.sc.2, InsOk C.K Cn.1 := by rw [D.cl]; exact A.insOk
  have hcl_Curve : C.sc.2[0]? = some (A.C_Curve, at_Curve) := by rw [D.cl]; rfl
  exact ⟨[],
    (Sb.cons (Ss.set Es.int (Eg.name 3 (by decide) sc_number_power.nd rfl (.inl rfl) (.inr rfl)) rfl rfl rfl)
    (Sb.cons (Ss.set (Es.bin .mod rfl (Eb.var 1 rfl (.inl rfl) rfl rfl) (Eb.var 0 rfl (.inl rfl) rfl rfl)) (Eg.name 4 (by decide) sc_number_power.nd rfl (.inl rfl) (.inr rfl)) rfl rfl rfl)
    (Sb.cons (Ss.set (Es.var 2 (by decide) rfl (.inl rfl) rfl rfl) (Eg.name 5 (by decide) sc_number_power.nd rfl (.inl rfl) (.inr rfl)) rfl rfl rfl)
    (Sb.cons (Ss.while_ hpo (Et.cmp .gt rfl hu65 (Eb.var 5 rfl (.inl rfl) rfl rfl) (Es.b Es.int) rfl) (Sb.cons (Ss.ite (Et.truth rfl (Es.b (Es.bin .band rfl (Eb.var 5 rfl (.inl rfl) rfl rfl) (Es.b Es.int))) (fun _ => rfl)) (Sb.one (Ss.set (Es.bin .mod rfl (Es.b (Es.bin .mul rfl (Eb.var 3 rfl (.inl rfl) rfl rfl) (Eb.var 4 rfl (.inl rfl) rfl rfl))) (Eb.var 0 rfl (.inl rfl) rfl rfl)) (Eg.name 3 (by decide) sc_number_power.nd rfl (.inl rfl) (.inr rfl)) rfl rfl rfl)) Sb.nil)
      (Sb.cons (Ss.set (Es.bin .mod rfl (Es.b (Es.bin .mul rfl (Eb.var 4 rfl (.inl rfl) rfl rfl) (Eb.var 4 rfl (.inl rfl) rfl rfl))) (Eb.var 0 rfl (.inl rfl) rfl rfl)) (Eg.name 4 (by decide) sc_number_power.nd rfl (.inl rfl) (.inr rfl)) rfl rfl rfl)
      (Sb.one (Ss.set (Es.bin .shr rfl (Eb.var 5 rfl (.inl rfl) rfl rfl) (Es.b Es.int)) (Eg.name 5 (by decide) sc_number_power.nd rfl (.inl rfl) (.inr rfl)) rfl rfl rfl)))))
    (Sb.one (Ss.ret (Es.var 3 (by decide) rfl (.inl rfl) rfl rfl)))))))⟩

theorem ok_Curve___eq__ {P : Program} {w : World} {mg : Str → Option Value} {base : Heap} (C : Ct) (A : Fa C.K mg) (a : Addr) (ns : List Int) (D : Dc C n_1 n_2 n_3 a ns A.cl A.xc) (j l : Nat) : FnG P w C.K mg base (L2.CX P w) (l + 0 + 1) A.f_Curve___eq__ A.d_Curve___eq__ p_Curve___eq__ (spS C (FT (T ns) (fun _ => none) (j + 0 + 1) 7) 2) := by
  refine defOk A.F_Curve___eq__ sc_Curve___eq__ rfl 7 (m_Curve___eq__) (T ns) (fun _ => none) (j + 0) rfl rfl (by decide) (fun cdv A0 outer s H F0 E hG hr => ?_)
  have D' : Dc (C.at H F0 (FT (T ns) (fun _ => none) (j + 0))) n_1 n_2 n_3 a ns A.cl A.xc := ⟨D.n1, D.n2, D.n3, D.sc, D.cl, D.xc⟩
  have hu := Pv.Room.u70 hr
  have hu65 := Pv.Room.u65 hr
  have hu1 := Pv.Room.u1 hr
  have hdk := dkn_of D'
  have hn3 := hn3_of D'
  have hn2 := hn2_of D'
  have hok : ClsOk C.K C.sc.2 := by rw [D.cl]; exact A.clsOk
  have hin : ∀ Cn ∈ C.sc.2, InsOk C.K Cn.1 := by rw [D.cl]; exact A.insOk
  have hcl_Curve : C.sc.2[0]? = some (A.C_Curve, at_Curve) := by rw [D.cl]; rfl
  exact ⟨[],
    (Sb.one (Ss.ret (Es.and (Es.b (Es.isO 0 rfl hin (by rw [D.cl]; exact A.isO_Curve) A.kT_Curve rfl A.z_isinstance rfl rfl A.gC_Curve rfl (Eb.var 1 rfl (.inl rfl) rfl rfl) rfl rfl rfl)) (Es.and (Es.b (Es.cmp .eq rfl hu65 (Es.b (Es.fld hok (Eb.var 0 rfl (.inl rfl) rfl rfl) rfl)) (Es.b (Es.fld hok (Eb.var 1 rfl (.inl rfl) rfl rfl) rfl)) rfl)) (Es.and (Es.b (Es.cmp .eq rfl hu65 (Es.b (Es.fld hok (Eb.var 0 rfl (.inl rfl) rfl rfl) rfl)) (Es.b (Es.fld hok (Eb.var 1 rfl (.inl rfl) rfl rfl) rfl)) rfl)) (Es.one (Es.cmp .eq rfl hu65 (Es.b (Es.fld hok (Eb.var 0 rfl (.inl rfl) rfl rfl) rfl)) (Es.b (Es.fld hok (Eb.var 1 rfl (.inl rfl) rfl rfl) rfl)) rfl)))))))⟩

theorem ok_Curve_right {P : Program} {w : World} {mg : Str → Option Value} {base : Heap} (C : Ct) (A : Fa C.K mg) (a : Addr) (ns : List Int) (D : Dc C n_1 n_2 n_3 a ns A.cl A.xc) (j l : Nat) : FnG P w C.K mg base (L2.CX P w) (l + 0 + 1) A.f_Curve_right A.d_Curve_right p_Curve_right (spS C (FT (T ns) (fun _ => none) (j + 0 + 1) 8) 2) := by
  refine defOk A.F_Curve_right sc_Curve_right rfl 8 (m_Curve_right) (T ns) (fun _ => none) (j + 0) rfl rfl (by decide) (fun cdv A0 outer s H F0 E hG hr => ?_)
  have D' : Dc (C.at H F0 (FT (T ns) (fun _ => none) (j + 0))) n_1 n_2 n_3 a ns A.cl A.xc := ⟨D.n1, D.n2, D.n3, D.sc, D.cl, D.xc⟩
  have hu := Pv.Room.u70 hr
  have hu65 := Pv.Room.u65 hr
  have hu1 := Pv.Room.u1 hr
  have hdk := dkn_of D'
  have hn3 := hn3_of D'
  have hn2 := hn2_of D'
  have hok : ClsOk C.K C.sc.2 := by rw [D.cl]; exact A.clsOk
  have hin : ∀ Cn ∈ C.sc.2, InsOk C.K Cn.1 := by rw [D.cl]; exact A.insOk
  have hcl_Curve : C.sc.2[0]? = some (A.C_Curve, at_Curve) := by rw [D.cl]; rfl
  exact ⟨[],
    (Sb.one (Ss.ret (Es.bin .mod rfl (Es.b (Es.bin .add rfl (Es.b (Es.bin .add rfl (Es.b (Es.bin .mul rfl (Es.b (Es.bin .mul rfl (Eb.var 1 rfl (.inl rfl) rfl rfl) (Eb.var 1 rfl (.inl rfl) rfl rfl))) (Eb.var 1 rfl (.inl rfl) rfl rfl))) (Es.b (Es.bin .mul rfl (Es.b (Es.fld hok (Eb.var 0 rfl (.inl rfl) rfl rfl) rfl)) (Eb.var 1 rfl (.inl rfl) rfl rfl))))) (Es.b (Es.fld hok (Eb.var 0 rfl (.inl rfl) rfl rfl) rfl)))) (Es.b (Es.fld hok (Eb.var 0 rfl (.inl rfl) rfl rfl) rfl)))))⟩

theorem ok_square_table {P : Program} {w : World} {mg : Str → Option Value} {base : Heap} (C : Ct) (A : Fa C.K mg) (a : Addr) (ns : List Int) (D : Dc C n_1 n_2 n_3 a ns A.cl A.xc) (j l : Nat) : FnG P w C.K mg base (L2.CX P w) (l + 0 + 1) A.f_square_table A.d_square_table p_square_table (spS C (FT (T ns) (fun _ => none) (j + 0 + 1) 12) 1) := by
  refine defOk A.F_square_table sc_square_table rfl 12 (m_square_table) (T ns) (fun _ => none) (j + 0) rfl rfl (by decide) (fun cdv A0 outer s H F0 E hG hr => ?_)
  have D' : Dc (C.at H F0 (FT (T ns) (fun _ => none) (j + 0))) n_1 n_2 n_3 a ns A.cl A.xc := ⟨D.n1, D.n2, D.n3, D.sc, D.cl, D.xc⟩
  have hpo := passes_of (X := cxOf (L2.CX P w) P w C.K mg base ["prime", "table", "root", "number"] "square_table" (defScope s_square_table) A.f_square_table cdv A0 outer s H E) rfl
  have hu := Pv.Room.u70 hr
  have hu65 := Pv.Room.u65 hr
  have hu1 := Pv.Room.u1 hr
  have hdk := dkn_of D'
  have hn3 := hn3_of D'
  have hn2 := hn2_of D'
  have hok : ClsOk C.K C.sc.2 := by rw [D.cl]; exact A.clsOk
  have hin : ∀ Cn ∈ C.sc.2, InsOk C.K Cn.1 := by rw [D.cl]; exact A.insOk
  have hcl_Curve : C.sc.2[0]? = some (A.C_Curve, at_Curve) := by rw [D.cl]; rfl
  exact ⟨[],
    (Sb.cons (Ss.ownLc 1 rfl sc_square_table.nd rfl rfl rfl (Ei.rng1 rfl A.z_range (Ea.cons (Es.var 0 (by decide) rfl (.inl rfl) rfl rfl) Ea.nil rfl) rfl) bk_square_table_0 rfl (fun _ _ _ _ _ => (Eg.name 3 (by decide) sc_square_table.nd rfl (.inl rfl) (.inr rfl))) (fun _ _ _ _ _ => Ec.none) (fun _ _ _ _ _ => (Es.neg rfl (Es.b Es.int))) (fun _ => rfl) (by decide) (.inl rfl))
    (Sb.cons (Ss.for_ hpo rfl (Ei.rng1 rfl A.z_range (Ea.cons (Es.var 0 (by decide) rfl (.inl rfl) rfl rfl) Ea.nil rfl) rfl) (Eg.name 2 (by decide) sc_square_table.nd rfl (.inl rfl) (.inr rfl)) (Sb.one (Ss.setIx 1 (by decide) rfl (.inl rfl) rfl rfl Es.int (Es.b (Es.bin .mod rfl (Es.b (Es.bin .mul rfl (Eb.var 2 rfl (.inl rfl) rfl rfl) (Eb.var 2 rfl (.inl rfl) rfl rfl))) (Eb.var 0 rfl (.inl rfl) rfl rfl))) (fun _ => rfl) rfl rfl rfl)) (fun _ => rfl))
    (Sb.cons (Ss.setIx 1 (by decide) rfl (.inl rfl) rfl rfl Es.int (Es.b Es.int) (fun _ => rfl) rfl rfl rfl)
    (Sb.one (Ss.pre (Ow2 := []) (Ss.ret (Es.var 1 (by decide) rfl (.inl rfl) rfl rfl)) (by decide))))))⟩

theorem ok_trace_by_table {P : Program} {w : World} {mg : Str → Option Value} {base : Heap} (C : Ct) (A : Fa C.K mg) (a : Addr) (ns : List Int) (D : Dc C n_1 n_2 n_3 a ns A.cl A.xc) (j l : Nat) : FnG P w C.K mg base (L2.CX P w) (l + 0 + 1) A.f_trace_by_table A.d_trace_by_table p_trace_by_table (spS C (FT (T ns) (fun _ => none) (j + 0 + 1) 13) 4) := by
  refine defOk A.F_trace_by_table sc_trace_by_table rfl 13 (m_trace_by_table) (T ns) (fun _ => none) (j + 0) rfl rfl (by decide) (fun cdv A0 outer s H F0 E hG hr => ?_)
  have D' : Dc (C.at H F0 (FT (T ns) (fun _ => none) (j + 0))) n_1 n_2 n_3 a ns A.cl A.xc := ⟨D.n1, D.n2, D.n3, D.sc, D.cl, D.xc⟩
  have hu := Pv.Room.u70 hr
  have hu65 := Pv.Room.u65 hr
  have hu1 := Pv.Room.u1 hr
  have hdk := dkn_of D'
  have hn3 := hn3_of D'
  have hn2 := hn2_of D'
  have hok : ClsOk C.K C.sc.2 := by rw [D.cl]; exact A.clsOk
  have hin : ∀ Cn ∈ C.sc.2, InsOk C.K Cn.1 := by rw [D.cl]; exact A.insOk
  have hcl_Curve : C.sc.2[0]? = some (A.C_Curve, at_Curve) := by rw [D.cl]; rfl
  exact ⟨[],
    (Sb.one (Ss.ret (Es.neg rfl (Es.b (Es.biB .sum rfl (cb_sum rfl) rfl A.z_sum rfl (Eas.one (Ef.b (Ef.comp rfl sc_trace_by_table.nd (Ei.rng1 rfl A.z_range (Ea.cons (Es.var 0 (by decide) rfl (.inr (.inl rfl)) rfl rfl) Ea.nil rfl) rfl) bk_trace_by_table_0 rfl (fun _ _ _ _ _ => (Eg.name 4 (by decide) sc_trace_by_table.nd rfl (.inl rfl) (.inr rfl))) (fun _ _ _ _ _ => Ec.none) (fun _ _ _ _ _ => (Es.idx rfl (Eb.var 3 rfl (.inr (.inl rfl)) rfl rfl) (Es.b (Es.bin .mod rfl (Es.b (Es.bin .add rfl (Es.b (Es.bin .add rfl (Es.b (Es.bin .mul rfl (Es.b (Es.bin .mul rfl (Eb.var 4 rfl (.inl rfl) rfl rfl) (Eb.var 4 rfl (.inl rfl) rfl rfl))) (Eb.var 4 rfl (.inl rfl) rfl rfl))) (Es.b (Es.bin .mul rfl (Eb.var 1 rfl (.inr (.inl rfl)) rfl rfl) (Eb.var 4 rfl (.inl rfl) rfl rfl))))) (Eb.var 2 rfl (.inr (.inl rfl)) rfl rfl))) (Eb.var 0 rfl (.inr (.inl rfl)) rfl rfl))) (by intro _ _; rfl))) (fun _ => rfl) (by decide))) rfl) (by decide) rfl rfl rfl)))))⟩

theorem ok__law_deck {P : Program} {w : World} {mg : Str → Option Value} {base : Heap} (C : Ct) (A : Fa C.K mg) (a : Addr) (ns : List Int) (D : Dc C n_1 n_2 n_3 a ns A.cl A.xc) (j l : Nat) : FnG P w C.K mg base (L2.CX P w) (l + 0 + 1) A.f__law_deck A.d__law_deck p__law_deck (spS C (FT (T ns) (fun _ => none) (j + 0 + 1) 16) 1) := by
  refine defOk A.F__law_deck sc__law_deck rfl 16 (m__law_deck ns) (T ns) (fun _ => none) (j + 0) rfl rfl (by decide) (fun cdv A0 outer s H F0 E hG hr => ?_)
  have D' : Dc (C.at H F0 (FT (T ns) (fun _ => none) (j + 0))) n_1 n_2 n_3 a ns A.cl A.xc := ⟨D.n1, D.n2, D.n3, D.sc, D.cl, D.xc⟩
  have hpo := passes_of (X := cxOf (L2.CX P w) P w C.K mg base ["_law_script", "_law_cell", "_law_cells", "_law_mixed"] "_law_deck" (defScope s__law_deck) A.f__law_deck cdv A0 outer s H E) rfl
  have hu := Pv.Room.u70 hr
  have hu65 := Pv.Room.u65 hr
  have hu1 := Pv.Room.u1 hr
  have hdk := dkn_of D'
  have hn3 := hn3_of D'
  have hn2 := hn2_of D'
  have hok : ClsOk C.K C.sc.2 := by rw [D.cl]; exact A.clsOk
  have hin : ∀ Cn ∈ C.sc.2, InsOk C.K Cn.1 := by rw [D.cl]; exact A.insOk
  have hcl_Curve : C.sc.2[0]? = some (A.C_Curve, at_Curve) := by rw [D.cl]; rfl
  exact ⟨[],
    (Sb.cons (Ss.par 2 3 rfl sc__law_deck.nd rfl rfl (by decide) (by decide) (by decide) rfl rfl (Ea.cons (Ef.s (Ef.comp rfl sc__law_deck.nd (Ei.seq rfl (Es.scr 63 rfl D'.sc (Es.var 0 (by decide) rfl (.inl rfl) rfl rfl))) bk__law_deck_0 rfl (fun _ _ _ _ _ => (Eg.name 1 (by decide) sc__law_deck.nd rfl (.inl rfl) (.inr rfl))) (fun _ _ _ _ _ => Ec.none) (fun _ _ _ _ _ => (Es.biT .toInt rfl cb_toInt rfl A.z_int rfl (Eas.one (Eb.var 1 rfl (.inl rfl) rfl rfl) rfl) (by decide) rfl rfl rfl)) (fun _ => rfl) (by decide))) (Ea.cons Es.int Ea.nil rfl) rfl) rfl rfl)
    (Sb.cons (Ss.for_ hpo rfl (Ei.seq rfl (Es.var 2 (by decide) rfl (.inl rfl) rfl rfl)) (Eg.name 1 (by decide) sc__law_deck.nd rfl (.inl rfl) (.inr rfl)) (Sb.one (Ss.set (Es.bin .mod rfl (Es.b (Es.biT .toInt rfl cb_toInt rfl A.z_int rfl (Eas.one (Es.b (Es.bin .add rfl (Es.b (Es.bin .add rfl (Es.b (Es.bin .mul rfl (Eb.var 3 rfl (.inl rfl) rfl rfl) (Es.b Es.int))) (Es.b (Es.bin .mod rfl (Es.b (Es.biT .toInt rfl cb_toInt rfl A.z_int rfl (Eas.one (Eb.var 1 rfl (.inl rfl) rfl rfl) rfl) (by decide) rfl rfl rfl)) (Es.b Es.int))))) (Es.b Es.int))) rfl) (by decide) rfl rfl rfl)) (Es.b Es.int)) (Eg.name 3 (by decide) sc__law_deck.nd rfl (.inl rfl) (.inr rfl)) rfl rfl rfl)) (fun _ => rfl))
    (Sb.one (Ss.ret (Es.dkNew hdk D'.n1 D'.n2 D'.n3 (Ef.lrev rfl (Eb.var 2 rfl (.inl rfl) rfl rfl)) (Es.var 3 (by decide) rfl (.inl rfl) rfl rfl) Es.int)))))⟩

theorem ok__law_draw {P : Program} {w : World} {mg : Str → Option Value} {base : Heap} (C : Ct) (A : Fa C.K mg) (a : Addr) (ns : List Int) (D : Dc C n_1 n_2 n_3 a ns A.cl A.xc) (j l : Nat) : FnG P w C.K mg base (L2.CX P w) (l + 0 + 1) A.f__law_draw A.d__law_draw p__law_draw (spS C (FT (T ns) (fun _ => none) (j + 0 + 1) 17) 2) := by
  refine defOk A.F__law_draw sc__law_draw rfl 17 (m__law_draw) (T ns) (fun _ => none) (j + 0) rfl rfl (by decide) (fun cdv A0 outer s H F0 E hG hr => ?_)
  have D' : Dc (C.at H F0 (FT (T ns) (fun _ => none) (j + 0))) n_1 n_2 n_3 a ns A.cl A.xc := ⟨D.n1, D.n2, D.n3, D.sc, D.cl, D.xc⟩
  have hu := Pv.Room.u70 hr
  have hu65 := Pv.Room.u65 hr
  have hu1 := Pv.Room.u1 hr
  have hdk := dkn_of D'
  have hn3 := hn3_of D'
  have hn2 := hn2_of D'
  have hok : ClsOk C.K C.sc.2 := by rw [D.cl]; exact A.clsOk
  have hin : ∀ Cn ∈ C.sc.2, InsOk C.K Cn.1 := by rw [D.cl]; exact A.insOk
  have hcl_Curve : C.sc.2[0]? = some (A.C_Curve, at_Curve) := by rw [D.cl]; rfl
  exact ⟨[],
    (Sb.cons (Ss.dkSet true hu1 hdk hn3 (Eb.var 0 rfl (.inl rfl) rfl rfl) (Es.bin .add rfl (Es.b (Es.dkGet true hu1 hdk hn3 (Eb.var 0 rfl (.inl rfl) rfl rfl) (by intro _ _; rfl))) (Es.b Es.int)) rfl)
    (Sb.cons (Ss.ite (Et.dkHas hu65 D'.n1 (Eb.var 0 rfl (.inl rfl) rfl rfl) (by intro _ _; rfl)) (Sb.cons (Ss.set (Es.dkPop hu1 hdk D'.n1 (Eb.var 0 rfl (.inl rfl) rfl rfl) (by intro _ _; rfl) rfl rfl) (Eg.name 2 (by decide) sc__law_draw.nd rfl (.inl rfl) (.inr rfl)) rfl rfl rfl)
      (Sb.cons (Ss.ite (Et.cmp .ge rfl hu65 (Eb.var 2 rfl (.inl rfl) rfl rfl) (Es.b (Es.bin .pow rfl (Es.b Es.int) (Es.b Es.int))) rfl) (Sb.cons (Ss.ex (Es.b (Es.dkPush hu1 hdk D'.n1 (Eb.var 0 rfl (.inl rfl) rfl rfl) (Es.bin .fdiv rfl (Eb.var 2 rfl (.inl rfl) rfl rfl) (Es.b (Es.biB .max2 rfl (cb_max2 rfl) rfl A.z_max rfl (Eas.two (Es.b Es.int) (Eb.var 1 rfl (.inl rfl) rfl rfl) rfl rfl) (by decide) rfl rfl rfl))) (by intro _ _; rfl) rfl rfl rfl rfl rfl rfl)) rfl)
        (Sb.one (Ss.ret (Es.bin .mod rfl (Es.b (Es.biT .toInt rfl cb_toInt rfl A.z_int rfl (Eas.one (Eb.var 2 rfl (.inl rfl) rfl rfl) rfl) (by decide) rfl rfl rfl)) (Eb.var 1 rfl (.inl rfl) rfl rfl))))) Sb.nil)
      (Sb.one (Ss.dkSet false hu1 hdk hn2 (Eb.var 0 rfl (.inl rfl) rfl rfl) (Es.bin .mod rfl (Es.b (Es.biT .toInt rfl cb_toInt rfl A.z_int rfl (Eas.one (Es.b (Es.bin .add rfl (Es.b (Es.dkGet false hu1 hdk hn2 (Eb.var 0 rfl (.inl rfl) rfl rfl) (by intro _ _; rfl))) (Eb.var 2 rfl (.inl rfl) rfl rfl))) rfl) (by decide) rfl rfl rfl)) (Es.b Es.int)) rfl)))) Sb.nil)
    (Sb.cons (Ss.dkSet false hu1 hdk hn2 (Eb.var 0 rfl (.inl rfl) rfl rfl) (Es.bin .mod rfl (Es.b (Es.biT .toInt rfl cb_toInt rfl A.z_int rfl (Eas.one (Es.b (Es.bin .add rfl (Es.b (Es.bin .add rfl (Es.b (Es.bin .mul rfl (Es.b (Es.dkGet false hu1 hdk hn2 (Eb.var 0 rfl (.inl rfl) rfl rfl) (by intro _ _; rfl))) (Es.b Es.int))) (Es.b (Es.bin .mul rfl (Es.b (Es.dkGet true hu1 hdk hn3 (Eb.var 0 rfl (.inl rfl) rfl rfl) (by intro _ _; rfl))) (Es.b Es.int))))) (Es.b Es.int))) rfl) (by decide) rfl rfl rfl)) (Es.b Es.int)) rfl)
    (Sb.one (Ss.ret (Es.bin .mod rfl (Es.b (Es.bin .fdiv rfl (Es.b (Es.bin .mod rfl (Es.b (Es.biT .toInt rfl cb_toInt rfl A.z_int rfl (Eas.one (Es.b (Es.bin .mul rfl (Es.b (Es.dkGet false hu1 hdk hn2 (Eb.var 0 rfl (.inl rfl) rfl rfl) (by intro _ _; rfl))) (Es.b (Es.dkGet false hu1 hdk hn2 (Eb.var 0 rfl (.inl rfl) rfl rfl) (by intro _ _; rfl))))) rfl) (by decide) rfl rfl rfl)) (Es.b Es.int))) (Es.b Es.int))) (Eb.var 1 rfl (.inl rfl) rfl rfl)))))))⟩

theorem ok__law_count {P : Program} {w : World} {mg : Str → Option Value} {base : Heap} (C : Ct) (A : Fa C.K mg) (a : Addr) (ns : List Int) (D : Dc C n_1 n_2 n_3 a ns A.cl A.xc) (j l : Nat) : FnG P w C.K mg base (L2.CX P w) (l + 0 + 1) A.f__law_count A.d__law_count p__law_count (spS C (FT (T ns) (fun _ => none) (j + 0 + 1) 21) 3) := by
  refine defOk A.F__law_count sc__law_count rfl 21 (m__law_count) (T ns) (fun _ => none) (j + 0) rfl rfl (by decide) (fun cdv A0 outer s H F0 E hG hr => ?_)
  have D' : Dc (C.at H F0 (FT (T ns) (fun _ => none) (j + 0))) n_1 n_2 n_3 a ns A.cl A.xc := ⟨D.n1, D.n2, D.n3, D.sc, D.cl, D.xc⟩
  have hpo := passes_of (X := cxOf (L2.CX P w) P w C.K mg base ["_law_p", "_law_a", "_law_b", "_law_roots", "_law_y", "_law_x"] "_law_count" (defScope s__law_count) A.f__law_count cdv A0 outer s H E) rfl
  have hu := Pv.Room.u70 hr
  have hu65 := Pv.Room.u65 hr
  have hu1 := Pv.Room.u1 hr
  have hdk := dkn_of D'
  have hn3 := hn3_of D'
  have hn2 := hn2_of D'
  have hok : ClsOk C.K C.sc.2 := by rw [D.cl]; exact A.clsOk
  have hin : ∀ Cn ∈ C.sc.2, InsOk C.K Cn.1 := by rw [D.cl]; exact A.insOk
  have hcl_Curve : C.sc.2[0]? = some (A.C_Curve, at_Curve) := by rw [D.cl]; rfl
  exact ⟨[],
    (Sb.cons (Ss.own 3 (Ef.rep (Ef.b (Ef.lst (Ea.cons Es.int Ea.nil rfl) (Nat.le_of_ble_eq_true rfl))) (Eb.var 0 rfl (.inr (.inl rfl)) rfl rfl)) sc__law_count.nd rfl (.inr rfl) (.inl rfl) rfl (.inl rfl))
    (Sb.cons (Ss.for_ hpo rfl (Ei.rng1 rfl A.z_range (Ea.cons (Es.var 0 (by decide) rfl (.inr (.inl rfl)) rfl rfl) Ea.nil rfl) rfl) (Eg.name 4 (by decide) sc__law_count.nd rfl (.inl rfl) (.inr rfl)) (Sb.one (Ss.setIx 3 (by decide) rfl (.inr (.inl rfl)) rfl rfl (Es.bin .add rfl (Es.b (Es.idx rfl (Eb.var 3 rfl (.inr (.inl rfl)) rfl rfl) (Es.b (Es.bin .mod rfl (Es.b (Es.biT .toInt rfl cb_toInt rfl A.z_int rfl (Eas.one (Es.b (Es.bin .mul rfl (Eb.var 4 rfl (.inl rfl) rfl rfl) (Eb.var 4 rfl (.inl rfl) rfl rfl))) rfl) (by decide) rfl rfl rfl)) (Eb.var 0 rfl (.inr (.inl rfl)) rfl rfl))) (by intro _ _; rfl))) (Es.b Es.int)) (Es.b (Es.bin .mod rfl (Es.b (Es.biT .toInt rfl cb_toInt rfl A.z_int rfl (Eas.one (Es.b (Es.bin .mul rfl (Eb.var 4 rfl (.inl rfl) rfl rfl) (Eb.var 4 rfl (.inl rfl) rfl rfl))) rfl) (by decide) rfl rfl rfl)) (Eb.var 0 rfl (.inr (.inl rfl)) rfl rfl))) (fun _ => rfl) rfl rfl rfl)) (fun _ => rfl))
    (Sb.one (Ss.ret (Es.bin .add rfl (Es.b Es.int) (Es.b (Es.biB .sum rfl (cb_sum rfl) rfl A.z_sum rfl (Eas.one (Ef.b (Ef.comp rfl sc__law_count.nd (Ei.rng1 rfl A.z_range (Ea.cons (Es.var 0 (by decide) rfl (.inr (.inl rfl)) rfl rfl) Ea.nil rfl) rfl) bk__law_count_0 rfl (fun _ _ _ _ _ => (Eg.name 5 (by decide) sc__law_count.nd rfl (.inl rfl) (.inr rfl))) (fun _ _ _ _ _ => Ec.none) (fun _ _ _ _ _ => (Es.idx rfl (Eb.var 3 rfl (.inr (.inl rfl)) rfl rfl) (Es.b (Es.bin .mod rfl (Es.b (Es.biT .toInt rfl cb_toInt rfl A.z_int rfl (Eas.one (Es.b (Es.bin .add rfl (Es.b (Es.bin .add rfl (Es.b (Es.bin .mul rfl (Es.b (Es.bin .mul rfl (Eb.var 5 rfl (.inl rfl) rfl rfl) (Eb.var 5 rfl (.inl rfl) rfl rfl))) (Eb.var 5 rfl (.inl rfl) rfl rfl))) (Es.b (Es.bin .mul rfl (Eb.var 1 rfl (.inr (.inl rfl)) rfl rfl) (Eb.var 5 rfl (.inl rfl) rfl rfl))))) (Eb.var 2 rfl (.inr (.inl rfl)) rfl rfl))) rfl) (by decide) rfl rfl rfl)) (Eb.var 0 rfl (.inr (.inl rfl)) rfl rfl))) (by intro _ _; rfl))) (fun _ => rfl) (by decide))) rfl) (by decide) rfl rfl rfl)))))))⟩

theorem ok__law_spare {P : Program} {w : World} {mg : Str → Option Value} {base : Heap} (C : Ct) (A : Fa C.K mg) (a : Addr) (ns : List Int) (D : Dc C n_1 n_2 n_3 a ns A.cl A.xc) (j l : Nat) : FnG P w C.K mg base (L2.CX P w) (l + 0 + 1) A.f__law_spare A.d__law_spare p__law_spare (spS C (FT (T ns) (fun _ => none) (j + 0 + 1) 22) 1) := by
  refine defOk A.F__law_spare sc__law_spare rfl 22 (m__law_spare) (T ns) (fun _ => none) (j + 0) rfl rfl (by decide) (fun cdv A0 outer s H F0 E hG hr => ?_)
  have D' : Dc (C.at H F0 (FT (T ns) (fun _ => none) (j + 0))) n_1 n_2 n_3 a ns A.cl A.xc := ⟨D.n1, D.n2, D.n3, D.sc, D.cl, D.xc⟩
  have hu := Pv.Room.u70 hr
  have hu65 := Pv.Room.u65 hr
  have hu1 := Pv.Room.u1 hr
  have hdk := dkn_of D'
  have hn3 := hn3_of D'
  have hn2 := hn2_of D'
  have hok : ClsOk C.K C.sc.2 := by rw [D.cl]; exact A.clsOk
  have hin : ∀ Cn ∈ C.sc.2, InsOk C.K Cn.1 := by rw [D.cl]; exact A.insOk
  have hcl_Curve : C.sc.2[0]? = some (A.C_Curve, at_Curve) := by rw [D.cl]; rfl
  exact ⟨[],
    (Sb.cons (Ss.set (Ef.s (Ef.dct rfl rfl rfl A.z_dict rfl (Ef.s (Ef.comp rfl sc__law_spare.nd (Ei.rng1 rfl A.z_range (Ea.cons (Es.var 0 (by decide) rfl (.inr (.inl rfl)) rfl rfl) Ea.nil rfl) rfl) bk__law_spare_0 rfl (fun _ _ _ _ _ => (Eg.name 2 (by decide) sc__law_spare.nd rfl (.inl rfl) (.inr rfl))) (fun _ _ _ _ _ => Ec.none) (fun _ _ _ _ _ => (Es.tup (Ea.cons (Es.bin .mod rfl (Es.b (Es.biT .toInt rfl cb_toInt rfl A.z_int rfl (Eas.one (Es.b (Es.bin .mul rfl (Eb.var 2 rfl (.inl rfl) rfl rfl) (Eb.var 2 rfl (.inl rfl) rfl rfl))) rfl) (by decide) rfl rfl rfl)) (Eb.var 0 rfl (.inr (.inl rfl)) rfl rfl)) (Ea.cons Es.bl Ea.nil rfl) rfl) (Nat.le_of_ble_eq_true rfl))) (fun _ => rfl) (by decide))) (by decide) rfl rfl rfl)) (Eg.name 1 (by decide) sc__law_spare.nd rfl (.inr rfl) (.inl rfl)) rfl rfl rfl)
    (Sb.one (Ss.ret (Es.idx rfl (Ef.b (Ef.comp rfl sc__law_spare.nd (Ei.rng1 rfl A.z_range (Ea.cons (Es.var 0 (by decide) rfl (.inr (.inl rfl)) rfl rfl) Ea.nil rfl) rfl) bk__law_spare_1 rfl (fun _ _ _ _ _ => (Eg.name 3 (by decide) sc__law_spare.nd rfl (.inl rfl) (.inr rfl))) (fun _ _ _ _ _ => (Ec.one (Et.hasN rfl hu1 (Eb.var 3 rfl (.inl rfl) rfl rfl) (Eb.var 1 rfl (.inr (.inl rfl)) rfl rfl) rfl))) (fun _ _ _ _ _ => (Es.var 3 (by decide) rfl (.inl rfl) rfl rfl)) (fun _ => rfl) (by decide))) (Es.b Es.int) (by intro _ _; rfl)))))⟩

theorem ok_is_prime {P : Program} {w : World} {mg : Str → Option Value} {base : Heap} (C : Ct) (A : Fa C.K mg) (a : Addr) (ns : List Int) (D : Dc C n_1 n_2 n_3 a ns A.cl A.xc) (j l : Nat) : FnG P w C.K mg base (L2.CX P w) (l + 1 + 1) A.f_is_prime A.d_is_prime p_is_prime (spS C (FT (T ns) (fun _ => none) (j + 1 + 1) 1) 1) := by
  refine defOk A.F_is_prime sc_is_prime rfl 1 (m_is_prime 0) (T ns) (fun _ => none) (j + 1) rfl rfl (by decide) (fun cdv A0 outer s H F0 E hG hr => ?_)
  have D' : Dc (C.at H F0 (FT (T ns) (fun _ => none) (j + 1))) n_1 n_2 n_3 a ns A.cl A.xc := ⟨D.n1, D.n2, D.n3, D.sc, D.cl, D.xc⟩
  have hpo := passes_of (X := cxOf (L2.CX P w) P w C.K mg base ["thing", "divisor"] "is_prime" (defScope s_is_prime) A.f_is_prime cdv A0 outer s H E) rfl
  have hu := Pv.Room.u70 hr
  have hu65 := Pv.Room.u65 hr
  have hu1 := Pv.Room.u1 hr
  have hdk := dkn_of D'
  have hn3 := hn3_of D'
  have hn2 := hn2_of D'
  have hok : ClsOk C.K C.sc.2 := by rw [D.cl]; exact A.clsOk
  have hin : ∀ Cn ∈ C.sc.2, InsOk C.K Cn.1 := by rw [D.cl]; exact A.insOk
  have hcl_Curve : C.sc.2[0]? = some (A.C_Curve, at_Curve) := by rw [D.cl]; rfl
  have c_is_integer := @ok_is_integer P w mg base (C.at H F0 (FT (T ns) (fun _ => none) (j + 1))) A a ns D' (j + 0) (l + 0)
  exact ⟨[],
    (Sb.cons (Ss.ite (Ew.t (Ew.or (Et.not (Et.truth rfl (Es.b (Es.call 0 (c_is_integer) hG hr rfl A.g_is_integer A.F_is_integer.kp A.b_is_integer passF (Ea.cons (Es.var 0 (by decide) rfl (.inl rfl) rfl rfl) Ea.nil rfl) rfl rfl rfl rfl)) (fun _ => rfl))) (Ew.or (Et.cmp .lt rfl hu65 (Eb.var 0 rfl (.inl rfl) rfl rfl) (Es.b (Es.glob (v := .int 7) rfl A.g_LEAST_PRIME ⟨_, rfl⟩ (fun _ => rel_int) rfl)) rfl) (Ew.one (Et.cmp .gt rfl hu65 (Eb.var 0 rfl (.inl rfl) rfl rfl) (Es.b (Es.glob (v := .int 199) rfl A.g_GREATEST_PRIME ⟨_, rfl⟩ (fun _ => rel_int) rfl)) rfl))))) (Sb.one (Ss.ret Es.bl)) Sb.nil)
    (Sb.cons (Ss.for_ hpo rfl (Ei.seq rfl (Es.tup (Ea.cons Es.int (Ea.cons Es.int (Ea.cons Es.int (Ea.cons Es.int (Ea.cons Es.int (Ea.cons Es.int Ea.nil rfl) rfl) rfl) rfl) rfl) rfl) (Nat.le_of_ble_eq_true rfl))) (Eg.name 1 (by decide) sc_is_prime.nd rfl (.inl rfl) (.inr rfl)) (Sb.one (Ss.ite (Ew.t (Ew.and (Et.cmp .eq rfl hu65 (Es.b (Es.bin .mod rfl (Eb.var 0 rfl (.inl rfl) rfl rfl) (Eb.var 1 rfl (.inl rfl) rfl rfl))) (Es.b Es.int) rfl) (Ew.one (Et.cmp .ne rfl hu65 (Eb.var 0 rfl (.inl rfl) rfl rfl) (Eb.var 1 rfl (.inl rfl) rfl rfl) rfl)))) (Sb.one (Ss.ret Es.bl)) Sb.nil)) (fun _ => rfl))
    (Sb.one (Ss.ret Es.bl))))⟩

theorem ok_is_number {P : Program} {w : World} {mg : Str → Option Value} {base : Heap} (C : Ct) (A : Fa C.K mg) (a : Addr) (ns : List Int) (D : Dc C n_1 n_2 n_3 a ns A.cl A.xc) (j l : Nat) : FnG P w C.K mg base (L2.CX P w) (l + 1 + 1) A.f_is_number A.d_is_number p_is_number (spS C (FT (T ns) (fun _ => none) (j + 1 + 1) 2) 2) := by
  refine defOk A.F_is_number sc_is_number rfl 2 (m_is_number 0) (T ns) (fun _ => none) (j + 1) rfl rfl (by decide) (fun cdv A0 outer s H F0 E hG hr => ?_)
  have D' : Dc (C.at H F0 (FT (T ns) (fun _ => none) (j + 1))) n_1 n_2 n_3 a ns A.cl A.xc := ⟨D.n1, D.n2, D.n3, D.sc, D.cl, D.xc⟩
  have hu := Pv.Room.u70 hr
  have hu65 := Pv.Room.u65 hr
  have hu1 := Pv.Room.u1 hr
  have hdk := dkn_of D'
  have hn3 := hn3_of D'
  have hn2 := hn2_of D'
  have hok : ClsOk C.K C.sc.2 := by rw [D.cl]; exact A.clsOk
  have hin : ∀ Cn ∈ C.sc.2, InsOk C.K Cn.1 := by rw [D.cl]; exact A.insOk
  have hcl_Curve : C.sc.2[0]? = some (A.C_Curve, at_Curve) := by rw [D.cl]; rfl
  have c_is_integer := @ok_is_integer P w mg base (C.at H F0 (FT (T ns) (fun _ => none) (j + 1))) A a ns D' (j + 0) (l + 0)
  exact ⟨[],
    (Sb.one (Ss.ret (Es.and (Es.b (Es.call 0 (c_is_integer) hG hr rfl A.g_is_integer A.F_is_integer.kp A.b_is_integer passF (Ea.cons (Es.var 1 (by decide) rfl (.inl rfl) rfl rfl) Ea.nil rfl) rfl rfl rfl rfl)) (Es.one (Es.chain .le .lt rfl hu65 (Es.b Es.int) (Eb.var 1 rfl (.inl rfl) rfl rfl) (Eb.var 0 rfl (.inl rfl) rfl rfl) rfl)))))⟩

theorem ok_is_square {P : Program} {w : World} {mg : Str → Option Value} {base : Heap} (C : Ct) (A : Fa C.K mg) (a : Addr) (ns : List Int) (D : Dc C n_1 n_2 n_3 a ns A.cl A.xc) (j l : Nat) : FnG P w C.K mg base (L2.CX P w) (l + 1 + 1) A.f_is_square A.d_is_square p_is_square (spS C (FT (T ns) (fun _ => none) (j + 1 + 1) 4) 2) := by
  refine defOk A.F_is_square sc_is_square rfl 4 (m_is_square 3) (T ns) (fun _ => none) (j + 1) rfl rfl (by decide) (fun cdv A0 outer s H F0 E hG hr => ?_)
  have D' : Dc (C.at H F0 (FT (T ns) (fun _ => none) (j + 1))) n_1 n_2 n_3 a ns A.cl A.xc := ⟨D.n1, D.n2, D.n3, D.sc, D.cl, D.xc⟩
  have hu := Pv.Room.u70 hr
  have hu65 := Pv.Room.u65 hr
  have hu1 := Pv.Room.u1 hr
  have hdk := dkn_of D'
  have hn3 := hn3_of D'
  have hn2 := hn2_of D'
  have hok : ClsOk C.K C.sc.2 := by rw [D.cl]; exact A.clsOk
  have hin : ∀ Cn ∈ C.sc.2, InsOk C.K Cn.1 := by rw [D.cl]; exact A.insOk
  have hcl_Curve : C.sc.2[0]? = some (A.C_Curve, at_Curve) := by rw [D.cl]; rfl
  have c_number_power := @ok_number_power P w mg base (C.at H F0 (FT (T ns) (fun _ => none) (j + 1))) A a ns D' (j + 0) (l + 0)
  exact ⟨[],
    (Sb.one (Ss.ret (Es.or (Es.b (Es.cmp .eq rfl hu65 (Eb.var 1 rfl (.inl rfl) rfl rfl) (Es.b Es.int) rfl)) (Es.one (Es.cmp .eq rfl hu65 (Es.b (Es.call 3 (c_number_power) hG hr rfl A.g_number_power A.F_number_power.kp A.b_number_power passF (Ea.cons (Es.var 0 (by decide) rfl (.inl rfl) rfl rfl) (Ea.cons (Es.var 1 (by decide) rfl (.inl rfl) rfl rfl) (Ea.cons (Es.bin .fdiv rfl (Es.b (Es.bin .sub rfl (Eb.var 0 rfl (.inl rfl) rfl rfl) (Es.b Es.int))) (Es.b Es.int)) Ea.nil rfl) rfl) rfl) rfl rfl rfl rfl)) (Es.b Es.int) rfl)))))⟩

theorem ok_Curve_points {P : Program} {w : World} {mg : Str → Option Value} {base : Heap} (C : Ct) (A : Fa C.K mg) (a : Addr) (ns : List Int) (D : Dc C n_1 n_2 n_3 a ns A.cl A.xc) (j l : Nat) : FnG P w C.K mg base (L2.CX P w) (l + 1 + 1) A.f_Curve_points A.d_Curve_points p_Curve_points (spS C (FT (T ns) (fun _ => none) (j + 1 + 1) 9) 1) := by
  refine defOk A.F_Curve_points sc_Curve_points rfl 9 (m_Curve_points 8) (T ns) (fun _ => none) (j + 1) rfl rfl (by decide) (fun cdv A0 outer s H F0 E hG hr => ?_)
  have D' : Dc (C.at H F0 (FT (T ns) (fun _ => none) (j + 1))) n_1 n_2 n_3 a ns A.cl A.xc := ⟨D.n1, D.n2, D.n3, D.sc, D.cl, D.xc⟩
  have hpo := passes_of (X := cxOf (L2.CX P w) P w C.K mg base ["self", "found", "square_roots", "y", "known", "x"] "Curve.points" (defScope s_Curve_points) A.f_Curve_points cdv A0 outer s H E) rfl
  have hu := Pv.Room.u70 hr
  have hu65 := Pv.Room.u65 hr
  have hu1 := Pv.Room.u1 hr
  have hdk := dkn_of D'
  have hn3 := hn3_of D'
  have hn2 := hn2_of D'
  have hok : ClsOk C.K C.sc.2 := by rw [D.cl]; exact A.clsOk
  have hin : ∀ Cn ∈ C.sc.2, InsOk C.K Cn.1 := by rw [D.cl]; exact A.insOk
  have hcl_Curve : C.sc.2[0]? = some (A.C_Curve, at_Curve) := by rw [D.cl]; rfl
  have c_Curve_right := @ok_Curve_right P w mg base (C.at H F0 (FT (T ns) (fun _ => none) (j + 1))) A a ns D' (j + 0) (l + 0)
  exact ⟨[],
    (Sb.cons (Ss.own 1 (Ef.lst (Ea.cons Es.non Ea.nil rfl) (Nat.le_of_ble_eq_true rfl)) sc_Curve_points.nd rfl (.inl rfl) (.inr rfl) rfl (.inl rfl))
    (Sb.cons (Ss.own 2 Ef.dnew sc_Curve_points.nd rfl (.inl rfl) (.inr rfl) rfl (.inl rfl))
    (Sb.cons (Ss.grp 3 2 4 hpo rfl (Ei.rng1 rfl A.z_range (Ea.cons (Es.fld hok (Eb.var 0 rfl (.inl rfl) rfl rfl) rfl) Ea.nil rfl) rfl) (Eg.name 3 (by decide) sc_Curve_points.nd rfl (.inl rfl) (.inr rfl)) (fun _ => rfl) (by decide) (by decide) (by decide) (by decide) (by decide) (by decide) sc_Curve_points.nd rfl (.inl rfl) rfl rfl rfl (.inl rfl) rfl rfl (.inl rfl) (.inr rfl) (Es.b (Es.bin .mod rfl (Es.b (Es.bin .mul rfl (Eb.var 3 rfl (.inl rfl) rfl rfl) (Eb.var 3 rfl (.inl rfl) rfl rfl))) (Es.b (Es.fld hok (Eb.var 0 rfl (.inl rfl) rfl rfl) rfl)))) (Es.var 3 (by decide) rfl (.inl rfl) rfl rfl) ⟨rfl, rfl, rfl, rfl⟩ rfl rfl rfl rfl rfl rfl rfl (.inl rfl) (.inl rfl))
    (Sb.cons (Ss.for_ hpo rfl (Ei.rng1 rfl A.z_range (Ea.cons (Es.fld hok (Eb.var 0 rfl (.inl rfl) rfl rfl) rfl) Ea.nil rfl) rfl) (Eg.name 5 (by decide) sc_Curve_points.nd rfl (.inl rfl) (.inr rfl)) (Sb.one (Ss.for_ hpo rfl (Ei.seq rfl (Es.dget2 rfl hu1 (Eb.var 2 rfl (.inl rfl) rfl rfl) (Es.b (Es.meth 0 8 hcl_Curve (by decide) hok A.M_Curve_right c_Curve_right hG hr A.b_Curve_right passF (Es.var 0 (by decide) rfl (.inl rfl) rfl rfl) (Ea.cons (Es.var 5 (by decide) rfl (.inl rfl) rfl rfl) Ea.nil rfl) rfl rfl rfl rfl)) (Ef.s (Ef.lst Ea.nil (Nat.le_of_ble_eq_true rfl))) ⟨rfl, rfl, rfl, rfl⟩)) (Eg.name 3 (by decide) sc_Curve_points.nd rfl (.inl rfl) (.inr rfl)) (Sb.one (Ss.app 1 (by decide) rfl (.inl rfl) rfl rfl (Es.tup (Ea.cons (Es.var 5 (by decide) rfl (.inl rfl) rfl rfl) (Ea.cons (Es.var 3 (by decide) rfl (.inl rfl) rfl rfl) Ea.nil rfl) rfl) (Nat.le_of_ble_eq_true rfl)) rfl rfl rfl rfl rfl rfl)) (fun _ => rfl))) (fun _ => rfl))
    (Sb.one (Ss.ret (Es.biT .toTuple rfl cb_toTuple rfl A.z_tuple rfl (Eas.one (Eb.var 1 rfl (.inl rfl) rfl rfl) rfl) (by decide) rfl rfl rfl)))))))⟩

theorem ok_trace {P : Program} {w : World} {mg : Str → Option Value} {base : Heap} (C : Ct) (A : Fa C.K mg) (a : Addr) (ns : List Int) (D : Dc C n_1 n_2 n_3 a ns A.cl A.xc) (j l : Nat) : FnG P w C.K mg base (L2.CX P w) (l + 1 + 1) A.f_trace A.d_trace p_trace (spS C (FT (T ns) (fun _ => none) (j + 1 + 1) 14) 1) := by
  refine defOk A.F_trace sc_trace rfl 14 (m_trace 12 13) (T ns) (fun _ => none) (j + 1) rfl rfl (by decide) (fun cdv A0 outer s H F0 E hG hr => ?_)
  have D' : Dc (C.at H F0 (FT (T ns) (fun _ => none) (j + 1))) n_1 n_2 n_3 a ns A.cl A.xc := ⟨D.n1, D.n2, D.n3, D.sc, D.cl, D.xc⟩
  have hu := Pv.Room.u70 hr
  have hu65 := Pv.Room.u65 hr
  have hu1 := Pv.Room.u1 hr
  have hdk := dkn_of D'
  have hn3 := hn3_of D'
  have hn2 := hn2_of D'
  have hok : ClsOk C.K C.sc.2 := by rw [D.cl]; exact A.clsOk
  have hin : ∀ Cn ∈ C.sc.2, InsOk C.K Cn.1 := by rw [D.cl]; exact A.insOk
  have hcl_Curve : C.sc.2[0]? = some (A.C_Curve, at_Curve) := by rw [D.cl]; rfl
  have c_square_table := @ok_square_table P w mg base (C.at H F0 (FT (T ns) (fun _ => none) (j + 1))) A a ns D' (j + 0) (l + 0)
  have c_trace_by_table := @ok_trace_by_table P w mg base (C.at H F0 (FT (T ns) (fun _ => none) (j + 1))) A a ns D' (j + 0) (l + 0)
  exact ⟨[],
    (Sb.one (Ss.ret (Es.call 13 (c_trace_by_table) hG hr rfl A.g_trace_by_table A.F_trace_by_table.kp A.b_trace_by_table passF (Ea.cons (Es.fld hok (Eb.var 0 rfl (.inl rfl) rfl rfl) rfl) (Ea.cons (Es.fld hok (Eb.var 0 rfl (.inl rfl) rfl rfl) rfl) (Ea.cons (Es.fld hok (Eb.var 0 rfl (.inl rfl) rfl rfl) rfl) (Ea.cons (Es.call 12 (c_square_table) hG hr rfl A.g_square_table A.F_square_table.kp A.b_square_table passF (Ea.cons (Es.fld hok (Eb.var 0 rfl (.inl rfl) rfl rfl) rfl) Ea.nil rfl) rfl rfl rfl rfl) Ea.nil rfl) rfl) rfl) rfl) rfl rfl rfl rfl)))⟩

theorem ok__law_pick {P : Program} {w : World} {mg : Str → Option Value} {base : Heap} (C : Ct) (A : Fa C.K mg) (a : Addr) (ns : List Int) (D : Dc C n_1 n_2 n_3 a ns A.cl A.xc) (j l : Nat) : FnG P w C.K mg base (L2.CX P w) (l + 1 + 1) A.f__law_pick A.d__law_pick p__law_pick (spS C (FT (T ns) (fun _ => none) (j + 1 + 1) 18) 2) := by
  refine defOk A.F__law_pick sc__law_pick rfl 18 (m__law_pick 17) (T ns) (fun _ => none) (j + 1) rfl rfl (by decide) (fun cdv A0 outer s H F0 E hG hr => ?_)
  have D' : Dc (C.at H F0 (FT (T ns) (fun _ => none) (j + 1))) n_1 n_2 n_3 a ns A.cl A.xc := ⟨D.n1, D.n2, D.n3, D.sc, D.cl, D.xc⟩
  have hu := Pv.Room.u70 hr
  have hu65 := Pv.Room.u65 hr
  have hu1 := Pv.Room.u1 hr
  have hdk := dkn_of D'
  have hn3 := hn3_of D'
  have hn2 := hn2_of D'
  have hok : ClsOk C.K C.sc.2 := by rw [D.cl]; exact A.clsOk
  have hin : ∀ Cn ∈ C.sc.2, InsOk C.K Cn.1 := by rw [D.cl]; exact A.insOk
  have hcl_Curve : C.sc.2[0]? = some (A.C_Curve, at_Curve) := by rw [D.cl]; rfl
  have c__law_draw := @ok__law_draw P w mg base (C.at H F0 (FT (T ns) (fun _ => none) (j + 1))) A a ns D' (j + 0) (l + 0)
  exact ⟨[],
    (Sb.one (Ss.ret (Es.idx rfl (Eb.var 1 rfl (.inl rfl) rfl rfl) (Es.b (Es.call 17 (c__law_draw) hG hr rfl A.g__law_draw A.F__law_draw.kp A.b__law_draw passF (Ea.cons (Es.var 0 (by decide) rfl (.inl rfl) rfl rfl) (Ea.cons (Es.biB .len rfl cb_len rfl A.z_len rfl (Eas.one (Eb.var 1 rfl (.inl rfl) rfl rfl) rfl) (by decide) rfl rfl rfl) Ea.nil rfl) rfl) rfl rfl rfl rfl)) (by intro _ _; rfl))))⟩

theorem ok__law_curve {P : Program} {w : World} {mg : Str → Option Value} {base : Heap} (C : Ct) (A : Fa C.K mg) (a : Addr) (ns : List Int) (D : Dc C n_1 n_2 n_3 a ns A.cl A.xc) (j l : Nat) : FnG P w C.K mg base (L2.CX P w) (l + 1 + 1) A.f__law_curve A.d__law_curve p__law_curve (spS C (FT (T ns) (fun _ => none) (j + 1 + 1) 20) 2) := by
  refine defOk A.F__law_curve sc__law_curve rfl 20 (m__law_curve 17) (T ns) (fun _ => none) (j + 1) rfl rfl (by decide) (fun cdv A0 outer s H F0 E hG hr => ?_)
  have D' : Dc (C.at H F0 (FT (T ns) (fun _ => none) (j + 1))) n_1 n_2 n_3 a ns A.cl A.xc := ⟨D.n1, D.n2, D.n3, D.sc, D.cl, D.xc⟩
  have hpo := passes_of (X := cxOf (L2.CX P w) P w C.K mg base ["_law_deck_here", "_law_p", "_law_way", "_law_a", "_law_b", "_law_turn"] "_law_curve" (defScope s__law_curve) A.f__law_curve cdv A0 outer s H E) rfl
  have hu := Pv.Room.u70 hr
  have hu65 := Pv.Room.u65 hr
  have hu1 := Pv.Room.u1 hr
  have hdk := dkn_of D'
  have hn3 := hn3_of D'
  have hn2 := hn2_of D'
  have hok : ClsOk C.K C.sc.2 := by rw [D.cl]; exact A.clsOk
  have hin : ∀ Cn ∈ C.sc.2, InsOk C.K Cn.1 := by rw [D.cl]; exact A.insOk
  have hcl_Curve : C.sc.2[0]? = some (A.C_Curve, at_Curve) := by rw [D.cl]; rfl
  have c__law_draw := @ok__law_draw P w mg base (C.at H F0 (FT (T ns) (fun _ => none) (j + 1))) A a ns D' (j + 0) (l + 0)
  exact ⟨[],
    (Sb.cons (Ss.par3 2 3 4 rfl sc__law_curve.nd rfl rfl rfl (by decide) (by decide) (by decide) (by decide) (by decide) (by decide) rfl rfl rfl (Ea.cons (Es.call 17 (c__law_draw) hG hr rfl A.g__law_draw A.F__law_draw.kp A.b__law_draw passF (Ea.cons (Es.var 0 (by decide) rfl (.inl rfl) rfl rfl) (Ea.cons Es.int Ea.nil rfl) rfl) rfl rfl rfl rfl) (Ea.cons (Es.call 17 (c__law_draw) hG hr rfl A.g__law_draw A.F__law_draw.kp A.b__law_draw passF (Ea.cons (Es.var 0 (by decide) rfl (.inl rfl) rfl rfl) (Ea.cons (Es.var 1 (by decide) rfl (.inl rfl) rfl rfl) Ea.nil rfl) rfl) rfl rfl rfl rfl) (Ea.cons (Es.call 17 (c__law_draw) hG hr rfl A.g__law_draw A.F__law_draw.kp A.b__law_draw passF (Ea.cons (Es.var 0 (by decide) rfl (.inl rfl) rfl rfl) (Ea.cons (Es.var 1 (by decide) rfl (.inl rfl) rfl rfl) Ea.nil rfl) rfl) rfl rfl rfl rfl) Ea.nil rfl) rfl) rfl) rfl rfl)
    (Sb.cons (Ss.ite (Et.cmp .eq rfl hu65 (Eb.var 2 rfl (.inl rfl) rfl rfl) (Es.b Es.int) rfl) (Sb.one (Ss.set Es.int (Eg.name 3 (by decide) sc__law_curve.nd rfl (.inl rfl) (.inr rfl)) rfl rfl rfl)) (Sb.one (Ss.ite (Et.cmp .eq rfl hu65 (Eb.var 2 rfl (.inl rfl) rfl rfl) (Es.b Es.int) rfl) (Sb.one (Ss.set Es.int (Eg.name 4 (by decide) sc__law_curve.nd rfl (.inl rfl) (.inr rfl)) rfl rfl rfl)) (Sb.one (Ss.ite (Et.cmp .lt rfl hu65 (Eb.var 2 rfl (.inl rfl) rfl rfl) (Es.b Es.int) rfl) (Sb.one (Ss.par 3 4 rfl sc__law_curve.nd rfl rfl (by decide) (by decide) (by decide) rfl rfl (Ea.cons (Es.bin .mod rfl (Es.b (Es.bin .sub rfl (Es.b (Es.bin .mul rfl (Eb.var 3 rfl (.inl rfl) rfl rfl) (Eb.var 4 rfl (.inl rfl) rfl rfl))) (Es.b (Es.bin .mul rfl (Es.b (Es.bin .add rfl (Eb.var 3 rfl (.inl rfl) rfl rfl) (Eb.var 4 rfl (.inl rfl) rfl rfl))) (Es.b (Es.bin .add rfl (Eb.var 3 rfl (.inl rfl) rfl rfl) (Eb.var 4 rfl (.inl rfl) rfl rfl))))))) (Eb.var 1 rfl (.inl rfl) rfl rfl)) (Ea.cons (Es.bin .mod rfl (Es.b (Es.biT .toInt rfl cb_toInt rfl A.z_int rfl (Eas.one (Es.b (Es.bin .mul rfl (Es.b (Es.bin .mul rfl (Eb.var 3 rfl (.inl rfl) rfl rfl) (Eb.var 4 rfl (.inl rfl) rfl rfl))) (Es.b (Es.bin .add rfl (Eb.var 3 rfl (.inl rfl) rfl rfl) (Eb.var 4 rfl (.inl rfl) rfl rfl))))) rfl) (by decide) rfl rfl rfl)) (Eb.var 1 rfl (.inl rfl) rfl rfl)) Ea.nil rfl) rfl) rfl rfl)) Sb.nil)))))
    (Sb.cons (Ss.for_ hpo rfl (Ei.rng1 rfl A.z_range (Ea.cons Es.int Ea.nil rfl) rfl) (Eg.name 5 (by decide) sc__law_curve.nd rfl (.inl rfl) (.inr rfl)) (Sb.one (Ss.ite (Et.cmp .eq rfl hu65 (Es.b (Es.bin .mod rfl (Es.b (Es.biT .toInt rfl cb_toInt rfl A.z_int rfl (Eas.one (Es.b (Es.bin .add rfl (Es.b (Es.bin .mul rfl (Es.b (Es.bin .mul rfl (Es.b (Es.bin .mul rfl (Es.b Es.int) (Eb.var 3 rfl (.inl rfl) rfl rfl))) (Eb.var 3 rfl (.inl rfl) rfl rfl))) (Eb.var 3 rfl (.inl rfl) rfl rfl))) (Es.b (Es.bin .mul rfl (Es.b (Es.bin .mul rfl (Es.b Es.int) (Eb.var 4 rfl (.inl rfl) rfl rfl))) (Eb.var 4 rfl (.inl rfl) rfl rfl))))) rfl) (by decide) rfl rfl rfl)) (Eb.var 1 rfl (.inl rfl) rfl rfl))) (Es.b Es.int) rfl) (Sb.one (Ss.set (Es.bin .mod rfl (Es.b (Es.biT .toInt rfl cb_toInt rfl A.z_int rfl (Eas.one (Es.b (Es.bin .add rfl (Eb.var 4 rfl (.inl rfl) rfl rfl) (Es.b Es.int))) rfl) (by decide) rfl rfl rfl)) (Eb.var 1 rfl (.inl rfl) rfl rfl)) (Eg.name 4 (by decide) sc__law_curve.nd rfl (.inl rfl) (.inr rfl)) rfl rfl rfl)) Sb.nil)) (fun _ => rfl))
    (Sb.one (Ss.ret (Es.tup (Ea.cons (Es.var 3 (by decide) rfl (.inl rfl) rfl rfl) (Ea.cons (Es.var 4 (by decide) rfl (.inl rfl) rfl rfl) Ea.nil rfl) rfl) (Nat.le_of_ble_eq_true rfl)))))))⟩

theorem ok_spare {P : Program} {w : World} {mg : Str → Option Value} {base : Heap} (C : Ct) (A : Fa C.K mg) (a : Addr) (ns : List Int) (D : Dc C n_1 n_2 n_3 a ns A.cl A.xc) (j l : Nat) : FnG P w C.K mg base (L2.CX P w) (l + 2 + 1) A.f_spare A.d_spare p_spare (spS C (FT (T ns) (fun _ => none) (j + 2 + 1) 5) 1) := by
  refine defOk A.F_spare sc_spare rfl 5 (m_spare 4) (T ns) (fun _ => none) (j + 2) rfl rfl (by decide) (fun cdv A0 outer s H F0 E hG hr => ?_)
  have D' : Dc (C.at H F0 (FT (T ns) (fun _ => none) (j + 2))) n_1 n_2 n_3 a ns A.cl A.xc := ⟨D.n1, D.n2, D.n3, D.sc, D.cl, D.xc⟩
  have hpo := passes_of (X := cxOf (L2.CX P w) P w C.K mg base ["prime", "number"] "spare" (defScope s_spare) A.f_spare cdv A0 outer s H E) rfl
  have hu := Pv.Room.u70 hr
  have hu65 := Pv.Room.u65 hr
  have hu1 := Pv.Room.u1 hr
  have hdk := dkn_of D'
  have hn3 := hn3_of D'
  have hn2 := hn2_of D'
  have hok : ClsOk C.K C.sc.2 := by rw [D.cl]; exact A.clsOk
  have hin : ∀ Cn ∈ C.sc.2, InsOk C.K Cn.1 := by rw [D.cl]; exact A.insOk
  have hcl_Curve : C.sc.2[0]? = some (A.C_Curve, at_Curve) := by rw [D.cl]; rfl
  have c_is_square := @ok_is_square P w mg base (C.at H F0 (FT (T ns) (fun _ => none) (j + 2))) A a ns D' (j + 0) (l + 0)
  exact ⟨[],
    (Sb.cons (Ss.set Es.int (Eg.name 1 (by decide) sc_spare.nd rfl (.inl rfl) (.inr rfl)) rfl rfl rfl)
    (Sb.cons (Ss.while_ hpo (Et.truth rfl (Es.b (Es.call 4 (c_is_square) hG hr rfl A.g_is_square A.F_is_square.kp A.b_is_square passF (Ea.cons (Es.var 0 (by decide) rfl (.inl rfl) rfl rfl) (Ea.cons (Es.var 1 (by decide) rfl (.inl rfl) rfl rfl) Ea.nil rfl) rfl) rfl rfl rfl rfl)) (fun _ => rfl)) (Sb.one (Ss.aug 1 .add (by decide) (Es.b Es.int) sc_spare.nd rfl (.inl rfl) (.inr rfl))))
    (Sb.one (Ss.ret (Es.var 1 (by decide) rfl (.inl rfl) rfl rfl)))))⟩

theorem ok_Curve___init__ {P : Program} {w : World} {mg : Str → Option Value} {base : Heap} (C : Ct) (A : Fa C.K mg) (a : Addr) (ns : List Int) (D : Dc C n_1 n_2 n_3 a ns A.cl A.xc) (j l : Nat) : FnG P w C.K mg base (L2.CX P w) (l + 2 + 1) A.f_Curve___init__ A.d_Curve___init__ p_Curve___init__ (spI C (FT (T ns) (fun _ => none) (j + 2 + 1) 6) 0 4) := by
  refine initOk A.F_Curve___init__ sc_Curve___init__ rfl 6 0 (n_Curve___init__ 2 1) (T ns) (fun _ => none) (j + 2) rfl rfl (by decide) rfl (fun cdv A0 outer s H H1 F0 x1 E hG hr => ?_)
  have D' : Dc (C.atI H1 F0 (FT (T ns) (fun _ => none) (j + 2)) x1) n_1 n_2 n_3 a ns A.cl A.xc := ⟨D.n1, D.n2, D.n3, D.sc, D.cl, D.xc⟩
  have hu := Pv.Room.u70 hr
  have hu65 := Pv.Room.u65 hr
  have hu1 := Pv.Room.u1 hr
  have hdk := dkn_of D'
  have hn3 := hn3_of D'
  have hn2 := hn2_of D'
  have hok : ClsOk C.K C.sc.2 := by rw [D.cl]; exact A.clsOk
  have hin : ∀ Cn ∈ C.sc.2, InsOk C.K Cn.1 := by rw [D.cl]; exact A.insOk
  have hcl_Curve : C.sc.2[0]? = some (A.C_Curve, at_Curve) := by rw [D.cl]; rfl
  have c_is_prime := @ok_is_prime P w mg base (C.atI H1 F0 (FT (T ns) (fun _ => none) (j + 2)) x1) A a ns D' (j + 0) (l + 0)
  have c_is_number := @ok_is_number P w mg base (C.atI H1 F0 (FT (T ns) (fun _ => none) (j + 2)) x1) A a ns D' (j + 0) (l + 0)
  exact (Sb.cons (Ss.ite (Et.not (Et.truth rfl (Es.b (Es.call 1 (c_is_prime) hG hr rfl A.g_is_prime A.F_is_prime.kp A.b_is_prime passF (Ea.cons (Es.var 1 (by decide) rfl (.inl rfl) rfl rfl) Ea.nil rfl) rfl rfl rfl rfl)) (fun _ => rfl))) (Sb.one Ss.bad) Sb.nil)
    (Sb.cons (Ss.ite (Et.not (Et.truth rfl (Es.b (Es.call 2 (c_is_number) hG hr rfl A.g_is_number A.F_is_number.kp A.b_is_number passF (Ea.cons (Es.var 1 (by decide) rfl (.inl rfl) rfl rfl) (Ea.cons (Es.var 2 (by decide) rfl (.inl rfl) rfl rfl) Ea.nil rfl) rfl) rfl rfl rfl rfl)) (fun _ => rfl))) (Sb.one Ss.bad) Sb.nil)
    (Sb.cons (Ss.ite (Et.not (Et.truth rfl (Es.b (Es.call 2 (c_is_number) hG hr rfl A.g_is_number A.F_is_number.kp A.b_is_number passF (Ea.cons (Es.var 1 (by decide) rfl (.inl rfl) rfl rfl) (Ea.cons (Es.var 3 (by decide) rfl (.inl rfl) rfl rfl) Ea.nil rfl) rfl) rfl rfl rfl rfl)) (fun _ => rfl))) (Sb.one Ss.bad) Sb.nil)
    (Sb.cons (Ss.ite (Et.cmp .eq rfl hu65 (Es.b (Es.bin .mod rfl (Es.b (Es.bin .add rfl (Es.b (Es.bin .mul rfl (Es.b (Es.bin .mul rfl (Es.b (Es.bin .mul rfl (Es.b Es.int) (Eb.var 2 rfl (.inl rfl) rfl rfl))) (Eb.var 2 rfl (.inl rfl) rfl rfl))) (Eb.var 2 rfl (.inl rfl) rfl rfl))) (Es.b (Es.bin .mul rfl (Es.b (Es.bin .mul rfl (Es.b Es.int) (Eb.var 3 rfl (.inl rfl) rfl rfl))) (Eb.var 3 rfl (.inl rfl) rfl rfl))))) (Eb.var 1 rfl (.inl rfl) rfl rfl))) (Es.b Es.int) rfl) (Sb.one Ss.bad) Sb.nil)
    (Sb.cons (Ss.setF 0 0 (by decide) rfl (.inl rfl) rfl rfl hcl_Curve (by decide) hok (Es.var 1 (by decide) rfl (.inl rfl) rfl rfl) rfl)
    (Sb.cons (Ss.setF 0 0 (by decide) rfl (.inl rfl) rfl rfl hcl_Curve (by decide) hok (Es.var 2 (by decide) rfl (.inl rfl) rfl rfl) rfl)
    (Sb.one (Ss.setF 0 0 (by decide) rfl (.inl rfl) rfl rfl hcl_Curve (by decide) hok (Es.var 3 (by decide) rfl (.inl rfl) rfl rfl) rfl))))))))

theorem ok_count {P : Program} {w : World} {mg : Str → Option Value} {base : Heap} (C : Ct) (A : Fa C.K mg) (a : Addr) (ns : List Int) (D : Dc C n_1 n_2 n_3 a ns A.cl A.xc) (j l : Nat) : FnG P w C.K mg base (L2.CX P w) (l + 2 + 1) A.f_count A.d_count p_count (spS C (FT (T ns) (fun _ => none) (j + 2 + 1) 15) 1) := by
  refine defOk A.F_count sc_count rfl 15 (m_count 14) (T ns) (fun _ => none) (j + 2) rfl rfl (by decide) (fun cdv A0 outer s H F0 E hG hr => ?_)
  have D' : Dc (C.at H F0 (FT (T ns) (fun _ => none) (j + 2))) n_1 n_2 n_3 a ns A.cl A.xc := ⟨D.n1, D.n2, D.n3, D.sc, D.cl, D.xc⟩
  have hu := Pv.Room.u70 hr
  have hu65 := Pv.Room.u65 hr
  have hu1 := Pv.Room.u1 hr
  have hdk := dkn_of D'
  have hn3 := hn3_of D'
  have hn2 := hn2_of D'
  have hok : ClsOk C.K C.sc.2 := by rw [D.cl]; exact A.clsOk
  have hin : ∀ Cn ∈ C.sc.2, InsOk C.K Cn.1 := by rw [D.cl]; exact A.insOk
  have hcl_Curve : C.sc.2[0]? = some (A.C_Curve, at_Curve) := by rw [D.cl]; rfl
  have c_trace := @ok_trace P w mg base (C.at H F0 (FT (T ns) (fun _ => none) (j + 2))) A a ns D' (j + 0) (l + 0)
  exact ⟨[],
    (Sb.one (Ss.ret (Es.bin .sub rfl (Es.b (Es.bin .add rfl (Es.b (Es.fld hok (Eb.var 0 rfl (.inl rfl) rfl rfl) rfl)) (Es.b Es.int))) (Es.b (Es.call 14 (c_trace) hG hr rfl A.g_trace A.F_trace.kp A.b_trace passF (Ea.cons (Es.var 0 (by decide) rfl (.inl rfl) rfl rfl) Ea.nil rfl) rfl rfl rfl rfl)))))⟩

theorem ok__law_prime {P : Program} {w : World} {mg : Str → Option Value} {base : Heap} (C : Ct) (A : Fa C.K mg) (a : Addr) (ns : List Int) (D : Dc C n_1 n_2 n_3 a ns A.cl A.xc) (j l : Nat) : FnG P w C.K mg base (L2.CX P w) (l + 2 + 1) A.f__law_prime A.d__law_prime p__law_prime (spS C (FT (T ns) (fun _ => none) (j + 2 + 1) 19) 1) := by
  refine defOk A.F__law_prime sc__law_prime rfl 19 (m__law_prime 17 18) (T ns) (fun _ => none) (j + 2) rfl rfl (by decide) (fun cdv A0 outer s H F0 E hG hr => ?_)
  have D' : Dc (C.at H F0 (FT (T ns) (fun _ => none) (j + 2))) n_1 n_2 n_3 a ns A.cl A.xc := ⟨D.n1, D.n2, D.n3, D.sc, D.cl, D.xc⟩
  have hu := Pv.Room.u70 hr
  have hu65 := Pv.Room.u65 hr
  have hu1 := Pv.Room.u1 hr
  have hdk := dkn_of D'
  have hn3 := hn3_of D'
  have hn2 := hn2_of D'
  have hok : ClsOk C.K C.sc.2 := by rw [D.cl]; exact A.clsOk
  have hin : ∀ Cn ∈ C.sc.2, InsOk C.K Cn.1 := by rw [D.cl]; exact A.insOk
  have hcl_Curve : C.sc.2[0]? = some (A.C_Curve, at_Curve) := by rw [D.cl]; rfl
  have c__law_draw := @ok__law_draw P w mg base (C.at H F0 (FT (T ns) (fun _ => none) (j + 2))) A a ns D' (j + 1) (l + 1)
  have c__law_pick := @ok__law_pick P w mg base (C.at H F0 (FT (T ns) (fun _ => none) (j + 2))) A a ns D' (j + 0) (l + 0)
  exact ⟨[],
    (Sb.cons (Ss.ite (Et.cmp .eq rfl hu65 (Es.b (Es.call 17 (c__law_draw) hG hr rfl A.g__law_draw A.F__law_draw.kp A.b__law_draw passF (Ea.cons (Es.var 0 (by decide) rfl (.inl rfl) rfl rfl) (Ea.cons Es.int Ea.nil rfl) rfl) rfl rfl rfl rfl)) (Es.b Es.int) rfl) (Sb.one (Ss.ret (Es.call 18 (c__law_pick) hG hr rfl A.g__law_pick A.F__law_pick.kp A.b__law_pick passF (Ea.cons (Es.var 0 (by decide) rfl (.inl rfl) rfl rfl) (Ea.cons (Es.tup (Ea.cons Es.int (Ea.cons Es.int (Ea.cons Es.int (Ea.cons Es.int (Ea.cons Es.int (Ea.cons Es.int (Ea.cons Es.int (Ea.cons Es.int (Ea.cons Es.int (Ea.cons Es.int (Ea.cons Es.int (Ea.cons Es.int (Ea.cons Es.int (Ea.cons Es.int (Ea.cons Es.int (Ea.cons Es.int (Ea.cons Es.int (Ea.cons Es.int (Ea.cons Es.int (Ea.cons Es.int (Ea.cons Es.int (Ea.cons Es.int (Ea.cons Es.int (Ea.cons Es.int (Ea.cons Es.int (Ea.cons Es.int (Ea.cons Es.int (Ea.cons Es.int (Ea.cons Es.int Ea.nil rfl) rfl) rfl) rfl) rfl) rfl) rfl) rfl) rfl) rfl) rfl) rfl) rfl) rfl) rfl) rfl) rfl) rfl) rfl) rfl) rfl) rfl) rfl) rfl) rfl) rfl) rfl) rfl) rfl) (Nat.le_of_ble_eq_true rfl)) Ea.nil rfl) rfl) rfl rfl rfl rfl))) Sb.nil)
    (Sb.one (Ss.ret (Es.call 18 (c__law_pick) hG hr rfl A.g__law_pick A.F__law_pick.kp A.b__law_pick passF (Ea.cons (Es.var 0 (by decide) rfl (.inl rfl) rfl rfl) (Ea.cons (Es.tup (Ea.cons Es.int (Ea.cons Es.int (Ea.cons Es.int (Ea.cons Es.int (Ea.cons Es.int (Ea.cons Es.int (Ea.cons Es.int (Ea.cons Es.int (Ea.cons Es.int (Ea.cons Es.int (Ea.cons Es.int (Ea.cons Es.int (Ea.cons Es.int (Ea.cons Es.int Ea.nil rfl) rfl) rfl) rfl) rfl) rfl) rfl) rfl) rfl) rfl) rfl) rfl) rfl) rfl) (Nat.le_of_ble_eq_true rfl)) Ea.nil rfl) rfl) rfl rfl rfl rfl))))⟩

theorem ok_Curve_twist {P : Program} {w : World} {mg : Str → Option Value} {base : Heap} (C : Ct) (A : Fa C.K mg) (a : Addr) (ns : List Int) (D : Dc C n_1 n_2 n_3 a ns A.cl A.xc) (j l : Nat) : FnG P w C.K mg base (L2.CX P w) (l + 4 + 1) A.f_Curve_twist A.d_Curve_twist p_Curve_twist (spS C (FT (T ns) (fun _ => none) (j + 3 + 1) 10) 1) := by
  refine defOk A.F_Curve_twist sc_Curve_twist rfl 10 (m_Curve_twist 6 5) (T ns) (fun _ => none) (j + 3) rfl rfl (by decide) (fun cdv A0 outer s H F0 E hG hr => ?_)
  have D' : Dc (C.at H F0 (FT (T ns) (fun _ => none) (j + 3))) n_1 n_2 n_3 a ns A.cl A.xc := ⟨D.n1, D.n2, D.n3, D.sc, D.cl, D.xc⟩
  have hu := Pv.Room.u70 hr
  have hu65 := Pv.Room.u65 hr
  have hu1 := Pv.Room.u1 hr
  have hdk := dkn_of D'
  have hn3 := hn3_of D'
  have hn2 := hn2_of D'
  have hok : ClsOk C.K C.sc.2 := by rw [D.cl]; exact A.clsOk
  have hin : ∀ Cn ∈ C.sc.2, InsOk C.K Cn.1 := by rw [D.cl]; exact A.insOk
  have hcl_Curve : C.sc.2[0]? = some (A.C_Curve, at_Curve) := by rw [D.cl]; rfl
  have c_spare := @ok_spare P w mg base (C.at H F0 (FT (T ns) (fun _ => none) (j + 3))) A a ns D' (j + 0) (l + 1)
  have c_Curve___init__ := @ok_Curve___init__ P w mg base (C.at H F0 (FT (T ns) (fun _ => none) (j + 3))) A a ns D' (j + 0) (l + 0)
  exact ⟨[],
    (Sb.cons (Ss.set (Es.call 5 (c_spare) hG hr rfl A.g_spare A.F_spare.kp A.b_spare passF (Ea.cons (Es.fld hok (Eb.var 0 rfl (.inl rfl) rfl rfl) rfl) Ea.nil rfl) rfl rfl rfl rfl) (Eg.name 1 (by decide) sc_Curve_twist.nd rfl (.inl rfl) (.inr rfl)) rfl rfl rfl)
    (Sb.cons (Ss.set (Es.bin .mul rfl (Eb.var 1 rfl (.inl rfl) rfl rfl) (Eb.var 1 rfl (.inl rfl) rfl rfl)) (Eg.name 2 (by decide) sc_Curve_twist.nd rfl (.inl rfl) (.inr rfl)) rfl rfl rfl)
    (Sb.one (Ss.ret (Es.make 0 6 hcl_Curve A.K_Curve c_Curve___init__ hG hr rfl A.gC_Curve A.b_Curve___init__ passF (Ea.cons (Es.fld hok (Eb.var 0 rfl (.inl rfl) rfl rfl) rfl) (Ea.cons (Es.bin .mod rfl (Es.b (Es.bin .mul rfl (Eb.var 2 rfl (.inl rfl) rfl rfl) (Es.b (Es.fld hok (Eb.var 0 rfl (.inl rfl) rfl rfl) rfl)))) (Es.b (Es.fld hok (Eb.var 0 rfl (.inl rfl) rfl rfl) rfl))) (Ea.cons (Es.bin .mod rfl (Es.b (Es.bin .mul rfl (Es.b (Es.bin .mul rfl (Eb.var 2 rfl (.inl rfl) rfl rfl) (Eb.var 1 rfl (.inl rfl) rfl rfl))) (Es.b (Es.fld hok (Eb.var 0 rfl (.inl rfl) rfl rfl) rfl)))) (Es.b (Es.fld hok (Eb.var 0 rfl (.inl rfl) rfl rfl) rfl))) Ea.nil rfl) rfl) rfl) rfl rfl rfl rfl)))))⟩

theorem ok_Curve_scaled {P : Program} {w : World} {mg : Str → Option Value} {base : Heap} (C : Ct) (A : Fa C.K mg) (a : Addr) (ns : List Int) (D : Dc C n_1 n_2 n_3 a ns A.cl A.xc) (j l : Nat) : FnG P w C.K mg base (L2.CX P w) (l + 4 + 1) A.f_Curve_scaled A.d_Curve_scaled p_Curve_scaled (spS C (FT (T ns) (fun _ => none) (j + 3 + 1) 11) 2) := by
  refine defOk A.F_Curve_scaled sc_Curve_scaled rfl 11 (m_Curve_scaled 6) (T ns) (fun _ => none) (j + 3) rfl rfl (by decide) (fun cdv A0 outer s H F0 E hG hr => ?_)
  have D' : Dc (C.at H F0 (FT (T ns) (fun _ => none) (j + 3))) n_1 n_2 n_3 a ns A.cl A.xc := ⟨D.n1, D.n2, D.n3, D.sc, D.cl, D.xc⟩
  have hu := Pv.Room.u70 hr
  have hu65 := Pv.Room.u65 hr
  have hu1 := Pv.Room.u1 hr
  have hdk := dkn_of D'
  have hn3 := hn3_of D'
  have hn2 := hn2_of D'
  have hok : ClsOk C.K C.sc.2 := by rw [D.cl]; exact A.clsOk
  have hin : ∀ Cn ∈ C.sc.2, InsOk C.K Cn.1 := by rw [D.cl]; exact A.insOk
  have hcl_Curve : C.sc.2[0]? = some (A.C_Curve, at_Curve) := by rw [D.cl]; rfl
  have c_Curve___init__ := @ok_Curve___init__ P w mg base (C.at H F0 (FT (T ns) (fun _ => none) (j + 3))) A a ns D' (j + 0) (l + 0)
  exact ⟨[],
    (Sb.cons (Ss.set (Es.bin .mul rfl (Eb.var 1 rfl (.inl rfl) rfl rfl) (Eb.var 1 rfl (.inl rfl) rfl rfl)) (Eg.name 2 (by decide) sc_Curve_scaled.nd rfl (.inl rfl) (.inr rfl)) rfl rfl rfl)
    (Sb.one (Ss.ret (Es.make 0 6 hcl_Curve A.K_Curve c_Curve___init__ hG hr rfl A.gC_Curve A.b_Curve___init__ passF (Ea.cons (Es.fld hok (Eb.var 0 rfl (.inl rfl) rfl rfl) rfl) (Ea.cons (Es.bin .mod rfl (Es.b (Es.bin .mul rfl (Es.b (Es.bin .mul rfl (Eb.var 2 rfl (.inl rfl) rfl rfl) (Eb.var 2 rfl (.inl rfl) rfl rfl))) (Es.b (Es.fld hok (Eb.var 0 rfl (.inl rfl) rfl rfl) rfl)))) (Es.b (Es.fld hok (Eb.var 0 rfl (.inl rfl) rfl rfl) rfl))) (Ea.cons (Es.bin .mod rfl (Es.b (Es.bin .mul rfl (Es.b (Es.bin .mul rfl (Es.b (Es.bin .mul rfl (Eb.var 2 rfl (.inl rfl) rfl rfl) (Eb.var 2 rfl (.inl rfl) rfl rfl))) (Eb.var 2 rfl (.inl rfl) rfl rfl))) (Es.b (Es.fld hok (Eb.var 0 rfl (.inl rfl) rfl rfl) rfl)))) (Es.b (Es.fld hok (Eb.var 0 rfl (.inl rfl) rfl rfl) rfl))) Ea.nil rfl) rfl) rfl) rfl rfl rfl rfl))))⟩

theorem ok__law_is_counted {P : Program} {w : World} {mg : Str → Option Value} {base : Heap} (C : Ct) (A : Fa C.K mg) (a : Addr) (ns : List Int) (D : Dc C n_1 n_2 n_3 a ns A.cl A.xc) (j l : Nat) : FnG P w C.K mg base (L2.CX P w) (l + 3 + 1) A.f__law_is_counted A.d__law_is_counted p__law_is_counted (spS C (FT (T ns) (fun _ => none) (j + 3 + 1) 23) 3) := by
  refine defOk A.F__law_is_counted sc__law_is_counted rfl 23 (m__law_is_counted 15 14) (T ns) (fun _ => none) (j + 3) rfl rfl (by decide) (fun cdv A0 outer s H F0 E hG hr => ?_)
  have D' : Dc (C.at H F0 (FT (T ns) (fun _ => none) (j + 3))) n_1 n_2 n_3 a ns A.cl A.xc := ⟨D.n1, D.n2, D.n3, D.sc, D.cl, D.xc⟩
  have hu := Pv.Room.u70 hr
  have hu65 := Pv.Room.u65 hr
  have hu1 := Pv.Room.u1 hr
  have hdk := dkn_of D'
  have hn3 := hn3_of D'
  have hn2 := hn2_of D'
  have hok : ClsOk C.K C.sc.2 := by rw [D.cl]; exact A.clsOk
  have hin : ∀ Cn ∈ C.sc.2, InsOk C.K Cn.1 := by rw [D.cl]; exact A.insOk
  have hcl_Curve : C.sc.2[0]? = some (A.C_Curve, at_Curve) := by rw [D.cl]; rfl
  have c_trace := @ok_trace P w mg base (C.at H F0 (FT (T ns) (fun _ => none) (j + 3))) A a ns D' (j + 1) (l + 1)
  have c_count := @ok_count P w mg base (C.at H F0 (FT (T ns) (fun _ => none) (j + 3))) A a ns D' (j + 0) (l + 0)
  exact ⟨[],
    (Sb.cons (Ss.set (Ef.s (Ef.lst (Ea.cons (Es.call 15 (c_count) hG hr rfl A.g_count A.F_count.kp A.b_count passF (Ea.cons (Es.var 0 (by decide) rfl (.inl rfl) rfl rfl) Ea.nil rfl) rfl rfl rfl rfl) (Ea.cons (Es.callK0 15 (c_count) hG hr rfl A.g_count A.F_count.kp A.kb_count_0 passF (Ek.cons (Es.var 0 (by decide) rfl (.inl rfl) rfl rfl) Ek.nil) rfl rfl rfl rfl rfl (fun l h => match l, h with | [_], _ => rfl)) (Ea.cons (Es.call 14 (c_trace) hG hr rfl A.g_trace A.F_trace.kp A.b_trace passF (Ea.cons (Es.var 0 (by decide) rfl (.inl rfl) rfl rfl) Ea.nil rfl) rfl rfl rfl rfl) (Ea.cons (Es.callK0 14 (c_trace) hG hr rfl A.g_trace A.F_trace.kp A.kb_trace_0 passF (Ek.cons (Es.var 0 (by decide) rfl (.inl rfl) rfl rfl) Ek.nil) rfl rfl rfl rfl rfl (fun l h => match l, h with | [_], _ => rfl)) Ea.nil rfl) rfl) rfl) rfl) (Nat.le_of_ble_eq_true rfl))) (Eg.name 3 (by decide) sc__law_is_counted.nd rfl (.inl rfl) (.inr rfl)) rfl rfl rfl)
    (Sb.one (Ss.ret (Es.cmp .eq rfl hu65 (Es.b (Es.biB .repr rfl (cb_repr hG hu) rfl A.z_repr rfl (Eas.one (Eb.var 3 rfl (.inl rfl) rfl rfl) rfl) (by decide) rfl rfl rfl)) (Es.b (Es.biB .repr rfl (cb_repr hG hu) rfl A.z_repr rfl (Eas.one (Ef.b (Ef.lst (Ea.cons (Es.var 2 (by decide) rfl (.inl rfl) rfl rfl) (Ea.cons (Es.var 2 (by decide) rfl (.inl rfl) rfl rfl) (Ea.cons (Es.bin .sub rfl (Es.b (Es.bin .add rfl (Eb.var 1 rfl (.inl rfl) rfl rfl) (Es.b Es.int))) (Eb.var 2 rfl (.inl rfl) rfl rfl)) (Ea.cons (Es.bin .sub rfl (Es.b (Es.bin .add rfl (Eb.var 1 rfl (.inl rfl) rfl rfl) (Es.b Es.int))) (Eb.var 2 rfl (.inl rfl) rfl rfl)) Ea.nil rfl) rfl) rfl) rfl) (Nat.le_of_ble_eq_true rfl))) rfl) (by decide) rfl rfl rfl)) rfl))))⟩

theorem ok_law {P : Program} {w : World} {mg : Str → Option Value} {base : Heap} (C : Ct) (A : Fa C.K mg) (a : Addr) (ns : List Int) (D : Dc C n_1 n_2 n_3 a ns A.cl A.xc) (j l : Nat) : FnG P w C.K mg base (L2.CX P w) (l + 5 + 1) A.f_law A.d_law p_law (spS C (FT (T ns) (fun _ => none) (j + 4 + 1) 24) 1) := by
  refine defOk A.F_law sc_law rfl 24 (m_law 7 6 9 11 10 21 20 16 17 23 19 22 14) (T ns) (fun _ => none) (j + 4) rfl rfl (by decide) (fun cdv A0 outer s H F0 E hG hr => ?_)
  have D' : Dc (C.at H F0 (FT (T ns) (fun _ => none) (j + 4))) n_1 n_2 n_3 a ns A.cl A.xc := ⟨D.n1, D.n2, D.n3, D.sc, D.cl, D.xc⟩
  have hpo := passes_of (X := cxOf (L2.CX P w) P w C.K mg base ["_law_script", "_law_deck_here", "_law_p", "_law_a", "_law_b", "_law_curve_here", "_law_due", "_law_t", "_law_n", "_law_u", "_law_twin", "_law_other", "_law_roots", "_law_turn", "_law_c", "_law_d", "_law_x"] "law" (defScope s_law) A.f_law cdv A0 outer s H E) rfl
  have hu := Pv.Room.u70 hr
  have hu65 := Pv.Room.u65 hr
  have hu1 := Pv.Room.u1 hr
  have hdk := dkn_of D'
  have hn3 := hn3_of D'
  have hn2 := hn2_of D'
  have hok : ClsOk C.K C.sc.2 := by rw [D.cl]; exact A.clsOk
  have hin : ∀ Cn ∈ C.sc.2, InsOk C.K Cn.1 := by rw [D.cl]; exact A.insOk
  have hcl_Curve : C.sc.2[0]? = some (A.C_Curve, at_Curve) := by rw [D.cl]; rfl
  have c_Curve___init__ := @ok_Curve___init__ P w mg base (C.at H F0 (FT (T ns) (fun _ => none) (j + 4))) A a ns D' (j + 1) (l + 1)
  have c_Curve___eq__ := @ok_Curve___eq__ P w mg base (C.at H F0 (FT (T ns) (fun _ => none) (j + 4))) A a ns D' (j + 3) (l + 3)
  have c_Curve_points := @ok_Curve_points P w mg base (C.at H F0 (FT (T ns) (fun _ => none) (j + 4))) A a ns D' (j + 2) (l + 3)
  have c_Curve_twist := @ok_Curve_twist P w mg base (C.at H F0 (FT (T ns) (fun _ => none) (j + 4))) A a ns D' (j + 0) (l + 0)
  have c_Curve_scaled := @ok_Curve_scaled P w mg base (C.at H F0 (FT (T ns) (fun _ => none) (j + 4))) A a ns D' (j + 0) (l + 0)
  have c_trace := @ok_trace P w mg base (C.at H F0 (FT (T ns) (fun _ => none) (j + 4))) A a ns D' (j + 2) (l + 3)
  have c__law_deck := @ok__law_deck P w mg base (C.at H F0 (FT (T ns) (fun _ => none) (j + 4))) A a ns D' (j + 3) (l + 4)
  have c__law_draw := @ok__law_draw P w mg base (C.at H F0 (FT (T ns) (fun _ => none) (j + 4))) A a ns D' (j + 3) (l + 4)
  have c__law_prime := @ok__law_prime P w mg base (C.at H F0 (FT (T ns) (fun _ => none) (j + 4))) A a ns D' (j + 1) (l + 2)
  have c__law_curve := @ok__law_curve P w mg base (C.at H F0 (FT (T ns) (fun _ => none) (j + 4))) A a ns D' (j + 2) (l + 3)
  have c__law_count := @ok__law_count P w mg base (C.at H F0 (FT (T ns) (fun _ => none) (j + 4))) A a ns D' (j + 3) (l + 4)
  have c__law_spare := @ok__law_spare P w mg base (C.at H F0 (FT (T ns) (fun _ => none) (j + 4))) A a ns D' (j + 3) (l + 4)
  have c__law_is_counted := @ok__law_is_counted P w mg base (C.at H F0 (FT (T ns) (fun _ => none) (j + 4))) A a ns D' (j + 0) (l + 1)
  exact ⟨[],
    (Sb.cons (Ss.set (Es.call 16 (c__law_deck) hG hr rfl A.g__law_deck A.F__law_deck.kp A.b__law_deck passF (Ea.cons (Es.var 0 (by decide) rfl (.inl rfl) rfl rfl) Ea.nil rfl) rfl rfl rfl rfl) (Eg.name 1 (by decide) sc_law.nd rfl (.inl rfl) (.inr rfl)) rfl rfl rfl)
    (Sb.cons (Ss.set (Es.call 19 (c__law_prime) hG hr rfl A.g__law_prime A.F__law_prime.kp A.b__law_prime passF (Ea.cons (Es.var 1 (by decide) rfl (.inl rfl) rfl rfl) Ea.nil rfl) rfl rfl rfl rfl) (Eg.name 2 (by decide) sc_law.nd rfl (.inr rfl) (.inl rfl)) rfl rfl rfl)
    (Sb.cons (Ss.set (Es.call 20 (c__law_curve) hG hr rfl A.g__law_curve A.F__law_curve.kp A.b__law_curve passF (Ea.cons (Es.var 1 (by decide) rfl (.inl rfl) rfl rfl) (Ea.cons (Es.var 2 (by decide) rfl (.inr (.inl rfl)) rfl rfl) Ea.nil rfl) rfl) rfl rfl rfl rfl) (Eg.tup rfl rfl (Egs.cons (Eg.name 3 (by decide) sc_law.nd rfl (.inr rfl) (.inl rfl)) (Egs.cons (Eg.name 4 (by decide) sc_law.nd rfl (.inr rfl) (.inl rfl)) Egs.nil rfl) rfl) (by decide) rfl rfl) rfl rfl rfl)
    (Sb.cons (Ss.par 5 6 rfl sc_law.nd rfl rfl (by decide) (by decide) (by decide) rfl rfl (Ea.cons (Es.make 0 6 hcl_Curve A.K_Curve c_Curve___init__ hG hr rfl A.gC_Curve A.b_Curve___init__ passF (Ea.cons (Es.var 2 (by decide) rfl (.inr (.inl rfl)) rfl rfl) (Ea.cons (Es.var 3 (by decide) rfl (.inr (.inl rfl)) rfl rfl) (Ea.cons (Es.var 4 (by decide) rfl (.inr (.inl rfl)) rfl rfl) Ea.nil rfl) rfl) rfl) rfl rfl rfl rfl) (Ea.cons (Es.call 21 (c__law_count) hG hr rfl A.g__law_count A.F__law_count.kp A.b__law_count passF (Ea.cons (Es.var 2 (by decide) rfl (.inr (.inl rfl)) rfl rfl) (Ea.cons (Es.var 3 (by decide) rfl (.inr (.inl rfl)) rfl rfl) (Ea.cons (Es.var 4 (by decide) rfl (.inr (.inl rfl)) rfl rfl) Ea.nil rfl) rfl) rfl) rfl rfl rfl rfl) Ea.nil rfl) rfl) rfl rfl)
    (Sb.cons (Ss.set (Es.bin .sub rfl (Es.b (Es.bin .add rfl (Eb.var 2 rfl (.inr (.inl rfl)) rfl rfl) (Es.b Es.int))) (Eb.var 6 rfl (.inl rfl) rfl rfl)) (Eg.name 7 (by decide) sc_law.nd rfl (.inl rfl) (.inr rfl)) rfl rfl rfl)
    (Sb.cons (Ss.ite (Ew.t (Ew.or (Et.not (Et.truth rfl (Es.b (Es.call 23 (c__law_is_counted) hG hr rfl A.g__law_is_counted A.F__law_is_counted.kp A.b__law_is_counted passF (Ea.cons (Es.var 5 (by decide) rfl (.inl rfl) rfl rfl) (Ea.cons (Es.var 2 (by decide) rfl (.inr (.inl rfl)) rfl rfl) (Ea.cons (Es.var 6 (by decide) rfl (.inl rfl) rfl rfl) Ea.nil rfl) rfl) rfl) rfl rfl rfl rfl)) (fun _ => rfl))) (Ew.or (Et.cmp .ge rfl hu65 (Es.b (Es.bin .mul rfl (Eb.var 7 rfl (.inl rfl) rfl rfl) (Eb.var 7 rfl (.inl rfl) rfl rfl))) (Es.b (Es.bin .mul rfl (Es.b Es.int) (Eb.var 2 rfl (.inr (.inl rfl)) rfl rfl))) rfl) (Ew.one (Et.cmp .ne rfl hu65 (Es.b (Es.biB .len rfl cb_len rfl A.z_len rfl (Eas.one (Es.b (Es.meth0 0 9 hcl_Curve (by decide) hok A.M_Curve_points c_Curve_points hG hr A.b_Curve_points passF (Es.var 5 (by decide) rfl (.inl rfl) rfl rfl) rfl rfl)) rfl) (by decide) rfl rfl rfl)) (Eb.var 6 rfl (.inl rfl) rfl rfl) rfl))))) (Sb.one (Ss.ret Es.bl)) Sb.nil)
    (Sb.cons (Ss.par 8 9 rfl sc_law.nd rfl rfl (by decide) (by decide) (by decide) rfl rfl (Ea.cons (Es.call 22 (c__law_spare) hG hr rfl A.g__law_spare A.F__law_spare.kp A.b__law_spare passF (Ea.cons (Es.var 2 (by decide) rfl (.inr (.inl rfl)) rfl rfl) Ea.nil rfl) rfl rfl rfl rfl) (Ea.cons (Es.bin .add rfl (Es.b Es.int) (Es.b (Es.call 17 (c__law_draw) hG hr rfl A.g__law_draw A.F__law_draw.kp A.b__law_draw passF (Ea.cons (Es.var 1 (by decide) rfl (.inl rfl) rfl rfl) (Ea.cons (Es.bin .sub rfl (Eb.var 2 rfl (.inr (.inl rfl)) rfl rfl) (Es.b Es.int)) Ea.nil rfl) rfl) rfl rfl rfl rfl))) Ea.nil rfl) rfl) rfl rfl)
    (Sb.cons (Ss.set (Es.make 0 6 hcl_Curve A.K_Curve c_Curve___init__ hG hr rfl A.gC_Curve A.b_Curve___init__ passF (Ea.cons (Es.var 2 (by decide) rfl (.inr (.inl rfl)) rfl rfl) (Ea.cons (Es.bin .mod rfl (Es.b (Es.biT .toInt rfl cb_toInt rfl A.z_int rfl (Eas.one (Es.b (Es.bin .mul rfl (Es.b (Es.bin .mul rfl (Eb.var 8 rfl (.inl rfl) rfl rfl) (Eb.var 8 rfl (.inl rfl) rfl rfl))) (Eb.var 3 rfl (.inr (.inl rfl)) rfl rfl))) rfl) (by decide) rfl rfl rfl)) (Eb.var 2 rfl (.inr (.inl rfl)) rfl rfl)) (Ea.cons (Es.bin .mod rfl (Es.b (Es.biT .toInt rfl cb_toInt rfl A.z_int rfl (Eas.one (Es.b (Es.bin .mul rfl (Es.b (Es.bin .mul rfl (Es.b (Es.bin .mul rfl (Eb.var 8 rfl (.inl rfl) rfl rfl) (Eb.var 8 rfl (.inl rfl) rfl rfl))) (Eb.var 8 rfl (.inl rfl) rfl rfl))) (Eb.var 4 rfl (.inr (.inl rfl)) rfl rfl))) rfl) (by decide) rfl rfl rfl)) (Eb.var 2 rfl (.inr (.inl rfl)) rfl rfl)) Ea.nil rfl) rfl) rfl) rfl rfl rfl rfl) (Eg.name 10 (by decide) sc_law.nd rfl (.inl rfl) (.inr rfl)) rfl rfl rfl)
    (Sb.cons (Ss.set (Es.make 0 6 hcl_Curve A.K_Curve c_Curve___init__ hG hr rfl A.gC_Curve A.b_Curve___init__ passF (Ea.cons (Es.var 2 (by decide) rfl (.inr (.inl rfl)) rfl rfl) (Ea.cons (Es.bin .mod rfl (Es.b (Es.biT .toInt rfl cb_toInt rfl A.z_int rfl (Eas.one (Es.b (Es.bin .mul rfl (Es.b (Es.bin .pow rfl (Eb.var 9 rfl (.inl rfl) rfl rfl) (Es.b Es.int))) (Eb.var 3 rfl (.inr (.inl rfl)) rfl rfl))) rfl) (by decide) rfl rfl rfl)) (Eb.var 2 rfl (.inr (.inl rfl)) rfl rfl)) (Ea.cons (Es.bin .mod rfl (Es.b (Es.biT .toInt rfl cb_toInt rfl A.z_int rfl (Eas.one (Es.b (Es.bin .mul rfl (Es.b (Es.bin .pow rfl (Eb.var 9 rfl (.inl rfl) rfl rfl) (Es.b Es.int))) (Eb.var 4 rfl (.inr (.inl rfl)) rfl rfl))) rfl) (by decide) rfl rfl rfl)) (Eb.var 2 rfl (.inr (.inl rfl)) rfl rfl)) Ea.nil rfl) rfl) rfl) rfl rfl rfl rfl) (Eg.name 11 (by decide) sc_law.nd rfl (.inl rfl) (.inr rfl)) rfl rfl rfl)
    (Sb.cons (Ss.ite (Ew.t (Ew.or (Et.not (Et.truth rfl (Es.b (Es.call 23 (c__law_is_counted) hG hr rfl A.g__law_is_counted A.F__law_is_counted.kp A.b__law_is_counted passF (Ea.cons (Es.var 10 (by decide) rfl (.inl rfl) rfl rfl) (Ea.cons (Es.var 2 (by decide) rfl (.inr (.inl rfl)) rfl rfl) (Ea.cons (Es.bin .sub rfl (Es.b (Es.bin .add rfl (Es.b (Es.bin .mul rfl (Es.b Es.int) (Eb.var 2 rfl (.inr (.inl rfl)) rfl rfl))) (Es.b Es.int))) (Eb.var 6 rfl (.inl rfl) rfl rfl)) Ea.nil rfl) rfl) rfl) rfl rfl rfl rfl)) (fun _ => rfl))) (Ew.one (Et.not (Et.truth rfl (Es.b (Es.call 23 (c__law_is_counted) hG hr rfl A.g__law_is_counted A.F__law_is_counted.kp A.b__law_is_counted passF (Ea.cons (Es.var 11 (by decide) rfl (.inl rfl) rfl rfl) (Ea.cons (Es.var 2 (by decide) rfl (.inr (.inl rfl)) rfl rfl) (Ea.cons (Es.var 6 (by decide) rfl (.inl rfl) rfl rfl) Ea.nil rfl) rfl) rfl) rfl rfl rfl rfl)) (fun _ => rfl)))))) (Sb.one (Ss.ret Es.bl)) Sb.nil)
    (Sb.cons (Ss.ite (Ew.t (Ew.or (Et.ownNe 0 7 hcl_Curve rfl c_Curve___eq__ hG hr passF A.b_Curve___eq__ A.O_Curve (Es.meth0 0 10 hcl_Curve (by decide) hok A.M_Curve_twist c_Curve_twist hG hr A.b_Curve_twist passF (Es.var 5 (by decide) rfl (.inl rfl) rfl rfl) rfl rfl) (Es.var 10 (by decide) rfl (.inl rfl) rfl rfl) rfl) (Ew.one (Et.ownNe 0 7 hcl_Curve rfl c_Curve___eq__ hG hr passF A.b_Curve___eq__ A.O_Curve (Es.meth 0 11 hcl_Curve (by decide) hok A.M_Curve_scaled c_Curve_scaled hG hr A.b_Curve_scaled passF (Es.var 5 (by decide) rfl (.inl rfl) rfl rfl) (Ea.cons (Es.var 9 (by decide) rfl (.inl rfl) rfl rfl) Ea.nil rfl) rfl rfl rfl rfl) (Es.var 11 (by decide) rfl (.inl rfl) rfl rfl) rfl)))) (Sb.one (Ss.ret Es.bl)) Sb.nil)
    (Sb.cons (Ss.post (Ow1 := [12]) (Ow' := []) (Ss.ownLc 12 rfl sc_law.nd rfl rfl rfl (Ei.rng1 rfl A.z_range (Ea.cons (Es.var 2 (by decide) rfl (.inr (.inl rfl)) rfl rfl) Ea.nil rfl) rfl) bk_law_0 rfl (fun _ _ _ _ _ => (Eg.name 16 (by decide) sc_law.nd rfl (.inl rfl) (.inr rfl))) (fun _ _ _ _ _ => (Ec.one (Et.cmp .eq rfl hu65 (Es.b (Es.bin .mod rfl (Es.b (Es.biT .toInt rfl cb_toInt rfl A.z_int rfl (Eas.one (Es.b (Es.bin .add rfl (Es.b (Es.bin .add rfl (Es.b (Es.bin .mul rfl (Es.b (Es.bin .mul rfl (Eb.var 16 rfl (.inl rfl) rfl rfl) (Eb.var 16 rfl (.inl rfl) rfl rfl))) (Eb.var 16 rfl (.inl rfl) rfl rfl))) (Es.b (Es.bin .mul rfl (Eb.var 3 rfl (.inr (.inl rfl)) rfl rfl) (Eb.var 16 rfl (.inl rfl) rfl rfl))))) (Eb.var 4 rfl (.inr (.inl rfl)) rfl rfl))) rfl) (by decide) rfl rfl rfl)) (Eb.var 2 rfl (.inr (.inl rfl)) rfl rfl))) (Es.b Es.int) rfl))) (fun _ _ _ _ _ => (Es.var 16 (by decide) rfl (.inl rfl) rfl rfl)) (fun _ => rfl) (by decide) (.inl rfl)) (by decide))
    (Sb.cons (Ss.ite (Et.cmp .ne rfl hu65 (Es.b (Es.cmp .eq rfl hu65 (Es.b (Es.bin .mod rfl (Es.b (Es.biT .toInt rfl cb_toInt rfl A.z_int rfl (Eas.one (Eb.var 7 rfl (.inl rfl) rfl rfl) rfl) (by decide) rfl rfl rfl)) (Es.b Es.int))) (Es.b Es.int) rfl)) (Es.b (Es.cmp .ne rfl hu65 (Eb.var 12 rfl (.inl rfl) rfl rfl) (Ef.b (Ef.lst Ea.nil (Nat.le_of_ble_eq_true rfl))) rfl)) rfl) (Sb.one (Ss.ret Es.bl)) Sb.nil)
    (Sb.cons (Ss.for_ hpo rfl (Ei.rng1 rfl A.z_range (Ea.cons (Es.call 17 (c__law_draw) hG hr rfl A.g__law_draw A.F__law_draw.kp A.b__law_draw passF (Ea.cons (Es.var 1 (by decide) rfl (.inl rfl) rfl rfl) (Ea.cons Es.int Ea.nil rfl) rfl) rfl rfl rfl rfl) Ea.nil rfl) rfl) (Eg.name 13 (by decide) sc_law.nd rfl (.inl rfl) (.inr rfl)) (Sb.cons (Ss.set (Es.call 20 (c__law_curve) hG hr rfl A.g__law_curve A.F__law_curve.kp A.b__law_curve passF (Ea.cons (Es.var 1 (by decide) rfl (.inl rfl) rfl rfl) (Ea.cons (Es.var 2 (by decide) rfl (.inr (.inl rfl)) rfl rfl) Ea.nil rfl) rfl) rfl rfl rfl rfl) (Eg.tup rfl rfl (Egs.cons (Eg.name 14 (by decide) sc_law.nd rfl (.inl rfl) (.inr rfl)) (Egs.cons (Eg.name 15 (by decide) sc_law.nd rfl (.inl rfl) (.inr rfl)) Egs.nil rfl) rfl) (by decide) rfl rfl) rfl rfl rfl)
      (Sb.one (Ss.ite (Et.not (Et.truth rfl (Es.b (Es.call 23 (c__law_is_counted) hG hr rfl A.g__law_is_counted A.F__law_is_counted.kp A.b__law_is_counted passF (Ea.cons (Es.make 0 6 hcl_Curve A.K_Curve c_Curve___init__ hG hr rfl A.gC_Curve A.b_Curve___init__ passF (Ea.cons (Es.var 2 (by decide) rfl (.inr (.inl rfl)) rfl rfl) (Ea.cons (Es.var 14 (by decide) rfl (.inl rfl) rfl rfl) (Ea.cons (Es.var 15 (by decide) rfl (.inl rfl) rfl rfl) Ea.nil rfl) rfl) rfl) rfl rfl rfl rfl) (Ea.cons (Es.var 2 (by decide) rfl (.inr (.inl rfl)) rfl rfl) (Ea.cons (Es.call 21 (c__law_count) hG hr rfl A.g__law_count A.F__law_count.kp A.b__law_count passF (Ea.cons (Es.var 2 (by decide) rfl (.inr (.inl rfl)) rfl rfl) (Ea.cons (Es.var 14 (by decide) rfl (.inl rfl) rfl rfl) (Ea.cons (Es.var 15 (by decide) rfl (.inl rfl) rfl rfl) Ea.nil rfl) rfl) rfl) rfl rfl rfl rfl) Ea.nil rfl) rfl) rfl) rfl rfl rfl rfl)) (fun _ => rfl))) (Sb.one (Ss.ret Es.bl)) Sb.nil))) (fun _ => rfl))
    (Sb.one (Ss.ret (Es.cmp .eq rfl hu65 (Es.b (Es.biB .repr rfl (cb_repr hG hu) rfl A.z_repr rfl (Eas.one (Ef.b (Ef.lst (Ea.cons (Es.call 14 (c_trace) hG hr rfl A.g_trace A.F_trace.kp A.b_trace passF (Ea.cons (Es.var 5 (by decide) rfl (.inl rfl) rfl rfl) Ea.nil rfl) rfl rfl rfl rfl) (Ea.cons (Es.fld hok (Eb.var 5 rfl (.inl rfl) rfl rfl) rfl) (Ea.cons (Es.fld hok (Eb.var 5 rfl (.inl rfl) rfl rfl) rfl) (Ea.cons (Es.fld hok (Eb.var 5 rfl (.inl rfl) rfl rfl) rfl) Ea.nil rfl) rfl) rfl) rfl) (Nat.le_of_ble_eq_true rfl))) rfl) (by decide) rfl rfl rfl)) (Es.b (Es.biB .repr rfl (cb_repr hG hu) rfl A.z_repr rfl (Eas.one (Ef.b (Ef.lst (Ea.cons (Es.var 7 (by decide) rfl (.inl rfl) rfl rfl) (Ea.cons (Es.var 2 (by decide) rfl (.inr (.inl rfl)) rfl rfl) (Ea.cons (Es.var 3 (by decide) rfl (.inr (.inl rfl)) rfl rfl) (Ea.cons (Es.var 4 (by decide) rfl (.inr (.inl rfl)) rfl rfl) Ea.nil rfl) rfl) rfl) rfl) (Nat.le_of_ble_eq_true rfl))) rfl) (by decide) rfl rfl rfl)) rfl)))))))))))))))))⟩

end Xk15
end

section
/-! PvN: plain laws of the small language: loops, texts, decks. -/
set_option autoImplicit false
namespace Pv
open PySem

theorem FT_at {T : List Fn} {d f : Nat} {as : List D} {g : G} {fn : Fn} (h : T[f]? = some fn) (hl : as.length = fn.np) :
    FT T (fun _ => none) (d + 1) f as g = fin (run (FT T (fun _ => none) d) fuel fn.body (as.map some ++ List.replicate (fn.nl - fn.np) none) g) := by
  show (match (fun _ => none : Prims) f with
    | some p => p as g
    | none => match T[f]? with
      | some fn => if as.length = fn.np then fin (run (FT T (fun _ => none) d) fuel fn.body (as.map some ++ List.replicate (fn.nl - fn.np) none) g) else .no
      | none => .no) = _
  simp only [h, if_pos hl]

/-! ### steps -/
section
variable {Φ : Fns} {fu : Nat} {a b : Sm} {σ σ' : Sl} {g g' : G} {v : D} {t e : Ex} {i : Nat}
theorem run_seq_nx (h : Pv.run Φ fu a σ g = .ok (.nx σ') g') : Pv.run Φ fu (.seq a b) σ g = Pv.run Φ fu b σ' g' := by
  conv => lhs; unfold Pv.run
  rw [h]; rfl
theorem run_seq_rt (h : Pv.run Φ fu a σ g = .ok (.rt v) g') : Pv.run Φ fu (.seq a b) σ g = .ok (.rt v) g' := by
  conv => lhs; unfold Pv.run
  rw [h]; rfl
theorem run_ite {k : Bool} (h : ev Φ t σ g = .ok (.bool k) g') : Pv.run Φ fu (.ite t a b) σ g = if k then Pv.run Φ fu a σ g' else Pv.run Φ fu b σ g' := by
  conv => lhs; unfold Pv.run
  rw [h]; cases k <;> rfl
theorem run_set (h : ev Φ e σ g = .ok v g') : Pv.run Φ fu (.set [i] e) σ g = .ok (.nx (σ.set i (some v))) g' := by
  conv => lhs; unfold Pv.run
  rw [h]; rfl
theorem run_ret (h : ev Φ e σ g = .ok v g') : Pv.run Φ fu (.ret e) σ g = .ok (.rt v) g' := by
  conv => lhs; unfold Pv.run
  rw [h]; rfl
theorem run_skip : Pv.run Φ fu .skip σ g = .ok (.nx σ) g := rfl
theorem run_for {ts : List Nat} {k : Ik} {as : Exs} {vs xs : List D} (h : evs Φ as σ g = .ok vs g') (hx : itV k vs = some xs) :
    Pv.run Φ fu (.forr ts k as b) σ g = forL (fun x σ g => (lift (setT ts x σ) g).bind fun σ g => Pv.run Φ fu b σ g) xs σ g' := by
  conv => lhs; unfold Pv.run
  rw [h]
  show (lift (itV k vs) g').bind _ = _
  rw [hx]; rfl
theorem ev_comp {ts : List Nat} {k : Ik} {as : Exs} {cond elt : Ex} {vs xs : List D} (h : evs Φ as σ g = .ok vs g') (hx : itV k vs = some xs) (hl : xs.length ≤ lineN) {ys : List D} {g2 : G}
    (hc : compL (fun x g => (lift (setT ts x (wipeS σ ts)) g).bind fun σ' g => (ev Φ cond σ' g).bind fun b g => match b with
        | .bool true => (ev Φ elt σ' g).bind fun v g => .ok (some v) g
        | .bool false => .ok none g
        | _ => .no) xs [] g' = .ok ys g2) : ev Φ (.comp ts k as cond elt) σ g = .ok (.list ys) g2 := by
  conv => lhs; unfold ev
  rw [h]
  show (lift (itV k vs) g').bind _ = _
  rw [hx]
  show (if decide (xs.length ≤ lineN) = true then _ else Res.no) = _
  rw [if_pos (decide_eq_true hl)]
  exact (congrArg (fun r => r.bind fun ys g => Res.ok (PyData.list ys) g) hc).trans rfl
/-- a loop with a test: one turn -/
theorem whileL_step {c : Sl → G → Res D} {bd : Sl → G → Res Fl} {n : Nat} {g2 : G} (h1 : c σ g = .ok (.bool true) g') (h2 : bd σ g' = .ok (.nx σ') g2) : whileL c bd (n + 1) σ g = whileL c bd n σ' g2 := by
  show (c σ g).bind _ = _
  rw [h1]
  show (bd σ g').bind _ = _
  rw [h2]; rfl
theorem whileL_end {c : Sl → G → Res D} {bd : Sl → G → Res Fl} {n : Nat} (h1 : c σ g = .ok (.bool false) g') : whileL c bd (n + 1) σ g = .ok (.nx σ) g' := by
  show (c σ g).bind _ = _
  rw [h1]; rfl
end
/-! ### loops -/
/-- a loop that ends by a return at the first item that is found -/
theorem forL_find {α : Type} {em : α → D} {f : D → Sl → G → Res Fl} {c : α → Bool} {r : α → D} {S : Option D → Sl} {g : G} : ∀ {xs : List α}, (∀ x ∈ xs, ∀ y, f (em x) (S y) g = if c x then .ok (.rt (r x)) g else .ok (.nx (S (some (em x)))) g) → ∀ y,
    ∃ y', forL f (xs.map em) (S y) g = match xs.find? c with
      | some x => .ok (.rt (r x)) g
      | none => .ok (.nx (S y')) g
  | [], _, y => ⟨y, rfl⟩
  | x :: xs, h, y => by
    obtain ⟨y', e⟩ := forL_find (xs := xs) (fun z hz y => h z (List.mem_cons_of_mem _ hz) y) (some (em x))
    refine ⟨y', ?_⟩
    show (f (em x) (S y) g).bind _ = _
    rw [h x List.mem_cons_self y, List.find?_cons]
    cases c x with
    | true => rfl
    | false => exact e
/-- a loop that never leaves: the state by a fold -/
theorem forL_fold {α β : Type} {em : β → D} {f : D → Sl → G → Res Fl} {S : α → Sl} {g : G} {st : α → β → α} {xs : List β} (P : α → Prop) (h : ∀ x ∈ xs, ∀ a, P a → f (em x) (S a) g = .ok (.nx (S (st a x))) g ∧ P (st a x)) : ∀ a, P a → forL f (xs.map em) (S a) g = .ok (.nx (S (xs.foldl st a))) g ∧ P (xs.foldl st a) := by
  induction xs with
  | nil => exact fun a ha => ⟨rfl, ha⟩
  | cons x xs ih =>
    intro a ha
    obtain ⟨h1, h2⟩ := h x List.mem_cons_self a ha
    obtain ⟨h3, h4⟩ := ih (fun z hz a ha => h z (List.mem_cons_of_mem _ hz) a ha) (st a x) h2
    refine ⟨?_, h4⟩
    show (f (em x) (S a) g).bind _ = _
    rw [h1]
    exact h3
/-- .. with the number of turns -/
theorem forL_foldI {α β : Type} {em : β → D} {f : D → Sl → G → Res Fl} {S : α → Sl} {g : G} {st : α → β → α} : ∀ {xs : List β} (P : Nat → α → Prop), (∀ x ∈ xs, ∀ k a, k < xs.length → P k a → f (em x) (S a) g = .ok (.nx (S (st a x))) g ∧ P (k + 1) (st a x)) → ∀ a, P 0 a → forL f (xs.map em) (S a) g = .ok (.nx (S (xs.foldl st a))) g ∧ P xs.length (xs.foldl st a)
  | [], P, _, a, ha => ⟨rfl, ha⟩
  | x :: xs, P, h, a, ha => by
    obtain ⟨h1, h2⟩ := h x List.mem_cons_self 0 a (Nat.succ_pos _) ha
    obtain ⟨h3, h4⟩ := forL_foldI (xs := xs) (fun k => P (k + 1)) (fun z hz k b hk hb => h z (List.mem_cons_of_mem _ hz) (k + 1) b (Nat.succ_lt_succ hk) hb) (st a x) h2
    refine ⟨?_, h4⟩
    show (f (em x) (S a) g).bind _ = _
    rw [h1]
    exact h3
/-- a loop by an invariant of the state and of the deck -/
theorem forL_inv {f : D → Sl → G → Res Fl} {I : Sl → G → Prop} : ∀ {xs : List D}, (∀ x ∈ xs, ∀ σ g, I σ g → ∃ σ' g', f x σ g = .ok (.nx σ') g' ∧ I σ' g') → ∀ σ g, I σ g → ∃ σ' g', forL f xs σ g = .ok (.nx σ') g' ∧ I σ' g'
  | [], _, σ, g, h => ⟨σ, g, rfl, h⟩
  | x :: xs, h, σ, g, hI => by
    obtain ⟨σ1, g1, e1, h1⟩ := h x List.mem_cons_self σ g hI
    obtain ⟨σ2, g2, e2, h2⟩ := forL_inv (xs := xs) (fun z hz => h z (List.mem_cons_of_mem _ hz)) σ1 g1 h1
    refine ⟨σ2, g2, ?_, h2⟩
    show (f x σ g).bind _ = _
    rw [e1]
    exact e2
/-- a comprehension over items -/
theorem compL_eq {α β : Type} {em : α → D} {eo : β → D} {f : D → G → Res (Option D)} {u : α → Option β} {g : G} : ∀ {xs : List α} {acc : List D}, (∀ x ∈ xs, f (em x) g = .ok ((u x).map eo) g) → compL f (xs.map em) acc g = .ok (acc.reverse ++ (xs.filterMap u).map eo) g
  | [], acc, _ => by
    show Res.ok acc.reverse g = _
    rw [List.filterMap_nil, List.map_nil, List.append_nil]
  | x :: xs, acc, h => by
    show (f (em x) g).bind _ = _
    rw [h x List.mem_cons_self]
    cases e : u x with
    | none =>
      show compL f (xs.map em) acc g = _
      rw [compL_eq fun z hz => h z (List.mem_cons_of_mem _ hz), List.filterMap_cons, e]
    | some y =>
      show compL f (xs.map em) (eo y :: acc) g = _
      rw [compL_eq fun z hz => h z (List.mem_cons_of_mem _ hz), List.filterMap_cons, e, List.reverse_cons, List.append_assoc]
      rfl

/-! ### texts -/
mutual
def fine : D → Bool
  | .none | .bool _ => true
  | .int i => decide (i.natAbs < 10 ^ 250)
  | .str x => PyData.strOk x
  | .list xs | .tuple xs => fineAll xs
  | .dict _ => false
def fineAll : List D → Bool
  | [] => true
  | x :: xs => fine x && fineAll xs
end
theorem short_int {i : Int} (h : i.natAbs < 10 ^ 250) : (PyData.shown (.int i)).length ≤ 251 := by
  have e := int_text_length_le10 (k := 250) (by decide) h
  show (Str.ofString (toString i)).length ≤ 251
  rw [ofString_length]; exact e
theorem log_int {i : Int} (h : i.natAbs < 10 ^ 250) : i.natAbs.log2 < 1920 := by
  by_cases z : i.natAbs = 0
  · rw [z]; decide
  · rw [Nat.log2_lt z]
    exact Nat.lt_of_lt_of_le h (by decide +kernel)
mutual
theorem fine_lay : ∀ d : D, fine d = true → d.canLay0 = true
  | .none, _ => rfl
  | .bool _, _ => rfl
  | .int _, _ => rfl
  | .str x, h => h
  | .list xs, h => fineAll_lay xs h
  | .tuple xs, h => fineAll_lay xs h
  | .dict _, h => by cases h
theorem fineAll_lay : ∀ xs : List D, fineAll xs = true → PyData.canLayAll0 xs = true
  | [], _ => rfl
  | x :: xs, h => by
    unfold fineAll at h
    simp only [Bool.and_eq_true] at h
    unfold PyData.canLayAll0
    rw [fine_lay x h.1, fineAll_lay xs h.2]; rfl
end
mutual
theorem fine_short : ∀ d : D, fine d = true → d.intsShort 251 = true ∧ d.showable = true
  | .none, _ => ⟨rfl, rfl⟩
  | .bool _, _ => ⟨rfl, rfl⟩
  | .int i, h => ⟨decide_eq_true (short_int (of_decide_eq_true h)), decide_eq_true (log_int (of_decide_eq_true h))⟩
  | .str x, h => ⟨rfl, rfl⟩
  | .list xs, h => fineAll_short xs h
  | .tuple xs, h => fineAll_short xs h
  | .dict _, h => by cases h
theorem fineAll_short : ∀ xs : List D, fineAll xs = true → PyData.intsShortAll 251 xs = true ∧ PyData.showableAll xs = true
  | [], _ => ⟨rfl, rfl⟩
  | x :: xs, h => by
    unfold fineAll at h
    simp only [Bool.and_eq_true] at h
    obtain ⟨h1, h2⟩ := fine_short x h.1
    obtain ⟨h3, h4⟩ := fineAll_short xs h.2
    unfold PyData.intsShortAll PyData.showableAll
    rw [h1, h2, h3, h4]; exact ⟨rfl, rfl⟩
end
theorem show_fine {d : D} (h : fine d = true) (hd : d.depth ≤ 64) (hw : d.weight ≤ 20000) : showOk d = true := by
  obtain ⟨h1, h2⟩ := fine_short d h
  have h3 := PyData.shown_le 251 (by decide) d (PyData.leavesShort_of_canLay0 251 d (fine_lay d h) h1)
  have h4 : 253 * d.weight ≤ 253 * 20000 := Nat.mul_le_mul_left _ hw
  have s : shp d = true := by
    show (d.canLay0 && decide (d.depth ≤ 64)) = true
    rw [fine_lay d h, decide_eq_true hd]; rfl
  unfold showOk
  rw [s, h2, Bool.true_or, Bool.true_and, Bool.true_and]
  refine decide_eq_true ?_
  unfold lineN
  omega
/-- few plain items -/
def scal : D → Bool
  | .none | .bool _ => true
  | .int i => decide (i.natAbs < 10 ^ 250)
  | _ => false
theorem scal_all : ∀ xs : List D, xs.all scal = true → fineAll xs = true ∧ PyData.depthAll xs = 0 ∧ PyData.weightAll xs ≤ 1922 * xs.length
  | [], _ => ⟨rfl, rfl, Nat.le_refl _⟩
  | x :: xs, h => by
    rw [List.all_cons, Bool.and_eq_true] at h
    obtain ⟨h1, h2, h3⟩ := scal_all xs h.2
    have key : fine x = true ∧ x.depth = 0 ∧ x.weight ≤ 1921 := by
      cases x with
      | none => exact ⟨rfl, rfl, Nat.zero_le _⟩
      | bool b => exact ⟨rfl, rfl, Nat.zero_le _⟩
      | int i =>
        have q := of_decide_eq_true h.1
        refine ⟨h.1, rfl, ?_⟩
        have := log_int q
        show (if i == 0 then 0 else i.natAbs.log2 + 1) ≤ 1921
        split <;> omega
      | str y => cases h.1
      | list y => cases h.1
      | tuple y => cases h.1
      | dict y => cases h.1
    obtain ⟨k1, k2, k3⟩ := key
    refine ⟨?_, ?_, ?_⟩
    · unfold fineAll
      rw [k1, h1]; rfl
    · unfold PyData.depthAll
      rw [k2, h2]; rfl
    · unfold PyData.weightAll
      rw [List.length_cons]
      omega
theorem show_list {xs : List D} (h : xs.all scal = true) (hl : xs.length ≤ 10) : showOk (.list xs) = true := by
  obtain ⟨h1, h2, h3⟩ := scal_all xs h
  exact show_fine h1 (by unfold PyData.depth; omega) (by unfold PyData.weight; omega)
theorem show_tuple {xs : List D} (h : xs.all scal = true) (hl : xs.length ≤ 10) : showOk (.tuple xs) = true := by
  obtain ⟨h1, h2, h3⟩ := scal_all xs h
  exact show_fine h1 (by unfold PyData.depth; omega) (by unfold PyData.weight; omega)
theorem show_one {x : D} (h : scal x = true) : showOk x = true := by
  obtain ⟨h1, h2, h3⟩ := scal_all [x] (by simpa using h)
  refine show_fine (by unfold fineAll at h1; simpa [fineAll] using h1) ?_ ?_
  · unfold PyData.depthAll at h2
    omega
  · unfold PyData.weightAll at h3
    rw [List.length_singleton] at h3
    omega
theorem bi_repr {x : D} (h : showOk x = true) : biV .repr [x] = some (.str x.shown) := by
  show (if showOk x = true then some (PyData.str x.shown) else none) = _
  rw [if_pos h]
theorem ne_same (x : Str) : cmpV .ne (.str x) (.str x) = some false := by
  show ((some (decide (x = x))).map fun b => !b) = _
  rw [decide_eq_true (rfl : x = x)]; rfl
theorem eq_same (x : Str) : cmpV .eq (.str x) (.str x) = some true := by
  show some (decide (x = x)) = _
  rw [decide_eq_true (rfl : x = x)]
end Pv
end

section
/-! PvO: decks, what they answer. -/
set_option autoImplicit false
namespace Pv
open PySem

/-- the draws of the first family -/
def drawA (k1 k2 k3 : Int) : Sm :=
  (.seq (.dkSet true (.var 0) (.bin .add (.dkGet true (.var 0)) (.c (.int 1))))
    (.seq (.set [2] (.bin .add (.dkGet false (.var 0)) (.bin .mul (.c (.int k1)) (.dkGet true (.var 0)))))
    (.seq (.ite (.dkHas (.var 0)) (.seq (.set [3] (.dkPop (.var 0)))
      (.seq (.ite (.cmp .ge (.var 3) (.bin .pow (.c (.int 10)) (.c (.int 18)))) (.seq (.ex (.dkPush (.var 0) (.bin .fdiv (.var 3) (.var 1))))
        (.ret (.bin .mod (.bi .toInt (.cons (.var 3) .nil)) (.var 1)))) .skip)
      (.set [2] (.bin .add (.var 2) (.bin .mod (.bi .toInt (.cons (.var 3) .nil)) (.c (.int 2147483629))))))) .skip)
    (.seq (.set [2] (.bin .mod (.bi .toInt (.cons (.bin .add (.bin .mul (.var 2) (.c (.int 39373))) (.c (.int k2))) .nil)) (.c (.int 2147483647))))
    (.seq (.set [2] (.bin .mod (.bi .toInt (.cons (.bin .add (.bin .add (.bin .mul (.var 2) (.var 2)) (.bin .mul (.c (.int 52711)) (.dkGet true (.var 0)))) (.c (.int k3))) .nil)) (.c (.int 2147483587))))
    (.ret (.bin .mod (.bin .fdiv (.bin .mod (.bi .toInt (.cons (.bin .mul (.var 2) (.c (.int 40692))) .nil)) (.c (.int 2147483563))) (.c (.int 64))) (.var 1))))))))
theorem mulOk_r {i j : Int} (h : j.natAbs < 18446744073709551616) : mulOk i j = true := by
  unfold mulOk
  rw [decide_eq_true h, Bool.or_true, Bool.true_or]
theorem mulOk_l {i j : Int} (h : i.natAbs < 18446744073709551616) : mulOk i j = true := by
  unfold mulOk
  rw [decide_eq_true h, Bool.true_or, Bool.true_or]
theorem getLast_some {α : Type} {xs : List α} (h : xs ≠ []) : ∃ x, xs.getLast? = some x := ⟨xs.getLast h, List.getLast?_eq_some_getLast h⟩
/-- what a draw answers -/
structure Drawn (Φd : Res D) (many : Int) (st : Dk) (r : Int) (st' : Dk) : Prop where
  eq : Φd = .ok (.int r) (some st')
  lo : 0 ≤ r
  hi : r < many
  len : st'.cells.length ≤ st.cells.length
theorem tail_A {Φ : Fns} {fu : Nat} {k2 k3 : Int} {st : Dk} {many f : Int} {x3 : Option D} (h0 : 0 < many) :
    Pv.run Φ fu (.seq (.set [2] (.bin .mod (.bi .toInt (.cons (.bin .add (.bin .mul (.var 2) (.c (.int 39373))) (.c (.int k2))) .nil)) (.c (.int 2147483647))))
    (.seq (.set [2] (.bin .mod (.bi .toInt (.cons (.bin .add (.bin .add (.bin .mul (.var 2) (.var 2)) (.bin .mul (.c (.int 52711)) (.dkGet true (.var 0)))) (.c (.int k3))) .nil)) (.c (.int 2147483587))))
    (.ret (.bin .mod (.bin .fdiv (.bin .mod (.bi .toInt (.cons (.bin .mul (.var 2) (.c (.int 40692))) .nil)) (.c (.int 2147483563))) (.c (.int 64))) (.var 1))))) [some (tokD 0), some (.int many), some (.int f), x3] (some st) =
    .ok (.rt (.int (((((f * 39373 + k2) % 2147483647) * ((f * 39373 + k2) % 2147483647) + 52711 * st.turn + k3) % 2147483587 * 40692) % 2147483563 / 64 % many))) (some st) := by
  have a1 : 0 ≤ (f * 39373 + k2) % 2147483647 := Int.emod_nonneg _ (by decide)
  have a2 : (f * 39373 + k2) % 2147483647 < 2147483647 := Int.emod_lt_of_pos _ (by decide)
  have m1 : mulOk f 39373 = true := mulOk_r (by decide)
  have m2 : mulOk ((f * 39373 + k2) % 2147483647) ((f * 39373 + k2) % 2147483647) = true := mulOk_r (by omega)
  have m3 : mulOk 52711 st.turn = true := mulOk_l (by decide)
  have m4 : mulOk (((f * 39373 + k2) % 2147483647 * ((f * 39373 + k2) % 2147483647) + 52711 * st.turn + k3) % 2147483587) 40692 = true := mulOk_r (by decide)
  have l1 : Nat.log2 64 < 9000 := by decide
  simp [Pv.run, ev, evs, biV, binV, m1, m2, m3, m4, setT, h0, dkGetV, l1]
theorem draw_A {Φ : Fns} {fu : Nat} {k1 k2 k3 : Int} {st : Dk} {many : Int} (h0 : 0 < many) (hl : many.natAbs.log2 < 9000) (hk : k1.natAbs < 18446744073709551616) (hc : st.cells.length ≤ 63) :
    ∃ r st', Drawn (fin (Pv.run Φ fu (drawA k1 k2 k3) [some (tokD 0), some (.int many), none, none] (some st))) many st r st' := by
  unfold drawA
  have m1 : mulOk k1 (st.turn + 1) = true := mulOk_l hk
  rw [run_seq_nx (σ' := [some (tokD 0), some (.int many), none, none]) (g' := some { st with turn := st.turn + 1 }) (by simp [Pv.run, ev, evs, binV, dkGetV, dkSetV])]
  rw [run_seq_nx (σ' := [some (tokD 0), some (.int many), some (.int (st.mixed + k1 * (st.turn + 1))), none]) (g' := some { st with turn := st.turn + 1 }) (by simp [Pv.run, ev, evs, binV, dkGetV, setT, m1])]
  by_cases he : st.cells = []
  · rw [run_seq_nx (σ' := [some (tokD 0), some (.int many), some (.int (st.mixed + k1 * (st.turn + 1))), none]) (g' := some { st with turn := st.turn + 1 }) (by simp [Pv.run, ev, evs, dkHasV, he])]
    rw [tail_A h0]
    exact ⟨_, _, rfl, Int.emod_nonneg _ (by omega), Int.emod_lt_of_pos _ h0, Nat.le_refl _⟩
  · obtain ⟨c, hcl⟩ := getLast_some he
    have hlen : st.cells.dropLast.length < 63 := by
      have : 0 < st.cells.length := List.length_pos_iff.mpr he
      rw [List.length_dropLast]; omega
    have hne : st.cells.isEmpty = false := by simpa using he
    have p1 : powOk 10 18 = true := by decide
    by_cases hb : 1000000000000000000 ≤ c
    · rw [run_seq_rt (v := .int (c % many)) (g' := some ⟨st.cells.dropLast ++ [c / many], st.mixed, st.turn + 1⟩) (by
        have l1 : st.cells.length - 1 < lineN := by
          unfold lineN; omega
        simp [Pv.run, ev, evs, dkHasV, hne, dkPopV, hcl, setT, cmpV, binV, p1, hb, dkPushV, h0, hl, biV, l1])]
      refine ⟨_, _, rfl, Int.emod_nonneg _ (by omega), Int.emod_lt_of_pos _ h0, ?_⟩
      show (st.cells.dropLast ++ [c / many]).length ≤ _
      rw [List.length_append, List.length_dropLast, List.length_singleton]
      have : 0 < st.cells.length := List.length_pos_iff.mpr he
      omega
    · rw [run_seq_nx (σ' := [some (tokD 0), some (.int many), some (.int (st.mixed + k1 * (st.turn + 1) + c % 2147483629)), some (.int c)]) (g' := some ⟨st.cells.dropLast, st.mixed, st.turn + 1⟩) (by
        simp [Pv.run, ev, evs, dkHasV, hne, dkPopV, hcl, setT, cmpV, binV, p1, hb, biV])]
      rw [tail_A h0]
      refine ⟨_, _, rfl, Int.emod_nonneg _ (by omega), Int.emod_lt_of_pos _ h0, ?_⟩
      show st.cells.dropLast.length ≤ _
      rw [List.length_dropLast]
      omega
/-- the deck of the first family -/
def deckA (ns : List Int) (seed k : Int) : Sm :=
  (.seq (.set [1] (.c (.int seed)))
    (.seq (.forr [2] .seq (.cons (.scr (.var 0) ns 63) .nil) (.set [1] (.bin .mod (.bi .toInt (.cons (.bin .add (.bin .add (.bin .mul (.var 1) (.c (.int 48271))) (.bin .mod (.bi .toInt (.cons (.var 2) .nil)) (.c (.int 2147483629)))) (.c (.int k))) .nil)) (.c (.int 2147483587)))))
    (.ret (.dkNew (.lrev (.bi .toList (.cons (.scr (.var 0) ns 63) .nil))) (.var 1) (.c (.int 0))))))
theorem ints_map : ∀ ns : List Int, intsOf (ns.map .int) = some ns
  | [] => rfl
  | n :: ns => by
    rw [List.map_cons]
    unfold intsOf
    rw [ints_map ns]; rfl
theorem deck_A {Φ : Fns} {fu : Nat} {ns : List Int} {seed k : Int} : ∃ st, fin (Pv.run Φ fu (deckA ns seed k) [some (tokD 1), none, none] none) = .ok (tokD 0) (some st) ∧ st.cells.length ≤ 63 := by
  unfold deckA
  rw [run_seq_nx (σ' := [some (tokD 1), some (.int seed), none]) (g' := none) (by simp [Pv.run, ev, setT])]
  have e2 := run_for (Φ := Φ) (fu := fu) (ts := [2]) (k := .seq) (σ := [some (tokD 1), some (.int seed), none]) (g := none) (vs := [.list ((ns.take 63).map .int)]) (xs := (ns.take 63).map .int) (g' := none) (as := .cons (.scr (.var 0) ns 63) .nil)
    (b := .set [1] (.bin .mod (.bi .toInt (.cons (.bin .add (.bin .add (.bin .mul (.var 1) (.c (.int 48271))) (.bin .mod (.bi .toInt (.cons (.var 2) .nil)) (.c (.int 2147483629)))) (.c (.int k))) .nil)) (.c (.int 2147483587)))) (by simp [evs, ev]) rfl
  obtain ⟨σ', g', e3, m, y, e4, e5⟩ := forL_inv (f := fun x σ g => (lift (setT [2] x σ) g).bind fun σ g => Pv.run Φ fu (.set [1] (.bin .mod (.bi .toInt (.cons (.bin .add (.bin .add (.bin .mul (.var 1) (.c (.int 48271))) (.bin .mod (.bi .toInt (.cons (.var 2) .nil)) (.c (.int 2147483629)))) (.c (.int k))) .nil)) (.c (.int 2147483587)))) σ g)
    (I := fun σ g => ∃ (m : Int) (y : Option D), σ = [some (tokD 1), some (.int m), y] ∧ g = none) (xs := (ns.take 63).map .int) (by
      rintro x hx σ g ⟨m, y, rfl, rfl⟩
      obtain ⟨n, hn, rfl⟩ := List.mem_map.mp hx
      have m1 : mulOk m 48271 = true := mulOk_r (by decide)
      exact ⟨_, _, by simp [setT, Pv.run, ev, evs, binV, biV, m1]; exact ⟨rfl, rfl⟩, _, _, rfl, rfl⟩) [some (tokD 1), some (.int seed), none] none ⟨_, _, rfl, rfl⟩
  subst e4; subst e5
  rw [run_seq_nx (e2.trans e3)]
  refine ⟨⟨(ns.take 63).reverse, m, 0⟩, ?_, ?_⟩
  · have e : (List.take 63 (List.map PyData.int ns)).reverse = ((ns.take 63).reverse).map PyData.int := by rw [← List.map_take, List.map_reverse]
    have e2 : intsOf (List.take 63 (List.map PyData.int ns)).reverse = some (ns.take 63).reverse := by rw [e, ints_map]
    simp [Pv.run, ev, evs, biV, dkNewV, e2, fin]
  · rw [List.length_reverse, List.length_take]
    omega
end Pv
end

section
/-! PvP: the program's functions of numbers, what they answer. -/
set_option autoImplicit false
namespace Pv
open PySem

theorem pow_emod' (a p : Int) : ∀ n : Nat, (a % p) ^ n % p = a ^ n % p
  | 0 => by rw [Int.pow_zero, Int.pow_zero]
  | n + 1 => by
    rw [Int.pow_succ, Int.pow_succ, Int.mul_emod, pow_emod' a p n, Int.emod_emod_of_dvd _ (Int.dvd_refl p), ← Int.mul_emod]
theorem pow_two_mul (b : Int) : ∀ k : Nat, (b * b) ^ k = b ^ (2 * k)
  | 0 => by rw [Nat.mul_zero, Int.pow_zero, Int.pow_zero]
  | k + 1 => by
    rw [Int.pow_succ, pow_two_mul b k, show 2 * (k + 1) = 2 * k + 1 + 1 from rfl, Int.pow_succ, Int.pow_succ, Int.mul_assoc]
theorem mulmod_l (a b p : Int) : a % p * b % p = a * b % p := by
  rw [Int.mul_emod, Int.emod_emod_of_dvd _ (Int.dvd_refl p), ← Int.mul_emod]
theorem mulmod_r (a b p : Int) : a * (b % p) % p = a * b % p := by
  rw [Int.mul_comm, mulmod_l, Int.mul_comm]
theorem mulpow_r (a b p : Int) (k : Nat) : a * (b % p) ^ k % p = a * b ^ k % p := by
  rw [← mulmod_r a ((b % p) ^ k), pow_emod', mulmod_r]
theorem sq_step (r b p : Int) (k : Nat) : (if k % 2 = 1 then r * b % p else r) * (b * b % p) ^ (k / 2) % p = r * b ^ k % p := by
  rw [mulpow_r, pow_two_mul]
  by_cases h : k % 2 = 1
  · rw [if_pos h, mulmod_l, Int.mul_assoc, Int.mul_comm b, ← Int.pow_succ]
    congr 2
    congr 1
    omega
  · rw [if_neg h]
    congr 2
    congr 1
    omega
/-- base ** exponent % prime by squares -/
def npowS : Sm :=
  (.seq (.set [3] (.c (.int 1)))
    (.seq (.set [4] (.bin .mod (.var 1) (.var 0)))
    (.seq (.set [5] (.var 2))
    (.seq (.whil (.cmp .gt (.var 5) (.c (.int 0))) (.seq (.ite (.truth (.bin .band (.var 5) (.c (.int 1)))) (.set [3] (.bin .mod (.bin .mul (.var 3) (.var 4)) (.var 0))) .skip)
      (.seq (.set [4] (.bin .mod (.bin .mul (.var 4) (.var 4)) (.var 0)))
      (.set [5] (.bin .shr (.var 5) (.c (.int 1)))))))
    (.ret (.var 3))))))
theorem band_one {k : Nat} : Builtin.bitAnd (k : Int) 1 = ((k % 2 : Nat) : Int) := by
  have h1 : decide ((0 : Int) ≤ (k : Int)) = true := decide_eq_true (by omega)
  have h2 : decide ((0 : Int) ≤ 1) = true := rfl
  unfold Builtin.bitAnd
  simp only [h1, h2, Int.toNat_natCast, show (1 : Int).toNat = 1 from rfl, Nat.and_one_is_mod]
theorem natAbs_lt {i p : Int} (h0 : 0 ≤ i) (h1 : i < p) (h2 : p < 18446744073709551616) : i.natAbs < 18446744073709551616 := by omega
section
variable {Φ : Fns} {g : G}
theorem npow_loop {p n e : Int} (hp : 0 < p) (hp2 : p < 18446744073709551616) : ∀ (k fu : Nat), k < fu → ∀ r b : Int, 0 ≤ r → r < p → 0 ≤ b → b < p → ∃ b' : Int,
    whileL (fun σ g => ev Φ (.cmp .gt (.var 5) (.c (.int 0))) σ g) (fun σ g => Pv.run Φ fuel (.seq (.ite (.truth (.bin .band (.var 5) (.c (.int 1)))) (.set [3] (.bin .mod (.bin .mul (.var 3) (.var 4)) (.var 0))) .skip)
      (.seq (.set [4] (.bin .mod (.bin .mul (.var 4) (.var 4)) (.var 0)))
      (.set [5] (.bin .shr (.var 5) (.c (.int 1)))))) σ g) fu [some (.int p), some (.int n), some (.int e), some (.int r), some (.int b), some (.int k)] g =
    .ok (.nx [some (.int p), some (.int n), some (.int e), some (.int (r * b ^ k % p)), some (.int b'), some (.int 0)]) g := by
  intro k
  induction k using Nat.strongRecOn with
  | _ k ih =>
    intro fu hf r b r0 r1 b0 b1
    obtain ⟨fu, rfl⟩ : ∃ m, fu = m + 1 := ⟨fu - 1, by omega⟩
    by_cases hk : k = 0
    · subst hk
      refine ⟨b, ?_⟩
      rw [whileL_end (by simp [ev, cmpV] : ev Φ (.cmp .gt (.var 5) (.c (.int 0))) [some (.int p), some (.int n), some (.int e), some (.int r), some (.int b), some (.int (0 : Nat))] g = .ok (.bool false) g)]
      rw [Int.pow_zero, Int.mul_one, Int.emod_eq_of_lt r0 r1]; rfl
    · have k0 : 0 < k := by omega
      have mrb : mulOk r b = true := mulOk_r (natAbs_lt b0 b1 hp2)
      have mbb : mulOk b b = true := mulOk_r (natAbs_lt b0 b1 hp2)
      obtain ⟨b', e⟩ := ih (k / 2) (by omega) fu (by omega) (if k % 2 = 1 then r * b % p else r) (b * b % p) (by split; exact Int.emod_nonneg _ (by omega); exact r0) (by split; exact Int.emod_lt_of_pos _ hp; exact r1) (Int.emod_nonneg _ (by omega)) (Int.emod_lt_of_pos _ hp)
      refine ⟨b', ?_⟩
      rw [whileL_step (g' := g) (σ' := [some (.int p), some (.int n), some (.int _), some (.int (if k % 2 = 1 then r * b % p else r)), some (.int (b * b % p)), some (.int ((k / 2 : Nat) : Int))]) (g2 := g)
        (by simp [ev, cmpV]; omega) ?_, e, sq_step]
      by_cases h2 : k % 2 = 1
      · have t : truV (.int (Builtin.bitAnd (k : Int) 1)) = some true := by rw [band_one, h2]; rfl
        simp [Pv.run, ev, binV, t, hp, mrb, mbb, setT, h2]
      · have h3 : k % 2 = 0 := by omega
        have t : truV (.int (Builtin.bitAnd (k : Int) 1)) = some false := by rw [band_one, h3]; rfl
        simp [Pv.run, ev, binV, t, hp, mrb, mbb, setT, h2]
theorem npow {p n e : Int} (hp : 1 < p) (hp2 : p < 18446744073709551616) (he : 0 ≤ e) (he2 : e < 18446744073709551616) : fin (Pv.run Φ fuel npowS [some (.int p), some (.int n), some (.int e), none, none, none] g) = .ok (.int (n ^ e.toNat % p)) g := by
  have hp0 : 0 < p := by omega
  unfold npowS
  rw [run_seq_nx (σ' := [some (.int p), some (.int n), some (.int e), some (.int 1), none, none]) (g' := g) rfl]
  rw [run_seq_nx (σ' := [some (.int p), some (.int n), some (.int e), some (.int 1), some (.int (n % p)), none]) (g' := g) (by simp [Pv.run, ev, binV, hp0, setT])]
  rw [run_seq_nx (σ' := [some (.int p), some (.int n), some (.int e), some (.int 1), some (.int (n % p)), some (.int (e.toNat : Nat))]) (g' := g) (by rw [Int.toNat_of_nonneg he]; rfl)]
  obtain ⟨b', h⟩ := npow_loop (Φ := Φ) (g := g) (n := n) (e := e) hp0 hp2 e.toNat fuel (by unfold fuel; omega) 1 (n % p) (by omega) hp (Int.emod_nonneg _ (by omega)) (Int.emod_lt_of_pos _ hp0)
  have h2 : Pv.run Φ fuel (.whil (.cmp .gt (.var 5) (.c (.int 0))) (.seq (.ite (.truth (.bin .band (.var 5) (.c (.int 1)))) (.set [3] (.bin .mod (.bin .mul (.var 3) (.var 4)) (.var 0))) .skip)
      (.seq (.set [4] (.bin .mod (.bin .mul (.var 4) (.var 4)) (.var 0)))
      (.set [5] (.bin .shr (.var 5) (.c (.int 1))))))) [some (.int p), some (.int n), some (.int e), some (.int 1), some (.int (n % p)), some (.int (e.toNat : Nat))] g = .ok (.nx [some (.int p), some (.int n), some (.int e), some (.int (1 * (n % p) ^ e.toNat % p)), some (.int b'), some (.int 0)]) g := h
  rw [run_seq_nx h2, Int.one_mul, pow_emod']
  rfl
end
end Pv
end

section
/-! PvQ: what a run must answer, by steps. -/
set_option autoImplicit false
namespace Pv
open PySem

/-- a run ends well, with a value and a deck that fit (an inductive one: nothing unfolds it) -/
inductive Ok {α : Type} (r : Res α) (Q : α → G → Prop) : Prop where
  | mk (a : α) (g : G) (e : r = .ok a g) (q : Q a g)
/-- the rest of a row of statements -/
def thenF (k : Sl → G → Prop) (Q : Fl → G → Prop) : Fl → G → Prop
  | .nx σ, g => k σ g
  | fl, g => Q fl g
@[simp] theorem thenF_nx {k : Sl → G → Prop} {Q : Fl → G → Prop} {σ : Sl} {g : G} : thenF k Q (.nx σ) g = k σ g := (rfl)
@[simp] theorem thenF_rt {k : Sl → G → Prop} {Q : Fl → G → Prop} {v : D} {g : G} : thenF k Q (.rt v) g = Q (.rt v) g := (rfl)
@[simp] theorem thenF_bk {k : Sl → G → Prop} {Q : Fl → G → Prop} {σ : Sl} {g : G} : thenF k Q (.bk σ) g = Q (.bk σ) g := (rfl)
@[simp] theorem thenF_ex {k : Sl → G → Prop} {Q : Fl → G → Prop} {σ : Sl} {c : Nat} {vs : List D} {g : G} : thenF k Q (.ex σ c vs) g = Q (.ex σ c vs) g := (rfl)
@[simp] theorem thenF_ct {k : Sl → G → Prop} {Q : Fl → G → Prop} {σ : Sl} {g : G} : thenF k Q (.ct σ) g = Q (.ct σ) g := (rfl)
/-- what a function answers -/
def retF (Q : D → G → Prop) : Fl → G → Prop
  | .rt v, g => Q v g
  | .nx _, g => Q .none g
  | _, _ => False
@[simp] theorem retF_rt {Q : D → G → Prop} {v : D} {g : G} : retF Q (.rt v) g = Q v g := (rfl)
@[simp] theorem retF_nx {Q : D → G → Prop} {σ : Sl} {g : G} : retF Q (.nx σ) g = Q .none g := (rfl)
@[simp] theorem retF_bk {Q : D → G → Prop} {σ : Sl} {g : G} : retF Q (.bk σ) g = False := (rfl)
@[simp] theorem retF_ex {Q : D → G → Prop} {σ : Sl} {c : Nat} {vs : List D} {g : G} : retF Q (.ex σ c vs) g = False := (rfl)
@[simp] theorem retF_ct {Q : D → G → Prop} {σ : Sl} {g : G} : retF Q (.ct σ) g = False := (rfl)
/-- a loop's body: on, or out -/
def loopF (I : Sl → G → Prop) (Q : Fl → G → Prop) : Fl → G → Prop
  | .nx σ, g => I σ g
  | .ct σ, g => I σ g
  | .bk σ, g => Q (.nx σ) g
  | .rt v, g => Q (.rt v) g
  | .ex σ c vs, g => Q (.ex σ c vs) g
@[simp] theorem loopF_ex {k : Sl → G → Prop} {Q : Fl → G → Prop} {σ : Sl} {c : Nat} {vs : List D} {g : G} : loopF k Q (.ex σ c vs) g = Q (.ex σ c vs) g := (rfl)
@[simp] theorem loopF_nx {k : Sl → G → Prop} {Q : Fl → G → Prop} {σ : Sl} {g : G} : loopF k Q (.nx σ) g = k σ g := (rfl)
@[simp] theorem loopF_ct {k : Sl → G → Prop} {Q : Fl → G → Prop} {σ : Sl} {g : G} : loopF k Q (.ct σ) g = k σ g := (rfl)
@[simp] theorem loopF_bk {k : Sl → G → Prop} {Q : Fl → G → Prop} {σ : Sl} {g : G} : loopF k Q (.bk σ) g = Q (.nx σ) g := (rfl)
@[simp] theorem loopF_rt {k : Sl → G → Prop} {Q : Fl → G → Prop} {v : D} {g : G} : loopF k Q (.rt v) g = Q (.rt v) g := (rfl)
section
variable {α β : Type} {Q P : α → G → Prop} {g g' : G} {a : α}
@[simp] theorem Ok_ok : Ok (.ok a g) Q = Q a g := propext ⟨fun ⟨_, _, e, q⟩ => (by cases e; exact q), fun q => ⟨_, _, rfl, q⟩⟩
@[simp] theorem Ok_no : Ok (.no : Res α) Q = False := propext ⟨fun ⟨_, _, e, _⟩ => (nomatch e), False.elim⟩
@[simp] theorem Ok_exc {c : Nat} {vs : List D} : Ok (.exc c vs g : Res α) Q = False := propext ⟨fun ⟨_, _, e, _⟩ => (nomatch e), False.elim⟩
@[simp] theorem Ok_bind {r : Res β} {f : β → G → Res α} : Ok (r.bind f) Q = Ok r fun b g => Ok (f b g) Q := by cases r <;> simp
@[simp] theorem Ok_lift {o : Option α} : Ok (lift o g) Q = ∃ a, o = some a ∧ Q a g := by cases o <;> simp
@[simp] theorem Ok_if {c : Prop} [Decidable c] {r s : Res α} : Ok (if c then r else s) Q = if c then Ok r Q else Ok s Q := by split <;> rfl
theorem Ok.ex {r : Res α} (h : Ok r Q) : ∃ a g, r = .ok a g ∧ Q a g := let ⟨a, g, e, q⟩ := h; ⟨a, g, e, q⟩
theorem Ok.mono {r : Res α} (h : Ok r P) (i : ∀ a g, P a g → Q a g) : Ok r Q := let ⟨a, g, e, q⟩ := h; ⟨a, g, e, i a g q⟩
theorem Ok.of_eq {r : Res α} (h : r = .ok a g) (q : Q a g) : Ok r Q := ⟨a, g, h, q⟩
theorem Ok.eq {r : Res α} (h : Ok r fun b g' => b = a ∧ g' = g) : r = .ok a g := by
  obtain ⟨b, g', e, rfl, rfl⟩ := h.ex
  exact e
theorem Ok_fin {r : Res Fl} {Q : D → G → Prop} : Ok (fin r) Q = Ok r (retF Q) := by
  cases r with
  | ok a g => cases a <;> simp [fin, retF]
  | exc c vs g => simp [fin]
  | no => simp [fin]
end
/-- a call ends with a value, or with an exception -/
inductive OkX (r : Res D) (Q : D → G → Prop) (E : Nat → List D → G → Prop) : Prop where
  | ok (a : D) (g : G) (e : r = .ok a g) (q : Q a g)
  | ex (c : Nat) (vs : List D) (g : G) (e : r = .exc c vs g) (q : E c vs g)
theorem Ok.x {r : Res D} {Q : D → G → Prop} {E : Nat → List D → G → Prop} (h : Ok r Q) : OkX r Q E := let ⟨a, g, e, q⟩ := h; .ok a g e q
theorem OkX.of_exc {r : Res D} {Q : D → G → Prop} {E : Nat → List D → G → Prop} {c : Nat} {vs : List D} {g : G} (h : r = .exc c vs g) (q : E c vs g) : OkX r Q E := .ex c vs g h q
theorem OkX.mono {r : Res D} {Q Q' : D → G → Prop} {E E' : Nat → List D → G → Prop} (h : OkX r Q E) (i : ∀ a g, Q a g → Q' a g) (j : ∀ c vs g, E c vs g → E' c vs g) : OkX r Q' E' := by
  rcases h with ⟨a, g, e, q⟩ | ⟨c, vs, g, e, q⟩
  · exact .ok a g e (i a g q)
  · exact .ex c vs g e (j c vs g q)
@[simp] theorem OkX_ok {a : D} {g : G} {Q : D → G → Prop} {E : Nat → List D → G → Prop} : OkX (.ok a g) Q E = Q a g := propext ⟨(fun h => by
  rcases h with ⟨_, _, e, q⟩ | ⟨_, _, _, e, _⟩
  · cases e; exact q
  · cases e), fun q => OkX.ok _ _ rfl q⟩
@[simp] theorem OkX_exc {c : Nat} {vs : List D} {g : G} {Q : D → G → Prop} {E : Nat → List D → G → Prop} : OkX (.exc c vs g) Q E = E c vs g := propext ⟨(fun h => by
  rcases h with ⟨_, _, e, q⟩ | ⟨_, _, _, e, q⟩
  · cases e
  · cases e; exact q), fun q => OkX.ex _ _ _ rfl q⟩
@[simp] theorem OkX_no {Q : D → G → Prop} {E : Nat → List D → G → Prop} : OkX .no Q E = False := propext ⟨(fun h => by
  rcases h with ⟨_, _, e, q⟩ | ⟨_, _, _, e, q⟩ <;> cases e), False.elim⟩
/-- what a function that may raise answers -/
def retX (Q : D → G → Prop) (E : Nat → List D → G → Prop) : Fl → G → Prop
  | .rt v, g => Q v g
  | .nx _, g => Q .none g
  | .ex _ c vs, g => E c vs g
  | _, _ => False
section
variable {Q : D → G → Prop} {E : Nat → List D → G → Prop} {σ : Sl} {g : G} {v : D} {c : Nat} {vs : List D}
@[simp] theorem retX_rt : retX Q E (.rt v) g = Q v g := (rfl)
@[simp] theorem retX_nx : retX Q E (.nx σ) g = Q .none g := (rfl)
@[simp] theorem retX_ex : retX Q E (.ex σ c vs) g = E c vs g := (rfl)
@[simp] theorem retX_bk : retX Q E (.bk σ) g = False := (rfl)
@[simp] theorem retX_ct : retX Q E (.ct σ) g = False := (rfl)
end
theorem OkX_fin {r : Res Fl} {Q : D → G → Prop} {E : Nat → List D → G → Prop} : OkX (fin r) Q E = Ok r (retX Q E) := by
  cases r with
  | ok a g => cases a <;> simp [fin, retX]
  | exc c vs g => simp [fin]
  | no => simp [fin]
theorem OkX_FT {T : List Fn} {d f : Nat} {as : List D} {g : G} {Q : D → G → Prop} {E : Nat → List D → G → Prop} {fn : Fn} (h : T[f]? = some fn) (hl : as.length = fn.np)
    (hb : Ok (Pv.run (FT T (fun _ => none) d) fuel fn.body (as.map some ++ List.replicate (fn.nl - fn.np) none) g) (retX Q E)) : OkX (FT T (fun _ => none) (d + 1) f as g) Q E := by
  rw [FT_at h hl, OkX_fin]; exact hb
theorem Ok_FT {T : List Fn} {d f : Nat} {as : List D} {g : G} {Q : D → G → Prop} {fn : Fn} (h : T[f]? = some fn) (hl : as.length = fn.np)
    (hb : Ok (Pv.run (FT T (fun _ => none) d) fuel fn.body (as.map some ++ List.replicate (fn.nl - fn.np) none) g) (retF Q)) : Ok (FT T (fun _ => none) (d + 1) f as g) Q := by
  rw [FT_at h hl, Ok_fin]; exact hb
section
variable {Φ : Fns} {fu : Nat} {σ : Sl} {g : G} {Q : D → G → Prop} {a b c t e d k x : Ex} {as : Exs}
@[simp] theorem Ok_c {v : D} : Ok (ev Φ (.c v) σ g) Q = Q v g := by unfold ev; exact Ok_ok
@[simp] theorem Ok_var {i : Nat} : Ok (ev Φ (.var i) σ g) Q = ∃ v, σ[i]? = some (some v) ∧ Q v g := by
  unfold ev
  cases e : σ[i]? with
  | none => simp
  | some o => cases o <;> simp
@[simp] theorem Ok_bin {op : Bop} : Ok (ev Φ (.bin op a b) σ g) Q = Ok (ev Φ a σ g) fun x g => Ok (ev Φ b σ g) fun y g => ∃ z, binV op x y = some z ∧ Q z g := by
  conv => lhs; unfold ev
  simp only [Ok_bind, Ok_lift]
@[simp] theorem Ok_neg : Ok (ev Φ (.neg a) σ g) Q = Ok (ev Φ a σ g) fun x g => ∃ i, x = .int i ∧ Q (.int (-i)) g := by
  conv => lhs; unfold ev
  simp only [Ok_bind]
  congr; funext x g
  cases x <;> simp
@[simp] theorem Ok_asI : Ok (ev Φ (.asI a) σ g) Q = Ok (ev Φ a σ g) fun x g => ∃ i, x = .int i ∧ Q (.int i) g := by
  conv => lhs; unfold ev
  simp only [Ok_bind]
  congr; funext x g
  cases x <;> simp
@[simp] theorem Ok_cmp {op : Cop} : Ok (ev Φ (.cmp op a b) σ g) Q = Ok (ev Φ a σ g) fun x g => Ok (ev Φ b σ g) fun y g => ∃ z, cmpV op x y = some z ∧ Q (.bool z) g := by
  conv => lhs; unfold ev
  simp only [Ok_bind, Ok_lift, Option.map_eq_some_iff]
  congr; funext x g; congr; funext y g
  exact propext ⟨fun ⟨_, ⟨z, h, e⟩, q⟩ => ⟨z, h, by rw [e]; exact q⟩, fun ⟨z, h, q⟩ => ⟨_, ⟨z, h, rfl⟩, q⟩⟩
@[simp] theorem Ok_chain {o1 o2 : Cop} : Ok (ev Φ (.chain o1 o2 a b c) σ g) Q = Ok (ev Φ a σ g) fun x g => Ok (ev Φ b σ g) fun y g => ∃ k, cmpV o1 x y = some k ∧
    if k = true then Ok (ev Φ c σ g) fun z g => ∃ w, cmpV o2 y z = some w ∧ Q (.bool w) g else Q (.bool false) g := by
  conv => lhs; unfold ev
  simp only [Ok_bind, Ok_lift, Option.map_eq_some_iff, Ok_if, Ok_ok]
  congr; funext x g; congr; funext y g
  congr; funext k; congr; funext z g
  exact propext ⟨fun ⟨_, ⟨z, h, e⟩, q⟩ => ⟨z, h, by rw [e]; exact q⟩, fun ⟨z, h, q⟩ => ⟨_, ⟨z, h, rfl⟩, q⟩⟩
@[simp] theorem Ok_chain3 {o1 o2 o3 : Cop} : Ok (ev Φ (.chain3 o1 o2 o3 a b c d) σ g) Q = Ok (ev Φ a σ g) fun x g => Ok (ev Φ b σ g) fun y g => ∃ k, cmpV o1 x y = some k ∧
    if k = true then Ok (ev Φ c σ g) fun z g => ∃ k, cmpV o2 y z = some k ∧ if k = true then Ok (ev Φ d σ g) fun w g => ∃ u, cmpV o3 z w = some u ∧ Q (.bool u) g else Q (.bool false) g else Q (.bool false) g := by
  conv => lhs; unfold ev
  simp only [Ok_bind, Ok_lift, Option.map_eq_some_iff, Ok_if, Ok_ok]
  congr; funext x g; congr; funext y g
  congr; funext k; congr; funext z g
  congr; funext k; congr; funext w g
  exact propext ⟨fun ⟨_, ⟨z, h, e⟩, q⟩ => ⟨z, h, by rw [e]; exact q⟩, fun ⟨z, h, q⟩ => ⟨_, ⟨z, h, rfl⟩, q⟩⟩
@[simp] theorem Ok_and : Ok (ev Φ (.and a b) σ g) Q = Ok (ev Φ a σ g) fun x g => ∃ k : Bool, x = .bool k ∧ if k = true then Ok (ev Φ b σ g) Q else Q (.bool false) g := by
  conv => lhs; unfold ev
  simp only [Ok_bind]
  congr; funext x g
  cases x with
  | bool k => cases k <;> simp
  | _ => simp
@[simp] theorem Ok_or : Ok (ev Φ (.or a b) σ g) Q = Ok (ev Φ a σ g) fun x g => ∃ k : Bool, x = .bool k ∧ if k = true then Q (.bool true) g else Ok (ev Φ b σ g) Q := by
  conv => lhs; unfold ev
  simp only [Ok_bind]
  congr; funext x g
  cases x with
  | bool k => cases k <;> simp
  | _ => simp
@[simp] theorem Ok_not : Ok (ev Φ (.not a) σ g) Q = Ok (ev Φ a σ g) fun x g => ∃ k : Bool, x = .bool k ∧ Q (.bool (!k)) g := by
  conv => lhs; unfold ev
  simp only [Ok_bind]
  congr; funext x g
  cases x <;> simp
@[simp] theorem Ok_truth : Ok (ev Φ (.truth a) σ g) Q = Ok (ev Φ a σ g) fun x g => ∃ k, truV x = some k ∧ Q (.bool k) g := by
  conv => lhs; unfold ev
  simp only [Ok_bind, Ok_lift, Option.map_eq_some_iff]
  congr; funext x g
  exact propext ⟨fun ⟨_, ⟨z, h, e⟩, q⟩ => ⟨z, h, by rw [e]; exact q⟩, fun ⟨z, h, q⟩ => ⟨_, ⟨z, h, rfl⟩, q⟩⟩
@[simp] theorem Ok_ite : Ok (ev Φ (.ite t a b) σ g) Q = Ok (ev Φ t σ g) fun x g => ∃ k : Bool, x = .bool k ∧ if k = true then Ok (ev Φ a σ g) Q else Ok (ev Φ b σ g) Q := by
  conv => lhs; unfold ev
  simp only [Ok_bind]
  congr; funext x g
  cases x with
  | bool k => cases k <;> simp
  | _ => simp
@[simp] theorem Ok_idx : Ok (ev Φ (.idx a b) σ g) Q = Ok (ev Φ a σ g) fun x g => Ok (ev Φ b σ g) fun y g => ∃ z, idxV x y = some z ∧ Q z g := by
  conv => lhs; unfold ev
  simp only [Ok_bind, Ok_lift]
@[simp] theorem Ok_slc : Ok (ev Φ (.slc a b c) σ g) Q = Ok (ev Φ a σ g) fun x g => Ok (ev Φ b σ g) fun l g => Ok (ev Φ c σ g) fun h g => ∃ z, slcV x l h = some z ∧ Q z g := by
  conv => lhs; unfold ev
  simp only [Ok_bind, Ok_lift]
@[simp] theorem Ok_rev : Ok (ev Φ (.rev a) σ g) Q = Ok (ev Φ a σ g) fun x g => ∃ z, revV x = some z ∧ Q z g := by
  conv => lhs; unfold ev
  simp only [Ok_bind, Ok_lift]
@[simp] theorem Ok_tup : Ok (ev Φ (.tup as) σ g) Q = Ok (evs Φ as σ g) fun xs g => Q (.tuple xs) g := by
  conv => lhs; unfold ev
  simp only [Ok_bind, Ok_ok]
@[simp] theorem Ok_lst : Ok (ev Φ (.lst as) σ g) Q = Ok (evs Φ as σ g) fun xs g => Q (.list xs) g := by
  conv => lhs; unfold ev
  simp only [Ok_bind, Ok_ok]
@[simp] theorem Ok_bi {f : Bi} : Ok (ev Φ (.bi f as) σ g) Q = Ok (evs Φ as σ g) fun xs g => ∃ z, biV f xs = some z ∧ Q z g := by
  conv => lhs; unfold ev
  simp only [Ok_bind, Ok_lift]
@[simp] theorem Ok_call {f : Nat} : Ok (ev Φ (.call f as) σ g) Q = Ok (evs Φ as σ g) fun xs g => Ok (Φ f xs g) Q := by
  conv => lhs; unfold ev
  simp only [Ok_bind]
@[simp] theorem Ok_callK {f : Nat} {perm : List Nat} : Ok (ev Φ (.callK f as perm) σ g) Q = Ok (evs Φ as σ g) fun xs g => Ok (Φ f (pm perm xs) g) Q := by
  conv => lhs; unfold ev
  simp only [Ok_bind]
/-- one item of a comprehension -/
def itemF (Φ : Fns) (t : List Nat) (σ : Sl) (cond elt : Ex) (x : D) (g : G) : Res (Option D) :=
  (lift (setT t x (wipeS σ t)) g).bind fun σ' g => (ev Φ cond σ' g).bind fun b g => match b with
        | .bool true => (ev Φ elt σ' g).bind fun v g => .ok (some v) g
        | .bool false => .ok none g
        | _ => .no
theorem Ok_itemF {t : List Nat} {cond elt : Ex} {x : D} {Q : Option D → G → Prop} : Ok (itemF Φ t σ cond elt x g) Q = ∃ σ', setT t x (wipeS σ t) = some σ' ∧ Ok (ev Φ cond σ' g) fun b g => ∃ k : Bool, b = .bool k ∧ if k = true then Ok (ev Φ elt σ' g) fun v g => Q (some v) g else Q none g := by
  unfold itemF
  simp only [Ok_bind, Ok_lift]
  congr; funext σ'; congr; funext b g
  cases b with
  | bool k => cases k <;> simp
  | _ => simp
@[simp] theorem Ok_comp {t : List Nat} {k : Ik} {cond elt : Ex} : Ok (ev Φ (.comp t k as cond elt) σ g) Q = Ok (evs Φ as σ g) fun vs g => ∃ xs, itV k vs = some xs ∧ xs.length ≤ lineN ∧ Ok (compL (itemF Φ t σ cond elt) xs [] g) fun ys g => Q (.list ys) g := by
  conv => lhs; unfold ev
  simp only [Ok_bind, Ok_lift]
  congr; funext vs g; congr; funext xs
  by_cases h : xs.length ≤ lineN
  · simp [h]; exact fun _ => Iff.rfl
  · simp [h]
@[simp] theorem Ok_dnew : Ok (ev Φ .dnew σ g) Q = Q (.dict []) g := by unfold ev; exact Ok_ok
@[simp] theorem Ok_dget : Ok (ev Φ (.dget d k x) σ g) Q = Ok (ev Φ d σ g) fun dv g => Ok (ev Φ k σ g) fun kv g => Ok (ev Φ x σ g) fun xv g => ∃ z, dgetV dv kv xv = some z ∧ Q z g := by
  conv => lhs; unfold ev
  simp only [Ok_bind, Ok_lift]
@[simp] theorem Ok_dix : Ok (ev Φ (.dix d k) σ g) Q = Ok (ev Φ d σ g) fun dv g => Ok (ev Φ k σ g) fun kv g => ∃ z, dixV dv kv = some z ∧ Q z g := by
  conv => lhs; unfold ev
  simp only [Ok_bind, Ok_lift]
@[simp] theorem Ok_dhas {n : Bool} : Ok (ev Φ (.dhas k d n) σ g) Q = Ok (ev Φ k σ g) fun kv g => Ok (ev Φ d σ g) fun dv g => ∃ b, dhasV kv dv = some b ∧ Q (.bool (b != n)) g := by
  conv => lhs; unfold ev
  simp only [Ok_bind, Ok_lift, Option.map_eq_some_iff]
  congr; funext x g; congr; funext y g
  exact propext ⟨fun ⟨_, ⟨z, h, e⟩, q⟩ => ⟨z, h, by rw [e]; exact q⟩, fun ⟨z, h, q⟩ => ⟨_, ⟨z, h, rfl⟩, q⟩⟩
@[simp] theorem Ok_ddisp : Ok (ev Φ (.ddisp as) σ g) Q = Ok (evs Φ as σ g) fun xs g => ∃ z, dispV xs [] = some z ∧ Q (.dict z) g := by
  conv => lhs; unfold ev
  simp only [Ok_bind, Ok_lift, Option.map_eq_some_iff]
  congr; funext x g
  exact propext ⟨fun ⟨_, ⟨z, h, e⟩, q⟩ => ⟨z, h, by rw [e]; exact q⟩, fun ⟨z, h, q⟩ => ⟨_, ⟨z, h, rfl⟩, q⟩⟩
@[simp] theorem Ok_lrev : Ok (ev Φ (.lrev a) σ g) Q = Ok (ev Φ a σ g) fun x g => ∃ xs, x = .list xs ∧ Q (.list xs.reverse) g := by
  conv => lhs; unfold ev
  simp only [Ok_bind]
  congr; funext x g
  cases x <;> simp
@[simp] theorem Ok_fld {f : Str} : Ok (ev Φ (.fld a f) σ g) Q = Ok (ev Φ a σ g) fun x g => ∃ z, fldV x f = some z ∧ Q z g := by
  conv => lhs; unfold ev
  simp only [Ok_bind, Ok_lift]
@[simp] theorem Ok_meth {c fi : Nat} {o : Ex} : Ok (ev Φ (.meth c fi o as) σ g) Q = Ok (ev Φ o σ g) fun x g => isOb c x = true ∧ Ok (evs Φ as σ g) fun xs g => Ok (Φ fi (x :: xs) g) Q := by
  conv => lhs; unfold ev
  simp only [Ok_bind]
  congr; funext x g
  by_cases h : isOb c x = true <;> simp [h]
@[simp] theorem Ok_mk {c fi : Nat} : Ok (ev Φ (.mk c fi as) σ g) Q = Ok (evs Φ as σ g) fun xs g => Ok (Φ fi (objD c [] :: xs) g) Q := by
  conv => lhs; unfold ev
  simp only [Ok_bind]
@[simp] theorem Ok_own {c fi : Nat} {n : Bool} : Ok (ev Φ (.own c fi n a b) σ g) Q = Ok (ev Φ a σ g) fun x g => Ok (ev Φ b σ g) fun y g => (isOb c x = true ∧ isOb c y = true) ∧ Ok (Φ fi [x, y] g) fun r g => ∃ z, r = .bool z ∧ Q (.bool (z != n)) g := by
  conv => lhs; unfold ev
  simp only [Ok_bind]
  congr; funext x g
  congr; funext y g
  by_cases h : (isOb c x && isOb c y) = true
  · rw [if_pos h]
    have h' := h
    simp only [Bool.and_eq_true] at h'
    simp only [Ok_bind, h', and_self, true_and]
    congr; funext r g
    cases r <;> simp
  · rw [if_neg h]
    simp only [Bool.and_eq_true] at h
    simp [h]
@[simp] theorem Ok_isO {c : Nat} : Ok (ev Φ (.isO c a) σ g) Q = Ok (ev Φ a σ g) fun x g => (isObj x = true ∧ Q (.bool (isOb c x)) g) ∨ (isObj x = false ∧ isDk x = false ∧ Q (.bool false) g) := by
  conv => lhs; unfold ev
  simp only [Ok_bind]
  congr; funext x g
  cases isObj x <;> cases isDk x <;> simp
@[simp] theorem Ok_dct : Ok (ev Φ (.dct a) σ g) Q = Ok (ev Φ a σ g) fun x g => ∃ xs kvs, x = .list xs ∧ pairV xs [] = some kvs ∧ Q (.dict kvs) g := by
  conv => lhs; unfold ev
  simp only [Ok_bind]
  congr; funext x g
  cases x <;> simp
@[simp] theorem Ok_tnew : Ok (ev Φ .tnew σ g) Q = Q (tdD []) g := by unfold ev; exact Ok_ok
@[simp] theorem Ok_evs_nil {Q : List D → G → Prop} : Ok (evs Φ .nil σ g) Q = Q [] g := by unfold evs; exact Ok_ok
@[simp] theorem Ok_evs_cons {Q : List D → G → Prop} : Ok (evs Φ (.cons a as) σ g) Q = Ok (ev Φ a σ g) fun x g => Ok (evs Φ as σ g) fun xs g => Q (x :: xs) g := by
  conv => lhs; unfold evs
  simp only [Ok_bind, Ok_ok]
end
section
variable {Φ : Fns} {fu : Nat} {σ : Sl} {g : G} {Q : Fl → G → Prop} {s b : Sm} {t e k : Ex} {as : Exs} {i : Nat}
theorem Ok_seq : Ok (Pv.run Φ fu (.seq s b) σ g) Q = Ok (Pv.run Φ fu s σ g) (thenF (fun σ g => Ok (Pv.run Φ fu b σ g) Q) Q) := by
  conv => lhs; unfold Pv.run
  simp only [Ok_bind]
  congr; funext fl g
  cases fl <;> simp
@[simp] theorem Ok_skip : Ok (Pv.run Φ fu .skip σ g) Q = Q (.nx σ) g := Ok_ok
@[simp] theorem Ok_set1 : Ok (Pv.run Φ fu (.set [i] e) σ g) Q = Ok (ev Φ e σ g) fun v g => Q (.nx (σ.set i (some v))) g := by
  conv => lhs; unfold Pv.run
  simp only [Ok_bind, Ok_lift, Ok_ok, setT, Option.some.injEq, exists_eq_left']
@[simp] theorem Ok_set2 {j : Nat} {ts : List Nat} : Ok (Pv.run Φ fu (.set (i :: j :: ts) e) σ g) Q = Ok (ev Φ e σ g) fun v g => ∃ σ', setT (i :: j :: ts) v σ = some σ' ∧ Q (.nx σ') g := by
  conv => lhs; unfold Pv.run
  simp only [Ok_bind, Ok_lift, Ok_ok]
@[simp] theorem Ok_setG {ts : List (List Nat)} : Ok (Pv.run Φ fu (.setG ts e) σ g) Q = Ok (ev Φ e σ g) fun v g => ∃ σ', setG ts v σ = some σ' ∧ Q (.nx σ') g := by
  conv => lhs; unfold Pv.run
  simp only [Ok_bind, Ok_lift, Ok_ok]
@[simp] theorem Ok_par {j : Nat} {a b : Ex} : Ok (Pv.run Φ fu (.par i j a b) σ g) Q = Ok (ev Φ a σ g) fun v g => Ok (ev Φ b σ g) fun w g => Q (.nx ((σ.set i (some v)).set j (some w))) g := by
  conv => lhs; unfold Pv.run
  simp only [Ok_bind, Ok_ok]
@[simp] theorem Ok_par3 {j l : Nat} {a b c : Ex} : Ok (Pv.run Φ fu (.par3 i j l a b c) σ g) Q = Ok (ev Φ a σ g) fun u g => Ok (ev Φ b σ g) fun v g => Ok (ev Φ c σ g) fun w g => Q (.nx (((σ.set i (some u)).set j (some v)).set l (some w))) g := by
  conv => lhs; unfold Pv.run
  simp only [Ok_bind, Ok_ok]
theorem Ok_slot {Q : D → G → Prop} : Ok (slot σ i g) Q = ∃ v, σ[i]? = some (some v) ∧ Q v g := by
  unfold slot
  cases e : σ[i]? with
  | none => simp
  | some o => cases o <;> simp
@[simp] theorem Ok_aug {op : Bop} : Ok (Pv.run Φ fu (.aug i op e) σ g) Q = ∃ x, σ[i]? = some (some x) ∧ Ok (ev Φ e σ g) fun y g => ∃ z, augV op x y = some z ∧ Q (.nx (σ.set i (some z))) g := by
  conv => lhs; unfold Pv.run
  simp only [Ok_bind, Ok_ok, Ok_slot, Ok_lift]
@[simp] theorem Ok_setIx : Ok (Pv.run Φ fu (.setIx i k e) σ g) Q = Ok (ev Φ e σ g) fun v g => ∃ d, σ[i]? = some (some d) ∧ Ok (ev Φ k σ g) fun kv g => ∃ d', setIxV d kv v = some d' ∧ Q (.nx (σ.set i (some d'))) g := by
  conv => lhs; unfold Pv.run
  simp only [Ok_bind, Ok_ok, Ok_slot, Ok_lift]
@[simp] theorem Ok_setKey : Ok (Pv.run Φ fu (.setKey i k e) σ g) Q = Ok (ev Φ e σ g) fun v g => ∃ d, σ[i]? = some (some d) ∧ Ok (ev Φ k σ g) fun kv g => ∃ d', setKeyV d kv v = some d' ∧ Q (.nx (σ.set i (some d'))) g := by
  conv => lhs; unfold Pv.run
  simp only [Ok_bind, Ok_ok, Ok_slot, Ok_lift]
@[simp] theorem Ok_app : Ok (Pv.run Φ fu (.app i e) σ g) Q = ∃ x, σ[i]? = some (some x) ∧ Ok (ev Φ e σ g) fun v g => ∃ d, σ[i]? = some (some d) ∧ ∃ d', appV d v = some d' ∧ Q (.nx (σ.set i (some d'))) g := by
  conv => lhs; unfold Pv.run
  simp only [Ok_bind, Ok_ok, Ok_slot, Ok_lift]
@[simp] theorem Ok_ext : Ok (Pv.run Φ fu (.ext i e) σ g) Q = ∃ x, σ[i]? = some (some x) ∧ Ok (ev Φ e σ g) fun v g => ∃ d, σ[i]? = some (some d) ∧ ∃ d', extV d v = some d' ∧ Q (.nx (σ.set i (some d'))) g := by
  conv => lhs; unfold Pv.run
  simp only [Ok_bind, Ok_ok, Ok_slot, Ok_lift]
@[simp] theorem Ok_augIx {op : Bop} : Ok (Pv.run Φ fu (.augIx i op k e) σ g) Q = ∃ d, σ[i]? = some (some d) ∧ Ok (ev Φ k σ g) fun kv g => ∃ old, idxV d kv = some old ∧ Ok (ev Φ e σ g) fun y g => ∃ z, augV op old y = some z ∧ ∃ d', setIxV d kv z = some d' ∧ Q (.nx (σ.set i (some d'))) g := by
  conv => lhs; unfold Pv.run
  simp only [Ok_bind, Ok_lift, Ok_ok, Ok_slot]
@[simp] theorem Ok_popS : Ok (Pv.run Φ fu (.popS i) σ g) Q = ∃ d, σ[i]? = some (some d) ∧ ∃ d', popV d = some d' ∧ Q (.nx (σ.set i (some d'))) g := by
  conv => lhs; unfold Pv.run
  simp only [Ok_bind, Ok_lift, Ok_ok, Ok_slot]
@[simp] theorem Ok_popX {j : Nat} : Ok (Pv.run Φ fu (.popX j i) σ g) Q = ∃ d, σ[i]? = some (some d) ∧ ∃ p, popD d = some p ∧ Q (.nx ((σ.set i (some p.2)).set j (some p.1))) g := by
  conv => lhs; unfold Pv.run
  simp only [Ok_bind, Ok_lift, Ok_ok, Ok_slot]
@[simp] theorem Ok_popI {j : Nat} : Ok (Pv.run Φ fu (.popI j i e) σ g) Q = ∃ x, σ[i]? = some (some x) ∧ Ok (ev Φ e σ g) fun v g => ∃ d, σ[i]? = some (some d) ∧ ∃ p, popAtD d v = some p ∧ Q (.nx ((σ.set i (some p.2)).set j (some p.1))) g := by
  conv => lhs; unfold Pv.run
  simp only [Ok_bind, Ok_lift, Ok_ok, Ok_slot]
@[simp] theorem Ok_setF {c : Nat} {f : Str} : Ok (Pv.run Φ fu (.setF i c f e) σ g) Q = Ok (ev Φ e σ g) fun v g => ∃ d, σ[i]? = some (some d) ∧ ∃ d', setFV c f v d = some d' ∧ Q (.nx (σ.set i (some d'))) g := by
  conv => lhs; unfold Pv.run
  simp only [Ok_bind, Ok_lift, Ok_ok, Ok_slot]
@[simp] theorem Ok_rais {c : Nat} : Ok (Pv.run Φ fu (.rais c as) σ g) Q = Ok (evs Φ as σ g) fun vs g => Q (.ex σ c vs) g := by
  conv => lhs; unfold Pv.run
  simp only [Ok_bind, Ok_ok]
/-- what becomes of a call's answer -/
def endQ (k : Kx) (σ : Sl) (Q : Fl → G → Prop) (v : D) (g : G) : Prop := match k with
  | .ret => Q (.rt v) g
  | .ex => Q (.nx σ) g
  | .set t => ∃ σ', setT t v σ = some σ' ∧ Q (.nx σ') g
@[simp] theorem endQ_ret {v : D} : endQ .ret σ Q v g = Q (.rt v) g := (rfl)
@[simp] theorem endQ_ex {v : D} : endQ .ex σ Q v g = Q (.nx σ) g := (rfl)
@[simp] theorem endQ_set {v : D} {t : List Nat} : endQ (.set t) σ Q v g = ∃ σ', setT t v σ = some σ' ∧ Q (.nx σ') g := (rfl)
theorem Ok_endX {k : Kx} {r : Res D} : Ok (endX k σ r) Q = OkX r (endQ k σ Q) fun c vs g => Q (.ex σ c vs) g := by
  cases r with
  | ok v g => cases k <;> simp [endX]
  | exc c vs g => simp [endX]
  | no => simp [endX]
@[simp] theorem Ok_callX {k : Kx} {f : Nat} : Ok (Pv.run Φ fu (.callX k f as none) σ g) Q = Ok (evs Φ as σ g) fun vs g => OkX (Φ f vs g) (endQ k σ Q) fun c vs g => Q (.ex σ c vs) g := by
  conv => lhs; unfold Pv.run
  simp only [Ok_bind, Ok_endX]
@[simp] theorem Ok_callXK {k : Kx} {f : Nat} {p : List Nat} : Ok (Pv.run Φ fu (.callX k f as (some p)) σ g) Q = Ok (evs Φ as σ g) fun vs g => OkX (Φ f (pm p vs) g) (endQ k σ Q) fun c vs g => Q (.ex σ c vs) g := by
  conv => lhs; unfold Pv.run
  simp only [Ok_bind, Ok_endX]
@[simp] theorem Ok_methX {k : Kx} {c f : Nat} {o : Ex} : Ok (Pv.run Φ fu (.methX k c f o as) σ g) Q = Ok (ev Φ o σ g) fun x g => isOb c x = true ∧ Ok (evs Φ as σ g) fun vs g => OkX (Φ f (x :: vs) g) (endQ k σ Q) fun c vs g => Q (.ex σ c vs) g := by
  conv => lhs; unfold Pv.run
  simp only [Ok_bind]
  congr; funext x g
  by_cases h : isOb c x = true <;> simp [h, Ok_endX]
@[simp] theorem Ok_mkX {k : Kx} {c f : Nat} : Ok (Pv.run Φ fu (.mkX k c f as) σ g) Q = Ok (evs Φ as σ g) fun vs g => g ≠ none ∧ OkX (Φ f (objD c [] :: vs) g) (endQ k σ Q) fun c vs g => Q (.ex σ c vs) g := by
  conv => lhs; unfold Pv.run
  simp only [Ok_bind]
  congr; funext vs g
  cases g <;> simp [Ok_endX]
/-- what a suite leaves -/
def suiF (i : Option Nat) (Q : Fl → G → Prop) : Fl → G → Prop
  | .nx σ, g => Q (.nx (clr i σ)) g
  | .bk σ, g => Q (.bk (clr i σ)) g
  | .ct σ, g => Q (.ct (clr i σ)) g
  | .rt v, g => Q (.rt v) g
  | .ex _ _ _, _ => False
section
variable {i : Option Nat} {Q : Fl → G → Prop} {σ : Sl} {g : G}
@[simp] theorem suiF_nx : suiF i Q (.nx σ) g = Q (.nx (clr i σ)) g := (rfl)
@[simp] theorem suiF_bk : suiF i Q (.bk σ) g = Q (.bk (clr i σ)) g := (rfl)
@[simp] theorem suiF_ct : suiF i Q (.ct σ) g = Q (.ct (clr i σ)) g := (rfl)
@[simp] theorem suiF_rt {v : D} : suiF i Q (.rt v) g = Q (.rt v) g := (rfl)
@[simp] theorem suiF_ex {c : Nat} {vs : List D} : suiF i Q (.ex σ c vs) g = False := (rfl)
end
/-- behind a try's body -/
def tryF (Φ : Fns) (fu : Nat) (sel : Nat → Bool) (h : Nat → List D → Sm) (i : Option Nat) (Q : Fl → G → Prop) : Fl → G → Prop
  | .ex σ c vs, g => if sel c = true then okI i σ = true ∧ Ok (Pv.run Φ fu (h c vs) (clr i σ) g) (suiF i Q) else Q (.ex σ c vs) g
  | fl, g => Q fl g
section
variable {Φ : Fns} {fu : Nat} {sel : Nat → Bool} {h : Nat → List D → Sm} {i : Option Nat} {Q : Fl → G → Prop} {σ : Sl} {g : G}
@[simp] theorem tryF_ex {c : Nat} {vs : List D} : tryF Φ fu sel h i Q (.ex σ c vs) g = if sel c = true then okI i σ = true ∧ Ok (Pv.run Φ fu (h c vs) (clr i σ) g) (suiF i Q) else Q (.ex σ c vs) g := (rfl)
@[simp] theorem tryF_nx : tryF Φ fu sel h i Q (.nx σ) g = Q (.nx σ) g := (rfl)
@[simp] theorem tryF_bk : tryF Φ fu sel h i Q (.bk σ) g = Q (.bk σ) g := (rfl)
@[simp] theorem tryF_ct : tryF Φ fu sel h i Q (.ct σ) g = Q (.ct σ) g := (rfl)
@[simp] theorem tryF_rt {v : D} : tryF Φ fu sel h i Q (.rt v) g = Q (.rt v) g := (rfl)
end
theorem Ok_clrF {i : Option Nat} {fl : Fl} : Ok (clrF i fl g) Q = suiF i Q fl g := by
  cases fl <;> simp [clrF]
theorem Ok_try {sel : Nat → Bool} {h : Nat → List D → Sm} {i : Option Nat} : Ok (Pv.run Φ fu (.try_ b sel h i) σ g) Q = Ok (Pv.run Φ fu b σ g) (tryF Φ fu sel h i Q) := by
  conv => lhs; unfold Pv.run
  simp only [Ok_bind]
  congr; funext fl g
  cases fl with
  | ex σ c vs =>
    simp only [tryF_ex]
    by_cases h1 : sel c = true
    · rw [if_pos h1, if_pos h1]
      by_cases h2 : okI i σ = true
      · rw [if_pos h2, Ok_bind]
        simp only [h2, true_and, Ok_clrF]
      · rw [if_neg h2]
        simp [h2]
    · rw [if_neg h1, if_neg h1, Ok_ok]
  | _ => simp
@[simp] theorem Ok_xf {xt : List (Option Str)} {c : Nat} {vs : List D} {f : Str} {Q : D → G → Prop} : Ok (ev Φ (xfE xt c vs f) σ g) Q = (xt[c]? = some (some f) ∧ Q (vs.getD 0 .none) g) := by
  unfold xfE
  by_cases h : xt[c]? = some (some f)
  · rw [if_pos h]; simp [h]
  · rw [if_neg h]; simp [h, idxV]
@[simp] theorem Ok_xi {bt : List Bool} {c : Nat} {Q : D → G → Prop} : Ok (ev Φ (xiE bt c) σ g) Q = Q (.bool (bt.getD c false)) g := by
  unfold xiE; simp
@[simp] theorem Ok_bad : Ok (Pv.run Φ fu .bad σ g) Q = False := by
  conv => lhs; unfold Pv.run
  exact Ok_no
@[simp] theorem Ok_setd : Ok (Pv.run Φ fu (.setd i k e) σ g) Q = ∃ d, σ[i]? = some (some d) ∧ Ok (ev Φ k σ g) fun kv g => Ok (ev Φ e σ g) fun v g => ∃ d', setdV d kv v = some d' ∧ Q (.nx (σ.set i (some d'))) g := by
  conv => lhs; unfold Pv.run
  simp only [Ok_bind, Ok_ok, Ok_slot, Ok_lift]
@[simp] theorem Ok_sif {a : Sm} : Ok (Pv.run Φ fu (.ite t a b) σ g) Q = Ok (ev Φ t σ g) fun x g => ∃ k : Bool, x = .bool k ∧ if k = true then Ok (Pv.run Φ fu a σ g) Q else Ok (Pv.run Φ fu b σ g) Q := by
  conv => lhs; unfold Pv.run
  simp only [Ok_bind]
  congr; funext x g
  cases x with
  | bool k => cases k <;> simp
  | _ => simp
@[simp] theorem Ok_ret : Ok (Pv.run Φ fu (.ret e) σ g) Q = Ok (ev Φ e σ g) fun v g => Q (.rt v) g := by
  conv => lhs; unfold Pv.run
  simp only [Ok_bind, Ok_ok]
@[simp] theorem Ok_brk : Ok (Pv.run Φ fu .brk σ g) Q = Q (.bk σ) g := Ok_ok
@[simp] theorem Ok_cnt : Ok (Pv.run Φ fu .cnt σ g) Q = Q (.ct σ) g := Ok_ok
@[simp] theorem Ok_sex : Ok (Pv.run Φ fu (.ex e) σ g) Q = Ok (ev Φ e σ g) fun _ g => Q (.nx σ) g := by
  conv => lhs; unfold Pv.run
  simp only [Ok_bind, Ok_ok]
/-- one turn of a loop -/
def turnF (Φ : Fns) (fu : Nat) (t : List Nat) (b : Sm) (x : D) (σ : Sl) (g : G) : Res Fl := (lift (setT t x σ) g).bind fun σ g => Pv.run Φ fu b σ g
@[simp] theorem Ok_turnF {t : List Nat} {x : D} : Ok (turnF Φ fu t b x σ g) Q = ∃ σ', setT t x σ = some σ' ∧ Ok (Pv.run Φ fu b σ' g) Q := by
  unfold turnF
  simp only [Ok_bind, Ok_lift]
theorem Ok_for {t : List Nat} {k : Ik} : Ok (Pv.run Φ fu (.forr t k as b) σ g) Q = Ok (evs Φ as σ g) fun vs g => ∃ xs, itV k vs = some xs ∧ Ok (forL (turnF Φ fu t b) xs σ g) Q := by
  conv => lhs; unfold Pv.run
  simp only [Ok_bind, Ok_lift]; rfl
theorem Ok_grp {t n x : Nat} {k : Ik} {ik ie : Ex} : Ok (Pv.run Φ fu (.grp t n x k as ik ie) σ g) Q = Ok (evs Φ as σ g) fun vs g => ∃ xs, itV k vs = some xs ∧ (noneAt σ n = true ∧ x < σ.length) ∧
    Ok (grpL (fun y g => (ev Φ ik (((σ.set n none).set x none).set t (some y)) g).bind fun kv g => (ev Φ ie (((σ.set n none).set x none).set t (some y)) g).bind fun v g => .ok (kv, v) g) xs [] g) fun kvs g => Q (.nx ((((σ.set n none).set x none).set t none).set n (some (.dict kvs)))) g := by
  conv => lhs; unfold Pv.run
  simp only [Ok_bind, Ok_lift]
  congr; funext vs g
  apply propext
  constructor
  · rintro ⟨xs, e, h⟩
    refine ⟨xs, e, ?_⟩
    by_cases hc : (noneAt σ n && decide (x < σ.length)) = true
    · rw [if_pos hc] at h
      simp only [Bool.and_eq_true, decide_eq_true_eq] at hc
      simp only [Ok_bind, Ok_ok] at h
      exact ⟨hc, h⟩
    · rw [if_neg hc] at h
      simp at h
  · rintro ⟨xs, e, hc, h⟩
    refine ⟨xs, e, ?_⟩
    rw [if_pos (by simpa using hc)]
    simp only [Ok_bind, Ok_ok]
    exact h
theorem Ok_while : Ok (Pv.run Φ fu (.whil t b) σ g) Q = Ok (whileL (fun σ g => ev Φ t σ g) (fun σ g => Pv.run Φ fu b σ g) fu σ g) Q := by
  conv => lhs; unfold Pv.run
end
/-! ### loops -/
/-- a dict of lists made in a loop -/
theorem ok_grpL {f : D → G → Res (D × D)} {Q : List (D × D) → G → Prop} (I : Nat → List (D × D) → G → Prop) : ∀ {xs : List D} {acc : List (D × D)} {g : G}, I 0 acc g → (∀ k y acc g, xs[k]? = some y → I k acc g → Ok (f y g) fun kv g' => ∃ acc', buckV acc kv.1 kv.2 = some acc' ∧ I (k + 1) acc' g') → (∀ acc g, I xs.length acc g → Q acc g) → Ok (grpL f xs acc g) Q := by
  intro xs
  induction xs generalizing I with
  | nil => exact fun h0 _ h2 => ⟨_, _, rfl, h2 _ _ h0⟩
  | cons y xs ih =>
    intro acc g h0 h1 h2
    unfold grpL
    rw [Ok_bind]
    refine (h1 0 y acc g rfl h0).mono ?_
    rintro kv g' ⟨acc', e, i⟩
    rw [Ok_bind, Ok_lift]
    exact ⟨acc', e, ih (fun k => I (k + 1)) i (fun k y acc g hx hi => h1 (k + 1) y acc g (by simpa using hx) hi) fun acc g hi => h2 acc g (by simpa using hi)⟩
/-- a loop over items: the invariant knows how many are behind -/
theorem ok_forL {f : D → Sl → G → Res Fl} {Q : Fl → G → Prop} (I : Nat → Sl → G → Prop) : ∀ {xs : List D} {σ : Sl} {g : G}, I 0 σ g → (∀ k x σ g, xs[k]? = some x → I k σ g → Ok (f x σ g) (loopF (I (k + 1)) Q)) → (∀ σ g, I xs.length σ g → Q (.nx σ) g) → Ok (forL f xs σ g) Q := by
  intro xs
  induction xs generalizing I with
  | nil => exact fun h0 _ h2 => ⟨_, _, rfl, h2 _ _ h0⟩
  | cons x xs ih =>
    intro σ g h0 h1 h2
    show Ok ((f x σ g).bind _) Q
    rw [Ok_bind]
    refine (h1 0 x σ g rfl h0).mono fun fl g h => ?_
    cases fl with
    | nx σ => exact ih (fun k => I (k + 1)) h (fun k y σ g hy hi => h1 (k + 1) y σ g (by rw [List.getElem?_cons_succ]; exact hy) hi) h2
    | ct σ => exact ih (fun k => I (k + 1)) h (fun k y σ g hy hi => h1 (k + 1) y σ g (by rw [List.getElem?_cons_succ]; exact hy) hi) h2
    | bk σ => exact ⟨_, _, rfl, h⟩
    | rt v => exact ⟨_, _, rfl, h⟩
    | ex σ c vs => exact ⟨_, _, rfl, h⟩
/-- a loop with a test: the invariant knows a measure -/
theorem ok_whileL {c : Sl → G → Res D} {b : Sl → G → Res Fl} {Q : Fl → G → Prop} (I : Nat → Sl → G → Prop)
    (h : ∀ m σ g, I m σ g → Ok (c σ g) fun v g => ∃ k : Bool, v = .bool k ∧ if k = true then Ok (b σ g) (loopF (fun σ g => ∃ m', m' < m ∧ I m' σ g) Q) else Q (.nx σ) g) :
    ∀ (n m : Nat) {σ : Sl} {g : G}, m < n → I m σ g → Ok (whileL c b n σ g) Q := by
  intro n
  induction n with
  | zero => exact fun m _ _ h _ => absurd h (Nat.not_lt_zero _)
  | succ n ih =>
    intro m σ g hm hI
    show Ok ((c σ g).bind _) Q
    rw [Ok_bind]
    refine (h m σ g hI).mono ?_
    rintro _ g1 ⟨k, rfl, h1⟩
    cases k with
    | false => simpa using h1
    | true =>
      rw [if_pos rfl] at h1
      show Ok ((b σ g1).bind _) Q
      rw [Ok_bind]
      refine h1.mono fun fl g2 h2 => ?_
      cases fl with
      | nx σ =>
        obtain ⟨m', h3, h4⟩ := h2
        exact ih m' (by omega) h4
      | ct σ =>
        obtain ⟨m', h3, h4⟩ := h2
        exact ih m' (by omega) h4
      | bk σ => exact ⟨_, _, rfl, h2⟩
      | rt v => exact ⟨_, _, rfl, h2⟩
      | ex σ c vs => exact ⟨_, _, rfl, h2⟩
/-- a comprehension: every item is shown, the deck may change -/
theorem ok_compL {f : D → G → Res (Option D)} {Q : List D → G → Prop} (I : Nat → List D → G → Prop) : ∀ {xs acc : List D} {g : G}, I 0 acc.reverse g → (∀ k x ys g, xs[k]? = some x → I k ys g → Ok (f x g) fun o g => I (k + 1) (ys ++ o.toList) g) → (∀ ys g, I xs.length ys g → Q ys g) → Ok (compL f xs acc g) Q := by
  intro xs
  induction xs generalizing I with
  | nil => exact fun h0 _ h2 => ⟨_, _, rfl, h2 _ _ h0⟩
  | cons x xs ih =>
    intro acc g h0 h1 h2
    show Ok ((f x g).bind _) Q
    rw [Ok_bind]
    refine (h1 0 x _ g rfl h0).mono fun o g h => ?_
    cases o with
    | none => exact ih (fun k => I (k + 1)) (by simpa using h) (fun k y ys g hy hi => h1 (k + 1) y ys g (by rw [List.getElem?_cons_succ]; exact hy) hi) h2
    | some y => exact ih (fun k => I (k + 1)) (acc := y :: acc) (by simpa using h) (fun k y ys g hy hi => h1 (k + 1) y ys g (by rw [List.getElem?_cons_succ]; exact hy) hi) h2
/-- .. items that leave the deck alone -/
theorem ok_compM {α β : Type} {em : α → D} {eo : β → D} {f : D → G → Res (Option D)} {u : α → Option β} {xs : List α} {g : G} {Q : List D → G → Prop} (h : ∀ x ∈ xs, Ok (f (em x) g) fun o g' => o = (u x).map eo ∧ g' = g) (q : Q ((xs.filterMap u).map eo) g) : Ok (compL f (xs.map em) [] g) Q := by
  rw [compL_eq (em := em) (eo := eo) (u := u) (acc := []) fun x hx => (h x hx).eq]
  exact ⟨_, _, rfl, q⟩
/-! ### values -/
section
variable {i j : Int}
@[simp] theorem binV_add : binV .add (.int i) (.int j) = some (.int (i + j)) := (rfl)
@[simp] theorem binV_sub : binV .sub (.int i) (.int j) = some (.int (i - j)) := (rfl)
@[simp] theorem binV_mul : binV .mul (.int i) (.int j) = if mulOk i j then some (.int (i * j)) else none := (rfl)
@[simp] theorem binV_mod : binV .mod (.int i) (.int j) = if 0 < j then some (.int (i % j)) else none := by simp [binV]
@[simp] theorem binV_fdiv : binV .fdiv (.int i) (.int j) = if 0 < j ∧ j.natAbs.log2 < 9000 then some (.int (i / j)) else if j < 0 ∧ j.natAbs.log2 < 9000 then some (.int (i.fdiv j)) else none := by simp [binV]
@[simp] theorem binV_pow : binV .pow (.int i) (.int j) = if powOk i j then some (.int (i ^ j.toNat)) else none := (rfl)
@[simp] theorem cmpV_eq : cmpV .eq (.int i) (.int j) = some (decide (i = j)) := (rfl)
@[simp] theorem cmpV_ne : cmpV .ne (.int i) (.int j) = some (!decide (i = j)) := (rfl)
@[simp] theorem cmpV_lt : cmpV .lt (.int i) (.int j) = some (decide (i < j)) := (rfl)
@[simp] theorem cmpV_gt : cmpV .gt (.int i) (.int j) = some (decide (j < i)) := (rfl)
@[simp] theorem cmpV_le : cmpV .le (.int i) (.int j) = some (decide (i ≤ j)) := (rfl)
@[simp] theorem cmpV_ge : cmpV .ge (.int i) (.int j) = some (decide (j ≤ i)) := (rfl)
@[simp] theorem truV_int : truV (.int i) = some (i != 0) := (rfl)
@[simp] theorem truV_bool {b : Bool} : truV (.bool b) = some b := (rfl)
@[simp] theorem truV_none : truV .none = some false := (rfl)
@[simp] theorem augV_add : augV .add (.int i) (.int j) = some (.int (i + j)) := (rfl)
@[simp] theorem augV_sub : augV .sub (.int i) (.int j) = some (.int (i - j)) := (rfl)
@[simp] theorem biV_toInt : biV .toInt [.int i] = some (.int i) := (rfl)
@[simp] theorem biV_abs : biV .abs [.int i] = some (.int (if i < 0 then -i else i)) := (rfl)
@[simp] theorem biV_min : biV .min2 [.int i, .int j] = some (.int (if j < i then j else i)) := (rfl)
@[simp] theorem biV_max : biV .max2 [.int i, .int j] = some (.int (if i < j then j else i)) := (rfl)
@[simp] theorem biV_len {xs : List D} : biV .len [.list xs] = some (.int xs.length) := (rfl)
@[simp] theorem biV_lenT {xs : List D} : biV .len [.tuple xs] = some (.int xs.length) := (rfl)
@[simp] theorem biV_tup {xs : List D} : biV .toTuple [.list xs] = some (.tuple xs) := (rfl)
@[simp] theorem biV_tupT {xs : List D} : biV .toTuple [.tuple xs] = some (.tuple xs) := (rfl)
@[simp] theorem biV_lst {xs : List D} : biV .toList [.list xs] = some (.list xs) := (rfl)
@[simp] theorem biV_lstT {xs : List D} : biV .toList [.tuple xs] = some (.list xs) := (rfl)
@[simp] theorem setT_1 {k : Nat} {v : D} {σ : Sl} : setT [k] v σ = some (σ.set k (some v)) := (rfl)
@[simp] theorem setT_2 {k l : Nat} {v w : D} {σ : Sl} : setT [k, l] (.tuple [v, w]) σ = some ((σ.set k (some v)).set l (some w)) := (rfl)
@[simp] theorem setT_3 {k l m : Nat} {v w x : D} {σ : Sl} : setT [k, l, m] (.tuple [v, w, x]) σ = some (((σ.set k (some v)).set l (some w)).set m (some x)) := (rfl)
@[simp] theorem setT_2l {k l : Nat} {v w : D} {σ : Sl} : setT [k, l] (.list [v, w]) σ = some ((σ.set k (some v)).set l (some w)) := (rfl)
@[simp] theorem setT_3l {k l m : Nat} {v w x : D} {σ : Sl} : setT [k, l, m] (.list [v, w, x]) σ = some (((σ.set k (some v)).set l (some w)).set m (some x)) := (rfl)
@[simp] theorem setT_4 {k l m n : Nat} {v w x y : D} {σ : Sl} : setT [k, l, m, n] (.tuple [v, w, x, y]) σ = some ((((σ.set k (some v)).set l (some w)).set m (some x)).set n (some y)) := (rfl)
@[simp] theorem mulOk_l' (h : i.natAbs < 18446744073709551616) : mulOk i j = true := by
  unfold mulOk
  rw [decide_eq_true h, Bool.true_or, Bool.true_or]
@[simp] theorem mulOk_r' (h : j.natAbs < 18446744073709551616) : mulOk i j = true := by
  unfold mulOk
  rw [decide_eq_true h, Bool.or_true, Bool.true_or]
end
theorem idx_list {xs : List D} {n : Nat} {x : D} (h : xs[n]? = some x) : idxV (.list xs) (.int n) = some x := L2.atI_nat h
theorem idx_tuple {xs : List D} {n : Nat} {x : D} (h : xs[n]? = some x) : idxV (.tuple xs) (.int n) = some x := L2.atI_nat h
end Pv
end

section
/-! PvU: sizes of ints, common divisors, the decks and draws of another family, forms as values. -/
set_option autoImplicit false
namespace Pv
open PySem

/-! ### sizes -/
def Sz (k : Nat) (i : Int) : Prop := i.natAbs < 2 ^ k
theorem Sz.mono {k l : Nat} {i : Int} (h : Sz k i) (hl : k ≤ l) : Sz l i := Nat.lt_of_lt_of_le h (Nat.pow_le_pow_right (by omega) hl)
theorem Sz.mul {k l : Nat} {i j : Int} (h : Sz k i) (h2 : Sz l j) : Sz (k + l) (i * j) := by
  unfold Sz at *
  rw [Int.natAbs_mul, Nat.pow_add]
  exact Nat.mul_lt_mul'' h h2
theorem Sz.add {k l : Nat} {i j : Int} (h : Sz k i) (h2 : Sz l j) : Sz (max k l + 1) (i + j) := by
  have h := h.mono (Nat.le_max_left k l)
  have h2 := h2.mono (Nat.le_max_right k l)
  unfold Sz at *
  rw [Nat.pow_succ]
  omega
theorem Sz.sub {k l : Nat} {i j : Int} (h : Sz k i) (h2 : Sz l j) : Sz (max k l + 1) (i - j) := by
  have h := h.mono (Nat.le_max_left k l)
  have h2 := h2.mono (Nat.le_max_right k l)
  unfold Sz at *
  rw [Nat.pow_succ]
  omega
theorem Sz.neg {k : Nat} {i : Int} (h : Sz k i) : Sz k (-i) := by unfold Sz at *; omega
theorem Sz.log {k : Nat} {i : Int} (h : Sz k i) : i.natAbs.log2 ≤ k := by
  unfold Sz at h
  by_cases z : i.natAbs = 0
  · rw [z]; exact Nat.zero_le _
  · exact Nat.le_of_lt ((Nat.log2_lt z).mpr h)
theorem mulOk_sz {k l : Nat} {i j : Int} (h : Sz k i) (h2 : Sz l j) (hk : k + l < 1000000) : mulOk i j = true := by
  have := h.log
  have := h2.log
  unfold mulOk
  rw [decide_eq_true (show i.natAbs.log2 + j.natAbs.log2 < 1000000 by omega), Bool.or_true]
theorem mulOk_1 {i j : Int} (h1 : -18446744073709551616 < i) (h2 : i < 18446744073709551616) : mulOk i j = true := mulOk_l (by omega)
theorem mulOk_2 {i j : Int} (h1 : -18446744073709551616 < j) (h2 : j < 18446744073709551616) : mulOk i j = true := mulOk_r (by omega)

/-! ### Euclid -/
/-- a step of Euclid on numbers that are not negative -/
def euOk (n : Nat) (a b : Int) : Prop := 0 ≤ b ∧ b ≤ a ∧ a * b < 2 ^ n
theorem euOk.next {n : Nat} {a b : Int} (h : euOk n a b) (hb : b ≠ 0) : ∃ m, n = m + 1 ∧ euOk m b (a % b) := by
  obtain ⟨h0, h1, h2⟩ := h
  have b0 : 0 < b := by omega
  have r0 := Int.emod_nonneg a hb
  have r1 := Int.emod_lt_of_pos a b0
  have e := Int.emod_add_mul_ediv a b
  have q1 : 1 ≤ a / b := (Int.le_ediv_iff_mul_le b0).mpr (by omega)
  have q2 : b * 1 ≤ b * (a / b) := Int.mul_le_mul_of_nonneg_left q1 h0
  have a2 : 2 * (a % b) ≤ a := by omega
  have p1 : b * (2 * (a % b)) ≤ b * a := Int.mul_le_mul_of_nonneg_left a2 h0
  have p2 : b * (2 * (a % b)) = 2 * (b * (a % b)) := by grind
  have p3 : b * a = a * b := Int.mul_comm _ _
  cases n with
  | zero =>
    have : 0 < a * b := Int.mul_pos (by omega) b0
    simp at h2
    omega
  | succ m =>
    refine ⟨m, rfl, r0, by omega, ?_⟩
    have e2 : (2 : Int) ^ (m + 1) = 2 ^ m * 2 := Int.pow_succ ..
    omega
theorem euOk.start {k l : Nat} {a b : Int} (ha : 0 ≤ a) (hb : 0 ≤ b) (h : Sz k a) (h2 : Sz l b) (hab : b ≤ a) : euOk (k + l) a b := by
  refine ⟨hb, hab, ?_⟩
  have := h.mul h2
  unfold Sz at this
  have p : 0 ≤ a * b := Int.mul_nonneg ha hb
  have e : ((2 ^ (k + l) : Nat) : Int) = 2 ^ (k + l) := by norm_cast
  omega
theorem gcd_step {a b : Int} (hb : 0 ≤ b) : Int.gcd b (a % b) = Int.gcd a b := by
  rw [Int.gcd_comm a b]
  rcases Int.lt_or_eq_of_le hb with h | h
  · rw [Int.emod_def, Int.gcd_comm b, Int.gcd_comm b]
    have : a - b * (a / b) = a + b * (-(a / b)) := by grind
    rw [this, Int.gcd_add_mul_left_left]
  · rw [← h, Int.emod_zero]
theorem abs_ite (a : Int) : (if a < 0 then -a else a) = (a.natAbs : Int) := by split <;> omega

/-! ### forms as values -/
abbrev Fm := Int × Int × Int
def fL (f : Fm) : List Int := [f.1, f.2.1, f.2.2]
def fD (f : Fm) : D := .tuple [.int f.1, .int f.2.1, .int f.2.2]
theorem tupD_f (f : Fm) : tupD (fL f) = fD f := rfl
/-- items drawn by a pick -/
theorem atI_nn {α : Type} {xs : List α} {i : Int} {x : α} (h0 : 0 ≤ i) (h : xs[i.toNat]? = some x) : L2.atI xs i = some x := by
  have e : i = (i.toNat : Int) := by omega
  rw [e]; exact L2.atI_nat h
theorem idx_t {xs : List D} {i : Int} (h0 : 0 ≤ i) (h1 : i < xs.length) : ∃ x, x ∈ xs ∧ idxV (.tuple xs) (.int i) = some x := by
  have h : i.toNat < xs.length := by omega
  exact ⟨xs[i.toNat], List.getElem_mem h, atI_nn h0 (List.getElem?_eq_getElem h)⟩
theorem idx_l {xs : List D} {i : Int} (h0 : 0 ≤ i) (h1 : i < xs.length) : ∃ x, x ∈ xs ∧ idxV (.list xs) (.int i) = some x := by
  have h : i.toNat < xs.length := by omega
  exact ⟨xs[i.toNat], List.getElem_mem h, atI_nn h0 (List.getElem?_eq_getElem h)⟩
end Pv
end

section
/-! PvX: decks, by steps. -/
set_option autoImplicit false
namespace Pv
open PySem
section
variable {Φ : Fns} {fu : Nat} {σ : Sl} {g : G} {Q : D → G → Prop} {a b c e : Ex} {as : Exs}
@[simp] theorem Ok_dkGet {t : Bool} : Ok (ev Φ (.dkGet t a) σ g) Q = Ok (ev Φ a σ g) fun x g => ∃ z, dkGetV t x g = some z ∧ Q z g := by
  conv => lhs; unfold ev
  simp only [Ok_bind, Ok_lift]
@[simp] theorem Ok_dkHas : Ok (ev Φ (.dkHas a) σ g) Q = Ok (ev Φ a σ g) fun x g => ∃ z, dkHasV x g = some z ∧ Q z g := by
  conv => lhs; unfold ev
  simp only [Ok_bind, Ok_lift]
@[simp] theorem Ok_dkPop : Ok (ev Φ (.dkPop a) σ g) Q = Ok (ev Φ a σ g) fun x g => Ok (dkPopV x g) Q := by
  conv => lhs; unfold ev
  simp only [Ok_bind]
@[simp] theorem Ok_dkPush : Ok (ev Φ (.dkPush a e) σ g) Q = Ok (ev Φ a σ g) fun x g => ∃ st, g = some st ∧ Ok (ev Φ e σ g) fun v g => Ok (dkPushV x v g) Q := by
  conv => lhs; unfold ev
  simp only [Ok_bind]
  congr; funext x g
  cases g <;> simp
@[simp] theorem Ok_dkNew : Ok (ev Φ (.dkNew a b c) σ g) Q = Ok (ev Φ a σ g) fun x g => Ok (ev Φ b σ g) fun y g => Ok (ev Φ c σ g) fun z g => Ok (dkNewV x y z g) Q := by
  conv => lhs; unfold ev
  simp only [Ok_bind]
@[simp] theorem Ok_dkNew2 : Ok (ev Φ (.dkNew2 a b) σ g) Q = Ok (ev Φ a σ g) fun x g => Ok (ev Φ b σ g) fun y g => Ok (dkNewV x y (.int 0) g) Q := by
  conv => lhs; unfold ev
  simp only [Ok_bind]
@[simp] theorem Ok_scr {ns : List Int} {n : Nat} : Ok (ev Φ (.scr a ns n) σ g) Q = Ok (ev Φ a σ g) fun x g => isTok 1 x = true ∧ Q (.list ((ns.take n).map .int)) g := by
  conv => lhs; unfold ev
  simp only [Ok_bind]
  congr; funext x g
  by_cases h : isTok 1 x = true <;> simp [h]
@[simp] theorem Ok_dkSet {t : Bool} {Q : Fl → G → Prop} : Ok (Pv.run Φ fu (.dkSet t a e) σ g) Q = Ok (ev Φ e σ g) fun v g => Ok (ev Φ a σ g) fun x g => ∃ g', dkSetV t x v g = some g' ∧ Q (.nx σ) g' := by
  conv => lhs; unfold Pv.run
  simp only [Ok_bind, Ok_lift, Ok_ok]
end
section
variable {st : Dk} {n : Int} {Q : D → G → Prop}
@[simp] theorem dkGet_t : dkGetV true (tokD 0) (some st) = some (.int st.turn) := (rfl)
@[simp] theorem dkGet_f : dkGetV false (tokD 0) (some st) = some (.int st.mixed) := (rfl)
@[simp] theorem dkHas_e : dkHasV (tokD 0) (some st) = some (.bool (!st.cells.isEmpty)) := (rfl)
@[simp] theorem dkSet_t {c : Int} : dkSetV true (tokD 0) (.int c) (some st) = some (some { st with turn := c }) := (rfl)
@[simp] theorem dkSet_f {c : Int} : dkSetV false (tokD 0) (.int c) (some st) = some (some { st with mixed := c }) := (rfl)
theorem dkPop_c {xs : List Int} {c m t : Int} : Ok (dkPopV (tokD 0) (some ⟨xs ++ [c], m, t⟩)) Q = Q (.int c) (some ⟨xs, m, t⟩) := by
  unfold dkPopV
  simp
theorem dkPush_c {c : Int} (h : st.cells.length < lineN) : Ok (dkPushV (tokD 0) (.int c) (some st)) Q = Q .none (some { st with cells := st.cells ++ [c] }) := by
  unfold dkPushV
  simp [h]
theorem dkNew_c {xs : List D} {ns : List Int} {m t : Int} (h : intsOf xs = some ns) : Ok (dkNewV (.list xs) (.int m) (.int t) none) Q = Q (tokD 0) (some ⟨ns, m, t⟩) := by
  unfold dkNewV
  simp [h]
end
@[simp] theorem lg2 : Nat.log2 2 < 9000 := by decide
@[simp] theorem lg4 : Nat.log2 4 < 9000 := by decide
@[simp] theorem lg64 : Nat.log2 64 < 9000 := by decide
/-- a function's value from its body's -/
theorem Ok_F {T : List Fn} {d f np nl : Nat} {body : Sm} {as : List D} {σ : Sl} {g : G} {Q : D → G → Prop} (hb : Ok (Pv.run (FT T (fun _ => none) d) fuel body σ g) (retF Q))
    (h : T[f]? = some ⟨np, nl, body⟩ := by rfl) (hl : as.length = np := by rfl) (hσ : as.map some ++ List.replicate (nl - np) none = σ := by rfl) : Ok (FT T (fun _ => none) (d + 1) f as g) Q := by
  subst hσ
  exact Ok_FT h hl hb
theorem OkX_F {T : List Fn} {d f np nl : Nat} {body : Sm} {as : List D} {σ : Sl} {g : G} {Q : D → G → Prop} {E : Nat → List D → G → Prop} (hb : Ok (Pv.run (FT T (fun _ => none) d) fuel body σ g) (retX Q E))
    (h : T[f]? = some ⟨np, nl, body⟩ := by rfl) (hl : as.length = np := by rfl) (hσ : as.map some ++ List.replicate (nl - np) none = σ := by rfl) : OkX (FT T (fun _ => none) (d + 1) f as g) Q E := by
  subst hσ
  exact OkX_FT h hl hb
theorem OkX.exc {r : Res D} {c : Nat} {vs : List D} {g : G} (h : OkX r (fun _ _ => False) fun c' vs' g' => c' = c ∧ vs' = vs ∧ g' = g) : r = .exc c vs g := by
  rcases h with ⟨_, _, _, q⟩ | ⟨_, _, _, e, rfl, rfl, rfl⟩
  · exact q.elim
  · exact e
/-- a deck after at most so many draws -/
def DkOk (n : Nat) (g : G) : Prop := ∃ st : Dk, g = some st ∧ st.cells.length ≤ 63 ∧ 0 ≤ st.turn ∧ st.turn ≤ n
theorem DkOk.mono {n m : Nat} {g : G} (h : DkOk n g) (l : n ≤ m) : DkOk m g := by
  obtain ⟨st, e, h1, h2, h3⟩ := h
  exact ⟨st, e, h1, h2, by omega⟩
theorem snoc_of {α : Type} : ∀ {xs : List α}, xs ≠ [] → ∃ ys y, xs = ys ++ [y]
  | [], h => absurd rfl h
  | [x], _ => ⟨[], x, rfl⟩
  | x :: y :: xs, _ => by
    obtain ⟨ys, z, e⟩ := snoc_of (xs := y :: xs) (List.cons_ne_nil _ _)
    exact ⟨x :: ys, z, by rw [e]; rfl⟩
end Pv
end

section
/-! PqA: polynomials as lists of ints: products, congruence by a number, remainders. -/
set_option autoImplicit false
namespace Pv
open PySem
abbrev Po := List Int
def cf (f : Po) (i : Nat) : Int := f.getD i 0
def addL : Po → Po → Po
  | [], g => g
  | f, [] => f
  | a :: f, b :: g => (a + b) :: addL f g
def smulL (a : Int) (f : Po) : Po := f.map fun x => a * x
def mulL : Po → Po → Po
  | [], _ => []
  | a :: f, g => addL (smulL a g) (0 :: mulL f g)
@[simp] theorem cf_nil (i : Nat) : cf [] i = 0 := by simp [cf]
@[simp] theorem cf_zero (a : Int) (f : Po) : cf (a :: f) 0 = a := by simp [cf]
@[simp] theorem cf_succ (a : Int) (f : Po) (i : Nat) : cf (a :: f) (i + 1) = cf f i := by simp [cf]
theorem cf_len {f : Po} {i : Nat} (h : f.length ≤ i) : cf f i = 0 := by
  unfold cf
  rw [List.getD_eq_getElem?_getD, List.getElem?_eq_none h]; rfl
@[simp] theorem cf_add : ∀ (f g : Po) (i : Nat), cf (addL f g) i = cf f i + cf g i
  | [], g, i => by simp [addL]
  | a :: f, [], i => by simp [addL]
  | a :: f, b :: g, 0 => by simp [addL]
  | a :: f, b :: g, i + 1 => by simp [addL, cf_add f g i]
@[simp] theorem cf_smul (a : Int) : ∀ (f : Po) (i : Nat), cf (smulL a f) i = a * cf f i
  | [], i => by simp [smulL]
  | b :: f, 0 => by simp [smulL]
  | b :: f, i + 1 => by
    have := cf_smul a f i
    unfold smulL at this
    simp [smulL, this]
/-- what a shift holds -/
def sh (u : Nat → Int) : Nat → Int
  | 0 => 0
  | i + 1 => u i
theorem cf_mulc (a : Int) (f g : Po) (i : Nat) : cf (mulL (a :: f) g) i = a * cf g i + sh (cf (mulL f g)) i := by
  show cf (addL (smulL a g) (0 :: mulL f g)) i = _
  rw [cf_add, cf_smul]
  cases i <;> simp [sh]
theorem sh_add (u v : Nat → Int) (i : Nat) : sh (fun j => u j + v j) i = sh u i + sh v i := by cases i <;> simp [sh]
theorem sh_smul (a : Int) (u : Nat → Int) (i : Nat) : sh (fun j => a * u j) i = a * sh u i := by cases i <;> simp [sh]
theorem sh_congr {u v : Nat → Int} (h : ∀ i, u i = v i) (i : Nat) : sh u i = sh v i := by cases i <;> simp [sh, h]
theorem mul_addR (g h : Po) : ∀ (f : Po) (i : Nat), cf (mulL f (addL g h)) i = cf (mulL f g) i + cf (mulL f h) i
  | [], i => by simp [mulL]
  | a :: f, i => by
    rw [cf_mulc, cf_mulc, cf_mulc, cf_add, sh_congr (mul_addR g h f) i, sh_add]
    grind
theorem mul_smulR (b : Int) (g : Po) : ∀ (f : Po) (i : Nat), cf (mulL f (smulL b g)) i = b * cf (mulL f g) i
  | [], i => by simp [mulL]
  | a :: f, i => by
    rw [cf_mulc, cf_mulc, cf_smul, sh_congr (mul_smulR b g f) i, sh_smul]
    grind
theorem mul_shR (g : Po) : ∀ (f : Po) (i : Nat), cf (mulL f (0 :: g)) i = sh (cf (mulL f g)) i
  | [], i => by cases i <;> simp [mulL, sh]
  | a :: f, i => by
    rw [cf_mulc, sh_congr (mul_shR g f) i]
    cases i with
    | zero => simp [sh]
    | succ i => rw [cf_succ]; show a * cf g i + sh (cf (mulL f g)) i = cf (mulL (a :: f) g) i; rw [cf_mulc]
theorem mul_congR {g h : Po} (e : ∀ i, cf g i = cf h i) : ∀ (f : Po) (i : Nat), cf (mulL f g) i = cf (mulL f h) i
  | [], i => by simp [mulL]
  | a :: f, i => by rw [cf_mulc, cf_mulc, e, sh_congr (mul_congR e f) i]
theorem mul_nilR : ∀ (f : Po) (i : Nat), cf (mulL f []) i = 0
  | [], i => by simp [mulL]
  | a :: f, i => by
    rw [cf_mulc, sh_congr (mul_nilR f) i]
    cases i <;> simp [sh]
theorem mul_oneR : ∀ (f : Po) (i : Nat), cf (mulL f [1]) i = cf f i
  | [], i => by simp [mulL]
  | a :: f, i => by
    rw [cf_mulc, sh_congr (mul_oneR f) i]
    cases i <;> simp [sh]
theorem mul_consR (f : Po) (b : Int) (g : Po) (i : Nat) : cf (mulL f (b :: g)) i = b * cf f i + sh (cf (mulL f g)) i := by
  have e : ∀ i, cf (b :: g) i = cf (addL (smulL b [1]) (0 :: g)) i := fun i => by cases i <;> simp [cf_add]
  rw [mul_congR e, mul_addR, mul_smulR, mul_oneR, mul_shR]
theorem mul_comm' (g : Po) : ∀ (f : Po) (i : Nat), cf (mulL f g) i = cf (mulL g f) i
  | [], i => by rw [mul_nilR]; simp [mulL]
  | a :: f, i => by rw [cf_mulc, mul_consR, sh_congr (mul_comm' g f) i]
theorem mul_addL (f g h : Po) (i : Nat) : cf (mulL (addL f g) h) i = cf (mulL f h) i + cf (mulL g h) i := by
  rw [mul_comm', mul_addR, mul_comm' f, mul_comm' g]
theorem mul_smulL (b : Int) (f g : Po) (i : Nat) : cf (mulL (smulL b f) g) i = b * cf (mulL f g) i := by
  rw [mul_comm', mul_smulR, mul_comm' f]
theorem mul_congL {f g : Po} (h : Po) (e : ∀ i, cf f i = cf g i) (i : Nat) : cf (mulL f h) i = cf (mulL g h) i := by
  rw [mul_comm', mul_congR e, mul_comm' g]
theorem mul_shL (f g : Po) (i : Nat) : cf (mulL (0 :: f) g) i = sh (cf (mulL f g)) i := by rw [cf_mulc]; simp
theorem mul_assoc0 (g h : Po) : ∀ (f : Po) (i : Nat), cf (mulL (mulL f g) h) i = cf (mulL f (mulL g h)) i
  | [], i => by simp [mulL]
  | a :: f, i => by
    rw [cf_mulc, ← sh_congr (mul_assoc0 g h f) i]
    show cf (mulL (addL (smulL a g) (0 :: mulL f g)) h) i = _
    rw [mul_addL, mul_smulL, mul_shL]
/-! ### congruence by a number -/
def Mq (p : Int) (f g : Po) : Prop := ∀ i, p ∣ cf f i - cf g i
section
variable {p : Int} {f g h k : Po}
theorem Mq.refl (f : Po) : Mq p f f := fun i => by rw [Int.sub_self]; exact Int.dvd_zero _
theorem Mq.of (e : ∀ i, cf f i = cf g i) : Mq p f g := fun i => by rw [e, Int.sub_self]; exact Int.dvd_zero _
theorem Mq.symm (e : Mq p f g) : Mq p g f := fun i => by
  have := Int.dvd_neg.mpr (e i)
  rwa [Int.neg_sub] at this
theorem Mq.trans (e : Mq p f g) (e2 : Mq p g h) : Mq p f h := fun i => by
  have := Int.dvd_add (e i) (e2 i)
  rwa [show cf f i - cf g i + (cf g i - cf h i) = cf f i - cf h i by omega] at this
theorem Mq.add (e : Mq p f g) (e2 : Mq p h k) : Mq p (addL f h) (addL g k) := fun i => by
  have := Int.dvd_add (e i) (e2 i)
  rw [cf_add, cf_add]
  rwa [show cf f i - cf g i + (cf h i - cf k i) = cf f i + cf h i - (cf g i + cf k i) by omega] at this
theorem Mq.smul (a : Int) (e : Mq p f g) : Mq p (smulL a f) (smulL a g) := fun i => by
  rw [cf_smul, cf_smul, ← Int.mul_sub]
  exact Int.dvd_trans (e i) (Int.dvd_mul_left ..)
theorem dvd_sh {u v : Nat → Int} (h : ∀ i, p ∣ u i - v i) (i : Nat) : p ∣ sh u i - sh v i := by
  cases i with
  | zero => exact ⟨0, by simp [sh]⟩
  | succ i => exact h i
theorem Mq.mulR (e : Mq p g h) : ∀ f : Po, Mq p (mulL f g) (mulL f h)
  | [] => .refl _
  | a :: f => fun i => by
    rw [cf_mulc, cf_mulc]
    have := Int.dvd_add (Int.dvd_trans (e i) (Int.dvd_mul_left a _)) (dvd_sh (Mq.mulR e f) i)
    rwa [show a * (cf g i - cf h i) + (sh (cf (mulL f g)) i - sh (cf (mulL f h)) i) = a * cf g i + sh (cf (mulL f g)) i - (a * cf h i + sh (cf (mulL f h)) i) by grind] at this
theorem Mq.mulL' (e : Mq p g h) (f : Po) : Mq p (mulL g f) (mulL h f) := (Mq.of (mul_comm' f g)).trans ((e.mulR f).trans (Mq.of (mul_comm' h f)))
theorem Mq.mul (e : Mq p f g) (e2 : Mq p h k) : Mq p (mulL f h) (mulL g k) := (e.mulL' h).trans (e2.mulR g)
end
/-! ### remainders -/
/-- congruent by g -/
def Cg (p : Int) (g a b : Po) : Prop := ∃ q, Mq p a (addL (mulL q g) b)
section
variable {p : Int} {g a b c d : Po}
theorem Cg.of (e : Mq p a b) : Cg p g a b := ⟨[], e.trans (.of fun i => by simp [mulL])⟩
theorem Cg.refl (a : Po) : Cg p g a a := .of (.refl a)
theorem Cg.symm (h : Cg p g a b) : Cg p g b a := by
  obtain ⟨q, e⟩ := h
  refine ⟨smulL (-1) q, fun i => ?_⟩
  have := Int.dvd_neg.mpr (e i)
  rw [cf_add] at this ⊢
  rw [mul_smulL]
  rwa [show -(cf a i - (cf (mulL q g) i + cf b i)) = cf b i - (-1 * cf (mulL q g) i + cf a i) by omega] at this
theorem Cg.trans (h : Cg p g a b) (k : Cg p g b c) : Cg p g a c := by
  obtain ⟨q, e⟩ := h
  obtain ⟨r, f⟩ := k
  refine ⟨addL q r, fun i => ?_⟩
  have := Int.dvd_add (e i) (f i)
  rw [cf_add] at this ⊢
  rw [cf_add] at this
  rw [mul_addL]
  rwa [show cf a i - (cf (mulL q g) i + cf b i) + (cf b i - (cf (mulL r g) i + cf c i)) = cf a i - (cf (mulL q g) i + cf (mulL r g) i + cf c i) by omega] at this
theorem Cg.mulL' (h : Cg p g a b) (c : Po) : Cg p g (mulL a c) (mulL b c) := by
  obtain ⟨q, e⟩ := h
  refine ⟨mulL q c, (e.mulL' c).trans (.of fun i => ?_)⟩
  rw [mul_addL, cf_add, mul_assoc0, mul_assoc0, mul_congR (mul_comm' c g) q]
theorem Cg.mul (h : Cg p g a b) (k : Cg p g c d) : Cg p g (mulL a c) (mulL b d) :=
  (h.mulL' c).trans (((Cg.of (.of (mul_comm' c b))).trans (k.mulL' b)).trans (.of (.of (mul_comm' b d))))
theorem Cg.add (h : Cg p g a b) (k : Cg p g c d) : Cg p g (addL a c) (addL b d) := by
  obtain ⟨q, e⟩ := h
  obtain ⟨r, f⟩ := k
  refine ⟨addL q r, (e.add f).trans (.of fun i => ?_)⟩
  rw [cf_add, cf_add, cf_add, cf_add, cf_add, mul_addL]; omega
theorem Cg.smul (x : Int) (h : Cg p g a b) : Cg p g (smulL x a) (smulL x b) := by
  obtain ⟨q, e⟩ := h
  refine ⟨smulL x q, (e.smul x).trans (.of fun i => ?_)⟩
  rw [cf_smul, cf_add, cf_add, mul_smulL, cf_smul, Int.mul_add]
theorem Cg.self (q : Po) : Cg p g (mulL q g) [] := ⟨q, .of fun i => by rw [cf_add]; simp⟩
end
/-- a polynomial as it is kept -/
structure Can (p : Int) (f : Po) : Prop where
  in_ : ∀ x ∈ f, 0 ≤ x ∧ x < p
  top : ∀ n, f.length = n + 1 → cf f n ≠ 0
theorem Can.cf_in {p : Int} {f : Po} (h : Can p f) (hp : 0 < p) (i : Nat) : 0 ≤ cf f i ∧ cf f i < p := by
  by_cases q : i < f.length
  · have e : cf f i = f[i] := by unfold cf; simp [q]
    rw [e]; exact h.in_ _ (List.getElem_mem q)
  · rw [cf_len (by omega)]; omega
theorem Can.uni {p : Int} {f g : Po} (h : Can p f) (k : Can p g) (hp : 0 < p) (e : Mq p f g) : f = g := by
  have ee : ∀ i, cf f i = cf g i := fun i => by
    obtain ⟨a1, a2⟩ := h.cf_in hp i
    obtain ⟨b1, b2⟩ := k.cf_in hp i
    obtain ⟨t, ht⟩ := e i
    have t0 : t = 0 := by
      rcases Int.lt_trichotomy t 0 with q | q | q
      · have := Int.mul_le_mul_of_nonneg_left (show t ≤ -1 by omega) (show 0 ≤ p by omega)
        omega
      · exact q
      · have := Int.mul_le_mul_of_nonneg_left (show 1 ≤ t by omega) (show 0 ≤ p by omega)
        omega
    rw [t0] at ht
    omega
  have len : ∀ {f g : Po}, Can p f → (∀ i, cf f i = cf g i) → f.length ≤ g.length := fun {f g} h ee => by
    rcases Nat.lt_or_ge g.length f.length with q | q
    · exfalso
      obtain ⟨n, hn⟩ : ∃ n, f.length = n + 1 := ⟨f.length - 1, by omega⟩
      exact h.top n hn (by rw [ee, cf_len (by omega)])
    · exact q
  have hl : f.length = g.length := Nat.le_antisymm (len h ee) (len k fun i => (ee i).symm)
  refine List.ext_getElem hl fun i h1 h2 => ?_
  have := ee i
  unfold cf at this
  simpa [h1, h2] using this
theorem top_coef {p : Int} {g : Po} {m : Nat} (hg : ∀ i, m < i → cf g i = 0) : ∀ (h : Po) (n : Nat), (∀ i, n < i → p ∣ cf h i) → p ∣ cf (mulL h g) (n + m) - cf h n * cf g m
  | [], n, _ => by simp [mulL]
  | a :: h, 0, hn => by
    have z : Mq p h [] := fun i => by
      have := hn (i + 1) (by omega)
      rw [cf_succ] at this
      simpa using this
    have z2 := z.mulL' g
    rw [cf_mulc, Nat.zero_add, cf_zero]
    have := dvd_sh z2 m
    have s0 : sh (cf (mulL [] g)) m = 0 := by cases m <;> simp [sh, mulL]
    rw [s0] at this
    rwa [show a * cf g m + sh (cf (mulL h g)) m - a * cf g m = sh (cf (mulL h g)) m - 0 by omega]
  | a :: h, n + 1, hn => by
    have ih := top_coef hg h n fun i hi => by
      have := hn (i + 1) (by omega)
      rwa [cf_succ] at this
    rw [cf_mulc, hg (n + 1 + m) (by omega), Int.mul_zero, Int.zero_add, cf_succ, show n + 1 + m = (n + m) + 1 by omega]
    exact ih
theorem top_ex {p : Int} : ∀ h : Po, Mq p h [] ∨ ∃ n, ¬ p ∣ cf h n ∧ ∀ i, n < i → p ∣ cf h i
  | [] => .inl (.refl _)
  | a :: h => by
    rcases top_ex h with z | ⟨n, n1, n2⟩
    · by_cases q : p ∣ a
      · left
        intro i
        cases i with
        | zero => simpa using q
        | succ i => have := z i; simpa using this
      · right
        refine ⟨0, by simpa using q, fun i hi => ?_⟩
        obtain ⟨j, rfl⟩ : ∃ j, i = j + 1 := ⟨i - 1, by omega⟩
        have := z j
        rw [cf_succ]
        simpa using this
    · right
      refine ⟨n + 1, by simpa using n1, fun i hi => ?_⟩
      obtain ⟨j, rfl⟩ : ∃ j, i = j + 1 := ⟨i - 1, by omega⟩
      rw [cf_succ]
      exact n2 j (by omega)
/-- a leading number that has an inverse -/
def Lead (p : Int) (g : Po) (m : Nat) : Prop := g.length = m + 1 ∧ ∃ c, p ∣ c * cf g m - 1
theorem no_mult {p : Int} {g h s : Po} {m : Nat} (L : Lead p g m) (e : Mq p (mulL h g) s) (hs : s.length ≤ m) (hp : 1 < p) : Mq p h [] := by
  rcases top_ex (p := p) h with z | ⟨n, n1, n2⟩
  · exact z
  · exfalso
    obtain ⟨lm, c, hc⟩ := L
    have t := top_coef (p := p) (g := g) (m := m) (fun i hi => cf_len (by omega)) h n n2
    have e1 := e (n + m)
    rw [cf_len (f := s) (by omega), Int.sub_zero] at e1
    have d : p ∣ cf h n * cf g m := by
      have := Int.dvd_sub e1 t
      rwa [show cf (mulL h g) (n + m) - (cf (mulL h g) (n + m) - cf h n * cf g m) = cf h n * cf g m by omega] at this
    have d2 := Int.dvd_sub (Int.dvd_trans d (Int.dvd_mul_left c _)) (Int.dvd_trans hc (Int.dvd_mul_left (cf h n) _))
    rw [show c * (cf h n * cf g m) - cf h n * (c * cf g m - 1) = cf h n by grind] at d2
    exact n1 d2
/-- the remainder -/
structure IsRem (p : Int) (g f r : Po) : Prop where
  can : Can p r
  len : r.length < g.length
  cg : Cg p g f r
theorem IsRem.uni {p : Int} {g f f' r r' : Po} {m : Nat} (L : Lead p g m) (hp : 1 < p) (h : IsRem p g f r) (k : IsRem p g f' r') (e : Cg p g f f') : r = r' := by
  have c : Cg p g r r' := (h.cg.symm.trans e).trans k.cg
  obtain ⟨q, hq⟩ := c
  refine h.can.uni k.can (by omega) ?_
  have lm := L.1
  have z : Mq p q [] := no_mult L (s := addL r (smulL (-1) r')) (fun i => by
    have := Int.dvd_neg.mpr (hq i)
    rw [cf_add] at this ⊢
    rw [cf_smul]
    rwa [show -(cf r i - (cf (mulL q g) i + cf r' i)) = cf (mulL q g) i - (cf r i + -1 * cf r' i) by omega] at this) (by
      have len : ∀ f g : Po, (addL f g).length = max f.length g.length := by
        intro f
        induction f with
        | nil => intro g; simp [addL]
        | cons a f ih => intro g; cases g with
          | nil => simp [addL]
          | cons b g => simp [addL, ih] <;> omega
      have h1 := h.len; have h2 := k.len
      rw [len]
      unfold smulL
      rw [List.length_map]
      omega) hp
  refine hq.trans fun i => ?_
  have z2 := z.mulL' g i
  rw [cf_add]
  simp only [mulL, cf_nil, Int.sub_zero] at z2
  rwa [show cf (mulL q g) i + cf r' i - cf r' i = cf (mulL q g) i by omega]
end Pv
end

section
/-! PqB: polynomials as lists of ints: lists by their numbers, ends cut, primes, divisors. -/
set_option autoImplicit false
namespace Pv
open PySem
/-- as values -/
def lD (f : Po) : D := .list (f.map .int)
theorem tupD_nil : tupD [] = .tuple [] := rfl
/-! ### lists by their numbers -/
theorem cf_lt {f : Po} {i : Nat} (h : i < f.length) : cf f i = f[i] := by unfold cf; simp [h]
theorem cf_get {f : Po} {i : Nat} {x : Int} (h : f[i]? = some x) : cf f i = x := by
  unfold cf; rw [List.getD_eq_getElem?_getD, h]; rfl
theorem get_cf {f : Po} {i : Nat} (h : i < f.length) : f[i]? = some (cf f i) := by
  rw [cf_lt h, List.getElem?_eq_getElem h]
theorem cf_set {f : Po} {i j : Nat} {v : Int} (h : i < f.length) : cf (f.set i v) j = if j = i then v else cf f j := by
  unfold cf
  rw [List.getD_eq_getElem?_getD, List.getD_eq_getElem?_getD, List.getElem?_set]
  by_cases q : i = j
  · subst q; simp [h]
  · rw [if_neg q, if_neg (fun e : j = i => q e.symm)]
theorem cf_repl (n i : Nat) : cf (List.replicate n 0) i = 0 := by
  unfold cf
  rw [List.getD_eq_getElem?_getD, List.getElem?_replicate]
  split <;> rfl
theorem cf_take {f : Po} {n i : Nat} : cf (f.take n) i = if i < n then cf f i else 0 := by
  unfold cf
  rw [List.getD_eq_getElem?_getD, List.getD_eq_getElem?_getD, List.getElem?_take]
  split <;> rfl
theorem cf_map {f : Po} {u : Int → Int} (h : u 0 = 0) (i : Nat) : cf (f.map u) i = u (cf f i) := by
  unfold cf
  rw [List.getD_eq_getElem?_getD, List.getD_eq_getElem?_getD, List.getElem?_map]
  cases f[i]? with
  | none => simp [h]
  | some x => rfl
theorem cf_dropLast {f : Po} {i : Nat} : cf f.dropLast i = if i < f.length - 1 then cf f i else 0 := by
  rw [List.dropLast_eq_take, cf_take]
theorem ext_cf {f g : Po} (hl : f.length = g.length) (h : ∀ i, cf f i = cf g i) : f = g := by
  refine List.ext_getElem hl fun i h1 h2 => ?_
  have := h i
  rwa [cf_lt h1, cf_lt h2] at this
/-- in range -/
def Rg (p : Int) (f : Po) : Prop := ∀ i, 0 ≤ cf f i ∧ cf f i < p
theorem Rg.of {p : Int} {f : Po} (hp : 0 < p) (h : ∀ x ∈ f, 0 ≤ x ∧ x < p) : Rg p f := fun i => by
  by_cases q : i < f.length
  · rw [cf_lt q]; exact h _ (List.getElem_mem q)
  · rw [cf_len (by omega)]; omega
theorem Rg.in_ {p : Int} {f : Po} (h : Rg p f) : ∀ x ∈ f, 0 ≤ x ∧ x < p := fun x hx => by
  obtain ⟨i, hi, rfl⟩ := List.getElem_of_mem hx
  have := h i
  rwa [cf_lt hi] at this
theorem Rg.set {p : Int} {f : Po} {i : Nat} {v : Int} (h : Rg p f) (h0 : 0 ≤ v) (h1 : v < p) (hi : i < f.length) : Rg p (f.set i v) := fun j => by
  rw [cf_set hi]
  split
  · exact ⟨h0, h1⟩
  · exact h j
theorem Can.rg {p : Int} {f : Po} (h : Can p f) (hp : 0 < p) : Rg p f := h.cf_in hp
theorem Can.of {p : Int} {f : Po} (h : Rg p f) (ht : ∀ n, f.length = n + 1 → cf f n ≠ 0) : Can p f := ⟨h.in_, ht⟩
/-! ### ends cut -/
def endN (f : Po) : Nat → Nat
  | 0 => 0
  | n + 1 => if cf f n = 0 then endN f n else n + 1
def trimL (f : Po) : Po := f.take (endN f f.length)
theorem endN_le (f : Po) : ∀ n, endN f n ≤ n
  | 0 => Nat.le_refl _
  | n + 1 => by
    unfold endN
    split
    · exact Nat.le_succ_of_le (endN_le f n)
    · exact Nat.le_refl _
theorem endN_zero (f : Po) : ∀ n i, endN f n ≤ i → i < n → cf f i = 0
  | 0, i, _, h => absurd h (Nat.not_lt_zero _)
  | n + 1, i, h1, h2 => by
    unfold endN at h1
    split at h1
    · rename_i z
      by_cases q : i = n
      · rw [q]; exact z
      · exact endN_zero f n i h1 (by omega)
    · omega
theorem endN_top (f : Po) : ∀ n m, endN f n = m + 1 → cf f m ≠ 0
  | 0, m, h => by simp [endN] at h
  | n + 1, m, h => by
    unfold endN at h
    split at h
    · exact endN_top f n m h
    · have : n = m := by omega
      subst this; assumption
theorem cf_trim (f : Po) (i : Nat) : cf (trimL f) i = cf f i := by
  unfold trimL
  rw [cf_take]
  split
  · rfl
  · by_cases q : i < f.length
    · exact (endN_zero f f.length i (by omega) q).symm
    · exact (cf_len (by omega)).symm
theorem trim_len (f : Po) : (trimL f).length ≤ f.length := by
  unfold trimL
  rw [List.length_take]; omega
theorem Can.trim {p : Int} {f : Po} (h : Rg p f) : Can p (trimL f) := by
  refine .of (fun i => by rw [cf_trim]; exact h i) fun n hn => ?_
  rw [cf_trim]
  have e := endN_le f f.length
  unfold trimL at hn
  rw [List.length_take] at hn
  exact endN_top f f.length n (by omega)
theorem trim_can {p : Int} {f : Po} (h : Can p f) : trimL f = f := by
  have : ∀ n, f.length = n → endN f n = n := fun n hn => by
    cases n with
    | zero => rfl
    | succ m => unfold endN; rw [if_neg (h.top m hn)]
  unfold trimL
  rw [this _ rfl, List.take_length]
theorem trim_mq (p : Int) (f : Po) : Mq p (trimL f) f := .of (cf_trim f)
theorem Can.nil {p : Int} : Can p [] := ⟨fun x h => by simp at h, fun n h => by simp at h⟩
theorem trim_len_le {f : Po} {n : Nat} (h : ∀ i, n ≤ i → cf f i = 0) : (trimL f).length ≤ n := by
  rcases Nat.lt_or_ge n (trimL f).length with q | q
  · exfalso
    obtain ⟨m, hm⟩ : ∃ m, (trimL f).length = m + 1 := ⟨(trimL f).length - 1, by omega⟩
    have e := endN_le f f.length
    unfold trimL at hm q
    rw [List.length_take] at hm q
    exact endN_top f f.length m (by omega) (h m (by omega))
  · exact q
/-! ### shifts -/
def shN (n : Nat) (f : Po) : Po := List.replicate n 0 ++ f
theorem cf_shN (f : Po) : ∀ (n i : Nat), cf (shN n f) i = if i < n then 0 else cf f (i - n)
  | 0, i => by simp [shN]
  | n + 1, i => by
    have e : shN (n + 1) f = 0 :: shN n f := by simp [shN, List.replicate_succ]
    rw [e]
    cases i with
    | zero => simp
    | succ i =>
      rw [cf_succ, cf_shN f n i]
      by_cases q : i < n
      · rw [if_pos q, if_pos (by omega)]
      · rw [if_neg q, if_neg (by omega), Nat.add_sub_add_right]
theorem mul_shN (g f : Po) : ∀ (n i : Nat), cf (mulL (shN n f) g) i = cf (shN n (mulL f g)) i
  | 0, i => by simp [shN]
  | n + 1, i => by
    have e : ∀ f, shN (n + 1) f = 0 :: shN n f := fun f => by simp [shN, List.replicate_succ]
    rw [e, e, mul_shL]
    cases i with
    | zero => simp [sh]
    | succ i => rw [cf_succ]; exact mul_shN g f n i
theorem mul_oneL (g : Po) (i : Nat) : cf (mulL [1] g) i = cf g i := by rw [mul_comm', mul_oneR]
theorem mul_num (a : Int) (g : Po) (i : Nat) : cf (mulL [a] g) i = a * cf g i := by
  rw [cf_mulc]
  have : sh (cf (mulL [] g)) i = 0 := by cases i <;> simp [sh, mulL]
  omega
/-- one number at a place, times g -/
theorem mul_at (n : Nat) (a : Int) (g : Po) (i : Nat) : cf (mulL (shN n [a]) g) i = if i < n then 0 else a * cf g (i - n) := by
  rw [mul_shN, cf_shN]
  split
  · rfl
  · rw [mul_num]
/-- a product by its first rows -/
theorem mul_rows (f g : Po) (k i : Nat) : cf (mulL (f.take (k + 1)) g) i = cf (mulL (f.take k) g) i + if i < k then 0 else cf f k * cf g (i - k) := by
  rw [← mul_at, ← mul_addL]
  refine mul_congL g (fun j => ?_) i
  rw [cf_add, cf_shN, cf_take, cf_take]
  rcases Nat.lt_trichotomy j k with q | q | q
  · rw [if_pos (by omega), if_pos q, if_pos q, Int.add_zero]
  · subst q
    rw [if_pos (by omega), if_neg (Nat.lt_irrefl _), if_neg (Nat.lt_irrefl _), Nat.sub_self, cf_zero, Int.zero_add]
  · rw [if_neg (by omega), if_neg (by omega), if_neg (by omega), cf_len (f := [cf f k]) (by simp; omega)]; rfl
theorem mul_len (f g : Po) (i : Nat) (h : f.length + g.length ≤ i + 1) : cf (mulL f g) i = 0 := by
  have : ∀ k, k ≤ f.length → cf (mulL (f.take k) g) i = 0 := by
    intro k
    induction k with
    | zero => intro _; simp [mulL]
    | succ k ih =>
      intro hk
      rw [mul_rows, ih (by omega)]
      split
      · rfl
      · rw [cf_len (f := g) (by omega), Int.mul_zero]; rfl
  have e := this f.length (Nat.le_refl _)
  rwa [List.take_length] at e
/-! ### reduced by p -/
theorem emod_rg (x : Int) {p : Int} (hp : 0 < p) : 0 ≤ x % p ∧ x % p < p := ⟨Int.emod_nonneg _ (by omega), Int.emod_lt_of_pos _ hp⟩
theorem dvd_emod (x p : Int) : p ∣ x % p - x := ⟨-(x / p), by rw [Int.emod_def]; grind⟩
theorem dvd_emod' (x p : Int) : p ∣ x - x % p := ⟨x / p, by rw [Int.emod_def]; grind⟩
theorem rg_zero {p x : Int} (h0 : 0 ≤ x) (h1 : x < p) (h : p ∣ x) : x = 0 := by rw [← Int.emod_eq_of_lt h0 h1]; exact Int.emod_eq_zero_of_dvd h
theorem rg_eq {p x y : Int} (h0 : 0 ≤ x) (h1 : x < p) (k0 : 0 ≤ y) (k1 : y < p) (h : p ∣ x - y) : x = y := by
  rw [← Int.emod_eq_of_lt h0 h1, ← Int.emod_eq_of_lt k0 k1]
  exact Int.emod_eq_emod_iff_emod_sub_eq_zero.mpr (Int.emod_eq_zero_of_dvd h)
theorem mod_mq (p : Int) (f : Po) : Mq p (f.map fun x => x % p) f := fun i => by
  rw [cf_map (by simp)]; exact dvd_emod _ _
theorem mod_rg {p : Int} (hp : 0 < p) (f : Po) : Rg p (f.map fun x => x % p) := fun i => by
  rw [cf_map (by simp)]; exact emod_rg _ hp
/-! ### primes -/
def pmL : List Int := [7, 11, 13, 17, 19, 23, 29, 31, 37, 41, 43, 47, 53, 59, 61, 67, 71, 73, 79, 83, 89, 97, 101, 103, 107, 109, 113, 127, 131, 137, 139, 149, 151, 157, 163, 167, 173, 179, 181, 191, 193, 197, 199]
def ivP (p a : Int) : Int := a ^ (p - 2).toNat % p
theorem fermat_N : ∀ p ∈ pmL.map Int.toNat, ∀ a ∈ List.range p, a = 0 ∨ a * (a ^ (p - 2) % p) % p = 1 := by decide +kernel
structure Pm (p : Int) : Prop where
  in_ : p ∈ pmL
theorem Pm.bd {p : Int} (h : Pm p) : 7 ≤ p ∧ p ≤ 199 := (by decide : ∀ p ∈ pmL, 7 ≤ p ∧ p ≤ 199) p h.in_
theorem Pm.pos {p : Int} (h : Pm p) : 0 < p := by have := h.bd; omega
theorem Pm.one {p : Int} (h : Pm p) : 1 < p := by have := h.bd; omega
theorem Pm.iv_rg {p : Int} (h : Pm p) (a : Int) : 0 ≤ ivP p a ∧ ivP p a < p := emod_rg _ h.pos
theorem Pm.iv0 {p : Int} (h : Pm p) {a : Int} (h0 : 0 < a) (h1 : a < p) : a * ivP p a % p = 1 := by
  have b := h.bd
  have e := fermat_N p.toNat (List.mem_map.mpr ⟨p, h.in_, rfl⟩) a.toNat (List.mem_range.mpr (by omega))
  rcases e with e | e
  · omega
  · have e2 := congrArg (fun n : Nat => (n : Int)) e
    simp only [Int.natCast_emod, Int.natCast_mul, Int.natCast_pow] at e2
    rw [Int.toNat_of_nonneg (by omega), Int.toNat_of_nonneg (by omega)] at e2
    rw [ivP, show (p - 2).toNat = p.toNat - 2 by omega]
    exact e2
theorem Pm.iv {p : Int} (h : Pm p) {a : Int} (ha : ¬ p ∣ a) : p ∣ a * ivP p a - 1 := by
  have hp := h.pos
  have b := emod_rg a hp
  have z : a % p ≠ 0 := fun z => ha (Int.dvd_of_emod_eq_zero z)
  have e := h.iv0 (show 0 < a % p by omega) b.2
  have e2 : ivP p (a % p) = ivP p a := pow_emod' a p _
  rw [e2, mulmod_l] at e
  have := dvd_emod' (a * ivP p a) p
  rwa [e] at this
theorem Pm.dvd {p : Int} (h : Pm p) {a b : Int} (hd : p ∣ a * b) : p ∣ a ∨ p ∣ b := by
  by_cases q : p ∣ a
  · exact .inl q
  · right
    have e := h.iv q
    have := Int.dvd_sub (Int.dvd_trans hd (Int.dvd_mul_right _ (ivP p a))) (Int.dvd_trans e (Int.dvd_mul_right _ b))
    rwa [show a * b * ivP p a - (a * ivP p a - 1) * b = b by grind] at this
/-! ### divisors, combinations -/
theorem Can.lead {p : Int} {g : Po} (h : Can p g) (hp : Pm p) {m : Nat} (hm : g.length = m + 1) : Lead p g m := by
  have r := h.rg hp.pos m
  have z := h.top m hm
  exact ⟨hm, ivP p (cf g m), by rw [Int.mul_comm]; exact hp.iv fun d => z (rg_zero r.1 r.2 d)⟩
def Dv (p : Int) (a b : Po) : Prop := ∃ q, Mq p b (mulL q a)
def Lin (p : Int) (f g a : Po) : Prop := ∃ u v, Mq p a (addL (mulL u f) (mulL v g))
section
variable {p : Int} {f g a b c d : Po}
theorem Lin.l (f g : Po) : Lin p f g f := ⟨[1], [], .of fun i => by rw [cf_add, mul_oneL]; simp [mulL]⟩
theorem Lin.r (f g : Po) : Lin p f g g := ⟨[], [1], .of fun i => by rw [cf_add, mul_oneL]; simp [mulL]⟩
theorem Lin.mulq (h : Lin p f g a) (q : Po) : Lin p f g (mulL q a) := by
  obtain ⟨u, v, e⟩ := h
  refine ⟨mulL q u, mulL q v, (e.mulR q).trans (.of fun i => ?_)⟩
  rw [mul_addR, cf_add, mul_assoc0, mul_assoc0]
theorem Lin.addl (h : Lin p f g a) (k : Lin p f g b) : Lin p f g (addL a b) := by
  obtain ⟨u, v, e⟩ := h
  obtain ⟨u', v', e'⟩ := k
  refine ⟨addL u u', addL v v', (e.add e').trans (.of fun i => ?_)⟩
  rw [cf_add, cf_add, cf_add, cf_add, mul_addL, mul_addL]; omega
theorem Lin.smul (x : Int) (h : Lin p f g a) : Lin p f g (smulL x a) := by
  obtain ⟨u, v, e⟩ := h
  refine ⟨smulL x u, smulL x v, (e.smul x).trans (.of fun i => ?_)⟩
  rw [cf_smul, cf_add, cf_add, mul_smulL, mul_smulL, Int.mul_add]
theorem Lin.mq (h : Lin p f g a) (e : Mq p b a) : Lin p f g b := by
  obtain ⟨u, v, e'⟩ := h
  exact ⟨u, v, e.trans e'⟩
theorem Lin.dv (h : Lin p f g a) (k : Dv p c f) (l : Dv p c g) : Dv p c a := by
  obtain ⟨u, v, e⟩ := h
  obtain ⟨q, eq⟩ := k
  obtain ⟨r, er⟩ := l
  refine ⟨addL (mulL u q) (mulL v r), e.trans (((eq.mulR u).add (er.mulR v)).trans (.of fun i => ?_))⟩
  rw [cf_add, mul_addL, mul_assoc0, mul_assoc0]
theorem Lin.trans (h : Lin p a b c) (k : Lin p f g a) (l : Lin p f g b) : Lin p f g c := by
  obtain ⟨u, v, e⟩ := h
  exact ((k.mulq u).addl (l.mulq v)).mq e
theorem Dv.len (hp : Pm p) (ha : Can p a) (hb : Can p b) (h : Dv p a b) (h0 : b ≠ []) : a.length ≤ b.length := by
  obtain ⟨q, e⟩ := h
  cases hl : a.length with
  | zero => omega
  | succ m =>
    rcases top_ex (p := p) q with z | ⟨n, n1, n2⟩
    · exact absurd (hb.uni .nil hp.pos (e.trans (by have := z.mulL' a; simpa [mulL] using this))) h0
    · have t := top_coef (p := p) (g := a) (m := m) (fun i hi => cf_len (by omega)) q n n2
      have l := ha.lead hp hl
      have e1 := e (n + m)
      rcases Nat.lt_or_ge (n + m) b.length with k | k
      · omega
      · exfalso
        rw [cf_len k] at e1
        have d := Int.dvd_add e1 t
        rw [show 0 - cf (mulL q a) (n + m) + (cf (mulL q a) (n + m) - cf q n * cf a m) = -(cf q n * cf a m) by omega, Int.dvd_neg] at d
        rcases hp.dvd d with d | d
        · exact n1 d
        · have r := ha.rg hp.pos m
          exact ha.top m hl (rg_zero r.1 r.2 d)
end
/-- what a division answers -/
structure DivOk (p : Int) (f g q r : Po) : Prop where
  cq : Can p q
  cr : Can p r
  len : r.length < g.length
  lq : q.length + g.length ≤ f.length + 1 ∨ q = []
  eq : Mq p f (addL (mulL q g) r)
theorem DivOk.rem {p : Int} {f g q r : Po} (h : DivOk p f g q r) : IsRem p g f r := ⟨h.cr, h.len, q, h.eq⟩
section
variable {p : Int} {f g a b q r : Po}
theorem Lin.rem (h : IsRem p b a r) : Lin p a b r := by
  obtain ⟨q, e⟩ := h.cg
  refine ((Lin.l a b).addl (((Lin.r a b).mulq q).smul (-1))).mq fun i => ?_
  have := Int.dvd_neg.mpr (e i)
  rw [cf_add] at this ⊢
  rw [cf_smul]
  rwa [show -(cf a i - (cf (mulL q b) i + cf r i)) = cf r i - (cf a i + -1 * cf (mulL q b) i) by omega] at this
theorem Lin.back (h : IsRem p b a r) : Lin p b r a := by
  obtain ⟨q, e⟩ := h.cg
  exact (((Lin.l b r).mulq q).addl (Lin.r b r)).mq e
end
/-- a step of Euclid -/
structure Eu (p : Int) (f g a b : Po) : Prop where
  ca : Can p a
  cb : Can p b
  la : Lin p f g a
  lb : Lin p f g b
  lf : Lin p a b f
  lg : Lin p a b g
theorem Eu.start {p : Int} {f g : Po} (hf : Can p f) (hg : Can p g) : Eu p f g f g := ⟨hf, hg, .l _ _, .r _ _, .l _ _, .r _ _⟩
theorem Eu.swap {p : Int} {f g a b : Po} (h : Eu p f g a b) : Eu p g f a b := by
  have sw : ∀ {f g a : Po}, Lin p f g a → Lin p g f a := fun h => h.trans (.r _ _) (.l _ _)
  exact ⟨h.ca, h.cb, sw h.la, sw h.lb, h.lg, h.lf⟩
theorem Eu.next {p : Int} {f g a b r : Po} (h : Eu p f g a b) (d : IsRem p b a r) : Eu p f g b r :=
  ⟨h.cb, d.can, h.lb, (Lin.rem d).trans h.la h.lb, h.lf.trans (Lin.back d) (.l _ _), h.lg.trans (Lin.back d) (.l _ _)⟩
theorem Lin.nil_dv {p : Int} {a f : Po} (h : Lin p a [] f) : Dv p a f := by
  obtain ⟨u, v, e⟩ := h
  refine ⟨u, e.trans (.of fun i => ?_)⟩
  rw [cf_add, mul_nilR, Int.add_zero]
theorem Eu.same {p : Int} {f g a b : Po} (hp : Pm p) (hg : g ≠ []) (cg : Can p g) (h : Eu p f g a []) (k : Eu p f g b []) : a.length = b.length := by
  have nz : ∀ {a : Po}, Eu p f g a [] → a ≠ [] := fun {a} h z => by
    subst z
    obtain ⟨u, e⟩ := h.lg.nil_dv
    exact hg (cg.uni .nil hp.pos (e.trans (.of fun i => by rw [mul_nilR, cf_nil])))
  exact Nat.le_antisymm ((k.la.dv h.lf.nil_dv h.lg.nil_dv).len hp h.ca k.ca (nz k)) ((h.la.dv k.lf.nil_dv k.lg.nil_dv).len hp k.ca h.ca (nz h))
/-! ### division, by turns -/
structure DvI (p : Int) (f g : Po) (m K k : Nat) (xs qs : Po) : Prop where
  lx : xs.length = f.length
  lq : qs.length = K
  rx : Rg p xs
  rq : Rg p qs
  zq : ∀ i, i < K - k → cf qs i = 0
  zx : ∀ i, K - k + m ≤ i → cf xs i = 0
  eq : Mq p f (addL (mulL qs g) xs)
theorem DvI.start {p : Int} {f g : Po} {m K : Nat} (hp : 0 < p) (hf : Rg p f) (hK : f.length ≤ K + m) : DvI p f g m K 0 f (List.replicate K 0) := by
  refine ⟨rfl, List.length_replicate, hf, fun i => by rw [cf_repl]; omega, fun i _ => cf_repl _ _, fun i hi => cf_len (by omega), .of fun i => ?_⟩
  rw [cf_add, mul_congL g (g := []) (fun i => by rw [cf_repl, cf_nil])]
  simp [mulL]
theorem DvI.next {p s N : Int} {f g xs xs' qs : Po} {m K k : Nat} (hp : 0 < p) (h : DvI p f g m K k xs qs) (hs : p ∣ s * cf g m - 1) (hg : g.length = m + 1) (hk : k < K)
    (hN : N = cf xs (K - 1 - k + m) * s % p) (hl : xs'.length = xs.length) (hx : ∀ i, cf xs' i = if K - 1 - k ≤ i ∧ i < K - 1 - k + (m + 1) then (cf xs i - N * cf g (i - (K - 1 - k))) % p else cf xs i) :
    DvI p f g m K (k + 1) xs' (qs.set (K - 1 - k) N) := by
  have lq := h.lq
  have rN : 0 ≤ N ∧ N < p := by rw [hN]; exact emod_rg _ hp
  have e1 : K - (k + 1) = K - 1 - k := by omega
  generalize hj : K - 1 - k = j at *
  have dv : ∀ i, p ∣ cf xs' i - (cf xs i - cf (mulL (shN j [N]) g) i) := fun i => by
    rw [hx, mul_at]
    by_cases q : i < j
    · rw [if_neg (by omega), if_pos q]; exact ⟨0, by omega⟩
    · rw [if_neg q]
      by_cases q2 : i < j + (m + 1)
      · rw [if_pos ⟨by omega, q2⟩]; exact dvd_emod _ _
      · rw [if_neg (by omega), cf_len (f := g) (by omega)]; exact ⟨0, by omega⟩
  have top : cf xs' (j + m) = 0 := by
    rw [hx, if_pos ⟨by omega, by omega⟩, Nat.add_sub_cancel_left]
    refine Int.emod_eq_zero_of_dvd ?_
    have d1 : p ∣ N - cf xs (j + m) * s := by rw [hN]; exact dvd_emod _ _
    have d2 := Int.dvd_add (Int.dvd_trans d1 (Int.dvd_mul_right _ (cf g m))) (Int.dvd_trans hs (Int.dvd_mul_left (cf xs (j + m)) _))
    have d3 := Int.dvd_neg.mpr d2
    rwa [show -((N - cf xs (j + m) * s) * cf g m + cf xs (j + m) * (s * cf g m - 1)) = cf xs (j + m) - N * cf g m by grind] at d3
  refine ⟨by rw [hl, h.lx], by rw [List.length_set, lq], fun i => ?_, h.rq.set rN.1 rN.2 (by omega), fun i hi => ?_, fun i hi => ?_, ?_⟩
  · rw [hx]
    split
    · exact emod_rg _ hp
    · exact h.rx i
  · rw [cf_set (by omega), if_neg (by omega)]
    exact h.zq i (by omega)
  · rcases Nat.lt_or_ge (j + m) i with q | q
    · rw [hx, if_neg (by omega)]
      exact h.zx i (by omega)
    · rw [show i = j + m by omega]; exact top
  · have eq2 : ∀ i, cf (mulL (qs.set j N) g) i = cf (mulL qs g) i + cf (mulL (shN j [N]) g) i := fun i => by
      rw [← mul_addL]
      refine mul_congL g (fun l => ?_) i
      rw [cf_set (by omega), cf_add, cf_shN]
      by_cases q : l = j
      · subst q; rw [if_pos rfl, h.zq l (by omega)]; simp
      · rw [if_neg q]
        split
        · omega
        · rw [cf_len (f := [N]) (by simp; omega)]; omega
    intro i
    have a := h.eq i
    have b := dv i
    rw [cf_add] at a ⊢
    rw [eq2]
    have c := Int.dvd_sub a b
    rwa [show cf f i - (cf (mulL qs g) i + cf xs i) - (cf xs' i - (cf xs i - cf (mulL (shN j [N]) g) i)) = cf f i - (cf (mulL qs g) i + cf (mulL (shN j [N]) g) i + cf xs' i) by omega] at c
theorem DvI.fin {p : Int} {f g xs qs : Po} {m K : Nat} (h : DvI p f g m K K xs qs) (hg : g.length = m + 1) (hK : K = f.length - m) : DivOk p f g (trimL qs) (trimL (xs.take m)) := by
  have e : ∀ i, cf (xs.take m) i = cf xs i := fun i => by
    rw [cf_take]
    split
    · rfl
    · exact (h.zx i (by omega)).symm
  refine ⟨.trim h.rq, .trim fun i => by rw [e]; exact h.rx i, ?_, ?_, ?_⟩
  · have := trim_len (xs.take m)
    rw [List.length_take] at this
    omega
  · rcases Nat.eq_zero_or_pos K with z | z
    · right
      have l := trim_len qs
      have lq := h.lq
      exact List.length_eq_zero_iff.mp (by omega)
    · left
      have l := trim_len qs
      have lq := h.lq
      omega
  · refine h.eq.trans (((Mq.of fun i => (cf_trim qs i).symm).mulL' g).add (.of fun i => ?_))
    rw [cf_trim, e]
/-! ### powers -/
def pwL (f : Po) : Nat → Po
  | 0 => [1]
  | n + 1 => mulL f (pwL f n)
theorem pwL_add (f : Po) (a : Nat) : ∀ (b i : Nat), cf (pwL f (b + a)) i = cf (mulL (pwL f b) (pwL f a)) i
  | 0, i => by rw [Nat.zero_add]; show _ = cf (mulL [1] (pwL f a)) i; rw [mul_oneL]
  | b + 1, i => by
    rw [show b + 1 + a = b + a + 1 by omega]
    show cf (mulL f (pwL f (b + a))) i = cf (mulL (mulL f (pwL f b)) (pwL f a)) i
    rw [mul_assoc0, mul_congR (pwL_add f a b)]
theorem pwL_sq (f : Po) : ∀ (n i : Nat), cf (pwL (mulL f f) n) i = cf (pwL f (2 * n)) i
  | 0, i => rfl
  | n + 1, i => by
    show cf (mulL (mulL f f) (pwL (mulL f f) n)) i = cf (mulL f (mulL f (pwL f (2 * n)))) i
    rw [mul_assoc0, mul_congR (fun j => mul_congR (pwL_sq f n) f j)]
theorem Cg.pw {p : Int} {g a b : Po} (h : Cg p g a b) : ∀ n, Cg p g (pwL a n) (pwL b n)
  | 0 => .refl _
  | n + 1 => h.mul (h.pw n)
/-- a step of squares -/
theorem pw_step {p : Int} {g r b x : Po} {k : Nat} (h : Cg p g (mulL r (pwL b k)) x) {r' b' : Po} (hr : Cg p g (if k % 2 = 1 then mulL r b else r) r') (hb : Cg p g (mulL b b) b') : Cg p g (mulL r' (pwL b' (k / 2))) x := by
  refine ((hr.symm.mul (hb.symm.pw (k / 2))).trans ?_).trans h
  refine .of (.of fun i => ?_)
  rw [mul_congR (pwL_sq b (k / 2))]
  split
  · have e : k = 1 + 2 * (k / 2) := by omega
    have e2 : ∀ i, cf (pwL b k) i = cf (mulL b (pwL b (2 * (k / 2)))) i := fun i => by
      conv => lhs; rw [e, Nat.add_comm]
      rfl
    rw [mul_assoc0, ← mul_congR e2]
  · have e : k = 2 * (k / 2) := by omega
    conv => rhs; rw [e]
theorem Can.one {p : Int} (hp : 1 < p) : Can p [1] := ⟨fun x h => by simp at h; omega, fun n h => by
  have : n = 0 := by simpa using h.symm
  subst this; simp⟩
/-! ### inverses -/
theorem inv_step {p : Int} {m f l r one other q s t w : Po} (h1 : Cg p m (mulL l f) one) (h2 : Cg p m (mulL r f) other) (h3 : Mq p one (addL (mulL q other) s)) (h4 : Mq p t (mulL q r)) (h5 : Mq p w (addL l (smulL (p - 1) t))) : Cg p m (mulL w f) s := by
  have a : Mq p (mulL w f) (addL (mulL l f) (smulL (p - 1) (mulL q (mulL r f)))) := by
    refine (h5.mulL' f).trans ?_
    refine (Mq.of fun i => ?_).trans ((Mq.refl (mulL l f)).add ((h4.mulL' f).smul (p - 1)) |>.trans (.of fun i => ?_))
    · rw [mul_addL, cf_add, mul_smulL, cf_smul]
    · rw [cf_add, cf_add, cf_smul, cf_smul, mul_assoc0]
  refine (Cg.of a).trans ((h1.add (((Cg.refl q).mul h2).smul (p - 1))).trans (.of fun i => ?_))
  have := h3 i
  rw [cf_add] at this ⊢
  rw [cf_smul]
  have := Int.dvd_add this (Int.dvd_mul_right p (cf (mulL q other) i))
  rwa [show cf one i - (cf (mulL q other) i + cf s i) + p * cf (mulL q other) i = cf one i + (p - 1) * cf (mulL q other) i - cf s i by grind] at this
theorem inv_end {p c : Int} {m f l u0 u : Po} (hp : Pm p) (hc : ¬ p ∣ c) (h1 : Cg p m (mulL l f) [c]) (h2 : Mq p u0 (smulL (ivP p c) l)) (h3 : IsRem p m u0 u) : Cg p m (mulL u f) [1] := by
  refine (h3.cg.symm.mulL' f).trans ((Cg.of (h2.mulL' f)).trans ?_)
  refine (Cg.of (.of fun i => ?_)).trans ((h1.smul (ivP p c)).trans (.of fun i => ?_))
  · rw [mul_smulL, cf_smul]
  · rw [cf_smul]
    have e := hp.iv hc
    cases i with
    | zero => simpa [Int.mul_comm] using e
    | succ i => simp
end Pv
end

section
/-! PqC: what built-ins answer for lists of ints. -/
set_option autoImplicit false
namespace Pv
open PySem
theorem lD_len (f : Po) : biV .len [lD f] = some (.int f.length) := by simp [lD]
theorem tupD_len (f : Po) : biV .len [tupD f] = some (.int f.length) := by simp [tupD]
theorem idx_lD {f : Po} {i : Int} (h0 : 0 ≤ i) (h1 : i < f.length) : idxV (lD f) (.int i) = some (.int (cf f i.toNat)) := by
  refine atI_nn h0 ?_
  rw [List.getElem?_map, get_cf (by omega)]; rfl
theorem idx_tD {f : Po} {i : Int} (h0 : 0 ≤ i) (h1 : i < f.length) : idxV (tupD f) (.int i) = some (.int (cf f i.toNat)) := by
  refine atI_nn h0 ?_
  rw [List.getElem?_map, get_cf (by omega)]; rfl
theorem last_map {f : Po} {n : Nat} (h : f.length = n + 1) : ∃ g : Po, f = g ++ [cf f n] ∧ g.length = n := by
  refine ⟨f.take n, ?_, by rw [List.length_take]; omega⟩
  refine ext_cf (by simp; omega) fun i => ?_
  by_cases q : i < n
  · unfold cf
    rw [List.getD_eq_getElem?_getD, List.getD_eq_getElem?_getD, List.getElem?_append_left (by rw [List.length_take]; omega), List.getElem?_take, if_pos q]
  · rcases Nat.eq_or_lt_of_le (Nat.le_of_not_lt q) with e | e
    · subst e
      unfold cf
      rw [List.getD_eq_getElem?_getD, List.getD_eq_getElem?_getD (l := _ ++ _), List.getElem?_append_right (by rw [List.length_take]; omega)]
      simp [show min n f.length = n by omega]
    · rw [cf_len (by omega), cf_len (by simp; omega)]
theorem idx_lm {f : Po} {n : Nat} (h : f.length = n + 1) : idxV (lD f) (.int (-1)) = some (.int (cf f n)) := by
  obtain ⟨g, e, hl⟩ := last_map h
  generalize hc : cf f n = c at e ⊢
  rw [e, lD, List.map_append]
  exact L2.atI_last _ _
theorem idx_tm {f : Po} {n : Nat} (h : f.length = n + 1) : idxV (tupD f) (.int (-1)) = some (.int (cf f n)) := by
  obtain ⟨g, e, hl⟩ := last_map h
  generalize hc : cf f n = c at e ⊢
  rw [e, tupD, List.map_append]
  exact L2.atI_last _ _
theorem slc_lD {f : Po} {n : Nat} (h : n ≤ f.length) : slcV (lD f) .none (.int n) = some (lD (f.take n)) := by
  have e : cutD (f.map .int) none (some (n : Int)) = (f.take n).map .int := by
    unfold cutD
    rw [HT.sIx_nat, HT.sIx_none, List.length_map, List.drop_zero, Nat.sub_zero, Nat.min_eq_left h, List.map_take]
  show some (PyData.list (cutD (f.map .int) none (some (n : Int)))) = _
  rw [e]; rfl
theorem slc_lI {f : Po} {n : Int} (h0 : 0 ≤ n) (h : n ≤ f.length) : slcV (lD f) .none (.int n) = some (lD (f.take n.toNat)) := by
  have e : n = (n.toNat : Int) := by omega
  rw [e]; exact slc_lD (by omega)
theorem slc_tD {f : Po} {n : Nat} : slcV (tupD f) .none (.int n) = some (tupD (f.take n)) := by
  have e : cutD (f.map .int) none (some (n : Int)) = (f.take n).map .int := by
    unfold cutD
    rw [HT.sIx_nat, HT.sIx_none, List.length_map, List.drop_zero, Nat.sub_zero, List.map_take]
    rw [← List.length_map (f := PyData.int), ← List.take_take, List.take_length]
  show some (PyData.tuple (cutD (f.map .int) none (some (n : Int)))) = _
  rw [e]; rfl
theorem tup_lD (f : Po) : biV .toTuple [lD f] = some (tupD f) := rfl
theorem lst_tD (f : Po) : biV .toList [tupD f] = some (lD f) := rfl
theorem ixN_nn {n : Nat} {i : Int} (h0 : 0 ≤ i) (h1 : i < n) : L2.ixN n i = some i.toNat := by
  unfold L2.ixN
  rw [if_pos h0, if_pos (by omega)]
theorem set_lD {f : Po} {i v : Int} (h0 : 0 ≤ i) (h1 : i < f.length) : setIxV (lD f) (.int i) (.int v) = some (lD (f.set i.toNat v)) := by
  show (L2.ixN (f.map PyData.int).length i).map (fun j => PyData.list ((f.map PyData.int).set j (.int v))) = _
  rw [List.length_map, ixN_nn h0 h1]
  simp [lD, List.map_set]
theorem pop_lD {f : Po} (h : f ≠ []) : popV (lD f) = some (lD f.dropLast) := by
  show (if (f.map PyData.int).isEmpty then none else some (PyData.list (f.map PyData.int).dropLast)) = _
  rw [if_neg (by simpa using h), ← List.map_dropLast]; rfl
theorem rep_lD {n : Int} (h : n ≤ 16777216) (h2 : 0 ≤ n) : binV .lrep (.list [.int 0]) (.int n) = some (lD (List.replicate n.toNat 0)) := by
  have e : (List.replicate n.toNat [PyData.int 0]).flatten = (List.replicate n.toNat (0 : Int)).map .int := by
    rw [List.map_replicate]
    generalize n.toNat = k
    induction k with
    | zero => rfl
    | succ k ih => rw [List.replicate_succ, List.flatten_cons, ih, List.replicate_succ]; rfl
  show (if decide (n.natAbs < 16777217) && decide ([PyData.int 0].length * n.toNat ≤ lineN) then some (PyData.list (List.replicate n.toNat [PyData.int 0]).flatten) else none) = _
  rw [decide_eq_true (show n.natAbs < 16777217 by omega), decide_eq_true (show [PyData.int 0].length * n.toNat ≤ lineN by unfold lineN; simp; omega), e]; rfl
theorem enum_at {f : Po} {k : Nat} {x : D} (h : ((f.map PyData.int).zipIdx.map fun p => PyData.tuple [.int p.2, p.1])[k]? = some x) : k < f.length ∧ x = .tuple [.int k, .int (cf f k)] := by
  rw [List.getElem?_map, List.getElem?_zipIdx] at h
  have hk : k < f.length := by
    rcases Nat.lt_or_ge k f.length with q | q
    · exact q
    · rw [List.getElem?_map, List.getElem?_eq_none q] at h; simp at h
  rw [List.getElem?_map, get_cf hk] at h
  simp at h
  exact ⟨hk, h.symm⟩
theorem enum_len (f : Po) : ((f.map PyData.int).zipIdx.map fun p => PyData.tuple [.int p.2, p.1]).length = f.length := by simp
theorem enum_t (f : Po) : itV .enum [tupD f] = some ((f.map PyData.int).zipIdx.map fun p => PyData.tuple [.int p.2, p.1]) := rfl
theorem enum_l (f : Po) : itV .enum [lD f] = some ((f.map PyData.int).zipIdx.map fun p => PyData.tuple [.int p.2, p.1]) := rfl
theorem seq_t (f : Po) : itV .seq [tupD f] = some (f.map .int) := rfl
theorem seq_l (f : Po) : itV .seq [lD f] = some (f.map .int) := rfl
theorem map_at {f : Po} {k : Nat} {x : D} (h : (f.map PyData.int)[k]? = some x) : k < f.length ∧ x = .int (cf f k) := by
  have hk : k < f.length := by
    rcases Nat.lt_or_ge k f.length with q | q
    · exact q
    · rw [List.getElem?_map, List.getElem?_eq_none q] at h; simp at h
  rw [List.getElem?_map, get_cf hk] at h
  simp at h
  exact ⟨hk, h.symm⟩
theorem lay_po : ∀ f : Po, PyData.canLayAll0 (f.map .int) = true
  | [] => rfl
  | a :: f => by rw [List.map_cons]; unfold PyData.canLayAll0; rw [lay_po f]; rfl
theorem dep_po0 : ∀ f : Po, PyData.depthAll (f.map .int) = 0
  | [] => rfl
  | a :: f => by rw [List.map_cons]; unfold PyData.depthAll; rw [dep_po0 f]; rfl
theorem shp_t (f : Po) : shp (tupD f) = true := by
  unfold shp SeqAt.shaped tupD PyData.canLay0 PyData.depth
  rw [lay_po, dep_po0]; rfl
theorem eqv_po : ∀ f g : Po, PyData.eqvAll (f.map .int) (g.map .int) = decide (f = g)
  | [], [] => rfl
  | [], b :: g => rfl
  | a :: f, [] => rfl
  | a :: f, b :: g => by
    rw [List.map_cons, List.map_cons]
    unfold PyData.eqvAll
    rw [eqv_po f g]
    have : PyData.eqv (.int a) (.int b) = decide (a = b) := by simp [PyData.eqv]; rfl
    rw [this]
    by_cases q : a = b <;> simp [q]
theorem eq_tD (f g : Po) : cmpV .eq (tupD f) (tupD g) = some (decide (f = g)) := by
  show (if shp (tupD f) && shp (tupD g) then some (PyData.eqv (tupD f) (tupD g)) else lensV (tupD f) (tupD g)) = _
  rw [shp_t, shp_t]
  show some (PyData.eqv (.tuple (f.map .int)) (.tuple (g.map .int))) = _
  unfold PyData.eqv
  rw [eqv_po]
theorem ne_tD (f g : Po) : cmpV .ne (tupD f) (tupD g) = some (!decide (f = g)) := by
  show (cmpV .eq (tupD f) (tupD g)).map (!·) = _
  rw [eq_tD]; rfl
theorem eq_t0 (f : Po) : cmpV .eq (tupD f) (.tuple []) = some (decide (f = [])) := eq_tD f []
theorem ne_t0 (f : Po) : cmpV .ne (tupD f) (.tuple []) = some (!decide (f = [])) := ne_tD f []
theorem eq_t1 (f : Po) (a : Int) : cmpV .eq (tupD f) (.tuple [.int a]) = some (decide (f = [a])) := eq_tD f [a]
theorem down_at {i : Int} {n k : Nat} {x : D} (h : (downD i n)[k]? = some x) : k < n ∧ x = .int (i - k) := by
  unfold downD at h
  rw [List.getElem?_map] at h
  obtain ⟨j, hj, rfl⟩ := Option.map_eq_some_iff.mp h
  have hk : k < n := by
    have := (List.getElem?_eq_some_iff.mp hj).1
    rwa [List.length_range] at this
  rw [List.getElem?_range hk] at hj
  cases hj
  exact ⟨hk, rfl⟩
theorem down_len (i : Int) (n : Nat) : (downD i n).length = n := by unfold downD; rw [List.length_map, List.length_range]
theorem itV_rd {i j : Int} (h1 : -4611686018427387904 < i) (h2 : i < 4611686018427387904) (h3 : -4611686018427387904 < j) (h4 : j < 4611686018427387904) : itV .rngd [.int i, .int j, .int (-1)] = some (downD i (i - j).toNat) := by
  simp [itV, show i.natAbs < 4611686018427387904 by omega, show j.natAbs < 4611686018427387904 by omega]
theorem mulOk_sm {a b : Int} (h0 : -1000000 < b) (h1 : b < 1000000) : mulOk a b = true := mulOk_r (by omega)
end Pv
end

section
/-! PqS: values of small leaves, shown. -/
set_option autoImplicit false
namespace Pv
open PySem
mutual
def small : D → Bool
  | .none | .bool _ => true
  | .int i => decide (i.natAbs < 2 ^ 20)
  | .str x => PyData.strOk x && decide (x.cps.size ≤ 20)
  | .list xs | .tuple xs => smallAll xs
  | .dict _ => false
def smallAll : List D → Bool
  | [] => true
  | x :: xs => small x && smallAll xs
end
mutual
/-- how many leaves -/
def cn : D → Nat
  | .list xs | .tuple xs => cnAll xs + 1
  | .none | .bool _ | .int _ | .str _ | .dict _ => 1
def cnAll : List D → Nat
  | [] => 0
  | x :: xs => cn x + cnAll xs
end
theorem p20' : (2 : Nat) ^ 20 ≤ 10 ^ 12 := by decide
theorem small_int {i : Int} (h : i.natAbs < 2 ^ 20) : fine (.int i) = true ∧ (PyData.int i).intsShort 13 = true ∧ (PyData.int i).weight ≤ 20 := by
  have h2 : i.natAbs < 10 ^ 12 := Nat.lt_of_lt_of_le h p20'
  refine ⟨decide_eq_true (Nat.lt_of_lt_of_le h2 (by decide +kernel)), ?_, ?_⟩
  · have e := int_text_length_le10 (k := 12) (by decide) h2
    have e2 : (PyData.shown (.int i)).length ≤ 13 := by
      show (Str.ofString (toString i)).length ≤ 13
      rw [ofString_length]; exact e
    exact decide_eq_true e2
  · unfold PyData.weight
    split
    · omega
    · rename_i z
      have : i.natAbs ≠ 0 := by
        intro q
        apply z
        have : i = 0 := by omega
        rw [this]; rfl
      have := (Nat.log2_lt this).mpr h
      omega
mutual
theorem small_ok : ∀ d : D, small d = true → fine d = true ∧ d.intsShort 13 = true ∧ d.weight + 1 ≤ 22 * cn d
  | .none, _ => ⟨rfl, rfl, by simp [PyData.weight, cn]⟩
  | .bool b, _ => ⟨rfl, rfl, by simp [PyData.weight, cn]⟩
  | .int i, h => by
    obtain ⟨h1, h2, h3⟩ := small_int (of_decide_eq_true h)
    exact ⟨h1, h2, by simp only [cn]; omega⟩
  | .str x, h => by
    unfold small at h
    simp only [Bool.and_eq_true, decide_eq_true_eq] at h
    exact ⟨h.1, rfl, by simp only [PyData.weight, cn]; omega⟩
  | .list xs, h => by
    obtain ⟨h1, h2, h3⟩ := small_all xs h
    exact ⟨h1, h2, by simp only [PyData.weight, cn]; omega⟩
  | .tuple xs, h => by
    obtain ⟨h1, h2, h3⟩ := small_all xs h
    exact ⟨h1, h2, by simp only [PyData.weight, cn]; omega⟩
  | .dict _, h => by cases h
theorem small_all : ∀ xs : List D, smallAll xs = true → fineAll xs = true ∧ PyData.intsShortAll 13 xs = true ∧ PyData.weightAll xs ≤ 22 * cnAll xs
  | [], _ => ⟨rfl, rfl, by simp [PyData.weightAll]⟩
  | x :: xs, h => by
    unfold smallAll at h
    simp only [Bool.and_eq_true] at h
    obtain ⟨h1, h2, h3⟩ := small_ok x h.1
    obtain ⟨k1, k2, k3⟩ := small_all xs h.2
    refine ⟨?_, ?_, ?_⟩
    · unfold fineAll; rw [h1, k1]; rfl
    · unfold PyData.intsShortAll; rw [h2, k2]; rfl
    · simp only [PyData.weightAll, cnAll]; omega
end
theorem shp_small {d : D} (h : small d = true) (hd : d.depth ≤ 64) : shp d = true := by
  show (d.canLay0 && decide (d.depth ≤ 64)) = true
  rw [fine_lay _ (small_ok d h).1, decide_eq_true hd]; rfl
theorem show_small {d : D} (h : small d = true) (hd : d.depth ≤ 64) (hc : cn d ≤ 47000) : showOk d = true := by
  obtain ⟨h1, h2, h3⟩ := small_ok d h
  have lay := fine_lay _ h1
  have sh : d.showable = true := (fine_short _ h1).2
  have wt : d.weight ≤ 2 ^ 20 := by
    have : (2 : Nat) ^ 20 = 1048576 := by decide
    omega
  have ly : PyData.layable0 d = true := by
    unfold PyData.layable0
    rw [lay, decide_eq_true hd, decide_eq_true wt]; rfl
  have ln := PyData.shown_le_of_layable0 ly h2
  unfold showOk
  rw [shp_small h hd, sh, Bool.true_or, Bool.true_and, Bool.true_and]
  refine decide_eq_true ?_
  unfold lineN
  omega
theorem small_ints : ∀ {f : Po}, (∀ x ∈ f, 0 ≤ x ∧ x < 1000) → smallAll (f.map .int) = true ∧ cnAll (f.map .int) = f.length
  | [], _ => ⟨rfl, rfl⟩
  | a :: f, h => by
    obtain ⟨h1, h2⟩ := small_ints (f := f) fun x hx => h x (List.mem_cons_of_mem _ hx)
    have := h a List.mem_cons_self
    rw [List.map_cons]
    refine ⟨?_, ?_⟩
    · unfold smallAll
      rw [h1, Bool.and_true]
      exact decide_eq_true (by have : (2 : Nat) ^ 20 = 1048576 := by decide
                               omega)
    · unfold cnAll cn
      rw [h2, List.length_cons]; omega
theorem small_po {p : Int} {f : Po} (hp : Pm p) (h : Can p f) : small (tupD f) = true := (small_ints fun x hx => by have := h.in_ x hx; have := hp.bd; omega).1
theorem cn_po {p : Int} {f : Po} (hp : Pm p) (h : Can p f) : cn (tupD f) = f.length + 1 := by
  unfold tupD cn
  rw [(small_ints fun x hx => by have := h.in_ x hx; have := hp.bd; omega).2]
theorem dep_po (f : Po) : (tupD f).depth = 1 := by unfold tupD PyData.depth; rw [dep_po0]
theorem show_po {p : Int} {f : Po} (hp : Pm p) (h : Can p f) (hl : f.length ≤ 40000) : showOk (tupD f) = true :=
  show_small (small_po hp h) (by rw [dep_po]; omega) (by rw [cn_po hp h]; omega)
theorem show_none : showOk .none = true := show_small rfl (Nat.zero_le _) (by decide)
theorem show_po2 {p : Int} {f h : Po} (hp : Pm p) (cf_ : Can p f) (ch : Can p h) (hl : f.length ≤ 20000) (hl2 : h.length ≤ 20000) : showOk (.list [tupD f, tupD h]) = true :=
  show_small (by simp [small, smallAll, small_po hp cf_, small_po hp ch]) (by simp [PyData.depth, PyData.depthAll, dep_po]) (by simp [cn, cnAll, cn_po hp cf_, cn_po hp ch]; omega)
/-! ### more of lists and ranges -/
theorem eqv_list (f g : Po) : cmpV .eq (lD f) (lD g) = some (decide (f = g)) := by
  have s : ∀ f : Po, shp (lD f) = true := fun f => by
    unfold shp SeqAt.shaped lD PyData.canLay0 PyData.depth
    rw [lay_po, dep_po0]; rfl
  show (if shp (lD f) && shp (lD g) then some (PyData.eqv (lD f) (lD g)) else lensV (lD f) (lD g)) = _
  rw [s, s]
  show some (PyData.eqv (.list (f.map .int)) (.list (g.map .int))) = _
  unfold PyData.eqv
  rw [eqv_po]
theorem eq_l0 (f : Po) : cmpV .eq (lD f) (.list []) = some (decide (f = [])) := eqv_list f []
theorem itV_r1 {j : Int} (h1 : -4611686018427387904 < j) (h2 : j < 4611686018427387904) : itV .rng1 [.int j] = some (rangeD 0 j.toNat) := by simp [itV, show j.natAbs < 4611686018427387904 by omega]
theorem itV_r2 {i j : Int} (h1 : -4611686018427387904 < i) (h2 : i < 4611686018427387904) (h3 : -4611686018427387904 < j) (h4 : j < 4611686018427387904) : itV .rng2 [.int i, .int j] = some (rangeD i (j - i).toNat) := by simp [itV, show i.natAbs < 4611686018427387904 by omega, show j.natAbs < 4611686018427387904 by omega]
theorem range_at {i : Int} {n k : Nat} {x : D} (h : (rangeD i n)[k]? = some x) : k < n ∧ x = .int (i + k) := by
  unfold rangeD at h
  rw [List.getElem?_map] at h
  obtain ⟨j, hj, rfl⟩ := Option.map_eq_some_iff.mp h
  have hk : k < n := by
    have := (List.getElem?_eq_some_iff.mp hj).1
    rwa [List.length_range] at this
  rw [List.getElem?_range hk] at hj
  cases hj
  exact ⟨hk, rfl⟩
theorem range_len (i : Int) (n : Nat) : (rangeD i n).length = n := by unfold rangeD; rw [List.length_map, List.length_range]
theorem range_em (i : Int) (n : Nat) : rangeD i n = (List.range n).map fun k : Nat => .int (i + k) := rfl
theorem range_map (i : Int) (n : Nat) : rangeD i n = ((List.range n).map fun k : Nat => i + k).map .int := by unfold rangeD; rw [List.map_map]; rfl
theorem ladd_lD {f g : Po} (h : f.length + g.length ≤ 10000000) : binV .add (lD f) (lD g) = some (lD (f ++ g)) := by
  show (if decide ((f.map PyData.int).length + (g.map PyData.int).length ≤ lineN) then some (PyData.list (f.map .int ++ g.map .int)) else none) = _
  rw [List.length_map, List.length_map, decide_eq_true (by unfold lineN; omega), ← List.map_append]; rfl
theorem lcat_lD {f g : Po} (h : f.length + g.length ≤ 10000000) : binV .lcat (lD f) (lD g) = some (lD (f ++ g)) := by
  show (if decide ((f.map PyData.int).length + (g.map PyData.int).length ≤ lineN) then some (PyData.list (f.map .int ++ g.map .int)) else none) = _
  rw [List.length_map, List.length_map, decide_eq_true (by unfold lineN; omega), ← List.map_append]; rfl
theorem Pm.p4 {p : Int} (h : Pm p) : 0 ≤ p ^ 4 ∧ p ^ 4 < 10000000000 ∧ 0 ≤ p * p - 1 ∧ p * p < 1000000 := (by decide : ∀ p ∈ pmL, 0 ≤ p ^ 4 ∧ p ^ 4 < 10000000000 ∧ 0 ≤ p * p - 1 ∧ p * p < 1000000) p h.in_
end Pv
end

section
/-! FhD: decks of the second family, draws, picks, primes. -/
set_option autoImplicit false
namespace Xk15
open PySem Pv
variable {Φ : Fns} {g : G}
def DkB (g : G) : Prop := ∃ st : Dk, g = some st ∧ st.cells.length ≤ 63
abbrev DrawC (Φ : Fns) (i : Nat) : Prop := ∀ (many : Int) (g : G), DkB g → 0 < many → many < 100000000000000000000 → Ok (Φ i [tokD 0, .int many] g) fun r g' => DkB g' ∧ ∃ i, r = .int i ∧ 0 ≤ i ∧ i < many
-- @F _law_draw DrawC draw_run 3
theorem draw_run {many : Int} (hd : DkB g) (h0 : 0 < many) (hl : many < 100000000000000000000) : Ok (Pv.run Φ fuel m__law_draw [some (tokD 0), some (.int many), none] g) (retF fun r g' => DkB g' ∧ ∃ i, r = .int i ∧ 0 ≤ i ∧ i < many) := by
  obtain ⟨st, rfl, hc⟩ := hd
  have p1 : powOk 10 18 = true := by decide
  have lg : ∀ k : Int, 0 < k → k < 100000000000000000000 → k.natAbs.log2 < 9000 := fun k hk hk2 => by
    have := (Nat.log2_lt (n := k.natAbs) (k := 70) (by omega)).mpr (by omega)
    omega
  unfold m__law_draw
  generalize hQ : retF _ = QQ
  rw [Ok_seq]; simp [dkGetV, dkSetV]
  have fin : ∀ (x2 : Option D) (st : Dk), st.cells.length ≤ 63 → Ok (Pv.run Φ fuel (.seq (.dkSet false (.var 0) (.bin .mod (.bi .toInt (.cons (.bin .add (.bin .add (.bin .mul (.dkGet false (.var 0)) (.c (.int 48271))) (.bin .mul (.dkGet true (.var 0)) (.c (.int 69621)))) (.c (.int 1))) .nil)) (.c (.int 2147483647))))
    (.ret (.bin .mod (.bin .fdiv (.bin .mod (.bi .toInt (.cons (.bin .mul (.dkGet false (.var 0)) (.dkGet false (.var 0))) .nil)) (.c (.int 2147483629))) (.c (.int 64))) (.var 1)))) [some (tokD 0), some (.int many), x2] (some st)) QQ := by
    intro x2 st hc
    have l1 : Nat.log2 64 < 9000 := by decide
    rw [Ok_seq]; simp [dkGetV, dkSetV]
    have a1 := emod_rg (st.mixed * 48271 + st.turn * 69621 + 1) (p := 2147483647) (by omega)
    generalize (st.mixed * 48271 + st.turn * 69621 + 1) % 2147483647 = m at *
    have m1 : mulOk m m = true := mulOk_r (by omega)
    simp [m1, l1, h0]
    subst hQ
    exact ⟨⟨_, rfl, hc⟩, _, rfl, Int.emod_nonneg _ (by omega), Int.emod_lt_of_pos _ h0⟩
  rw [Ok_seq]; simp [dkHasV, -Bool.exists_bool]
  by_cases he : st.cells = []
  · simp [he]
    exact fin _ _ (by simp [he])
  · have hne : st.cells.isEmpty = false := by simpa using he
    obtain ⟨c, hcl⟩ := getLast_some he
    have hlen : st.cells.dropLast.length < 63 := by
      have : 0 < st.cells.length := List.length_pos_iff.mpr he
      rw [List.length_dropLast]; omega
    refine ⟨true, by simpa using he, ?_⟩
    rw [if_pos rfl]
    rw [Ok_seq]; simp [dkPopV, hcl, -Bool.exists_bool]
    rw [Ok_seq]; simp [p1, -Bool.exists_bool]
    by_cases hb : 1000000000000000000 ≤ c
    · have l1 : st.cells.length - 1 < lineN := by unfold lineN; omega
      have mx : 0 < (if (2 : Int) < many then many else 2) ∧ (if (2 : Int) < many then many else 2) < 100000000000000000000 := by split <;> omega
      have l2 := lg _ mx.1 mx.2
      rw [if_pos hb]
      rw [Ok_seq]
      simp [dkPushV, l1]
      generalize (if (2 : Int) < many then many else 2) = d at *
      simp [mx.1, l2, dkPushV, l1, h0]
      subst hQ
      refine ⟨⟨_, rfl, ?_⟩, _, rfl, Int.emod_nonneg _ (by omega), Int.emod_lt_of_pos _ h0⟩
      simp
      omega
    · simp [hb, dkGetV, dkSetV]
      exact fin _ _ (by rw [List.length_dropLast]; simp; omega)
abbrev DeckC (Φ : Fns) (i : Nat) : Prop := Ok (Φ i [tokD 1] none) fun r g' => r = tokD 0 ∧ DkB g'
-- @F _law_deck DeckC deck_run 0
theorem deck_run {ns : List Int} : Ok (Pv.run Φ fuel (m__law_deck ns) [some (tokD 1), none, none, none] none) (retF fun r g' => r = tokD 0 ∧ DkB g') := by
  unfold m__law_deck
  generalize hQ : retF _ = QQ
  rw [Ok_seq]; simp [← List.map_take]
  refine ⟨_, rfl, by rw [List.length_map]; unfold lineN; have := List.length_take_le 63 ns; omega, ?_⟩
  generalize hN : ns.take 63 = xs
  have hl : xs.length ≤ 63 := by rw [← hN]; exact List.length_take_le _ _
  refine ok_compM (em := .int) (eo := .int) (u := fun x : Int => some x) (xs := xs) (fun x hx => ?_) ?_
  · rw [Ok_itemF]; simp [wipeS]
  · rw [List.filterMap_some]
    rw [Ok_seq, Ok_for]; simp [show PyData.list (xs.map .int) = lD xs from rfl, seq_l]
    refine ok_forL (fun k σ g2 => g2 = none ∧ ∃ (y : Option D) (m : Int), σ = [some (tokD 1), y, some (lD xs), some (.int m)]) ⟨rfl, _, _, rfl⟩ ?_ ?_
    · rintro k x σ g2 hx ⟨rfl, y, m, rfl⟩
      obtain ⟨hk, rfl⟩ := map_at hx
      generalize hI : loopF _ _ = II
      rw [Ok_turnF]; simp
      subst hI
      exact ⟨rfl, _, _, rfl⟩
    · rintro σ g2 ⟨rfl, y, m, rfl⟩
      have e : (xs.map PyData.int).reverse = xs.reverse.map PyData.int := (List.map_reverse ..).symm
      simp [lD]
      rw [e]
      simp [dkNewV, ints_map, -List.map_reverse]
      subst hQ
      exact ⟨rfl, _, rfl, by simp; omega⟩
abbrev PickTC (Φ : Fns) (i : Nat) : Prop := ∀ (xs : List D) (g : G), DkB g → xs ≠ [] → xs.length < 100000 → Ok (Φ i [tokD 0, .tuple xs] g) fun r g' => DkB g' ∧ r ∈ xs
abbrev PickLC (Φ : Fns) (i : Nat) : Prop := ∀ (xs : List D) (g : G), DkB g → xs ≠ [] → xs.length < 100000 → Ok (Φ i [tokD 0, .list xs] g) fun r g' => DkB g' ∧ r ∈ xs
-- @F _law_pick PickTC pickT_run 3 : _law_draw
theorem pickT_run {i0 : Nat} {xs : List D} (hd : DkB g) (hx : xs ≠ []) (hl : xs.length < 100000) (h0 : DrawC Φ i0) :
    Ok (Pv.run Φ fuel (m__law_pick i0) [some (tokD 0), some (.tuple xs)] g) (retF fun r g' => DkB g' ∧ r ∈ xs) := by
  have lp : 0 < xs.length := List.length_pos_iff.mpr hx
  unfold m__law_pick
  simp
  refine (h0 xs.length g hd (by omega) (by omega)).mono ?_
  rintro _ g' ⟨h1, i, rfl, h2, h3⟩
  obtain ⟨x, hx, e⟩ := idx_t h2 h3
  exact ⟨x, e, h1, hx⟩
-- @F _law_pick PickLC pickL_run 3 : _law_draw
theorem pickL_run {i0 : Nat} {xs : List D} (hd : DkB g) (hx : xs ≠ []) (hl : xs.length < 100000) (h0 : DrawC Φ i0) :
    Ok (Pv.run Φ fuel (m__law_pick i0) [some (tokD 0), some (.list xs)] g) (retF fun r g' => DkB g' ∧ r ∈ xs) := by
  have lp : 0 < xs.length := List.length_pos_iff.mpr hx
  unfold m__law_pick
  simp
  refine (h0 xs.length g hd (by omega) (by omega)).mono ?_
  rintro _ g' ⟨h1, i, rfl, h2, h3⟩
  obtain ⟨x, hx, e⟩ := idx_l h2 h3
  exact ⟨x, e, h1, hx⟩
abbrev PrimeC (Φ : Fns) (i : Nat) : Prop := ∀ (g : G), DkB g → Ok (Φ i [tokD 0] g) fun r g' => (∃ p, r = .int p ∧ Pm p) ∧ DkB g'
-- @F _law_prime PrimeC prime_run 1 : _law_draw _law_pick/PickTC
theorem prime_run {i0 i1 : Nat} (hd : DkB g) (h0 : DrawC Φ i0) (h1 : PickTC Φ i1) : Ok (Pv.run Φ fuel (m__law_prime i0 i1) [some (tokD 0)] g) (retF fun r g' => (∃ p, r = .int p ∧ Pm p) ∧ DkB g') := by
  unfold m__law_prime
  generalize hQ : retF _ = QQ
  have fin : ∀ (xs : Po) (g1 : G), DkB g1 → xs ≠ [] → xs.length < 1000 → (∀ x ∈ xs, x ∈ pmL) → Ok (Φ i1 [tokD 0, tupD xs] g1) fun a g => QQ (.rt a) g := by
    intro xs g1 h2 x0 xl xm
    refine (h1 (xs.map .int) g1 h2 (by simpa using x0) (by rw [List.length_map]; omega)).mono ?_
    rintro r g2 ⟨h5, h6⟩
    obtain ⟨x, hx, rfl⟩ := List.mem_map.mp h6
    subst hQ
    exact ⟨⟨x, rfl, ⟨xm x hx⟩⟩, h5⟩
  rw [Ok_seq]; simp [-Bool.exists_bool]
  refine (h0 5 g hd (by omega) (by omega)).mono ?_
  rintro _ g1 ⟨h2, i, rfl, h3, h4⟩
  simp [-Bool.exists_bool]
  by_cases z : i = 4
  · simp [z]
    exact fin (pmL.drop 14) g1 h2 (by decide) (by decide) fun x hx => List.mem_of_mem_drop hx
  · simp [z]
    exact fin (pmL.take 14) g1 h2 (by decide) (by decide) fun x hx => List.mem_of_mem_take hx
end Xk15
end

section
/-! PhN: the traces of all curves are small: the table's part, prime by prime. -/
set_option autoImplicit false
namespace Pv
/-- p and the sum of the characters of x x x + a x + b, for x below k -/
def sumN (p h a b : Nat) : Nat → Nat
  | 0 => 0
  | k + 1 => sumN p h a b k + (((k * k * k + a * k + b) % p) ^ h + 1) % p
def chkN (p : Nat) : Nat → Bool
  | 0 => false
  | s + 1 => Nat.blt ((s + 1) * (s + 1) + p * p) (4 * p + 2 * (s + 1) * p)
def hasB (p k : Nat) : Bool := chkN p (sumN p ((p - 1) / 2) k k p) && (chkN p (sumN p ((p - 1) / 2) 0 k p) && chkN p (sumN p ((p - 1) / 2) k 0 p))
def hasA (p : Nat) : Nat → Bool
  | 0 => true
  | k + 1 => hasB p k && hasA p k
theorem has_7 : hasA 7 7 = true := by decide +kernel
theorem has_11 : hasA 11 11 = true := by decide +kernel
theorem has_13 : hasA 13 13 = true := by decide +kernel
theorem has_17 : hasA 17 17 = true := by decide +kernel
theorem has_19 : hasA 19 19 = true := by decide +kernel
theorem has_23 : hasA 23 23 = true := by decide +kernel
theorem has_29 : hasA 29 29 = true := by decide +kernel
theorem has_31 : hasA 31 31 = true := by decide +kernel
theorem has_37 : hasA 37 37 = true := by decide +kernel
theorem has_41 : hasA 41 41 = true := by decide +kernel
theorem has_43 : hasA 43 43 = true := by decide +kernel
theorem has_47 : hasA 47 47 = true := by decide +kernel
theorem has_53 : hasA 53 53 = true := by decide +kernel
theorem has_59 : hasA 59 59 = true := by decide +kernel
theorem has_61 : hasA 61 61 = true := by decide +kernel
theorem has_67 : hasA 67 67 = true := by decide +kernel
theorem has_71 : hasA 71 71 = true := by decide +kernel
theorem has_73 : hasA 73 73 = true := by decide +kernel
theorem has_79 : hasA 79 79 = true := by decide +kernel
theorem has_83 : hasA 83 83 = true := by decide +kernel
theorem has_89 : hasA 89 89 = true := by decide +kernel
theorem has_97 : hasA 97 97 = true := by decide +kernel
theorem has_101 : hasA 101 101 = true := by decide +kernel
theorem has_103 : hasA 103 103 = true := by decide +kernel
theorem has_107 : hasA 107 107 = true := by decide +kernel
theorem has_109 : hasA 109 109 = true := by decide +kernel
theorem has_113 : hasA 113 113 = true := by decide +kernel
theorem has_127 : hasA 127 127 = true := by decide +kernel
theorem has_131 : hasA 131 131 = true := by decide +kernel
theorem has_137 : hasA 137 137 = true := by decide +kernel
theorem has_139 : hasA 139 139 = true := by decide +kernel
theorem has_149 : hasA 149 149 = true := by decide +kernel
theorem has_151 : hasA 151 151 = true := by decide +kernel
theorem has_157 : hasA 157 157 = true := by decide +kernel
theorem has_163 : hasA 163 163 = true := by decide +kernel
theorem has_167 : hasA 167 167 = true := by decide +kernel
theorem has_173 : hasA 173 173 = true := by decide +kernel
theorem has_179 : hasA 179 179 = true := by decide +kernel
theorem has_181 : hasA 181 181 = true := by decide +kernel
theorem has_191 : hasA 191 191 = true := by decide +kernel
theorem has_193 : hasA 193 193 = true := by decide +kernel
theorem has_197 : hasA 197 197 = true := by decide +kernel
theorem has_199 : hasA 199 199 = true := by decide +kernel
theorem has_all {p : Int} (h : Pm p) : hasA p.toNat p.toNat = true := by
  have q := h.in_
  simp only [pmL, List.mem_cons, List.not_mem_nil, or_false] at q
  rcases q with rfl | rfl | rfl | rfl | rfl | rfl | rfl | rfl | rfl | rfl | rfl | rfl | rfl | rfl | rfl | rfl | rfl | rfl | rfl | rfl | rfl | rfl | rfl | rfl | rfl | rfl | rfl | rfl | rfl | rfl | rfl | rfl | rfl | rfl | rfl | rfl | rfl | rfl | rfl | rfl | rfl | rfl | rfl
  · exact has_7
  · exact has_11
  · exact has_13
  · exact has_17
  · exact has_19
  · exact has_23
  · exact has_29
  · exact has_31
  · exact has_37
  · exact has_41
  · exact has_43
  · exact has_47
  · exact has_53
  · exact has_59
  · exact has_61
  · exact has_67
  · exact has_71
  · exact has_73
  · exact has_79
  · exact has_83
  · exact has_89
  · exact has_97
  · exact has_101
  · exact has_103
  · exact has_107
  · exact has_109
  · exact has_113
  · exact has_127
  · exact has_131
  · exact has_137
  · exact has_139
  · exact has_149
  · exact has_151
  · exact has_157
  · exact has_163
  · exact has_167
  · exact has_173
  · exact has_179
  · exact has_181
  · exact has_191
  · exact has_193
  · exact has_197
  · exact has_199
end Pv
end

section
/-! PhA: characters, sums of them, traces of curves: all are small. -/
set_option autoImplicit false
namespace Pv
open PySem
/-! ### sums -/
def tsum (u : Nat → Int) : Nat → Int
  | 0 => 0
  | k + 1 => tsum u k + u k
theorem tsum_congr {u v : Nat → Int} : ∀ {n : Nat}, (∀ k, k < n → u k = v k) → tsum u n = tsum v n
  | 0, _ => rfl
  | n + 1, h => by
    show tsum u n + u n = tsum v n + v n
    rw [tsum_congr fun k hk => h k (by omega), h n (by omega)]
theorem tsum_add (u v : Nat → Int) : ∀ n, tsum (fun k => u k + v k) n = tsum u n + tsum v n
  | 0 => rfl
  | n + 1 => by
    show tsum (fun k => u k + v k) n + (u n + v n) = tsum u n + u n + (tsum v n + v n)
    rw [tsum_add u v n]; omega
theorem tsum_mul (c : Int) (u : Nat → Int) : ∀ n, tsum (fun k => c * u k) n = c * tsum u n
  | 0 => by show (0 : Int) = c * 0; omega
  | n + 1 => by
    show tsum (fun k => c * u k) n + c * u n = c * (tsum u n + u n)
    rw [tsum_mul c u n, Int.mul_add]
theorem tsum_zero : ∀ n, tsum (fun _ => 0) n = 0
  | 0 => rfl
  | n + 1 => by show tsum (fun _ => 0) n + 0 = 0; rw [tsum_zero n]; rfl
theorem tsum_swap (u : Nat → Nat → Int) (m : Nat) : ∀ n, tsum (fun i => tsum (fun j => u i j) m) n = tsum (fun j => tsum (fun i => u i j) n) m
  | 0 => (tsum_zero m).symm
  | n + 1 => by
    show tsum (fun i => tsum (fun j => u i j) m) n + tsum (fun j => u n j) m = tsum (fun j => tsum (fun i => u i j) n + u n j) m
    rw [tsum_add, tsum_swap u m n]
/-- one place alone -/
theorem tsum_one (a : Nat) (w : Int) : ∀ n, tsum (fun k => if k = a then w else 0) n = if a < n then w else 0
  | 0 => by simp [tsum]
  | n + 1 => by
    show tsum (fun k => if k = a then w else 0) n + (if n = a then w else 0) = _
    rw [tsum_one a w n]
    by_cases h : n = a
    · subst h; simp
    · rw [if_neg h]
      by_cases q : a < n
      · rw [if_pos q, if_pos (by omega)]; omega
      · rw [if_neg q, if_neg (by omega)]; rfl
theorem sum_append (l m : List Int) : (l ++ m).sum = l.sum + m.sum := by
  induction l with
  | nil => simp
  | cons x l ih => rw [List.cons_append, List.sum_cons, List.sum_cons, ih]; omega
theorem sum_range (u : Nat → Int) : ∀ n, ((List.range n).map u).sum = tsum u n
  | 0 => rfl
  | n + 1 => by
    rw [List.range_succ, List.map_append, sum_append, sum_range u n]
    show tsum u n + (u n + 0) = tsum u n + u n
    omega
/-! ### characters -/
def hp (p : Int) : Nat := ((p - 1) / 2).toNat
def chi (p v : Int) : Int := (v ^ hp p + 1) % p - 1
theorem pow_mod (v p : Int) (n : Nat) : (v % p) ^ n % p = v ^ n % p := pow_emod' v p n
theorem emod_congr {a b p : Int} (h : p ∣ a - b) : a % p = b % p := Int.emod_eq_emod_iff_emod_sub_eq_zero.mpr (Int.emod_eq_zero_of_dvd h)
theorem dvd_of_emod {a b p : Int} (h : a % p = b % p) : p ∣ a - b := Int.dvd_of_emod_eq_zero (Int.emod_eq_emod_iff_emod_sub_eq_zero.mp h)
theorem chi_mod (p v : Int) : chi p (v % p) = chi p v := by
  unfold chi
  have e := pow_mod v p (hp p)
  have d := dvd_of_emod e
  rw [emod_congr (a := (v % p) ^ hp p + 1) (b := v ^ hp p + 1) (by rwa [show (v % p) ^ hp p + 1 - (v ^ hp p + 1) = (v % p) ^ hp p - v ^ hp p by omega])]
theorem chi_congr {p v w : Int} (h : p ∣ v - w) : chi p v = chi p w := by
  rw [← chi_mod p v, ← chi_mod p w, emod_congr h]
section
variable {p : Int}
theorem Pm.odd (h : Pm p) : p % 2 = 1 := (by decide : ∀ p ∈ pmL, p % 2 = 1) p h.in_
theorem Pm.hp2 (h : Pm p) : 2 * hp p = (p - 1).toNat := by
  have := h.odd; have := h.bd
  unfold hp; omega
/-- p - 1 -/
theorem Pm.fermat (h : Pm p) {v : Int} (hv : ¬ p ∣ v) : p ∣ v ^ (p - 1).toNat - 1 := by
  have e := h.iv hv
  have b := h.bd
  have d : p ∣ ivP p v - v ^ (p - 2).toNat := dvd_emod _ _
  have d2 := Int.dvd_sub e (Int.dvd_trans d (Int.dvd_mul_left v _))
  rw [show (p - 1).toNat = (p - 2).toNat + 1 by omega, Int.pow_succ]
  rwa [show v * ivP p v - 1 - v * (ivP p v - v ^ (p - 2).toNat) = v ^ (p - 2).toNat * v - 1 by grind] at d2
/-- a power of half of p - 1 -/
theorem Pm.half (h : Pm p) {v : Int} (hv : ¬ p ∣ v) : p ∣ v ^ hp p - 1 ∨ p ∣ v ^ hp p + 1 := by
  have f := h.fermat hv
  rw [← h.hp2, show 2 * hp p = hp p + hp p by omega, Int.pow_add] at f
  rw [show v ^ hp p * v ^ hp p - 1 = (v ^ hp p - 1) * (v ^ hp p + 1) by grind] at f
  exact h.dvd f
theorem Pm.chi1 (h : Pm p) {v : Int} (hd : p ∣ v ^ hp p - 1) : chi p v = 1 := by
  have b := h.bd
  unfold chi
  rw [emod_congr (b := 2) (by rwa [show v ^ hp p + 1 - 2 = v ^ hp p - 1 by omega]), Int.emod_eq_of_lt (by omega) (by omega)]; rfl
theorem Pm.chiN (h : Pm p) {v : Int} (hd : p ∣ v ^ hp p + 1) : chi p v = -1 := by
  unfold chi
  rw [Int.emod_eq_zero_of_dvd hd]; rfl
theorem Pm.chi0 (h : Pm p) {v : Int} (hd : p ∣ v) : chi p v = 0 := by
  have b := h.bd
  have : hp p ≠ 0 := by unfold hp; omega
  obtain ⟨n, hn⟩ : ∃ n, hp p = n + 1 := ⟨hp p - 1, by omega⟩
  unfold chi
  rw [hn, Int.pow_succ, emod_congr (b := 1) (by rw [Int.add_sub_cancel]; exact Int.dvd_trans hd (Int.dvd_mul_left _ _)), Int.emod_eq_of_lt (by omega) (by omega)]; rfl
theorem Pm.chi_cases (h : Pm p) (v : Int) : p ∣ v ∧ chi p v = 0 ∨ ¬ p ∣ v ∧ (chi p v = 1 ∨ chi p v = -1) := by
  by_cases d : p ∣ v
  · exact .inl ⟨d, h.chi0 d⟩
  · rcases h.half d with q | q
    · exact .inr ⟨d, .inl (h.chi1 q)⟩
    · exact .inr ⟨d, .inr (h.chiN q)⟩
/-- characters of products -/
theorem Pm.chi_mul (h : Pm p) (v w : Int) : chi p (v * w) = chi p v * chi p w := by
  by_cases dv : p ∣ v
  · rw [h.chi0 dv, h.chi0 (Int.dvd_trans dv (Int.dvd_mul_right _ _)), Int.zero_mul]
  by_cases dw : p ∣ w
  · rw [h.chi0 dw, h.chi0 (Int.dvd_trans dw (Int.dvd_mul_left _ _)), Int.mul_zero]
  have e : (v * w) ^ hp p = v ^ hp p * w ^ hp p := Int.mul_pow ..
  rcases h.half dv with q | q
  · rcases h.half dw with r | r
    · rw [h.chi1 q, h.chi1 r, h.chi1]; rfl
      rw [e]
      have := Int.dvd_add (Int.dvd_trans q (Int.dvd_mul_right _ (w ^ hp p))) r
      rwa [show (v ^ hp p - 1) * w ^ hp p + (w ^ hp p - 1) = v ^ hp p * w ^ hp p - 1 by grind] at this
    · rw [h.chi1 q, h.chiN r, h.chiN]; rfl
      rw [e]
      have := Int.dvd_add (Int.dvd_trans q (Int.dvd_mul_right _ (w ^ hp p))) r
      rwa [show (v ^ hp p - 1) * w ^ hp p + (w ^ hp p + 1) = v ^ hp p * w ^ hp p + 1 by grind] at this
  · rcases h.half dw with r | r
    · rw [h.chiN q, h.chi1 r, h.chiN]; rfl
      rw [e]
      have := Int.dvd_sub (Int.dvd_trans q (Int.dvd_mul_right _ (w ^ hp p))) r
      rwa [show (v ^ hp p + 1) * w ^ hp p - (w ^ hp p - 1) = v ^ hp p * w ^ hp p + 1 by grind] at this
    · rw [h.chiN q, h.chiN r, h.chi1]; rfl
      rw [e]
      have := Int.dvd_sub (Int.dvd_trans q (Int.dvd_mul_right _ (w ^ hp p))) r
      rwa [show (v ^ hp p + 1) * w ^ hp p - (w ^ hp p + 1) = v ^ hp p * w ^ hp p - 1 by grind] at this
/-! ### the sum of a curve -/
def fx (a b x : Int) : Int := x * x * x + a * x + b
def csum (p a b : Int) : Int := tsum (fun x : Nat => chi p (fx a b x)) p.toNat
/-- all residues, times a number -/
theorem Pm.reindex (h : Pm p) {d : Int} (hd : ¬ p ∣ d) (G : Int → Int) : tsum (fun y : Nat => G (d * y % p)) p.toNat = tsum (fun x : Nat => G x) p.toNat := by
  have b := h.bd
  have pp := h.pos
  have e1 : ∀ y : Nat, G (d * y % p) = tsum (fun x : Nat => if x = (d * y % p).toNat then G x else 0) p.toNat := fun y => by
    have r := emod_rg (d * y) pp
    have : (fun x : Nat => if x = (d * y % p).toNat then G x else 0) = fun x : Nat => if x = (d * y % p).toNat then G (d * y % p) else 0 := by
      funext x
      split
      · rename_i q; rw [q, Int.toNat_of_nonneg r.1]
      · rfl
    rw [this, tsum_one, if_pos (by omega)]
  rw [tsum_congr fun y _ => e1 y, tsum_swap]
  refine tsum_congr fun x hx => ?_
  -- just one y leads to x
  have iv := h.iv hd
  have rg := emod_rg (ivP p d * x) pp
  have key : ∀ y : Nat, y < p.toNat → (x = (d * y % p).toNat ↔ y = (ivP p d * x % p).toNat) := fun y hy => by
    have r := emod_rg (d * y) pp
    have d1 := dvd_emod (d * y) p
    have d2 := dvd_emod (ivP p d * x) p
    constructor
    · intro q
      have qx : (x : Int) = d * y % p := by omega
      have : p ∣ (y : Int) - ivP p d * x % p := by
        rw [← qx] at d1
        have z := Int.dvd_add (Int.dvd_add (Int.dvd_trans d1 (Int.dvd_mul_left (ivP p d) _)) (Int.dvd_trans iv (Int.dvd_mul_left (y : Int) _))) d2
        have z := Int.dvd_neg.mpr z
        rwa [show -(ivP p d * ((x : Int) - d * y) + y * (d * ivP p d - 1) + (ivP p d * x % p - ivP p d * x)) = (y : Int) - ivP p d * x % p by grind] at z
      have := rg_eq (x := (y : Int)) (y := ivP p d * x % p) (by omega) (by omega) rg.1 rg.2 this
      omega
    · intro q
      have qy : (y : Int) = ivP p d * x % p := by omega
      have : p ∣ (x : Int) - d * y % p := by
        rw [← qy] at d2
        have z := Int.dvd_add (Int.dvd_add (Int.dvd_trans d2 (Int.dvd_mul_left d _)) (Int.dvd_trans iv (Int.dvd_mul_left (x : Int) _))) d1
        have z := Int.dvd_neg.mpr z
        rwa [show -(d * ((y : Int) - ivP p d * x) + x * (d * ivP p d - 1) + (d * y % p - d * y)) = (x : Int) - d * y % p by grind] at z
      have := rg_eq (x := (x : Int)) (y := d * y % p) (by omega) (by omega) r.1 r.2 this
      omega
  rw [tsum_congr (v := fun y : Nat => if y = (ivP p d * x % p).toNat then G x else 0) fun y hy => by
    by_cases q : x = (d * y % p).toNat
    · rw [if_pos q, if_pos ((key y hy).mp q)]
    · rw [if_neg q, if_neg fun z => q ((key y hy).mpr z)], tsum_one, if_pos (by omega)]
/-- the curve by d d, d d d -/
theorem Pm.csum_twist (h : Pm p) {d : Int} (hd : ¬ p ∣ d) (a b : Int) {a' b' : Int} (ha : p ∣ a' - a * d * d) (hb : p ∣ b' - b * d * d * d) : csum p a' b' = chi p (d * d * d) * csum p a b := by
  unfold csum
  rw [← tsum_mul]
  rw [← h.reindex hd (fun x => chi p (fx a' b' x))]
  refine tsum_congr fun y _ => ?_
  rw [← h.chi_mul]
  refine chi_congr ?_
  have d1 := dvd_emod (d * y) p
  generalize d * (y : Int) % p = x at d1
  unfold fx
  have z := Int.dvd_add (Int.dvd_add (Int.dvd_trans d1 (Int.dvd_mul_left (x * x + x * (d * y) + d * y * (d * y) + a') _)) (Int.dvd_trans ha (Int.dvd_mul_left (d * (y : Int)) _))) hb
  rwa [show (x * x + x * (d * y) + d * y * (d * y) + a') * (x - d * y) + d * y * (a' - a * d * d) + (b' - b * d * d * d) = x * x * x + a' * x + b' - d * d * d * (y * y * y + a * y + b) by grind] at z
/-! ### small -/
def SmallT (p t : Int) : Prop := t * t < 4 * p
theorem sum_N {p : Int} (h : Pm p) (a b : Nat) : ∀ n : Nat, ((sumN p.toNat ((p.toNat - 1) / 2) a b n : Nat) : Int) = n + tsum (fun x : Nat => chi p (fx a b x)) n
  | 0 => rfl
  | n + 1 => by
    have bb := h.bd
    show (((sumN p.toNat ((p.toNat - 1) / 2) a b n + (((n * n * n + a * n + b) % p.toNat) ^ ((p.toNat - 1) / 2) + 1) % p.toNat : Nat) : Int)) = ((n + 1 : Nat) : Int) + (tsum (fun x : Nat => chi p (fx a b x)) n + chi p (fx a b n))
    have e1 := sum_N h a b n
    have e2 : hp p = (p.toNat - 1) / 2 := by unfold hp; omega
    have e3 : (((((n * n * n + a * n + b) % p.toNat) ^ ((p.toNat - 1) / 2) + 1) % p.toNat : Nat) : Int) = chi p (fx a b n) + 1 := by
      rw [← chi_mod, chi, e2]
      push_cast
      rw [Int.toNat_of_nonneg (by omega)]
      unfold fx
      omega
    rw [Int.natCast_add, e1, e3]
    omega
theorem chk_of {p s : Nat} (h : chkN p s = true) : s * s + p * p < 4 * p + 2 * s * p := by
  cases s with
  | zero => cases h
  | succ s => exact Nat.blt_eq.mp h
theorem has_at {p : Nat} : ∀ {n : Nat}, hasA p n = true → ∀ k, k < n → hasB p k = true
  | 0, _, k, hk => absurd hk (Nat.not_lt_zero _)
  | n + 1, h, k, hk => by
    unfold hasA at h
    rw [Bool.and_eq_true] at h
    rcases Nat.lt_or_ge k n with q | q
    · exact has_at h.2 k q
    · rw [show k = n by omega]; exact h.1
theorem Pm.small_of (h : Pm p) {a b : Nat} (hc : chkN p.toNat (sumN p.toNat ((p.toNat - 1) / 2) a b p.toNat) = true) : SmallT p (csum p a b) := by
  have bb := h.bd
  have e := sum_N h a b p.toNat
  have c := chk_of hc
  generalize sumN p.toNat ((p.toNat - 1) / 2) a b p.toNat = s at e c
  have e2 : csum p a b = s - p := by
    unfold csum
    rw [Int.toNat_of_nonneg (by omega)] at e
    omega
  unfold SmallT
  rw [e2]
  have c2 : ((s * s + p.toNat * p.toNat : Nat) : Int) < ((4 * p.toNat + 2 * s * p.toNat : Nat) : Int) := by exact_mod_cast c
  push_cast at c2
  rw [Int.toNat_of_nonneg (show 0 ≤ p by omega)] at c2
  have : ((s : Int) - p) * (s - p) = s * s + p * p - 2 * s * p := by grind
  omega
/-- THE BOUND: the trace of every curve is small -/
theorem Pm.hasse (h : Pm p) (a b : Int) : SmallT p (csum p a b) := by
  have bb := h.bd
  have pp := h.pos
  have tab := has_all h
  have red : ∀ a b a' b' : Int, p ∣ a' - a → p ∣ b' - b → csum p a' b' = csum p a b := fun a b a' b' ha hb => by
    have := h.csum_twist (d := 1) (fun z => by have := Int.le_of_dvd (by omega) z; omega) a b (a' := a') (b' := b') (by simpa using ha) (by simpa using hb)
    rw [this, show (1 : Int) * 1 * 1 = 1 by rfl, h.chi1 (v := 1) (by rw [Int.one_pow]; exact ⟨0, by omega⟩), Int.one_mul]
  have ra := emod_rg a pp
  have rb := emod_rg b pp
  have three : ∀ k : Nat, k < p.toNat → SmallT p (csum p k k) ∧ SmallT p (csum p 0 k) ∧ SmallT p (csum p k 0) := fun k hk => by
    have z := has_at tab k hk
    unfold hasB at z
    rw [Bool.and_eq_true, Bool.and_eq_true] at z
    exact ⟨h.small_of z.1, by simpa using h.small_of (a := 0) (b := k) z.2.1, by simpa using h.small_of (a := k) (b := 0) z.2.2⟩
  by_cases da : p ∣ a
  · rw [← red a b 0 (b % p) (by rw [Int.zero_sub]; exact Int.dvd_neg.mpr da) (dvd_emod _ _)]
    have := (three (b % p).toNat (by omega)).2.1
    rwa [Int.toNat_of_nonneg rb.1] at this
  by_cases db : p ∣ b
  · rw [← red a b (a % p) 0 (dvd_emod _ _) (by rw [Int.zero_sub]; exact Int.dvd_neg.mpr db)]
    have := (three (a % p).toNat (by omega)).2.2
    rwa [Int.toNat_of_nonneg ra.1] at this
  have iv := h.iv db
  have dd : ¬ p ∣ a * ivP p b := fun z => by
    rcases h.dvd z with q | q
    · exact da q
    · have := Int.dvd_sub (Int.dvd_trans q (Int.dvd_mul_left b _)) iv
      rw [show b * ivP p b - (b * ivP p b - 1) = 1 by omega] at this
      have := Int.le_of_dvd (by omega) this
      omega
  generalize hD : a * ivP p b = d at dd
  have rk := emod_rg (a * d * d) pp
  have tw := h.csum_twist dd a b (a' := a * d * d % p) (b' := a * d * d % p) (dvd_emod _ _) (by
    have z := dvd_emod (a * d * d) p
    have y := Int.dvd_trans iv (Int.dvd_mul_left (a * d * d) _)
    have z2 := Int.dvd_sub z y
    rw [← hD] at z2 ⊢
    rwa [show a * (a * ivP p b) * (a * ivP p b) % p - a * (a * ivP p b) * (a * ivP p b) - a * (a * ivP p b) * (a * ivP p b) * (b * ivP p b - 1) = a * (a * ivP p b) * (a * ivP p b) % p - b * (a * ivP p b) * (a * ivP p b) * (a * ivP p b) by grind] at z2)
  have s1 := (three (a * d * d % p).toNat (by omega)).1
  rw [Int.toNat_of_nonneg rk.1, tw] at s1
  have c3 : chi p (d * d * d) = 1 ∨ chi p (d * d * d) = -1 := by
    rcases h.chi_cases (d * d * d) with ⟨z, _⟩ | ⟨_, z⟩
    · rcases h.dvd z with y | y
      · rcases h.dvd y with y | y <;> exact (dd y).elim
      · exact (dd y).elim
    · exact z
  unfold SmallT at *
  rcases c3 with c | c <;> rw [c] at s1
  · simpa using s1
  · simpa [Int.neg_mul_neg] using s1
end
end Pv
end

section
/-! PhB: squares, roots, and the traces with given remainders. -/
set_option autoImplicit false
namespace Pv
open PySem
/-! ### squares -/
def isSq (p v : Int) : Nat → Bool
  | 0 => false
  | k + 1 => decide ((k : Int) * k % p = v) || isSq p v k
theorem isSq_iff {p v : Int} : ∀ {k : Nat}, isSq p v k = true ↔ ∃ r : Nat, r < k ∧ (r : Int) * r % p = v
  | 0 => by simp [isSq]
  | k + 1 => by
    unfold isSq
    rw [Bool.or_eq_true, decide_eq_true_eq, isSq_iff]
    constructor
    · rintro (h | ⟨r, hr, h⟩)
      · exact ⟨k, by omega, h⟩
      · exact ⟨r, by omega, h⟩
    · rintro ⟨r, hr, h⟩
      by_cases q : r = k
      · subst q; exact .inl h
      · exact .inr ⟨r, by omega, h⟩
def rootN (p v : Nat) : Nat → Bool
  | 0 => false
  | k + 1 => Nat.beq (k * k % p) v || rootN p v k
def rootA (p h : Nat) : Nat → Bool
  | 0 => true
  | k + 1 => (!(Nat.beq (k ^ h % p) 1) || rootN p k p) && rootA p h k
theorem root_all : ∀ p ∈ pmL.map Int.toNat, rootA p ((p - 1) / 2) p = true := by decide +kernel
theorem rootN_ex {p v : Nat} : ∀ {k : Nat}, rootN p v k = true → ∃ r, r < k ∧ r * r % p = v
  | 0, h => by cases h
  | k + 1, h => by
    unfold rootN at h
    rw [Bool.or_eq_true] at h
    rcases h with h | h
    · exact ⟨k, by omega, Nat.eq_of_beq_eq_true h⟩
    · obtain ⟨r, hr, e⟩ := rootN_ex h
      exact ⟨r, by omega, e⟩
theorem rootA_at {p h : Nat} : ∀ {n : Nat}, rootA p h n = true → ∀ k, k < n → k ^ h % p = 1 → rootN p k p = true
  | 0, _, k, hk, _ => absurd hk (Nat.not_lt_zero _)
  | n + 1, h, k, hk, e => by
    unfold rootA at h
    rw [Bool.and_eq_true, Bool.or_eq_true] at h
    rcases Nat.lt_or_ge k n with q | q
    · exact rootA_at h.2 k q e
    · rw [show n = k by omega] at h
      rcases h.1 with z | z
      · rw [e] at z; cases z
      · exact z
section
variable {p : Int}
theorem Pm.chi_one (h : Pm p) {v : Int} (hc : chi p v = 1) : v ^ hp p % p = 1 := by
  have b := h.bd
  unfold chi at hc
  have d := dvd_emod' (v ^ hp p + 1) p
  rw [show (v ^ hp p + 1) % p = 2 by omega, show v ^ hp p + 1 - 2 = v ^ hp p - 1 by omega] at d
  rw [emod_congr d, Int.emod_eq_of_lt (by omega) (by omega)]
theorem Pm.root_of (h : Pm p) {v : Int} (h0 : 0 ≤ v) (h1 : v < p) (hc : chi p v = 1) : isSq p v p.toNat = true := by
  have b := h.bd
  have e := h.chi_one hc
  have tab := root_all p.toNat (List.mem_map_of_mem h.in_)
  have e2 : v.toNat ^ ((p.toNat - 1) / 2) % p.toNat = 1 := by
    have e3 : hp p = (p.toNat - 1) / 2 := by unfold hp; omega
    rw [← e3]
    have : ((v.toNat ^ hp p % p.toNat : Nat) : Int) = 1 := by
      push_cast
      rw [Int.toNat_of_nonneg h0, Int.toNat_of_nonneg (by omega), e]
    omega
  obtain ⟨r, hr, q⟩ := rootN_ex (rootA_at tab v.toNat (by omega) e2)
  refine isSq_iff.mpr ⟨r, hr, ?_⟩
  have : ((r * r % p.toNat : Nat) : Int) = (v.toNat : Int) := by rw [q]
  push_cast at this
  rw [Int.toNat_of_nonneg h0, Int.toNat_of_nonneg (show 0 ≤ p by omega)] at this
  exact this
theorem Pm.chi_sq (h : Pm p) {r v : Int} (hr : ¬ p ∣ r) (e : p ∣ v - r * r) : chi p v = 1 := by
  rw [chi_congr e, h.chi_mul]
  rcases h.chi_cases r with ⟨z, _⟩ | ⟨_, z | z⟩
  · exact absurd z hr
  · rw [z]; rfl
  · rw [z]; rfl
theorem Pm.ndvd (h : Pm p) {v : Int} (h0 : 0 < v) (h1 : v < p) : ¬ p ∣ v := fun d => by
  have := Int.le_of_dvd h0 d
  omega
/-- the table of squares -/
theorem Pm.tab (h : Pm p) {v : Int} (h0 : 0 ≤ v) (h1 : v < p) : (if v = 0 then 0 else if isSq p v p.toNat = true then 1 else -1) = chi p v := by
  by_cases z : v = 0
  · subst z
    rw [if_pos rfl, h.chi0 (Int.dvd_zero _)]
  rw [if_neg z]
  have nd := h.ndvd (v := v) (by omega) h1
  by_cases q : isSq p v p.toNat = true
  · rw [if_pos q]
    obtain ⟨r, hr, e⟩ := isSq_iff.mp q
    have d := dvd_emod ((r : Int) * r) p
    rw [e] at d
    refine (h.chi_sq (fun w => nd ?_) d).symm
    have := Int.dvd_add d (Int.dvd_trans w (Int.dvd_mul_right _ (r : Int)))
    rwa [Int.sub_add_cancel] at this
  · rw [if_neg q]
    rcases h.chi_cases v with ⟨w, _⟩ | ⟨_, w | w⟩
    · exact absurd w nd
    · exact absurd (h.root_of h0 h1 w) q
    · exact w.symm
/-! ### roots -/
def rts (p v : Int) (n : Nat) : Int := tsum (fun r : Nat => if (r : Int) * r % p = v then 1 else 0) n
theorem Pm.sq_eq (h : Pm p) {r z : Int} (e : r * r % p = z * z % p) : p ∣ r - z ∨ p ∣ r + z := by
  have d := dvd_of_emod e
  rw [show r * r - z * z = (r - z) * (r + z) by grind] at d
  exact h.dvd d
theorem Pm.rts (h : Pm p) {v : Int} (h0 : 0 ≤ v) (h1 : v < p) : rts p v p.toNat = 1 + chi p v := by
  have b := h.bd
  have od := h.odd
  unfold Pv.rts
  by_cases hz : v = 0
  · subst hz
    rw [h.chi0 (Int.dvd_zero _), tsum_congr (v := fun r : Nat => if r = 0 then 1 else 0) fun r hr => ?_, tsum_one, if_pos (by omega)]
    · rfl
    · by_cases q : r = 0
      · subst q; simp
      · rw [if_neg q, if_neg]
        intro e
        have d := Int.dvd_of_emod_eq_zero e
        exact (h.dvd d).elim (h.ndvd (by omega) (by omega)) (h.ndvd (by omega) (by omega))
  rw [← h.tab h0 h1, if_neg hz]
  by_cases q : isSq p v p.toNat = true
  · rw [if_pos q]
    obtain ⟨z, hz2, e⟩ := isSq_iff.mp q
    have z0 : z ≠ 0 := fun w => by subst w; simp at e; omega
    rw [tsum_congr (v := fun r : Nat => (if r = z then (1 : Int) else 0) + (if r = p.toNat - z then 1 else 0)) fun r hr => ?_, tsum_add, tsum_one, tsum_one, if_pos hz2, if_pos (by omega)]
    by_cases c1 : r = z
    · subst c1
      rw [if_pos e, if_pos rfl, if_neg (by omega)]; rfl
    · rw [if_neg c1]
      by_cases c2 : r = p.toNat - z
      · rw [if_pos c2, if_pos]; rfl
        have : (r : Int) = p - z := by omega
        rw [this, ← e]
        refine emod_congr ⟨p - 2 * z, ?_⟩
        grind
      · rw [if_neg c2, if_neg]; rfl
        intro w
        rw [← e] at w
        rcases h.sq_eq w with d | d
        · have := rg_eq (x := (r : Int)) (y := z) (by omega) (by omega) (by omega) (by omega) d
          omega
        · obtain ⟨k, hk⟩ := d
          have k1 : 0 < k := by
            rcases Int.lt_or_le 0 k with a | a
            · exact a
            · have := Int.mul_le_mul_of_nonneg_left a (show 0 ≤ p by omega)
              simp at this; omega
          have k2 : k < 2 := by
            rcases Int.lt_or_le k 2 with a | a
            · exact a
            · have := Int.mul_le_mul_of_nonneg_left a (show 0 ≤ p by omega)
              omega
          have : k = 1 := by omega
          subst this
          omega
  · rw [if_neg q, tsum_congr (v := fun _ => 0) fun r hr => if_neg fun e => q (isSq_iff.mpr ⟨r, hr, e⟩), tsum_zero]; rfl
/-- the points of a curve, without the far one -/
theorem Pm.points (h : Pm p) (a b : Int) : ∀ n : Nat, tsum (fun x : Nat => Pv.rts p (fx a b x % p) p.toNat) n = n + tsum (fun x : Nat => chi p (fx a b x)) n
  | 0 => rfl
  | n + 1 => by
    have r := emod_rg (fx a b n) h.pos
    show tsum (fun x : Nat => Pv.rts p (fx a b x % p) p.toNat) n + Pv.rts p (fx a b n % p) p.toNat = ((n + 1 : Nat) : Int) + (tsum (fun x : Nat => chi p (fx a b x)) n + chi p (fx a b n))
    rw [h.points a b n, h.rts r.1 r.2, chi_mod]
    omega
end
/-! ### traces -/
def trL (p : Int) : List Int := (List.range (p + 1 - -p).toNat).filterMap fun k : Nat => if (-p + (k : Int)) * (-p + k) < 4 * p then some (-p + (k : Int)) else none
def okR (t : Int) (rs : List (Int × Int)) : Bool := rs.all fun q => decide (t % q.1 = q.2)
def fitL (p : Int) (rs : List (Int × Int)) : List Int := (trL p).filterMap fun t => if okR t rs = true then some t else none
theorem sq_lt {u n : Int} (h : u * u < n * n) (hn : 0 < n) : -n < u ∧ u < n := by
  constructor
  · rcases Int.lt_or_le (-n) u with q | q
    · exact q
    · have := Int.mul_le_mul (a := n) (b := n) (c := -u) (d := -u) (by omega) (by omega) (by omega) (by omega)
      rw [Int.neg_mul_neg] at this
      omega
  · rcases Int.lt_or_le u n with q | q
    · exact q
    · have := Int.mul_le_mul (a := n) (b := n) (c := u) (d := u) (by omega) (by omega) (by omega) (by omega)
      omega
theorem fm_none {α : Type} {u : Nat → Option α} : ∀ {n : Nat}, (∀ k, k < n → u k = none) → (List.range n).filterMap u = []
  | 0, _ => rfl
  | n + 1, h => by
    rw [List.range_succ, List.filterMap_append, fm_none fun k hk => h k (by omega)]
    simp [h n (by omega)]
theorem fm_one {α : Type} {u : Nat → Option α} {w : α} {a : Nat} : ∀ {n : Nat}, a < n → (∀ k, k < n → u k = if k = a then some w else none) → (List.range n).filterMap u = [w]
  | 0, ha, _ => absurd ha (Nat.not_lt_zero _)
  | n + 1, ha, h => by
    rw [List.range_succ, List.filterMap_append]
    by_cases q : a = n
    · rw [fm_none fun k hk => by rw [h k (by omega), if_neg (by omega)]]
      simp [h n (by omega), q]
    · rw [fm_one (a := a) (w := w) (by omega) fun k hk => h k (by omega)]
      simp [h n (by omega), show ¬ n = a by omega]
theorem small_eq {p t u : Int} (hp : Pm p) (ht : SmallT p t) (hu : SmallT p u) (h2 : t % 2 = u % 2) (h3 : t % 3 = u % 3) (h5 : t % 5 = u % 5) (h7 : p ≠ 7 → t % 7 = u % 7) : t = u := by
  have b := hp.bd
  unfold SmallT at *
  by_cases q : p = 7
  · subst q
    have := sq_lt (u := t) (n := 6) (by omega) (by omega)
    have := sq_lt (u := u) (n := 6) (by omega) (by omega)
    omega
  · have := h7 q
    have := sq_lt (u := t) (n := 29) (by omega) (by omega)
    have := sq_lt (u := u) (n := 29) (by omega) (by omega)
    omega
theorem okR_at {t l r : Int} {rs : List (Int × Int)} (h : okR t rs = true) (m : (l, r) ∈ rs) : t % l = r := of_decide_eq_true (List.all_eq_true.mp h _ m)
theorem fit_own {p t : Int} (hp : Pm p) (ht : SmallT p t) {rs : List (Int × Int)} (ho : okR t rs = true) (h2 : (2, t % 2) ∈ rs) (h3 : (3, t % 3) ∈ rs) (h5 : (5, t % 5) ∈ rs) (h7 : p ≠ 7 → (7, t % 7) ∈ rs) : fitL p rs = [t] := by
  have b := hp.bd
  have bt := sq_lt (u := t) (n := 29) (by unfold SmallT at ht; omega) (by omega)
  have bp : -p ≤ t ∧ t ≤ p := by
    rcases Int.lt_or_le 28 p with q | q
    · omega
    · have := sq_lt (u := t) (n := p) (by
        unfold SmallT at ht
        have := Int.mul_le_mul (a := 4) (b := p) (c := p) (d := p) (by omega) (by omega) (by omega) (by omega)
        omega) (by omega)
      omega
  unfold fitL trL
  rw [List.filterMap_filterMap]
  refine fm_one (a := (t + p).toNat) (by omega) fun k hk => ?_
  by_cases q : k = (t + p).toNat
  · have e : -p + (k : Int) = t := by omega
    rw [if_pos q, e, if_pos (show t * t < 4 * p from ht)]
    show (if okR t rs = true then some t else none) = some t
    rw [if_pos ho]
  · rw [if_neg q]
    by_cases s : (-p + (k : Int)) * (-p + k) < 4 * p
    · rw [if_pos s]
      show (if okR (-p + (k : Int)) rs = true then some (-p + (k : Int)) else none) = none
      rw [if_neg]
      intro w
      have := small_eq hp (t := -p + (k : Int)) (u := t) s ht (okR_at w h2) (okR_at w h3) (okR_at w h5) fun z => okR_at w (h7 z)
      omega
    · rw [if_neg s]; rfl
theorem fit_nil (p : Int) : fitL p [] = trL p := by
  unfold fitL okR
  simp
theorem trL_in {p t : Int} (h : t ∈ trL p) : -p ≤ t ∧ t ≤ p ∧ t * t < 4 * p := by
  unfold trL at h
  obtain ⟨k, hk, e⟩ := List.mem_filterMap.mp h
  have := List.mem_range.mp hk
  split at e
  · rename_i q
    cases e
    exact ⟨by omega, by omega, q⟩
  · cases e
theorem fit_in {p t : Int} {rs : List (Int × Int)} (h : t ∈ fitL p rs) : -p ≤ t ∧ t ≤ p ∧ t * t < 4 * p := by
  unfold fitL at h
  obtain ⟨k, hk, e⟩ := List.mem_filterMap.mp h
  split at e
  · cases e; exact trL_in hk
  · cases e
theorem trL_len (p : Int) : (trL p).length ≤ (p + 1 - -p).toNat := by
  unfold trL
  exact Nat.le_trans (List.length_filterMap_le _ _) (by rw [List.length_range]; omega)
theorem fit_len (p : Int) (rs : List (Int × Int)) : (fitL p rs).length ≤ (p + 1 - -p).toNat := Nat.le_trans (List.length_filterMap_le _ _) (trL_len p)
end Pv
end

section
/-! FhA: curves, tables of squares, traces. -/
set_option autoImplicit false
namespace Xk15
open PySem Pv
variable {Φ : Fns} {g : G}
theorem bools_map : ∀ bs : List Bool, boolsOf (bs.map .bool) = some bs
  | [] => rfl
  | b :: bs => by
    rw [List.map_cons]
    unfold boolsOf
    rw [bools_map bs]; rfl
abbrev IsIntC (Φ : Fns) (i : Nat) : Prop := ∀ (x : Int) (g : G), Φ i [.int x] g = .ok (.bool true) g
-- @E is_integer IsIntC is_int_run 0
theorem is_int_run {x : Int} : Ok (Pv.run Φ fuel m_is_integer [some (.int x)] g) (retF fun r g' => r = .bool true ∧ g' = g) := by
  unfold m_is_integer
  have b2 : biV .isInt [.int x] = some (.bool true) := by simp [biV, isDk]
  have b3 : biV .isBool [.int x] = some (.bool false) := by simp [biV, isDk]
  simp [b2, b3, -Bool.exists_bool]
abbrev IsPrimeC (Φ : Fns) (i : Nat) : Prop := ∀ (p : Int) (g : G), Pm p → Φ i [.int p] g = .ok (.bool true) g
theorem pm_small : ∀ p ∈ pmL, ∀ l ∈ [2, 3, 5, 7, 11, (13 : Int)], p % l = 0 → p = l := by decide +kernel
-- @E is_prime IsPrimeC is_prime_run 1 : is_integer
theorem is_prime_run {i0 : Nat} {p : Int} (hp : Pm p) (h0 : IsIntC Φ i0) : Ok (Pv.run Φ fuel (m_is_prime i0) [some (.int p), none] g) (retF fun r g' => r = .bool true ∧ g' = g) := by
  have b := hp.bd
  unfold m_is_prime
  generalize hQ : retF _ = QQ
  rw [Ok_seq]; simp [h0 p g, show ¬ p < 7 by omega, show ¬ 199 < p by omega, -Bool.exists_bool]
  rw [Ok_seq, Ok_for]; simp [-Bool.exists_bool]
  rw [show PyData.tuple [.int 2, .int 3, .int 5, .int 7, .int 11, .int 13] = tupD [2, 3, 5, 7, 11, 13] from rfl, seq_t]
  refine ⟨_, rfl, ?_⟩
  refine ok_forL (fun k σ g2 => g2 = g ∧ ∃ y : Option D, σ = [some (.int p), y]) ⟨rfl, none, rfl⟩ ?_ ?_
  · rintro k x σ g2 hx ⟨rfl, y, rfl⟩
    have hm := List.mem_of_getElem? hx
    obtain ⟨l, hl, rfl⟩ := List.mem_map.mp hm
    have f := pm_small p hp.in_ l hl
    have lp : 0 < l := by
      have : ∀ l ∈ [2, 3, 5, 7, 11, (13 : Int)], 0 < l := by decide
      exact this l hl
    generalize hI : loopF _ _ = II
    rw [Ok_turnF]; simp [lp, -Bool.exists_bool]
    subst hI
    by_cases z : p % l = 0
    · simp [z, f z, -Bool.exists_bool]
    · simp [z, -Bool.exists_bool]
  · rintro σ g2 ⟨rfl, y, rfl⟩
    simp
    subst hQ
    exact ⟨rfl, rfl⟩
abbrev IsNumC (Φ : Fns) (i : Nat) : Prop := ∀ (p a : Int) (g : G), 0 ≤ a → a < p → Φ i [.int p, .int a] g = .ok (.bool true) g
-- @E is_number IsNumC is_num_run 2 : is_integer
theorem is_num_run {i0 : Nat} {p a : Int} (h1 : 0 ≤ a) (h2 : a < p) (h0 : IsIntC Φ i0) : Ok (Pv.run Φ fuel (m_is_number i0) [some (.int p), some (.int a)] g) (retF fun r g' => r = .bool true ∧ g' = g) := by
  unfold m_is_number
  simp [h0 a g, h1, h2, -Bool.exists_bool]
def curD (p a b : Int) : D := objD 0 [(.str "prime", .int p), (.str "a", .int a), (.str "b", .int b)]
theorem cur_p (p a b : Int) : fldV (curD p a b) "prime" = some (.int p) := by rfl
theorem cur_a (p a b : Int) : fldV (curD p a b) "a" = some (.int a) := by rfl
theorem cur_b (p a b : Int) : fldV (curD p a b) "b" = some (.int b) := by rfl
/-- numbers of a curve -/
structure Cu (p a b : Int) : Prop where
  pm : Pm p
  a0 : 0 ≤ a
  a1 : a < p
  b0 : 0 ≤ b
  b1 : b < p
  ns : (4 * a * a * a + 27 * b * b) % p ≠ 0
theorem set_0 (v : D) : setFV 0 "prime" v (objD 0 []) = some (objD 0 [(.str "prime", v)]) := rfl
theorem set_1 (v w : D) : setFV 0 "a" w (objD 0 [(.str "prime", v)]) = some (objD 0 [(.str "prime", v), (.str "a", w)]) := rfl
theorem set_2 (v w x : D) : setFV 0 "b" x (objD 0 [(.str "prime", v), (.str "a", w)]) = some (objD 0 [(.str "prime", v), (.str "a", w), (.str "b", x)]) := rfl
abbrev MkCurC (Φ : Fns) (i : Nat) : Prop := ∀ (p a b : Int) (g : G), Cu p a b → Φ i [objD 0 [], .int p, .int a, .int b] g = .ok (curD p a b) g
-- @E Curve___init__ MkCurC mk_cur_run 1 : is_number is_prime
theorem mk_cur_run {i0 i1 : Nat} {p a b : Int} (c : Cu p a b) (h0 : IsNumC Φ i0) (h1 : IsPrimeC Φ i1) : Ok (Pv.run Φ fuel (m_Curve___init__ i0 i1) [some (objD 0 []), some (.int p), some (.int a), some (.int b)] g) (retF fun r g' => r = curD p a b ∧ g' = g) := by
  have bd := c.pm.bd
  have m1 := mulOk_sm (a := 4) (b := a) (by have := c.a0; omega) (by have := c.a1; omega)
  have m2 : ∀ x : Int, mulOk x a = true := fun x => mulOk_sm (by have := c.a0; omega) (by have := c.a1; omega)
  have m3 : ∀ x : Int, mulOk x b = true := fun x => mulOk_sm (by have := c.b0; omega) (by have := c.b1; omega)
  unfold m_Curve___init__ n_Curve___init__
  generalize hQ : retF _ = QQ
  rw [Ok_seq, Ok_seq]; simp [h1 p g c.pm, -Bool.exists_bool]
  rw [Ok_seq]; simp [h0 p a g c.a0 c.a1, -Bool.exists_bool]
  rw [Ok_seq]; simp [h0 p b g c.b0 c.b1, -Bool.exists_bool]
  rw [Ok_seq]; simp [m2, m3, bd, c.ns, c.pm.pos, -Bool.exists_bool]
  rw [Ok_seq]; simp [set_0]
  rw [Ok_seq]; simp [set_1]
  simp [set_2]
  subst hQ
  exact ⟨rfl, rfl⟩
/-! ### tables -/
structure Tab (p : Int) (xs : Po) : Prop where
  len : xs.length = p.toNat
  at_ : ∀ v : Int, 0 ≤ v → v < p → cf xs v.toNat = chi p v
theorem fm_map {α β : Type} (u : α → β) (l : List α) : l.filterMap (fun x => some (u x)) = l.map u := by
  show l.filterMap (some ∘ u) = _
  rw [List.filterMap_eq_map]
theorem fm_repl (w : Int) (n : Nat) : (List.range n).filterMap (fun _ : Nat => some w) = List.replicate n w := by
  rw [fm_map]
  induction n with
  | zero => rfl
  | succ n ih => rw [List.range_succ, List.map_append, ih, List.replicate_succ']; rfl
theorem cf_replW {w : Int} {n i : Nat} (h : i < n) : cf (List.replicate n w) i = w := by
  rw [cf_lt (by rw [List.length_replicate]; exact h)]; simp
theorem sq_rg {p : Int} (hp : Pm p) (r : Nat) : 0 ≤ (r : Int) * r % p ∧ (r : Int) * r % p < p := emod_rg _ hp.pos
abbrev SqTabC (Φ : Fns) (i : Nat) : Prop := ∀ (p : Int) (g : G), Pm p → Ok (Φ i [.int p] g) fun r g' => (∃ xs, r = lD xs ∧ Tab p xs) ∧ g' = g
-- @F square_table SqTabC sq_tab_run 1
theorem sq_tab_run {p : Int} (hp : Pm p) : Ok (Pv.run Φ fuel m_square_table [some (.int p), none, none, none] g) (retF fun r g' => (∃ xs, r = lD xs ∧ Tab p xs) ∧ g' = g) := by
  have bd := hp.bd
  unfold m_square_table
  generalize hQ : retF _ = QQ
  rw [Ok_seq]; simp
  rw [itV_r1 (by omega) (by omega)]; simp [range_len]
  refine ⟨by unfold lineN; omega, ?_⟩
  rw [range_em]
  refine ok_compM (em := fun k : Nat => .int (0 + k)) (eo := .int) (u := fun _ : Nat => some (-1 : Int)) (xs := List.range p.toNat) (fun k hk => ?_) ?_
  · rw [Ok_itemF]; simp [wipeS]
  rw [fm_repl, show PyData.list ((List.replicate p.toNat (-1)).map .int) = lD (List.replicate p.toNat (-1)) from rfl]
  rw [Ok_seq, Ok_for]; simp
  rw [itV_r1 (by omega) (by omega)]; simp
  refine ok_forL (fun k σ g2 => g2 = g ∧ ∃ (y2 : Option D) (xs : Po), σ = [some (.int p), some (lD xs), y2, none] ∧ xs.length = p.toNat ∧ ∀ v : Int, 0 ≤ v → v < p → cf xs v.toNat = if isSq p v k = true then 1 else -1) ⟨rfl, none, _, rfl, List.length_replicate, fun v h0 h1 => by rw [cf_replW (by omega)]; rfl⟩ ?_ ?_
  · rintro k x σ g2 hx ⟨rfl, y2, xs, rfl, hl, hc⟩
    obtain ⟨hk, rfl⟩ := range_at hx
    have kk : mulOk (0 + (k : Int)) (0 + (k : Int)) = true := mulOk_sm (by omega) (by omega)
    simp only [Int.zero_add] at *
    have r := sq_rg hp k
    generalize hI : loopF _ _ = II
    rw [Ok_turnF]; simp [kk, hp.pos]
    rw [set_lD r.1 (by omega)]; simp
    subst hI
    refine ⟨rfl, _, _, rfl, by rw [List.length_set]; exact hl, fun v h0 h1 => ?_⟩
    rw [cf_set (by omega), hc v h0 h1]
    rw [show isSq p v (k + 1) = (decide ((k : Int) * k % p = v) || isSq p v k) from rfl]
    by_cases q : (k : Int) * k % p = v
    · simp [q]
    · rw [if_neg (by omega)]; simp [q]
  · rintro σ g2 ⟨rfl, y2, xs, rfl, hl, hc⟩
    rw [range_len] at hc
    simp
    rw [Ok_seq]; simp
    rw [set_lD (by omega) (by omega)]; simp
    subst hQ
    refine ⟨⟨_, rfl, by rw [List.length_set]; exact hl, fun v h0 h1 => ?_⟩, rfl⟩
    rw [cf_set (by omega), ← hp.tab h0 h1, hc v h0 h1]
    by_cases q : v = 0
    · subst q; simp
    · rw [if_neg (by omega), if_neg q]
abbrev TrTabC (Φ : Fns) (i : Nat) : Prop := ∀ (p a b : Int) (xs : Po) (g : G), Pm p → Tab p xs → Φ i [.int p, .int a, .int b, lD xs] g = .ok (.int (-csum p a b)) g
-- @E trace_by_table TrTabC tr_tab_run 2
theorem tr_tab_run {p a b : Int} {xs : Po} (hp : Pm p) (t : Tab p xs) : Ok (Pv.run Φ fuel m_trace_by_table [some (.int p), some (.int a), some (.int b), some (lD xs), none] g) (retF fun r g' => r = .int (-csum p a b) ∧ g' = g) := by
  have bd := hp.bd
  have tl := t.len
  unfold m_trace_by_table
  generalize hQ : retF _ = QQ
  simp
  rw [itV_r1 (by omega) (by omega)]; simp [range_len]
  refine ⟨by unfold lineN; omega, ?_⟩
  rw [range_em]
  refine ok_compM (em := fun k : Nat => .int (0 + k)) (eo := .int) (u := fun k : Nat => some (chi p (fx a b k))) (xs := List.range p.toNat) (fun k hk => ?_) ?_
  · have hk := List.mem_range.mp hk
    have mk : ∀ x : Int, mulOk x k = true := fun x => mulOk_sm (by omega) (by omega)
    have r := emod_rg (fx a b k) hp.pos
    have e : (k : Int) * k * k + a * k + b = fx a b k := rfl
    rw [Ok_itemF]; simp [wipeS, mk, hp.pos, e]
    rw [idx_lD r.1 (by omega), t.at_ _ r.1 r.2, chi_mod]
  rw [fm_map]
  have s : biV .sum [.list (((List.range p.toNat).map fun k : Nat => chi p (fx a b k)).map .int)] = some (.int (csum p a b)) := by
    simp only [biV, ints_map, Option.map_some, sum_range]; rfl
  rw [s]
  simp
  subst hQ
  exact ⟨rfl, rfl⟩
abbrev TraceC (Φ : Fns) (i : Nat) : Prop := ∀ (p a b : Int) (g : G), Pm p → Φ i [curD p a b] g = .ok (.int (-csum p a b)) g
-- @E trace TraceC trace_run 1 : square_table trace_by_table
theorem trace_run {i0 i1 : Nat} {p a b : Int} (hp : Pm p) (h0 : SqTabC Φ i0) (h1 : TrTabC Φ i1) : Ok (Pv.run Φ fuel (m_trace i0 i1) [some (curD p a b)] g) (retF fun r g' => r = .int (-csum p a b) ∧ g' = g) := by
  unfold m_trace
  generalize hQ : retF _ = QQ
  simp [cur_p, cur_a, cur_b]
  refine (h0 p g hp).mono ?_
  rintro _ g2 ⟨⟨xs, rfl, t⟩, rfl⟩
  simp [h1 p a b xs _ hp t]
  subst hQ
  exact ⟨rfl, rfl⟩
/-! ### traces -/
abbrev IsTrC (Φ : Fns) (i : Nat) : Prop := ∀ (p t : Int) (g : G), Pm p → -1000 < t → t < 1000 → Φ i [.int p, .int t] g = .ok (.bool (decide (t * t < 4 * p))) g
abbrev AllTrC (Φ : Fns) (i : Nat) : Prop := ∀ (p : Int) (g : G), Pm p → Φ i [.int p] g = .ok (lD (trL p)) g
abbrev TrRemC (Φ : Fns) (i : Nat) : Prop := ∀ (p a b l : Int) (g : G), Pm p → 0 < l → Φ i [curD p a b, .int l] g = .ok (.int (-csum p a b % l)) g
def pairs (rs : List (Int × Int)) : List D := rs.map fun q => .tuple [.int q.1, .int q.2]
abbrev FitC (Φ : Fns) (i : Nat) : Prop := ∀ (p : Int) (rs : List (Int × Int)) (g : G), Pm p → (∀ q ∈ rs, 0 < q.1) → rs.length < 1000 → Φ i [.int p, .tuple (pairs rs)] g = .ok (tupD (fitL p rs)) g
end Xk15
end

section
/-! FhB: the laws' functions of curves and traces. -/
set_option autoImplicit false
namespace Xk15
open PySem Pv
variable {Φ : Fns} {g : G}
/-! ### shown -/
theorem small_ints' : ∀ {f : Po}, (∀ x ∈ f, -1000 < x ∧ x < 1000) → smallAll (f.map .int) = true ∧ cnAll (f.map .int) = f.length
  | [], _ => ⟨rfl, rfl⟩
  | a :: f, h => by
    obtain ⟨h1, h2⟩ := small_ints' (f := f) fun x hx => h x (List.mem_cons_of_mem _ hx)
    have := h a List.mem_cons_self
    rw [List.map_cons]
    refine ⟨?_, ?_⟩
    · unfold smallAll
      rw [h1, Bool.and_true]
      exact decide_eq_true (by have : (2 : Nat) ^ 20 = 1048576 := by decide
                               omega)
    · unfold cnAll cn
      rw [h2, List.length_cons]; omega
theorem show_tup {f : Po} (h : ∀ x ∈ f, -1000 < x ∧ x < 1000) (hl : f.length ≤ 20000) : showOk (tupD f) = true :=
  show_small (small_ints' h).1 (by rw [dep_po]; omega) (by unfold tupD cn; rw [(small_ints' h).2]; omega)
theorem show_tup2 {f : Po} (h : ∀ x ∈ f, -1000 < x ∧ x < 1000) (hl : f.length ≤ 20000) : showOk (.list [tupD f, tupD f]) = true := by
  have s : small (tupD f) = true := (small_ints' h).1
  have c : cn (tupD f) = f.length + 1 := by unfold tupD cn; rw [(small_ints' h).2]
  exact show_small (by simp [small, smallAll, s]) (by simp [PyData.depth, PyData.depthAll, dep_po]) (by simp [cn, cnAll, c]; omega)
theorem show_lst {f : Po} (h : ∀ x ∈ f, -1000 < x ∧ x < 1000) (hl : f.length ≤ 20000) : showOk (lD f) = true :=
  show_small (small_ints' h).1 (by unfold lD PyData.depth; rw [dep_po0]; omega) (by unfold lD cn; rw [(small_ints' h).2]; omega)
/-! ### curves -/
theorem pm54 {p : Int} (hp : Pm p) : ¬ p ∣ 54 := fun d => (by decide : ∀ p ∈ pmL, 54 % p ≠ 0) p hp.in_ (Int.emod_eq_zero_of_dvd d)
def Sing (p a b : Int) : Prop := p ∣ 4 * a * a * a + 27 * b * b
theorem three_sing {p a x : Int} (hp : Pm p) (h0 : Sing p a x) (h1 : Sing p a (x - 1)) (h2 : Sing p a (x - 2)) : False := by
  apply pm54 hp
  unfold Sing at *
  have d := Int.dvd_sub (Int.dvd_sub h0 h1) (Int.dvd_sub h1 h2)
  rwa [show 4 * a * a * a + 27 * x * x - (4 * a * a * a + 27 * (x - 1) * (x - 1)) - (4 * a * a * a + 27 * (x - 1) * (x - 1) - (4 * a * a * a + 27 * (x - 2) * (x - 2))) = 54 by grind] at d
theorem sing_mod {p a b c : Int} (h : p ∣ b - c) (s : Sing p a b) : Sing p a c := by
  unfold Sing at *
  have d := Int.dvd_sub s (Int.dvd_trans h (Int.dvd_mul_right _ (27 * (b + c))))
  rwa [show 4 * a * a * a + 27 * b * b - (b - c) * (27 * (b + c)) = 4 * a * a * a + 27 * c * c by grind] at d
abbrev CurveC (Φ : Fns) (i : Nat) : Prop := ∀ (p : Int) (g : G), Pm p → DkB g → Ok (Φ i [tokD 0, .int p] g) fun r g' => (∃ a b, r = .tuple [.int a, .int b] ∧ Cu p a b) ∧ DkB g'
-- @F _law_curve CurveC curve_run 2 : _law_draw
theorem curve_run {i0 : Nat} {p : Int} (hp : Pm p) (hd : DkB g) (h0 : DrawC Φ i0) : Ok (Pv.run Φ fuel (m__law_curve i0) [some (tokD 0), some (.int p), none, none, none, none] g) (retF fun r g' => (∃ a b, r = .tuple [.int a, .int b] ∧ Cu p a b) ∧ DkB g') := by
  have bd := hp.bd
  have pp := hp.pos
  unfold m__law_curve
  generalize hQ : retF _ = QQ
  rw [Ok_seq]; simp
  refine (h0 6 g hd (by omega) (by omega)).mono ?_
  rintro _ g1 ⟨d1, w, rfl, w0, w1⟩
  refine (h0 p g1 d1 (by omega) (by omega)).mono ?_
  rintro _ g2 ⟨d2, a, rfl, a0, a1⟩
  refine (h0 p g2 d2 (by omega) (by omega)).mono ?_
  rintro _ g3 ⟨d3, b, rfl, b0, b1⟩
  have fin : ∀ a b : Int, 0 ≤ a → a < p → 0 ≤ b → b < p → Ok (Pv.run Φ fuel (.seq (.forr [5] .rng1 (.cons (.c (.int 3)) .nil) (.ite (.cmp .eq (.bin .mod (.bi .toInt (.cons (.bin .add (.bin .mul (.bin .mul (.bin .mul (.c (.int 4)) (.var 3)) (.var 3)) (.var 3)) (.bin .mul (.bin .mul (.c (.int 27)) (.var 4)) (.var 4))) .nil)) (.var 1)) (.c (.int 0))) (.set [4] (.bin .mod (.bi .toInt (.cons (.bin .add (.var 4) (.c (.int 1))) .nil)) (.var 1))) .skip))
    (.ret (.tup (.cons (.var 3) (.cons (.var 4) .nil))))) [some (tokD 0), some (.int p), some (.int w), some (.int a), some (.int b), none] g3) QQ := by
    intro a b a0 a1 b0 b1
    have m2 : ∀ x : Int, mulOk x a = true := fun x => mulOk_sm (by omega) (by omega)
    rw [Ok_seq, Ok_for]; simp
    rw [itV_r1 (by omega) (by omega)]; simp
    refine ok_forL (fun k σ g' => g' = g3 ∧ ∃ (b : Int) (y : Option D), σ = [some (tokD 0), some (.int p), some (.int w), some (.int a), some (.int b), y] ∧ 0 ≤ b ∧ b < p ∧ (¬ Sing p a b ∨ ∀ j : Nat, 1 ≤ j → j ≤ k → Sing p a (b - j))) ⟨rfl, b, none, rfl, b0, b1, .inr fun j _ _ => by omega⟩ ?_ ?_
    · rintro k x σ g' hx ⟨rfl, b, y, rfl, b0, b1, hs⟩
      obtain ⟨hk, rfl⟩ := range_at hx
      have m3 : ∀ x : Int, mulOk x b = true := fun x => mulOk_sm (by omega) (by omega)
      generalize hI : loopF _ _ = II
      rw [Ok_turnF]; simp [m2, m3, pp, -Bool.exists_bool]
      by_cases z : (4 * a * a * a + 27 * b * b) % p = 0
      · have r := emod_rg (b + 1) pp
        simp [z, pp]
        subst hI
        refine ⟨rfl, _, _, rfl, r.1, r.2, .inr fun j j1 j2 => ?_⟩
        have sb : Sing p a b := Int.dvd_of_emod_eq_zero z
        have e : p ∣ (b - ((j - 1 : Nat) : Int)) - ((b + 1) % p - j) := by
          have := dvd_emod' (b + 1) p
          rwa [show b - ((j - 1 : Nat) : Int) - ((b + 1) % p - j) = b + 1 - (b + 1) % p by omega]
        refine sing_mod e ?_
        by_cases q : j = 1
        · subst q; simpa using sb
        · rcases hs with hs | hs
          · exact absurd sb hs
          · exact hs (j - 1) (by omega) (by omega)
      · simp [z]
        subst hI
        exact ⟨rfl, _, _, rfl, b0, b1, .inl fun s => z (Int.emod_eq_zero_of_dvd s)⟩
    · rintro σ g' ⟨rfl, b, y, rfl, b0, b1, hs⟩
      rw [range_len] at hs
      simp
      subst hQ
      refine ⟨⟨a, b, rfl, hp, a0, a1, b0, b1, fun z => ?_⟩, d3⟩
      have sb : Sing p a b := Int.dvd_of_emod_eq_zero z
      rcases hs with hs | hs
      · exact hs sb
      · exact three_sing hp sb (hs 1 (by omega) (by decide)) (hs 2 (by omega) (by decide))
  have m1 : mulOk a b = true := mulOk_sm (by omega) (by omega)
  have m4 : ∀ x : Int, mulOk x (a + b) = true := fun x => mulOk_sm (by omega) (by omega)
  have r1 := emod_rg (a * b - (a + b) * (a + b)) pp
  have r2 := emod_rg (a * b * (a + b)) pp
  rw [Ok_seq]; simp [-Bool.exists_bool]
  by_cases c1 : w = 0
  · simp [c1]
    subst c1
    exact fin 0 b (by omega) (by omega) b0 b1
  by_cases c2 : w = 1
  · simp [c2]
    subst c2
    exact fin a 0 a0 a1 (by omega) (by omega)
  by_cases c3 : w < 4
  · simp [c1, c2, c3, m1, m4, pp]
    exact fin _ _ r1.1 r1.2 r2.1 r2.2
  · simp [c1, c2, c3]
    exact fin a b a0 a1 b0 b1
abbrev CountC (Φ : Fns) (i : Nat) : Prop := ∀ (p a b : Int) (g : G), Pm p → Φ i [.int p, .int a, .int b] g = .ok (.int (1 + (p + csum p a b))) g
-- @E _law_count CountC count_run 1
theorem count_run {p a b : Int} (hp : Pm p) : Ok (Pv.run Φ fuel m__law_count [some (.int p), some (.int a), some (.int b), none, none, none] g) (retF fun r g' => r = .int (1 + (p + csum p a b)) ∧ g' = g) := by
  have bd := hp.bd
  unfold m__law_count
  generalize hQ : retF _ = QQ
  rw [Ok_seq]; simp
  rw [rep_lD (by omega) (by omega)]; simp
  rw [Ok_seq, Ok_for]; simp
  rw [itV_r1 (by omega) (by omega)]; simp
  refine ok_forL (fun k σ g2 => g2 = g ∧ ∃ (y4 : Option D) (xs : Po), σ = [some (.int p), some (.int a), some (.int b), some (lD xs), y4, none] ∧ xs.length = p.toNat ∧ ∀ v : Int, 0 ≤ v → v < p → cf xs v.toNat = rts p v k) ⟨rfl, none, _, rfl, List.length_replicate, fun v h0 h1 => by rw [cf_replW (by omega)]; rfl⟩ ?_ ?_
  · rintro k x σ g2 hx ⟨rfl, y4, xs, rfl, hl, hc⟩
    obtain ⟨hk, rfl⟩ := range_at hx
    have kk : mulOk (0 + (k : Int)) (0 + (k : Int)) = true := mulOk_sm (by omega) (by omega)
    simp only [Int.zero_add] at *
    have r := sq_rg hp k
    generalize hI : loopF _ _ = II
    rw [Ok_turnF]; simp [kk, hp.pos]
    rw [idx_lD r.1 (by omega)]; simp
    rw [set_lD r.1 (by omega)]; simp
    subst hI
    refine ⟨rfl, _, _, rfl, by rw [List.length_set]; exact hl, fun v h0 h1 => ?_⟩
    rw [cf_set (by omega), hc v h0 h1, hc _ r.1 r.2]
    rw [show rts p v (k + 1) = rts p v k + (if (k : Int) * k % p = v then 1 else 0) from rfl]
    by_cases q : (k : Int) * k % p = v
    · simp [q]
    · rw [if_neg (by omega), if_neg q]; omega
  · rintro σ g2 ⟨rfl, y4, xs, rfl, hl, hc⟩
    rw [range_len] at hc
    simp
    rw [itV_r1 (by omega) (by omega)]; simp [range_len]
    refine ⟨by unfold lineN; omega, ?_⟩
    rw [range_em]
    refine ok_compM (em := fun k : Nat => .int (0 + k)) (eo := .int) (u := fun k : Nat => some (rts p (fx a b k % p) p.toNat)) (xs := List.range p.toNat) (fun k hk => ?_) ?_
    · have hk := List.mem_range.mp hk
      have mk : ∀ x : Int, mulOk x k = true := fun x => mulOk_sm (by omega) (by omega)
      have r := emod_rg (fx a b k) hp.pos
      have e : (k : Int) * k * k + a * k + b = fx a b k := rfl
      rw [Ok_itemF]; simp [wipeS, mk, hp.pos, e]
      rw [idx_lD r.1 (by omega), hc _ r.1 r.2]
    rw [fm_map]
    have s : biV .sum [.list (((List.range p.toNat).map fun k : Nat => rts p (fx a b k % p) p.toNat).map .int)] = some (.int (p + csum p a b)) := by
      simp only [biV, ints_map, Option.map_some, sum_range]
      rw [hp.points, Int.toNat_of_nonneg (by omega)]; rfl
    rw [s]
    simp
    subst hQ
    exact ⟨rfl, rfl⟩
/-! ### traces -/
abbrev LTrC (Φ : Fns) (i : Nat) : Prop := ∀ (p : Int) (g : G), Pm p → Φ i [.int p] g = .ok (lD (trL p)) g
theorem fm_nil {α β : Type} {c : α → Bool} {w : β} : ∀ l : List α, decide (l.filterMap (fun q => if c q = true then none else some w) = []) = l.all c
  | [] => rfl
  | q :: l => by
    rw [List.all_cons, ← fm_nil (w := w) l]
    cases h : c q <;> simp [h]
abbrev LFitC (Φ : Fns) (i : Nat) : Prop := ∀ (p : Int) (rs : List (Int × Int)) (g : G), Pm p → (∀ q ∈ rs, 0 < q.1) → rs.length < 1000 → Φ i [.int p, .list (pairs rs)] g = .ok (tupD (fitL p rs)) g
theorem get_cf' {f : Po} {i : Nat} (h : i < f.length) : f[i]? = some (cf f i) := get_cf h
end Xk15
end

section
/-! PhC: the least number that is no square; roots of a curve's right side and the trace's parity. -/
set_option autoImplicit false
namespace Pv
open PySem
section
variable {p : Int}
/-! ### parity -/
theorem par_sum (h : Pm p) (a b : Int) : ∀ n : Nat, (tsum (fun x : Nat => chi p (fx a b x)) n + tsum (fun x : Nat => if fx a b x % p = 0 then 1 else 0) n - n) % 2 = 0
  | 0 => rfl
  | n + 1 => by
    have ih := par_sum h a b n
    show (tsum (fun x : Nat => chi p (fx a b x)) n + chi p (fx a b n) + (tsum (fun x : Nat => if fx a b x % p = 0 then 1 else 0) n + (if fx a b n % p = 0 then 1 else 0)) - ((n + 1 : Nat) : Int)) % 2 = 0
    rcases h.chi_cases (fx a b n) with ⟨d, e⟩ | ⟨d, e | e⟩
    · rw [e, if_pos (Int.emod_eq_zero_of_dvd d)]; omega
    · rw [e, if_neg (fun z => d (Int.dvd_of_emod_eq_zero z))]; omega
    · rw [e, if_neg (fun z => d (Int.dvd_of_emod_eq_zero z))]; omega
theorem dbl {a b r s : Int} (h1 : p ∣ fx a b r) (h2 : p ∣ r * r + r * s + s * s + a) (h3 : p ∣ 2 * r + s) : p ∣ 4 * a * a * a + 27 * b * b := by
  obtain ⟨f, hf⟩ := h1
  obtain ⟨e, he⟩ := h2
  obtain ⟨c, hc⟩ := h3
  have hu : a + 3 * r * r = p * (e + 3 * r * c - c * c * p) := by
    have : s = p * c - 2 * r := by omega
    subst this
    grind
  have hw : b - 2 * r * r * r = p * (f - r * (e + 3 * r * c - c * c * p)) := by
    unfold fx at hf
    grind
  generalize e + 3 * r * c - c * c * p = u at *
  generalize f - r * u = w at *
  refine ⟨u * (4 * (p * u) * (p * u) - 36 * (p * u) * r * r + 108 * r * r * r * r) + w * (27 * (p * w) + 108 * r * r * r), ?_⟩
  have ea : a = p * u - 3 * r * r := by omega
  have eb : b = p * w + 2 * r * r * r := by omega
  subst ea; subst eb
  grind
theorem roots_odd (h : Pm p) {a b : Int} (hn : ¬ p ∣ 4 * a * a * a + 27 * b * b) {r : Nat} (hr : r < p.toNat) (h0 : fx a b r % p = 0) : tsum (fun x : Nat => if fx a b x % p = 0 then 1 else 0) p.toNat % 2 = 1 := by
  have pp := h.pos
  by_cases one : ∀ k : Nat, k < p.toNat → fx a b k % p = 0 → k = r
  · rw [tsum_congr (v := fun k => if k = r then 1 else 0) fun k hk => ?_, tsum_one, if_pos hr]; rfl
    by_cases z : k = r
    · subst z; rw [if_pos h0, if_pos rfl]
    · rw [if_neg z, if_neg fun e => z (one k hk e)]
  · obtain ⟨s, hs⟩ := Classical.not_forall.mp one
    obtain ⟨hs1, hs⟩ := Classical.not_imp.mp hs
    obtain ⟨h1, hne⟩ := Classical.not_imp.mp hs
    have d0 := Int.dvd_of_emod_eq_zero h0
    have d1 := Int.dvd_of_emod_eq_zero h1
    have rng : ∀ {x y : Nat}, x < p.toNat → y < p.toNat → p ∣ (x : Int) - y → x = y := fun {x y} hx hy d => by
      have := rg_eq (x := (x : Int)) (y := y) (by omega) (by omega) (by omega) (by omega) d
      omega
    have de : p ∣ (r : Int) * r + r * s + s * s + a := by
      have d := Int.dvd_sub d0 d1
      unfold fx at d
      rw [show (r : Int) * r * r + a * r + b - (s * s * s + a * s + b) = (r - s) * (r * r + r * s + s * s + a) by grind] at d
      exact (h.dvd d).resolve_left fun z => hne (rng hr hs1 z).symm
    have ids : ∀ x : Int, fx a b x = fx a b r + (x - r) * (((r : Int) * r + r * s + s * s + a) + (x - s) * (x + r + s)) := fun x => by unfold fx; grind
    have key : ∀ x : Int, p ∣ fx a b x → p ∣ x - r ∨ p ∣ x - s ∨ p ∣ x + r + s := fun x hx => by
      rw [ids x] at hx
      have d := (Int.dvd_add_right d0).mp hx
      rcases h.dvd d with d | d
      · exact .inl d
      · have d := (Int.dvd_add_right de).mp d
        exact .inr (h.dvd d)
    obtain ⟨t, ht, dt⟩ : ∃ t : Nat, t < p.toNat ∧ p ∣ (t : Int) + r + s := by
      have e := emod_rg (-((r : Int) + s)) pp
      refine ⟨((-((r : Int) + s)) % p).toNat, by omega, ?_⟩
      have := dvd_emod (-((r : Int) + s)) p
      rw [show (((-((r : Int) + s)) % p).toNat : Int) + r + s = (-((r : Int) + s)) % p - -((r : Int) + s) by omega]
      exact this
    have tr : t ≠ r := fun z => hn (dbl (s := s) d0 de (by rw [z] at dt; rwa [show 2 * (r : Int) + s = r + r + s by omega]))
    have ts : t ≠ s := fun z => hn (dbl (s := r) d1 (by rwa [show (s : Int) * s + s * r + r * r + a = r * r + r * s + s * s + a by grind]) (by rw [z] at dt; rwa [show 2 * (s : Int) + r = s + r + s by omega]))
    have rt : fx a b t % p = 0 := Int.emod_eq_zero_of_dvd (by
      rw [ids t]
      exact Int.dvd_add d0 (Int.dvd_trans (Int.dvd_add de (Int.dvd_trans dt (Int.dvd_mul_left _ _))) (Int.dvd_mul_left _ _)))
    rw [tsum_congr (v := fun k : Nat => ((if k = r then (1 : Int) else 0) + (if k = s then 1 else 0)) + (if k = t then 1 else 0)) fun k hk => ?_, tsum_add, tsum_add, tsum_one, tsum_one, tsum_one, if_pos hr, if_pos hs1, if_pos ht]; rfl
    by_cases z1 : k = r
    · subst z1; rw [if_pos h0, if_pos rfl, if_neg (Ne.symm hne), if_neg (Ne.symm tr)]; rfl
    · by_cases z2 : k = s
      · subst z2; rw [if_pos h1, if_neg z1, if_pos rfl, if_neg (Ne.symm ts)]; rfl
      · by_cases z3 : k = t
        · subst z3; rw [if_pos rt, if_neg z1, if_neg z2, if_pos rfl]; rfl
        · rw [if_neg z1, if_neg z2, if_neg z3, if_neg]; rfl
          intro e
          rcases key k (Int.dvd_of_emod_eq_zero e) with d | d | d
          · exact z1 (rng hk hr d)
          · exact z2 (rng hk hs1 d)
          · refine z3 (rng hk ht ?_)
            have := Int.dvd_sub d dt
            rwa [show (k : Int) + r + s - (t + r + s) = k - t by omega] at this
/-- the numbers at which the right side is 0 -/
def rootF (p a b : Int) : List Int := (List.range p.toNat).filterMap fun k : Nat => if fx a b k % p = 0 then some (k : Int) else none
theorem trace_par (h : Pm p) {a b : Int} (hn : ¬ p ∣ 4 * a * a * a + 27 * b * b) : (-csum p a b) % 2 = 0 ↔ rootF p a b ≠ [] := by
  have od := h.odd
  have pp := h.pos
  have ps := par_sum h a b p.toNat
  unfold csum
  by_cases ex : ∃ r : Nat, r < p.toNat ∧ fx a b r % p = 0
  · obtain ⟨r, hr, h0⟩ := ex
    have := roots_odd h hn hr h0
    refine ⟨fun _ z => ?_, fun _ => by omega⟩
    have : (r : Int) ∈ rootF p a b := List.mem_filterMap.mpr ⟨r, List.mem_range.mpr hr, if_pos h0⟩
    rw [z] at this; cases this
  · have none : ∀ k : Nat, k < p.toNat → ¬ fx a b k % p = 0 := fun k hk e => ex ⟨k, hk, e⟩
    rw [tsum_congr (u := fun x : Nat => if fx a b x % p = 0 then 1 else 0) (v := fun _ => 0) (fun k hk => if_neg (none k hk)), tsum_zero] at ps
    refine ⟨fun z => by omega, fun z => (z (fm_none fun k hk => if_neg (none k hk))).elim⟩
/-! ### the least number that is no square -/
def nr (p : Int) : Int := Int.ofNat (((List.range 24).find? fun k : Nat => decide (chi p (k : Int) = -1)).getD 0)
theorem nr_all : ∀ p ∈ pmL, 2 ≤ nr p ∧ nr p < p ∧ chi p (nr p) = -1 ∧ ∀ m ∈ List.range (nr p).toNat, 1 ≤ m → chi p m = 1 := by decide +kernel
theorem Pm.nr (h : Pm p) : 2 ≤ Pv.nr p ∧ Pv.nr p < p ∧ chi p (Pv.nr p) = -1 ∧ ∀ m : Nat, 1 ≤ m → (m : Int) < Pv.nr p → chi p m = 1 := by
  obtain ⟨h1, h2, h3, h4⟩ := nr_all p h.in_
  exact ⟨h1, h2, h3, fun m h0 hm => h4 m (List.mem_range.mpr (by omega)) h0⟩
theorem fm_head {α : Type} {u : Nat → Option α} {w : α} {m : Nat} (h0 : ∀ k, k < m → u k = none) (h1 : u m = some w) : ∀ {n : Nat}, m < n → ∃ r, (List.range n).filterMap u = w :: r
  | 0, h => absurd h (Nat.not_lt_zero _)
  | n + 1, h => by
    rw [List.range_succ, List.filterMap_append]
    by_cases z : m = n
    · subst z
      rw [fm_none h0]
      exact ⟨[], by simp [h1]⟩
    · obtain ⟨r, e⟩ := fm_head h0 h1 (n := n) (by omega)
      exact ⟨r ++ [n].filterMap u, by rw [e]; rfl⟩
theorem Pm.nr_head (h : Pm p) : ∃ r, ((List.range p.toNat).filterMap fun k : Nat => if isSq p k p.toNat = true then none else some (k : Int)) = Pv.nr p :: r := by
  obtain ⟨h1, h2, h3, h4⟩ := h.nr
  have e : ((Pv.nr p).toNat : Int) = Pv.nr p := by omega
  refine fm_head (m := (Pv.nr p).toNat) (fun k hk => if_pos ?_) ?_ (by omega)
  · by_cases z : k = 0
    · subst z
      exact isSq_iff.mpr ⟨0, by have := h.pos; omega, by simp⟩
    · exact h.root_of (by omega) (by omega) (h4 k (by omega) (by omega))
  · rw [e, if_neg]
    intro z
    have := h.tab (v := Pv.nr p) (by omega) h2
    rw [if_neg (by omega), if_pos z, h3] at this
    cases this
end
end Pv
end

section
/-! FhE: dicts by ints; points, twists and scaled curves; counts (k15). -/
set_option autoImplicit false
namespace Xk15
open PySem Pv
variable {Φ : Fns} {g : G}
/-! ### dicts whose keys are ints -/
theorem keq_int (a b : Int) : keq (.int a) (.int b) = decide (a = b) := by
  show decide ((Sum.inl a : L2.Key) = Sum.inl b) = decide (a = b)
  by_cases h : a = b
  · subst h; simp
  · rw [decide_eq_false h, decide_eq_false fun z => h (Sum.inl.inj z)]
theorem dLook_cons (a v : Int) (d : D) (r : List (D × D)) : dLook (.int v) ((.int a, d) :: r) = if a = v then some d else dLook (.int v) r := by
  unfold dLook
  rw [List.find?_cons]
  simp only [keq_int]
  by_cases h : a = v
  · simp [h]
  · simp [h]
def IK (kvs : List (D × D)) : Prop := ∀ q ∈ kvs, ∃ w : Int, q.1 = .int w
theorem IK.tail {q : D × D} {r : List (D × D)} (h : IK (q :: r)) : IK r := fun x hx => h x (List.mem_cons_of_mem _ hx)
theorem IK.nodk {kvs : List (D × D)} (h : IK kvs) : isDeck kvs = false ∧ tdOf kvs = none := by
  cases kvs with
  | nil => exact ⟨rfl, rfl⟩
  | cons q r =>
    obtain ⟨w, e⟩ := h q List.mem_cons_self
    obtain ⟨a, d⟩ := q
    cases e
    exact ⟨rfl, rfl⟩
theorem IK.dlk {kvs : List (D × D)} (h : IK kvs) (v : Int) : dlkV kvs (.int v) = some (dLook (.int v) kvs) := by
  unfold dlkV
  rw [h.nodk.2, h.nodk.1]
  rfl
theorem look_set {k v : Int} {x : D} : ∀ {kvs : List (D × D)}, IK kvs → dLook (.int v) (kvs.map fun p => if keq p.1 (.int k) then (p.1, x) else p) = if k = v then (dLook (.int v) kvs).map fun _ => x else dLook (.int v) kvs
  | [], _ => by unfold dLook; simp
  | (a, d) :: r, h => by
    obtain ⟨w, e⟩ := h _ List.mem_cons_self
    cases e
    have ih := look_set (k := k) (v := v) (x := x) h.tail
    rw [List.map_cons, keq_int]
    by_cases z : w = k
    · subst z
      rw [decide_eq_true rfl, if_pos rfl, dLook_cons, dLook_cons, ih]
      by_cases y : w = v <;> simp [y]
    · rw [decide_eq_false z, if_neg Bool.false_ne_true, dLook_cons, dLook_cons, ih]
      by_cases y : w = v
      · subst y
        simp [show ¬ k = w from fun q => z q.symm]
      · simp [y]
theorem look_app {k v : Int} {x : D} : ∀ {kvs : List (D × D)}, IK kvs → dLook (.int v) (kvs ++ [(.int k, x)]) = (dLook (.int v) kvs).or (if k = v then some x else none)
  | [], _ => by rw [List.nil_append, dLook_cons]; rfl
  | (a, d) :: r, h => by
    obtain ⟨w, e⟩ := h _ List.mem_cons_self
    cases e
    rw [List.cons_append, dLook_cons, dLook_cons, look_app h.tail]
    by_cases y : w = v <;> simp [y]
theorem look_any {k : Int} : ∀ {kvs : List (D × D)}, IK kvs → (kvs.any fun p => keq p.1 (.int k)) = (dLook (.int k) kvs).isSome
  | [], _ => rfl
  | (a, d) :: r, h => by
    obtain ⟨w, e⟩ := h _ List.mem_cons_self
    cases e
    rw [List.any_cons, keq_int, dLook_cons, look_any h.tail]
    by_cases y : w = k <;> simp [y]
theorem look_put {k v : Int} {x : D} {kvs : List (D × D)} (h : IK kvs) : dLook (.int v) (dPut (.int k) x kvs) = if k = v then some x else dLook (.int v) kvs := by
  unfold dPut
  rw [look_any h]
  by_cases z : k = v
  · subst z
    cases e : dLook (.int k) kvs with
    | none => rw [if_neg (by simp), look_app h, e]; simp
    | some y => rw [if_pos (by simp), look_set h, e]; simp
  · split
    · simp [look_set h, z]
    · simp [look_app h, z]
theorem IK.put {k : Int} {x : D} {kvs : List (D × D)} (h : IK kvs) : IK (dPut (.int k) x kvs) := by
  unfold dPut
  split
  · intro q hq
    obtain ⟨p, hp, e⟩ := List.mem_map.mp hq
    obtain ⟨w, ew⟩ := h p hp
    split at e <;> (subst e; exact ⟨w, ew⟩)
  · intro q hq
    rcases List.mem_append.mp hq with hq | hq
    · exact h q hq
    · rw [List.mem_singleton.mp hq]; exact ⟨k, rfl⟩
/-- a dict of pairs -/
theorem pair_at {u : Nat → Int} {x : D} : ∀ (ks : List Nat) {acc : List (D × D)}, IK acc → ∃ out, pairV (ks.map fun k => .tuple [.int (u k), x]) acc = some out ∧ IK out ∧ ∀ v : Int, (dLook (.int v) out).isSome = ((dLook (.int v) acc).isSome || ks.any fun k => decide (u k = v))
  | [], acc, h => ⟨acc, rfl, h, fun v => by simp⟩
  | k :: ks, acc, h => by
    obtain ⟨out, e1, e2, e3⟩ := pair_at (u := u) (x := x) ks (h.put (k := u k) (x := x))
    refine ⟨out, ?_, e2, fun v => ?_⟩
    · rw [List.map_cons]
      unfold pairV
      exact e1
    · rw [e3, look_put h, List.any_cons]
      by_cases z : u k = v <;> simp [z]
theorem any_sq {p v : Int} : ∀ n : Nat, ((List.range n).any fun k : Nat => decide ((k : Int) * k % p = v)) = isSq p v n
  | 0 => rfl
  | n + 1 => by
    rw [List.range_succ, List.any_append, any_sq n, show isSq p v (n + 1) = (decide ((n : Int) * n % p = v) || isSq p v n) from rfl]
    simp [Bool.or_comm]
/-! ### powers, squares -/
abbrev NpC (Φ : Fns) (i : Nat) : Prop := ∀ (p a e : Int) (g : G), 1 < p → p < 1000000 → 0 ≤ e → e < 1000000 → Φ i [.int p, .int a, .int e] g = .ok (.int (a ^ e.toNat % p)) g
-- @E number_power NpC number_power_run 4
theorem number_power_run {p a e : Int} (hp : 1 < p) (hp2 : p < 1000000) (he : 0 ≤ e) (he2 : e < 1000000) : Ok (Pv.run Φ fuel m_number_power [some (.int p), some (.int a), some (.int e), none, none, none] g) (retF fun r g' => r = .int (a ^ e.toNat % p) ∧ g' = g) := by
  rw [← Ok_fin]
  exact .of_eq (npow (Φ := Φ) (g := g) hp (by omega) he (by omega)) ⟨rfl, rfl⟩
abbrev IsSqC (Φ : Fns) (i : Nat) : Prop := ∀ (p v : Int) (g : G), Pm p → 0 < v → v < p → Φ i [.int p, .int v] g = .ok (.bool (decide (chi p v = 1))) g
theorem chi_pow {p v : Int} (hp : Pm p) : (v ^ Pv.hp p % p = 1) ↔ chi p v = 1 := by
  refine ⟨fun e => hp.chi1 ?_, fun e => hp.chi_one e⟩
  have h1 : (1 : Int) % p = 1 := Int.emod_eq_of_lt (by omega) hp.one
  exact dvd_of_emod (e.trans h1.symm)
-- @E is_square IsSqC is_sq_run 3 : number_power
theorem is_sq_run {i0 : Nat} {p v : Int} (hp : Pm p) (h0 : 0 < v) (h1 : v < p) (hN : NpC Φ i0) : Ok (Pv.run Φ fuel (m_is_square i0) [some (.int p), some (.int v)] g) (retF fun r g' => r = .bool (decide (chi p v = 1)) ∧ g' = g) := by
  have bd := hp.bd
  have e := hN p v ((p - 1) / 2) g (by omega) (by omega) (by omega) (by omega)
  have c := chi_pow (v := v) hp
  unfold Pv.hp at c
  unfold m_is_square
  simp [show ¬ v = 0 by omega, e]
  rcases Classical.em (chi p v = 1) with q | q
  · exact .inr ⟨c.mpr q, q⟩
  · exact .inl ⟨fun z => q (c.mp z), q⟩
abbrev SpareC (Φ : Fns) (i : Nat) : Prop := ∀ (p : Int) (g : G), Pm p → Φ i [.int p] g = .ok (.int (nr p)) g
-- @E spare SpareC spare_run 1 : is_square
theorem spare_run {i0 : Nat} {p : Int} (hp : Pm p) (hS : IsSqC Φ i0) : Ok (Pv.run Φ fuel (m_spare i0) [some (.int p), none] g) (retF fun r g' => r = .int (nr p) ∧ g' = g) := by
  have bd := hp.bd
  obtain ⟨n1, n2, n3, n4⟩ := hp.nr
  unfold m_spare
  generalize hQ : retF _ = QQ
  rw [Ok_seq]; simp
  rw [Ok_seq, Ok_while]
  refine ok_whileL (fun m σ g' => g' = g ∧ ∃ v : Int, σ = [some (.int p), some (.int v)] ∧ 2 ≤ v ∧ v ≤ nr p ∧ (m : Int) = nr p - v) ?_ fuel (nr p - 2).toNat (by unfold fuel; omega) ⟨rfl, 2, rfl, by omega, by omega, by omega⟩
  rintro m σ g' ⟨rfl, v, rfl, v1, v2, v3⟩
  have q := hS p v g' hp (by omega) (by omega)
  by_cases z : v = nr p
  · subst z
    rw [n3] at q
    simp [q]
    subst hQ
    exact ⟨rfl, rfl⟩
  · have c := n4 v.toNat (by omega) (by omega)
    rw [Int.toNat_of_nonneg (by omega)] at c
    rw [c] at q
    simp [q]
    exact ⟨m - 1, by omega, by omega, by omega, by omega⟩
/-! ### objects -/
theorem cur_ob (p a b : Int) : isObj (curD p a b) = true ∧ isOb 0 (curD p a b) = true := ⟨rfl, rfl⟩
abbrev EqC (Φ : Fns) (i : Nat) : Prop := ∀ (p a b : Int) (g : G), Φ i [curD p a b, curD p a b] g = .ok (.bool true) g
-- @E Curve___eq__ EqC eq_run 0
theorem eq_run {p a b : Int} : Ok (Pv.run Φ fuel m_Curve___eq__ [some (curD p a b), some (curD p a b)] g) (retF fun r g' => r = .bool true ∧ g' = g) := by
  unfold m_Curve___eq__
  simp [cur_ob, cur_p, cur_a, cur_b]
abbrev RightC (Φ : Fns) (i : Nat) : Prop := ∀ (p a b x : Int) (g : G), Cu p a b → 0 ≤ x → x < p → Φ i [curD p a b, .int x] g = .ok (.int (fx a b x % p)) g
-- @E Curve_right RightC right_run 3
theorem right_run {p a b x : Int} (c : Cu p a b) (h0 : 0 ≤ x) (h1 : x < p) : Ok (Pv.run Φ fuel m_Curve_right [some (curD p a b), some (.int x)] g) (retF fun r g' => r = .int (fx a b x % p) ∧ g' = g) := by
  have bd := c.pm.bd
  have m : ∀ y : Int, mulOk y x = true := fun y => mulOk_sm (by omega) (by omega)
  unfold m_Curve_right
  simp [cur_p, cur_a, cur_b, m, c.pm.pos, fx]
/-! ### points -/
def lenAt (acc : List (D × D)) (v : Int) : Nat := match dLook (.int v) acc with
  | some (.list l) => l.length
  | _ => 0
def Lst (m : Nat) (acc : List (D × D)) : Prop := ∀ q ∈ acc, ∃ (w : Int) (l : List D), q = (.int w, .list l) ∧ l.length ≤ m
theorem lenAt_cons (a v : Int) (l : List D) (r : List (D × D)) : lenAt ((.int a, .list l) :: r) v = if a = v then l.length else lenAt r v := by
  unfold lenAt
  rw [dLook_cons]
  by_cases h : a = v <;> simp [h]
theorem Lst.ik {m : Nat} {acc : List (D × D)} (h : Lst m acc) : IK acc := fun q hq => let ⟨w, l, e, _⟩ := h q hq; ⟨w, by rw [e]⟩
theorem buck_at {k : Int} {v : D} {m : Nat} (hm : m < lineN) : ∀ {acc : List (D × D)}, Lst m acc → ∃ acc', buckL (.int k) v acc = some acc' ∧ Lst (m + 1) acc' ∧ acc'.length ≤ acc.length + 1 ∧ ∀ w, lenAt acc' w = lenAt acc w + if k = w then 1 else 0
  | [], _ => ⟨_, rfl, fun q hq => by rw [List.mem_singleton.mp hq]; exact ⟨k, [v], rfl, by simp⟩, by simp, fun w => by rw [lenAt_cons]; simp [lenAt, dLook]⟩
  | q :: r, h => by
    obtain ⟨a, l, rfl, hl⟩ := h q List.mem_cons_self
    have ht : Lst m r := fun x hx => h x (List.mem_cons_of_mem _ hx)
    obtain ⟨acc', e1, e2, e3, e4⟩ := buck_at (k := k) (v := v) hm ht
    unfold buckL
    rw [keq_int]
    by_cases z : a = k
    · subst z
      rw [decide_eq_true rfl, if_pos rfl]
      dsimp only
      rw [if_pos (decide_eq_true (by omega))]
      refine ⟨_, rfl, fun x hx => ?_, by simp, fun w => ?_⟩
      · rcases List.mem_cons.mp hx with rfl | hx
        · exact ⟨a, _, rfl, by simp; omega⟩
        · obtain ⟨w, l', e, hl'⟩ := ht x hx
          exact ⟨w, l', e, by omega⟩
      · rw [lenAt_cons, lenAt_cons]
        by_cases y : a = w <;> simp [y]
    · rw [decide_eq_false z, if_neg Bool.false_ne_true, e1]
      refine ⟨_, rfl, fun x hx => ?_, by simp; omega, fun w => ?_⟩
      · rcases List.mem_cons.mp hx with rfl | hx
        · exact ⟨a, l, rfl, by omega⟩
        · exact e2 x hx
      · rw [lenAt_cons, lenAt_cons, e4]
        by_cases y : a = w
        · subst y
          simp [show ¬ k = a from fun q => z q.symm]
        · simp [y]
theorem Lst.get {m : Nat} {acc : List (D × D)} (h : Lst m acc) (v : Int) : ∃ l, dgetV (.dict acc) (.int v) (.list []) = some (.list l) ∧ l.length = lenAt acc v := by
  unfold dgetV
  dsimp only
  rw [h.ik.dlk]
  unfold lenAt
  cases e : dLook (.int v) acc with
  | none => exact ⟨[], rfl, rfl⟩
  | some d =>
    have : ∃ l, d = .list l := by
      unfold dLook at e
      rw [Option.map_eq_some_iff] at e
      obtain ⟨q, hq, rfl⟩ := e
      obtain ⟨w, l, z, _⟩ := h q (List.mem_of_find?_eq_some hq)
      exact ⟨l, by rw [z]⟩
    obtain ⟨l, rfl⟩ := this
    exact ⟨l, rfl, rfl⟩
abbrev PointsC (Φ : Fns) (i : Nat) : Prop := ∀ (p a b : Int) (g : G), Cu p a b → Ok (Φ i [curD p a b] g) fun r g' => (∃ xs : List D, r = .tuple xs ∧ (xs.length : Int) = 1 + (p + csum p a b)) ∧ g' = g
-- @F Curve_points PointsC points_run 1 : Curve_right
theorem points_run {i0 : Nat} {p a b : Int} (c : Cu p a b) (hR : RightC Φ i0) : Ok (Pv.run Φ fuel (m_Curve_points i0) [some (curD p a b), none, none, none, none, none] g) (retF fun r g' => (∃ xs : List D, r = .tuple xs ∧ (xs.length : Int) = 1 + (p + csum p a b)) ∧ g' = g) := by
  have hp := c.pm
  have bd := hp.bd
  unfold m_Curve_points
  generalize hQ : retF _ = QQ
  rw [Ok_seq]; simp
  rw [Ok_seq]; simp
  rw [Ok_seq, Ok_grp]; simp [cur_p, noneAt]
  rw [itV_r1 (by omega) (by omega)]; simp
  refine ok_grpL (fun n acc g' => g' = g ∧ Lst n acc ∧ acc.length ≤ n ∧ ∀ v, (lenAt acc v : Int) = rts p v n) ⟨rfl, (fun q hq => nomatch hq), Nat.le_refl _, fun v => rfl⟩ ?_ ?_
  · rintro n y acc g' hx ⟨rfl, h1, h2, h3⟩
    obtain ⟨hk, rfl⟩ := range_at hx
    have kk : mulOk (0 + (n : Int)) (0 + (n : Int)) = true := mulOk_sm (by omega) (by omega)
    obtain ⟨acc', e1, e2, e3, e4⟩ := buck_at (k := (n : Int) * n % p) (v := .int n) (m := n) (by unfold lineN; omega) h1
    have hb : buckV acc (.int ((n : Int) * n % p)) (.int n) = some acc' := by
      unfold buckV
      rw [if_neg]
      · exact e1
      · simp [keyD]; unfold lineN; omega
    simp only [Int.zero_add] at *
    simp [kk, cur_p, hp.pos, hb]
    refine ⟨e2, by omega, fun v => ?_⟩
    rw [e4, show rts p v (n + 1) = rts p v n + (if (n : Int) * n % p = v then 1 else 0) from rfl, ← h3 v]
    by_cases z : (n : Int) * n % p = v <;> simp [z]
  · rintro acc g' ⟨rfl, h1, h2, h3⟩
    rw [range_len] at h1 h2 h3
    rw [Ok_seq, Ok_for]; simp [cur_p]
    rw [itV_r1 (by omega) (by omega)]; simp
    refine ok_forL (fun k σ g2 => g2 = g' ∧ ∃ (L : List D) (y3 y5 : Option D), σ = [some (curD p a b), some (.list L), some (.dict acc), y3, none, y5] ∧ (L.length : Int) = 1 + tsum (fun x : Nat => rts p (fx a b x % p) p.toNat) k ∧ L.length ≤ 1 + 200 * k) ⟨rfl, [.none], none, none, rfl, rfl, by simp⟩ ?_ ?_
    · rintro k x σ g2 hx ⟨rfl, L, y3, y5, rfl, l1, l2⟩
      obtain ⟨hk, rfl⟩ := range_at hx
      simp only [Int.zero_add] at *
      generalize hI : loopF _ _ = II
      have r := emod_rg (fx a b k) hp.pos
      obtain ⟨l, e1, e2⟩ := h1.get (fx a b k % p)
      have e3 := h3 (fx a b k % p)
      have e4 := hp.rts r.1 r.2
      have ll : l.length ≤ 199 := by
        have := hp.chi_cases (fx a b k % p)
        omega
      rw [Ok_turnF]; simp
      rw [Ok_for]; simp [hR p a b k g2 c (by omega) (by omega), cur_ob, e1]
      rw [show itV .seq [.list l] = some l from rfl]; simp
      refine ok_forL (fun j σ g3 => g3 = g2 ∧ ∃ (M : List D) (y3 : Option D), σ = [some (curD p a b), some (.list M), some (.dict acc), y3, none, some (.int k)] ∧ M.length = L.length + j) ⟨rfl, L, y3, rfl, rfl⟩ ?_ ?_
      · rintro j y σ g3 hy ⟨rfl, M, y3, rfl, m1⟩
        have hj : j < l.length := (List.getElem?_eq_some_iff.mp hy).1
        generalize hJ : loopF _ _ = JJ
        rw [Ok_turnF]; simp
        have lm : M.length < lineN := by unfold lineN; omega
        simp [appV, lm]
        subst hJ
        exact ⟨rfl, _, _, rfl, by simp; omega⟩
      · rintro σ g3 ⟨rfl, M, y3, rfl, m1⟩
        subst hI
        refine ⟨rfl, M, _, _, rfl, ?_, by omega⟩
        show (M.length : Int) = 1 + (tsum (fun x : Nat => rts p (fx a b x % p) p.toNat) k + rts p (fx a b k % p) p.toNat)
        omega
    · rintro σ g2 ⟨rfl, L, y3, y5, rfl, l1, l2⟩
      rw [range_len] at l1
      have pts := hp.points a b p.toNat
      simp
      subst hQ
      refine ⟨⟨L, rfl, ?_⟩, rfl⟩
      unfold csum
      omega
/-! ### twists, scaled curves -/
theorem cu_twist {p a b d : Int} (c : Cu p a b) (hd : ¬ p ∣ d) : Cu p (a * d * d % p) (b * d * d * d % p) := by
  have pp := c.pm.pos
  have r1 := emod_rg (a * d * d) pp
  have r2 := emod_rg (b * d * d * d) pp
  refine ⟨c.pm, r1.1, r1.2, r2.1, r2.2, fun z => ?_⟩
  have d0 := Int.dvd_of_emod_eq_zero z
  have d1 := dvd_emod (a * d * d) p
  have d2 := dvd_emod (b * d * d * d) p
  generalize a * d * d % p = x at *
  generalize b * d * d * d % p = y at *
  have e := Int.dvd_sub d0 (Int.dvd_add (Int.dvd_trans d1 (Int.dvd_mul_right _ (4 * (x * x + x * (a * d * d) + a * d * d * (a * d * d))))) (Int.dvd_trans d2 (Int.dvd_mul_right _ (27 * (y + b * d * d * d)))))
  rw [show 4 * x * x * x + 27 * y * y - ((x - a * d * d) * (4 * (x * x + x * (a * d * d) + a * d * d * (a * d * d))) + (y - b * d * d * d) * (27 * (y + b * d * d * d))) = d * (d * (d * (d * (d * (d * (4 * a * a * a + 27 * b * b)))))) by grind] at e
  have s := fun {w : Int} (h : p ∣ d * w) => (c.pm.dvd h).resolve_left hd
  exact c.ns (Int.emod_eq_zero_of_dvd (s (s (s (s (s (s e)))))))
theorem csum_d {p a b d : Int} (hp : Pm p) (hd : ¬ p ∣ d) : csum p (a * d * d % p) (b * d * d * d % p) = chi p (d * d * d) * csum p a b := hp.csum_twist hd a b (dvd_emod _ _) (dvd_emod _ _)
theorem csum_nr {p a b : Int} (hp : Pm p) : csum p (a * nr p * nr p % p) (b * nr p * nr p * nr p % p) = -csum p a b := by
  obtain ⟨n1, n2, n3, n4⟩ := hp.nr
  rw [csum_d hp (hp.ndvd (by omega) n2), hp.chi_mul, hp.chi_mul, n3]
  omega
theorem csum_sc {p a b u : Int} (hp : Pm p) (hd : ¬ p ∣ u) : csum p (a * (u * u) * (u * u) % p) (b * (u * u) * (u * u) * (u * u) % p) = csum p a b := by
  have h2 : ¬ p ∣ u * u := fun d => (hp.dvd d).elim hd hd
  have c : chi p (u * u) = 1 := hp.chi_sq hd (by rw [Int.sub_self]; exact Int.dvd_zero _)
  rw [csum_d hp h2, hp.chi_mul, hp.chi_mul, c]
  omega
abbrev TwistC (Φ : Fns) (i : Nat) : Prop := ∀ (p a b : Int) (g : G), Cu p a b → Φ i [curD p a b] g = .ok (curD p (a * nr p * nr p % p) (b * nr p * nr p * nr p % p)) g
-- @E Curve_twist TwistC twist_run 1 : Curve___init__ spare
theorem twist_run {i0 i1 : Nat} {p a b : Int} (c : Cu p a b) (h0 : MkCurC Φ i0) (h1 : SpareC Φ i1) : Ok (Pv.run Φ fuel (m_Curve_twist i0 i1) [some (curD p a b), none, none] g) (retF fun r g' => r = curD p (a * nr p * nr p % p) (b * nr p * nr p * nr p % p) ∧ g' = g) := by
  have bd := c.pm.bd
  obtain ⟨n1, n2, n3, n4⟩ := c.pm.nr
  have m := h0 p _ _ g (cu_twist c (c.pm.ndvd (show 0 < nr p by omega) n2))
  have s := h1 p g c.pm
  have ma : ∀ x : Int, mulOk x a = true := fun x => mulOk_sm (by have := c.a0; omega) (by have := c.a1; omega)
  have mb : ∀ x : Int, mulOk x b = true := fun x => mulOk_sm (by have := c.b0; omega) (by have := c.b1; omega)
  have mn : ∀ x : Int, mulOk x (nr p) = true := fun x => mulOk_sm (by omega) (by omega)
  generalize nr p = n at *
  rw [show a * n * n = n * n * a by grind, show b * n * n * n = n * n * n * b by grind] at m
  unfold m_Curve_twist
  generalize hQ : retF _ = QQ
  rw [Ok_seq]; simp [cur_p, s]
  rw [Ok_seq]; simp [mn]
  simp [cur_p, cur_a, cur_b, ma, mb, mn, c.pm.pos, m]
  subst hQ
  exact ⟨by rw [show a * n * n = n * n * a by grind, show b * n * n * n = n * n * n * b by grind], rfl⟩
abbrev ScaledC (Φ : Fns) (i : Nat) : Prop := ∀ (p a b u : Int) (g : G), Cu p a b → 0 < u → u < p → Φ i [curD p a b, .int u] g = .ok (curD p (a * (u * u) * (u * u) % p) (b * (u * u) * (u * u) * (u * u) % p)) g
theorem cu_sc {p a b u : Int} (c : Cu p a b) (h0 : 0 < u) (h1 : u < p) : Cu p (a * (u * u) * (u * u) % p) (b * (u * u) * (u * u) * (u * u) % p) :=
  cu_twist c fun d => (c.pm.dvd d).elim (c.pm.ndvd h0 h1) (c.pm.ndvd h0 h1)
-- @E Curve_scaled ScaledC scaled_run 3 : Curve___init__
theorem scaled_run {i0 : Nat} {p a b u : Int} (c : Cu p a b) (u0 : 0 < u) (u1 : u < p) (h0 : MkCurC Φ i0) : Ok (Pv.run Φ fuel (m_Curve_scaled i0) [some (curD p a b), some (.int u), none] g) (retF fun r g' => r = curD p (a * (u * u) * (u * u) % p) (b * (u * u) * (u * u) * (u * u) % p) ∧ g' = g) := by
  have bd := c.pm.bd
  have m := h0 p _ _ g (cu_sc c u0 u1)
  have ma : ∀ x : Int, mulOk x a = true := fun x => mulOk_sm (by have := c.a0; omega) (by have := c.a1; omega)
  have mb : ∀ x : Int, mulOk x b = true := fun x => mulOk_sm (by have := c.b0; omega) (by have := c.b1; omega)
  have mu : ∀ x : Int, mulOk x u = true := fun x => mulOk_sm (by omega) (by omega)
  have uu : u * u < 1000000 := by
    have := Int.mul_lt_mul (a := u) (b := u) (c := 200) (d := 200) (by omega) (by omega) (by omega) (by omega)
    omega
  have u2 : 0 < u * u := Int.mul_pos u0 u0
  have ms : ∀ x : Int, mulOk x (u * u) = true := fun x => mulOk_sm (by omega) uu
  have e1 : a * (u * u) * (u * u) = u * u * (u * u) * a := by grind
  have e2 : b * (u * u) * (u * u) * (u * u) = u * u * (u * u) * (u * u) * b := by grind
  rw [e1, e2] at m
  rw [e1, e2]
  unfold m_Curve_scaled
  generalize hQ : retF _ = QQ
  rw [Ok_seq]; simp [mu]
  simp [cur_p, cur_a, cur_b, ma, mb, ms, c.pm.pos, m]
  subst hQ
  exact ⟨rfl, rfl⟩
/-! ### counts -/
abbrev CountPC (Φ : Fns) (i : Nat) : Prop := ∀ (p a b : Int) (g : G), Pm p → Φ i [curD p a b] g = .ok (.int (1 + (p + csum p a b))) g
-- @E count CountPC countP_run 1 : trace
theorem countP_run {i0 : Nat} {p a b : Int} (hp : Pm p) (h0 : TraceC Φ i0) : Ok (Pv.run Φ fuel (m_count i0) [some (curD p a b)] g) (retF fun r g' => r = .int (1 + (p + csum p a b)) ∧ g' = g) := by
  unfold m_count
  simp [cur_p, h0 p a b g hp]
  omega
abbrev LSpareC (Φ : Fns) (i : Nat) : Prop := ∀ (p : Int) (g : G), Pm p → Φ i [.int p] g = .ok (.int (nr p)) g
-- @E _law_spare LSpareC lspare_run 1
theorem lspare_run {p : Int} (hp : Pm p) : Ok (Pv.run Φ fuel m__law_spare [some (.int p), none, none, none] g) (retF fun r g' => r = .int (nr p) ∧ g' = g) := by
  have bd := hp.bd
  unfold m__law_spare
  generalize hQ : retF _ = QQ
  rw [Ok_seq]; simp
  rw [itV_r1 (by omega) (by omega)]; simp [range_len]
  refine ⟨by unfold lineN; omega, ?_⟩
  rw [range_em]
  refine ok_compM (em := fun k : Nat => .int (0 + k)) (eo := fun k : Nat => .tuple [.int ((k : Int) * k % p), .bool true]) (u := fun k : Nat => some k) (xs := List.range p.toNat) (fun k hk => ?_) ?_
  · have hk := List.mem_range.mp hk
    have mk : mulOk k k = true := mulOk_sm (by omega) (by omega)
    rw [Ok_itemF]; simp [wipeS, mk, hp.pos]
  obtain ⟨out, e1, e2, e3⟩ := pair_at (u := fun k : Nat => (k : Int) * k % p) (x := .bool true) (List.range p.toNat) (acc := []) (fun q hq => nomatch hq)
  simp [e1]
  refine ⟨by unfold lineN; omega, ?_⟩
  refine ok_compM (em := fun k : Nat => .int k) (eo := .int) (u := fun k : Nat => if isSq p k p.toNat = true then none else some (k : Int)) (xs := List.range p.toNat) (fun k hk => ?_) ?_
  · have hk := List.mem_range.mp hk
    have h : dhasV (.int k) (.dict out) = some (isSq p k p.toNat) := by
      unfold dhasV
      dsimp only
      rw [e2.dlk, Option.map_some, e3, any_sq]
      rfl
    rw [Ok_itemF]; simp [wipeS, h]
    by_cases z : isSq p k p.toNat = true <;> simp [z]
  obtain ⟨r, er⟩ := hp.nr_head
  rw [er]
  have ix : idxV (.list ((nr p :: r).map .int)) (.int 0) = some (.int (nr p)) := by
    rw [show PyData.list ((nr p :: r).map PyData.int) = lD (nr p :: r) from rfl, idx_lD (by omega) (by simp)]
    rfl
  simp only [List.map_cons] at ix ⊢
  simp [ix]
  subst hQ
  exact ⟨rfl, rfl⟩
abbrev LCntC (Φ : Fns) (i : Nat) : Prop := ∀ (p a b n : Int) (g : G), Pm p → n = 1 + (p + csum p a b) → Φ i [curD p a b, .int p, .int n] g = .ok (.bool true) g
-- @E _law_is_counted LCntC lcnt_run 2 : count trace
theorem lcnt_run {i0 i1 : Nat} {p a b n : Int} (hp : Pm p) (hn : n = 1 + (p + csum p a b)) (h0 : CountPC Φ i0) (h1 : TraceC Φ i1) : Ok (Pv.run Φ fuel (m__law_is_counted i0 i1) [some (curD p a b), some (.int p), some (.int n), none] g) (retF fun r g' => r = .bool true ∧ g' = g) := by
  have bd := hp.bd
  have ht := hp.hasse a b
  have bt := sq_lt (u := csum p a b) (n := 29) (by unfold SmallT at ht; omega) (by omega)
  have c := h0 p a b g hp
  have t := h1 p a b g hp
  have et : p + 1 - n = -csum p a b := by omega
  rw [← hn] at c
  have sh : showOk (lD [n, n, -csum p a b, -csum p a b]) = true := show_lst (by intro x hx; simp at hx; omega) (by simp)
  unfold m__law_is_counted
  generalize hQ : retF _ = QQ
  rw [Ok_seq]; simp [c, t, pm]
  rw [show PyData.list [.int n, .int n, .int (-csum p a b), .int (-csum p a b)] = lD [n, n, -csum p a b, -csum p a b] from rfl]
  simp [et, -Bool.exists_bool]
  rw [show PyData.list [.int n, .int n, .int (-csum p a b), .int (-csum p a b)] = lD [n, n, -csum p a b, -csum p a b] from rfl]
  simp [bi_repr sh, eq_same, -Bool.exists_bool]
  subst hQ
  exact ⟨rfl, rfl⟩
end Xk15
end

section
/-! FhF: the law of k15. -/
set_option autoImplicit false
namespace Xk15
open PySem Pv
variable {Φ : Fns} {g : G}
abbrev LawC (Φ : Fns) (i : Nat) : Prop := Ok (Φ i [tokD 1] none) fun r g' => r = .bool true
-- @L law LawC law_run 0 : Curve___eq__ Curve___init__ Curve_points Curve_scaled Curve_twist _law_count _law_curve _law_deck _law_draw _law_is_counted _law_prime _law_spare trace
theorem law_run {i0 i1 i2 i3 i4 i5 i6 i7 i8 i9 i10 i11 i12 : Nat} (h0 : EqC Φ i0) (h1 : MkCurC Φ i1) (h2 : PointsC Φ i2) (h3 : ScaledC Φ i3) (h4 : TwistC Φ i4) (h5 : CountC Φ i5) (h6 : CurveC Φ i6) (h7 : DeckC Φ i7) (h8 : DrawC Φ i8) (h9 : LCntC Φ i9) (h10 : PrimeC Φ i10) (h11 : LSpareC Φ i11) (h12 : TraceC Φ i12) :
    Ok (Pv.run Φ fuel (m_law i0 i1 i2 i3 i4 i5 i6 i7 i8 i9 i10 i11 i12) [some (tokD 1), none, none, none, none, none, none, none, none, none, none, none, none, none, none, none, none] none) (retF fun r g' => r = .bool true) := by
  unfold m_law
  generalize hQ : retF _ = QQ
  rw [Ok_seq]; simp
  refine h7.mono ?_
  rintro _ g1 ⟨rfl, d1⟩
  rw [Ok_seq]; simp
  refine (h10 g1 d1).mono ?_
  rintro _ g2 ⟨⟨p, rfl, hp⟩, d2⟩
  have bd := hp.bd
  rw [Ok_seq]; simp
  refine (h6 p g2 hp d2).mono ?_
  rintro _ g3 ⟨⟨a, b, rfl, cu⟩, d3⟩
  simp
  have ns : ¬ p ∣ 4 * a * a * a + 27 * b * b := fun d => cu.ns (Int.emod_eq_zero_of_dvd d)
  have et : p + 1 - (1 + (p + csum p a b)) = -csum p a b := by omega
  rw [Ok_seq]; simp [h1 p a b g3 cu, h5 p a b g3 hp]
  rw [Ok_seq]; simp [et]
  have ht : SmallT p (csum p a b) := hp.hasse a b
  have bt := sq_lt (u := csum p a b) (n := 29) (by unfold SmallT at ht; omega) (by omega)
  have tp := trace_par hp ns
  have tt := h12 p a b
  have mt : mulOk (-csum p a b) (-csum p a b) = true := mulOk_sm (by omega) (by omega)
  have lt : ¬ 4 * p ≤ -csum p a b * -csum p a b := by
    unfold SmallT at ht
    rw [Int.neg_mul_neg]; omega
  have mp : mulOk 4 p = true := mulOk_sm (by omega) (by omega)
  rw [Ok_seq]; simp [h9 p a b _ g3 hp rfl, mt, mp, lt, cur_ob, -Bool.exists_bool]
  refine (h2 p a b g3 cu).mono ?_
  rintro _ g4 ⟨⟨xs, rfl, hx⟩, rfl⟩
  simp [biV, lenV, hx, -Bool.exists_bool]
  rw [Ok_seq]; simp [h11 p g4 hp, -Bool.exists_bool]
  refine (h8 (p - 1) g4 d3 (by omega) (by omega)).mono ?_
  rintro _ g5 ⟨d5, u, rfl, u0, u1⟩
  obtain ⟨w, ew⟩ : ∃ w, w = 1 + u := ⟨_, rfl⟩
  have w0 : 0 < w := by omega
  have w1 : w < p := by omega
  simp [← ew, -Bool.exists_bool]
  clear ew u0 u1
  obtain ⟨n1, n2, n3, n4⟩ := hp.nr
  have nd : ¬ p ∣ nr p := hp.ndvd (by omega) n2
  have k1 := cu_twist cu nd
  have k2 := cu_sc cu w0 w1
  have q1 := csum_nr (a := a) (b := b) hp
  have q2 := csum_sc (a := a) (b := b) hp (hp.ndvd w0 w1)
  have t4 := fun g => h4 p a b g cu
  have t3 := fun g => h3 p a b w g cu w0 w1
  have ma : ∀ x : Int, mulOk x a = true := fun x => mulOk_sm (by have := cu.a0; omega) (by have := cu.a1; omega)
  have mb : ∀ x : Int, mulOk x b = true := fun x => mulOk_sm (by have := cu.b0; omega) (by have := cu.b1; omega)
  have mn : ∀ x : Int, mulOk x (nr p) = true := fun x => mulOk_sm (by omega) (by omega)
  have e1 : a * nr p * nr p = nr p * nr p * a := by grind
  have e2 : b * nr p * nr p * nr p = nr p * nr p * nr p * b := by grind
  have e3 : a * (w * w) * (w * w) = w ^ 4 * a := by grind
  have e4 : b * (w * w) * (w * w) * (w * w) = w ^ 6 * b := by grind
  rw [e1, e2] at k1 q1
  rw [e3, e4] at k2 q2
  simp only [e1, e2] at t4
  simp only [e3, e4] at t3
  have p4 : binV .pow (.int w) (.int 4) = some (.int (w ^ 4)) := by
    simp [binV, powOk]; omega
  have p6 : binV .pow (.int w) (.int 6) = some (.int (w ^ 6)) := by
    simp [binV, powOk]; omega
  have m1 := fun g => h1 p _ _ g k1
  have m2 := fun g => h1 p _ _ g k2
  rw [Ok_seq]; simp [mn, ma, mb, hp.pos, m1, -Bool.exists_bool]
  rw [Ok_seq]; simp [p4, p6, ma, mb, hp.pos, m2, -Bool.exists_bool]
  clear m1 m2
  generalize nr p * nr p * a % p = x1 at *
  generalize nr p * nr p * nr p * b % p = y1 at *
  generalize w ^ 4 * a % p = x2 at *
  generalize w ^ 6 * b % p = y2 at *
  have mp2 : mulOk 2 p = true := mulOk_sm (by omega) (by omega)
  have c1 := h9 p x1 y1 (2 * p + 2 - (1 + (p + csum p a b))) g5 hp (by rw [q1]; omega)
  have c2 := h9 p x2 y2 (1 + (p + csum p a b)) g5 hp (by rw [q2])
  rw [Ok_seq]; simp [mp2, c1, c2, -Bool.exists_bool]
  rw [Ok_seq]; simp [cur_ob, t4, t3, h0, -Bool.exists_bool]
  rw [Ok_seq]; simp [-Bool.exists_bool]
  rw [itV_r1 (by omega) (by omega)]; simp [range_len, -Bool.exists_bool]
  refine ⟨by unfold lineN; omega, ?_⟩
  rw [range_em]
  refine ok_compM (em := fun k : Nat => .int (0 + k)) (eo := .int) (u := fun k : Nat => if fx a b k % p = 0 then some (k : Int) else none) (xs := List.range p.toNat) (fun k hk => ?_) ?_
  · have hk := List.mem_range.mp hk
    have mk : ∀ x : Int, mulOk x k = true := fun x => mulOk_sm (by omega) (by omega)
    rw [Ok_itemF]; simp [wipeS, mk, hp.pos]
    rw [show (k : Int) * k * k + a * k + b = fx a b k from rfl]
    by_cases z : fx a b k % p = 0 <;> simp [z]
  rw [show ((List.range p.toNat).filterMap fun k : Nat => if fx a b k % p = 0 then some (k : Int) else none) = rootF p a b from rfl]
  rw [Ok_seq]; simp [-Bool.exists_bool]
  have tq : decide (csum p a b % 2 = 0) = !decide (rootF p a b = []) := by
    by_cases z : rootF p a b = []
    · have : ¬ (-csum p a b) % 2 = 0 := fun y => tp.mp y z
      simp [z]; omega
    · have := tp.mpr z
      simp [z]; omega
  have nl : cmpV .ne (.list ((rootF p a b).map .int)) (.list []) = some (!decide (rootF p a b = [])) := by
    show (cmpV .eq (lD (rootF p a b)) (lD [])).map (!·) = _
    rw [eqv_list]; rfl
  have nb : ∀ x : Bool, cmpV .ne (.bool x) (.bool x) = some false := by decide
  rw [nl, tq]
  simp only [Option.some.injEq, exists_eq_left', nb, Bool.false_eq_true, if_false]
  rw [Ok_seq, Ok_for]; simp [-Bool.exists_bool]
  refine (h8 4 g5 d5 (by omega) (by omega)).mono ?_
  rintro _ g6 ⟨d6, n, rfl, n0, n1⟩
  rw [itV_r1 (by omega) (by omega)]; simp [-Bool.exists_bool]
  have shl : showOk (lD [-csum p a b, p, a, b]) = true := show_lst (by intro x hx; have := cu.a0; have := cu.a1; have := cu.b0; have := cu.b1; simp at hx; omega) (by simp)
  refine ok_forL (fun k σ g' => DkB g' ∧ ∃ z8 z9 z10 z11 z12 z13 z14 z15 z16 : Option D, σ = [some (tokD 1), some (tokD 0), some (.int p), some (.int a), some (.int b), some (curD p a b), some (.int (1 + (p + csum p a b))), some (.int (-csum p a b)), z8, z9, z10, z11, z12, z13, z14, z15, z16]) ⟨d6, _, _, _, _, _, _, _, _, _, rfl⟩ ?_ ?_
  · rintro k x σ g' hx ⟨d7, z8, z9, z10, z11, z12, z13, z14, z15, z16, rfl⟩
    generalize hI : loopF _ _ = II
    rw [Ok_turnF]; simp [-Bool.exists_bool]
    rw [Ok_seq]; simp [-Bool.exists_bool]
    refine (h6 p g' hp d7).mono ?_
    rintro _ g8 ⟨⟨c, d, rfl, cu2⟩, d8⟩
    simp [setT, setMany, -Bool.exists_bool]
    simp [h1 p c d g8 cu2, h5 p c d g8 hp, h9 p c d _ g8 hp rfl, -Bool.exists_bool]
    subst hI
    exact ⟨d8, _, _, _, _, _, _, _, _, _, rfl⟩
  · rintro σ g' ⟨d7, z8, z9, z10, z11, z12, z13, z14, z15, z16, rfl⟩
    simp [cur_p, cur_a, cur_b, h12 p a b g' hp, -Bool.exists_bool]
    rw [show PyData.list [.int (-csum p a b), .int p, .int a, .int b] = lD [-csum p a b, p, a, b] from rfl]
    simp [bi_repr shl, eq_same, -Bool.exists_bool]
    subst hQ
    rfl
end Xk15
end

section
/-! the functions of k15 at their heights: printed by pk.py -/
set_option autoImplicit false
namespace Xk15
open PySem Pv
variable {ns : List Int}
theorem q__law_draw_DrawC {d : Nat} : DrawC (PH ns (d + 1)) 17 := by unfold DrawC; intro _ _ h0 h1 h2; exact Ok_F (draw_run h0 h1 h2)
theorem q__law_deck_DeckC {d : Nat} : DeckC (PH ns (d + 1)) 16 := by unfold DeckC; exact Ok_F (deck_run (ns := ns))
theorem q__law_pick_PickTC {d : Nat} : PickTC (PH ns (d + 2)) 18 := by unfold PickTC; intro _ _ h0 h1 h2; exact Ok_F (pickT_run h0 h1 h2 (q__law_draw_DrawC (d := d + 0)))
theorem q__law_pick_PickLC {d : Nat} : PickLC (PH ns (d + 2)) 18 := by unfold PickLC; intro _ _ h0 h1 h2; exact Ok_F (pickL_run h0 h1 h2 (q__law_draw_DrawC (d := d + 0)))
theorem q__law_prime_PrimeC {d : Nat} : PrimeC (PH ns (d + 3)) 19 := by unfold PrimeC; intro _ h0; exact Ok_F (prime_run h0 (q__law_draw_DrawC (d := d + 1)) (q__law_pick_PickTC (d := d + 0)))
theorem q_is_integer_IsIntC {d : Nat} : IsIntC (PH ns (d + 1)) 0 := by unfold IsIntC; intro _ _; refine Ok.eq ?_; exact Ok_F (is_int_run )
theorem q_is_prime_IsPrimeC {d : Nat} : IsPrimeC (PH ns (d + 2)) 1 := by unfold IsPrimeC; intro _ _ h0; refine Ok.eq ?_; exact Ok_F (is_prime_run h0 (q_is_integer_IsIntC (d := d + 0)))
theorem q_is_number_IsNumC {d : Nat} : IsNumC (PH ns (d + 2)) 2 := by unfold IsNumC; intro _ _ _ h0 h1; refine Ok.eq ?_; exact Ok_F (is_num_run h0 h1 (q_is_integer_IsIntC (d := d + 0)))
theorem q_Curve___init___MkCurC {d : Nat} : MkCurC (PH ns (d + 3)) 6 := by unfold MkCurC; intro _ _ _ _ h0; refine Ok.eq ?_; exact Ok_F (mk_cur_run h0 (q_is_number_IsNumC (d := d + 0)) (q_is_prime_IsPrimeC (d := d + 0)))
theorem q_square_table_SqTabC {d : Nat} : SqTabC (PH ns (d + 1)) 12 := by unfold SqTabC; intro _ _ h0; exact Ok_F (sq_tab_run h0)
theorem q_trace_by_table_TrTabC {d : Nat} : TrTabC (PH ns (d + 1)) 13 := by unfold TrTabC; intro _ _ _ _ _ h0 h1; refine Ok.eq ?_; exact Ok_F (tr_tab_run h0 h1)
theorem q_trace_TraceC {d : Nat} : TraceC (PH ns (d + 2)) 14 := by unfold TraceC; intro _ _ _ _ h0; refine Ok.eq ?_; exact Ok_F (trace_run h0 (q_square_table_SqTabC (d := d + 0)) (q_trace_by_table_TrTabC (d := d + 0)))
theorem q__law_curve_CurveC {d : Nat} : CurveC (PH ns (d + 2)) 20 := by unfold CurveC; intro _ _ h0 h1; exact Ok_F (curve_run h0 h1 (q__law_draw_DrawC (d := d + 0)))
theorem q__law_count_CountC {d : Nat} : CountC (PH ns (d + 1)) 21 := by unfold CountC; intro _ _ _ _ h0; refine Ok.eq ?_; exact Ok_F (count_run h0)
theorem q_number_power_NpC {d : Nat} : NpC (PH ns (d + 1)) 3 := by unfold NpC; intro _ _ _ _ h0 h1 h2 h3; refine Ok.eq ?_; exact Ok_F (number_power_run h0 h1 h2 h3)
theorem q_is_square_IsSqC {d : Nat} : IsSqC (PH ns (d + 2)) 4 := by unfold IsSqC; intro _ _ _ h0 h1 h2; refine Ok.eq ?_; exact Ok_F (is_sq_run h0 h1 h2 (q_number_power_NpC (d := d + 0)))
theorem q_spare_SpareC {d : Nat} : SpareC (PH ns (d + 3)) 5 := by unfold SpareC; intro _ _ h0; refine Ok.eq ?_; exact Ok_F (spare_run h0 (q_is_square_IsSqC (d := d + 0)))
theorem q_Curve___eq___EqC {d : Nat} : EqC (PH ns (d + 1)) 7 := by unfold EqC; intro _ _ _ _; refine Ok.eq ?_; exact Ok_F (eq_run )
theorem q_Curve_right_RightC {d : Nat} : RightC (PH ns (d + 1)) 8 := by unfold RightC; intro _ _ _ _ _ h0 h1 h2; refine Ok.eq ?_; exact Ok_F (right_run h0 h1 h2)
theorem q_Curve_points_PointsC {d : Nat} : PointsC (PH ns (d + 2)) 9 := by unfold PointsC; intro _ _ _ _ h0; exact Ok_F (points_run h0 (q_Curve_right_RightC (d := d + 0)))
theorem q_Curve_twist_TwistC {d : Nat} : TwistC (PH ns (d + 4)) 10 := by unfold TwistC; intro _ _ _ _ h0; refine Ok.eq ?_; exact Ok_F (twist_run h0 (q_Curve___init___MkCurC (d := d + 0)) (q_spare_SpareC (d := d + 0)))
theorem q_Curve_scaled_ScaledC {d : Nat} : ScaledC (PH ns (d + 4)) 11 := by unfold ScaledC; intro _ _ _ _ _ h0 h1 h2; refine Ok.eq ?_; exact Ok_F (scaled_run h0 h1 h2 (q_Curve___init___MkCurC (d := d + 0)))
theorem q_count_CountPC {d : Nat} : CountPC (PH ns (d + 3)) 15 := by unfold CountPC; intro _ _ _ _ h0; refine Ok.eq ?_; exact Ok_F (countP_run h0 (q_trace_TraceC (d := d + 0)))
theorem q__law_spare_LSpareC {d : Nat} : LSpareC (PH ns (d + 1)) 22 := by unfold LSpareC; intro _ _ h0; refine Ok.eq ?_; exact Ok_F (lspare_run h0)
theorem q__law_is_counted_LCntC {d : Nat} : LCntC (PH ns (d + 4)) 23 := by unfold LCntC; intro _ _ _ _ _ h0 h1; refine Ok.eq ?_; exact Ok_F (lcnt_run h0 h1 (q_count_CountPC (d := d + 0)) (q_trace_TraceC (d := d + 1)))
theorem q_law_LawC {d : Nat} : LawC (PH ns (d + 5)) 24 := Ok_F (law_run (q_Curve___eq___EqC (d := d + 3)) (q_Curve___init___MkCurC (d := d + 1)) (q_Curve_points_PointsC (d := d + 2)) (q_Curve_scaled_ScaledC (d := d + 0)) (q_Curve_twist_TwistC (d := d + 0)) (q__law_count_CountC (d := d + 3)) (q__law_curve_CurveC (d := d + 2)) (q__law_deck_DeckC (d := d + 3)) (q__law_draw_DrawC (d := d + 3)) (q__law_is_counted_LCntC (d := d + 0)) (q__law_prime_PrimeC (d := d + 1)) (q__law_spare_LSpareC (d := d + 3)) (q_trace_TraceC (d := d + 2)))
theorem law_val (ns : List Int) (h : ns.length ≤ 63) : ∃ g', FT (T ns) (fun _ => none) (4 + 1) 24 [tokD 1] none = .ok (.bool true) g' := by
  have z : LawC (PH ns (0 + 5)) 24 := q_law_LawC (d := 0)
  obtain ⟨a, g', e, rfl⟩ := Ok.ex z
  exact ⟨g', e⟩
end Xk15
end

section
/-! the end of k15: printed by gen.py -/
set_option autoImplicit false
namespace Xk15
open PySem PySem.Spec PyProof.Rows L2 Pv
theorem kit_no {K : PySem.W.Frag} {C : Addr} {T : String} (hm : PySem.W.kitMeta T = true) (h : PySem.W.mroIn K C (.type T) = some false) : PySem.W.kitOne K (.ref C) (.type T) = some false := by
  have e : PySem.W.kitOne K (.ref C) (.type T) = (if PySem.W.kitMeta T = true then PySem.W.subIn K (.ref C) (.type T) else none) := rfl
  rw [e, if_pos hm]
  exact h
set_option maxHeartbeats 0 in
theorem fin {l : PySem.W.OpenLaw} {w : World} {K : PySem.W.Frag} {h : Heap} {mg : Str → Option Value} {fa : Addr} (X : K.In h) (G : h.Ns mainGlobals mg) (hfa : mg "law" = some (.ref fa))
    {C_Curve : Addr} (aC_Curve : PySem.W.nsIn K mainGlobals "Curve" = some (some (.ref C_Curve))) (pg_Curve : PySem.W.plainGet K C_Curve Str.empty = true) (hd_Curve : PySem.W.hasDictIn K C_Curve = true) (po_Curve : PySem.W.plainOver K C_Curve = true) (sa_Curve : PySem.W.findIn K (.ref C_Curve) "__setattr__" = some (some (.builtin "object.__setattr__"))) (mk_Curve : PySem.W.makesIn K C_Curve = true) (kc_Curve : PySem.W.keepIn K (.ref C_Curve) = true) (na_Curve_prime : PySem.W.findIn K (.ref C_Curve) "prime" = some none) (na_Curve_a : PySem.W.findIn K (.ref C_Curve) "a" = some none) (na_Curve_b : PySem.W.findIn K (.ref C_Curve) "b" = some none)
    (ia_Curve : PySem.W.findIn K (.ref C_Curve) "__class__" = some (some (.builtin "object.__class__"))) (ib_Curve : PySem.W.specialIn K (.builtin "object.__class__") "__get__" = some (some (.builtin "getset_descriptor.__get__"))) (ic_Curve : PySem.W.takesIn K (.builtin "object.__class__") = some true) (id_Curve : PySem.W.mroIn K C_Curve (.type "object") = some true) (ik_Curve_int : PySem.W.mroIn K C_Curve (.type "int") = some false) (ik_Curve_bool : PySem.W.mroIn K C_Curve (.type "bool") = some false) (ik_Curve_str : PySem.W.mroIn K C_Curve (.type "str") = some false) (ik_Curve_tuple : PySem.W.mroIn K C_Curve (.type "tuple") = some false) (ik_Curve_list : PySem.W.mroIn K C_Curve (.type "list") = some false)
    (om_Curve : PySem.W.mroIn K C_Curve (.type "object") = some true) (on_Curve : PySem.W.findIn K (.ref C_Curve) "__ne__" = some (some (.builtin "object.__ne__")))
    (oi_Curve : PySem.W.isClsIn K C_Curve = true) (ot_Curve : PySem.W.typeIn K (.ref C_Curve) = some (.type "type")) (os_Curve : PySem.W.subIn K (.ref C_Curve) (.ref C_Curve) = some true)
    (op_Curve_Curve : PySem.W.subIn K (.ref C_Curve) (.ref C_Curve) = some true)
    {f_is_integer : Addr} {od_is_integer an_is_integer : Option Addr} {sl_is_integer : Array (Option Value)} {oc_is_integer kV_is_integer dc_is_integer pm_is_integer cd_is_integer ct_is_integer : Value}
    (a_is_integer : PySem.W.nsIn K mainGlobals "is_integer" = some (some (.ref f_is_integer))) (l_is_integer : K.lookup f_is_integer = some ⟨oc_is_integer, od_is_integer, .func (PySem.W.fnOf "is_integer" "is_integer" (defArgs s_is_integer) (defBody s_is_integer) (defScope s_is_integer) .none kV_is_integer dc_is_integer pm_is_integer an_is_integer cd_is_integer ct_is_integer), sl_is_integer⟩) (c_is_integer : PySem.W.codeIn K cd_is_integer "is_integer" = true) (k_is_integer : PySem.W.keepIn K (.ref f_is_integer) = true)
    {f_is_prime : Addr} {od_is_prime an_is_prime : Option Addr} {sl_is_prime : Array (Option Value)} {oc_is_prime kV_is_prime dc_is_prime pm_is_prime cd_is_prime ct_is_prime : Value}
    (a_is_prime : PySem.W.nsIn K mainGlobals "is_prime" = some (some (.ref f_is_prime))) (l_is_prime : K.lookup f_is_prime = some ⟨oc_is_prime, od_is_prime, .func (PySem.W.fnOf "is_prime" "is_prime" (defArgs s_is_prime) (defBody s_is_prime) (defScope s_is_prime) .none kV_is_prime dc_is_prime pm_is_prime an_is_prime cd_is_prime ct_is_prime), sl_is_prime⟩) (c_is_prime : PySem.W.codeIn K cd_is_prime "is_prime" = true) (k_is_prime : PySem.W.keepIn K (.ref f_is_prime) = true)
    {f_is_number : Addr} {od_is_number an_is_number : Option Addr} {sl_is_number : Array (Option Value)} {oc_is_number kV_is_number dc_is_number pm_is_number cd_is_number ct_is_number : Value}
    (a_is_number : PySem.W.nsIn K mainGlobals "is_number" = some (some (.ref f_is_number))) (l_is_number : K.lookup f_is_number = some ⟨oc_is_number, od_is_number, .func (PySem.W.fnOf "is_number" "is_number" (defArgs s_is_number) (defBody s_is_number) (defScope s_is_number) .none kV_is_number dc_is_number pm_is_number an_is_number cd_is_number ct_is_number), sl_is_number⟩) (c_is_number : PySem.W.codeIn K cd_is_number "is_number" = true) (k_is_number : PySem.W.keepIn K (.ref f_is_number) = true)
    {f_number_power : Addr} {od_number_power an_number_power : Option Addr} {sl_number_power : Array (Option Value)} {oc_number_power kV_number_power dc_number_power pm_number_power cd_number_power ct_number_power : Value}
    (a_number_power : PySem.W.nsIn K mainGlobals "number_power" = some (some (.ref f_number_power))) (l_number_power : K.lookup f_number_power = some ⟨oc_number_power, od_number_power, .func (PySem.W.fnOf "number_power" "number_power" (defArgs s_number_power) (defBody s_number_power) (defScope s_number_power) .none kV_number_power dc_number_power pm_number_power an_number_power cd_number_power ct_number_power), sl_number_power⟩) (c_number_power : PySem.W.codeIn K cd_number_power "number_power" = true) (k_number_power : PySem.W.keepIn K (.ref f_number_power) = true)
    {f_is_square : Addr} {od_is_square an_is_square : Option Addr} {sl_is_square : Array (Option Value)} {oc_is_square kV_is_square dc_is_square pm_is_square cd_is_square ct_is_square : Value}
    (a_is_square : PySem.W.nsIn K mainGlobals "is_square" = some (some (.ref f_is_square))) (l_is_square : K.lookup f_is_square = some ⟨oc_is_square, od_is_square, .func (PySem.W.fnOf "is_square" "is_square" (defArgs s_is_square) (defBody s_is_square) (defScope s_is_square) .none kV_is_square dc_is_square pm_is_square an_is_square cd_is_square ct_is_square), sl_is_square⟩) (c_is_square : PySem.W.codeIn K cd_is_square "is_square" = true) (k_is_square : PySem.W.keepIn K (.ref f_is_square) = true)
    {f_spare : Addr} {od_spare an_spare : Option Addr} {sl_spare : Array (Option Value)} {oc_spare kV_spare dc_spare pm_spare cd_spare ct_spare : Value}
    (a_spare : PySem.W.nsIn K mainGlobals "spare" = some (some (.ref f_spare))) (l_spare : K.lookup f_spare = some ⟨oc_spare, od_spare, .func (PySem.W.fnOf "spare" "spare" (defArgs s_spare) (defBody s_spare) (defScope s_spare) .none kV_spare dc_spare pm_spare an_spare cd_spare ct_spare), sl_spare⟩) (c_spare : PySem.W.codeIn K cd_spare "spare" = true) (k_spare : PySem.W.keepIn K (.ref f_spare) = true)
    {f_Curve___init__ : Addr} {od_Curve___init__ an_Curve___init__ : Option Addr} {sl_Curve___init__ : Array (Option Value)} {oc_Curve___init__ kV_Curve___init__ dc_Curve___init__ pm_Curve___init__ cd_Curve___init__ ct_Curve___init__ : Value}
    (a_Curve___init__ : PySem.W.findIn K (.ref C_Curve) "__init__" = some (some (.ref f_Curve___init__))) (i_Curve___init__ : PySem.W.isFn K (.ref f_Curve___init__) = true) (l_Curve___init__ : K.lookup f_Curve___init__ = some ⟨oc_Curve___init__, od_Curve___init__, .func (PySem.W.fnOf "__init__" "Curve.__init__" (defArgs s_Curve___init__) (defBody s_Curve___init__) (defScope s_Curve___init__) .none kV_Curve___init__ dc_Curve___init__ pm_Curve___init__ an_Curve___init__ cd_Curve___init__ ct_Curve___init__), sl_Curve___init__⟩) (c_Curve___init__ : PySem.W.codeIn K cd_Curve___init__ "Curve.__init__" = true) (k_Curve___init__ : PySem.W.keepIn K (.ref f_Curve___init__) = true)
    {f_Curve___eq__ : Addr} {od_Curve___eq__ an_Curve___eq__ : Option Addr} {sl_Curve___eq__ : Array (Option Value)} {oc_Curve___eq__ kV_Curve___eq__ dc_Curve___eq__ pm_Curve___eq__ cd_Curve___eq__ ct_Curve___eq__ : Value}
    (a_Curve___eq__ : PySem.W.findIn K (.ref C_Curve) "__eq__" = some (some (.ref f_Curve___eq__))) (i_Curve___eq__ : PySem.W.isFn K (.ref f_Curve___eq__) = true) (l_Curve___eq__ : K.lookup f_Curve___eq__ = some ⟨oc_Curve___eq__, od_Curve___eq__, .func (PySem.W.fnOf "__eq__" "Curve.__eq__" (defArgs s_Curve___eq__) (defBody s_Curve___eq__) (defScope s_Curve___eq__) .none kV_Curve___eq__ dc_Curve___eq__ pm_Curve___eq__ an_Curve___eq__ cd_Curve___eq__ ct_Curve___eq__), sl_Curve___eq__⟩) (c_Curve___eq__ : PySem.W.codeIn K cd_Curve___eq__ "Curve.__eq__" = true) (k_Curve___eq__ : PySem.W.keepIn K (.ref f_Curve___eq__) = true)
    {f_Curve_right : Addr} {od_Curve_right an_Curve_right : Option Addr} {sl_Curve_right : Array (Option Value)} {oc_Curve_right kV_Curve_right dc_Curve_right pm_Curve_right cd_Curve_right ct_Curve_right : Value}
    (a_Curve_right : PySem.W.findIn K (.ref C_Curve) "right" = some (some (.ref f_Curve_right))) (i_Curve_right : PySem.W.isFn K (.ref f_Curve_right) = true) (l_Curve_right : K.lookup f_Curve_right = some ⟨oc_Curve_right, od_Curve_right, .func (PySem.W.fnOf "right" "Curve.right" (defArgs s_Curve_right) (defBody s_Curve_right) (defScope s_Curve_right) .none kV_Curve_right dc_Curve_right pm_Curve_right an_Curve_right cd_Curve_right ct_Curve_right), sl_Curve_right⟩) (c_Curve_right : PySem.W.codeIn K cd_Curve_right "Curve.right" = true) (k_Curve_right : PySem.W.keepIn K (.ref f_Curve_right) = true)
    {f_Curve_points : Addr} {od_Curve_points an_Curve_points : Option Addr} {sl_Curve_points : Array (Option Value)} {oc_Curve_points kV_Curve_points dc_Curve_points pm_Curve_points cd_Curve_points ct_Curve_points : Value}
    (a_Curve_points : PySem.W.findIn K (.ref C_Curve) "points" = some (some (.ref f_Curve_points))) (i_Curve_points : PySem.W.isFn K (.ref f_Curve_points) = true) (l_Curve_points : K.lookup f_Curve_points = some ⟨oc_Curve_points, od_Curve_points, .func (PySem.W.fnOf "points" "Curve.points" (defArgs s_Curve_points) (defBody s_Curve_points) (defScope s_Curve_points) .none kV_Curve_points dc_Curve_points pm_Curve_points an_Curve_points cd_Curve_points ct_Curve_points), sl_Curve_points⟩) (c_Curve_points : PySem.W.codeIn K cd_Curve_points "Curve.points" = true) (k_Curve_points : PySem.W.keepIn K (.ref f_Curve_points) = true)
    {f_Curve_twist : Addr} {od_Curve_twist an_Curve_twist : Option Addr} {sl_Curve_twist : Array (Option Value)} {oc_Curve_twist kV_Curve_twist dc_Curve_twist pm_Curve_twist cd_Curve_twist ct_Curve_twist : Value}
    (a_Curve_twist : PySem.W.findIn K (.ref C_Curve) "twist" = some (some (.ref f_Curve_twist))) (i_Curve_twist : PySem.W.isFn K (.ref f_Curve_twist) = true) (l_Curve_twist : K.lookup f_Curve_twist = some ⟨oc_Curve_twist, od_Curve_twist, .func (PySem.W.fnOf "twist" "Curve.twist" (defArgs s_Curve_twist) (defBody s_Curve_twist) (defScope s_Curve_twist) .none kV_Curve_twist dc_Curve_twist pm_Curve_twist an_Curve_twist cd_Curve_twist ct_Curve_twist), sl_Curve_twist⟩) (c_Curve_twist : PySem.W.codeIn K cd_Curve_twist "Curve.twist" = true) (k_Curve_twist : PySem.W.keepIn K (.ref f_Curve_twist) = true)
    {f_Curve_scaled : Addr} {od_Curve_scaled an_Curve_scaled : Option Addr} {sl_Curve_scaled : Array (Option Value)} {oc_Curve_scaled kV_Curve_scaled dc_Curve_scaled pm_Curve_scaled cd_Curve_scaled ct_Curve_scaled : Value}
    (a_Curve_scaled : PySem.W.findIn K (.ref C_Curve) "scaled" = some (some (.ref f_Curve_scaled))) (i_Curve_scaled : PySem.W.isFn K (.ref f_Curve_scaled) = true) (l_Curve_scaled : K.lookup f_Curve_scaled = some ⟨oc_Curve_scaled, od_Curve_scaled, .func (PySem.W.fnOf "scaled" "Curve.scaled" (defArgs s_Curve_scaled) (defBody s_Curve_scaled) (defScope s_Curve_scaled) .none kV_Curve_scaled dc_Curve_scaled pm_Curve_scaled an_Curve_scaled cd_Curve_scaled ct_Curve_scaled), sl_Curve_scaled⟩) (c_Curve_scaled : PySem.W.codeIn K cd_Curve_scaled "Curve.scaled" = true) (k_Curve_scaled : PySem.W.keepIn K (.ref f_Curve_scaled) = true)
    {f_square_table : Addr} {od_square_table an_square_table : Option Addr} {sl_square_table : Array (Option Value)} {oc_square_table kV_square_table dc_square_table pm_square_table cd_square_table ct_square_table : Value}
    (a_square_table : PySem.W.nsIn K mainGlobals "square_table" = some (some (.ref f_square_table))) (l_square_table : K.lookup f_square_table = some ⟨oc_square_table, od_square_table, .func (PySem.W.fnOf "square_table" "square_table" (defArgs s_square_table) (defBody s_square_table) (defScope s_square_table) .none kV_square_table dc_square_table pm_square_table an_square_table cd_square_table ct_square_table), sl_square_table⟩) (c_square_table : PySem.W.codeIn K cd_square_table "square_table" = true) (k_square_table : PySem.W.keepIn K (.ref f_square_table) = true)
    {f_trace_by_table : Addr} {od_trace_by_table an_trace_by_table : Option Addr} {sl_trace_by_table : Array (Option Value)} {oc_trace_by_table kV_trace_by_table dc_trace_by_table pm_trace_by_table cd_trace_by_table ct_trace_by_table : Value}
    (a_trace_by_table : PySem.W.nsIn K mainGlobals "trace_by_table" = some (some (.ref f_trace_by_table))) (l_trace_by_table : K.lookup f_trace_by_table = some ⟨oc_trace_by_table, od_trace_by_table, .func (PySem.W.fnOf "trace_by_table" "trace_by_table" (defArgs s_trace_by_table) (defBody s_trace_by_table) (defScope s_trace_by_table) .none kV_trace_by_table dc_trace_by_table pm_trace_by_table an_trace_by_table cd_trace_by_table ct_trace_by_table), sl_trace_by_table⟩) (c_trace_by_table : PySem.W.codeIn K cd_trace_by_table "trace_by_table" = true) (k_trace_by_table : PySem.W.keepIn K (.ref f_trace_by_table) = true)
    {f_trace : Addr} {od_trace an_trace : Option Addr} {sl_trace : Array (Option Value)} {oc_trace kV_trace dc_trace pm_trace cd_trace ct_trace : Value}
    (a_trace : PySem.W.nsIn K mainGlobals "trace" = some (some (.ref f_trace))) (l_trace : K.lookup f_trace = some ⟨oc_trace, od_trace, .func (PySem.W.fnOf "trace" "trace" (defArgs s_trace) (defBody s_trace) (defScope s_trace) .none kV_trace dc_trace pm_trace an_trace cd_trace ct_trace), sl_trace⟩) (c_trace : PySem.W.codeIn K cd_trace "trace" = true) (k_trace : PySem.W.keepIn K (.ref f_trace) = true)
    {f_count : Addr} {od_count an_count : Option Addr} {sl_count : Array (Option Value)} {oc_count kV_count dc_count pm_count cd_count ct_count : Value}
    (a_count : PySem.W.nsIn K mainGlobals "count" = some (some (.ref f_count))) (l_count : K.lookup f_count = some ⟨oc_count, od_count, .func (PySem.W.fnOf "count" "count" (defArgs s_count) (defBody s_count) (defScope s_count) .none kV_count dc_count pm_count an_count cd_count ct_count), sl_count⟩) (c_count : PySem.W.codeIn K cd_count "count" = true) (k_count : PySem.W.keepIn K (.ref f_count) = true)
    {f__law_deck : Addr} {od__law_deck an__law_deck : Option Addr} {sl__law_deck : Array (Option Value)} {oc__law_deck kV__law_deck dc__law_deck pm__law_deck cd__law_deck ct__law_deck : Value}
    (a__law_deck : PySem.W.nsIn K mainGlobals "_law_deck" = some (some (.ref f__law_deck))) (l__law_deck : K.lookup f__law_deck = some ⟨oc__law_deck, od__law_deck, .func (PySem.W.fnOf "_law_deck" "_law_deck" (defArgs s__law_deck) (defBody s__law_deck) (defScope s__law_deck) .none kV__law_deck dc__law_deck pm__law_deck an__law_deck cd__law_deck ct__law_deck), sl__law_deck⟩) (c__law_deck : PySem.W.codeIn K cd__law_deck "_law_deck" = true) (k__law_deck : PySem.W.keepIn K (.ref f__law_deck) = true)
    {f__law_draw : Addr} {od__law_draw an__law_draw : Option Addr} {sl__law_draw : Array (Option Value)} {oc__law_draw kV__law_draw dc__law_draw pm__law_draw cd__law_draw ct__law_draw : Value}
    (a__law_draw : PySem.W.nsIn K mainGlobals "_law_draw" = some (some (.ref f__law_draw))) (l__law_draw : K.lookup f__law_draw = some ⟨oc__law_draw, od__law_draw, .func (PySem.W.fnOf "_law_draw" "_law_draw" (defArgs s__law_draw) (defBody s__law_draw) (defScope s__law_draw) .none kV__law_draw dc__law_draw pm__law_draw an__law_draw cd__law_draw ct__law_draw), sl__law_draw⟩) (c__law_draw : PySem.W.codeIn K cd__law_draw "_law_draw" = true) (k__law_draw : PySem.W.keepIn K (.ref f__law_draw) = true)
    {f__law_pick : Addr} {od__law_pick an__law_pick : Option Addr} {sl__law_pick : Array (Option Value)} {oc__law_pick kV__law_pick dc__law_pick pm__law_pick cd__law_pick ct__law_pick : Value}
    (a__law_pick : PySem.W.nsIn K mainGlobals "_law_pick" = some (some (.ref f__law_pick))) (l__law_pick : K.lookup f__law_pick = some ⟨oc__law_pick, od__law_pick, .func (PySem.W.fnOf "_law_pick" "_law_pick" (defArgs s__law_pick) (defBody s__law_pick) (defScope s__law_pick) .none kV__law_pick dc__law_pick pm__law_pick an__law_pick cd__law_pick ct__law_pick), sl__law_pick⟩) (c__law_pick : PySem.W.codeIn K cd__law_pick "_law_pick" = true) (k__law_pick : PySem.W.keepIn K (.ref f__law_pick) = true)
    {f__law_prime : Addr} {od__law_prime an__law_prime : Option Addr} {sl__law_prime : Array (Option Value)} {oc__law_prime kV__law_prime dc__law_prime pm__law_prime cd__law_prime ct__law_prime : Value}
    (a__law_prime : PySem.W.nsIn K mainGlobals "_law_prime" = some (some (.ref f__law_prime))) (l__law_prime : K.lookup f__law_prime = some ⟨oc__law_prime, od__law_prime, .func (PySem.W.fnOf "_law_prime" "_law_prime" (defArgs s__law_prime) (defBody s__law_prime) (defScope s__law_prime) .none kV__law_prime dc__law_prime pm__law_prime an__law_prime cd__law_prime ct__law_prime), sl__law_prime⟩) (c__law_prime : PySem.W.codeIn K cd__law_prime "_law_prime" = true) (k__law_prime : PySem.W.keepIn K (.ref f__law_prime) = true)
    {f__law_curve : Addr} {od__law_curve an__law_curve : Option Addr} {sl__law_curve : Array (Option Value)} {oc__law_curve kV__law_curve dc__law_curve pm__law_curve cd__law_curve ct__law_curve : Value}
    (a__law_curve : PySem.W.nsIn K mainGlobals "_law_curve" = some (some (.ref f__law_curve))) (l__law_curve : K.lookup f__law_curve = some ⟨oc__law_curve, od__law_curve, .func (PySem.W.fnOf "_law_curve" "_law_curve" (defArgs s__law_curve) (defBody s__law_curve) (defScope s__law_curve) .none kV__law_curve dc__law_curve pm__law_curve an__law_curve cd__law_curve ct__law_curve), sl__law_curve⟩) (c__law_curve : PySem.W.codeIn K cd__law_curve "_law_curve" = true) (k__law_curve : PySem.W.keepIn K (.ref f__law_curve) = true)
    {f__law_count : Addr} {od__law_count an__law_count : Option Addr} {sl__law_count : Array (Option Value)} {oc__law_count kV__law_count dc__law_count pm__law_count cd__law_count ct__law_count : Value}
    (a__law_count : PySem.W.nsIn K mainGlobals "_law_count" = some (some (.ref f__law_count))) (l__law_count : K.lookup f__law_count = some ⟨oc__law_count, od__law_count, .func (PySem.W.fnOf "_law_count" "_law_count" (defArgs s__law_count) (defBody s__law_count) (defScope s__law_count) .none kV__law_count dc__law_count pm__law_count an__law_count cd__law_count ct__law_count), sl__law_count⟩) (c__law_count : PySem.W.codeIn K cd__law_count "_law_count" = true) (k__law_count : PySem.W.keepIn K (.ref f__law_count) = true)
    {f__law_spare : Addr} {od__law_spare an__law_spare : Option Addr} {sl__law_spare : Array (Option Value)} {oc__law_spare kV__law_spare dc__law_spare pm__law_spare cd__law_spare ct__law_spare : Value}
    (a__law_spare : PySem.W.nsIn K mainGlobals "_law_spare" = some (some (.ref f__law_spare))) (l__law_spare : K.lookup f__law_spare = some ⟨oc__law_spare, od__law_spare, .func (PySem.W.fnOf "_law_spare" "_law_spare" (defArgs s__law_spare) (defBody s__law_spare) (defScope s__law_spare) .none kV__law_spare dc__law_spare pm__law_spare an__law_spare cd__law_spare ct__law_spare), sl__law_spare⟩) (c__law_spare : PySem.W.codeIn K cd__law_spare "_law_spare" = true) (k__law_spare : PySem.W.keepIn K (.ref f__law_spare) = true)
    {f__law_is_counted : Addr} {od__law_is_counted an__law_is_counted : Option Addr} {sl__law_is_counted : Array (Option Value)} {oc__law_is_counted kV__law_is_counted dc__law_is_counted pm__law_is_counted cd__law_is_counted ct__law_is_counted : Value}
    (a__law_is_counted : PySem.W.nsIn K mainGlobals "_law_is_counted" = some (some (.ref f__law_is_counted))) (l__law_is_counted : K.lookup f__law_is_counted = some ⟨oc__law_is_counted, od__law_is_counted, .func (PySem.W.fnOf "_law_is_counted" "_law_is_counted" (defArgs s__law_is_counted) (defBody s__law_is_counted) (defScope s__law_is_counted) .none kV__law_is_counted dc__law_is_counted pm__law_is_counted an__law_is_counted cd__law_is_counted ct__law_is_counted), sl__law_is_counted⟩) (c__law_is_counted : PySem.W.codeIn K cd__law_is_counted "_law_is_counted" = true) (k__law_is_counted : PySem.W.keepIn K (.ref f__law_is_counted) = true)
    {f_law : Addr} {od_law an_law : Option Addr} {sl_law : Array (Option Value)} {oc_law kV_law dc_law pm_law cd_law ct_law : Value}
    (a_law : PySem.W.nsIn K mainGlobals "law" = some (some (.ref f_law))) (l_law : K.lookup f_law = some ⟨oc_law, od_law, .func (PySem.W.fnOf "law" "law" (defArgs s_law) (defBody s_law) (defScope s_law) .none kV_law dc_law pm_law an_law cd_law ct_law), sl_law⟩) (c_law : PySem.W.codeIn K cd_law "law" = true) (k_law : PySem.W.keepIn K (.ref f_law) = true)
    {v_GREATEST_PRIME : Nat} (e_GREATEST_PRIME : PySem.W.nsIn K mainGlobals "GREATEST_PRIME" = some (some (.int 199 v_GREATEST_PRIME)))
    {v_LEAST_PRIME : Nat} (e_LEAST_PRIME : PySem.W.nsIn K mainGlobals "LEAST_PRIME" = some (some (.int 7 v_LEAST_PRIME)))
    (y_bool : PySem.W.nsIn K mainGlobals "bool" = some none)
    (y_dict : PySem.W.nsIn K mainGlobals "dict" = some none)
    (y_int : PySem.W.nsIn K mainGlobals "int" = some none)
    (y_isinstance : PySem.W.nsIn K mainGlobals "isinstance" = some none)
    (y_len : PySem.W.nsIn K mainGlobals "len" = some none)
    (y_max : PySem.W.nsIn K mainGlobals "max" = some none)
    (y_range : PySem.W.nsIn K mainGlobals "range" = some none)
    (y_repr : PySem.W.nsIn K mainGlobals "repr" = some none)
    (y_sum : PySem.W.nsIn K mainGlobals "sum" = some none)
    (y_tuple : PySem.W.nsIn K mainGlobals "tuple" = some none) :
    ∃ fd : FuncData, (∀ (s : Shared) (u : Value), BindsTo s fd ⟨[u], []⟩ [("_law_script", u)]) ∧ ∀ (a : Addr) (ns : List Int), ns.length ≤ 63 → ∃ sp : Sp, (∀ H : Hp, (∀ b, H b = none ∨ ∃ o xs, H b = some (.frz o (.lst xs))) → SqL K H a (ns.map V.int) → sp [.ref a] H (fun v _ => v = .bl true) fun _ _ _ => False) ∧ ∀ base : Heap, K.In base → base.Ns mainGlobals mg → FnG l.prog w K mg base (L2.CX l.prog w) 6 fa fd ["_law_script"] sp := by
  have e := hfa.symm.trans (PySem.W.mg_of X G a_law)
  have A : { A : Fa K mg // A.f_law = f_law ∧ A.d_law = PySem.W.fnOf "law" "law" (defArgs s_law) (defBody s_law) (defScope s_law) .none kV_law dc_law pm_law an_law cd_law ct_law } := ⟨{
    C_Curve := C_Curve,
    cl_Curve := ⟨pg_Curve, hd_Curve, po_Curve, sa_Curve⟩,
    in_Curve := ⟨⟨pg_Curve, hd_Curve, po_Curve, sa_Curve⟩, ia_Curve, ib_Curve, ic_Curve, id_Curve, fun T h => by
      simp only [List.mem_cons, List.not_mem_nil, or_false] at h
      rcases h with rfl | rfl | rfl | rfl | rfl
      · exact kit_no rfl ik_Curve_int
      · exact kit_no rfl ik_Curve_bool
      · exact kit_no rfl ik_Curve_str
      · exact kit_no rfl ik_Curve_tuple
      · exact kit_no rfl ik_Curve_list⟩,
    gC_Curve := PySem.W.mg_of X G aC_Curve,
    nA_Curve_prime := na_Curve_prime,
    nA_Curve_a := na_Curve_a,
    nA_Curve_b := na_Curve_b,
    O_Curve := ⟨a_Curve___eq__, i_Curve___eq__, om_Curve, on_Curve⟩,
    kT_Curve := fun T h => kitT_of oi_Curve ot_Curve h,
    kO_Curve_Curve := kit_of2 oi_Curve ot_Curve os_Curve op_Curve_Curve,
    f_is_integer := f_is_integer,
    d_is_integer := _,
    F_is_integer := fun_mk (st := s_is_integer) l_is_integer c_is_integer k_is_integer,
    g_is_integer := PySem.W.mg_of X G a_is_integer,
    b_is_integer := (fun_mk (st := s_is_integer) l_is_integer c_is_integer k_is_integer).binds (ps := p_is_integer) (fun _ _ _ _ _ _ us hl => match us, hl with | [_], _ => rfl),
    f_is_prime := f_is_prime,
    d_is_prime := _,
    F_is_prime := fun_mk (st := s_is_prime) l_is_prime c_is_prime k_is_prime,
    g_is_prime := PySem.W.mg_of X G a_is_prime,
    b_is_prime := (fun_mk (st := s_is_prime) l_is_prime c_is_prime k_is_prime).binds (ps := p_is_prime) (fun _ _ _ _ _ _ us hl => match us, hl with | [_], _ => rfl),
    f_is_number := f_is_number,
    d_is_number := _,
    F_is_number := fun_mk (st := s_is_number) l_is_number c_is_number k_is_number,
    g_is_number := PySem.W.mg_of X G a_is_number,
    b_is_number := (fun_mk (st := s_is_number) l_is_number c_is_number k_is_number).binds (ps := p_is_number) (fun _ _ _ _ _ _ us hl => match us, hl with | [_, _], _ => rfl),
    f_number_power := f_number_power,
    d_number_power := _,
    F_number_power := fun_mk (st := s_number_power) l_number_power c_number_power k_number_power,
    g_number_power := PySem.W.mg_of X G a_number_power,
    b_number_power := (fun_mk (st := s_number_power) l_number_power c_number_power k_number_power).binds (ps := p_number_power) (fun _ _ _ _ _ _ us hl => match us, hl with | [_, _, _], _ => rfl),
    f_is_square := f_is_square,
    d_is_square := _,
    F_is_square := fun_mk (st := s_is_square) l_is_square c_is_square k_is_square,
    g_is_square := PySem.W.mg_of X G a_is_square,
    b_is_square := (fun_mk (st := s_is_square) l_is_square c_is_square k_is_square).binds (ps := p_is_square) (fun _ _ _ _ _ _ us hl => match us, hl with | [_, _], _ => rfl),
    f_spare := f_spare,
    d_spare := _,
    F_spare := fun_mk (st := s_spare) l_spare c_spare k_spare,
    g_spare := PySem.W.mg_of X G a_spare,
    b_spare := (fun_mk (st := s_spare) l_spare c_spare k_spare).binds (ps := p_spare) (fun _ _ _ _ _ _ us hl => match us, hl with | [_], _ => rfl),
    f_Curve___init__ := f_Curve___init__,
    d_Curve___init__ := _,
    F_Curve___init__ := fun_mk (st := s_Curve___init__) l_Curve___init__ c_Curve___init__ k_Curve___init__,
    b_Curve___init__ := (fun_mk (st := s_Curve___init__) l_Curve___init__ c_Curve___init__ k_Curve___init__).binds (ps := p_Curve___init__) (fun _ _ _ _ _ _ us hl => match us, hl with | [_, _, _, _], _ => rfl),
    K_Curve := ⟨mk_Curve, a_Curve___init__, i_Curve___init__, kc_Curve⟩,
    f_Curve___eq__ := f_Curve___eq__,
    d_Curve___eq__ := _,
    F_Curve___eq__ := fun_mk (st := s_Curve___eq__) l_Curve___eq__ c_Curve___eq__ k_Curve___eq__,
    b_Curve___eq__ := (fun_mk (st := s_Curve___eq__) l_Curve___eq__ c_Curve___eq__ k_Curve___eq__).binds (ps := p_Curve___eq__) (fun _ _ _ _ _ _ us hl => match us, hl with | [_, _], _ => rfl),
    M_Curve___eq__ := ⟨a_Curve___eq__, i_Curve___eq__, k_Curve___eq__⟩,
    f_Curve_right := f_Curve_right,
    d_Curve_right := _,
    F_Curve_right := fun_mk (st := s_Curve_right) l_Curve_right c_Curve_right k_Curve_right,
    b_Curve_right := (fun_mk (st := s_Curve_right) l_Curve_right c_Curve_right k_Curve_right).binds (ps := p_Curve_right) (fun _ _ _ _ _ _ us hl => match us, hl with | [_, _], _ => rfl),
    M_Curve_right := ⟨a_Curve_right, i_Curve_right, k_Curve_right⟩,
    f_Curve_points := f_Curve_points,
    d_Curve_points := _,
    F_Curve_points := fun_mk (st := s_Curve_points) l_Curve_points c_Curve_points k_Curve_points,
    b_Curve_points := (fun_mk (st := s_Curve_points) l_Curve_points c_Curve_points k_Curve_points).binds (ps := p_Curve_points) (fun _ _ _ _ _ _ us hl => match us, hl with | [_], _ => rfl),
    M_Curve_points := ⟨a_Curve_points, i_Curve_points, k_Curve_points⟩,
    f_Curve_twist := f_Curve_twist,
    d_Curve_twist := _,
    F_Curve_twist := fun_mk (st := s_Curve_twist) l_Curve_twist c_Curve_twist k_Curve_twist,
    b_Curve_twist := (fun_mk (st := s_Curve_twist) l_Curve_twist c_Curve_twist k_Curve_twist).binds (ps := p_Curve_twist) (fun _ _ _ _ _ _ us hl => match us, hl with | [_], _ => rfl),
    M_Curve_twist := ⟨a_Curve_twist, i_Curve_twist, k_Curve_twist⟩,
    f_Curve_scaled := f_Curve_scaled,
    d_Curve_scaled := _,
    F_Curve_scaled := fun_mk (st := s_Curve_scaled) l_Curve_scaled c_Curve_scaled k_Curve_scaled,
    b_Curve_scaled := (fun_mk (st := s_Curve_scaled) l_Curve_scaled c_Curve_scaled k_Curve_scaled).binds (ps := p_Curve_scaled) (fun _ _ _ _ _ _ us hl => match us, hl with | [_, _], _ => rfl),
    M_Curve_scaled := ⟨a_Curve_scaled, i_Curve_scaled, k_Curve_scaled⟩,
    f_square_table := f_square_table,
    d_square_table := _,
    F_square_table := fun_mk (st := s_square_table) l_square_table c_square_table k_square_table,
    g_square_table := PySem.W.mg_of X G a_square_table,
    b_square_table := (fun_mk (st := s_square_table) l_square_table c_square_table k_square_table).binds (ps := p_square_table) (fun _ _ _ _ _ _ us hl => match us, hl with | [_], _ => rfl),
    f_trace_by_table := f_trace_by_table,
    d_trace_by_table := _,
    F_trace_by_table := fun_mk (st := s_trace_by_table) l_trace_by_table c_trace_by_table k_trace_by_table,
    g_trace_by_table := PySem.W.mg_of X G a_trace_by_table,
    b_trace_by_table := (fun_mk (st := s_trace_by_table) l_trace_by_table c_trace_by_table k_trace_by_table).binds (ps := p_trace_by_table) (fun _ _ _ _ _ _ us hl => match us, hl with | [_, _, _, _], _ => rfl),
    f_trace := f_trace,
    d_trace := _,
    F_trace := fun_mk (st := s_trace) l_trace c_trace k_trace,
    g_trace := PySem.W.mg_of X G a_trace,
    b_trace := (fun_mk (st := s_trace) l_trace c_trace k_trace).binds (ps := p_trace) (fun _ _ _ _ _ _ us hl => match us, hl with | [_], _ => rfl),
    f_count := f_count,
    d_count := _,
    F_count := fun_mk (st := s_count) l_count c_count k_count,
    g_count := PySem.W.mg_of X G a_count,
    b_count := (fun_mk (st := s_count) l_count c_count k_count).binds (ps := p_count) (fun _ _ _ _ _ _ us hl => match us, hl with | [_], _ => rfl),
    f__law_deck := f__law_deck,
    d__law_deck := _,
    F__law_deck := fun_mk (st := s__law_deck) l__law_deck c__law_deck k__law_deck,
    g__law_deck := PySem.W.mg_of X G a__law_deck,
    b__law_deck := (fun_mk (st := s__law_deck) l__law_deck c__law_deck k__law_deck).binds (ps := p__law_deck) (fun _ _ _ _ _ _ us hl => match us, hl with | [_], _ => rfl),
    f__law_draw := f__law_draw,
    d__law_draw := _,
    F__law_draw := fun_mk (st := s__law_draw) l__law_draw c__law_draw k__law_draw,
    g__law_draw := PySem.W.mg_of X G a__law_draw,
    b__law_draw := (fun_mk (st := s__law_draw) l__law_draw c__law_draw k__law_draw).binds (ps := p__law_draw) (fun _ _ _ _ _ _ us hl => match us, hl with | [_, _], _ => rfl),
    f__law_pick := f__law_pick,
    d__law_pick := _,
    F__law_pick := fun_mk (st := s__law_pick) l__law_pick c__law_pick k__law_pick,
    g__law_pick := PySem.W.mg_of X G a__law_pick,
    b__law_pick := (fun_mk (st := s__law_pick) l__law_pick c__law_pick k__law_pick).binds (ps := p__law_pick) (fun _ _ _ _ _ _ us hl => match us, hl with | [_, _], _ => rfl),
    f__law_prime := f__law_prime,
    d__law_prime := _,
    F__law_prime := fun_mk (st := s__law_prime) l__law_prime c__law_prime k__law_prime,
    g__law_prime := PySem.W.mg_of X G a__law_prime,
    b__law_prime := (fun_mk (st := s__law_prime) l__law_prime c__law_prime k__law_prime).binds (ps := p__law_prime) (fun _ _ _ _ _ _ us hl => match us, hl with | [_], _ => rfl),
    f__law_curve := f__law_curve,
    d__law_curve := _,
    F__law_curve := fun_mk (st := s__law_curve) l__law_curve c__law_curve k__law_curve,
    g__law_curve := PySem.W.mg_of X G a__law_curve,
    b__law_curve := (fun_mk (st := s__law_curve) l__law_curve c__law_curve k__law_curve).binds (ps := p__law_curve) (fun _ _ _ _ _ _ us hl => match us, hl with | [_, _], _ => rfl),
    f__law_count := f__law_count,
    d__law_count := _,
    F__law_count := fun_mk (st := s__law_count) l__law_count c__law_count k__law_count,
    g__law_count := PySem.W.mg_of X G a__law_count,
    b__law_count := (fun_mk (st := s__law_count) l__law_count c__law_count k__law_count).binds (ps := p__law_count) (fun _ _ _ _ _ _ us hl => match us, hl with | [_, _, _], _ => rfl),
    f__law_spare := f__law_spare,
    d__law_spare := _,
    F__law_spare := fun_mk (st := s__law_spare) l__law_spare c__law_spare k__law_spare,
    g__law_spare := PySem.W.mg_of X G a__law_spare,
    b__law_spare := (fun_mk (st := s__law_spare) l__law_spare c__law_spare k__law_spare).binds (ps := p__law_spare) (fun _ _ _ _ _ _ us hl => match us, hl with | [_], _ => rfl),
    f__law_is_counted := f__law_is_counted,
    d__law_is_counted := _,
    F__law_is_counted := fun_mk (st := s__law_is_counted) l__law_is_counted c__law_is_counted k__law_is_counted,
    g__law_is_counted := PySem.W.mg_of X G a__law_is_counted,
    b__law_is_counted := (fun_mk (st := s__law_is_counted) l__law_is_counted c__law_is_counted k__law_is_counted).binds (ps := p__law_is_counted) (fun _ _ _ _ _ _ us hl => match us, hl with | [_, _, _], _ => rfl),
    f_law := f_law,
    d_law := _,
    F_law := fun_mk (st := s_law) l_law c_law k_law,
    g_law := PySem.W.mg_of X G a_law,
    b_law := (fun_mk (st := s_law) l_law c_law k_law).binds (ps := p_law) (fun _ _ _ _ _ _ us hl => match us, hl with | [_], _ => rfl),
    kb_trace_0 := kb_of (fun_mk (st := s_trace) l_trace c_trace k_trace) (fun _ _ _ _ _ _ us ws h1 h2 => match us, ws, h1, h2 with | [], [_], _, _ => rfl),
    kb_count_0 := kb_of (fun_mk (st := s_count) l_count c_count k_count) (fun _ _ _ _ _ _ us ws h1 h2 => match us, ws, h1, h2 with | [], [_], _, _ => rfl),
    v_GREATEST_PRIME := v_GREATEST_PRIME,
    g_GREATEST_PRIME := PySem.W.mg_of X G e_GREATEST_PRIME,
    v_LEAST_PRIME := v_LEAST_PRIME,
    g_LEAST_PRIME := PySem.W.mg_of X G e_LEAST_PRIME,
    z_bool := PySem.W.mg_none_of X G y_bool,
    z_dict := PySem.W.mg_none_of X G y_dict,
    z_int := PySem.W.mg_none_of X G y_int,
    z_isinstance := PySem.W.mg_none_of X G y_isinstance,
    z_len := PySem.W.mg_none_of X G y_len,
    z_max := PySem.W.mg_none_of X G y_max,
    z_range := PySem.W.mg_none_of X G y_range,
    z_repr := PySem.W.mg_none_of X G y_repr,
    z_sum := PySem.W.mg_none_of X G y_sum,
    z_tuple := PySem.W.mg_none_of X G y_tuple }, rfl, rfl⟩
  obtain ⟨A, h1, h2⟩ := A
  have h3 : fa = A.f_law := by
    rw [h1]
    exact Value.ref.inj (Option.some.inj e)
  subst h3
  refine ⟨A.d_law, fun s u => by rw [h2]; exact .of_eq rfl, fun a ns hl => ?_⟩
  let C0 : Ct := { K := K, n1 := n_1, n2 := n_2, n3 := n_3, sc := (some (a, ns), A.cl), xc := A.xc, H0 := fun _ => none, F0 := ⟨fun _ => none, none, (none, [])⟩, Φ := fun _ _ _ => .no, fu := 0 }
  exact ⟨spS C0 (FT (T ns) (fun _ => none) (4 + 1) 24) 1, fun H _ hS => law_sp (C := C0) rfl hS (law_val ns hl), fun base _ _ => ok_law (C := C0) A a ns ⟨rfl, rfl, rfl, rfl, rfl, rfl⟩ 0 0⟩
end Xk15
open PySem PySem.W PyProof.Rows
set_option maxHeartbeats 0 in
theorem PySem.Challenge.cw_craterhouse_k15_counts_and_traces_holds : PySem.Challenge.rw_craterhouse_k15_counts_and_traces.Holds := by
  w_on; o_law; k_head; (case hw => w_witness2)
  k_fill
  refine Pv.walkEnd (l := PySem.Challenge.rw_craterhouse_k15_counts_and_traces) (n := 63) (k := 6) (x := "_law_script") rfl (by decide) rfl ⟨rfl, by decide, by decide⟩ (fun w h Y => PySem.W.kIn_of Y) ?F
  case F =>
    intro w mg fa h KX G hmg
    refine' Xk15.fin KX G hmg ?aC_Curve ?pg_Curve ?hd_Curve ?po_Curve ?sa_Curve ?mk_Curve ?kc_Curve ?na_Curve_prime ?na_Curve_a ?na_Curve_b ?ia_Curve ?ib_Curve ?ic_Curve ?id_Curve ?ik_Curve_int ?ik_Curve_bool ?ik_Curve_str ?ik_Curve_tuple ?ik_Curve_list ?om_Curve ?on_Curve ?oi_Curve ?ot_Curve ?os_Curve ?op_Curve_Curve ?a_is_integer ?l_is_integer ?c_is_integer ?k_is_integer ?a_is_prime ?l_is_prime ?c_is_prime ?k_is_prime ?a_is_number ?l_is_number ?c_is_number ?k_is_number ?a_number_power ?l_number_power ?c_number_power ?k_number_power ?a_is_square ?l_is_square ?c_is_square ?k_is_square ?a_spare ?l_spare ?c_spare ?k_spare ?a_Curve___init__ ?i_Curve___init__ ?l_Curve___init__ ?c_Curve___init__ ?k_Curve___init__ ?a_Curve___eq__ ?i_Curve___eq__ ?l_Curve___eq__ ?c_Curve___eq__ ?k_Curve___eq__ ?a_Curve_right ?i_Curve_right ?l_Curve_right ?c_Curve_right ?k_Curve_right ?a_Curve_points ?i_Curve_points ?l_Curve_points ?c_Curve_points ?k_Curve_points ?a_Curve_twist ?i_Curve_twist ?l_Curve_twist ?c_Curve_twist ?k_Curve_twist ?a_Curve_scaled ?i_Curve_scaled ?l_Curve_scaled ?c_Curve_scaled ?k_Curve_scaled ?a_square_table ?l_square_table ?c_square_table ?k_square_table ?a_trace_by_table ?l_trace_by_table ?c_trace_by_table ?k_trace_by_table ?a_trace ?l_trace ?c_trace ?k_trace ?a_count ?l_count ?c_count ?k_count ?a__law_deck ?l__law_deck ?c__law_deck ?k__law_deck ?a__law_draw ?l__law_draw ?c__law_draw ?k__law_draw ?a__law_pick ?l__law_pick ?c__law_pick ?k__law_pick ?a__law_prime ?l__law_prime ?c__law_prime ?k__law_prime ?a__law_curve ?l__law_curve ?c__law_curve ?k__law_curve ?a__law_count ?l__law_count ?c__law_count ?k__law_count ?a__law_spare ?l__law_spare ?c__law_spare ?k__law_spare ?a__law_is_counted ?l__law_is_counted ?c__law_is_counted ?k__law_is_counted ?a_law ?l_law ?c_law ?k_law ?e_GREATEST_PRIME ?e_LEAST_PRIME ?y_bool ?y_dict ?y_int ?y_isinstance ?y_len ?y_max ?y_range ?y_repr ?y_sum ?y_tuple
    (case aC_Curve => k_is)
    (case pg_Curve => k_is)
    (case hd_Curve => k_is)
    (case po_Curve => k_is)
    (case sa_Curve => k_is)
    (case mk_Curve => k_is)
    (case kc_Curve => k_is)
    (case na_Curve_prime => k_is)
    (case na_Curve_a => k_is)
    (case na_Curve_b => k_is)
    (case ia_Curve => k_is)
    (case ib_Curve => k_is)
    (case ic_Curve => k_is)
    (case id_Curve => k_is)
    (case ik_Curve_int => k_is)
    (case ik_Curve_bool => k_is)
    (case ik_Curve_str => k_is)
    (case ik_Curve_tuple => k_is)
    (case ik_Curve_list => k_is)
    (case om_Curve => k_is)
    (case on_Curve => k_is)
    (case oi_Curve => k_is)
    (case ot_Curve => k_is)
    (case os_Curve => k_is)
    (case op_Curve_Curve => k_is)
    (case a_is_integer => k_is)
    (case l_is_integer => k_is)
    (case c_is_integer => k_is)
    (case k_is_integer => k_is)
    (case a_is_prime => k_is)
    (case l_is_prime => k_is)
    (case c_is_prime => k_is)
    (case k_is_prime => k_is)
    (case a_is_number => k_is)
    (case l_is_number => k_is)
    (case c_is_number => k_is)
    (case k_is_number => k_is)
    (case a_number_power => k_is)
    (case l_number_power => k_is)
    (case c_number_power => k_is)
    (case k_number_power => k_is)
    (case a_is_square => k_is)
    (case l_is_square => k_is)
    (case c_is_square => k_is)
    (case k_is_square => k_is)
    (case a_spare => k_is)
    (case l_spare => k_is)
    (case c_spare => k_is)
    (case k_spare => k_is)
    (case a_Curve___init__ => k_is)
    (case i_Curve___init__ => k_is)
    (case l_Curve___init__ => k_is)
    (case c_Curve___init__ => k_is)
    (case k_Curve___init__ => k_is)
    (case a_Curve___eq__ => k_is)
    (case i_Curve___eq__ => k_is)
    (case l_Curve___eq__ => k_is)
    (case c_Curve___eq__ => k_is)
    (case k_Curve___eq__ => k_is)
    (case a_Curve_right => k_is)
    (case i_Curve_right => k_is)
    (case l_Curve_right => k_is)
    (case c_Curve_right => k_is)
    (case k_Curve_right => k_is)
    (case a_Curve_points => k_is)
    (case i_Curve_points => k_is)
    (case l_Curve_points => k_is)
    (case c_Curve_points => k_is)
    (case k_Curve_points => k_is)
    (case a_Curve_twist => k_is)
    (case i_Curve_twist => k_is)
    (case l_Curve_twist => k_is)
    (case c_Curve_twist => k_is)
    (case k_Curve_twist => k_is)
    (case a_Curve_scaled => k_is)
    (case i_Curve_scaled => k_is)
    (case l_Curve_scaled => k_is)
    (case c_Curve_scaled => k_is)
    (case k_Curve_scaled => k_is)
    (case a_square_table => k_is)
    (case l_square_table => k_is)
    (case c_square_table => k_is)
    (case k_square_table => k_is)
    (case a_trace_by_table => k_is)
    (case l_trace_by_table => k_is)
    (case c_trace_by_table => k_is)
    (case k_trace_by_table => k_is)
    (case a_trace => k_is)
    (case l_trace => k_is)
    (case c_trace => k_is)
    (case k_trace => k_is)
    (case a_count => k_is)
    (case l_count => k_is)
    (case c_count => k_is)
    (case k_count => k_is)
    (case a__law_deck => k_is)
    (case l__law_deck => k_is)
    (case c__law_deck => k_is)
    (case k__law_deck => k_is)
    (case a__law_draw => k_is)
    (case l__law_draw => k_is)
    (case c__law_draw => k_is)
    (case k__law_draw => k_is)
    (case a__law_pick => k_is)
    (case l__law_pick => k_is)
    (case c__law_pick => k_is)
    (case k__law_pick => k_is)
    (case a__law_prime => k_is)
    (case l__law_prime => k_is)
    (case c__law_prime => k_is)
    (case k__law_prime => k_is)
    (case a__law_curve => k_is)
    (case l__law_curve => k_is)
    (case c__law_curve => k_is)
    (case k__law_curve => k_is)
    (case a__law_count => k_is)
    (case l__law_count => k_is)
    (case c__law_count => k_is)
    (case k__law_count => k_is)
    (case a__law_spare => k_is)
    (case l__law_spare => k_is)
    (case c__law_spare => k_is)
    (case k__law_spare => k_is)
    (case a__law_is_counted => k_is)
    (case l__law_is_counted => k_is)
    (case c__law_is_counted => k_is)
    (case k__law_is_counted => k_is)
    (case a_law => k_is)
    (case l_law => k_is)
    (case c_law => k_is)
    (case k_law => k_is)
    (case e_GREATEST_PRIME => k_is)
    (case e_LEAST_PRIME => k_is)
    (case y_bool => k_is)
    (case y_dict => k_is)
    (case y_int => k_is)
    (case y_isinstance => k_is)
    (case y_len => k_is)
    (case y_max => k_is)
    (case y_range => k_is)
    (case y_repr => k_is)
    (case y_sum => k_is)
    (case y_tuple => k_is)
end
