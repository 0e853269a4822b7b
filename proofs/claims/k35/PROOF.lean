import PyProof.Rows.All
import Wide.All
import OpenK.AllK
import Wide.FinOn
import HandS.ForMost
import HandS.Deep
import HandS.IsInst
import HandS.Wide
import HandS.SortInts
import HandS.SetKeys
import HandS.TupAny
import HandS.TupLe
import HandS.Style
import HandS.Conv
import HandS.NoneIn
import KE.GoesEnum
import HandS.NamedTupSort
import HandS.Small
import PySem.Challenge.RW_craterhouse_k35_forms_of_any_value
set_option Elab.async false
set_option linter.all false
set_option maxRecDepth 100000
section
/-! PvA: a small language of values (no heap): its terms, its reckoning. -/
set_option autoImplicit false
namespace Pv
open PySem

abbrev D := PyData
/-- what a deck of draws holds -/
structure Dk where
  cells : List Int
  mixed : Int
  turn : Int
abbrev G := Option Dk
abbrev Sl := List (Option D)

inductive Res (α : Type) where
  | ok (a : α) (g : G)
  | exc (c : Nat) (vs : List D) (g : G)
  | no
def Res.bind {α β : Type} : Res α → (α → G → Res β) → Res β
  | .ok a g, f => f a g
  | .exc c vs g, _ => .exc c vs g
  | .no, _ => .no
def lift {α : Type} : Option α → G → Res α
  | some a, g => .ok a g
  | none, _ => .no
@[simp] theorem bind_ok {α β : Type} (a : α) (g : G) (f : α → G → Res β) : (Res.ok a g).bind f = f a g := rfl
@[simp] theorem bind_no {α β : Type} (f : α → G → Res β) : (Res.no : Res α).bind f = .no := rfl
@[simp] theorem bind_exc {α β : Type} (c : Nat) (vs : List D) (g : G) (f : α → G → Res β) : (Res.exc c vs g : Res α).bind f = .exc c vs g := rfl
@[simp] theorem lift_some {α : Type} (a : α) (g : G) : lift (some a) g = .ok a g := rfl
@[simp] theorem lift_none {α : Type} (g : G) : lift (none : Option α) g = .no := rfl
theorem bind_eq_ok {α β : Type} {r : Res α} {f : α → G → Res β} {b : β} {g : G} (h : r.bind f = .ok b g) : ∃ a g1, r = .ok a g1 ∧ f a g1 = .ok b g := by
  cases r with
  | ok a g1 => exact ⟨a, g1, rfl, h⟩
  | exc c vs g1 => cases h
  | no => cases h
theorem lift_eq_ok {α : Type} {o : Option α} {g g' : G} {a : α} (h : lift o g = .ok a g') : o = some a ∧ g' = g := by
  cases o with
  | none => cases h
  | some b => cases h; exact ⟨rfl, rfl⟩

/-- marks that stand for things outside as values: 0 the deck, 1 the script -/
def tokD (n : Int) : D := .dict [(.list [], .int n)]
def isDeck : List (D × D) → Bool
  | (.list _, _) :: _ => true
  | (.none, _) :: _ => true
  | _ => false
/-- an object of the class with a number, by its attributes -/
def objD (c : Nat) (kvs : List (D × D)) : D := .dict ((.list [.int c], .none) :: kvs)
/-- a dict whose keys are tuples of ints and texts -/
def tdD (kvs : List (D × D)) : D := .dict ((.none, .none) :: kvs)
def isOb (c : Nat) : D → Bool
  | .dict ((.list [.int i], .none) :: _) => decide (i = c)
  | _ => false
def tdOf : List (D × D) → Option (List (D × D))
  | (.none, .none) :: r => some r
  | _ => none

/-! ### operators -/
inductive Bop where | add | sub | mul | fdiv | mod | pow | shl | shr | band | bor | bxor | lcat | lrep
inductive Cop where | eq | ne | lt | le | gt | ge | isin | notin | isN | notN
def mulOk (i j : Int) : Bool := decide (i.natAbs < 18446744073709551616) || decide (j.natAbs < 18446744073709551616) || decide (i.natAbs.log2 + j.natAbs.log2 < 1000000)
def powOk (i j : Int) : Bool := decide (0 ≤ j) && decide (j ≤ 1000000) && decide (i.natAbs < 18446744073709551616)
def lineN : Nat := 16777216
def binV : Bop → D → D → Option D
  | .add, .int i, .int j => some (.int (i + j))
  | .sub, .int i, .int j => some (.int (i - j))
  | .mul, .int i, .int j => if mulOk i j then some (.int (i * j)) else none
  | .fdiv, .int i, .int j => if decide (0 < j) && decide (j.natAbs.log2 < 9000) then some (.int (i / j)) else if decide (j < 0) && decide (j.natAbs.log2 < 9000) then some (.int (i.fdiv j)) else none
  | .mod, .int i, .int j => if decide (0 < j) then some (.int (i % j)) else none
  | .pow, .int i, .int j => if powOk i j then some (.int (i ^ j.toNat)) else none
  | .shl, .int i, .int j => if powOk i j then some (.int (i * 2 ^ j.toNat)) else none
  | .shr, .int i, .int j => if decide (0 ≤ j) then some (.int (i / 2 ^ j.toNat)) else none
  | .band, .int i, .int j => some (.int (Builtin.bitAnd i j))
  | .bor, .int i, .int j => some (.int (Builtin.bitOr i j))
  | .bxor, .int i, .int j => some (.int (Builtin.bitXor i j))
  | .add, .str x, .str y => if decide (x.length + y.length ≤ lineN) then some (.str (x ++ y)) else none
  | .add, .list xs, .list ys => if decide (xs.length + ys.length ≤ lineN) then some (.list (xs ++ ys)) else none
  | .add, .tuple xs, .tuple ys => if decide (xs.length + ys.length ≤ lineN) then some (.tuple (xs ++ ys)) else none
  | .mul, .list xs, .int k => if decide (k.natAbs < 16777217) && decide (xs.length * k.toNat ≤ lineN) then some (.list (List.replicate k.toNat xs).flatten) else none
  | .lcat, .list xs, .list ys => if decide (xs.length + ys.length ≤ lineN) then some (.list (xs ++ ys)) else none
  | .lrep, .list xs, .int k => if decide (k.natAbs < 16777217) && decide (xs.length * k.toNat ≤ lineN) then some (.list (List.replicate k.toNat xs).flatten) else none
  | _, _, _ => none
def isInt : D → Bool
  | .int _ => true
  | _ => false
def shp (d : D) : Bool := SeqAt.shaped d
/-- lists of different lengths, of whatever they hold -/
def lensV : D → D → Option Bool
  | .list xs, .list ys => if decide (xs.length = ys.length) then none else some false
  | _, _ => none
def eqD : D → D → Option Bool
  | .int i, .int j => some (decide (i = j))
  | .bool i, .bool j => some (i == j)
  | .str x, .str y => some (decide (x = y))
  | .none, .none => some true
  | x, y => if shp x && shp y then some (PyData.eqv x y) else lensV x y
def intsOf : List D → Option (List Int)
  | [] => some []
  | .int i :: r => (intsOf r).map (i :: ·)
  | _ :: _ => none
def ltT : D → D → Option Bool
  | .int i, .int j => some (decide (i < j))
  | .tuple xs, .tuple ys => match intsOf xs, intsOf ys with
    | some ns, some ms => some (HT.lexLt ns ms)
    | _, _ => none
  | _, _ => none
def inD (x : D) : D → Option Bool
  | .list ds => if shp x && shp (.list ds) then some (ds.any fun z => PyData.eqv z x) else none
  | .tuple ds => if shp x && shp (.tuple ds) then some (ds.any fun z => PyData.eqv z x) else none
  | _ => none
/-- tuples of ints, none of them empty -/
def tupsOf : List D → Option (List (List Int))
  | [] => some []
  | .tuple ds :: r => match intsOf ds, tupsOf r with
    | some (n :: ns), some ts => some ((n :: ns) :: ts)
    | _, _ => none
  | _ :: _ => none
def boolsOf : List D → Option (List Bool)
  | [] => some []
  | .bool b :: r => (boolsOf r).map (b :: ·)
  | _ :: _ => none
def tupD (ns : List Int) : D := .tuple (ns.map .int)
def keyD : D → Option L2.Key
  | .int i => some (.inl i)
  | .str x => some (.inr x)
  | _ => none
def keysOf : List D → Option (List L2.Key)
  | [] => some []
  | d :: ds => match keyD d, keysOf ds with
    | some k, some ks => some (k :: ks)
    | _, _ => none
def keyT : D → Option (List L2.Key)
  | .tuple ds => keysOf ds
  | _ => none
def cmpV : Cop → D → D → Option Bool
  | .eq, x, y => eqD x y
  | .ne, x, y => (eqD x y).map (!·)
  | .lt, x, y => ltT x y
  | .gt, .int i, .int j => some (decide (j < i))
  | .le, .int i, .int j => some (decide (i ≤ j))
  | .ge, .int i, .int j => some (decide (j ≤ i))
  | .isN, x, .none => some (match x with | .none => true | _ => false)
  | .notN, x, .none => some (match x with | .none => false | _ => true)
  | .isN, .bool a, .bool b => some (decide (a = b))
  | .notN, .bool a, .bool b => some (!decide (a = b))
  | .isin, x, y => inD x y
  | .notin, x, y => (inD x y).map (!·)
  | _, _, _ => none
def truV : D → Option Bool
  | .none => some false
  | .bool b => some b
  | .int i => some (i != 0)
  | .str x => if decide (x.length ≤ lineN) then some (decide (x.length ≠ 0)) else none
  | .list xs => some (!xs.isEmpty)
  | .tuple xs => some (!xs.isEmpty)
  | .dict _ => none

/-! ### subscripts -/
def ixD (xs : List D) (i : Int) : Option D := L2.atI xs i
def idxV : D → D → Option D
  | .list xs, .int i => ixD xs i
  | .tuple xs, .int i => ixD xs i
  | _, _ => none
def optI : D → Option (Option Int)
  | .none => some none
  | .int i => some (some i)
  | _ => none
def cutD (xs : List D) (lo hi : Option Int) : List D := (xs.drop (HT.sIx xs.length 0 lo)).take (HT.sIx xs.length xs.length hi - HT.sIx xs.length 0 lo)
def slcV : D → D → D → Option D
  | .list xs, l, h => match optI l, optI h with
    | some lo, some hi => some (.list (cutD xs lo hi))
    | _, _ => none
  | .tuple xs, l, h => match optI l, optI h with
    | some lo, some hi => some (.tuple (cutD xs lo hi))
    | _, _ => none
  | _, _, _ => none
def revV : D → Option D
  | .list xs => some (.list xs.reverse)
  | .tuple xs => some (.tuple xs.reverse)
  | _ => none

/-! ### built-in functions, by values -/
inductive Bi where | all | len | abs | min2 | max2 | sum | toInt | toStr | toList | toTuple | isInt | isBool | isStr | isTuple | isList | repr | sorted | listRange1 | listRange2 | divmod | sortSet | maxL | minL | any
/-- the greatest, and the least, of some numbers -/
def maxI : Int → List Int → Int
  | n, [] => n
  | n, x :: r => maxI (if n < x then x else n) r
def minI : Int → List Int → Int
  | n, [] => n
  | n, x :: r => minI (if x < n then x else n) r
def lenV : D → Option D
  | .list xs => some (.int xs.length)
  | .tuple xs => some (.int xs.length)
  | .str x => if decide (x.length ≤ lineN) then some (.int x.length) else none
  | _ => none
def isDk : D → Bool
  | .dict kvs => isDeck kvs
  | _ => false
def isObj : D → Bool
  | .dict ((.list [.int _], .none) :: _) => true
  | _ => false
def rangeD (a : Int) (n : Nat) : List D := (List.range n).map fun (k : Nat) => .int (a + k)
def downD (a : Int) (n : Nat) : List D := (List.range n).map fun (k : Nat) => .int (a - k)
def scalD : D → Bool
  | .none | .bool _ | .int _ | .str _ => true
  | _ => false
def flatD : D → Bool
  | .dict kvs => !isDeck kvs && kvs.all fun p => (keyD p.1).isSome && scalD p.2
  | _ => false
def showOk (d : D) : Bool := (shp d || (flatD d && decide (d.depth ≤ 64))) && d.showable && decide (d.shown.length ≤ lineN)
def insI (x : Int) : List Int → List Int
  | [] => [x]
  | y :: r => if x ≤ y then x :: y :: r else y :: insI x r
def sortI (xs : List Int) : List Int := xs.foldr insI []
def insT (x : List Int) : List (List Int) → List (List Int)
  | [] => [x]
  | y :: r => if HT.lexLt y x then y :: insT x r else x :: y :: r
def sortT (xs : List (List Int)) : List (List Int) := xs.foldr insT []
def sortV (xs : List D) : Option D := match intsOf xs with
  | some ns => some (.list ((sortI ns).map .int))
  | none => (tupsOf xs).map fun ts => .list ((sortT ts).map tupD)
/-- into a row that climbs strictly -/
def insS (x : Int) : List Int → List Int
  | [] => [x]
  | y :: r => if x < y then x :: y :: r else if x = y then y :: r else y :: insS x r
def setI (xs : List Int) : List Int := xs.foldr insS []
def biV : Bi → List D → Option D
  | .divmod, [.int i, .int j] => if decide (j ≠ 0) && decide (j.natAbs < 1073741824) then some (.tuple [.int (i.fdiv j), .int (i.fmod j)]) else none
  | .sortSet, [.list xs] => match intsOf xs with
    | some ns => if decide (ns.length ≤ 60) then some (.list ((setI ns).map .int)) else none
    | none => none
  | .all, [.list xs] => (boolsOf xs).map fun bs => .bool (bs.all id)
  | .len, [x] => lenV x
  | .abs, [.int i] => some (.int (if i < 0 then -i else i))
  | .min2, [.int i, .int j] => some (.int (if j < i then j else i))
  | .max2, [.int i, .int j] => some (.int (if j > i then j else i))
  | .sum, [.list xs] => (intsOf xs).map fun ns => .int ns.sum
  | .toInt, [.int i] => some (.int i)
  | .toInt, [.bool b] => some (.int (if b then 1 else 0))
  | .maxL, [.list xs] => match intsOf xs with
    | some (n :: ns) => some (.int (maxI n ns))
    | _ => none
  | .minL, [.list xs] => match intsOf xs with
    | some (n :: ns) => some (.int (minI n ns))
    | _ => none
  | .any, [.list xs] => (boolsOf xs).map fun bs => .bool (bs.any id)
  | .toStr, [.str x] => some (.str x)
  | .toStr, [.list xs] => if showOk (.list xs) then some (.str (PyData.shown (.list xs))) else none
  | .toStr, [.tuple xs] => if showOk (.tuple xs) then some (.str (PyData.shown (.tuple xs))) else none
  | .toStr, [.int i] => if decide (i.natAbs.log2 < 1920) then some (.str (toString i)) else none
  | .toList, [.list xs] => some (.list xs)
  | .toList, [.tuple xs] => some (.list xs)
  | .toTuple, [.list xs] => some (.tuple xs)
  | .toTuple, [.tuple xs] => some (.tuple xs)
  | .isInt, [x] => if isDk x && !isObj x then none else some (.bool (match x with | .int _ => true | .bool _ => true | _ => false))
  | .isBool, [x] => if isDk x && !isObj x then none else some (.bool (match x with | .bool _ => true | _ => false))
  | .isStr, [x] => if isDk x && !isObj x then none else some (.bool (match x with | .str _ => true | _ => false))
  | .isTuple, [x] => if isDk x && !isObj x then none else some (.bool (match x with | .tuple _ => true | _ => false))
  | .isList, [x] => if isDk x && !isObj x then none else some (.bool (match x with | .list _ => true | _ => false))
  | .repr, [x] => if showOk x then some (.str x.shown) else none
  | .sorted, [.list xs] => sortV xs
  | .listRange1, [.int j] => if decide (j.natAbs ≤ 16777216) then some (.list (rangeD 0 j.toNat)) else none
  | .listRange2, [.int i, .int j] => if decide (i.natAbs < 4611686018427387904) && decide (j.natAbs < 4611686018427387904) && decide ((j - i).toNat ≤ lineN) then some (.list (rangeD i (j - i).toNat)) else none
  | _, _ => none

/-! ### what a loop walks -/
inductive Ik where | seq | rng1 | rng2 | rngd | enum | zip
def itV : Ik → List D → Option (List D)
  | .seq, [.list xs] => some xs
  | .seq, [.tuple xs] => some xs
  | .rng1, [.int j] => if decide (j.natAbs < 4611686018427387904) then some (rangeD 0 j.toNat) else none
  | .rng2, [.int i, .int j] => if decide (i.natAbs < 4611686018427387904) && decide (j.natAbs < 4611686018427387904) then some (rangeD i (j - i).toNat) else none
  | .rngd, [.int i, .int j, .int c] => if decide (i.natAbs < 4611686018427387904) && decide (j.natAbs < 4611686018427387904) && decide (c = -1) then some (downD i (i - j).toNat) else none
  | .enum, [.list xs] => some (xs.zipIdx.map fun p => .tuple [.int p.2, p.1])
  | .enum, [.tuple xs] => some (xs.zipIdx.map fun p => .tuple [.int p.2, p.1])
  | .zip, [.list xs, .list ys] => if decide (xs.length ≤ lineN) then some ((xs.zip ys).map fun p => .tuple [p.1, p.2]) else none
  | _, _ => none

/-! ### the terms -/
mutual
inductive Ex where
  | c (v : D)
  | var (i : Nat)
  | bin (op : Bop) (a b : Ex)
  | neg (a : Ex)
  | cmp (op : Cop) (a b : Ex)
  | chain (o1 o2 : Cop) (a b c : Ex)
  | chain3 (o1 o2 o3 : Cop) (a b c d : Ex)
  | and (a b : Ex)
  | or (a b : Ex)
  | not (a : Ex)
  | truth (a : Ex)
  | ite (t a b : Ex)
  | idx (a i : Ex)
  | slc (a lo hi : Ex)
  | rev (a : Ex)
  | tup (as : Exs)
  | lst (as : Exs)
  | bi (f : Bi) (as : Exs)
  | call (f : Nat) (as : Exs)
  | callK (f : Nat) (as : Exs) (perm : List Nat)
  | comp (t : List Nat) (k : Ik) (as : Exs) (cond elt : Ex)
  | dnew
  | dget (d k x : Ex)
  | dix (d k : Ex)
  | dhas (k d : Ex) (neg : Bool)
  | ddisp (kvs : Exs)
  | lrev (a : Ex)
  | scr (a : Ex) (ns : List Int) (n : Nat)
  | dkGet (turn : Bool) (a : Ex)
  | dkHas (a : Ex)
  | dkPop (a : Ex)
  | dkPush (a e : Ex)
  | dkNew (a b c : Ex)
  | dkNew2 (a b : Ex)
  | asI (a : Ex)
  | fld (a : Ex) (f : Str)
  | meth (c fi : Nat) (o : Ex) (as : Exs)
  | mk (c fi : Nat) (as : Exs)
  | tnew
inductive Exs where
  | nil
  | cons (a : Ex) (as : Exs)
end
/-- a target: one name, or the names of a tuple -/
def setMany : List Nat → List D → Sl → Option Sl
  | [], [], σ => some σ
  | i :: is, v :: vs, σ => setMany is vs (σ.set i (some v))
  | _, _, _ => none
def setT : List Nat → D → Sl → Option Sl
  | [i], v, σ => some (σ.set i (some v))
  | is, .tuple vs, σ => setMany is vs σ
  | is, .list vs, σ => setMany is vs σ
  | _, _, _ => none
/-- names in groups: the items of a tuple, each by a target of its own -/
def setGs : List (List Nat) → List D → Sl → Option Sl
  | [], [], σ => some σ
  | t :: ts, v :: vs, σ => (setT t v σ).bind (setGs ts vs)
  | _, _, _ => none
def setG : List (List Nat) → D → Sl → Option Sl
  | ts, .tuple vs, σ => setGs ts vs σ
  | _, _, _ => none
def compL (f : D → G → Res (Option D)) : List D → List D → G → Res (List D)
  | [], acc, g => .ok acc.reverse g
  | x :: r, acc, g => (f x g).bind fun o g => match o with
    | some y => compL f r (y :: acc) g
    | none => compL f r acc g
/-- the slots forgotten -/
def wipeS (σ : Sl) : List Nat → Sl
  | [] => σ
  | v :: vs => (wipeS σ vs).set v none
/-- dicts as pairs of values -/
def keq (a b : D) : Bool := match keyD a, keyD b with
  | some x, some y => decide (x = y)
  | _, _ => false
def dLook (k : D) (kvs : List (D × D)) : Option D := (kvs.find? fun p => keq p.1 k).map (·.2)
def dPut (k v : D) (kvs : List (D × D)) : List (D × D) := if (kvs.any fun p => keq p.1 k) then kvs.map (fun p => if keq p.1 k then (p.1, v) else p) else kvs ++ [(k, v)]
def teq (a b : D) : Bool := match keyT a, keyT b with
  | some x, some y => decide (x = y)
  | _, _ => false
def tLook (k : D) (kvs : List (D × D)) : Option D := (kvs.find? fun p => teq p.1 k).map (·.2)
def tPut (k v : D) (kvs : List (D × D)) : List (D × D) := if (kvs.any fun p => teq p.1 k) then kvs.map (fun p => if teq p.1 k then (p.1, v) else p) else kvs ++ [(k, v)]
/-- what stands at a key: none where it can't be asked -/
def dlkV (kvs : List (D × D)) (k : D) : Option (Option D) := match tdOf kvs with
  | some r => if (keyT k).isNone then none else some (tLook k r)
  | none => if isDeck kvs || (keyD k).isNone then none else some (dLook k kvs)
def dgetV : D → D → D → Option D
  | .dict kvs, k, x => (dlkV kvs k).map fun o => o.getD x
  | _, _, _ => none
def dixV : D → D → Option D
  | .dict kvs, k => (dlkV kvs k).bind id
  | _, _ => none
def dhasV : D → D → Option Bool
  | k, .dict kvs => (dlkV kvs k).map fun o => o.isSome
  | _, _ => none
/-- an attribute -/
def fldV : D → Str → Option D
  | .dict ((.list [.int _], .none) :: r), f => dLook (.str f) r
  | _, _ => none
def fPut (f : Str) (v : D) : List (D × D) → List (D × D)
  | [] => [(.str f, v)]
  | (k, d) :: r => if keq k (.str f) then (k, v) :: r else (k, d) :: fPut f v r
def setFV (c : Nat) (f : Str) (v : D) : D → Option D
  | .dict ((.list [.int i], .none) :: r) => if decide (i = c) && decide (r.length < 900) then some (.dict ((.list [.int i], .none) :: fPut f v r)) else none
  | _ => none
def dispV : List D → List (D × D) → Option (List (D × D))
  | [], acc => some acc
  | k :: v :: r, acc => if (keyD k).isNone then none else dispV r (dPut k v acc)
  | _, _ => none
/-! ### decks -/
def isTok (n : Int) : D → Bool
  | .dict [(.list [], .int k)] => decide (k = n)
  | _ => false
theorem of_isTok {n : Int} {d : D} (h : isTok n d = true) : d = tokD n := by
  unfold isTok at h
  split at h
  · rw [of_decide_eq_true h]; rfl
  · cases h
@[simp] theorem isTok_tok (n : Int) : isTok n (tokD n) = true := by simp [isTok, tokD]
def dkGetV (t : Bool) (d : D) : G → Option D
  | some st => if isTok 0 d then some (.int (if t then st.turn else st.mixed)) else none
  | none => none
def dkHasV (d : D) : G → Option D
  | some st => if isTok 0 d then some (.bool (!st.cells.isEmpty)) else none
  | none => none
def dkPopV (d : D) : G → Res D
  | some st => if isTok 0 d then match st.cells.getLast? with
      | some c => .ok (.int c) (some { st with cells := st.cells.dropLast })
      | none => .no
    else .no
  | none => .no
def dkPushV (d v : D) : G → Res D
  | some st => if isTok 0 d && decide (st.cells.length < lineN) then match v with
      | .int c => .ok .none (some { st with cells := st.cells ++ [c] })
      | _ => .no
    else .no
  | none => .no
def dkSetV (t : Bool) (d v : D) : G → Option G
  | some st => if isTok 0 d then match v with
      | .int c => some (some (if t then { st with turn := c } else { st with mixed := c }))
      | _ => none
    else none
  | none => none
def dkNewV (l m t : D) : G → Res D
  | none => match l, m, t with
    | .list xs, .int m, .int t => match intsOf xs with
      | some ns => .ok (tokD 0) (some ⟨ns, m, t⟩)
      | none => .no
    | _, _, _ => .no
  | some _ => .no
/-- items by their places -/
def pm {α : Type} (perm : List Nat) (xs : List α) : List α := perm.filterMap fun j => xs[j]?
abbrev Fns := Nat → List D → G → Res D
mutual
def ev (Φ : Fns) : Ex → Sl → G → Res D
  | .c v, _, g => .ok v g
  | .var i, σ, g => match σ[i]? with
    | some (some v) => .ok v g
    | _ => .no
  | .bin op a b, σ, g => (ev Φ a σ g).bind fun x g => (ev Φ b σ g).bind fun y g => lift (binV op x y) g
  | .neg a, σ, g => (ev Φ a σ g).bind fun x g => match x with
    | .int i => .ok (.int (-i)) g
    | _ => .no
  | .cmp op a b, σ, g => (ev Φ a σ g).bind fun x g => (ev Φ b σ g).bind fun y g => lift ((cmpV op x y).map .bool) g
  | .chain o1 o2 a b c, σ, g => (ev Φ a σ g).bind fun x g => (ev Φ b σ g).bind fun y g => (lift (cmpV o1 x y) g).bind fun k g =>
      if k then (ev Φ c σ g).bind fun z g => lift ((cmpV o2 y z).map .bool) g else .ok (.bool false) g
  | .chain3 o1 o2 o3 a b c d, σ, g => (ev Φ a σ g).bind fun x g => (ev Φ b σ g).bind fun y g => (lift (cmpV o1 x y) g).bind fun k g =>
      if k then (ev Φ c σ g).bind fun z g => (lift (cmpV o2 y z) g).bind fun k g => if k then (ev Φ d σ g).bind fun w g => lift ((cmpV o3 z w).map .bool) g else .ok (.bool false) g else .ok (.bool false) g
  | .and a b, σ, g => (ev Φ a σ g).bind fun x g => match x with
    | .bool true => ev Φ b σ g
    | .bool false => .ok (.bool false) g
    | _ => .no
  | .or a b, σ, g => (ev Φ a σ g).bind fun x g => match x with
    | .bool true => .ok (.bool true) g
    | .bool false => ev Φ b σ g
    | _ => .no
  | .not a, σ, g => (ev Φ a σ g).bind fun x g => match x with
    | .bool k => .ok (.bool (!k)) g
    | _ => .no
  | .truth a, σ, g => (ev Φ a σ g).bind fun x g => lift ((truV x).map .bool) g
  | .ite t a b, σ, g => (ev Φ t σ g).bind fun x g => match x with
    | .bool true => ev Φ a σ g
    | .bool false => ev Φ b σ g
    | _ => .no
  | .idx a i, σ, g => (ev Φ a σ g).bind fun x g => (ev Φ i σ g).bind fun y g => lift (idxV x y) g
  | .slc a lo hi, σ, g => (ev Φ a σ g).bind fun x g => (ev Φ lo σ g).bind fun l g => (ev Φ hi σ g).bind fun h g => lift (slcV x l h) g
  | .rev a, σ, g => (ev Φ a σ g).bind fun x g => lift (revV x) g
  | .tup as, σ, g => (evs Φ as σ g).bind fun xs g => .ok (.tuple xs) g
  | .lst as, σ, g => (evs Φ as σ g).bind fun xs g => .ok (.list xs) g
  | .bi f as, σ, g => (evs Φ as σ g).bind fun xs g => lift (biV f xs) g
  | .call f as, σ, g => (evs Φ as σ g).bind fun xs g => Φ f xs g
  | .callK f as perm, σ, g => (evs Φ as σ g).bind fun xs g => Φ f (pm perm xs) g
  | .comp t k as cond elt, σ, g => (evs Φ as σ g).bind fun vs g => (lift (itV k vs) g).bind fun xs g =>
      if decide (xs.length ≤ lineN) then (compL (fun x g => (lift (setT t x (wipeS σ t)) g).bind fun σ' g => (ev Φ cond σ' g).bind fun b g => match b with
        | .bool true => (ev Φ elt σ' g).bind fun v g => .ok (some v) g
        | .bool false => .ok none g
        | _ => .no) xs [] g).bind fun ys g => .ok (.list ys) g else .no
  | .dnew, _, g => .ok (.dict []) g
  | .dget d k x, σ, g => (ev Φ d σ g).bind fun dv g => (ev Φ k σ g).bind fun kv g => (ev Φ x σ g).bind fun xv g => lift (dgetV dv kv xv) g
  | .dix d k, σ, g => (ev Φ d σ g).bind fun dv g => (ev Φ k σ g).bind fun kv g => lift (dixV dv kv) g
  | .dhas k d n, σ, g => (ev Φ k σ g).bind fun kv g => (ev Φ d σ g).bind fun dv g => lift ((dhasV kv dv).map fun b => .bool (b != n)) g
  | .ddisp kvs, σ, g => (evs Φ kvs σ g).bind fun xs g => lift ((dispV xs []).map .dict) g
  | .lrev a, σ, g => (ev Φ a σ g).bind fun x g => match x with
    | .list xs => .ok (.list xs.reverse) g
    | _ => .no
  | .scr a ns n, σ, g => (ev Φ a σ g).bind fun x g => if isTok 1 x then .ok (.list ((ns.take n).map .int)) g else .no
  | .dkGet t a, σ, g => (ev Φ a σ g).bind fun x g => lift (dkGetV t x g) g
  | .dkHas a, σ, g => (ev Φ a σ g).bind fun x g => lift (dkHasV x g) g
  | .dkPop a, σ, g => (ev Φ a σ g).bind fun x g => dkPopV x g
  | .dkPush a e, σ, g => (ev Φ a σ g).bind fun x g => match g with
    | none => .no
    | some _ => (ev Φ e σ g).bind fun v g => dkPushV x v g
  | .dkNew a b c, σ, g => (ev Φ a σ g).bind fun x g => (ev Φ b σ g).bind fun y g => (ev Φ c σ g).bind fun z g => dkNewV x y z g
  | .asI a, σ, g => (ev Φ a σ g).bind fun x g => match x with
    | .int i => .ok (.int i) g
    | _ => .no
  | .dkNew2 a b, σ, g => (ev Φ a σ g).bind fun x g => (ev Φ b σ g).bind fun y g => dkNewV x y (.int 0) g
  | .fld a f, σ, g => (ev Φ a σ g).bind fun x g => lift (fldV x f) g
  | .meth c fi o as, σ, g => (ev Φ o σ g).bind fun x g => if isOb c x then (evs Φ as σ g).bind fun xs g => Φ fi (x :: xs) g else .no
  | .mk c fi as, σ, g => (evs Φ as σ g).bind fun xs g => Φ fi (objD c [] :: xs) g
  | .tnew, _, g => .ok (tdD []) g
def evs (Φ : Fns) : Exs → Sl → G → Res (List D)
  | .nil, _, g => .ok [] g
  | .cons a as, σ, g => (ev Φ a σ g).bind fun x g => (evs Φ as σ g).bind fun xs g => .ok (x :: xs) g
end

def Exs.len : Exs → Nat
  | .nil => 0
  | .cons _ as => as.len + 1
theorem evs_len (Φ : Fns) : ∀ (as : Exs) (σ : Sl) (g g' : G) (vs : List D), evs Φ as σ g = .ok vs g' → vs.length = as.len
  | .nil, σ, g, g', vs, h => by unfold evs at h; cases h; rfl
  | .cons a as, σ, g, g', vs, h => by
    unfold evs at h
    obtain ⟨x, g1, _, h⟩ := bind_eq_ok h
    obtain ⟨xs, g2, h2, h⟩ := bind_eq_ok h
    cases h
    rw [List.length_cons, evs_len Φ as _ _ _ _ h2]; rfl
/-! ### statements -/
inductive Sm where
  | skip
  | seq (a b : Sm)
  | set (t : List Nat) (e : Ex)
  | setG (ts : List (List Nat)) (e : Ex)
  | par (i j : Nat) (a b : Ex)
  | par3 (i j k : Nat) (a b c : Ex)
  | aug (i : Nat) (op : Bop) (e : Ex)
  | setIx (i : Nat) (k e : Ex)
  | setKey (i : Nat) (k e : Ex)
  | augIx (i : Nat) (op : Bop) (k e : Ex)
  | popS (i : Nat)
  | app (i : Nat) (e : Ex)
  | ext (i : Nat) (e : Ex)
  | setd (i : Nat) (k e : Ex)
  | ite (t : Ex) (a b : Sm)
  | forr (t : List Nat) (k : Ik) (as : Exs) (b : Sm)
  | whil (t : Ex) (b : Sm)
  | ret (e : Ex)
  | brk
  | cnt
  | ex (e : Ex)
  | dkSet (turn : Bool) (a e : Ex)
  | setF (i c : Nat) (f : Str) (e : Ex)
  | popX (j i : Nat)
  | popI (j i : Nat) (e : Ex)
  | bad
inductive Fl where
  | nx (σ : Sl)
  | rt (v : D)
  | bk (σ : Sl)
  | ct (σ : Sl)
def forL (f : D → Sl → G → Res Fl) : List D → Sl → G → Res Fl
  | [], σ, g => .ok (.nx σ) g
  | x :: r, σ, g => (f x σ g).bind fun fl g => match fl with
    | .nx σ => forL f r σ g
    | .ct σ => forL f r σ g
    | .bk σ => .ok (.nx σ) g
    | .rt v => .ok (.rt v) g
def whileL (c : Sl → G → Res D) (b : Sl → G → Res Fl) : Nat → Sl → G → Res Fl
  | 0, _, _ => .no
  | n + 1, σ, g => (c σ g).bind fun v g => match v with
    | .bool true => (b σ g).bind fun fl g => match fl with
      | .nx σ => whileL c b n σ g
      | .ct σ => whileL c b n σ g
      | .bk σ => .ok (.nx σ) g
      | .rt v => .ok (.rt v) g
    | .bool false => .ok (.nx σ) g
    | _ => .no
def setIxV : D → D → D → Option D
  | .list xs, .int i, v => (L2.ixN xs.length i).map fun j => .list (xs.set j v)
  | _, _, _ => none
def augV : Bop → D → D → Option D
  | .add, .int i, .int j => some (.int (i + j))
  | .sub, .int i, .int j => some (.int (i - j))
  | .mul, .int i, .int j => if decide (i.natAbs < 18446744073709551616) || decide (j.natAbs < 18446744073709551616) then some (.int (i * j)) else none
  | .fdiv, .int i, .int j => if decide (0 < j) && decide (j < 1073741824) then some (.int (i / j)) else none
  | .add, .str x, .str y => if decide (x.length + y.length ≤ lineN) then some (.str (x ++ y)) else none
  | _, _, _ => none
def setKeyV : D → D → D → Option D
  | .dict kvs, k, v => match tdOf kvs with
    | some r => if (keyT k).isNone || !decide (r.length < lineN) then none else some (tdD (tPut k v r))
    | none => if isDeck kvs || (keyD k).isNone || !decide (kvs.length < lineN) then none else some (.dict (dPut k v kvs))
  | _, _, _ => none
def popV : D → Option D
  | .list xs => if xs.isEmpty then none else some (.list xs.dropLast)
  | _ => none
def appV : D → D → Option D
  | .list xs, v => if decide (xs.length < lineN) then some (.list (xs ++ [v])) else none
  | _, _ => none
def extV : D → D → Option D
  | .list xs, .list ys => if decide (xs.length + ys.length ≤ lineN) then some (.list (xs ++ ys)) else none
  | _, _ => none
def setdV : D → D → D → Option D
  | .dict kvs, k, v => if isDeck kvs || (keyD k).isNone || !decide (kvs.length < lineN) then none else match dLook k kvs with
    | some _ => some (.dict kvs)
    | none => some (.dict (dPut k v kvs))
  | _, _, _ => none
/-- the last item, and what is left -/
def popD : D → Option (D × D)
  | .list xs => xs.getLast?.map fun v => (v, .list xs.dropLast)
  | _ => none
def popAtD : D → D → Option (D × D)
  | .list xs, .int i => if decide (0 ≤ i) && decide (xs.length ≤ lineN) then xs[i.toNat]?.map fun v => (v, .list (xs.eraseIdx i.toNat)) else none
  | _, _ => none
def slot (σ : Sl) (i : Nat) (g : G) : Res D := match σ[i]? with
  | some (some v) => .ok v g
  | _ => .no
def run (Φ : Fns) (fu : Nat) : Sm → Sl → G → Res Fl
  | .skip, σ, g => .ok (.nx σ) g
  | .seq a b, σ, g => (run Φ fu a σ g).bind fun fl g => match fl with
    | .nx σ => run Φ fu b σ g
    | fl => .ok fl g
  | .set t e, σ, g => (ev Φ e σ g).bind fun v g => (lift (setT t v σ) g).bind fun σ g => .ok (.nx σ) g
  | .setG ts e, σ, g => (ev Φ e σ g).bind fun v g => (lift (setG ts v σ) g).bind fun σ g => .ok (.nx σ) g
  | .par i j a b, σ, g => (ev Φ a σ g).bind fun v g => (ev Φ b σ g).bind fun w g => .ok (.nx ((σ.set i (some v)).set j (some w))) g
  | .par3 i j k a b c, σ, g => (ev Φ a σ g).bind fun u g => (ev Φ b σ g).bind fun v g => (ev Φ c σ g).bind fun w g => .ok (.nx (((σ.set i (some u)).set j (some v)).set k (some w))) g
  | .aug i op e, σ, g => (slot σ i g).bind fun x g => (ev Φ e σ g).bind fun y g => (lift (augV op x y) g).bind fun z g => .ok (.nx (σ.set i (some z))) g
  | .setIx i k e, σ, g => (ev Φ e σ g).bind fun v g => (slot σ i g).bind fun d g => (ev Φ k σ g).bind fun kv g => (lift (setIxV d kv v) g).bind fun d' g => .ok (.nx (σ.set i (some d'))) g
  | .setKey i k e, σ, g => (ev Φ e σ g).bind fun v g => (slot σ i g).bind fun d g => (ev Φ k σ g).bind fun kv g => (lift (setKeyV d kv v) g).bind fun d' g => .ok (.nx (σ.set i (some d'))) g
  | .augIx i op k e, σ, g => (slot σ i g).bind fun d g => (ev Φ k σ g).bind fun kv g => (lift (idxV d kv) g).bind fun old g => (ev Φ e σ g).bind fun y g => (lift (augV op old y) g).bind fun z g => (lift (setIxV d kv z) g).bind fun d' g => .ok (.nx (σ.set i (some d'))) g
  | .popS i, σ, g => (slot σ i g).bind fun d g => (lift (popV d) g).bind fun d' g => .ok (.nx (σ.set i (some d'))) g
  | .app i e, σ, g => (slot σ i g).bind fun _ g => (ev Φ e σ g).bind fun v g => (slot σ i g).bind fun d g => (lift (appV d v) g).bind fun d' g => .ok (.nx (σ.set i (some d'))) g
  | .ext i e, σ, g => (slot σ i g).bind fun _ g => (ev Φ e σ g).bind fun v g => (slot σ i g).bind fun d g => (lift (extV d v) g).bind fun d' g => .ok (.nx (σ.set i (some d'))) g
  | .setd i k e, σ, g => (slot σ i g).bind fun d g => (ev Φ k σ g).bind fun kv g => (ev Φ e σ g).bind fun v g => (lift (setdV d kv v) g).bind fun d' g => .ok (.nx (σ.set i (some d'))) g
  | .ite t a b, σ, g => (ev Φ t σ g).bind fun x g => match x with
    | .bool true => run Φ fu a σ g
    | .bool false => run Φ fu b σ g
    | _ => .no
  | .forr t k as b, σ, g => (evs Φ as σ g).bind fun vs g => (lift (itV k vs) g).bind fun xs g =>
      forL (fun x σ g => (lift (setT t x σ) g).bind fun σ g => run Φ fu b σ g) xs σ g
  | .whil t b, σ, g => whileL (fun σ g => ev Φ t σ g) (fun σ g => run Φ fu b σ g) fu σ g
  | .ret e, σ, g => (ev Φ e σ g).bind fun v g => .ok (.rt v) g
  | .brk, σ, g => .ok (.bk σ) g
  | .cnt, σ, g => .ok (.ct σ) g
  | .ex e, σ, g => (ev Φ e σ g).bind fun _ g => .ok (.nx σ) g
  | .dkSet t a e, σ, g => (ev Φ e σ g).bind fun v g => (ev Φ a σ g).bind fun x g => (lift (dkSetV t x v g) g).bind fun g' _ => .ok (.nx σ) g'
  | .setF i c f e, σ, g => (ev Φ e σ g).bind fun v g => (slot σ i g).bind fun d g => (lift (setFV c f v d) g).bind fun d' g => .ok (.nx (σ.set i (some d'))) g
  | .popX j i, σ, g => (slot σ i g).bind fun d g => (lift (popD d) g).bind fun p g => .ok (.nx ((σ.set i (some p.2)).set j (some p.1))) g
  | .popI j i e, σ, g => (slot σ i g).bind fun _ g => (ev Φ e σ g).bind fun k g => (slot σ i g).bind fun d g => (lift (popAtD d k) g).bind fun p g => .ok (.nx ((σ.set i (some p.2)).set j (some p.1))) g
  | .bad, _, _ => .no
/-- no return within -/
def noRet : Sm → Bool
  | .ret _ => false
  | .seq a b => noRet a && noRet b
  | .ite _ a b => noRet a && noRet b
  | .forr _ _ _ b => noRet b
  | .whil _ b => noRet b
  | _ => true

/-! ### functions -/
structure Fn where
  np : Nat
  nl : Nat
  body : Sm
def fin : Res Fl → Res D
  | .ok (.rt v) g => .ok v g
  | .ok (.nx _) g => .ok .none g
  | .ok _ _ => .no
  | .exc c vs g => .exc c vs g
  | .no => .no
def fuel : Nat := 18446744073709551616
abbrev Prims := Nat → Option (List D → G → Res D)
def FT (T : List Fn) (pr : Prims) : Nat → Fns
  | 0, _, _, _ => .no
  | d + 1, f, as, g => match pr f with
    | some p => p as g
    | none => match T[f]? with
      | some fn => if as.length = fn.np then fin (run (FT T pr d) fuel fn.body (as.map some ++ List.replicate (fn.nl - fn.np) none) g) else .no
      | none => .no
end Pv
end

section
/-! PvB: values of the small language over the hand layer's heap: the relation, the state, the judgements. -/
set_option autoImplicit false
namespace Pv
open PySem PySem.Spec PyProof.Rows L2

/-- the frozen part of the heap; the deck's dict and list; the script -/
structure Fz where
  h : Hp
  dk : Option (Addr × Addr)
  sc : Option (Addr × List Int) × List (Addr × List Str)
def Fz.isDk (F : Fz) (a : Addr) : Prop := ∃ d l, F.dk = some (d, l) ∧ (a = d ∨ a = l)
def Fz.put (F : Fz) (p : Addr) (o : HO) : Fz := { F with h := upd F.h p o }
structure Fsub (F F' : Fz) : Prop where
  h : Same F.h F'.h
  dk : ∀ p, F.dk = some p → F'.dk = some p
  sc : F'.sc = F.sc
theorem Fsub.refl (F : Fz) : Fsub F F := ⟨Same.refl _, fun _ h => h, rfl⟩
theorem Fsub.trans {F F1 F2 : Fz} (a : Fsub F F1) (b : Fsub F1 F2) : Fsub F F2 := ⟨a.h.trans b.h, fun p h => b.dk p (a.dk p h), b.sc.trans a.sc⟩
theorem Fsub.isDk {F F' : Fz} (s : Fsub F F') {a : Addr} (h : F.isDk a) : F'.isDk a := let ⟨d, l, e, q⟩ := h; ⟨d, l, s.dk _ e, q⟩
theorem same_upd {H : Hp} {p : Addr} {o : HO} (h : H p = none) : Same H (upd H p o) := fun b x e => by
  rw [upd_ne (ne_of_none e h)]
  exact e
theorem Fsub.put {F : Fz} {p : Addr} {o : HO} (h : F.h p = none) : Fsub F (F.put p o) := ⟨same_upd h, fun _ h => h, rfl⟩
theorem sqT_mono {K : PySem.W.Frag} {H H' : Hp} {a : Addr} {xs : List V} (e : Same H H') (h : H a = some (.tup xs)) : SqT K H' a xs := .of (e _ _ h)
theorem sqL_mono {K : PySem.W.Frag} {H H' : Hp} {a : Addr} {xs : List V} (e : Same H H') (h : SqL K H a xs) : SqL K H' a xs := e.seq h

section
variable (K : PySem.W.Frag) (F : Fz)
mutual
def Rel : D → V → Prop
  | .none, v => v = .non
  | .bool b, v => v = .bl b
  | .int i, v => v = .int i
  | .str x, v => v = .str x
  | .list xs, v => ∃ a vs, v = .ref a ∧ F.h a = some (.lst vs) ∧ RelL xs vs
  | .tuple xs, v => ∃ a vs, v = .ref a ∧ F.h a = some (.tup vs) ∧ RelL xs vs
  | .dict kvs, v => (isDeck kvs = true ∧ ((∃ d l, F.dk = some (d, l) ∧ v = .ref d ∧ tokD 0 = .dict kvs) ∨ (∃ a ns, F.sc.1 = some (a, ns) ∧ v = .ref a ∧ SqL K F.h a (ns.map V.int) ∧ tokD 1 = .dict kvs) ∨ RelO kvs v ∨ RelTd kvs v)) ∨
      (isDeck kvs = false ∧ ∃ a kk, v = .ref a ∧ F.h a = some (.dK kk) ∧ RelKV kvs kk)
def RelL : List D → List V → Prop
  | [], vs => vs = []
  | d :: ds, vs => ∃ v vr, vs = v :: vr ∧ Rel d v ∧ RelL ds vr
def RelKV : List (D × D) → List (Key × V) → Prop
  | [], kk => kk = []
  | (k, d) :: r, kk => ∃ kv v kr, kk = (kv, v) :: kr ∧ keyD k = some kv ∧ Rel d v ∧ RelKV r kr
def RelKT : List (D × D) → List (List Key × V) → Prop
  | [], kk => kk = []
  | (k, d) :: r, kk => ∃ kv v kr, kk = (kv, v) :: kr ∧ keyT k = some kv ∧ Rel d v ∧ RelKT r kr
/-- an object by its attributes -/
def RelO : List (D × D) → V → Prop
  | [], _ => False
  | (k, m) :: r, v => m = .none ∧ ∃ (c : Nat) (Cn : Addr × List Str) (a dx : Addr) (fs : List (Str × V)), k = .list [.int c] ∧ F.sc.2[c]? = some Cn ∧ v = .ref a ∧ F.h a = some (.ins Cn.1 dx fs) ∧ (∀ p ∈ fs, p.1 ∈ Cn.2) ∧ RelKV r (fs.map fun p => ((.inr p.1, p.2) : Key × V))
def RelTd : List (D × D) → V → Prop
  | [], _ => False
  | (k, m) :: r, v => k = .none ∧ m = .none ∧ ∃ a kk, v = .ref a ∧ F.h a = some (.dT kk) ∧ RelKT r kk
end
end

section
variable {K : PySem.W.Frag} {F F' : Fz}
mutual
theorem Rel.mono (s : Fsub F F') : ∀ (d : D) (v : V), Rel K F d v → Rel K F' d v
  | .none, v, h => by unfold Rel at h ⊢; exact h
  | .bool b, v, h => by unfold Rel at h ⊢; exact h
  | .int i, v, h => by unfold Rel at h ⊢; exact h
  | .str x, v, h => by unfold Rel at h ⊢; exact h
  | .list xs, v, h => by
    unfold Rel at h ⊢
    obtain ⟨a, vs, e, q, r⟩ := h
    exact ⟨a, vs, e, s.h _ _ q, RelL.mono s xs vs r⟩
  | .tuple xs, v, h => by
    unfold Rel at h ⊢
    obtain ⟨a, vs, e, q, r⟩ := h
    exact ⟨a, vs, e, s.h _ _ q, RelL.mono s xs vs r⟩
  | .dict kvs, v, h => by
    unfold Rel at h ⊢
    rcases h with ⟨m, ⟨d, l, e, q⟩ | ⟨a, ns, e, q, q1, q2⟩ | q | q⟩ | ⟨m, a, kk, e, q, r⟩
    · exact .inl ⟨m, .inl ⟨d, l, s.dk _ e, q⟩⟩
    · exact .inl ⟨m, .inr (.inl ⟨a, ns, by rw [s.sc]; exact e, q, sqL_mono s.h q1, q2⟩)⟩
    · exact .inl ⟨m, .inr (.inr (.inl (RelO.mono s kvs v q)))⟩
    · exact .inl ⟨m, .inr (.inr (.inr (RelTd.mono s kvs v q)))⟩
    · exact .inr ⟨m, a, kk, e, s.h _ _ q, RelKV.mono s kvs kk r⟩
theorem RelL.mono (s : Fsub F F') : ∀ (ds : List D) (vs : List V), RelL K F ds vs → RelL K F' ds vs
  | [], vs, h => by unfold RelL at h ⊢; exact h
  | d :: ds, vs, h => by
    unfold RelL at h ⊢
    obtain ⟨v, vr, e, h1, h2⟩ := h
    exact ⟨v, vr, e, Rel.mono s d v h1, RelL.mono s ds vr h2⟩
theorem RelKV.mono (s : Fsub F F') : ∀ (ds : List (D × D)) (vs : List (Key × V)), RelKV K F ds vs → RelKV K F' ds vs
  | [], vs, h => by unfold RelKV at h ⊢; exact h
  | (k, d) :: ds, vs, h => by
    unfold RelKV at h ⊢
    obtain ⟨kv, v, vr, e, h0, h1, h2⟩ := h
    exact ⟨kv, v, vr, e, h0, Rel.mono s d v h1, RelKV.mono s ds vr h2⟩
theorem RelKT.mono (s : Fsub F F') : ∀ (ds : List (D × D)) (vs : List (List Key × V)), RelKT K F ds vs → RelKT K F' ds vs
  | [], vs, h => by unfold RelKT at h ⊢; exact h
  | (k, d) :: ds, vs, h => by
    unfold RelKT at h ⊢
    obtain ⟨kv, v, vr, e, h0, h1, h2⟩ := h
    exact ⟨kv, v, vr, e, h0, Rel.mono s d v h1, RelKT.mono s ds vr h2⟩
theorem RelO.mono (s : Fsub F F') : ∀ (ds : List (D × D)) (v : V), RelO K F ds v → RelO K F' ds v
  | [], v, h => by unfold RelO at h; exact h.elim
  | (k, m) :: ds, v, h => by
    unfold RelO at h ⊢
    obtain ⟨hm, c, Cn, a, dx, fs, e1, e2, e3, e4, e5, e6⟩ := h
    exact ⟨hm, c, Cn, a, dx, fs, e1, by rw [s.sc]; exact e2, e3, s.h _ _ e4, e5, RelKV.mono s ds _ e6⟩
theorem RelTd.mono (s : Fsub F F') : ∀ (ds : List (D × D)) (v : V), RelTd K F ds v → RelTd K F' ds v
  | [], v, h => by unfold RelTd at h; exact h.elim
  | (k, m) :: ds, v, h => by
    unfold RelTd at h ⊢
    obtain ⟨hk, hm, a, kk, e1, e2, e3⟩ := h
    exact ⟨hk, hm, a, kk, e1, s.h _ _ e2, RelKT.mono s ds _ e3⟩
end
theorem RelL.nil : RelL K F [] [] := by unfold RelL; rfl
theorem RelL.cons {d : D} {ds : List D} {v : V} {vs : List V} (h : Rel K F d v) (r : RelL K F ds vs) : RelL K F (d :: ds) (v :: vs) := by
  unfold RelL; exact ⟨v, vs, rfl, h, r⟩
theorem RelL.inv {d : D} {ds : List D} {vs : List V} (h : RelL K F (d :: ds) vs) : ∃ v vr, vs = v :: vr ∧ Rel K F d v ∧ RelL K F ds vr := by
  unfold RelL at h; exact h
theorem RelL.inv0 {vs : List V} (h : RelL K F [] vs) : vs = [] := by unfold RelL at h; exact h
theorem RelL.length : ∀ {ds : List D} {vs : List V}, RelL K F ds vs → ds.length = vs.length
  | [], vs, h => by rw [h.inv0]; rfl
  | d :: ds, vs, h => by
    obtain ⟨v, vr, rfl, _, r⟩ := h.inv
    rw [List.length_cons, List.length_cons, r.length]
theorem RelL.get : ∀ {ds : List D} {vs : List V} {i : Nat} {d : D}, RelL K F ds vs → ds[i]? = some d → ∃ v, vs[i]? = some v ∧ Rel K F d v
  | [], vs, i, d, h, e => by simp at e
  | x :: ds, vs, 0, d, h, e => by
    obtain ⟨v, vr, rfl, r1, r⟩ := h.inv
    simp at e; subst e
    exact ⟨v, rfl, r1⟩
  | x :: ds, vs, i + 1, d, h, e => by
    obtain ⟨v, vr, rfl, r1, r⟩ := h.inv
    obtain ⟨u, e1, e2⟩ := r.get (i := i) (d := d) (by simpa using e)
    exact ⟨u, by simpa using e1, e2⟩
theorem RelL.append : ∀ {ds es : List D} {vs us : List V}, RelL K F ds vs → RelL K F es us → RelL K F (ds ++ es) (vs ++ us)
  | [], es, vs, us, h, r => by rw [h.inv0]; exact r
  | d :: ds, es, vs, us, h, r => by
    obtain ⟨v, vr, rfl, h1, h2⟩ := h.inv
    exact .cons h1 (h2.append r)
theorem RelL.take : ∀ {ds : List D} {vs : List V} (n : Nat), RelL K F ds vs → RelL K F (ds.take n) (vs.take n)
  | ds, vs, 0, h => by simp; exact .nil
  | [], vs, n + 1, h => by rw [h.inv0]; simp; exact .nil
  | d :: ds, vs, n + 1, h => by
    obtain ⟨v, vr, rfl, h1, h2⟩ := h.inv
    exact .cons h1 (h2.take n)
theorem RelL.drop : ∀ {ds : List D} {vs : List V} (n : Nat), RelL K F ds vs → RelL K F (ds.drop n) (vs.drop n)
  | ds, vs, 0, h => by simpa using h
  | [], vs, n + 1, h => by rw [h.inv0]; simp; exact .nil
  | d :: ds, vs, n + 1, h => by
    obtain ⟨v, vr, rfl, h1, h2⟩ := h.inv
    simpa using h2.drop n
theorem RelL.set {d : D} {v : V} (r : Rel K F d v) : ∀ {ds : List D} {vs : List V} (i : Nat), RelL K F ds vs → RelL K F (ds.set i d) (vs.set i v)
  | [], vs, i, h => by rw [h.inv0]; simp; exact .nil
  | x :: ds, vs, 0, h => by
    obtain ⟨y, vr, rfl, h1, h2⟩ := h.inv
    exact .cons r h2
  | x :: ds, vs, i + 1, h => by
    obtain ⟨y, vr, rfl, h1, h2⟩ := h.inv
    exact .cons h1 (h2.set r i)
theorem RelL.reverse : ∀ {ds : List D} {vs : List V}, RelL K F ds vs → RelL K F ds.reverse vs.reverse
  | [], vs, h => by rw [h.inv0]; exact .nil
  | d :: ds, vs, h => by
    obtain ⟨v, vr, rfl, h1, h2⟩ := h.inv
    rw [List.reverse_cons, List.reverse_cons]
    exact h2.reverse.append (.cons h1 .nil)
theorem RelL.rep {ds : List D} {vs : List V} (h : RelL K F ds vs) : ∀ k : Nat, RelL K F (List.replicate k ds).flatten (List.replicate k vs).flatten
  | 0 => .nil
  | k + 1 => by
    rw [List.replicate_succ, List.replicate_succ, List.flatten_cons, List.flatten_cons]
    exact h.append (h.rep k)
theorem RelL.ints : ∀ {ds : List D} {vs : List V} {ns : List Int}, RelL K F ds vs → intsOf ds = some ns → vs = ns.map V.int
  | [], vs, ns, h, e => by cases e; rw [h.inv0]; rfl
  | .int i :: ds, vs, ns, h, e => by
    obtain ⟨v, vr, rfl, h1, h2⟩ := h.inv
    unfold intsOf at e
    cases q : intsOf ds with
    | none => rw [q] at e; cases e
    | some ms =>
      rw [q] at e; cases e
      unfold Rel at h1
      rw [h1, h2.ints q]; rfl
  | .none :: ds, vs, ns, h, e => by cases e
  | .bool _ :: ds, vs, ns, h, e => by cases e
  | .str _ :: ds, vs, ns, h, e => by cases e
  | .list _ :: ds, vs, ns, h, e => by cases e
  | .tuple _ :: ds, vs, ns, h, e => by cases e
  | .dict _ :: ds, vs, ns, h, e => by cases e
theorem relL_ints : ∀ (ns : List Int), RelL K F (ns.map .int) (ns.map V.int)
  | [] => .nil
  | n :: ns => .cons (by unfold Rel; rfl) (relL_ints ns)

/-! plain data is data of the hand layer -/
mutual
theorem dp_of {H : Hp} (s : Same F.h H) : ∀ (d : D) (v : V), d.canLay0 = true → Rel K F d v → Dp K H v d
  | .none, v, _, h => by unfold Rel at h; subst h; exact .non
  | .bool b, v, _, h => by unfold Rel at h; subst h; exact .bl b
  | .int i, v, _, h => by unfold Rel at h; subst h; exact .int i
  | .str x, v, _, h => by unfold Rel at h; subst h; exact .str x
  | .list xs, v, c, h => by
    unfold Rel at h
    obtain ⟨a, vs, rfl, q, r⟩ := h
    unfold PyData.canLay0 at c
    exact .lst (SqL.of (s _ _ q)) (dpAll_of s xs vs c r)
  | .tuple xs, v, c, h => by
    unfold Rel at h
    obtain ⟨a, vs, rfl, q, r⟩ := h
    unfold PyData.canLay0 at c
    exact .tup (sqT_mono s q) (dpAll_of s xs vs c r)
  | .dict kvs, v, c, _ => by unfold PyData.canLay0 at c; cases c
theorem dpAll_of {H : Hp} (s : Same F.h H) : ∀ (ds : List D) (vs : List V), PyData.canLayAll0 ds = true → RelL K F ds vs → DpAll K H vs ds
  | [], vs, _, h => by rw [h.inv0]; exact .nil
  | d :: ds, vs, c, h => by
    obtain ⟨v, vr, rfl, h1, h2⟩ := h.inv
    unfold PyData.canLayAll0 at c
    simp only [Bool.and_eq_true] at c
    exact .cons (dp_of s d v c.1 h1) (dpAll_of s ds vr c.2 h2)
end
end

/-! ### the root of a value, read off the heap -/
section
variable (K : PySem.W.Frag) (F : Fz)
/-- an object that stands in H -/
def ShO (H : Hp) (kvs : List (D × D)) (a : Addr) : Prop := ∃ (c : Nat) (r : List (D × D)) (Cn : Addr × List Str) (dx : Addr) (fs : List (Str × V)), kvs = (.list [.int c], .none) :: r ∧ F.sc.2[c]? = some Cn ∧ H a = some (.ins Cn.1 dx fs) ∧ (∀ p ∈ fs, p.1 ∈ Cn.2) ∧ RelKV K F r (fs.map fun p => ((.inr p.1, p.2) : Key × V))
/-- a dict of tuples that stands in H -/
def ShT (H : Hp) (kvs : List (D × D)) (a : Addr) : Prop := ∃ r kk, kvs = (.none, .none) :: r ∧ H a = some (.dT kk) ∧ RelKT K F r kk
def Sh (H : Hp) (d : D) (v : V) : Prop := match d with
  | .none => v = .non
  | .bool b => v = .bl b
  | .int i => v = .int i
  | .str x => v = .str x
  | .list xs => ∃ a vs, v = .ref a ∧ H a = some (.lst vs) ∧ RelL K F xs vs
  | .tuple xs => ∃ a vs, v = .ref a ∧ F.h a = some (.tup vs) ∧ RelL K F xs vs
  | .dict kvs => (isDeck kvs = true ∧ ∃ a, v = .ref a ∧ ((∃ n, tokD n = .dict kvs) ∨ ShO K F H kvs a ∨ ShT K F H kvs a)) ∨ (isDeck kvs = false ∧ ∃ a kk, v = .ref a ∧ H a = some (.dK kk) ∧ RelKV K F kvs kk)
/-- what a name holds alone -/
def OwnAt (H : Hp) (d : D) (a : Addr) : Prop := match d with
  | .list xs => ∃ vs, H a = some (.lst vs) ∧ RelL K F xs vs
  | .dict kvs => (isDeck kvs = false ∧ ∃ kk, H a = some (.dK kk) ∧ RelKV K F kvs kk) ∨ ShO K F H kvs a ∨ ShT K F H kvs a
  | _ => False
end
section
variable {K : PySem.W.Frag} {F F' : Fz} {H H' : Hp}
theorem RelO.sh {kvs : List (D × D)} {v : V} (s : Same F.h H) (h : RelO K F kvs v) : ∃ a, v = .ref a ∧ ShO K F H kvs a := by
  cases kvs with
  | nil => unfold RelO at h; exact h.elim
  | cons p r =>
    obtain ⟨k, m⟩ := p
    unfold RelO at h
    obtain ⟨rfl, c, Cn, a, dx, fs, rfl, e2, e3, e4, e5, e6⟩ := h
    exact ⟨a, e3, c, r, Cn, dx, fs, rfl, e2, s _ _ e4, e5, e6⟩
theorem RelTd.sh {kvs : List (D × D)} {v : V} (s : Same F.h H) (h : RelTd K F kvs v) : ∃ a, v = .ref a ∧ ShT K F H kvs a := by
  cases kvs with
  | nil => unfold RelTd at h; exact h.elim
  | cons p r =>
    obtain ⟨k, m⟩ := p
    unfold RelTd at h
    obtain ⟨rfl, rfl, a, kk, e1, e2, e3⟩ := h
    exact ⟨a, e1, r, kk, rfl, s _ _ e2, e3⟩
theorem ShO.mark {kvs : List (D × D)} {a : Addr} (h : ShO K F H kvs a) : isDeck kvs = true := by
  obtain ⟨c, r, Cn, dx, fs, rfl, _⟩ := h; rfl
theorem ShT.mark {kvs : List (D × D)} {a : Addr} (h : ShT K F H kvs a) : isDeck kvs = true := by
  obtain ⟨r, kk, rfl, _⟩ := h; rfl
theorem ShO.move {kvs : List (D × D)} {a : Addr} (h : ShO K F H kvs a) (s : Fsub F F') (k : ∀ o, H a = some o → H' a = some o) : ShO K F' H' kvs a := by
  obtain ⟨c, r, Cn, dx, fs, e1, e2, e3, e4, e5⟩ := h
  exact ⟨c, r, Cn, dx, fs, e1, by rw [s.sc]; exact e2, k _ e3, e4, e5.mono s _ _⟩
theorem ShT.move {kvs : List (D × D)} {a : Addr} (h : ShT K F H kvs a) (s : Fsub F F') (k : ∀ o, H a = some o → H' a = some o) : ShT K F' H' kvs a := by
  obtain ⟨r, kk, e1, e3, e5⟩ := h
  exact ⟨r, kk, e1, k _ e3, e5.mono s _ _⟩
theorem Rel.sh (s : Same F.h H) {d : D} {v : V} (h : Rel K F d v) : Sh K F H d v := by
  cases d with
  | none => unfold Rel at h; exact h
  | bool b => unfold Rel at h; exact h
  | int i => unfold Rel at h; exact h
  | str x => unfold Rel at h; exact h
  | list xs => unfold Rel at h; obtain ⟨a, vs, e, q, r⟩ := h; exact ⟨a, vs, e, s _ _ q, r⟩
  | tuple xs => unfold Rel at h; exact h
  | dict kvs =>
    unfold Rel at h
    rcases h with ⟨m, ⟨d, l, e, q, z⟩ | ⟨a, ns, e, q, _, z⟩ | q | q⟩ | ⟨m, a, kk, e, q, r⟩
    · exact .inl ⟨m, d, q, .inl ⟨_, z⟩⟩
    · exact .inl ⟨m, a, q, .inl ⟨_, z⟩⟩
    · obtain ⟨a, e, z⟩ := RelO.sh s q
      exact .inl ⟨m, a, e, .inr (.inl z)⟩
    · obtain ⟨a, e, z⟩ := RelTd.sh s q
      exact .inl ⟨m, a, e, .inr (.inr z)⟩
    · exact .inr ⟨m, a, kk, e, s _ _ q, r⟩
theorem OwnAt.sh {d : D} {a : Addr} (h : OwnAt K F H d a) : Sh K F H d (.ref a) := by
  cases d with
  | list xs => obtain ⟨vs, q, r⟩ := h; exact ⟨a, vs, rfl, q, r⟩
  | dict kvs =>
    rcases h with ⟨m, kk, q, r⟩ | q | q
    · exact .inr ⟨m, a, kk, rfl, q, r⟩
    · exact .inl ⟨q.mark, a, rfl, .inr (.inl q)⟩
    · exact .inl ⟨q.mark, a, rfl, .inr (.inr q)⟩
  | none => exact h.elim
  | bool b => exact h.elim
  | int i => exact h.elim
  | str x => exact h.elim
  | tuple xs => exact h.elim
theorem OwnAt.there {d : D} {a : Addr} (h : OwnAt K F H d a) : ∃ o, H a = some o := by
  cases d with
  | list xs => obtain ⟨vs, q, r⟩ := h; exact ⟨_, q⟩
  | dict kvs =>
    rcases h with ⟨m, kk, q, r⟩ | ⟨_, _, _, _, _, _, _, q, _⟩ | ⟨_, _, _, q, _⟩
    · exact ⟨_, q⟩
    · exact ⟨_, q⟩
    · exact ⟨_, q⟩
  | none => exact h.elim
  | bool b => exact h.elim
  | int i => exact h.elim
  | str x => exact h.elim
  | tuple xs => exact h.elim
theorem OwnAt.move {d : D} {a : Addr} (h : OwnAt K F H d a) (s : Fsub F F') (k : ∀ o, H a = some o → H' a = some o) : OwnAt K F' H' d a := by
  cases d with
  | list xs => obtain ⟨vs, q, r⟩ := h; exact ⟨vs, k _ q, r.mono s _ _⟩
  | dict kvs =>
    rcases h with ⟨m, kk, q, r⟩ | q | q
    · exact .inl ⟨m, kk, k _ q, r.mono s _ _⟩
    · exact .inr (.inl (q.move s k))
    · exact .inr (.inr (q.move s k))
  | none => exact h.elim
  | bool b => exact h.elim
  | int i => exact h.elim
  | str x => exact h.elim
  | tuple xs => exact h.elim
/-- what a name holds alone, frozen -/
theorem OwnAt.frozen {d : D} {a : Addr} (h : OwnAt K F H d a) (n : F.h a = none) {o : HO} (e : H a = some o) : Rel K (F.put a o) d (.ref a) := by
  have s : Fsub F (F.put a o) := Fsub.put n
  cases d with
  | list xs =>
    obtain ⟨vs, q, r⟩ := h
    rw [q] at e; cases e
    unfold Rel
    exact ⟨a, vs, rfl, upd_same, r.mono s _ _⟩
  | dict kvs =>
    rcases h with ⟨m, kk, q, r⟩ | ⟨c, r, Cn, dx, fs, rfl, e2, e3, e4, e5⟩ | ⟨r, kk, rfl, q, e5⟩
    · rw [q] at e; cases e
      unfold Rel
      exact .inr ⟨m, a, kk, rfl, upd_same, r.mono s _ _⟩
    · rw [e3] at e; cases e
      unfold Rel
      refine .inl ⟨rfl, .inr (.inr (.inl ?_))⟩
      unfold RelO
      exact ⟨rfl, c, Cn, a, dx, fs, rfl, e2, rfl, upd_same, e4, e5.mono s _ _⟩
    · rw [q] at e; cases e
      unfold Rel
      refine .inl ⟨rfl, .inr (.inr (.inr ?_))⟩
      unfold RelTd
      exact ⟨rfl, rfl, a, kk, rfl, upd_same, e5.mono s _ _⟩
  | none => exact h.elim
  | bool b => exact h.elim
  | int i => exact h.elim
  | str x => exact h.elim
  | tuple xs => exact h.elim
end

/-! ### the state -/
/-- what is fixed through a call: the written part, the deck's names, the heap and the frozen part at the call, the functions' values -/
structure Ct where
  K : PySem.W.Frag
  n1 : Str
  n2 : Str
  n3 : Option Str
  sc : Option (Addr × List Int) × List (Addr × List Str)
  H0 : Hp
  F0 : Fz
  Φ : Fns
  fu : Nat
  slf : Option Addr := none
def dkL (C : Ct) (l : Addr) (st : Dk) : List (Key × V) := (.inr C.n1, .ref l) :: (.inr C.n2, .int st.mixed) :: (C.n3.map fun n => ((.inr n, .int st.turn) : Key × V)).toList
def DkR (C : Ct) (F : Fz) (g : G) (H : Hp) : Prop := match g with
  | none => F.dk = none
  | some st => ∃ d l, F.dk = some (d, l) ∧ d ≠ l ∧ F.h d = none ∧ F.h l = none ∧ H l = some (.lst (st.cells.map V.int)) ∧
      H d = some (.dK (dkL C l st))
structure R (C : Ct) (Ow : List Nat) (T : Hp) (F : Fz) (σe : Sl) (g : G) (σ : L2.St) (H : Hp) : Prop where
  sub : Same F.h H
  sc : F.sc = C.sc
  grow : Fsub C.F0 F
  new : ∀ a o, F.h a = some o → C.F0.h a = none → C.H0 a = none
  keep : ∀ a o, C.H0 a = some o → F.isDk a ∨ H a = some o
  dnew : ∀ d l, F.dk = some (d, l) → C.F0.dk = some (d, l) ∨ (C.H0 d = none ∧ C.H0 l = none)
  len : σe.length = σ.length
  fz : ∀ i v, σe[i]? = some (some v) → i ∉ Ow → ∃ x, σ[i]? = some (some x) ∧ Rel C.K F v x
  ow : ∀ i v, σe[i]? = some (some v) → i ∈ Ow → ∃ a, σ[i]? = some (some (V.ref a)) ∧ OwnAt C.K F H v a ∧ C.H0 a = none ∧ F.h a = none ∧ ¬ F.isDk a
  inj : ∀ i j a, i ∈ Ow → j ∈ Ow → (∃ v, σe[i]? = some (some v)) → (∃ v, σe[j]? = some (some v)) → σ[i]? = some (some (V.ref a)) → σ[j]? = some (some (V.ref a)) → i = j
  dk : DkR C F g H
  hold : ∀ a o, T a = some o → H a = some o ∧ C.H0 a = none ∧ F.h a = none ∧ ¬ F.isDk a ∧ ∀ i v, i ∈ Ow → σe[i]? = some (some v) → σ[i]? ≠ some (some (V.ref a))
  slf : ∀ a, C.slf = some a → 0 ∈ Ow → σ[0]? = some (some (V.ref a))
section
variable {C : Ct} {Ow : List Nat} {T : Hp} {F F' : Fz} {σe : Sl} {g g' : G} {σ : L2.St} {H H' : Hp}
theorem DkR.there (h : DkR C F g H) {a : Addr} (q : F.isDk a) : ∃ o, H a = some o := by
  obtain ⟨d, l, e, q⟩ := q
  cases g with
  | none => have h : F.dk = none := h; rw [e] at h; cases h
  | some st =>
    obtain ⟨d', l', e', _, _, _, hl, hd⟩ := h
    rw [e] at e'; cases e'
    rcases q with rfl | rfl
    · exact ⟨_, hd⟩
    · exact ⟨_, hl⟩
theorem R.h0 (r : R C Ow T F σe g σ H) {a : Addr} (h : H a = none) : C.H0 a = none := by
  cases e : C.H0 a with
  | none => rfl
  | some o =>
    rcases r.keep a o e with q | q
    · obtain ⟨o', q⟩ := r.dk.there q
      rw [h] at q; cases q
    · rw [h] at q; cases q
theorem R.fn (r : R C Ow T F σe g σ H) {a : Addr} (h : H a = none) : F.h a = none := r.sub.free h
/-- the heap grows: what stands stays, but the deck; new things may be frozen -/
theorem R.step (r : R C Ow T F σe g σ H) (fs : Fsub F F') (sub : Same F'.h H') (nw : ∀ a o, F'.h a = some o → F.h a = none → H a = none)
    (kp : ∀ a o, H a = some o → F'.isDk a ∨ H' a = some o) (dn : ∀ d l, F'.dk = some (d, l) → F.dk = some (d, l) ∨ (H d = none ∧ H l = none)) (dk : DkR C F' g' H') : R C Ow T F' σe g' σ H' := by
  have nd : ∀ a o, H a = some o → ¬ F.isDk a → ¬ F'.isDk a := fun a o e n q => by
    obtain ⟨d, l, q1, q2⟩ := q
    rcases dn d l q1 with z | ⟨z1, z2⟩
    · exact n ⟨d, l, z, q2⟩
    · rcases q2 with rfl | rfl
      · rw [e] at z1; cases z1
      · rw [e] at z2; cases z2
  refine ⟨sub, fs.sc.trans r.sc, r.grow.trans fs, fun a o e n => ?_, fun a o e => ?_, fun d l e => ?_, r.len, fun i v e n => ?_, fun i v e n => ?_, r.inj, dk, fun a o e => ?_, r.slf⟩
  · cases q : F.h a with
    | some o' => exact r.new a o' q n
    | none => exact r.h0 (nw a o e q)
  · rcases r.keep a o e with q | q
    · exact .inl (fs.isDk q)
    · exact kp a o q
  · rcases dn d l e with q | ⟨q1, q2⟩
    · exact r.dnew d l q
    · exact .inr ⟨r.h0 q1, r.h0 q2⟩
  · obtain ⟨x, e1, e2⟩ := r.fz i v e n
    exact ⟨x, e1, e2.mono fs _ _⟩
  · obtain ⟨a, e1, e2, e3, e4, e5⟩ := r.ow i v e n
    obtain ⟨o, eo⟩ := e2.there
    have nn := nd a o eo e5
    refine ⟨a, e1, e2.move fs fun o' q => ?_, e3, ?_, nn⟩
    · rcases kp a o' q with z | z
      · exact (nn z).elim
      · exact z
    · cases q : F'.h a with
      | none => rfl
      | some o' =>
        have z := nw a o' q e4
        rw [eo] at z; cases z
  · obtain ⟨e1, e2, e3, e4, e5⟩ := r.hold a o e
    have nn := nd a o e1 e4
    refine ⟨(kp a o e1).resolve_left nn, e2, ?_, nn, e5⟩
    cases q : F'.h a with
    | none => rfl
    | some o' =>
      have z := nw a o' q e3
      rw [e1] at z; cases z
theorem R.tn (r : R C Ow T F σe g σ H) {a : Addr} (h : H a = none) : T a = none := by
  cases q : T a with
  | none => rfl
  | some o =>
    have z := (r.hold a o q).1
    rw [h] at z; cases z
theorem DkR.put {p : Addr} {o : HO} (h : DkR C F g H) (n : H p = none) : DkR C F g (upd H p o) := by
  cases g with
  | none => exact h
  | some st =>
    obtain ⟨d, l, e, ne, f1, f2, hl, hd⟩ := h
    exact ⟨d, l, e, ne, f1, f2, (upd_ne (ne_of_none hl n)).trans hl, (upd_ne (ne_of_none hd n)).trans hd⟩
theorem DkR.putF {p : Addr} {o : HO} (h : DkR C F g H) (n : ¬ F.isDk p) : DkR C (F.put p o) g H := by
  cases g with
  | none => exact h
  | some st =>
    obtain ⟨d, l, e, ne, f1, f2, hl, hd⟩ := h
    have n1 : d ≠ p := fun z => n ⟨d, l, e, .inl z.symm⟩
    have n2 : l ≠ p := fun z => n ⟨d, l, e, .inr z.symm⟩
    exact ⟨d, l, e, ne, (upd_ne n1).trans f1, (upd_ne n2).trans f2, hl, hd⟩
theorem R.ndk (r : R C Ow T F σe g σ H) {p : Addr} (n : H p = none) : ¬ F.isDk p := fun q => by
  obtain ⟨o, q⟩ := r.dk.there q
  rw [n] at q; cases q
/-- a new thing, not frozen -/
theorem R.grown {p : Addr} {o : HO} (r : R C Ow T F σe g σ H) (n : H p = none) : R C Ow T F σe g σ (upd H p o) :=
  r.step (.refl F) (r.sub.trans (same_upd n)) (fun a o e q => by rw [q] at e; cases e) (fun a o e => .inr ((same_upd n) a o e)) (fun d l e => .inl e) (r.dk.put n)
/-- a new thing, frozen -/
theorem R.laid {p : Addr} {o : HO} (r : R C Ow T F σe g σ H) (n : H p = none) : R C Ow T (F.put p o) σe g σ (upd H p o) := by
  refine r.step (Fsub.put (r.fn n)) (fun a u e => ?_) (fun a u e q => ?_) (fun a u e => .inr ((same_upd n) a u e)) (fun d l e => .inl e) ((r.dk.putF (r.ndk n)).put n)
  · by_cases h : a = p
    · subst h
      have e : (upd F.h a o) a = some u := e
      rw [upd_same] at e ⊢; exact e
    · have e : (upd F.h p o) a = some u := e
      rw [upd_ne h] at e ⊢
      exact r.sub _ _ e
  · by_cases h : a = p
    · rw [h]; exact n
    · have e : (upd F.h p o) a = some u := e
      rw [upd_ne h, q] at e; cases e
/-- a thing that no name holds is frozen -/
theorem R.freeze {p : Addr} {o : HO} (r : R C Ow T F σe g σ H) (e : H p = some o) (n0 : C.H0 p = none) (nf : F.h p = none) (nd : ¬ F.isDk p)
    (no : ∀ i v, i ∈ Ow → σe[i]? = some (some v) → σ[i]? ≠ some (some (V.ref p))) (nt : T p = none) : R C Ow T (F.put p o) σe g σ H := by
  have fs : Fsub F (F.put p o) := Fsub.put nf
  refine ⟨fun a u q => ?_, fs.sc.trans r.sc, r.grow.trans fs, fun a u q n => ?_, r.keep, r.dnew, r.len, fun i v q n => ?_, fun i v q n => ?_, r.inj, r.dk.putF nd, fun a u q => ?_, r.slf⟩
  · by_cases h : a = p
    · subst h
      have q : (upd F.h a o) a = some u := q
      rw [upd_same] at q; cases q; exact e
    · have q : (upd F.h p o) a = some u := q
      rw [upd_ne h] at q
      exact r.sub _ _ q
  · by_cases h : a = p
    · rw [h]; exact n0
    · have q : (upd F.h p o) a = some u := q
      rw [upd_ne h] at q
      exact r.new a u q n
  · obtain ⟨x, e1, e2⟩ := r.fz i v q n
    exact ⟨x, e1, e2.mono fs _ _⟩
  · obtain ⟨a, e1, e2, e3, e4, e5⟩ := r.ow i v q n
    have ne : a ≠ p := fun z => no i v n q (z ▸ e1)
    exact ⟨a, e1, e2.move fs fun _ z => z, e3, (upd_ne ne).trans e4, e5⟩
  · obtain ⟨e1, e2, e3, e4, e5⟩ := r.hold a u q
    have ne : a ≠ p := fun z => by rw [z, nt] at q; cases q
    exact ⟨e1, e2, (upd_ne ne).trans e3, e4, e5⟩
/-- a name is no longer held alone -/
theorem R.drop {i : Nat} (r : R C (i :: Ow) T F σe g σ H) (h : i ∉ Ow) : ∃ F', Fsub F F' ∧ R C Ow T F' σe g σ H := by
  cases q : σe[i]? with
  | none =>
    refine ⟨F, .refl F, r.sub, r.sc, r.grow, r.new, r.keep, r.dnew, r.len, fun j v e n => ?_, fun j v e n => r.ow j v e (List.mem_cons_of_mem _ n), fun j k a hj hk => r.inj j k a (List.mem_cons_of_mem _ hj) (List.mem_cons_of_mem _ hk), r.dk, fun a o e => let ⟨e1, e2, e3, e4, e5⟩ := r.hold a o e; ⟨e1, e2, e3, e4, fun j v hj => e5 j v (List.mem_cons_of_mem _ hj)⟩, fun a e z => r.slf a e (List.mem_cons_of_mem _ z)⟩
    refine r.fz j v e fun m => ?_
    rcases List.mem_cons.mp m with rfl | m
    · rw [q] at e; cases e
    · exact n m
  | some ov =>
    cases ov with
    | none =>
      refine ⟨F, .refl F, r.sub, r.sc, r.grow, r.new, r.keep, r.dnew, r.len, fun j v e n => ?_, fun j v e n => r.ow j v e (List.mem_cons_of_mem _ n), fun j k a hj hk => r.inj j k a (List.mem_cons_of_mem _ hj) (List.mem_cons_of_mem _ hk), r.dk, fun a o e => let ⟨e1, e2, e3, e4, e5⟩ := r.hold a o e; ⟨e1, e2, e3, e4, fun j v hj => e5 j v (List.mem_cons_of_mem _ hj)⟩, fun a e z => r.slf a e (List.mem_cons_of_mem _ z)⟩
      refine r.fz j v e fun m => ?_
      rcases List.mem_cons.mp m with rfl | m
      · rw [q] at e; cases e
      · exact n m
    | some v0 =>
      obtain ⟨p, e1, e2, e3, e4, e5⟩ := r.ow i v0 q List.mem_cons_self
      obtain ⟨o, eo⟩ := e2.there
      have r1 : R C Ow T F (σe.set i none) g σ H := by
        refine ⟨r.sub, r.sc, r.grow, r.new, r.keep, r.dnew, by rw [List.length_set]; exact r.len, fun j v e n => ?_, fun j v e n => ?_, fun j k a hj hk h1 h2 => ?_, r.dk, fun a o e => ?_, fun a e z => r.slf a e (List.mem_cons_of_mem _ z)⟩
        · by_cases hj : j = i
          · subst hj
            rw [List.getElem?_set] at e
            simp at e
          · rw [List.getElem?_set_ne (Ne.symm hj)] at e
            refine r.fz j v e fun m => ?_
            rcases List.mem_cons.mp m with z | m
            · exact hj z
            · exact n m
        · have hj : j ≠ i := fun z => h (z ▸ n)
          rw [List.getElem?_set_ne (Ne.symm hj)] at e
          exact r.ow j v e (List.mem_cons_of_mem _ n)
        · have hj' : j ≠ i := fun z => h (z ▸ hj)
          have hk' : k ≠ i := fun z => h (z ▸ hk)
          rw [List.getElem?_set_ne (Ne.symm hj')] at h1
          rw [List.getElem?_set_ne (Ne.symm hk')] at h2
          exact r.inj j k a (List.mem_cons_of_mem _ hj) (List.mem_cons_of_mem _ hk) h1 h2
        · obtain ⟨e1, e2, e3, e4, e5⟩ := r.hold a o e
          refine ⟨e1, e2, e3, e4, fun j v hj e => ?_⟩
          have hj' : j ≠ i := fun z => h (z ▸ hj)
          rw [List.getElem?_set_ne (Ne.symm hj')] at e
          exact e5 j v (List.mem_cons_of_mem _ hj) e
      have r2 := r1.freeze (o := o) eo e3 e4 e5 (fun j v hj e z => by
        have hj' : j ≠ i := fun z => h (z ▸ hj)
        rw [List.getElem?_set_ne (Ne.symm hj')] at e
        exact hj' (r.inj j i p (List.mem_cons_of_mem _ hj) List.mem_cons_self ⟨v, e⟩ ⟨v0, q⟩ z e1)) (by
        cases qt : T p with
        | none => rfl
        | some o' => exact ((r.hold p o' qt).2.2.2.2 i v0 List.mem_cons_self q e1).elim)
      refine ⟨F.put p o, Fsub.put e4, r2.sub, r2.sc, r2.grow, r2.new, r2.keep, r2.dnew, r.len, fun j v e n => ?_, fun j v e n => ?_, fun j k a hj hk => r.inj j k a (List.mem_cons_of_mem _ hj) (List.mem_cons_of_mem _ hk), r2.dk, fun a o e => let ⟨e1, e2, e3, e4, e5⟩ := r2.hold a o e; ⟨e1, e2, e3, e4, fun j v hj => (r.hold a o e).2.2.2.2 j v (List.mem_cons_of_mem _ hj)⟩, fun a e z => r.slf a e (List.mem_cons_of_mem _ z)⟩
      · by_cases hj : j = i
        · subst hj
          rw [q] at e; cases e
          exact ⟨_, e1, e2.frozen e4 eo⟩
        · refine r2.fz j v ?_ n
          rw [List.getElem?_set_ne (Ne.symm hj)]; exact e
      · have hj : j ≠ i := fun z => h (z ▸ n)
        refine r2.ow j v ?_ n
        rw [List.getElem?_set_ne (Ne.symm hj)]; exact e
end
end Pv
end

section
/-! PvC: the judgements, the operators. -/
set_option autoImplicit false
namespace Pv
open PySem PySem.Spec PyProof.Rows L2

theorem lineN_le {n : Nat} (h : n ≤ lineN) : n ≤ sizeLine := by rw [sizeLine_eq]; exact h
theorem lineN_lt {n : Nat} (h : n < lineN) : n < sizeLine := by rw [sizeLine_eq]; exact h

theorem pe_con {X : Cx} {e : Expr} {t t' : TE} (h : PE X e t) (c : ∀ σ H Q, t' σ H Q → t σ H Q) : PE X e t' := ⟨fun pins s σ H Q I hw => h.run pins s σ H Q I (c σ H Q hw)⟩
theorem pt_con {X : Cx} {e : Expr} {t t' : TT} (h : PT X e t) (c : ∀ σ H Q, t' σ H Q → t σ H Q) : PT X e t' := ⟨fun pins s σ H Q I hw => h.run pins s σ H Q I (c σ H Q hw)⟩
theorem pw_con {X : Cx} {e : Expr} {t t' : TT} (h : PW X e t) (c : ∀ σ H Q, t' σ H Q → t σ H Q) : PW X e t' := ⟨fun wh pins s σ H Q I hw => h.run wh pins s σ H Q I (c σ H Q hw)⟩
theorem pa_con {X : Cx} {es : List Expr} {t t' : TA} (h : PA X es t) (c : ∀ σ H Q, t' σ H Q → t σ H Q) : PA X es t' := ⟨fun pos pins s σ H Q I hw => h.run pos pins s σ H Q I (c σ H Q hw)⟩
theorem ps_con {X : Cx} {st : Stmt} {t t' : TS} (h : PS X st t) (c : ∀ D σ H, t' D σ H → t D σ H) : PS X st t' := ⟨fun pins s σ H D I hw => h.run pins s σ H D I (c D σ H hw)⟩
theorem pss_con {X : Cx} {st : List Stmt} {t t' : TS} (h : PSs X st t) (c : ∀ D σ H, t' D σ H → t D σ H) : PSs X st t' := ⟨fun pins s σ H D I hw => h.run pins s σ H D I (c D σ H hw)⟩

abbrev Mv := Sl → G → Res D
/-- the value is frozen -/
def tS (C : Ct) (Ow : List Nat) (m : Mv) : TE := fun σ H Q => ∃ T F σe g v g', R C Ow T F σe g σ H ∧ m σe g = .ok v g' ∧ ∀ F' H' x, Fsub F F' → R C Ow T F' σe g' σ H' → Rel C.K F' v x → Q x H'
/-- .. or what a name holds alone -/
def Bm (C : Ct) (Ow : List Nat) (F : Fz) (σe : Sl) (σ : L2.St) (v : D) (x : V) : Prop := Rel C.K F v x ∨ ∃ i, i ∈ Ow ∧ σe[i]? = some (some v) ∧ σ[i]? = some (some x)
def tB (C : Ct) (Ow : List Nat) (m : Mv) : TE := fun σ H Q => ∃ T F σe g v g', R C Ow T F σe g σ H ∧ m σe g = .ok v g' ∧ ∀ F' H' x, Fsub F F' → R C Ow T F' σe g' σ H' → Bm C Ow F' σe σ v x → Q x H'
/-- a new thing that nobody holds -/
structure New (C : Ct) (Ow : List Nat) (T : Hp) (F : Fz) (σe : Sl) (σ : L2.St) (H : Hp) (v : D) (a : Addr) : Prop where
  at_ : OwnAt C.K F H v a
  h0 : C.H0 a = none
  fn : F.h a = none
  nd : ¬ F.isDk a
  no : ∀ i v, i ∈ Ow → σe[i]? = some (some v) → σ[i]? ≠ some (some (V.ref a))
  nt : T a = none
def tF (C : Ct) (Ow : List Nat) (m : Mv) : TE := fun σ H Q => ∃ T F σe g v g', R C Ow T F σe g σ H ∧ m σe g = .ok v g' ∧ ∀ F' H' a, Fsub F F' → R C Ow T F' σe g' σ H' → New C Ow T F' σe σ H' v a → Q (.ref a) H'
def tT (C : Ct) (Ow : List Nat) (m : Mv) : TT := fun σ H Q => ∃ T F σe g b g', R C Ow T F σe g σ H ∧ m σe g = .ok (.bool b) g' ∧ ∀ F' H', Fsub F F' → R C Ow T F' σe g' σ H' → Q b H'
def tA (C : Ct) (Ow : List Nat) (m : Sl → G → Res (List D)) : TA := fun σ H Q => ∃ T F σe g vs g', R C Ow T F σe g σ H ∧ m σe g = .ok vs g' ∧ ∀ F' H' xs, Fsub F F' → R C Ow T F' σe g' σ H' → RelL C.K F' vs xs → Q xs H'

structure Es (X : Cx) (C : Ct) (Ow : List Nat) (e : Expr) (i : Ex) : Prop where
  run : PE X e (tS C Ow (ev C.Φ i))
structure Eb (X : Cx) (C : Ct) (Ow : List Nat) (e : Expr) (i : Ex) : Prop where
  run : PE X e (tB C Ow (ev C.Φ i))
structure Ef (X : Cx) (C : Ct) (Ow : List Nat) (e : Expr) (i : Ex) : Prop where
  run : PE X e (tF C Ow (ev C.Φ i))
structure Et (X : Cx) (C : Ct) (Ow : List Nat) (e : Expr) (i : Ex) : Prop where
  run : PT X e (tT C Ow (ev C.Φ i))
structure Ew (X : Cx) (C : Ct) (Ow : List Nat) (e : Expr) (i : Ex) : Prop where
  run : PW X e (tT C Ow (ev C.Φ i))
structure Ea (X : Cx) (C : Ct) (Ow : List Nat) (es : List Expr) (is : Exs) : Prop where
  run : PA X es (tA C Ow (evs C.Φ is))

section
variable {X : Cx} {C : Ct} {Ow : List Nat} {T : Hp} {F F' : Fz} {σe : Sl} {g g' : G} {σ : L2.St} {H H' : Hp} {v : D} {x : V}
theorem Bm.mono (h : Bm C Ow F σe σ v x) (s : Fsub F F') : Bm C Ow F' σe σ v x := by
  rcases h with h | h
  · exact .inl (h.mono s _ _)
  · exact .inr h
theorem R.sh (r : R C Ow T F σe g σ H) (h : Bm C Ow F σe σ v x) : Sh C.K F H v x := by
  rcases h with h | ⟨i, hi, e1, e2⟩
  · exact h.sh r.sub
  · obtain ⟨a, q, o, _⟩ := r.ow i v e1 hi
    rw [q] at e2
    have e2 : V.ref a = x := Option.some.inj (Option.some.inj e2)
    rw [← e2]
    exact o.sh
theorem R.frozen {a : Addr} (r : R C Ow T F σe g σ H) (n : New C Ow T F σe σ H v a) : ∃ F', Fsub F F' ∧ R C Ow T F' σe g σ H ∧ Rel C.K F' v (.ref a) := by
  obtain ⟨o, eo⟩ := n.at_.there
  exact ⟨F.put a o, Fsub.put n.fn, r.freeze eo n.h0 n.fn n.nd n.no n.nt, n.at_.frozen n.fn eo⟩
variable {e : Expr} {i : Ex}
theorem Es.b (h : Es X C Ow e i) : Eb X C Ow e i := ⟨pe_con h.run fun σ H Q ⟨T, F, σe, g, v, g', r, m, q⟩ => ⟨T, F, σe, g, v, g', r, m, fun F' H' x s r' h => q F' H' x s r' (.inl h)⟩⟩
theorem Ef.s (h : Ef X C Ow e i) : Es X C Ow e i := ⟨pe_con h.run fun σ H Q ⟨T, F, σe, g, v, g', r, m, q⟩ => ⟨T, F, σe, g, v, g', r, m, fun F' H' a s r' n => by
  obtain ⟨F2, s2, r2, q2⟩ := r'.frozen n
  exact q F2 H' (.ref a) (s.trans s2) r2 q2⟩⟩
theorem Ef.b (h : Ef X C Ow e i) : Eb X C Ow e i := h.s.b
theorem Ew.t (h : Ew X C Ow e i) : Et X C Ow e i := ⟨h.run.pt⟩

/-! ### results of operators -/
/-- what may come: a value as it stands, or a new thing that is frozen at once -/
def Out (K : PySem.W.Frag) (F : Fz) (H : Hp) (d : D) (Q : V → Hp → Prop) : Prop :=
  (∀ x, Rel K F d x → Q x H) ∧ (∀ p o, H p = none → Rel K (F.put p o) d (.ref p) → Q (.ref p) (upd H p o))
theorem R.out {Q : V → Hp → Prop} (r : R C Ow T F σe g σ H) (h : ∀ F' H' x, Fsub F F' → R C Ow T F' σe g σ H' → Rel C.K F' v x → Q x H') : Out C.K F H v Q :=
  ⟨fun x q => h F H x (.refl F) r q, fun p o n q => h (F.put p o) (upd H p o) (.ref p) (Fsub.put (r.fn n)) (r.laid n) q⟩
theorem rel_int {K : PySem.W.Frag} {i : Int} : Rel K F (.int i) (.int i) := by unfold Rel; rfl
theorem rel_bl {K : PySem.W.Frag} {i : Bool} : Rel K F (.bool i) (.bl i) := by unfold Rel; rfl
theorem rel_str {K : PySem.W.Frag} {i : Str} : Rel K F (.str i) (.str i) := by unfold Rel; rfl
theorem rel_non {K : PySem.W.Frag} : Rel K F .none .non := by unfold Rel; rfl
theorem rel_lst {K : PySem.W.Frag} {xs : List D} {vs : List V} {p : Addr} (n : F.h p = none) (r : RelL K F xs vs) : Rel K (F.put p (.lst vs)) (.list xs) (.ref p) := by
  unfold Rel; exact ⟨p, vs, rfl, upd_same, r.mono (Fsub.put n) _ _⟩
theorem rel_tup {K : PySem.W.Frag} {xs : List D} {vs : List V} {p : Addr} (n : F.h p = none) (r : RelL K F xs vs) : Rel K (F.put p (.tup vs)) (.tuple xs) (.ref p) := by
  unfold Rel; exact ⟨p, vs, rfl, upd_same, r.mono (Fsub.put n) _ _⟩

def bop : Bop → Operator
  | .add => .Add | .sub => .Sub | .mul => .Mult | .fdiv => .FloorDiv | .mod => .Mod | .pow => .Pow | .shl => .LShift | .shr => .RShift | .band => .BitAnd | .bor => .BitOr | .bxor => .BitXor | .lcat => .Add | .lrep => .Mult
def cop : Cop → CmpOp
  | .eq => .Eq | .ne => .NotEq | .lt => .Lt | .le => .LtE | .gt => .Gt | .ge => .GtE | .isin => .In | .notin => .NotIn | .isN => .Is | .notN => .IsNot

/-- // by a divisor below 0 -/
def CDivNW (_ j : Int) : Prop := j < 0 ∧ j.natAbs.log2 < 9000
theorem op_fdivNW : OpR X (binaryOp .FloorDiv) (rI CDivNW fun i j => .int (i.fdiv j)) := opI fun i j _ _ _ _ _ hc q => by
  have h1 : j < 0 := hc.1
  exact floordiv_int (by omega) q (.inl (PyProof.noPylong_of_log2 hc.2))
def rB (K : PySem.W.Frag) (o : Bop) : R2 := fun x y H Q => ∃ F va vb v, Same F.h H ∧ Sh K F H va x ∧ Sh K F H vb y ∧ binV o va vb = some v ∧ Out K F H v Q
theorem op_bin (o : Bop) : OpR X (binaryOp (bop o)) (rB X.K o) := by
  intro pins s σ H x y u w Q I rx ry h
  obtain ⟨F, va, vb, v, sub, ha, hb, hv, q⟩ := h
  unfold binV at hv
  split at hv
  · cases hv; cases ha; cases hb
    exact op_add pins s σ H _ _ u w Q I rx ry ⟨_, _, rfl, rfl, q.1 _ rel_int⟩
  · cases hv; cases ha; cases hb
    exact op_sub pins s σ H _ _ u w Q I rx ry ⟨_, _, rfl, rfl, q.1 _ rel_int⟩
  · rename_i i j
    cases ha; cases hb
    split at hv
    · rename_i hc
      cases hv
      have q := q.1 _ rel_int
      unfold mulOk at hc
      simp only [Bool.or_eq_true, decide_eq_true_eq] at hc
      rcases hc with (hc | hc) | hc
      · exact op_mul pins s σ H _ _ u w Q I rx ry ⟨_, _, rfl, rfl, .inl ⟨by omega, by omega⟩, q⟩
      · exact op_mul pins s σ H _ _ u w Q I rx ry ⟨_, _, rfl, rfl, .inr ⟨by omega, by omega⟩, q⟩
      · exact op_mulW pins s σ H _ _ u w Q I rx ry ⟨_, _, rfl, rfl, hc, q⟩
    · cases hv
  · cases ha; cases hb
    split at hv
    · rename_i hc
      cases hv
      simp only [Bool.and_eq_true, decide_eq_true_eq] at hc
      exact op_fdivW pins s σ H _ _ u w Q I rx ry ⟨_, _, rfl, rfl, hc, q.1 _ rel_int⟩
    · split at hv
      · rename_i hc
        cases hv
        simp only [Bool.and_eq_true, decide_eq_true_eq] at hc
        exact op_fdivNW pins s σ H _ _ u w Q I rx ry ⟨_, _, rfl, rfl, hc, q.1 _ rel_int⟩
      · cases hv
  · cases ha; cases hb
    split at hv
    · rename_i hc
      cases hv
      simp only [decide_eq_true_eq] at hc
      exact op_mod pins s σ H _ _ u w Q I rx ry ⟨_, _, rfl, rfl, hc, q.1 _ rel_int⟩
    · cases hv
  · cases ha; cases hb
    split at hv
    · rename_i hc
      cases hv
      unfold powOk at hc
      simp only [Bool.and_eq_true, decide_eq_true_eq] at hc
      exact op_pow pins s σ H _ _ u w Q I rx ry ⟨_, _, rfl, rfl, ⟨hc.1.1, hc.1.2, hc.2⟩, q.1 _ rel_int⟩
    · cases hv
  · cases ha; cases hb
    split at hv
    · rename_i hc
      cases hv
      unfold powOk at hc
      simp only [Bool.and_eq_true, decide_eq_true_eq] at hc
      exact op_shl pins s σ H _ _ u w Q I rx ry ⟨_, _, rfl, rfl, ⟨hc.1.1, hc.1.2, hc.2⟩, q.1 _ rel_int⟩
    · cases hv
  · cases ha; cases hb
    split at hv
    · rename_i hc
      cases hv
      simp only [decide_eq_true_eq] at hc
      exact op_shr pins s σ H _ _ u w Q I rx ry ⟨_, _, rfl, rfl, hc, q.1 _ rel_int⟩
    · cases hv
  · cases hv; cases ha; cases hb
    exact op_and pins s σ H _ _ u w Q I rx ry ⟨_, _, rfl, rfl, q.1 _ rel_int⟩
  · cases hv; cases ha; cases hb
    exact op_or pins s σ H _ _ u w Q I rx ry ⟨_, _, rfl, rfl, q.1 _ rel_int⟩
  · cases hv; cases ha; cases hb
    exact op_xor pins s σ H _ _ u w Q I rx ry ⟨_, _, rfl, rfl, q.1 _ rel_int⟩
  · cases ha; cases hb
    split at hv
    · rename_i hc
      cases hv
      simp only [decide_eq_true_eq] at hc
      exact op_add_str pins s σ H _ _ u w Q I rx ry ⟨_, _, rfl, rfl, lineN_le hc, q.1 _ rel_str⟩
    · cases hv
  · obtain ⟨a, vs, rfl, h1, r1⟩ := ha
    obtain ⟨b, us, rfl, h2, r2⟩ := hb
    split at hv
    · rename_i hc
      cases hv
      simp only [decide_eq_true_eq] at hc
      rw [r1.length, r2.length] at hc
      exact op_cat pins s σ H _ _ u w Q I rx ry ⟨_, _, _, _, rfl, rfl, h1, h2, lineN_le hc, fun p n => q.2 p _ n (rel_lst (sub.free n) (r1.append r2))⟩
    · cases hv
  · obtain ⟨a, vs, rfl, h1, r1⟩ := ha
    obtain ⟨b, us, rfl, h2, r2⟩ := hb
    split at hv
    · rename_i xs ys hc
      cases hv
      simp only [decide_eq_true_eq] at hc
      rw [r1.length, r2.length] at hc
      refine op_catA pins s σ H _ _ u w Q I rx ry ⟨_, _, _, _, rfl, rfl, sqT_mono sub h1, sqT_mono sub h2, lineN_le hc, fun e => ?_, fun e1 e2 => ?_, fun e1 e2 p n => q.2 p _ n (rel_tup (sub.free n) (r1.append r2))⟩
      · subst e
        have e : xs = [] := List.eq_nil_of_length_eq_zero r1.length
        subst e
        exact q.1 _ (by unfold Rel; exact ⟨_, _, rfl, h2, r2⟩)
      · subst e2
        have e : ys = [] := List.eq_nil_of_length_eq_zero r2.length
        subst e
        exact q.1 _ (by unfold Rel; exact ⟨_, _, rfl, h1, by rw [List.append_nil]; exact r1⟩)
    · cases hv
  · obtain ⟨a, vs, rfl, h1, r1⟩ := ha
    cases hb
    split at hv
    · rename_i xs k hc
      cases hv
      simp only [Bool.and_eq_true, decide_eq_true_eq] at hc
      rw [r1.length] at hc
      exact op_rep pins s σ H _ _ u w Q I rx ry ⟨_, _, _, rfl, rfl, h1, by omega, by omega, lineN_le hc.2, fun p n => q.2 p _ n (rel_lst (sub.free n) (r1.rep _))⟩
    · cases hv
  · obtain ⟨a, vs, rfl, h1, r1⟩ := ha
    obtain ⟨b, us, rfl, h2, r2⟩ := hb
    split at hv
    · rename_i hc
      cases hv
      simp only [decide_eq_true_eq] at hc
      rw [r1.length, r2.length] at hc
      exact op_cat pins s σ H _ _ u w Q I rx ry ⟨_, _, _, _, rfl, rfl, h1, h2, lineN_le hc, fun p n => q.2 p _ n (rel_lst (sub.free n) (r1.append r2))⟩
    · cases hv
  · obtain ⟨a, vs, rfl, h1, r1⟩ := ha
    cases hb
    split at hv
    · rename_i xs k hc
      cases hv
      simp only [Bool.and_eq_true, decide_eq_true_eq] at hc
      rw [r1.length] at hc
      exact op_rep pins s σ H _ _ u w Q I rx ry ⟨_, _, _, rfl, rfl, h1, by omega, by omega, lineN_le hc.2, fun p n => q.2 p _ n (rel_lst (sub.free n) (r1.rep _))⟩
    · cases hv
  · cases hv

/-! ### comparisons -/
theorem op_inT (hu : X.A.units + 65 < cLine) : OpR X (compareOp .In) (fun x y H Q => ∃ d ds, Dp X.K H x d ∧ Dp X.K H y (.tuple ds) ∧ SeqAt.shaped d = true ∧ SeqAt.shaped (.tuple ds) = true ∧ Q (.bl (ds.any fun z => PyData.eqv z d)) H) := by
  intro pins s σ H x y v u Q I rx ry h
  obtain ⟨d, ds, hd, he, sd, se, q⟩ := h
  obtain ⟨as, r1⟩ := Dp.reads I d x v hd rx
  obtain ⟨bs, r2⟩ := Dp.reads I (.tuple ds) y u he ry
  exact SeqAt.in_tuple_reads r2 r1 (SeqAt.canLay_of_shaped se) (SeqAt.canLay_of_shaped sd) (room_in_shaped sd hu) ⟨.bl _, H, I, rfl, q⟩
theorem op_notInT (hu : X.A.units + 65 < cLine) : OpR X (compareOp .NotIn) (fun x y H Q => ∃ d ds, Dp X.K H x d ∧ Dp X.K H y (.tuple ds) ∧ SeqAt.shaped d = true ∧ SeqAt.shaped (.tuple ds) = true ∧ Q (.bl (!ds.any fun z => PyData.eqv z d)) H) := by
  intro pins s σ H x y v u Q I rx ry h
  obtain ⟨d, ds, hd, he, sd, se, q⟩ := h
  obtain ⟨as, r1⟩ := Dp.reads I d x v hd rx
  obtain ⟨bs, r2⟩ := Dp.reads I (.tuple ds) y u he ry
  exact SeqAt.notIn_tuple_reads r2 r1 (SeqAt.canLay_of_shaped se) (SeqAt.canLay_of_shaped sd) (room_in_shaped sd hu) ⟨.bl _, H, I, rfl, q⟩
theorem dp_sh {K : PySem.W.Frag} (s : Same F.h H) {d : D} {x : V} (c : d.canLay0 = true) (h : Sh K F H d x) : Dp K H x d := by
  cases d with
  | none => cases h; exact .non
  | bool b => cases h; exact .bl b
  | int i => cases h; exact .int i
  | str y => cases h; exact .str y
  | list xs =>
    obtain ⟨a, vs, rfl, q, r⟩ := h
    unfold PyData.canLay0 at c
    exact .lst (SqL.of q) (dpAll_of s xs vs c r)
  | tuple xs =>
    obtain ⟨a, vs, rfl, q, r⟩ := h
    unfold PyData.canLay0 at c
    exact .tup (sqT_mono s q) (dpAll_of s xs vs c r)
  | dict kvs => unfold PyData.canLay0 at c; cases c
theorem lay_of_shp {d : D} (h : shp d = true) : d.canLay0 = true := by
  unfold shp SeqAt.shaped at h
  simp only [Bool.and_eq_true] at h
  exact h.1
theorem sh_non {K : PySem.W.Frag} {d : D} {x : V} (h : Sh K F H d x) : decide (x = V.non) = (match d with | .none => true | _ => false) := by
  cases d with
  | none => cases h; rfl
  | bool b => cases h; rfl
  | int i => cases h; rfl
  | str y => cases h; rfl
  | list xs => obtain ⟨a, vs, rfl, q, r⟩ := h; rfl
  | tuple xs => obtain ⟨a, vs, rfl, q, r⟩ := h; rfl
  | dict kvs =>
    rcases h with ⟨_, a, rfl, _⟩ | ⟨_, a, kk, rfl, _⟩
    · rfl
    · rfl
def rC (K : PySem.W.Frag) (o : Cop) : R2 := fun x y H Q => ∃ F va vb b, Same F.h H ∧ Sh K F H va x ∧ Sh K F H vb y ∧ cmpV o va vb = some b ∧ Q (.bl b) H
theorem dI {i j : Int} : decide (V.int i = V.int j) = decide (i = j) := by
  by_cases h : i = j
  · subst h; simp
  · rw [decide_eq_false h, decide_eq_false fun z => h (V.int.inj z)]
theorem dS {i j : Str} : decide (V.str i = V.str j) = decide (i = j) := by
  by_cases h : i = j
  · subst h; simp
  · rw [decide_eq_false h, decide_eq_false fun z => h (V.str.inj z)]
theorem lensV_some {va vb : D} {b : Bool} (h : lensV va vb = some b) : b = false ∧ ∃ xs ys, va = .list xs ∧ vb = .list ys ∧ xs.length ≠ ys.length := by
  unfold lensV at h
  split at h
  · split at h
    · cases h
    · rename_i z
      cases h
      exact ⟨rfl, _, _, rfl, rfl, by simpa using z⟩
  · cases h
theorem lists_lens {va vb : List D} {x y : V} {u w : Value} {pins : List (Addr × Obj)} {s : Shared} (I : Inv X pins σ H s) (rx : RelV x u) (ry : RelV y w)
    (ha : Sh X.K F H (.list va) x) (hb : Sh X.K F H (.list vb) y) (hl : va.length ≠ vb.length) : ∃ l b items items2, u = .ref l ∧ w = .ref b ∧ s.heap.IsList l items ∧ s.heap.IsList b items2 ∧ (items.size != items2.size) = true := by
  obtain ⟨p, vs, rfl, e1, r1⟩ := ha
  obtain ⟨p2, vs2, rfl, e2, r2⟩ := hb
  cases rx
  cases ry
  obtain ⟨its, v1, pl1, _⟩ := I.list (SqL.of e1)
  obtain ⟨its2, v2, pl2, _⟩ := I.list (SqL.of e2)
  refine ⟨p, p2, _, _, rfl, rfl, pl1.isList, pl2.isList, ?_⟩
  have k1 := v1.length; have k2 := v2.length; have k3 := r1.length; have k4 := r2.length
  simp only [List.size_toArray, bne_iff_ne]
  omega
theorem op_eqV {b : Bool} {va vb : D} {x y : V} {u w : Value} {Q : VK} {pins : List (Addr × Obj)} {s : Shared} (hu : X.A.units + 64 < cLine) (I : Inv X pins σ H s) (rx : RelV x u) (ry : RelV y w)
    (sub : Same F.h H) (ha : Sh X.K F H va x) (hb : Sh X.K F H vb y) (hv : eqD va vb = some b) (q : Q (.bl b) H) : wpAny (model X.prog X.w) X.A (compareOp .Eq u w) (EP X pins σ Q) X.xe s := by
  unfold eqD at hv
  split at hv
  · cases ha; cases hb; cases hv
    refine op_eq pins s σ H _ _ u w Q I rx ry ⟨rfl, ?_⟩
    rw [dI]; exact q
  · cases ha; cases hb; cases hv
    refine op_eq pins s σ H _ _ u w Q I rx ry ⟨rfl, ?_⟩
    rw [dec_bl]; exact q
  · cases ha; cases hb; cases hv
    refine op_eq pins s σ H _ _ u w Q I rx ry ⟨rfl, ?_⟩
    rw [dS]; exact q
  · cases ha; cases hb; cases hv
    exact op_eq pins s σ H _ _ u w Q I rx ry ⟨rfl, q⟩
  · split at hv
    · rename_i hc
      cases hv
      simp only [Bool.and_eq_true] at hc
      exact op_eqD hu pins s σ H _ _ u w Q I rx ry ⟨_, _, dp_sh sub (lay_of_shp hc.1) ha, dp_sh sub (lay_of_shp hc.2) hb, hc.1, hc.2, q⟩
    · obtain ⟨rfl, xs, ys, rfl, rfl, hl⟩ := lensV_some hv
      obtain ⟨l, b, i1, i2, rfl, rfl, l1, l2, hn⟩ := lists_lens I rx ry ha hb hl
      exact SeqAt.RcAt.lists_lengths l1 l2 hn (by omega) _ _ _ _ ⟨.bl false, H, I, rfl, q⟩
theorem op_neV {b : Bool} {va vb : D} {x y : V} {u w : Value} {Q : VK} {pins : List (Addr × Obj)} {s : Shared} (hu : X.A.units + 64 < cLine) (I : Inv X pins σ H s) (rx : RelV x u) (ry : RelV y w)
    (sub : Same F.h H) (ha : Sh X.K F H va x) (hb : Sh X.K F H vb y) (hv : eqD va vb = some b) (q : Q (.bl (!b)) H) : wpAny (model X.prog X.w) X.A (compareOp .NotEq u w) (EP X pins σ Q) X.xe s := by
  unfold eqD at hv
  split at hv
  · cases ha; cases hb; cases hv
    refine op_ne pins s σ H _ _ u w Q I rx ry ⟨rfl, ?_⟩
    rw [dI]; exact q
  · cases ha; cases hb; cases hv
    refine op_ne pins s σ H _ _ u w Q I rx ry ⟨rfl, ?_⟩
    rw [dec_bl]; exact q
  · cases ha; cases hb; cases hv
    refine op_ne pins s σ H _ _ u w Q I rx ry ⟨rfl, ?_⟩
    rw [dS]; exact q
  · cases ha; cases hb; cases hv
    exact op_ne pins s σ H _ _ u w Q I rx ry ⟨rfl, q⟩
  · split at hv
    · rename_i hc
      cases hv
      simp only [Bool.and_eq_true] at hc
      exact op_neD hu pins s σ H _ _ u w Q I rx ry ⟨_, _, dp_sh sub (lay_of_shp hc.1) ha, dp_sh sub (lay_of_shp hc.2) hb, hc.1, hc.2, q⟩
    · obtain ⟨rfl, xs, ys, rfl, rfl, hl⟩ := lensV_some hv
      obtain ⟨l, b, i1, i2, rfl, rfl, l1, l2, hn⟩ := lists_lens I rx ry ha hb hl
      exact SeqAt.RcNeAt.lists_lengths l1 l2 hn (by omega) _ _ _ _ ⟨.bl true, H, I, rfl, q⟩
theorem map_some {α β : Type} {o : Option α} {f : α → β} {b : β} (h : o.map f = some b) : ∃ a, o = some a ∧ f a = b := by
  cases o with
  | none => cases h
  | some a => exact ⟨a, rfl, Option.some.inj h⟩
theorem op_cmp (o : Cop) (hu : X.A.units + 65 < cLine) : OpR X (compareOp (cop o)) (rC X.K o) := by
  intro pins s σ H x y u w Q I rx ry h
  obtain ⟨F, va, vb, b, sub, ha, hb, hv, q⟩ := h
  unfold cmpV at hv
  split at hv
  · exact op_eqV (by omega) I rx ry sub ha hb hv q
  · obtain ⟨b', e, rfl⟩ := map_some hv
    exact op_neV (by omega) I rx ry sub ha hb e q
  · unfold ltT at hv
    split at hv
    · cases ha; cases hb; cases hv
      exact op_lt pins s σ H _ _ u w Q I rx ry ⟨_, _, rfl, rfl, q⟩
    · obtain ⟨a, vs, rfl, h1, r1⟩ := ha
      obtain ⟨c, us, rfl, h2, r2⟩ := hb
      split at hv
      · rename_i ns ms e1 e2
        cases hv
        rw [r1.ints e1] at h1
        rw [r2.ints e2] at h2
        exact op_ltT (by omega) pins s σ H _ _ u w Q I rx ry ⟨_, _, _, _, rfl, rfl, sqT_mono sub h1, sqT_mono sub h2, q⟩
      · cases hv
    · cases hv
  · cases ha; cases hb; cases hv
    exact op_gt pins s σ H _ _ u w Q I rx ry ⟨_, _, rfl, rfl, q⟩
  · cases ha; cases hb; cases hv
    exact op_le pins s σ H _ _ u w Q I rx ry ⟨_, _, rfl, rfl, q⟩
  · cases ha; cases hb; cases hv
    exact op_ge pins s σ H _ _ u w Q I rx ry ⟨_, _, rfl, rfl, q⟩
  · cases hb
    have e := sh_non ha
    cases hv
    refine op_isN pins s σ H _ _ u w Q I rx ry ⟨rfl, ?_⟩
    rw [e]
    cases va <;> exact q
  · cases hb
    have e := sh_non ha
    refine op_notN pins s σ H _ _ u w Q I rx ry ⟨rfl, ?_⟩
    rw [e]
    have hv := Option.some.inj hv
    subst hv
    cases va <;> exact q
  · cases ha; cases hb; cases hv
    exact op_is_bl pins s σ H _ _ u w Q I rx ry ⟨_, _, rfl, rfl, q⟩
  · cases ha; cases hb; cases hv
    exact op_isnot_bl pins s σ H _ _ u w Q I rx ry ⟨_, _, rfl, rfl, q⟩
  · unfold inD at hv
    split at hv
    · split at hv
      · rename_i ds hc
        cases hv
        simp only [Bool.and_eq_true] at hc
        exact op_inD hu pins s σ H _ _ u w Q I rx ry ⟨_, _, dp_sh sub (lay_of_shp hc.1) ha, dp_sh sub (lay_of_shp hc.2) hb, hc.1, hc.2, q⟩
      · cases hv
    · split at hv
      · rename_i ds hc
        cases hv
        simp only [Bool.and_eq_true] at hc
        exact op_inT hu pins s σ H _ _ u w Q I rx ry ⟨_, _, dp_sh sub (lay_of_shp hc.1) ha, dp_sh sub (lay_of_shp hc.2) hb, hc.1, hc.2, q⟩
      · cases hv
    · cases hv
  · obtain ⟨b', hz, e0⟩ := map_some hv
    clear hv
    subst e0
    unfold inD at hz
    split at hz
    · split at hz
      · rename_i ds hc
        have hz := Option.some.inj hz
        subst hz
        simp only [Bool.and_eq_true] at hc
        exact op_notInD hu pins s σ H _ _ u w Q I rx ry ⟨_, _, dp_sh sub (lay_of_shp hc.1) ha, dp_sh sub (lay_of_shp hc.2) hb, hc.1, hc.2, q⟩
      · cases hz
    · split at hz
      · rename_i ds hc
        have hz := Option.some.inj hz
        subst hz
        simp only [Bool.and_eq_true] at hc
        exact op_notInT hu pins s σ H _ _ u w Q I rx ry ⟨_, _, dp_sh sub (lay_of_shp hc.1) ha, dp_sh sub (lay_of_shp hc.2) hb, hc.1, hc.2, q⟩
      · cases hz
    · cases hz
  · cases hv
end
end Pv
end

section
/-! PvD: the rules for expressions. -/
set_option autoImplicit false
namespace Pv
open PySem PySem.Spec PyProof.Rows L2

section
variable {X : Cx} {C : Ct} {Ow : List Nat} {e a b c : Expr} {i ia ib ic : Ex} {pos : Pos}

/-! ### names and constants -/
theorem Es.var (n : Nat) {x : Str} (hi : n ∉ Ow) (hN : X.N[n]? = some x) (hv : Vis X.env.scope x) (hd : (x == ("__debug__" : Str)) = false) (hcd : (x == ("__classdict__" : Str)) = false) : Es X C Ow (.Name x pos) (.var n) :=
  ⟨pe_con (pe_var hN hv hd hcd) fun σ H Q ⟨T, F, σe, g, v, g', r, m, q⟩ => by
    unfold ev at m
    split at m
    · rename_i w e
      cases m
      obtain ⟨y, e1, e2⟩ := r.fz n _ e hi
      exact ⟨y, e1, q F H y (.refl F) r e2⟩
    · cases m⟩
theorem Eb.var (n : Nat) {x : Str} (hN : X.N[n]? = some x) (hv : Vis X.env.scope x) (hd : (x == ("__debug__" : Str)) = false) (hcd : (x == ("__classdict__" : Str)) = false) : Eb X C Ow (.Name x pos) (.var n) :=
  ⟨pe_con (pe_var hN hv hd hcd) fun σ H Q ⟨T, F, σe, g, v, g', r, m, q⟩ => by
    unfold ev at m
    split at m
    · rename_i w e
      cases m
      by_cases hi : n ∈ Ow
      · obtain ⟨p, e1, e2, _⟩ := r.ow n _ e hi
        exact ⟨_, e1, q F H _ (.refl F) r (.inr ⟨n, hi, e, e1⟩)⟩
      · obtain ⟨y, e1, e2⟩ := r.fz n _ e hi
        exact ⟨y, e1, q F H y (.refl F) r (.inl e2)⟩
    · cases m⟩
theorem es_const {d : D} {x : V} (h : PE X e (tC x)) (hr : ∀ F, Rel C.K F d x) : Es X C Ow e (.c d) :=
  ⟨pe_con h fun σ H Q ⟨T, F, σe, g, v, g', r, m, q⟩ => by
    unfold ev at m
    cases m
    exact q F H x (.refl F) r (hr F)⟩
theorem Es.int {n : Int} {j : Nat} : Es X C Ow (.Constant (.int n) j pos) (.c (.int n)) := es_const pe_int fun _ => rel_int
theorem Es.str {n : Str} {j : Nat} : Es X C Ow (.Constant (.str n) j pos) (.c (.str n)) := es_const pe_str fun _ => rel_str
theorem Es.bl {n : Bool} {j : Nat} : Es X C Ow (.Constant (.bool n) j pos) (.c (.bool n)) := es_const pe_bl fun _ => rel_bl
theorem Es.non {j : Nat} : Es X C Ow (.Constant .none j pos) (.c .none) := es_const pe_non fun _ => rel_non
/-- a module's constant -/
theorem Es.glob {x : Str} {u : Value} {d : D} {v : V} (hg : Gl X x) (hm : X.mg x = some u) (rv : RelV v u) (hr : ∀ F, Rel C.K F d v) (hd : (x == ("__debug__" : Str)) = false) : Es X C Ow (.Name x pos) (.c d) :=
  es_const (pe_glob hg hm rv hd) hr

/-! ### operators -/
theorem Es.bin (o : Bop) (hK : X.K = C.K) (ha : Eb X C Ow a ia) (hb : Eb X C Ow b ib) : Es X C Ow (.BinOp a (bop o) b pos) (.bin o ia ib) :=
  ⟨pe_con (pe_op (op_bin o) ha.run hb.run) fun σ H Q ⟨T, F, σe, g, v, g', r, m, q⟩ => by
    unfold ev at m
    obtain ⟨va, g1, m1, m⟩ := bind_eq_ok m
    obtain ⟨vb, g2, m2, m⟩ := bind_eq_ok m
    obtain ⟨m3, e⟩ := lift_eq_ok m
    subst e
    refine ⟨T, F, σe, g, va, g1, r, m1, fun F1 H1 x s1 r1 b1 => ⟨T, F1, σe, g1, vb, _, r1, m2, fun F2 H2 y s2 r2 b2 => ⟨F2, va, vb, v, r2.sub, ?_, ?_, m3, ?_⟩⟩⟩
    · rw [hK]; exact r2.sh (b1.mono s2)
    · rw [hK]; exact r2.sh b2
    · rw [hK]; exact r2.out fun F' H' z s r' => q F' H' z (s1.trans (s2.trans s)) r'⟩
theorem new_of {T : Hp} {F : Fz} {σe : Sl} {g : G} {σ : L2.St} {H : Hp} {v : D} {p : Addr} {o : HO} (r : R C Ow T F σe g σ H) (n : H p = none) (h : OwnAt C.K F (upd H p o) v p) : New C Ow T F σe σ (upd H p o) v p :=
  ⟨h, r.h0 n, r.fn n, r.ndk n, (fun i w hi e z => by
    obtain ⟨a', e1, e2, _⟩ := r.ow i w e hi
    rw [e1] at z
    have z : V.ref a' = V.ref p := Option.some.inj (Option.some.inj z)
    cases z
    obtain ⟨o', eo⟩ := e2.there
    rw [n] at eo; cases eo), r.tn n⟩
theorem lcat_inv {va vb v : D} (h : binV .lcat va vb = some v) : ∃ xs ys, va = .list xs ∧ vb = .list ys ∧ xs.length + ys.length ≤ lineN ∧ v = .list (xs ++ ys) := by
  cases va with
  | list xs =>
    cases vb with
    | list ys =>
      simp only [binV] at h
      split at h
      · rename_i hc
        cases h
        exact ⟨xs, ys, rfl, rfl, of_decide_eq_true hc, rfl⟩
      · cases h
    | _ => simp [binV] at h
  | _ => simp [binV] at h
theorem lrep_inv {va vb v : D} (h : binV .lrep va vb = some v) : ∃ xs k, va = .list xs ∧ vb = .int k ∧ (-9223372036854775808 ≤ k ∧ k < 16777217 ∧ xs.length * k.toNat ≤ lineN) ∧ v = .list (List.replicate k.toNat xs).flatten := by
  cases va with
  | list xs =>
    cases vb with
    | int k =>
      simp only [binV] at h
      split at h
      · rename_i hc
        cases h
        simp only [Bool.and_eq_true, decide_eq_true_eq] at hc
        exact ⟨xs, k, rfl, rfl, ⟨by omega, by omega, hc.2⟩, rfl⟩
      · cases h
    | _ => simp [binV] at h
  | _ => simp [binV] at h
theorem Ef.cat (ha : Eb X C Ow a ia) (hb : Eb X C Ow b ib) : Ef X C Ow (.BinOp a .Add b pos) (.bin .lcat ia ib) :=
  ⟨pe_con (pe_op op_cat ha.run hb.run) fun σ H Q ⟨T, F, σe, g, v, g', r, m, q⟩ => by
    unfold ev at m
    obtain ⟨va, g1, m1, m⟩ := bind_eq_ok m
    obtain ⟨vb, g2, m2, m⟩ := bind_eq_ok m
    obtain ⟨m3, e⟩ := lift_eq_ok m
    subst e
    refine ⟨T, F, σe, g, va, g1, r, m1, fun F1 H1 x s1 r1 b1 => ⟨T, F1, σe, g1, vb, _, r1, m2, fun F2 H2 y s2 r2 b2 => ?_⟩⟩
    have ha := r2.sh (b1.mono s2)
    have hb := r2.sh b2
    obtain ⟨xs, ys, e1, e2, hc, e3⟩ := lcat_inv m3
    subst e1; subst e2; subst e3
    obtain ⟨p, vs, rfl, h1, q1⟩ := ha
    obtain ⟨p', us, rfl, h2, q2⟩ := hb
    rw [q1.length, q2.length] at hc
    exact ⟨_, _, _, _, rfl, rfl, h1, h2, lineN_le hc, fun p n => q F2 _ p (s1.trans s2) (r2.grown n) (new_of r2 n ⟨_, upd_same, q1.append q2⟩)⟩⟩
theorem Ef.rep (ha : Eb X C Ow a ia) (hb : Eb X C Ow b ib) : Ef X C Ow (.BinOp a .Mult b pos) (.bin .lrep ia ib) :=
  ⟨pe_con (pe_op op_rep ha.run hb.run) fun σ H Q ⟨T, F, σe, g, v, g', r, m, q⟩ => by
    unfold ev at m
    obtain ⟨va, g1, m1, m⟩ := bind_eq_ok m
    obtain ⟨vb, g2, m2, m⟩ := bind_eq_ok m
    obtain ⟨m3, e⟩ := lift_eq_ok m
    subst e
    refine ⟨T, F, σe, g, va, g1, r, m1, fun F1 H1 x s1 r1 b1 => ⟨T, F1, σe, g1, vb, _, r1, m2, fun F2 H2 y s2 r2 b2 => ?_⟩⟩
    have ha := r2.sh (b1.mono s2)
    have hb := r2.sh b2
    obtain ⟨xs, k, e1, e2, hc, e3⟩ := lrep_inv m3
    subst e1; subst e2; subst e3
    obtain ⟨p, vs, rfl, h1, q1⟩ := ha
    cases hb
    rw [q1.length] at hc
    exact ⟨_, _, _, rfl, rfl, h1, by omega, by omega, lineN_le hc.2.2, fun p n => q F2 _ p (s1.trans s2) (r2.grown n) (new_of r2 n ⟨_, upd_same, q1.rep _⟩)⟩⟩
theorem Es.neg (hK : X.K = C.K) (ha : Eb X C Ow a ia) : Es X C Ow (.UnaryOp .USub a pos) (.neg ia) :=
  ⟨pe_con (pe_un un_neg ha.run) fun σ H Q ⟨T, F, σe, g, v, g', r, m, q⟩ => by
    unfold ev at m
    obtain ⟨va, g1, m1, m⟩ := bind_eq_ok m
    refine ⟨T, F, σe, g, va, g1, r, m1, fun F1 H1 x s1 r1 b1 => ?_⟩
    have h := r1.sh b1
    split at m
    · cases m; cases h
      exact ⟨_, rfl, q F1 H1 _ s1 r1 rel_int⟩
    · cases m⟩

/-! ### comparisons -/
theorem Es.cmp (o : Cop) (hK : X.K = C.K) (hu : X.A.units + 65 < cLine) (ha : Eb X C Ow a ia) (hb : Eb X C Ow b ib) (hm : behindInMarks (cop o) b = false) : Es X C Ow (.Compare a [cop o] [b] pos) (.cmp o ia ib) :=
  ⟨pe_con (pe_cmpR (op_cmp o hu) ha.run hb.run hm) fun σ H Q ⟨T, F, σe, g, v, g', r, m, q⟩ => by
    unfold ev at m
    obtain ⟨va, g1, m1, m⟩ := bind_eq_ok m
    obtain ⟨vb, g2, m2, m⟩ := bind_eq_ok m
    obtain ⟨m3, e⟩ := lift_eq_ok m
    obtain ⟨k, m4, e2⟩ := map_some m3
    subst e; subst e2
    refine ⟨T, F, σe, g, va, g1, r, m1, fun F1 H1 x s1 r1 b1 => ⟨T, F1, σe, g1, vb, _, r1, m2, fun F2 H2 y s2 r2 b2 => ⟨F2, va, vb, k, r2.sub, ?_, ?_, m4, q F2 H2 _ (s1.trans s2) r2 rel_bl⟩⟩⟩
    · rw [hK]; exact r2.sh (b1.mono s2)
    · rw [hK]; exact r2.sh b2⟩
theorem Et.cmp (o : Cop) (hK : X.K = C.K) (hu : X.A.units + 65 < cLine) (ha : Eb X C Ow a ia) (hb : Eb X C Ow b ib) (hm : behindInMarks (cop o) b = false) : Et X C Ow (.Compare a [cop o] [b] pos) (.cmp o ia ib) :=
  ⟨pt_con (pt_cmpR (op_cmp o hu) ha.run hb.run hm) fun σ H Q ⟨T, F, σe, g, v, g', r, m, q⟩ => by
    unfold ev at m
    obtain ⟨va, g1, m1, m⟩ := bind_eq_ok m
    obtain ⟨vb, g2, m2, m⟩ := bind_eq_ok m
    obtain ⟨m3, e⟩ := lift_eq_ok m
    obtain ⟨k, m4, e2⟩ := map_some m3
    subst e; cases e2
    refine ⟨T, F, σe, g, va, g1, r, m1, fun F1 H1 x s1 r1 b1 => ⟨T, F1, σe, g1, vb, _, r1, m2, fun F2 H2 y s2 r2 b2 => ⟨F2, va, vb, _, r2.sub, ?_, ?_, m4, ⟨_, rfl, q F2 H2 (s1.trans s2) r2⟩⟩⟩⟩
    · rw [hK]; exact r2.sh (b1.mono s2)
    · rw [hK]; exact r2.sh b2⟩
theorem chain_ok {o1 o2 : Cop} (hK : X.K = C.K) {σ : L2.St} {H : Hp} {P : V → Hp → Prop} {T : Hp} {F : Fz} {σe : Sl} {g g' : G} {v : D} (r : R C Ow T F σe g σ H) (m : ev C.Φ (.chain o1 o2 ia ib ic) σe g = .ok v g')
    (q : ∀ (k : Bool) (F' : Fz) (H' : Hp), v = .bool k → Fsub F F' → R C Ow T F' σe g' σ H' → P (.bl k) H') :
    tChain (rC X.K o1) (rC X.K o2) (tB C Ow (ev C.Φ ia)) (tB C Ow (ev C.Φ ib)) (tB C Ow (ev C.Φ ic)) σ H P := by
  unfold ev at m
  obtain ⟨va, g1, m1, m⟩ := bind_eq_ok m
  obtain ⟨vb, g2, m2, m⟩ := bind_eq_ok m
  obtain ⟨k, g3, m30, m⟩ := bind_eq_ok m
  obtain ⟨m3, e⟩ := lift_eq_ok m30
  clear m30
  subst e
  refine ⟨T, F, σe, g, va, g1, r, m1, fun F1 H1 x s1 r1 b1 => ⟨T, F1, σe, g1, vb, _, r1, m2, fun F2 H2 y s2 r2 b2 => ⟨F2, va, vb, k, r2.sub, ?_, ?_, m3, k, rfl, ?_⟩⟩⟩
  · rw [hK]; exact r2.sh (b1.mono s2)
  · rw [hK]; exact r2.sh b2
  · cases k with
    | false =>
      rw [if_neg Bool.false_ne_true] at m ⊢
      cases m
      exact q false F2 H2 rfl (s1.trans s2) r2
    | true =>
      rw [if_pos rfl] at m ⊢
      obtain ⟨vc, g4, m4, m⟩ := bind_eq_ok m
      obtain ⟨m5, e⟩ := lift_eq_ok m
      obtain ⟨k2, m6, e2⟩ := map_some m5
      subst e
      refine ⟨T, F2, σe, _, vc, _, r2, m4, fun F3 H3 z s3 r3 b3 => ⟨F3, vb, vc, k2, r3.sub, ?_, ?_, m6, q k2 F3 H3 e2.symm (s1.trans (s2.trans s3)) r3⟩⟩
      · rw [hK]; exact r3.sh (b2.mono s3)
      · rw [hK]; exact r3.sh b3
theorem Es.chain (o1 o2 : Cop) (hK : X.K = C.K) (hu : X.A.units + 65 < cLine) (ha : Eb X C Ow a ia) (hb : Eb X C Ow b ib) (hc : Eb X C Ow c ic) (hm : lastMarks [cop o1, cop o2] [b, c] = false) :
    Es X C Ow (.Compare a [cop o1, cop o2] [b, c] pos) (.chain o1 o2 ia ib ic) :=
  ⟨pe_con (pe_chain (op_cmp o1 hu) (op_cmp o2 hu) ha.run hb.run hc.run hm) fun σ H Q ⟨T, F, σe, g, v, g', r, m, q⟩ =>
    chain_ok hK r m fun k F' H' e s r' => q F' H' _ s r' (by rw [e]; exact rel_bl)⟩
theorem Et.chain (o1 o2 : Cop) (hK : X.K = C.K) (hu : X.A.units + 65 < cLine) (ha : Eb X C Ow a ia) (hb : Eb X C Ow b ib) (hc : Eb X C Ow c ic) (hm : lastMarks [cop o1, cop o2] [b, c] = false) :
    Et X C Ow (.Compare a [cop o1, cop o2] [b, c] pos) (.chain o1 o2 ia ib ic) :=
  ⟨pt_con (pt_chain (op_cmp o1 hu) (op_cmp o2 hu) ha.run hb.run hc.run hm) fun σ H Q ⟨T, F, σe, g, v, g', r, m, q⟩ =>
    chain_ok hK r m fun k F' H' e s r' => ⟨k, rfl, by cases e; exact q F' H' s r'⟩⟩

/-- a op1 b op2 c op3 d -/
def tChain3 (r r' r'' : R2) (ta tb tc td : TE) : TE := fun σ H Q => ta σ H fun x H1 => tb σ H1 fun y H2 => r x y H2 fun z H3 => ∃ k, z = .bl k ∧
  (if k = true then tc σ H3 fun w' H4 => r' y w' H4 fun z2 H5 => ∃ k2, z2 = .bl k2 ∧ (if k2 = true then td σ H5 fun w2 H6 => r'' w' w2 H6 Q else Q (.bl false) H5) else Q (.bl false) H3)
theorem pe_chain3 {op op' op'' : CmpOp} {r r' r'' : R2} {d : Expr} {ta tb tc td : TE} (ho : OpR X (compareOp op) r) (ho' : OpR X (compareOp op') r') (ho'' : OpR X (compareOp op'') r'') (ha : PE X a ta) (hb : PE X b tb) (hc : PE X c tc) (hd : PE X d td)
    (hm : lastMarks [op, op', op''] [b, c, d] = false) : PE X (.Compare a [op, op', op''] [b, c, d] pos) (tChain3 r r' r'' ta tb tc td) := by
  refine ⟨fun pins s σ H Q I h => ?_⟩
  refine Compare_chain (thn (ha.run pins s σ H _ I h) fun v s1 ⟨x, H1, I1, r1, q1⟩ => chain_link (thn (hb.run pins s1 σ H1 _ I1 q1) fun u s2 ⟨y, H2, I2, r2, q2⟩ =>
    thn (ho pins s2 σ H2 x y v u _ I2 r1 r2 q2) fun d s3 ⟨z, H3, I3, r3, k, e, q3⟩ => ?_)) hm
  subst e
  cases r3
  refine wpAny_truthy_bool ?_
  cases k with
  | false => exact ite_ff ⟨.bl false, H3, I3, rfl, q3⟩
  | true =>
    refine ite_tt (chain_link (thn (hc.run pins s3 σ H3 _ I3 q3) fun u' s4 ⟨y', H4, I4, r4, q4⟩ => thn (ho' pins s4 σ H4 y y' u u' _ I4 r2 r4 q4) fun d' s5 ⟨z', H5, I5, r5, k2, e2, q5⟩ => ?_))
    subst e2
    cases r5
    refine wpAny_truthy_bool ?_
    cases k2 with
    | false => exact ite_ff ⟨.bl false, H5, I5, rfl, q5⟩
    | true => exact ite_tt (chain_last (thn (hd.run pins s5 σ H5 _ I5 q5) fun w' s6 ⟨z6, H6, I6, r6, q6⟩ => ho'' pins s6 σ H6 y' z6 u' w' Q I6 r4 r6 q6))
theorem pt_chain3 {op op' op'' : CmpOp} {r r' r'' : R2} {d : Expr} {ta tb tc td : TE} (ho : OpR X (compareOp op) r) (ho' : OpR X (compareOp op') r') (ho'' : OpR X (compareOp op'') r'') (ha : PE X a ta) (hb : PE X b tb) (hc : PE X c tc) (hd : PE X d td)
    (hm : lastMarks [op, op', op''] [b, c, d] = false) : PT X (.Compare a [op, op', op''] [b, c, d] pos) (tTest (tChain3 r r' r'' ta tb tc td)) := by
  refine ⟨fun pins s σ H Q I h => ?_⟩
  refine isTrue_chain (thn (ha.run pins s σ H _ I h) fun v s1 ⟨x, H1, I1, r1, q1⟩ => test_link (thn (hb.run pins s1 σ H1 _ I1 q1) fun u s2 ⟨y, H2, I2, r2, q2⟩ =>
    thn (ho pins s2 σ H2 x y v u _ I2 r1 r2 q2) fun d s3 ⟨z, H3, I3, r3, k, e, q3⟩ => ?_)) hm
  subst e
  cases r3
  refine wpAny_truthy_bool ?_
  cases k with
  | false =>
    obtain ⟨k', e', q'⟩ := q3
    cases e'
    exact ite_ff ⟨H3, I3, q'⟩
  | true =>
    refine ite_tt (test_link (thn (hc.run pins s3 σ H3 _ I3 q3) fun u' s4 ⟨y', H4, I4, r4, q4⟩ => thn (ho' pins s4 σ H4 y y' u u' _ I4 r2 r4 q4) fun d' s5 ⟨z', H5, I5, r5, k2, e2, q5⟩ => ?_))
    subst e2
    cases r5
    refine wpAny_truthy_bool ?_
    cases k2 with
    | false =>
      obtain ⟨k', e', q'⟩ := q5
      cases e'
      exact ite_ff ⟨H5, I5, q'⟩
    | true =>
      refine ite_tt (test_last (thn (hd.run pins s5 σ H5 _ I5 q5) fun w' s6 ⟨z6, H6, I6, r6, q6⟩ => thn (ho'' pins s6 σ H6 y' z6 u' w' _ I6 r4 r6 q6) fun d' s7 ⟨z7, H7, I7, r7, k3, e3, q7⟩ => ?_))
      subst e3
      cases r7
      exact wpAny_truthy_bool ⟨H7, I7, q7⟩
theorem chain3_ok {o1 o2 o3 : Cop} {id : Ex} (hK : X.K = C.K) {σ : L2.St} {H : Hp} {P : V → Hp → Prop} {T : Hp} {F : Fz} {σe : Sl} {g g' : G} {v : D} (r : R C Ow T F σe g σ H) (m : ev C.Φ (.chain3 o1 o2 o3 ia ib ic id) σe g = .ok v g')
    (q : ∀ (k : Bool) (F' : Fz) (H' : Hp), v = .bool k → Fsub F F' → R C Ow T F' σe g' σ H' → P (.bl k) H') :
    tChain3 (rC X.K o1) (rC X.K o2) (rC X.K o3) (tB C Ow (ev C.Φ ia)) (tB C Ow (ev C.Φ ib)) (tB C Ow (ev C.Φ ic)) (tB C Ow (ev C.Φ id)) σ H P := by
  unfold ev at m
  obtain ⟨va, g1, m1, m⟩ := bind_eq_ok m
  obtain ⟨vb, g2, m2, m⟩ := bind_eq_ok m
  obtain ⟨k, g3, m30, m⟩ := bind_eq_ok m
  obtain ⟨m3, e⟩ := lift_eq_ok m30
  clear m30
  subst e
  refine ⟨T, F, σe, g, va, g1, r, m1, fun F1 H1 x s1 r1 b1 => ⟨T, F1, σe, g1, vb, _, r1, m2, fun F2 H2 y s2 r2 b2 => ⟨F2, va, vb, k, r2.sub, ?_, ?_, m3, k, rfl, ?_⟩⟩⟩
  · rw [hK]; exact r2.sh (b1.mono s2)
  · rw [hK]; exact r2.sh b2
  · cases k with
    | false =>
      rw [if_neg Bool.false_ne_true] at m ⊢
      cases m
      exact q false F2 H2 rfl (s1.trans s2) r2
    | true =>
      rw [if_pos rfl] at m ⊢
      obtain ⟨vc, g4, m4, m⟩ := bind_eq_ok m
      obtain ⟨k2, g5, m50, m⟩ := bind_eq_ok m
      obtain ⟨m5, e⟩ := lift_eq_ok m50
      clear m50
      subst e
      refine ⟨T, F2, σe, _, vc, _, r2, m4, fun F3 H3 z s3 r3 b3 => ⟨F3, vb, vc, k2, r3.sub, ?_, ?_, m5, k2, rfl, ?_⟩⟩
      · rw [hK]; exact r3.sh (b2.mono s3)
      · rw [hK]; exact r3.sh b3
      · cases k2 with
        | false =>
          rw [if_neg Bool.false_ne_true] at m ⊢
          cases m
          exact q false F3 H3 rfl (s1.trans (s2.trans s3)) r3
        | true =>
          rw [if_pos rfl] at m ⊢
          obtain ⟨vd, g6, m6, m⟩ := bind_eq_ok m
          obtain ⟨m7, e⟩ := lift_eq_ok m
          obtain ⟨k3, m8, e2⟩ := map_some m7
          subst e
          refine ⟨T, F3, σe, _, vd, _, r3, m6, fun F4 H4 z4 s4 r4 b4 => ⟨F4, vc, vd, k3, r4.sub, ?_, ?_, m8, q k3 F4 H4 e2.symm (s1.trans (s2.trans (s3.trans s4))) r4⟩⟩
          · rw [hK]; exact r4.sh (b3.mono s4)
          · rw [hK]; exact r4.sh b4
theorem Es.chain3 (o1 o2 o3 : Cop) {d : Expr} {id : Ex} (hK : X.K = C.K) (hu : X.A.units + 65 < cLine) (ha : Eb X C Ow a ia) (hb : Eb X C Ow b ib) (hc : Eb X C Ow c ic) (hd : Eb X C Ow d id) (hm : lastMarks [cop o1, cop o2, cop o3] [b, c, d] = false) :
    Es X C Ow (.Compare a [cop o1, cop o2, cop o3] [b, c, d] pos) (.chain3 o1 o2 o3 ia ib ic id) :=
  ⟨pe_con (pe_chain3 (op_cmp o1 hu) (op_cmp o2 hu) (op_cmp o3 hu) ha.run hb.run hc.run hd.run hm) fun σ H Q ⟨T, F, σe, g, v, g', r, m, q⟩ =>
    chain3_ok hK r m fun k F' H' e s r' => q F' H' _ s r' (by rw [e]; exact rel_bl)⟩
theorem Et.chain3 (o1 o2 o3 : Cop) {d : Expr} {id : Ex} (hK : X.K = C.K) (hu : X.A.units + 65 < cLine) (ha : Eb X C Ow a ia) (hb : Eb X C Ow b ib) (hc : Eb X C Ow c ic) (hd : Eb X C Ow d id) (hm : lastMarks [cop o1, cop o2, cop o3] [b, c, d] = false) :
    Et X C Ow (.Compare a [cop o1, cop o2, cop o3] [b, c, d] pos) (.chain3 o1 o2 o3 ia ib ic id) :=
  ⟨pt_con (pt_chain3 (op_cmp o1 hu) (op_cmp o2 hu) (op_cmp o3 hu) ha.run hb.run hc.run hd.run hm) fun σ H Q ⟨T, F, σe, g, v, g', r, m, q⟩ =>
    chain3_ok hK r m fun k F' H' e s r' => ⟨k, rfl, by cases e; exact q F' H' s r'⟩⟩

/-! ### and, or, not, if -/
theorem Et.not (ha : Et X C Ow a ia) : Et X C Ow (.UnaryOp .Not a pos) (.not ia) :=
  ⟨pt_con (pt_not ha.run) fun σ H Q ⟨T, F, σe, g, v, g', r, m, q⟩ => by
    unfold ev at m
    obtain ⟨va, g1, m1, m⟩ := bind_eq_ok m
    split at m
    · cases m
      exact ⟨T, F, σe, g, _, _, r, m1, fun F1 H1 s1 r1 => q F1 H1 s1 r1⟩
    · cases m⟩
theorem Ew.one {op : BoolOp} (ha : Et X C Ow a ia) : Ew X C Ow (.BoolOp op [a] pos) ia := by
  cases op with
  | And => exact ⟨pw_and1 ha.run⟩
  | Or => exact ⟨pw_or1 ha.run⟩
theorem Ew.and {rest : List Expr} (ha : Et X C Ow a ia) (hb : Ew X C Ow (.BoolOp .And (b :: rest) pos) ib) : Ew X C Ow (.BoolOp .And (a :: b :: rest) pos) (.and ia ib) :=
  ⟨pw_con (pw_and ha.run hb.run) fun σ H Q ⟨T, F, σe, g, v, g', r, m, q⟩ => by
    unfold ev at m
    obtain ⟨va, g1, m1, m⟩ := bind_eq_ok m
    split at m
    · exact ⟨T, F, σe, g, _, _, r, m1, fun F1 H1 s1 r1 => by
        refine iteT ?_
        exact ⟨T, F1, σe, _, v, g', r1, m, fun F2 H2 s2 r2 => q F2 H2 (s1.trans s2) r2⟩⟩
    · cases m
      exact ⟨T, F, σe, g, _, _, r, m1, fun F1 H1 s1 r1 => by
        refine iteF ?_
        exact q F1 H1 s1 r1⟩
    · cases m⟩
theorem Ew.or {rest : List Expr} (ha : Et X C Ow a ia) (hb : Ew X C Ow (.BoolOp .Or (b :: rest) pos) ib) : Ew X C Ow (.BoolOp .Or (a :: b :: rest) pos) (.or ia ib) :=
  ⟨pw_con (pw_or ha.run hb.run) fun σ H Q ⟨T, F, σe, g, v, g', r, m, q⟩ => by
    unfold ev at m
    obtain ⟨va, g1, m1, m⟩ := bind_eq_ok m
    split at m
    · cases m
      exact ⟨T, F, σe, g, _, _, r, m1, fun F1 H1 s1 r1 => by
        refine iteT ?_
        exact q F1 H1 s1 r1⟩
    · exact ⟨T, F, σe, g, _, _, r, m1, fun F1 H1 s1 r1 => by
        refine iteF ?_
        exact ⟨T, F1, σe, _, v, g', r1, m, fun F2 H2 s2 r2 => q F2 H2 (s1.trans s2) r2⟩⟩
    · cases m⟩
theorem Es.not (hK : X.K = C.K) (ha : Eb X C Ow a ia) : Es X C Ow (.UnaryOp .Not a pos) (.not ia) :=
  ⟨pe_con (pe_not ha.run) fun σ H Q ⟨T, F, σe, g, v, g', r, m, q⟩ => by
    unfold ev at m
    obtain ⟨va, g1, m1, m⟩ := bind_eq_ok m
    refine ⟨T, F, σe, g, va, g1, r, m1, fun F1 H1 x s1 r1 b1 => ?_⟩
    have h := r1.sh b1
    split at m
    · cases m; cases h
      exact ⟨_, rfl, q F1 H1 _ s1 r1 rel_bl⟩
    · cases m⟩
theorem Es.one {op : BoolOp} (ha : Es X C Ow a ia) : Es X C Ow (.BoolOp op [a] pos) ia := ⟨pe_one ha.run⟩
theorem Es.and {rest : List Expr} (ha : Eb X C Ow a ia) (hb : Es X C Ow (.BoolOp .And (b :: rest) pos) ib) : Es X C Ow (.BoolOp .And (a :: b :: rest) pos) (.and ia ib) :=
  ⟨pe_con (pe_and ha.run hb.run) fun σ H Q ⟨T, F, σe, g, v, g', r, m, q⟩ => by
    unfold ev at m
    obtain ⟨va, g1, m1, m⟩ := bind_eq_ok m
    refine ⟨T, F, σe, g, va, g1, r, m1, fun F1 H1 x s1 r1 b1 => ?_⟩
    have h := r1.sh b1
    split at m
    · cases h
      refine ⟨_, rfl, ?_⟩
      refine iteT ?_
      exact ⟨T, F1, σe, _, v, g', r1, m, fun F2 H2 y s2 r2 => q F2 H2 y (s1.trans s2) r2⟩
    · cases m; cases h
      refine ⟨_, rfl, ?_⟩
      refine iteF ?_
      exact q F1 H1 _ s1 r1 rel_bl
    · cases m⟩
theorem Es.or {rest : List Expr} (ha : Eb X C Ow a ia) (hb : Es X C Ow (.BoolOp .Or (b :: rest) pos) ib) : Es X C Ow (.BoolOp .Or (a :: b :: rest) pos) (.or ia ib) :=
  ⟨pe_con (pe_or ha.run hb.run) fun σ H Q ⟨T, F, σe, g, v, g', r, m, q⟩ => by
    unfold ev at m
    obtain ⟨va, g1, m1, m⟩ := bind_eq_ok m
    refine ⟨T, F, σe, g, va, g1, r, m1, fun F1 H1 x s1 r1 b1 => ?_⟩
    have h := r1.sh b1
    split at m
    · cases m; cases h
      refine ⟨_, rfl, ?_⟩
      refine iteT ?_
      exact q F1 H1 _ s1 r1 rel_bl
    · cases h
      refine ⟨_, rfl, ?_⟩
      refine iteF ?_
      exact ⟨T, F1, σe, _, v, g', r1, m, fun F2 H2 y s2 r2 => q F2 H2 y (s1.trans s2) r2⟩
    · cases m⟩
theorem Es.ite {t : Expr} {it : Ex} (ht : Et X C Ow t it) (ha : Es X C Ow a ia) (hb : Es X C Ow b ib) : Es X C Ow (.IfExp t a b pos) (.ite it ia ib) :=
  ⟨pe_con (pe_ifExp ht.run ha.run hb.run) fun σ H Q ⟨T, F, σe, g, v, g', r, m, q⟩ => by
    unfold ev at m
    obtain ⟨va, g1, m1, m⟩ := bind_eq_ok m
    split at m
    · refine ⟨T, F, σe, g, _, g1, r, m1, fun F1 H1 s1 r1 => ?_⟩
      refine iteT ?_
      exact ⟨T, F1, σe, _, v, g', r1, m, fun F2 H2 y s2 r2 => q F2 H2 y (s1.trans s2) r2⟩
    · refine ⟨T, F, σe, g, _, g1, r, m1, fun F1 H1 s1 r1 => ?_⟩
      refine iteF ?_
      exact ⟨T, F1, σe, _, v, g', r1, m, fun F2 H2 y s2 r2 => q F2 H2 y (s1.trans s2) r2⟩
    · cases m⟩
theorem tru_sh {K : PySem.W.Frag} {F : Fz} {H : Hp} {d : D} {x : V} {k : Bool} (s : Same F.h H) (h : Sh K F H d x) (t : truV d = some k) : TruV K x H k := by
  cases d with
  | none => cases h; cases t; rfl
  | bool b => cases h; cases t; rfl
  | int i => cases h; cases t; rfl
  | str y =>
    cases h
    have t : (if decide (y.length ≤ lineN) then some (decide (y.length ≠ 0)) else none) = some k := t
    split at t
    · rename_i hz
      cases t
      refine ⟨lineN_le (of_decide_eq_true hz), ?_⟩
      by_cases e : y.length = 0 <;> simp [e]
    · cases t
  | list xs =>
    obtain ⟨p, vs, rfl, q, r⟩ := h
    cases t
    refine .inl ⟨vs, SqL.of q, ?_⟩
    have e := r.length
    cases xs <;> cases vs <;> first | rfl | simp at e
  | tuple xs =>
    obtain ⟨p, vs, rfl, q, r⟩ := h
    cases t
    refine .inr (.inl ⟨vs, sqT_mono s q, ?_⟩)
    have e := r.length
    cases xs <;> cases vs <;> first | rfl | simp at e
  | dict kvs => cases t
/-- a value's truth, as a test -/
theorem Et.truth (hK : X.K = C.K) (ha : Eb X C Ow a ia) (he : ∀ whole, isTrue a X.env whole = (do let v ← whole; standAt a.pos; holding [v] (truthy v))) : Et X C Ow a (.truth ia) :=
  ⟨pt_con (pt_truth ha.run he) fun σ H Q ⟨T, F, σe, g, v, g', r, m, q⟩ => by
    unfold ev at m
    obtain ⟨va, g1, m1, m⟩ := bind_eq_ok m
    obtain ⟨m2, e⟩ := lift_eq_ok m
    obtain ⟨k, m3, e2⟩ := map_some m2
    subst e; cases e2
    refine ⟨T, F, σe, g, va, _, r, m1, fun F1 H1 x s1 r1 b1 => ⟨_, ?_, q F1 H1 s1 r1⟩⟩
    rw [hK]
    exact tru_sh r1.sub (r1.sh b1) m3⟩
/-- a bool, as a test -/
theorem Et.val (ha : Eb X C Ow a ia) (he : ∀ whole, isTrue a X.env whole = (do let v ← whole; standAt a.pos; holding [v] (truthy v))) : Et X C Ow a ia :=
  ⟨pt_con (pt_val ha.run he) fun σ H Q ⟨T, F, σe, g, v, g', r, m, q⟩ =>
    ⟨T, F, σe, g, _, _, r, m, fun F1 H1 x s1 r1 b1 => ⟨v, r1.sh b1, q F1 H1 s1 r1⟩⟩⟩
end
end Pv
end

section
/-! PvE: calls of defs; arguments, displays, subscripts. -/
set_option autoImplicit false
namespace Pv
open PySem PySem.Spec PyProof.Rows L2

/-! ### a def's promise, called where nothing is being shown -/
structure FnG (P : Program) (w : World) (K : PySem.W.Frag) (mg : Str → Option Value) (base : Heap) (CX : CXT) (k : Nat) (f : Addr) (fd : FuncData) (ps : List Str) (sp : Sp) : Prop where
  len : ∀ vs H Q E, sp vs H Q E → vs.length = ps.length
  run : ∀ (A : Around) (outer : List Env) (s : Shared) (H : Hp) (args : Args) (us : List Value) (vs : List V) (Q : VK) (E : XK), A.guards = some [] → Room k A → Env0 P w K mg base A outer s H → BindsTo s fd args (ps.zip us) → Vals vs us → sp vs H Q E →
    codeAny (model P w) A (.call (.ref f) args) (CR CX outer P w H s Q E) s
section
variable {P : Program} {w : World} {K : PySem.W.Frag} {mg : Str → Option Value} {base : Heap} {CX : CXT} {k : Nat} {f : Addr} {fd : FuncData} {ps : List Str} {sp sp' : Sp}
theorem FnG.mono {j : Nat} (F : FnG P w K mg base CX j f fd ps sp) (h : j ≤ k) : FnG P w K mg base CX k f fd ps sp :=
  ⟨F.len, fun A outer s H args us vs Q E hg hr => F.run A outer s H args us vs Q E hg (hr.mono h)⟩
theorem FnG.of (F : FnOk P w K mg base CX k f fd ps sp) : FnG P w K mg base CX k f fd ps sp :=
  ⟨F.len, fun A outer s H args us vs Q E _ hr => F.run A outer s H args us vs Q E hr⟩
theorem FnG.imp (F : FnG P w K mg base CX k f fd ps sp) (h : ∀ vs H Q E, sp' vs H Q E → sp vs H Q E) : FnG P w K mg base CX k f fd ps sp' :=
  ⟨fun vs H Q E q => F.len vs H Q E (h _ _ _ _ q), fun A outer s H args us vs Q E hg hr he hb hv hs => F.run A outer s H args us vs Q E hg hr he hb hv (h _ _ _ _ hs)⟩
end
section
variable {P : Program} {w : World} {K : PySem.W.Frag} {mg : Str → Option Value} {base : Heap} {x qual : Str} {st : Stmt} {f : Addr} {fd : FuncData} {N ps : List Str} {k : Nat} {sp : Sp}
def flV : Flow → Value
  | .ret v => v
  | _ => .none
/-- where a def of this kind may lead: it hands back a value (nothing is raised) -/
theorem sp_end {X : Cx} {s' : Shared} {Q : VK} {E : XK} {fl : Flow} (hx : X.ex = []) (h : SP X [] { nx := fun _ H' => Q .non H', rt := Q } fl s') : CR CX0 X.outer X.prog X.w X.H_0 X.s_0 Q E (.ok (.ret (flV fl))) s' := by
  have out : ∀ {σ' : L2.St} {H' : Hp} {v : V} {u : Value}, Inv X [] σ' H' s' → RelV v u → Q v H' → CR CX0 X.outer X.prog X.w X.H_0 X.s_0 Q E (.ok (.ret u)) s' := fun {σ' H' v u} J rv q =>
    ⟨v, H', J.os, J.bare, by have z := J.base; rw [hx] at z; exact z, J.hok, rv, q⟩
  cases fl with
  | next => obtain ⟨_, H', J, q⟩ := h; exact out (v := .non) J rfl q
  | ret u => obtain ⟨v, _, H', J, rv, q⟩ := h; exact out J rv q
  | brk => obtain ⟨_, _, _, q⟩ := h; exact q.elim
  | cont => obtain ⟨_, _, _, q⟩ := h; exact q.elim
/-- THE RULE for a def that raises nothing, called where nothing is being shown -/
theorem funOk (F : Fun K x qual st f fd) (S : FnScope N ps (defScope st)) (len : ∀ vs H Q E, sp vs H Q E → vs.length = ps.length)
    (body : ∀ (cdv : Value) (A : Around) (outer : List Env) (s : Shared) (H : Hp) (vs : List V) (Q : VK) (E : XK), A.guards = some [] → Room k (A.deeper (envOfC qual (defScope st) s.heap.objs.size f cdv)) → sp vs H Q E →
      ∃ t, PSs (cxOf CX0 P w K mg base N qual (defScope st) f cdv A outer s H E).nox (defBody st) t ∧ t { nx := fun _ H' => Q .non H', rt := Q } (start N vs) H) : FnG P w K mg base CX0 (k + 1) f fd ps sp := by
  obtain ⟨oc, od, kV, doc, pm, an, cdv, ct, osl, rfl, lk, hcd⟩ := F.ex
  refine ⟨len, ?_⟩
  intro A outer s H args us vs Q E hg hr e0 hb r hsp
  have inK : K.In s.heap := e0.mod.kin.keeps fun b o e => (e0.bs b o e).1
  refine codeAny_call_function hr.depth (inK _ _ lk) rfl S.co S.gen rfl (PySem.W.codeRec_of inK hcd) (hb _ _ _ _ ?_)
  refine wpAny_newFunctionEnv_cells S.kind (fun y hy => (S.par y.1 (List.of_mem_zip hy).1).imp id fun q => ⟨q, PySem.W.cellsFrom_some _ _ _ (.inl q)⟩) ?_
  rintro env rfl s1 x1
  refine ⟨(e0.mod.nolimit.keeps fun b o e => (e0.bs b o e).1).keeps x1.toInCall.keep, codeAny_func ?_⟩
  obtain ⟨t, ht, hq⟩ := body cdv A outer s H vs Q E hg (hr.deeper _) hsp
  have I := inv_start (CX := CX0) (E := E) S hr.hd e0 (len _ _ _ _ hsp) r x1
  exact wpAny_mono (ht.nox.run [] s1 _ H _ I hq) (fun fl s' hs => by
    have z := sp_end (E := E) rfl hs
    cases fl <;> exact z) fun e s' hs => hs
end

/-! ### the promise of the small language -/
def spS (C : Ct) (Φ : List D → G → Res D) (n : Nat) : Sp := fun vs H Q E => vs.length = n ∧ ∃ F ds g v g', Same F.h H ∧ F.sc = C.sc ∧ DkR C F g H ∧ RelL C.K F ds vs ∧ Φ ds g = .ok v g' ∧
  ∀ F' H' x, Fsub F F' → Same F'.h H' → (∀ a o, F'.h a = some o → F.h a = none → H a = none) → (∀ a o, H a = some o → F'.isDk a ∨ H' a = some o) →
    (∀ d l, F'.dk = some (d, l) → F.dk = some (d, l) ∨ (H d = none ∧ H l = none)) → DkR C F' g' H' → Rel C.K F' v x → Q x H'
section
variable {X : Cx} {C : Ct} {Ow : List Nat} {e a b c : Expr} {es : List Expr} {i ia ib ic : Ex} {is : Exs} {pos : Pos}
theorem Ea.nil : Ea X C Ow [] .nil := ⟨pa_con pa_nil fun σ H Q ⟨T, F, σe, g, v, g', r, m, q⟩ => by
  unfold evs at m
  cases m
  exact q F H _ (.refl F) r .nil⟩
theorem Ea.cons (ha : Es X C Ow e i) (hs : Ea X C Ow es is) (hst : starEach (e :: es) X.env = (false, eval e X.env) :: starEach es X.env) : Ea X C Ow (e :: es) (.cons i is) :=
  ⟨pa_con (pa_cons ha.run hs.run hst) fun σ H Q ⟨T, F, σe, g, v, g', r, m, q⟩ => by
    unfold evs at m
    obtain ⟨x, g1, m1, m⟩ := bind_eq_ok m
    obtain ⟨xs, g2, m2, m⟩ := bind_eq_ok m
    cases m
    exact ⟨T, F, σe, g, x, g1, r, m1, fun F1 H1 y s1 r1 q1 => ⟨T, F1, σe, g1, xs, _, r1, m2, fun F2 H2 ys s2 r2 q2 => q F2 H2 _ (s1.trans s2) r2 (.cons (q1.mono s2 _ _) q2)⟩⟩⟩
theorem Es.tup {k : Nat} (hs : Ea X C Ow es is) (hl : is.len ≤ 1000) : Es X C Ow (.Tuple es k pos) (.tup is) :=
  ⟨pe_con (pe_tup hs.run) fun σ H Q ⟨T, F, σe, g, v, g', r, m, q⟩ => by
    unfold ev at m
    obtain ⟨xs, g1, m1, m⟩ := bind_eq_ok m
    cases m
    refine ⟨T, F, σe, g, xs, _, r, m1, fun F1 H1 ys s1 r1 q1 => ⟨?_, fun p n => ?_⟩⟩
    · rw [← q1.length, evs_len _ _ _ _ _ _ m1, sizeLine_eq]; omega
    · exact q (F1.put p _) _ _ (s1.trans (Fsub.put (r1.fn n))) (r1.laid n) (rel_tup (r1.fn n) q1)⟩
theorem Ef.lst (hs : Ea X C Ow es is) (hl : is.len ≤ 1000) : Ef X C Ow (.List es pos) (.lst is) :=
  ⟨pe_con (pe_lst hs.run) fun σ H Q ⟨T, F, σe, g, v, g', r, m, q⟩ => by
    unfold ev at m
    obtain ⟨xs, g1, m1, m⟩ := bind_eq_ok m
    cases m
    refine ⟨T, F, σe, g, xs, _, r, m1, fun F1 H1 ys s1 r1 q1 => ⟨?_, fun p n => ?_⟩⟩
    · rw [← q1.length, evs_len _ _ _ _ _ _ m1, sizeLine_eq]; omega
    · exact q F1 _ _ s1 (r1.grown n) (new_of r1 n ⟨_, upd_same, q1⟩)⟩

/-! ### calls -/
variable {CX : CXT} {E : XK} {k n : Nat} {f : Addr} {fd : FuncData} {ps : List Str} {x : Str} {p : Pos} {fi : Nat}
theorem R.call {T : Hp} {F : Fz} {σe : Sl} {g : G} {σ : L2.St} {H : Hp} {vs : List V} {ds : List D} {v : D} {g' : G} {Q : VK} {E : XK} (r : R C Ow T F σe g σ H) (h : RelL C.K F ds vs) (hn : vs.length = n) (hf : C.Φ fi ds g = .ok v g')
    (q : ∀ F' H' x, Fsub F F' → R C Ow T F' σe g' σ H' → Rel C.K F' v x → Q x H') : spS C (C.Φ fi) n vs H Q E :=
  ⟨hn, F, ds, g, v, g', r.sub, r.sc, r.dk, h, hf, fun F' H' x s1 s2 nw kp dn dk rx => q F' H' x s1 (r.step s1 s2 nw kp dn dk) rx⟩
theorem run_fnG {pins : List (Addr × Obj)} {σ : L2.St} {H : Hp} {s : Shared} {Q : VK} {us : List Value} {vs : List V} {sp : Sp} {args : Args} (F : FnG X.prog X.w X.K X.mg X.base CX k f fd ps sp) (hG : X.A.guards = some []) (hr : Room k X.A) (hx : Passes CX X E)
    (I : Inv X pins σ H s) (hb : BindsTo s fd args (ps.zip us)) (r : Vals vs us) (h : sp vs H Q E) : codeAny (model X.prog X.w) X.A (.call (.ref f) args) (fun r s' => match r with
      | .ok (.ret u) => EP X pins σ Q u s'
      | .ok _ => False
      | .error e => X.xe e s') s := by
  refine codeAny_mono (F.run X.A X.stack s H args us vs Q E hG hr I.env0 hb r h) fun r s' hq => ?_
  cases r with
  | error e => exact hx pins σ H s e s' I hq
  | ok fl =>
    cases fl with
    | ret u => exact I.after hq
    | next => exact False.elim hq
    | brk => exact False.elim hq
    | cont => exact False.elim hq
theorem Es.call (fi : Nat) (F : FnG X.prog X.w X.K X.mg X.base CX k f fd ps (spS C (C.Φ fi) ps.length)) (hG : X.A.guards = some []) (hr : Room k X.A) (hg : Gl X x) (hm : X.mg x = some (.ref f)) (hk : PySem.W.keepIn X.K (.ref f) = true) (hb : Binds X.K fd ps []) (hx : Passes CX X E)
    (ha : Ea X C Ow (e :: es) is) (hdb : (x == ("__debug__" : Str)) = false) (he : starEach (e :: es) X.env = (false, eval e X.env) :: starEach es X.env) (hpl : (backTo pos (starEach es X.env)).any (·.1) = false) (hl : is.len = ps.length) :
    Es X C Ow (.Call (.Name x p) (e :: es) [] pos) (.call fi is) := by
  refine ⟨⟨fun pins s σ H Q I h => ?_⟩⟩
  refine wpAny_Call_Name_kw (ld_glob I hg hm ?_ hdb)
  obtain ⟨T, F0, σe, g, v, g', r, m, q⟩ := h
  unfold ev at m
  obtain ⟨ds, g1, m1, m⟩ := bind_eq_ok m
  refine PySem.W.callWith_K (h₀ := X.base) I.ok.mod.kin hk (thn (ha.run.run pos pins s σ H (fun vs H' => vs.length = ps.length ∧ spS C (C.Φ fi) ps.length vs H' Q E) I ⟨T, F0, σe, g, ds, g1, r, m1, fun F1 H1 xs s1 r1 q1 => ?_⟩) fun us s1 ⟨vs, H1, I1, rv, hn, hsp⟩ => ⟨I1.kIn, ?_⟩) he hpl
  · have hn : xs.length = ps.length := by rw [← q1.length, evs_len _ _ _ _ _ _ m1, hl]
    exact ⟨hn, r1.call q1 hn m fun F' H' x s2 r2 q2 => q F' H' x (s1.trans s2) r2 q2⟩
  · have hl : us.length = ps.length := by rw [← rv.length]; exact hn
    have bt := hb s1 us I1.kIn (by rw [List.append_nil]; exact hl)
    rw [List.append_nil] at bt
    refine wpAny_call (codeAny_mono (run_fnG F hG hr hx I1 bt rv hsp) fun r s' hq => ?_)
    cases r with
    | error e => exact hq
    | ok fl =>
      cases fl with
      | ret u => exact hq
      | next => exact False.elim hq
      | brk => exact False.elim hq
      | cont => exact False.elim hq

/-! ### calls with keywords -/
structure KB (K : PySem.W.Frag) (fd : FuncData) (ps ks : List Str) (n : Nat) (perm : List Nat) : Prop where
  to : ∀ (s : Shared) (us ws : List Value), K.In s.heap → us.length = n → ws.length = ks.length → BindsTo s fd ⟨us, ks.zip ws⟩ (ps.zip (pm perm (us ++ ws)))
theorem RelL.pm {K : PySem.W.Frag} {F : Fz} {ds : List D} {vs : List V} (h : RelL K F ds vs) : ∀ perm : List Nat, RelL K F (pm perm ds) (pm perm vs)
  | [] => .nil
  | j :: r => by
    have ih := h.pm r
    unfold Pv.pm at ih ⊢
    rw [List.filterMap_cons, List.filterMap_cons]
    cases e : ds[j]? with
    | none =>
      have e2 : vs[j]? = none := by
        rw [List.getElem?_eq_none_iff] at e ⊢
        rw [← h.length]; exact e
      rw [e2]; exact ih
    | some d =>
      obtain ⟨v, e2, rv⟩ := h.get e
      rw [e2]; exact .cons rv ih
theorem Vals.pm {vs : List V} {us : List Value} (h : Vals vs us) : ∀ perm : List Nat, Vals (Pv.pm perm vs) (Pv.pm perm us)
  | [] => .nil
  | j :: r => by
    have ih := Vals.pm h r
    unfold Pv.pm at ih ⊢
    rw [List.filterMap_cons, List.filterMap_cons]
    cases e : vs[j]? with
    | none =>
      rw [Vals.none_of h e]; exact ih
    | some d =>
      obtain ⟨v, e2, rv⟩ := Vals.get h e
      rw [e2]; exact .cons rv ih
/-- keyword arguments -/
structure Ek (X : Cx) (C : Ct) (Ow : List Nat) (kws : List Keyword) (is : Exs) : Prop where
  run : PK X kws (tA C Ow (evs C.Φ is))
theorem Ek.nil : Ek X C Ow [] .nil := ⟨⟨fun pos pins s σ H Q I h => pk_nil.run pos pins s σ H Q I (by
  obtain ⟨T, F, σe, g, v, g', r, m, q⟩ := h
  unfold evs at m
  cases m
  exact q F H _ (.refl F) r .nil)⟩⟩
theorem Ek.cons {nm : Option Str} {kpos : Pos} {kws : List Keyword} (ha : Es X C Ow e i) (hs : Ek X C Ow kws is) : Ek X C Ow (⟨nm, e, kpos⟩ :: kws) (.cons i is) :=
  ⟨⟨fun pos pins s σ H Q I h => (pk_cons ha.run hs.run).run pos pins s σ H Q I (by
    obtain ⟨T, F, σe, g, v, g', r, m, q⟩ := h
    unfold evs at m
    obtain ⟨x, g1, m1, m⟩ := bind_eq_ok m
    obtain ⟨xs, g2, m2, m⟩ := bind_eq_ok m
    cases m
    exact ⟨T, F, σe, g, x, g1, r, m1, fun F1 H1 y s1 r1 q1 => ⟨T, F1, σe, g1, xs, _, r1, m2, fun F2 H2 ys s2 r2 q2 => q F2 H2 _ (s1.trans s2) r2 (.cons (q1.mono s2 _ _) q2)⟩⟩)⟩⟩
def Exs.app : Exs → Exs → Exs
  | .nil, bs => bs
  | .cons a as, bs => .cons a (as.app bs)
theorem evs_app (Φ : Fns) : ∀ (as bs : Exs) (σ : Sl) (g g' : G) (vs : List D), evs Φ (as.app bs) σ g = .ok vs g' → ∃ xs ys g1, vs = xs ++ ys ∧ evs Φ as σ g = .ok xs g1 ∧ evs Φ bs σ g1 = .ok ys g'
  | .nil, bs, σ, g, g', vs, h => ⟨[], vs, g, rfl, by unfold evs; rfl, h⟩
  | .cons a as, bs, σ, g, g', vs, h => by
    unfold Exs.app evs at h
    obtain ⟨x, g1, h1, h⟩ := bind_eq_ok h
    obtain ⟨xs, g2, h2, h⟩ := bind_eq_ok h
    cases h
    obtain ⟨us, ws, g3, e, q1, q2⟩ := evs_app Φ as bs _ _ _ _ h2
    refine ⟨x :: us, ws, g3, by rw [e]; rfl, ?_, q2⟩
    unfold evs
    rw [h1, bind_ok, q1, bind_ok]
theorem Es.callK {ks : List Str} {kws : List Keyword} {perm : List Nat} {iks : Exs} (fi : Nat) (F : FnG X.prog X.w X.K X.mg X.base CX k f fd ps (spS C (C.Φ fi) ps.length)) (hG : X.A.guards = some []) (hr : Room k X.A) (hg : Gl X x) (hm : X.mg x = some (.ref f)) (hk : PySem.W.keepIn X.K (.ref f) = true) (hb : KB X.K fd ps ks n perm) (hx : Passes CX X E)
    (ha : Ea X C Ow (e :: es) is) (hkw : Ek X C Ow kws iks) (hall : (backToKw pos (keywordEach kws X.env)).all (·.1.isSome) = true) (hks : (backToKw pos (keywordEach kws X.env)).filterMap (·.1) = ks)
    (hdb : (x == ("__debug__" : Str)) = false) (he : starEach (e :: es) X.env = (false, eval e X.env) :: starEach es X.env)
    (hpl : ((backTo pos (starEach (e :: es) X.env)).any (·.1) || (backToKw pos (keywordEach kws X.env)).any (·.1.isNone)) = false) (h1 : is.len = n) (h2 : iks.len = ks.length) (h3 : ∀ {α : Type} (l : List α), l.length = n + ks.length → (pm perm l).length = ps.length) :
    Es X C Ow (.Call (.Name x p) (e :: es) kws pos) (.callK fi (is.app iks) perm) := by
  refine ⟨⟨fun pins s σ H Q I h => ?_⟩⟩
  refine wpAny_Call_Name_kw (ld_glob I hg hm ?_ hdb)
  obtain ⟨T, F0, σe, g, v, g', r, m, q⟩ := h
  unfold ev at m
  obtain ⟨ds, g1, m1, m⟩ := bind_eq_ok m
  obtain ⟨as, bs, g2, e0, ma, mb⟩ := evs_app _ _ _ _ _ _ _ m1
  subst e0
  refine PySem.W.callWith_KW (h₀ := X.base) I.ok.mod.kin hk hall (thn (ha.run.run pos pins s σ H (fun vs H' => vs.length = n ∧ tA C Ow (evs C.Φ iks) σ H' fun zs H2 => zs.length = ks.length ∧ spS C (C.Φ fi) ps.length (Pv.pm perm (vs ++ zs)) H2 Q E) I ⟨T, F0, σe, g, as, g2, r, ma, fun F1 H1 xs s1 r1 q1 =>
      ⟨by rw [← q1.length, evs_len _ _ _ _ _ _ ma, h1], T, F1, σe, g2, bs, g1, r1, mb, fun F2 H2 ys s2 r2 q2 => ?_⟩⟩) fun us s1 ⟨vs, H1, I1, rv, hn, hsp⟩ => ?_) hpl he
  · have e1 : ys.length = ks.length := by rw [← q2.length, evs_len _ _ _ _ _ _ mb, h2]
    have e2 : xs.length = n := by rw [← q1.length, evs_len _ _ _ _ _ _ ma, h1]
    refine ⟨e1, r2.call (((q1.mono s2 _ _).append q2).pm perm) (h3 _ (by rw [List.length_append, e1, e2])) m fun F' H' x s3 r3 q3 => q F' H' x (s1.trans (s2.trans s3)) r3 q3⟩
  · refine thn (hkw.run.run pos pins s1 σ H1 _ I1 hsp) fun ws s2 ⟨zs, H2, I2, rz, hz, hsp⟩ => ⟨I2.kIn, ?_⟩
    rw [hks]
    have bt := hb.to s2 us ws I2.kIn (by rw [← rv.length]; exact hn) (by rw [← rz.length]; exact hz)
    refine wpAny_call (codeAny_mono (run_fnG F hG hr hx I2 bt (Vals.pm (rv.append rz) perm) hsp) fun r s' hq => ?_)
    cases r with
    | error e => exact hq
    | ok fl =>
      cases fl with
      | ret u => exact hq
      | next => exact False.elim hq
      | brk => exact False.elim hq
      | cont => exact False.elim hq
theorem Es.callK0 {ks : List Str} {kws : List Keyword} {perm : List Nat} {iks : Exs} (fi : Nat) (F : FnG X.prog X.w X.K X.mg X.base CX k f fd ps (spS C (C.Φ fi) ps.length)) (hG : X.A.guards = some []) (hr : Room k X.A) (hg : Gl X x) (hm : X.mg x = some (.ref f)) (hk : PySem.W.keepIn X.K (.ref f) = true) (hb : KB X.K fd ps ks 0 perm) (hx : Passes CX X E)
    (hkw : Ek X C Ow kws iks) (hall : (backToKw pos (keywordEach kws X.env)).all (·.1.isSome) = true) (hks : (backToKw pos (keywordEach kws X.env)).filterMap (·.1) = ks)
    (hdb : (x == ("__debug__" : Str)) = false)
    (hpl : ((backTo pos (starEach [] X.env)).any (·.1) || (backToKw pos (keywordEach kws X.env)).any (·.1.isNone)) = false) (h2 : iks.len = ks.length) (h3 : ∀ {α : Type} (l : List α), l.length = ks.length → (pm perm l).length = ps.length) :
    Es X C Ow (.Call (.Name x p) [] kws pos) (.callK fi iks perm) := by
  refine ⟨⟨fun pins s σ H Q I h => ?_⟩⟩
  refine wpAny_Call_Name_kw (ld_glob I hg hm ?_ hdb)
  obtain ⟨T, F0, σe, g, v, g', r, m, q⟩ := h
  unfold ev at m
  obtain ⟨ds, g1, m1, m⟩ := bind_eq_ok m
  refine PySem.W.callWith_KW0 (h₀ := X.base) I.ok.mod.kin hk hall (thn (hkw.run.run pos pins s σ H (fun zs H2 => zs.length = ks.length ∧ spS C (C.Φ fi) ps.length (Pv.pm perm zs) H2 Q E) I ⟨T, F0, σe, g, ds, g1, r, m1, fun F1 H1 xs s1 r1 q1 => ?_⟩) fun ws s2 ⟨zs, H2, I2, rz, hz, hsp⟩ => ⟨I2.kIn, ?_⟩) hpl
  · have e1 : xs.length = ks.length := by rw [← q1.length, evs_len _ _ _ _ _ _ m1, h2]
    exact ⟨e1, r1.call (q1.pm perm) (h3 _ e1) m fun F' H' x s3 r3 q3 => q F' H' x (s1.trans s3) r3 q3⟩
  · rw [hks]
    have bt := hb.to s2 [] ws I2.kIn rfl (by rw [← rz.length]; exact hz)
    refine wpAny_call (codeAny_mono (run_fnG F hG hr hx I2 bt (Vals.pm rz perm) hsp) fun r s' hq => ?_)
    cases r with
    | error e => exact hq
    | ok fl =>
      cases fl with
      | ret u => exact hq
      | next => exact False.elim hq
      | brk => exact False.elim hq
      | cont => exact False.elim hq
end
end Pv
end

section
/-! PvEn: enumerate(t), t a list or a tuple. -/
set_option autoImplicit false
namespace Pv
open PySem PySem.Spec PyProof.Rows L2
set_option maxHeartbeats 1000000 in
/-- a new enumerate over anything that begins -/
theorem enumNew {v : Value} {io : Obj} {Hh : Heap → Prop} (Bg : Begins v io Hh) :
    Meets (Builtin.«enumerate.__new__» ⟨[.type "enumerate", v], []⟩) (fun _ Rr z => Hh z.heap ∧
      Rr (.ok (.ret (.ref (z.heap.push io).objs.size))) { z with heap := (z.heap.push io).push { cls := .type "enumerate", data := .fields #[.none, .bool false, .ref z.heap.objs.size, rawInt 0, .none, .none] } }) :=
  .of_wp fun prog w A Rr z hz => by
    obtain ⟨hp, gg, dd, tt, oo⟩ := z
    obtain ⟨hh, hr⟩ := hz
    have se := sub_enumerate
    have qi : ∀ {B : Around} {Ex : Value → Shared → Prop} {Qq : Value → Shared → Prop}, Qq (.ref hp.objs.size) ⟨hp.push io, gg, dd, tt, oo⟩ → wpAny (model prog w) B (pyIter v) Qq Ex ⟨hp, gg, dd, tt, oo⟩ :=
      fun q0 => Bg.iter prog w _ _ ⟨hp, gg, dd, tt, oo⟩ _ hh q0
    wp_walk using qi
    refine wpAny_stack_any fun stk => wpAny_pure ?_
    split
    · rename_i cc _ _ _ _ _
      cases (cc == Value.type "enumerate") <;> (wp_walk using qi; exact ⟨_, rfl, hr⟩)
    · wp_walk using qi
      exact ⟨_, rfl, hr⟩
theorem enumCall {prog : Program} {w : World} {A : Around} {Ex : Value → Shared → Prop} {z : Shared} {v : Value} {io : Obj} {Hh : Heap → Prop} {Qq : Value → Shared → Prop} (Bg : Begins v io Hh) (hh : Hh z.heap)
    (hq : ∀ h2, IsEnum h2 (z.heap.objs.size + 1) z.heap.objs.size 0 .none → h2.get? z.heap.objs.size = some io → (∀ b o, z.heap.get? b = some o → h2.get? b = some o) → Qq (.ref (z.heap.objs.size + 1)) { z with heap := h2 }) :
    wpAny (model prog w) A (call (.type "enumerate") [v]) Qq Ex z := by
  refine callType_new F.called_enumerate (by decide) (F.typeCall_enumerate_1 _) (F.newCall_enumerate_1 _) (fun ob => F.args_object_init_2 ob _) F.entry_enumerate_new (enumNew Bg) ⟨hh, ?_⟩
  have sz : (z.heap.push io).objs.size = z.heap.objs.size + 1 := Heap.size_push ..
  have ie := Heap.get?_push_size (z.heap.push io) (o := { cls := .type "enumerate", data := .fields #[.none, .bool false, .ref z.heap.objs.size, rawInt 0, .none, .none] }) rfl
  rw [sz] at ie
  show _ ∧ _
  rw [sz]
  exact ⟨⟨_, ie, rfl⟩, hq _ ie (Heap.get?_push_of_some _ (Heap.get?_push_size _ Bg.free)) fun b ob eb => Heap.get?_push_of_some _ (Heap.get?_push_of_some _ eb)⟩
/-- the tuple at a, each item in a new pair -/
def IteT (K : PySem.W.Frag) (a : Addr) : It :=
  ⟨fun n H => ∃ (vs : List V) (y : V), SqT K H a vs ∧ vs[n]? = some y, fun n H v H' => ∃ p y, v = .ref p ∧ H p = none ∧ H' = upd H p (.tup [.int (n : Nat), y]) ∧ ∀ vs, SqT K H a vs → vs[n]? = some y, fun n H => ∃ vs : List V, SqT K H a vs ∧ vs.length ≤ n⟩
theorem turn_enT {P : Program} {w : World} {K : PySem.W.Frag} {ts : List Expr} {kk : Nat} {tp : Pos} (a e j : Addr) :
    Turn P w K (.Tuple ts kk tp) (IteT K a) [e, j] e (fun n h => (∃ v, IsEnum h e j ((n : Nat) : Int) v) ∧ h.IsTupleIter j a n ∧ e ≠ j) where
  mem := by simp
  obj := fun n h z b hb => by
    obtain ⟨⟨v, ie⟩, ⟨o, o1, o2, o3⟩, _⟩ := z
    rcases List.mem_cons.mp hb with rfl | hb
    · exact ⟨_, ie, fun _ q => nomatch q⟩
    · rw [List.mem_singleton.mp hb]
      exact ⟨o, o1, fun _ q => by rw [o3] at q; cases q⟩
  keep := fun n h h' z k => ⟨⟨z.1.choose, k e (by simp) _ z.1.choose_spec⟩, z.2.1.at fun o q => k j (by simp) o q, z.2.2⟩
  item := by
    intro X eP ew eK cal n pins z σ H Ex Iv fr sts go
    subst eP ew eK
    obtain ⟨⟨old, ie⟩, ij, ne⟩ := sts
    obtain ⟨vs, y, sq, ey⟩ := go
    obtain ⟨its, rl, tp', _⟩ := Iv.tuple sq
    obtain ⟨u, eu, ru⟩ := rl.get ey
    have le : e < z.heap.objs.size := Heap.lt_size ie
    have lj : j < z.heap.objs.size := by obtain ⟨_, q, _⟩ := ij; exact Heap.lt_size q
    obtain ⟨to, t1, t2, t3⟩ := id tp'
    have nej : a ≠ j := fun q => by
      subst q
      obtain ⟨_, q1, q2, _⟩ := ij
      rw [t1] at q1
      cases q1
      have q3 := t2.symm.trans q2
      simp at q3
    have nee : a ≠ e := fun q => by
      subst q
      have q1 := t1.symm.trans ie
      cases q1
      simp at t2
    have Dt := Draws.tuple (prog := X.prog) (w := X.w) (A := X.A.in1) (Iv.ok.hd cal) j a nej its.toArray
    have lt : n < its.toArray.size := by
      have := (List.getElem?_eq_some_iff.mp eu).1
      simpa using this
    refine wpAny_pyNext_enum_itemD Dt ie ⟨ij, tp'⟩ lt ne (by simp [ne, Ne.symm nee]) fun x h1 tk hx io sj hT _ kp => ?_
    have ex : x = u := by
      have q : its.toArray[n]? = some u := by simpa using eu
      rw [q] at hx
      exact (Option.some.inj hx).symm
    subst ex
    refine ⟨_, rfl, wpAny_letOwnedTupleGo_enum (s := { z with heap := h1, toks := tk + 1 }) io fun h2 ie2 sb => ?_⟩
    have T2 := (sb.2 _ (Nat.ne_of_gt le)).trans hT
    have ok : ObjOk X.prog X.w (upd H z.heap.objs.size (.tup [.int (n : Nat), y])) h2 z.heap.objs.size (.tup [.int (n : Nat), y]) := by
      refine ⟨by show 2 ≤ sizeLine; decide, [.int n tk, x], .cons ⟨_, rfl⟩ (.cons ru .nil), ?_⟩
      exact ⟨_, T2, rfl, _, rfl⟩
    have Iv2 : Inv X pins σ (upd H z.heap.objs.size (.tup [.int (n : Nat), y])) { z with heap := h2, toks := tk + 1 } :=
      Iv.turnedNew (ch := [e, j]) (fun b ob hb q => by
        have b1 : b ≠ e := fun q => hb (q ▸ List.mem_cons_self)
        have b2 : b ≠ j := fun q => hb (q ▸ List.mem_cons_of_mem _ List.mem_cons_self)
        exact (sb.2 b b1).trans (kp b ob b1 b2 q)) fr (Nat.le_refl _) ok
    refine ⟨.ref z.heap.objs.size, _, Iv2, rfl, ⟨_, y, rfl, Iv.hok.fresh (Nat.le_refl _), rfl, fun ys sq2 => ?_⟩, ⟨⟨x, ?_⟩, sj.1.at fun o q => (sb.2 j (Ne.symm ne)).trans q, ne⟩, fun b hb => ?_⟩
    · rw [Iv.tuple_inj sq2 sq]; exact ey
    · rw [show ((n + 1 : Nat) : Int) = (n : Int) + 1 by omega]
      exact ie2
    · have bl : b < z.heap.objs.size := by
        rcases List.mem_cons.mp hb with rfl | hb
        · exact le
        · rw [List.mem_singleton.mp hb]; exact lj
      rw [upd_ne (Nat.ne_of_lt bl)]
      exact (fr b hb).1
  done := by
    intro X eP ew eK cal n pins z σ H Ex Iv fr sts stp
    subst eP ew eK
    obtain ⟨⟨old, ie⟩, ij, ne⟩ := sts
    obtain ⟨vs, sq, ll⟩ := stp
    obtain ⟨its, rl, tp', _⟩ := Iv.tuple sq
    obtain ⟨f0, f1, f2, f3, f4, f5⟩ := fr j (by simp)
    have hl := rl.length
    obtain ⟨to, t1, t2, t3⟩ := id tp'
    have nej : a ≠ j := fun q => by
      subst q
      obtain ⟨_, q1, q2, _⟩ := ij
      rw [t1] at q1
      cases q1
      have q3 := t2.symm.trans q2
      simp at q3
    have Dt := Draws.tuple (prog := X.prog) (w := X.w) (A := X.A.in1) (Iv.ok.hd cal) j a nej its.toArray
    -- the end, wherever the count stands
    have ends : wpAny (model X.prog X.w) X.A (pyNext (.ref e)) (fun r s1 => r = none ∧ Inv X pins σ H s1) Ex z := by
      have Ty : z.TypeIs (.ref e) "enumerate" := ⟨_, ie, rfl⟩
      unfold pyNext
      refine wpAny_bind (wpAny_attempt (wpAny_callSpecial?_slot (name := Str.ofString "__next__") Ty F.slot_enumerate_next (wpAny_call_entry F.slot_enumerate_next Ty F.entry_enumerate_next ?_ (F.args_enumerate_next_1 _))))
      show wpAny _ _ (field (.ref e) 2 >>= _) _ _ _
      refine wpAny_bind (wpAny_field ie rfl (x := .ref j) rfl ?_)
      refine wpAny_bind (wpAny_nextOf_tuple_end (Iv.ok.hd cal) ij tp' (by simp; omega) fun h2 x eb sx => ?_)
      obtain ⟨o, so, co⟩ := sx
      refine wpAny_bind (wpAny_isInstance (T := "StopIteration") (b := true) ⟨o, so, co⟩ isSubtype_stop (wpAny_pure ?_))
      exact ⟨rfl, Iv.turned (t' := z.toks) (fun b o hb q => eb b o hb q) f0 f1 f3 f4 f5⟩
    exact ends
  self := fun A n z Qq Ex sts hq => wpAny_pyIter_enum sts.1.choose_spec hq
def iEn (K : PySem.W.Frag) (ta : TA) : TI := fun σ H R => ta σ H fun vs H1 => ∃ a xs, vs = [.ref a] ∧ (SqL K H1 a xs ∧ R (Ite K a) H1 ∨ SqT K H1 a xs ∧ R (IteT K a) H1)
theorem pi_en {X : Cx} {e : Expr} {ta : TA} {p pos tpos : Pos} {elts : List Expr} {kk : Nat} (hg : Gl X "enumerate") (hm : X.mg "enumerate" = none) (ha : PA X [e] ta) (hs : starEach [e] X.env = [(false, eval e X.env)]) :
    PI X (.Tuple elts kk tpos) (.Call (.Name "enumerate" p) [e] [] pos) (iEn X.K ta) := by
  refine ⟨fun pins z σ H R Iv hw => ?_⟩
  refine Call_ (ld_blt Iv hg hm boot_enumerate (callWith_type1 (thn (ha.run pos pins z σ H _ Iv hw) fun us s1 ⟨vs, H1, I1, r1, a, xs, ev, q⟩ => ?_) hs rfl))
  subst ev
  cases r1 with
  | cons r0 rr =>
    cases rr
    cases r0
    have fresh : ∀ b ∈ [s1.heap.objs.size + 1, s1.heap.objs.size], FpOk X pins H1 b := fun b hb => by
      have lb : s1.heap.objs.size ≤ b := by
        rcases List.mem_cons.mp hb with rfl | hb
        · omega
        · rw [List.mem_singleton.mp hb]; exact Nat.le_refl _
      exact I1.fpOk lb (I1.hok.fresh lb)
    rcases q with ⟨sq, q⟩ | ⟨sq, q⟩
    · obtain ⟨its, rv, pl, _⟩ := I1.list sq
      refine enumCall (begins_list a its.toArray) pl.isList fun h2 ie io kp => wpAny_pyIter_enum ie ?_
      exact ⟨s1.heap.objs.size + 1, [s1.heap.objs.size + 1, s1.heap.objs.size], _, _, H1, rfl, I1.kept (t' := s1.toks) kp, turn_enum a (s1.heap.objs.size + 1) s1.heap.objs.size, ⟨⟨.none, ie⟩, ⟨_, io, rfl, rfl⟩, Nat.succ_ne_self _⟩, fresh, q⟩
    · obtain ⟨its, rv, pl, _⟩ := I1.tuple sq
      refine enumCall (begins_tuple a its.toArray) pl fun h2 ie io kp => wpAny_pyIter_enum ie ?_
      exact ⟨s1.heap.objs.size + 1, [s1.heap.objs.size + 1, s1.heap.objs.size], _, _, H1, rfl, I1.kept (t' := s1.toks) kp, turn_enT a (s1.heap.objs.size + 1) s1.heap.objs.size, ⟨⟨.none, ie⟩, ⟨_, io, rfl, rfl⟩, Nat.succ_ne_self _⟩, fresh, q⟩
end Pv
end

section
/-! PvF: targets, what is walked, comprehensions. -/
set_option autoImplicit false
namespace Pv
open PySem PySem.Spec PyProof.Rows L2

section
variable {C : Ct} {Ow : List Nat} {T : Hp} {F F' : Fz} {σe σe' : Sl} {g g' : G} {σ : L2.St} {H H' : Hp} {v : D} {x : V}
/-- a name is given a frozen value -/
theorem R.setS {i : Nat} (r : R C Ow T F σe g σ H) (hi : i ∉ Ow) (h : Rel C.K F v x) : R C Ow T F (σe.set i (some v)) g (σ.set i (some x)) H := by
  refine ⟨r.sub, r.sc, r.grow, r.new, r.keep, r.dnew, by rw [List.length_set, List.length_set]; exact r.len, fun j w e n => ?_, fun j w e n => ?_, fun j k a hj hk h1 h2 q1 q2 => ?_, r.dk, fun a o e => ?_, fun a e z => by
    have ne : i ≠ 0 := fun y => hi (by rw [y]; exact z)
    rw [List.getElem?_set_ne ne]; exact r.slf a e z⟩
  · by_cases hj : j = i
    · subst hj
      have hl : j < σe.length := by
        have := (List.getElem?_eq_some_iff.mp e).1
        rwa [List.length_set] at this
      rw [List.getElem?_set_self hl] at e
      cases e
      exact ⟨x, by rw [List.getElem?_set_self (r.len ▸ hl)], h⟩
    · rw [List.getElem?_set_ne (Ne.symm hj)] at e
      obtain ⟨y, e1, e2⟩ := r.fz j w e n
      exact ⟨y, by rw [List.getElem?_set_ne (Ne.symm hj)]; exact e1, e2⟩
  · have hj : j ≠ i := fun z => hi (z ▸ n)
    rw [List.getElem?_set_ne (Ne.symm hj)] at e
    obtain ⟨a, e1, e2⟩ := r.ow j w e n
    exact ⟨a, by rw [List.getElem?_set_ne (Ne.symm hj)]; exact e1, e2⟩
  · have hj' : j ≠ i := fun z => hi (z ▸ hj)
    have hk' : k ≠ i := fun z => hi (z ▸ hk)
    rw [List.getElem?_set_ne (Ne.symm hj')] at h1 q1
    rw [List.getElem?_set_ne (Ne.symm hk')] at h2 q2
    exact r.inj j k a hj hk h1 h2 q1 q2
  · obtain ⟨e1, e2, e3, e4, e5⟩ := r.hold a o e
    refine ⟨e1, e2, e3, e4, fun j w hj q => ?_⟩
    have hj' : j ≠ i := fun z => hi (z ▸ hj)
    rw [List.getElem?_set_ne (Ne.symm hj')] at q ⊢
    exact e5 j w hj q
/-- a name is forgotten -/
theorem R.wipe1 {i : Nat} (r : R C Ow T F σe g σ H) (hi : i ∉ Ow) : R C Ow T F (σe.set i none) g (σ.set i none) H := by
  refine ⟨r.sub, r.sc, r.grow, r.new, r.keep, r.dnew, by rw [List.length_set, List.length_set]; exact r.len, fun j w e n => ?_, fun j w e n => ?_, fun j k a hj hk h1 h2 q1 q2 => ?_, r.dk, fun a o e => ?_, fun a e z => by
    have ne : i ≠ 0 := fun y => hi (by rw [y]; exact z)
    rw [List.getElem?_set_ne ne]; exact r.slf a e z⟩
  · by_cases hj : j = i
    · subst hj
      rw [List.getElem?_set] at e
      simp at e
    · rw [List.getElem?_set_ne (Ne.symm hj)] at e
      obtain ⟨y, e1, e2⟩ := r.fz j w e n
      exact ⟨y, by rw [List.getElem?_set_ne (Ne.symm hj)]; exact e1, e2⟩
  · have hj : j ≠ i := fun z => hi (z ▸ n)
    rw [List.getElem?_set_ne (Ne.symm hj)] at e
    obtain ⟨a, e1, e2⟩ := r.ow j w e n
    exact ⟨a, by rw [List.getElem?_set_ne (Ne.symm hj)]; exact e1, e2⟩
  · have hj' : j ≠ i := fun z => hi (z ▸ hj)
    have hk' : k ≠ i := fun z => hi (z ▸ hk)
    rw [List.getElem?_set_ne (Ne.symm hj')] at h1 q1
    rw [List.getElem?_set_ne (Ne.symm hk')] at h2 q2
    exact r.inj j k a hj hk h1 h2 q1 q2
  · obtain ⟨e1, e2, e3, e4, e5⟩ := r.hold a o e
    refine ⟨e1, e2, e3, e4, fun j w hj q => ?_⟩
    have hj' : j ≠ i := fun z => hi (z ▸ hj)
    rw [List.getElem?_set_ne (Ne.symm hj')] at q ⊢
    exact e5 j w hj q
theorem R.wipe (r : R C Ow T F σe g σ H) : ∀ t : List Nat, (∀ i ∈ t, i ∉ Ow) → R C Ow T F (wipeS σe t) g (L2.wipe σ t) H
  | [], _ => r
  | i :: t, h => (r.wipe t fun j hj => h j (List.mem_cons_of_mem _ hj)).wipe1 (h i List.mem_cons_self)
theorem wipe_set {i : Nat} {o : Option V} : ∀ {t : List Nat}, i ∈ t → L2.wipe (σ.set i o) t = L2.wipe σ t
  | j :: t, h => by
    show (L2.wipe (σ.set i o) t).set j none = (L2.wipe σ t).set j none
    by_cases hi : i ∈ t
    · rw [wipe_set hi]
    · have e : i = j := (List.mem_cons.mp h).resolve_right hi
      subst e
      have q : ∀ (t : List Nat) (s : L2.St), i ∉ t → L2.wipe (s.set i o) t = (L2.wipe s t).set i o := by
        intro t
        induction t with
        | nil => intro s _; rfl
        | cons k t ih =>
          intro s hk
          have h1 : i ≠ k := fun z => hk (z ▸ List.mem_cons_self)
          have h2 : i ∉ t := fun z => hk (List.mem_cons_of_mem _ z)
          show (L2.wipe (s.set i o) t).set k none = ((L2.wipe s t).set k none).set i o
          rw [ih s h2, List.set_comm _ _ h1]
      rw [q t σ hi, List.set_set]
theorem wipe_wipe : ∀ (t u : List Nat), (∀ i ∈ t, i ∈ u) → L2.wipe (L2.wipe σ t) u = L2.wipe σ u
  | [], u, _ => rfl
  | i :: t, u, h => by
    show L2.wipe ((L2.wipe σ t).set i none) u = _
    rw [wipe_set (h i List.mem_cons_self)]
    exact wipe_wipe t u fun j hj => h j (List.mem_cons_of_mem _ hj)
/-- the held thing is changed -/
theorem R.held {p : Addr} {o o' : HO} (r : R C Ow T F σe g σ H) (h : T p = some o) : R C Ow (upd T p o') F σe g σ (upd H p o') := by
  obtain ⟨e1, e2, e3, e4, e5⟩ := r.hold p o h
  refine ⟨fun a u q => ?_, r.sc, r.grow, r.new, fun a u q => ?_, r.dnew, r.len, r.fz, fun i w q n => ?_, r.inj, ?_, fun a u q => ?_, r.slf⟩
  · have ne : a ≠ p := fun z => by rw [z, e3] at q; cases q
    rw [upd_ne ne]; exact r.sub a u q
  · have ne : a ≠ p := fun z => by rw [z, e2] at q; cases q
    rw [upd_ne ne]; exact r.keep a u q
  · obtain ⟨a, q1, q2, q3, q4, q5⟩ := r.ow i w q n
    have ne : a ≠ p := fun z => e5 i w n q (z ▸ q1)
    exact ⟨a, q1, q2.move (.refl F) fun u z => by rw [upd_ne ne]; exact z, q3, q4, q5⟩
  · have dk := r.dk
    cases g with
    | none => exact dk
    | some st =>
      obtain ⟨d, l, z, ne, f1, f2, hl, hd⟩ := dk
      have n1 : d ≠ p := fun y => e4 ⟨d, l, z, .inl y.symm⟩
      have n2 : l ≠ p := fun y => e4 ⟨d, l, z, .inr y.symm⟩
      exact ⟨d, l, z, ne, f1, f2, (upd_ne n2).trans hl, (upd_ne n1).trans hd⟩
  · by_cases ne : a = p
    · subst ne
      rw [upd_same] at q ⊢
      exact ⟨q, e2, e3, e4, e5⟩
    · rw [upd_ne ne] at q
      rw [upd_ne ne]
      exact r.hold a u q
/-- a new thing is held -/
theorem R.take {p : Addr} {o : HO} (r : R C Ow T F σe g σ H) (n : H p = none) : R C Ow (upd T p o) F σe g σ (upd H p o) := by
  have r1 := r.grown (o := o) n
  refine ⟨r1.sub, r1.sc, r1.grow, r1.new, r1.keep, r1.dnew, r1.len, r1.fz, r1.ow, r1.inj, r1.dk, fun a u q => ?_, r1.slf⟩
  by_cases ne : a = p
  · subst ne
    rw [upd_same] at q ⊢
    refine ⟨q, r.h0 n, r.fn n, r.ndk n, fun i w hi e z => ?_⟩
    obtain ⟨b, q1, q2, _⟩ := r.ow i w e hi
    rw [q1] at z
    have z : V.ref b = V.ref a := Option.some.inj (Option.some.inj z)
    cases z
    obtain ⟨o', eo⟩ := q2.there
    rw [n] at eo; cases eo
  · rw [upd_ne ne] at q
    exact r1.hold a u q
/-- .. and let go -/
theorem R.letgo {T' : Hp} (r : R C Ow T' F σe g σ H) (h : ∀ a o, T a = some o → T' a = some o) : R C Ow T F σe g σ H :=
  ⟨r.sub, r.sc, r.grow, r.new, r.keep, r.dnew, r.len, r.fz, r.ow, r.inj, r.dk, fun a o e => r.hold a o (h a o e), r.slf⟩
end

/-! ### targets -/
def gS (C : Ct) (Ow : List Nat) (t : List Nat) : TG := fun x σ H Q => ∃ T F σe g v σe', R C Ow T F σe g σ H ∧ Rel C.K F v x ∧ setT t v σe = some σe' ∧ ∀ σ', R C Ow T F σe' g σ' H → L2.wipe σ' t = L2.wipe σ t → Q σ' H
structure Eg (X : Cx) (C : Ct) (Ow : List Nat) (tg : Expr) (t : List Nat) : Prop where
  run : PG X tg (gS C Ow t)
def gSs (C : Ct) (Ow : List Nat) (t : List Nat) : TGs := fun xs σ H Q => ∃ T F σe g vs σe', R C Ow T F σe g σ H ∧ RelL C.K F vs xs ∧ setMany t vs σe = some σe' ∧ ∀ σ', R C Ow T F σe' g σ' H → (∀ u, (∀ i ∈ t, i ∈ u) → L2.wipe σ' u = L2.wipe σ u) → Q σ' H
structure Egs (X : Cx) (C : Ct) (Ow : List Nat) (ts : List Expr) (t : List Nat) : Prop where
  run : PGs X ts (gSs C Ow t)
theorem pg_con {X : Cx} {e : Expr} {t t' : TG} (h : PG X e t) (c : ∀ x σ H Q, t' x σ H Q → t x σ H Q) : PG X e t' := ⟨fun pins s σ H v u Q I r hw => h.run pins s σ H v u Q I r (c v σ H Q hw)⟩
theorem pgs_con {X : Cx} {e : List Expr} {t t' : TGs} (h : PGs X e t) (c : ∀ x σ H Q, t' x σ H Q → t x σ H Q) : PGs X e t' := ⟨fun pins s σ H v u Q I r hw => h.run pins s σ H v u Q I r (c v σ H Q hw)⟩
section
variable {X : Cx} {C : Ct} {Ow : List Nat} {pos : Pos}
theorem Eg.name {x : Str} (i : Nat) (hi : i ∉ Ow) (hN : X.N.Nodup) (hx : X.N[i]? = some x) (hl : Loc X.env.scope x) (hf : X.fn x = true ∨ X.env.scope.names.lookup x = some .local) : Eg X C Ow (.Name x pos) [i] :=
  ⟨pg_con (pg_name hN hx hl hf) fun x σ H Q ⟨T, F, σe, g, v, σe', r, h, e, q⟩ => by
    cases e
    exact q _ (r.setS hi h) (wipe_set List.mem_cons_self)⟩
theorem Egs.nil : Egs X C Ow [] [] := ⟨pgs_con pgs_nil fun xs σ H Q ⟨T, F, σe, g, vs, σe', r, h, e, q⟩ => by
  cases vs with
  | nil => cases e; rw [h.inv0]; exact ⟨rfl, q σ r fun _ _ => rfl⟩
  | cons _ _ => cases e⟩
theorem Egs.cons {e : Expr} {es : List Expr} {i : Nat} {t : List Nat} (h1 : Eg X C Ow e [i]) (h2 : Egs X C Ow es t) (hs : (assignEach (e :: es) X.env).map (·.2) = assign e X.env :: (assignEach es X.env).map (·.2)) : Egs X C Ow (e :: es) (i :: t) :=
  ⟨pgs_con (pgs_cons h1.run h2.run hs) fun xs σ H Q ⟨T, F, σe, g, vs, σe', r, h, em, q⟩ => by
    cases vs with
    | nil => cases em
    | cons v vs =>
      obtain ⟨y, yr, rfl, e1, e2⟩ := h.inv
      exact ⟨y, yr, rfl, T, F, σe, g, v, _, r, e1, rfl, fun σ1 r1 w1 => ⟨T, F, _, g, vs, σe', r1, e2, em, fun σ2 r2 w2 => q σ2 r2 fun u hu => by
        rw [w2 u fun j hj => hu j (List.mem_cons_of_mem _ hj)]
        have w : L2.wipe (L2.wipe σ1 [i]) u = L2.wipe (L2.wipe σ [i]) u := by rw [w1]
        rw [wipe_wipe _ _ (fun j hj => hu j (by rw [List.mem_singleton.mp hj]; exact List.mem_cons_self)), wipe_wipe _ _ (fun j hj => hu j (by rw [List.mem_singleton.mp hj]; exact List.mem_cons_self))] at w
        exact w⟩⟩⟩
/-- a tuple or a list, unpacked -/
theorem pg_seq {es : List Expr} {k : Nat} {t : TGs} {n : Nat} (hc : X.calm = true) (h : PGs X es t)
    (hn : (assignEach es X.env).length = n) (hst : (assignEach es X.env).findIdx? (·.1) = none) : PG X (.Tuple es k pos) (fun v σ H Q => gTup X.K n t v σ H Q ∨ gUnl X.K n t v σ H Q) :=
  ⟨fun pins s σ H v u Q I r hw => hw.elim ((pg_tup hc h hn hst).run pins s σ H v u Q I r) ((pg_unl hc h hn hst).run pins s σ H v u Q I r)⟩
theorem Eg.tup {es : List Expr} {k : Nat} {t : List Nat} (hK : X.K = C.K) (hc : X.calm = true) (h : Egs X C Ow es t) (hl : 2 ≤ t.length) (hn : (assignEach es X.env).length = t.length) (hst : (assignEach es X.env).findIdx? (·.1) = none) : Eg X C Ow (.Tuple es k pos) t :=
  ⟨pg_con (pg_seq (n := t.length) hc h.run hn hst) fun x σ H Q ⟨T, F, σe, g, v, σe', r, h, em, q⟩ => by
    have len : ∀ (t : List Nat) (vs : List D) (σe σe' : Sl), setMany t vs σe = some σe' → t.length = vs.length := by
      intro t
      induction t with
      | nil => intro vs σe σe' e; cases vs with
        | nil => rfl
        | cons _ _ => cases e
      | cons i t ih => intro vs σe σe' e; cases vs with
        | nil => cases e
        | cons v vs => rw [List.length_cons, List.length_cons, ih vs _ _ e]
    have two : (∃ vs, v = .tuple vs ∧ setMany t vs σe = some σe') ∨ ∃ vs, v = .list vs ∧ setMany t vs σe = some σe' := by
      unfold setT at em
      split at em
      · simp at hl
      · exact .inl ⟨_, rfl, em⟩
      · exact .inr ⟨_, rfl, em⟩
      · cases em
    clear em
    rcases two with ⟨vs, rfl, em2⟩ | ⟨vs, rfl, em2⟩
    · left
      unfold Rel at h
      obtain ⟨a, us, rfl, hq, rl⟩ := h
      refine ⟨a, us, rfl, ?_, ?_, T, F, σe, g, vs, σe', r, rl, em2, fun σ' r' w => q σ' r' (w t fun _ h => h)⟩
      · rw [hK]; exact sqT_mono r.sub hq
      · rw [← rl.length]; exact (len t vs σe σe' em2).symm
    · right
      unfold Rel at h
      obtain ⟨a, us, rfl, hq, rl⟩ := h
      refine ⟨a, us, rfl, .of (r.sub _ _ hq), ?_, T, F, σe, g, vs, σe', r, rl, em2, fun σ' r' w => q σ' r' (w t fun _ h => h)⟩
      rw [← rl.length]; exact (len t vs σe σe' em2).symm⟩
end

/-! ### names in groups -/
section
variable {X : Cx} {C : Ct} {Ow : List Nat} {pos : Pos}
def gSg (C : Ct) (Ow : List Nat) (ts : List (List Nat)) : TGs := fun xs σ H Q => ∃ T F σe g vs σe', R C Ow T F σe g σ H ∧ RelL C.K F vs xs ∧ setGs ts vs σe = some σe' ∧ ∀ σ', R C Ow T F σe' g σ' H → Q σ' H
structure Egg (X : Cx) (C : Ct) (Ow : List Nat) (es : List Expr) (ts : List (List Nat)) : Prop where
  run : PGs X es (gSg C Ow ts)
def gG (C : Ct) (Ow : List Nat) (ts : List (List Nat)) : TG := fun x σ H Q => ∃ T F σe g v σe', R C Ow T F σe g σ H ∧ Rel C.K F v x ∧ setG ts v σe = some σe' ∧ ∀ σ', R C Ow T F σe' g σ' H → Q σ' H
structure EgG (X : Cx) (C : Ct) (Ow : List Nat) (tg : Expr) (ts : List (List Nat)) : Prop where
  run : PG X tg (gG C Ow ts)
theorem Egg.nil : Egg X C Ow [] [] := ⟨pgs_con pgs_nil fun xs σ H Q ⟨T, F, σe, g, vs, σe', r, h, e, q⟩ => by
  cases vs with
  | nil => cases e; rw [h.inv0]; exact ⟨rfl, q σ r⟩
  | cons _ _ => cases e⟩
theorem Egg.cons {e : Expr} {es : List Expr} {t : List Nat} {ts : List (List Nat)} (h1 : Eg X C Ow e t) (h2 : Egg X C Ow es ts) (hs : (assignEach (e :: es) X.env).map (·.2) = assign e X.env :: (assignEach es X.env).map (·.2)) : Egg X C Ow (e :: es) (t :: ts) :=
  ⟨pgs_con (pgs_cons h1.run h2.run hs) fun xs σ H Q ⟨T, F, σe, g, vs, σe', r, h, em, q⟩ => by
    cases vs with
    | nil => cases em
    | cons v vs =>
      obtain ⟨y, yr, rfl, e1, e2⟩ := h.inv
      unfold setGs at em
      cases e3 : setT t v σe with
      | none => rw [e3] at em; cases em
      | some σ1 =>
        rw [e3] at em
        exact ⟨y, yr, rfl, T, F, σe, g, v, _, r, e1, e3, fun σ1' r1 w1 => ⟨T, F, _, g, vs, σe', r1, e2, em, fun σ2 r2 => q σ2 r2⟩⟩⟩
theorem EgG.tup {es : List Expr} {k : Nat} {ts : List (List Nat)} (hK : X.K = C.K) (hc : X.calm = true) (h : Egg X C Ow es ts) (hn : (assignEach es X.env).length = ts.length) (hst : (assignEach es X.env).findIdx? (·.1) = none) : EgG X C Ow (.Tuple es k pos) ts :=
  ⟨pg_con (pg_tup (n := ts.length) hc h.run hn hst) fun x σ H Q ⟨T, F, σe, g, v, σe', r, h, em, q⟩ => by
    have len : ∀ (ts : List (List Nat)) (vs : List D) (σe σe' : Sl), setGs ts vs σe = some σe' → ts.length = vs.length := by
      intro ts
      induction ts with
      | nil => intro vs σe σe' e; cases vs with
        | nil => rfl
        | cons _ _ => cases e
      | cons i t ih => intro vs σe σe' e; cases vs with
        | nil => cases e
        | cons v vs =>
          unfold setGs at e
          cases e3 : setT i v σe with
          | none => rw [e3] at e; cases e
          | some σ1 => rw [e3] at e; rw [List.length_cons, List.length_cons, ih vs _ _ e]
    have two : ∃ vs, v = .tuple vs ∧ setGs ts vs σe = some σe' := by
      unfold setG at em
      split at em
      · exact ⟨_, rfl, em⟩
      · cases em
    obtain ⟨vs, rfl, em2⟩ := two
    clear em
    unfold Rel at h
    obtain ⟨a, us, rfl, hq, rl⟩ := h
    refine ⟨a, us, rfl, ?_, ?_, T, F, σe, g, vs, σe', r, rl, em2, fun σ' r' => q σ' r'⟩
    · rw [hK]; exact sqT_mono r.sub hq
    · rw [← rl.length]; exact (len ts vs σe σe' em2).symm⟩
end
/-! ### what is walked -/
structure Walk (C : Ct) (F : Fz) (xs : List D) (J : It) : Prop where
  go : ∀ i F1 H, i < xs.length → Fsub F F1 → Same F1.h H → J.go i H
  stop : ∀ F1 H, Fsub F F1 → Same F1.h H → J.stop xs.length H
  yld : ∀ i d F1 H x H', xs[i]? = some d → Fsub F F1 → Same F1.h H → J.yld i H x H' → (H' = H ∧ Rel C.K F1 d x) ∨ ∃ p o, x = .ref p ∧ H p = none ∧ H' = upd H p o ∧ (F1.h p = none → Rel C.K (F1.put p o) d x)
theorem Walk.mono {C : Ct} {F F' : Fz} {xs : List D} {J : It} (w : Walk C F xs J) (s : Fsub F F') : Walk C F' xs J :=
  ⟨fun i F1 H h s1 => w.go i F1 H h (s.trans s1), fun F1 H s1 => w.stop F1 H (s.trans s1), fun i d F1 H x H' h s1 => w.yld i d F1 H x H' h (s.trans s1)⟩
abbrev Ms := Sl → G → Res (List D)
def tI (C : Ct) (Ow : List Nat) (m : Ms) : TI := fun σ H Rr => ∃ T F σe g xs g', R C Ow T F σe g σ H ∧ m σe g = .ok xs g' ∧ ∀ F' H' J, Fsub F F' → R C Ow T F' σe g' σ H' → Walk C F' xs J → Rr J H'
def itm (Φ : Fns) (k : Ik) (as : Exs) : Ms := fun σ g => (evs Φ as σ g).bind fun vs g => lift (itV k vs) g
structure Ei (X : Cx) (C : Ct) (Ow : List Nat) (tg iter : Expr) (k : Ik) (as : Exs) : Prop where
  run : PI X tg iter (tI C Ow (itm C.Φ k as))
theorem pi_con {X : Cx} {tg e : Expr} {t t' : TI} (h : PI X tg e t) (c : ∀ σ H Q, t' σ H Q → t σ H Q) : PI X tg e t' := ⟨fun pins s σ H Q I hw => h.run pins s σ H Q I (c σ H Q hw)⟩
theorem walk_list {C : Ct} {F : Fz} {xs : List D} {K : PySem.W.Frag} {a : Addr} {vs : List V} (hK : K = C.K) (h : F.h a = some (.lst vs)) (r : RelL C.K F xs vs) : Walk C F xs (Itl K a) := by
  refine ⟨fun i F1 H hi s sub => ?_, fun F1 H s sub => ?_, fun i d F1 H x H' hd s sub y => ?_⟩
  · obtain ⟨v, e, _⟩ := r.get (i := i) (d := xs[i]) (by simp [hi])
    exact ⟨vs, v, SqL.of (sub _ _ (s.h _ _ h)), e⟩
  · exact ⟨vs, SqL.of (sub _ _ (s.h _ _ h)), by rw [r.length]; exact Nat.le_refl _⟩
  · obtain ⟨e, y⟩ := y
    obtain ⟨v, e2, rv⟩ := r.get hd
    have z := y vs (SqL.of (sub _ _ (s.h _ _ h)))
    rw [e2] at z; cases z
    exact .inl ⟨e, rv.mono s _ _⟩
theorem walk_tup {C : Ct} {F : Fz} {xs : List D} {K : PySem.W.Frag} {a : Addr} {vs : List V} (hK : K = C.K) (h : F.h a = some (.tup vs)) (r : RelL C.K F xs vs) : Walk C F xs (Itt K a) := by
  subst hK
  refine ⟨fun i F1 H hi s sub => ?_, fun F1 H s sub => ?_, fun i d F1 H x H' hd s sub y => ?_⟩
  · obtain ⟨v, e, _⟩ := r.get (i := i) (d := xs[i]) (by simp [hi])
    exact ⟨vs, v, sqT_mono sub (s.h _ _ h), e⟩
  · exact ⟨vs, sqT_mono sub (s.h _ _ h), by rw [r.length]; exact Nat.le_refl _⟩
  · obtain ⟨e, y⟩ := y
    obtain ⟨v, e2, rv⟩ := r.get hd
    have z := y vs (sqT_mono sub (s.h _ _ h))
    rw [e2] at z; cases z
    exact .inl ⟨e, rv.mono s _ _⟩
theorem walk_rng {C : Ct} {F : Fz} {lo : Int} {n : Nat} : Walk C F (rangeD lo n) (Itr lo n) := by
  have hl : (rangeD lo n).length = n := by unfold rangeD; rw [List.length_map, List.length_range]
  refine ⟨fun i F1 H hi s sub => ?_, fun F1 H s sub => ?_, fun i d F1 H x H' hd s sub y => ?_⟩
  · rw [hl] at hi; exact hi
  · rw [hl]; exact Nat.le_refl n
  · obtain ⟨e, y⟩ := y
    have hi : i < n := by
      have := (List.getElem?_eq_some_iff.mp hd).1
      rwa [hl] at this
    unfold rangeD at hd
    rw [List.getElem?_map, List.getElem?_range hi] at hd
    cases hd
    exact .inl ⟨e, by rw [y]; exact rel_int⟩
theorem walk_down {C : Ct} {F : Fz} {lo : Int} {n : Nat} : Walk C F (downD lo n) (Itc lo (-1) n) := by
  have hl : (downD lo n).length = n := by unfold downD; rw [List.length_map, List.length_range]
  refine ⟨fun i F1 H hi s sub => ?_, fun F1 H s sub => ?_, fun i d F1 H x H' hd s sub y => ?_⟩
  · rw [hl] at hi; exact hi
  · rw [hl]; exact Nat.le_refl n
  · obtain ⟨e, y⟩ := y
    have hi : i < n := by
      have := (List.getElem?_eq_some_iff.mp hd).1
      rwa [hl] at this
    unfold downD at hd
    rw [List.getElem?_map, List.getElem?_range hi] at hd
    cases hd
    refine .inl ⟨e, ?_⟩
    rw [y, show lo + (i : Int) * -1 = lo - i by omega]
    exact rel_int
theorem walk_enum {C : Ct} {F : Fz} {xs : List D} {K : PySem.W.Frag} {a : Addr} {vs : List V} (h : F.h a = some (.lst vs)) (r : RelL C.K F xs vs) : Walk C F (xs.zipIdx.map fun p => .tuple [.int p.2, p.1]) (Ite K a) := by
  have hl : (xs.zipIdx.map fun p => (PyData.tuple [.int p.2, p.1] : D)).length = xs.length := by simp
  refine ⟨fun i F1 H hi s sub => ?_, fun F1 H s sub => ?_, fun i d F1 H x H' hd s sub y => ?_⟩
  · rw [hl] at hi
    obtain ⟨v, e, _⟩ := r.get (i := i) (d := xs[i]) (by simp [hi])
    exact ⟨vs, v, SqL.of (sub _ _ (s.h _ _ h)), e⟩
  · exact ⟨vs, SqL.of (sub _ _ (s.h _ _ h)), by rw [hl, r.length]; exact Nat.le_refl _⟩
  · obtain ⟨p, u, rfl, hn, e, y⟩ := y
    rw [List.getElem?_map, List.getElem?_zipIdx] at hd
    cases q : xs[i]? with
    | none => rw [q] at hd; cases hd
    | some d0 =>
      rw [q] at hd
      cases hd
      obtain ⟨v, e2, rv⟩ := r.get q
      have z := y vs (SqL.of (sub _ _ (s.h _ _ h)))
      rw [e2] at z; cases z
      refine .inr ⟨p, _, rfl, hn, e, fun hf => rel_tup hf (.cons ?_ (.cons (rv.mono s _ _) .nil))⟩
      simp only [Nat.zero_add]
      exact rel_int
theorem walk_enumT {C : Ct} {F : Fz} {xs : List D} {K : PySem.W.Frag} {a : Addr} {vs : List V} (hK : K = C.K) (h : F.h a = some (.tup vs)) (r : RelL C.K F xs vs) : Walk C F (xs.zipIdx.map fun p => .tuple [.int p.2, p.1]) (IteT K a) := by
  subst hK
  have hl : (xs.zipIdx.map fun p => (PyData.tuple [.int p.2, p.1] : D)).length = xs.length := by simp
  refine ⟨fun i F1 H hi s sub => ?_, fun F1 H s sub => ?_, fun i d F1 H x H' hd s sub y => ?_⟩
  · rw [hl] at hi
    obtain ⟨v, e, _⟩ := r.get (i := i) (d := xs[i]) (by simp [hi])
    exact ⟨vs, v, sqT_mono sub (s.h _ _ h), e⟩
  · exact ⟨vs, sqT_mono sub (s.h _ _ h), by rw [hl, r.length]; exact Nat.le_refl _⟩
  · obtain ⟨p, u, rfl, hn, e, y⟩ := y
    rw [List.getElem?_map, List.getElem?_zipIdx] at hd
    cases q : xs[i]? with
    | none => rw [q] at hd; cases hd
    | some d0 =>
      rw [q] at hd
      cases hd
      obtain ⟨v, e2, rv⟩ := r.get q
      have z := y vs (sqT_mono sub (s.h _ _ h))
      rw [e2] at z; cases z
      refine .inr ⟨p, _, rfl, hn, e, fun hf => rel_tup hf (.cons ?_ (.cons (rv.mono s _ _) .nil))⟩
      simp only [Nat.zero_add]
      exact rel_int
theorem walk_zip {C : Ct} {F : Fz} {xs ys : List D} {K : PySem.W.Frag} {a b : Addr} {vs us : List V} (h : F.h a = some (.lst vs)) (r : RelL C.K F xs vs) (h2 : F.h b = some (.lst us)) (r2 : RelL C.K F ys us) : Walk C F ((xs.zip ys).map fun p => .tuple [p.1, p.2]) (Itz K a b) := by
  have hl : ((xs.zip ys).map fun p => (PyData.tuple [p.1, p.2] : D)).length = min xs.length ys.length := by simp
  refine ⟨fun i F1 H hi s sub => ?_, fun F1 H s sub => ?_, fun i d F1 H x H' hd s sub y => ?_⟩
  · rw [hl] at hi
    have i1 : i < xs.length := by omega
    have i2 : i < ys.length := by omega
    obtain ⟨v, e, _⟩ := r.get (i := i) (d := xs[i]) (by simp [i1])
    obtain ⟨u, e', _⟩ := r2.get (i := i) (d := ys[i]) (by simp [i2])
    exact ⟨vs, us, v, u, SqL.of (sub _ _ (s.h _ _ h)), SqL.of (sub _ _ (s.h _ _ h2)), e, e'⟩
  · refine ⟨vs, us, SqL.of (sub _ _ (s.h _ _ h)), SqL.of (sub _ _ (s.h _ _ h2)), ?_⟩
    rw [hl, ← r.length, ← r2.length]; omega
  · obtain ⟨p, u, u', rfl, hn, e, y, y'⟩ := y
    rw [List.getElem?_map] at hd
    cases q : (xs.zip ys)[i]? with
    | none => rw [q] at hd; cases hd
    | some d0 =>
      rw [q] at hd
      cases hd
      rw [List.getElem?_zip_eq_some] at q
      obtain ⟨v, e2, rv⟩ := r.get q.1
      obtain ⟨v', e2', rv'⟩ := r2.get q.2
      have z := y vs (SqL.of (sub _ _ (s.h _ _ h)))
      rw [e2] at z; cases z
      have z := y' us (SqL.of (sub _ _ (s.h _ _ h2)))
      rw [e2'] at z; cases z
      exact .inr ⟨p, _, rfl, hn, e, fun hf => rel_tup hf (.cons (rv.mono s _ _) (.cons (rv'.mono s _ _) .nil))⟩

/-! ### sources -/
section
variable {X : Cx} {C : Ct} {Ow : List Nat} {pos p : Pos} {tg e e2 : Expr} {i : Ex} {is : Exs}
/-- a list or a tuple -/
theorem pi_seq {tl : TE} (hl : PE X e tl) : PI X tg e (fun σ H Rr => tl σ H fun x H1 => (∃ a, x = .ref a ∧ (∃ xs, SqL X.K H1 a xs) ∧ Rr (Itl X.K a) H1) ∨ ∃ a, x = .ref a ∧ (∃ xs, SqT X.K H1 a xs) ∧ Rr (Itt X.K a) H1) := by
  refine ⟨fun pins s σ H R I h => ?_⟩
  refine thn (hl.run pins s σ H _ I h) fun v s1 ⟨x, H1, I1, r1, q1⟩ => ?_
  rcases q1 with ⟨a, e, ⟨xs, hq⟩, q⟩ | ⟨a, e, ⟨xs, hq⟩, q⟩
  · subst e
    cases r1
    obtain ⟨its, rv, p, hz⟩ := I1.list hq
    refine wpAny_pyIter_list p.isList ?_
    refine ⟨s1.heap.objs.size, [s1.heap.objs.size], _, _, H1, rfl, I1.kept (t' := s1.toks) fun b o e => Heap.get?_push_of_some _ e, turn_list a _, ⟨_, Heap.get?_push_size _ rfl, rfl, rfl⟩, fun b hb => ?_, q⟩
    have e : b = s1.heap.objs.size := by simpa using hb
    subst e
    exact I1.fpOk (Nat.le_refl _) (I1.hok.fresh (Nat.le_refl _))
  · subst e
    cases r1
    obtain ⟨its, rv, p, hz⟩ := I1.tuple hq
    refine wpAny_pyIter_tuple (show s1.heap.IsTuple a its.toArray from p) ?_
    refine ⟨s1.heap.objs.size, [s1.heap.objs.size], _, _, H1, rfl, I1.kept (t' := s1.toks) fun b o e => Heap.get?_push_of_some _ e, turn_tuple a _, ⟨_, Heap.get?_push_size _ rfl, rfl, rfl⟩, fun b hb => ?_, q⟩
    have e : b = s1.heap.objs.size := by simpa using hb
    subst e
    exact I1.fpOk (Nat.le_refl _) (I1.hok.fresh (Nat.le_refl _))
theorem itm1 {Φ : Fns} {k : Ik} {σe : Sl} {g g' : G} {xs : List D} (m : itm Φ k (.cons i .nil) σe g = .ok xs g') : ∃ v, ev Φ i σe g = .ok v g' ∧ itV k [v] = some xs := by
  unfold itm evs at m
  obtain ⟨vs, g1, m1, m⟩ := bind_eq_ok m
  obtain ⟨v, g2, m2, m1⟩ := bind_eq_ok m1
  obtain ⟨ws, g3, m3, m1⟩ := bind_eq_ok m1
  unfold evs at m3
  cases m3; cases m1
  obtain ⟨m4, e⟩ := lift_eq_ok m
  clear m
  subst e
  exact ⟨v, m2, m4⟩
theorem itm0 {Φ : Fns} {k : Ik} {σe : Sl} {g g' : G} {xs : List D} (m : itm Φ k is σe g = .ok xs g') : ∃ vs, evs Φ is σe g = .ok vs g' ∧ itV k vs = some xs := by
  unfold itm at m
  obtain ⟨vs, g1, m1, m2⟩ := bind_eq_ok m
  obtain ⟨m4, e⟩ := lift_eq_ok m2
  clear m m2
  subst e
  exact ⟨vs, m1, m4⟩
theorem itV_seq {v : D} {xs : List D} (h : itV .seq [v] = some xs) : v = .list xs ∨ v = .tuple xs := by
  cases v <;> simp [itV] at h
  · exact .inl (by rw [h])
  · exact .inr (by rw [h])
theorem itV_rng1 {vs xs : List D} (h : itV .rng1 vs = some xs) : ∃ j : Int, vs = [.int j] ∧ (-4611686018427387904 ≤ j ∧ j < 4611686018427387904) ∧ xs = rangeD 0 j.toNat := by
  rcases vs with _ | ⟨v, _ | ⟨w, r⟩⟩
  · simp [itV] at h
  · cases v <;> simp [itV] at h
    exact ⟨_, rfl, ⟨by omega, by omega⟩, h.2.symm⟩
  · simp [itV] at h
theorem itV_rngd {vs xs : List D} (h : itV .rngd vs = some xs) : ∃ i j : Int, vs = [.int i, .int j, .int (-1)] ∧ (-4611686018427387904 ≤ i ∧ i < 4611686018427387904 ∧ -4611686018427387904 ≤ j ∧ j < 4611686018427387904) ∧ xs = downD i (i - j).toNat := by
  rcases vs with _ | ⟨v, _ | ⟨w, _ | ⟨u, _ | ⟨u2, r⟩⟩⟩⟩
  · simp [itV] at h
  · simp [itV] at h
  · simp [itV] at h
  · cases v <;> cases w <;> cases u <;> simp [itV] at h
    obtain ⟨⟨h1, h2⟩, h3⟩ := h
    subst h2
    exact ⟨_, _, rfl, ⟨by omega, by omega, by omega, by omega⟩, h3.symm⟩
  · simp [itV] at h
theorem itV_rng2 {vs xs : List D} (h : itV .rng2 vs = some xs) : ∃ i j : Int, vs = [.int i, .int j] ∧ (-4611686018427387904 ≤ i ∧ i < 4611686018427387904 ∧ -4611686018427387904 ≤ j ∧ j < 4611686018427387904) ∧ xs = rangeD i (j - i).toNat := by
  rcases vs with _ | ⟨v, _ | ⟨w, _ | ⟨u, r⟩⟩⟩
  · simp [itV] at h
  · simp [itV] at h
  · cases v <;> cases w <;> simp [itV] at h
    exact ⟨_, _, rfl, ⟨by omega, by omega, by omega, by omega⟩, h.2.symm⟩
  · simp [itV] at h
theorem itV_enum {vs xs : List D} (h : itV .enum vs = some xs) : ∃ ys, (vs = [.list ys] ∨ vs = [.tuple ys]) ∧ xs = ys.zipIdx.map fun p => .tuple [.int p.2, p.1] := by
  rcases vs with _ | ⟨v, _ | ⟨w, r⟩⟩
  · simp [itV] at h
  · cases v <;> simp [itV] at h
    · exact ⟨_, .inl rfl, h.symm⟩
    · exact ⟨_, .inr rfl, h.symm⟩
  · simp [itV] at h
theorem itV_zip {vs xs : List D} (h : itV .zip vs = some xs) : ∃ ys zs, vs = [.list ys, .list zs] ∧ xs = (ys.zip zs).map fun p => .tuple [p.1, p.2] := by
  rcases vs with _ | ⟨v, _ | ⟨w, _ | ⟨u, r⟩⟩⟩
  · simp [itV] at h
  · simp [itV] at h
  · cases v <;> cases w <;> simp [itV] at h
    exact ⟨_, _, rfl, h.2.symm⟩
  · simp [itV] at h
theorem Ei.seq (hK : X.K = C.K) (h : Es X C Ow e i) : Ei X C Ow tg e .seq (.cons i .nil) :=
  ⟨pi_con (pi_seq h.run) fun σ H Q ⟨T, F, σe, g, xs, g', r, m, q⟩ => by
    obtain ⟨v, m1, m2⟩ := itm1 m
    refine ⟨T, F, σe, g, v, g', r, m1, fun F1 H1 x s1 r1 h1 => ?_⟩
    rcases itV_seq m2 with e | e
    · subst e
      unfold Rel at h1
      obtain ⟨a, vs, rfl, ha, rl⟩ := h1
      exact .inl ⟨a, rfl, ⟨vs, SqL.of (r1.sub _ _ ha)⟩, q F1 H1 _ s1 r1 (walk_list hK ha rl)⟩
    · subst e
      unfold Rel at h1
      obtain ⟨a, vs, rfl, ha, rl⟩ := h1
      exact .inr ⟨a, rfl, ⟨vs, by rw [hK]; exact sqT_mono r1.sub ha⟩, q F1 H1 _ s1 r1 (walk_tup hK ha rl)⟩⟩
theorem Ei.rng1 (hg : Gl X "range") (hm : X.mg "range" = none) (ha : Ea X C Ow [e] is) (hs : starEach [e] X.env = [(false, eval e X.env)]) : Ei X C Ow tg (.Call (.Name "range" p) [e] [] pos) .rng1 is :=
  ⟨pi_con (pi_range1 hg hm ha.run hs) fun σ H Q ⟨T, F, σe, g, xs, g', r, m, q⟩ => by
    obtain ⟨vs, m1, m2⟩ := itm0 m
    obtain ⟨j, e1, hc, e2⟩ := itV_rng1 m2
    subst e1; subst e2
    refine ⟨T, F, σe, g, _, g', r, m1, fun F1 H1 ys s1 r1 h1 => ?_⟩
    obtain ⟨y, yr, rfl, e1, e2⟩ := h1.inv
    unfold Rel at e1
    rw [e1, e2.inv0]
    exact ⟨j, rfl, by omega, by omega, q F1 H1 _ s1 r1 walk_rng⟩⟩
theorem Ei.rng2 (hg : Gl X "range") (hm : X.mg "range" = none) (ha : Ea X C Ow [e, e2] is) (hs : starEach [e, e2] X.env = [(false, eval e X.env), (false, eval e2 X.env)]) (hs2 : starEach [e2] X.env = [(false, eval e2 X.env)]) : Ei X C Ow tg (.Call (.Name "range" p) [e, e2] [] pos) .rng2 is :=
  ⟨pi_con (pi_range2 hg hm ha.run hs hs2) fun σ H Q ⟨T, F, σe, g, xs, g', r, m, q⟩ => by
    obtain ⟨vs, m1, m2⟩ := itm0 m
    obtain ⟨j, k, e1, hc, e2⟩ := itV_rng2 m2
    subst e1; subst e2
    refine ⟨T, F, σe, g, _, g', r, m1, fun F1 H1 ys s1 r1 h1 => ?_⟩
    obtain ⟨y, yr, rfl, e1, e2⟩ := h1.inv
    obtain ⟨z, zr, rfl, e3, e4⟩ := e2.inv
    unfold Rel at e1 e3
    rw [e1, e3, e4.inv0]
    exact ⟨j, k, rfl, ⟨by omega, by omega, by omega, by omega⟩, q F1 H1 _ s1 r1 walk_rng⟩⟩
theorem Ei.rngd {e3 : Expr} (hg : Gl X "range") (hm : X.mg "range" = none) (ha : Ea X C Ow [e, e2, e3] is) (hs : starEach [e, e2, e3] X.env = (false, eval e X.env) :: starEach [e2, e3] X.env) (hpl : (backTo pos (starEach [e2, e3] X.env)).any (·.1) = false) : Ei X C Ow tg (.Call (.Name "range" p) [e, e2, e3] [] pos) .rngd is :=
  ⟨pi_con (pi_range3 hg hm ha.run hs hpl) fun σ H Q ⟨T, F, σe, g, xs, g', r, m, q⟩ => by
    obtain ⟨vs, m1, m2⟩ := itm0 m
    obtain ⟨j, k, e1, hc, e2⟩ := itV_rngd m2
    subst e1; subst e2
    refine ⟨T, F, σe, g, _, g', r, m1, fun F1 H1 ys s1 r1 h1 => ?_⟩
    obtain ⟨y, yr, rfl, e1, e2⟩ := h1.inv
    obtain ⟨z, zr, rfl, e3, e4⟩ := e2.inv
    obtain ⟨w, wr, rfl, e5, e6⟩ := e4.inv
    unfold Rel at e1 e3 e5
    rw [e1, e3, e5, e6.inv0]
    exact ⟨j, k, -1, _, rfl, .neg (by omega) (by omega) (by omega) (by omega), q F1 H1 _ s1 r1 walk_down⟩⟩
theorem Ei.enum {elts : List Expr} {kk : Nat} {tpos : Pos} (hK : X.K = C.K) (hg : Gl X "enumerate") (hm : X.mg "enumerate" = none) (ha : Ea X C Ow [e] is) (hs : starEach [e] X.env = [(false, eval e X.env)]) : Ei X C Ow (.Tuple elts kk tpos) (.Call (.Name "enumerate" p) [e] [] pos) .enum is :=
  ⟨pi_con (pi_en hg hm ha.run hs) fun σ H Q ⟨T, F, σe, g, xs, g', r, m, q⟩ => by
    obtain ⟨vs, m1, m2⟩ := itm0 m
    obtain ⟨ds, e1, e2⟩ := itV_enum m2
    subst e2
    refine ⟨T, F, σe, g, _, g', r, m1, fun F1 H1 ys s1 r1 h1 => ?_⟩
    rcases e1 with rfl | rfl
    · obtain ⟨y, yr, rfl, e1, e2⟩ := h1.inv
      unfold Rel at e1
      obtain ⟨a, us, rfl, ha, rl⟩ := e1
      rw [e2.inv0]
      exact ⟨a, us, rfl, .inl ⟨SqL.of (r1.sub _ _ ha), q F1 H1 _ s1 r1 (walk_enum ha rl)⟩⟩
    · obtain ⟨y, yr, rfl, e1, e2⟩ := h1.inv
      unfold Rel at e1
      obtain ⟨a, us, rfl, ha, rl⟩ := e1
      rw [e2.inv0]
      exact ⟨a, us, rfl, .inr ⟨by rw [hK]; exact sqT_mono r1.sub ha, q F1 H1 _ s1 r1 (walk_enumT hK ha rl)⟩⟩⟩
theorem Ei.zip {elts : List Expr} {kk : Nat} {tpos : Pos} (hK : X.K = C.K) (hg : Gl X "zip") (hm : X.mg "zip" = none) (ha : Ea X C Ow [e, e2] is) (hs : starEach [e, e2] X.env = (false, eval e X.env) :: starEach [e2] X.env) (hpl : (backTo pos (starEach [e2] X.env)).any (·.1) = false) : Ei X C Ow (.Tuple elts kk tpos) (.Call (.Name "zip" p) [e, e2] [] pos) .zip is :=
  ⟨pi_con (pi_zip hg hm ha.run hs hpl) fun σ H Q ⟨T, F, σe, g, xs, g', r, m, q⟩ => by
    obtain ⟨vs, m1, m2⟩ := itm0 m
    obtain ⟨ds, es, e1, e2⟩ := itV_zip m2
    subst e1; subst e2
    refine ⟨T, F, σe, g, _, g', r, m1, fun F1 H1 ys s1 r1 h1 => ?_⟩
    obtain ⟨y, yr, rfl, e1, e2⟩ := h1.inv
    obtain ⟨z, zr, rfl, e3, e4⟩ := e2.inv
    unfold Rel at e1 e3
    obtain ⟨a, us, rfl, ha, rl⟩ := e1
    obtain ⟨b, ws, rfl, hb, rl2⟩ := e3
    rw [e4.inv0]
    exact ⟨a, b, us, ws, rfl, SqL.of (r1.sub _ _ ha), SqL.of (r1.sub _ _ hb), q F1 H1 _ s1 r1 (walk_zip ha rl hb rl2)⟩⟩

/-! ### comprehensions -/
/-- the tests of a clause: none, or one -/
structure Ec (X : Cx) (C : Ct) (Ow : List Nat) (ifs : List Expr) (i : Ex) : Prop where
  run : PTs X ifs (tT C Ow (ev C.Φ i))
theorem pts_con {X : Cx} {es : List Expr} {t t' : TT} (h : PTs X es t) (c : ∀ σ H Q, t' σ H Q → t σ H Q) : PTs X es t' := ⟨fun pins s σ H Q I hw => h.run pins s σ H Q I (c σ H Q hw)⟩
theorem Ec.none : Ec X C Ow [] (.c (.bool true)) := ⟨pts_con pts_nil fun σ H Q ⟨T, F, σe, g, b, g', r, m, q⟩ => by
  unfold ev at m
  cases m
  exact q F H (.refl F) r⟩
theorem Ec.one (h : Et X C Ow e i) : Ec X C Ow [e] i := ⟨pts_one h.run⟩
/-- what a turn of a comprehension reckons -/
def cturn (Φ : Fns) (t : List Nat) (cond elt : Ex) (σ : Sl) : D → G → Res (Option D) := fun x g => (lift (setT t x (wipeS σ t)) g).bind fun σ' g => (ev Φ cond σ' g).bind fun b g => match b with
  | .bool true => (ev Φ elt σ' g).bind fun v g => .ok (some v) g
  | .bool false => .ok none g
  | _ => .no
theorem comp_eq {Φ : Fns} {t : List Nat} {k : Ik} {as : Exs} {cond elt : Ex} {σ : Sl} {g g' : G} {v : D} (m : ev Φ (.comp t k as cond elt) σ g = .ok v g') :
    ∃ xs ys g1, itm Φ k as σ g = .ok xs g1 ∧ xs.length ≤ lineN ∧ compL (cturn Φ t cond elt σ) xs [] g1 = .ok ys g' ∧ v = .list ys := by
  unfold ev at m
  obtain ⟨vs, g1, m1, m⟩ := bind_eq_ok m
  obtain ⟨xs, g2, m2, m⟩ := bind_eq_ok m
  split at m
  · rename_i hl
    obtain ⟨ys, g3, m3, m⟩ := bind_eq_ok m
    cases m
    refine ⟨xs, ys, g2, ?_, of_decide_eq_true hl, m3, rfl⟩
    unfold itm
    rw [m1]; exact m2
  · cases m
theorem compL_len (f : D → G → Res (Option D)) : ∀ (xs acc : List D) (g g' : G) (ys : List D), compL f xs acc g = .ok ys g' → ys.length ≤ acc.length + xs.length
  | [], acc, g, g', ys, h => by
    unfold compL at h
    cases h
    rw [List.length_reverse]; exact Nat.le_add_right _ _
  | x :: r, acc, g, g', ys, h => by
    unfold compL at h
    obtain ⟨o, g1, h1, h⟩ := bind_eq_ok h
    cases o with
    | none => have := compL_len f r acc _ _ _ h; rw [List.length_cons]; omega
    | some y => have := compL_len f r _ _ _ _ h; rw [List.length_cons] at *; omega
theorem setMany_out : ∀ (t : List Nat) (vs : List D) (σ σ' : Sl) (i : Nat), setMany t vs σ = some σ' → i ∉ t → σ'[i]? = σ[i]?
  | [], [], σ, σ', i, h, _ => by cases h; rfl
  | [], _ :: _, σ, σ', i, h, _ => by cases h
  | _ :: _, [], σ, σ', i, h, _ => by cases h
  | j :: t, v :: vs, σ, σ', i, h, hi => by
    rw [setMany_out t vs _ _ i h fun z => hi (List.mem_cons_of_mem _ z)]
    exact List.getElem?_set_ne (fun z : j = i => hi (by rw [z]; exact List.mem_cons_self))
theorem setT_out {t : List Nat} {v : D} {σ σ' : Sl} {i : Nat} (h : setT t v σ = some σ') (hi : i ∉ t) : σ'[i]? = σ[i]? := by
  unfold setT at h
  split at h
  · cases h
    refine List.getElem?_set_ne fun z => hi ?_
    rw [z]; exact List.mem_cons_self
  · exact setMany_out _ _ _ _ _ h hi
  · exact setMany_out _ _ _ _ _ h hi
  · cases h
theorem wipeS_out {σ : Sl} {i : Nat} : ∀ {t : List Nat}, i ∉ t → (wipeS σ t)[i]? = σ[i]?
  | [], _ => rfl
  | j :: t, h => by
    show ((wipeS σ t).set j none)[i]? = _
    rw [List.getElem?_set_ne (show j ≠ i from fun z => h (by rw [z]; exact List.mem_cons_self))]
    exact wipeS_out fun z => h (List.mem_cons_of_mem _ z)
theorem wipe_out2 {σ : L2.St} {i : Nat} : ∀ {t : List Nat}, i ∉ t → (L2.wipe σ t)[i]? = σ[i]?
  | [], _ => rfl
  | j :: t, h => by
    show ((L2.wipe σ t).set j none)[i]? = _
    rw [List.getElem?_set_ne (show j ≠ i from fun z => h (by rw [z]; exact List.mem_cons_self))]
    exact wipe_out2 fun z => h (List.mem_cons_of_mem _ z)
/-- back to the slots as they stood, but for those of t -/
theorem R.back {T T' : Hp} {F F5 : Fz} {σe σ' : Sl} {g g5 : G} {σ σ2 : L2.St} {H H5 : Hp} {t : List Nat} (r : R C Ow T F σe g σ H) (r5 : R C Ow T' F5 σ' g5 σ2 H5) (s : Fsub F F5) (out : ∀ i, i ∉ t → σ'[i]? = σe[i]? ∧ σ2[i]? = σ[i]?) (ht : ∀ i ∈ t, i ∉ Ow) : R C Ow T' F5 σe g5 σ H5 := by
  have no : ∀ i, i ∈ Ow → i ∉ t := fun i hi z => ht i z hi
  refine ⟨r5.sub, r5.sc, r5.grow, r5.new, r5.keep, r5.dnew, r.len, fun i v e n => ?_, fun i v e n => ?_, fun i j a hi hj h1 h2 q1 q2 => ?_, r5.dk, fun a o e => ?_, r.slf⟩
  · obtain ⟨x, e1, e2⟩ := r.fz i v e n
    exact ⟨x, e1, e2.mono s _ _⟩
  · obtain ⟨o1, o2⟩ := out i (no i n)
    obtain ⟨a, e1, e2⟩ := r5.ow i v (o1.trans e) n
    exact ⟨a, o2.symm.trans e1, e2⟩
  · obtain ⟨o1, o2⟩ := out i (no i hi)
    obtain ⟨o3, o4⟩ := out j (no j hj)
    exact r5.inj i j a hi hj (by rw [o1]; exact h1) (by rw [o3]; exact h2) (o2.trans q1) (o4.trans q2)
  · obtain ⟨e1, e2, e3, e4, e5⟩ := r5.hold a o e
    refine ⟨e1, e2, e3, e4, fun j v hj q => ?_⟩
    obtain ⟨o1, o2⟩ := out j (no j hj)
    rw [← o2]
    exact e5 j v hj (o1.trans q)
/-- the reading of a comprehension -/
theorem lc_run {elt cond : Ex} {t : List Nat} {k : Ik} {is : Exs} {σ : L2.St} {H : Hp} {Q : VK} (ht : ∀ i ∈ t, i ∉ Ow) (h : tF C Ow (ev C.Φ (.comp t k is cond elt)) σ H Q) :
    tLc (tI C Ow (itm C.Φ k is)) (gS C Ow t) (tT C Ow (ev C.Φ cond)) (tS C Ow (ev C.Φ elt)) t σ H Q := by
  obtain ⟨T, F, σe, g, v, g', r, m, q⟩ := h
  obtain ⟨xs, ys, g1, m1, hl, m2, rfl⟩ := comp_eq m
  refine ⟨T, F, σe, g, xs, g1, r, m1, fun F1 H1 J s1 r1 w => fun D hD => ?_⟩
  refine ⟨fun i m H => ∃ F2 g2 acc vs, m + i = xs.length ∧ Fsub F1 F2 ∧ R C Ow (upd T D (.lst vs)) F2 σe g2 σ H ∧ RelL C.K F2 acc.reverse vs ∧ acc.length ≤ i ∧ compL (cturn C.Φ t cond elt σe) (xs.drop i) acc g2 = .ok ys g', ⟨xs.length, F1, g1, [], [], rfl, .refl _, r1.take hD, .nil, Nat.le_refl _, by rw [List.drop_zero]; exact m2⟩, ?_⟩
  rintro i m H ⟨F2, g2, acc, vs, hm, s2, r2, ra, hacc, hc⟩
  have holdD : (upd T D (.lst vs)) D = some (.lst vs) := upd_same
  have tD : T D = none := r1.tn hD
  by_cases hi : i < xs.length
  · refine .inr ⟨w.go i F2 H hi s2 r2.sub, fun H => ∃ m', m' < m ∧ (∃ F2 g2 acc vs, m' + (i + 1) = xs.length ∧ Fsub F1 F2 ∧ R C Ow (upd T D (.lst vs)) F2 σe g2 σ H ∧ RelL C.K F2 acc.reverse vs ∧ acc.length ≤ i + 1 ∧ compL (cturn C.Φ t cond elt σe) (xs.drop (i + 1)) acc g2 = .ok ys g'), fun H' h => h, fun x H' hy => ?_⟩
    have hd : xs[i]? = some xs[i] := List.getElem?_eq_getElem hi
    rw [List.drop_eq_getElem_cons hi] at hc
    unfold compL at hc
    obtain ⟨o, g3, hc1, hc2⟩ := bind_eq_ok hc
    unfold cturn at hc1
    obtain ⟨σ', g4, hc3, hc4⟩ := bind_eq_ok hc1
    obtain ⟨hc5, e⟩ := lift_eq_ok hc3
    subst e
    obtain ⟨b, g5, hc6, hc7⟩ := bind_eq_ok hc4
    -- the item
    obtain ⟨F3, s3, r3, rx⟩ : ∃ F3, Fsub F2 F3 ∧ R C Ow (upd T D (.lst vs)) F3 σe g4 σ H' ∧ Rel C.K F3 xs[i] x := by
      rcases w.yld i _ F2 H x H' hd s2 r2.sub hy with ⟨e, rx⟩ | ⟨p, o', rfl, hn, e, rx⟩
      · subst e; exact ⟨F2, .refl _, r2, rx⟩
      · subst e; exact ⟨F2.put p o', Fsub.put (r2.fn hn), r2.laid hn, rx (r2.fn hn)⟩
    refine ⟨_, F3, _, g4, xs[i], σ', r3.wipe t ht, rx, hc5, fun σ2 r4 w2 => ⟨by rw [w2, wipe_wipe t t fun _ h => h], ?_⟩⟩
    have out : ∀ i, i ∉ t → σ'[i]? = σe[i]? ∧ σ2[i]? = σ[i]? := fun i hi => ⟨(setT_out hc5 hi).trans (wipeS_out hi), by
      have z : (L2.wipe σ2 t)[i]? = (L2.wipe (L2.wipe σ t) t)[i]? := by rw [w2]
      rw [wipe_out2 hi, wipe_out2 hi, wipe_out2 hi] at z
      exact z⟩
    split at hc7
    · obtain ⟨y, g6, hc8, hc9⟩ := bind_eq_ok hc7
      injection hc9 with e1 e2
      subst e1; subst e2
      refine ⟨_, F3, σ', _, true, g5, r4, hc6, fun F5 H5 s5 r5 => iteT ⟨_, F5, σ', g5, y, _, r5, hc8, fun F6 H6 yv s6 r6 ry => ?_⟩⟩
      have r7 := r3.back (t := t) r6 (s5.trans s6) out ht
      have hh := r7.hold D _ holdD
      refine ⟨vs, hh.1, ?_, m - 1, by omega, F6, _, y :: acc, vs ++ [yv], by omega, s2.trans (s3.trans (s5.trans s6)), ?_, ?_, by rw [List.length_cons]; omega, hc2⟩
      · have e1 := ra.length
        rw [List.length_reverse] at e1
        rw [← e1]
        exact lineN_lt (by omega)
      · have z := r7.held (o' := .lst (vs ++ [yv])) holdD
        rw [upd_upd] at z
        exact z
      · rw [List.reverse_cons]
        exact (ra.mono (s3.trans (s5.trans s6)) _ _).append (.cons ry .nil)
    · cases hc7
      refine ⟨_, F3, σ', _, false, _, r4, hc6, fun F5 H5 s5 r5 => iteF ?_⟩
      have r7 := r3.back (t := t) r5 s5 out ht
      exact ⟨m - 1, by omega, F5, _, acc, vs, by omega, s2.trans (s3.trans s5), r7, ra.mono (s3.trans s5) _ _, by omega, hc2⟩
    · cases hc7
  · have e : i = xs.length := by omega
    subst e
    rw [List.drop_length] at hc
    unfold compL at hc
    cases hc
    refine .inl ⟨w.stop F2 H s2 r2.sub, ?_⟩
    have hh := r2.hold D _ holdD
    refine q F2 H D (s1.trans s2) (r2.letgo fun a o e => ?_) ⟨⟨vs, hh.1, ra⟩, hh.2.1, hh.2.2.1, hh.2.2.2.1, hh.2.2.2.2, tD⟩
    have ne : a ≠ D := fun z => by rw [z, tD] at e; cases e
    rw [upd_ne ne]; exact e
theorem Ef.comp {elt iter : Expr} {ifs : List Expr} {scope : Scope} {own : List (Str × Nat)} {t : List Nat} {k : Ik} {cond ei : Ex} (hc : X.calm = true) (hN : X.N.Nodup) (hi : Ei X C Ow tg iter k is) (ok : BlkOk X.N X.env.scope scope own) (hown : own.map (·.2) = t)
    (hg : ∀ (s : Shared) (H : Hp) (A : Addr) (cl : List (Str × Addr)) (fp : List Addr), Eg (X.blk s H scope (compEnvC scope cl A X.env) fp) C Ow tg t)
    (ht : ∀ (s : Shared) (H : Hp) (A : Addr) (cl : List (Str × Addr)) (fp : List Addr), Ec (X.blk s H scope (compEnvC scope cl A X.env) fp) C Ow ifs cond)
    (he : ∀ (s : Shared) (H : Hp) (A : Addr) (cl : List (Str × Addr)) (fp : List Addr), Es (X.blk s H scope (compEnvC scope cl A X.env) fp) C Ow elt ei)
    (hs : ∀ x, foldedSetIterable iter X.env x = pure x) (hno : ∀ i ∈ t, i ∉ Ow) : Ef X C Ow (.ListComp elt [⟨tg, iter, ifs, 0⟩] scope pos) (.comp t k is cond ei) :=
  ⟨pe_con (pe_lc hc hN hi.run ok (fun s H A cl fp => (hg s H A cl fp).run) (fun s H A cl fp => (ht s H A cl fp).run) (fun s H A cl fp => (he s H A cl fp).run) hs) fun σ H Q h => by
    rw [hown]
    exact lc_run hno h⟩
end
end Pv
end

section
/-! PvG: the rules for statements. -/
set_option autoImplicit false
namespace Pv
open PySem PySem.Spec PyProof.Rows L2

abbrev Mf := Sl → G → Res Fl
def EndOk (C : Ct) (T : Hp) (Ow' OwL : List Nat) (F : Fz) (g' : G) (D : Ends) : Fl → Prop
  | .nx σe' => ∀ F' σ' H', Fsub F F' → R C Ow' T F' σe' g' σ' H' → D.nx σ' H'
  | .bk σe' => ∀ F' σ' H', Fsub F F' → R C OwL T F' σe' g' σ' H' → D.bk σ' H'
  | .ct σe' => ∀ F' σ' H', Fsub F F' → R C OwL T F' σe' g' σ' H' → D.ct σ' H'
  | .rt v => ∀ F' Ow2 σe2 σ2 H' x, Fsub F F' → R C Ow2 T F' σe2 g' σ2 H' → Rel C.K F' v x → D.rt x H'
def tSt (C : Ct) (Ow Ow' OwL : List Nat) (m : Mf) : TS := fun D σ H => ∃ T F σe g fl g', R C Ow T F σe g σ H ∧ m σe g = .ok fl g' ∧ EndOk C T Ow' OwL F g' D fl
structure Ss (X : Cx) (C : Ct) (Ow Ow' OwL : List Nat) (st : Stmt) (m : Sm) : Prop where
  run : PS X st (tSt C Ow Ow' OwL (run C.Φ C.fu m))
structure Sb (X : Cx) (C : Ct) (Ow Ow' OwL : List Nat) (sts : List Stmt) (m : Sm) : Prop where
  run : PSs X sts (tSt C Ow Ow' OwL (Pv.run C.Φ C.fu m))
theorem EndOk.mono {C : Ct} {T : Hp} {Ow' OwL : List Nat} {F F1 : Fz} {g' : G} {D : Ends} (s : Fsub F F1) : ∀ {fl : Fl}, EndOk C T Ow' OwL F g' D fl → EndOk C T Ow' OwL F1 g' D fl
  | .nx _, h => fun F' σ' H' s' r => h F' σ' H' (s.trans s') r
  | .bk _, h => fun F' σ' H' s' r => h F' σ' H' (s.trans s') r
  | .ct _, h => fun F' σ' H' s' r => h F' σ' H' (s.trans s') r
  | .rt _, h => fun F' Ow2 σe2 σ2 H' x s' r q => h F' Ow2 σe2 σ2 H' x (s.trans s') r q

section
variable {C : Ct} {Ow Ow2 : List Nat} {T : Hp} {F F' : Fz} {σe σe' : Sl} {g g' : G} {σ : L2.St} {H H' : Hp} {v v' : D} {x : V}
theorem R.congr (r : R C Ow T F σe g σ H) (h : ∀ j, j ∈ Ow ↔ j ∈ Ow2) : R C Ow2 T F σe g σ H :=
  ⟨r.sub, r.sc, r.grow, r.new, r.keep, r.dnew, r.len, fun i v e n => r.fz i v e fun z => n ((h i).mp z), fun i v e n => r.ow i v e ((h i).mpr n), fun i j a hi hj => r.inj i j a ((h i).mpr hi) ((h j).mpr hj), r.dk,
    fun a o e => let ⟨e1, e2, e3, e4, e5⟩ := r.hold a o e; ⟨e1, e2, e3, e4, fun i v hi => e5 i v ((h i).mpr hi)⟩, fun a e z => r.slf a e ((h 0).mpr z)⟩
theorem R.dropAll : ∀ (L : List Nat) {F : Fz}, R C (L ++ Ow2) T F σe g σ H → ∃ F', Fsub F F' ∧ R C Ow2 T F' σe g σ H
  | [], F, r => ⟨F, .refl F, r⟩
  | i :: L, F, r => by
    by_cases h : i ∈ L ++ Ow2
    · have r' : R C (L ++ Ow2) T F σe g σ H := R.congr (Ow := i :: (L ++ Ow2)) r fun j => by
        rw [List.mem_cons]
        constructor
        · rintro (rfl | z)
          · exact h
          · exact z
        · exact .inr
      exact r'.dropAll L
    · have r0 : R C (i :: (L ++ Ow2)) T F σe g σ H := r
      obtain ⟨F1, s1, r1⟩ := r0.drop h
      obtain ⟨F2, s2, r2⟩ := r1.dropAll L
      exact ⟨F2, s1.trans s2, r2⟩
theorem R.less (r : R C Ow T F σe g σ H) (h : ∀ j ∈ Ow2, j ∈ Ow) : ∃ F', Fsub F F' ∧ R C Ow2 T F' σe g σ H :=
  R.dropAll Ow (r.congr fun j => by
    rw [List.mem_append]
    exact ⟨.inl, fun z => z.elim id (h j)⟩)
/-- what a name holds alone is changed -/
theorem R.write {i : Nat} {a : Addr} {o' : HO} (r : R C Ow T F σe g σ H) (hi : i ∈ Ow) (e : σe[i]? = some (some v)) (ea : σ[i]? = some (some (V.ref a))) (h : OwnAt C.K F (upd H a o') v' a) : R C Ow T F (σe.set i (some v')) g σ (upd H a o') := by
  obtain ⟨b, e1, e2, e3, e4, e5⟩ := r.ow i v e hi
  rw [ea] at e1
  have e1 : V.ref a = V.ref b := Option.some.inj (Option.some.inj e1)
  cases e1
  have hl : i < σe.length := (List.getElem?_eq_some_iff.mp e).1
  have there : ∀ {j : Nat}, (∃ w, (σe.set i (some v'))[j]? = some (some w)) → ∃ w, σe[j]? = some (some w) := fun {j} ⟨w, q⟩ => by
    by_cases hj : j = i
    · exact ⟨v, hj ▸ e⟩
    · rw [List.getElem?_set_ne (Ne.symm hj)] at q; exact ⟨w, q⟩
  refine ⟨fun c u q => ?_, r.sc, r.grow, r.new, fun c u q => ?_, r.dnew, by rw [List.length_set]; exact r.len, fun j w q n => ?_, fun j w q n => ?_, fun j k c hj hk h1 h2 => r.inj j k c hj hk (there h1) (there h2), ?_, fun c u q => ?_, r.slf⟩
  · have ne : c ≠ a := fun z => by rw [z, e4] at q; cases q
    rw [upd_ne ne]; exact r.sub c u q
  · have ne : c ≠ a := fun z => by rw [z, e3] at q; cases q
    rw [upd_ne ne]; exact r.keep c u q
  · have hj : j ≠ i := fun z => n (z ▸ hi)
    rw [List.getElem?_set_ne (Ne.symm hj)] at q
    exact r.fz j w q n
  · by_cases hj : j = i
    · subst hj
      rw [List.getElem?_set_self hl] at q
      cases q
      exact ⟨a, ea, h, e3, e4, e5⟩
    · rw [List.getElem?_set_ne (Ne.symm hj)] at q
      obtain ⟨c, q1, q2, q3, q4, q5⟩ := r.ow j w q n
      have ne : c ≠ a := fun z => hj (r.inj j i a n hi ⟨w, q⟩ ⟨v, e⟩ (z ▸ q1) ea)
      exact ⟨c, q1, q2.move (.refl F) fun u z => by rw [upd_ne ne]; exact z, q3, q4, q5⟩
  · have dk := r.dk
    cases g with
    | none => exact dk
    | some st =>
      obtain ⟨d, l, z, ne, f1, f2, hl, hd⟩ := dk
      have n1 : d ≠ a := fun y => e5 ⟨d, l, z, .inl y.symm⟩
      have n2 : l ≠ a := fun y => e5 ⟨d, l, z, .inr y.symm⟩
      exact ⟨d, l, z, ne, f1, f2, (upd_ne n2).trans hl, (upd_ne n1).trans hd⟩
  · obtain ⟨q1, q2, q3, q4, q5⟩ := r.hold c u q
    have ne : c ≠ a := fun z => q5 i v hi e (z ▸ ea)
    refine ⟨(upd_ne ne).trans q1, q2, q3, q4, fun j w hj z => ?_⟩
    obtain ⟨w', z'⟩ := there ⟨w, z⟩
    exact q5 j w' hj z'
/-- a name is given a new thing to hold alone -/
theorem R.own {i : Nat} {a : Addr} (hs : C.slf = none ∨ i ≠ 0) (r : R C Ow T F σe g σ H) (n : New C Ow T F σe σ H v a) : R C (i :: Ow) T F (σe.set i (some v)) g (σ.set i (some (V.ref a))) H := by
  obtain ⟨o0, eo⟩ := n.at_.there
  refine ⟨r.sub, r.sc, r.grow, r.new, r.keep, r.dnew, by rw [List.length_set, List.length_set]; exact r.len, fun j w e hj => ?_, fun j w e hj => ?_, fun j k c hj hk h1 h2 q1 q2 => ?_, r.dk, fun c o e => ?_, fun c e z => ?_⟩
  · have n1 : j ≠ i := fun z => hj (z ▸ List.mem_cons_self)
    have n2 : j ∉ Ow := fun z => hj (List.mem_cons_of_mem _ z)
    rw [List.getElem?_set_ne (Ne.symm n1)] at e
    obtain ⟨y, e1, e2⟩ := r.fz j w e n2
    exact ⟨y, by rw [List.getElem?_set_ne (Ne.symm n1)]; exact e1, e2⟩
  · by_cases hji : j = i
    · subst hji
      have hl : j < σe.length := by
        have := (List.getElem?_eq_some_iff.mp e).1
        rwa [List.length_set] at this
      rw [List.getElem?_set_self hl] at e
      cases e
      exact ⟨a, by rw [List.getElem?_set_self (r.len ▸ hl)], n.at_, n.h0, n.fn, n.nd⟩
    · rw [List.getElem?_set_ne (Ne.symm hji)] at e
      obtain ⟨c, e1, e2⟩ := r.ow j w e ((List.mem_cons.mp hj).resolve_left hji)
      exact ⟨c, by rw [List.getElem?_set_ne (Ne.symm hji)]; exact e1, e2⟩
  · have one : ∀ j, j ∈ i :: Ow → j ≠ i → (∃ w, (σe.set i (some v))[j]? = some (some w)) → (σ.set i (some (V.ref a)))[j]? = some (some (V.ref c)) → j ∈ Ow ∧ (∃ w, σe[j]? = some (some w)) ∧ σ[j]? = some (some (V.ref c)) := fun j hj hji ⟨w, h⟩ q => by
      rw [List.getElem?_set_ne (Ne.symm hji)] at h q
      exact ⟨(List.mem_cons.mp hj).resolve_left hji, ⟨w, h⟩, q⟩
    have self : (σ.set i (some (V.ref a)))[i]? = some (some (V.ref c)) → c = a := fun q => by
      have hl : i < σ.length := by
        have := (List.getElem?_eq_some_iff.mp q).1
        rwa [List.length_set] at this
      rw [List.getElem?_set_self hl] at q
      cases q; rfl
    by_cases hji : j = i
    · by_cases hki : k = i
      · exact hji.trans hki.symm
      · subst hji
        have z := self q1
        obtain ⟨z1, ⟨w, z2⟩, z3⟩ := one k hk hki h2 q2
        exact (n.no k w z1 z2 (z ▸ z3)).elim
    · obtain ⟨z1, ⟨w, z2⟩, z3⟩ := one j hj hji h1 q1
      by_cases hki : k = i
      · subst hki
        have z := self q2
        exact (n.no j w z1 z2 (z ▸ z3)).elim
      · obtain ⟨y1, y2, y3⟩ := one k hk hki h2 q2
        exact r.inj j k c z1 y1 ⟨w, z2⟩ y2 z3 y3
  · obtain ⟨e1, e2, e3, e4, e5⟩ := r.hold c o e
    refine ⟨e1, e2, e3, e4, fun j w hj q => ?_⟩
    by_cases hji : j = i
    · subst hji
      have hl : j < σe.length := by
        have := (List.getElem?_eq_some_iff.mp q).1
        rwa [List.length_set] at this
      rw [List.getElem?_set_self (r.len ▸ hl)]
      intro z
      cases z
      rw [n.nt] at e; cases e
    · rw [List.getElem?_set_ne (Ne.symm hji)] at q ⊢
      exact e5 j w ((List.mem_cons.mp hj).resolve_left hji) q
  · rcases hs with hs | hs
    · rw [hs] at e; cases e
    · rw [List.getElem?_set_ne hs]
      exact r.slf c e ((List.mem_cons.mp z).resolve_left (Ne.symm hs))
end

section
variable {X : Cx} {C : Ct} {Ow Ow' Ow1 Ow2 OwL : List Nat} {st : Stmt} {rest sts : List Stmt} {e : Expr} {i ie : Ex} {m m' : Sm} {pos pos' : Pos}
/-! ### blocks -/
theorem Sb.nil : Sb X C Ow Ow OwL [] .skip := ⟨pss_con pss_nil fun D σ H ⟨T, F, σe, g, fl, g', r, m, q⟩ => by
  unfold Pv.run at m
  cases m
  exact q F σ H (.refl F) r⟩
theorem Sb.one (h : Ss X C Ow Ow' OwL st m) : Sb X C Ow Ow' OwL [st] m := ⟨pss_one h.run⟩
theorem Sb.cons (h : Ss X C Ow Ow1 OwL st m) (h2 : Sb X C Ow1 Ow' OwL rest m') : Sb X C Ow Ow' OwL (st :: rest) (.seq m m') :=
  ⟨pss_con (pss_cons h.run h2.run) fun D σ H ⟨T, F, σe, g, fl, g', r, m, q⟩ => by
    unfold Pv.run at m
    obtain ⟨fl1, g1, m1, m2⟩ := bind_eq_ok m
    cases fl1 with
    | nx σ1 => exact ⟨T, F, σe, g, .nx σ1, g1, r, m1, fun F1 σ' H1 s1 r1 => ⟨T, F1, σ1, g1, fl, g', r1, m2, q.mono s1⟩⟩
    | rt v => cases m2; exact ⟨T, F, σe, g, .rt v, _, r, m1, q⟩
    | bk σ1 => cases m2; exact ⟨T, F, σe, g, .bk σ1, _, r, m1, q⟩
    | ct σ1 => cases m2; exact ⟨T, F, σe, g, .ct σ1, _, r, m1, q⟩⟩
/-- names are no longer held alone ahead of a statement -/
theorem Ss.pre (h : Ss X C Ow2 Ow' OwL st m) (s : ∀ j ∈ Ow2, j ∈ Ow) : Ss X C Ow Ow' OwL st m :=
  ⟨ps_con h.run fun D σ H ⟨T, F, σe, g, fl, g', r, m, q⟩ => by
    obtain ⟨F1, s1, r1⟩ := r.less s
    exact ⟨T, F1, σe, g, fl, g', r1, m, q.mono s1⟩⟩
theorem Sb.pre (h : Sb X C Ow2 Ow' OwL sts m) (s : ∀ j ∈ Ow2, j ∈ Ow) : Sb X C Ow Ow' OwL sts m :=
  ⟨pss_con h.run fun D σ H ⟨T, F, σe, g, fl, g', r, m, q⟩ => by
    obtain ⟨F1, s1, r1⟩ := r.less s
    exact ⟨T, F1, σe, g, fl, g', r1, m, q.mono s1⟩⟩
theorem EndOk.less {T : Hp} {F : Fz} {g' : G} {D : Ends} {OwL1 : List Nat} (s : ∀ j ∈ Ow', j ∈ Ow1) (sl : ∀ j ∈ OwL, j ∈ OwL1) : ∀ {fl : Fl}, EndOk C T Ow' OwL F g' D fl → EndOk C T Ow1 OwL1 F g' D fl
  | .nx _, h => fun F' σ' H' s' r => let ⟨F2, s2, r2⟩ := r.less s; h F2 σ' H' (s'.trans s2) r2
  | .bk _, h => fun F' σ' H' s' r => let ⟨F2, s2, r2⟩ := r.less sl; h F2 σ' H' (s'.trans s2) r2
  | .ct _, h => fun F' σ' H' s' r => let ⟨F2, s2, r2⟩ := r.less sl; h F2 σ' H' (s'.trans s2) r2
  | .rt _, h => fun F' Ow2 σe2 σ2 H' x s' r q => h F' Ow2 σe2 σ2 H' x s' r q
theorem Ss.post (h : Ss X C Ow Ow1 OwL st m) (s : ∀ j ∈ Ow', j ∈ Ow1) : Ss X C Ow Ow' OwL st m :=
  ⟨ps_con h.run fun D σ H ⟨T, F, σe, g, fl, g', r, m, q⟩ => ⟨T, F, σe, g, fl, g', r, m, q.less s fun _ z => z⟩⟩
theorem Sb.post (h : Sb X C Ow Ow1 OwL sts m) (s : ∀ j ∈ Ow', j ∈ Ow1) : Sb X C Ow Ow' OwL sts m :=
  ⟨pss_con h.run fun D σ H ⟨T, F, σe, g, fl, g', r, m, q⟩ => ⟨T, F, σe, g, fl, g', r, m, q.less s fun _ z => z⟩⟩
/-- a block that never runs to its end may promise any names -/
theorem Ss.pass : Ss X C Ow Ow OwL (.Pass pos) .skip := ⟨ps_con ps_pass fun D σ H ⟨T, F, σe, g, fl, g', r, m, q⟩ => by
  unfold Pv.run at m
  cases m
  exact q F σ H (.refl F) r⟩
theorem Ss.brk : Ss X C Ow Ow' Ow (.Break pos) .brk := ⟨ps_con ps_break fun D σ H ⟨T, F, σe, g, fl, g', r, m, q⟩ => by
  unfold Pv.run at m
  cases m
  exact q F σ H (.refl F) r⟩
theorem Ss.cnt : Ss X C Ow Ow' Ow (.Continue pos) .cnt := ⟨ps_con ps_continue fun D σ H ⟨T, F, σe, g, fl, g', r, m, q⟩ => by
  unfold Pv.run at m
  cases m
  exact q F σ H (.refl F) r⟩
theorem Ss.bad : Ss X C Ow Ow' OwL st .bad := ⟨ps_con ps_never fun D σ H ⟨T, F, σe, g, fl, g', r, m, q⟩ => by
  unfold Pv.run at m
  cases m⟩
theorem Ss.ret (h : Es X C Ow e i) : Ss X C Ow Ow' OwL (.Return (some e) pos) (.ret i) := ⟨ps_con (ps_ret h.run) fun D σ H ⟨T, F, σe, g, fl, g', r, m, q⟩ => by
  unfold Pv.run at m
  obtain ⟨v, g1, m1, m2⟩ := bind_eq_ok m
  cases m2
  exact ⟨T, F, σe, g, v, _, r, m1, fun F1 H1 x s1 r1 h1 => q F1 _ σe σ H1 x s1 r1 h1⟩⟩
theorem Ss.retN : Ss X C Ow Ow' OwL (.Return none pos) (.ret (.c .none)) := ⟨ps_con ps_retN fun D σ H ⟨T, F, σe, g, fl, g', r, m, q⟩ => by
  unfold Pv.run ev at m
  cases m
  exact q F _ σe σ H _ (.refl F) r rel_non⟩
theorem Ss.ex (h : Eb X C Ow e i) (hs : swapsWith e none pos.line X.env = pure false) : Ss X C Ow Ow OwL (.Expr e pos) (.ex i) := ⟨ps_con (ps_expr h.run hs) fun D σ H ⟨T, F, σe, g, fl, g', r, m, q⟩ => by
  unfold Pv.run at m
  obtain ⟨v, g1, m1, m2⟩ := bind_eq_ok m
  cases m2
  exact ⟨T, F, σe, g, v, _, r, m1, fun F1 H1 x s1 r1 _ => q F1 σ H1 s1 r1⟩⟩
theorem Ss.doc {x : Str} {j : Nat} : Ss X C Ow Ow OwL (.Expr (.Constant (.str x) j pos) pos') .skip := ⟨ps_con ps_doc fun D σ H ⟨T, F, σe, g, fl, g', r, m, q⟩ => by
  unfold Pv.run at m
  cases m
  exact q F σ H (.refl F) r⟩
theorem Ss.ite {t : Expr} {a b : List Stmt} {it : Ex} {ma mb : Sm} (ht : Et X C Ow t it) (ha : Sb X C Ow Ow' OwL a ma) (hb : Sb X C Ow Ow' OwL b mb) : Ss X C Ow Ow' OwL (.If t a b pos) (.ite it ma mb) :=
  ⟨ps_con (ps_if ht.run ha.run hb.run) fun D σ H ⟨T, F, σe, g, fl, g', r, m, q⟩ => by
    unfold Pv.run at m
    obtain ⟨v, g1, m1, m2⟩ := bind_eq_ok m
    split at m2
    · exact ⟨T, F, σe, g, _, g1, r, m1, fun F1 H1 s1 r1 => iteT ⟨T, F1, σe, g1, fl, g', r1, m2, q.mono s1⟩⟩
    · exact ⟨T, F, σe, g, _, g1, r, m1, fun F1 H1 s1 r1 => iteF ⟨T, F1, σe, g1, fl, g', r1, m2, q.mono s1⟩⟩
    · cases m2⟩

/-! ### stores -/
theorem Ss.set {tg : Expr} {t : List Nat} (h : Es X C Ow e i) (hg : Eg X C Ow tg t) (hs : swapsWithSole [tg] e pos.line X.env = pure false) (hw : swappedStores [tg] e X.env = pure none) (h1 : (assignEach [tg] X.env).map (·.2) = [assign tg X.env]) :
    Ss X C Ow Ow OwL (.Assign [tg] e pos) (.set t i) := ⟨ps_con (ps_asg h.run hg.run hs hw h1) fun D σ H ⟨T, F, σe, g, fl, g', r, m, q⟩ => by
  unfold Pv.run at m
  obtain ⟨v, g1, m1, m2⟩ := bind_eq_ok m
  obtain ⟨σe', g2, m3, m4⟩ := bind_eq_ok m2
  obtain ⟨m5, e5⟩ := lift_eq_ok m3
  subst e5
  cases m4
  exact ⟨T, F, σe, g, v, _, r, m1, fun F1 H1 x s1 r1 h1 => ⟨T, F1, σe, _, v, σe', r1, h1, m5, fun σ' r' _ => q F1 σ' H1 s1 r'⟩⟩⟩
theorem Ss.setG {tg : Expr} {ts : List (List Nat)} (h : Es X C Ow e i) (hg : EgG X C Ow tg ts) (hs : swapsWithSole [tg] e pos.line X.env = pure false) (hw : swappedStores [tg] e X.env = pure none) (h1 : (assignEach [tg] X.env).map (·.2) = [assign tg X.env]) :
    Ss X C Ow Ow OwL (.Assign [tg] e pos) (.setG ts i) := ⟨ps_con (ps_asg h.run hg.run hs hw h1) fun D σ H ⟨T, F, σe, g, fl, g', r, m, q⟩ => by
  unfold Pv.run at m
  obtain ⟨v, g1, m1, m2⟩ := bind_eq_ok m
  obtain ⟨σe', g2, m3, m4⟩ := bind_eq_ok m2
  obtain ⟨m5, e5⟩ := lift_eq_ok m3
  subst e5
  cases m4
  exact ⟨T, F, σe, g, v, _, r, m1, fun F1 H1 x s1 r1 h1 => ⟨T, F1, σe, _, v, σe', r1, h1, m5, fun σ' r' => q F1 σ' H1 s1 r'⟩⟩⟩
theorem Ss.own {x : Str} (n : Nat) (h : Ef X C Ow e i) (hN : X.N.Nodup) (hi : X.N[n]? = some x) (hx : Loc X.env.scope x) (hf : X.fn x = true ∨ X.env.scope.names.lookup x = some .local) (hs : swapsWith e (some (.Name x pos')) pos.line X.env = pure false) (hsl : C.slf = none ∨ n ≠ 0) :
    Ss X C Ow (n :: Ow) OwL (.Assign [.Name x pos'] e pos) (.set [n] i) := ⟨ps_con (ps_set hN hi hx h.run hs hf) fun D σ H ⟨T, F, σe, g, fl, g', r, m, q⟩ => by
  unfold Pv.run at m
  obtain ⟨v, g1, m1, m2⟩ := bind_eq_ok m
  cases m2
  exact ⟨T, F, σe, g, v, _, r, m1, fun F1 H1 a s1 r1 h1 => q F1 _ H1 s1 (r1.own hsl h1)⟩⟩
theorem Ss.par {x y : Str} {a b : Expr} {ia ib : Ex} {px py pt : Pos} {kt k2 : Nat} {pt2 : Pos} (n k : Nat) (hc : X.calm = true) (hN : X.N.Nodup) (hi : X.N[n]? = some x) (hj : X.N[k]? = some y) (hij : n ≠ k) (hn : n ∉ Ow) (hk : k ∉ Ow)
    (hx : X.env.scope.names.lookup x = some .local) (hy : X.env.scope.names.lookup y = some .local) (ha : Ea X C Ow [a, b] (.cons ia (.cons ib .nil)))
    (hw : swappedStores [.Tuple [.Name x px, .Name y py] kt pt] (.Tuple [a, b] k2 pt2) X.env = pure (some [x, y]))
    (hs : swapsWithSole [.Tuple [.Name x px, .Name y py] kt pt] (.Tuple [a, b] k2 pt2) pos.line X.env = pure false) :
    Ss X C Ow Ow OwL (.Assign [.Tuple [.Name x px, .Name y py] kt pt] (.Tuple [a, b] k2 pt2) pos) (.par n k ia ib) := ⟨ps_con (ps_par hc hN hi hj hij hx hy ha.run hw hs) fun D σ H ⟨T, F, σe, g, fl, g', r, m, q⟩ => by
  unfold Pv.run at m
  obtain ⟨v, g1, m1, m2⟩ := bind_eq_ok m
  obtain ⟨w, g2, m3, m4⟩ := bind_eq_ok m2
  cases m4
  refine ⟨T, F, σe, g, [v, w], g', r, ?_, fun F1 H1 xs s1 r1 h1 => ?_⟩
  · simp only [evs, m1, m3, bind_ok]
  · obtain ⟨x1, xr, rfl, e1, e2⟩ := h1.inv
    obtain ⟨x2, xr2, rfl, e3, e4⟩ := e2.inv
    rw [e4.inv0]
    exact ⟨x1, x2, rfl, q F1 _ H1 s1 ((r1.setS hn e1).setS hk e3)⟩⟩
theorem Ss.par3 {x y z : Str} {a b c : Expr} {ia ib ic : Ex} {px py pz pt : Pos} {kt k2 : Nat} {pt2 : Pos} (n k l : Nat) (hc : X.calm = true) (hN : X.N.Nodup) (hi : X.N[n]? = some x) (hj : X.N[k]? = some y) (hl : X.N[l]? = some z) (hij : n ≠ k) (hil : n ≠ l) (hjl : k ≠ l) (hn : n ∉ Ow) (hk : k ∉ Ow) (hll : l ∉ Ow)
    (hx : X.env.scope.names.lookup x = some .local) (hy : X.env.scope.names.lookup y = some .local) (hz : X.env.scope.names.lookup z = some .local) (ha : Ea X C Ow [a, b, c] (.cons ia (.cons ib (.cons ic .nil))))
    (hw : swappedStores [.Tuple [.Name x px, .Name y py, .Name z pz] kt pt] (.Tuple [a, b, c] k2 pt2) X.env = pure (some [x, y, z]))
    (hs : swapsWithSole [.Tuple [.Name x px, .Name y py, .Name z pz] kt pt] (.Tuple [a, b, c] k2 pt2) pos.line X.env = pure false) :
    Ss X C Ow Ow OwL (.Assign [.Tuple [.Name x px, .Name y py, .Name z pz] kt pt] (.Tuple [a, b, c] k2 pt2) pos) (.par3 n k l ia ib ic) := ⟨ps_con (ps_par3 hc hN hi hj hl hij hil hjl hx hy hz ha.run hw hs) fun D σ H ⟨T, F, σe, g, fl, g', r, m, q⟩ => by
  unfold Pv.run at m
  obtain ⟨v, g1, m1, m2⟩ := bind_eq_ok m
  obtain ⟨w, g2, m3, m4⟩ := bind_eq_ok m2
  obtain ⟨u, g3, m5, m6⟩ := bind_eq_ok m4
  cases m6
  refine ⟨T, F, σe, g, [v, w, u], g', r, ?_, fun F1 H1 xs s1 r1 h1 => ?_⟩
  · simp only [evs, m1, m3, m5, bind_ok]
  · obtain ⟨x1, xr, rfl, e1, e2⟩ := h1.inv
    obtain ⟨x2, xr2, rfl, e3, e4⟩ := e2.inv
    obtain ⟨x3, xr3, rfl, e5, e6⟩ := e4.inv
    rw [e6.inv0]
    exact ⟨x1, x2, x3, rfl, q F1 _ H1 s1 (((r1.setS hn e1).setS hk e3).setS hll e5)⟩⟩
theorem op_ip (o : Bop) : PIp X (bop o) (fun x y H Q => ∃ va vb v F K, Sh K F H va x ∧ Sh K F H vb y ∧ augV o va vb = some v ∧ ∀ z, Rel K F v z → Q z H) := by
  intro pins s σ H x y u w Q I rx ry h
  obtain ⟨va, vb, v, F, K, ha, hb, hv, q⟩ := h
  unfold augV at hv
  split at hv
  · cases hv; cases ha; cases hb
    exact iop_add pins s σ H _ _ u w Q I rx ry ⟨_, _, rfl, rfl, q _ rel_int⟩
  · cases hv; cases ha; cases hb
    exact iop_sub pins s σ H _ _ u w Q I rx ry ⟨_, _, rfl, rfl, q _ rel_int⟩
  · cases ha; cases hb
    split at hv
    · rename_i hc
      cases hv
      simp only [Bool.or_eq_true, decide_eq_true_eq] at hc
      refine iop_mul pins s σ H _ _ u w Q I rx ry ⟨_, _, rfl, rfl, ?_, q _ rel_int⟩
      rcases hc with hc | hc
      · exact .inl ⟨by omega, by omega⟩
      · exact .inr ⟨by omega, by omega⟩
    · cases hv
  · cases ha; cases hb
    split at hv
    · rename_i hc
      cases hv
      simp only [Bool.and_eq_true, decide_eq_true_eq] at hc
      exact iop_fdiv pins s σ H _ _ u w Q I rx ry ⟨_, _, rfl, rfl, hc, q _ rel_int⟩
    · cases hv
  · cases ha; cases hb
    split at hv
    · rename_i hc
      cases hv
      simp only [decide_eq_true_eq] at hc
      exact iop_add_str pins s σ H _ _ u w Q I rx ry ⟨_, _, rfl, rfl, lineN_le hc, q _ rel_str⟩
    · cases hv
  · cases hv
theorem slot_ok {σ : Sl} {n : Nat} {g g' : G} {v : D} (h : slot σ n g = .ok v g') : σ[n]? = some (some v) ∧ g' = g := by
  unfold slot at h
  split at h
  · cases h; exact ⟨by assumption, rfl⟩
  · cases h
theorem Ss.aug {x : Str} (n : Nat) (o : Bop) (hn : n ∉ Ow) (h : Eb X C Ow e i) (hN : X.N.Nodup) (hi : X.N[n]? = some x) (hx : Loc X.env.scope x) (hf : X.fn x = true ∨ X.env.scope.names.lookup x = some .local) :
    Ss X C Ow Ow OwL (.AugAssign (.Name x pos') (bop o) e pos) (.aug n o i) := ⟨ps_con (ps_aug hN hi hx h.run (op_ip o) hf) fun D σ H ⟨T, F, σe, g, fl, g', r, m, q⟩ => by
  unfold Pv.run at m
  obtain ⟨v, g1, m1, m2⟩ := bind_eq_ok m
  obtain ⟨e1, e2⟩ := slot_ok m1
  subst e2
  obtain ⟨w, g2, m3, m4⟩ := bind_eq_ok m2
  obtain ⟨z, g3, m5, m6⟩ := bind_eq_ok m4
  obtain ⟨m7, e7⟩ := lift_eq_ok m5
  subst e7
  cases m6
  obtain ⟨x1, q1, q2⟩ := r.fz n v e1 hn
  exact ⟨x1, q1, T, F, σe, _, w, _, r, m3, fun F1 H1 y s1 r1 b1 => ⟨v, w, z, F1, C.K, (q2.mono s1 _ _).sh r1.sub, r1.sh b1, m7, fun z' hz => q F1 _ H1 s1 (r1.setS hn hz)⟩⟩⟩

/-! ### loops -/
theorem Ss.for_ {tg iter : Expr} {body : List Stmt} {t : List Nat} {k : Ik} {is : Exs} (hp : PassesOwn (model X.prog X.w) X.A X.env X.xe) (hc : X.calm = true) (hi : Ei X C Ow tg iter k is) (hg : Eg X C Ow tg t) (hb : Sb X C Ow Ow Ow body m)
    (hs : ∀ x, foldedSetIterable iter X.env x = pure x) : Ss X C Ow Ow OwL (.For tg iter body [] pos) (.forr t k is m) :=
  ⟨ps_con (ps_for hp hc hi.run hg.run hb.run hs) fun D σ H ⟨T, F, σe, g, fl, g', r, mm, q⟩ => by
    unfold Pv.run at mm
    obtain ⟨vs, g1, m1, m2⟩ := bind_eq_ok mm
    obtain ⟨xs, g2, m3, m4⟩ := bind_eq_ok m2
    have mi : itm C.Φ k is σe g = .ok xs g2 := by
      unfold itm
      rw [m1]; exact m3
    refine ⟨T, F, σe, g, xs, g2, r, mi, fun F1 H1 J s1 r1 w => ?_⟩
    refine ⟨fun j n σ H => ∃ F2 σe2 g2, n + j = xs.length ∧ Fsub F1 F2 ∧ R C Ow T F2 σe2 g2 σ H ∧ forL (fun x σ g => (lift (setT t x σ) g).bind fun σ g => Pv.run C.Φ C.fu m σ g) (xs.drop j) σe2 g2 = .ok fl g', ⟨xs.length, F1, σe, _, rfl, .refl _, r1, by rw [List.drop_zero]; exact m4⟩, ?_⟩
    rintro j n σ H ⟨F2, σe2, g3, hn, s2, r2, hl⟩
    by_cases hj : j < xs.length
    · have hd : xs[j]? = some xs[j] := List.getElem?_eq_getElem hj
      rw [List.drop_eq_getElem_cons hj] at hl
      unfold forL at hl
      obtain ⟨fl1, g4, l1, l2⟩ := bind_eq_ok hl
      obtain ⟨σe3, g5, l3, l4⟩ := bind_eq_ok l1
      obtain ⟨l5, e5⟩ := lift_eq_ok l3
      subst e5
      refine .inr ⟨w.go j F2 H hj s2 r2.sub, fun σ H => ∃ m', m' < n ∧ ∃ F2 σe2 g2, m' + (j + 1) = xs.length ∧ Fsub F1 F2 ∧ R C Ow T F2 σe2 g2 σ H ∧ forL (fun x σ g => (lift (setT t x σ) g).bind fun σ g => Pv.run C.Φ C.fu m σ g) (xs.drop (j + 1)) σe2 g2 = .ok fl g', fun σ' H' h => h, fun x H' hy => ?_⟩
      obtain ⟨F3, s3, r3, rx⟩ : ∃ F3, Fsub F2 F3 ∧ R C Ow T F3 σe2 g5 σ H' ∧ Rel C.K F3 xs[j] x := by
        rcases w.yld j _ F2 H x H' hd s2 r2.sub hy with ⟨e, rx⟩ | ⟨p, o', rfl, hf, e, rx⟩
        · subst e; exact ⟨F2, .refl _, r2, rx⟩
        · subst e; exact ⟨F2.put p o', Fsub.put (r2.fn hf), r2.laid hf, rx (r2.fn hf)⟩
      refine ⟨T, F3, σe2, g5, xs[j], σe3, r3, rx, l5, fun σ3 r4 _ => ⟨T, F3, σe3, g5, fl1, g4, r4, l4, ?_⟩⟩
      cases fl1 with
      | nx σe4 => exact fun F5 σ5 H5 s5 r5 => ⟨n - 1, by omega, F5, σe4, g4, by omega, s2.trans (s3.trans s5), r5, l2⟩
      | ct σe4 => exact fun F5 σ5 H5 s5 r5 => ⟨n - 1, by omega, F5, σe4, g4, by omega, s2.trans (s3.trans s5), r5, l2⟩
      | bk σe4 =>
        cases l2
        exact fun F5 σ5 H5 s5 r5 => q F5 σ5 H5 (s1.trans (s2.trans (s3.trans s5))) r5
      | rt v =>
        cases l2
        exact fun F5 Ow5 σe5 σ5 H5 x5 s5 r5 h5 => q F5 Ow5 σe5 σ5 H5 x5 (s1.trans (s2.trans (s3.trans s5))) r5 h5
    · have e : j = xs.length := by omega
      subst e
      rw [List.drop_length] at hl
      unfold forL at hl
      cases hl
      exact .inl ⟨w.stop F2 H s2 r2.sub, q F2 σ H (s1.trans s2) r2⟩⟩
theorem Ss.while_ {t : Expr} {body : List Stmt} {it : Ex} (hp : PassesOwn (model X.prog X.w) X.A X.env X.xe) (ht : Et X C Ow t it) (hb : Sb X C Ow Ow Ow body m) : Ss X C Ow Ow OwL (.While t body [] pos) (.whil it m) :=
  ⟨ps_con (ps_while hp ht.run hb.run) fun D σ H ⟨T, F, σe, g, fl, g', r, mm, q⟩ => by
    unfold Pv.run at mm
    refine ⟨fun n σ H => ∃ F2 σe2 g2, Fsub F F2 ∧ R C Ow T F2 σe2 g2 σ H ∧ whileL (fun σ g => ev C.Φ it σ g) (fun σ g => Pv.run C.Φ C.fu m σ g) n σe2 g2 = .ok fl g', ⟨C.fu, F, σe, g, .refl _, r, mm⟩, ?_⟩
    rintro n σ H ⟨F2, σe2, g2, s2, r2, hl⟩
    cases n with
    | zero => unfold whileL at hl; cases hl
    | succ n =>
      unfold whileL at hl
      obtain ⟨v, g3, l1, l2⟩ := bind_eq_ok hl
      split at l2
      · obtain ⟨fl1, g4, l3, l4⟩ := bind_eq_ok l2
        refine ⟨T, F2, σe2, g2, _, g3, r2, l1, fun F3 H3 s3 r3 => iteT ⟨fun σ H => ∃ m', m' < n + 1 ∧ ∃ F2 σe2 g2, Fsub F F2 ∧ R C Ow T F2 σe2 g2 σ H ∧ whileL (fun σ g => ev C.Φ it σ g) (fun σ g => Pv.run C.Φ C.fu m σ g) m' σe2 g2 = .ok fl g', fun σ' H' h => h, T, F3, σe2, g3, fl1, g4, r3, l3, ?_⟩⟩
        cases fl1 with
        | nx σe4 => exact fun F5 σ5 H5 s5 r5 => ⟨n, Nat.lt_succ_self n, F5, σe4, g4, s2.trans (s3.trans s5), r5, l4⟩
        | ct σe4 => exact fun F5 σ5 H5 s5 r5 => ⟨n, Nat.lt_succ_self n, F5, σe4, g4, s2.trans (s3.trans s5), r5, l4⟩
        | bk σe4 =>
          cases l4
          exact fun F5 σ5 H5 s5 r5 => q F5 σ5 H5 (s2.trans (s3.trans s5)) r5
        | rt v =>
          cases l4
          exact fun F5 Ow5 σe5 σ5 H5 x5 s5 r5 h5 => q F5 Ow5 σe5 σ5 H5 x5 (s2.trans (s3.trans s5)) r5 h5
      · cases l2
        exact ⟨T, F2, σe2, g2, _, _, r2, l1, fun F3 H3 s3 r3 => iteF (q F3 σ H3 (s2.trans s3) r3)⟩
      · cases l2⟩
end
end Pv
end

section
/-! PvS: sorted of tuples of ints, of any length and any number. -/
set_option autoImplicit false
namespace Pv
open PySem PySem.Spec PyProof.Rows L2 Srt

/-- a tuple of these ints -/
def IsIt (h : Heap) (v : Value) (ns : List Int) : Prop := ∃ a o items n, v = .ref a ∧ h.get? a = some o ∧ o.cls = .type "tuple" ∧ o.data = .seq items n ∧ IntsAre items.toList ns
theorem IsIt.keeps {h h' : Heap} {v : Value} {ns : List Int} (p : IsIt h v ns) (k : ∀ b o, h.get? b = some o → o.cls = .type "tuple" → h'.get? b = some o) : IsIt h' v ns := by
  obtain ⟨a, o, its, n, e, ho, hc, hd, hi⟩ := p
  exact ⟨a, o, its, n, e, k _ _ ho hc, hc, hd, hi⟩
section
variable {prog : Program} {w : World} {A : Around} {s : Shared}
theorem kat_ints {Q : Bool → Shared → Prop} {b : Bool} : ∀ {vs ws : List Value} {ns ms : List Int} {fin : Bool} {i : Nat}, IntsAre vs ns → IntsAre ws ms → fin = decide (ns.length < ms.length) → Q (HT.lexLt ns ms) s → PySem.W.KatLex prog w A b fin Q (vs.zip ws) i s
  | [], ws, ns, ms, fin, i, hi, hj, hf, q => by
    cases hi
    rw [List.zip_nil_left]
    refine PySem.W.kat_nil ?_
    subst hf
    cases hj with
    | nil => exact q
    | cons y u r => exact q
  | v :: vs, [], ns, ms, fin, i, hi, hj, hf, q => by
    cases hj
    rw [List.zip_nil_right]
    refine PySem.W.kat_nil ?_
    subst hf
    cases hi with
    | cons x t r => exact q
  | v :: vs, w' :: ws, ns, ms, fin, i, hi, hj, hf, q => by
    cases hi with
    | cons x t r =>
      cases hj with
      | cons y u r2 =>
        rw [List.zip_cons_cons]
        rename_i ns' ms'
        rw [HT.lexLt_cons] at q
        refine PySem.W.kat_cons (SeqAt.EqAt.int_int x t y u prog w _ _ ?_)
        refine PySem.W.kat_go (fun e1 => ?_) (fun e1 => ?_)
        · have ex : x = y := by simpa using e1
          rw [if_pos ex] at q
          exact PySem.W.kat_yes (kat_ints r r2 (by rw [hf]; simp [List.length_cons]) q)
        · have ex : ¬ x = y := by simpa using e1
          rw [if_neg ex] at q
          refine PySem.W.kat_no ?_
          cases hb : (b && i == 0) with
          | true => exact oneLt_int q
          | false => exact PySem.W.kat_one _ _ (PyProof.Rows.lt_int q)
theorem it_cmp {vs : List Value} {k : Value → List Int} (hp : ∀ v ∈ vs, IsIt s.heap v (k v)) : SrtO.Cmp prog w A s (tuples' true) (fun p => p.1 ∈ vs) (SrtO.lt2 fun v u => HT.lexLt (k v) (k u)) := by
  intro p q hm hm'
  have h1 := hp _ hm
  have h2 := hp _ hm'
  show wpAny (model prog w) A (keyLt' (tuples' true) p.1 q.1) (fun r s' => s' = s ∧ r = HT.lexLt (k p.1) (k q.1)) (fun _ _ => False) s
  generalize k p.1 = ns at h1 ⊢
  generalize k q.1 = ms at h2 ⊢
  obtain ⟨a, o, its, n, e, ho, hc, hd, hi⟩ := h1
  obtain ⟨a', o', its', n', e', ho', hc', hd', hi'⟩ := h2
  rw [e, e']
  refine PySem.W.kat_lt ho hd ho' hd' ?_
  have l1 := hi.length
  have l2 := hi'.length
  refine kat_ints hi hi' ?_ ⟨rfl, rfl⟩
  rw [← Array.length_toList, ← Array.length_toList, l1, l2]
theorem it_firsts {h : Heap} : ∀ {vs : List Value}, (∀ v ∈ vs, ∃ x xs, IsIt h v (x :: xs)) → ∃ fs : List Value, PySem.W.KatTups h vs fs ∧ fs.length = vs.length ∧ ∀ f ∈ fs, ∃ x t, f = Value.int x t
  | [], _ => ⟨[], PySem.W.KatTups.nil, rfl, fun _ hm => by simp at hm⟩
  | v :: vs, hp => by
    obtain ⟨fs, h1, h2, h3⟩ := it_firsts (vs := vs) fun v' hm => hp v' (List.mem_cons_of_mem _ hm)
    obtain ⟨x, xs, a, o, its, n, e, ho, hc, hd, hi⟩ := hp v (List.mem_cons_self ..)
    subst e
    obtain ⟨y, ys, ey⟩ : ∃ y ys, its.toList = y :: ys := by
      cases q : its.toList with
      | nil => rw [q] at hi; cases hi
      | cons y ys => exact ⟨y, ys, rfl⟩
    rw [ey] at hi
    cases hi with
    | cons x' t r =>
    refine ⟨.int x t :: fs, PySem.W.KatTups.cons ho hc hd ?_ h1, by rw [List.length_cons, List.length_cons, h2], fun f hm => ?_⟩
    · have z := congrArg (fun l : List Value => l[0]?) ey
      simpa using z
    · rcases List.mem_cons.mp hm with rfl | hm
      · exact ⟨x, t, rfl⟩
      · exact h3 f hm
theorem its_sortable {a : Addr} {vs : List Value} {k : Value → List Int} (h0 : 0 < vs.length) (hp : ∀ v ∈ vs, IsIt s.heap v (k v)) (hn : ∀ v ∈ vs, k v ≠ []) (ha : ∀ o, s.heap.get? a = some o → o.cls ≠ .type "tuple") : SrtO.SortableO prog w A s a vs fun v u => HT.lexLt (k v) (k u) := by
  intro h' keep
  have hp' : ∀ v ∈ vs, IsIt h' v (k v) := fun v hm => (hp v hm).keeps fun b o e c => keep b o (fun z => by subst z; exact ha o e c) e
  obtain ⟨fs, h1, h2, h3⟩ := it_firsts (h := h') (vs := vs) fun v hm => by
    have q := hp' v hm
    have n := hn v hm
    cases e : k v with
    | nil => exact absurd e n
    | cons x xs => rw [e] at q; exact ⟨x, xs, q⟩
  refine ⟨tuples' true, fun Q E hq => ?_, it_cmp (s := { s with heap := h' }) hp'⟩
  refine PySem.W.kat_kind (T := .type "int") h1 (by omega) (fun f hm => ?_) (by rfl) ?_
  · obtain ⟨x, t, rfl⟩ := h3 f hm
    exact PySem.W.Looks.now
  · have e : (Value.type "int" != Value.type "tuple") = true := by first | decide +kernel | rfl | decide
    rw [e]
    exact hq
/-- what a heap holds there, read as ints -/
def readIt (h : Heap) : Value → List Int
  | .ref a => match h.get? a with
    | some o => match o.data with
      | .seq its _ => its.toList.map SrtO.iv
      | _ => []
    | none => []
  | _ => []
theorem IsIt.read {h : Heap} {v : Value} {ns : List Int} (p : IsIt h v ns) : readIt h v = ns := by
  obtain ⟨a, o, its, n, rfl, ho, hc, hd, hi⟩ := p
  unfold readIt
  simp only [ho, hd]
  exact SrtO.iv_ints hi
end
/-- these things are these tuples -/
inductive TupsAre (K : PySem.W.Frag) (H : Hp) : List V → List (List Int) → Prop
  | nil : TupsAre K H [] []
  | cons {t : Addr} {n : Int} {ns : List Int} {xs : List V} {ts : List (List Int)} (h : SqT K H t ((n :: ns).map V.int)) (r : TupsAre K H xs ts) : TupsAre K H (.ref t :: xs) ((n :: ns) :: ts)
theorem TupsAre.refs {K : PySem.W.Frag} {H : Hp} : ∀ {xs : List V} {ts : List (List Int)}, TupsAre K H xs ts → ∀ x ∈ xs, ∃ t, x = V.ref t
  | _, _, .nil, x, h => by cases h
  | _, _, .cons (t := t) h r, x, hx => by
    rcases List.mem_cons.mp hx with rfl | hx
    · exact ⟨t, rfl⟩
    · exact r.refs x hx
theorem TupsAre.its {K : PySem.W.Frag} {X : Cx} (hK : X.K = K) {pins : List (Addr × Obj)} {s : Shared} {σ : L2.St} {H : Hp} (I : Inv X pins σ H s) : ∀ {xs : List V} {ts : List (List Int)} {vs : List Value}, TupsAre K H xs ts → Vals xs vs → ts = vs.map (readIt s.heap) ∧ ∀ v ∈ vs, ∃ n ns, IsIt s.heap v (n :: ns)
  | _, _, _, .nil, .nil => ⟨rfl, fun v h => by cases h⟩
  | _, _, _, .cons (t := t) (n := n) (ns := ns) h r, .cons rv rr => by
    cases rv
    obtain ⟨e1, e2⟩ := r.its hK I rr
    subst hK
    obtain ⟨its, r1, p1, _⟩ := I.tuple h
    obtain ⟨o, ho, hc, k, hd⟩ := p1
    have ii : IsIt s.heap (.ref t) (n :: ns) := ⟨t, o, its.toArray, k, rfl, ho, hc, hd, by simpa using r1.ints⟩
    refine ⟨?_, fun v hv => ?_⟩
    · rw [List.map_cons, ii.read, e1]
    · rcases List.mem_cons.mp hv with rfl | hv
      · exact ⟨n, ns, ii⟩
      · exact e2 v hv
def rSortedIt (K : PySem.W.Frag) : List V → Hp → VK → Prop := fun vs H Q => ∃ (a : Addr) (xs : List V) (ts : List (List Int)), vs = [V.ref a] ∧ SqL K H a xs ∧ TupsAre K H xs ts ∧
  ∀ ys us p, ys.length = us.length → (ys.zip us).Perm (xs.zip ts) → us.Pairwise (fun x y => HT.lexLt y x = false) → H p = none → Q (.ref p) (upd H p (.lst ys))
theorem zip_maps {α β γ : Type} (f : α → β) (g : α → γ) : ∀ l : List α, (l.map f).zip (l.map g) = l.map fun x => (f x, g x)
  | [] => rfl
  | x :: l => by rw [List.map_cons, List.map_cons, List.zip_cons_cons, zip_maps f g l]; rfl
theorem cr_sortedIt {X : Cx} : CallR X (.builtin "sorted") (rSortedIt X.K) := by
  intro pins s σ H vs us Q I r h
  obtain ⟨a, xs, ts, rfl, hs, hx, q⟩ := h
  obtain ⟨its, rv, hl, hz⟩ := I.list hs
  obtain ⟨u, rfl, ru⟩ := vals1 r
  obtain rfl : u = Value.ref a := ru
  obtain ⟨e1, e2⟩ := refs_back rv hx.refs
  obtain ⟨t1, t2⟩ := hx.its rfl I rv
  have hp : ∀ v ∈ its, IsIt s.heap v (readIt s.heap v) := fun v hv => by
    obtain ⟨n, ns, hi⟩ := t2 v hv
    rw [hi.read]; exact hi
  have hn : ∀ v ∈ its, readIt s.heap v ≠ [] := fun v hv => by
    obtain ⟨n, ns, hi⟩ := t2 v hv
    rw [hi.read]; exact List.cons_ne_nil _ _
  refine SrtO.sorted_ord (NtL.swo_lexL (readIt s.heap)) hl.isList (by rw [← rv.length]; exact hz) (fun h2 h₁ a ha kk => ?_) fun out h1 h2 => ?_
  · refine its_sortable (s := { s with heap := h₁ }) (by omega) (fun v hm => (hp v hm).keeps fun b o e _ => (kk b o e).2) hn fun o e => ?_
    have e' : some o = some (seqObj "list" its.toArray 0) := e.symm.trans ha
    cases e'
    intro c
    exact absurd (Value.type.inj c) (by decide)
  · have h3 : ∀ u ∈ out, ∃ a, u = Value.ref a := fun u hu => e2 u (h2.perm.mem_iff.mp hu)
    obtain ⟨n, hn'⟩ := PyProof.Rows.sortedAll_at s.heap its out.toArray
    have pm : (out.map backV).Perm xs := by rw [e1]; exact h2.perm.map backV
    have hlen : (out.map backV).length ≤ sizeLine := by
      rw [pm.length_eq]; exact hz
    refine ⟨.ref _, upd H (s.heap.objs.size + 1) (.lst (out.map backV)), I.laid (t' := s.toks) (fun _ _ => PyProof.Rows.sortedAll_old) (Nat.le_succ _) ⟨hlen, out, n, vals_back h3, hn'⟩, rfl, q (out.map backV) (out.map (readIt s.heap)) _ (by rw [List.length_map, List.length_map]) ?_ ?_ (I.hok.fresh (Nat.le_succ _))⟩
    · rw [zip_maps, t1, e1, zip_maps]
      exact h2.perm.map _
    · exact List.pairwise_map.mpr (h1.imp fun {x y} z => z)
/-! ### the sorted list, by values -/
theorem insT_perm (x : List Int) : ∀ ys : List (List Int), (insT x ys).Perm (x :: ys)
  | [] => .refl _
  | y :: r => by
    unfold insT
    split
    · exact ((insT_perm x r).cons y).trans (.swap x y r)
    · exact .refl _
theorem sortT_perm : ∀ xs : List (List Int), (sortT xs).Perm xs
  | [] => .refl _
  | x :: r => (insT_perm x _).trans ((sortT_perm r).cons x)
theorem insT_sorted (x : List Int) : ∀ {ys : List (List Int)}, ys.Pairwise (fun x y => HT.lexLt y x = false) → (insT x ys).Pairwise (fun x y => HT.lexLt y x = false)
  | [], _ => by unfold insT; exact List.pairwise_singleton _ _
  | y :: r, h => by
    unfold insT
    rw [List.pairwise_cons] at h
    split
    · rename_i hc
      refine List.pairwise_cons.mpr ⟨fun z hz => ?_, insT_sorted x h.2⟩
      rcases List.mem_cons.mp ((insT_perm x r).mem_iff.mp hz) with rfl | hz
      · exact NtL.lex_asym _ _ hc
      · exact h.1 z hz
    · rename_i hc
      have hc : HT.lexLt y x = false := by simpa using hc
      refine List.pairwise_cons.mpr ⟨fun z hz => ?_, List.pairwise_cons.mpr h⟩
      rcases List.mem_cons.mp hz with rfl | hz
      · exact hc
      · exact NtL.lex_tr _ _ _ hc (h.1 z hz)
theorem sortT_sorted : ∀ xs : List (List Int), (sortT xs).Pairwise (fun x y => HT.lexLt y x = false)
  | [] => .nil
  | x :: r => insT_sorted x (sortT_sorted r)
theorem lex_eq : ∀ {xs ys : List Int}, HT.lexLt xs ys = false → HT.lexLt ys xs = false → xs = ys
  | [], [], _, _ => rfl
  | [], y :: ys, h, _ => by rw [HT.lexLt_nil_cons] at h; cases h
  | x :: xs, [], _, h => by rw [HT.lexLt_nil_cons] at h; cases h
  | x :: xs, y :: ys, h1, h2 => by
    rw [HT.lexLt_cons] at h1 h2
    by_cases e : x = y
    · rw [if_pos e] at h1
      rw [if_pos e.symm] at h2
      rw [e, lex_eq h1 h2]
    · rw [if_neg e] at h1
      rw [if_neg (Ne.symm e)] at h2
      have := of_decide_eq_false h1
      have := of_decide_eq_false h2
      omega
theorem sortT_unique {xs ys : List (List Int)} (p : xs.Perm ys) (hx : xs.Pairwise (fun x y => HT.lexLt y x = false)) (hy : ys.Pairwise (fun x y => HT.lexLt y x = false)) : xs = ys :=
  p.eq_of_pairwise (fun a b _ _ h1 h2 => lex_eq h2 h1) hx hy
theorem tups_rel {K : PySem.W.Frag} {F : Fz} {H : Hp} (s : Same F.h H) : ∀ {ds : List D} {vs : List V} {ts : List (List Int)}, RelL K F ds vs → tupsOf ds = some ts → TupsAre K H vs ts ∧ ∀ p ∈ vs.zip ts, Rel K F (tupD p.2) p.1
  | [], vs, ts, h, e => by
    rw [h.inv0]
    cases e
    exact ⟨.nil, fun p hp => by simp at hp⟩
  | .tuple ds :: r, vs, ts, h, e => by
    obtain ⟨v, vr, rfl, h1, h2⟩ := h.inv
    unfold tupsOf at e
    split at e
    · rename_i n ns ts' e1 e2
      cases e
      obtain ⟨i1, i2⟩ := tups_rel s h2 e2
      have h0 := h1
      unfold Rel at h1
      obtain ⟨a, us, rfl, q, rl⟩ := h1
      have eu := rl.ints e1
      subst eu
      refine ⟨.cons (sqT_mono s q) i1, fun p hp => ?_⟩
      rw [List.zip_cons_cons] at hp
      rcases List.mem_cons.mp hp with rfl | hp
      · show Rel K F (tupD (n :: ns)) (.ref a)
        unfold tupD Rel
        exact ⟨a, _, rfl, q, relL_ints _⟩
      · exact i2 p hp
    · cases e
  | .none :: r, vs, ts, h, e => by cases e
  | .bool _ :: r, vs, ts, h, e => by cases e
  | .int _ :: r, vs, ts, h, e => by cases e
  | .str _ :: r, vs, ts, h, e => by cases e
  | .list _ :: r, vs, ts, h, e => by cases e
  | .dict _ :: r, vs, ts, h, e => by cases e
theorem rel_of_zip {K : PySem.W.Frag} {F : Fz} : ∀ {ys : List V} {us : List (List Int)}, ys.length = us.length → (∀ p ∈ ys.zip us, Rel K F (tupD p.2) p.1) → RelL K F (us.map tupD) ys
  | [], [], _, _ => .nil
  | y :: ys, u :: us, hl, h => by
    rw [List.zip_cons_cons] at h
    exact .cons (h (y, u) List.mem_cons_self) (rel_of_zip (by simpa using hl) fun p hp => h p (List.mem_cons_of_mem _ hp))
  | [], _ :: _, hl, _ => by simp at hl
  | _ :: _, [], hl, _ => by simp at hl
theorem snd_zip {α β : Type} : ∀ {xs : List α} {ys : List β}, xs.length = ys.length → (xs.zip ys).map (·.2) = ys
  | [], [], _ => rfl
  | x :: xs, y :: ys, h => by rw [List.zip_cons_cons, List.map_cons, snd_zip (by simpa using h)]
  | [], _ :: _, h => by simp at h
  | _ :: _, [], h => by simp at h
theorem TupsAre.len {K : PySem.W.Frag} {H : Hp} : ∀ {xs : List V} {ts : List (List Int)}, TupsAre K H xs ts → xs.length = ts.length
  | _, _, .nil => rfl
  | _, _, .cons h r => by rw [List.length_cons, List.length_cons, r.len]
end Pv
end

section
/-! PvH: built-in functions, subscripts, dicts, the methods of lists. -/
set_option autoImplicit false
namespace Pv
open PySem PySem.Spec PyProof.Rows L2

section
variable {X : Cx} {C : Ct} {Ow Ow' OwL : List Nat} {e a b : Expr} {es : List Expr} {i ia ib ic : Ex} {is : Exs} {pos p apos : Pos} {x : Str}

/-! ### a built-in function by values -/
def ShL (K : PySem.W.Frag) (F : Fz) (H : Hp) : List D → List V → Prop
  | [], vs => vs = []
  | d :: ds, vs => ∃ v vr, vs = v :: vr ∧ Sh K F H d v ∧ ShL K F H ds vr
def rBi (K : PySem.W.Frag) (f : Bi) : List V → Hp → VK → Prop := fun xs H Q => ∃ F vas v, Same F.h H ∧ ShL K F H vas xs ∧ biV f vas = some v ∧ Out K F H v Q
/-- args, one or two, that are only looked at -/
structure Eas (X : Cx) (C : Ct) (Ow : List Nat) (es : List Expr) (is : Exs) : Prop where
  run : PA X es (fun σ H Q => ∃ T F σe g vs g', R C Ow T F σe g σ H ∧ evs C.Φ is σe g = .ok vs g' ∧ ∀ F' H' xs, Fsub F F' → R C Ow T F' σe g' σ H' → ShL C.K F' H' vs xs → Q xs H')
theorem Eas.one (h : Eb X C Ow e i) (hs : starEach [e] X.env = (false, eval e X.env) :: starEach [] X.env) : Eas X C Ow [e] (.cons i .nil) :=
  ⟨pa_con (pa_cons h.run pa_nil hs) fun σ H Q ⟨T, F, σe, g, vs, g', r, m, q⟩ => by
    unfold evs at m
    obtain ⟨v, g1, m1, m2⟩ := bind_eq_ok m
    obtain ⟨ws, g2, m3, m4⟩ := bind_eq_ok m2
    unfold evs at m3
    cases m3; cases m4
    exact ⟨T, F, σe, g, v, _, r, m1, fun F1 H1 y s1 r1 b1 => q F1 H1 _ s1 r1 ⟨y, [], rfl, r1.sh b1, rfl⟩⟩⟩
theorem Eas.two (h : Eb X C Ow a ia) (h2 : Eb X C Ow b ib) (hs : starEach [a, b] X.env = (false, eval a X.env) :: starEach [b] X.env) (hs2 : starEach [b] X.env = (false, eval b X.env) :: starEach [] X.env) : Eas X C Ow [a, b] (.cons ia (.cons ib .nil)) :=
  ⟨pa_con (pa_cons h.run (pa_cons h2.run pa_nil hs2) hs) fun σ H Q ⟨T, F, σe, g, vs, g', r, m, q⟩ => by
    unfold evs at m
    obtain ⟨v, g1, m1, m2⟩ := bind_eq_ok m
    obtain ⟨ws, g2, m3, m4⟩ := bind_eq_ok m2
    unfold evs at m3
    obtain ⟨v2, g3, m5, m6⟩ := bind_eq_ok m3
    obtain ⟨ws2, g4, m7, m8⟩ := bind_eq_ok m6
    unfold evs at m7
    cases m7; cases m8; cases m4
    exact ⟨T, F, σe, g, v, _, r, m1, fun F1 H1 y s1 r1 b1 => ⟨T, F1, σe, _, v2, _, r1, m5, fun F2 H2 z s2 r2 b2 => q F2 H2 _ (s1.trans s2) r2 ⟨y, [z], rfl, r2.sh (b1.mono s2), z, [], rfl, r2.sh b2, rfl⟩⟩⟩⟩
theorem Es.biB (f : Bi) {id : String} (hK : X.K = C.K) (hc : CallR X (.builtin id) (rBi X.K f)) (hg : Gl X x) (hm : X.mg x = none) (hv : bootBuiltins x = some (.builtin id)) (ha : Eas X C Ow (e :: es) is) (hn : x ≠ "__name__") (hdb : (x == ("__debug__" : Str)) = false)
    (he : starEach (e :: es) X.env = (false, eval e X.env) :: starEach es X.env) (hpl : (backTo pos (starEach es X.env)).any (·.1) = false) : Es X C Ow (.Call (.Name x p) (e :: es) [] pos) (.bi f is) :=
  ⟨pe_con (pe_callB hc hg hm hv ha.run hn hdb he hpl) fun σ H Q ⟨T, F, σe, g, v, g', r, m, q⟩ => by
    unfold ev at m
    obtain ⟨vs, g1, m1, m2⟩ := bind_eq_ok m
    obtain ⟨m3, e3⟩ := lift_eq_ok m2
    subst e3
    exact ⟨T, F, σe, g, vs, _, r, m1, fun F1 H1 xs s1 r1 h1 => ⟨F1, vs, v, r1.sub, by rw [hK]; exact h1, m3, by rw [hK]; exact r1.out fun F' H' z s r' => q F' H' z (s1.trans s) r'⟩⟩⟩
theorem Es.biT (f : Bi) {id : String} (hK : X.K = C.K) (hc : CallR X (.type id) (rBi X.K f)) (hg : Gl X x) (hm : X.mg x = none) (hv : bootBuiltins x = some (.type id)) (ha : Eas X C Ow (e :: es) is) (hn : x ≠ "__name__") (hdb : (x == ("__debug__" : Str)) = false)
    (he : starEach (e :: es) X.env = (false, eval e X.env) :: starEach es X.env) (hpl : (backTo pos (starEach es X.env)).any (·.1) = false) : Es X C Ow (.Call (.Name x p) (e :: es) [] pos) (.bi f is) :=
  ⟨pe_con (pe_callTy hc hg hm hv ha.run hn hdb he hpl) fun σ H Q ⟨T, F, σe, g, v, g', r, m, q⟩ => by
    unfold ev at m
    obtain ⟨vs, g1, m1, m2⟩ := bind_eq_ok m
    obtain ⟨m3, e3⟩ := lift_eq_ok m2
    subst e3
    exact ⟨T, F, σe, g, vs, _, r, m1, fun F1 H1 xs s1 r1 h1 => ⟨F1, vs, v, r1.sub, by rw [hK]; exact h1, m3, by rw [hK]; exact r1.out fun F' H' z s r' => q F' H' z (s1.trans s) r'⟩⟩⟩
theorem ShL.one {K : PySem.W.Frag} {F : Fz} {H : Hp} {d : D} {xs : List V} (h : ShL K F H [d] xs) : ∃ v, xs = [v] ∧ Sh K F H d v := by
  obtain ⟨v, vr, e, h1, h2⟩ := h
  exact ⟨v, by rw [e, (show vr = [] from h2)], h1⟩
theorem ShL.two {K : PySem.W.Frag} {F : Fz} {H : Hp} {d d2 : D} {xs : List V} (h : ShL K F H [d, d2] xs) : ∃ v w, xs = [v, w] ∧ Sh K F H d v ∧ Sh K F H d2 w := by
  obtain ⟨v, vr, e, h1, h2⟩ := h
  obtain ⟨w, e2, h3⟩ := ShL.one h2
  exact ⟨v, w, by rw [e, e2], h1, h3⟩
theorem cb_len : CallR X (.builtin "len") (rBi X.K .len) := by
  intro pins s σ H xs us Q I rx h
  obtain ⟨F, vas, v, sub, hs, hv, q⟩ := h
  rcases vas with _ | ⟨d, _ | ⟨d2, r⟩⟩
  · simp [biV] at hv
  · obtain ⟨y, rfl, hy⟩ := hs.one
    refine call_len pins s σ H _ us Q I rx ?_
    cases d with
    | list ds =>
      obtain ⟨a, vs, rfl, h1, h2⟩ := hy
      cases hv
      exact ⟨_, _, rfl, .inl ⟨vs, SqL.of h1, h2.length⟩, q.1 _ rel_int⟩
    | tuple ds =>
      obtain ⟨a, vs, rfl, h1, h2⟩ := hy
      cases hv
      exact ⟨_, _, rfl, .inr ⟨vs, sqT_mono sub h1, h2.length⟩, q.1 _ rel_int⟩
    | str z =>
      cases hy
      simp only [biV, lenV] at hv
      split at hv
      · rename_i hc
        cases hv
        exact ⟨_, _, rfl, ⟨lineN_le (of_decide_eq_true hc), rfl⟩, q.1 _ rel_int⟩
      · cases hv
    | _ => simp [biV, lenV] at hv
  · simp [biV] at hv
theorem cb_abs : CallR X (.builtin "abs") (rBi X.K .abs) := by
  intro pins s σ H xs us Q I rx h
  obtain ⟨F, vas, v, sub, hs, hv, q⟩ := h
  rcases vas with _ | ⟨d, _ | ⟨d2, r⟩⟩
  · simp [biV] at hv
  · obtain ⟨y, rfl, hy⟩ := hs.one
    cases d with
    | int j =>
      cases hy; cases hv
      exact call_abs pins s σ H _ us Q I rx ⟨_, rfl, q.1 _ rel_int⟩
    | _ => simp [biV] at hv
  · cases d <;> simp [biV] at hv
theorem cb_min2 (hc : X.calm = true) : CallR X (.builtin "min") (rBi X.K .min2) := by
  intro pins s σ H xs us Q I rx h
  obtain ⟨F, vas, v, sub, hs, hv, q⟩ := h
  rcases vas with _ | ⟨d, _ | ⟨d2, _ | ⟨d3, r⟩⟩⟩
  · simp [biV] at hv
  · simp [biV] at hv
  · obtain ⟨y, z, rfl, hy, hz⟩ := hs.two
    cases d with
    | int j =>
      cases d2 with
      | int k =>
        cases hy; cases hz; cases hv
        exact call_min2 hc pins s σ H _ us Q I rx ⟨_, _, rfl, q.1 _ rel_int⟩
      | _ => simp [biV] at hv
    | _ => simp [biV] at hv
  · cases d <;> cases d2 <;> simp [biV] at hv
theorem cb_max2 (hc : X.calm = true) : CallR X (.builtin "max") (rBi X.K .max2) := by
  intro pins s σ H xs us Q I rx h
  obtain ⟨F, vas, v, sub, hs, hv, q⟩ := h
  rcases vas with _ | ⟨d, _ | ⟨d2, _ | ⟨d3, r⟩⟩⟩
  · simp [biV] at hv
  · simp [biV] at hv
  · obtain ⟨y, z, rfl, hy, hz⟩ := hs.two
    cases d with
    | int j =>
      cases d2 with
      | int k =>
        cases hy; cases hz; cases hv
        exact call_max2 hc pins s σ H _ us Q I rx ⟨_, _, rfl, q.1 _ rel_int⟩
      | _ => simp [biV] at hv
    | _ => simp [biV] at hv
  · cases d <;> cases d2 <;> simp [biV] at hv
theorem cb_sum (hc : X.calm = true) : CallR X (.builtin "sum") (rBi X.K .sum) := by
  intro pins s σ H xs us Q I rx h
  obtain ⟨F, vas, v, sub, hs, hv, q⟩ := h
  rcases vas with _ | ⟨d, _ | ⟨d2, r⟩⟩
  · simp [biV] at hv
  · obtain ⟨y, rfl, hy⟩ := hs.one
    cases d with
    | list ds =>
      obtain ⟨a, vs, rfl, h1, h2⟩ := hy
      obtain ⟨ns, e1, e2⟩ := map_some hv
      subst e2
      rw [h2.ints e1] at h1
      exact cr_sum hc pins s σ H _ us Q I rx ⟨a, ns, rfl, SqL.of h1, q.1 _ rel_int⟩
    | _ => simp [biV] at hv
  · cases d <;> simp [biV] at hv
theorem cb_toInt : CallR X (.type "int") (rBi X.K .toInt) := by
  intro pins s σ H xs us Q I rx h
  obtain ⟨F, vas, v, sub, hs, hv, q⟩ := h
  rcases vas with _ | ⟨d, _ | ⟨d2, r⟩⟩
  · simp [biV] at hv
  · obtain ⟨y, rfl, hy⟩ := hs.one
    cases d with
    | int j =>
      cases hy; cases hv
      exact call_int1 pins s σ H _ us Q I rx (.inl ⟨_, rfl, q.1 _ rel_int⟩)
    | bool j =>
      cases hy; cases hv
      exact call_int1 pins s σ H _ us Q I rx (.inr ⟨_, rfl, q.1 _ rel_int⟩)
    | _ => simp [biV] at hv
  · cases d <;> simp [biV] at hv
theorem cb_toList : CallR X (.type "list") (rBi X.K .toList) := by
  intro pins s σ H xs us Q I rx h
  obtain ⟨F, vas, v, sub, hs, hv, q⟩ := h
  rcases vas with _ | ⟨d, _ | ⟨d2, r⟩⟩
  · simp [biV] at hv
  · obtain ⟨y, rfl, hy⟩ := hs.one
    cases d with
    | list ds =>
      obtain ⟨a, vs, rfl, h1, h2⟩ := hy
      cases hv
      exact call_list_of pins s σ H _ us Q I rx ⟨a, vs, rfl, .inl (SqL.of h1), fun l hl => q.2 l _ hl (rel_lst (sub.free hl) h2)⟩
    | tuple ds =>
      obtain ⟨a, vs, rfl, h1, h2⟩ := hy
      cases hv
      exact call_list_of pins s σ H _ us Q I rx ⟨a, vs, rfl, .inr (sqT_mono sub h1), fun l hl => q.2 l _ hl (rel_lst (sub.free hl) h2)⟩
    | _ => simp [biV] at hv
  · cases d <;> simp [biV] at hv
theorem cb_toTuple : CallR X (.type "tuple") (rBi X.K .toTuple) := by
  intro pins s σ H xs us Q I rx h
  obtain ⟨F, vas, v, sub, hs, hv, q⟩ := h
  rcases vas with _ | ⟨d, _ | ⟨d2, r⟩⟩
  · simp [biV] at hv
  · obtain ⟨y, rfl, hy⟩ := hs.one
    cases d with
    | list ds =>
      obtain ⟨a, vs, rfl, h1, h2⟩ := hy
      cases hv
      exact call_tuple_of pins s σ H _ us Q I rx ⟨a, vs, rfl, .inl ⟨SqL.of h1, fun l hl => q.2 l _ hl (rel_tup (sub.free hl) h2)⟩⟩
    | tuple ds =>
      obtain ⟨a, vs, rfl, h1, h2⟩ := hy
      cases hv
      exact call_tuple_of pins s σ H _ us Q I rx ⟨a, vs, rfl, .inr ⟨sqT_mono sub h1, q.1 _ (by unfold Rel; exact ⟨a, vs, rfl, h1, h2⟩)⟩⟩
    | _ => simp [biV] at hv
  · cases d <;> simp [biV] at hv
theorem bools_rel {K : PySem.W.Frag} {F : Fz} : ∀ {ds : List D} {vs : List V} {bs : List Bool}, RelL K F ds vs → boolsOf ds = some bs → vs = bs.map V.bl
  | [], vs, bs, h, e => by cases e; rw [h.inv0]; rfl
  | .bool b :: ds, vs, bs, h, e => by
    obtain ⟨v, vr, rfl, h1, h2⟩ := h.inv
    unfold boolsOf at e
    obtain ⟨cs, e1, e2⟩ := map_some e
    subst e2
    unfold Rel at h1
    rw [h1, bools_rel h2 e1]; rfl
  | .none :: r, vs, ts, h, e => by cases e
  | .tuple _ :: r, vs, ts, h, e => by cases e
  | .int _ :: r, vs, ts, h, e => by cases e
  | .str _ :: r, vs, ts, h, e => by cases e
  | .list _ :: r, vs, ts, h, e => by cases e
  | .dict _ :: r, vs, ts, h, e => by cases e
theorem cb_all (hc : X.calm = true) : CallR X (.builtin "all") (rBi X.K .all) := by
  intro pins s σ H xs us Q I rx h
  obtain ⟨F, vas, v, sub, hs, hv, q⟩ := h
  rcases vas with _ | ⟨d, _ | ⟨d2, r⟩⟩
  · simp [biV] at hv
  · obtain ⟨y, rfl, hy⟩ := hs.one
    cases d with
    | list ds =>
      obtain ⟨a, vs, rfl, h1, h2⟩ := hy
      obtain ⟨bs, e1, e2⟩ := map_some hv
      subst e2
      rw [bools_rel h2 e1] at h1
      exact cr_all hc pins s σ H _ us Q I rx ⟨a, bs, rfl, SqL.of h1, q.1 _ rel_bl⟩
    | _ => simp [biV] at hv
  · cases d <;> simp [biV] at hv
theorem maxI_top : ∀ (n : Int) (ns : List Int), maxI n ns ∈ n :: ns ∧ ∀ y, y ∈ n :: ns → y ≤ maxI n ns
  | n, [] => ⟨List.mem_cons_self, fun y h => by simp at h; subst h; exact Int.le_refl _⟩
  | n, x :: r => by
    obtain ⟨h1, h2⟩ := maxI_top (if n < x then x else n) r
    show maxI (if n < x then x else n) r ∈ _ ∧ ∀ y, _ → y ≤ maxI (if n < x then x else n) r
    generalize maxI (if n < x then x else n) r = m at *
    have hc := h2 _ List.mem_cons_self
    refine ⟨?_, fun y h => ?_⟩
    · rcases List.mem_cons.mp h1 with e | e
      · rw [e]; split <;> simp
      · exact List.mem_cons_of_mem _ (List.mem_cons_of_mem _ e)
    · rcases List.mem_cons.mp h with e | e
      · subst e; split at hc <;> omega
      · rcases List.mem_cons.mp e with e | e
        · subst e; split at hc <;> omega
        · exact h2 y (List.mem_cons_of_mem _ e)
theorem minI_low : ∀ (n : Int) (ns : List Int), minI n ns ∈ n :: ns ∧ ∀ y, y ∈ n :: ns → minI n ns ≤ y
  | n, [] => ⟨List.mem_cons_self, fun y h => by simp at h; subst h; exact Int.le_refl _⟩
  | n, x :: r => by
    obtain ⟨h1, h2⟩ := minI_low (if x < n then x else n) r
    show minI (if x < n then x else n) r ∈ _ ∧ ∀ y, _ → minI (if x < n then x else n) r ≤ y
    generalize minI (if x < n then x else n) r = m at *
    have hc := h2 _ List.mem_cons_self
    refine ⟨?_, fun y h => ?_⟩
    · rcases List.mem_cons.mp h1 with e | e
      · rw [e]; split <;> simp
      · exact List.mem_cons_of_mem _ (List.mem_cons_of_mem _ e)
    · rcases List.mem_cons.mp h with e | e
      · subst e; split at hc <;> omega
      · rcases List.mem_cons.mp e with e | e
        · subst e; split at hc <;> omega
        · exact h2 y (List.mem_cons_of_mem _ e)
theorem cb_maxL (hc : X.calm = true) : CallR X (.builtin "max") (rBi X.K .maxL) := by
  intro pins s σ H xs us Q I rx h
  obtain ⟨F, vas, v, sub, hs, hv, q⟩ := h
  rcases vas with _ | ⟨d, _ | ⟨d2, r⟩⟩
  · simp [biV] at hv
  · obtain ⟨y, rfl, hy⟩ := hs.one
    cases d with
    | list ds =>
      obtain ⟨a, vs, rfl, h1, h2⟩ := hy
      simp only [biV] at hv
      split at hv
      · rename_i n ns e1
        cases hv
        rw [h2.ints e1] at h1
        refine cr_max hc pins s σ H _ us Q I rx ⟨a, n :: ns, rfl, SqL.of h1, Nat.succ_pos _, fun m hm hy => ?_⟩
        obtain ⟨t1, t2⟩ := maxI_top n ns
        have := hy _ t1
        have := t2 _ hm
        rw [show m = maxI n ns by omega]
        exact q.1 _ rel_int
      · cases hv
    | _ => simp [biV] at hv
  · cases d <;> simp [biV] at hv
theorem cb_minL (hc : X.calm = true) : CallR X (.builtin "min") (rBi X.K .minL) := by
  intro pins s σ H xs us Q I rx h
  obtain ⟨F, vas, v, sub, hs, hv, q⟩ := h
  rcases vas with _ | ⟨d, _ | ⟨d2, r⟩⟩
  · simp [biV] at hv
  · obtain ⟨y, rfl, hy⟩ := hs.one
    cases d with
    | list ds =>
      obtain ⟨a, vs, rfl, h1, h2⟩ := hy
      simp only [biV] at hv
      split at hv
      · rename_i n ns e1
        cases hv
        rw [h2.ints e1] at h1
        refine cr_min hc pins s σ H _ us Q I rx ⟨a, n :: ns, rfl, SqL.of h1, Nat.succ_pos _, fun m hm hy => ?_⟩
        obtain ⟨t1, t2⟩ := minI_low n ns
        have := hy _ t1
        have := t2 _ hm
        rw [show m = minI n ns by omega]
        exact q.1 _ rel_int
      · cases hv
    | _ => simp [biV] at hv
  · cases d <;> simp [biV] at hv
theorem cb_any (hc : X.calm = true) : CallR X (.builtin "any") (rBi X.K .any) := by
  intro pins s σ H xs us Q I rx h
  obtain ⟨F, vas, v, sub, hs, hv, q⟩ := h
  rcases vas with _ | ⟨d, _ | ⟨d2, r⟩⟩
  · simp [biV] at hv
  · obtain ⟨y, rfl, hy⟩ := hs.one
    cases d with
    | list ds =>
      obtain ⟨a, vs, rfl, h1, h2⟩ := hy
      obtain ⟨bs, e1, e2⟩ := map_some hv
      subst e2
      rw [bools_rel h2 e1] at h1
      exact cr_any hc pins s σ H _ us Q I rx ⟨a, bs, rfl, SqL.of h1, q.1 _ rel_bl⟩
    | _ => simp [biV] at hv
  · cases d <;> simp [biV] at hv
/-! ### sorted of ints -/
theorem insI_perm (x : Int) : ∀ ys : List Int, (insI x ys).Perm (x :: ys)
  | [] => .refl _
  | y :: r => by
    unfold insI
    split
    · exact .refl _
    · exact ((insI_perm x r).cons y).trans (.swap x y r)
theorem sortI_perm : ∀ xs : List Int, (sortI xs).Perm xs
  | [] => .refl _
  | x :: r => (insI_perm x _).trans ((sortI_perm r).cons x)
theorem insI_sorted (x : Int) : ∀ {ys : List Int}, ys.Pairwise (· ≤ ·) → (insI x ys).Pairwise (· ≤ ·)
  | [], _ => by unfold insI; exact List.pairwise_singleton _ _
  | y :: r, h => by
    unfold insI
    rw [List.pairwise_cons] at h
    split
    · rename_i hc
      refine List.pairwise_cons.mpr ⟨fun z hz => ?_, List.pairwise_cons.mpr h⟩
      rcases List.mem_cons.mp hz with rfl | hz
      · exact hc
      · exact Int.le_trans hc (h.1 z hz)
    · rename_i hc
      refine List.pairwise_cons.mpr ⟨fun z hz => ?_, insI_sorted x h.2⟩
      rcases List.mem_cons.mp ((insI_perm x r).mem_iff.mp hz) with rfl | hz
      · omega
      · exact h.1 z hz
theorem sortI_sorted : ∀ xs : List Int, (sortI xs).Pairwise (· ≤ ·)
  | [] => .nil
  | x :: r => insI_sorted x (sortI_sorted r)
theorem sorted_unique {xs ys : List Int} (p : xs.Perm ys) (hx : xs.Pairwise (· ≤ ·)) (hy : ys.Pairwise (· ≤ ·)) : xs = ys :=
  p.eq_of_pairwise (fun a b _ _ h1 h2 => Int.le_antisymm h1 h2) hx hy
theorem cb_sorted : CallR X (.builtin "sorted") (rBi X.K .sorted) := by
  intro pins s σ H xs us Q I rx h
  obtain ⟨F, vas, v, sub, hs, hv, q⟩ := h
  rcases vas with _ | ⟨d, _ | ⟨d2, r⟩⟩
  · simp [biV] at hv
  · obtain ⟨y, rfl, hy⟩ := hs.one
    cases d with
    | list ds =>
      obtain ⟨a, vs, rfl, h1, h2⟩ := hy
      have hv : sortV ds = some v := hv
      unfold sortV at hv
      split at hv
      · rename_i ns e1
        cases hv
        rw [h2.ints e1] at h1
        refine cr_sortedI pins s σ H _ us Q I rx ⟨a, ns, rfl, SqL.of h1, fun ns' p hp hs' hn => ?_⟩
        have e : ns' = sortI ns := sorted_unique (hp.trans (sortI_perm ns).symm) hs' (sortI_sorted ns)
        subst e
        exact q.2 p _ hn (rel_lst (sub.free hn) (relL_ints _))
      · obtain ⟨ts, e1, e2⟩ := map_some hv
        subst e2
        obtain ⟨t1, t2⟩ := tups_rel sub h2 e1
        refine cr_sortedIt pins s σ H _ us Q I rx ⟨a, vs, ts, rfl, SqL.of h1, t1, fun ys ts' p hl hp hs' hn => ?_⟩
        have pm : ts'.Perm ts := by
          have z := hp.map (fun x => x.2)
          rw [snd_zip hl, snd_zip t1.len] at z
          exact z
        have e : ts' = sortT ts := sortT_unique (pm.trans (sortT_perm ts).symm) hs' (sortT_sorted ts)
        subst e
        exact q.2 p _ hn (rel_lst (sub.free hn) (rel_of_zip hl fun z hz => t2 z (hp.mem_iff.mp hz)))
    | _ => simp [biV] at hv
  · cases d <;> simp [biV] at hv
/-! ### divmod -/
theorem cb_divmod : CallR X (.builtin "divmod") (rBi X.K .divmod) := by
  intro pins s σ H xs us Q I rx h
  obtain ⟨F, vas, v, sub, hs, hv, q⟩ := h
  rcases vas with _ | ⟨d, _ | ⟨d2, _ | ⟨d3, r⟩⟩⟩
  · simp [biV] at hv
  · cases d <;> simp [biV] at hv
  · obtain ⟨y, z, rfl, hy, hz⟩ := hs.two
    cases d <;> cases d2 <;> simp only [biV] at hv <;> first
      | (cases hv; done)
      | (rename_i i j
         split at hv
         · rename_i c
           simp only [Bool.and_eq_true, decide_eq_true_eq] at c
           cases hv
           cases hy
           cases hz
           obtain ⟨u, w', rfl, ⟨t, rfl⟩, ⟨t', rfl⟩⟩ := vals2 rx
           refine divmod_int c.1 ?_ (.inl (PyProof.noPylong_small c.2))
           have hn : H s.heap.objs.size = none := I.hok.fresh (Nat.le_refl _)
           refine ⟨.ref s.heap.objs.size, upd H s.heap.objs.size (.tup [.int (i.fdiv j), .int (i.fmod j)]), ?_, rfl, q.2 _ _ hn (rel_tup (sub.free hn) (.cons rel_int (.cons rel_int .nil)))⟩
           refine I.laid (fun b o e => Heap.get?_push_of_some _ e) (Nat.le_refl _) ⟨by simp only [List.length_cons, List.length_nil]; rw [sizeLine_eq]; decide, [.int (i.fdiv j) s.toks, .int (i.fmod j) (s.toks + 1)], .cons ⟨_, rfl⟩ (.cons ⟨_, rfl⟩ .nil), ?_⟩
           exact ⟨_, Heap.get?_push_size s.heap rfl, rfl, 0, rfl⟩
         · cases hv)
  · cases d <;> cases d2 <;> simp [biV] at hv
/-! ### repr -/
theorem reads_scal {h : Heap} {K : PySem.W.Frag} {F : Fz} {d : D} {v : V} {u : Value} (hd : scalD d = true) (hr : Rel K F d v) (ru : RelV v u) : Reads h u d [] := by
  cases d with
  | none => unfold Rel at hr; subst hr; cases ru; exact .none
  | bool b => unfold Rel at hr; subst hr; cases ru; exact .bool b
  | int i => unfold Rel at hr; subst hr; obtain ⟨t, rfl⟩ := ru; exact .int i t
  | str y => unfold Rel at hr; subst hr; obtain ⟨t, rfl⟩ := ru; exact .str y t
  | _ => cases hd
theorem reads_flat {h : Heap} {P : Program} {w : World} {K : PySem.W.Frag} {F : Fz} : ∀ {kvs : List (D × D)} {kk : List (Key × V)} {vs : List (Key × Value)} {es : List DictEntry}, (kvs.all fun p => (keyD p.1).isSome && scalD p.2) = true → RelKV K F kvs kk → KV kk vs →
    PySem.Pairs (mixKind P w) es vs → ReadsAll h (es.map (·.key)) (kvs.map (·.1)) [] ∧ ReadsAll h (es.map (·.val)) (kvs.map (·.2)) []
  | [], kk, vs, es, _, hr, hv, hp => by
    unfold RelKV at hr; subst hr; cases hv; cases hp
    exact ⟨.nil, .nil⟩
  | (k, d) :: r, kk, vs, es, hs, hr, hv, hp => by
    unfold RelKV at hr
    obtain ⟨kx, v, kr, rfl, e1, e2, e3⟩ := hr
    cases hv with
    | cons h1 h2 =>
      cases hp with
      | @cons e kv es' vr p1 p2 p3 =>
        simp only [List.all_cons, Bool.and_eq_true] at hs
        obtain ⟨i1, i2⟩ := reads_flat (h := h) (by simpa using hs.2) e3 h2 p3
        have rk : Reads h e.key k [] := by
          have p1 : keyIs _ e.key = true := p1
          rw [← h1.1] at p1
          rcases keyIs_shape (k := kx) p1 with ⟨i, t, z1, z2⟩ | ⟨i, t, z1, z2⟩
          · rw [z2]
            cases k <;> simp [keyD] at e1
            · subst z1
              have e1 := Sum.inl.inj e1
              subst e1; exact .int _ t
            · subst z1; cases e1
          · rw [z2]
            cases k <;> simp [keyD] at e1
            · subst z1; cases e1
            · subst z1
              have e1 := Sum.inr.inj e1
              subst e1; exact .str _ t
        have rv : Reads h e.val d [] := by
          rw [p2]
          exact reads_scal hs.1.2 e2 h1.2
        exact ⟨.cons (as := []) (bs := []) rk i1, .cons (as := []) (bs := []) rv i2⟩
theorem cb_repr (hG : X.A.guards = some []) (hu : X.A.units + 70 < cLine) : CallR X (.builtin "repr") (rBi X.K .repr) := by
  intro pins s σ H xs us Q I rx h
  obtain ⟨F, vas, v, sub, hs, hv, q⟩ := h
  rcases vas with _ | ⟨d, _ | ⟨d2, r⟩⟩
  · simp [biV] at hv
  · obtain ⟨y, rfl, hy⟩ := hs.one
    obtain ⟨u, rfl, ru⟩ := vals1 rx
    simp only [biV] at hv
    split at hv
    · rename_i hc
      cases hv
      unfold showOk at hc
      simp only [Bool.and_eq_true, decide_eq_true_eq, Bool.or_eq_true] at hc
      obtain ⟨⟨hd, hsh⟩, hl⟩ := hc
      have hl := lineN_le hl
      have q := q.1 _ rel_str
      have fin : ∀ h' tk u, (∀ b o, s.heap.get? b = some o → h'.get? b = some o) → EP X pins σ Q (.str d.shown u) { s with heap := h', toks := tk } := fun h' tk u hk => ⟨.str d.shown, H, I.kept hk, ⟨_, rfl⟩, q⟩
      have disp : ∀ a as, u = .ref a → Reads s.heap u d as → (d.hasDict = true → sysModules ∉ as) → d.depth ≤ 64 → wpAny (model X.prog X.w) X.A (PySem.call (.builtin "repr") [u]) (EP X pins σ Q) X.xe s := fun a as e r1 hm hdp => by
        subst e
        exact repr_of_reads' r1 hsh hm hG (by omega) (fun _ _ e => e) (fun h' u tk hk => fin h' tk u hk) hl
      cases d with
      | none => cases hy; cases ru; exact PySem.P.repr_of_none (fin s.heap _ _ fun _ _ z => z)
      | bool b => cases hy; cases ru; exact PySem.P.repr_of_bool (fin s.heap _ _ fun _ _ z => z)
      | int i =>
        cases hy
        obtain ⟨t, rfl⟩ := ru
        unfold PyData.showable at hsh
        exact PySem.P.repr_of_int (of_decide_eq_true hsh) (fin s.heap _ _ fun _ _ z => z)
      | str z =>
        cases hy
        obtain ⟨t, rfl⟩ := ru
        exact PySem.P.repr_of_str (fin s.heap _ _ fun _ _ z => z) hl
      | list ds =>
        have hd : shp (.list ds) = true := hd.resolve_right (by simp [flatD])
        have hd2 := hd
        unfold shp SeqAt.shaped at hd2
        simp only [Bool.and_eq_true, decide_eq_true_eq] at hd2
        obtain ⟨as, r1⟩ := Dp.reads I (.list ds) y u (dp_sh sub hd2.1 hy) ru
        obtain ⟨a, vs, rfl, _⟩ := hy
        exact disp a as ru r1 (PyData.noDict_hsm (PyData.hasDict_of_canLay _ hd2.1)) hd2.2
      | tuple ds =>
        have hd : shp (.tuple ds) = true := hd.resolve_right (by simp [flatD])
        have hd2 := hd
        unfold shp SeqAt.shaped at hd2
        simp only [Bool.and_eq_true, decide_eq_true_eq] at hd2
        obtain ⟨as, r1⟩ := Dp.reads I (.tuple ds) y u (dp_sh sub hd2.1 hy) ru
        obtain ⟨a, vs, rfl, _⟩ := hy
        exact disp a as ru r1 (PyData.noDict_hsm (PyData.hasDict_of_canLay _ hd2.1)) hd2.2
      | dict kvs =>
        have hd := hd.resolve_left fun z => by
          unfold shp SeqAt.shaped PyData.canLay0 at z
          simp at z
        obtain ⟨hd, hdp⟩ := hd
        unfold flatD at hd
        simp only [Bool.and_eq_true, Bool.not_eq_true'] at hd
        rcases hy with ⟨z, _⟩ | ⟨_, a, kk, rfl, h1, h2⟩
        · rw [hd.1] at z; cases z
        · obtain ⟨_, hsys, vs, kv, o, es, ep, e1, e2, e3, e4, e5, e6⟩ := (show ObjOk X.prog X.w H s.heap a (.dK kk) from I.hok a _ h1)
          obtain ⟨r1, r2⟩ := reads_flat (h := s.heap) hd.2 h2 kv e5
          have hne : a ≠ sysModules := fun z => by rw [z] at hsys; simp at hsys
          cases (show u = Value.ref a from ru)
          refine disp a ([a] ++ [] ++ []) rfl (.dict (as := []) (bs := []) e1 e2.1 e3 r1 r2) (fun _ z => hne ?_) ?_
          · simp at z; exact z.symm
          · exact hdp
    · cases hv
  · simp [biV] at hv
theorem cb_toStr (hG : X.A.guards = some []) (hu : X.A.units + 70 < cLine) : CallR X (.type "str") (rBi X.K .toStr) := by
  intro pins s σ H xs us Q I rx h
  obtain ⟨F, vas, v, sub, hs, hv, q⟩ := h
  rcases vas with _ | ⟨d, _ | ⟨d2, r⟩⟩
  · simp [biV] at hv
  · obtain ⟨y, rfl, hy⟩ := hs.one
    cases d with
    | int j =>
      cases hy
      simp only [biV] at hv
      split at hv
      · rename_i hc
        cases hv
        exact call_str_int pins s σ H _ us Q I rx ⟨_, rfl, of_decide_eq_true hc, q.1 _ rel_str⟩
      · cases hv
    | str z =>
      obtain ⟨u, rfl, ru⟩ := vals1 rx
      cases hy
      cases hv
      obtain ⟨t, rfl⟩ := ru
      exact PySem.P.str_of_str ⟨.str _, H, I, ⟨_, rfl⟩, q.1 _ rel_str⟩
    | list ds =>
      obtain ⟨u, rfl, ru⟩ := vals1 rx
      simp only [biV] at hv
      split at hv
      · rename_i hc
        cases hv
        unfold showOk at hc
        simp only [Bool.and_eq_true, decide_eq_true_eq, Bool.or_eq_true] at hc
        obtain ⟨⟨hd, hsh⟩, hl⟩ := hc
        have hl := lineN_le hl
        have hd : shp (.list ds) = true := hd.resolve_right (by simp [flatD])
        have hd2 := hd
        unfold shp SeqAt.shaped at hd2
        simp only [Bool.and_eq_true, decide_eq_true_eq] at hd2
        obtain ⟨as, r1⟩ := Dp.reads I (.list ds) y u (dp_sh sub hd2.1 hy) ru
        obtain ⟨a, vs, rfl, _⟩ := hy
        cases (show u = Value.ref a from ru)
        exact str_of_reads r1 hsh (PyData.noDict_hsm (PyData.hasDict_of_canLay _ hd2.1)) hG (by have := hd2.2; omega) (fun _ _ e => e) (fun h' tk u hk => ⟨.str _, H, I.kept hk, ⟨_, rfl⟩, q.1 _ rel_str⟩) hl
      · cases hv
    | tuple ds =>
      obtain ⟨u, rfl, ru⟩ := vals1 rx
      simp only [biV] at hv
      split at hv
      · rename_i hc
        cases hv
        unfold showOk at hc
        simp only [Bool.and_eq_true, decide_eq_true_eq, Bool.or_eq_true] at hc
        obtain ⟨⟨hd, hsh⟩, hl⟩ := hc
        have hl := lineN_le hl
        have hd : shp (.tuple ds) = true := hd.resolve_right (by simp [flatD])
        have hd2 := hd
        unfold shp SeqAt.shaped at hd2
        simp only [Bool.and_eq_true, decide_eq_true_eq] at hd2
        obtain ⟨as, r1⟩ := Dp.reads I (.tuple ds) y u (dp_sh sub hd2.1 hy) ru
        obtain ⟨a, vs, rfl, _⟩ := hy
        cases (show u = Value.ref a from ru)
        exact str_of_reads r1 hsh (PyData.noDict_hsm (PyData.hasDict_of_canLay _ hd2.1)) hG (by have := hd2.2; omega) (fun _ _ e => e) (fun h' tk u hk => ⟨.str _, H, I.kept hk, ⟨_, rfl⟩, q.1 _ rel_str⟩) hl
      · cases hv
    | _ => simp [biV] at hv
  · cases d <;> simp [biV] at hv
end
end Pv
end

section
/-! PvT: a tuple turned round, t[::-1]. -/
set_option autoImplicit false
namespace Pv
open PySem PyProof.Rows L2 HT
section
variable {prog : Program} {w : World} {A : Around} {E : Value → Shared → Prop} {s : Shared}
theorem sliceApplied_rev {sl : Addr} {vs : Value} {n : Nat} {Q : Int × Int × Nat → Shared → Prop} (hs : s.heap.IsSliceOf sl .none .none vs) (ps : IsPart vs (some (-1)))
    (h : Q ((n : Int) - 1, -1, n) s) : wpAny (model prog w) A (Builtin.Slice.sliceApplied (.ref sl) (pure (n : Int))) Q E s := by
  obtain ⟨os, hos, hcs, hds⟩ := id hs
  unfold Builtin.Slice.sliceApplied Builtin.Slice.sliceFields
  refine wpAny_bind (wpAny_bind (wpAny_field hos hds (x := .none) rfl (wpAny_bind (wpAny_field hos hds (x := .none) rfl (wpAny_bind (wpAny_field hos hds (x := vs) rfl (wpAny_pure ?_)))))))
  refine wpAny_bind (slicePart_ ps ?_)
  show wpAny _ _ (if ((-1 : Int) == 0) = true then _ else _) _ _ s
  rw [if_neg (by decide)]
  refine wpAny_bind (slicePart_none (wpAny_bind (slicePart_none (wpAny_bind (wpAny_pure ?_)))))
  show wpAny _ _ (pure ((n : Int) - 1, (-1 : Int), Builtin.Slice.slicePlaces ((n : Int) - 1) (-1) (-1))) _ _ s
  have e : Builtin.Slice.slicePlaces ((n : Int) - 1) (-1) (-1) = n := by
    unfold Builtin.Slice.slicePlaces
    have h1 : ¬ ((-1 : Int) > 0) := by omega
    simp only [h1, if_false]
    by_cases h2 : (n : Int) - 1 > -1
    · simp only [h2, if_true]
      rw [show (- -1 : Int) = 1 by decide, Int.ediv_one]; omega
    · simp only [h2, if_false]; omega
  rw [e]
  exact wpAny_pure h
theorem pick_rev (xs : Array Value) : ((List.range xs.size).filterMap fun (m : Nat) => xs[((xs.size : Int) - 1 + (m : Int) * -1).toNat]?).toArray = xs.toList.reverse.toArray := by
  have e : (fun (m : Nat) => xs[((xs.size : Int) - 1 + (m : Int) * -1).toNat]?) = fun m => xs[xs.size - 1 - m]? := by
    funext m
    have : ((xs.size : Int) - 1 + (m : Int) * -1).toNat = xs.size - 1 - m := by omega
    rw [this]
  rw [e, show (fun (m : Nat) => xs[xs.size - 1 - m]?) = (fun m => xs[m]?) ∘ (fun m => xs.size - 1 - m) from rfl, ← List.filterMap_map, PySem.W.krv_range, List.filterMap_reverse, PySem.W.krv_all]
theorem getItem_tuple_rev {t sl : Addr} {items : Array Value} {vs : Value} {Q : Value → Shared → Prop} (ht : IsTup s.heap t items) (hs : s.heap.IsSliceOf sl .none .none vs) (ps : IsPart vs (some (-1)))
    (h : Q (.ref s.heap.objs.size) { s with heap := s.heap.push { cls := .type "tuple", data := .seq items.toList.reverse.toArray } })
    (hsz : items.size ≤ sizeLine) : wpAny (model prog w) A (getItem (.ref t) (.ref sl)) Q E s := by
  have htake : sizeOk (.seq items.toList.reverse.toArray) := by
    show items.toList.reverse.toArray.size ≤ sizeLine
    rw [List.size_toArray, List.length_reverse, Array.length_toList]
    exact hsz
  obtain ⟨os, hos, hcs, hds⟩ := id hs
  have hTs : s.TypeIs (.ref sl) "slice" := ⟨os, hos, hcs⟩
  unfold getItem
  try with_reducible refine wpAny_holding ?_
  first | refine wpAny_bind (wpAny_pure ?_) | skip
  refine wpAny_bind (wpAny_sequenceKey ht.typeIs (by decide) ?_)
  refine wpAny_bind (wpAny_callSpecial?_slot (name := Str.ofString "__getitem__") ht.typeIs PyProof.Rows.slot_tuple_getitem
    (wpAny_call_entry PyProof.Rows.slot_tuple_getitem ht.typeIs entry_tuple_getitem ?_ (args_tuple_getitem _ _)))
  show wpAny _ _ (Builtin.Tuple.tupleItemsOf (.ref t) >>= _) _ _ s
  refine wpAny_bind (tupleItemsOf_ ht ?_)
  refine wpAny_bind (wpAny_typeOf hTs ?_)
  rw [if_pos (by decide)]
  refine wpAny_bind (sliceApplied_rev hs ps ?_)
  have hno : ¬ ((((items.size : Int) - 1) == 0 && (-1 : Int) == 1 && items.size == items.size) = true) := by
    intro q
    rw [Bool.and_eq_true, Bool.and_eq_true] at q
    exact absurd q.1.2 (by decide)
  show wpAny _ _ (if (((items.size : Int) - 1) == 0 && (-1 : Int) == 1 && items.size == items.size) = true then _ else _) _ _ s
  rw [if_neg hno, pick_rev]
  first
    | exact wpAny_bind (m := Builtin.Tuple.tupleExact _) (wpAny_newObj_type (wpAny_pure ⟨_, rfl, wpAny_pure h⟩) htake)
    | exact wpAny_bind (m := Builtin.Tuple.tupleExact _) (wpAny_newObj_type (wpAny_bind (wpAny_pure (wpAny_pure ⟨_, rfl, wpAny_pure h⟩))) htake)
    | exact wpAny_bind (wpAny_bind (m := Builtin.Tuple.tupleExact _) (wpAny_newObj_type (wpAny_pure (wpAny_pure ⟨_, rfl, wpAny_pure h⟩)) htake))
    | exact wpAny_bind (wpAny_bind (m := Builtin.Tuple.tupleExact _) (wpAny_newObj_type (wpAny_pure ⟨_, rfl, wpAny_pure h⟩) htake))
end
def rRev (K : PySem.W.Frag) (x : V) (H1 : Hp) (Q : VK) : Prop := (∃ a xs, x = .ref a ∧ SqL K H1 a xs ∧ ∀ p, H1 p = none → Q (.ref p) (upd H1 p (.lst xs.reverse))) ∨ ∃ a xs, x = .ref a ∧ SqT K H1 a xs ∧ ∀ p, H1 p = none → Q (.ref p) (upd H1 p (.tup xs.reverse))
def tRev (K : PySem.W.Frag) (te : TE) : TE := fun σ H Q => te σ H fun x H1 => rRev K x H1 Q
/-- x[::-1] of a list or a tuple -/
theorem pe_rev {X : Cx} {e : Expr} {te : TE} {k : Nat} {p1 p2 p3 pos : Pos} (he : PE X e te) : PE X (.Subscript e (.Slice none none (some (.UnaryOp .USub (.Constant (.int 1) k p1) p2)) p3) pos) (tRev X.K te) := by
  refine ⟨fun pins s σ H Q I h => ?_⟩
  refine Subscript_ (thn (he.run pins s σ H _ I h) fun v s1 ⟨x, H1, I1, r1, q1⟩ => ?_)
  have hst : PO X (some (.UnaryOp .USub (.Constant (.int 1) k p1) p2)) (tPart (tUn (rU fun i => .int (-i)) (tC (.int 1)))) := po_some (pe_un un_neg pe_int)
  refine wpAny_Slice (thn (po_none.run pins s1 σ H1 (fun o H2 => o = none ∧ H2 = H1) I1 ⟨rfl, rfl⟩) fun vl s2 ⟨l, H2, I2, pl, el, e2⟩ => ?_)
  subst el e2
  refine thn (po_none.run pins s2 σ H2 (fun o H3 => o = none ∧ H3 = H2) I2 ⟨rfl, rfl⟩) fun vu s3 ⟨u, H3, I3, pu, eu, e3⟩ => ?_
  subst eu e3
  refine thn (hst.run pins s3 σ H3 (fun o H4 => o = some (-1) ∧ H4 = H3) I3 ⟨1, rfl, -1, rfl, rfl, rfl⟩) fun vs s4 ⟨o, H4, I4, ps, eo, e4⟩ => ?_
  subst eo e4
  cases pl
  cases pu
  have I5 : Inv X pins σ H4 { s4 with heap := s4.heap.push { cls := .type "slice", data := .fields #[.none, .none, vs] } } := I4.kept (t' := s4.toks) fun b ob q => Heap.get?_push_of_some _ q
  show wpAny (model X.prog X.w) X.A (subscriptTail e (.Slice none none (some (.UnaryOp .USub (.Constant (.int 1) k p1) p2)) p3) v (.ref s4.heap.objs.size)) (EP X pins σ Q) X.xe { s4 with heap := s4.heap.push { cls := .type "slice", data := .fields #[.none, .none, vs] } }
  rcases q1 with ⟨a, xs, ex, hx, q⟩ | ⟨a, xs, ex, hx, q⟩
  · subst ex
    cases r1
    obtain ⟨its, r, ht, hz⟩ := I5.list hx
    have hlen := r.length
    refine tail_any (ops := [.ref a, .ref s4.heap.objs.size]) ht.isList.typeIs (PySem.slot_list_getitem.lookup) ?_ (by with_unfolding_all rfl)
    refine wpAny_getItem_list_slice ht.isList (Heap.IsSliceOf.new _ .none .none vs) .none .none ps (by decide) ?_ (by rw [List.size_toArray]; omega)
    rw [PySem.W.krv_pick]
    refine ⟨.ref _, _, I5.laid (t' := s4.toks) (o := .lst xs.reverse) (fun b ob q => Heap.get?_push_of_some _ q) (Nat.le_refl _) ?_, rfl, q _ (I5.hok.fresh (Nat.le_refl _))⟩
    exact ⟨by rw [List.length_reverse]; exact hz, _, 0, r.reverse, Heap.get?_push_size _ rfl⟩
  · subst ex
    cases r1
    obtain ⟨its, r, ht, hz⟩ := I5.tuple hx
    have hlen := r.length
    refine tail_any (ops := [.ref a, .ref s4.heap.objs.size]) ht.typeIs (PyProof.Rows.slot_tuple_getitem.lookup) ?_ (by with_unfolding_all rfl)
    refine getItem_tuple_rev ht (Heap.IsSliceOf.new _ .none .none vs) ps ?_ (by rw [List.size_toArray]; omega)
    refine ⟨.ref _, _, I5.laid (t' := s4.toks) (o := .tup xs.reverse) (fun b ob q => Heap.get?_push_of_some _ q) (Nat.le_refl _) ?_, rfl, q _ (I5.hok.fresh (Nat.le_refl _))⟩
    exact ⟨by rw [List.length_reverse]; exact hz, _, r.reverse, IsTup.new _ _⟩
end Pv
end

section
/-! PvI: isinstance, subscripts, dicts, lists changed; a def; the law. -/
set_option autoImplicit false
namespace Pv
open PySem PySem.Spec PyProof.Rows L2

section
variable {X : Cx} {C : Ct} {Ow Ow' OwL : List Nat} {e a b c : Expr} {es : List Expr} {i ia ib ic : Ex} {is : Exs} {pos p apos np : Pos} {x : Str}

/-! ### isinstance -/
def tyN : D → String
  | .none => "NoneType" | .bool _ => "bool" | .int _ => "int" | .str _ => "str" | .list _ => "list" | .tuple _ => "tuple" | .dict _ => "dict"
theorem ty_sh {F : Fz} {H : Hp} {d : D} {v : V} (s : Same F.h H) (h : Sh X.K F H d v) (n : isDk d = false) : TyX X.K H v (.type (tyN d)) := by
  cases d with
  | none => cases h; exact .base .non
  | bool b => cases h; exact .base (.bl b)
  | int j => cases h; exact .base (.int j)
  | str y => cases h; exact .base (.str y)
  | list xs => obtain ⟨q, vs, rfl, e1, _⟩ := h; exact .base (.lst e1)
  | tuple xs =>
    obtain ⟨q, vs, rfl, e1, _⟩ := h
    exact .base (.tup (s _ _ e1))
  | dict kvs =>
    rcases h with ⟨z, _⟩ | ⟨_, q, kk, rfl, e1, _⟩
    · have n : isDeck kvs = false := n
      rw [n] at z; cases z
    · exact .base (.dK e1)
def isB : Bi → Option String
  | .isInt => some "int" | .isBool => some "bool" | .isStr => some "str" | .isTuple => some "tuple" | .isList => some "list"
  | _ => none
/-- what isinstance asks of a class -/
structure InsOk (K : PySem.W.Frag) (Ca : Addr) : Prop where
  cls : Cls K Ca
  ha : PySem.W.findIn K (.ref Ca) "__class__" = some (some (.builtin "object.__class__"))
  hn : PySem.W.specialIn K (.builtin "object.__class__") "__get__" = some (some (.builtin "getset_descriptor.__get__"))
  ht : PySem.W.takesIn K (.builtin "object.__class__") = some true
  hm : PySem.W.mroIn K Ca (.type "object") = some true
  kt : ∀ T ∈ ["int", "bool", "str", "tuple", "list"], PySem.W.kitOne K (.ref Ca) (.type T) = some false
theorem isB_mem {f : Bi} {T : String} (hf : isB f = some T) : T ∈ ["int", "bool", "str", "tuple", "list"] := by
  cases f <;> simp only [isB] at hf <;> cases hf <;> simp
theorem isO_sh {K : PySem.W.Frag} {F : Fz} {H : Hp} {d : D} {y : V} (ho : isObj d = true) (h : Sh K F H d y) : ∃ (Cn : Addr × List Str) (a dx : Addr) (fs : List (Str × V)), y = .ref a ∧ Cn ∈ F.sc.2 ∧ H a = some (.ins Cn.1 dx fs) := by
  unfold isObj at ho
  split at ho
  · rcases h with ⟨_, a, rfl, ⟨n, e⟩ | ⟨c, r, Cn, dx, fs, _, e2, e3, _⟩ | ⟨r, kk, e, _⟩⟩ | ⟨hk, _⟩
    · simp [tokD] at e
    · exact ⟨Cn, a, dx, fs, rfl, List.mem_of_getElem? e2, e3⟩
    · simp at e
    · simp [isDeck] at hk
  · cases ho
theorem isi_val {f : Bi} {T : String} (hf : isB f = some T) {d v : D} (h : biV f [d] = some v) : (isDk d = false ∧ ∃ k, v = .bool k ∧ kitB (tyN d) T = some k) ∨ isObj d = true ∧ v = .bool false := by
  cases ho : isObj d with
  | true =>
    right
    refine ⟨rfl, ?_⟩
    have hd : ∃ kvs, d = .dict kvs := by
      unfold isObj at ho
      split at ho
      · exact ⟨_, rfl⟩
      · cases ho
    obtain ⟨kvs, rfl⟩ := hd
    cases f <;> simp only [isB] at hf <;> cases hf <;> simp only [biV, ho, Bool.not_true, Bool.and_false, Bool.false_eq_true, if_false] at h <;> exact (Option.some.inj h).symm
  | false =>
    left
    cases f <;> simp only [isB] at hf <;> cases hf <;> simp only [biV, ho, Bool.not_false, Bool.and_true] at h <;> split at h <;> first
      | (cases h; done)
      | (rename_i hc
         have hc : isDk d = false := by simpa using hc
         refine ⟨hc, _, (Option.some.inj h).symm, ?_⟩
         cases d <;> first | (simp only [tyN]; decide +kernel) | rfl)
theorem Es.isi {nx : Str} {T : String} (f : Bi) (hf : isB f = some T) (hK : X.K = C.K) (hin : ∀ Cn ∈ C.sc.2, InsOk X.K Cn.1) (hg : Gl X "isinstance") (hm : X.mg "isinstance" = none) (hv : bootBuiltins "isinstance" = some (.builtin "isinstance")) (hg2 : Gl X nx) (hm2 : X.mg nx = none) (hv2 : bootBuiltins nx = some (.type T)) (hn2 : nx ≠ "__name__") (hd2 : (nx == ("__debug__" : Str)) = false)
    (ha : Eb X C Ow a ia) (he : starEach [a, .Name nx np] X.env = (false, eval a X.env) :: starEach [.Name nx np] X.env) (he2 : starEach [.Name nx np] X.env = (false, eval (.Name nx np) X.env) :: starEach [] X.env) (hpl : (backTo pos (starEach [.Name nx np] X.env)).any (·.1) = false) :
    Es X C Ow (.Call (.Name "isinstance" p) [a, .Name nx np] [] pos) (.bi f (.cons ia .nil)) :=
  ⟨pe_con (pe_callB call_isi hg hm hv (pa_cons ha.run (pa_cons (pe_bltn hg2 hm2 hv2 (v := .ty T) rfl hn2 hd2) pa_nil he2) he) (by decide) (by decide) he hpl) fun σ H Q ⟨Th, F, σe, g, v, g', r, m, q⟩ => by
    unfold ev evs at m
    obtain ⟨vs, g1, m1, m2⟩ := bind_eq_ok m
    obtain ⟨d, g2, m3, m4⟩ := bind_eq_ok m1
    obtain ⟨ws, g3, m5, m6⟩ := bind_eq_ok m4
    unfold evs at m5
    cases m5; cases m6
    obtain ⟨m7, e7⟩ := lift_eq_ok m2
    subst e7
    rcases isi_val hf m7 with ⟨hn, k, e8, hk⟩ | ⟨ho, e8⟩
    · subst e8
      refine ⟨Th, F, σe, g, d, _, r, m3, fun F1 H1 y s1 r1 b1 => ⟨y, .ty T, _, _, k, rfl, .ty T, ty_sh r1.sub (by rw [hK]; exact r1.sh b1) hn, kit_ty hk, q F1 H1 _ s1 r1 rel_bl⟩⟩
    · subst e8
      refine ⟨Th, F, σe, g, d, _, r, m3, fun F1 H1 y s1 r1 b1 => ?_⟩
      obtain ⟨Cn, p, dx, fs, rfl, z1, z2⟩ := isO_sh ho (r1.sh b1)
      rw [r1.sc] at z1
      have I := hin Cn z1
      exact ⟨.ref p, .ty T, .ref Cn.1, .type T, false, rfl, .ty T, .base (.ins z2 I.cls I.ha I.hn I.ht I.hm), I.kt T (isB_mem hf), q F1 H1 _ s1 r1 rel_bl⟩⟩

/-! ### list(range(..)) -/
theorem rgV_eq {K : PySem.W.Frag} {F : Fz} (lo hi : Int) : RelL K F (rangeD lo (hi - lo).toNat) (rgV lo hi) := by
  have : ∀ (l : List Nat), RelL K F (l.map fun (k : Nat) => (PyData.int (lo + k) : D)) (l.map fun (k : Nat) => V.int (lo + k)) := by
    intro l
    induction l with
    | nil => exact .nil
    | cons n l ih => exact .cons rel_int ih
  exact this _
theorem Ef.listRange1 {e1 : Expr} (hK : X.K = C.K) (hc : X.calm = true) (hg : Gl X "list") (hm : X.mg "list" = none) (hg2 : Gl X "range") (hm2 : X.mg "range" = none) (ha : Eb X C Ow a ia) (na : starEach [a] X.env = (false, eval a X.env) :: starEach [] X.env)
    (na2 : starEach [Expr.Call (.Name "range" np) [a] [] apos] X.env = (false, eval (.Call (.Name "range" np) [a] [] apos) X.env) :: starEach [] X.env) :
    Ef X C Ow (.Call (.Name "list" p) [.Call (.Name "range" np) [a] [] apos] [] pos) (.bi .listRange1 (.cons ia .nil)) :=
  ⟨pe_con (pe_listRg hc hg hm (prg_1 hg2 hm2 ha.run na) na2) fun σ H Q ⟨Th, F, σe, g, v, g', r, m, q⟩ => by
    unfold ev evs at m
    obtain ⟨vs, g1, m1, m2⟩ := bind_eq_ok m
    obtain ⟨d, g2, m3, m4⟩ := bind_eq_ok m1
    obtain ⟨ws, g3, m5, m6⟩ := bind_eq_ok m4
    unfold evs at m5
    cases m5; cases m6
    obtain ⟨m7, e7⟩ := lift_eq_ok m2
    subst e7
    cases d with
    | int j =>
      simp only [biV] at m7
      split at m7
      · rename_i hc
        cases m7
        simp only [Bool.and_eq_true, decide_eq_true_eq] at hc
        refine ⟨Th, F, σe, g, _, _, r, m3, fun F1 H1 y s1 r1 b1 => ?_⟩
        have hy : y = .int j := r1.sh b1
        subst hy
        have e := rgV_eq (K := C.K) (F := F1) 0 j
        rw [Int.sub_zero] at e
        exact ⟨j, rfl, ⟨by omega, by omega, by omega, by omega, by omega⟩, fun p n => q F1 _ p s1 (r1.grown n) (new_of r1 n ⟨_, upd_same, e⟩)⟩
      · cases m7
    | _ => simp [biV] at m7⟩
theorem Ef.listRange2 (hK : X.K = C.K) (hc : X.calm = true) (hg : Gl X "list") (hm : X.mg "list" = none) (hg2 : Gl X "range") (hm2 : X.mg "range" = none) (ha : Eb X C Ow a ia) (hb : Eb X C Ow b ib) (na : starEach [a, b] X.env = (false, eval a X.env) :: starEach [b] X.env)
    (nb : starEach [b] X.env = (false, eval b X.env) :: starEach [] X.env) (hp : (backTo apos (starEach [b] X.env)).any (·.1) = false)
    (na2 : starEach [Expr.Call (.Name "range" np) [a, b] [] apos] X.env = (false, eval (.Call (.Name "range" np) [a, b] [] apos) X.env) :: starEach [] X.env) :
    Ef X C Ow (.Call (.Name "list" p) [.Call (.Name "range" np) [a, b] [] apos] [] pos) (.bi .listRange2 (.cons ia (.cons ib .nil))) :=
  ⟨pe_con (pe_listRg hc hg hm (prg_2 hg2 hm2 ha.run hb.run na nb hp) na2) fun σ H Q ⟨Th, F, σe, g, v, g', r, m, q⟩ => by
    unfold ev evs at m
    obtain ⟨vs, g1, m1, m2⟩ := bind_eq_ok m
    obtain ⟨d, g2, m3, m4⟩ := bind_eq_ok m1
    obtain ⟨ws, g3, m5, m6⟩ := bind_eq_ok m4
    unfold evs at m5
    obtain ⟨d2, g4, m8, m9⟩ := bind_eq_ok m5
    obtain ⟨ws2, g5, m10, m11⟩ := bind_eq_ok m9
    unfold evs at m10
    cases m10; cases m11; cases m6
    obtain ⟨m7, e7⟩ := lift_eq_ok m2
    subst e7
    cases d with
    | int j =>
      cases d2 with
      | int k =>
        simp only [biV] at m7
        split at m7
        · rename_i hc
          cases m7
          simp only [Bool.and_eq_true, decide_eq_true_eq] at hc
          refine ⟨Th, F, σe, g, _, _, r, m3, fun F1 H1 y s1 r1 b1 => ⟨Th, F1, σe, _, _, _, r1, m8, fun F2 H2 z s2 r2 b2 => ?_⟩⟩
          have hy : y = .int j := r1.sh b1
          have hz : z = .int k := r2.sh b2
          subst hy; subst hz
          refine ⟨j, k, rfl, rfl, ⟨by omega, by omega, by omega, by omega, ?_⟩, fun p n => q F2 _ p (s1.trans s2) (r2.grown n) (new_of r2 n ⟨_, upd_same, rgV_eq _ _⟩)⟩
          have := hc.2
          unfold lineN at this
          omega
        · cases m7
      | _ => simp [biV] at m7
    | _ => cases d2 <;> simp [biV] at m7⟩

/-! ### subscripts -/
theorem RelL.atI {K : PySem.W.Frag} {F : Fz} {ds : List D} {vs : List V} {j : Int} {d : D} (h : RelL K F ds vs) (e : L2.atI ds j = some d) : ∃ v, L2.atI vs j = some v ∧ Rel K F d v := by
  unfold L2.atI at e ⊢
  rw [← h.length]
  cases q : ixN ds.length j with
  | none => rw [q] at e; cases e
  | some n =>
    rw [q] at e
    exact h.get e
theorem Es.idx (hK : X.K = C.K) (ha : Eb X C Ow a ia) (hb : Eb X C Ow b ib) (hs : PlainIx b) : Es X C Ow (.Subscript a b pos) (.idx ia ib) :=
  ⟨pe_con (pe_ix (ix_list.or ix_tup) ha.run hb.run hs) fun σ H Q ⟨T, F, σe, g, v, g', r, m, q⟩ => by
    unfold ev at m
    obtain ⟨va, g1, m1, m2⟩ := bind_eq_ok m
    obtain ⟨vb, g2, m3, m4⟩ := bind_eq_ok m2
    obtain ⟨m5, e5⟩ := lift_eq_ok m4
    subst e5
    refine ⟨T, F, σe, g, va, g1, r, m1, fun F1 H1 y s1 r1 b1 => ⟨T, F1, σe, g1, vb, _, r1, m3, fun F2 H2 z s2 r2 b2 => ?_⟩⟩
    have hy := r2.sh (b1.mono s2)
    have hz := r2.sh b2
    cases va with
    | list ds =>
      cases vb with
      | int j =>
        obtain ⟨p, vs, rfl, h1, h2⟩ := hy
        cases hz
        obtain ⟨w, e1, e2⟩ := h2.atI m5
        exact .inl ⟨p, vs, j, w, rfl, rfl, SqL.of h1, e1, q F2 H2 w (s1.trans s2) r2 e2⟩
      | _ => simp [idxV] at m5
    | tuple ds =>
      cases vb with
      | int j =>
        obtain ⟨p, vs, rfl, h1, h2⟩ := hy
        cases hz
        obtain ⟨w, e1, e2⟩ := h2.atI m5
        exact .inr ⟨p, vs, j, w, rfl, rfl, by rw [hK]; exact sqT_mono r2.sub h1, e1, q F2 H2 w (s1.trans s2) r2 e2⟩
      | _ => simp [idxV] at m5
    | _ => simp [idxV] at m5⟩
/-- a part of a slice -/
structure Eo (X : Cx) (C : Ct) (Ow : List Nat) (o : Option Expr) (i : Ex) : Prop where
  run : PO X o (fun σ H Q => ∃ T F σe g v g' oi, R C Ow T F σe g σ H ∧ ev C.Φ i σe g = .ok v g' ∧ optI v = some oi ∧ ∀ F' H', Fsub F F' → R C Ow T F' σe g' σ H' → Q oi H')
theorem po_con {o : Option Expr} {t t' : TO} (h : PO X o t) (c : ∀ σ H Q, t' σ H Q → t σ H Q) : PO X o t' := ⟨fun pins s σ H Q I hw => h.run pins s σ H Q I (c σ H Q hw)⟩
theorem Eo.none : Eo X C Ow none (.c .none) := ⟨po_con po_none fun σ H Q ⟨T, F, σe, g, v, g', oi, r, m, e, q⟩ => by
  unfold ev at m
  cases m; cases e
  exact q F H (.refl F) r⟩
theorem Eo.some (h : Eb X C Ow e i) (hi : ∀ (σ : Sl) (g g' : G), ev C.Φ i σ g ≠ .ok .none g') : Eo X C Ow (some e) i := ⟨po_con (po_some h.run) fun σ H Q ⟨T, F, σe, g, v, g', oi, r, m, e, q⟩ => by
  refine ⟨T, F, σe, g, v, g', r, m, fun F1 H1 y s1 r1 b1 => ?_⟩
  cases v with
  | int j =>
    cases e
    exact ⟨j, r1.sh b1, q F1 H1 s1 r1⟩
  | none => exact (hi _ _ _ m).elim
  | _ => cases e⟩
theorem cut_rel {K : PySem.W.Frag} {F : Fz} {ds : List D} {vs : List V} (h : RelL K F ds vs) (lo hi : Option Int) : RelL K F (cutD ds lo hi) (cutV vs lo hi) := by
  unfold cutD cutV
  rw [h.length]
  exact (h.drop _).take _
theorem Es.slc {lo hi : Option Expr} {il ih : Ex} {p2 : Pos} (hK : X.K = C.K) (ha : Eb X C Ow a ia) (hl : Eo X C Ow lo il) (hh : Eo X C Ow hi ih) : Es X C Ow (.Subscript a (.Slice lo hi none p2) pos) (.slc ia il ih) :=
  ⟨pe_con (pe_slice (sl_list.or sl_tupA) ha.run hl.run hh.run) fun σ H Q ⟨T, F, σe, g, v, g', r, m, q⟩ => by
    unfold ev at m
    obtain ⟨va, g1, m1, m2⟩ := bind_eq_ok m
    obtain ⟨vl, g2, m3, m4⟩ := bind_eq_ok m2
    obtain ⟨vh, g3, m5, m6⟩ := bind_eq_ok m4
    obtain ⟨m7, e7⟩ := lift_eq_ok m6
    subst e7
    have key : ∀ (ds : List D) (P : List D → D), (match optI vl, optI vh with
        | some l, some h => some (P (cutD ds l h))
        | _, _ => none) = some v → ∃ l h, optI vl = some l ∧ optI vh = some h ∧ v = P (cutD ds l h) := fun ds P z => by
      cases e1 : optI vl with
      | none => rw [e1] at z; cases z
      | some l =>
        cases e2 : optI vh with
        | none => rw [e1, e2] at z; cases z
        | some h => rw [e1, e2] at z; exact ⟨l, h, rfl, rfl, (Option.some.inj z).symm⟩
    cases va with
    | list ds =>
      obtain ⟨l, h, e1, e2, rfl⟩ := key ds .list m7
      refine ⟨T, F, σe, g, _, g1, r, m1, fun F1 H1 y s1 r1 b1 => ⟨T, F1, σe, g1, vl, _, l, r1, m3, e1, fun F2 H2 s2 r2 => ⟨T, F2, σe, _, vh, _, h, r2, m5, e2, fun F3 H3 s3 r3 => .inl ?_⟩⟩⟩
      obtain ⟨p, vs, rfl, h1, h2⟩ := r3.sh ((b1.mono s2).mono s3)
      refine ⟨p, vs, rfl, SqL.of h1, fun p n => ?_⟩
      exact q (F3.put p _) _ _ (s1.trans (s2.trans (s3.trans (Fsub.put (r3.fn n))))) (r3.laid n) (rel_lst (r3.fn n) (cut_rel h2 l h))
    | tuple ds =>
      obtain ⟨l, h, e1, e2, rfl⟩ := key ds .tuple m7
      refine ⟨T, F, σe, g, _, g1, r, m1, fun F1 H1 y s1 r1 b1 => ⟨T, F1, σe, g1, vl, _, l, r1, m3, e1, fun F2 H2 s2 r2 => ⟨T, F2, σe, _, vh, _, h, r2, m5, e2, fun F3 H3 s3 r3 => .inr ?_⟩⟩⟩
      obtain ⟨p, vs, rfl, h1, h2⟩ := r3.sh ((b1.mono s2).mono s3)
      refine ⟨p, vs, rfl, by rw [hK]; exact sqT_mono r3.sub h1, fun z => ?_, fun _ p n => ?_⟩
      · refine q F3 H3 _ (s1.trans (s2.trans s3)) r3 ?_
        unfold Rel
        refine ⟨p, vs, rfl, h1, ?_⟩
        have e : cutV vs l h = vs := by
          unfold cutV
          rw [z.1, z.2]
          simp
        have := cut_rel h2 l h
        rwa [e] at this
      · exact q (F3.put p _) _ _ (s1.trans (s2.trans (s3.trans (Fsub.put (r3.fn n))))) (r3.laid n) (rel_tup (r3.fn n) (cut_rel h2 l h))
    | _ => simp [slcV] at m7⟩
/-- xs[::-1], a list or a tuple -/
theorem Es.rev {k : Nat} {p1 p2 p3 : Pos} (hK : X.K = C.K) (ha : Eb X C Ow a ia) : Es X C Ow (.Subscript a (.Slice none none (some (.UnaryOp .USub (.Constant (.int 1) k p1) p2)) p3) pos) (.rev ia) :=
  ⟨pe_con (pe_rev ha.run) fun σ H Q ⟨T, F, σe, g, v, g', r, m, q⟩ => by
    unfold ev at m
    obtain ⟨va, g1, m1, m2⟩ := bind_eq_ok m
    obtain ⟨m3, e3⟩ := lift_eq_ok m2
    subst e3
    refine ⟨T, F, σe, g, va, _, r, m1, fun F1 H1 y s1 r1 b1 => ?_⟩
    cases va with
    | list ds =>
      cases m3
      obtain ⟨p, vs, rfl, h1, h2⟩ := r1.sh b1
      exact .inl ⟨p, vs, rfl, SqL.of h1, fun p n => q (F1.put p _) _ _ (s1.trans (Fsub.put (r1.fn n))) (r1.laid n) (rel_lst (r1.fn n) h2.reverse)⟩
    | tuple ds =>
      cases m3
      obtain ⟨p, vs, rfl, h1, h2⟩ := r1.sh b1
      exact .inr ⟨p, vs, rfl, by rw [hK]; exact sqT_mono r1.sub h1, fun p n => q (F1.put p _) _ _ (s1.trans (Fsub.put (r1.fn n))) (r1.laid n) (rel_tup (r1.fn n) h2.reverse)⟩
    | _ => simp [revV] at m3⟩

/-! ### dicts with keys that are ints and texts -/
theorem Ef.dnew : Ef X C Ow (.Dict [] [] pos) .dnew :=
  ⟨pe_con pe_dnewK fun σ H Q ⟨T, F, σe, g, v, g', r, m, q⟩ => by
    unfold ev at m
    cases m
    exact fun p n => q F _ p (.refl F) (r.grown n) (new_of r n (.inl ⟨rfl, [], upd_same, by unfold RelKV; rfl⟩))⟩
theorem key_rel {K : PySem.W.Frag} {F : Fz} {H : Hp} {k : D} {kx : Key} {y : V} (e : keyD k = some kx) (h : Sh K F H k y) : y = kV kx := by
  cases k <;> simp [keyD] at e
  · subst e; cases h; rfl
  · subst e; cases h; rfl
theorem keq_of {a k : D} {ka kx : Key} (e1 : keyD a = some ka) (e2 : keyD k = some kx) : keq a k = decide (ka = kx) := by
  unfold keq; rw [e1, e2]
theorem look_rel {K : PySem.W.Frag} {F : Fz} {k : D} {kx : Key} (e : keyD k = some kx) : ∀ {kvs : List (D × D)} {kk : List (Key × V)}, RelKV K F kvs kk → (∀ d, dLook k kvs = some d → ∃ v, valV kk kx = some v ∧ Rel K F d v) ∧ (dLook k kvs = none → valV kk kx = none)
  | [], kk, h => by
    unfold RelKV at h; subst h
    exact ⟨(fun d z => by cases z), fun _ => rfl⟩
  | (a, d) :: r, kk, h => by
    unfold RelKV at h
    obtain ⟨ka, v, kr, rfl, e1, e2, e3⟩ := h
    have ih := look_rel (k := k) e e3
    unfold dLook valV at ih ⊢
    rw [List.find?_cons, List.find?_cons]
    simp only [keq_of e1 e]
    by_cases hc : ka = kx
    · simp only [hc, decide_true]
      exact ⟨fun d' z => ⟨v, rfl, by cases z; exact e2⟩, fun z => by cases z⟩
    · simp only [decide_eq_false hc]
      exact ih
theorem any_rel {K : PySem.W.Frag} {F : Fz} {k : D} {kx : Key} (e : keyD k = some kx) : ∀ {kvs : List (D × D)} {kk : List (Key × V)}, RelKV K F kvs kk → (kvs.any fun p => keq p.1 k) = (kk.any fun kv => decide (kv.1 = kx))
  | [], kk, h => by unfold RelKV at h; subst h; rfl
  | (a, d) :: r, kk, h => by
    unfold RelKV at h
    obtain ⟨ka, v, kr, rfl, e1, e2, e3⟩ := h
    rw [List.any_cons, List.any_cons, any_rel e e3]
    simp only [keq_of e1 e]
theorem RelKV.append {K : PySem.W.Frag} {F : Fz} {k d : D} {kx : Key} {v : V} (e : keyD k = some kx) (h : Rel K F d v) : ∀ {kvs : List (D × D)} {kk : List (Key × V)}, RelKV K F kvs kk → RelKV K F (kvs ++ [(k, d)]) (kk ++ [(kx, v)])
  | [], kk, q => by unfold RelKV at q; subst q; unfold RelKV; exact ⟨kx, v, [], rfl, e, h, by unfold RelKV; rfl⟩
  | (a, d0) :: r, kk, q => by
    unfold RelKV at q
    obtain ⟨ka, w, kr, rfl, e1, e2, e3⟩ := q
    show RelKV K F ((a, d0) :: (r ++ [(k, d)])) _
    unfold RelKV
    exact ⟨ka, w, _, rfl, e1, e2, RelKV.append e h e3⟩
theorem RelKV.upd {K : PySem.W.Frag} {F : Fz} {k d : D} {kx : Key} {v : V} (e : keyD k = some kx) (h : Rel K F d v) : ∀ {kvs : List (D × D)} {kk : List (Key × V)}, RelKV K F kvs kk → RelKV K F (kvs.map fun p => if keq p.1 k then (p.1, d) else p) (kk.map fun kv => if kv.1 = kx then (kv.1, v) else kv)
  | [], kk, q => by unfold RelKV at q; subst q; unfold RelKV; rfl
  | (a, d0) :: r, kk, q => by
    unfold RelKV at q
    obtain ⟨ka, w, kr, rfl, e1, e2, e3⟩ := q
    have ih := RelKV.upd (k := k) e h e3
    rw [List.map_cons, List.map_cons]
    simp only [keq_of e1 e]
    by_cases hc : ka = kx
    · simp only [hc, decide_true, if_true]
      unfold RelKV
      exact ⟨kx, v, _, rfl, hc ▸ e1, h, ih⟩
    · simp only [decide_eq_false hc, if_neg hc, Bool.false_eq_true, if_false]
      unfold RelKV
      exact ⟨ka, w, _, rfl, e1, e2, ih⟩
theorem put_rel {K : PySem.W.Frag} {F : Fz} {k d : D} {kx : Key} {v : V} {kvs : List (D × D)} {kk : List (Key × V)} (e : keyD k = some kx) (h : Rel K F d v) (q : RelKV K F kvs kk) : RelKV K F (dPut k d kvs) (putK kk kx v) := by
  unfold dPut putK
  rw [any_rel e q]
  split
  · exact q.upd e h
  · exact q.append e h
theorem RelKV.length {K : PySem.W.Frag} {F : Fz} : ∀ {kvs : List (D × D)} {kk : List (Key × V)}, RelKV K F kvs kk → kvs.length = kk.length
  | [], kk, q => by unfold RelKV at q; subst q; rfl
  | (a, d0) :: r, kk, q => by
    unfold RelKV at q
    obtain ⟨ka, w, kr, rfl, e1, e2, e3⟩ := q
    rw [List.length_cons, List.length_cons, RelKV.length e3]
theorem dPut_mark {k d : D} {kx : Key} {kvs : List (D × D)} (e : keyD k = some kx) (h : isDeck kvs = false) : isDeck (dPut k d kvs) = false := by
  have hk : isDeck [(k, d)] = false := by cases k <;> simp [keyD] at e <;> rfl
  unfold dPut
  cases kvs with
  | nil => exact hk
  | cons p r =>
    obtain ⟨a, w⟩ := p
    split
    · rw [List.map_cons]
      cases a <;> first | (split <;> rfl) | (unfold isDeck at h; cases h)
    · cases a <;> first | rfl | (unfold isDeck at h; cases h)
theorem isDeckN {kvs : List (D × D)} {b : Bool} (h : ¬ ((isDeck kvs || b) = true)) : isDeck kvs = false ∧ b = false := by
  cases e : isDeck kvs <;> cases b <;> simp_all
/-! ### keys that are tuples -/
theorem keys_rel {K : PySem.W.Frag} {F : Fz} : ∀ {ds : List D} {vs : List V} {kl : List Key}, RelL K F ds vs → keysOf ds = some kl → vs = kl.map kV
  | [], vs, kl, h, e => by cases e; rw [h.inv0]; rfl
  | d :: ds, vs, kl, h, e => by
    obtain ⟨v, vr, rfl, h1, h2⟩ := h.inv
    unfold keysOf at e
    cases e1 : keyD d with
    | none => rw [e1] at e; cases e
    | some k =>
      cases e2 : keysOf ds with
      | none => rw [e1, e2] at e; cases e
      | some ks =>
        rw [e1, e2] at e; cases e
        rw [keys_rel h2 e2, key_rel (H := F.h) e1 (h1.sh (Same.refl _))]; rfl
theorem keyT_rel {K : PySem.W.Frag} {F : Fz} {H : Hp} {k : D} {kl : List Key} {y : V} (sub : Same F.h H) (e : keyT k = some kl) (h : Sh K F H k y) : ∃ b, y = .ref b ∧ H b = some (.tup (kl.map kV)) := by
  cases k with
  | tuple ds =>
    obtain ⟨a, vs, rfl, h1, h2⟩ := h
    have := keys_rel h2 e
    subst this
    exact ⟨a, rfl, sub _ _ h1⟩
  | _ => cases e
theorem teq_of {a k : D} {ka kx : List Key} (e1 : keyT a = some ka) (e2 : keyT k = some kx) : teq a k = decide (ka = kx) := by
  unfold teq; rw [e1, e2]
theorem lookT_rel {K : PySem.W.Frag} {F : Fz} {k : D} {kx : List Key} (e : keyT k = some kx) : ∀ {kvs : List (D × D)} {kk : List (List Key × V)}, RelKT K F kvs kk → (∀ d, tLook k kvs = some d → ∃ v, valV kk kx = some v ∧ Rel K F d v) ∧ (tLook k kvs = none → valV kk kx = none)
  | [], kk, h => by
    unfold RelKT at h; subst h
    exact ⟨(fun d z => by cases z), fun _ => rfl⟩
  | (a, d) :: r, kk, h => by
    unfold RelKT at h
    obtain ⟨ka, v, kr, rfl, e1, e2, e3⟩ := h
    have ih := lookT_rel (k := k) e e3
    unfold tLook valV at ih ⊢
    rw [List.find?_cons, List.find?_cons]
    simp only [teq_of e1 e]
    by_cases hc : ka = kx
    · simp only [hc, decide_true]
      exact ⟨fun d' z => ⟨v, rfl, by cases z; exact e2⟩, fun z => by cases z⟩
    · simp only [decide_eq_false hc]
      exact ih
theorem anyT_rel {K : PySem.W.Frag} {F : Fz} {k : D} {kx : List Key} (e : keyT k = some kx) : ∀ {kvs : List (D × D)} {kk : List (List Key × V)}, RelKT K F kvs kk → (kvs.any fun p => teq p.1 k) = (kk.any fun kv => decide (kv.1 = kx))
  | [], kk, h => by unfold RelKT at h; subst h; rfl
  | (a, d) :: r, kk, h => by
    unfold RelKT at h
    obtain ⟨ka, v, kr, rfl, e1, e2, e3⟩ := h
    rw [List.any_cons, List.any_cons, anyT_rel e e3]
    simp only [teq_of e1 e]
theorem RelKT.append {K : PySem.W.Frag} {F : Fz} {k d : D} {kx : List Key} {v : V} (e : keyT k = some kx) (h : Rel K F d v) : ∀ {kvs : List (D × D)} {kk : List (List Key × V)}, RelKT K F kvs kk → RelKT K F (kvs ++ [(k, d)]) (kk ++ [(kx, v)])
  | [], kk, q => by unfold RelKT at q; subst q; unfold RelKT; exact ⟨kx, v, [], rfl, e, h, by unfold RelKT; rfl⟩
  | (a, d0) :: r, kk, q => by
    unfold RelKT at q
    obtain ⟨ka, w, kr, rfl, e1, e2, e3⟩ := q
    show RelKT K F ((a, d0) :: (r ++ [(k, d)])) _
    unfold RelKT
    exact ⟨ka, w, _, rfl, e1, e2, RelKT.append e h e3⟩
theorem RelKT.upd {K : PySem.W.Frag} {F : Fz} {k d : D} {kx : List Key} {v : V} (e : keyT k = some kx) (h : Rel K F d v) : ∀ {kvs : List (D × D)} {kk : List (List Key × V)}, RelKT K F kvs kk → RelKT K F (kvs.map fun p => if teq p.1 k then (p.1, d) else p) (kk.map fun kv => if kv.1 = kx then (kv.1, v) else kv)
  | [], kk, q => by unfold RelKT at q; subst q; unfold RelKT; rfl
  | (a, d0) :: r, kk, q => by
    unfold RelKT at q
    obtain ⟨ka, w, kr, rfl, e1, e2, e3⟩ := q
    have ih := RelKT.upd (k := k) e h e3
    rw [List.map_cons, List.map_cons]
    simp only [teq_of e1 e]
    by_cases hc : ka = kx
    · simp only [hc, decide_true, if_true]
      unfold RelKT
      exact ⟨kx, v, _, rfl, hc ▸ e1, h, ih⟩
    · simp only [decide_eq_false hc, if_neg hc, Bool.false_eq_true, if_false]
      unfold RelKT
      exact ⟨ka, w, _, rfl, e1, e2, ih⟩
theorem putT_rel {K : PySem.W.Frag} {F : Fz} {k d : D} {kx : List Key} {v : V} {kvs : List (D × D)} {kk : List (List Key × V)} (e : keyT k = some kx) (h : Rel K F d v) (q : RelKT K F kvs kk) : RelKT K F (tPut k d kvs) (putK kk kx v) := by
  unfold tPut putK
  rw [anyT_rel e q]
  split
  · exact q.upd e h
  · exact q.append e h
theorem RelKT.length {K : PySem.W.Frag} {F : Fz} : ∀ {kvs : List (D × D)} {kk : List (List Key × V)}, RelKT K F kvs kk → kvs.length = kk.length
  | [], kk, q => by unfold RelKT at q; subst q; rfl
  | (a, d0) :: r, kk, q => by
    unfold RelKT at q
    obtain ⟨ka, w, kr, rfl, e1, e2, e3⟩ := q
    rw [List.length_cons, List.length_cons, RelKT.length e3]
theorem tdOf_some {kvs r : List (D × D)} (h : tdOf kvs = some r) : kvs = (.none, .none) :: r := by
  unfold tdOf at h
  split at h
  · cases h; rfl
  · cases h
theorem noneOf {α : Type} {o : Option α} (h : ¬ (o.isNone = true)) : ∃ a, o = some a := by
  cases o with
  | none => exact (h rfl).elim
  | some a => exact ⟨a, rfl⟩
/-- a dict of either kind, looked at -/
theorem dlk_is {K : PySem.W.Frag} {F : Fz} {H : Hp} {kvs : List (D × D)} {k : D} {o : Option D} {y : V} (h : dlkV kvs k = some o) (hy : Sh K F H (.dict kvs) y) : ∃ p, y = .ref p ∧ IsD H p := by
  unfold dlkV at h
  split at h
  · rename_i r e
    have := tdOf_some e
    subst this
    rcases hy with ⟨_, a, rfl, ⟨n, z⟩ | ⟨c, r', Cn, dx, fs, z, _⟩ | ⟨r', kk, z, z2, _⟩⟩ | ⟨z, _⟩
    · unfold tokD at z; cases z
    · cases z
    · exact ⟨a, rfl, .inr ⟨kk, .inl z2⟩⟩
    · cases z
  · split at h
    · cases h
    · rename_i hc
      obtain ⟨hd, hk⟩ := isDeckN hc
      rcases hy with ⟨z, _⟩ | ⟨_, p, kk, rfl, h1, h2⟩
      · rw [hd] at z; cases z
      · exact ⟨p, rfl, .inl ⟨kk, .inl h1⟩⟩
theorem dlk_rel {K : PySem.W.Frag} {F : Fz} {H : Hp} {kvs : List (D × D)} {k : D} {o : Option D} {y z : V} (h : dlkV kvs k = some o) (sub : Same F.h H) (hy : Sh K F H (.dict kvs) y) (hz : Sh K F H k z) :
    ∃ p w, y = .ref p ∧ DGet H p z w ∧ (∀ d, o = some d → ∃ u, w = some u ∧ Rel K F d u) ∧ (o = none → w = none) := by
  unfold dlkV at h
  split at h
  · rename_i r e
    have := tdOf_some e
    subst this
    split at h
    · cases h
    · rename_i hc
      cases h
      obtain ⟨kl, ek⟩ := noneOf hc
      obtain ⟨b, rfl, hb⟩ := keyT_rel sub ek hz
      rcases hy with ⟨_, a, rfl, ⟨n, z⟩ | ⟨c, r', Cn, dx, fs, z, _⟩ | ⟨r', kk, z, z2, z3⟩⟩ | ⟨z, _⟩
      · unfold tokD at z; cases z
      · cases z
      · cases z
        obtain ⟨l1, l2⟩ := lookT_rel ek z3
        exact ⟨a, _, rfl, DGet.t z2 hb, fun d hd => l1 d hd, l2⟩
      · cases z
  · split at h
    · cases h
    · rename_i hc
      obtain ⟨hd, hk⟩ := isDeckN hc
      cases h
      obtain ⟨kx, ek⟩ := noneOf (o := keyD k) (by rw [hk]; exact Bool.false_ne_true)
      have := key_rel ek hz
      subst this
      rcases hy with ⟨z, _⟩ | ⟨_, p, kk, rfl, h1, h2⟩
      · rw [hd] at z; cases z
      · obtain ⟨l1, l2⟩ := look_rel ek h2
        exact ⟨p, _, rfl, DGet.k h1, fun d hd => l1 d hd, l2⟩
theorem Ef.tnew : Ef X C Ow (.Dict [] [] pos) .tnew :=
  ⟨pe_con pe_dnewT fun σ H Q ⟨T, F, σe, g, v, g', r, m, q⟩ => by
    unfold ev at m
    cases m
    exact fun p n => q F _ p (.refl F) (r.grown n) (new_of r n (.inr (.inr ⟨[], [], rfl, upd_same, by unfold RelKT; rfl⟩)))⟩
theorem Es.dget1 (hK : X.K = C.K) (hu : X.A.units + 1 < cLine) (ha : Eb X C Ow a ia) (hb : Eb X C Ow b ib) (m : M1 X a "get" apos b pos) : Es X C Ow (.Call (.Attribute a "get" apos) [b] [] pos) (.dget ia ib (.c .none)) :=
  ⟨pe_con (pe_dget1 hu ha.run hb.run m) fun σ H Q ⟨T, F, σe, g, v, g', r, m, q⟩ => by
    unfold ev at m
    obtain ⟨dv, g1, m1, m2⟩ := bind_eq_ok m
    obtain ⟨kv, g2, m3, m4⟩ := bind_eq_ok m2
    obtain ⟨xv, g3, m5, m6⟩ := bind_eq_ok m4
    unfold ev at m5
    cases m5
    obtain ⟨m7, e7⟩ := lift_eq_ok m6
    subst e7
    cases dv with
    | dict kvs =>
      obtain ⟨o, m8, e8⟩ := map_some m7
      subst e8
      refine ⟨T, F, σe, g, _, g1, r, m1, fun F1 H1 y s1 r1 b1 => ?_⟩
      obtain ⟨p, rfl, hi⟩ := dlk_is m8 (r1.sh b1)
      refine ⟨p, rfl, hi, T, F1, σe, g1, kv, _, r1, m3, fun F2 H2 z s2 r2 b2 => ?_⟩
      obtain ⟨p', w, e', hg, l1, l2⟩ := dlk_rel m8 r2.sub (r2.sh (b1.mono s2)) (r2.sh b2)
      cases e'
      refine ⟨_, hg, ?_⟩
      cases o with
      | none =>
        rw [l2 rfl]
        exact q F2 H2 _ (s1.trans s2) r2 rel_non
      | some d =>
        obtain ⟨u, e1, e2⟩ := l1 d rfl
        rw [e1]
        exact q F2 H2 _ (s1.trans s2) r2 e2
    | _ => simp [dgetV] at m7⟩
theorem Es.dget2 (hK : X.K = C.K) (hu : X.A.units + 1 < cLine) {c : Expr} {ic : Ex} (ha : Eb X C Ow a ia) (hb : Eb X C Ow b ib) (hc : Es X C Ow c ic) (m : M2 X a "get" apos b c pos) : Es X C Ow (.Call (.Attribute a "get" apos) [b, c] [] pos) (.dget ia ib ic) :=
  ⟨pe_con (pe_dget2 hu ha.run hb.run hc.run m) fun σ H Q ⟨T, F, σe, g, v, g', r, m, q⟩ => by
    unfold ev at m
    obtain ⟨dv, g1, m1, m2⟩ := bind_eq_ok m
    obtain ⟨kv, g2, m3, m4⟩ := bind_eq_ok m2
    obtain ⟨xv, g3, m5, m6⟩ := bind_eq_ok m4
    obtain ⟨m7, e7⟩ := lift_eq_ok m6
    subst e7
    cases dv with
    | dict kvs =>
      obtain ⟨o, m8, e8⟩ := map_some m7
      subst e8
      refine ⟨T, F, σe, g, _, g1, r, m1, fun F1 H1 y s1 r1 b1 => ?_⟩
      obtain ⟨p, rfl, hi⟩ := dlk_is m8 (r1.sh b1)
      refine ⟨p, rfl, hi, T, F1, σe, g1, kv, _, r1, m3, fun F2 H2 z s2 r2 b2 => ⟨T, F2, σe, _, xv, _, r2, m5, fun F3 H3 y3 s3 r3 h3 => ?_⟩⟩
      obtain ⟨p', w, e', hg, l1, l2⟩ := dlk_rel m8 r3.sub (r3.sh (b1.mono (s2.trans s3))) (r3.sh (b2.mono s3))
      cases e'
      refine ⟨_, hg, ?_⟩
      cases o with
      | none =>
        rw [l2 rfl]
        exact q F3 H3 _ (s1.trans (s2.trans s3)) r3 h3
      | some d =>
        obtain ⟨u, e1, e2⟩ := l1 d rfl
        rw [e1]
        exact q F3 H3 _ (s1.trans (s2.trans s3)) r3 e2
    | _ => simp [dgetV] at m7⟩
theorem Es.dix (hK : X.K = C.K) (hu : X.A.units + 1 < cLine) (ha : Eb X C Ow a ia) (hb : Eb X C Ow b ib) (hs : NoSl b) : Es X C Ow (.Subscript a b pos) (.dix ia ib) :=
  ⟨pe_con (pe_dget hu ha.run hb.run hs) fun σ H Q ⟨T, F, σe, g, v, g', r, m, q⟩ => by
    unfold ev at m
    obtain ⟨dv, g1, m1, m2⟩ := bind_eq_ok m
    obtain ⟨kv, g2, m3, m4⟩ := bind_eq_ok m2
    obtain ⟨m7, e7⟩ := lift_eq_ok m4
    subst e7
    cases dv with
    | dict kvs =>
      obtain ⟨o, m8, e8⟩ : ∃ o, dlkV kvs kv = some o ∧ o = some v := by
        simp only [dixV] at m7
        cases z : dlkV kvs kv with
        | none => rw [z] at m7; cases m7
        | some o => rw [z] at m7; exact ⟨o, rfl, m7⟩
      subst e8
      refine ⟨T, F, σe, g, _, g1, r, m1, fun F1 H1 y s1 r1 b1 => ⟨T, F1, σe, g1, kv, _, r1, m3, fun F2 H2 z s2 r2 b2 => ?_⟩⟩
      obtain ⟨p', w, e', hg, l1, l2⟩ := dlk_rel m8 r2.sub (r2.sh (b1.mono s2)) (r2.sh b2)
      subst e'
      obtain ⟨u, e1, e2⟩ := l1 v rfl
      exact ⟨p', u, rfl, by rw [← e1]; exact hg, q F2 H2 _ (s1.trans s2) r2 e2⟩
    | _ => simp [dixV] at m7⟩
theorem Et.dhas0 {n : Bool} {σ : L2.St} {H : Hp} {Q : VK} (h : tS C Ow (ev C.Φ (.dhas ia ib n)) σ H Q) : tB C Ow (ev C.Φ ia) σ H fun x H1 => tB C Ow (ev C.Φ ib) σ H1 fun y H2 => ∃ d o, y = .ref d ∧ DGet H2 d x o ∧ Q (.bl (o.isSome != n)) H2 := by
  obtain ⟨T, F, σe, g, v, g', r, m, q⟩ := h
  unfold ev at m
  obtain ⟨kv, g1, m1, m2⟩ := bind_eq_ok m
  obtain ⟨dv, g2, m3, m4⟩ := bind_eq_ok m2
  obtain ⟨m7, e7⟩ := lift_eq_ok m4
  subst e7
  obtain ⟨k, m8, e8⟩ := map_some m7
  subst e8
  cases dv with
  | dict kvs =>
    obtain ⟨o, m9, e9⟩ := map_some m8
    subst e9
    refine ⟨T, F, σe, g, _, g1, r, m1, fun F1 H1 y s1 r1 b1 => ⟨T, F1, σe, g1, _, _, r1, m3, fun F2 H2 z s2 r2 b2 => ?_⟩⟩
    obtain ⟨p', w, e', hg, l1, l2⟩ := dlk_rel m9 r2.sub (r2.sh b2) (r2.sh (b1.mono s2))
    subst e'
    refine ⟨p', w, rfl, hg, q F2 H2 _ (s1.trans s2) r2 ?_⟩
    cases o with
    | none => rw [l2 rfl]; exact rel_bl
    | some d =>
      obtain ⟨u, e1, e2⟩ := l1 d rfl
      rw [e1]; exact rel_bl
  | _ => simp [dhasV] at m8
theorem Et.dhas (hK : X.K = C.K) (hu : X.A.units + 1 < cLine) (ha : Eb X C Ow a ia) (hb : Eb X C Ow b ib) : PC X .In a b (tS C Ow (ev C.Φ (.dhas ia ib false))) := by
  refine ⟨fun pins s σ H Q I h => (pc_din hu ha.run hb.run).run pins s σ H Q I ?_⟩
  obtain ⟨T, F, σe, g, v, g', r, m, q⟩ := Et.dhas0 h
  refine ⟨T, F, σe, g, v, g', r, m, fun F1 H1 x s1 r1 b1 => ?_⟩
  obtain ⟨T2, F2, σe2, g2, v2, g2', r2, m2, q2⟩ := q F1 H1 x s1 r1 b1
  refine ⟨T2, F2, σe2, g2, v2, g2', r2, m2, fun F3 H3 y s3 r3 b3 => ?_⟩
  obtain ⟨d, o, e1, e2, e3⟩ := q2 F3 H3 y s3 r3 b3
  exact ⟨d, o, e1, e2, by simpa using e3⟩
theorem Et.dhasN (hK : X.K = C.K) (hu : X.A.units + 1 < cLine) (ha : Eb X C Ow a ia) (hb : Eb X C Ow b ib) : PC X .NotIn a b (tS C Ow (ev C.Φ (.dhas ia ib true))) := by
  refine ⟨fun pins s σ H Q I h => (pc_dnotin hu ha.run hb.run).run pins s σ H Q I ?_⟩
  obtain ⟨T, F, σe, g, v, g', r, m, q⟩ := Et.dhas0 h
  refine ⟨T, F, σe, g, v, g', r, m, fun F1 H1 x s1 r1 b1 => ?_⟩
  obtain ⟨T2, F2, σe2, g2, v2, g2', r2, m2, q2⟩ := q F1 H1 x s1 r1 b1
  refine ⟨T2, F2, σe2, g2, v2, g2', r2, m2, fun F3 H3 y s3 r3 b3 => ?_⟩
  obtain ⟨d, o, e1, e2, e3⟩ := q2 F3 H3 y s3 r3 b3
  exact ⟨d, o, e1, e2, by simpa using e3⟩
theorem Es.dhas (hK : X.K = C.K) (hu : X.A.units + 1 < cLine) (ha : Eb X C Ow a ia) (hb : Eb X C Ow b ib) (h1 : behindInMarks .In b = false) : Es X C Ow (.Compare a [.In] [b] pos) (.dhas ia ib false) := ⟨pe_cmp (Et.dhas hK hu ha hb) h1⟩
theorem Es.dhasN (hK : X.K = C.K) (hu : X.A.units + 1 < cLine) (ha : Eb X C Ow a ia) (hb : Eb X C Ow b ib) (h1 : behindInMarks .NotIn b = false) : Es X C Ow (.Compare a [.NotIn] [b] pos) (.dhas ia ib true) := ⟨pe_cmp (Et.dhasN hK hu ha hb) h1⟩
end
end Pv
end

section
/-! PvJ: lists and dicts changed; a def; the law. -/
set_option autoImplicit false
namespace Pv
open PySem PySem.Spec PyProof.Rows L2

section
variable {X : Cx} {C : Ct} {Ow Ow' OwL : List Nat} {e a b c : Expr} {es : List Expr} {i ia ib ic : Ex} {is : Exs} {pos p apos np pos' : Pos} {x : Str} {n : Nat}
theorem own_list {T : Hp} {F : Fz} {σe : Sl} {g : G} {σ : L2.St} {H : Hp} {xs : List D} (r : R C Ow T F σe g σ H) (hn : n ∈ Ow) (e : σe[n]? = some (some (.list xs))) : ∃ a vs, σ[n]? = some (some (V.ref a)) ∧ H a = some (.lst vs) ∧ RelL C.K F xs vs := by
  obtain ⟨a, e1, ⟨vs, e2, e3⟩, _⟩ := r.ow n _ e hn
  exact ⟨a, vs, e1, e2, e3⟩
theorem own_dict {T : Hp} {F : Fz} {σe : Sl} {g : G} {σ : L2.St} {H : Hp} {xs : List (D × D)} (r : R C Ow T F σe g σ H) (hn : n ∈ Ow) (e : σe[n]? = some (some (.dict xs))) (hd : isDeck xs = false) : ∃ a vs, σ[n]? = some (some (V.ref a)) ∧ H a = some (.dK vs) ∧ RelKV C.K F xs vs ∧ isDeck xs = false := by
  obtain ⟨a, e1, ⟨e0, vs, e2, e3⟩ | z | z, _⟩ := r.ow n _ e hn
  · exact ⟨a, vs, e1, e2, e3, e0⟩
  · rw [z.mark] at hd; cases hd
  · rw [z.mark] at hd; cases hd
/-- xs.append(e) -/
theorem Ss.app (n : Nat) (hn : n ∈ Ow) (hN : X.N[n]? = some x) (hv : Vis X.env.scope x) (hd : (x == ("__debug__" : Str)) = false) (hcd : (x == ("__classdict__" : Str)) = false) (h : Es X C Ow e i)
    (hbase : attributeBase (.Name x np) "append" X.env (eval (.Name x np) X.env) = eval (.Name x np) X.env)
    (hfew : ((backTo pos (starEach [e] X.env)).all (fun x => !x.1) && (backToKw pos (keywordEach [] X.env)).all (fun x => x.1.isSome) && decide (([e] : List Expr).length + ([] : List Keyword).length + (if ([] : List Keyword).isEmpty then 0 else 1) < 30)) = true)
    (hline : (apos.endLine == pos.line) = true) (hs : starEach [e] X.env = (false, eval e X.env) :: starEach [] X.env) (hpl : (backTo pos (starEach [] X.env)).any (·.1) = false) (hsw : swapsWith (.Call (.Attribute (.Name x np) "append" apos) [e] [] pos) none pos'.line X.env = pure false) :
    Ss X C Ow Ow OwL (.Expr (.Call (.Attribute (.Name x np) "append" apos) [e] [] pos) pos') (.app n i) :=
  ⟨ps_con (ps_expr (pe_bm PySem.F.plainAttrs_list PySem.F.slot_list_append PySem.F.type_list_append (by exact mt_append) (pe_var hN hv hd hcd) (pa_cons h.run pa_nil hs) hbase hfew hline hs hpl) hsw) fun D σ H ⟨T, F, σe, g, fl, g', r, m, q⟩ => by
    unfold Pv.run at m
    obtain ⟨d0, g0, m0, m1⟩ := bind_eq_ok m
    obtain ⟨e0, e0'⟩ := slot_ok m0
    subst e0'
    obtain ⟨v, g1, m2, m3⟩ := bind_eq_ok m1
    obtain ⟨d1, g2, m4, m5⟩ := bind_eq_ok m3
    obtain ⟨e1, e1'⟩ := slot_ok m4
    subst e1'
    obtain ⟨d2, g3, m6, m7⟩ := bind_eq_ok m5
    obtain ⟨m8, e8⟩ := lift_eq_ok m6
    subst e8
    cases m7
    rw [e0] at e1
    have e1 : d0 = d1 := Option.some.inj (Option.some.inj e1)
    subst e1
    cases d0 with
    | list xs =>
      simp only [appV] at m8
      split at m8
      · rename_i hc
        cases m8
        obtain ⟨p, vs, q1, q2, q3⟩ := own_list r hn e0
        refine ⟨.ref p, q1, .inl ⟨rfl, vs, SqL.of q2⟩, T, F, σe, _, v, _, r, m2, fun F1 H1 y s1 r1 h1 => ?_⟩
        obtain ⟨p', vs', z1, z2, z3⟩ := own_list r1 hn e0
        rw [q1] at z1
        cases z1
        refine ⟨p, vs', y, rfl, rfl, z2, ?_, q F1 _ _ s1 (r1.write hn e0 q1 ⟨_, upd_same, z3.append (.cons h1 .nil)⟩)⟩
        rw [← z3.length]
        exact lineN_lt (of_decide_eq_true hc)
      · cases m8
    | _ => simp [appV] at m8⟩
/-- xs[k] = e, a list -/
theorem Ss.setIx {k : Expr} {ik : Ex} (n : Nat) (hn : n ∈ Ow) (hN : X.N[n]? = some x) (hv : Vis X.env.scope x) (hd : (x == ("__debug__" : Str)) = false) (hcd : (x == ("__classdict__" : Str)) = false) (h : Es X C Ow e i) (hk : Eb X C Ow k ik)
    (ha : ∀ v, assign (.Subscript (.Name x np) k apos) X.env v = (do
      let ov ← holding [v] (eval (.Name x np) X.env)
      let iv ← holding [v, ov] (eval k X.env)
      standAt apos
      holding [v, ov, iv] (setItem ov iv v)
      release [v, ov, iv] [])) (hs : swapsWithSole [.Subscript (.Name x np) k apos] e pos.line X.env = pure false) (hw : swappedStores [.Subscript (.Name x np) k apos] e X.env = pure none) (h1 : (assignEach [.Subscript (.Name x np) k apos] X.env).map (·.2) = [assign (.Subscript (.Name x np) k apos) X.env]) :
    Ss X C Ow Ow OwL (.Assign [.Subscript (.Name x np) k apos] e pos) (.setIx n ik i) :=
  ⟨ps_con (ps_asg h.run (pg_sub (pe_var hN hv hd hcd) hk.run set_list ha) hs hw h1) fun D σ H ⟨T, F, σe, g, fl, g', r, m, q⟩ => by
    unfold Pv.run at m
    obtain ⟨v, g1, m1, m2⟩ := bind_eq_ok m
    obtain ⟨d0, g2, m3, m4⟩ := bind_eq_ok m2
    obtain ⟨e0, e0'⟩ := slot_ok m3
    subst e0'
    obtain ⟨kv, g3, m5, m6⟩ := bind_eq_ok m4
    obtain ⟨d2, g4, m7, m8⟩ := bind_eq_ok m6
    obtain ⟨m9, e9⟩ := lift_eq_ok m7
    subst e9
    cases m8
    cases d0 with
    | list xs =>
      cases kv with
      | int j =>
        obtain ⟨jj, e2, e3⟩ := map_some m9
        subst e3
        refine ⟨T, F, σe, g, v, _, r, m1, fun F1 H1 y s1 r1 h1 => ?_⟩
        obtain ⟨p, vs, q1, q2, q3⟩ := own_list r1 hn e0
        refine ⟨.ref p, q1, T, F1, σe, _, _, _, r1, m5, fun F2 H2 z s2 r2 b2 => ?_⟩
        have hz : z = .int j := r2.sh b2
        subst hz
        obtain ⟨p', vs', z1, z2, z3⟩ := own_list r2 hn e0
        rw [q1] at z1
        cases z1
        exact ⟨p, vs', j, jj, rfl, rfl, z2, by rw [← z3.length]; exact e2, q F2 _ _ (s1.trans s2) (r2.write hn e0 q1 ⟨_, upd_same, z3.set (h1.mono s2 _ _) jj⟩)⟩
      | _ => simp [setIxV] at m9
    | _ => simp [setIxV] at m9⟩
/-- d.setdefault(k, e) -/
theorem Ss.setd {k : Expr} {ik : Ex} (n : Nat) (hn : n ∈ Ow) (hN : X.N[n]? = some x) (hv : Vis X.env.scope x) (hd : (x == ("__debug__" : Str)) = false) (hcd : (x == ("__classdict__" : Str)) = false) (hk : Eb X C Ow k ik) (h : Es X C Ow e i)
    (m2 : M2 X (.Name x np) "setdefault" apos k e pos) (hsw : swapsWith (.Call (.Attribute (.Name x np) "setdefault" apos) [k, e] [] pos) none pos'.line X.env = pure false) :
    Ss X C Ow Ow OwL (.Expr (.Call (.Attribute (.Name x np) "setdefault" apos) [k, e] [] pos) pos') (.setd n ik i) :=
  ⟨ps_con (ps_expr (pe_dsetd (pe_var hN hv hd hcd) hk.run h.run m2) hsw) fun D σ H ⟨T, F, σe, g, fl, g', r, m, q⟩ => by
    unfold Pv.run at m
    obtain ⟨d0, g0, m0, m1⟩ := bind_eq_ok m
    obtain ⟨e0, e0'⟩ := slot_ok m0
    subst e0'
    obtain ⟨kv, g1, m2, m3⟩ := bind_eq_ok m1
    obtain ⟨v, g2, m4, m5⟩ := bind_eq_ok m3
    obtain ⟨d2, g3, m6, m7⟩ := bind_eq_ok m5
    obtain ⟨m8, e8⟩ := lift_eq_ok m6
    subst e8
    cases m7
    cases d0 with
    | dict kvs =>
      simp only [setdV] at m8
      split at m8
      · cases m8
      · rename_i hc
        have hdk : isDeck kvs = false := by
          cases z : isDeck kvs with
          | false => rfl
          | true => rw [z] at hc; simp at hc
        obtain ⟨p, vs, q1, q2, q3, q4⟩ := own_dict r hn e0 hdk
        refine ⟨.ref p, q1, p, rfl, .inl ⟨vs, .inl q2⟩, T, F, σe, _, kv, _, r, m2, fun F1 H1 y s1 r1 b1 => ⟨T, F1, σe, _, v, _, r1, m4, fun F2 H2 z s2 r2 h2 => ?_⟩⟩
        obtain ⟨kx, ek⟩ : ∃ kx, keyD kv = some kx := by
          cases z : keyD kv with
          | none => rw [z] at hc; simp at hc
          | some kx => exact ⟨kx, rfl⟩
        have hz := key_rel ek (r2.sh (b1.mono s2))
        obtain ⟨p', vs', z1, z2, z3, _⟩ := own_dict r2 hn e0 hdk
        rw [q1] at z1
        cases z1
        obtain ⟨l1, l2⟩ := look_rel ek z3
        have hl : vs'.length < sizeLine := by
          rw [← z3.length]
          refine lineN_lt ?_
          simp at hc
          exact hc.2
        refine ⟨vs', kx, z2, hz, hl, fun w hw => ?_, fun hw => ?_⟩
        · cases zl : dLook kv kvs with
          | none => rw [l2 zl] at hw; cases hw
          | some d =>
            rw [zl] at m8
            cases m8
            have e1 : σe.set n (some (.dict kvs)) = σe := by
              apply List.ext_getElem?
              intro j
              by_cases hj : n = j
              · subst hj
                rw [List.getElem?_set_self (List.getElem?_eq_some_iff.mp e0).1, e0]
              · rw [List.getElem?_set_ne hj]
            rw [e1] at q
            exact q F2 _ _ (s1.trans s2) r2
        · cases zl : dLook kv kvs with
          | some d =>
            obtain ⟨w, e1, _⟩ := l1 d zl
            rw [hw] at e1; cases e1
          | none =>
            rw [zl] at m8
            cases m8
            exact q F2 _ _ (s1.trans s2) (r2.write hn e0 q1 (.inl ⟨dPut_mark ek q4, _, upd_same, put_rel ek h2 z3⟩))
    | _ => simp [setdV] at m8⟩
end

/-! ### a def -/
section
variable {P : Program} {w : World} {K : PySem.W.Frag} {mg : Str → Option Value} {base : Heap} {x qual : Str} {st : Stmt} {f : Addr} {fd : FuncData} {N ps : List Str} {k : Nat}
theorem start_len {vs : List V} (h : vs.length ≤ N.length) : (L2.start N vs).length = N.length := by
  unfold L2.start
  rw [List.length_append, List.length_map, List.length_replicate]
  omega
/-- the state at a def's start -/
theorem R.start {C : Ct} {F : Fz} {ds : List D} {g : G} {H : Hp} {vs : List V} (hH : C.H0 = H) (hF : C.F0 = F) (sub : Same F.h H) (sc : F.sc = C.sc) (dk : DkR C F g H) (h : RelL C.K F ds vs) (hn : vs.length ≤ N.length) :
    R C [] (fun _ => none) F (ds.map some ++ List.replicate (N.length - ds.length) none) g (L2.start N vs) H := by
  subst hH; subst hF
  have hl := h.length
  refine ⟨sub, sc, .refl _, (fun a o e n => by rw [n] at e; cases e), fun a o e => .inr e, fun d l e => .inl e, ?_, fun i v e n => ?_, fun i v e n => absurd n (List.not_mem_nil), fun i j a hi => absurd hi (List.not_mem_nil), dk, (fun a o e => by cases e), (fun a e z => absurd z (List.not_mem_nil))⟩
  · rw [start_len hn, List.length_append, List.length_map, List.length_replicate]; omega
  · have hi : i < ds.length := by
      by_cases hi : i < ds.length
      · exact hi
      · rw [List.getElem?_append_right (by rw [List.length_map]; omega), List.getElem?_replicate] at e
        split at e <;> cases e
    rw [List.getElem?_append_left (by rw [List.length_map]; exact hi), List.getElem?_map] at e
    cases q : ds[i]? with
    | none => rw [q] at e; cases e
    | some d =>
      rw [q] at e
      cases e
      obtain ⟨u, e1, e2⟩ := h.get q
      refine ⟨u, ?_, e2⟩
      unfold L2.start
      rw [List.getElem?_append_left (by rw [List.length_map]; rw [← hl]; exact hi), List.getElem?_map, e1]
      rfl
/-- a def's body in the small language gives its promise -/
theorem defOk {C0 : Ct} (F : Fun K x qual st f fd) (S : FnScope N ps (defScope st)) (hK : C0.K = K) (fi : Nat) (m : Sm) (T : List Fn) (pr : Prims) (d : Nat) (hpr : pr fi = none) (hT : T[fi]? = some ⟨ps.length, N.length, m⟩) (hps : ps.length ≤ N.length)
    (body : ∀ (cdv : Value) (A : Around) (outer : List Env) (s : Shared) (H : Hp) (F0 : Fz), A.guards = some [] → Room k (A.deeper (envOfC qual (defScope st) s.heap.objs.size f cdv)) →
      ∃ Ow', Sb (cxOf CX0 P w K mg base N qual (defScope st) f cdv A outer s H E0).nox { C0 with H0 := H, F0 := F0, Φ := FT T pr d, fu := fuel, slf := none } [] Ow' [] (defBody st) m) :
    FnG P w K mg base CX0 (k + 1) f fd ps (spS C0 (FT T pr (d + 1) fi) ps.length) := by
  refine funOk F S (fun vs H Q E h => h.1) fun cdv A outer s H vs Q E hg hr hsp => ?_
  obtain ⟨hn, F0, ds, g, v, g', sub, sc, dk, rl, hev, q⟩ := hsp
  obtain ⟨Ow', hb⟩ := body cdv A outer s H F0 hg hr
  unfold FT at hev
  rw [hpr] at hev
  simp only [hT] at hev
  split at hev
  · rename_i hl
    refine ⟨_, (show PSs (cxOf CX0 P w K mg base N qual (defScope st) f cdv A outer s H E).nox _ _ from hb.run), ?_⟩
    cases hr0 : Pv.run (FT T pr d) fuel m (ds.map some ++ List.replicate (N.length - ps.length) none) g with
    | no => rw [hr0] at hev; cases hev
    | exc c vs g1 => rw [hr0] at hev; cases hev
    | ok fl g1 =>
      rw [hr0] at hev
      have r := R.start (C := { C0 with H0 := H, F0 := F0, Φ := FT T pr d, fu := fuel, slf := none }) (N := N) (vs := vs) rfl rfl sub sc (show DkR _ F0 g H from dk) rl (by rw [hn]; exact hps)
      rw [hl] at r
      have endR : ∀ {F' : Fz} {Ow2 : List Nat} {σe2 : Sl} {σ2 : L2.St} {H' : Hp} {y : V} {v2 : D}, Fsub F0 F' → R { C0 with H0 := H, F0 := F0, Φ := FT T pr d, fu := fuel, slf := none } Ow2 (fun _ => none) F' σe2 g1 σ2 H' → Rel C0.K F' v2 y → v2 = v → g1 = g' → Q y H' := fun {F' Ow2 σe2 σ2 H' y v2} s1 r1 h1 e1 e2 => by
        subst e1; subst e2
        exact q F' H' y s1 r1.sub (fun a o z1 z2 => r1.new a o z1 z2) (fun a o z => r1.keep a o z) (fun d l z => r1.dnew d l z) r1.dk h1
      refine ⟨fun _ => none, F0, _, g, fl, g1, r, hr0, ?_⟩
      cases fl with
      | nx σe' => cases hev; exact fun F' σ' H' s1 r1 => endR s1 r1 rel_non rfl rfl
      | rt v2 => cases hev; exact fun F' Ow2 σe2 σ2 H' y s1 r1 h1 => endR s1 r1 h1 rfl rfl
      | bk σe' => cases hev
      | ct σe' => cases hev
  · cases hev
end
end Pv
end

section
/-! PvK: the law's end; decks. -/
set_option autoImplicit false
namespace Pv
open PySem PySem.Spec PyProof.Rows L2

/-! ### the end -/
/-- what is wanted of the law's call -/
def Good (s₁ : Shared) (r : Result) (s' : Shared) : Prop := r = .ok (.ret (.bool true)) ∧ OldK s₁.heap s'.heap ∧ s'.os = s₁.os ∧ AllBare s'.gens
section
variable {P : Program} {w : World} {K : PySem.W.Frag} {mg mb : Str → Option Value} {k : Nat} {fa a : Addr} {fd : FuncData} {x : Str} {sp : Sp} {s₁ : Shared} {vs : List Value} {ns : List Int}
/-- the heap with nothing tracked but the script, and that as it stands -/
def scriptHp (K : PySem.W.Frag) (a : Addr) (vs : List Value) (ns : List Int) : Hp := fun b => if b = a ∧ K.lookup a = none then some (.frz { cls := .type "list", data := .seq vs.toArray } (.lst (ns.map V.int))) else none
theorem scriptHp_cases (b : Addr) : scriptHp K a vs ns b = none ∨ (b = a ∧ K.lookup a = none ∧ scriptHp K a vs ns b = some (.frz { cls := .type "list", data := .seq vs.toArray } (.lst (ns.map V.int)))) := by
  unfold scriptHp
  by_cases h : b = a ∧ K.lookup a = none
  · exact .inr ⟨h.1, h.2, if_pos h⟩
  · exact .inl (if_neg h)
theorem lawEnd (KX : K.In s₁.heap) (hns : s₁.heap.Ns mainGlobals mg) (hb : s₁.heap.Ns builtinsNs mb) (hbb : ∀ x : Str, x ≠ "__name__" → mb x = bootBuiltins x) (hlim : s₁.heap.NoLimit) (hg : s₁.gens = #[])
    (ha : s₁.heap.get? a = some { cls := .type "list", data := .seq vs.toArray }) (hi : IntsAre vs ns) (hl : ns.length ≤ sizeLine) (hr : Room k callerA)
    (F : ∀ base : Heap, K.In base → base.Ns mainGlobals mg → FnG P w K mg base CX0 k fa fd [x] sp) (hbind : ∀ (s : Shared) (u : Value), BindsTo s fd ⟨[u], []⟩ [(x, u)])
    (hsp : ∀ H : Hp, (∀ b, H b = none ∨ ∃ o xs, H b = some (.frz o (.lst xs))) → SqL K H a (ns.map V.int) → sp [.ref a] H (fun v _ => v = .bl true) fun _ _ _ => False) : codeAny (model P w) callerA (.call (.ref fa) ⟨[.ref a], []⟩) (Good s₁) s₁ := by
  have rv := vals_ints hi
  have cs := scriptHp_cases (K := K) (a := a) (vs := vs) (ns := ns)
  let H := scriptHp K a vs ns
  have only : ∀ b, H b = none ∨ ∃ o xs, H b = some (.frz o (.lst xs)) := fun b => (cs b).imp id fun z => ⟨_, _, z.2.2⟩
  have isSeq : SqL K H a (ns.map V.int) := by
    cases hk : K.lookup a with
    | none => exact .inl (.inr ⟨_, if_pos ⟨rfl, hk⟩⟩)
    | some o =>
      have e := KX a o hk
      rw [ha] at e
      cases e
      exact .inr ⟨_, vs.toArray, _, hk, rfl, rfl, rfl, by rw [List.size_toArray, hi.length]; exact hl, by simpa using rv⟩
  have hok : HOk P w H s₁.heap := fun b u z => by
    rcases cs b with q | ⟨rfl, _, q⟩
    · rw [show H b = none from q] at z; cases z
    · rw [show H b = _ from q] at z; cases z
      exact ⟨ha, by rw [List.length_map]; exact hl, vs, _, rv, ha⟩
  have keep : ∀ {b : Addr} {o : Obj}, s₁.heap.get? b = some o → (b = a → o.data ≠ .seq vs.toArray 0) → (hidT s₁.heap H).get? b = some o := fun {b o} e n => hidT_get e (by
    rcases cs b with q | ⟨rfl, _, q⟩
    · exact q
    · rw [ha] at e; cases e
      exact (n rfl rfl).elim)
  have ns2 : ∀ {b : Addr} {m : Str → Option Value}, s₁.heap.Ns b m → (hidT s₁.heap H).Ns b m := fun {b m} ⟨o, es, ep, e, d, r⟩ => ⟨o, es, ep, keep e fun _ z => (by rw [d] at z; cases z), d, r⟩
  have inB : K.In (hidT s₁.heap H) := fun b o e => hidT_get (KX b o e) (by
    rcases cs b with q | ⟨rfl, z, _⟩
    · exact q
    · rw [z] at e; cases e)
  have md : Mod K mg (hidT s₁.heap H) := ⟨inB, ns2 hns, ⟨mb, ns2 hb, hbb⟩, hlim.imp fun mc z => ⟨ns2 z.1, z.2⟩⟩
  have e0 : Env0 P w K mg (hidT s₁.heap H) callerA [] s₁ H := ⟨rfl, md, fun b o e => of_hidT e, Nat.le_of_eq (hidT_size _ _), trivial, (fun b hb => nomatch hb), hok, .of_eq hg⟩
  refine codeAny_mono ((F _ inB (ns2 hns)).run callerA [] s₁ H ⟨[.ref a], []⟩ [.ref a] [.ref a] _ _ rfl hr e0 (hbind s₁ (.ref a)) (.cons rfl .nil) (hsp H only isSeq)) fun r s' h => ?_
  match r, h with
  | .error e, h => exact False.elim h
  | .ok .next, h => exact False.elim h
  | .ok .brk, h => exact False.elim h
  | .ok .cont, h => exact False.elim h
  | .ok (.ret u), ⟨v, H', os, bare, un, hok', r', q⟩ =>
    subst q
    cases r'
    refine ⟨rfl, OldK.of_keep fun b o e => ?_, os, bare⟩
    rcases cs b with z | ⟨_, _, z⟩
    · exact un.keep b o e z (fun y => nomatch y) (fun y => nomatch y)
    · have e1 := (hok b _ z).1
      rw [e] at e1; cases e1
      exact (hok' b _ (un.frzs b _ _ z)).1
end
/-- the goal that k_head leaves -/
theorem walkEnd {l : PySem.W.OpenLaw} {n k : Nat} {q : Program} {loose : List Str} {XP : (Str → Option Value) → Heap → Prop} {YP : World → Heap → Prop} {d : DefRec} {K : Params → PySem.W.Frag} {x : Str}
    (hn : l.most = some n) (hn2 : n ≤ sizeLine) (hdf : d.params.defaults = []) (hr : Room k callerA)
    (hY : ∀ (w : World) (h : Heap), YP w h → (K w.params).In h)
    (F : ∀ (w : World) (mg : Str → Option Value) (fa : Addr) (h : Heap), (K w.params).In h → h.Ns mainGlobals mg → mg d.name = some (.ref fa) →
      ∃ fd : FuncData, (∀ (s : Shared) (u : Value), BindsTo s fd ⟨[u], []⟩ [(x, u)]) ∧
        ∀ (a : Addr) (ns : List Int), ns.length ≤ n → ∃ sp : Sp, (∀ H : Hp, (∀ b, H b = none ∨ ∃ o xs, H b = some (.frz o (.lst xs))) → SqL (K w.params) H a (ns.map V.int) → sp [.ref a] H (fun v _ => v = .bl true) fun _ _ _ => False) ∧
          ∀ base : Heap, (K w.params).In base → base.Ns mainGlobals mg → FnG l.prog w (K w.params) mg base CX0 k fa fd [x] sp) :
    PySem.W.WalkO q loose XP YP l.row.toRowW d [] (fun f vs => PySem.call f vs) := by
  refine Att.attach_call hn hdf fun w s₀ s₁ mg mb fa o pm cd doc a vs ns G Y ho hd hcd hmg hobj hints hlen hg => ?_
  have KX := hY w _ Y
  obtain ⟨fd, hb, hF⟩ := F w mg fa _ KX G.T.g hmg
  obtain ⟨sp, h1, h2⟩ := hF a ns hlen
  exact lawEnd KX G.T.g G.T.b G.T.builtins G.T.nolimit hg hobj hints (Nat.le_trans hlen hn2) hr h2 hb fun H hO hS => h1 H hO hS

/-! ### the law's promise: from its value in the small language -/
theorem law_sp {C : Ct} {H : Hp} {a : Addr} {ns : List Int} {Φ : List D → G → Res D} (hc : C.sc.1 = some (a, ns)) (hS : SqL C.K H a (ns.map V.int)) (hs : ∃ g', Φ [tokD 1] none = .ok (.bool true) g') :
    spS C Φ 1 [.ref a] H (fun v _ => v = .bl true) fun _ _ _ => False := by
  obtain ⟨g', h⟩ := hs
  refine ⟨rfl, ⟨H, none, C.sc⟩, [tokD 1], none, .bool true, g', Same.refl _, rfl, rfl, .cons ?_ .nil, h, fun F' H' x s1 s2 nw kp dn dk rx => ?_⟩
  · unfold tokD Rel
    exact .inl ⟨rfl, .inr (.inl ⟨a, ns, hc, rfl, hS, rfl⟩)⟩
  · unfold Rel at rx; exact rx

/-! ### decks -/
/-- what a primitive of the deck does -/
abbrev Prim := List D → G → Res D
theorem rel_tok0 {K : PySem.W.Frag} {F : Fz} {x : V} (h : Rel K F (tokD 0) x) : ∃ d l, F.dk = some (d, l) ∧ x = .ref d := by
  unfold tokD Rel at h
  rcases h with ⟨_, ⟨d, l, e1, e2, _⟩ | ⟨a, ns, _, _, _, e⟩ | q | q⟩ | ⟨z, _⟩
  · exact ⟨d, l, e1, e2⟩
  · unfold tokD at e
    simp at e
  · unfold RelO at q
    obtain ⟨z, _⟩ := q
    cases z
  · unfold RelTd at q
    obtain ⟨z, _⟩ := q
    cases z
  · cases z
theorem rel_tok1 {K : PySem.W.Frag} {F : Fz} {x : V} (h : Rel K F (tokD 1) x) : ∃ a ns, F.sc.1 = some (a, ns) ∧ x = .ref a ∧ SqL K F.h a (ns.map V.int) := by
  unfold tokD Rel at h
  rcases h with ⟨_, ⟨d, l, e1, e2, e⟩ | ⟨a, ns, e1, e2, e3, _⟩ | q | q⟩ | ⟨z, _⟩
  · unfold tokD at e
    simp at e
  · exact ⟨a, ns, e1, e2, e3⟩
  · unfold RelO at q
    obtain ⟨z, _⟩ := q
    cases z
  · unfold RelTd at q
    obtain ⟨z, _⟩ := q
    cases z
  · cases z
end Pv
end

section
/-! PvL: the rules for decks of draws. -/
set_option autoImplicit false
namespace Pv
open PySem PySem.Spec PyProof.Rows L2

structure DkN (C : Ct) : Prop where
  a : C.n1 ≠ C.n2
  b : ∀ n, C.n3 = some n → n ≠ C.n1 ∧ n ≠ C.n2
section
variable {X : Cx} {C : Ct} {Ow Ow' OwL : List Nat} {e a b c : Expr} {i ia ib ic : Ex} {pos pos' apos kp : Pos}
theorem dk_of_tok {T : Hp} {F : Fz} {σe : Sl} {st : Dk} {σ : L2.St} {H : Hp} {d : D} {x : V} (r : R C Ow T F σe (some st) σ H) (h : Bm C Ow F σe σ d x) (t : isTok 0 d = true) : ∃ d l, F.dk = some (d, l) ∧ x = .ref d ∧ d ≠ l ∧ F.h d = none ∧ F.h l = none ∧ H l = some (.lst (st.cells.map V.int)) ∧ H d = some (.dK (dkL C l st)) := by
  have e := of_isTok t
  subst e
  rcases h with h | ⟨i, hi, e1, e2⟩
  · obtain ⟨d, l, e1, e2⟩ := rel_tok0 h
    obtain ⟨d', l', e3, q⟩ := r.dk
    rw [e1] at e3; cases e3
    exact ⟨d, l, e1, e2, q⟩
  · obtain ⟨a, _, o, _⟩ := r.ow i _ e1 hi
    rcases o with ⟨z, _⟩ | ⟨_, _, _, _, _, z, _⟩ | ⟨_, _, z, _⟩
    · cases z
    · cases z
    · cases z
theorem val_1 {l : Addr} {st : Dk} : valV (dkL C l st) (.inr C.n1) = some (.ref l) := by
  unfold valV dkL
  rw [List.find?_cons_of_pos (by simp)]; rfl
theorem val_2 {l : Addr} {st : Dk} (n : DkN C) : valV (dkL C l st) (.inr C.n2) = some (.int st.mixed) := by
  unfold valV dkL
  rw [List.find?_cons_of_neg (by simpa using n.a), List.find?_cons_of_pos (by simp)]; rfl
theorem val_3 {l : Addr} {st : Dk} {x : Str} (n : DkN C) (h : C.n3 = some x) : valV (dkL C l st) (.inr x) = some (.int st.turn) := by
  obtain ⟨h1, h2⟩ := n.b x h
  unfold valV dkL
  rw [h, List.find?_cons_of_neg (by simpa using Ne.symm h1), List.find?_cons_of_neg (by simpa using Ne.symm h2)]
  simp
theorem put_2 {l : Addr} {st : Dk} {c : Int} (n : DkN C) : putK (dkL C l st) (.inr C.n2) (.int c) = dkL C l { st with mixed := c } := by
  have h : ∀ x, C.n3 = some x → x ≠ C.n2 := fun x e => (n.b x e).2
  unfold putK dkL
  cases e : C.n3 with
  | none => simp [n.a]
  | some x => simp [n.a, h x e]
theorem put_3 {l : Addr} {st : Dk} {c : Int} {x : Str} (n : DkN C) (h : C.n3 = some x) : putK (dkL C l st) (.inr x) (.int c) = dkL C l { st with turn := c } := by
  obtain ⟨h1, h2⟩ := n.b x h
  unfold putK dkL
  rw [h]
  simp [Ne.symm h1, Ne.symm h2]
theorem dkL_len {l : Addr} {st : Dk} : (dkL C l st).length ≤ 3 := by
  unfold dkL
  cases C.n3 <;> simp
/-- the deck changes -/
theorem R.deck {T : Hp} {F : Fz} {σe : Sl} {st st' : Dk} {σ : L2.St} {H H' : Hp} {d l : Addr} (r : R C Ow T F σe (some st) σ H) (e : F.dk = some (d, l)) (ne : d ≠ l) (f1 : F.h d = none) (f2 : F.h l = none)
    (out : ∀ a, a ≠ d → a ≠ l → H' a = H a) (h1 : H' l = some (.lst (st'.cells.map V.int))) (h2 : H' d = some (.dK (dkL C l st'))) : R C Ow T F σe (some st') σ H' := by
  refine r.step (.refl F) (fun a o z => ?_) (fun a o z n => by rw [z] at n; cases n) (fun a o z => ?_) (fun _ _ z => .inl z) ⟨d, l, e, ne, f1, f2, h1, h2⟩
  · rw [out a (fun q => by rw [q, f1] at z; cases z) (fun q => by rw [q, f2] at z; cases z)]
    exact r.sub a o z
  · by_cases q1 : a = d
    · exact .inl ⟨d, l, e, .inl q1⟩
    · by_cases q2 : a = l
      · exact .inl ⟨d, l, e, .inr q2⟩
      · exact .inr (by rw [out a q1 q2]; exact z)

/-- d["mixed"] -/
theorem Es.dkGet {x : Str} {j : Nat} (t : Bool) (hu : X.A.units + 1 < cLine) (n : DkN C) (hx : (if t then C.n3 else some C.n2) = some x) (ha : Eb X C Ow a ia) (hs : NoSl (.Constant (.str x) j kp)) : Es X C Ow (.Subscript a (.Constant (.str x) j kp) pos) (.dkGet t ia) :=
  ⟨pe_con (pe_dget hu ha.run pe_str hs) fun σ H Q ⟨T, F, σe, g, v, g', r, m, q⟩ => by
    unfold ev at m
    obtain ⟨d0, g1, m1, m2⟩ := bind_eq_ok m
    obtain ⟨m3, e3⟩ := lift_eq_ok m2
    subst e3
    refine ⟨T, F, σe, g, d0, _, r, m1, fun F1 H1 y s1 r1 b1 => ?_⟩
    show ∃ a v, y = .ref a ∧ DGet H1 a (.str x) (some v) ∧ Q v H1
    cases g' with
    | none => cases m3
    | some st =>
      simp only [dkGetV] at m3
      split at m3
      · rename_i ht
        cases m3
        obtain ⟨d, l, e1, e2, e3, e4, e5, e6, e7⟩ := dk_of_tok r1 b1 ht
        cases t with
        | true =>
          have z := DGet.k (k := .inr x) e7
          rw [val_3 n hx] at z
          exact ⟨d, _, e2, z, q F1 H1 _ s1 r1 rel_int⟩
        | false =>
          have hx : C.n2 = x := Option.some.inj hx
          subst hx
          have z := DGet.k (k := .inr C.n2) e7
          rw [val_2 n] at z
          exact ⟨d, _, e2, z, q F1 H1 _ s1 r1 rel_int⟩
      · cases m3⟩
/-- the deck's list -/
def tDkl (C : Ct) (Ow : List Nat) (m : Mv) : TE := fun σ H Q => ∃ T F σe g v st, R C Ow T F σe g σ H ∧ m σe g = .ok v (some st) ∧ isTok 0 v = true ∧
  ∀ F' H' d l, Fsub F F' → R C Ow T F' σe (some st) σ H' → F'.dk = some (d, l) → d ≠ l → F'.h d = none → F'.h l = none → H' l = some (.lst (st.cells.map V.int)) → H' d = some (.dK (dkL C l st)) → Q (.ref l) H'
theorem pe_dkl {x : Str} {j : Nat} (hu : X.A.units + 1 < cLine) (hx : C.n1 = x) (ha : Eb X C Ow a ia) (hs : NoSl (.Constant (.str x) j kp)) :
    PE X (.Subscript a (.Constant (.str x) j kp) pos) (tDkl C Ow (ev C.Φ ia)) :=
  pe_con (pe_dget hu ha.run pe_str hs) fun σ H Q ⟨T, F, σe, g, v, st, r, m, ht, q⟩ => ⟨T, F, σe, g, v, _, r, m, fun F1 H1 y s1 r1 b1 => by
    obtain ⟨d, l, e1, e2, e3, e4, e5, e6, e7⟩ := dk_of_tok r1 b1 ht
    have z := DGet.k (k := .inr C.n1) e7
    rw [val_1] at z
    rw [hx] at z
    exact ⟨d, _, e2, z, q F1 H1 d l s1 r1 e1 e3 e4 e5 e6 e7⟩⟩
theorem lay_ints : ∀ ns : List Int, PyData.canLayAll0 (ns.map .int) = true
  | [] => rfl
  | n :: ns => by
    rw [List.map_cons]
    unfold PyData.canLayAll0
    rw [lay_ints ns]; rfl
theorem depth_ints : ∀ ns : List Int, PyData.depthAll (ns.map .int) ≤ 1
  | [] => by rw [List.map_nil]; unfold PyData.depthAll; omega
  | n :: ns => by
    have := depth_ints ns
    rw [List.map_cons]
    unfold PyData.depthAll PyData.depth
    omega
theorem shp_ints (ns : List Int) : SeqAt.shaped (.list (ns.map .int)) = true := by
  have := depth_ints ns
  unfold SeqAt.shaped PyData.canLay0 PyData.depth
  rw [lay_ints ns, Bool.true_and]
  exact decide_eq_true (by omega)
/-- d["left"] != [] -/
theorem neq_nil {K : PySem.W.Frag} {H : Hp} {a : Addr} {p : Addr} {ns : List Int} {Q : V → Hp → Prop} (h : H a = some (.lst (ns.map V.int))) (h2 : H p = some (.lst [])) (q : Q (.bl (!ns.isEmpty)) H) : rNeD K (.ref a) (.ref p) H Q := by
  refine ⟨.list (ns.map .int), .list [], .lst (SqL.of h) ?_, .lst (SqL.of h2) .nil, ?_, rfl, ?_⟩
  · exact dpAll_of (F := ⟨H, none, (none, [])⟩) (Same.refl _) _ _ (lay_ints ns) (relL_ints ns)
  · exact shp_ints ns
  · have e : PyData.eqv (.list (ns.map .int)) (.list []) = ns.isEmpty := by
      cases ns with
      | nil => rfl
      | cons n ns => rfl
    rw [e]; exact q
theorem Et.dkHas {x : Str} {j : Nat} {p1 p2 : Pos} (hu : X.A.units + 65 < cLine) (hx : C.n1 = x) (ha : Eb X C Ow a ia) (hs : NoSl (.Constant (.str x) j kp)) : Et X C Ow (.Compare (.Subscript a (.Constant (.str x) j kp) p1) [.NotEq] [.List [] p2] pos) (.dkHas ia) :=
  ⟨pt_con (pt_cmpR (op_neD (by omega)) (pe_dkl (by omega) hx ha hs) (pe_lst pa_nil) rfl) fun σ H Q ⟨T, F, σe, g, b, g', r, m, q⟩ => by
    unfold ev at m
    obtain ⟨d0, g1, m1, m2⟩ := bind_eq_ok m
    obtain ⟨m3, e3⟩ := lift_eq_ok m2
    subst e3
    cases g' with
    | none => cases m3
    | some st =>
      simp only [dkHasV] at m3
      split at m3
      · rename_i ht
        cases m3
        refine ⟨T, F, σe, g, d0, st, r, m1, ht, fun F1 H1 d l s1 r1 e1 e3 e4 e5 e6 e7 => ⟨by rw [sizeLine_eq]; exact Nat.zero_le _, fun p n => neq_nil ((upd_ne (ne_of_none e6 n)).trans e6) upd_same ?_⟩⟩
        exact ⟨_, rfl, q F1 _ s1 (r1.grown n)⟩
      · cases m3⟩
/-- d["left"].pop() -/
theorem Es.dkPop {x : Str} {j : Nat} {p1 : Pos} (hu : X.A.units + 1 < cLine) (n : DkN C) (hx : C.n1 = x) (ha : Eb X C Ow a ia) (hs : NoSl (.Constant (.str x) j kp))
    (hbase : attributeBase (.Subscript a (.Constant (.str x) j kp) p1) "pop" X.env (eval (.Subscript a (.Constant (.str x) j kp) p1) X.env) = eval (.Subscript a (.Constant (.str x) j kp) p1) X.env)
    (hline : (apos.endLine == pos.line) = true) :
    Es X C Ow (.Call (.Attribute (.Subscript a (.Constant (.str x) j kp) p1) "pop" apos) [] [] pos) (.dkPop ia) :=
  ⟨pe_con (pe_bm0 PySem.F.plainAttrs_list PySem.F.slot_list_pop PySem.F.type_list_pop (by exact mt_pop) (pe_dkl (by omega) hx ha hs) hbase hline) fun σ H Q ⟨T, F, σe, g, v, g', r, m, q⟩ => by
    unfold ev at m
    obtain ⟨d0, g1, m1, m2⟩ := bind_eq_ok m
    cases g1 with
    | none => cases m2
    | some st =>
      simp only [dkPopV] at m2
      split at m2
      · rename_i ht
        split at m2
        · rename_i c hc
          cases m2
          refine ⟨T, F, σe, g, d0, st, r, m1, ht, fun F1 H1 d l s1 r1 e1 e3 e4 e5 e6 e7 => ⟨.inl ⟨rfl, _, SqL.of e6⟩, l, _, .int c, rfl, rfl, e6, ?_, ?_⟩⟩
          · rw [List.length_map, List.getElem?_map, ← List.getLast?_eq_getElem?, hc]; rfl
          · refine q F1 _ _ s1 (r1.deck (st' := { st with cells := st.cells.dropLast }) e1 e3 e4 e5 (fun b h1 h2 => upd_ne h2) (by rw [upd_same, List.map_dropLast]) ((upd_ne e3).trans e7)) rel_int
        · cases m2
      · cases m2⟩
/-- d["left"].append(e) -/
theorem Es.dkPush {x : Str} {j : Nat} {p1 : Pos} (hu : X.A.units + 1 < cLine) (n : DkN C) (hx : C.n1 = x) (ha : Eb X C Ow a ia) (he : Es X C Ow e i) (hs : NoSl (.Constant (.str x) j kp)) (hX : X.K = C.K)
    (hbase : attributeBase (.Subscript a (.Constant (.str x) j kp) p1) "append" X.env (eval (.Subscript a (.Constant (.str x) j kp) p1) X.env) = eval (.Subscript a (.Constant (.str x) j kp) p1) X.env)
    (hfew : ((backTo pos (starEach [e] X.env)).all (fun x => !x.1) && (backToKw pos (keywordEach [] X.env)).all (fun x => x.1.isSome) && decide (([e] : List Expr).length + ([] : List Keyword).length + (if ([] : List Keyword).isEmpty then 0 else 1) < 30)) = true)
    (hline : (apos.endLine == pos.line) = true) (hst : starEach [e] X.env = (false, eval e X.env) :: starEach [] X.env) (hpl : (backTo pos (starEach [] X.env)).any (·.1) = false) :
    Es X C Ow (.Call (.Attribute (.Subscript a (.Constant (.str x) j kp) p1) "append" apos) [e] [] pos) (.dkPush ia i) :=
  ⟨pe_con (pe_bm PySem.F.plainAttrs_list PySem.F.slot_list_append PySem.F.type_list_append (by exact mt_append) (pe_dkl (by omega) hx ha hs) (pa_cons he.run pa_nil hst) hbase hfew hline hst hpl) fun σ H Q ⟨T, F, σe, g, v, g', r, m, q⟩ => by
    unfold ev at m
    obtain ⟨d0, g1, m1, m2⟩ := bind_eq_ok m
    cases g1 with
    | none => cases m2
    | some st1 =>
    obtain ⟨v1, g2, m3, m4⟩ := bind_eq_ok m2
    cases g2 with
    | none => cases m4
    | some st =>
      simp only [dkPushV] at m4
      split at m4
      · rename_i ht
        simp only [Bool.and_eq_true, decide_eq_true_eq] at ht
        split at m4
        · rename_i v0 c
          cases m4
          refine ⟨T, F, σe, g, d0, st1, r, m1, ht.1, fun F1 H1 d l s1 r1 e1 e3 e4 e5 e6 e7 => ⟨.inl ⟨rfl, _, SqL.of e6⟩, T, F1, σe, _, _, _, r1, m3, fun F2 H2 y s2 r2 h2 => ?_⟩⟩
          obtain ⟨d', l', z1, z2, z3, z4, z5, z6⟩ := r2.dk
          rw [s2.dk _ e1] at z1
          cases z1
          have hy : y = .int c := by unfold Rel at h2; exact h2
          subst hy
          refine ⟨l, _, _, rfl, rfl, z5, ?_, ?_⟩
          · rw [List.length_map]; exact lineN_lt ht.2
          · refine q F2 _ _ (s1.trans s2) (r2.deck (st' := { st with cells := st.cells ++ [c] }) (s2.dk _ e1) e3 z3 z4 (fun b h1 h2 => upd_ne h2) (by rw [upd_same, List.map_append]; rfl) ((upd_ne e3).trans z6)) rel_non
        · cases m4
      · cases m4⟩
/-- d["mixed"] = e -/
theorem Ss.dkSet {x : Str} {j : Nat} {p1 : Pos} (t : Bool) (hu : X.A.units + 1 < cLine) (n : DkN C) (hx : (if t then C.n3 else some C.n2) = some x) (ha : Eb X C Ow a ia) (he : Es X C Ow e i)
    (hs : swapsWith e (some (.Subscript a (.Constant (.str x) j kp) p1)) pos.line X.env = pure false) :
    Ss X C Ow Ow OwL (.Assign [.Subscript a (.Constant (.str x) j kp) p1] e pos) (.dkSet t ia i) :=
  ⟨ps_con (ps_dput hu ha.run pe_str he.run hs) fun D σ H ⟨T, F, σe, g, fl, g', r, m, q⟩ => by
    unfold Pv.run at m
    obtain ⟨v, g1, m1, m2⟩ := bind_eq_ok m
    obtain ⟨d0, g2, m3, m4⟩ := bind_eq_ok m2
    obtain ⟨g4, g5, m6, m7⟩ := bind_eq_ok m4
    obtain ⟨m8, e8⟩ := lift_eq_ok m6
    cases m7
    refine ⟨T, F, σe, g, v, g1, r, m1, fun F1 H1 y s1 r1 h1 => ⟨T, F1, σe, g1, d0, _, r1, m3, fun F2 H2 z s2 r2 b2 => ?_⟩⟩
    cases g2 with
    | none => cases m8
    | some st =>
      simp only [dkSetV] at m8
      split at m8
      · rename_i ht
        split at m8
        · rename_i c
          cases m8
          obtain ⟨d, l, e1, e2, e3, e4, e5, e6, e7⟩ := dk_of_tok r2 b2 ht
          have hy : y = .int c := by unfold Rel at h1; exact h1
          subst hy
          subst e2
          have hl := dkL_len (C := C) (l := l) (st := st)
          show ∃ a H4, V.ref d = .ref a ∧ DPut H2 a (.str x) (.int c) H4 ∧ D.nx σ H4
          refine ⟨d, _, rfl, DPut.k (k := .inr x) e7 (by rw [sizeLine_eq]; omega), ?_⟩
          cases t with
          | true =>
            rw [put_3 n hx]
            exact q F2 _ _ (s1.trans s2) (r2.deck (st' := { st with turn := c }) e1 e3 e4 e5 (fun b h1 h2 => upd_ne h1) ((upd_ne (Ne.symm e3)).trans e6) upd_same)
          | false =>
            have hx : C.n2 = x := Option.some.inj hx
            subst hx
            rw [put_2 n]
            exact q F2 _ _ (s1.trans s2) (r2.deck (st' := { st with mixed := c }) e1 e3 e4 e5 (fun b h1 h2 => upd_ne h1) ((upd_ne (Ne.symm e3)).trans e6) upd_same)
        · cases m8
      · cases m8⟩
/-- xs[::-1] of a list, a new one -/
theorem Ef.lrev {k : Nat} {p1 p2 p3 : Pos} (hK : X.K = C.K) (ha : Eb X C Ow a ia) : Ef X C Ow (.Subscript a (.Slice none none (some (.UnaryOp .USub (.Constant (.int 1) k p1) p2)) p3) pos) (.lrev ia) :=
  ⟨pe_con (pe_revL ha.run) fun σ H Q ⟨T, F, σe, g, v, g', r, m, q⟩ => by
    unfold ev at m
    obtain ⟨va, g1, m1, m2⟩ := bind_eq_ok m
    cases va with
    | list ds =>
      cases m2
      refine ⟨T, F, σe, g, _, _, r, m1, fun F1 H1 y s1 r1 b1 => ?_⟩
      obtain ⟨p, vs, rfl, h1, h2⟩ := r1.sh b1
      exact ⟨p, vs, rfl, SqL.of h1, fun p n => q F1 _ _ s1 (r1.grown n) (new_of r1 n ⟨_, upd_same, h2.reverse⟩)⟩
    | _ => cases m2⟩
/-- script[:n] -/
theorem Es.scr {p1 p2 : Pos} {j : Nat} {a0 : Addr} {ns : List Int} (n : Nat) (hK : X.K = C.K) (hc : C.sc.1 = some (a0, ns)) (ha : Es X C Ow a ia) : Es X C Ow (.Subscript a (.Slice none (some (.Constant (.int n) j p1)) none p2) pos) (.scr ia ns n) :=
  ⟨pe_con (pe_slice sl_list ha.run po_none (po_some (pe_int (i := n)))) fun σ H Q ⟨T, F, σe, g, v, g', r, m, q⟩ => by
    unfold ev at m
    obtain ⟨va, g1, m1, m2⟩ := bind_eq_ok m
    split at m2
    · rename_i ht
      have e := of_isTok ht
      subst e
      cases m2
      refine ⟨T, F, σe, g, _, _, r, m1, fun F1 H1 y s1 r1 b1 => ?_⟩
      obtain ⟨a2, ns2, z1, z2, z3⟩ := rel_tok1 b1
      rw [r1.sc, hc] at z1
      cases z1
      refine ⟨n, rfl, _, _, z2, hK ▸ sqL_mono r1.sub z3, fun p hn => ?_⟩
      refine q (F1.put p _) _ _ (s1.trans (Fsub.put (r1.fn hn))) (r1.laid hn) (rel_lst (r1.fn hn) ?_)
      have h := cut_rel (relL_ints (K := C.K) (F := F1) ns) none (some (n : Int))
      have e : cutD (ns.map .int) none (some (n : Int)) = (ns.take n).map .int := by
        unfold cutD
        rw [HT.sIx_none, HT.sIx_nat, List.drop_zero, List.length_map, Nat.sub_zero, List.map_take]
        by_cases z : n ≤ ns.length
        · rw [Nat.min_eq_left z]
        · rw [Nat.min_eq_right (by omega), List.take_of_length_le (by rw [List.length_map]; omega), List.take_of_length_le (by rw [List.length_map]; omega)]
      rw [e] at h
      exact h
    · cases m2⟩
theorem R.holdN {T : Hp} {F : Fz} {σe : Sl} {g : G} {σ : L2.St} {H : Hp} {v : D} {p : Addr} {o : HO} (r : R C Ow T F σe g σ H) (n : New C Ow T F σe σ H v p) (e : H p = some o) : R C Ow (upd T p o) F σe g σ H :=
  ⟨r.sub, r.sc, r.grow, r.new, r.keep, r.dnew, r.len, r.fz, r.ow, r.inj, r.dk, fun a u q => by
    by_cases z : a = p
    · subst z
      rw [upd_same] at q
      cases q
      exact ⟨e, n.h0, n.fn, n.nd, n.no⟩
    · rw [upd_ne z] at q
      exact r.hold a u q, r.slf⟩
/-- the deck is made: {"left": xs, "mixed": m, "draws": 0} -/
theorem R.newDeck {T : Hp} {F : Fz} {σe : Sl} {σ : L2.St} {H : Hp} {d l : Addr} {st : Dk} {o : HO} (r : R C Ow (upd (upd T d o) l (.lst (st.cells.map V.int))) F σe none σ H) (rT : T d = none) (rl : T l = none) (ne : d ≠ l) :
    R C Ow T { F with dk := some (d, l) } σe (some st) σ (upd H d (.dK (dkL C l st))) ∧ Fsub F { F with dk := some (d, l) } := by
  have dk0 : F.dk = none := r.dk
  obtain ⟨e1, e2, e3, e4, e5⟩ := r.hold d o ((upd_ne ne).trans upd_same)
  obtain ⟨f1, f2, f3, f4, f5⟩ := r.hold l _ upd_same
  have fs : Fsub F { F with dk := some (d, l) } := ⟨Same.refl _, (fun p h => by rw [dk0] at h; cases h), rfl⟩
  have nd : ∀ {a}, ¬ F.isDk a := fun {a} z => by
    obtain ⟨x, y, z, _⟩ := z
    rw [dk0] at z
    cases z
  have isd : ∀ {a}, a ≠ d → a ≠ l → ¬ Fz.isDk { F with dk := some (d, l) } a := fun {a} z1 z2 z => by
    obtain ⟨x, y, q, q2⟩ := z
    cases q
    rcases q2 with q2 | q2
    · exact z1 q2
    · exact z2 q2
  refine ⟨⟨fun a u q => ?_, r.sc, r.grow.trans fs, r.new, fun a u q => ?_, fun a b q => ?_, r.len, fun i v q n => ?_, fun i v q hi => ?_, r.inj, ⟨d, l, rfl, ne, e3, f3, (upd_ne (Ne.symm ne)).trans f1, upd_same⟩, fun a u q => ?_, r.slf⟩, fs⟩
  · have z : a ≠ d := fun z => by
      rw [z] at q
      rw [show F.h d = none from e3] at q
      cases q
    rw [upd_ne z]
    exact r.sub a u q
  · rcases r.keep a u q with z | z
    · exact (nd z).elim
    · have z1 : a ≠ d := fun y => by
        rw [y, e2] at q
        cases q
      exact .inr ((upd_ne z1).trans z)
  · cases q
    exact .inr ⟨e2, f2⟩
  · obtain ⟨x, z1, z2⟩ := r.fz i v q n
    exact ⟨x, z1, z2.mono fs _ _⟩
  · obtain ⟨a, z1, z2, z3, z4, z5⟩ := r.ow i v q hi
    have q1 : a ≠ d := fun y => e5 i v hi q (y ▸ z1)
    have q2 : a ≠ l := fun y => f5 i v hi q (y ▸ z1)
    exact ⟨a, z1, z2.move fs fun u z => (upd_ne q1).trans z, z3, z4, isd q1 q2⟩
  · have q1 : a ≠ d := fun y => by
      rw [y, rT] at q
      cases q
    have q2 : a ≠ l := fun y => by
      rw [y, rl] at q
      cases q
    obtain ⟨y1, y2, y3, y4, y5⟩ := r.hold a u ((upd_ne q2).trans ((upd_ne q1).trans q))
    exact ⟨(upd_ne q1).trans y1, y2, y3, isd q1 q2, y5⟩
theorem ints_of_some : ∀ {xs : List D} {ns : List Int}, intsOf xs = some ns → xs = ns.map .int
  | [], ns, h => by cases h; rfl
  | .int i :: xs, ns, h => by
    unfold intsOf at h
    obtain ⟨ms, h1, h2⟩ := map_some h
    subst h2
    rw [ints_of_some h1]; rfl
  | .none :: ds, ns, e => by cases e
  | .bool _ :: ds, ns, e => by cases e
  | .str _ :: ds, ns, e => by cases e
  | .list _ :: ds, ns, e => by cases e
  | .tuple _ :: ds, ns, e => by cases e
  | .dict _ :: ds, ns, e => by cases e
theorem Es.dkNew {x1 x2 x3 : Str} {j1 j2 j3 : Nat} {p1 p2 p3 : Pos} (n : DkN C) (h1 : C.n1 = x1) (h2' : C.n2 = x2) (h3' : C.n3 = some x3) (ha : Ef X C Ow a ia) (hb : Es X C Ow b ib) (hc : Es X C Ow c ic) :
    Es X C Ow (.Dict [some (.Constant (.str x1) j1 p1), some (.Constant (.str x2) j2 p2), some (.Constant (.str x3) j3 p3)] [a, b, c] pos) (.dkNew ia ib ic) :=
  ⟨pe_con (pe_disp (pps_cons pe_str ha.run (pps_cons pe_str hb.run (pps_cons pe_str hc.run pps_nil))) rfl rfl (by simp) (Nat.le_of_ble_eq_true rfl)) fun σ H Q ⟨T, F, σe, g, v, g', r, m, q⟩ => by
    unfold ev at m
    obtain ⟨va, g1, m1, m2⟩ := bind_eq_ok m
    obtain ⟨vb, g2, m3, m4⟩ := bind_eq_ok m2
    obtain ⟨vc, g3, m5, m6⟩ := bind_eq_ok m4
    unfold dkNewV at m6
    split at m6
    · split at m6
      · rename_i xs mx tn
        split at m6
        · rename_i ns hi
          cases m6
          have e := ints_of_some hi
          subst e
          intro p hp
          have rT := r.tn hp
          refine ⟨upd T p (.dK []), F, σe, g, _, _, r.take hp, m1, fun F1 H1 y s1 r1 n1 => ?_⟩
          obtain ⟨vs, l1, l2⟩ := n1.at_
          have l3 := l2.ints hi
          subst l3
          have nt := n1.nt
          have ne : p ≠ y := fun z => by
            rw [z, upd_same] at nt
            cases nt
          have rl : T y = none := by
            rw [upd_ne (Ne.symm ne)] at nt
            exact nt
          refine ⟨_, F1, σe, g1, _, _, r1.holdN n1 l1, m3, fun F2 H2 y2 s2 r2 h2 => ⟨_, F2, σe, _, _, _, r2, m5, fun F3 H3 y3 s3 r3 h3 => ?_⟩⟩
          have e2 : y2 = .int mx := by unfold Rel at h2; exact h2
          have e3 : y3 = .int tn := by unfold Rel at h3; exact h3
          subst e2; subst e3
          obtain ⟨z1, z2⟩ := R.newDeck (st := ⟨ns, mx, tn⟩) r3 rT rl ne
          refine ⟨(r3.hold p _ ((upd_ne ne).trans upd_same)).1, [(.inr x1, .ref y), (.inr x2, .int mx), (.inr x3, .int tn)], rfl, Nat.le_of_ble_eq_true rfl, ?_⟩
          have em : mergeK [] [(.inr x1, V.ref y), (.inr x2, .int mx), (.inr x3, .int tn)] = dkL C y ⟨ns, mx, tn⟩ := by
            subst h1; subst h2'
            obtain ⟨b1, b2⟩ := n.b x3 h3'
            unfold mergeK dkL
            rw [h3']
            simp [putK, n.a, Ne.symm n.a, b1, b2, Ne.symm b1, Ne.symm b2]
          rw [em]
          exact q _ _ _ (s1.trans (s2.trans (s3.trans z2))) z1 (by unfold tokD Rel; exact .inl ⟨rfl, .inl ⟨p, y, rfl, rfl, rfl⟩⟩)
        · cases m6
      · cases m6
    · cases m6⟩
theorem Es.dkNew2 {x1 x2 : Str} {j1 j2 : Nat} {p1 p2 : Pos} (n : DkN C) (h1 : C.n1 = x1) (h2' : C.n2 = x2) (h3' : C.n3 = none) (ha : Ef X C Ow a ia) (hb : Es X C Ow b ib) :
    Es X C Ow (.Dict [some (.Constant (.str x1) j1 p1), some (.Constant (.str x2) j2 p2)] [a, b] pos) (.dkNew2 ia ib) :=
  ⟨pe_con (pe_disp (pps_cons pe_str ha.run (pps_cons pe_str hb.run pps_nil)) rfl rfl (by simp) (Nat.le_of_ble_eq_true rfl)) fun σ H Q ⟨T, F, σe, g, v, g', r, m, q⟩ => by
    unfold ev at m
    obtain ⟨va, g1, m1, m2⟩ := bind_eq_ok m
    obtain ⟨vb, g2, m3, m4⟩ := bind_eq_ok m2
    have m6 := m4
    unfold dkNewV at m6
    split at m6
    · split at m6
      · rename_i xs mx tn he
        cases he
        split at m6
        · rename_i ns hi
          cases m6
          have e := ints_of_some hi
          subst e
          intro p hp
          have rT := r.tn hp
          refine ⟨upd T p (.dK []), F, σe, g, _, _, r.take hp, m1, fun F1 H1 y s1 r1 n1 => ?_⟩
          obtain ⟨vs, l1, l2⟩ := n1.at_
          have l3 := l2.ints hi
          subst l3
          have nt := n1.nt
          have ne : p ≠ y := fun z => by
            rw [z, upd_same] at nt
            cases nt
          have rl : T y = none := by
            rw [upd_ne (Ne.symm ne)] at nt
            exact nt
          refine ⟨_, F1, σe, g1, _, _, r1.holdN n1 l1, m3, fun F3 H3 y2 s2 r3 h2 => ?_⟩
          have e2 : y2 = .int mx := by unfold Rel at h2; exact h2
          subst e2
          obtain ⟨z1, z2⟩ := R.newDeck (st := ⟨ns, mx, 0⟩) r3 rT rl ne
          refine ⟨(r3.hold p _ ((upd_ne ne).trans upd_same)).1, [(.inr x1, .ref y), (.inr x2, .int mx)], rfl, Nat.le_of_ble_eq_true rfl, ?_⟩
          have em : mergeK [] [(.inr x1, V.ref y), (.inr x2, .int mx)] = dkL C y ⟨ns, mx, 0⟩ := by
            subst h1; subst h2'
            unfold mergeK dkL
            rw [h3']
            simp [putK, n.a, Ne.symm n.a]
          rw [em]
          exact q _ _ _ (s1.trans (s2.trans z2)) z1 (by unfold tokD Rel; exact .inl ⟨rfl, .inl ⟨p, y, rfl, rfl, rfl⟩⟩)
        · cases m6
      · cases m6
    · cases m6⟩
end
end Pv
end

section
/-! PvM: comprehensions bound to names, displays of dicts, keywords; what a law's texts share. -/
set_option autoImplicit false
namespace Pv
open PySem PySem.Spec PyProof.Rows L2

section
variable {X : Cx} {C : Ct} {Ow Ow' OwL : List Nat} {tg e a b : Expr} {i ia ib : Ex} {is : Exs} {pos : Pos}
/-- x = [elt for .. in ..] on one line -/
theorem Ss.ownLc {elt iter : Expr} {ifs : List Expr} {scope : Scope} {own : List (Str × Nat)} {t : List Nat} {k : Ik} {cond ei : Ex} {y : Str} {py spos : Pos} (n : Nat) (hc : X.calm = true) (hN : X.N.Nodup) (hy : X.N[n]? = some y) (hyl : X.env.scope.names.lookup y = some .local)
    (hsw : swapsWith (.ListComp elt [⟨tg, iter, ifs, 0⟩] scope pos) (some (.Name y py)) spos.line X.env = pure true) (hi : Ei X C Ow tg iter k is) (ok : BlkOk X.N X.env.scope scope own) (hown : own.map (·.2) = t)
    (hg : ∀ (s : Shared) (H : Hp) (A : Addr) (cl : List (Str × Addr)) (fp : List Addr), Eg (X.blk s H scope (compEnvC scope cl A X.env) fp) C Ow tg t)
    (ht : ∀ (s : Shared) (H : Hp) (A : Addr) (cl : List (Str × Addr)) (fp : List Addr), Ec (X.blk s H scope (compEnvC scope cl A X.env) fp) C Ow ifs cond)
    (he : ∀ (s : Shared) (H : Hp) (A : Addr) (cl : List (Str × Addr)) (fp : List Addr), Es (X.blk s H scope (compEnvC scope cl A X.env) fp) C Ow elt ei)
    (hs : ∀ x, foldedSetIterable iter X.env x = pure x) (hno : ∀ i ∈ t, i ∉ Ow) (hsl : C.slf = none ∨ n ≠ 0) :
    Ss X C Ow (n :: Ow) OwL (.Assign [.Name y py] (.ListComp elt [⟨tg, iter, ifs, 0⟩] scope pos) spos) (.set [n] (.comp t k is cond ei)) :=
  ⟨ps_con (ps_setLc hc hN hy hyl hsw hi.run ok (fun s H A cl fp => (hg s H A cl fp).run) (fun s H A cl fp => (ht s H A cl fp).run) (fun s H A cl fp => (he s H A cl fp).run) hs) fun D σ H ⟨T, F, σe, g, fl, g', r, m, q⟩ => by
    unfold Pv.run at m
    obtain ⟨v, g1, m1, m2⟩ := bind_eq_ok m
    cases m2
    rw [hown]
    exact lc_run hno ⟨T, F, σe, g, v, _, r, m1, fun F1 H1 a s1 r1 h1 => q F1 _ H1 s1 (r1.own hsl h1)⟩⟩

/-- x, y = new, e -/
theorem Ss.parO {x y : Str} {px py pt : Pos} {kt k2 : Nat} {pt2 : Pos} (n k : Nat) (hc : X.calm = true) (hN : X.N.Nodup) (hi : X.N[n]? = some x) (hj : X.N[k]? = some y) (hij : n ≠ k) (hk : k ∉ n :: Ow)
    (hx : X.env.scope.names.lookup x = some .local) (hy : X.env.scope.names.lookup y = some .local) (ha : Ef X C Ow a ia) (hb : Es X C Ow b ib)
    (hs1 : starEach [a, b] X.env = (false, eval a X.env) :: starEach [b] X.env) (hs2 : starEach [b] X.env = (false, eval b X.env) :: starEach [] X.env)
    (hw : swappedStores [.Tuple [.Name x px, .Name y py] kt pt] (.Tuple [a, b] k2 pt2) X.env = pure (some [x, y]))
    (hs : swapsWithSole [.Tuple [.Name x px, .Name y py] kt pt] (.Tuple [a, b] k2 pt2) pos.line X.env = pure false) (hsl : C.slf = none ∨ n ≠ 0) :
    Ss X C Ow (n :: Ow) OwL (.Assign [.Tuple [.Name x px, .Name y py] kt pt] (.Tuple [a, b] k2 pt2) pos) (.par n k ia ib) := ⟨ps_con (ps_par hc hN hi hj hij hx hy (pa_cons ha.run (pa_cons hb.run pa_nil hs2) hs1) hw hs) fun D σ H ⟨T, F, σe, g, fl, g', r, m, q⟩ => by
  unfold Pv.run at m
  obtain ⟨v, g1, m1, m2⟩ := bind_eq_ok m
  obtain ⟨w, g2, m3, m4⟩ := bind_eq_ok m2
  cases m4
  refine ⟨T, F, σe, g, v, g1, r, m1, fun F1 H1 p s1 r1 n1 => ?_⟩
  obtain ⟨o, eo⟩ := n1.at_.there
  refine ⟨upd T p o, F1, σe, g1, w, _, r1.holdN n1 eo, m3, fun F2 H2 z s2 r2 h2 => ?_⟩
  obtain ⟨e1, e2, e3, e4, e5⟩ := r2.hold p o upd_same
  have n2 : New C Ow T F2 σe σ H2 v p := ⟨n1.at_.move s2 (fun o' e => by rw [eo] at e; cases e; exact e1), e2, e3, e4, e5, n1.nt⟩
  have r3 : R C Ow T F2 σe _ σ H2 := r2.letgo fun a o' h => by
    have ne : a ≠ p := fun z => by rw [z, n1.nt] at h; cases h
    exact (upd_ne ne).trans h
  exact ⟨.ref p, z, rfl, q F2 _ H2 (s1.trans s2) ((r3.own hsl n2).setS hk h2)⟩⟩
/-- x, y = e, new -/
theorem Ss.parP {x y : Str} {px py pt : Pos} {kt k2 : Nat} {pt2 : Pos} (n k : Nat) (hc : X.calm = true) (hN : X.N.Nodup) (hi : X.N[n]? = some x) (hj : X.N[k]? = some y) (hij : n ≠ k) (hn : n ∉ Ow)
    (hx : X.env.scope.names.lookup x = some .local) (hy : X.env.scope.names.lookup y = some .local) (ha : Es X C Ow a ia) (hb : Ef X C Ow b ib)
    (hs1 : starEach [a, b] X.env = (false, eval a X.env) :: starEach [b] X.env) (hs2 : starEach [b] X.env = (false, eval b X.env) :: starEach [] X.env)
    (hw : swappedStores [.Tuple [.Name x px, .Name y py] kt pt] (.Tuple [a, b] k2 pt2) X.env = pure (some [x, y]))
    (hs : swapsWithSole [.Tuple [.Name x px, .Name y py] kt pt] (.Tuple [a, b] k2 pt2) pos.line X.env = pure false) (hsl : C.slf = none ∨ k ≠ 0) :
    Ss X C Ow (k :: Ow) OwL (.Assign [.Tuple [.Name x px, .Name y py] kt pt] (.Tuple [a, b] k2 pt2) pos) (.par n k ia ib) := ⟨ps_con (ps_par hc hN hi hj hij hx hy (pa_cons ha.run (pa_cons hb.run pa_nil hs2) hs1) hw hs) fun D σ H ⟨T, F, σe, g, fl, g', r, m, q⟩ => by
  unfold Pv.run at m
  obtain ⟨v, g1, m1, m2⟩ := bind_eq_ok m
  obtain ⟨w, g2, m3, m4⟩ := bind_eq_ok m2
  cases m4
  refine ⟨T, F, σe, g, v, g1, r, m1, fun F1 H1 z s1 r1 h1 => ⟨T, F1, σe, g1, w, _, r1, m3, fun F2 H2 p s2 r2 n2 => ?_⟩⟩
  have n3 : New C Ow T F2 (σe.set n (some v)) (σ.set n (some z)) H2 w p := ⟨n2.at_, n2.h0, n2.fn, n2.nd, fun i u hi' e => by
    have ne : n ≠ i := fun y => hn (y ▸ hi')
    rw [List.getElem?_set_ne ne] at e ⊢
    exact n2.no i u hi' e, n2.nt⟩
  exact ⟨z, .ref p, rfl, q F2 _ H2 (s1.trans s2) ((r2.setS hn (h1.mono s2 _ _)).own hsl n3)⟩⟩
/-- x, y = new, new -/
theorem Ss.parQ {x y : Str} {px py pt : Pos} {kt k2 : Nat} {pt2 : Pos} (n k : Nat) (hc : X.calm = true) (hN : X.N.Nodup) (hi : X.N[n]? = some x) (hj : X.N[k]? = some y) (hij : n ≠ k)
    (hx : X.env.scope.names.lookup x = some .local) (hy : X.env.scope.names.lookup y = some .local) (ha : Ef X C Ow a ia) (hb : Ef X C Ow b ib)
    (hs1 : starEach [a, b] X.env = (false, eval a X.env) :: starEach [b] X.env) (hs2 : starEach [b] X.env = (false, eval b X.env) :: starEach [] X.env)
    (hw : swappedStores [.Tuple [.Name x px, .Name y py] kt pt] (.Tuple [a, b] k2 pt2) X.env = pure (some [x, y]))
    (hs : swapsWithSole [.Tuple [.Name x px, .Name y py] kt pt] (.Tuple [a, b] k2 pt2) pos.line X.env = pure false) (hsl : C.slf = none ∨ n ≠ 0) (hsl2 : C.slf = none ∨ k ≠ 0) :
    Ss X C Ow (k :: n :: Ow) OwL (.Assign [.Tuple [.Name x px, .Name y py] kt pt] (.Tuple [a, b] k2 pt2) pos) (.par n k ia ib) := ⟨ps_con (ps_par hc hN hi hj hij hx hy (pa_cons ha.run (pa_cons hb.run pa_nil hs2) hs1) hw hs) fun D σ H ⟨T, F, σe, g, fl, g', r, m, q⟩ => by
  unfold Pv.run at m
  obtain ⟨v, g1, m1, m2⟩ := bind_eq_ok m
  obtain ⟨w, g2, m3, m4⟩ := bind_eq_ok m2
  cases m4
  refine ⟨T, F, σe, g, v, g1, r, m1, fun F1 H1 p s1 r1 n1 => ?_⟩
  obtain ⟨o, eo⟩ := n1.at_.there
  refine ⟨upd T p o, F1, σe, g1, w, _, r1.holdN n1 eo, m3, fun F2 H2 p2 s2 r2 m2 => ?_⟩
  obtain ⟨e1, e2, e3, e4, e5⟩ := r2.hold p o upd_same
  have n2 : New C Ow T F2 σe σ H2 v p := ⟨n1.at_.move s2 (fun o' e => by rw [eo] at e; cases e; exact e1), e2, e3, e4, e5, n1.nt⟩
  have np : p2 ≠ p := fun z => by
    have := m2.nt
    rw [z, upd_same] at this; cases this
  have r3 : R C Ow T F2 σe _ σ H2 := r2.letgo fun a o' h => by
    have ne : a ≠ p := fun z => by rw [z, n1.nt] at h; cases h
    exact (upd_ne ne).trans h
  have r4 := r3.own hsl n2
  have nt2 : T p2 = none := by
    have := m2.nt
    rwa [upd_ne np] at this
  have n3 : New C (n :: Ow) T F2 (σe.set n (some v)) (σ.set n (some (V.ref p))) H2 w p2 := ⟨m2.at_, m2.h0, m2.fn, m2.nd, fun i u hi' e z => by
    by_cases ne : n = i
    · subst ne
      have hl : n < σ.length := by
        have := (List.getElem?_eq_some_iff.mp z).1
        rwa [List.length_set] at this
      rw [List.getElem?_set_self hl] at z
      cases z
      exact np rfl
    · rw [List.getElem?_set_ne ne] at e z
      exact m2.no i u ((List.mem_cons.mp hi').resolve_left (Ne.symm ne)) e z, nt2⟩
  exact ⟨.ref p, .ref p2, rfl, q F2 _ H2 (s1.trans s2) (r4.own hsl2 n3)⟩⟩
/-- `in` of a dict, as a test -/
theorem Et.has (hK : X.K = C.K) (hu : X.A.units + 1 < cLine) (ha : Eb X C Ow a ia) (hb : Eb X C Ow b ib) (h1 : behindInMarks .In b = false) : Et X C Ow (.Compare a [.In] [b] pos) (.dhas ia ib false) :=
  ⟨pt_con (pt_cmp (Et.dhas hK hu ha hb) h1) fun σ H Q ⟨T, F, σe, g, v, g', r, m, q⟩ => ⟨T, F, σe, g, _, _, r, m, fun F1 H1 x s1 r1 hx => ⟨v, by unfold Rel at hx; exact hx, q F1 H1 s1 r1⟩⟩⟩
theorem Et.hasN (hK : X.K = C.K) (hu : X.A.units + 1 < cLine) (ha : Eb X C Ow a ia) (hb : Eb X C Ow b ib) (h1 : behindInMarks .NotIn b = false) : Et X C Ow (.Compare a [.NotIn] [b] pos) (.dhas ia ib true) :=
  ⟨pt_con (pt_cmp (Et.dhasN hK hu ha hb) h1) fun σ H Q ⟨T, F, σe, g, v, g', r, m, q⟩ => ⟨T, F, σe, g, _, _, r, m, fun F1 H1 x s1 r1 hx => ⟨v, by unfold Rel at hx; exact hx, q F1 H1 s1 r1⟩⟩⟩
/-- a bound of a slice -/
theorem Eo.int (h : Eb X C Ow e i) : Eo X C Ow (Option.some e) (.asI i) := ⟨po_con (po_some h.run) fun σ H Q ⟨T, F, σe, g, v, g', oi, r, m, eo, q⟩ => by
  unfold ev at m
  obtain ⟨x, g1, m1, m2⟩ := bind_eq_ok m
  cases x with
  | int j =>
    cases m2
    cases eo
    exact ⟨T, F, σe, g, _, _, r, m1, fun F1 H1 y s1 r1 b1 => ⟨j, r1.sh b1, q F1 H1 s1 r1⟩⟩
  | _ => cases m2⟩
/-! ### displays of dicts -/
inductive RelP (K : PySem.W.Frag) (F : Fz) : List D → List (V × V) → Prop
  | nil : RelP K F [] []
  | cons {k d : D} {ds : List D} {x y : V} {ps : List (V × V)} (hk : Rel K F k x) (hd : Rel K F d y) (h : RelP K F ds ps) : RelP K F (k :: d :: ds) ((x, y) :: ps)
structure Ep (X : Cx) (C : Ct) (Ow : List Nat) (pos : Pos) (keys : List (Option Expr)) (vals : List Expr) (is : Exs) : Prop where
  run : ∃ trs, PPs X pos keys vals trs ∧ ∀ (σ : L2.St) (H : Hp) (Q : List (V × V) → Hp → Prop), (∃ T F σe g vs g', R C Ow T F σe g σ H ∧ evs C.Φ is σe g = .ok vs g' ∧ ∀ F' H' ps, Fsub F F' → R C Ow T F' σe g' σ H' → RelP C.K F' vs ps → Q ps H') → tPairs trs σ H Q
theorem Ep.nil : Ep X C Ow pos [] [] .nil := ⟨[], pps_nil, fun σ H Q ⟨T, F, σe, g, vs, g', r, m, q⟩ => by
  unfold evs at m
  cases m
  exact q F H [] (.refl F) r .nil⟩
theorem Ep.cons {keys : List (Option Expr)} {vals : List Expr} (ha : Es X C Ow a ia) (hb : Es X C Ow b ib) (h : Ep X C Ow pos keys vals is) : Ep X C Ow pos (some a :: keys) (b :: vals) (.cons ia (.cons ib is)) := by
  obtain ⟨trs, h1, h2⟩ := h
  refine ⟨_, pps_cons ha.run hb.run h1, fun σ H Q ⟨T, F, σe, g, vs, g', r, m, q⟩ => ?_⟩
  unfold evs at m
  obtain ⟨x, g1, m1, m2⟩ := bind_eq_ok m
  obtain ⟨xs, g2, m3, m4⟩ := bind_eq_ok m2
  cases m4
  unfold evs at m3
  obtain ⟨y, g3, m5, m6⟩ := bind_eq_ok m3
  obtain ⟨ys, g4, m7, m8⟩ := bind_eq_ok m6
  cases m8
  exact ⟨T, F, σe, g, x, g1, r, m1, fun F1 H1 vx s1 r1 hx => ⟨T, F1, σe, g1, y, g3, r1, m5, fun F2 H2 vy s2 r2 hy => h2 σ H2 _ ⟨T, F2, σe, g3, ys, _, r2, m7, fun F3 H3 ps s3 r3 hp => q F3 H3 _ (s1.trans (s2.trans s3)) r3 (.cons (hx.mono (s2.trans s3) _ _) (hy.mono s3 _ _) hp)⟩⟩⟩
theorem disp_rel {K : PySem.W.Frag} {F : Fz} : ∀ {vs : List D} {ps : List (V × V)} {acc out : List (D × D)} {kk : List (Key × V)}, RelP K F vs ps → dispV vs acc = some out → RelKV K F acc kk → ∃ kvs : List (Key × V), ps = kvs.map (fun kv => (kV kv.1, kv.2)) ∧ RelKV K F out (mergeK kk kvs)
  | _, _, acc, out, kk, .nil, h, r => by
    unfold dispV at h
    cases h
    exact ⟨[], rfl, r⟩
  | _, _, acc, out, kk, .cons (k := k) (d := d) (x := x) (y := y) hk hd hp, h, r => by
    unfold dispV at h
    cases e : keyD k with
    | none => rw [e] at h; cases h
    | some kx =>
      rw [e] at h
      have h := h
      simp only [Option.isNone_some, Bool.false_eq_true, if_false] at h
      obtain ⟨kvs, e1, e2⟩ := disp_rel hp h (put_rel e hd r)
      refine ⟨(kx, y) :: kvs, ?_, e2⟩
      rw [List.map_cons, ← e1]
      have z : x = kV kx := key_rel (H := F.h) e (hk.sh (Same.refl _))
      rw [z]
theorem isDeck_put {k v : D} {kvs : List (D × D)} {kx : Key} (e : keyD k = some kx) (h : isDeck kvs = false) : isDeck (dPut k v kvs) = false := dPut_mark e h
theorem disp_mark : ∀ {vs : List D} {acc out : List (D × D)}, dispV vs acc = some out → isDeck acc = false → isDeck out = false
  | [], acc, out, h, n => by
    unfold dispV at h
    cases h
    exact n
  | [k], acc, out, h, n => by
    unfold dispV at h
    cases h
  | k :: d :: vs, acc, out, h, n => by
    unfold dispV at h
    cases e : keyD k with
    | none => rw [e] at h; cases h
    | some kx =>
      rw [e] at h
      simp only [Option.isNone_some, Bool.false_eq_true, if_false] at h
      exact disp_mark h (dPut_mark e n)
theorem RelP.len {K : PySem.W.Frag} {F : Fz} : ∀ {vs : List D} {ps : List (V × V)}, RelP K F vs ps → vs.length = 2 * ps.length
  | _, _, .nil => rfl
  | _, _, .cons _ _ h => by
    have := h.len
    simp only [List.length_cons]
    omega
theorem Ef.ddisp {keys : List (Option Expr)} {vals : List Expr} (h : Ep X C Ow pos keys vals is) (hall : keys.all (·.isSome) = true) (hl : keys.length = vals.length) (h0 : keys ≠ []) (h15 : keys.length ≤ 15) (h30 : is.len ≤ 30) : Ef X C Ow (.Dict keys vals pos) (.ddisp is) := by
  obtain ⟨trs, h1, h2⟩ := h
  refine ⟨pe_con (pe_disp h1 hall hl h0 h15) fun σ H Q ⟨T, F, σe, g, v, g', r, m, q⟩ => ?_⟩
  unfold ev at m
  obtain ⟨xs, g1, m1, m2⟩ := bind_eq_ok m
  obtain ⟨m3, e3⟩ := lift_eq_ok m2
  subst e3
  obtain ⟨kvs, m4, e4⟩ := map_some m3
  subst e4
  intro p hp
  refine h2 σ _ _ ⟨upd T p (.dK []), F, σe, g, xs, _, r.take hp, m1, fun F1 H1 ps s1 r1 hps => ?_⟩
  obtain ⟨kk, e1, e2⟩ := disp_rel hps m4 (kk := []) (by unfold RelKV; rfl)
  have hk := hps.len
  rw [e1, List.length_map, evs_len _ _ _ _ _ _ m1] at hk
  refine ⟨(r1.hold p _ upd_same).1, kk, e1, by omega, ?_⟩
  obtain ⟨w1, w2, w3, w4, w5⟩ := r1.hold p _ upd_same
  have rT := r.tn hp
  have r2 := (r1.held (o' := .dK (mergeK [] kk)) upd_same).letgo (T := T) (fun a o z => by
    have ne : a ≠ p := fun y => by
      rw [y, rT] at z
      cases z
    rw [upd_ne ne, upd_ne ne]
    exact z)
  exact q F1 _ p s1 r2 ⟨.inl ⟨disp_mark m4 rfl, _, upd_same, e2⟩, w2, w3, w4, w5, rT⟩

/-! ### small facts that the printed texts use -/
theorem Room.u65 {k : Nat} {A : Around} (r : Room k A) : A.units + 65 < cLine := by
  have := r.un
  have e : cLine = 9900 := rfl
  omega
theorem Room.u70 {k : Nat} {A : Around} (r : Room k A) : A.units + 70 < cLine := by
  have := r.un
  have e : cLine = 9900 := rfl
  omega
theorem Room.u1 {k : Nat} {A : Around} (r : Room k A) : A.units + 1 < cLine := by
  have := r.un
  have e : cLine = 9900 := rfl
  omega
theorem kb_of {K : PySem.W.Frag} {x qual : Str} {st : Stmt} {f : Addr} {fd : FuncData} {ps ks : List Str} {n : Nat} {perm : List Nat} (F : Fun K x qual st f fd)
    (h : ∀ (kV doc pm : Value) (an : Option Addr) (cdv ct : Value) (us ws : List Value), us.length = n → ws.length = ks.length → bindArgs (PySem.W.fnOf x qual (defArgs st) (defBody st) (defScope st) .none kV doc pm an cdv ct) ⟨us, ks.zip ws⟩ = pure (ps.zip (Pv.pm perm (us ++ ws)))) : KB K fd ps ks n perm := by
  obtain ⟨oc, od, kV, doc, pm, an, cdv, ct, osl, rfl, lk, hcd⟩ := F.ex
  exact ⟨fun s us ws _ h1 h2 => .of_eq (h kV doc pm an cdv ct us ws h1 h2)⟩
/-- at a call -/
abbrev Ct.at (C : Ct) (H : Hp) (F0 : Fz) (Φ : Fns) : Ct := { C with H0 := H, F0 := F0, Φ := Φ, fu := fuel, slf := none }
/-- at an __init__'s call -/
abbrev Ct.atI (C : Ct) (H : Hp) (F0 : Fz) (Φ : Fns) (x : Addr) : Ct := { C with H0 := H, F0 := F0, Φ := Φ, fu := fuel, slf := some x }
/-- what is fixed through a law's run -/
structure Dc (C : Ct) (n1 n2 : Str) (n3 : Option Str) (a : Addr) (ns : List Int) (cl : List (Addr × List Str)) : Prop where
  n1 : C.n1 = n1
  n2 : C.n2 = n2
  n3 : C.n3 = n3
  sc : C.sc.1 = some (a, ns)
  cl : C.sc.2 = cl
end
end Pv
end

section
/-! PvMv: list(a) to be held alone; xs.pop(); xs[k] += e. -/
set_option autoImplicit false
namespace Pv
open PySem PySem.Spec PyProof.Rows L2
section
variable {X : Cx} {C : Ct} {Ow Ow' OwL : List Nat} {e a b c : Expr} {es : List Expr} {i ia ib ic : Ex} {is : Exs} {pos p apos np pos' tpos : Pos} {x : Str} {n : Nat}
theorem Ef.toList (hK : X.K = C.K) (hg : Gl X x) (hm : X.mg x = none) (hv : bootBuiltins x = some (.type "list")) (ha : Eb X C Ow a ia) (hn : x ≠ "__name__") (hdb : (x == ("__debug__" : Str)) = false)
    (he : starEach [a] X.env = (false, eval a X.env) :: starEach [] X.env) (hpl : (backTo pos (starEach [] X.env)).any (·.1) = false) : Ef X C Ow (.Call (.Name x p) [a] [] pos) (.bi .toList (.cons ia .nil)) :=
  ⟨pe_con (pe_callTy call_list_of hg hm hv (pa_cons ha.run pa_nil he) hn hdb he hpl) fun σ H Q ⟨T, F, σe, g, v, g', r, m, q⟩ => by
    unfold ev evs at m
    obtain ⟨vs, g1, m1, m2⟩ := bind_eq_ok m
    obtain ⟨d, g2, m3, m4⟩ := bind_eq_ok m1
    obtain ⟨ws, g3, m5, m6⟩ := bind_eq_ok m4
    unfold evs at m5
    cases m5; cases m6
    obtain ⟨m7, e7⟩ := lift_eq_ok m2
    subst e7
    refine ⟨T, F, σe, g, _, _, r, m3, fun F1 H1 y s1 r1 b1 => ?_⟩
    have hy := r1.sh b1
    cases d with
    | list ds =>
      cases m7
      obtain ⟨q1, vs, rfl, h1, h2⟩ := hy
      exact ⟨q1, vs, rfl, .inl (SqL.of h1), fun l hl => q F1 _ l s1 (r1.grown hl) (new_of r1 hl ⟨_, upd_same, h2⟩)⟩
    | tuple ds =>
      cases m7
      obtain ⟨q1, vs, rfl, h1, h2⟩ := hy
      exact ⟨q1, vs, rfl, .inr (by rw [hK]; exact sqT_mono r1.sub h1), fun l hl => q F1 _ l s1 (r1.grown hl) (new_of r1 hl ⟨_, upd_same, h2⟩)⟩
    | _ => simp [biV] at m7⟩
theorem Ss.popS (n : Nat) (hn : n ∈ Ow) (hN : X.N[n]? = some x) (hv : Vis X.env.scope x) (hd : (x == ("__debug__" : Str)) = false) (hcd : (x == ("__classdict__" : Str)) = false)
    (hbase : attributeBase (.Name x np) "pop" X.env (eval (.Name x np) X.env) = eval (.Name x np) X.env) (hline : (apos.endLine == pos.line) = true)
    (hsw : swapsWith (.Call (.Attribute (.Name x np) "pop" apos) [] [] pos) none pos'.line X.env = pure false) :
    Ss X C Ow Ow OwL (.Expr (.Call (.Attribute (.Name x np) "pop" apos) [] [] pos) pos') (.popS n) :=
  ⟨ps_con (ps_expr (pe_bm0 PySem.F.plainAttrs_list PySem.F.slot_list_pop PySem.F.type_list_pop (by exact mt_pop) (pe_var hN hv hd hcd) hbase hline) hsw) fun D σ H ⟨T, F, σe, g, fl, g', r, m, q⟩ => by
    unfold Pv.run at m
    obtain ⟨d0, g0, m0, m1⟩ := bind_eq_ok m
    obtain ⟨e0, e0'⟩ := slot_ok m0
    subst e0'
    obtain ⟨d2, g3, m6, m7⟩ := bind_eq_ok m1
    obtain ⟨m8, e8⟩ := lift_eq_ok m6
    subst e8
    cases m7
    cases d0 with
    | list xs =>
      simp only [popV] at m8
      split at m8
      · cases m8
      · rename_i hc
        cases m8
        obtain ⟨p, vs, q1, q2, q3⟩ := own_list r hn e0
        have ln := q3.length
        have ne : vs ≠ [] := fun z => by
          rw [z] at ln
          exact hc (by simpa using ln)
        have lt : vs.length - 1 < vs.length := by
          have := List.length_pos_iff.mpr ne
          omega
        have dl : RelL C.K F xs.dropLast vs.dropLast := by
          rw [List.dropLast_eq_take, List.dropLast_eq_take, ln]
          exact q3.take _
        exact ⟨.ref p, q1, .inl ⟨rfl, vs, SqL.of q2⟩, p, vs, vs[vs.length - 1], rfl, rfl, q2, List.getElem?_eq_getElem lt, q F _ _ (.refl F) (r.write hn e0 q1 ⟨_, upd_same, dl⟩)⟩
    | _ => simp [popV] at m8⟩
def rGetL (K : PySem.W.Frag) : V → V → Hp → VK → Prop := fun o i H Q => ∃ p xs j v, o = .ref p ∧ i = .int j ∧ SqL K H p xs ∧ L2.atI xs j = some v ∧ Q v H
theorem get_list : PGet X (rGetL X.K) := by
  intro pins s σ H x y v u Q I rx ry h
  obtain ⟨p, xs, i, z, rfl, rfl, hq, he, q⟩ := h
  cases rx
  obtain ⟨t, rfl⟩ := ry
  obtain ⟨its, r, pl, hz⟩ := I.list hq
  obtain ⟨j, h1, h2, h3, h4, h5⟩ := atI_get he
  obtain ⟨w, ew, rw'⟩ := r.get h2
  have hl := r.length
  have hn := line63
  have fin : EP X pins σ Q w s := ⟨z, H, I, rw', q⟩
  by_cases h0 : 0 ≤ i
  · have hj : i.toNat = j := by
      rw [seqIndex_of h0 h5] at h1
      exact Option.some.inj h1
    exact wpAny_getItem_list pl.isList h0 (by omega) (by rw [hj]; simpa using ew) fin
  · have hj : (i + (its.toArray.size : Int)).toNat = j := by
      rw [seqIndex_neg (by omega) h4] at h1
      rw [List.size_toArray, ← hl]
      exact Option.some.inj h1
    exact wpAny_getItem_list_neg pl.isList (by omega) (by rw [List.size_toArray] <;> omega) (by omega) (by rw [hj]; simpa using ew) fin
theorem Ss.augIx {k : Expr} {ik : Ex} (n : Nat) (o : Bop) (hK : X.K = C.K) (hn : n ∈ Ow) (hN : X.N[n]? = some x) (hv : Vis X.env.scope x) (hd : (x == ("__debug__" : Str)) = false) (hcd : (x == ("__classdict__" : Str)) = false) (hk : Eb X C Ow k ik) (h : Eb X C Ow e i)
    (ha : ∀ ov iv new, augStore k ov iv new = (do holding [new, ov, iv] (setItem ov iv new); release [new, ov, iv] []; pure .next)) :
    Ss X C Ow Ow OwL (.AugAssign (.Subscript (.Name x np) k tpos) (bop o) e pos) (.augIx n o ik i) :=
  ⟨ps_con (ps_augS (pe_var hN hv hd hcd) hk.run get_list h.run (op_ip o) set_list ha) fun D σ H ⟨T, F, σe, g, fl, g', r, m, q⟩ => by
    unfold Pv.run at m
    obtain ⟨d0, g0, m0, m1⟩ := bind_eq_ok m
    obtain ⟨e0, e0'⟩ := slot_ok m0
    subst e0'
    obtain ⟨kv, g1, m2, m3⟩ := bind_eq_ok m1
    obtain ⟨old, g2, m4, m5⟩ := bind_eq_ok m3
    obtain ⟨m6, e6⟩ := lift_eq_ok m4
    subst e6
    obtain ⟨y, g3, m7, m8⟩ := bind_eq_ok m5
    obtain ⟨z, g4, m9, m10⟩ := bind_eq_ok m8
    obtain ⟨m11, e11⟩ := lift_eq_ok m9
    subst e11
    obtain ⟨d', g5, m12, m13⟩ := bind_eq_ok m10
    obtain ⟨m14, e14⟩ := lift_eq_ok m12
    subst e14
    cases m13
    cases d0 with
    | list xs =>
      cases kv with
      | int j =>
        obtain ⟨jj, e2, e3⟩ := map_some m14
        subst e3
        obtain ⟨p, vs, q1, q2, q3⟩ := own_list r hn e0
        refine ⟨.ref p, q1, T, F, σe, _, _, _, r, m2, fun F1 H1 kx s1 r1 b1 => ?_⟩
        have hz : kx = .int j := r1.sh b1
        subst hz
        obtain ⟨p', vs', z1, z2, z3⟩ := own_list r1 hn e0
        rw [q1] at z1
        cases z1
        obtain ⟨w, w1, w2⟩ := z3.atI m6
        refine ⟨p, vs', j, w, rfl, rfl, SqL.of z2, w1, T, F1, σe, _, y, _, r1, m7, fun F2 H2 yv s2 r2 b2 => ?_⟩
        refine ⟨old, y, z, F2, C.K, (w2.mono s2 _ _).sh r2.sub, r2.sh b2, m11, fun zv hz => ?_⟩
        obtain ⟨p2, vs2, x1, x2, x3⟩ := own_list r2 hn e0
        rw [q1] at x1
        cases x1
        exact ⟨p, vs2, j, jj, rfl, rfl, x2, by rw [← x3.length]; exact e2, q F2 _ _ (s1.trans s2) (r2.write hn e0 q1 ⟨_, upd_same, x3.set hz jj⟩)⟩
      | _ => simp [setIxV] at m14
    | _ => simp [setIxV] at m14⟩
end
end Pv
end

section
/-! PvOb: objects: attributes, methods, making; d[k] = e. -/
set_option autoImplicit false
namespace Pv
open PySem PySem.Spec PyProof.Rows L2

/-- what the top has made of the classes -/
structure ClsOk (K : PySem.W.Frag) (cl : List (Addr × List Str)) : Prop where
  cls : ∀ Cn ∈ cl, Cls K Cn.1
  att : ∀ Cn ∈ cl, ∀ f ∈ Cn.2, NoAttr K Cn.1 f
section
variable {K : PySem.W.Frag} {F : Fz} {H : Hp}
theorem val_fs (f : Str) : ∀ fs : List (Str × V), valV (fs.map fun p => ((.inr p.1, p.2) : Key × V)) (.inr f) = fs.lookup f
  | [] => rfl
  | (g, v) :: fs => by
    have ih := val_fs f fs
    unfold valV at ih ⊢
    rw [List.map_cons, List.find?_cons, List.lookup_cons]
    by_cases h : g = f
    · subst h; simp
    · rw [decide_eq_false (fun z => h (Sum.inr.inj z)), show (f == g) = false from by simpa using fun z => h z.symm]
      exact ih
theorem lookup_mem {f : Str} {v : V} : ∀ {fs : List (Str × V)}, fs.lookup f = some v → (f, v) ∈ fs
  | [], h => by cases h
  | (g, u) :: fs, h => by
    rw [List.lookup_cons] at h
    by_cases e : f == g
    · rw [e] at h
      cases h
      have := beq_iff_eq.mp e
      subst this
      exact List.mem_cons_self
    · rw [show (f == g) = false by simpa using e] at h
      exact List.mem_cons_of_mem _ (lookup_mem h)
theorem tok_no {n i : Int} {r : List (D × D)} : tokD n ≠ .dict ((.list [.int i], .none) :: r) := by
  intro z
  unfold tokD at z
  injection z with z
  injection z with z _
  injection z with z _
  injection z with z
  cases z
theorem sh_obj {i : Int} {r : List (D × D)} {y : V} (h : Sh K F H (.dict ((.list [.int i], .none) :: r)) y) : ∃ (c : Nat) (Cn : Addr × List Str) (p dx : Addr) (fs : List (Str × V)), i = c ∧ y = .ref p ∧ F.sc.2[c]? = some Cn ∧ H p = some (.ins Cn.1 dx fs) ∧ (∀ q ∈ fs, q.1 ∈ Cn.2) ∧ RelKV K F r (fs.map fun p => ((.inr p.1, p.2) : Key × V)) := by
  rcases h with ⟨_, a, rfl, ⟨n, z⟩ | ⟨c, r', Cn, dx, fs, z, z1, z2, z3, z4⟩ | ⟨_, _, z, _⟩⟩ | ⟨z, _⟩
  · exact (tok_no z).elim
  · injection z with z5 z6
    injection z5 with z5 _
    injection z5 with z5
    injection z5 with z5 _
    injection z5 with z5
    subst z6
    exact ⟨c, Cn, a, dx, fs, z5, rfl, z1, z2, z3, z4⟩
  · cases z
  · cases z
theorem fld_sh {d v : D} {f : Str} {y : V} (h : fldV d f = some v) (hs : Sh K F H d y) : ∃ (Cn : Addr × List Str) (p dx : Addr) (fs : List (Str × V)) (w : V), y = .ref p ∧ Cn ∈ F.sc.2 ∧ H p = some (.ins Cn.1 dx fs) ∧ f ∈ Cn.2 ∧ fs.lookup f = some w ∧ Rel K F v w := by
  unfold fldV at h
  split at h
  · obtain ⟨c, Cn, p, dx, fs, _, rfl, z1, z2, z3, z4⟩ := sh_obj hs
    obtain ⟨l1, l2⟩ := look_rel (k := .str f) (kx := .inr f) rfl z4
    obtain ⟨w, e1, e2⟩ := l1 v h
    rw [val_fs] at e1
    exact ⟨Cn, p, dx, fs, w, rfl, List.mem_of_getElem? z1, z2, z3 _ (lookup_mem e1), e1, e2⟩
  · cases h
theorem isOb_eq {c : Nat} {d : D} (h : isOb c d = true) : ∃ r, d = .dict ((.list [.int c], .none) :: r) := by
  unfold isOb at h
  split at h
  · rw [of_decide_eq_true h]; exact ⟨_, rfl⟩
  · cases h
theorem lookup_no {m : Str} {nm : List Str} {fs : List (Str × V)} (h : ∀ q ∈ fs, q.1 ∈ nm) (n : nm.contains m = false) : fs.lookup m = none := by
  cases e : fs.lookup m with
  | none => rfl
  | some v =>
    have := h _ (lookup_mem e)
    have : nm.contains m = true := by simpa using this
    rw [n] at this; cases this
theorem fput_rel {f : Str} {d : D} {v : V} (h : Rel K F d v) : ∀ {r : List (D × D)} {fs : List (Str × V)}, RelKV K F r (fs.map fun p => ((.inr p.1, p.2) : Key × V)) → RelKV K F (fPut f d r) ((L2.putF f v fs).map fun p => ((.inr p.1, p.2) : Key × V))
  | [], fs, q => by
    unfold RelKV at q
    have : fs = [] := List.map_eq_nil_iff.mp q
    subst this
    unfold fPut L2.putF RelKV
    exact ⟨.inr f, v, [], rfl, rfl, h, by unfold RelKV; rfl⟩
  | (k, d0) :: r, fs, q => by
    unfold RelKV at q
    obtain ⟨kv, w, kr, e, e1, e2, e3⟩ := q
    cases fs with
    | nil => cases e
    | cons p fs =>
      obtain ⟨g, u⟩ := p
      rw [List.map_cons] at e
      injection e with e4 e5
      injection e4 with e4 e6
      subst e4; subst e5; subst e6
      have ke : keq k (.str f) = decide (g = f) := by
        rw [keq_of e1 (kx := .inr f) rfl]
        by_cases z : g = f
        · subst z; simp
        · rw [decide_eq_false z, decide_eq_false fun y => z (Sum.inr.inj y)]
      unfold fPut L2.putF
      rw [ke]
      by_cases z : g = f
      · rw [decide_eq_true z, if_pos rfl, if_pos z, List.map_cons]
        unfold RelKV
        exact ⟨_, v, _, rfl, e1, h, e3⟩
      · rw [decide_eq_false z, if_neg Bool.false_ne_true, if_neg z, List.map_cons]
        unfold RelKV
        exact ⟨_, u, _, rfl, e1, e2, fput_rel h e3⟩
theorem putF_names {f : Str} {v : V} {nm : List Str} (hf : f ∈ nm) : ∀ {fs : List (Str × V)}, (∀ q ∈ fs, q.1 ∈ nm) → ∀ q ∈ L2.putF f v fs, q.1 ∈ nm
  | [], _, q, h => by
    unfold L2.putF at h
    rw [List.mem_singleton] at h
    subst h; exact hf
  | (g, u) :: fs, h0, q, h => by
    unfold L2.putF at h
    split at h
    · rcases List.mem_cons.mp h with rfl | h
      · exact h0 (g, u) List.mem_cons_self
      · exact h0 q (List.mem_cons_of_mem _ h)
    · rcases List.mem_cons.mp h with rfl | h
      · exact h0 _ List.mem_cons_self
      · exact putF_names hf (fun q z => h0 q (List.mem_cons_of_mem _ z)) q h
end
section
variable {X : Cx} {C : Ct} {Ow Ow' OwL : List Nat} {e a b c o : Expr} {es : List Expr} {i ia ib ic io : Ex} {is : Exs} {pos p apos np pos' : Pos} {x : Str} {n : Nat}
theorem Es.fld {f : Str} (hc : ClsOk X.K C.sc.2) (ha : Eb X C Ow a ia) (hb : attributeBase a f X.env (eval a X.env) = eval a X.env) : Es X C Ow (.Attribute a f pos) (.fld ia f) :=
  ⟨pe_con (pe_fld ha.run hb) fun σ H Q ⟨T, F, σe, g, v, g', r, m, q⟩ => by
    unfold ev at m
    obtain ⟨d, g1, m1, m2⟩ := bind_eq_ok m
    obtain ⟨m3, e3⟩ := lift_eq_ok m2
    subst e3
    refine ⟨T, F, σe, g, d, _, r, m1, fun F1 H1 y s1 r1 b1 => ?_⟩
    obtain ⟨Cn, p, dx, fs, w, rfl, z1, z2, z3, z4, z5⟩ := fld_sh m3 (r1.sh b1)
    rw [r1.sc] at z1
    exact ⟨p, Cn.1, dx, fs, w, rfl, z2, hc.cls Cn z1, hc.att Cn z1 f z3, z4, q F1 H1 w s1 r1 z5⟩⟩
variable {CX : CXT} {E : XK} {k : Nat} {f Ca : Addr} {nm : List Str} {fd : FuncData} {ps : List Str} {m : Str}
theorem Es.meth {pl : Sem Bool} (cn fi : Nat) (hc : C.sc.2[cn]? = some (Ca, nm)) (hm0 : nm.contains m = false) (hok : ClsOk X.K C.sc.2) (hm : Meth X.K Ca m f) (F : FnG X.prog X.w X.K X.mg X.base CX k f fd ps (spS C (C.Φ fi) ps.length)) (hG : X.A.guards = some []) (hr : Room k X.A) (hb : Binds X.K fd ps []) (hx : Passes CX X E)
    (ho : Es X C Ow o io) (ha : Ea X C Ow (e :: es) is) (hst : starEach (e :: es) X.env = (false, eval e X.env) :: starEach es X.env) (hpl : (backTo pos (starEach es X.env)).any (·.1) = false) (hl : is.len + 1 = ps.length)
    (ht : eval (.Call (.Attribute o m apos) (e :: es) [] pos) X.env = (do
      let ov ← eval o X.env
      standAt apos.atName
      let (f, first) ← holding [ov] (getMethod ov m pl)
      callWith pos f first (backTo pos (starEach (e :: es) X.env)) (backToKw pos (keywordEach [] X.env)))) :
    Es X C Ow (.Call (.Attribute o m apos) (e :: es) [] pos) (.meth cn fi io is) := by
  have hcl : Cls X.K Ca := hok.cls _ (List.mem_of_getElem? hc)
  refine ⟨⟨fun pins s σ H Q I h => ?_⟩⟩
  obtain ⟨T, F0, σe, g, v, g', r, m0, q⟩ := h
  unfold ev at m0
  obtain ⟨d, g1, m1, m2⟩ := bind_eq_ok m0
  split at m2
  · rename_i hob
    obtain ⟨ds, g2, m3, m4⟩ := bind_eq_ok m2
    obtain ⟨rr, ed⟩ := isOb_eq hob
    refine PySem.W.methodCall_KW (pl := pl) (thn (ho.run.run pins s σ H (fun x H1 => ∃ a dx fs, x = .ref a ∧ H1 a = some (.ins Ca dx fs) ∧ fs.lookup m = none ∧ tA C Ow (evs C.Φ is) σ H1 fun vs H2 => (V.ref a :: vs).length = ps.length ∧ spS C (C.Φ fi) ps.length (V.ref a :: vs) H2 Q E) I
      ⟨T, F0, σe, g, d, g1, r, m1, fun F1 H1 y s1 r1 q1 => ?_⟩) fun u s1 ⟨x, H1, I1, rx, a, dx, fs, ex, ea, l, q⟩ => ?_) ht
    · have q1' := q1
      rw [ed] at q1'
      obtain ⟨c', Cn, p, dx, fs, ec, rfl, z1, z2, z3, z4⟩ := sh_obj (q1'.sh r1.sub)
      have ec : cn = c' := by omega
      subst ec
      rw [r1.sc, hc] at z1
      cases z1
      refine ⟨p, dx, fs, rfl, z2, lookup_no z3 hm0, T, F1, σe, g1, ds, g2, r1, m3, fun F2 H2 xs s2 r2 q2 => ?_⟩
      have hn : (V.ref p :: xs).length = ps.length := by rw [List.length_cons, ← q2.length, evs_len _ _ _ _ _ _ m3, hl]
      exact ⟨hn, r2.call (.cons (q1.mono s2 _ _) q2) hn m4 fun F' H' x s3 r3 q3 => q F' H' x (s1.trans (s2.trans s3)) r3 q3⟩
    · subst ex
      obtain rfl : u = Value.ref a := rx
      refine getmeth_ok I1 ea hcl hm l ?_
      refine PySem.W.callWith_K (first := [.ref a]) (h₀ := X.base) I1.ok.mod.kin hm.kp (thn (ha.run.run pos pins s1 σ H1 _ I1 q) fun us s2 ⟨vs, H2, I2, rv, hn, hsp⟩ => ⟨I2.kIn, ?_⟩) hst hpl
      have rv2 : Vals (V.ref a :: vs) (Value.ref a :: us) := .cons rfl rv
      have hl2 : (Value.ref a :: us).length = ps.length := by rw [← rv2.length]; exact hn
      have bt := hb s2 (Value.ref a :: us) I2.kIn (by rw [List.append_nil]; exact hl2)
      rw [List.append_nil] at bt
      refine wpAny_call (codeAny_mono (run_fnG F hG hr hx I2 bt rv2 hsp) fun r s' hq => ?_)
      cases r with
      | error e => exact hq
      | ok fl =>
        cases fl with
        | ret u => exact hq
        | next => exact False.elim hq
        | brk => exact False.elim hq
        | cont => exact False.elim hq
  · cases m2
theorem Es.meth0 {pl : Sem Bool} (cn fi : Nat) (hc : C.sc.2[cn]? = some (Ca, nm)) (hm0 : nm.contains m = false) (hok : ClsOk X.K C.sc.2) (hm : Meth X.K Ca m f) (F : FnG X.prog X.w X.K X.mg X.base CX k f fd ps (spS C (C.Φ fi) ps.length)) (hG : X.A.guards = some []) (hr : Room k X.A) (hb : Binds X.K fd ps []) (hx : Passes CX X E)
    (ho : Es X C Ow o io) (hl : 1 = ps.length)
    (ht : eval (.Call (.Attribute o m apos) [] [] pos) X.env = (do
      let ov ← eval o X.env
      standAt apos.atName
      let (f, first) ← holding [ov] (getMethod ov m pl)
      callWith pos f first (backTo pos (starEach [] X.env)) (backToKw pos (keywordEach [] X.env)))) :
    Es X C Ow (.Call (.Attribute o m apos) [] [] pos) (.meth cn fi io .nil) := by
  have hcl : Cls X.K Ca := hok.cls _ (List.mem_of_getElem? hc)
  refine ⟨⟨fun pins s σ H Q I h => ?_⟩⟩
  obtain ⟨T, F0, σe, g, v, g', r, m0, q⟩ := h
  unfold ev at m0
  obtain ⟨d, g1, m1, m2⟩ := bind_eq_ok m0
  split at m2
  · rename_i hob
    obtain ⟨ds, g2, m3, m4⟩ := bind_eq_ok m2
    unfold evs at m3
    cases m3
    obtain ⟨rr, ed⟩ := isOb_eq hob
    refine PySem.W.methodCall_KW (pl := pl) (thn (ho.run.run pins s σ H (fun x H1 => ∃ a dx fs, x = .ref a ∧ H1 a = some (.ins Ca dx fs) ∧ fs.lookup m = none ∧ spS C (C.Φ fi) ps.length [V.ref a] H1 Q E) I
      ⟨T, F0, σe, g, d, _, r, m1, fun F1 H1 y s1 r1 q1 => ?_⟩) fun u s1 ⟨x, H1, I1, rx, a, dx, fs, ex, ea, l, q⟩ => ?_) ht
    · have q1' := q1
      rw [ed] at q1'
      obtain ⟨c', Cn, p, dx, fs, ec, rfl, z1, z2, z3, z4⟩ := sh_obj (q1'.sh r1.sub)
      have ec : cn = c' := by omega
      subst ec
      rw [r1.sc, hc] at z1
      cases z1
      exact ⟨p, dx, fs, rfl, z2, lookup_no z3 hm0, r1.call (.cons q1 .nil) hl m4 fun F' H' x s3 r3 q3 => q F' H' x (s1.trans s3) r3 q3⟩
    · subst ex
      obtain rfl : u = Value.ref a := rx
      refine getmeth_ok I1 ea hcl hm l ?_
      refine PySem.W.callWith_K0 (first := [.ref a]) I1.kIn hm.kp ?_
      have rv2 : Vals [V.ref a] [Value.ref a] := .cons rfl .nil
      have bt := hb s1 [Value.ref a] I1.kIn hl
      rw [List.append_nil] at bt
      refine wpAny_call (codeAny_mono (run_fnG F hG hr hx I1 bt rv2 q) fun r s' hq => ?_)
      cases r with
      | error e => exact hq
      | ok fl =>
        cases fl with
        | ret u => exact hq
        | next => exact False.elim hq
        | brk => exact False.elim hq
        | cont => exact False.elim hq
  · cases m2
/-- the promise of an __init__: self is new -/
def spI (C : Ct) (Φ : List D → G → Res D) (cn n : Nat) : Sp := fun vs H Q E => vs.length = n ∧ ∃ x dx us F ds g v g' Cn, vs = .ref x :: us ∧ C.sc.2[cn]? = some Cn ∧ H x = some (.ins Cn.1 dx []) ∧ F.h x = none ∧ ¬ F.isDk x ∧ Same F.h H ∧ F.sc = C.sc ∧ DkR C F g H ∧ RelL C.K F ds us ∧ Φ (objD cn [] :: ds) g = .ok v g' ∧
  ∀ F' H', Fsub F F' → Same F'.h H' → (∀ a o, F'.h a = some o → F.h a = none → H a = none ∨ a = x) → (∀ a o, H a = some o → a ≠ x → F'.isDk a ∨ H' a = some o) →
    (∀ d l, F'.dk = some (d, l) → F.dk = some (d, l) ∨ (H d = none ∧ H l = none)) → DkR C F' g' H' → Rel C.K F' v (.ref x) → Q .non H'
theorem run_makeG {pins : List (Addr × Obj)} {σ : L2.St} {H : Hp} {s : Shared} {Q : VK} {us : List Value} {vs : List V} {sp : Sp} (M : Mk X.K Ca f) (F : FnG X.prog X.w X.K X.mg X.base CX k f fd ps sp) (hG : X.A.guards = some []) (hr : Room (k + 1) X.A) (hb : Binds X.K fd ps []) (hx : Passes CX X E) (I : Inv X pins σ H s) (r : Vals vs us)
    (h : ∀ x dx, H x = none → H dx = none → dx ≠ x → sp (.ref x :: vs) (upd (upd H dx (.own x)) x (.ins Ca dx [])) (fun v H2 => v = .non ∧ Q (.ref x) H2) E) :
    wpAny (model X.prog X.w) X.A (call (.ref Ca) us) (EP X pins σ Q) X.xe s := by
  have hq := h (s.heap.objs.size + 1) s.heap.objs.size (I.hok.fresh (Nat.le_succ _)) (I.hok.fresh (Nat.le_refl _)) (Nat.ne_of_lt (Nat.lt_succ_self _))
  have I2 := Inv.made (C := Ca) I
  have r2 : Vals (V.ref (s.heap.objs.size + 1) :: vs) (Value.ref (s.heap.objs.size + 1) :: us) := .cons rfl r
  have hl : (Value.ref (s.heap.objs.size + 1) :: us).length = ps.length := by
    have e := r2.length
    rw [F.len _ _ _ _ hq] at e
    exact e.symm
  have bt := hb _ (Value.ref (s.heap.objs.size + 1) :: us) I2.kIn (by rw [List.append_nil]; exact hl)
  rw [List.append_nil] at bt
  have hG2 : (X.A.under (.builtin "type.__call__" ⟨.ref Ca :: us, []⟩)).guards = some [] := by
    unfold Around.under
    first | rfl | (rw [hG]; rfl) | simp [hG]
  refine wpAny_call (make_map (f := f) I.kIn M.makes M.init (beq_iff_eq.mp M.fn) (codeAny_mono (F.run _ X.stack _ _ ⟨Value.ref (s.heap.objs.size + 1) :: us, []⟩ (Value.ref (s.heap.objs.size + 1) :: us) _ _ E hG2 (hr.make Ca us [])
    (I2.env0.make Ca us []) bt r2 hq) fun r s' hq' => ?_))
  cases r with
  | error e => exact hx pins σ _ _ e s' I2 hq'
  | ok fl =>
    cases fl with
    | ret u =>
      obtain ⟨v, H', I3, rv, ev, q3⟩ := I2.after hq'
      subst ev
      exact ⟨rv, ⟨V.ref (s.heap.objs.size + 1), H', I3, rfl, q3⟩⟩
    | next => exact False.elim hq'
    | brk => exact False.elim hq'
    | cont => exact False.elim hq'
theorem R.make {T : Hp} {F : Fz} {σe : Sl} {g g' : G} {σ : L2.St} {H : Hp} {us : List V} {ds : List D} {v : D} {Q : VK} {cn : Nat} {x dx : Addr} (r : R C Ow T F σe g σ H) (h : RelL C.K F ds us) (hn : us.length + 1 = n) (hc : C.sc.2[cn]? = some (Ca, nm)) (hx : H x = none) (hdx : H dx = none) (ne : dx ≠ x) {fi : Nat}
    (hf : C.Φ fi (objD cn [] :: ds) g = .ok v g') (q : ∀ F' H', Fsub F F' → R C Ow T F' σe g' σ H' → Rel C.K F' v (.ref x) → Q (.ref x) H') :
    spI C (C.Φ fi) cn n (.ref x :: us) (upd (upd H dx (.own x)) x (.ins Ca dx [])) (fun v H2 => v = .non ∧ Q (.ref x) H2) E := by
  have hx2 : (upd H dx (.own x)) x = none := (upd_ne (Ne.symm ne)).trans hx
  have s2 : Same H (upd (upd H dx (.own x)) x (.ins Ca dx [])) := (same_upd hdx).trans (same_upd hx2)
  have dk2 : DkR C F g (upd (upd H dx (.own x)) x (.ins Ca dx [])) := (r.dk.put hdx).put hx2
  refine ⟨hn, x, dx, us, F, ds, g, v, g', (Ca, nm), rfl, hc, upd_same, r.fn hx, r.ndk hx, r.sub.trans s2, r.sc, dk2, h, hf, fun F' H' f1 f2 nw kp dn dk rl => ⟨rfl, ?_⟩⟩
  refine q F' H' f1 (r.step f1 f2 (fun a o z1 z2 => ?_) (fun a o z => ?_) (fun d l z => ?_) dk) rl
  · rcases nw a o z1 z2 with w | w
    · cases e : H a with
      | none => rfl
      | some o' => rw [s2 _ _ e] at w; cases w
    · rw [w]; exact hx
  · exact kp a o (s2 _ _ z) fun w => by rw [w, hx] at z; cases z
  · rcases dn d l z with w | ⟨w1, w2⟩
    · exact .inl w
    · refine .inr ⟨?_, ?_⟩
      · cases e : H d with
        | none => rfl
        | some o' => rw [s2 _ _ e] at w1; cases w1
      · cases e : H l with
        | none => rfl
        | some o' => rw [s2 _ _ e] at w2; cases w2
theorem Es.make (cn fi : Nat) (hc : C.sc.2[cn]? = some (Ca, nm)) (M : Mk X.K Ca f) (F : FnG X.prog X.w X.K X.mg X.base CX k f fd ps (spI C (C.Φ fi) cn ps.length)) (hG : X.A.guards = some []) (hr : Room (k + 1) X.A) (hg : Gl X x) (hm : X.mg x = some (.ref Ca)) (hb : Binds X.K fd ps []) (hx : Passes CX X E)
    (ha : Ea X C Ow (e :: es) is) (hdb : (x == ("__debug__" : Str)) = false) (he : starEach (e :: es) X.env = (false, eval e X.env) :: starEach es X.env) (hpl : (backTo pos (starEach es X.env)).any (·.1) = false) (hl : is.len + 1 = ps.length) :
    Es X C Ow (.Call (.Name x p) (e :: es) [] pos) (.mk cn fi is) := by
  refine ⟨⟨fun pins s σ H Q I h => ?_⟩⟩
  refine wpAny_Call_Name_kw (ld_glob I hg hm ?_ hdb)
  obtain ⟨T, F0, σe, g, v, g', r, m0, q⟩ := h
  unfold ev at m0
  obtain ⟨ds, g1, m1, m2⟩ := bind_eq_ok m0
  refine PySem.W.callWith_K (h₀ := X.base) I.ok.mod.kin M.kp (thn (ha.run.run pos pins s σ H (fun vs H1 => ∀ x dx, H1 x = none → H1 dx = none → dx ≠ x → spI C (C.Φ fi) cn ps.length (.ref x :: vs) (upd (upd H1 dx (.own x)) x (.ins Ca dx [])) (fun v H2 => v = .non ∧ Q (.ref x) H2) E) I
    ⟨T, F0, σe, g, ds, g1, r, m1, fun F1 H1 xs s1 r1 q1 x dx n1 n2 n3 => ?_⟩) fun us s1 ⟨vs, H1, I1, rv, hsp⟩ => ⟨I1.kIn, ?_⟩) he hpl
  · have hn : xs.length + 1 = ps.length := by rw [← q1.length, evs_len _ _ _ _ _ _ m1, hl]
    exact r1.make q1 hn hc n1 n2 n3 m2 fun F' H' s2 r2 q2 => q F' H' _ (s1.trans s2) r2 q2
  · exact run_makeG M F hG hr hb hx I1 rv hsp
/-- self.f = e -/
theorem Ss.setF {fl : Str} (n cn : Nat) (hn : n ∈ Ow) (hN : X.N[n]? = some x) (hv : Vis X.env.scope x) (hd : (x == ("__debug__" : Str)) = false) (hcd : (x == ("__classdict__" : Str)) = false) (hc : C.sc.2[cn]? = some (Ca, nm)) (hf : nm.contains fl = true) (hok : ClsOk X.K C.sc.2) (h : Es X C Ow e i)
    (hs : swapsWith e (some (.Attribute (.Name x np) fl apos)) pos.line X.env = pure false) :
    Ss X C Ow Ow OwL (.Assign [.Attribute (.Name x np) fl apos] e pos) (.setF n cn fl i) :=
  ⟨ps_con (ps_fld (pe_var hN hv hd hcd) h.run hs) fun D σ H ⟨T, F, σe, g, fw, g', r, m, q⟩ => by
    unfold Pv.run at m
    obtain ⟨v, g1, m1, m2⟩ := bind_eq_ok m
    obtain ⟨d0, g2, m3, m4⟩ := bind_eq_ok m2
    obtain ⟨e0, e0'⟩ := slot_ok m3
    subst e0'
    obtain ⟨d2, g4, m7, m8⟩ := bind_eq_ok m4
    obtain ⟨m9, e9⟩ := lift_eq_ok m7
    subst e9
    cases m8
    have hf : fl ∈ nm := by simpa using hf
    refine ⟨T, F, σe, g, v, _, r, m1, fun F1 H1 y s1 r1 h1 => ?_⟩
    unfold setFV at m9
    split at m9
    · rename_i ii rr
      split at m9
      · rename_i hcc
        simp only [Bool.and_eq_true, decide_eq_true_eq] at hcc
        cases m9
        obtain ⟨p, e1, o1, n0, n1, n2⟩ := r1.ow n _ e0 hn
        rcases o1 with ⟨z, _⟩ | ⟨c', r', Cn, dx, fs, z, z1, z2, z3, z4⟩ | ⟨_, _, z, _⟩
        · cases z
        · injection z with z5 z6
          injection z5 with z5 _
          injection z5 with z5
          injection z5 with z5 _
          injection z5 with z5
          subst z6
          have ec : cn = c' := by omega
          subst ec
          have z1' := z1
          rw [r1.sc, hc] at z1'
          cases z1'
          have hl : rr.length = fs.length := by rw [z4.length, List.length_map]
          refine ⟨.ref p, e1, p, Ca, dx, fs, rfl, z2, hok.cls _ (List.mem_of_getElem? hc), hok.att _ (List.mem_of_getElem? hc) fl hf, by omega, q F1 _ _ s1 (r1.write hn e0 e1 (.inr (.inl ⟨cn, _, (Ca, nm), dx, _, ?_, z1, upd_same, putF_names hf z3, fput_rel h1 z4⟩)))⟩
          rw [hcc.1]
        · cases z
      · cases m9
    · cases m9⟩
theorem dput_rel {F : Fz} {H : Hp} {kvs : List (D × D)} {k v d' : D} {p0 : Addr} {z w : V} (h : setKeyV (.dict kvs) k v = some d') (sub : Same F.h H) (hp : OwnAt C.K F H (.dict kvs) p0) (hz : Sh C.K F H k z) (hw : Rel C.K F v w) : ∃ o', DPut H p0 z w (upd H p0 o') ∧ OwnAt C.K F (upd H p0 o') d' p0 := by
  simp only [setKeyV] at h
  split at h
  · rename_i r e
    have := tdOf_some e
    subst this
    split at h
    · cases h
    · rename_i hc
      cases h
      have hk : ¬ ((keyT k).isNone = true) := fun z => hc (by rw [z]; rfl)
      obtain ⟨kl, ek⟩ := noneOf hk
      have hl : r.length < lineN := by
        rcases Nat.lt_or_ge r.length lineN with y | y
        · exact y
        · exact (hc (by rw [decide_eq_false (by omega), Bool.not_false, Bool.or_true])).elim
      obtain ⟨b, rfl, hb⟩ := keyT_rel sub ek hz
      rcases hp with ⟨y, _⟩ | ⟨_, _, _, _, _, y, _⟩ | ⟨r', kk, y, y2, y3⟩
      · cases y
      · cases y
      · cases y
        exact ⟨_, DPut.t y2 hb (by rw [← y3.length]; exact lineN_lt hl), .inr (.inr ⟨_, _, rfl, upd_same, putT_rel ek hw y3⟩)⟩
  · split at h
    · cases h
    · rename_i hc
      cases h
      have hd : isDeck kvs = false := by
        cases y : isDeck kvs with
        | false => rfl
        | true => rw [y] at hc; simp at hc
      have hk : ¬ ((keyD k).isNone = true) := fun z => hc (by rw [z]; simp)
      obtain ⟨kx, ek⟩ := noneOf hk
      have hl : kvs.length < lineN := by
        rcases Nat.lt_or_ge kvs.length lineN with y | y
        · exact y
        · exact (hc (by rw [decide_eq_false (by omega), Bool.not_false, Bool.or_true])).elim
      have := key_rel ek hz
      subst this
      rcases hp with ⟨y, kk, y2, y3⟩ | y | y
      · exact ⟨_, DPut.k y2 (by rw [← y3.length]; exact lineN_lt hl), .inl ⟨dPut_mark ek hd, _, upd_same, put_rel ek hw y3⟩⟩
      · rw [y.mark] at hd; cases hd
      · rw [y.mark] at hd; cases hd
/-- d[k] = e -/
theorem Ss.setKey {k : Expr} {ik : Ex} (n : Nat) (hn : n ∈ Ow) (hN : X.N[n]? = some x) (hv : Vis X.env.scope x) (hd : (x == ("__debug__" : Str)) = false) (hcd : (x == ("__classdict__" : Str)) = false) (hu : X.A.units + 1 < cLine) (h : Es X C Ow e i) (hk : Eb X C Ow k ik)
    (ha : ∀ v, assign (.Subscript (.Name x np) k apos) X.env v = (do
      let ov ← holding [v] (eval (.Name x np) X.env)
      let iv ← holding [v, ov] (eval k X.env)
      standAt apos
      holding [v, ov, iv] (setItem ov iv v)
      release [v, ov, iv] [])) (hs : swapsWithSole [.Subscript (.Name x np) k apos] e pos.line X.env = pure false) (hw : swappedStores [.Subscript (.Name x np) k apos] e X.env = pure none) (h1 : (assignEach [.Subscript (.Name x np) k apos] X.env).map (·.2) = [assign (.Subscript (.Name x np) k apos) X.env]) :
    Ss X C Ow Ow OwL (.Assign [.Subscript (.Name x np) k apos] e pos) (.setKey n ik i) :=
  ⟨ps_con (ps_asg h.run (pg_sub (pe_var hN hv hd hcd) hk.run (set_dict hu) ha) hs hw h1) fun D σ H ⟨T, F, σe, g, fl, g', r, m, q⟩ => by
    unfold Pv.run at m
    obtain ⟨v, g1, m1, m2⟩ := bind_eq_ok m
    obtain ⟨d0, g2, m3, m4⟩ := bind_eq_ok m2
    obtain ⟨e0, e0'⟩ := slot_ok m3
    subst e0'
    obtain ⟨kv, g3, m5, m6⟩ := bind_eq_ok m4
    obtain ⟨d2, g4, m7, m8⟩ := bind_eq_ok m6
    obtain ⟨m9, e9⟩ := lift_eq_ok m7
    subst e9
    cases m8
    cases d0 with
    | dict kvs =>
      refine ⟨T, F, σe, g, v, _, r, m1, fun F1 H1 y s1 r1 h1 => ?_⟩
      obtain ⟨p, e1, _⟩ := r1.ow n _ e0 hn
      refine ⟨.ref p, e1, T, F1, σe, _, _, _, r1, m5, fun F2 H2 z s2 r2 b2 => ?_⟩
      obtain ⟨p', e2, o2, _⟩ := r2.ow n _ e0 hn
      rw [e1] at e2
      cases e2
      obtain ⟨o', w1, w2⟩ := dput_rel m9 r2.sub o2 (r2.sh b2) (h1.mono s2 _ _)
      exact ⟨p, _, rfl, w1, q F2 _ _ (s1.trans s2) (r2.write hn e0 e1 w2)⟩
    | _ => simp [setKeyV] at m9⟩
theorem RelL.eraseIdx {K : PySem.W.Frag} {F : Fz} : ∀ {ds : List D} {vs : List V} (n : Nat), RelL K F ds vs → RelL K F (ds.eraseIdx n) (vs.eraseIdx n)
  | [], vs, n, h => by rw [h.inv0]; simpa using (RelL.nil : RelL K F [] [])
  | d :: ds, vs, 0, h => by
    obtain ⟨v, vr, rfl, h1, h2⟩ := h.inv
    exact h2
  | d :: ds, vs, n + 1, h => by
    obtain ⟨v, vr, rfl, h1, h2⟩ := h.inv
    exact .cons h1 (h2.eraseIdx n)
/-- y = xs.pop() -/
theorem Ss.popX {y : Str} {py spos : Pos} (j n : Nat) (hn : n ∈ Ow) (hj : j ∉ Ow) (hN : X.N[n]? = some x) (hv : Vis X.env.scope x) (hd : (x == ("__debug__" : Str)) = false) (hcd : (x == ("__classdict__" : Str)) = false)
    (hbase : attributeBase (.Name x np) "pop" X.env (eval (.Name x np) X.env) = eval (.Name x np) X.env) (hline : (apos.endLine == pos.line) = true)
    (hND : X.N.Nodup) (hi : X.N[j]? = some y) (hx : Loc X.env.scope y) (hs : swapsWith (.Call (.Attribute (.Name x np) "pop" apos) [] [] pos) (some (.Name y py)) spos.line X.env = pure false) (hf : X.fn y = true ∨ X.env.scope.names.lookup y = some .local) :
    Ss X C Ow Ow OwL (.Assign [.Name y py] (.Call (.Attribute (.Name x np) "pop" apos) [] [] pos) spos) (.popX j n) :=
  ⟨ps_con (ps_set hND hi hx (pe_bm0 PySem.F.plainAttrs_list PySem.F.slot_list_pop PySem.F.type_list_pop (by exact mt_pop) (pe_var hN hv hd hcd) hbase hline) hs hf) fun D σ H ⟨T, F, σe, g, fl, g', r, m, q⟩ => by
    unfold Pv.run at m
    obtain ⟨d0, g0, m0, m1⟩ := bind_eq_ok m
    obtain ⟨e0, e0'⟩ := slot_ok m0
    subst e0'
    obtain ⟨d2, g3, m6, m7⟩ := bind_eq_ok m1
    obtain ⟨m8, e8⟩ := lift_eq_ok m6
    subst e8
    cases m7
    cases d0 with
    | list xs =>
      obtain ⟨v, e1, e2⟩ := Option.map_eq_some_iff.mp (show xs.getLast?.map _ = some d2 from m8)
      subst e2
      obtain ⟨p, vs, q1, q2, q3⟩ := own_list r hn e0
      have ln := q3.length
      rw [List.getLast?_eq_getElem?] at e1
      obtain ⟨w, e3, e4⟩ := q3.get e1
      have dl : RelL C.K F xs.dropLast vs.dropLast := by
        rw [List.dropLast_eq_take, List.dropLast_eq_take, ln]
        exact q3.take _
      exact ⟨.ref p, q1, .inl ⟨rfl, vs, SqL.of q2⟩, p, vs, w, rfl, rfl, q2, by rw [← ln]; exact e3, q F _ _ (.refl F) ((R.write (v' := .list xs.dropLast) r hn e0 q1 ⟨_, upd_same, dl⟩).setS hj e4)⟩
    | _ => simp [popD] at m8⟩
/-- y = xs.pop(e) -/
theorem Ss.popI {y : Str} {py spos : Pos} (j n : Nat) (hn : n ∈ Ow) (hj : j ∉ Ow) (hN : X.N[n]? = some x) (hv : Vis X.env.scope x) (hd : (x == ("__debug__" : Str)) = false) (hcd : (x == ("__classdict__" : Str)) = false) (h : Es X C Ow e i)
    (hbase : attributeBase (.Name x np) "pop" X.env (eval (.Name x np) X.env) = eval (.Name x np) X.env)
    (hfew : ((backTo pos (starEach [e] X.env)).all (fun x => !x.1) && (backToKw pos (keywordEach [] X.env)).all (fun x => x.1.isSome) && decide (([e] : List Expr).length + ([] : List Keyword).length + (if ([] : List Keyword).isEmpty then 0 else 1) < 30)) = true)
    (hline : (apos.endLine == pos.line) = true) (hst : starEach [e] X.env = (false, eval e X.env) :: starEach [] X.env) (hpl : (backTo pos (starEach [] X.env)).any (·.1) = false)
    (hND : X.N.Nodup) (hi : X.N[j]? = some y) (hx : Loc X.env.scope y) (hs : swapsWith (.Call (.Attribute (.Name x np) "pop" apos) [e] [] pos) (some (.Name y py)) spos.line X.env = pure false) (hf : X.fn y = true ∨ X.env.scope.names.lookup y = some .local) :
    Ss X C Ow Ow OwL (.Assign [.Name y py] (.Call (.Attribute (.Name x np) "pop" apos) [e] [] pos) spos) (.popI j n i) :=
  ⟨ps_con (ps_set hND hi hx (pe_bm PySem.F.plainAttrs_list PySem.F.slot_list_pop PySem.F.type_list_pop (by exact mt_popAt) (pe_var hN hv hd hcd) (pa_cons h.run pa_nil hst) hbase hfew hline hst hpl) hs hf) fun D σ H ⟨T, F, σe, g, fl, g', r, m, q⟩ => by
    unfold Pv.run at m
    obtain ⟨d0, g0, m0, m1⟩ := bind_eq_ok m
    obtain ⟨e0, e0'⟩ := slot_ok m0
    subst e0'
    obtain ⟨kv, g1, m2, m3⟩ := bind_eq_ok m1
    obtain ⟨d1, g2, m4, m5⟩ := bind_eq_ok m3
    obtain ⟨e1, e1'⟩ := slot_ok m4
    subst e1'
    obtain ⟨d2, g3, m6, m7⟩ := bind_eq_ok m5
    obtain ⟨m8, e8⟩ := lift_eq_ok m6
    subst e8
    cases m7
    rw [e0] at e1
    have e1 : d0 = d1 := Option.some.inj (Option.some.inj e1)
    subst e1
    cases d0 with
    | list xs =>
      cases kv with
      | int ii =>
        simp only [popAtD] at m8
        split at m8
        · rename_i hc
          simp only [Bool.and_eq_true, decide_eq_true_eq] at hc
          obtain ⟨v, e2, e3⟩ := Option.map_eq_some_iff.mp m8
          subst e3
          obtain ⟨p, vs, q1, q2, q3⟩ := own_list r hn e0
          refine ⟨.ref p, q1, .inl ⟨rfl, vs, SqL.of q2⟩, T, F, σe, _, _, _, r, m2, fun F1 H1 z s1 r1 h1 => ?_⟩
          have hz : z = .int ii := by unfold Rel at h1; exact h1
          subst hz
          obtain ⟨p', vs', z1, z2, z3⟩ := own_list r1 hn e0
          rw [q1] at z1
          cases z1
          obtain ⟨w, e4, e5⟩ := z3.get e2
          have lt := (List.getElem?_eq_some_iff.mp e2).1
          have ln := z3.length
          have l2 := hc.2
          unfold lineN at l2
          refine ⟨p, vs', ii, ii.toNat, w, rfl, rfl, z2, by omega, by omega, ?_, e4, q F1 _ _ s1 ((R.write (v' := .list (xs.eraseIdx ii.toNat)) r1 hn e0 q1 ⟨_, upd_same, z3.eraseIdx _⟩).setS hj e5)⟩
          exact seqIndex_of hc.1 (by omega)
        · cases m8
      | _ => simp [popAtD] at m8
    | _ => simp [popAtD] at m8⟩
/-- xs.extend(e) -/
theorem Ss.ext (n : Nat) (hn : n ∈ Ow) (hN : X.N[n]? = some x) (hv : Vis X.env.scope x) (hd : (x == ("__debug__" : Str)) = false) (hcd : (x == ("__classdict__" : Str)) = false) (h : Es X C Ow e i)
    (hbase : attributeBase (.Name x np) "extend" X.env (eval (.Name x np) X.env) = eval (.Name x np) X.env)
    (hfew : ((backTo pos (starEach [e] X.env)).all (fun x => !x.1) && (backToKw pos (keywordEach [] X.env)).all (fun x => x.1.isSome) && decide (([e] : List Expr).length + ([] : List Keyword).length + (if ([] : List Keyword).isEmpty then 0 else 1) < 30)) = true)
    (hline : (apos.endLine == pos.line) = true) (hs : starEach [e] X.env = (false, eval e X.env) :: starEach [] X.env) (hpl : (backTo pos (starEach [] X.env)).any (·.1) = false) (hsw : swapsWith (.Call (.Attribute (.Name x np) "extend" apos) [e] [] pos) none pos'.line X.env = pure false) :
    Ss X C Ow Ow OwL (.Expr (.Call (.Attribute (.Name x np) "extend" apos) [e] [] pos) pos') (.ext n i) :=
  ⟨ps_con (ps_expr (pe_bm PySem.F.plainAttrs_list PySem.F.slot_list_extend PySem.F.type_list_extend (by exact mt_extend) (pe_var hN hv hd hcd) (pa_cons h.run pa_nil hs) hbase hfew hline hs hpl) hsw) fun D σ H ⟨T, F, σe, g, fl, g', r, m, q⟩ => by
    unfold Pv.run at m
    obtain ⟨d0, g0, m0, m1⟩ := bind_eq_ok m
    obtain ⟨e0, e0'⟩ := slot_ok m0
    subst e0'
    obtain ⟨v, g1, m2, m3⟩ := bind_eq_ok m1
    obtain ⟨d1, g2, m4, m5⟩ := bind_eq_ok m3
    obtain ⟨e1, e1'⟩ := slot_ok m4
    subst e1'
    obtain ⟨d2, g3, m6, m7⟩ := bind_eq_ok m5
    obtain ⟨m8, e8⟩ := lift_eq_ok m6
    subst e8
    cases m7
    rw [e0] at e1
    have e1 : d0 = d1 := Option.some.inj (Option.some.inj e1)
    subst e1
    cases d0 with
    | list xs =>
      cases v with
      | list ys =>
        simp only [extV] at m8
        split at m8
        · rename_i hc
          cases m8
          obtain ⟨p, vs, q1, q2, q3⟩ := own_list r hn e0
          refine ⟨.ref p, q1, .inl ⟨rfl, vs, SqL.of q2⟩, T, F, σe, _, _, _, r, m2, fun F1 H1 z s1 r1 h1 => ?_⟩
          obtain ⟨p', vs', z1, z2, z3⟩ := own_list r1 hn e0
          rw [q1] at z1
          cases z1
          unfold Rel at h1
          obtain ⟨b, ws, rfl, w1, w2⟩ := h1
          refine ⟨p, b, vs', ws, rfl, rfl, z2, r1.sub _ _ w1, ?_, q F1 _ _ s1 (r1.write hn e0 q1 ⟨_, upd_same, z3.append w2⟩)⟩
          rw [← z3.length, ← w2.length]
          exact lineN_le (of_decide_eq_true hc)
        · cases m8
      | _ => simp [extV] at m8
    | _ => simp [extV] at m8⟩
end
/-! ### an __init__ -/
section
variable {P : Program} {w : World} {K : PySem.W.Frag} {mg : Str → Option Value} {base : Heap} {x qual : Str} {st : Stmt} {f : Addr} {fd : FuncData} {N ps : List Str} {k : Nat}
def eraseH (x : Addr) (H : Hp) : Hp := fun b => if b = x then none else H b
theorem R.startI {C : Ct} {F : Fz} {ds : List D} {g : G} {H : Hp} {us : List V} {cn : Nat} {x dx : Addr} {Cn : Addr × List Str} (hH : C.H0 = eraseH x H) (hF : C.F0 = F) (hS : C.slf = some x) (sub : Same F.h H) (sc : F.sc = C.sc) (dk : DkR C F g H) (h : RelL C.K F ds us) (hn : us.length + 1 ≤ N.length)
    (hc : C.sc.2[cn]? = some Cn) (hx : H x = some (.ins Cn.1 dx [])) (nf : F.h x = none) (nd : ¬ F.isDk x) :
    R C [0] (fun _ => none) F ((objD cn [] :: ds).map some ++ List.replicate (N.length - (ds.length + 1)) none) g (L2.start N (.ref x :: us)) H := by
  have hl := h.length
  have er : C.H0 x = none := by rw [hH]; unfold eraseH; rw [if_pos rfl]
  refine ⟨sub, sc, by rw [hF]; exact .refl _, (fun a o e n => by rw [hF, e] at n; cases n), fun a o e => .inr ?_, fun d l e => .inl (by rw [hF]; exact e), ?_, fun i v e n => ?_, fun i v e n => ?_, fun i j a hi hj => ?_, dk, (fun a o e => by cases e), (fun a e _ => by rw [hS] at e; cases e; rfl)⟩
  · rw [hH] at e
    unfold eraseH at e
    split at e
    · cases e
    · exact e
  · rw [start_len (by rw [List.length_cons]; omega), List.length_append, List.length_map, List.length_replicate, List.length_cons]; omega
  · cases i with
    | zero => exact (n (List.mem_singleton.mpr rfl)).elim
    | succ i =>
      have hi : i < ds.length := by
        by_cases hi : i < ds.length
        · exact hi
        · rw [List.getElem?_append_right (by rw [List.length_map, List.length_cons]; omega), List.getElem?_replicate] at e
          split at e <;> cases e
      rw [List.getElem?_append_left (by rw [List.length_map, List.length_cons]; omega), List.getElem?_map, List.getElem?_cons_succ] at e
      cases q : ds[i]? with
      | none => rw [q] at e; cases e
      | some d =>
        rw [q] at e
        cases e
        obtain ⟨u, e1, e2⟩ := h.get q
        refine ⟨u, ?_, e2⟩
        unfold L2.start
        rw [List.getElem?_append_left (by rw [List.length_map, List.length_cons]; rw [← hl]; omega), List.getElem?_map, List.getElem?_cons_succ, e1]
        rfl
  · have := List.mem_singleton.mp n
    subst this
    have e : (some (some (objD cn [])) : Option (Option D)) = some (some v) := e
    cases e
    exact ⟨x, rfl, .inr (.inl ⟨cn, [], Cn, dx, [], rfl, by rw [sc]; exact hc, hx, (fun q hq => nomatch hq), by unfold RelKV; rfl⟩), er, nf, nd⟩
  · have h1 := List.mem_singleton.mp hi
    have h2 := List.mem_singleton.mp hj
    subst h1; subst h2
    exact fun _ _ _ _ => rfl
theorem run_noRet (Φ : Fns) (fu : Nat) : ∀ (m : Sm) (σ : Sl) (g g' : G) (v : D), noRet m = true → Pv.run Φ fu m σ g = .ok (.rt v) g' → False := by
  have forN : ∀ (f : D → Sl → G → Res Fl), (∀ x σ g g' v, f x σ g = .ok (.rt v) g' → False) → ∀ (xs : List D) σ g g' v, forL f xs σ g = .ok (.rt v) g' → False := by
    intro f hf xs
    induction xs with
    | nil => intro σ g g' v h; cases h
    | cons x xs ih =>
      intro σ g g' v h
      obtain ⟨fl, g1, h1, h2⟩ := bind_eq_ok (show (f x σ g).bind _ = _ from h)
      cases fl with
      | nx σ1 => exact ih _ _ _ _ h2
      | ct σ1 => exact ih _ _ _ _ h2
      | bk σ1 => cases h2
      | rt v1 => exact hf _ _ _ _ _ h1
  have whN : ∀ (c : Sl → G → Res D) (b : Sl → G → Res Fl), (∀ σ g g' v, b σ g = .ok (.rt v) g' → False) → ∀ (n : Nat) σ g g' v, whileL c b n σ g = .ok (.rt v) g' → False := by
    intro c b hb n
    induction n with
    | zero => intro σ g g' v h; cases h
    | succ n ih =>
      intro σ g g' v h
      obtain ⟨cv, g1, h1, h2⟩ := bind_eq_ok (show (c σ g).bind _ = _ from h)
      cases cv with
      | bool k =>
        cases k with
        | false => cases h2
        | true =>
          obtain ⟨fl, g2, h3, h4⟩ := bind_eq_ok (show (b σ g1).bind _ = _ from h2)
          cases fl with
          | nx σ1 => exact ih _ _ _ _ h4
          | ct σ1 => exact ih _ _ _ _ h4
          | bk σ1 => cases h4
          | rt v1 => exact hb _ _ _ _ h3
      | _ => cases h2
  intro m
  induction m with
  | ret e => intro σ g g' v n h; cases n
  | seq a b iha ihb =>
    intro σ g g' v n h
    unfold noRet at n
    rw [Bool.and_eq_true] at n
    unfold Pv.run at h
    obtain ⟨fl, g1, h1, h2⟩ := bind_eq_ok h
    cases fl with
    | nx σ1 => exact ihb _ _ _ _ n.2 h2
    | rt v1 => exact iha _ _ _ _ n.1 h1
    | bk σ1 => cases h2
    | ct σ1 => cases h2
  | ite t a b iha ihb =>
    intro σ g g' v n h
    unfold noRet at n
    rw [Bool.and_eq_true] at n
    unfold Pv.run at h
    obtain ⟨x, g1, h1, h2⟩ := bind_eq_ok h
    cases x with
    | bool k => cases k with
      | true => exact iha _ _ _ _ n.1 h2
      | false => exact ihb _ _ _ _ n.2 h2
    | _ => cases h2
  | forr t k as b ih =>
    intro σ g g' v n h
    unfold noRet at n
    unfold Pv.run at h
    obtain ⟨vs, g1, h1, h2⟩ := bind_eq_ok h
    obtain ⟨xs, g2, h3, h4⟩ := bind_eq_ok h2
    refine forN _ (fun x σ g g' v hh => ?_) _ _ _ _ _ h4
    obtain ⟨σ1, g3, h5, h6⟩ := bind_eq_ok hh
    exact ih _ _ _ _ n h6
  | whil t b ih =>
    intro σ g g' v n h
    unfold noRet at n
    unfold Pv.run at h
    exact whN _ _ (fun σ g g' v hh => ih _ _ _ _ n hh) _ _ _ _ _ h
  | _ =>
    intro σ g g' v n h
    unfold Pv.run at h
    repeat' first
      | (cases h; done)
      | (obtain ⟨_, _, _, h⟩ := bind_eq_ok h)
      | (split at h)
theorem initOk {C0 : Ct} (F : Fun K x qual st f fd) (S : FnScope N ps (defScope st)) (hK : C0.K = K) (fi cn : Nat) (m : Sm) (T : List Fn) (pr : Prims) (d : Nat) (hpr : pr fi = none) (hT : T[fi]? = some ⟨ps.length, N.length, .seq m (.ret (.var 0))⟩) (hps : ps.length ≤ N.length) (hm : noRet m = true)
    (body : ∀ (cdv : Value) (A : Around) (outer : List Env) (s : Shared) (H H' : Hp) (F0 : Fz) (x0 : Addr), A.guards = some [] → Room k (A.deeper (envOfC qual (defScope st) s.heap.objs.size f cdv)) →
      Sb (cxOf CX0 P w K mg base N qual (defScope st) f cdv A outer s H E0).nox { C0 with H0 := H', F0 := F0, Φ := FT T pr d, fu := fuel, slf := some x0 } [0] [0] [] (defBody st) m) :
    FnG P w K mg base CX0 (k + 1) f fd ps (spI C0 (FT T pr (d + 1) fi) cn ps.length) := by
  refine funOk F S (fun vs H Q E h => h.1) fun cdv A outer s H vs Q E hg hr hsp => ?_
  obtain ⟨hn, x0, dx, us, F0, ds, g, v, g', Cn, rfl, hc, hx, nf, nd, sub, sc, dk, rl, hev, q⟩ := hsp
  have hb := body cdv A outer s H (eraseH x0 H) F0 x0 hg hr
  unfold FT at hev
  rw [hpr] at hev
  simp only [hT] at hev
  split at hev
  · rename_i hl
    refine ⟨_, (show PSs (cxOf CX0 P w K mg base N qual (defScope st) f cdv A outer s H E).nox _ _ from hb.run), ?_⟩
    have hl2 : ds.length + 1 = ps.length := hl
    cases hr0 : Pv.run (FT T pr d) fuel (.seq m (.ret (.var 0))) ((objD cn [] :: ds).map some ++ List.replicate (N.length - ps.length) none) g with
    | no => rw [hr0] at hev; cases hev
    | exc c vs g1 => rw [hr0] at hev; cases hev
    | ok fl g1 =>
      rw [hr0] at hev
      have r := R.startI (C := { C0 with H0 := eraseH x0 H, F0 := F0, Φ := FT T pr d, fu := fuel, slf := some x0 }) (N := N) (us := us) (cn := cn) (x := x0) (dx := dx) (Cn := Cn) rfl rfl rfl sub sc (show DkR _ F0 g H from dk) rl (by
        have := rl.length
        omega) hc hx nf nd
      rw [hl2] at r
      unfold Pv.run at hr0
      obtain ⟨fl1, g2, h1, h2⟩ := bind_eq_ok hr0
      cases fl1 with
      | nx σe' =>
        unfold Pv.run at h2
        obtain ⟨v2, g3, h3, h4⟩ := bind_eq_ok h2
        cases h4
        cases hev
        unfold ev at h3
        have e0 : σe'[0]? = some (some v) ∧ g2 = g' := by
          split at h3
          · rename_i y
            cases h3
            exact ⟨y, rfl⟩
          · cases h3
        obtain ⟨e0, rfl⟩ := e0
        refine ⟨fun _ => none, F0, _, g, .nx σe', g2, r, h1, fun F' σ' H' s1 r1 => ?_⟩
        obtain ⟨p, e1, o1, n0, n1, n2⟩ := r1.ow 0 v e0 (List.mem_singleton.mpr rfl)
        have hpx : p = x0 := by
          have z := r1.slf x0 rfl (List.mem_singleton.mpr rfl)
          rw [e1] at z
          cases z; rfl
        subst hpx
        obtain ⟨F2, s2, r2⟩ := R.drop (i := 0) (Ow := []) r1 List.not_mem_nil
        have rv : Rel C0.K F2 v (.ref p) := by
          obtain ⟨y, z1, z2⟩ := r2.fz 0 v e0 List.not_mem_nil
          rw [e1] at z1
          cases z1
          exact z2
        refine q F2 H' (s1.trans s2) r2.sub (fun a o z1 z2 => ?_) (fun a o z1 z2 => ?_) (fun d l z => ?_) r2.dk rv
        · have := r2.new a o z1 z2
          have this : eraseH p H a = none := this
          unfold eraseH at this
          split at this
          · rename_i y; exact .inr y
          · exact .inl this
        · exact r2.keep a o (show eraseH p H a = some o by unfold eraseH; rw [if_neg z2]; exact z1)
        · have hd2 : F'.dk = some (d, l) := by
            cases y : F'.dk with
            | none =>
              have := r1.dk
              cases g2 with
              | none =>
                have w : F2.dk = none := r2.dk
                rw [w] at z; cases z
              | some st =>
                obtain ⟨d', l', w, _⟩ := this
                rw [y] at w; cases w
            | some dl =>
              have := s2.dk dl y
              rw [z] at this; cases this; rfl
          rcases r2.dnew d l z with w | ⟨w1, w2⟩
          · exact .inl w
          · have nd' : ∀ b, (b = d ∨ b = l) → b ≠ p := fun b hb y => n2 ⟨d, l, hd2, y ▸ hb⟩
            refine .inr ⟨?_, ?_⟩
            · have w1 : eraseH p H d = none := w1
              unfold eraseH at w1
              rwa [if_neg (nd' d (.inl rfl))] at w1
            · have w2 : eraseH p H l = none := w2
              unfold eraseH at w2
              rwa [if_neg (nd' l (.inr rfl))] at w2
      | rt v1 => exact (run_noRet _ _ _ _ _ _ _ hm h1).elim
      | bk σ1 => cases h2; cases hev
      | ct σ1 => cases h2; cases hev
  · cases hev
end
end Pv
end

section
/-! the terms of k35: printed by gen.py -/
set_option autoImplicit false
namespace Xk35
open PySem Pv

def m_is_integer_integers : Sm :=
  (.ret (.and (.bi .isInt (.cons (.var 0) .nil)) (.not (.bi .isBool (.cons (.var 0) .nil)))))

def m_are_integers (i_is_integer_integers : Nat) : Sm :=
  (.seq (.ite (.or (.not (.truth (.bi .isTuple (.cons (.var 0) .nil)))) (.cmp .ne (.bi .len (.cons (.var 0) .nil)) (.var 1))) (.ret (.c (.bool false))) .skip)
    (.ret (.bi .all (.cons (.comp [2] .seq (.cons (.var 0) .nil) (.c (.bool true)) (.call i_is_integer_integers (.cons (.var 2) .nil))) .nil))))

def m_common_divisor : Sm :=
  (.seq (.set [0] (.bi .abs (.cons (.var 0) .nil)))
    (.seq (.set [1] (.bi .abs (.cons (.var 1) .nil)))
    (.seq (.whil (.truth (.var 1)) (.par 0 1 (.var 1) (.bin .mod (.var 0) (.var 1))))
    (.ret (.var 0)))))

def m_whole_root : Sm :=
  (.seq (.set [1] (.c (.int 0)))
    (.seq (.set [2] (.c (.int 1)))
    (.seq (.whil (.cmp .le (.bin .mul (.var 2) (.var 2)) (.var 0)) (.set [2] (.bin .mul (.c (.int 2)) (.var 2))))
    (.seq (.whil (.cmp .gt (.bin .sub (.var 2) (.var 1)) (.c (.int 1))) (.seq (.set [3] (.bin .fdiv (.bin .add (.var 1) (.var 2)) (.c (.int 2))))
      (.ite (.cmp .le (.bin .mul (.var 3) (.var 3)) (.var 0)) (.set [1] (.var 3)) (.set [2] (.var 3)))))
    (.ret (.var 1))))))

def m_is_discriminant (i_is_integer_integers : Nat) : Sm :=
  (.ret (.and (.call i_is_integer_integers (.cons (.var 0) .nil)) (.and (.chain .le .le (.c (.int (-20000))) (.var 0) (.neg (.c (.int 3)))) (.cmp .isin (.bin .mod (.var 0) (.c (.int 4))) (.tup (.cons (.c (.int 0)) (.cons (.c (.int 1)) .nil)))))))

def m_discriminant_at : Sm :=
  (.seq (.set [1, 2, 3] (.var 0))
    (.ret (.bin .sub (.bin .mul (.var 2) (.var 2)) (.bin .mul (.bin .mul (.c (.int 4)) (.var 1)) (.var 3)))))

def m_is_form (i_are_integers i_common_divisor i_is_discriminant : Nat) : Sm :=
  (.seq (.ite (.not (.truth (.call i_are_integers (.cons (.var 0) (.cons (.c (.int 3)) .nil))))) (.ret (.c (.bool false))) .skip)
    (.seq (.set [1, 2, 3] (.var 0))
    (.seq (.ite (.or (.cmp .le (.var 1) (.c (.int 0))) (.not (.truth (.call i_is_discriminant (.cons (.bin .sub (.bin .mul (.var 2) (.var 2)) (.bin .mul (.bin .mul (.c (.int 4)) (.var 1)) (.var 3))) .nil))))) (.ret (.c (.bool false))) .skip)
    (.ret (.cmp .eq (.call i_common_divisor (.cons (.call i_common_divisor (.cons (.var 1) (.cons (.var 2) .nil))) (.cons (.var 3) .nil))) (.c (.int 1)))))))

def m_is_reduced (i_is_form : Nat) : Sm :=
  (.seq (.ite (.not (.truth (.call i_is_form (.cons (.var 0) .nil)))) (.ret (.c (.bool false))) .skip)
    (.seq (.set [1, 2, 3] (.var 0))
    (.ret (.and (.chain3 .lt .le .le (.neg (.var 1)) (.var 2) (.var 1) (.var 3)) (.not (.and (.cmp .eq (.var 1) (.var 3)) (.cmp .lt (.var 2) (.c (.int 0)))))))))

def m_is_matrix (i_are_integers : Nat) : Sm :=
  (.ret (.and (.call i_are_integers (.cons (.var 0) (.cons (.c (.int 4)) .nil))) (.cmp .eq (.bin .sub (.bin .mul (.idx (.var 0) (.c (.int 0))) (.idx (.var 0) (.c (.int 3)))) (.bin .mul (.idx (.var 0) (.c (.int 1))) (.idx (.var 0) (.c (.int 2))))) (.c (.int 1)))))

def m_fundamental (i_whole_root : Nat) : Sm :=
  (.seq (.set [1] (.call i_whole_root (.cons (.neg (.var 0)) .nil)))
    (.whil (.truth (.c (.bool true))) (.seq (.set [2] (.bin .mul (.var 1) (.var 1)))
      (.seq (.ite (.and (.cmp .eq (.bin .mod (.var 0) (.var 2)) (.c (.int 0))) (.cmp .isin (.bin .mod (.bin .fdiv (.var 0) (.var 2)) (.c (.int 4))) (.tup (.cons (.c (.int 0)) (.cons (.c (.int 1)) .nil))))) (.ret (.tup (.cons (.var 1) (.cons (.bin .fdiv (.var 0) (.var 2)) .nil)))) .skip)
      (.aug 1 .sub (.c (.int 1)))))))

def m_discriminant_of (i_discriminant_at i_is_form : Nat) : Sm :=
  (.seq (.ite (.not (.truth (.call i_is_form (.cons (.var 0) .nil)))) .bad .skip)
    (.ret (.call i_discriminant_at (.cons (.var 0) .nil))))

def m_is_integer_primefield : Sm :=
  (.ret (.and (.bi .isInt (.cons (.var 0) .nil)) (.not (.bi .isBool (.cons (.var 0) .nil)))))

def m_is_prime (i_is_integer_primefield : Nat) : Sm :=
  (.seq (.ite (.or (.not (.truth (.call i_is_integer_primefield (.cons (.var 0) .nil)))) (.or (.cmp .lt (.var 0) (.c (.int 7))) (.cmp .gt (.var 0) (.c (.int 199))))) (.ret (.c (.bool false))) .skip)
    (.seq (.forr [1] .seq (.cons (.tup (.cons (.c (.int 2)) (.cons (.c (.int 3)) (.cons (.c (.int 5)) (.cons (.c (.int 7)) (.cons (.c (.int 11)) (.cons (.c (.int 13)) .nil))))))) .nil) (.ite (.and (.cmp .eq (.bin .mod (.var 0) (.var 1)) (.c (.int 0))) (.cmp .ne (.var 0) (.var 1))) (.ret (.c (.bool false))) .skip))
    (.ret (.c (.bool true)))))

def m_is_number (i_is_integer_primefield : Nat) : Sm :=
  (.ret (.and (.call i_is_integer_primefield (.cons (.var 1) .nil)) (.chain .le .lt (.c (.int 0)) (.var 1) (.var 0))))

def n_Curve___init__ (i_is_number i_is_prime : Nat) : Sm :=
  (.seq (.ite (.not (.truth (.call i_is_prime (.cons (.var 1) .nil)))) .bad .skip)
    (.seq (.ite (.not (.truth (.call i_is_number (.cons (.var 1) (.cons (.var 2) .nil))))) .bad .skip)
    (.seq (.ite (.not (.truth (.call i_is_number (.cons (.var 1) (.cons (.var 3) .nil))))) .bad .skip)
    (.seq (.ite (.cmp .eq (.bin .mod (.bin .add (.bin .mul (.bin .mul (.bin .mul (.c (.int 4)) (.var 2)) (.var 2)) (.var 2)) (.bin .mul (.bin .mul (.c (.int 27)) (.var 3)) (.var 3))) (.var 1)) (.c (.int 0))) .bad .skip)
    (.seq (.setF 0 0 "prime" (.var 1))
    (.seq (.setF 0 0 "a" (.var 2))
    (.setF 0 0 "b" (.var 3))))))))
def m_Curve___init__ (i_is_number i_is_prime : Nat) : Sm := .seq (n_Curve___init__ i_is_number i_is_prime) (.ret (.var 0))

def m__law_deck (ns : List Int) : Sm :=
  (.seq (.par 2 3 (.comp [1] .seq (.cons (.scr (.var 0) ns 63) .nil) (.c (.bool true)) (.bin .mod (.bi .toInt (.cons (.var 1) .nil)) (.bin .add (.bin .pow (.c (.int 10)) (.c (.int 24))) (.c (.int 7))))) (.c (.int 1087635)))
    (.seq (.forr [1] .seq (.cons (.var 2) .nil) (.set [3] (.bin .mod (.bi .toInt (.cons (.bin .add (.bin .add (.bin .mul (.var 3) (.c (.int 69621))) (.bin .mod (.bi .toInt (.cons (.var 1) .nil)) (.c (.int 2147483543)))) (.c (.int 35))) .nil)) (.c (.int 2147483647)))))
    (.ret (.dkNew (.lrev (.var 2)) (.var 3) (.c (.int 0))))))

def m__law_draw : Sm :=
  (.seq (.dkSet true (.var 0) (.bin .add (.dkGet true (.var 0)) (.c (.int 1))))
    (.seq (.ite (.dkHas (.var 0)) (.seq (.set [2] (.dkPop (.var 0)))
      (.seq (.ite (.cmp .ge (.var 2) (.bin .pow (.c (.int 10)) (.c (.int 6)))) (.ex (.dkPush (.var 0) (.bin .fdiv (.var 2) (.bi .max2 (.cons (.c (.int 2)) (.cons (.var 1) .nil)))))) .skip)
      (.ret (.bin .mod (.bi .toInt (.cons (.var 2) .nil)) (.var 1))))) .skip)
    (.seq (.set [3] (.bin .mod (.bi .toInt (.cons (.bin .add (.dkGet false (.var 0)) (.bin .mul (.bin .mul (.c (.int 40692)) (.dkGet true (.var 0))) (.dkGet true (.var 0)))) .nil)) (.c (.int 2147483399))))
    (.seq (.set [3] (.bin .mod (.bi .toInt (.cons (.bin .mul (.var 3) (.var 3)) .nil)) (.c (.int 2147483563))))
    (.ret (.bin .mod (.bin .fdiv (.bin .mod (.bi .toInt (.cons (.bin .add (.bin .mul (.var 3) (.c (.int 39373))) (.bin .mul (.dkGet true (.var 0)) (.c (.int 7919)))) .nil)) (.c (.int 2147483629))) (.c (.int 64))) (.var 1)))))))

def m__law_pick (i__law_draw : Nat) : Sm :=
  (.ret (.idx (.var 1) (.call i__law_draw (.cons (.var 0) (.cons (.bi .len (.cons (.var 1) .nil)) .nil)))))

def m__law_gcd : Sm :=
  (.seq (.par 0 1 (.bi .abs (.cons (.var 0) .nil)) (.bi .abs (.cons (.var 1) .nil)))
    (.seq (.whil (.cmp .gt (.var 1) (.c (.int 0))) (.par 0 1 (.var 1) (.bin .mod (.bi .toInt (.cons (.var 0) .nil)) (.var 1))))
    (.ret (.var 0))))

def m__law_discriminant (i__law_draw i__law_pick : Nat) : Sm :=
  (.seq (.set [1] (.call i__law_draw (.cons (.var 0) (.cons (.c (.int 4)) .nil))))
    (.seq (.ite (.cmp .eq (.var 1) (.c (.int 0))) (.set [2] (.bin .sub (.neg (.c (.int 3))) (.call i__law_draw (.cons (.var 0) (.cons (.c (.int 120)) .nil))))) (.ite (.cmp .eq (.var 1) (.c (.int 1))) (.set [2] (.bin .sub (.neg (.c (.int 3))) (.call i__law_draw (.cons (.var 0) (.cons (.c (.int 19998)) .nil))))) (.seq (.set [3] (.tup (.cons (.neg (.c (.int 3))) (.cons (.neg (.c (.int 4))) (.cons (.neg (.c (.int 7))) (.cons (.neg (.c (.int 8))) (.cons (.neg (.c (.int 11))) (.cons (.neg (.c (.int 15))) (.cons (.neg (.c (.int 20))) (.cons (.neg (.c (.int 23))) (.cons (.neg (.c (.int 24))) (.cons (.neg (.c (.int 35))) (.cons (.neg (.c (.int 47))) (.cons (.neg (.c (.int 84))) (.cons (.neg (.c (.int 163))) (.cons (.neg (.c (.int 231))) .nil))))))))))))))))
        (.seq (.set [4] (.call i__law_pick (.cons (.var 0) (.cons (.tup (.cons (.c (.int 1)) (.cons (.c (.int 2)) (.cons (.c (.int 3)) (.cons (.c (.int 4)) (.cons (.c (.int 5)) (.cons (.c (.int 6)) (.cons (.c (.int 7)) (.cons (.c (.int 8)) (.cons (.c (.int 9)) (.cons (.c (.int 10)) (.cons (.c (.int 12)) (.cons (.c (.int 25)) .nil))))))))))))) .nil))))
        (.set [2] (.bi .max2 (.cons (.neg (.c (.int 20000))) (.cons (.bin .mul (.bin .mul (.call i__law_pick (.cons (.var 0) (.cons (.var 3) .nil))) (.var 4)) (.var 4)) .nil))))))))
    (.ret (.bin .sub (.var 2) (.dix (.ddisp (.cons (.c (.int 0)) (.cons (.c (.int 0)) (.cons (.c (.int 1)) (.cons (.c (.int 0)) (.cons (.c (.int 2)) (.cons (.c (.int 1)) (.cons (.c (.int 3)) (.cons (.c (.int 2)) .nil))))))))) (.bin .mod (.bi .toInt (.cons (.var 2) .nil)) (.c (.int 4))))))))

def m__law_classes (i__law_gcd : Nat) : Sm :=
  (.seq (.par 1 2 (.lst .nil) (.bin .mod (.bi .toInt (.cons (.var 0) .nil)) (.c (.int 2))))
    (.seq (.whil (.cmp .le (.bin .mul (.bin .mul (.c (.int 3)) (.var 2)) (.var 2)) (.bin .sub (.c (.int 0)) (.var 0))) (.seq (.set [3] (.bin .fdiv (.bin .sub (.bin .mul (.var 2) (.var 2)) (.var 0)) (.c (.int 4))))
      (.seq (.set [4] (.bi .max2 (.cons (.c (.int 1)) (.cons (.var 2) .nil))))
      (.seq (.whil (.cmp .le (.bin .mul (.var 4) (.var 4)) (.var 3)) (.seq (.ite (.and (.cmp .eq (.bin .mod (.bi .toInt (.cons (.var 3) .nil)) (.var 4)) (.c (.int 0))) (.cmp .eq (.call i__law_gcd (.cons (.call i__law_gcd (.cons (.var 4) (.cons (.var 2) .nil))) (.cons (.bin .fdiv (.var 3) (.var 4)) .nil))) (.c (.int 1)))) (.seq (.app 1 (.tup (.cons (.var 4) (.cons (.var 2) (.cons (.bin .fdiv (.var 3) (.var 4)) .nil)))))
          (.ite (.chain3 .lt .lt .lt (.c (.int 0)) (.var 2) (.var 4) (.bin .fdiv (.var 3) (.var 4))) (.app 1 (.tup (.cons (.var 4) (.cons (.bin .sub (.c (.int 0)) (.var 2)) (.cons (.bin .fdiv (.var 3) (.var 4)) .nil))))) .skip)) .skip)
        (.set [4] (.bin .add (.var 4) (.c (.int 1))))))
      (.set [2] (.bin .add (.var 2) (.c (.int 2))))))))
    (.ret (.bi .sorted (.cons (.var 1) .nil)))))

def m__law_led : Sm :=
  (.seq (.setG [[2, 3, 4], [5, 6, 7, 8]] (.tup (.cons (.var 0) (.cons (.var 1) .nil))))
    (.seq (.par 9 10 (.bin .add (.bin .add (.bin .mul (.bin .mul (.var 2) (.var 5)) (.var 5)) (.bin .mul (.bin .mul (.var 3) (.var 5)) (.var 7))) (.bin .mul (.bin .mul (.var 4) (.var 7)) (.var 7))) (.bin .add (.bin .add (.bin .mul (.bin .mul (.var 2) (.var 6)) (.var 6)) (.bin .mul (.bin .mul (.var 3) (.var 6)) (.var 8))) (.bin .mul (.bin .mul (.var 4) (.var 8)) (.var 8))))
    (.ret (.tup (.cons (.var 9) (.cons (.bin .add (.bin .add (.bin .mul (.bin .mul (.bin .mul (.c (.int 2)) (.var 2)) (.var 5)) (.var 6)) (.bin .mul (.var 3) (.bin .add (.bin .mul (.var 5) (.var 8)) (.bin .mul (.var 6) (.var 7))))) (.bin .mul (.bin .mul (.bin .mul (.c (.int 2)) (.var 4)) (.var 7)) (.var 8))) (.cons (.var 10) .nil)))))))

def m__law_times : Sm :=
  (.seq (.setG [[2, 3, 4, 5], [6, 7, 8, 9]] (.tup (.cons (.var 0) (.cons (.var 1) .nil))))
    (.ret (.tup (.cons (.bin .add (.bin .mul (.var 2) (.var 6)) (.bin .mul (.var 3) (.var 8))) (.cons (.bin .add (.bin .mul (.var 2) (.var 7)) (.bin .mul (.var 3) (.var 9))) (.cons (.bin .add (.bin .mul (.var 4) (.var 6)) (.bin .mul (.var 5) (.var 8))) (.cons (.bin .add (.bin .mul (.var 4) (.var 7)) (.bin .mul (.var 5) (.var 9))) .nil)))))))

def m__law_matrix (i__law_draw i__law_times : Nat) : Sm :=
  (.seq (.set [3] (.tup (.cons (.c (.int 1)) (.cons (.c (.int 0)) (.cons (.c (.int 0)) (.cons (.c (.int 1)) .nil))))))
    (.seq (.forr [4] .rng1 (.cons (.call i__law_draw (.cons (.var 0) (.cons (.bin .add (.var 1) (.c (.int 1))) .nil))) .nil) (.seq (.par 5 6 (.call i__law_draw (.cons (.var 0) (.cons (.c (.int 3)) .nil))) (.bin .sub (.call i__law_draw (.cons (.var 0) (.cons (.bin .add (.bin .mul (.c (.int 2)) (.var 2)) (.c (.int 1))) .nil))) (.var 2)))
      (.set [3] (.call i__law_times (.cons (.var 3) (.cons (.idx (.tup (.cons (.tup (.cons (.c (.int 1)) (.cons (.var 6) (.cons (.c (.int 0)) (.cons (.c (.int 1)) .nil))))) (.cons (.tup (.cons (.c (.int 1)) (.cons (.c (.int 0)) (.cons (.var 6) (.cons (.c (.int 1)) .nil))))) (.cons (.tup (.cons (.c (.int 0)) (.cons (.neg (.c (.int 1))) (.cons (.c (.int 1)) (.cons (.c (.int 0)) .nil))))) .nil)))) (.var 5)) .nil))))))
    (.ret (.var 3))))

def m__law_is_integer : Sm :=
  (.ret (.and (.bi .isInt (.cons (.var 0) .nil)) (.not (.bi .isBool (.cons (.var 0) .nil)))))

def m__law_is_discriminant (i__law_is_integer : Nat) : Sm :=
  (.ret (.and (.call i__law_is_integer (.cons (.var 0) .nil)) (.and (.chain .le .le (.neg (.c (.int 20000))) (.var 0) (.neg (.c (.int 3)))) (.cmp .lt (.bin .mod (.bi .toInt (.cons (.var 0) .nil)) (.c (.int 4))) (.c (.int 2))))))

def m__law_are_integers (i__law_is_integer : Nat) : Sm :=
  (.seq (.ite (.or (.not (.truth (.bi .isTuple (.cons (.var 0) .nil)))) (.cmp .ne (.bi .len (.cons (.var 0) .nil)) (.var 1))) (.ret (.c (.bool false))) .skip)
    (.ret (.cmp .eq (.comp [2] .seq (.cons (.var 0) .nil) (.not (.truth (.call i__law_is_integer (.cons (.var 2) .nil)))) (.var 2)) (.lst .nil))))

def m__law_is_form (i__law_are_integers i__law_gcd i__law_is_discriminant : Nat) : Sm :=
  (.seq (.ite (.not (.truth (.call i__law_are_integers (.cons (.var 0) (.cons (.c (.int 3)) .nil))))) (.ret (.c (.bool false))) .skip)
    (.seq (.set [1, 2, 3] (.var 0))
    (.ret (.and (.cmp .gt (.var 1) (.c (.int 0))) (.and (.call i__law_is_discriminant (.cons (.bin .sub (.bin .mul (.var 2) (.var 2)) (.bin .mul (.bin .mul (.c (.int 4)) (.var 1)) (.var 3))) .nil)) (.cmp .eq (.call i__law_gcd (.cons (.call i__law_gcd (.cons (.var 1) (.cons (.var 2) .nil))) (.cons (.var 3) .nil))) (.c (.int 1))))))))

def m__law_is_reduced (i__law_is_form : Nat) : Sm :=
  (.seq (.ite (.not (.truth (.call i__law_is_form (.cons (.var 0) .nil)))) (.ret (.c (.bool false))) .skip)
    (.seq (.set [1, 2, 3] (.var 0))
    (.ret (.and (.chain3 .lt .le .le (.bin .sub (.c (.int 0)) (.var 1)) (.var 2) (.var 1) (.var 3)) (.or (.cmp .ge (.var 2) (.c (.int 0))) (.cmp .lt (.var 1) (.var 3)))))))

def m__law_is_matrix (i__law_are_integers : Nat) : Sm :=
  (.ret (.and (.call i__law_are_integers (.cons (.var 0) (.cons (.c (.int 4)) .nil))) (.cmp .eq (.bin .sub (.bin .mul (.idx (.var 0) (.c (.int 0))) (.idx (.var 0) (.c (.int 3)))) (.bin .mul (.idx (.var 0) (.c (.int 1))) (.idx (.var 0) (.c (.int 2))))) (.c (.int 1)))))

def m__law_fundamental (i__law_is_discriminant : Nat) : Sm :=
  (.seq (.set [1] (.comp [2] .rng2 (.cons (.c (.int 1)) (.cons (.c (.int 142)) .nil)) (.and (.cmp .eq (.bin .mod (.bi .toInt (.cons (.var 0) .nil)) (.bin .mul (.var 2) (.var 2))) (.c (.int 0))) (.truth (.call i__law_is_discriminant (.cons (.bin .fdiv (.var 0) (.bin .mul (.var 2) (.var 2))) .nil)))) (.var 2)))
    (.ret (.tup (.cons (.idx (.var 1) (.neg (.c (.int 1)))) (.cons (.bin .fdiv (.var 0) (.bin .mul (.idx (.var 1) (.neg (.c (.int 1)))) (.idx (.var 1) (.neg (.c (.int 1)))))) .nil)))))

def m__law_bent (i__law_draw i__law_pick : Nat) : Sm :=
  (.seq (.set [2, 3] (.tup (.cons (.call i__law_draw (.cons (.var 0) (.cons (.bi .len (.cons (.var 1) .nil)) .nil))) (.cons (.bin .add (.call i__law_draw (.cons (.var 0) (.cons (.c (.int 3)) .nil))) (.c (.int 1))) .nil))))
    (.seq (.set [4] (.call i__law_pick (.cons (.var 0) (.cons (.tup (.cons (.c .none) (.cons (.c (.bool true)) (.cons (.c (.bool false)) (.cons (.c (.str "1")) (.cons (.tup (.cons (.idx (.var 1) (.var 2)) .nil)) (.cons (.lst (.cons (.idx (.var 1) (.var 2)) .nil)) (.cons (.c (.int 0)) (.cons (.neg (.c (.int 1))) (.cons (.bin .pow (.c (.int 10)) (.c (.int 29))) (.cons (.bin .sub (.c (.int 0)) (.bin .pow (.c (.int 10)) (.c (.int 29)))) (.cons .dnew (.cons (.c (.str "")) (.cons (.c (.int 2)) .nil)))))))))))))) .nil))))
    (.seq (.set [5] (.lst (.cons (.var 1) (.cons (.bi .toList (.cons (.var 1) .nil)) (.cons (.slc (.var 1) (.c .none) (.asI (.neg (.c (.int 1))))) (.cons (.bin .add (.var 1) (.tup (.cons (.c (.int 0)) .nil))) (.cons (.rev (.var 1)) (.cons (.bin .add (.slc (.var 1) (.asI (.var 2)) (.c .none)) (.slc (.var 1) (.c .none) (.asI (.var 2)))) (.cons (.tup (.cons (.var 1) .nil)) (.cons (.c .none) (.cons (.c (.str "")) (.cons .dnew (.cons (.c (.int 7)) (.cons (.c (.bool true)) (.cons (.tup .nil) (.cons (.bin .add (.bin .add (.slc (.var 1) (.c .none) (.asI (.var 2))) (.tup (.cons (.var 4) .nil))) (.slc (.var 1) (.asI (.bin .add (.var 2) (.c (.int 1)))) (.c .none))) (.cons (.bin .add (.bin .add (.slc (.var 1) (.c .none) (.asI (.var 2))) (.tup (.cons (.bin .add (.idx (.var 1) (.var 2)) (.var 3)) .nil))) (.slc (.var 1) (.asI (.bin .add (.var 2) (.c (.int 1)))) (.c .none))) (.cons (.lst (.cons (.var 1) .nil)) (.cons (.bi .toStr (.cons (.var 1) .nil)) (.cons (.bi .toTuple (.cons (.comp [6] .seq (.cons (.var 1) .nil) (.c (.bool true)) (.bin .sub (.c (.int 0)) (.var 6))) .nil)) (.cons (.bi .toTuple (.cons (.comp [6] .seq (.cons (.var 1) .nil) (.c (.bool true)) (.bin .mul (.var 3) (.var 6))) .nil)) (.cons (.bin .add (.slc (.var 1) (.c .none) (.asI (.var 2))) (.slc (.var 1) (.asI (.bin .add (.var 2) (.c (.int 1)))) (.c .none))) (.cons (.bin .add (.bin .add (.slc (.var 1) (.c .none) (.asI (.var 2))) (.tup (.cons (.bin .sub (.c (.int 0)) (.idx (.var 1) (.var 2))) .nil))) (.slc (.var 1) (.asI (.bin .add (.var 2) (.c (.int 1)))) (.c .none))) (.cons (.bin .add (.bin .add (.slc (.var 1) (.c .none) (.asI (.var 2))) (.tup (.cons (.bin .sub (.idx (.var 1) (.var 2)) (.var 3)) .nil))) (.slc (.var 1) (.asI (.bin .add (.var 2) (.c (.int 1)))) (.c .none))) .nil))))))))))))))))))))))))
    (.ret (.call i__law_pick (.cons (.var 0) (.cons (.var 5) .nil)))))))

def m__law_asked (i_is_discriminant i_is_form i_is_matrix i_is_reduced : Nat) : Sm :=
  (.seq (.set [1] (.lst (.cons (.call i_is_discriminant (.cons (.var 0) .nil)) (.cons (.call i_is_form (.cons (.var 0) .nil)) (.cons (.call i_is_reduced (.cons (.var 0) .nil)) (.cons (.call i_is_matrix (.cons (.var 0) .nil)) .nil))))))
    (.seq (.set [2] (.lst (.cons (.callK i_is_discriminant (.cons (.var 0) .nil) [0]) (.cons (.callK i_is_form (.cons (.var 0) .nil) [0]) (.cons (.callK i_is_reduced (.cons (.var 0) .nil) [0]) (.cons (.callK i_is_matrix (.cons (.var 0) .nil) [0]) .nil))))))
    (.ret (.lst (.cons (.var 1) (.cons (.var 2) .nil))))))

def m__law_is_right (i__law_asked i__law_is_discriminant i__law_is_form i__law_is_matrix i__law_is_reduced : Nat) : Sm :=
  (.seq (.set [1] (.lst (.cons (.call i__law_is_discriminant (.cons (.var 0) .nil)) (.cons (.call i__law_is_form (.cons (.var 0) .nil)) (.cons (.call i__law_is_reduced (.cons (.var 0) .nil)) (.cons (.call i__law_is_matrix (.cons (.var 0) .nil)) .nil))))))
    (.ret (.cmp .eq (.bi .repr (.cons (.call i__law_asked (.cons (.var 0) .nil)) .nil)) (.bi .repr (.cons (.lst (.cons (.var 1) (.cons (.var 1) .nil))) .nil)))))

def m_law (i_Curve___init__ i__law_bent i__law_classes i__law_deck i__law_discriminant i__law_fundamental i__law_is_right i__law_led i__law_matrix i__law_pick i_discriminant_of i_fundamental : Nat) : Sm :=
  (.seq (.set [1] (.call i__law_deck (.cons (.var 0) .nil)))
    (.seq (.set [2] (.call i__law_discriminant (.cons (.var 1) .nil)))
    (.seq (.set [3] (.call i__law_pick (.cons (.var 1) (.cons (.tup (.cons (.neg (.c (.int 3))) (.cons (.neg (.c (.int 4))) (.cons (.neg (.c (.int 20000))) (.cons (.var 2) (.cons (.c (.int 0)) (.cons (.neg (.c (.int 19999))) (.cons (.bin .pow (.c (.int 10)) (.c (.int 39))) .nil)))))))) .nil))))
    (.seq (.set [4] (.lst (.cons (.var 2) (.cons (.var 3) (.cons (.bin .sub (.var 3) (.c (.int 1))) (.cons (.bin .add (.var 3) (.c (.int 1))) (.cons (.bin .sub (.var 3) (.c (.int 2))) (.cons (.bin .add (.var 3) (.c (.int 2))) (.cons (.bin .sub (.c (.int 0)) (.var 2)) (.cons (.bin .mul (.c (.int 4)) (.var 2)) (.cons (.c (.bool true)) (.cons (.c (.bool false)) (.cons (.c .none) (.cons (.c (.str "-3")) .nil))))))))))))))
    (.seq (.forr [5] .seq (.cons (.var 4) .nil) (.ite (.not (.truth (.call i__law_is_right (.cons (.var 5) .nil)))) (.ret (.c (.bool false))) .skip))
    (.seq (.ite (.or (.not (.truth (.call i__law_is_right (.cons (.bin .sub (.c (.int 0)) (.bin .pow (.c (.int 10)) (.c (.int 39)))) .nil)))) (.not (.truth (.call i__law_is_right (.cons (.mk 0 i_Curve___init__ (.cons (.c (.int 7)) (.cons (.c (.int 0)) (.cons (.c (.int 2)) .nil)))) .nil))))) (.ret (.c (.bool false))) .skip)
    (.seq (.ite (.or (.not (.truth (.call i__law_is_right (.cons (.tup (.cons (.var 2) .nil)) .nil)))) (.or (.not (.truth (.call i__law_is_right (.cons (.lst (.cons (.var 2) .nil)) .nil)))) (.not (.truth (.call i__law_is_right (.cons (.bi .toStr (.cons (.var 2) .nil)) .nil)))))) (.ret (.c (.bool false))) .skip)
    (.seq (.set [6] (.call i__law_fundamental (.cons (.var 2) .nil)))
    (.seq (.ite (.cmp .ne (.bi .repr (.cons (.lst (.cons (.call i_fundamental (.cons (.var 2) .nil)) (.cons (.callK i_fundamental (.cons (.var 2) .nil) [0]) .nil))) .nil)) (.bi .repr (.cons (.lst (.cons (.var 6) (.cons (.var 6) .nil))) .nil))) (.ret (.c (.bool false))) .skip)
    (.seq (.set [4] (.call i__law_classes (.cons (.var 2) .nil)))
    (.seq (.forr [7] .rng1 (.cons (.c (.int 6)) .nil) (.seq (.set [8] (.call i__law_pick (.cons (.var 1) (.cons (.var 4) .nil))))
      (.seq (.set [9] (.call i__law_matrix (.cons (.var 1) (.cons (.c (.int 5)) (.cons (.ite (.cmp .gt (.var 7) (.c (.int 3))) (.call i__law_pick (.cons (.var 1) (.cons (.tup (.cons (.c (.int 1)) (.cons (.c (.int 9)) (.cons (.c (.int 30)) (.cons (.bin .pow (.c (.int 10)) (.c (.int 6))) .nil))))) .nil))) (.c (.int 2))) .nil)))))
      (.seq (.set [9] (.ite (.cmp .lt (.bi .maxL (.cons (.comp [11] .seq (.cons (.var 9) .nil) (.c (.bool true)) (.bi .abs (.cons (.var 11) .nil))) .nil)) (.bin .pow (.c (.int 10)) (.c (.int 12)))) (.var 9) (.tup (.cons (.c (.int 1)) (.cons (.bin .pow (.c (.int 10)) (.c (.int 12))) (.cons (.c (.int 0)) (.cons (.c (.int 1)) .nil)))))))
      (.seq (.set [10] (.call i__law_led (.cons (.var 8) (.cons (.var 9) .nil))))
      (.seq (.forr [5] .seq (.cons (.tup (.cons (.var 8) (.cons (.var 9) (.cons (.var 10) (.cons (.call i__law_bent (.cons (.var 1) (.cons (.var 8) .nil))) (.cons (.call i__law_bent (.cons (.var 1) (.cons (.var 9) .nil))) (.cons (.call i__law_bent (.cons (.var 1) (.cons (.var 10) .nil))) .nil))))))) .nil) (.ite (.not (.truth (.call i__law_is_right (.cons (.var 5) .nil)))) (.ret (.c (.bool false))) .skip))
      (.ite (.cmp .ne (.bi .repr (.cons (.lst (.cons (.call i_discriminant_of (.cons (.var 10) .nil)) (.cons (.callK i_discriminant_of (.cons (.var 8) .nil) [0]) .nil))) .nil)) (.bi .repr (.cons (.lst (.cons (.var 2) (.cons (.var 2) .nil))) .nil))) (.ret (.c (.bool false))) .skip)))))))
    (.ret (.c (.bool true))))))))))))))

def T (ns : List Int) : List Fn := [⟨1, 1, m_is_integer_integers⟩, ⟨2, 3, m_are_integers 0⟩, ⟨2, 2, m_common_divisor⟩, ⟨1, 4, m_whole_root⟩, ⟨1, 1, m_is_discriminant 0⟩, ⟨1, 4, m_discriminant_at⟩, ⟨1, 4, m_is_form 1 2 4⟩, ⟨1, 4, m_is_reduced 6⟩, ⟨1, 1, m_is_matrix 1⟩, ⟨1, 3, m_fundamental 3⟩, ⟨1, 1, m_discriminant_of 5 6⟩, ⟨1, 1, m_is_integer_primefield⟩, ⟨1, 2, m_is_prime 11⟩, ⟨2, 2, m_is_number 11⟩, ⟨4, 4, m_Curve___init__ 13 12⟩, ⟨1, 4, m__law_deck ns⟩, ⟨2, 4, m__law_draw⟩, ⟨2, 2, m__law_pick 16⟩, ⟨2, 2, m__law_gcd⟩, ⟨1, 5, m__law_discriminant 16 17⟩, ⟨1, 5, m__law_classes 18⟩, ⟨2, 11, m__law_led⟩, ⟨2, 10, m__law_times⟩, ⟨3, 7, m__law_matrix 16 22⟩, ⟨1, 1, m__law_is_integer⟩, ⟨1, 1, m__law_is_discriminant 24⟩, ⟨2, 3, m__law_are_integers 24⟩, ⟨1, 4, m__law_is_form 26 18 25⟩, ⟨1, 4, m__law_is_reduced 27⟩, ⟨1, 1, m__law_is_matrix 26⟩, ⟨1, 3, m__law_fundamental 25⟩, ⟨2, 7, m__law_bent 16 17⟩, ⟨1, 3, m__law_asked 4 6 8 7⟩, ⟨1, 2, m__law_is_right 32 25 27 29 28⟩, ⟨1, 12, m_law 14 31 20 15 19 30 33 21 23 17 10 9⟩]

/-- the functions at a height -/
abbrev PH (ns : List Int) (d : Nat) : Fns := FT (T ns) (fun _ => none) d

end Xk35
end

section
/-! the walk of k35: printed by gen.py -/
set_option autoImplicit false
namespace Xk35
open PySem PySem.Spec PyProof.Rows L2 Pv

def topS (i : Nat) : Stmt := PySem.Challenge.pw_craterhouse_k35_forms_of_any_value.main.body.getD i (.Pass ⟨0, 0, 0, 0⟩)

abbrev n_1 : Str := "rest"
abbrev n_2 : Str := "mixed"
abbrev n_3 : Option Str := some ("turn" : Str)

theorem dkn_of {C : Ct} {a : Addr} {ns : List Int} {cl : List (Addr × List Str)} (D : Dc C n_1 n_2 n_3 a ns cl) : DkN C := ⟨by rw [D.n1, D.n2]; decide, fun n h => by
  rw [D.n3] at h
  rw [D.n1, D.n2]
  cases h
  decide⟩

theorem hn3_of {C : Ct} {a : Addr} {ns : List Int} {cl : List (Addr × List Str)} (D : Dc C n_1 n_2 n_3 a ns cl) : (if true then C.n3 else some C.n2) = some ("turn" : Str) := by rw [D.n3]; rfl

theorem hn2_of {C : Ct} {a : Addr} {ns : List Int} {cl : List (Addr × List Str)} (D : Dc C n_1 n_2 n_3 a ns cl) : (if false then C.n3 else some C.n2) = some ("mixed" : Str) := by rw [D.n2]; rfl

abbrev s_is_integer_integers : Stmt := topS 6
abbrev p_is_integer_integers : List Str := ["thing"]
theorem sc_is_integer_integers : FnScope ["thing"] p_is_integer_integers (defScope s_is_integer_integers) := ⟨rfl, rfl, rfl, by decide +kernel, rfl, by decide +kernel, by decide +kernel⟩

abbrev s_are_integers : Stmt := topS 8
abbrev p_are_integers : List Str := ["thing", "many"]
theorem sc_are_integers : FnScope ["thing", "many", "part"] p_are_integers (defScope s_are_integers) := ⟨rfl, rfl, rfl, by decide +kernel, rfl, by decide +kernel, by decide +kernel⟩

abbrev s_common_divisor : Stmt := topS 9
abbrev p_common_divisor : List Str := ["one", "other"]
theorem sc_common_divisor : FnScope ["one", "other"] p_common_divisor (defScope s_common_divisor) := ⟨rfl, rfl, rfl, by decide +kernel, rfl, by decide +kernel, by decide +kernel⟩

abbrev s_whole_root : Stmt := topS 10
abbrev p_whole_root : List Str := ["number"]
theorem sc_whole_root : FnScope ["number", "low", "high", "middle"] p_whole_root (defScope s_whole_root) := ⟨rfl, rfl, rfl, by decide +kernel, rfl, by decide +kernel, by decide +kernel⟩

abbrev s_is_discriminant : Stmt := topS 13
abbrev p_is_discriminant : List Str := ["thing"]
theorem sc_is_discriminant : FnScope ["thing"] p_is_discriminant (defScope s_is_discriminant) := ⟨rfl, rfl, rfl, by decide +kernel, rfl, by decide +kernel, by decide +kernel⟩

abbrev s_discriminant_at : Stmt := topS 14
abbrev p_discriminant_at : List Str := ["form"]
theorem sc_discriminant_at : FnScope ["form", "a", "b", "c"] p_discriminant_at (defScope s_discriminant_at) := ⟨rfl, rfl, rfl, by decide +kernel, rfl, by decide +kernel, by decide +kernel⟩

abbrev s_is_form : Stmt := topS 15
abbrev p_is_form : List Str := ["thing"]
theorem sc_is_form : FnScope ["thing", "a", "b", "c"] p_is_form (defScope s_is_form) := ⟨rfl, rfl, rfl, by decide +kernel, rfl, by decide +kernel, by decide +kernel⟩

abbrev s_is_reduced : Stmt := topS 16
abbrev p_is_reduced : List Str := ["thing"]
theorem sc_is_reduced : FnScope ["thing", "a", "b", "c"] p_is_reduced (defScope s_is_reduced) := ⟨rfl, rfl, rfl, by decide +kernel, rfl, by decide +kernel, by decide +kernel⟩

abbrev s_is_matrix : Stmt := topS 17
abbrev p_is_matrix : List Str := ["thing"]
theorem sc_is_matrix : FnScope ["thing"] p_is_matrix (defScope s_is_matrix) := ⟨rfl, rfl, rfl, by decide +kernel, rfl, by decide +kernel, by decide +kernel⟩

abbrev s_fundamental : Stmt := topS 18
abbrev p_fundamental : List Str := ["discriminant"]
theorem sc_fundamental : FnScope ["discriminant", "conductor", "square"] p_fundamental (defScope s_fundamental) := ⟨rfl, rfl, rfl, by decide +kernel, rfl, by decide +kernel, by decide +kernel⟩

abbrev s_discriminant_of : Stmt := topS 19
abbrev p_discriminant_of : List Str := ["form"]
theorem sc_discriminant_of : FnScope ["form"] p_discriminant_of (defScope s_discriminant_of) := ⟨rfl, rfl, rfl, by decide +kernel, rfl, by decide +kernel, by decide +kernel⟩

abbrev s_is_integer_primefield : Stmt := topS 23
abbrev p_is_integer_primefield : List Str := ["thing"]
theorem sc_is_integer_primefield : FnScope ["thing"] p_is_integer_primefield (defScope s_is_integer_primefield) := ⟨rfl, rfl, rfl, by decide +kernel, rfl, by decide +kernel, by decide +kernel⟩

abbrev s_is_prime : Stmt := topS 25
abbrev p_is_prime : List Str := ["thing"]
theorem sc_is_prime : FnScope ["thing", "divisor"] p_is_prime (defScope s_is_prime) := ⟨rfl, rfl, rfl, by decide +kernel, rfl, by decide +kernel, by decide +kernel⟩

abbrev s_is_number : Stmt := topS 26
abbrev p_is_number : List Str := ["prime", "thing"]
theorem sc_is_number : FnScope ["prime", "thing"] p_is_number (defScope s_is_number) := ⟨rfl, rfl, rfl, by decide +kernel, rfl, by decide +kernel, by decide +kernel⟩

abbrev s_Curve___init__ : Stmt := inClass (topS 30) 0
abbrev p_Curve___init__ : List Str := ["self", "prime", "a", "b"]
theorem sc_Curve___init__ : FnScope ["self", "prime", "a", "b"] p_Curve___init__ (defScope s_Curve___init__) := ⟨rfl, rfl, rfl, by decide +kernel, rfl, by decide +kernel, by decide +kernel⟩

abbrev s__law_deck : Stmt := topS 32
abbrev p__law_deck : List Str := ["_law_script"]
theorem sc__law_deck : FnScope ["_law_script", "_law_cell", "_law_rest", "_law_mixed"] p__law_deck (defScope s__law_deck) := ⟨rfl, rfl, rfl, by decide +kernel, rfl, by decide +kernel, by decide +kernel⟩

abbrev s__law_draw : Stmt := topS 33
abbrev p__law_draw : List Str := ["_law_deck_here", "_law_below"]
theorem sc__law_draw : FnScope ["_law_deck_here", "_law_below", "_law_cell", "_law_number"] p__law_draw (defScope s__law_draw) := ⟨rfl, rfl, rfl, by decide +kernel, rfl, by decide +kernel, by decide +kernel⟩

abbrev s__law_pick : Stmt := topS 34
abbrev p__law_pick : List Str := ["_law_deck_here", "_law_some"]
theorem sc__law_pick : FnScope ["_law_deck_here", "_law_some"] p__law_pick (defScope s__law_pick) := ⟨rfl, rfl, rfl, by decide +kernel, rfl, by decide +kernel, by decide +kernel⟩

abbrev s__law_gcd : Stmt := topS 35
abbrev p__law_gcd : List Str := ["_law_one", "_law_other"]
theorem sc__law_gcd : FnScope ["_law_one", "_law_other"] p__law_gcd (defScope s__law_gcd) := ⟨rfl, rfl, rfl, by decide +kernel, rfl, by decide +kernel, by decide +kernel⟩

abbrev s__law_discriminant : Stmt := topS 36
abbrev p__law_discriminant : List Str := ["_law_deck_here"]
theorem sc__law_discriminant : FnScope ["_law_deck_here", "_law_way", "_law_number", "_law_some", "_law_factor"] p__law_discriminant (defScope s__law_discriminant) := ⟨rfl, rfl, rfl, by decide +kernel, rfl, by decide +kernel, by decide +kernel⟩

abbrev s__law_classes : Stmt := topS 37
abbrev p__law_classes : List Str := ["_law_discriminant_here"]
theorem sc__law_classes : FnScope ["_law_discriminant_here", "_law_found", "_law_b", "_law_product", "_law_a"] p__law_classes (defScope s__law_classes) := ⟨rfl, rfl, rfl, by decide +kernel, rfl, by decide +kernel, by decide +kernel⟩

abbrev s__law_led : Stmt := topS 38
abbrev p__law_led : List Str := ["_law_form", "_law_matrix_here"]
theorem sc__law_led : FnScope ["_law_form", "_law_matrix_here", "_law_a", "_law_b", "_law_c", "_law_g", "_law_h", "_law_i", "_law_j", "_law_first", "_law_last"] p__law_led (defScope s__law_led) := ⟨rfl, rfl, rfl, by decide +kernel, rfl, by decide +kernel, by decide +kernel⟩

abbrev s__law_times : Stmt := topS 39
abbrev p__law_times : List Str := ["_law_one", "_law_other"]
theorem sc__law_times : FnScope ["_law_one", "_law_other", "_law_g", "_law_h", "_law_i", "_law_j", "_law_k", "_law_m", "_law_n", "_law_o"] p__law_times (defScope s__law_times) := ⟨rfl, rfl, rfl, by decide +kernel, rfl, by decide +kernel, by decide +kernel⟩

abbrev s__law_matrix : Stmt := topS 40
abbrev p__law_matrix : List Str := ["_law_deck_here", "_law_many", "_law_great"]
theorem sc__law_matrix : FnScope ["_law_deck_here", "_law_many", "_law_great", "_law_found", "_law_turn", "_law_way", "_law_k"] p__law_matrix (defScope s__law_matrix) := ⟨rfl, rfl, rfl, by decide +kernel, rfl, by decide +kernel, by decide +kernel⟩

abbrev s__law_is_integer : Stmt := topS 41
abbrev p__law_is_integer : List Str := ["_law_thing"]
theorem sc__law_is_integer : FnScope ["_law_thing"] p__law_is_integer (defScope s__law_is_integer) := ⟨rfl, rfl, rfl, by decide +kernel, rfl, by decide +kernel, by decide +kernel⟩

abbrev s__law_is_discriminant : Stmt := topS 42
abbrev p__law_is_discriminant : List Str := ["_law_thing"]
theorem sc__law_is_discriminant : FnScope ["_law_thing"] p__law_is_discriminant (defScope s__law_is_discriminant) := ⟨rfl, rfl, rfl, by decide +kernel, rfl, by decide +kernel, by decide +kernel⟩

abbrev s__law_are_integers : Stmt := topS 43
abbrev p__law_are_integers : List Str := ["_law_thing", "_law_many"]
theorem sc__law_are_integers : FnScope ["_law_thing", "_law_many", "_law_item"] p__law_are_integers (defScope s__law_are_integers) := ⟨rfl, rfl, rfl, by decide +kernel, rfl, by decide +kernel, by decide +kernel⟩

abbrev s__law_is_form : Stmt := topS 44
abbrev p__law_is_form : List Str := ["_law_thing"]
theorem sc__law_is_form : FnScope ["_law_thing", "_law_a", "_law_b", "_law_c"] p__law_is_form (defScope s__law_is_form) := ⟨rfl, rfl, rfl, by decide +kernel, rfl, by decide +kernel, by decide +kernel⟩

abbrev s__law_is_reduced : Stmt := topS 45
abbrev p__law_is_reduced : List Str := ["_law_thing"]
theorem sc__law_is_reduced : FnScope ["_law_thing", "_law_a", "_law_b", "_law_c"] p__law_is_reduced (defScope s__law_is_reduced) := ⟨rfl, rfl, rfl, by decide +kernel, rfl, by decide +kernel, by decide +kernel⟩

abbrev s__law_is_matrix : Stmt := topS 46
abbrev p__law_is_matrix : List Str := ["_law_thing"]
theorem sc__law_is_matrix : FnScope ["_law_thing"] p__law_is_matrix (defScope s__law_is_matrix) := ⟨rfl, rfl, rfl, by decide +kernel, rfl, by decide +kernel, by decide +kernel⟩

abbrev s__law_fundamental : Stmt := topS 47
abbrev p__law_fundamental : List Str := ["_law_number"]
theorem sc__law_fundamental : FnScope ["_law_number", "_law_found", "_law_f"] p__law_fundamental (defScope s__law_fundamental) := ⟨rfl, rfl, rfl, by decide +kernel, rfl, by decide +kernel, by decide +kernel⟩

abbrev s__law_bent : Stmt := topS 48
abbrev p__law_bent : List Str := ["_law_deck_here", "_law_row"]
theorem sc__law_bent : FnScope ["_law_deck_here", "_law_row", "_law_at", "_law_turn", "_law_odd", "_law_some", "_law_item"] p__law_bent (defScope s__law_bent) := ⟨rfl, rfl, rfl, by decide +kernel, rfl, by decide +kernel, by decide +kernel⟩

abbrev s__law_asked : Stmt := topS 49
abbrev p__law_asked : List Str := ["_law_thing"]
theorem sc__law_asked : FnScope ["_law_thing", "_law_told", "_law_named"] p__law_asked (defScope s__law_asked) := ⟨rfl, rfl, rfl, by decide +kernel, rfl, by decide +kernel, by decide +kernel⟩

abbrev s__law_is_right : Stmt := topS 50
abbrev p__law_is_right : List Str := ["_law_thing"]
theorem sc__law_is_right : FnScope ["_law_thing", "_law_due"] p__law_is_right (defScope s__law_is_right) := ⟨rfl, rfl, rfl, by decide +kernel, rfl, by decide +kernel, by decide +kernel⟩

abbrev s_law : Stmt := topS 51
abbrev p_law : List Str := ["_law_script"]
theorem sc_law : FnScope ["_law_script", "_law_deck_here", "_law_number", "_law_near", "_law_some", "_law_thing", "_law_due", "_law_turn", "_law_form", "_law_matrix_here", "_law_far", "_law_item"] p_law (defScope s_law) := ⟨rfl, rfl, rfl, by decide +kernel, rfl, by decide +kernel, by decide +kernel⟩

/-- what the top has written -/
structure Fa (K : PySem.W.Frag) (mg : Str → Option Value) where

  f_is_integer_integers : Addr
  d_is_integer_integers : FuncData
  F_is_integer_integers : Fun K "is_integer" "is_integer" s_is_integer_integers f_is_integer_integers d_is_integer_integers
  b_is_integer_integers : Binds K d_is_integer_integers p_is_integer_integers []

  g_is_integer_integers : mg "is_integer_integers" = some (.ref f_is_integer_integers)

  f_are_integers : Addr
  d_are_integers : FuncData
  F_are_integers : Fun K "are_integers" "are_integers" s_are_integers f_are_integers d_are_integers
  b_are_integers : Binds K d_are_integers p_are_integers []

  g_are_integers : mg "are_integers" = some (.ref f_are_integers)

  f_common_divisor : Addr
  d_common_divisor : FuncData
  F_common_divisor : Fun K "common_divisor" "common_divisor" s_common_divisor f_common_divisor d_common_divisor
  b_common_divisor : Binds K d_common_divisor p_common_divisor []

  g_common_divisor : mg "common_divisor" = some (.ref f_common_divisor)

  f_whole_root : Addr
  d_whole_root : FuncData
  F_whole_root : Fun K "whole_root" "whole_root" s_whole_root f_whole_root d_whole_root
  b_whole_root : Binds K d_whole_root p_whole_root []

  g_whole_root : mg "whole_root" = some (.ref f_whole_root)

  f_is_discriminant : Addr
  d_is_discriminant : FuncData
  F_is_discriminant : Fun K "is_discriminant" "is_discriminant" s_is_discriminant f_is_discriminant d_is_discriminant
  b_is_discriminant : Binds K d_is_discriminant p_is_discriminant []

  g_is_discriminant : mg "is_discriminant" = some (.ref f_is_discriminant)

  f_discriminant_at : Addr
  d_discriminant_at : FuncData
  F_discriminant_at : Fun K "discriminant_at" "discriminant_at" s_discriminant_at f_discriminant_at d_discriminant_at
  b_discriminant_at : Binds K d_discriminant_at p_discriminant_at []

  g_discriminant_at : mg "discriminant_at" = some (.ref f_discriminant_at)

  f_is_form : Addr
  d_is_form : FuncData
  F_is_form : Fun K "is_form" "is_form" s_is_form f_is_form d_is_form
  b_is_form : Binds K d_is_form p_is_form []

  g_is_form : mg "is_form" = some (.ref f_is_form)

  f_is_reduced : Addr
  d_is_reduced : FuncData
  F_is_reduced : Fun K "is_reduced" "is_reduced" s_is_reduced f_is_reduced d_is_reduced
  b_is_reduced : Binds K d_is_reduced p_is_reduced []

  g_is_reduced : mg "is_reduced" = some (.ref f_is_reduced)

  f_is_matrix : Addr
  d_is_matrix : FuncData
  F_is_matrix : Fun K "is_matrix" "is_matrix" s_is_matrix f_is_matrix d_is_matrix
  b_is_matrix : Binds K d_is_matrix p_is_matrix []

  g_is_matrix : mg "is_matrix" = some (.ref f_is_matrix)

  f_fundamental : Addr
  d_fundamental : FuncData
  F_fundamental : Fun K "fundamental" "fundamental" s_fundamental f_fundamental d_fundamental
  b_fundamental : Binds K d_fundamental p_fundamental []

  g_fundamental : mg "fundamental" = some (.ref f_fundamental)

  f_discriminant_of : Addr
  d_discriminant_of : FuncData
  F_discriminant_of : Fun K "discriminant_of" "discriminant_of" s_discriminant_of f_discriminant_of d_discriminant_of
  b_discriminant_of : Binds K d_discriminant_of p_discriminant_of []

  g_discriminant_of : mg "discriminant_of" = some (.ref f_discriminant_of)

  f_is_integer_primefield : Addr
  d_is_integer_primefield : FuncData
  F_is_integer_primefield : Fun K "is_integer" "is_integer" s_is_integer_primefield f_is_integer_primefield d_is_integer_primefield
  b_is_integer_primefield : Binds K d_is_integer_primefield p_is_integer_primefield []

  g_is_integer_primefield : mg "is_integer_primefield" = some (.ref f_is_integer_primefield)

  f_is_prime : Addr
  d_is_prime : FuncData
  F_is_prime : Fun K "is_prime" "is_prime" s_is_prime f_is_prime d_is_prime
  b_is_prime : Binds K d_is_prime p_is_prime []

  g_is_prime : mg "is_prime" = some (.ref f_is_prime)

  f_is_number : Addr
  d_is_number : FuncData
  F_is_number : Fun K "is_number" "is_number" s_is_number f_is_number d_is_number
  b_is_number : Binds K d_is_number p_is_number []

  g_is_number : mg "is_number" = some (.ref f_is_number)

  f_Curve___init__ : Addr
  d_Curve___init__ : FuncData
  F_Curve___init__ : Fun K "__init__" "Curve.__init__" s_Curve___init__ f_Curve___init__ d_Curve___init__
  b_Curve___init__ : Binds K d_Curve___init__ p_Curve___init__ []

  f__law_deck : Addr
  d__law_deck : FuncData
  F__law_deck : Fun K "_law_deck" "_law_deck" s__law_deck f__law_deck d__law_deck
  b__law_deck : Binds K d__law_deck p__law_deck []

  g__law_deck : mg "_law_deck" = some (.ref f__law_deck)

  f__law_draw : Addr
  d__law_draw : FuncData
  F__law_draw : Fun K "_law_draw" "_law_draw" s__law_draw f__law_draw d__law_draw
  b__law_draw : Binds K d__law_draw p__law_draw []

  g__law_draw : mg "_law_draw" = some (.ref f__law_draw)

  f__law_pick : Addr
  d__law_pick : FuncData
  F__law_pick : Fun K "_law_pick" "_law_pick" s__law_pick f__law_pick d__law_pick
  b__law_pick : Binds K d__law_pick p__law_pick []

  g__law_pick : mg "_law_pick" = some (.ref f__law_pick)

  f__law_gcd : Addr
  d__law_gcd : FuncData
  F__law_gcd : Fun K "_law_gcd" "_law_gcd" s__law_gcd f__law_gcd d__law_gcd
  b__law_gcd : Binds K d__law_gcd p__law_gcd []

  g__law_gcd : mg "_law_gcd" = some (.ref f__law_gcd)

  f__law_discriminant : Addr
  d__law_discriminant : FuncData
  F__law_discriminant : Fun K "_law_discriminant" "_law_discriminant" s__law_discriminant f__law_discriminant d__law_discriminant
  b__law_discriminant : Binds K d__law_discriminant p__law_discriminant []

  g__law_discriminant : mg "_law_discriminant" = some (.ref f__law_discriminant)

  f__law_classes : Addr
  d__law_classes : FuncData
  F__law_classes : Fun K "_law_classes" "_law_classes" s__law_classes f__law_classes d__law_classes
  b__law_classes : Binds K d__law_classes p__law_classes []

  g__law_classes : mg "_law_classes" = some (.ref f__law_classes)

  f__law_led : Addr
  d__law_led : FuncData
  F__law_led : Fun K "_law_led" "_law_led" s__law_led f__law_led d__law_led
  b__law_led : Binds K d__law_led p__law_led []

  g__law_led : mg "_law_led" = some (.ref f__law_led)

  f__law_times : Addr
  d__law_times : FuncData
  F__law_times : Fun K "_law_times" "_law_times" s__law_times f__law_times d__law_times
  b__law_times : Binds K d__law_times p__law_times []

  g__law_times : mg "_law_times" = some (.ref f__law_times)

  f__law_matrix : Addr
  d__law_matrix : FuncData
  F__law_matrix : Fun K "_law_matrix" "_law_matrix" s__law_matrix f__law_matrix d__law_matrix
  b__law_matrix : Binds K d__law_matrix p__law_matrix []

  g__law_matrix : mg "_law_matrix" = some (.ref f__law_matrix)

  f__law_is_integer : Addr
  d__law_is_integer : FuncData
  F__law_is_integer : Fun K "_law_is_integer" "_law_is_integer" s__law_is_integer f__law_is_integer d__law_is_integer
  b__law_is_integer : Binds K d__law_is_integer p__law_is_integer []

  g__law_is_integer : mg "_law_is_integer" = some (.ref f__law_is_integer)

  f__law_is_discriminant : Addr
  d__law_is_discriminant : FuncData
  F__law_is_discriminant : Fun K "_law_is_discriminant" "_law_is_discriminant" s__law_is_discriminant f__law_is_discriminant d__law_is_discriminant
  b__law_is_discriminant : Binds K d__law_is_discriminant p__law_is_discriminant []

  g__law_is_discriminant : mg "_law_is_discriminant" = some (.ref f__law_is_discriminant)

  f__law_are_integers : Addr
  d__law_are_integers : FuncData
  F__law_are_integers : Fun K "_law_are_integers" "_law_are_integers" s__law_are_integers f__law_are_integers d__law_are_integers
  b__law_are_integers : Binds K d__law_are_integers p__law_are_integers []

  g__law_are_integers : mg "_law_are_integers" = some (.ref f__law_are_integers)

  f__law_is_form : Addr
  d__law_is_form : FuncData
  F__law_is_form : Fun K "_law_is_form" "_law_is_form" s__law_is_form f__law_is_form d__law_is_form
  b__law_is_form : Binds K d__law_is_form p__law_is_form []

  g__law_is_form : mg "_law_is_form" = some (.ref f__law_is_form)

  f__law_is_reduced : Addr
  d__law_is_reduced : FuncData
  F__law_is_reduced : Fun K "_law_is_reduced" "_law_is_reduced" s__law_is_reduced f__law_is_reduced d__law_is_reduced
  b__law_is_reduced : Binds K d__law_is_reduced p__law_is_reduced []

  g__law_is_reduced : mg "_law_is_reduced" = some (.ref f__law_is_reduced)

  f__law_is_matrix : Addr
  d__law_is_matrix : FuncData
  F__law_is_matrix : Fun K "_law_is_matrix" "_law_is_matrix" s__law_is_matrix f__law_is_matrix d__law_is_matrix
  b__law_is_matrix : Binds K d__law_is_matrix p__law_is_matrix []

  g__law_is_matrix : mg "_law_is_matrix" = some (.ref f__law_is_matrix)

  f__law_fundamental : Addr
  d__law_fundamental : FuncData
  F__law_fundamental : Fun K "_law_fundamental" "_law_fundamental" s__law_fundamental f__law_fundamental d__law_fundamental
  b__law_fundamental : Binds K d__law_fundamental p__law_fundamental []

  g__law_fundamental : mg "_law_fundamental" = some (.ref f__law_fundamental)

  f__law_bent : Addr
  d__law_bent : FuncData
  F__law_bent : Fun K "_law_bent" "_law_bent" s__law_bent f__law_bent d__law_bent
  b__law_bent : Binds K d__law_bent p__law_bent []

  g__law_bent : mg "_law_bent" = some (.ref f__law_bent)

  f__law_asked : Addr
  d__law_asked : FuncData
  F__law_asked : Fun K "_law_asked" "_law_asked" s__law_asked f__law_asked d__law_asked
  b__law_asked : Binds K d__law_asked p__law_asked []

  g__law_asked : mg "_law_asked" = some (.ref f__law_asked)

  f__law_is_right : Addr
  d__law_is_right : FuncData
  F__law_is_right : Fun K "_law_is_right" "_law_is_right" s__law_is_right f__law_is_right d__law_is_right
  b__law_is_right : Binds K d__law_is_right p__law_is_right []

  g__law_is_right : mg "_law_is_right" = some (.ref f__law_is_right)

  f_law : Addr
  d_law : FuncData
  F_law : Fun K "law" "law" s_law f_law d_law
  b_law : Binds K d_law p_law []

  g_law : mg "law" = some (.ref f_law)

  C_Curve : Addr
  cl_Curve : Cls K C_Curve
  in_Curve : InsOk K C_Curve
  gC_Curve : mg "Curve" = some (.ref C_Curve)
  nA_Curve_prime : NoAttr K C_Curve "prime"
  nA_Curve_a : NoAttr K C_Curve "a"
  nA_Curve_b : NoAttr K C_Curve "b"

  K_Curve : Mk K C_Curve f_Curve___init__

  kb_is_matrix_0 : KB K d_is_matrix p_is_matrix ["thing"] 0 [0]

  kb_is_reduced_0 : KB K d_is_reduced p_is_reduced ["thing"] 0 [0]

  kb_is_form_0 : KB K d_is_form p_is_form ["thing"] 0 [0]

  kb_is_discriminant_0 : KB K d_is_discriminant p_is_discriminant ["thing"] 0 [0]

  kb_fundamental_0 : KB K d_fundamental p_fundamental ["discriminant"] 0 [0]

  kb_discriminant_of_0 : KB K d_discriminant_of p_discriminant_of ["form"] 0 [0]

  v_GREATEST_PRIME : Nat
  g_GREATEST_PRIME : mg "GREATEST_PRIME" = some (.int 199 v_GREATEST_PRIME)

  v_LEAST : Nat
  g_LEAST : mg "LEAST" = some (.int (-20000) v_LEAST)

  v_LEAST_PRIME : Nat
  g_LEAST_PRIME : mg "LEAST_PRIME" = some (.int 7 v_LEAST_PRIME)

  z_abs : mg "abs" = none

  z_all : mg "all" = none

  z_bool : mg "bool" = none

  z_int : mg "int" = none

  z_isinstance : mg "isinstance" = none

  z_len : mg "len" = none

  z_list : mg "list" = none

  z_max : mg "max" = none

  z_range : mg "range" = none

  z_repr : mg "repr" = none

  z_sorted : mg "sorted" = none

  z_str : mg "str" = none

  z_tuple : mg "tuple" = none

abbrev at_Curve : List Str := ["prime", "a", "b"]

def Fa.cl {K : PySem.W.Frag} {mg : Str → Option Value} (A : Fa K mg) : List (Addr × List Str) := [(A.C_Curve, at_Curve)]

theorem Fa.clsOk {K : PySem.W.Frag} {mg : Str → Option Value} (A : Fa K mg) : ClsOk K A.cl := ⟨fun Cn h => by
  simp only [Fa.cl, List.mem_cons, List.not_mem_nil, or_false] at h
  rcases h with rfl
  · exact A.cl_Curve
  , fun Cn h f hf => by
  simp only [Fa.cl, List.mem_cons, List.not_mem_nil, or_false] at h
  rcases h with rfl
  · simp only [List.mem_cons, List.not_mem_nil, or_false] at hf
    rcases hf with rfl | rfl | rfl
    · exact A.nA_Curve_prime
    · exact A.nA_Curve_a
    · exact A.nA_Curve_b
  ⟩

theorem Fa.insOk {K : PySem.W.Frag} {mg : Str → Option Value} (A : Fa K mg) : ∀ Cn ∈ A.cl, InsOk K Cn.1 := fun Cn h => by
  simp only [Fa.cl, List.mem_cons, List.not_mem_nil, or_false] at h
  rcases h with rfl
  · exact A.in_Curve


def sn_are_integers_0 : Scope := { kind := .function, names := [(".0", .local), ("part", .local), ("is_integer_integers", .globalImplicit)], isGenerator := false, isCoroutine := false, more := [] }
def sn_are_integers_0r : Scope := { kind := .function, names := [(".0", .local), ("part", .local), ("is_integer_integers", .globalImplicit)], isGenerator := false, isCoroutine := false, more := [] }
theorem bk_are_integers_0 : BlkOk ["thing", "many", "part"] (defScope s_are_integers) sn_are_integers_0 [("part", 2)] := ⟨rfl, by decide +kernel, by decide +kernel, by decide +kernel, by decide +kernel⟩














def sn__law_deck_0 : Scope := { kind := .function, names := [(".0", .local), ("_law_cell", .local), ("int", .globalImplicit)], isGenerator := false, isCoroutine := false, more := [] }
def sn__law_deck_0r : Scope := { kind := .function, names := [(".0", .local), ("_law_cell", .local), ("int", .globalImplicit)], isGenerator := false, isCoroutine := false, more := [] }
theorem bk__law_deck_0 : BlkOk ["_law_script", "_law_cell", "_law_rest", "_law_mixed"] (defScope s__law_deck) sn__law_deck_0 [("_law_cell", 1)] := ⟨rfl, by decide +kernel, by decide +kernel, by decide +kernel, by decide +kernel⟩











def sn__law_are_integers_0 : Scope := { kind := .function, names := [(".0", .local), ("_law_item", .local), ("_law_is_integer", .globalImplicit)], isGenerator := false, isCoroutine := false, more := [] }
def sn__law_are_integers_0r : Scope := { kind := .function, names := [(".0", .local), ("_law_item", .local), ("_law_is_integer", .globalImplicit)], isGenerator := false, isCoroutine := false, more := [] }
theorem bk__law_are_integers_0 : BlkOk ["_law_thing", "_law_many", "_law_item"] (defScope s__law_are_integers) sn__law_are_integers_0 [("_law_item", 2)] := ⟨rfl, by decide +kernel, by decide +kernel, by decide +kernel, by decide +kernel⟩




def sn__law_fundamental_0 : Scope := { kind := .function, names := [(".0", .local), ("_law_f", .local), ("int", .globalImplicit), ("_law_is_discriminant", .globalImplicit), ("_law_number", .free)], isGenerator := false, isCoroutine := false, more := [] }
def sn__law_fundamental_0r : Scope := { kind := .function, names := [(".0", .local), ("_law_f", .local), ("int", .globalImplicit), ("_law_is_discriminant", .globalImplicit), ("_law_number", .cell)], isGenerator := false, isCoroutine := false, more := [] }
theorem bk__law_fundamental_0 : BlkOk ["_law_number", "_law_found", "_law_f"] (defScope s__law_fundamental) sn__law_fundamental_0 [("_law_f", 2)] := ⟨rfl, by decide +kernel, by decide +kernel, by decide +kernel, by decide +kernel⟩

def sn__law_bent_0 : Scope := { kind := .function, names := [(".0", .local), ("_law_item", .local), ("_law_turn", .free)], isGenerator := false, isCoroutine := false, more := [] }
def sn__law_bent_0r : Scope := { kind := .function, names := [(".0", .local), ("_law_item", .local), ("_law_turn", .cell)], isGenerator := false, isCoroutine := false, more := [] }
theorem bk__law_bent_0 : BlkOk ["_law_deck_here", "_law_row", "_law_at", "_law_turn", "_law_odd", "_law_some", "_law_item"] (defScope s__law_bent) sn__law_bent_0 [("_law_item", 6)] := ⟨rfl, by decide +kernel, by decide +kernel, by decide +kernel, by decide +kernel⟩
def sn__law_bent_1 : Scope := { kind := .function, names := [(".0", .local), ("_law_item", .local)], isGenerator := false, isCoroutine := false, more := [] }
def sn__law_bent_1r : Scope := { kind := .function, names := [(".0", .local), ("_law_item", .local)], isGenerator := false, isCoroutine := false, more := [] }
theorem bk__law_bent_1 : BlkOk ["_law_deck_here", "_law_row", "_law_at", "_law_turn", "_law_odd", "_law_some", "_law_item"] (defScope s__law_bent) sn__law_bent_1 [("_law_item", 6)] := ⟨rfl, by decide +kernel, by decide +kernel, by decide +kernel, by decide +kernel⟩



def sn_law_0 : Scope := { kind := .function, names := [(".0", .local), ("_law_item", .local), ("abs", .globalImplicit)], isGenerator := false, isCoroutine := false, more := [] }
def sn_law_0r : Scope := { kind := .function, names := [(".0", .local), ("_law_item", .local), ("abs", .globalImplicit)], isGenerator := false, isCoroutine := false, more := [] }
theorem bk_law_0 : BlkOk ["_law_script", "_law_deck_here", "_law_number", "_law_near", "_law_some", "_law_thing", "_law_due", "_law_turn", "_law_form", "_law_matrix_here", "_law_far", "_law_item"] (defScope s_law) sn_law_0 [("_law_item", 11)] := ⟨rfl, by decide +kernel, by decide +kernel, by decide +kernel, by decide +kernel⟩

theorem ok_is_integer_integers {P : Program} {w : World} {mg : Str → Option Value} {base : Heap} (C : Ct) (A : Fa C.K mg) (a : Addr) (ns : List Int) (D : Dc C n_1 n_2 n_3 a ns A.cl) (j l : Nat) : FnG P w C.K mg base CX0 (l + 0 + 1) A.f_is_integer_integers A.d_is_integer_integers p_is_integer_integers (spS C (FT (T ns) (fun _ => none) (j + 0 + 1) 0) 1) := by
  refine defOk A.F_is_integer_integers sc_is_integer_integers rfl 0 (m_is_integer_integers) (T ns) (fun _ => none) (j + 0) rfl rfl (by decide) (fun cdv A0 outer s H F0 hG hr => ?_)
  have D' : Dc (C.at H F0 (FT (T ns) (fun _ => none) (j + 0))) n_1 n_2 n_3 a ns A.cl := ⟨D.n1, D.n2, D.n3, D.sc, D.cl⟩
  have hu := Pv.Room.u70 hr
  have hu65 := Pv.Room.u65 hr
  have hu1 := Pv.Room.u1 hr
  have hdk := dkn_of D'
  have hn3 := hn3_of D'
  have hn2 := hn2_of D'
  have hok : ClsOk C.K C.sc.2 := by rw [D.cl]; exact A.clsOk
  have hin : ∀ Cn ∈ C.sc.2, InsOk C.K Cn.1 := by rw [D.cl]; exact A.insOk
  have hcl_Curve : C.sc.2[0]? = some (A.C_Curve, at_Curve) := by rw [D.cl]; rfl
  exact ⟨[],
    (Sb.one (Ss.ret (Es.and (Es.b (Es.isi .isInt rfl rfl hin rfl A.z_isinstance rfl rfl A.z_int rfl (by decide) rfl (Eb.var 0 rfl (.inl rfl) rfl rfl) rfl rfl rfl)) (Es.one (Es.not rfl (Es.b (Es.isi .isBool rfl rfl hin rfl A.z_isinstance rfl rfl A.z_bool rfl (by decide) rfl (Eb.var 0 rfl (.inl rfl) rfl rfl) rfl rfl rfl)))))))⟩

theorem ok_common_divisor {P : Program} {w : World} {mg : Str → Option Value} {base : Heap} (C : Ct) (A : Fa C.K mg) (a : Addr) (ns : List Int) (D : Dc C n_1 n_2 n_3 a ns A.cl) (j l : Nat) : FnG P w C.K mg base CX0 (l + 0 + 1) A.f_common_divisor A.d_common_divisor p_common_divisor (spS C (FT (T ns) (fun _ => none) (j + 0 + 1) 2) 2) := by
  refine defOk A.F_common_divisor sc_common_divisor rfl 2 (m_common_divisor) (T ns) (fun _ => none) (j + 0) rfl rfl (by decide) (fun cdv A0 outer s H F0 hG hr => ?_)
  have D' : Dc (C.at H F0 (FT (T ns) (fun _ => none) (j + 0))) n_1 n_2 n_3 a ns A.cl := ⟨D.n1, D.n2, D.n3, D.sc, D.cl⟩
  have hu := Pv.Room.u70 hr
  have hu65 := Pv.Room.u65 hr
  have hu1 := Pv.Room.u1 hr
  have hdk := dkn_of D'
  have hn3 := hn3_of D'
  have hn2 := hn2_of D'
  have hok : ClsOk C.K C.sc.2 := by rw [D.cl]; exact A.clsOk
  have hin : ∀ Cn ∈ C.sc.2, InsOk C.K Cn.1 := by rw [D.cl]; exact A.insOk
  have hcl_Curve : C.sc.2[0]? = some (A.C_Curve, at_Curve) := by rw [D.cl]; rfl
  exact ⟨[],
    (Sb.cons (Ss.set (Es.biB .abs rfl cb_abs rfl A.z_abs rfl (Eas.one (Eb.var 0 rfl (.inl rfl) rfl rfl) rfl) (by decide) rfl rfl rfl) (Eg.name 0 (by decide) sc_common_divisor.nd rfl (.inl rfl) (.inr rfl)) rfl rfl rfl)
    (Sb.cons (Ss.set (Es.biB .abs rfl cb_abs rfl A.z_abs rfl (Eas.one (Eb.var 1 rfl (.inl rfl) rfl rfl) rfl) (by decide) rfl rfl rfl) (Eg.name 1 (by decide) sc_common_divisor.nd rfl (.inl rfl) (.inr rfl)) rfl rfl rfl)
    (Sb.cons (Ss.while_ PassesOwn.never (Et.truth rfl (Eb.var 1 rfl (.inl rfl) rfl rfl) (fun _ => rfl)) (Sb.one (Ss.par 0 1 rfl sc_common_divisor.nd rfl rfl (by decide) (by decide) (by decide) rfl rfl (Ea.cons (Es.var 1 (by decide) rfl (.inl rfl) rfl rfl) (Ea.cons (Es.bin .mod rfl (Eb.var 0 rfl (.inl rfl) rfl rfl) (Eb.var 1 rfl (.inl rfl) rfl rfl)) Ea.nil rfl) rfl) rfl rfl)))
    (Sb.one (Ss.ret (Es.var 0 (by decide) rfl (.inl rfl) rfl rfl))))))⟩

theorem ok_whole_root {P : Program} {w : World} {mg : Str → Option Value} {base : Heap} (C : Ct) (A : Fa C.K mg) (a : Addr) (ns : List Int) (D : Dc C n_1 n_2 n_3 a ns A.cl) (j l : Nat) : FnG P w C.K mg base CX0 (l + 0 + 1) A.f_whole_root A.d_whole_root p_whole_root (spS C (FT (T ns) (fun _ => none) (j + 0 + 1) 3) 1) := by
  refine defOk A.F_whole_root sc_whole_root rfl 3 (m_whole_root) (T ns) (fun _ => none) (j + 0) rfl rfl (by decide) (fun cdv A0 outer s H F0 hG hr => ?_)
  have D' : Dc (C.at H F0 (FT (T ns) (fun _ => none) (j + 0))) n_1 n_2 n_3 a ns A.cl := ⟨D.n1, D.n2, D.n3, D.sc, D.cl⟩
  have hu := Pv.Room.u70 hr
  have hu65 := Pv.Room.u65 hr
  have hu1 := Pv.Room.u1 hr
  have hdk := dkn_of D'
  have hn3 := hn3_of D'
  have hn2 := hn2_of D'
  have hok : ClsOk C.K C.sc.2 := by rw [D.cl]; exact A.clsOk
  have hin : ∀ Cn ∈ C.sc.2, InsOk C.K Cn.1 := by rw [D.cl]; exact A.insOk
  have hcl_Curve : C.sc.2[0]? = some (A.C_Curve, at_Curve) := by rw [D.cl]; rfl
  exact ⟨[],
    (Sb.cons (Ss.set Es.int (Eg.name 1 (by decide) sc_whole_root.nd rfl (.inl rfl) (.inr rfl)) rfl rfl rfl)
    (Sb.cons (Ss.set Es.int (Eg.name 2 (by decide) sc_whole_root.nd rfl (.inl rfl) (.inr rfl)) rfl rfl rfl)
    (Sb.cons (Ss.while_ PassesOwn.never (Et.cmp .le rfl hu65 (Es.b (Es.bin .mul rfl (Eb.var 2 rfl (.inl rfl) rfl rfl) (Eb.var 2 rfl (.inl rfl) rfl rfl))) (Eb.var 0 rfl (.inl rfl) rfl rfl) rfl) (Sb.one (Ss.set (Es.bin .mul rfl (Es.b Es.int) (Eb.var 2 rfl (.inl rfl) rfl rfl)) (Eg.name 2 (by decide) sc_whole_root.nd rfl (.inl rfl) (.inr rfl)) rfl rfl rfl)))
    (Sb.cons (Ss.while_ PassesOwn.never (Et.cmp .gt rfl hu65 (Es.b (Es.bin .sub rfl (Eb.var 2 rfl (.inl rfl) rfl rfl) (Eb.var 1 rfl (.inl rfl) rfl rfl))) (Es.b Es.int) rfl) (Sb.cons (Ss.set (Es.bin .fdiv rfl (Es.b (Es.bin .add rfl (Eb.var 1 rfl (.inl rfl) rfl rfl) (Eb.var 2 rfl (.inl rfl) rfl rfl))) (Es.b Es.int)) (Eg.name 3 (by decide) sc_whole_root.nd rfl (.inl rfl) (.inr rfl)) rfl rfl rfl)
      (Sb.one (Ss.ite (Et.cmp .le rfl hu65 (Es.b (Es.bin .mul rfl (Eb.var 3 rfl (.inl rfl) rfl rfl) (Eb.var 3 rfl (.inl rfl) rfl rfl))) (Eb.var 0 rfl (.inl rfl) rfl rfl) rfl) (Sb.one (Ss.set (Es.var 3 (by decide) rfl (.inl rfl) rfl rfl) (Eg.name 1 (by decide) sc_whole_root.nd rfl (.inl rfl) (.inr rfl)) rfl rfl rfl)) (Sb.one (Ss.set (Es.var 3 (by decide) rfl (.inl rfl) rfl rfl) (Eg.name 2 (by decide) sc_whole_root.nd rfl (.inl rfl) (.inr rfl)) rfl rfl rfl))))))
    (Sb.one (Ss.ret (Es.var 1 (by decide) rfl (.inl rfl) rfl rfl)))))))⟩

theorem ok_discriminant_at {P : Program} {w : World} {mg : Str → Option Value} {base : Heap} (C : Ct) (A : Fa C.K mg) (a : Addr) (ns : List Int) (D : Dc C n_1 n_2 n_3 a ns A.cl) (j l : Nat) : FnG P w C.K mg base CX0 (l + 0 + 1) A.f_discriminant_at A.d_discriminant_at p_discriminant_at (spS C (FT (T ns) (fun _ => none) (j + 0 + 1) 5) 1) := by
  refine defOk A.F_discriminant_at sc_discriminant_at rfl 5 (m_discriminant_at) (T ns) (fun _ => none) (j + 0) rfl rfl (by decide) (fun cdv A0 outer s H F0 hG hr => ?_)
  have D' : Dc (C.at H F0 (FT (T ns) (fun _ => none) (j + 0))) n_1 n_2 n_3 a ns A.cl := ⟨D.n1, D.n2, D.n3, D.sc, D.cl⟩
  have hu := Pv.Room.u70 hr
  have hu65 := Pv.Room.u65 hr
  have hu1 := Pv.Room.u1 hr
  have hdk := dkn_of D'
  have hn3 := hn3_of D'
  have hn2 := hn2_of D'
  have hok : ClsOk C.K C.sc.2 := by rw [D.cl]; exact A.clsOk
  have hin : ∀ Cn ∈ C.sc.2, InsOk C.K Cn.1 := by rw [D.cl]; exact A.insOk
  have hcl_Curve : C.sc.2[0]? = some (A.C_Curve, at_Curve) := by rw [D.cl]; rfl
  exact ⟨[],
    (Sb.cons (Ss.set (Es.var 0 (by decide) rfl (.inl rfl) rfl rfl) (Eg.tup rfl rfl (Egs.cons (Eg.name 1 (by decide) sc_discriminant_at.nd rfl (.inl rfl) (.inr rfl)) (Egs.cons (Eg.name 2 (by decide) sc_discriminant_at.nd rfl (.inl rfl) (.inr rfl)) (Egs.cons (Eg.name 3 (by decide) sc_discriminant_at.nd rfl (.inl rfl) (.inr rfl)) Egs.nil rfl) rfl) rfl) (by decide) rfl rfl) rfl rfl rfl)
    (Sb.one (Ss.ret (Es.bin .sub rfl (Es.b (Es.bin .mul rfl (Eb.var 2 rfl (.inl rfl) rfl rfl) (Eb.var 2 rfl (.inl rfl) rfl rfl))) (Es.b (Es.bin .mul rfl (Es.b (Es.bin .mul rfl (Es.b Es.int) (Eb.var 1 rfl (.inl rfl) rfl rfl))) (Eb.var 3 rfl (.inl rfl) rfl rfl)))))))⟩

theorem ok_is_integer_primefield {P : Program} {w : World} {mg : Str → Option Value} {base : Heap} (C : Ct) (A : Fa C.K mg) (a : Addr) (ns : List Int) (D : Dc C n_1 n_2 n_3 a ns A.cl) (j l : Nat) : FnG P w C.K mg base CX0 (l + 0 + 1) A.f_is_integer_primefield A.d_is_integer_primefield p_is_integer_primefield (spS C (FT (T ns) (fun _ => none) (j + 0 + 1) 11) 1) := by
  refine defOk A.F_is_integer_primefield sc_is_integer_primefield rfl 11 (m_is_integer_primefield) (T ns) (fun _ => none) (j + 0) rfl rfl (by decide) (fun cdv A0 outer s H F0 hG hr => ?_)
  have D' : Dc (C.at H F0 (FT (T ns) (fun _ => none) (j + 0))) n_1 n_2 n_3 a ns A.cl := ⟨D.n1, D.n2, D.n3, D.sc, D.cl⟩
  have hu := Pv.Room.u70 hr
  have hu65 := Pv.Room.u65 hr
  have hu1 := Pv.Room.u1 hr
  have hdk := dkn_of D'
  have hn3 := hn3_of D'
  have hn2 := hn2_of D'
  have hok : ClsOk C.K C.sc.2 := by rw [D.cl]; exact A.clsOk
  have hin : ∀ Cn ∈ C.sc.2, InsOk C.K Cn.1 := by rw [D.cl]; exact A.insOk
  have hcl_Curve : C.sc.2[0]? = some (A.C_Curve, at_Curve) := by rw [D.cl]; rfl
  exact ⟨[],
    (Sb.one (Ss.ret (Es.and (Es.b (Es.isi .isInt rfl rfl hin rfl A.z_isinstance rfl rfl A.z_int rfl (by decide) rfl (Eb.var 0 rfl (.inl rfl) rfl rfl) rfl rfl rfl)) (Es.one (Es.not rfl (Es.b (Es.isi .isBool rfl rfl hin rfl A.z_isinstance rfl rfl A.z_bool rfl (by decide) rfl (Eb.var 0 rfl (.inl rfl) rfl rfl) rfl rfl rfl)))))))⟩

theorem ok__law_deck {P : Program} {w : World} {mg : Str → Option Value} {base : Heap} (C : Ct) (A : Fa C.K mg) (a : Addr) (ns : List Int) (D : Dc C n_1 n_2 n_3 a ns A.cl) (j l : Nat) : FnG P w C.K mg base CX0 (l + 0 + 1) A.f__law_deck A.d__law_deck p__law_deck (spS C (FT (T ns) (fun _ => none) (j + 0 + 1) 15) 1) := by
  refine defOk A.F__law_deck sc__law_deck rfl 15 (m__law_deck ns) (T ns) (fun _ => none) (j + 0) rfl rfl (by decide) (fun cdv A0 outer s H F0 hG hr => ?_)
  have D' : Dc (C.at H F0 (FT (T ns) (fun _ => none) (j + 0))) n_1 n_2 n_3 a ns A.cl := ⟨D.n1, D.n2, D.n3, D.sc, D.cl⟩
  have hu := Pv.Room.u70 hr
  have hu65 := Pv.Room.u65 hr
  have hu1 := Pv.Room.u1 hr
  have hdk := dkn_of D'
  have hn3 := hn3_of D'
  have hn2 := hn2_of D'
  have hok : ClsOk C.K C.sc.2 := by rw [D.cl]; exact A.clsOk
  have hin : ∀ Cn ∈ C.sc.2, InsOk C.K Cn.1 := by rw [D.cl]; exact A.insOk
  have hcl_Curve : C.sc.2[0]? = some (A.C_Curve, at_Curve) := by rw [D.cl]; rfl
  exact ⟨[],
    (Sb.cons (Ss.par 2 3 rfl sc__law_deck.nd rfl rfl (by decide) (by decide) (by decide) rfl rfl (Ea.cons (Ef.s (Ef.comp rfl sc__law_deck.nd (Ei.seq rfl (Es.scr 63 rfl D'.sc (Es.var 0 (by decide) rfl (.inl rfl) rfl rfl))) bk__law_deck_0 rfl (fun _ _ _ _ _ => (Eg.name 1 (by decide) sc__law_deck.nd rfl (.inl rfl) (.inr rfl))) (fun _ _ _ _ _ => Ec.none) (fun _ _ _ _ _ => (Es.bin .mod rfl (Es.b (Es.biT .toInt rfl cb_toInt rfl A.z_int rfl (Eas.one (Eb.var 1 rfl (.inl rfl) rfl rfl) rfl) (by decide) rfl rfl rfl)) (Es.b (Es.bin .add rfl (Es.b (Es.bin .pow rfl (Es.b Es.int) (Es.b Es.int))) (Es.b Es.int))))) (fun _ => rfl) (by decide))) (Ea.cons Es.int Ea.nil rfl) rfl) rfl rfl)
    (Sb.cons (Ss.for_ PassesOwn.never rfl (Ei.seq rfl (Es.var 2 (by decide) rfl (.inl rfl) rfl rfl)) (Eg.name 1 (by decide) sc__law_deck.nd rfl (.inl rfl) (.inr rfl)) (Sb.one (Ss.set (Es.bin .mod rfl (Es.b (Es.biT .toInt rfl cb_toInt rfl A.z_int rfl (Eas.one (Es.b (Es.bin .add rfl (Es.b (Es.bin .add rfl (Es.b (Es.bin .mul rfl (Eb.var 3 rfl (.inl rfl) rfl rfl) (Es.b Es.int))) (Es.b (Es.bin .mod rfl (Es.b (Es.biT .toInt rfl cb_toInt rfl A.z_int rfl (Eas.one (Eb.var 1 rfl (.inl rfl) rfl rfl) rfl) (by decide) rfl rfl rfl)) (Es.b Es.int))))) (Es.b Es.int))) rfl) (by decide) rfl rfl rfl)) (Es.b Es.int)) (Eg.name 3 (by decide) sc__law_deck.nd rfl (.inl rfl) (.inr rfl)) rfl rfl rfl)) (fun _ => rfl))
    (Sb.one (Ss.ret (Es.dkNew hdk D'.n1 D'.n2 D'.n3 (Ef.lrev rfl (Eb.var 2 rfl (.inl rfl) rfl rfl)) (Es.var 3 (by decide) rfl (.inl rfl) rfl rfl) Es.int)))))⟩

theorem ok__law_draw {P : Program} {w : World} {mg : Str → Option Value} {base : Heap} (C : Ct) (A : Fa C.K mg) (a : Addr) (ns : List Int) (D : Dc C n_1 n_2 n_3 a ns A.cl) (j l : Nat) : FnG P w C.K mg base CX0 (l + 0 + 1) A.f__law_draw A.d__law_draw p__law_draw (spS C (FT (T ns) (fun _ => none) (j + 0 + 1) 16) 2) := by
  refine defOk A.F__law_draw sc__law_draw rfl 16 (m__law_draw) (T ns) (fun _ => none) (j + 0) rfl rfl (by decide) (fun cdv A0 outer s H F0 hG hr => ?_)
  have D' : Dc (C.at H F0 (FT (T ns) (fun _ => none) (j + 0))) n_1 n_2 n_3 a ns A.cl := ⟨D.n1, D.n2, D.n3, D.sc, D.cl⟩
  have hu := Pv.Room.u70 hr
  have hu65 := Pv.Room.u65 hr
  have hu1 := Pv.Room.u1 hr
  have hdk := dkn_of D'
  have hn3 := hn3_of D'
  have hn2 := hn2_of D'
  have hok : ClsOk C.K C.sc.2 := by rw [D.cl]; exact A.clsOk
  have hin : ∀ Cn ∈ C.sc.2, InsOk C.K Cn.1 := by rw [D.cl]; exact A.insOk
  have hcl_Curve : C.sc.2[0]? = some (A.C_Curve, at_Curve) := by rw [D.cl]; rfl
  exact ⟨[],
    (Sb.cons (Ss.dkSet true hu1 hdk hn3 (Eb.var 0 rfl (.inl rfl) rfl rfl) (Es.bin .add rfl (Es.b (Es.dkGet true hu1 hdk hn3 (Eb.var 0 rfl (.inl rfl) rfl rfl) (by intro _ _; rfl))) (Es.b Es.int)) rfl)
    (Sb.cons (Ss.ite (Et.dkHas hu65 D'.n1 (Eb.var 0 rfl (.inl rfl) rfl rfl) (by intro _ _; rfl)) (Sb.cons (Ss.set (Es.dkPop hu1 hdk D'.n1 (Eb.var 0 rfl (.inl rfl) rfl rfl) (by intro _ _; rfl) rfl rfl) (Eg.name 2 (by decide) sc__law_draw.nd rfl (.inl rfl) (.inr rfl)) rfl rfl rfl)
      (Sb.cons (Ss.ite (Et.cmp .ge rfl hu65 (Eb.var 2 rfl (.inl rfl) rfl rfl) (Es.b (Es.bin .pow rfl (Es.b Es.int) (Es.b Es.int))) rfl) (Sb.one (Ss.ex (Es.b (Es.dkPush hu1 hdk D'.n1 (Eb.var 0 rfl (.inl rfl) rfl rfl) (Es.bin .fdiv rfl (Eb.var 2 rfl (.inl rfl) rfl rfl) (Es.b (Es.biB .max2 rfl (cb_max2 rfl) rfl A.z_max rfl (Eas.two (Es.b Es.int) (Eb.var 1 rfl (.inl rfl) rfl rfl) rfl rfl) (by decide) rfl rfl rfl))) (by intro _ _; rfl) rfl rfl rfl rfl rfl rfl)) rfl)) Sb.nil)
      (Sb.one (Ss.ret (Es.bin .mod rfl (Es.b (Es.biT .toInt rfl cb_toInt rfl A.z_int rfl (Eas.one (Eb.var 2 rfl (.inl rfl) rfl rfl) rfl) (by decide) rfl rfl rfl)) (Eb.var 1 rfl (.inl rfl) rfl rfl)))))) Sb.nil)
    (Sb.cons (Ss.set (Es.bin .mod rfl (Es.b (Es.biT .toInt rfl cb_toInt rfl A.z_int rfl (Eas.one (Es.b (Es.bin .add rfl (Es.b (Es.dkGet false hu1 hdk hn2 (Eb.var 0 rfl (.inl rfl) rfl rfl) (by intro _ _; rfl))) (Es.b (Es.bin .mul rfl (Es.b (Es.bin .mul rfl (Es.b Es.int) (Es.b (Es.dkGet true hu1 hdk hn3 (Eb.var 0 rfl (.inl rfl) rfl rfl) (by intro _ _; rfl))))) (Es.b (Es.dkGet true hu1 hdk hn3 (Eb.var 0 rfl (.inl rfl) rfl rfl) (by intro _ _; rfl))))))) rfl) (by decide) rfl rfl rfl)) (Es.b Es.int)) (Eg.name 3 (by decide) sc__law_draw.nd rfl (.inl rfl) (.inr rfl)) rfl rfl rfl)
    (Sb.cons (Ss.set (Es.bin .mod rfl (Es.b (Es.biT .toInt rfl cb_toInt rfl A.z_int rfl (Eas.one (Es.b (Es.bin .mul rfl (Eb.var 3 rfl (.inl rfl) rfl rfl) (Eb.var 3 rfl (.inl rfl) rfl rfl))) rfl) (by decide) rfl rfl rfl)) (Es.b Es.int)) (Eg.name 3 (by decide) sc__law_draw.nd rfl (.inl rfl) (.inr rfl)) rfl rfl rfl)
    (Sb.one (Ss.ret (Es.bin .mod rfl (Es.b (Es.bin .fdiv rfl (Es.b (Es.bin .mod rfl (Es.b (Es.biT .toInt rfl cb_toInt rfl A.z_int rfl (Eas.one (Es.b (Es.bin .add rfl (Es.b (Es.bin .mul rfl (Eb.var 3 rfl (.inl rfl) rfl rfl) (Es.b Es.int))) (Es.b (Es.bin .mul rfl (Es.b (Es.dkGet true hu1 hdk hn3 (Eb.var 0 rfl (.inl rfl) rfl rfl) (by intro _ _; rfl))) (Es.b Es.int))))) rfl) (by decide) rfl rfl rfl)) (Es.b Es.int))) (Es.b Es.int))) (Eb.var 1 rfl (.inl rfl) rfl rfl))))))))⟩

theorem ok__law_gcd {P : Program} {w : World} {mg : Str → Option Value} {base : Heap} (C : Ct) (A : Fa C.K mg) (a : Addr) (ns : List Int) (D : Dc C n_1 n_2 n_3 a ns A.cl) (j l : Nat) : FnG P w C.K mg base CX0 (l + 0 + 1) A.f__law_gcd A.d__law_gcd p__law_gcd (spS C (FT (T ns) (fun _ => none) (j + 0 + 1) 18) 2) := by
  refine defOk A.F__law_gcd sc__law_gcd rfl 18 (m__law_gcd) (T ns) (fun _ => none) (j + 0) rfl rfl (by decide) (fun cdv A0 outer s H F0 hG hr => ?_)
  have D' : Dc (C.at H F0 (FT (T ns) (fun _ => none) (j + 0))) n_1 n_2 n_3 a ns A.cl := ⟨D.n1, D.n2, D.n3, D.sc, D.cl⟩
  have hu := Pv.Room.u70 hr
  have hu65 := Pv.Room.u65 hr
  have hu1 := Pv.Room.u1 hr
  have hdk := dkn_of D'
  have hn3 := hn3_of D'
  have hn2 := hn2_of D'
  have hok : ClsOk C.K C.sc.2 := by rw [D.cl]; exact A.clsOk
  have hin : ∀ Cn ∈ C.sc.2, InsOk C.K Cn.1 := by rw [D.cl]; exact A.insOk
  have hcl_Curve : C.sc.2[0]? = some (A.C_Curve, at_Curve) := by rw [D.cl]; rfl
  exact ⟨[],
    (Sb.cons (Ss.par 0 1 rfl sc__law_gcd.nd rfl rfl (by decide) (by decide) (by decide) rfl rfl (Ea.cons (Es.biB .abs rfl cb_abs rfl A.z_abs rfl (Eas.one (Eb.var 0 rfl (.inl rfl) rfl rfl) rfl) (by decide) rfl rfl rfl) (Ea.cons (Es.biB .abs rfl cb_abs rfl A.z_abs rfl (Eas.one (Eb.var 1 rfl (.inl rfl) rfl rfl) rfl) (by decide) rfl rfl rfl) Ea.nil rfl) rfl) rfl rfl)
    (Sb.cons (Ss.while_ PassesOwn.never (Et.cmp .gt rfl hu65 (Eb.var 1 rfl (.inl rfl) rfl rfl) (Es.b Es.int) rfl) (Sb.one (Ss.par 0 1 rfl sc__law_gcd.nd rfl rfl (by decide) (by decide) (by decide) rfl rfl (Ea.cons (Es.var 1 (by decide) rfl (.inl rfl) rfl rfl) (Ea.cons (Es.bin .mod rfl (Es.b (Es.biT .toInt rfl cb_toInt rfl A.z_int rfl (Eas.one (Eb.var 0 rfl (.inl rfl) rfl rfl) rfl) (by decide) rfl rfl rfl)) (Eb.var 1 rfl (.inl rfl) rfl rfl)) Ea.nil rfl) rfl) rfl rfl)))
    (Sb.one (Ss.ret (Es.var 0 (by decide) rfl (.inl rfl) rfl rfl)))))⟩

theorem ok__law_led {P : Program} {w : World} {mg : Str → Option Value} {base : Heap} (C : Ct) (A : Fa C.K mg) (a : Addr) (ns : List Int) (D : Dc C n_1 n_2 n_3 a ns A.cl) (j l : Nat) : FnG P w C.K mg base CX0 (l + 0 + 1) A.f__law_led A.d__law_led p__law_led (spS C (FT (T ns) (fun _ => none) (j + 0 + 1) 21) 2) := by
  refine defOk A.F__law_led sc__law_led rfl 21 (m__law_led) (T ns) (fun _ => none) (j + 0) rfl rfl (by decide) (fun cdv A0 outer s H F0 hG hr => ?_)
  have D' : Dc (C.at H F0 (FT (T ns) (fun _ => none) (j + 0))) n_1 n_2 n_3 a ns A.cl := ⟨D.n1, D.n2, D.n3, D.sc, D.cl⟩
  have hu := Pv.Room.u70 hr
  have hu65 := Pv.Room.u65 hr
  have hu1 := Pv.Room.u1 hr
  have hdk := dkn_of D'
  have hn3 := hn3_of D'
  have hn2 := hn2_of D'
  have hok : ClsOk C.K C.sc.2 := by rw [D.cl]; exact A.clsOk
  have hin : ∀ Cn ∈ C.sc.2, InsOk C.K Cn.1 := by rw [D.cl]; exact A.insOk
  have hcl_Curve : C.sc.2[0]? = some (A.C_Curve, at_Curve) := by rw [D.cl]; rfl
  exact ⟨[],
    (Sb.cons (Ss.setG (Es.tup (Ea.cons (Es.var 0 (by decide) rfl (.inl rfl) rfl rfl) (Ea.cons (Es.var 1 (by decide) rfl (.inl rfl) rfl rfl) Ea.nil rfl) rfl) (Nat.le_of_ble_eq_true rfl)) (EgG.tup rfl rfl (Egg.cons (Eg.tup rfl rfl (Egs.cons (Eg.name 2 (by decide) sc__law_led.nd rfl (.inl rfl) (.inr rfl)) (Egs.cons (Eg.name 3 (by decide) sc__law_led.nd rfl (.inl rfl) (.inr rfl)) (Egs.cons (Eg.name 4 (by decide) sc__law_led.nd rfl (.inl rfl) (.inr rfl)) Egs.nil rfl) rfl) rfl) (by decide) rfl rfl) (Egg.cons (Eg.tup rfl rfl (Egs.cons (Eg.name 5 (by decide) sc__law_led.nd rfl (.inl rfl) (.inr rfl)) (Egs.cons (Eg.name 6 (by decide) sc__law_led.nd rfl (.inl rfl) (.inr rfl)) (Egs.cons (Eg.name 7 (by decide) sc__law_led.nd rfl (.inl rfl) (.inr rfl)) (Egs.cons (Eg.name 8 (by decide) sc__law_led.nd rfl (.inl rfl) (.inr rfl)) Egs.nil rfl) rfl) rfl) rfl) (by decide) rfl rfl) Egg.nil rfl) rfl) rfl rfl) rfl rfl rfl)
    (Sb.cons (Ss.par 9 10 rfl sc__law_led.nd rfl rfl (by decide) (by decide) (by decide) rfl rfl (Ea.cons (Es.bin .add rfl (Es.b (Es.bin .add rfl (Es.b (Es.bin .mul rfl (Es.b (Es.bin .mul rfl (Eb.var 2 rfl (.inl rfl) rfl rfl) (Eb.var 5 rfl (.inl rfl) rfl rfl))) (Eb.var 5 rfl (.inl rfl) rfl rfl))) (Es.b (Es.bin .mul rfl (Es.b (Es.bin .mul rfl (Eb.var 3 rfl (.inl rfl) rfl rfl) (Eb.var 5 rfl (.inl rfl) rfl rfl))) (Eb.var 7 rfl (.inl rfl) rfl rfl))))) (Es.b (Es.bin .mul rfl (Es.b (Es.bin .mul rfl (Eb.var 4 rfl (.inl rfl) rfl rfl) (Eb.var 7 rfl (.inl rfl) rfl rfl))) (Eb.var 7 rfl (.inl rfl) rfl rfl)))) (Ea.cons (Es.bin .add rfl (Es.b (Es.bin .add rfl (Es.b (Es.bin .mul rfl (Es.b (Es.bin .mul rfl (Eb.var 2 rfl (.inl rfl) rfl rfl) (Eb.var 6 rfl (.inl rfl) rfl rfl))) (Eb.var 6 rfl (.inl rfl) rfl rfl))) (Es.b (Es.bin .mul rfl (Es.b (Es.bin .mul rfl (Eb.var 3 rfl (.inl rfl) rfl rfl) (Eb.var 6 rfl (.inl rfl) rfl rfl))) (Eb.var 8 rfl (.inl rfl) rfl rfl))))) (Es.b (Es.bin .mul rfl (Es.b (Es.bin .mul rfl (Eb.var 4 rfl (.inl rfl) rfl rfl) (Eb.var 8 rfl (.inl rfl) rfl rfl))) (Eb.var 8 rfl (.inl rfl) rfl rfl)))) Ea.nil rfl) rfl) rfl rfl)
    (Sb.one (Ss.ret (Es.tup (Ea.cons (Es.var 9 (by decide) rfl (.inl rfl) rfl rfl) (Ea.cons (Es.bin .add rfl (Es.b (Es.bin .add rfl (Es.b (Es.bin .mul rfl (Es.b (Es.bin .mul rfl (Es.b (Es.bin .mul rfl (Es.b Es.int) (Eb.var 2 rfl (.inl rfl) rfl rfl))) (Eb.var 5 rfl (.inl rfl) rfl rfl))) (Eb.var 6 rfl (.inl rfl) rfl rfl))) (Es.b (Es.bin .mul rfl (Eb.var 3 rfl (.inl rfl) rfl rfl) (Es.b (Es.bin .add rfl (Es.b (Es.bin .mul rfl (Eb.var 5 rfl (.inl rfl) rfl rfl) (Eb.var 8 rfl (.inl rfl) rfl rfl))) (Es.b (Es.bin .mul rfl (Eb.var 6 rfl (.inl rfl) rfl rfl) (Eb.var 7 rfl (.inl rfl) rfl rfl))))))))) (Es.b (Es.bin .mul rfl (Es.b (Es.bin .mul rfl (Es.b (Es.bin .mul rfl (Es.b Es.int) (Eb.var 4 rfl (.inl rfl) rfl rfl))) (Eb.var 7 rfl (.inl rfl) rfl rfl))) (Eb.var 8 rfl (.inl rfl) rfl rfl)))) (Ea.cons (Es.var 10 (by decide) rfl (.inl rfl) rfl rfl) Ea.nil rfl) rfl) rfl) (Nat.le_of_ble_eq_true rfl))))))⟩

theorem ok__law_times {P : Program} {w : World} {mg : Str → Option Value} {base : Heap} (C : Ct) (A : Fa C.K mg) (a : Addr) (ns : List Int) (D : Dc C n_1 n_2 n_3 a ns A.cl) (j l : Nat) : FnG P w C.K mg base CX0 (l + 0 + 1) A.f__law_times A.d__law_times p__law_times (spS C (FT (T ns) (fun _ => none) (j + 0 + 1) 22) 2) := by
  refine defOk A.F__law_times sc__law_times rfl 22 (m__law_times) (T ns) (fun _ => none) (j + 0) rfl rfl (by decide) (fun cdv A0 outer s H F0 hG hr => ?_)
  have D' : Dc (C.at H F0 (FT (T ns) (fun _ => none) (j + 0))) n_1 n_2 n_3 a ns A.cl := ⟨D.n1, D.n2, D.n3, D.sc, D.cl⟩
  have hu := Pv.Room.u70 hr
  have hu65 := Pv.Room.u65 hr
  have hu1 := Pv.Room.u1 hr
  have hdk := dkn_of D'
  have hn3 := hn3_of D'
  have hn2 := hn2_of D'
  have hok : ClsOk C.K C.sc.2 := by rw [D.cl]; exact A.clsOk
  have hin : ∀ Cn ∈ C.sc.2, InsOk C.K Cn.1 := by rw [D.cl]; exact A.insOk
  have hcl_Curve : C.sc.2[0]? = some (A.C_Curve, at_Curve) := by rw [D.cl]; rfl
  exact ⟨[],
    (Sb.cons (Ss.setG (Es.tup (Ea.cons (Es.var 0 (by decide) rfl (.inl rfl) rfl rfl) (Ea.cons (Es.var 1 (by decide) rfl (.inl rfl) rfl rfl) Ea.nil rfl) rfl) (Nat.le_of_ble_eq_true rfl)) (EgG.tup rfl rfl (Egg.cons (Eg.tup rfl rfl (Egs.cons (Eg.name 2 (by decide) sc__law_times.nd rfl (.inl rfl) (.inr rfl)) (Egs.cons (Eg.name 3 (by decide) sc__law_times.nd rfl (.inl rfl) (.inr rfl)) (Egs.cons (Eg.name 4 (by decide) sc__law_times.nd rfl (.inl rfl) (.inr rfl)) (Egs.cons (Eg.name 5 (by decide) sc__law_times.nd rfl (.inl rfl) (.inr rfl)) Egs.nil rfl) rfl) rfl) rfl) (by decide) rfl rfl) (Egg.cons (Eg.tup rfl rfl (Egs.cons (Eg.name 6 (by decide) sc__law_times.nd rfl (.inl rfl) (.inr rfl)) (Egs.cons (Eg.name 7 (by decide) sc__law_times.nd rfl (.inl rfl) (.inr rfl)) (Egs.cons (Eg.name 8 (by decide) sc__law_times.nd rfl (.inl rfl) (.inr rfl)) (Egs.cons (Eg.name 9 (by decide) sc__law_times.nd rfl (.inl rfl) (.inr rfl)) Egs.nil rfl) rfl) rfl) rfl) (by decide) rfl rfl) Egg.nil rfl) rfl) rfl rfl) rfl rfl rfl)
    (Sb.one (Ss.ret (Es.tup (Ea.cons (Es.bin .add rfl (Es.b (Es.bin .mul rfl (Eb.var 2 rfl (.inl rfl) rfl rfl) (Eb.var 6 rfl (.inl rfl) rfl rfl))) (Es.b (Es.bin .mul rfl (Eb.var 3 rfl (.inl rfl) rfl rfl) (Eb.var 8 rfl (.inl rfl) rfl rfl)))) (Ea.cons (Es.bin .add rfl (Es.b (Es.bin .mul rfl (Eb.var 2 rfl (.inl rfl) rfl rfl) (Eb.var 7 rfl (.inl rfl) rfl rfl))) (Es.b (Es.bin .mul rfl (Eb.var 3 rfl (.inl rfl) rfl rfl) (Eb.var 9 rfl (.inl rfl) rfl rfl)))) (Ea.cons (Es.bin .add rfl (Es.b (Es.bin .mul rfl (Eb.var 4 rfl (.inl rfl) rfl rfl) (Eb.var 6 rfl (.inl rfl) rfl rfl))) (Es.b (Es.bin .mul rfl (Eb.var 5 rfl (.inl rfl) rfl rfl) (Eb.var 8 rfl (.inl rfl) rfl rfl)))) (Ea.cons (Es.bin .add rfl (Es.b (Es.bin .mul rfl (Eb.var 4 rfl (.inl rfl) rfl rfl) (Eb.var 7 rfl (.inl rfl) rfl rfl))) (Es.b (Es.bin .mul rfl (Eb.var 5 rfl (.inl rfl) rfl rfl) (Eb.var 9 rfl (.inl rfl) rfl rfl)))) Ea.nil rfl) rfl) rfl) rfl) (Nat.le_of_ble_eq_true rfl)))))⟩

theorem ok__law_is_integer {P : Program} {w : World} {mg : Str → Option Value} {base : Heap} (C : Ct) (A : Fa C.K mg) (a : Addr) (ns : List Int) (D : Dc C n_1 n_2 n_3 a ns A.cl) (j l : Nat) : FnG P w C.K mg base CX0 (l + 0 + 1) A.f__law_is_integer A.d__law_is_integer p__law_is_integer (spS C (FT (T ns) (fun _ => none) (j + 0 + 1) 24) 1) := by
  refine defOk A.F__law_is_integer sc__law_is_integer rfl 24 (m__law_is_integer) (T ns) (fun _ => none) (j + 0) rfl rfl (by decide) (fun cdv A0 outer s H F0 hG hr => ?_)
  have D' : Dc (C.at H F0 (FT (T ns) (fun _ => none) (j + 0))) n_1 n_2 n_3 a ns A.cl := ⟨D.n1, D.n2, D.n3, D.sc, D.cl⟩
  have hu := Pv.Room.u70 hr
  have hu65 := Pv.Room.u65 hr
  have hu1 := Pv.Room.u1 hr
  have hdk := dkn_of D'
  have hn3 := hn3_of D'
  have hn2 := hn2_of D'
  have hok : ClsOk C.K C.sc.2 := by rw [D.cl]; exact A.clsOk
  have hin : ∀ Cn ∈ C.sc.2, InsOk C.K Cn.1 := by rw [D.cl]; exact A.insOk
  have hcl_Curve : C.sc.2[0]? = some (A.C_Curve, at_Curve) := by rw [D.cl]; rfl
  exact ⟨[],
    (Sb.one (Ss.ret (Es.and (Es.b (Es.isi .isInt rfl rfl hin rfl A.z_isinstance rfl rfl A.z_int rfl (by decide) rfl (Eb.var 0 rfl (.inl rfl) rfl rfl) rfl rfl rfl)) (Es.one (Es.not rfl (Es.b (Es.isi .isBool rfl rfl hin rfl A.z_isinstance rfl rfl A.z_bool rfl (by decide) rfl (Eb.var 0 rfl (.inl rfl) rfl rfl) rfl rfl rfl)))))))⟩

theorem ok_are_integers {P : Program} {w : World} {mg : Str → Option Value} {base : Heap} (C : Ct) (A : Fa C.K mg) (a : Addr) (ns : List Int) (D : Dc C n_1 n_2 n_3 a ns A.cl) (j l : Nat) : FnG P w C.K mg base CX0 (l + 1 + 1) A.f_are_integers A.d_are_integers p_are_integers (spS C (FT (T ns) (fun _ => none) (j + 1 + 1) 1) 2) := by
  refine defOk A.F_are_integers sc_are_integers rfl 1 (m_are_integers 0) (T ns) (fun _ => none) (j + 1) rfl rfl (by decide) (fun cdv A0 outer s H F0 hG hr => ?_)
  have D' : Dc (C.at H F0 (FT (T ns) (fun _ => none) (j + 1))) n_1 n_2 n_3 a ns A.cl := ⟨D.n1, D.n2, D.n3, D.sc, D.cl⟩
  have hu := Pv.Room.u70 hr
  have hu65 := Pv.Room.u65 hr
  have hu1 := Pv.Room.u1 hr
  have hdk := dkn_of D'
  have hn3 := hn3_of D'
  have hn2 := hn2_of D'
  have hok : ClsOk C.K C.sc.2 := by rw [D.cl]; exact A.clsOk
  have hin : ∀ Cn ∈ C.sc.2, InsOk C.K Cn.1 := by rw [D.cl]; exact A.insOk
  have hcl_Curve : C.sc.2[0]? = some (A.C_Curve, at_Curve) := by rw [D.cl]; rfl
  have c_is_integer_integers := @ok_is_integer_integers P w mg base (C.at H F0 (FT (T ns) (fun _ => none) (j + 1))) A a ns D' (j + 0) (l + 0)
  exact ⟨[],
    (Sb.cons (Ss.ite (Ew.t (Ew.or (Et.not (Et.truth rfl (Es.b (Es.isi .isTuple rfl rfl hin rfl A.z_isinstance rfl rfl A.z_tuple rfl (by decide) rfl (Eb.var 0 rfl (.inl rfl) rfl rfl) rfl rfl rfl)) (fun _ => rfl))) (Ew.one (Et.cmp .ne rfl hu65 (Es.b (Es.biB .len rfl cb_len rfl A.z_len rfl (Eas.one (Eb.var 0 rfl (.inl rfl) rfl rfl) rfl) (by decide) rfl rfl rfl)) (Eb.var 1 rfl (.inl rfl) rfl rfl) rfl)))) (Sb.one (Ss.ret Es.bl)) Sb.nil)
    (Sb.one (Ss.ret (Es.biB .all rfl (cb_all rfl) rfl A.z_all rfl (Eas.one (Ef.b (Ef.comp rfl sc_are_integers.nd (Ei.seq rfl (Es.var 0 (by decide) rfl (.inl rfl) rfl rfl)) bk_are_integers_0 rfl (fun _ _ _ _ _ => (Eg.name 2 (by decide) sc_are_integers.nd rfl (.inl rfl) (.inr rfl))) (fun _ _ _ _ _ => Ec.none) (fun _ _ _ _ _ => (Es.call 0 (c_is_integer_integers) hG hr rfl A.g_is_integer_integers A.F_is_integer_integers.kp A.b_is_integer_integers pass0 (Ea.cons (Es.var 2 (by decide) rfl (.inl rfl) rfl rfl) Ea.nil rfl) rfl rfl rfl rfl)) (fun _ => rfl) (by decide))) rfl) (by decide) rfl rfl rfl))))⟩

theorem ok_is_discriminant {P : Program} {w : World} {mg : Str → Option Value} {base : Heap} (C : Ct) (A : Fa C.K mg) (a : Addr) (ns : List Int) (D : Dc C n_1 n_2 n_3 a ns A.cl) (j l : Nat) : FnG P w C.K mg base CX0 (l + 1 + 1) A.f_is_discriminant A.d_is_discriminant p_is_discriminant (spS C (FT (T ns) (fun _ => none) (j + 1 + 1) 4) 1) := by
  refine defOk A.F_is_discriminant sc_is_discriminant rfl 4 (m_is_discriminant 0) (T ns) (fun _ => none) (j + 1) rfl rfl (by decide) (fun cdv A0 outer s H F0 hG hr => ?_)
  have D' : Dc (C.at H F0 (FT (T ns) (fun _ => none) (j + 1))) n_1 n_2 n_3 a ns A.cl := ⟨D.n1, D.n2, D.n3, D.sc, D.cl⟩
  have hu := Pv.Room.u70 hr
  have hu65 := Pv.Room.u65 hr
  have hu1 := Pv.Room.u1 hr
  have hdk := dkn_of D'
  have hn3 := hn3_of D'
  have hn2 := hn2_of D'
  have hok : ClsOk C.K C.sc.2 := by rw [D.cl]; exact A.clsOk
  have hin : ∀ Cn ∈ C.sc.2, InsOk C.K Cn.1 := by rw [D.cl]; exact A.insOk
  have hcl_Curve : C.sc.2[0]? = some (A.C_Curve, at_Curve) := by rw [D.cl]; rfl
  have c_is_integer_integers := @ok_is_integer_integers P w mg base (C.at H F0 (FT (T ns) (fun _ => none) (j + 1))) A a ns D' (j + 0) (l + 0)
  exact ⟨[],
    (Sb.one (Ss.ret (Es.and (Es.b (Es.call 0 (c_is_integer_integers) hG hr rfl A.g_is_integer_integers A.F_is_integer_integers.kp A.b_is_integer_integers pass0 (Ea.cons (Es.var 0 (by decide) rfl (.inl rfl) rfl rfl) Ea.nil rfl) rfl rfl rfl rfl)) (Es.and (Es.b (Es.chain .le .le rfl hu65 (Es.b (Es.glob (v := .int (-20000)) rfl A.g_LEAST ⟨_, rfl⟩ (fun _ => rel_int) rfl)) (Eb.var 0 rfl (.inl rfl) rfl rfl) (Es.b (Es.neg rfl (Es.b Es.int))) rfl)) (Es.one (Es.cmp .isin rfl hu65 (Es.b (Es.bin .mod rfl (Eb.var 0 rfl (.inl rfl) rfl rfl) (Es.b Es.int))) (Es.b (Es.tup (Ea.cons Es.int (Ea.cons Es.int Ea.nil rfl) rfl) (Nat.le_of_ble_eq_true rfl))) rfl))))))⟩

theorem ok_fundamental {P : Program} {w : World} {mg : Str → Option Value} {base : Heap} (C : Ct) (A : Fa C.K mg) (a : Addr) (ns : List Int) (D : Dc C n_1 n_2 n_3 a ns A.cl) (j l : Nat) : FnG P w C.K mg base CX0 (l + 1 + 1) A.f_fundamental A.d_fundamental p_fundamental (spS C (FT (T ns) (fun _ => none) (j + 1 + 1) 9) 1) := by
  refine defOk A.F_fundamental sc_fundamental rfl 9 (m_fundamental 3) (T ns) (fun _ => none) (j + 1) rfl rfl (by decide) (fun cdv A0 outer s H F0 hG hr => ?_)
  have D' : Dc (C.at H F0 (FT (T ns) (fun _ => none) (j + 1))) n_1 n_2 n_3 a ns A.cl := ⟨D.n1, D.n2, D.n3, D.sc, D.cl⟩
  have hu := Pv.Room.u70 hr
  have hu65 := Pv.Room.u65 hr
  have hu1 := Pv.Room.u1 hr
  have hdk := dkn_of D'
  have hn3 := hn3_of D'
  have hn2 := hn2_of D'
  have hok : ClsOk C.K C.sc.2 := by rw [D.cl]; exact A.clsOk
  have hin : ∀ Cn ∈ C.sc.2, InsOk C.K Cn.1 := by rw [D.cl]; exact A.insOk
  have hcl_Curve : C.sc.2[0]? = some (A.C_Curve, at_Curve) := by rw [D.cl]; rfl
  have c_whole_root := @ok_whole_root P w mg base (C.at H F0 (FT (T ns) (fun _ => none) (j + 1))) A a ns D' (j + 0) (l + 0)
  exact ⟨_,
    (Sb.cons (Ss.set (Es.call 3 (c_whole_root) hG hr rfl A.g_whole_root A.F_whole_root.kp A.b_whole_root pass0 (Ea.cons (Es.neg rfl (Eb.var 0 rfl (.inl rfl) rfl rfl)) Ea.nil rfl) rfl rfl rfl rfl) (Eg.name 1 (by decide) sc_fundamental.nd rfl (.inl rfl) (.inr rfl)) rfl rfl rfl)
    (Sb.one (Ss.while_ PassesOwn.never (Et.truth rfl (Es.b Es.bl) (fun _ => rfl)) (Sb.cons (Ss.set (Es.bin .mul rfl (Eb.var 1 rfl (.inl rfl) rfl rfl) (Eb.var 1 rfl (.inl rfl) rfl rfl)) (Eg.name 2 (by decide) sc_fundamental.nd rfl (.inl rfl) (.inr rfl)) rfl rfl rfl)
      (Sb.cons (Ss.ite (Ew.t (Ew.and (Et.cmp .eq rfl hu65 (Es.b (Es.bin .mod rfl (Eb.var 0 rfl (.inl rfl) rfl rfl) (Eb.var 2 rfl (.inl rfl) rfl rfl))) (Es.b Es.int) rfl) (Ew.one (Et.cmp .isin rfl hu65 (Es.b (Es.bin .mod rfl (Es.b (Es.bin .fdiv rfl (Eb.var 0 rfl (.inl rfl) rfl rfl) (Eb.var 2 rfl (.inl rfl) rfl rfl))) (Es.b Es.int))) (Es.b (Es.tup (Ea.cons Es.int (Ea.cons Es.int Ea.nil rfl) rfl) (Nat.le_of_ble_eq_true rfl))) rfl)))) (Sb.one (Ss.ret (Es.tup (Ea.cons (Es.var 1 (by decide) rfl (.inl rfl) rfl rfl) (Ea.cons (Es.bin .fdiv rfl (Eb.var 0 rfl (.inl rfl) rfl rfl) (Eb.var 2 rfl (.inl rfl) rfl rfl)) Ea.nil rfl) rfl) (Nat.le_of_ble_eq_true rfl)))) Sb.nil)
      (Sb.one (Ss.aug 1 .sub (by decide) (Es.b Es.int) sc_fundamental.nd rfl (.inl rfl) (.inr rfl))))))))⟩

theorem ok_is_prime {P : Program} {w : World} {mg : Str → Option Value} {base : Heap} (C : Ct) (A : Fa C.K mg) (a : Addr) (ns : List Int) (D : Dc C n_1 n_2 n_3 a ns A.cl) (j l : Nat) : FnG P w C.K mg base CX0 (l + 1 + 1) A.f_is_prime A.d_is_prime p_is_prime (spS C (FT (T ns) (fun _ => none) (j + 1 + 1) 12) 1) := by
  refine defOk A.F_is_prime sc_is_prime rfl 12 (m_is_prime 11) (T ns) (fun _ => none) (j + 1) rfl rfl (by decide) (fun cdv A0 outer s H F0 hG hr => ?_)
  have D' : Dc (C.at H F0 (FT (T ns) (fun _ => none) (j + 1))) n_1 n_2 n_3 a ns A.cl := ⟨D.n1, D.n2, D.n3, D.sc, D.cl⟩
  have hu := Pv.Room.u70 hr
  have hu65 := Pv.Room.u65 hr
  have hu1 := Pv.Room.u1 hr
  have hdk := dkn_of D'
  have hn3 := hn3_of D'
  have hn2 := hn2_of D'
  have hok : ClsOk C.K C.sc.2 := by rw [D.cl]; exact A.clsOk
  have hin : ∀ Cn ∈ C.sc.2, InsOk C.K Cn.1 := by rw [D.cl]; exact A.insOk
  have hcl_Curve : C.sc.2[0]? = some (A.C_Curve, at_Curve) := by rw [D.cl]; rfl
  have c_is_integer_primefield := @ok_is_integer_primefield P w mg base (C.at H F0 (FT (T ns) (fun _ => none) (j + 1))) A a ns D' (j + 0) (l + 0)
  exact ⟨[],
    (Sb.cons (Ss.ite (Ew.t (Ew.or (Et.not (Et.truth rfl (Es.b (Es.call 11 (c_is_integer_primefield) hG hr rfl A.g_is_integer_primefield A.F_is_integer_primefield.kp A.b_is_integer_primefield pass0 (Ea.cons (Es.var 0 (by decide) rfl (.inl rfl) rfl rfl) Ea.nil rfl) rfl rfl rfl rfl)) (fun _ => rfl))) (Ew.or (Et.cmp .lt rfl hu65 (Eb.var 0 rfl (.inl rfl) rfl rfl) (Es.b (Es.glob (v := .int 7) rfl A.g_LEAST_PRIME ⟨_, rfl⟩ (fun _ => rel_int) rfl)) rfl) (Ew.one (Et.cmp .gt rfl hu65 (Eb.var 0 rfl (.inl rfl) rfl rfl) (Es.b (Es.glob (v := .int 199) rfl A.g_GREATEST_PRIME ⟨_, rfl⟩ (fun _ => rel_int) rfl)) rfl))))) (Sb.one (Ss.ret Es.bl)) Sb.nil)
    (Sb.cons (Ss.for_ PassesOwn.never rfl (Ei.seq rfl (Es.tup (Ea.cons Es.int (Ea.cons Es.int (Ea.cons Es.int (Ea.cons Es.int (Ea.cons Es.int (Ea.cons Es.int Ea.nil rfl) rfl) rfl) rfl) rfl) rfl) (Nat.le_of_ble_eq_true rfl))) (Eg.name 1 (by decide) sc_is_prime.nd rfl (.inl rfl) (.inr rfl)) (Sb.one (Ss.ite (Ew.t (Ew.and (Et.cmp .eq rfl hu65 (Es.b (Es.bin .mod rfl (Eb.var 0 rfl (.inl rfl) rfl rfl) (Eb.var 1 rfl (.inl rfl) rfl rfl))) (Es.b Es.int) rfl) (Ew.one (Et.cmp .ne rfl hu65 (Eb.var 0 rfl (.inl rfl) rfl rfl) (Eb.var 1 rfl (.inl rfl) rfl rfl) rfl)))) (Sb.one (Ss.ret Es.bl)) Sb.nil)) (fun _ => rfl))
    (Sb.one (Ss.ret Es.bl))))⟩

theorem ok_is_number {P : Program} {w : World} {mg : Str → Option Value} {base : Heap} (C : Ct) (A : Fa C.K mg) (a : Addr) (ns : List Int) (D : Dc C n_1 n_2 n_3 a ns A.cl) (j l : Nat) : FnG P w C.K mg base CX0 (l + 1 + 1) A.f_is_number A.d_is_number p_is_number (spS C (FT (T ns) (fun _ => none) (j + 1 + 1) 13) 2) := by
  refine defOk A.F_is_number sc_is_number rfl 13 (m_is_number 11) (T ns) (fun _ => none) (j + 1) rfl rfl (by decide) (fun cdv A0 outer s H F0 hG hr => ?_)
  have D' : Dc (C.at H F0 (FT (T ns) (fun _ => none) (j + 1))) n_1 n_2 n_3 a ns A.cl := ⟨D.n1, D.n2, D.n3, D.sc, D.cl⟩
  have hu := Pv.Room.u70 hr
  have hu65 := Pv.Room.u65 hr
  have hu1 := Pv.Room.u1 hr
  have hdk := dkn_of D'
  have hn3 := hn3_of D'
  have hn2 := hn2_of D'
  have hok : ClsOk C.K C.sc.2 := by rw [D.cl]; exact A.clsOk
  have hin : ∀ Cn ∈ C.sc.2, InsOk C.K Cn.1 := by rw [D.cl]; exact A.insOk
  have hcl_Curve : C.sc.2[0]? = some (A.C_Curve, at_Curve) := by rw [D.cl]; rfl
  have c_is_integer_primefield := @ok_is_integer_primefield P w mg base (C.at H F0 (FT (T ns) (fun _ => none) (j + 1))) A a ns D' (j + 0) (l + 0)
  exact ⟨[],
    (Sb.one (Ss.ret (Es.and (Es.b (Es.call 11 (c_is_integer_primefield) hG hr rfl A.g_is_integer_primefield A.F_is_integer_primefield.kp A.b_is_integer_primefield pass0 (Ea.cons (Es.var 1 (by decide) rfl (.inl rfl) rfl rfl) Ea.nil rfl) rfl rfl rfl rfl)) (Es.one (Es.chain .le .lt rfl hu65 (Es.b Es.int) (Eb.var 1 rfl (.inl rfl) rfl rfl) (Eb.var 0 rfl (.inl rfl) rfl rfl) rfl)))))⟩

theorem ok__law_pick {P : Program} {w : World} {mg : Str → Option Value} {base : Heap} (C : Ct) (A : Fa C.K mg) (a : Addr) (ns : List Int) (D : Dc C n_1 n_2 n_3 a ns A.cl) (j l : Nat) : FnG P w C.K mg base CX0 (l + 1 + 1) A.f__law_pick A.d__law_pick p__law_pick (spS C (FT (T ns) (fun _ => none) (j + 1 + 1) 17) 2) := by
  refine defOk A.F__law_pick sc__law_pick rfl 17 (m__law_pick 16) (T ns) (fun _ => none) (j + 1) rfl rfl (by decide) (fun cdv A0 outer s H F0 hG hr => ?_)
  have D' : Dc (C.at H F0 (FT (T ns) (fun _ => none) (j + 1))) n_1 n_2 n_3 a ns A.cl := ⟨D.n1, D.n2, D.n3, D.sc, D.cl⟩
  have hu := Pv.Room.u70 hr
  have hu65 := Pv.Room.u65 hr
  have hu1 := Pv.Room.u1 hr
  have hdk := dkn_of D'
  have hn3 := hn3_of D'
  have hn2 := hn2_of D'
  have hok : ClsOk C.K C.sc.2 := by rw [D.cl]; exact A.clsOk
  have hin : ∀ Cn ∈ C.sc.2, InsOk C.K Cn.1 := by rw [D.cl]; exact A.insOk
  have hcl_Curve : C.sc.2[0]? = some (A.C_Curve, at_Curve) := by rw [D.cl]; rfl
  have c__law_draw := @ok__law_draw P w mg base (C.at H F0 (FT (T ns) (fun _ => none) (j + 1))) A a ns D' (j + 0) (l + 0)
  exact ⟨[],
    (Sb.one (Ss.ret (Es.idx rfl (Eb.var 1 rfl (.inl rfl) rfl rfl) (Es.b (Es.call 16 (c__law_draw) hG hr rfl A.g__law_draw A.F__law_draw.kp A.b__law_draw pass0 (Ea.cons (Es.var 0 (by decide) rfl (.inl rfl) rfl rfl) (Ea.cons (Es.biB .len rfl cb_len rfl A.z_len rfl (Eas.one (Eb.var 1 rfl (.inl rfl) rfl rfl) rfl) (by decide) rfl rfl rfl) Ea.nil rfl) rfl) rfl rfl rfl rfl)) (by intro _ _; rfl))))⟩

theorem ok__law_classes {P : Program} {w : World} {mg : Str → Option Value} {base : Heap} (C : Ct) (A : Fa C.K mg) (a : Addr) (ns : List Int) (D : Dc C n_1 n_2 n_3 a ns A.cl) (j l : Nat) : FnG P w C.K mg base CX0 (l + 1 + 1) A.f__law_classes A.d__law_classes p__law_classes (spS C (FT (T ns) (fun _ => none) (j + 1 + 1) 20) 1) := by
  refine defOk A.F__law_classes sc__law_classes rfl 20 (m__law_classes 18) (T ns) (fun _ => none) (j + 1) rfl rfl (by decide) (fun cdv A0 outer s H F0 hG hr => ?_)
  have D' : Dc (C.at H F0 (FT (T ns) (fun _ => none) (j + 1))) n_1 n_2 n_3 a ns A.cl := ⟨D.n1, D.n2, D.n3, D.sc, D.cl⟩
  have hu := Pv.Room.u70 hr
  have hu65 := Pv.Room.u65 hr
  have hu1 := Pv.Room.u1 hr
  have hdk := dkn_of D'
  have hn3 := hn3_of D'
  have hn2 := hn2_of D'
  have hok : ClsOk C.K C.sc.2 := by rw [D.cl]; exact A.clsOk
  have hin : ∀ Cn ∈ C.sc.2, InsOk C.K Cn.1 := by rw [D.cl]; exact A.insOk
  have hcl_Curve : C.sc.2[0]? = some (A.C_Curve, at_Curve) := by rw [D.cl]; rfl
  have c__law_gcd := @ok__law_gcd P w mg base (C.at H F0 (FT (T ns) (fun _ => none) (j + 1))) A a ns D' (j + 0) (l + 0)
  exact ⟨[],
    (Sb.cons (Ss.parO 1 2 rfl sc__law_classes.nd rfl rfl (by decide) (by decide) rfl rfl (Ef.lst Ea.nil (Nat.le_of_ble_eq_true rfl)) (Es.bin .mod rfl (Es.b (Es.biT .toInt rfl cb_toInt rfl A.z_int rfl (Eas.one (Eb.var 0 rfl (.inl rfl) rfl rfl) rfl) (by decide) rfl rfl rfl)) (Es.b Es.int)) rfl rfl rfl rfl (.inl rfl))
    (Sb.cons (Ss.while_ PassesOwn.never (Et.cmp .le rfl hu65 (Es.b (Es.bin .mul rfl (Es.b (Es.bin .mul rfl (Es.b Es.int) (Eb.var 2 rfl (.inl rfl) rfl rfl))) (Eb.var 2 rfl (.inl rfl) rfl rfl))) (Es.b (Es.bin .sub rfl (Es.b Es.int) (Eb.var 0 rfl (.inl rfl) rfl rfl))) rfl) (Sb.cons (Ss.set (Es.bin .fdiv rfl (Es.b (Es.bin .sub rfl (Es.b (Es.bin .mul rfl (Eb.var 2 rfl (.inl rfl) rfl rfl) (Eb.var 2 rfl (.inl rfl) rfl rfl))) (Eb.var 0 rfl (.inl rfl) rfl rfl))) (Es.b Es.int)) (Eg.name 3 (by decide) sc__law_classes.nd rfl (.inl rfl) (.inr rfl)) rfl rfl rfl)
      (Sb.cons (Ss.set (Es.biB .max2 rfl (cb_max2 rfl) rfl A.z_max rfl (Eas.two (Es.b Es.int) (Eb.var 2 rfl (.inl rfl) rfl rfl) rfl rfl) (by decide) rfl rfl rfl) (Eg.name 4 (by decide) sc__law_classes.nd rfl (.inl rfl) (.inr rfl)) rfl rfl rfl)
      (Sb.cons (Ss.while_ PassesOwn.never (Et.cmp .le rfl hu65 (Es.b (Es.bin .mul rfl (Eb.var 4 rfl (.inl rfl) rfl rfl) (Eb.var 4 rfl (.inl rfl) rfl rfl))) (Eb.var 3 rfl (.inl rfl) rfl rfl) rfl) (Sb.cons (Ss.ite (Ew.t (Ew.and (Et.cmp .eq rfl hu65 (Es.b (Es.bin .mod rfl (Es.b (Es.biT .toInt rfl cb_toInt rfl A.z_int rfl (Eas.one (Eb.var 3 rfl (.inl rfl) rfl rfl) rfl) (by decide) rfl rfl rfl)) (Eb.var 4 rfl (.inl rfl) rfl rfl))) (Es.b Es.int) rfl) (Ew.one (Et.cmp .eq rfl hu65 (Es.b (Es.call 18 (c__law_gcd) hG hr rfl A.g__law_gcd A.F__law_gcd.kp A.b__law_gcd pass0 (Ea.cons (Es.call 18 (c__law_gcd) hG hr rfl A.g__law_gcd A.F__law_gcd.kp A.b__law_gcd pass0 (Ea.cons (Es.var 4 (by decide) rfl (.inl rfl) rfl rfl) (Ea.cons (Es.var 2 (by decide) rfl (.inl rfl) rfl rfl) Ea.nil rfl) rfl) rfl rfl rfl rfl) (Ea.cons (Es.bin .fdiv rfl (Eb.var 3 rfl (.inl rfl) rfl rfl) (Eb.var 4 rfl (.inl rfl) rfl rfl)) Ea.nil rfl) rfl) rfl rfl rfl rfl)) (Es.b Es.int) rfl)))) (Sb.cons (Ss.app 1 (by decide) rfl (.inl rfl) rfl rfl (Es.tup (Ea.cons (Es.var 4 (by decide) rfl (.inl rfl) rfl rfl) (Ea.cons (Es.var 2 (by decide) rfl (.inl rfl) rfl rfl) (Ea.cons (Es.bin .fdiv rfl (Eb.var 3 rfl (.inl rfl) rfl rfl) (Eb.var 4 rfl (.inl rfl) rfl rfl)) Ea.nil rfl) rfl) rfl) (Nat.le_of_ble_eq_true rfl)) rfl rfl rfl rfl rfl rfl)
          (Sb.one (Ss.ite (Et.chain3 .lt .lt .lt rfl hu65 (Es.b Es.int) (Eb.var 2 rfl (.inl rfl) rfl rfl) (Eb.var 4 rfl (.inl rfl) rfl rfl) (Es.b (Es.bin .fdiv rfl (Eb.var 3 rfl (.inl rfl) rfl rfl) (Eb.var 4 rfl (.inl rfl) rfl rfl))) rfl) (Sb.one (Ss.app 1 (by decide) rfl (.inl rfl) rfl rfl (Es.tup (Ea.cons (Es.var 4 (by decide) rfl (.inl rfl) rfl rfl) (Ea.cons (Es.bin .sub rfl (Es.b Es.int) (Eb.var 2 rfl (.inl rfl) rfl rfl)) (Ea.cons (Es.bin .fdiv rfl (Eb.var 3 rfl (.inl rfl) rfl rfl) (Eb.var 4 rfl (.inl rfl) rfl rfl)) Ea.nil rfl) rfl) rfl) (Nat.le_of_ble_eq_true rfl)) rfl rfl rfl rfl rfl rfl)) Sb.nil))) Sb.nil)
        (Sb.one (Ss.set (Es.bin .add rfl (Eb.var 4 rfl (.inl rfl) rfl rfl) (Es.b Es.int)) (Eg.name 4 (by decide) sc__law_classes.nd rfl (.inl rfl) (.inr rfl)) rfl rfl rfl))))
      (Sb.one (Ss.set (Es.bin .add rfl (Eb.var 2 rfl (.inl rfl) rfl rfl) (Es.b Es.int)) (Eg.name 2 (by decide) sc__law_classes.nd rfl (.inl rfl) (.inr rfl)) rfl rfl rfl))))))
    (Sb.one (Ss.ret (Es.biB .sorted rfl cb_sorted rfl A.z_sorted rfl (Eas.one (Eb.var 1 rfl (.inl rfl) rfl rfl) rfl) (by decide) rfl rfl rfl)))))⟩

theorem ok__law_matrix {P : Program} {w : World} {mg : Str → Option Value} {base : Heap} (C : Ct) (A : Fa C.K mg) (a : Addr) (ns : List Int) (D : Dc C n_1 n_2 n_3 a ns A.cl) (j l : Nat) : FnG P w C.K mg base CX0 (l + 1 + 1) A.f__law_matrix A.d__law_matrix p__law_matrix (spS C (FT (T ns) (fun _ => none) (j + 1 + 1) 23) 3) := by
  refine defOk A.F__law_matrix sc__law_matrix rfl 23 (m__law_matrix 16 22) (T ns) (fun _ => none) (j + 1) rfl rfl (by decide) (fun cdv A0 outer s H F0 hG hr => ?_)
  have D' : Dc (C.at H F0 (FT (T ns) (fun _ => none) (j + 1))) n_1 n_2 n_3 a ns A.cl := ⟨D.n1, D.n2, D.n3, D.sc, D.cl⟩
  have hu := Pv.Room.u70 hr
  have hu65 := Pv.Room.u65 hr
  have hu1 := Pv.Room.u1 hr
  have hdk := dkn_of D'
  have hn3 := hn3_of D'
  have hn2 := hn2_of D'
  have hok : ClsOk C.K C.sc.2 := by rw [D.cl]; exact A.clsOk
  have hin : ∀ Cn ∈ C.sc.2, InsOk C.K Cn.1 := by rw [D.cl]; exact A.insOk
  have hcl_Curve : C.sc.2[0]? = some (A.C_Curve, at_Curve) := by rw [D.cl]; rfl
  have c__law_draw := @ok__law_draw P w mg base (C.at H F0 (FT (T ns) (fun _ => none) (j + 1))) A a ns D' (j + 0) (l + 0)
  have c__law_times := @ok__law_times P w mg base (C.at H F0 (FT (T ns) (fun _ => none) (j + 1))) A a ns D' (j + 0) (l + 0)
  exact ⟨[],
    (Sb.cons (Ss.set (Es.tup (Ea.cons Es.int (Ea.cons Es.int (Ea.cons Es.int (Ea.cons Es.int Ea.nil rfl) rfl) rfl) rfl) (Nat.le_of_ble_eq_true rfl)) (Eg.name 3 (by decide) sc__law_matrix.nd rfl (.inl rfl) (.inr rfl)) rfl rfl rfl)
    (Sb.cons (Ss.for_ PassesOwn.never rfl (Ei.rng1 rfl A.z_range (Ea.cons (Es.call 16 (c__law_draw) hG hr rfl A.g__law_draw A.F__law_draw.kp A.b__law_draw pass0 (Ea.cons (Es.var 0 (by decide) rfl (.inl rfl) rfl rfl) (Ea.cons (Es.bin .add rfl (Eb.var 1 rfl (.inl rfl) rfl rfl) (Es.b Es.int)) Ea.nil rfl) rfl) rfl rfl rfl rfl) Ea.nil rfl) rfl) (Eg.name 4 (by decide) sc__law_matrix.nd rfl (.inl rfl) (.inr rfl)) (Sb.cons (Ss.par 5 6 rfl sc__law_matrix.nd rfl rfl (by decide) (by decide) (by decide) rfl rfl (Ea.cons (Es.call 16 (c__law_draw) hG hr rfl A.g__law_draw A.F__law_draw.kp A.b__law_draw pass0 (Ea.cons (Es.var 0 (by decide) rfl (.inl rfl) rfl rfl) (Ea.cons Es.int Ea.nil rfl) rfl) rfl rfl rfl rfl) (Ea.cons (Es.bin .sub rfl (Es.b (Es.call 16 (c__law_draw) hG hr rfl A.g__law_draw A.F__law_draw.kp A.b__law_draw pass0 (Ea.cons (Es.var 0 (by decide) rfl (.inl rfl) rfl rfl) (Ea.cons (Es.bin .add rfl (Es.b (Es.bin .mul rfl (Es.b Es.int) (Eb.var 2 rfl (.inl rfl) rfl rfl))) (Es.b Es.int)) Ea.nil rfl) rfl) rfl rfl rfl rfl)) (Eb.var 2 rfl (.inl rfl) rfl rfl)) Ea.nil rfl) rfl) rfl rfl)
      (Sb.one (Ss.set (Es.call 22 (c__law_times) hG hr rfl A.g__law_times A.F__law_times.kp A.b__law_times pass0 (Ea.cons (Es.var 3 (by decide) rfl (.inl rfl) rfl rfl) (Ea.cons (Es.idx rfl (Es.b (Es.tup (Ea.cons (Es.tup (Ea.cons Es.int (Ea.cons (Es.var 6 (by decide) rfl (.inl rfl) rfl rfl) (Ea.cons Es.int (Ea.cons Es.int Ea.nil rfl) rfl) rfl) rfl) (Nat.le_of_ble_eq_true rfl)) (Ea.cons (Es.tup (Ea.cons Es.int (Ea.cons Es.int (Ea.cons (Es.var 6 (by decide) rfl (.inl rfl) rfl rfl) (Ea.cons Es.int Ea.nil rfl) rfl) rfl) rfl) (Nat.le_of_ble_eq_true rfl)) (Ea.cons (Es.tup (Ea.cons Es.int (Ea.cons (Es.neg rfl (Es.b Es.int)) (Ea.cons Es.int (Ea.cons Es.int Ea.nil rfl) rfl) rfl) rfl) (Nat.le_of_ble_eq_true rfl)) Ea.nil rfl) rfl) rfl) (Nat.le_of_ble_eq_true rfl))) (Eb.var 5 rfl (.inl rfl) rfl rfl) (by intro _ _; rfl)) Ea.nil rfl) rfl) rfl rfl rfl rfl) (Eg.name 3 (by decide) sc__law_matrix.nd rfl (.inl rfl) (.inr rfl)) rfl rfl rfl))) (fun _ => rfl))
    (Sb.one (Ss.ret (Es.var 3 (by decide) rfl (.inl rfl) rfl rfl)))))⟩

theorem ok__law_is_discriminant {P : Program} {w : World} {mg : Str → Option Value} {base : Heap} (C : Ct) (A : Fa C.K mg) (a : Addr) (ns : List Int) (D : Dc C n_1 n_2 n_3 a ns A.cl) (j l : Nat) : FnG P w C.K mg base CX0 (l + 1 + 1) A.f__law_is_discriminant A.d__law_is_discriminant p__law_is_discriminant (spS C (FT (T ns) (fun _ => none) (j + 1 + 1) 25) 1) := by
  refine defOk A.F__law_is_discriminant sc__law_is_discriminant rfl 25 (m__law_is_discriminant 24) (T ns) (fun _ => none) (j + 1) rfl rfl (by decide) (fun cdv A0 outer s H F0 hG hr => ?_)
  have D' : Dc (C.at H F0 (FT (T ns) (fun _ => none) (j + 1))) n_1 n_2 n_3 a ns A.cl := ⟨D.n1, D.n2, D.n3, D.sc, D.cl⟩
  have hu := Pv.Room.u70 hr
  have hu65 := Pv.Room.u65 hr
  have hu1 := Pv.Room.u1 hr
  have hdk := dkn_of D'
  have hn3 := hn3_of D'
  have hn2 := hn2_of D'
  have hok : ClsOk C.K C.sc.2 := by rw [D.cl]; exact A.clsOk
  have hin : ∀ Cn ∈ C.sc.2, InsOk C.K Cn.1 := by rw [D.cl]; exact A.insOk
  have hcl_Curve : C.sc.2[0]? = some (A.C_Curve, at_Curve) := by rw [D.cl]; rfl
  have c__law_is_integer := @ok__law_is_integer P w mg base (C.at H F0 (FT (T ns) (fun _ => none) (j + 1))) A a ns D' (j + 0) (l + 0)
  exact ⟨[],
    (Sb.one (Ss.ret (Es.and (Es.b (Es.call 24 (c__law_is_integer) hG hr rfl A.g__law_is_integer A.F__law_is_integer.kp A.b__law_is_integer pass0 (Ea.cons (Es.var 0 (by decide) rfl (.inl rfl) rfl rfl) Ea.nil rfl) rfl rfl rfl rfl)) (Es.and (Es.b (Es.chain .le .le rfl hu65 (Es.b (Es.neg rfl (Es.b Es.int))) (Eb.var 0 rfl (.inl rfl) rfl rfl) (Es.b (Es.neg rfl (Es.b Es.int))) rfl)) (Es.one (Es.cmp .lt rfl hu65 (Es.b (Es.bin .mod rfl (Es.b (Es.biT .toInt rfl cb_toInt rfl A.z_int rfl (Eas.one (Eb.var 0 rfl (.inl rfl) rfl rfl) rfl) (by decide) rfl rfl rfl)) (Es.b Es.int))) (Es.b Es.int) rfl))))))⟩

theorem ok__law_are_integers {P : Program} {w : World} {mg : Str → Option Value} {base : Heap} (C : Ct) (A : Fa C.K mg) (a : Addr) (ns : List Int) (D : Dc C n_1 n_2 n_3 a ns A.cl) (j l : Nat) : FnG P w C.K mg base CX0 (l + 1 + 1) A.f__law_are_integers A.d__law_are_integers p__law_are_integers (spS C (FT (T ns) (fun _ => none) (j + 1 + 1) 26) 2) := by
  refine defOk A.F__law_are_integers sc__law_are_integers rfl 26 (m__law_are_integers 24) (T ns) (fun _ => none) (j + 1) rfl rfl (by decide) (fun cdv A0 outer s H F0 hG hr => ?_)
  have D' : Dc (C.at H F0 (FT (T ns) (fun _ => none) (j + 1))) n_1 n_2 n_3 a ns A.cl := ⟨D.n1, D.n2, D.n3, D.sc, D.cl⟩
  have hu := Pv.Room.u70 hr
  have hu65 := Pv.Room.u65 hr
  have hu1 := Pv.Room.u1 hr
  have hdk := dkn_of D'
  have hn3 := hn3_of D'
  have hn2 := hn2_of D'
  have hok : ClsOk C.K C.sc.2 := by rw [D.cl]; exact A.clsOk
  have hin : ∀ Cn ∈ C.sc.2, InsOk C.K Cn.1 := by rw [D.cl]; exact A.insOk
  have hcl_Curve : C.sc.2[0]? = some (A.C_Curve, at_Curve) := by rw [D.cl]; rfl
  have c__law_is_integer := @ok__law_is_integer P w mg base (C.at H F0 (FT (T ns) (fun _ => none) (j + 1))) A a ns D' (j + 0) (l + 0)
  exact ⟨[],
    (Sb.cons (Ss.ite (Ew.t (Ew.or (Et.not (Et.truth rfl (Es.b (Es.isi .isTuple rfl rfl hin rfl A.z_isinstance rfl rfl A.z_tuple rfl (by decide) rfl (Eb.var 0 rfl (.inl rfl) rfl rfl) rfl rfl rfl)) (fun _ => rfl))) (Ew.one (Et.cmp .ne rfl hu65 (Es.b (Es.biB .len rfl cb_len rfl A.z_len rfl (Eas.one (Eb.var 0 rfl (.inl rfl) rfl rfl) rfl) (by decide) rfl rfl rfl)) (Eb.var 1 rfl (.inl rfl) rfl rfl) rfl)))) (Sb.one (Ss.ret Es.bl)) Sb.nil)
    (Sb.one (Ss.ret (Es.cmp .eq rfl hu65 (Ef.b (Ef.comp rfl sc__law_are_integers.nd (Ei.seq rfl (Es.var 0 (by decide) rfl (.inl rfl) rfl rfl)) bk__law_are_integers_0 rfl (fun _ _ _ _ _ => (Eg.name 2 (by decide) sc__law_are_integers.nd rfl (.inl rfl) (.inr rfl))) (fun _ _ _ _ _ => (Ec.one (Et.not (Et.truth rfl (Es.b (Es.call 24 (c__law_is_integer) hG hr rfl A.g__law_is_integer A.F__law_is_integer.kp A.b__law_is_integer pass0 (Ea.cons (Es.var 2 (by decide) rfl (.inl rfl) rfl rfl) Ea.nil rfl) rfl rfl rfl rfl)) (fun _ => rfl))))) (fun _ _ _ _ _ => (Es.var 2 (by decide) rfl (.inl rfl) rfl rfl)) (fun _ => rfl) (by decide))) (Ef.b (Ef.lst Ea.nil (Nat.le_of_ble_eq_true rfl))) rfl))))⟩

theorem ok_is_form {P : Program} {w : World} {mg : Str → Option Value} {base : Heap} (C : Ct) (A : Fa C.K mg) (a : Addr) (ns : List Int) (D : Dc C n_1 n_2 n_3 a ns A.cl) (j l : Nat) : FnG P w C.K mg base CX0 (l + 2 + 1) A.f_is_form A.d_is_form p_is_form (spS C (FT (T ns) (fun _ => none) (j + 2 + 1) 6) 1) := by
  refine defOk A.F_is_form sc_is_form rfl 6 (m_is_form 1 2 4) (T ns) (fun _ => none) (j + 2) rfl rfl (by decide) (fun cdv A0 outer s H F0 hG hr => ?_)
  have D' : Dc (C.at H F0 (FT (T ns) (fun _ => none) (j + 2))) n_1 n_2 n_3 a ns A.cl := ⟨D.n1, D.n2, D.n3, D.sc, D.cl⟩
  have hu := Pv.Room.u70 hr
  have hu65 := Pv.Room.u65 hr
  have hu1 := Pv.Room.u1 hr
  have hdk := dkn_of D'
  have hn3 := hn3_of D'
  have hn2 := hn2_of D'
  have hok : ClsOk C.K C.sc.2 := by rw [D.cl]; exact A.clsOk
  have hin : ∀ Cn ∈ C.sc.2, InsOk C.K Cn.1 := by rw [D.cl]; exact A.insOk
  have hcl_Curve : C.sc.2[0]? = some (A.C_Curve, at_Curve) := by rw [D.cl]; rfl
  have c_are_integers := @ok_are_integers P w mg base (C.at H F0 (FT (T ns) (fun _ => none) (j + 2))) A a ns D' (j + 0) (l + 0)
  have c_common_divisor := @ok_common_divisor P w mg base (C.at H F0 (FT (T ns) (fun _ => none) (j + 2))) A a ns D' (j + 1) (l + 1)
  have c_is_discriminant := @ok_is_discriminant P w mg base (C.at H F0 (FT (T ns) (fun _ => none) (j + 2))) A a ns D' (j + 0) (l + 0)
  exact ⟨[],
    (Sb.cons (Ss.ite (Et.not (Et.truth rfl (Es.b (Es.call 1 (c_are_integers) hG hr rfl A.g_are_integers A.F_are_integers.kp A.b_are_integers pass0 (Ea.cons (Es.var 0 (by decide) rfl (.inl rfl) rfl rfl) (Ea.cons Es.int Ea.nil rfl) rfl) rfl rfl rfl rfl)) (fun _ => rfl))) (Sb.one (Ss.ret Es.bl)) Sb.nil)
    (Sb.cons (Ss.set (Es.var 0 (by decide) rfl (.inl rfl) rfl rfl) (Eg.tup rfl rfl (Egs.cons (Eg.name 1 (by decide) sc_is_form.nd rfl (.inl rfl) (.inr rfl)) (Egs.cons (Eg.name 2 (by decide) sc_is_form.nd rfl (.inl rfl) (.inr rfl)) (Egs.cons (Eg.name 3 (by decide) sc_is_form.nd rfl (.inl rfl) (.inr rfl)) Egs.nil rfl) rfl) rfl) (by decide) rfl rfl) rfl rfl rfl)
    (Sb.cons (Ss.ite (Ew.t (Ew.or (Et.cmp .le rfl hu65 (Eb.var 1 rfl (.inl rfl) rfl rfl) (Es.b Es.int) rfl) (Ew.one (Et.not (Et.truth rfl (Es.b (Es.call 4 (c_is_discriminant) hG hr rfl A.g_is_discriminant A.F_is_discriminant.kp A.b_is_discriminant pass0 (Ea.cons (Es.bin .sub rfl (Es.b (Es.bin .mul rfl (Eb.var 2 rfl (.inl rfl) rfl rfl) (Eb.var 2 rfl (.inl rfl) rfl rfl))) (Es.b (Es.bin .mul rfl (Es.b (Es.bin .mul rfl (Es.b Es.int) (Eb.var 1 rfl (.inl rfl) rfl rfl))) (Eb.var 3 rfl (.inl rfl) rfl rfl)))) Ea.nil rfl) rfl rfl rfl rfl)) (fun _ => rfl)))))) (Sb.one (Ss.ret Es.bl)) Sb.nil)
    (Sb.one (Ss.ret (Es.cmp .eq rfl hu65 (Es.b (Es.call 2 (c_common_divisor) hG hr rfl A.g_common_divisor A.F_common_divisor.kp A.b_common_divisor pass0 (Ea.cons (Es.call 2 (c_common_divisor) hG hr rfl A.g_common_divisor A.F_common_divisor.kp A.b_common_divisor pass0 (Ea.cons (Es.var 1 (by decide) rfl (.inl rfl) rfl rfl) (Ea.cons (Es.var 2 (by decide) rfl (.inl rfl) rfl rfl) Ea.nil rfl) rfl) rfl rfl rfl rfl) (Ea.cons (Es.var 3 (by decide) rfl (.inl rfl) rfl rfl) Ea.nil rfl) rfl) rfl rfl rfl rfl)) (Es.b Es.int) rfl))))))⟩

theorem ok_is_matrix {P : Program} {w : World} {mg : Str → Option Value} {base : Heap} (C : Ct) (A : Fa C.K mg) (a : Addr) (ns : List Int) (D : Dc C n_1 n_2 n_3 a ns A.cl) (j l : Nat) : FnG P w C.K mg base CX0 (l + 2 + 1) A.f_is_matrix A.d_is_matrix p_is_matrix (spS C (FT (T ns) (fun _ => none) (j + 2 + 1) 8) 1) := by
  refine defOk A.F_is_matrix sc_is_matrix rfl 8 (m_is_matrix 1) (T ns) (fun _ => none) (j + 2) rfl rfl (by decide) (fun cdv A0 outer s H F0 hG hr => ?_)
  have D' : Dc (C.at H F0 (FT (T ns) (fun _ => none) (j + 2))) n_1 n_2 n_3 a ns A.cl := ⟨D.n1, D.n2, D.n3, D.sc, D.cl⟩
  have hu := Pv.Room.u70 hr
  have hu65 := Pv.Room.u65 hr
  have hu1 := Pv.Room.u1 hr
  have hdk := dkn_of D'
  have hn3 := hn3_of D'
  have hn2 := hn2_of D'
  have hok : ClsOk C.K C.sc.2 := by rw [D.cl]; exact A.clsOk
  have hin : ∀ Cn ∈ C.sc.2, InsOk C.K Cn.1 := by rw [D.cl]; exact A.insOk
  have hcl_Curve : C.sc.2[0]? = some (A.C_Curve, at_Curve) := by rw [D.cl]; rfl
  have c_are_integers := @ok_are_integers P w mg base (C.at H F0 (FT (T ns) (fun _ => none) (j + 2))) A a ns D' (j + 0) (l + 0)
  exact ⟨[],
    (Sb.one (Ss.ret (Es.and (Es.b (Es.call 1 (c_are_integers) hG hr rfl A.g_are_integers A.F_are_integers.kp A.b_are_integers pass0 (Ea.cons (Es.var 0 (by decide) rfl (.inl rfl) rfl rfl) (Ea.cons Es.int Ea.nil rfl) rfl) rfl rfl rfl rfl)) (Es.one (Es.cmp .eq rfl hu65 (Es.b (Es.bin .sub rfl (Es.b (Es.bin .mul rfl (Es.b (Es.idx rfl (Eb.var 0 rfl (.inl rfl) rfl rfl) (Es.b Es.int) (by intro _ _; rfl))) (Es.b (Es.idx rfl (Eb.var 0 rfl (.inl rfl) rfl rfl) (Es.b Es.int) (by intro _ _; rfl))))) (Es.b (Es.bin .mul rfl (Es.b (Es.idx rfl (Eb.var 0 rfl (.inl rfl) rfl rfl) (Es.b Es.int) (by intro _ _; rfl))) (Es.b (Es.idx rfl (Eb.var 0 rfl (.inl rfl) rfl rfl) (Es.b Es.int) (by intro _ _; rfl))))))) (Es.b Es.int) rfl)))))⟩

theorem ok_Curve___init__ {P : Program} {w : World} {mg : Str → Option Value} {base : Heap} (C : Ct) (A : Fa C.K mg) (a : Addr) (ns : List Int) (D : Dc C n_1 n_2 n_3 a ns A.cl) (j l : Nat) : FnG P w C.K mg base CX0 (l + 2 + 1) A.f_Curve___init__ A.d_Curve___init__ p_Curve___init__ (spI C (FT (T ns) (fun _ => none) (j + 2 + 1) 14) 0 4) := by
  refine initOk A.F_Curve___init__ sc_Curve___init__ rfl 14 0 (n_Curve___init__ 13 12) (T ns) (fun _ => none) (j + 2) rfl rfl (by decide) rfl (fun cdv A0 outer s H H1 F0 x1 hG hr => ?_)
  have D' : Dc (C.atI H1 F0 (FT (T ns) (fun _ => none) (j + 2)) x1) n_1 n_2 n_3 a ns A.cl := ⟨D.n1, D.n2, D.n3, D.sc, D.cl⟩
  have hu := Pv.Room.u70 hr
  have hu65 := Pv.Room.u65 hr
  have hu1 := Pv.Room.u1 hr
  have hdk := dkn_of D'
  have hn3 := hn3_of D'
  have hn2 := hn2_of D'
  have hok : ClsOk C.K C.sc.2 := by rw [D.cl]; exact A.clsOk
  have hin : ∀ Cn ∈ C.sc.2, InsOk C.K Cn.1 := by rw [D.cl]; exact A.insOk
  have hcl_Curve : C.sc.2[0]? = some (A.C_Curve, at_Curve) := by rw [D.cl]; rfl
  have c_is_prime := @ok_is_prime P w mg base (C.atI H1 F0 (FT (T ns) (fun _ => none) (j + 2)) x1) A a ns D' (j + 0) (l + 0)
  have c_is_number := @ok_is_number P w mg base (C.atI H1 F0 (FT (T ns) (fun _ => none) (j + 2)) x1) A a ns D' (j + 0) (l + 0)
  exact (Sb.cons (Ss.ite (Et.not (Et.truth rfl (Es.b (Es.call 12 (c_is_prime) hG hr rfl A.g_is_prime A.F_is_prime.kp A.b_is_prime pass0 (Ea.cons (Es.var 1 (by decide) rfl (.inl rfl) rfl rfl) Ea.nil rfl) rfl rfl rfl rfl)) (fun _ => rfl))) (Sb.one Ss.bad) Sb.nil)
    (Sb.cons (Ss.ite (Et.not (Et.truth rfl (Es.b (Es.call 13 (c_is_number) hG hr rfl A.g_is_number A.F_is_number.kp A.b_is_number pass0 (Ea.cons (Es.var 1 (by decide) rfl (.inl rfl) rfl rfl) (Ea.cons (Es.var 2 (by decide) rfl (.inl rfl) rfl rfl) Ea.nil rfl) rfl) rfl rfl rfl rfl)) (fun _ => rfl))) (Sb.one Ss.bad) Sb.nil)
    (Sb.cons (Ss.ite (Et.not (Et.truth rfl (Es.b (Es.call 13 (c_is_number) hG hr rfl A.g_is_number A.F_is_number.kp A.b_is_number pass0 (Ea.cons (Es.var 1 (by decide) rfl (.inl rfl) rfl rfl) (Ea.cons (Es.var 3 (by decide) rfl (.inl rfl) rfl rfl) Ea.nil rfl) rfl) rfl rfl rfl rfl)) (fun _ => rfl))) (Sb.one Ss.bad) Sb.nil)
    (Sb.cons (Ss.ite (Et.cmp .eq rfl hu65 (Es.b (Es.bin .mod rfl (Es.b (Es.bin .add rfl (Es.b (Es.bin .mul rfl (Es.b (Es.bin .mul rfl (Es.b (Es.bin .mul rfl (Es.b Es.int) (Eb.var 2 rfl (.inl rfl) rfl rfl))) (Eb.var 2 rfl (.inl rfl) rfl rfl))) (Eb.var 2 rfl (.inl rfl) rfl rfl))) (Es.b (Es.bin .mul rfl (Es.b (Es.bin .mul rfl (Es.b Es.int) (Eb.var 3 rfl (.inl rfl) rfl rfl))) (Eb.var 3 rfl (.inl rfl) rfl rfl))))) (Eb.var 1 rfl (.inl rfl) rfl rfl))) (Es.b Es.int) rfl) (Sb.one Ss.bad) Sb.nil)
    (Sb.cons (Ss.setF 0 0 (by decide) rfl (.inl rfl) rfl rfl hcl_Curve (by decide) hok (Es.var 1 (by decide) rfl (.inl rfl) rfl rfl) rfl)
    (Sb.cons (Ss.setF 0 0 (by decide) rfl (.inl rfl) rfl rfl hcl_Curve (by decide) hok (Es.var 2 (by decide) rfl (.inl rfl) rfl rfl) rfl)
    (Sb.one (Ss.setF 0 0 (by decide) rfl (.inl rfl) rfl rfl hcl_Curve (by decide) hok (Es.var 3 (by decide) rfl (.inl rfl) rfl rfl) rfl))))))))

theorem ok__law_discriminant {P : Program} {w : World} {mg : Str → Option Value} {base : Heap} (C : Ct) (A : Fa C.K mg) (a : Addr) (ns : List Int) (D : Dc C n_1 n_2 n_3 a ns A.cl) (j l : Nat) : FnG P w C.K mg base CX0 (l + 2 + 1) A.f__law_discriminant A.d__law_discriminant p__law_discriminant (spS C (FT (T ns) (fun _ => none) (j + 2 + 1) 19) 1) := by
  refine defOk A.F__law_discriminant sc__law_discriminant rfl 19 (m__law_discriminant 16 17) (T ns) (fun _ => none) (j + 2) rfl rfl (by decide) (fun cdv A0 outer s H F0 hG hr => ?_)
  have D' : Dc (C.at H F0 (FT (T ns) (fun _ => none) (j + 2))) n_1 n_2 n_3 a ns A.cl := ⟨D.n1, D.n2, D.n3, D.sc, D.cl⟩
  have hu := Pv.Room.u70 hr
  have hu65 := Pv.Room.u65 hr
  have hu1 := Pv.Room.u1 hr
  have hdk := dkn_of D'
  have hn3 := hn3_of D'
  have hn2 := hn2_of D'
  have hok : ClsOk C.K C.sc.2 := by rw [D.cl]; exact A.clsOk
  have hin : ∀ Cn ∈ C.sc.2, InsOk C.K Cn.1 := by rw [D.cl]; exact A.insOk
  have hcl_Curve : C.sc.2[0]? = some (A.C_Curve, at_Curve) := by rw [D.cl]; rfl
  have c__law_draw := @ok__law_draw P w mg base (C.at H F0 (FT (T ns) (fun _ => none) (j + 2))) A a ns D' (j + 1) (l + 1)
  have c__law_pick := @ok__law_pick P w mg base (C.at H F0 (FT (T ns) (fun _ => none) (j + 2))) A a ns D' (j + 0) (l + 0)
  exact ⟨[],
    (Sb.cons (Ss.set (Es.call 16 (c__law_draw) hG hr rfl A.g__law_draw A.F__law_draw.kp A.b__law_draw pass0 (Ea.cons (Es.var 0 (by decide) rfl (.inl rfl) rfl rfl) (Ea.cons Es.int Ea.nil rfl) rfl) rfl rfl rfl rfl) (Eg.name 1 (by decide) sc__law_discriminant.nd rfl (.inl rfl) (.inr rfl)) rfl rfl rfl)
    (Sb.cons (Ss.ite (Et.cmp .eq rfl hu65 (Eb.var 1 rfl (.inl rfl) rfl rfl) (Es.b Es.int) rfl) (Sb.one (Ss.set (Es.bin .sub rfl (Es.b (Es.neg rfl (Es.b Es.int))) (Es.b (Es.call 16 (c__law_draw) hG hr rfl A.g__law_draw A.F__law_draw.kp A.b__law_draw pass0 (Ea.cons (Es.var 0 (by decide) rfl (.inl rfl) rfl rfl) (Ea.cons Es.int Ea.nil rfl) rfl) rfl rfl rfl rfl))) (Eg.name 2 (by decide) sc__law_discriminant.nd rfl (.inl rfl) (.inr rfl)) rfl rfl rfl)) (Sb.one (Ss.ite (Et.cmp .eq rfl hu65 (Eb.var 1 rfl (.inl rfl) rfl rfl) (Es.b Es.int) rfl) (Sb.one (Ss.set (Es.bin .sub rfl (Es.b (Es.neg rfl (Es.b Es.int))) (Es.b (Es.call 16 (c__law_draw) hG hr rfl A.g__law_draw A.F__law_draw.kp A.b__law_draw pass0 (Ea.cons (Es.var 0 (by decide) rfl (.inl rfl) rfl rfl) (Ea.cons Es.int Ea.nil rfl) rfl) rfl rfl rfl rfl))) (Eg.name 2 (by decide) sc__law_discriminant.nd rfl (.inl rfl) (.inr rfl)) rfl rfl rfl)) (Sb.cons (Ss.set (Es.tup (Ea.cons (Es.neg rfl (Es.b Es.int)) (Ea.cons (Es.neg rfl (Es.b Es.int)) (Ea.cons (Es.neg rfl (Es.b Es.int)) (Ea.cons (Es.neg rfl (Es.b Es.int)) (Ea.cons (Es.neg rfl (Es.b Es.int)) (Ea.cons (Es.neg rfl (Es.b Es.int)) (Ea.cons (Es.neg rfl (Es.b Es.int)) (Ea.cons (Es.neg rfl (Es.b Es.int)) (Ea.cons (Es.neg rfl (Es.b Es.int)) (Ea.cons (Es.neg rfl (Es.b Es.int)) (Ea.cons (Es.neg rfl (Es.b Es.int)) (Ea.cons (Es.neg rfl (Es.b Es.int)) (Ea.cons (Es.neg rfl (Es.b Es.int)) (Ea.cons (Es.neg rfl (Es.b Es.int)) Ea.nil rfl) rfl) rfl) rfl) rfl) rfl) rfl) rfl) rfl) rfl) rfl) rfl) rfl) rfl) (Nat.le_of_ble_eq_true rfl)) (Eg.name 3 (by decide) sc__law_discriminant.nd rfl (.inl rfl) (.inr rfl)) rfl rfl rfl)
        (Sb.cons (Ss.set (Es.call 17 (c__law_pick) hG hr rfl A.g__law_pick A.F__law_pick.kp A.b__law_pick pass0 (Ea.cons (Es.var 0 (by decide) rfl (.inl rfl) rfl rfl) (Ea.cons (Es.tup (Ea.cons Es.int (Ea.cons Es.int (Ea.cons Es.int (Ea.cons Es.int (Ea.cons Es.int (Ea.cons Es.int (Ea.cons Es.int (Ea.cons Es.int (Ea.cons Es.int (Ea.cons Es.int (Ea.cons Es.int (Ea.cons Es.int Ea.nil rfl) rfl) rfl) rfl) rfl) rfl) rfl) rfl) rfl) rfl) rfl) rfl) (Nat.le_of_ble_eq_true rfl)) Ea.nil rfl) rfl) rfl rfl rfl rfl) (Eg.name 4 (by decide) sc__law_discriminant.nd rfl (.inl rfl) (.inr rfl)) rfl rfl rfl)
        (Sb.one (Ss.set (Es.biB .max2 rfl (cb_max2 rfl) rfl A.z_max rfl (Eas.two (Es.b (Es.neg rfl (Es.b Es.int))) (Es.b (Es.bin .mul rfl (Es.b (Es.bin .mul rfl (Es.b (Es.call 17 (c__law_pick) hG hr rfl A.g__law_pick A.F__law_pick.kp A.b__law_pick pass0 (Ea.cons (Es.var 0 (by decide) rfl (.inl rfl) rfl rfl) (Ea.cons (Es.var 3 (by decide) rfl (.inl rfl) rfl rfl) Ea.nil rfl) rfl) rfl rfl rfl rfl)) (Eb.var 4 rfl (.inl rfl) rfl rfl))) (Eb.var 4 rfl (.inl rfl) rfl rfl))) rfl rfl) (by decide) rfl rfl rfl) (Eg.name 2 (by decide) sc__law_discriminant.nd rfl (.inl rfl) (.inr rfl)) rfl rfl rfl)))))))
    (Sb.one (Ss.ret (Es.bin .sub rfl (Eb.var 2 rfl (.inl rfl) rfl rfl) (Es.b (Es.dix rfl hu1 (Ef.b (Ef.ddisp (Ep.cons Es.int Es.int (Ep.cons Es.int Es.int (Ep.cons Es.int Es.int (Ep.cons Es.int Es.int Ep.nil)))) rfl rfl (List.cons_ne_nil _ _) (Nat.le_of_ble_eq_true rfl) (Nat.le_of_ble_eq_true rfl))) (Es.b (Es.bin .mod rfl (Es.b (Es.biT .toInt rfl cb_toInt rfl A.z_int rfl (Eas.one (Eb.var 2 rfl (.inl rfl) rfl rfl) rfl) (by decide) rfl rfl rfl)) (Es.b Es.int))) (by intro _ _; rfl))))))))⟩

theorem ok__law_is_form {P : Program} {w : World} {mg : Str → Option Value} {base : Heap} (C : Ct) (A : Fa C.K mg) (a : Addr) (ns : List Int) (D : Dc C n_1 n_2 n_3 a ns A.cl) (j l : Nat) : FnG P w C.K mg base CX0 (l + 2 + 1) A.f__law_is_form A.d__law_is_form p__law_is_form (spS C (FT (T ns) (fun _ => none) (j + 2 + 1) 27) 1) := by
  refine defOk A.F__law_is_form sc__law_is_form rfl 27 (m__law_is_form 26 18 25) (T ns) (fun _ => none) (j + 2) rfl rfl (by decide) (fun cdv A0 outer s H F0 hG hr => ?_)
  have D' : Dc (C.at H F0 (FT (T ns) (fun _ => none) (j + 2))) n_1 n_2 n_3 a ns A.cl := ⟨D.n1, D.n2, D.n3, D.sc, D.cl⟩
  have hu := Pv.Room.u70 hr
  have hu65 := Pv.Room.u65 hr
  have hu1 := Pv.Room.u1 hr
  have hdk := dkn_of D'
  have hn3 := hn3_of D'
  have hn2 := hn2_of D'
  have hok : ClsOk C.K C.sc.2 := by rw [D.cl]; exact A.clsOk
  have hin : ∀ Cn ∈ C.sc.2, InsOk C.K Cn.1 := by rw [D.cl]; exact A.insOk
  have hcl_Curve : C.sc.2[0]? = some (A.C_Curve, at_Curve) := by rw [D.cl]; rfl
  have c__law_gcd := @ok__law_gcd P w mg base (C.at H F0 (FT (T ns) (fun _ => none) (j + 2))) A a ns D' (j + 1) (l + 1)
  have c__law_is_discriminant := @ok__law_is_discriminant P w mg base (C.at H F0 (FT (T ns) (fun _ => none) (j + 2))) A a ns D' (j + 0) (l + 0)
  have c__law_are_integers := @ok__law_are_integers P w mg base (C.at H F0 (FT (T ns) (fun _ => none) (j + 2))) A a ns D' (j + 0) (l + 0)
  exact ⟨[],
    (Sb.cons (Ss.ite (Et.not (Et.truth rfl (Es.b (Es.call 26 (c__law_are_integers) hG hr rfl A.g__law_are_integers A.F__law_are_integers.kp A.b__law_are_integers pass0 (Ea.cons (Es.var 0 (by decide) rfl (.inl rfl) rfl rfl) (Ea.cons Es.int Ea.nil rfl) rfl) rfl rfl rfl rfl)) (fun _ => rfl))) (Sb.one (Ss.ret Es.bl)) Sb.nil)
    (Sb.cons (Ss.set (Es.var 0 (by decide) rfl (.inl rfl) rfl rfl) (Eg.tup rfl rfl (Egs.cons (Eg.name 1 (by decide) sc__law_is_form.nd rfl (.inl rfl) (.inr rfl)) (Egs.cons (Eg.name 2 (by decide) sc__law_is_form.nd rfl (.inl rfl) (.inr rfl)) (Egs.cons (Eg.name 3 (by decide) sc__law_is_form.nd rfl (.inl rfl) (.inr rfl)) Egs.nil rfl) rfl) rfl) (by decide) rfl rfl) rfl rfl rfl)
    (Sb.one (Ss.ret (Es.and (Es.b (Es.cmp .gt rfl hu65 (Eb.var 1 rfl (.inl rfl) rfl rfl) (Es.b Es.int) rfl)) (Es.and (Es.b (Es.call 25 (c__law_is_discriminant) hG hr rfl A.g__law_is_discriminant A.F__law_is_discriminant.kp A.b__law_is_discriminant pass0 (Ea.cons (Es.bin .sub rfl (Es.b (Es.bin .mul rfl (Eb.var 2 rfl (.inl rfl) rfl rfl) (Eb.var 2 rfl (.inl rfl) rfl rfl))) (Es.b (Es.bin .mul rfl (Es.b (Es.bin .mul rfl (Es.b Es.int) (Eb.var 1 rfl (.inl rfl) rfl rfl))) (Eb.var 3 rfl (.inl rfl) rfl rfl)))) Ea.nil rfl) rfl rfl rfl rfl)) (Es.one (Es.cmp .eq rfl hu65 (Es.b (Es.call 18 (c__law_gcd) hG hr rfl A.g__law_gcd A.F__law_gcd.kp A.b__law_gcd pass0 (Ea.cons (Es.call 18 (c__law_gcd) hG hr rfl A.g__law_gcd A.F__law_gcd.kp A.b__law_gcd pass0 (Ea.cons (Es.var 1 (by decide) rfl (.inl rfl) rfl rfl) (Ea.cons (Es.var 2 (by decide) rfl (.inl rfl) rfl rfl) Ea.nil rfl) rfl) rfl rfl rfl rfl) (Ea.cons (Es.var 3 (by decide) rfl (.inl rfl) rfl rfl) Ea.nil rfl) rfl) rfl rfl rfl rfl)) (Es.b Es.int) rfl))))))))⟩

theorem ok__law_is_matrix {P : Program} {w : World} {mg : Str → Option Value} {base : Heap} (C : Ct) (A : Fa C.K mg) (a : Addr) (ns : List Int) (D : Dc C n_1 n_2 n_3 a ns A.cl) (j l : Nat) : FnG P w C.K mg base CX0 (l + 2 + 1) A.f__law_is_matrix A.d__law_is_matrix p__law_is_matrix (spS C (FT (T ns) (fun _ => none) (j + 2 + 1) 29) 1) := by
  refine defOk A.F__law_is_matrix sc__law_is_matrix rfl 29 (m__law_is_matrix 26) (T ns) (fun _ => none) (j + 2) rfl rfl (by decide) (fun cdv A0 outer s H F0 hG hr => ?_)
  have D' : Dc (C.at H F0 (FT (T ns) (fun _ => none) (j + 2))) n_1 n_2 n_3 a ns A.cl := ⟨D.n1, D.n2, D.n3, D.sc, D.cl⟩
  have hu := Pv.Room.u70 hr
  have hu65 := Pv.Room.u65 hr
  have hu1 := Pv.Room.u1 hr
  have hdk := dkn_of D'
  have hn3 := hn3_of D'
  have hn2 := hn2_of D'
  have hok : ClsOk C.K C.sc.2 := by rw [D.cl]; exact A.clsOk
  have hin : ∀ Cn ∈ C.sc.2, InsOk C.K Cn.1 := by rw [D.cl]; exact A.insOk
  have hcl_Curve : C.sc.2[0]? = some (A.C_Curve, at_Curve) := by rw [D.cl]; rfl
  have c__law_are_integers := @ok__law_are_integers P w mg base (C.at H F0 (FT (T ns) (fun _ => none) (j + 2))) A a ns D' (j + 0) (l + 0)
  exact ⟨[],
    (Sb.one (Ss.ret (Es.and (Es.b (Es.call 26 (c__law_are_integers) hG hr rfl A.g__law_are_integers A.F__law_are_integers.kp A.b__law_are_integers pass0 (Ea.cons (Es.var 0 (by decide) rfl (.inl rfl) rfl rfl) (Ea.cons Es.int Ea.nil rfl) rfl) rfl rfl rfl rfl)) (Es.one (Es.cmp .eq rfl hu65 (Es.b (Es.bin .sub rfl (Es.b (Es.bin .mul rfl (Es.b (Es.idx rfl (Eb.var 0 rfl (.inl rfl) rfl rfl) (Es.b Es.int) (by intro _ _; rfl))) (Es.b (Es.idx rfl (Eb.var 0 rfl (.inl rfl) rfl rfl) (Es.b Es.int) (by intro _ _; rfl))))) (Es.b (Es.bin .mul rfl (Es.b (Es.idx rfl (Eb.var 0 rfl (.inl rfl) rfl rfl) (Es.b Es.int) (by intro _ _; rfl))) (Es.b (Es.idx rfl (Eb.var 0 rfl (.inl rfl) rfl rfl) (Es.b Es.int) (by intro _ _; rfl))))))) (Es.b Es.int) rfl)))))⟩

theorem ok__law_fundamental {P : Program} {w : World} {mg : Str → Option Value} {base : Heap} (C : Ct) (A : Fa C.K mg) (a : Addr) (ns : List Int) (D : Dc C n_1 n_2 n_3 a ns A.cl) (j l : Nat) : FnG P w C.K mg base CX0 (l + 2 + 1) A.f__law_fundamental A.d__law_fundamental p__law_fundamental (spS C (FT (T ns) (fun _ => none) (j + 2 + 1) 30) 1) := by
  refine defOk A.F__law_fundamental sc__law_fundamental rfl 30 (m__law_fundamental 25) (T ns) (fun _ => none) (j + 2) rfl rfl (by decide) (fun cdv A0 outer s H F0 hG hr => ?_)
  have D' : Dc (C.at H F0 (FT (T ns) (fun _ => none) (j + 2))) n_1 n_2 n_3 a ns A.cl := ⟨D.n1, D.n2, D.n3, D.sc, D.cl⟩
  have hu := Pv.Room.u70 hr
  have hu65 := Pv.Room.u65 hr
  have hu1 := Pv.Room.u1 hr
  have hdk := dkn_of D'
  have hn3 := hn3_of D'
  have hn2 := hn2_of D'
  have hok : ClsOk C.K C.sc.2 := by rw [D.cl]; exact A.clsOk
  have hin : ∀ Cn ∈ C.sc.2, InsOk C.K Cn.1 := by rw [D.cl]; exact A.insOk
  have hcl_Curve : C.sc.2[0]? = some (A.C_Curve, at_Curve) := by rw [D.cl]; rfl
  have c__law_is_discriminant := @ok__law_is_discriminant P w mg base (C.at H F0 (FT (T ns) (fun _ => none) (j + 2))) A a ns D' (j + 0) (l + 0)
  exact ⟨[],
    (Sb.cons (Ss.post (Ow1 := [1]) (Ow' := []) (Ss.ownLc 1 rfl sc__law_fundamental.nd rfl rfl rfl (Ei.rng2 rfl A.z_range (Ea.cons Es.int (Ea.cons Es.int Ea.nil rfl) rfl) rfl rfl) bk__law_fundamental_0 rfl (fun _ _ _ _ _ => (Eg.name 2 (by decide) sc__law_fundamental.nd rfl (.inl rfl) (.inr rfl))) (fun _ _ _ _ _ => (Ec.one (Ew.t (Ew.and (Et.cmp .eq rfl hu65 (Es.b (Es.bin .mod rfl (Es.b (Es.biT .toInt rfl cb_toInt rfl A.z_int rfl (Eas.one (Eb.var 0 rfl (.inr (.inl rfl)) rfl rfl) rfl) (by decide) rfl rfl rfl)) (Es.b (Es.bin .mul rfl (Eb.var 2 rfl (.inl rfl) rfl rfl) (Eb.var 2 rfl (.inl rfl) rfl rfl))))) (Es.b Es.int) rfl) (Ew.one (Et.truth rfl (Es.b (Es.call 25 (c__law_is_discriminant) hG hr rfl A.g__law_is_discriminant A.F__law_is_discriminant.kp A.b__law_is_discriminant pass0 (Ea.cons (Es.bin .fdiv rfl (Eb.var 0 rfl (.inr (.inl rfl)) rfl rfl) (Es.b (Es.bin .mul rfl (Eb.var 2 rfl (.inl rfl) rfl rfl) (Eb.var 2 rfl (.inl rfl) rfl rfl)))) Ea.nil rfl) rfl rfl rfl rfl)) (fun _ => rfl))))))) (fun _ _ _ _ _ => (Es.var 2 (by decide) rfl (.inl rfl) rfl rfl)) (fun _ => rfl) (by decide) (.inl rfl)) (by decide))
    (Sb.one (Ss.ret (Es.tup (Ea.cons (Es.idx rfl (Eb.var 1 rfl (.inl rfl) rfl rfl) (Es.b (Es.neg rfl (Es.b Es.int))) (by intro _ _; rfl)) (Ea.cons (Es.bin .fdiv rfl (Eb.var 0 rfl (.inr (.inl rfl)) rfl rfl) (Es.b (Es.bin .mul rfl (Es.b (Es.idx rfl (Eb.var 1 rfl (.inl rfl) rfl rfl) (Es.b (Es.neg rfl (Es.b Es.int))) (by intro _ _; rfl))) (Es.b (Es.idx rfl (Eb.var 1 rfl (.inl rfl) rfl rfl) (Es.b (Es.neg rfl (Es.b Es.int))) (by intro _ _; rfl)))))) Ea.nil rfl) rfl) (Nat.le_of_ble_eq_true rfl)))))⟩

theorem ok__law_bent {P : Program} {w : World} {mg : Str → Option Value} {base : Heap} (C : Ct) (A : Fa C.K mg) (a : Addr) (ns : List Int) (D : Dc C n_1 n_2 n_3 a ns A.cl) (j l : Nat) : FnG P w C.K mg base CX0 (l + 2 + 1) A.f__law_bent A.d__law_bent p__law_bent (spS C (FT (T ns) (fun _ => none) (j + 2 + 1) 31) 2) := by
  refine defOk A.F__law_bent sc__law_bent rfl 31 (m__law_bent 16 17) (T ns) (fun _ => none) (j + 2) rfl rfl (by decide) (fun cdv A0 outer s H F0 hG hr => ?_)
  have D' : Dc (C.at H F0 (FT (T ns) (fun _ => none) (j + 2))) n_1 n_2 n_3 a ns A.cl := ⟨D.n1, D.n2, D.n3, D.sc, D.cl⟩
  have hu := Pv.Room.u70 hr
  have hu65 := Pv.Room.u65 hr
  have hu1 := Pv.Room.u1 hr
  have hdk := dkn_of D'
  have hn3 := hn3_of D'
  have hn2 := hn2_of D'
  have hok : ClsOk C.K C.sc.2 := by rw [D.cl]; exact A.clsOk
  have hin : ∀ Cn ∈ C.sc.2, InsOk C.K Cn.1 := by rw [D.cl]; exact A.insOk
  have hcl_Curve : C.sc.2[0]? = some (A.C_Curve, at_Curve) := by rw [D.cl]; rfl
  have c__law_draw := @ok__law_draw P w mg base (C.at H F0 (FT (T ns) (fun _ => none) (j + 2))) A a ns D' (j + 1) (l + 1)
  have c__law_pick := @ok__law_pick P w mg base (C.at H F0 (FT (T ns) (fun _ => none) (j + 2))) A a ns D' (j + 0) (l + 0)
  exact ⟨[],
    (Sb.cons (Ss.set (Es.tup (Ea.cons (Es.call 16 (c__law_draw) hG hr rfl A.g__law_draw A.F__law_draw.kp A.b__law_draw pass0 (Ea.cons (Es.var 0 (by decide) rfl (.inl rfl) rfl rfl) (Ea.cons (Es.biB .len rfl cb_len rfl A.z_len rfl (Eas.one (Eb.var 1 rfl (.inl rfl) rfl rfl) rfl) (by decide) rfl rfl rfl) Ea.nil rfl) rfl) rfl rfl rfl rfl) (Ea.cons (Es.bin .add rfl (Es.b (Es.call 16 (c__law_draw) hG hr rfl A.g__law_draw A.F__law_draw.kp A.b__law_draw pass0 (Ea.cons (Es.var 0 (by decide) rfl (.inl rfl) rfl rfl) (Ea.cons Es.int Ea.nil rfl) rfl) rfl rfl rfl rfl)) (Es.b Es.int)) Ea.nil rfl) rfl) (Nat.le_of_ble_eq_true rfl)) (Eg.tup rfl rfl (Egs.cons (Eg.name 2 (by decide) sc__law_bent.nd rfl (.inl rfl) (.inr rfl)) (Egs.cons (Eg.name 3 (by decide) sc__law_bent.nd rfl (.inr rfl) (.inl rfl)) Egs.nil rfl) rfl) (by decide) rfl rfl) rfl rfl rfl)
    (Sb.cons (Ss.set (Es.call 17 (c__law_pick) hG hr rfl A.g__law_pick A.F__law_pick.kp A.b__law_pick pass0 (Ea.cons (Es.var 0 (by decide) rfl (.inl rfl) rfl rfl) (Ea.cons (Es.tup (Ea.cons Es.non (Ea.cons Es.bl (Ea.cons Es.bl (Ea.cons Es.str (Ea.cons (Es.tup (Ea.cons (Es.idx rfl (Eb.var 1 rfl (.inl rfl) rfl rfl) (Eb.var 2 rfl (.inl rfl) rfl rfl) (by intro _ _; rfl)) Ea.nil rfl) (Nat.le_of_ble_eq_true rfl)) (Ea.cons (Ef.s (Ef.lst (Ea.cons (Es.idx rfl (Eb.var 1 rfl (.inl rfl) rfl rfl) (Eb.var 2 rfl (.inl rfl) rfl rfl) (by intro _ _; rfl)) Ea.nil rfl) (Nat.le_of_ble_eq_true rfl))) (Ea.cons Es.int (Ea.cons (Es.neg rfl (Es.b Es.int)) (Ea.cons (Es.bin .pow rfl (Es.b Es.int) (Es.b Es.int)) (Ea.cons (Es.bin .sub rfl (Es.b Es.int) (Es.b (Es.bin .pow rfl (Es.b Es.int) (Es.b Es.int)))) (Ea.cons (Ef.s Ef.dnew) (Ea.cons Es.str (Ea.cons Es.int Ea.nil rfl) rfl) rfl) rfl) rfl) rfl) rfl) rfl) rfl) rfl) rfl) rfl) rfl) (Nat.le_of_ble_eq_true rfl)) Ea.nil rfl) rfl) rfl rfl rfl rfl) (Eg.name 4 (by decide) sc__law_bent.nd rfl (.inl rfl) (.inr rfl)) rfl rfl rfl)
    (Sb.cons (Ss.set (Ef.s (Ef.lst (Ea.cons (Es.var 1 (by decide) rfl (.inl rfl) rfl rfl) (Ea.cons (Es.biT .toList rfl cb_toList rfl A.z_list rfl (Eas.one (Eb.var 1 rfl (.inl rfl) rfl rfl) rfl) (by decide) rfl rfl rfl) (Ea.cons (Es.slc rfl (Eb.var 1 rfl (.inl rfl) rfl rfl) Eo.none (Eo.int (Es.b (Es.neg rfl (Es.b Es.int))))) (Ea.cons (Es.bin .add rfl (Eb.var 1 rfl (.inl rfl) rfl rfl) (Es.b (Es.tup (Ea.cons Es.int Ea.nil rfl) (Nat.le_of_ble_eq_true rfl)))) (Ea.cons (Es.rev rfl (Eb.var 1 rfl (.inl rfl) rfl rfl)) (Ea.cons (Es.bin .add rfl (Es.b (Es.slc rfl (Eb.var 1 rfl (.inl rfl) rfl rfl) (Eo.int (Eb.var 2 rfl (.inl rfl) rfl rfl)) Eo.none)) (Es.b (Es.slc rfl (Eb.var 1 rfl (.inl rfl) rfl rfl) Eo.none (Eo.int (Eb.var 2 rfl (.inl rfl) rfl rfl))))) (Ea.cons (Es.tup (Ea.cons (Es.var 1 (by decide) rfl (.inl rfl) rfl rfl) Ea.nil rfl) (Nat.le_of_ble_eq_true rfl)) (Ea.cons Es.non (Ea.cons Es.str (Ea.cons (Ef.s Ef.dnew) (Ea.cons Es.int (Ea.cons Es.bl (Ea.cons (Es.tup Ea.nil (Nat.le_of_ble_eq_true rfl)) (Ea.cons (Es.bin .add rfl (Es.b (Es.bin .add rfl (Es.b (Es.slc rfl (Eb.var 1 rfl (.inl rfl) rfl rfl) Eo.none (Eo.int (Eb.var 2 rfl (.inl rfl) rfl rfl)))) (Es.b (Es.tup (Ea.cons (Es.var 4 (by decide) rfl (.inl rfl) rfl rfl) Ea.nil rfl) (Nat.le_of_ble_eq_true rfl))))) (Es.b (Es.slc rfl (Eb.var 1 rfl (.inl rfl) rfl rfl) (Eo.int (Es.b (Es.bin .add rfl (Eb.var 2 rfl (.inl rfl) rfl rfl) (Es.b Es.int)))) Eo.none))) (Ea.cons (Es.bin .add rfl (Es.b (Es.bin .add rfl (Es.b (Es.slc rfl (Eb.var 1 rfl (.inl rfl) rfl rfl) Eo.none (Eo.int (Eb.var 2 rfl (.inl rfl) rfl rfl)))) (Es.b (Es.tup (Ea.cons (Es.bin .add rfl (Es.b (Es.idx rfl (Eb.var 1 rfl (.inl rfl) rfl rfl) (Eb.var 2 rfl (.inl rfl) rfl rfl) (by intro _ _; rfl))) (Eb.var 3 rfl (.inr (.inl rfl)) rfl rfl)) Ea.nil rfl) (Nat.le_of_ble_eq_true rfl))))) (Es.b (Es.slc rfl (Eb.var 1 rfl (.inl rfl) rfl rfl) (Eo.int (Es.b (Es.bin .add rfl (Eb.var 2 rfl (.inl rfl) rfl rfl) (Es.b Es.int)))) Eo.none))) (Ea.cons (Ef.s (Ef.lst (Ea.cons (Es.var 1 (by decide) rfl (.inl rfl) rfl rfl) Ea.nil rfl) (Nat.le_of_ble_eq_true rfl))) (Ea.cons (Es.biT .toStr rfl (cb_toStr hG hu) rfl A.z_str rfl (Eas.one (Eb.var 1 rfl (.inl rfl) rfl rfl) rfl) (by decide) rfl rfl rfl) (Ea.cons (Es.biT .toTuple rfl cb_toTuple rfl A.z_tuple rfl (Eas.one (Ef.b (Ef.comp rfl sc__law_bent.nd (Ei.seq rfl (Es.var 1 (by decide) rfl (.inl rfl) rfl rfl)) bk__law_bent_1 rfl (fun _ _ _ _ _ => (Eg.name 6 (by decide) sc__law_bent.nd rfl (.inl rfl) (.inr rfl))) (fun _ _ _ _ _ => Ec.none) (fun _ _ _ _ _ => (Es.bin .sub rfl (Es.b Es.int) (Eb.var 6 rfl (.inl rfl) rfl rfl))) (fun _ => rfl) (by decide))) rfl) (by decide) rfl rfl rfl) (Ea.cons (Es.biT .toTuple rfl cb_toTuple rfl A.z_tuple rfl (Eas.one (Ef.b (Ef.comp rfl sc__law_bent.nd (Ei.seq rfl (Es.var 1 (by decide) rfl (.inl rfl) rfl rfl)) bk__law_bent_0 rfl (fun _ _ _ _ _ => (Eg.name 6 (by decide) sc__law_bent.nd rfl (.inl rfl) (.inr rfl))) (fun _ _ _ _ _ => Ec.none) (fun _ _ _ _ _ => (Es.bin .mul rfl (Eb.var 3 rfl (.inr (.inl rfl)) rfl rfl) (Eb.var 6 rfl (.inl rfl) rfl rfl))) (fun _ => rfl) (by decide))) rfl) (by decide) rfl rfl rfl) (Ea.cons (Es.bin .add rfl (Es.b (Es.slc rfl (Eb.var 1 rfl (.inl rfl) rfl rfl) Eo.none (Eo.int (Eb.var 2 rfl (.inl rfl) rfl rfl)))) (Es.b (Es.slc rfl (Eb.var 1 rfl (.inl rfl) rfl rfl) (Eo.int (Es.b (Es.bin .add rfl (Eb.var 2 rfl (.inl rfl) rfl rfl) (Es.b Es.int)))) Eo.none))) (Ea.cons (Es.bin .add rfl (Es.b (Es.bin .add rfl (Es.b (Es.slc rfl (Eb.var 1 rfl (.inl rfl) rfl rfl) Eo.none (Eo.int (Eb.var 2 rfl (.inl rfl) rfl rfl)))) (Es.b (Es.tup (Ea.cons (Es.bin .sub rfl (Es.b Es.int) (Es.b (Es.idx rfl (Eb.var 1 rfl (.inl rfl) rfl rfl) (Eb.var 2 rfl (.inl rfl) rfl rfl) (by intro _ _; rfl)))) Ea.nil rfl) (Nat.le_of_ble_eq_true rfl))))) (Es.b (Es.slc rfl (Eb.var 1 rfl (.inl rfl) rfl rfl) (Eo.int (Es.b (Es.bin .add rfl (Eb.var 2 rfl (.inl rfl) rfl rfl) (Es.b Es.int)))) Eo.none))) (Ea.cons (Es.bin .add rfl (Es.b (Es.bin .add rfl (Es.b (Es.slc rfl (Eb.var 1 rfl (.inl rfl) rfl rfl) Eo.none (Eo.int (Eb.var 2 rfl (.inl rfl) rfl rfl)))) (Es.b (Es.tup (Ea.cons (Es.bin .sub rfl (Es.b (Es.idx rfl (Eb.var 1 rfl (.inl rfl) rfl rfl) (Eb.var 2 rfl (.inl rfl) rfl rfl) (by intro _ _; rfl))) (Eb.var 3 rfl (.inr (.inl rfl)) rfl rfl)) Ea.nil rfl) (Nat.le_of_ble_eq_true rfl))))) (Es.b (Es.slc rfl (Eb.var 1 rfl (.inl rfl) rfl rfl) (Eo.int (Es.b (Es.bin .add rfl (Eb.var 2 rfl (.inl rfl) rfl rfl) (Es.b Es.int)))) Eo.none))) Ea.nil rfl) rfl) rfl) rfl) rfl) rfl) rfl) rfl) rfl) rfl) rfl) rfl) rfl) rfl) rfl) rfl) rfl) rfl) rfl) rfl) rfl) rfl) (Nat.le_of_ble_eq_true rfl))) (Eg.name 5 (by decide) sc__law_bent.nd rfl (.inl rfl) (.inr rfl)) rfl rfl rfl)
    (Sb.one (Ss.ret (Es.call 17 (c__law_pick) hG hr rfl A.g__law_pick A.F__law_pick.kp A.b__law_pick pass0 (Ea.cons (Es.var 0 (by decide) rfl (.inl rfl) rfl rfl) (Ea.cons (Es.var 5 (by decide) rfl (.inl rfl) rfl rfl) Ea.nil rfl) rfl) rfl rfl rfl rfl))))))⟩

theorem ok_is_reduced {P : Program} {w : World} {mg : Str → Option Value} {base : Heap} (C : Ct) (A : Fa C.K mg) (a : Addr) (ns : List Int) (D : Dc C n_1 n_2 n_3 a ns A.cl) (j l : Nat) : FnG P w C.K mg base CX0 (l + 3 + 1) A.f_is_reduced A.d_is_reduced p_is_reduced (spS C (FT (T ns) (fun _ => none) (j + 3 + 1) 7) 1) := by
  refine defOk A.F_is_reduced sc_is_reduced rfl 7 (m_is_reduced 6) (T ns) (fun _ => none) (j + 3) rfl rfl (by decide) (fun cdv A0 outer s H F0 hG hr => ?_)
  have D' : Dc (C.at H F0 (FT (T ns) (fun _ => none) (j + 3))) n_1 n_2 n_3 a ns A.cl := ⟨D.n1, D.n2, D.n3, D.sc, D.cl⟩
  have hu := Pv.Room.u70 hr
  have hu65 := Pv.Room.u65 hr
  have hu1 := Pv.Room.u1 hr
  have hdk := dkn_of D'
  have hn3 := hn3_of D'
  have hn2 := hn2_of D'
  have hok : ClsOk C.K C.sc.2 := by rw [D.cl]; exact A.clsOk
  have hin : ∀ Cn ∈ C.sc.2, InsOk C.K Cn.1 := by rw [D.cl]; exact A.insOk
  have hcl_Curve : C.sc.2[0]? = some (A.C_Curve, at_Curve) := by rw [D.cl]; rfl
  have c_is_form := @ok_is_form P w mg base (C.at H F0 (FT (T ns) (fun _ => none) (j + 3))) A a ns D' (j + 0) (l + 0)
  exact ⟨[],
    (Sb.cons (Ss.ite (Et.not (Et.truth rfl (Es.b (Es.call 6 (c_is_form) hG hr rfl A.g_is_form A.F_is_form.kp A.b_is_form pass0 (Ea.cons (Es.var 0 (by decide) rfl (.inl rfl) rfl rfl) Ea.nil rfl) rfl rfl rfl rfl)) (fun _ => rfl))) (Sb.one (Ss.ret Es.bl)) Sb.nil)
    (Sb.cons (Ss.set (Es.var 0 (by decide) rfl (.inl rfl) rfl rfl) (Eg.tup rfl rfl (Egs.cons (Eg.name 1 (by decide) sc_is_reduced.nd rfl (.inl rfl) (.inr rfl)) (Egs.cons (Eg.name 2 (by decide) sc_is_reduced.nd rfl (.inl rfl) (.inr rfl)) (Egs.cons (Eg.name 3 (by decide) sc_is_reduced.nd rfl (.inl rfl) (.inr rfl)) Egs.nil rfl) rfl) rfl) (by decide) rfl rfl) rfl rfl rfl)
    (Sb.one (Ss.ret (Es.and (Es.b (Es.chain3 .lt .le .le rfl hu65 (Es.b (Es.neg rfl (Eb.var 1 rfl (.inl rfl) rfl rfl))) (Eb.var 2 rfl (.inl rfl) rfl rfl) (Eb.var 1 rfl (.inl rfl) rfl rfl) (Eb.var 3 rfl (.inl rfl) rfl rfl) rfl)) (Es.one (Es.not rfl (Es.b (Es.and (Es.b (Es.cmp .eq rfl hu65 (Eb.var 1 rfl (.inl rfl) rfl rfl) (Eb.var 3 rfl (.inl rfl) rfl rfl) rfl)) (Es.one (Es.cmp .lt rfl hu65 (Eb.var 2 rfl (.inl rfl) rfl rfl) (Es.b Es.int) rfl)))))))))))⟩

theorem ok_discriminant_of {P : Program} {w : World} {mg : Str → Option Value} {base : Heap} (C : Ct) (A : Fa C.K mg) (a : Addr) (ns : List Int) (D : Dc C n_1 n_2 n_3 a ns A.cl) (j l : Nat) : FnG P w C.K mg base CX0 (l + 3 + 1) A.f_discriminant_of A.d_discriminant_of p_discriminant_of (spS C (FT (T ns) (fun _ => none) (j + 3 + 1) 10) 1) := by
  refine defOk A.F_discriminant_of sc_discriminant_of rfl 10 (m_discriminant_of 5 6) (T ns) (fun _ => none) (j + 3) rfl rfl (by decide) (fun cdv A0 outer s H F0 hG hr => ?_)
  have D' : Dc (C.at H F0 (FT (T ns) (fun _ => none) (j + 3))) n_1 n_2 n_3 a ns A.cl := ⟨D.n1, D.n2, D.n3, D.sc, D.cl⟩
  have hu := Pv.Room.u70 hr
  have hu65 := Pv.Room.u65 hr
  have hu1 := Pv.Room.u1 hr
  have hdk := dkn_of D'
  have hn3 := hn3_of D'
  have hn2 := hn2_of D'
  have hok : ClsOk C.K C.sc.2 := by rw [D.cl]; exact A.clsOk
  have hin : ∀ Cn ∈ C.sc.2, InsOk C.K Cn.1 := by rw [D.cl]; exact A.insOk
  have hcl_Curve : C.sc.2[0]? = some (A.C_Curve, at_Curve) := by rw [D.cl]; rfl
  have c_discriminant_at := @ok_discriminant_at P w mg base (C.at H F0 (FT (T ns) (fun _ => none) (j + 3))) A a ns D' (j + 2) (l + 2)
  have c_is_form := @ok_is_form P w mg base (C.at H F0 (FT (T ns) (fun _ => none) (j + 3))) A a ns D' (j + 0) (l + 0)
  exact ⟨[],
    (Sb.cons (Ss.ite (Et.not (Et.truth rfl (Es.b (Es.call 6 (c_is_form) hG hr rfl A.g_is_form A.F_is_form.kp A.b_is_form pass0 (Ea.cons (Es.var 0 (by decide) rfl (.inl rfl) rfl rfl) Ea.nil rfl) rfl rfl rfl rfl)) (fun _ => rfl))) (Sb.one Ss.bad) Sb.nil)
    (Sb.one (Ss.ret (Es.call 5 (c_discriminant_at) hG hr rfl A.g_discriminant_at A.F_discriminant_at.kp A.b_discriminant_at pass0 (Ea.cons (Es.var 0 (by decide) rfl (.inl rfl) rfl rfl) Ea.nil rfl) rfl rfl rfl rfl))))⟩

theorem ok__law_is_reduced {P : Program} {w : World} {mg : Str → Option Value} {base : Heap} (C : Ct) (A : Fa C.K mg) (a : Addr) (ns : List Int) (D : Dc C n_1 n_2 n_3 a ns A.cl) (j l : Nat) : FnG P w C.K mg base CX0 (l + 3 + 1) A.f__law_is_reduced A.d__law_is_reduced p__law_is_reduced (spS C (FT (T ns) (fun _ => none) (j + 3 + 1) 28) 1) := by
  refine defOk A.F__law_is_reduced sc__law_is_reduced rfl 28 (m__law_is_reduced 27) (T ns) (fun _ => none) (j + 3) rfl rfl (by decide) (fun cdv A0 outer s H F0 hG hr => ?_)
  have D' : Dc (C.at H F0 (FT (T ns) (fun _ => none) (j + 3))) n_1 n_2 n_3 a ns A.cl := ⟨D.n1, D.n2, D.n3, D.sc, D.cl⟩
  have hu := Pv.Room.u70 hr
  have hu65 := Pv.Room.u65 hr
  have hu1 := Pv.Room.u1 hr
  have hdk := dkn_of D'
  have hn3 := hn3_of D'
  have hn2 := hn2_of D'
  have hok : ClsOk C.K C.sc.2 := by rw [D.cl]; exact A.clsOk
  have hin : ∀ Cn ∈ C.sc.2, InsOk C.K Cn.1 := by rw [D.cl]; exact A.insOk
  have hcl_Curve : C.sc.2[0]? = some (A.C_Curve, at_Curve) := by rw [D.cl]; rfl
  have c__law_is_form := @ok__law_is_form P w mg base (C.at H F0 (FT (T ns) (fun _ => none) (j + 3))) A a ns D' (j + 0) (l + 0)
  exact ⟨[],
    (Sb.cons (Ss.ite (Et.not (Et.truth rfl (Es.b (Es.call 27 (c__law_is_form) hG hr rfl A.g__law_is_form A.F__law_is_form.kp A.b__law_is_form pass0 (Ea.cons (Es.var 0 (by decide) rfl (.inl rfl) rfl rfl) Ea.nil rfl) rfl rfl rfl rfl)) (fun _ => rfl))) (Sb.one (Ss.ret Es.bl)) Sb.nil)
    (Sb.cons (Ss.set (Es.var 0 (by decide) rfl (.inl rfl) rfl rfl) (Eg.tup rfl rfl (Egs.cons (Eg.name 1 (by decide) sc__law_is_reduced.nd rfl (.inl rfl) (.inr rfl)) (Egs.cons (Eg.name 2 (by decide) sc__law_is_reduced.nd rfl (.inl rfl) (.inr rfl)) (Egs.cons (Eg.name 3 (by decide) sc__law_is_reduced.nd rfl (.inl rfl) (.inr rfl)) Egs.nil rfl) rfl) rfl) (by decide) rfl rfl) rfl rfl rfl)
    (Sb.one (Ss.ret (Es.and (Es.b (Es.chain3 .lt .le .le rfl hu65 (Es.b (Es.bin .sub rfl (Es.b Es.int) (Eb.var 1 rfl (.inl rfl) rfl rfl))) (Eb.var 2 rfl (.inl rfl) rfl rfl) (Eb.var 1 rfl (.inl rfl) rfl rfl) (Eb.var 3 rfl (.inl rfl) rfl rfl) rfl)) (Es.one (Es.or (Es.b (Es.cmp .ge rfl hu65 (Eb.var 2 rfl (.inl rfl) rfl rfl) (Es.b Es.int) rfl)) (Es.one (Es.cmp .lt rfl hu65 (Eb.var 1 rfl (.inl rfl) rfl rfl) (Eb.var 3 rfl (.inl rfl) rfl rfl) rfl)))))))))⟩

theorem ok__law_asked {P : Program} {w : World} {mg : Str → Option Value} {base : Heap} (C : Ct) (A : Fa C.K mg) (a : Addr) (ns : List Int) (D : Dc C n_1 n_2 n_3 a ns A.cl) (j l : Nat) : FnG P w C.K mg base CX0 (l + 4 + 1) A.f__law_asked A.d__law_asked p__law_asked (spS C (FT (T ns) (fun _ => none) (j + 4 + 1) 32) 1) := by
  refine defOk A.F__law_asked sc__law_asked rfl 32 (m__law_asked 4 6 8 7) (T ns) (fun _ => none) (j + 4) rfl rfl (by decide) (fun cdv A0 outer s H F0 hG hr => ?_)
  have D' : Dc (C.at H F0 (FT (T ns) (fun _ => none) (j + 4))) n_1 n_2 n_3 a ns A.cl := ⟨D.n1, D.n2, D.n3, D.sc, D.cl⟩
  have hu := Pv.Room.u70 hr
  have hu65 := Pv.Room.u65 hr
  have hu1 := Pv.Room.u1 hr
  have hdk := dkn_of D'
  have hn3 := hn3_of D'
  have hn2 := hn2_of D'
  have hok : ClsOk C.K C.sc.2 := by rw [D.cl]; exact A.clsOk
  have hin : ∀ Cn ∈ C.sc.2, InsOk C.K Cn.1 := by rw [D.cl]; exact A.insOk
  have hcl_Curve : C.sc.2[0]? = some (A.C_Curve, at_Curve) := by rw [D.cl]; rfl
  have c_is_discriminant := @ok_is_discriminant P w mg base (C.at H F0 (FT (T ns) (fun _ => none) (j + 4))) A a ns D' (j + 2) (l + 2)
  have c_is_form := @ok_is_form P w mg base (C.at H F0 (FT (T ns) (fun _ => none) (j + 4))) A a ns D' (j + 1) (l + 1)
  have c_is_reduced := @ok_is_reduced P w mg base (C.at H F0 (FT (T ns) (fun _ => none) (j + 4))) A a ns D' (j + 0) (l + 0)
  have c_is_matrix := @ok_is_matrix P w mg base (C.at H F0 (FT (T ns) (fun _ => none) (j + 4))) A a ns D' (j + 1) (l + 1)
  exact ⟨[],
    (Sb.cons (Ss.set (Ef.s (Ef.lst (Ea.cons (Es.call 4 (c_is_discriminant) hG hr rfl A.g_is_discriminant A.F_is_discriminant.kp A.b_is_discriminant pass0 (Ea.cons (Es.var 0 (by decide) rfl (.inl rfl) rfl rfl) Ea.nil rfl) rfl rfl rfl rfl) (Ea.cons (Es.call 6 (c_is_form) hG hr rfl A.g_is_form A.F_is_form.kp A.b_is_form pass0 (Ea.cons (Es.var 0 (by decide) rfl (.inl rfl) rfl rfl) Ea.nil rfl) rfl rfl rfl rfl) (Ea.cons (Es.call 7 (c_is_reduced) hG hr rfl A.g_is_reduced A.F_is_reduced.kp A.b_is_reduced pass0 (Ea.cons (Es.var 0 (by decide) rfl (.inl rfl) rfl rfl) Ea.nil rfl) rfl rfl rfl rfl) (Ea.cons (Es.call 8 (c_is_matrix) hG hr rfl A.g_is_matrix A.F_is_matrix.kp A.b_is_matrix pass0 (Ea.cons (Es.var 0 (by decide) rfl (.inl rfl) rfl rfl) Ea.nil rfl) rfl rfl rfl rfl) Ea.nil rfl) rfl) rfl) rfl) (Nat.le_of_ble_eq_true rfl))) (Eg.name 1 (by decide) sc__law_asked.nd rfl (.inl rfl) (.inr rfl)) rfl rfl rfl)
    (Sb.cons (Ss.set (Ef.s (Ef.lst (Ea.cons (Es.callK0 4 (c_is_discriminant) hG hr rfl A.g_is_discriminant A.F_is_discriminant.kp A.kb_is_discriminant_0 pass0 (Ek.cons (Es.var 0 (by decide) rfl (.inl rfl) rfl rfl) Ek.nil) rfl rfl rfl rfl rfl (fun l h => match l, h with | [_], _ => rfl)) (Ea.cons (Es.callK0 6 (c_is_form) hG hr rfl A.g_is_form A.F_is_form.kp A.kb_is_form_0 pass0 (Ek.cons (Es.var 0 (by decide) rfl (.inl rfl) rfl rfl) Ek.nil) rfl rfl rfl rfl rfl (fun l h => match l, h with | [_], _ => rfl)) (Ea.cons (Es.callK0 7 (c_is_reduced) hG hr rfl A.g_is_reduced A.F_is_reduced.kp A.kb_is_reduced_0 pass0 (Ek.cons (Es.var 0 (by decide) rfl (.inl rfl) rfl rfl) Ek.nil) rfl rfl rfl rfl rfl (fun l h => match l, h with | [_], _ => rfl)) (Ea.cons (Es.callK0 8 (c_is_matrix) hG hr rfl A.g_is_matrix A.F_is_matrix.kp A.kb_is_matrix_0 pass0 (Ek.cons (Es.var 0 (by decide) rfl (.inl rfl) rfl rfl) Ek.nil) rfl rfl rfl rfl rfl (fun l h => match l, h with | [_], _ => rfl)) Ea.nil rfl) rfl) rfl) rfl) (Nat.le_of_ble_eq_true rfl))) (Eg.name 2 (by decide) sc__law_asked.nd rfl (.inl rfl) (.inr rfl)) rfl rfl rfl)
    (Sb.one (Ss.ret (Ef.s (Ef.lst (Ea.cons (Es.var 1 (by decide) rfl (.inl rfl) rfl rfl) (Ea.cons (Es.var 2 (by decide) rfl (.inl rfl) rfl rfl) Ea.nil rfl) rfl) (Nat.le_of_ble_eq_true rfl)))))))⟩

theorem ok__law_is_right {P : Program} {w : World} {mg : Str → Option Value} {base : Heap} (C : Ct) (A : Fa C.K mg) (a : Addr) (ns : List Int) (D : Dc C n_1 n_2 n_3 a ns A.cl) (j l : Nat) : FnG P w C.K mg base CX0 (l + 5 + 1) A.f__law_is_right A.d__law_is_right p__law_is_right (spS C (FT (T ns) (fun _ => none) (j + 5 + 1) 33) 1) := by
  refine defOk A.F__law_is_right sc__law_is_right rfl 33 (m__law_is_right 32 25 27 29 28) (T ns) (fun _ => none) (j + 5) rfl rfl (by decide) (fun cdv A0 outer s H F0 hG hr => ?_)
  have D' : Dc (C.at H F0 (FT (T ns) (fun _ => none) (j + 5))) n_1 n_2 n_3 a ns A.cl := ⟨D.n1, D.n2, D.n3, D.sc, D.cl⟩
  have hu := Pv.Room.u70 hr
  have hu65 := Pv.Room.u65 hr
  have hu1 := Pv.Room.u1 hr
  have hdk := dkn_of D'
  have hn3 := hn3_of D'
  have hn2 := hn2_of D'
  have hok : ClsOk C.K C.sc.2 := by rw [D.cl]; exact A.clsOk
  have hin : ∀ Cn ∈ C.sc.2, InsOk C.K Cn.1 := by rw [D.cl]; exact A.insOk
  have hcl_Curve : C.sc.2[0]? = some (A.C_Curve, at_Curve) := by rw [D.cl]; rfl
  have c__law_is_discriminant := @ok__law_is_discriminant P w mg base (C.at H F0 (FT (T ns) (fun _ => none) (j + 5))) A a ns D' (j + 3) (l + 3)
  have c__law_is_form := @ok__law_is_form P w mg base (C.at H F0 (FT (T ns) (fun _ => none) (j + 5))) A a ns D' (j + 2) (l + 2)
  have c__law_is_reduced := @ok__law_is_reduced P w mg base (C.at H F0 (FT (T ns) (fun _ => none) (j + 5))) A a ns D' (j + 1) (l + 1)
  have c__law_is_matrix := @ok__law_is_matrix P w mg base (C.at H F0 (FT (T ns) (fun _ => none) (j + 5))) A a ns D' (j + 2) (l + 2)
  have c__law_asked := @ok__law_asked P w mg base (C.at H F0 (FT (T ns) (fun _ => none) (j + 5))) A a ns D' (j + 0) (l + 0)
  exact ⟨[],
    (Sb.cons (Ss.set (Ef.s (Ef.lst (Ea.cons (Es.call 25 (c__law_is_discriminant) hG hr rfl A.g__law_is_discriminant A.F__law_is_discriminant.kp A.b__law_is_discriminant pass0 (Ea.cons (Es.var 0 (by decide) rfl (.inl rfl) rfl rfl) Ea.nil rfl) rfl rfl rfl rfl) (Ea.cons (Es.call 27 (c__law_is_form) hG hr rfl A.g__law_is_form A.F__law_is_form.kp A.b__law_is_form pass0 (Ea.cons (Es.var 0 (by decide) rfl (.inl rfl) rfl rfl) Ea.nil rfl) rfl rfl rfl rfl) (Ea.cons (Es.call 28 (c__law_is_reduced) hG hr rfl A.g__law_is_reduced A.F__law_is_reduced.kp A.b__law_is_reduced pass0 (Ea.cons (Es.var 0 (by decide) rfl (.inl rfl) rfl rfl) Ea.nil rfl) rfl rfl rfl rfl) (Ea.cons (Es.call 29 (c__law_is_matrix) hG hr rfl A.g__law_is_matrix A.F__law_is_matrix.kp A.b__law_is_matrix pass0 (Ea.cons (Es.var 0 (by decide) rfl (.inl rfl) rfl rfl) Ea.nil rfl) rfl rfl rfl rfl) Ea.nil rfl) rfl) rfl) rfl) (Nat.le_of_ble_eq_true rfl))) (Eg.name 1 (by decide) sc__law_is_right.nd rfl (.inl rfl) (.inr rfl)) rfl rfl rfl)
    (Sb.one (Ss.ret (Es.cmp .eq rfl hu65 (Es.b (Es.biB .repr rfl (cb_repr hG hu) rfl A.z_repr rfl (Eas.one (Es.b (Es.call 32 (c__law_asked) hG hr rfl A.g__law_asked A.F__law_asked.kp A.b__law_asked pass0 (Ea.cons (Es.var 0 (by decide) rfl (.inl rfl) rfl rfl) Ea.nil rfl) rfl rfl rfl rfl)) rfl) (by decide) rfl rfl rfl)) (Es.b (Es.biB .repr rfl (cb_repr hG hu) rfl A.z_repr rfl (Eas.one (Ef.b (Ef.lst (Ea.cons (Es.var 1 (by decide) rfl (.inl rfl) rfl rfl) (Ea.cons (Es.var 1 (by decide) rfl (.inl rfl) rfl rfl) Ea.nil rfl) rfl) (Nat.le_of_ble_eq_true rfl))) rfl) (by decide) rfl rfl rfl)) rfl))))⟩

theorem ok_law {P : Program} {w : World} {mg : Str → Option Value} {base : Heap} (C : Ct) (A : Fa C.K mg) (a : Addr) (ns : List Int) (D : Dc C n_1 n_2 n_3 a ns A.cl) (j l : Nat) : FnG P w C.K mg base CX0 (l + 6 + 1) A.f_law A.d_law p_law (spS C (FT (T ns) (fun _ => none) (j + 6 + 1) 34) 1) := by
  refine defOk A.F_law sc_law rfl 34 (m_law 14 31 20 15 19 30 33 21 23 17 10 9) (T ns) (fun _ => none) (j + 6) rfl rfl (by decide) (fun cdv A0 outer s H F0 hG hr => ?_)
  have D' : Dc (C.at H F0 (FT (T ns) (fun _ => none) (j + 6))) n_1 n_2 n_3 a ns A.cl := ⟨D.n1, D.n2, D.n3, D.sc, D.cl⟩
  have hu := Pv.Room.u70 hr
  have hu65 := Pv.Room.u65 hr
  have hu1 := Pv.Room.u1 hr
  have hdk := dkn_of D'
  have hn3 := hn3_of D'
  have hn2 := hn2_of D'
  have hok : ClsOk C.K C.sc.2 := by rw [D.cl]; exact A.clsOk
  have hin : ∀ Cn ∈ C.sc.2, InsOk C.K Cn.1 := by rw [D.cl]; exact A.insOk
  have hcl_Curve : C.sc.2[0]? = some (A.C_Curve, at_Curve) := by rw [D.cl]; rfl
  have c_fundamental := @ok_fundamental P w mg base (C.at H F0 (FT (T ns) (fun _ => none) (j + 6))) A a ns D' (j + 4) (l + 4)
  have c_discriminant_of := @ok_discriminant_of P w mg base (C.at H F0 (FT (T ns) (fun _ => none) (j + 6))) A a ns D' (j + 2) (l + 2)
  have c_Curve___init__ := @ok_Curve___init__ P w mg base (C.at H F0 (FT (T ns) (fun _ => none) (j + 6))) A a ns D' (j + 3) (l + 2)
  have c__law_deck := @ok__law_deck P w mg base (C.at H F0 (FT (T ns) (fun _ => none) (j + 6))) A a ns D' (j + 5) (l + 5)
  have c__law_pick := @ok__law_pick P w mg base (C.at H F0 (FT (T ns) (fun _ => none) (j + 6))) A a ns D' (j + 4) (l + 4)
  have c__law_discriminant := @ok__law_discriminant P w mg base (C.at H F0 (FT (T ns) (fun _ => none) (j + 6))) A a ns D' (j + 3) (l + 3)
  have c__law_classes := @ok__law_classes P w mg base (C.at H F0 (FT (T ns) (fun _ => none) (j + 6))) A a ns D' (j + 4) (l + 4)
  have c__law_led := @ok__law_led P w mg base (C.at H F0 (FT (T ns) (fun _ => none) (j + 6))) A a ns D' (j + 5) (l + 5)
  have c__law_matrix := @ok__law_matrix P w mg base (C.at H F0 (FT (T ns) (fun _ => none) (j + 6))) A a ns D' (j + 4) (l + 4)
  have c__law_fundamental := @ok__law_fundamental P w mg base (C.at H F0 (FT (T ns) (fun _ => none) (j + 6))) A a ns D' (j + 3) (l + 3)
  have c__law_bent := @ok__law_bent P w mg base (C.at H F0 (FT (T ns) (fun _ => none) (j + 6))) A a ns D' (j + 3) (l + 3)
  have c__law_is_right := @ok__law_is_right P w mg base (C.at H F0 (FT (T ns) (fun _ => none) (j + 6))) A a ns D' (j + 0) (l + 0)
  exact ⟨[],
    (Sb.cons (Ss.set (Es.call 15 (c__law_deck) hG hr rfl A.g__law_deck A.F__law_deck.kp A.b__law_deck pass0 (Ea.cons (Es.var 0 (by decide) rfl (.inl rfl) rfl rfl) Ea.nil rfl) rfl rfl rfl rfl) (Eg.name 1 (by decide) sc_law.nd rfl (.inl rfl) (.inr rfl)) rfl rfl rfl)
    (Sb.cons (Ss.set (Es.call 19 (c__law_discriminant) hG hr rfl A.g__law_discriminant A.F__law_discriminant.kp A.b__law_discriminant pass0 (Ea.cons (Es.var 1 (by decide) rfl (.inl rfl) rfl rfl) Ea.nil rfl) rfl rfl rfl rfl) (Eg.name 2 (by decide) sc_law.nd rfl (.inl rfl) (.inr rfl)) rfl rfl rfl)
    (Sb.cons (Ss.set (Es.call 17 (c__law_pick) hG hr rfl A.g__law_pick A.F__law_pick.kp A.b__law_pick pass0 (Ea.cons (Es.var 1 (by decide) rfl (.inl rfl) rfl rfl) (Ea.cons (Es.tup (Ea.cons (Es.neg rfl (Es.b Es.int)) (Ea.cons (Es.neg rfl (Es.b Es.int)) (Ea.cons (Es.neg rfl (Es.b Es.int)) (Ea.cons (Es.var 2 (by decide) rfl (.inl rfl) rfl rfl) (Ea.cons Es.int (Ea.cons (Es.neg rfl (Es.b Es.int)) (Ea.cons (Es.bin .pow rfl (Es.b Es.int) (Es.b Es.int)) Ea.nil rfl) rfl) rfl) rfl) rfl) rfl) rfl) (Nat.le_of_ble_eq_true rfl)) Ea.nil rfl) rfl) rfl rfl rfl rfl) (Eg.name 3 (by decide) sc_law.nd rfl (.inl rfl) (.inr rfl)) rfl rfl rfl)
    (Sb.cons (Ss.set (Ef.s (Ef.lst (Ea.cons (Es.var 2 (by decide) rfl (.inl rfl) rfl rfl) (Ea.cons (Es.var 3 (by decide) rfl (.inl rfl) rfl rfl) (Ea.cons (Es.bin .sub rfl (Eb.var 3 rfl (.inl rfl) rfl rfl) (Es.b Es.int)) (Ea.cons (Es.bin .add rfl (Eb.var 3 rfl (.inl rfl) rfl rfl) (Es.b Es.int)) (Ea.cons (Es.bin .sub rfl (Eb.var 3 rfl (.inl rfl) rfl rfl) (Es.b Es.int)) (Ea.cons (Es.bin .add rfl (Eb.var 3 rfl (.inl rfl) rfl rfl) (Es.b Es.int)) (Ea.cons (Es.bin .sub rfl (Es.b Es.int) (Eb.var 2 rfl (.inl rfl) rfl rfl)) (Ea.cons (Es.bin .mul rfl (Es.b Es.int) (Eb.var 2 rfl (.inl rfl) rfl rfl)) (Ea.cons Es.bl (Ea.cons Es.bl (Ea.cons Es.non (Ea.cons Es.str Ea.nil rfl) rfl) rfl) rfl) rfl) rfl) rfl) rfl) rfl) rfl) rfl) rfl) (Nat.le_of_ble_eq_true rfl))) (Eg.name 4 (by decide) sc_law.nd rfl (.inl rfl) (.inr rfl)) rfl rfl rfl)
    (Sb.cons (Ss.for_ PassesOwn.never rfl (Ei.seq rfl (Es.var 4 (by decide) rfl (.inl rfl) rfl rfl)) (Eg.name 5 (by decide) sc_law.nd rfl (.inl rfl) (.inr rfl)) (Sb.one (Ss.ite (Et.not (Et.truth rfl (Es.b (Es.call 33 (c__law_is_right) hG hr rfl A.g__law_is_right A.F__law_is_right.kp A.b__law_is_right pass0 (Ea.cons (Es.var 5 (by decide) rfl (.inl rfl) rfl rfl) Ea.nil rfl) rfl rfl rfl rfl)) (fun _ => rfl))) (Sb.one (Ss.ret Es.bl)) Sb.nil)) (fun _ => rfl))
    (Sb.cons (Ss.ite (Ew.t (Ew.or (Et.not (Et.truth rfl (Es.b (Es.call 33 (c__law_is_right) hG hr rfl A.g__law_is_right A.F__law_is_right.kp A.b__law_is_right pass0 (Ea.cons (Es.bin .sub rfl (Es.b Es.int) (Es.b (Es.bin .pow rfl (Es.b Es.int) (Es.b Es.int)))) Ea.nil rfl) rfl rfl rfl rfl)) (fun _ => rfl))) (Ew.one (Et.not (Et.truth rfl (Es.b (Es.call 33 (c__law_is_right) hG hr rfl A.g__law_is_right A.F__law_is_right.kp A.b__law_is_right pass0 (Ea.cons (Es.make 0 14 hcl_Curve A.K_Curve c_Curve___init__ hG hr rfl A.gC_Curve A.b_Curve___init__ pass0 (Ea.cons Es.int (Ea.cons Es.int (Ea.cons Es.int Ea.nil rfl) rfl) rfl) rfl rfl rfl rfl) Ea.nil rfl) rfl rfl rfl rfl)) (fun _ => rfl)))))) (Sb.one (Ss.ret Es.bl)) Sb.nil)
    (Sb.cons (Ss.ite (Ew.t (Ew.or (Et.not (Et.truth rfl (Es.b (Es.call 33 (c__law_is_right) hG hr rfl A.g__law_is_right A.F__law_is_right.kp A.b__law_is_right pass0 (Ea.cons (Es.tup (Ea.cons (Es.var 2 (by decide) rfl (.inl rfl) rfl rfl) Ea.nil rfl) (Nat.le_of_ble_eq_true rfl)) Ea.nil rfl) rfl rfl rfl rfl)) (fun _ => rfl))) (Ew.or (Et.not (Et.truth rfl (Es.b (Es.call 33 (c__law_is_right) hG hr rfl A.g__law_is_right A.F__law_is_right.kp A.b__law_is_right pass0 (Ea.cons (Ef.s (Ef.lst (Ea.cons (Es.var 2 (by decide) rfl (.inl rfl) rfl rfl) Ea.nil rfl) (Nat.le_of_ble_eq_true rfl))) Ea.nil rfl) rfl rfl rfl rfl)) (fun _ => rfl))) (Ew.one (Et.not (Et.truth rfl (Es.b (Es.call 33 (c__law_is_right) hG hr rfl A.g__law_is_right A.F__law_is_right.kp A.b__law_is_right pass0 (Ea.cons (Es.biT .toStr rfl (cb_toStr hG hu) rfl A.z_str rfl (Eas.one (Eb.var 2 rfl (.inl rfl) rfl rfl) rfl) (by decide) rfl rfl rfl) Ea.nil rfl) rfl rfl rfl rfl)) (fun _ => rfl))))))) (Sb.one (Ss.ret Es.bl)) Sb.nil)
    (Sb.cons (Ss.set (Es.call 30 (c__law_fundamental) hG hr rfl A.g__law_fundamental A.F__law_fundamental.kp A.b__law_fundamental pass0 (Ea.cons (Es.var 2 (by decide) rfl (.inl rfl) rfl rfl) Ea.nil rfl) rfl rfl rfl rfl) (Eg.name 6 (by decide) sc_law.nd rfl (.inl rfl) (.inr rfl)) rfl rfl rfl)
    (Sb.cons (Ss.ite (Et.cmp .ne rfl hu65 (Es.b (Es.biB .repr rfl (cb_repr hG hu) rfl A.z_repr rfl (Eas.one (Ef.b (Ef.lst (Ea.cons (Es.call 9 (c_fundamental) hG hr rfl A.g_fundamental A.F_fundamental.kp A.b_fundamental pass0 (Ea.cons (Es.var 2 (by decide) rfl (.inl rfl) rfl rfl) Ea.nil rfl) rfl rfl rfl rfl) (Ea.cons (Es.callK0 9 (c_fundamental) hG hr rfl A.g_fundamental A.F_fundamental.kp A.kb_fundamental_0 pass0 (Ek.cons (Es.var 2 (by decide) rfl (.inl rfl) rfl rfl) Ek.nil) rfl rfl rfl rfl rfl (fun l h => match l, h with | [_], _ => rfl)) Ea.nil rfl) rfl) (Nat.le_of_ble_eq_true rfl))) rfl) (by decide) rfl rfl rfl)) (Es.b (Es.biB .repr rfl (cb_repr hG hu) rfl A.z_repr rfl (Eas.one (Ef.b (Ef.lst (Ea.cons (Es.var 6 (by decide) rfl (.inl rfl) rfl rfl) (Ea.cons (Es.var 6 (by decide) rfl (.inl rfl) rfl rfl) Ea.nil rfl) rfl) (Nat.le_of_ble_eq_true rfl))) rfl) (by decide) rfl rfl rfl)) rfl) (Sb.one (Ss.ret Es.bl)) Sb.nil)
    (Sb.cons (Ss.set (Es.call 20 (c__law_classes) hG hr rfl A.g__law_classes A.F__law_classes.kp A.b__law_classes pass0 (Ea.cons (Es.var 2 (by decide) rfl (.inl rfl) rfl rfl) Ea.nil rfl) rfl rfl rfl rfl) (Eg.name 4 (by decide) sc_law.nd rfl (.inl rfl) (.inr rfl)) rfl rfl rfl)
    (Sb.cons (Ss.for_ PassesOwn.never rfl (Ei.rng1 rfl A.z_range (Ea.cons Es.int Ea.nil rfl) rfl) (Eg.name 7 (by decide) sc_law.nd rfl (.inl rfl) (.inr rfl)) (Sb.cons (Ss.set (Es.call 17 (c__law_pick) hG hr rfl A.g__law_pick A.F__law_pick.kp A.b__law_pick pass0 (Ea.cons (Es.var 1 (by decide) rfl (.inl rfl) rfl rfl) (Ea.cons (Es.var 4 (by decide) rfl (.inl rfl) rfl rfl) Ea.nil rfl) rfl) rfl rfl rfl rfl) (Eg.name 8 (by decide) sc_law.nd rfl (.inl rfl) (.inr rfl)) rfl rfl rfl)
      (Sb.cons (Ss.set (Es.call 23 (c__law_matrix) hG hr rfl A.g__law_matrix A.F__law_matrix.kp A.b__law_matrix pass0 (Ea.cons (Es.var 1 (by decide) rfl (.inl rfl) rfl rfl) (Ea.cons Es.int (Ea.cons (Es.ite (Et.cmp .gt rfl hu65 (Eb.var 7 rfl (.inl rfl) rfl rfl) (Es.b Es.int) rfl) (Es.call 17 (c__law_pick) hG hr rfl A.g__law_pick A.F__law_pick.kp A.b__law_pick pass0 (Ea.cons (Es.var 1 (by decide) rfl (.inl rfl) rfl rfl) (Ea.cons (Es.tup (Ea.cons Es.int (Ea.cons Es.int (Ea.cons Es.int (Ea.cons (Es.bin .pow rfl (Es.b Es.int) (Es.b Es.int)) Ea.nil rfl) rfl) rfl) rfl) (Nat.le_of_ble_eq_true rfl)) Ea.nil rfl) rfl) rfl rfl rfl rfl) Es.int) Ea.nil rfl) rfl) rfl) rfl rfl rfl rfl) (Eg.name 9 (by decide) sc_law.nd rfl (.inl rfl) (.inr rfl)) rfl rfl rfl)
      (Sb.cons (Ss.set (Es.ite (Et.cmp .lt rfl hu65 (Es.b (Es.biB .maxL rfl (cb_maxL rfl) rfl A.z_max rfl (Eas.one (Ef.b (Ef.comp rfl sc_law.nd (Ei.seq rfl (Es.var 9 (by decide) rfl (.inl rfl) rfl rfl)) bk_law_0 rfl (fun _ _ _ _ _ => (Eg.name 11 (by decide) sc_law.nd rfl (.inl rfl) (.inr rfl))) (fun _ _ _ _ _ => Ec.none) (fun _ _ _ _ _ => (Es.biB .abs rfl cb_abs rfl A.z_abs rfl (Eas.one (Eb.var 11 rfl (.inl rfl) rfl rfl) rfl) (by decide) rfl rfl rfl)) (fun _ => rfl) (by decide))) rfl) (by decide) rfl rfl rfl)) (Es.b (Es.bin .pow rfl (Es.b Es.int) (Es.b Es.int))) rfl) (Es.var 9 (by decide) rfl (.inl rfl) rfl rfl) (Es.tup (Ea.cons Es.int (Ea.cons (Es.bin .pow rfl (Es.b Es.int) (Es.b Es.int)) (Ea.cons Es.int (Ea.cons Es.int Ea.nil rfl) rfl) rfl) rfl) (Nat.le_of_ble_eq_true rfl))) (Eg.name 9 (by decide) sc_law.nd rfl (.inl rfl) (.inr rfl)) rfl rfl rfl)
      (Sb.cons (Ss.set (Es.call 21 (c__law_led) hG hr rfl A.g__law_led A.F__law_led.kp A.b__law_led pass0 (Ea.cons (Es.var 8 (by decide) rfl (.inl rfl) rfl rfl) (Ea.cons (Es.var 9 (by decide) rfl (.inl rfl) rfl rfl) Ea.nil rfl) rfl) rfl rfl rfl rfl) (Eg.name 10 (by decide) sc_law.nd rfl (.inl rfl) (.inr rfl)) rfl rfl rfl)
      (Sb.cons (Ss.for_ PassesOwn.never rfl (Ei.seq rfl (Es.tup (Ea.cons (Es.var 8 (by decide) rfl (.inl rfl) rfl rfl) (Ea.cons (Es.var 9 (by decide) rfl (.inl rfl) rfl rfl) (Ea.cons (Es.var 10 (by decide) rfl (.inl rfl) rfl rfl) (Ea.cons (Es.call 31 (c__law_bent) hG hr rfl A.g__law_bent A.F__law_bent.kp A.b__law_bent pass0 (Ea.cons (Es.var 1 (by decide) rfl (.inl rfl) rfl rfl) (Ea.cons (Es.var 8 (by decide) rfl (.inl rfl) rfl rfl) Ea.nil rfl) rfl) rfl rfl rfl rfl) (Ea.cons (Es.call 31 (c__law_bent) hG hr rfl A.g__law_bent A.F__law_bent.kp A.b__law_bent pass0 (Ea.cons (Es.var 1 (by decide) rfl (.inl rfl) rfl rfl) (Ea.cons (Es.var 9 (by decide) rfl (.inl rfl) rfl rfl) Ea.nil rfl) rfl) rfl rfl rfl rfl) (Ea.cons (Es.call 31 (c__law_bent) hG hr rfl A.g__law_bent A.F__law_bent.kp A.b__law_bent pass0 (Ea.cons (Es.var 1 (by decide) rfl (.inl rfl) rfl rfl) (Ea.cons (Es.var 10 (by decide) rfl (.inl rfl) rfl rfl) Ea.nil rfl) rfl) rfl rfl rfl rfl) Ea.nil rfl) rfl) rfl) rfl) rfl) rfl) (Nat.le_of_ble_eq_true rfl))) (Eg.name 5 (by decide) sc_law.nd rfl (.inl rfl) (.inr rfl)) (Sb.one (Ss.ite (Et.not (Et.truth rfl (Es.b (Es.call 33 (c__law_is_right) hG hr rfl A.g__law_is_right A.F__law_is_right.kp A.b__law_is_right pass0 (Ea.cons (Es.var 5 (by decide) rfl (.inl rfl) rfl rfl) Ea.nil rfl) rfl rfl rfl rfl)) (fun _ => rfl))) (Sb.one (Ss.ret Es.bl)) Sb.nil)) (fun _ => rfl))
      (Sb.one (Ss.ite (Et.cmp .ne rfl hu65 (Es.b (Es.biB .repr rfl (cb_repr hG hu) rfl A.z_repr rfl (Eas.one (Ef.b (Ef.lst (Ea.cons (Es.call 10 (c_discriminant_of) hG hr rfl A.g_discriminant_of A.F_discriminant_of.kp A.b_discriminant_of pass0 (Ea.cons (Es.var 10 (by decide) rfl (.inl rfl) rfl rfl) Ea.nil rfl) rfl rfl rfl rfl) (Ea.cons (Es.callK0 10 (c_discriminant_of) hG hr rfl A.g_discriminant_of A.F_discriminant_of.kp A.kb_discriminant_of_0 pass0 (Ek.cons (Es.var 8 (by decide) rfl (.inl rfl) rfl rfl) Ek.nil) rfl rfl rfl rfl rfl (fun l h => match l, h with | [_], _ => rfl)) Ea.nil rfl) rfl) (Nat.le_of_ble_eq_true rfl))) rfl) (by decide) rfl rfl rfl)) (Es.b (Es.biB .repr rfl (cb_repr hG hu) rfl A.z_repr rfl (Eas.one (Ef.b (Ef.lst (Ea.cons (Es.var 2 (by decide) rfl (.inl rfl) rfl rfl) (Ea.cons (Es.var 2 (by decide) rfl (.inl rfl) rfl rfl) Ea.nil rfl) rfl) (Nat.le_of_ble_eq_true rfl))) rfl) (by decide) rfl rfl rfl)) rfl) (Sb.one (Ss.ret Es.bl)) Sb.nil))))))) (fun _ => rfl))
    (Sb.one (Ss.ret Es.bl)))))))))))))⟩

end Xk35
end

section
/-! PvN: plain laws of the small language: loops, texts, decks. -/
set_option autoImplicit false
namespace Pv
open PySem

theorem FT_at {T : List Fn} {d f : Nat} {as : List D} {g : G} {fn : Fn} (h : T[f]? = some fn) (hl : as.length = fn.np) :
    FT T (fun _ => none) (d + 1) f as g = fin (run (FT T (fun _ => none) d) fuel fn.body (as.map some ++ List.replicate (fn.nl - fn.np) none) g) := by
  show (match (fun _ => none : Prims) f with
    | some p => p as g
    | none => match T[f]? with
      | some fn => if as.length = fn.np then fin (run (FT T (fun _ => none) d) fuel fn.body (as.map some ++ List.replicate (fn.nl - fn.np) none) g) else .no
      | none => .no) = _
  simp only [h, if_pos hl]

/-! ### steps -/
section
variable {Φ : Fns} {fu : Nat} {a b : Sm} {σ σ' : Sl} {g g' : G} {v : D} {t e : Ex} {i : Nat}
theorem run_seq_nx (h : Pv.run Φ fu a σ g = .ok (.nx σ') g') : Pv.run Φ fu (.seq a b) σ g = Pv.run Φ fu b σ' g' := by
  conv => lhs; unfold Pv.run
  rw [h]; rfl
theorem run_seq_rt (h : Pv.run Φ fu a σ g = .ok (.rt v) g') : Pv.run Φ fu (.seq a b) σ g = .ok (.rt v) g' := by
  conv => lhs; unfold Pv.run
  rw [h]; rfl
theorem run_ite {k : Bool} (h : ev Φ t σ g = .ok (.bool k) g') : Pv.run Φ fu (.ite t a b) σ g = if k then Pv.run Φ fu a σ g' else Pv.run Φ fu b σ g' := by
  conv => lhs; unfold Pv.run
  rw [h]; cases k <;> rfl
theorem run_set (h : ev Φ e σ g = .ok v g') : Pv.run Φ fu (.set [i] e) σ g = .ok (.nx (σ.set i (some v))) g' := by
  conv => lhs; unfold Pv.run
  rw [h]; rfl
theorem run_ret (h : ev Φ e σ g = .ok v g') : Pv.run Φ fu (.ret e) σ g = .ok (.rt v) g' := by
  conv => lhs; unfold Pv.run
  rw [h]; rfl
theorem run_skip : Pv.run Φ fu .skip σ g = .ok (.nx σ) g := rfl
theorem run_for {ts : List Nat} {k : Ik} {as : Exs} {vs xs : List D} (h : evs Φ as σ g = .ok vs g') (hx : itV k vs = some xs) :
    Pv.run Φ fu (.forr ts k as b) σ g = forL (fun x σ g => (lift (setT ts x σ) g).bind fun σ g => Pv.run Φ fu b σ g) xs σ g' := by
  conv => lhs; unfold Pv.run
  rw [h]
  show (lift (itV k vs) g').bind _ = _
  rw [hx]; rfl
theorem ev_comp {ts : List Nat} {k : Ik} {as : Exs} {cond elt : Ex} {vs xs : List D} (h : evs Φ as σ g = .ok vs g') (hx : itV k vs = some xs) (hl : xs.length ≤ lineN) {ys : List D} {g2 : G}
    (hc : compL (fun x g => (lift (setT ts x (wipeS σ ts)) g).bind fun σ' g => (ev Φ cond σ' g).bind fun b g => match b with
        | .bool true => (ev Φ elt σ' g).bind fun v g => .ok (some v) g
        | .bool false => .ok none g
        | _ => .no) xs [] g' = .ok ys g2) : ev Φ (.comp ts k as cond elt) σ g = .ok (.list ys) g2 := by
  conv => lhs; unfold ev
  rw [h]
  show (lift (itV k vs) g').bind _ = _
  rw [hx]
  show (if decide (xs.length ≤ lineN) = true then _ else Res.no) = _
  rw [if_pos (decide_eq_true hl)]
  exact (congrArg (fun r => r.bind fun ys g => Res.ok (PyData.list ys) g) hc).trans rfl
/-- a loop with a test: one turn -/
theorem whileL_step {c : Sl → G → Res D} {bd : Sl → G → Res Fl} {n : Nat} {g2 : G} (h1 : c σ g = .ok (.bool true) g') (h2 : bd σ g' = .ok (.nx σ') g2) : whileL c bd (n + 1) σ g = whileL c bd n σ' g2 := by
  show (c σ g).bind _ = _
  rw [h1]
  show (bd σ g').bind _ = _
  rw [h2]; rfl
theorem whileL_end {c : Sl → G → Res D} {bd : Sl → G → Res Fl} {n : Nat} (h1 : c σ g = .ok (.bool false) g') : whileL c bd (n + 1) σ g = .ok (.nx σ) g' := by
  show (c σ g).bind _ = _
  rw [h1]; rfl
end
/-! ### loops -/
/-- a loop that ends by a return at the first item that is found -/
theorem forL_find {α : Type} {em : α → D} {f : D → Sl → G → Res Fl} {c : α → Bool} {r : α → D} {S : Option D → Sl} {g : G} : ∀ {xs : List α}, (∀ x ∈ xs, ∀ y, f (em x) (S y) g = if c x then .ok (.rt (r x)) g else .ok (.nx (S (some (em x)))) g) → ∀ y,
    ∃ y', forL f (xs.map em) (S y) g = match xs.find? c with
      | some x => .ok (.rt (r x)) g
      | none => .ok (.nx (S y')) g
  | [], _, y => ⟨y, rfl⟩
  | x :: xs, h, y => by
    obtain ⟨y', e⟩ := forL_find (xs := xs) (fun z hz y => h z (List.mem_cons_of_mem _ hz) y) (some (em x))
    refine ⟨y', ?_⟩
    show (f (em x) (S y) g).bind _ = _
    rw [h x List.mem_cons_self y, List.find?_cons]
    cases c x with
    | true => rfl
    | false => exact e
/-- a loop that never leaves: the state by a fold -/
theorem forL_fold {α β : Type} {em : β → D} {f : D → Sl → G → Res Fl} {S : α → Sl} {g : G} {st : α → β → α} {xs : List β} (P : α → Prop) (h : ∀ x ∈ xs, ∀ a, P a → f (em x) (S a) g = .ok (.nx (S (st a x))) g ∧ P (st a x)) : ∀ a, P a → forL f (xs.map em) (S a) g = .ok (.nx (S (xs.foldl st a))) g ∧ P (xs.foldl st a) := by
  induction xs with
  | nil => exact fun a ha => ⟨rfl, ha⟩
  | cons x xs ih =>
    intro a ha
    obtain ⟨h1, h2⟩ := h x List.mem_cons_self a ha
    obtain ⟨h3, h4⟩ := ih (fun z hz a ha => h z (List.mem_cons_of_mem _ hz) a ha) (st a x) h2
    refine ⟨?_, h4⟩
    show (f (em x) (S a) g).bind _ = _
    rw [h1]
    exact h3
/-- .. with the number of turns -/
theorem forL_foldI {α β : Type} {em : β → D} {f : D → Sl → G → Res Fl} {S : α → Sl} {g : G} {st : α → β → α} : ∀ {xs : List β} (P : Nat → α → Prop), (∀ x ∈ xs, ∀ k a, k < xs.length → P k a → f (em x) (S a) g = .ok (.nx (S (st a x))) g ∧ P (k + 1) (st a x)) → ∀ a, P 0 a → forL f (xs.map em) (S a) g = .ok (.nx (S (xs.foldl st a))) g ∧ P xs.length (xs.foldl st a)
  | [], P, _, a, ha => ⟨rfl, ha⟩
  | x :: xs, P, h, a, ha => by
    obtain ⟨h1, h2⟩ := h x List.mem_cons_self 0 a (Nat.succ_pos _) ha
    obtain ⟨h3, h4⟩ := forL_foldI (xs := xs) (fun k => P (k + 1)) (fun z hz k b hk hb => h z (List.mem_cons_of_mem _ hz) (k + 1) b (Nat.succ_lt_succ hk) hb) (st a x) h2
    refine ⟨?_, h4⟩
    show (f (em x) (S a) g).bind _ = _
    rw [h1]
    exact h3
/-- a loop by an invariant of the state and of the deck -/
theorem forL_inv {f : D → Sl → G → Res Fl} {I : Sl → G → Prop} : ∀ {xs : List D}, (∀ x ∈ xs, ∀ σ g, I σ g → ∃ σ' g', f x σ g = .ok (.nx σ') g' ∧ I σ' g') → ∀ σ g, I σ g → ∃ σ' g', forL f xs σ g = .ok (.nx σ') g' ∧ I σ' g'
  | [], _, σ, g, h => ⟨σ, g, rfl, h⟩
  | x :: xs, h, σ, g, hI => by
    obtain ⟨σ1, g1, e1, h1⟩ := h x List.mem_cons_self σ g hI
    obtain ⟨σ2, g2, e2, h2⟩ := forL_inv (xs := xs) (fun z hz => h z (List.mem_cons_of_mem _ hz)) σ1 g1 h1
    refine ⟨σ2, g2, ?_, h2⟩
    show (f x σ g).bind _ = _
    rw [e1]
    exact e2
/-- a comprehension over items -/
theorem compL_eq {α β : Type} {em : α → D} {eo : β → D} {f : D → G → Res (Option D)} {u : α → Option β} {g : G} : ∀ {xs : List α} {acc : List D}, (∀ x ∈ xs, f (em x) g = .ok ((u x).map eo) g) → compL f (xs.map em) acc g = .ok (acc.reverse ++ (xs.filterMap u).map eo) g
  | [], acc, _ => by
    show Res.ok acc.reverse g = _
    rw [List.filterMap_nil, List.map_nil, List.append_nil]
  | x :: xs, acc, h => by
    show (f (em x) g).bind _ = _
    rw [h x List.mem_cons_self]
    cases e : u x with
    | none =>
      show compL f (xs.map em) acc g = _
      rw [compL_eq fun z hz => h z (List.mem_cons_of_mem _ hz), List.filterMap_cons, e]
    | some y =>
      show compL f (xs.map em) (eo y :: acc) g = _
      rw [compL_eq fun z hz => h z (List.mem_cons_of_mem _ hz), List.filterMap_cons, e, List.reverse_cons, List.append_assoc]
      rfl

/-! ### texts -/
mutual
def fine : D → Bool
  | .none | .bool _ => true
  | .int i => decide (i.natAbs < 10 ^ 250)
  | .str x => PyData.strOk x
  | .list xs | .tuple xs => fineAll xs
  | .dict _ => false
def fineAll : List D → Bool
  | [] => true
  | x :: xs => fine x && fineAll xs
end
theorem short_int {i : Int} (h : i.natAbs < 10 ^ 250) : (PyData.shown (.int i)).length ≤ 251 := by
  have e := int_text_length_le10 (k := 250) (by decide) h
  show (Str.ofString (toString i)).length ≤ 251
  rw [ofString_length]; exact e
theorem log_int {i : Int} (h : i.natAbs < 10 ^ 250) : i.natAbs.log2 < 1920 := by
  by_cases z : i.natAbs = 0
  · rw [z]; decide
  · rw [Nat.log2_lt z]
    exact Nat.lt_of_lt_of_le h (by decide +kernel)
mutual
theorem fine_lay : ∀ d : D, fine d = true → d.canLay0 = true
  | .none, _ => rfl
  | .bool _, _ => rfl
  | .int _, _ => rfl
  | .str x, h => h
  | .list xs, h => fineAll_lay xs h
  | .tuple xs, h => fineAll_lay xs h
  | .dict _, h => by cases h
theorem fineAll_lay : ∀ xs : List D, fineAll xs = true → PyData.canLayAll0 xs = true
  | [], _ => rfl
  | x :: xs, h => by
    unfold fineAll at h
    simp only [Bool.and_eq_true] at h
    unfold PyData.canLayAll0
    rw [fine_lay x h.1, fineAll_lay xs h.2]; rfl
end
mutual
theorem fine_short : ∀ d : D, fine d = true → d.intsShort 251 = true ∧ d.showable = true
  | .none, _ => ⟨rfl, rfl⟩
  | .bool _, _ => ⟨rfl, rfl⟩
  | .int i, h => ⟨decide_eq_true (short_int (of_decide_eq_true h)), decide_eq_true (log_int (of_decide_eq_true h))⟩
  | .str x, h => ⟨rfl, rfl⟩
  | .list xs, h => fineAll_short xs h
  | .tuple xs, h => fineAll_short xs h
  | .dict _, h => by cases h
theorem fineAll_short : ∀ xs : List D, fineAll xs = true → PyData.intsShortAll 251 xs = true ∧ PyData.showableAll xs = true
  | [], _ => ⟨rfl, rfl⟩
  | x :: xs, h => by
    unfold fineAll at h
    simp only [Bool.and_eq_true] at h
    obtain ⟨h1, h2⟩ := fine_short x h.1
    obtain ⟨h3, h4⟩ := fineAll_short xs h.2
    unfold PyData.intsShortAll PyData.showableAll
    rw [h1, h2, h3, h4]; exact ⟨rfl, rfl⟩
end
theorem show_fine {d : D} (h : fine d = true) (hd : d.depth ≤ 64) (hw : d.weight ≤ 20000) : showOk d = true := by
  obtain ⟨h1, h2⟩ := fine_short d h
  have h3 := PyData.shown_le 251 (by decide) d (PyData.leavesShort_of_canLay0 251 d (fine_lay d h) h1)
  have h4 : 253 * d.weight ≤ 253 * 20000 := Nat.mul_le_mul_left _ hw
  have s : shp d = true := by
    show (d.canLay0 && decide (d.depth ≤ 64)) = true
    rw [fine_lay d h, decide_eq_true hd]; rfl
  unfold showOk
  rw [s, h2, Bool.true_or, Bool.true_and, Bool.true_and]
  refine decide_eq_true ?_
  unfold lineN
  omega
/-- few plain items -/
def scal : D → Bool
  | .none | .bool _ => true
  | .int i => decide (i.natAbs < 10 ^ 250)
  | _ => false
theorem scal_all : ∀ xs : List D, xs.all scal = true → fineAll xs = true ∧ PyData.depthAll xs = 0 ∧ PyData.weightAll xs ≤ 1922 * xs.length
  | [], _ => ⟨rfl, rfl, Nat.le_refl _⟩
  | x :: xs, h => by
    rw [List.all_cons, Bool.and_eq_true] at h
    obtain ⟨h1, h2, h3⟩ := scal_all xs h.2
    have key : fine x = true ∧ x.depth = 0 ∧ x.weight ≤ 1921 := by
      cases x with
      | none => exact ⟨rfl, rfl, Nat.zero_le _⟩
      | bool b => exact ⟨rfl, rfl, Nat.zero_le _⟩
      | int i =>
        have q := of_decide_eq_true h.1
        refine ⟨h.1, rfl, ?_⟩
        have := log_int q
        show (if i == 0 then 0 else i.natAbs.log2 + 1) ≤ 1921
        split <;> omega
      | str y => cases h.1
      | list y => cases h.1
      | tuple y => cases h.1
      | dict y => cases h.1
    obtain ⟨k1, k2, k3⟩ := key
    refine ⟨?_, ?_, ?_⟩
    · unfold fineAll
      rw [k1, h1]; rfl
    · unfold PyData.depthAll
      rw [k2, h2]; rfl
    · unfold PyData.weightAll
      rw [List.length_cons]
      omega
theorem show_list {xs : List D} (h : xs.all scal = true) (hl : xs.length ≤ 10) : showOk (.list xs) = true := by
  obtain ⟨h1, h2, h3⟩ := scal_all xs h
  exact show_fine h1 (by unfold PyData.depth; omega) (by unfold PyData.weight; omega)
theorem show_tuple {xs : List D} (h : xs.all scal = true) (hl : xs.length ≤ 10) : showOk (.tuple xs) = true := by
  obtain ⟨h1, h2, h3⟩ := scal_all xs h
  exact show_fine h1 (by unfold PyData.depth; omega) (by unfold PyData.weight; omega)
theorem show_one {x : D} (h : scal x = true) : showOk x = true := by
  obtain ⟨h1, h2, h3⟩ := scal_all [x] (by simpa using h)
  refine show_fine (by unfold fineAll at h1; simpa [fineAll] using h1) ?_ ?_
  · unfold PyData.depthAll at h2
    omega
  · unfold PyData.weightAll at h3
    rw [List.length_singleton] at h3
    omega
theorem bi_repr {x : D} (h : showOk x = true) : biV .repr [x] = some (.str x.shown) := by
  show (if showOk x = true then some (PyData.str x.shown) else none) = _
  rw [if_pos h]
theorem ne_same (x : Str) : cmpV .ne (.str x) (.str x) = some false := by
  show ((some (decide (x = x))).map fun b => !b) = _
  rw [decide_eq_true (rfl : x = x)]; rfl
theorem eq_same (x : Str) : cmpV .eq (.str x) (.str x) = some true := by
  show some (decide (x = x)) = _
  rw [decide_eq_true (rfl : x = x)]
end Pv
end

section
/-! PvO: decks, what they answer. -/
set_option autoImplicit false
namespace Pv
open PySem

/-- the draws of the first family -/
def drawA (k1 k2 k3 : Int) : Sm :=
  (.seq (.dkSet true (.var 0) (.bin .add (.dkGet true (.var 0)) (.c (.int 1))))
    (.seq (.set [2] (.bin .add (.dkGet false (.var 0)) (.bin .mul (.c (.int k1)) (.dkGet true (.var 0)))))
    (.seq (.ite (.dkHas (.var 0)) (.seq (.set [3] (.dkPop (.var 0)))
      (.seq (.ite (.cmp .ge (.var 3) (.bin .pow (.c (.int 10)) (.c (.int 18)))) (.seq (.ex (.dkPush (.var 0) (.bin .fdiv (.var 3) (.var 1))))
        (.ret (.bin .mod (.bi .toInt (.cons (.var 3) .nil)) (.var 1)))) .skip)
      (.set [2] (.bin .add (.var 2) (.bin .mod (.bi .toInt (.cons (.var 3) .nil)) (.c (.int 2147483629))))))) .skip)
    (.seq (.set [2] (.bin .mod (.bi .toInt (.cons (.bin .add (.bin .mul (.var 2) (.c (.int 39373))) (.c (.int k2))) .nil)) (.c (.int 2147483647))))
    (.seq (.set [2] (.bin .mod (.bi .toInt (.cons (.bin .add (.bin .add (.bin .mul (.var 2) (.var 2)) (.bin .mul (.c (.int 52711)) (.dkGet true (.var 0)))) (.c (.int k3))) .nil)) (.c (.int 2147483587))))
    (.ret (.bin .mod (.bin .fdiv (.bin .mod (.bi .toInt (.cons (.bin .mul (.var 2) (.c (.int 40692))) .nil)) (.c (.int 2147483563))) (.c (.int 64))) (.var 1))))))))
theorem mulOk_r {i j : Int} (h : j.natAbs < 18446744073709551616) : mulOk i j = true := by
  unfold mulOk
  rw [decide_eq_true h, Bool.or_true, Bool.true_or]
theorem mulOk_l {i j : Int} (h : i.natAbs < 18446744073709551616) : mulOk i j = true := by
  unfold mulOk
  rw [decide_eq_true h, Bool.true_or, Bool.true_or]
theorem getLast_some {α : Type} {xs : List α} (h : xs ≠ []) : ∃ x, xs.getLast? = some x := ⟨xs.getLast h, List.getLast?_eq_some_getLast h⟩
/-- what a draw answers -/
structure Drawn (Φd : Res D) (many : Int) (st : Dk) (r : Int) (st' : Dk) : Prop where
  eq : Φd = .ok (.int r) (some st')
  lo : 0 ≤ r
  hi : r < many
  len : st'.cells.length ≤ st.cells.length
theorem tail_A {Φ : Fns} {fu : Nat} {k2 k3 : Int} {st : Dk} {many f : Int} {x3 : Option D} (h0 : 0 < many) :
    Pv.run Φ fu (.seq (.set [2] (.bin .mod (.bi .toInt (.cons (.bin .add (.bin .mul (.var 2) (.c (.int 39373))) (.c (.int k2))) .nil)) (.c (.int 2147483647))))
    (.seq (.set [2] (.bin .mod (.bi .toInt (.cons (.bin .add (.bin .add (.bin .mul (.var 2) (.var 2)) (.bin .mul (.c (.int 52711)) (.dkGet true (.var 0)))) (.c (.int k3))) .nil)) (.c (.int 2147483587))))
    (.ret (.bin .mod (.bin .fdiv (.bin .mod (.bi .toInt (.cons (.bin .mul (.var 2) (.c (.int 40692))) .nil)) (.c (.int 2147483563))) (.c (.int 64))) (.var 1))))) [some (tokD 0), some (.int many), some (.int f), x3] (some st) =
    .ok (.rt (.int (((((f * 39373 + k2) % 2147483647) * ((f * 39373 + k2) % 2147483647) + 52711 * st.turn + k3) % 2147483587 * 40692) % 2147483563 / 64 % many))) (some st) := by
  have a1 : 0 ≤ (f * 39373 + k2) % 2147483647 := Int.emod_nonneg _ (by decide)
  have a2 : (f * 39373 + k2) % 2147483647 < 2147483647 := Int.emod_lt_of_pos _ (by decide)
  have m1 : mulOk f 39373 = true := mulOk_r (by decide)
  have m2 : mulOk ((f * 39373 + k2) % 2147483647) ((f * 39373 + k2) % 2147483647) = true := mulOk_r (by omega)
  have m3 : mulOk 52711 st.turn = true := mulOk_l (by decide)
  have m4 : mulOk (((f * 39373 + k2) % 2147483647 * ((f * 39373 + k2) % 2147483647) + 52711 * st.turn + k3) % 2147483587) 40692 = true := mulOk_r (by decide)
  have l1 : Nat.log2 64 < 9000 := by decide
  simp [Pv.run, ev, evs, biV, binV, m1, m2, m3, m4, setT, h0, dkGetV, l1]
theorem draw_A {Φ : Fns} {fu : Nat} {k1 k2 k3 : Int} {st : Dk} {many : Int} (h0 : 0 < many) (hl : many.natAbs.log2 < 9000) (hk : k1.natAbs < 18446744073709551616) (hc : st.cells.length ≤ 63) :
    ∃ r st', Drawn (fin (Pv.run Φ fu (drawA k1 k2 k3) [some (tokD 0), some (.int many), none, none] (some st))) many st r st' := by
  unfold drawA
  have m1 : mulOk k1 (st.turn + 1) = true := mulOk_l hk
  rw [run_seq_nx (σ' := [some (tokD 0), some (.int many), none, none]) (g' := some { st with turn := st.turn + 1 }) (by simp [Pv.run, ev, evs, binV, dkGetV, dkSetV])]
  rw [run_seq_nx (σ' := [some (tokD 0), some (.int many), some (.int (st.mixed + k1 * (st.turn + 1))), none]) (g' := some { st with turn := st.turn + 1 }) (by simp [Pv.run, ev, evs, binV, dkGetV, setT, m1])]
  by_cases he : st.cells = []
  · rw [run_seq_nx (σ' := [some (tokD 0), some (.int many), some (.int (st.mixed + k1 * (st.turn + 1))), none]) (g' := some { st with turn := st.turn + 1 }) (by simp [Pv.run, ev, evs, dkHasV, he])]
    rw [tail_A h0]
    exact ⟨_, _, rfl, Int.emod_nonneg _ (by omega), Int.emod_lt_of_pos _ h0, Nat.le_refl _⟩
  · obtain ⟨c, hcl⟩ := getLast_some he
    have hlen : st.cells.dropLast.length < 63 := by
      have : 0 < st.cells.length := List.length_pos_iff.mpr he
      rw [List.length_dropLast]; omega
    have hne : st.cells.isEmpty = false := by simpa using he
    have p1 : powOk 10 18 = true := by decide
    by_cases hb : 1000000000000000000 ≤ c
    · rw [run_seq_rt (v := .int (c % many)) (g' := some ⟨st.cells.dropLast ++ [c / many], st.mixed, st.turn + 1⟩) (by
        have l1 : st.cells.length - 1 < lineN := by
          unfold lineN; omega
        simp [Pv.run, ev, evs, dkHasV, hne, dkPopV, hcl, setT, cmpV, binV, p1, hb, dkPushV, h0, hl, biV, l1])]
      refine ⟨_, _, rfl, Int.emod_nonneg _ (by omega), Int.emod_lt_of_pos _ h0, ?_⟩
      show (st.cells.dropLast ++ [c / many]).length ≤ _
      rw [List.length_append, List.length_dropLast, List.length_singleton]
      have : 0 < st.cells.length := List.length_pos_iff.mpr he
      omega
    · rw [run_seq_nx (σ' := [some (tokD 0), some (.int many), some (.int (st.mixed + k1 * (st.turn + 1) + c % 2147483629)), some (.int c)]) (g' := some ⟨st.cells.dropLast, st.mixed, st.turn + 1⟩) (by
        simp [Pv.run, ev, evs, dkHasV, hne, dkPopV, hcl, setT, cmpV, binV, p1, hb, biV])]
      rw [tail_A h0]
      refine ⟨_, _, rfl, Int.emod_nonneg _ (by omega), Int.emod_lt_of_pos _ h0, ?_⟩
      show st.cells.dropLast.length ≤ _
      rw [List.length_dropLast]
      omega
/-- the deck of the first family -/
def deckA (ns : List Int) (seed k : Int) : Sm :=
  (.seq (.set [1] (.c (.int seed)))
    (.seq (.forr [2] .seq (.cons (.scr (.var 0) ns 63) .nil) (.set [1] (.bin .mod (.bi .toInt (.cons (.bin .add (.bin .add (.bin .mul (.var 1) (.c (.int 48271))) (.bin .mod (.bi .toInt (.cons (.var 2) .nil)) (.c (.int 2147483629)))) (.c (.int k))) .nil)) (.c (.int 2147483587)))))
    (.ret (.dkNew (.lrev (.bi .toList (.cons (.scr (.var 0) ns 63) .nil))) (.var 1) (.c (.int 0))))))
theorem ints_map : ∀ ns : List Int, intsOf (ns.map .int) = some ns
  | [] => rfl
  | n :: ns => by
    rw [List.map_cons]
    unfold intsOf
    rw [ints_map ns]; rfl
theorem deck_A {Φ : Fns} {fu : Nat} {ns : List Int} {seed k : Int} : ∃ st, fin (Pv.run Φ fu (deckA ns seed k) [some (tokD 1), none, none] none) = .ok (tokD 0) (some st) ∧ st.cells.length ≤ 63 := by
  unfold deckA
  rw [run_seq_nx (σ' := [some (tokD 1), some (.int seed), none]) (g' := none) (by simp [Pv.run, ev, setT])]
  have e2 := run_for (Φ := Φ) (fu := fu) (ts := [2]) (k := .seq) (σ := [some (tokD 1), some (.int seed), none]) (g := none) (vs := [.list ((ns.take 63).map .int)]) (xs := (ns.take 63).map .int) (g' := none) (as := .cons (.scr (.var 0) ns 63) .nil)
    (b := .set [1] (.bin .mod (.bi .toInt (.cons (.bin .add (.bin .add (.bin .mul (.var 1) (.c (.int 48271))) (.bin .mod (.bi .toInt (.cons (.var 2) .nil)) (.c (.int 2147483629)))) (.c (.int k))) .nil)) (.c (.int 2147483587)))) (by simp [evs, ev]) rfl
  obtain ⟨σ', g', e3, m, y, e4, e5⟩ := forL_inv (f := fun x σ g => (lift (setT [2] x σ) g).bind fun σ g => Pv.run Φ fu (.set [1] (.bin .mod (.bi .toInt (.cons (.bin .add (.bin .add (.bin .mul (.var 1) (.c (.int 48271))) (.bin .mod (.bi .toInt (.cons (.var 2) .nil)) (.c (.int 2147483629)))) (.c (.int k))) .nil)) (.c (.int 2147483587)))) σ g)
    (I := fun σ g => ∃ (m : Int) (y : Option D), σ = [some (tokD 1), some (.int m), y] ∧ g = none) (xs := (ns.take 63).map .int) (by
      rintro x hx σ g ⟨m, y, rfl, rfl⟩
      obtain ⟨n, hn, rfl⟩ := List.mem_map.mp hx
      have m1 : mulOk m 48271 = true := mulOk_r (by decide)
      exact ⟨_, _, by simp [setT, Pv.run, ev, evs, binV, biV, m1]; exact ⟨rfl, rfl⟩, _, _, rfl, rfl⟩) [some (tokD 1), some (.int seed), none] none ⟨_, _, rfl, rfl⟩
  subst e4; subst e5
  rw [run_seq_nx (e2.trans e3)]
  refine ⟨⟨(ns.take 63).reverse, m, 0⟩, ?_, ?_⟩
  · have e : (List.take 63 (List.map PyData.int ns)).reverse = ((ns.take 63).reverse).map PyData.int := by rw [← List.map_take, List.map_reverse]
    have e2 : intsOf (List.take 63 (List.map PyData.int ns)).reverse = some (ns.take 63).reverse := by rw [e, ints_map]
    simp [Pv.run, ev, evs, biV, dkNewV, e2, fin]
  · rw [List.length_reverse, List.length_take]
    omega
end Pv
end

section
/-! PvP: the program's functions of numbers, what they answer. -/
set_option autoImplicit false
namespace Pv
open PySem

theorem pow_emod' (a p : Int) : ∀ n : Nat, (a % p) ^ n % p = a ^ n % p
  | 0 => by rw [Int.pow_zero, Int.pow_zero]
  | n + 1 => by
    rw [Int.pow_succ, Int.pow_succ, Int.mul_emod, pow_emod' a p n, Int.emod_emod_of_dvd _ (Int.dvd_refl p), ← Int.mul_emod]
theorem pow_two_mul (b : Int) : ∀ k : Nat, (b * b) ^ k = b ^ (2 * k)
  | 0 => by rw [Nat.mul_zero, Int.pow_zero, Int.pow_zero]
  | k + 1 => by
    rw [Int.pow_succ, pow_two_mul b k, show 2 * (k + 1) = 2 * k + 1 + 1 from rfl, Int.pow_succ, Int.pow_succ, Int.mul_assoc]
theorem mulmod_l (a b p : Int) : a % p * b % p = a * b % p := by
  rw [Int.mul_emod, Int.emod_emod_of_dvd _ (Int.dvd_refl p), ← Int.mul_emod]
theorem mulmod_r (a b p : Int) : a * (b % p) % p = a * b % p := by
  rw [Int.mul_comm, mulmod_l, Int.mul_comm]
theorem mulpow_r (a b p : Int) (k : Nat) : a * (b % p) ^ k % p = a * b ^ k % p := by
  rw [← mulmod_r a ((b % p) ^ k), pow_emod', mulmod_r]
theorem sq_step (r b p : Int) (k : Nat) : (if k % 2 = 1 then r * b % p else r) * (b * b % p) ^ (k / 2) % p = r * b ^ k % p := by
  rw [mulpow_r, pow_two_mul]
  by_cases h : k % 2 = 1
  · rw [if_pos h, mulmod_l, Int.mul_assoc, Int.mul_comm b, ← Int.pow_succ]
    congr 2
    congr 1
    omega
  · rw [if_neg h]
    congr 2
    congr 1
    omega
/-- base ** exponent % prime by squares -/
def npowS : Sm :=
  (.seq (.set [3] (.c (.int 1)))
    (.seq (.set [4] (.bin .mod (.var 1) (.var 0)))
    (.seq (.set [5] (.var 2))
    (.seq (.whil (.cmp .gt (.var 5) (.c (.int 0))) (.seq (.ite (.truth (.bin .band (.var 5) (.c (.int 1)))) (.set [3] (.bin .mod (.bin .mul (.var 3) (.var 4)) (.var 0))) .skip)
      (.seq (.set [4] (.bin .mod (.bin .mul (.var 4) (.var 4)) (.var 0)))
      (.set [5] (.bin .shr (.var 5) (.c (.int 1)))))))
    (.ret (.var 3))))))
theorem band_one {k : Nat} : Builtin.bitAnd (k : Int) 1 = ((k % 2 : Nat) : Int) := by
  have h1 : decide ((0 : Int) ≤ (k : Int)) = true := decide_eq_true (by omega)
  have h2 : decide ((0 : Int) ≤ 1) = true := rfl
  unfold Builtin.bitAnd
  simp only [h1, h2, Int.toNat_natCast, show (1 : Int).toNat = 1 from rfl, Nat.and_one_is_mod]
theorem natAbs_lt {i p : Int} (h0 : 0 ≤ i) (h1 : i < p) (h2 : p < 18446744073709551616) : i.natAbs < 18446744073709551616 := by omega
section
variable {Φ : Fns} {g : G}
theorem npow_loop {p n e : Int} (hp : 0 < p) (hp2 : p < 18446744073709551616) : ∀ (k fu : Nat), k < fu → ∀ r b : Int, 0 ≤ r → r < p → 0 ≤ b → b < p → ∃ b' : Int,
    whileL (fun σ g => ev Φ (.cmp .gt (.var 5) (.c (.int 0))) σ g) (fun σ g => Pv.run Φ fuel (.seq (.ite (.truth (.bin .band (.var 5) (.c (.int 1)))) (.set [3] (.bin .mod (.bin .mul (.var 3) (.var 4)) (.var 0))) .skip)
      (.seq (.set [4] (.bin .mod (.bin .mul (.var 4) (.var 4)) (.var 0)))
      (.set [5] (.bin .shr (.var 5) (.c (.int 1)))))) σ g) fu [some (.int p), some (.int n), some (.int e), some (.int r), some (.int b), some (.int k)] g =
    .ok (.nx [some (.int p), some (.int n), some (.int e), some (.int (r * b ^ k % p)), some (.int b'), some (.int 0)]) g := by
  intro k
  induction k using Nat.strongRecOn with
  | _ k ih =>
    intro fu hf r b r0 r1 b0 b1
    obtain ⟨fu, rfl⟩ : ∃ m, fu = m + 1 := ⟨fu - 1, by omega⟩
    by_cases hk : k = 0
    · subst hk
      refine ⟨b, ?_⟩
      rw [whileL_end (by simp [ev, cmpV] : ev Φ (.cmp .gt (.var 5) (.c (.int 0))) [some (.int p), some (.int n), some (.int e), some (.int r), some (.int b), some (.int (0 : Nat))] g = .ok (.bool false) g)]
      rw [Int.pow_zero, Int.mul_one, Int.emod_eq_of_lt r0 r1]; rfl
    · have k0 : 0 < k := by omega
      have mrb : mulOk r b = true := mulOk_r (natAbs_lt b0 b1 hp2)
      have mbb : mulOk b b = true := mulOk_r (natAbs_lt b0 b1 hp2)
      obtain ⟨b', e⟩ := ih (k / 2) (by omega) fu (by omega) (if k % 2 = 1 then r * b % p else r) (b * b % p) (by split; exact Int.emod_nonneg _ (by omega); exact r0) (by split; exact Int.emod_lt_of_pos _ hp; exact r1) (Int.emod_nonneg _ (by omega)) (Int.emod_lt_of_pos _ hp)
      refine ⟨b', ?_⟩
      rw [whileL_step (g' := g) (σ' := [some (.int p), some (.int n), some (.int _), some (.int (if k % 2 = 1 then r * b % p else r)), some (.int (b * b % p)), some (.int ((k / 2 : Nat) : Int))]) (g2 := g)
        (by simp [ev, cmpV]; omega) ?_, e, sq_step]
      by_cases h2 : k % 2 = 1
      · have t : truV (.int (Builtin.bitAnd (k : Int) 1)) = some true := by rw [band_one, h2]; rfl
        simp [Pv.run, ev, binV, t, hp, mrb, mbb, setT, h2]
      · have h3 : k % 2 = 0 := by omega
        have t : truV (.int (Builtin.bitAnd (k : Int) 1)) = some false := by rw [band_one, h3]; rfl
        simp [Pv.run, ev, binV, t, hp, mrb, mbb, setT, h2]
theorem npow {p n e : Int} (hp : 1 < p) (hp2 : p < 18446744073709551616) (he : 0 ≤ e) (he2 : e < 18446744073709551616) : fin (Pv.run Φ fuel npowS [some (.int p), some (.int n), some (.int e), none, none, none] g) = .ok (.int (n ^ e.toNat % p)) g := by
  have hp0 : 0 < p := by omega
  unfold npowS
  rw [run_seq_nx (σ' := [some (.int p), some (.int n), some (.int e), some (.int 1), none, none]) (g' := g) rfl]
  rw [run_seq_nx (σ' := [some (.int p), some (.int n), some (.int e), some (.int 1), some (.int (n % p)), none]) (g' := g) (by simp [Pv.run, ev, binV, hp0, setT])]
  rw [run_seq_nx (σ' := [some (.int p), some (.int n), some (.int e), some (.int 1), some (.int (n % p)), some (.int (e.toNat : Nat))]) (g' := g) (by rw [Int.toNat_of_nonneg he]; rfl)]
  obtain ⟨b', h⟩ := npow_loop (Φ := Φ) (g := g) (n := n) (e := e) hp0 hp2 e.toNat fuel (by unfold fuel; omega) 1 (n % p) (by omega) hp (Int.emod_nonneg _ (by omega)) (Int.emod_lt_of_pos _ hp0)
  have h2 : Pv.run Φ fuel (.whil (.cmp .gt (.var 5) (.c (.int 0))) (.seq (.ite (.truth (.bin .band (.var 5) (.c (.int 1)))) (.set [3] (.bin .mod (.bin .mul (.var 3) (.var 4)) (.var 0))) .skip)
      (.seq (.set [4] (.bin .mod (.bin .mul (.var 4) (.var 4)) (.var 0)))
      (.set [5] (.bin .shr (.var 5) (.c (.int 1))))))) [some (.int p), some (.int n), some (.int e), some (.int 1), some (.int (n % p)), some (.int (e.toNat : Nat))] g = .ok (.nx [some (.int p), some (.int n), some (.int e), some (.int (1 * (n % p) ^ e.toNat % p)), some (.int b'), some (.int 0)]) g := h
  rw [run_seq_nx h2, Int.one_mul, pow_emod']
  rfl
end
end Pv
end

section
/-! PvQ: what a run must answer, by steps. -/
set_option autoImplicit false
namespace Pv
open PySem

/-- a run ends well, with a value and a deck that fit (an inductive one: nothing unfolds it) -/
inductive Ok {α : Type} (r : Res α) (Q : α → G → Prop) : Prop where
  | mk (a : α) (g : G) (e : r = .ok a g) (q : Q a g)
/-- the rest of a row of statements -/
def thenF (k : Sl → G → Prop) (Q : Fl → G → Prop) : Fl → G → Prop
  | .nx σ, g => k σ g
  | fl, g => Q fl g
@[simp] theorem thenF_nx {k : Sl → G → Prop} {Q : Fl → G → Prop} {σ : Sl} {g : G} : thenF k Q (.nx σ) g = k σ g := (rfl)
@[simp] theorem thenF_rt {k : Sl → G → Prop} {Q : Fl → G → Prop} {v : D} {g : G} : thenF k Q (.rt v) g = Q (.rt v) g := (rfl)
@[simp] theorem thenF_bk {k : Sl → G → Prop} {Q : Fl → G → Prop} {σ : Sl} {g : G} : thenF k Q (.bk σ) g = Q (.bk σ) g := (rfl)
@[simp] theorem thenF_ct {k : Sl → G → Prop} {Q : Fl → G → Prop} {σ : Sl} {g : G} : thenF k Q (.ct σ) g = Q (.ct σ) g := (rfl)
/-- what a function answers -/
def retF (Q : D → G → Prop) : Fl → G → Prop
  | .rt v, g => Q v g
  | .nx _, g => Q .none g
  | _, _ => False
@[simp] theorem retF_rt {Q : D → G → Prop} {v : D} {g : G} : retF Q (.rt v) g = Q v g := (rfl)
@[simp] theorem retF_nx {Q : D → G → Prop} {σ : Sl} {g : G} : retF Q (.nx σ) g = Q .none g := (rfl)
@[simp] theorem retF_bk {Q : D → G → Prop} {σ : Sl} {g : G} : retF Q (.bk σ) g = False := (rfl)
@[simp] theorem retF_ct {Q : D → G → Prop} {σ : Sl} {g : G} : retF Q (.ct σ) g = False := (rfl)
/-- a loop's body: on, or out -/
def loopF (I : Sl → G → Prop) (Q : Fl → G → Prop) : Fl → G → Prop
  | .nx σ, g => I σ g
  | .ct σ, g => I σ g
  | .bk σ, g => Q (.nx σ) g
  | .rt v, g => Q (.rt v) g
@[simp] theorem loopF_nx {k : Sl → G → Prop} {Q : Fl → G → Prop} {σ : Sl} {g : G} : loopF k Q (.nx σ) g = k σ g := (rfl)
@[simp] theorem loopF_ct {k : Sl → G → Prop} {Q : Fl → G → Prop} {σ : Sl} {g : G} : loopF k Q (.ct σ) g = k σ g := (rfl)
@[simp] theorem loopF_bk {k : Sl → G → Prop} {Q : Fl → G → Prop} {σ : Sl} {g : G} : loopF k Q (.bk σ) g = Q (.nx σ) g := (rfl)
@[simp] theorem loopF_rt {k : Sl → G → Prop} {Q : Fl → G → Prop} {v : D} {g : G} : loopF k Q (.rt v) g = Q (.rt v) g := (rfl)
section
variable {α β : Type} {Q P : α → G → Prop} {g g' : G} {a : α}
@[simp] theorem Ok_ok : Ok (.ok a g) Q = Q a g := propext ⟨fun ⟨_, _, e, q⟩ => (by cases e; exact q), fun q => ⟨_, _, rfl, q⟩⟩
@[simp] theorem Ok_no : Ok (.no : Res α) Q = False := propext ⟨fun ⟨_, _, e, _⟩ => (nomatch e), False.elim⟩
@[simp] theorem Ok_exc {c : Nat} {vs : List D} : Ok (.exc c vs g : Res α) Q = False := propext ⟨fun ⟨_, _, e, _⟩ => (nomatch e), False.elim⟩
@[simp] theorem Ok_bind {r : Res β} {f : β → G → Res α} : Ok (r.bind f) Q = Ok r fun b g => Ok (f b g) Q := by cases r <;> simp
@[simp] theorem Ok_lift {o : Option α} : Ok (lift o g) Q = ∃ a, o = some a ∧ Q a g := by cases o <;> simp
@[simp] theorem Ok_if {c : Prop} [Decidable c] {r s : Res α} : Ok (if c then r else s) Q = if c then Ok r Q else Ok s Q := by split <;> rfl
theorem Ok.ex {r : Res α} (h : Ok r Q) : ∃ a g, r = .ok a g ∧ Q a g := let ⟨a, g, e, q⟩ := h; ⟨a, g, e, q⟩
theorem Ok.mono {r : Res α} (h : Ok r P) (i : ∀ a g, P a g → Q a g) : Ok r Q := let ⟨a, g, e, q⟩ := h; ⟨a, g, e, i a g q⟩
theorem Ok.of_eq {r : Res α} (h : r = .ok a g) (q : Q a g) : Ok r Q := ⟨a, g, h, q⟩
theorem Ok.eq {r : Res α} (h : Ok r fun b g' => b = a ∧ g' = g) : r = .ok a g := by
  obtain ⟨b, g', e, rfl, rfl⟩ := h.ex
  exact e
theorem Ok_fin {r : Res Fl} {Q : D → G → Prop} : Ok (fin r) Q = Ok r (retF Q) := by
  cases r with
  | ok a g => cases a <;> simp [fin, retF]
  | exc c vs g => simp [fin]
  | no => simp [fin]
end
theorem Ok_FT {T : List Fn} {d f : Nat} {as : List D} {g : G} {Q : D → G → Prop} {fn : Fn} (h : T[f]? = some fn) (hl : as.length = fn.np)
    (hb : Ok (Pv.run (FT T (fun _ => none) d) fuel fn.body (as.map some ++ List.replicate (fn.nl - fn.np) none) g) (retF Q)) : Ok (FT T (fun _ => none) (d + 1) f as g) Q := by
  rw [FT_at h hl, Ok_fin]; exact hb
section
variable {Φ : Fns} {fu : Nat} {σ : Sl} {g : G} {Q : D → G → Prop} {a b c t e d k x : Ex} {as : Exs}
@[simp] theorem Ok_c {v : D} : Ok (ev Φ (.c v) σ g) Q = Q v g := by unfold ev; exact Ok_ok
@[simp] theorem Ok_var {i : Nat} : Ok (ev Φ (.var i) σ g) Q = ∃ v, σ[i]? = some (some v) ∧ Q v g := by
  unfold ev
  cases e : σ[i]? with
  | none => simp
  | some o => cases o <;> simp
@[simp] theorem Ok_bin {op : Bop} : Ok (ev Φ (.bin op a b) σ g) Q = Ok (ev Φ a σ g) fun x g => Ok (ev Φ b σ g) fun y g => ∃ z, binV op x y = some z ∧ Q z g := by
  conv => lhs; unfold ev
  simp only [Ok_bind, Ok_lift]
@[simp] theorem Ok_neg : Ok (ev Φ (.neg a) σ g) Q = Ok (ev Φ a σ g) fun x g => ∃ i, x = .int i ∧ Q (.int (-i)) g := by
  conv => lhs; unfold ev
  simp only [Ok_bind]
  congr; funext x g
  cases x <;> simp
@[simp] theorem Ok_asI : Ok (ev Φ (.asI a) σ g) Q = Ok (ev Φ a σ g) fun x g => ∃ i, x = .int i ∧ Q (.int i) g := by
  conv => lhs; unfold ev
  simp only [Ok_bind]
  congr; funext x g
  cases x <;> simp
@[simp] theorem Ok_cmp {op : Cop} : Ok (ev Φ (.cmp op a b) σ g) Q = Ok (ev Φ a σ g) fun x g => Ok (ev Φ b σ g) fun y g => ∃ z, cmpV op x y = some z ∧ Q (.bool z) g := by
  conv => lhs; unfold ev
  simp only [Ok_bind, Ok_lift, Option.map_eq_some_iff]
  congr; funext x g; congr; funext y g
  exact propext ⟨fun ⟨_, ⟨z, h, e⟩, q⟩ => ⟨z, h, by rw [e]; exact q⟩, fun ⟨z, h, q⟩ => ⟨_, ⟨z, h, rfl⟩, q⟩⟩
@[simp] theorem Ok_chain {o1 o2 : Cop} : Ok (ev Φ (.chain o1 o2 a b c) σ g) Q = Ok (ev Φ a σ g) fun x g => Ok (ev Φ b σ g) fun y g => ∃ k, cmpV o1 x y = some k ∧
    if k = true then Ok (ev Φ c σ g) fun z g => ∃ w, cmpV o2 y z = some w ∧ Q (.bool w) g else Q (.bool false) g := by
  conv => lhs; unfold ev
  simp only [Ok_bind, Ok_lift, Option.map_eq_some_iff, Ok_if, Ok_ok]
  congr; funext x g; congr; funext y g
  congr; funext k; congr; funext z g
  exact propext ⟨fun ⟨_, ⟨z, h, e⟩, q⟩ => ⟨z, h, by rw [e]; exact q⟩, fun ⟨z, h, q⟩ => ⟨_, ⟨z, h, rfl⟩, q⟩⟩
@[simp] theorem Ok_chain3 {o1 o2 o3 : Cop} : Ok (ev Φ (.chain3 o1 o2 o3 a b c d) σ g) Q = Ok (ev Φ a σ g) fun x g => Ok (ev Φ b σ g) fun y g => ∃ k, cmpV o1 x y = some k ∧
    if k = true then Ok (ev Φ c σ g) fun z g => ∃ k, cmpV o2 y z = some k ∧ if k = true then Ok (ev Φ d σ g) fun w g => ∃ u, cmpV o3 z w = some u ∧ Q (.bool u) g else Q (.bool false) g else Q (.bool false) g := by
  conv => lhs; unfold ev
  simp only [Ok_bind, Ok_lift, Option.map_eq_some_iff, Ok_if, Ok_ok]
  congr; funext x g; congr; funext y g
  congr; funext k; congr; funext z g
  congr; funext k; congr; funext w g
  exact propext ⟨fun ⟨_, ⟨z, h, e⟩, q⟩ => ⟨z, h, by rw [e]; exact q⟩, fun ⟨z, h, q⟩ => ⟨_, ⟨z, h, rfl⟩, q⟩⟩
@[simp] theorem Ok_and : Ok (ev Φ (.and a b) σ g) Q = Ok (ev Φ a σ g) fun x g => ∃ k : Bool, x = .bool k ∧ if k = true then Ok (ev Φ b σ g) Q else Q (.bool false) g := by
  conv => lhs; unfold ev
  simp only [Ok_bind]
  congr; funext x g
  cases x with
  | bool k => cases k <;> simp
  | _ => simp
@[simp] theorem Ok_or : Ok (ev Φ (.or a b) σ g) Q = Ok (ev Φ a σ g) fun x g => ∃ k : Bool, x = .bool k ∧ if k = true then Q (.bool true) g else Ok (ev Φ b σ g) Q := by
  conv => lhs; unfold ev
  simp only [Ok_bind]
  congr; funext x g
  cases x with
  | bool k => cases k <;> simp
  | _ => simp
@[simp] theorem Ok_not : Ok (ev Φ (.not a) σ g) Q = Ok (ev Φ a σ g) fun x g => ∃ k : Bool, x = .bool k ∧ Q (.bool (!k)) g := by
  conv => lhs; unfold ev
  simp only [Ok_bind]
  congr; funext x g
  cases x <;> simp
@[simp] theorem Ok_truth : Ok (ev Φ (.truth a) σ g) Q = Ok (ev Φ a σ g) fun x g => ∃ k, truV x = some k ∧ Q (.bool k) g := by
  conv => lhs; unfold ev
  simp only [Ok_bind, Ok_lift, Option.map_eq_some_iff]
  congr; funext x g
  exact propext ⟨fun ⟨_, ⟨z, h, e⟩, q⟩ => ⟨z, h, by rw [e]; exact q⟩, fun ⟨z, h, q⟩ => ⟨_, ⟨z, h, rfl⟩, q⟩⟩
@[simp] theorem Ok_ite : Ok (ev Φ (.ite t a b) σ g) Q = Ok (ev Φ t σ g) fun x g => ∃ k : Bool, x = .bool k ∧ if k = true then Ok (ev Φ a σ g) Q else Ok (ev Φ b σ g) Q := by
  conv => lhs; unfold ev
  simp only [Ok_bind]
  congr; funext x g
  cases x with
  | bool k => cases k <;> simp
  | _ => simp
@[simp] theorem Ok_idx : Ok (ev Φ (.idx a b) σ g) Q = Ok (ev Φ a σ g) fun x g => Ok (ev Φ b σ g) fun y g => ∃ z, idxV x y = some z ∧ Q z g := by
  conv => lhs; unfold ev
  simp only [Ok_bind, Ok_lift]
@[simp] theorem Ok_slc : Ok (ev Φ (.slc a b c) σ g) Q = Ok (ev Φ a σ g) fun x g => Ok (ev Φ b σ g) fun l g => Ok (ev Φ c σ g) fun h g => ∃ z, slcV x l h = some z ∧ Q z g := by
  conv => lhs; unfold ev
  simp only [Ok_bind, Ok_lift]
@[simp] theorem Ok_rev : Ok (ev Φ (.rev a) σ g) Q = Ok (ev Φ a σ g) fun x g => ∃ z, revV x = some z ∧ Q z g := by
  conv => lhs; unfold ev
  simp only [Ok_bind, Ok_lift]
@[simp] theorem Ok_tup : Ok (ev Φ (.tup as) σ g) Q = Ok (evs Φ as σ g) fun xs g => Q (.tuple xs) g := by
  conv => lhs; unfold ev
  simp only [Ok_bind, Ok_ok]
@[simp] theorem Ok_lst : Ok (ev Φ (.lst as) σ g) Q = Ok (evs Φ as σ g) fun xs g => Q (.list xs) g := by
  conv => lhs; unfold ev
  simp only [Ok_bind, Ok_ok]
@[simp] theorem Ok_bi {f : Bi} : Ok (ev Φ (.bi f as) σ g) Q = Ok (evs Φ as σ g) fun xs g => ∃ z, biV f xs = some z ∧ Q z g := by
  conv => lhs; unfold ev
  simp only [Ok_bind, Ok_lift]
@[simp] theorem Ok_call {f : Nat} : Ok (ev Φ (.call f as) σ g) Q = Ok (evs Φ as σ g) fun xs g => Ok (Φ f xs g) Q := by
  conv => lhs; unfold ev
  simp only [Ok_bind]
@[simp] theorem Ok_callK {f : Nat} {perm : List Nat} : Ok (ev Φ (.callK f as perm) σ g) Q = Ok (evs Φ as σ g) fun xs g => Ok (Φ f (pm perm xs) g) Q := by
  conv => lhs; unfold ev
  simp only [Ok_bind]
/-- one item of a comprehension -/
def itemF (Φ : Fns) (t : List Nat) (σ : Sl) (cond elt : Ex) (x : D) (g : G) : Res (Option D) :=
  (lift (setT t x (wipeS σ t)) g).bind fun σ' g => (ev Φ cond σ' g).bind fun b g => match b with
        | .bool true => (ev Φ elt σ' g).bind fun v g => .ok (some v) g
        | .bool false => .ok none g
        | _ => .no
theorem Ok_itemF {t : List Nat} {cond elt : Ex} {x : D} {Q : Option D → G → Prop} : Ok (itemF Φ t σ cond elt x g) Q = ∃ σ', setT t x (wipeS σ t) = some σ' ∧ Ok (ev Φ cond σ' g) fun b g => ∃ k : Bool, b = .bool k ∧ if k = true then Ok (ev Φ elt σ' g) fun v g => Q (some v) g else Q none g := by
  unfold itemF
  simp only [Ok_bind, Ok_lift]
  congr; funext σ'; congr; funext b g
  cases b with
  | bool k => cases k <;> simp
  | _ => simp
@[simp] theorem Ok_comp {t : List Nat} {k : Ik} {cond elt : Ex} : Ok (ev Φ (.comp t k as cond elt) σ g) Q = Ok (evs Φ as σ g) fun vs g => ∃ xs, itV k vs = some xs ∧ xs.length ≤ lineN ∧ Ok (compL (itemF Φ t σ cond elt) xs [] g) fun ys g => Q (.list ys) g := by
  conv => lhs; unfold ev
  simp only [Ok_bind, Ok_lift]
  congr; funext vs g; congr; funext xs
  by_cases h : xs.length ≤ lineN
  · simp [h]; exact fun _ => Iff.rfl
  · simp [h]
@[simp] theorem Ok_dnew : Ok (ev Φ .dnew σ g) Q = Q (.dict []) g := by unfold ev; exact Ok_ok
@[simp] theorem Ok_dget : Ok (ev Φ (.dget d k x) σ g) Q = Ok (ev Φ d σ g) fun dv g => Ok (ev Φ k σ g) fun kv g => Ok (ev Φ x σ g) fun xv g => ∃ z, dgetV dv kv xv = some z ∧ Q z g := by
  conv => lhs; unfold ev
  simp only [Ok_bind, Ok_lift]
@[simp] theorem Ok_dix : Ok (ev Φ (.dix d k) σ g) Q = Ok (ev Φ d σ g) fun dv g => Ok (ev Φ k σ g) fun kv g => ∃ z, dixV dv kv = some z ∧ Q z g := by
  conv => lhs; unfold ev
  simp only [Ok_bind, Ok_lift]
@[simp] theorem Ok_dhas {n : Bool} : Ok (ev Φ (.dhas k d n) σ g) Q = Ok (ev Φ k σ g) fun kv g => Ok (ev Φ d σ g) fun dv g => ∃ b, dhasV kv dv = some b ∧ Q (.bool (b != n)) g := by
  conv => lhs; unfold ev
  simp only [Ok_bind, Ok_lift, Option.map_eq_some_iff]
  congr; funext x g; congr; funext y g
  exact propext ⟨fun ⟨_, ⟨z, h, e⟩, q⟩ => ⟨z, h, by rw [e]; exact q⟩, fun ⟨z, h, q⟩ => ⟨_, ⟨z, h, rfl⟩, q⟩⟩
@[simp] theorem Ok_ddisp : Ok (ev Φ (.ddisp as) σ g) Q = Ok (evs Φ as σ g) fun xs g => ∃ z, dispV xs [] = some z ∧ Q (.dict z) g := by
  conv => lhs; unfold ev
  simp only [Ok_bind, Ok_lift, Option.map_eq_some_iff]
  congr; funext x g
  exact propext ⟨fun ⟨_, ⟨z, h, e⟩, q⟩ => ⟨z, h, by rw [e]; exact q⟩, fun ⟨z, h, q⟩ => ⟨_, ⟨z, h, rfl⟩, q⟩⟩
@[simp] theorem Ok_lrev : Ok (ev Φ (.lrev a) σ g) Q = Ok (ev Φ a σ g) fun x g => ∃ xs, x = .list xs ∧ Q (.list xs.reverse) g := by
  conv => lhs; unfold ev
  simp only [Ok_bind]
  congr; funext x g
  cases x <;> simp
@[simp] theorem Ok_fld {f : Str} : Ok (ev Φ (.fld a f) σ g) Q = Ok (ev Φ a σ g) fun x g => ∃ z, fldV x f = some z ∧ Q z g := by
  conv => lhs; unfold ev
  simp only [Ok_bind, Ok_lift]
@[simp] theorem Ok_meth {c fi : Nat} {o : Ex} : Ok (ev Φ (.meth c fi o as) σ g) Q = Ok (ev Φ o σ g) fun x g => isOb c x = true ∧ Ok (evs Φ as σ g) fun xs g => Ok (Φ fi (x :: xs) g) Q := by
  conv => lhs; unfold ev
  simp only [Ok_bind]
  congr; funext x g
  by_cases h : isOb c x = true <;> simp [h]
@[simp] theorem Ok_mk {c fi : Nat} : Ok (ev Φ (.mk c fi as) σ g) Q = Ok (evs Φ as σ g) fun xs g => Ok (Φ fi (objD c [] :: xs) g) Q := by
  conv => lhs; unfold ev
  simp only [Ok_bind]
@[simp] theorem Ok_tnew : Ok (ev Φ .tnew σ g) Q = Q (tdD []) g := by unfold ev; exact Ok_ok
@[simp] theorem Ok_evs_nil {Q : List D → G → Prop} : Ok (evs Φ .nil σ g) Q = Q [] g := by unfold evs; exact Ok_ok
@[simp] theorem Ok_evs_cons {Q : List D → G → Prop} : Ok (evs Φ (.cons a as) σ g) Q = Ok (ev Φ a σ g) fun x g => Ok (evs Φ as σ g) fun xs g => Q (x :: xs) g := by
  conv => lhs; unfold evs
  simp only [Ok_bind, Ok_ok]
end
section
variable {Φ : Fns} {fu : Nat} {σ : Sl} {g : G} {Q : Fl → G → Prop} {s b : Sm} {t e k : Ex} {as : Exs} {i : Nat}
theorem Ok_seq : Ok (Pv.run Φ fu (.seq s b) σ g) Q = Ok (Pv.run Φ fu s σ g) (thenF (fun σ g => Ok (Pv.run Φ fu b σ g) Q) Q) := by
  conv => lhs; unfold Pv.run
  simp only [Ok_bind]
  congr; funext fl g
  cases fl <;> simp
@[simp] theorem Ok_skip : Ok (Pv.run Φ fu .skip σ g) Q = Q (.nx σ) g := Ok_ok
@[simp] theorem Ok_set1 : Ok (Pv.run Φ fu (.set [i] e) σ g) Q = Ok (ev Φ e σ g) fun v g => Q (.nx (σ.set i (some v))) g := by
  conv => lhs; unfold Pv.run
  simp only [Ok_bind, Ok_lift, Ok_ok, setT, Option.some.injEq, exists_eq_left']
@[simp] theorem Ok_set2 {j : Nat} {ts : List Nat} : Ok (Pv.run Φ fu (.set (i :: j :: ts) e) σ g) Q = Ok (ev Φ e σ g) fun v g => ∃ σ', setT (i :: j :: ts) v σ = some σ' ∧ Q (.nx σ') g := by
  conv => lhs; unfold Pv.run
  simp only [Ok_bind, Ok_lift, Ok_ok]
@[simp] theorem Ok_setG {ts : List (List Nat)} : Ok (Pv.run Φ fu (.setG ts e) σ g) Q = Ok (ev Φ e σ g) fun v g => ∃ σ', setG ts v σ = some σ' ∧ Q (.nx σ') g := by
  conv => lhs; unfold Pv.run
  simp only [Ok_bind, Ok_lift, Ok_ok]
@[simp] theorem Ok_par {j : Nat} {a b : Ex} : Ok (Pv.run Φ fu (.par i j a b) σ g) Q = Ok (ev Φ a σ g) fun v g => Ok (ev Φ b σ g) fun w g => Q (.nx ((σ.set i (some v)).set j (some w))) g := by
  conv => lhs; unfold Pv.run
  simp only [Ok_bind, Ok_ok]
@[simp] theorem Ok_par3 {j l : Nat} {a b c : Ex} : Ok (Pv.run Φ fu (.par3 i j l a b c) σ g) Q = Ok (ev Φ a σ g) fun u g => Ok (ev Φ b σ g) fun v g => Ok (ev Φ c σ g) fun w g => Q (.nx (((σ.set i (some u)).set j (some v)).set l (some w))) g := by
  conv => lhs; unfold Pv.run
  simp only [Ok_bind, Ok_ok]
theorem Ok_slot {Q : D → G → Prop} : Ok (slot σ i g) Q = ∃ v, σ[i]? = some (some v) ∧ Q v g := by
  unfold slot
  cases e : σ[i]? with
  | none => simp
  | some o => cases o <;> simp
@[simp] theorem Ok_aug {op : Bop} : Ok (Pv.run Φ fu (.aug i op e) σ g) Q = ∃ x, σ[i]? = some (some x) ∧ Ok (ev Φ e σ g) fun y g => ∃ z, augV op x y = some z ∧ Q (.nx (σ.set i (some z))) g := by
  conv => lhs; unfold Pv.run
  simp only [Ok_bind, Ok_ok, Ok_slot, Ok_lift]
@[simp] theorem Ok_setIx : Ok (Pv.run Φ fu (.setIx i k e) σ g) Q = Ok (ev Φ e σ g) fun v g => ∃ d, σ[i]? = some (some d) ∧ Ok (ev Φ k σ g) fun kv g => ∃ d', setIxV d kv v = some d' ∧ Q (.nx (σ.set i (some d'))) g := by
  conv => lhs; unfold Pv.run
  simp only [Ok_bind, Ok_ok, Ok_slot, Ok_lift]
@[simp] theorem Ok_setKey : Ok (Pv.run Φ fu (.setKey i k e) σ g) Q = Ok (ev Φ e σ g) fun v g => ∃ d, σ[i]? = some (some d) ∧ Ok (ev Φ k σ g) fun kv g => ∃ d', setKeyV d kv v = some d' ∧ Q (.nx (σ.set i (some d'))) g := by
  conv => lhs; unfold Pv.run
  simp only [Ok_bind, Ok_ok, Ok_slot, Ok_lift]
@[simp] theorem Ok_app : Ok (Pv.run Φ fu (.app i e) σ g) Q = ∃ x, σ[i]? = some (some x) ∧ Ok (ev Φ e σ g) fun v g => ∃ d, σ[i]? = some (some d) ∧ ∃ d', appV d v = some d' ∧ Q (.nx (σ.set i (some d'))) g := by
  conv => lhs; unfold Pv.run
  simp only [Ok_bind, Ok_ok, Ok_slot, Ok_lift]
@[simp] theorem Ok_ext : Ok (Pv.run Φ fu (.ext i e) σ g) Q = ∃ x, σ[i]? = some (some x) ∧ Ok (ev Φ e σ g) fun v g => ∃ d, σ[i]? = some (some d) ∧ ∃ d', extV d v = some d' ∧ Q (.nx (σ.set i (some d'))) g := by
  conv => lhs; unfold Pv.run
  simp only [Ok_bind, Ok_ok, Ok_slot, Ok_lift]
@[simp] theorem Ok_augIx {op : Bop} : Ok (Pv.run Φ fu (.augIx i op k e) σ g) Q = ∃ d, σ[i]? = some (some d) ∧ Ok (ev Φ k σ g) fun kv g => ∃ old, idxV d kv = some old ∧ Ok (ev Φ e σ g) fun y g => ∃ z, augV op old y = some z ∧ ∃ d', setIxV d kv z = some d' ∧ Q (.nx (σ.set i (some d'))) g := by
  conv => lhs; unfold Pv.run
  simp only [Ok_bind, Ok_lift, Ok_ok, Ok_slot]
@[simp] theorem Ok_popS : Ok (Pv.run Φ fu (.popS i) σ g) Q = ∃ d, σ[i]? = some (some d) ∧ ∃ d', popV d = some d' ∧ Q (.nx (σ.set i (some d'))) g := by
  conv => lhs; unfold Pv.run
  simp only [Ok_bind, Ok_lift, Ok_ok, Ok_slot]
@[simp] theorem Ok_popX {j : Nat} : Ok (Pv.run Φ fu (.popX j i) σ g) Q = ∃ d, σ[i]? = some (some d) ∧ ∃ p, popD d = some p ∧ Q (.nx ((σ.set i (some p.2)).set j (some p.1))) g := by
  conv => lhs; unfold Pv.run
  simp only [Ok_bind, Ok_lift, Ok_ok, Ok_slot]
@[simp] theorem Ok_popI {j : Nat} : Ok (Pv.run Φ fu (.popI j i e) σ g) Q = ∃ x, σ[i]? = some (some x) ∧ Ok (ev Φ e σ g) fun v g => ∃ d, σ[i]? = some (some d) ∧ ∃ p, popAtD d v = some p ∧ Q (.nx ((σ.set i (some p.2)).set j (some p.1))) g := by
  conv => lhs; unfold Pv.run
  simp only [Ok_bind, Ok_lift, Ok_ok, Ok_slot]
@[simp] theorem Ok_setF {c : Nat} {f : Str} : Ok (Pv.run Φ fu (.setF i c f e) σ g) Q = Ok (ev Φ e σ g) fun v g => ∃ d, σ[i]? = some (some d) ∧ ∃ d', setFV c f v d = some d' ∧ Q (.nx (σ.set i (some d'))) g := by
  conv => lhs; unfold Pv.run
  simp only [Ok_bind, Ok_lift, Ok_ok, Ok_slot]
@[simp] theorem Ok_bad : Ok (Pv.run Φ fu .bad σ g) Q = False := by
  conv => lhs; unfold Pv.run
  exact Ok_no
@[simp] theorem Ok_setd : Ok (Pv.run Φ fu (.setd i k e) σ g) Q = ∃ d, σ[i]? = some (some d) ∧ Ok (ev Φ k σ g) fun kv g => Ok (ev Φ e σ g) fun v g => ∃ d', setdV d kv v = some d' ∧ Q (.nx (σ.set i (some d'))) g := by
  conv => lhs; unfold Pv.run
  simp only [Ok_bind, Ok_ok, Ok_slot, Ok_lift]
@[simp] theorem Ok_sif {a : Sm} : Ok (Pv.run Φ fu (.ite t a b) σ g) Q = Ok (ev Φ t σ g) fun x g => ∃ k : Bool, x = .bool k ∧ if k = true then Ok (Pv.run Φ fu a σ g) Q else Ok (Pv.run Φ fu b σ g) Q := by
  conv => lhs; unfold Pv.run
  simp only [Ok_bind]
  congr; funext x g
  cases x with
  | bool k => cases k <;> simp
  | _ => simp
@[simp] theorem Ok_ret : Ok (Pv.run Φ fu (.ret e) σ g) Q = Ok (ev Φ e σ g) fun v g => Q (.rt v) g := by
  conv => lhs; unfold Pv.run
  simp only [Ok_bind, Ok_ok]
@[simp] theorem Ok_brk : Ok (Pv.run Φ fu .brk σ g) Q = Q (.bk σ) g := Ok_ok
@[simp] theorem Ok_cnt : Ok (Pv.run Φ fu .cnt σ g) Q = Q (.ct σ) g := Ok_ok
@[simp] theorem Ok_sex : Ok (Pv.run Φ fu (.ex e) σ g) Q = Ok (ev Φ e σ g) fun _ g => Q (.nx σ) g := by
  conv => lhs; unfold Pv.run
  simp only [Ok_bind, Ok_ok]
/-- one turn of a loop -/
def turnF (Φ : Fns) (fu : Nat) (t : List Nat) (b : Sm) (x : D) (σ : Sl) (g : G) : Res Fl := (lift (setT t x σ) g).bind fun σ g => Pv.run Φ fu b σ g
@[simp] theorem Ok_turnF {t : List Nat} {x : D} : Ok (turnF Φ fu t b x σ g) Q = ∃ σ', setT t x σ = some σ' ∧ Ok (Pv.run Φ fu b σ' g) Q := by
  unfold turnF
  simp only [Ok_bind, Ok_lift]
theorem Ok_for {t : List Nat} {k : Ik} : Ok (Pv.run Φ fu (.forr t k as b) σ g) Q = Ok (evs Φ as σ g) fun vs g => ∃ xs, itV k vs = some xs ∧ Ok (forL (turnF Φ fu t b) xs σ g) Q := by
  conv => lhs; unfold Pv.run
  simp only [Ok_bind, Ok_lift]; rfl
theorem Ok_while : Ok (Pv.run Φ fu (.whil t b) σ g) Q = Ok (whileL (fun σ g => ev Φ t σ g) (fun σ g => Pv.run Φ fu b σ g) fu σ g) Q := by
  conv => lhs; unfold Pv.run
end
/-! ### loops -/
/-- a loop over items: the invariant knows how many are behind -/
theorem ok_forL {f : D → Sl → G → Res Fl} {Q : Fl → G → Prop} (I : Nat → Sl → G → Prop) : ∀ {xs : List D} {σ : Sl} {g : G}, I 0 σ g → (∀ k x σ g, xs[k]? = some x → I k σ g → Ok (f x σ g) (loopF (I (k + 1)) Q)) → (∀ σ g, I xs.length σ g → Q (.nx σ) g) → Ok (forL f xs σ g) Q := by
  intro xs
  induction xs generalizing I with
  | nil => exact fun h0 _ h2 => ⟨_, _, rfl, h2 _ _ h0⟩
  | cons x xs ih =>
    intro σ g h0 h1 h2
    show Ok ((f x σ g).bind _) Q
    rw [Ok_bind]
    refine (h1 0 x σ g rfl h0).mono fun fl g h => ?_
    cases fl with
    | nx σ => exact ih (fun k => I (k + 1)) h (fun k y σ g hy hi => h1 (k + 1) y σ g (by rw [List.getElem?_cons_succ]; exact hy) hi) h2
    | ct σ => exact ih (fun k => I (k + 1)) h (fun k y σ g hy hi => h1 (k + 1) y σ g (by rw [List.getElem?_cons_succ]; exact hy) hi) h2
    | bk σ => exact ⟨_, _, rfl, h⟩
    | rt v => exact ⟨_, _, rfl, h⟩
/-- a loop with a test: the invariant knows a measure -/
theorem ok_whileL {c : Sl → G → Res D} {b : Sl → G → Res Fl} {Q : Fl → G → Prop} (I : Nat → Sl → G → Prop)
    (h : ∀ m σ g, I m σ g → Ok (c σ g) fun v g => ∃ k : Bool, v = .bool k ∧ if k = true then Ok (b σ g) (loopF (fun σ g => ∃ m', m' < m ∧ I m' σ g) Q) else Q (.nx σ) g) :
    ∀ (n m : Nat) {σ : Sl} {g : G}, m < n → I m σ g → Ok (whileL c b n σ g) Q := by
  intro n
  induction n with
  | zero => exact fun m _ _ h _ => absurd h (Nat.not_lt_zero _)
  | succ n ih =>
    intro m σ g hm hI
    show Ok ((c σ g).bind _) Q
    rw [Ok_bind]
    refine (h m σ g hI).mono ?_
    rintro _ g1 ⟨k, rfl, h1⟩
    cases k with
    | false => simpa using h1
    | true =>
      rw [if_pos rfl] at h1
      show Ok ((b σ g1).bind _) Q
      rw [Ok_bind]
      refine h1.mono fun fl g2 h2 => ?_
      cases fl with
      | nx σ =>
        obtain ⟨m', h3, h4⟩ := h2
        exact ih m' (by omega) h4
      | ct σ =>
        obtain ⟨m', h3, h4⟩ := h2
        exact ih m' (by omega) h4
      | bk σ => exact ⟨_, _, rfl, h2⟩
      | rt v => exact ⟨_, _, rfl, h2⟩
/-- a comprehension: every item is shown, the deck may change -/
theorem ok_compL {f : D → G → Res (Option D)} {Q : List D → G → Prop} (I : Nat → List D → G → Prop) : ∀ {xs acc : List D} {g : G}, I 0 acc.reverse g → (∀ k x ys g, xs[k]? = some x → I k ys g → Ok (f x g) fun o g => I (k + 1) (ys ++ o.toList) g) → (∀ ys g, I xs.length ys g → Q ys g) → Ok (compL f xs acc g) Q := by
  intro xs
  induction xs generalizing I with
  | nil => exact fun h0 _ h2 => ⟨_, _, rfl, h2 _ _ h0⟩
  | cons x xs ih =>
    intro acc g h0 h1 h2
    show Ok ((f x g).bind _) Q
    rw [Ok_bind]
    refine (h1 0 x _ g rfl h0).mono fun o g h => ?_
    cases o with
    | none => exact ih (fun k => I (k + 1)) (by simpa using h) (fun k y ys g hy hi => h1 (k + 1) y ys g (by rw [List.getElem?_cons_succ]; exact hy) hi) h2
    | some y => exact ih (fun k => I (k + 1)) (acc := y :: acc) (by simpa using h) (fun k y ys g hy hi => h1 (k + 1) y ys g (by rw [List.getElem?_cons_succ]; exact hy) hi) h2
/-- .. items that leave the deck alone -/
theorem ok_compM {α β : Type} {em : α → D} {eo : β → D} {f : D → G → Res (Option D)} {u : α → Option β} {xs : List α} {g : G} {Q : List D → G → Prop} (h : ∀ x ∈ xs, Ok (f (em x) g) fun o g' => o = (u x).map eo ∧ g' = g) (q : Q ((xs.filterMap u).map eo) g) : Ok (compL f (xs.map em) [] g) Q := by
  rw [compL_eq (em := em) (eo := eo) (u := u) (acc := []) fun x hx => (h x hx).eq]
  exact ⟨_, _, rfl, q⟩
/-! ### values -/
section
variable {i j : Int}
@[simp] theorem binV_add : binV .add (.int i) (.int j) = some (.int (i + j)) := (rfl)
@[simp] theorem binV_sub : binV .sub (.int i) (.int j) = some (.int (i - j)) := (rfl)
@[simp] theorem binV_mul : binV .mul (.int i) (.int j) = if mulOk i j then some (.int (i * j)) else none := (rfl)
@[simp] theorem binV_mod : binV .mod (.int i) (.int j) = if 0 < j then some (.int (i % j)) else none := by simp [binV]
@[simp] theorem binV_fdiv : binV .fdiv (.int i) (.int j) = if 0 < j ∧ j.natAbs.log2 < 9000 then some (.int (i / j)) else if j < 0 ∧ j.natAbs.log2 < 9000 then some (.int (i.fdiv j)) else none := by simp [binV]
@[simp] theorem binV_pow : binV .pow (.int i) (.int j) = if powOk i j then some (.int (i ^ j.toNat)) else none := (rfl)
@[simp] theorem cmpV_eq : cmpV .eq (.int i) (.int j) = some (decide (i = j)) := (rfl)
@[simp] theorem cmpV_ne : cmpV .ne (.int i) (.int j) = some (!decide (i = j)) := (rfl)
@[simp] theorem cmpV_lt : cmpV .lt (.int i) (.int j) = some (decide (i < j)) := (rfl)
@[simp] theorem cmpV_gt : cmpV .gt (.int i) (.int j) = some (decide (j < i)) := (rfl)
@[simp] theorem cmpV_le : cmpV .le (.int i) (.int j) = some (decide (i ≤ j)) := (rfl)
@[simp] theorem cmpV_ge : cmpV .ge (.int i) (.int j) = some (decide (j ≤ i)) := (rfl)
@[simp] theorem truV_int : truV (.int i) = some (i != 0) := (rfl)
@[simp] theorem truV_bool {b : Bool} : truV (.bool b) = some b := (rfl)
@[simp] theorem truV_none : truV .none = some false := (rfl)
@[simp] theorem augV_add : augV .add (.int i) (.int j) = some (.int (i + j)) := (rfl)
@[simp] theorem augV_sub : augV .sub (.int i) (.int j) = some (.int (i - j)) := (rfl)
@[simp] theorem biV_toInt : biV .toInt [.int i] = some (.int i) := (rfl)
@[simp] theorem biV_abs : biV .abs [.int i] = some (.int (if i < 0 then -i else i)) := (rfl)
@[simp] theorem biV_min : biV .min2 [.int i, .int j] = some (.int (if j < i then j else i)) := (rfl)
@[simp] theorem biV_max : biV .max2 [.int i, .int j] = some (.int (if i < j then j else i)) := (rfl)
@[simp] theorem biV_len {xs : List D} : biV .len [.list xs] = some (.int xs.length) := (rfl)
@[simp] theorem biV_lenT {xs : List D} : biV .len [.tuple xs] = some (.int xs.length) := (rfl)
@[simp] theorem biV_tup {xs : List D} : biV .toTuple [.list xs] = some (.tuple xs) := (rfl)
@[simp] theorem biV_tupT {xs : List D} : biV .toTuple [.tuple xs] = some (.tuple xs) := (rfl)
@[simp] theorem biV_lst {xs : List D} : biV .toList [.list xs] = some (.list xs) := (rfl)
@[simp] theorem biV_lstT {xs : List D} : biV .toList [.tuple xs] = some (.list xs) := (rfl)
@[simp] theorem setT_1 {k : Nat} {v : D} {σ : Sl} : setT [k] v σ = some (σ.set k (some v)) := (rfl)
@[simp] theorem setT_2 {k l : Nat} {v w : D} {σ : Sl} : setT [k, l] (.tuple [v, w]) σ = some ((σ.set k (some v)).set l (some w)) := (rfl)
@[simp] theorem setT_3 {k l m : Nat} {v w x : D} {σ : Sl} : setT [k, l, m] (.tuple [v, w, x]) σ = some (((σ.set k (some v)).set l (some w)).set m (some x)) := (rfl)
@[simp] theorem setT_2l {k l : Nat} {v w : D} {σ : Sl} : setT [k, l] (.list [v, w]) σ = some ((σ.set k (some v)).set l (some w)) := (rfl)
@[simp] theorem setT_3l {k l m : Nat} {v w x : D} {σ : Sl} : setT [k, l, m] (.list [v, w, x]) σ = some (((σ.set k (some v)).set l (some w)).set m (some x)) := (rfl)
@[simp] theorem setT_4 {k l m n : Nat} {v w x y : D} {σ : Sl} : setT [k, l, m, n] (.tuple [v, w, x, y]) σ = some ((((σ.set k (some v)).set l (some w)).set m (some x)).set n (some y)) := (rfl)
@[simp] theorem mulOk_l' (h : i.natAbs < 18446744073709551616) : mulOk i j = true := by
  unfold mulOk
  rw [decide_eq_true h, Bool.true_or, Bool.true_or]
@[simp] theorem mulOk_r' (h : j.natAbs < 18446744073709551616) : mulOk i j = true := by
  unfold mulOk
  rw [decide_eq_true h, Bool.or_true, Bool.true_or]
end
theorem idx_list {xs : List D} {n : Nat} {x : D} (h : xs[n]? = some x) : idxV (.list xs) (.int n) = some x := L2.atI_nat h
theorem idx_tuple {xs : List D} {n : Nat} {x : D} (h : xs[n]? = some x) : idxV (.tuple xs) (.int n) = some x := L2.atI_nat h
end Pv
end

section
/-! PvU: sizes of ints, common divisors, the decks and draws of another family, forms as values. -/
set_option autoImplicit false
namespace Pv
open PySem

/-! ### sizes -/
def Sz (k : Nat) (i : Int) : Prop := i.natAbs < 2 ^ k
theorem Sz.mono {k l : Nat} {i : Int} (h : Sz k i) (hl : k ≤ l) : Sz l i := Nat.lt_of_lt_of_le h (Nat.pow_le_pow_right (by omega) hl)
theorem Sz.mul {k l : Nat} {i j : Int} (h : Sz k i) (h2 : Sz l j) : Sz (k + l) (i * j) := by
  unfold Sz at *
  rw [Int.natAbs_mul, Nat.pow_add]
  exact Nat.mul_lt_mul'' h h2
theorem Sz.add {k l : Nat} {i j : Int} (h : Sz k i) (h2 : Sz l j) : Sz (max k l + 1) (i + j) := by
  have h := h.mono (Nat.le_max_left k l)
  have h2 := h2.mono (Nat.le_max_right k l)
  unfold Sz at *
  rw [Nat.pow_succ]
  omega
theorem Sz.sub {k l : Nat} {i j : Int} (h : Sz k i) (h2 : Sz l j) : Sz (max k l + 1) (i - j) := by
  have h := h.mono (Nat.le_max_left k l)
  have h2 := h2.mono (Nat.le_max_right k l)
  unfold Sz at *
  rw [Nat.pow_succ]
  omega
theorem Sz.neg {k : Nat} {i : Int} (h : Sz k i) : Sz k (-i) := by unfold Sz at *; omega
theorem Sz.log {k : Nat} {i : Int} (h : Sz k i) : i.natAbs.log2 ≤ k := by
  unfold Sz at h
  by_cases z : i.natAbs = 0
  · rw [z]; exact Nat.zero_le _
  · exact Nat.le_of_lt ((Nat.log2_lt z).mpr h)
theorem mulOk_sz {k l : Nat} {i j : Int} (h : Sz k i) (h2 : Sz l j) (hk : k + l < 1000000) : mulOk i j = true := by
  have := h.log
  have := h2.log
  unfold mulOk
  rw [decide_eq_true (show i.natAbs.log2 + j.natAbs.log2 < 1000000 by omega), Bool.or_true]
theorem mulOk_1 {i j : Int} (h1 : -18446744073709551616 < i) (h2 : i < 18446744073709551616) : mulOk i j = true := mulOk_l (by omega)
theorem mulOk_2 {i j : Int} (h1 : -18446744073709551616 < j) (h2 : j < 18446744073709551616) : mulOk i j = true := mulOk_r (by omega)

/-! ### Euclid -/
/-- a step of Euclid on numbers that are not negative -/
def euOk (n : Nat) (a b : Int) : Prop := 0 ≤ b ∧ b ≤ a ∧ a * b < 2 ^ n
theorem euOk.next {n : Nat} {a b : Int} (h : euOk n a b) (hb : b ≠ 0) : ∃ m, n = m + 1 ∧ euOk m b (a % b) := by
  obtain ⟨h0, h1, h2⟩ := h
  have b0 : 0 < b := by omega
  have r0 := Int.emod_nonneg a hb
  have r1 := Int.emod_lt_of_pos a b0
  have e := Int.emod_add_mul_ediv a b
  have q1 : 1 ≤ a / b := (Int.le_ediv_iff_mul_le b0).mpr (by omega)
  have q2 : b * 1 ≤ b * (a / b) := Int.mul_le_mul_of_nonneg_left q1 h0
  have a2 : 2 * (a % b) ≤ a := by omega
  have p1 : b * (2 * (a % b)) ≤ b * a := Int.mul_le_mul_of_nonneg_left a2 h0
  have p2 : b * (2 * (a % b)) = 2 * (b * (a % b)) := by grind
  have p3 : b * a = a * b := Int.mul_comm _ _
  cases n with
  | zero =>
    have : 0 < a * b := Int.mul_pos (by omega) b0
    simp at h2
    omega
  | succ m =>
    refine ⟨m, rfl, r0, by omega, ?_⟩
    have e2 : (2 : Int) ^ (m + 1) = 2 ^ m * 2 := Int.pow_succ ..
    omega
theorem euOk.start {k l : Nat} {a b : Int} (ha : 0 ≤ a) (hb : 0 ≤ b) (h : Sz k a) (h2 : Sz l b) (hab : b ≤ a) : euOk (k + l) a b := by
  refine ⟨hb, hab, ?_⟩
  have := h.mul h2
  unfold Sz at this
  have p : 0 ≤ a * b := Int.mul_nonneg ha hb
  have e : ((2 ^ (k + l) : Nat) : Int) = 2 ^ (k + l) := by norm_cast
  omega
theorem gcd_step {a b : Int} (hb : 0 ≤ b) : Int.gcd b (a % b) = Int.gcd a b := by
  rw [Int.gcd_comm a b]
  rcases Int.lt_or_eq_of_le hb with h | h
  · rw [Int.emod_def, Int.gcd_comm b, Int.gcd_comm b]
    have : a - b * (a / b) = a + b * (-(a / b)) := by grind
    rw [this, Int.gcd_add_mul_left_left]
  · rw [← h, Int.emod_zero]
theorem abs_ite (a : Int) : (if a < 0 then -a else a) = (a.natAbs : Int) := by split <;> omega

/-! ### forms as values -/
abbrev Fm := Int × Int × Int
def fL (f : Fm) : List Int := [f.1, f.2.1, f.2.2]
def fD (f : Fm) : D := .tuple [.int f.1, .int f.2.1, .int f.2.2]
theorem tupD_f (f : Fm) : tupD (fL f) = fD f := rfl
/-- items drawn by a pick -/
theorem atI_nn {α : Type} {xs : List α} {i : Int} {x : α} (h0 : 0 ≤ i) (h : xs[i.toNat]? = some x) : L2.atI xs i = some x := by
  have e : i = (i.toNat : Int) := by omega
  rw [e]; exact L2.atI_nat h
theorem idx_t {xs : List D} {i : Int} (h0 : 0 ≤ i) (h1 : i < xs.length) : ∃ x, x ∈ xs ∧ idxV (.tuple xs) (.int i) = some x := by
  have h : i.toNat < xs.length := by omega
  exact ⟨xs[i.toNat], List.getElem_mem h, atI_nn h0 (List.getElem?_eq_getElem h)⟩
theorem idx_l {xs : List D} {i : Int} (h0 : 0 ≤ i) (h1 : i < xs.length) : ∃ x, x ∈ xs ∧ idxV (.list xs) (.int i) = some x := by
  have h : i.toNat < xs.length := by omega
  exact ⟨xs[i.toNat], List.getElem_mem h, atI_nn h0 (List.getElem?_eq_getElem h)⟩
end Pv
end

section
/-! PvV: forms and matrices, plain: led forms, reduced forms, there is just one in a class. -/
set_option autoImplicit false
namespace Pv
open PySem

abbrev Mx := Int × Int × Int × Int
def val (f : Fm) (x y : Int) : Int := f.1 * x * x + f.2.1 * x * y + f.2.2 * y * y
def ledF (f : Fm) (m : Mx) : Fm :=
  (f.1 * m.1 * m.1 + f.2.1 * m.1 * m.2.2.1 + f.2.2 * m.2.2.1 * m.2.2.1,
   2 * f.1 * m.1 * m.2.1 + f.2.1 * (m.1 * m.2.2.2 + m.2.1 * m.2.2.1) + 2 * f.2.2 * m.2.2.1 * m.2.2.2,
   f.1 * m.2.1 * m.2.1 + f.2.1 * m.2.1 * m.2.2.2 + f.2.2 * m.2.2.2 * m.2.2.2)
def mulM (m n : Mx) : Mx := (m.1 * n.1 + m.2.1 * n.2.2.1, m.1 * n.2.1 + m.2.1 * n.2.2.2, m.2.2.1 * n.1 + m.2.2.2 * n.2.2.1, m.2.2.1 * n.2.1 + m.2.2.2 * n.2.2.2)
def det (m : Mx) : Int := m.1 * m.2.2.2 - m.2.1 * m.2.2.1
def disc (f : Fm) : Int := f.2.1 * f.2.1 - 4 * f.1 * f.2.2
def invM (m : Mx) : Mx := (m.2.2.2, -m.2.1, -m.2.2.1, m.1)
def oneM : Mx := (1, 0, 0, 1)
def mD (m : Mx) : D := .tuple [.int m.1, .int m.2.1, .int m.2.2.1, .int m.2.2.2]
theorem det_mul (m n : Mx) : det (mulM m n) = det m * det n := by
  obtain ⟨g, h, i, j⟩ := m
  obtain ⟨k, l, o, p⟩ := n
  simp only [det, mulM]
  grind
theorem disc_led (f : Fm) (m : Mx) : disc (ledF f m) = det m * det m * disc f := by
  obtain ⟨a, b, c⟩ := f
  obtain ⟨g, h, i, j⟩ := m
  simp only [det, ledF, disc]
  grind
theorem led_mul (f : Fm) (m n : Mx) : ledF (ledF f m) n = ledF f (mulM m n) := by
  obtain ⟨a, b, c⟩ := f
  obtain ⟨g, h, i, j⟩ := m
  obtain ⟨k, l, o, p⟩ := n
  simp only [ledF, mulM, Prod.mk.injEq]
  refine ⟨?_, ?_, ?_⟩ <;> grind
theorem mul_assoc' (l m n : Mx) : mulM (mulM l m) n = mulM l (mulM m n) := by
  obtain ⟨g, h, i, j⟩ := m
  obtain ⟨k, l', o, p⟩ := n
  obtain ⟨q, r, s, t⟩ := l
  simp only [mulM, Prod.mk.injEq]
  refine ⟨?_, ?_, ?_, ?_⟩ <;> grind
theorem mul_inv {m : Mx} (h : det m = 1) : mulM m (invM m) = oneM := by
  obtain ⟨g, h', i, j⟩ := m
  simp only [det] at h
  simp only [mulM, invM, oneM, Prod.mk.injEq]
  refine ⟨?_, ?_, ?_, ?_⟩ <;> grind
theorem inv_mul {m : Mx} (h : det m = 1) : mulM (invM m) m = oneM := by
  obtain ⟨g, h', i, j⟩ := m
  simp only [det] at h
  simp only [mulM, invM, oneM, Prod.mk.injEq]
  refine ⟨?_, ?_, ?_, ?_⟩ <;> grind
theorem det_inv (m : Mx) : det (invM m) = det m := by
  obtain ⟨g, h', i, j⟩ := m
  simp only [det, invM]
  grind
theorem led_one (f : Fm) : ledF f oneM = f := by
  obtain ⟨a, b, c⟩ := f
  simp [ledF, oneM]
theorem mul_one' (m : Mx) : mulM m oneM = m := by
  obtain ⟨g, h', i, j⟩ := m
  simp [mulM, oneM]
theorem one_mul' (m : Mx) : mulM oneM m = m := by
  obtain ⟨g, h', i, j⟩ := m
  simp [mulM, oneM]
theorem val_led (f : Fm) (m : Mx) (x y : Int) : val (ledF f m) x y = val f (m.1 * x + m.2.1 * y) (m.2.2.1 * x + m.2.2.2 * y) := by
  obtain ⟨a, b, c⟩ := f
  obtain ⟨g, h, i, j⟩ := m
  simp only [ledF, val]
  grind
/-- reduced -/
structure Red (f : Fm) : Prop where
  a0 : 0 < f.1
  lo : -f.1 < f.2.1
  hi : f.2.1 ≤ f.1
  ac : f.1 ≤ f.2.2
  eq : f.1 = f.2.2 → 0 ≤ f.2.1
theorem mulL {x y z : Int} (h : x ≤ y) (hz : 0 ≤ z) : z * x ≤ z * y := Int.mul_le_mul_of_nonneg_left h hz
theorem sq_nn (x : Int) : 0 ≤ x * x := by
  by_cases h : 0 ≤ x
  · exact Int.mul_nonneg h h
  · have := Int.mul_nonneg (a := -x) (b := -x) (by omega) (by omega)
    grind
theorem sq_pos {x : Int} (h : x ≠ 0) : 1 ≤ x * x := by
  have := sq_nn x
  have : x * x ≠ 0 := fun z => by rcases Int.mul_eq_zero.mp z with q | q <;> exact h q
  omega
theorem prod1 {x y : Int} (h : 1 ≤ x) (h2 : 1 ≤ y) : 1 ≤ x * y := by
  have := mulL h2 (show 0 ≤ x by omega)
  omega
theorem low {a b c g i : Int} (a0 : 0 < a) (h1 : -a ≤ b) (h2 : b ≤ a) (h3 : a ≤ c) (hi : i ≠ 0) : c ≤ a * g * g + b * g * i + c * i * i := by
  have i1 : 1 ≤ i * i := sq_pos hi
  by_cases hg : g = 0
  · subst hg
    have : c * 1 ≤ c * (i * i) := mulL i1 (by omega)
    grind
  · -- with P = |g|, Q = |i|
    obtain ⟨P, hP, hP1, hPg⟩ : ∃ P : Int, P * P = g * g ∧ 1 ≤ P ∧ (P = g ∨ P = -g) := by
      rcases Int.lt_or_gt_of_ne hg with h | h
      · exact ⟨-g, by grind, by omega, .inr rfl⟩
      · exact ⟨g, rfl, by omega, .inl rfl⟩
    obtain ⟨Q, hQ, hQ1, hQi⟩ : ∃ Q : Int, Q * Q = i * i ∧ 1 ≤ Q ∧ (Q = i ∨ Q = -i) := by
      rcases Int.lt_or_gt_of_ne hi with h | h
      · exact ⟨-i, by grind, by omega, .inr rfl⟩
      · exact ⟨i, rfl, by omega, .inl rfl⟩
    have pq : 1 ≤ P * Q := prod1 hP1 hQ1
    have bb : -(a * (P * Q)) ≤ b * (g * i) := by
      have s1 : b * (P * Q) ≤ a * (P * Q) := Int.mul_le_mul_of_nonneg_right h2 (by omega)
      have s2 : (-a) * (P * Q) ≤ b * (P * Q) := Int.mul_le_mul_of_nonneg_right h1 (by omega)
      have gi : g * i = P * Q ∨ g * i = -(P * Q) := by
        rcases hPg with e1 | e1 <;> rcases hQi with e2 | e2 <;> rw [e1, e2]
        · left; rfl
        · right; rw [Int.mul_neg, Int.neg_neg]
        · right; rw [Int.neg_mul, Int.neg_neg]
        · left; rw [Int.neg_mul_neg]
      rw [Int.neg_mul] at s2
      rcases gi with e1 | e1 <;> rw [e1]
      · omega
      · rw [Int.mul_neg]; omega
    have sq : 0 ≤ (P - Q) * (P - Q) := sq_nn _
    have t1 : 0 ≤ a * ((P - Q) * (P - Q)) := Int.mul_nonneg (by omega) sq
    have t2 : 0 ≤ (c - a) * (Q * Q - 1) := Int.mul_nonneg (by omega) (by omega)
    have t3 : 0 ≤ a * (P * Q - 1) := Int.mul_nonneg (by omega) (by omega)
    have id : a * g * g + b * g * i + c * i * i - c = a * ((P - Q) * (P - Q)) + (c - a) * (Q * Q - 1) + a * (P * Q - 1) + (b * (g * i) + a * (P * Q)) := by grind
    omega
theorem min_a {f : Fm} (r : Red f) {g i : Int} (h : ¬ (g = 0 ∧ i = 0)) : f.1 ≤ val f g i := by
  by_cases hi : i = 0
  · subst hi
    have hg : g ≠ 0 := fun z => h ⟨z, rfl⟩
    have g1 : 1 ≤ g * g := sq_pos hg
    have := mulL g1 (show 0 ≤ f.1 by have := r.a0; omega)
    unfold val
    grind
  · have := low (g := g) r.a0 (by have := r.lo; omega) r.hi r.ac hi
    have := r.ac
    unfold val
    omega
theorem gauss {f f' : Fm} {m : Mx} (r : Red f) (r' : Red f') (e : f' = ledF f m) (d : det m = 1) : f' = f := by
  have back : f = ledF f' (invM m) := by rw [e, led_mul, mul_inv d, led_one]
  obtain ⟨g, h, i, j⟩ := m
  have d0 : g * j - h * i = 1 := d
  have a1 : f.1 ≤ f'.1 := by
    have := min_a r (g := g) (i := i) (by rintro ⟨rfl, rfl⟩; simp at d0)
    rw [e]; exact this
  have a2 : f'.1 ≤ f.1 := by
    have := min_a r' (g := j) (i := -i) (by
      rintro ⟨rfl, z⟩
      have z2 : i = 0 := by omega
      rw [z2, Int.mul_zero, Int.mul_zero] at d0
      omega)
    rw [back]; exact this
  have dd : disc f' = disc f := by rw [e, disc_led, d]; omega
  have ea : f'.1 = f.1 := by omega
  by_cases hi : i = 0
  · subst hi
    have e2 : f'.2.1 = 2 * f.1 * g * h + f.2.1 * (g * j + h * 0) + 2 * f.2.2 * 0 * j := by rw [e]; rfl
    have gj : g * j = 1 := by grind
    have e3 : f'.2.1 = f.2.1 + 2 * f.1 * (g * h) := by grind
    have l1 := r.lo; have l2 := r.hi; have l3 := r'.lo; have l4 := r'.hi; have a0 := r.a0
    have t0 : g * h = 0 := by
      generalize g * h = t at e3
      rcases Int.lt_trichotomy t 0 with q | q | q
      · have := mulL (show t ≤ -1 by omega) (show 0 ≤ 2 * f.1 by omega)
        omega
      · exact q
      · have := mulL (show 1 ≤ t by omega) (show 0 ≤ 2 * f.1 by omega)
        omega
    have eb : f'.2.1 = f.2.1 := by rw [e3, t0]; omega
    have ec : f'.2.2 = f.2.2 := by
      unfold disc at dd
      rw [eb, ea] at dd
      have : f.1 * (f'.2.2 - f.2.2) = 0 := by grind
      rcases Int.mul_eq_zero.mp this with q | q <;> omega
    exact Prod.ext ea (Prod.ext eb ec)
  · have c1 : f.2.2 ≤ f'.1 := by
      have := low (g := g) r.a0 (by have := r.lo; omega) r.hi r.ac hi
      rw [e]; exact this
    have c2 : f'.2.2 ≤ f.1 := by
      have := low (g := j) (i := -i) r'.a0 (by have := r'.lo; omega) r'.hi r'.ac (by omega)
      rw [back]; exact this
    have := r.ac; have := r'.ac
    have ec : f'.2.2 = f.2.2 := by omega
    have b0 := r.eq (by omega)
    have b0' := r'.eq (by omega)
    have eb : f'.2.1 = f.2.1 := by
      unfold disc at dd
      rw [ec, ea] at dd
      have : (f'.2.1 - f.2.1) * (f'.2.1 + f.2.1) = 0 := by grind
      rcases Int.mul_eq_zero.mp this with q | q <;> omega
    exact Prod.ext ea (Prod.ext eb ec)
/-- one step towards the reduced form -/
def shiftF (f : Fm) : Int := (f.1 - f.2.1) / (2 * f.1)
def stepM (f : Fm) : Option Mx := if shiftF f ≠ 0 then some (1, shiftF f, 0, 1) else if f.2.2 < f.1 ∨ (f.1 = f.2.2 ∧ f.2.1 < 0) then some (0, -1, 1, 0) else none
theorem step_det {f : Fm} {m : Mx} (h : stepM f = some m) : det m = 1 := by
  unfold stepM at h
  split at h
  · cases h; simp [det]
  · split at h
    · cases h; simp [det]
    · cases h
theorem shift_zero {f : Fm} (a0 : 0 < f.1) : shiftF f = 0 ↔ -f.1 < f.2.1 ∧ f.2.1 ≤ f.1 := by
  unfold shiftF
  have e := Int.emod_add_mul_ediv (f.1 - f.2.1) (2 * f.1)
  have r0 := Int.emod_nonneg (f.1 - f.2.1) (show 2 * f.1 ≠ 0 by omega)
  have r1 := Int.emod_lt_of_pos (f.1 - f.2.1) (show 0 < 2 * f.1 by omega)
  constructor
  · intro z
    rw [z] at e
    omega
  · rintro ⟨h1, h2⟩
    exact Int.ediv_eq_zero_of_lt (by omega) (by omega)
theorem step_none {f : Fm} (a0 : 0 < f.1) (h : stepM f = none) : Red f := by
  unfold stepM at h
  split at h
  · cases h
  · rename_i z
    have z := (shift_zero a0).mp (by simpa using z)
    split at h
    · cases h
    · rename_i w
      exact ⟨a0, z.1, z.2, by omega, fun q => by omega⟩
/-- how far it is -/
def mu (d : Int) (a : Int) : Nat := if a ≤ -d then a.toNat else (-d).toNat + a.natAbs.log2
def far (f : Fm) : Nat := 4 * mu (disc f) f.1 + (if shiftF f ≠ 0 then 2 else 0) + (if f.1 = f.2.2 ∧ f.2.1 < 0 then 1 else 0)
theorem mu_lt {d a c : Int} (hd : d ≤ -3) (a0 : 0 < a) (c0 : 0 < c) (h : c < a) (hq : -d < a → 2 * c ≤ a) : mu d c < mu d a := by
  unfold mu
  by_cases w : a ≤ -d
  · rw [if_pos w, if_pos (by omega)]; omega
  · rw [if_neg w]
    have q := hq (by omega)
    have la : 1 ≤ a.natAbs.log2 := (Nat.le_log2 (by omega)).mpr (by omega)
    by_cases w2 : c ≤ -d
    · rw [if_pos w2]; omega
    · rw [if_neg w2]
      have l1 : 2 ^ c.natAbs.log2 ≤ c.natAbs := Nat.log2_self_le (by omega)
      have : c.natAbs.log2 + 1 ≤ a.natAbs.log2 := (Nat.le_log2 (by omega)).mpr (by rw [Nat.pow_succ]; omega)
      omega
theorem step_far {f : Fm} {m : Mx} (a0 : 0 < f.1) (hd : disc f ≤ -3) (h : stepM f = some m) : far (ledF f m) < far f ∧ 0 < (ledF f m).1 := by
  have dd : disc (ledF f m) = disc f := by rw [disc_led, step_det h]; omega
  obtain ⟨a, b, c⟩ := f
  unfold disc at hd
  simp only at a0 hd
  unfold stepM at h
  split at h
  · rename_i z
    cases h
    have e : ledF (a, b, c) (1, shiftF (a, b, c), 0, 1) = (a, b + 2 * a * shiftF (a, b, c), a * shiftF (a, b, c) * shiftF (a, b, c) + b * shiftF (a, b, c) + c) := by
      simp only [ledF, Prod.mk.injEq]
      refine ⟨?_, ?_, ?_⟩ <;> grind
    have s0 : shiftF (ledF (a, b, c) (1, shiftF (a, b, c), 0, 1)) = 0 := by
      refine (shift_zero ?_).mpr ?_
      · rw [e]; exact a0
      · rw [e]
        unfold shiftF
        simp only
        have q := Int.emod_add_mul_ediv (a - b) (2 * a)
        have r0 := Int.emod_nonneg (a - b) (show 2 * a ≠ 0 by omega)
        have r1 := Int.emod_lt_of_pos (a - b) (show 0 < 2 * a by omega)
        omega
    refine ⟨?_, by rw [e]; exact a0⟩
    unfold far
    rw [dd, s0, if_pos z]
    have ea : (ledF (a, b, c) (1, shiftF (a, b, c), 0, 1)).1 = a := by rw [e]
    rw [ea]
    simp only [ne_eq, not_true, if_false]
    split <;> split <;> omega
  · rename_i z
    have z0 : shiftF (a, b, c) = 0 := by simpa using z
    have zz := (shift_zero a0).mp z0
    simp only at zz
    split at h
    · rename_i w
      cases h
      have e : ledF (a, b, c) (0, -1, 1, 0) = (c, -b, a) := by
        simp only [ledF, Prod.mk.injEq]
        refine ⟨?_, ?_, ?_⟩ <;> grind
      have c0 : 0 < c := by
        have bb : 0 ≤ b * b := sq_nn b
        by_cases h : 0 < c
        · exact h
        · have := Int.mul_nonneg (a := 4 * a) (b := -c) (by omega) (by omega)
          grind
      rw [e]
      refine ⟨?_, c0⟩
      unfold far
      rw [← e, dd, e, z0]
      simp only [ne_eq, not_true, if_false]
      rcases w with w | w
      · have w : c < a := w
        have hm : mu (disc (a, b, c)) c < mu (disc (a, b, c)) a := by
          refine mu_lt hd a0 c0 w fun q => ?_
          unfold disc at q
          simp only at q
          have b2 : b * b ≤ a * a := by
            have s1 : 0 ≤ (a - b) * (a + b) := Int.mul_nonneg (by omega) (by omega)
            grind
          -- 4 a c < a a + a
          by_cases hc : 2 * c ≤ a
          · exact hc
          · have s2 : 4 * a * c < a + b * b := by omega
            have s3 : 4 * a * c < a + a * a := by omega
            have s4 : a * (a + 1) ≤ a * (2 * c) := mulL (by omega) (by omega)
            have s5 : 0 ≤ a * (2 * c - 1) := Int.mul_nonneg (by omega) (by omega)
            grind
        split <;> split <;> omega
      · have w : a = c ∧ b < 0 := w
        have s1 : shiftF (c, -b, a) = 0 := (shift_zero (f := (c, -b, a)) c0).mpr ⟨by simp only; omega, by simp only; omega⟩
        rw [s1, ← w.1]
        simp only [ne_eq, not_true, if_false]
        rw [if_neg (show ¬ (True ∧ -b < 0) by omega), if_pos (show True ∧ b < 0 from ⟨trivial, w.2⟩)]
        omega
    · cases h
theorem far_le {f : Fm} {k : Nat} (h : Sz k f.1) (hd : -20000 ≤ disc f) : far f ≤ 4 * (20000 + k) + 80003 := by
  unfold far
  have : mu (disc f) f.1 ≤ 40000 + k := by
    unfold mu
    have := h.log
    split <;> omega
  split <;> split <;> omega
end Pv
end

section
/-! PvW: sizes on the way to the reduced form. -/
set_option autoImplicit false
namespace Pv
open PySem
def kb : Nat := 100000
def k0 : Nat := 8000
structure SzK (k : Nat) (f : Fm) : Prop where
  a : Sz k f.1
  b : Sz k f.2.1
  c : Sz k f.2.2
structure SzM (k : Nat) (m : Mx) : Prop where
  g : Sz k m.1
  h : Sz k m.2.1
  i : Sz k m.2.2.1
  j : Sz k m.2.2.2
theorem SzK.mono {k l : Nat} {f : Fm} (h : SzK k f) (hl : k ≤ l) : SzK l f := ⟨h.a.mono hl, h.b.mono hl, h.c.mono hl⟩
theorem SzM.mono {k l : Nat} {f : Mx} (h : SzM k f) (hl : k ≤ l) : SzM l f := ⟨h.g.mono hl, h.h.mono hl, h.i.mono hl, h.j.mono hl⟩
/-- forms that can be reduced here -/
structure GoodF (f : Fm) : Prop where
  a0 : 0 < f.1
  d1 : -20000 ≤ disc f
  d2 : disc f ≤ -3
theorem sz_le {k : Nat} {i j : Int} (h : Sz k j) (h1 : -j ≤ i) (h2 : i ≤ j) : Sz k i := by unfold Sz at *; omega
theorem GoodF.c0 {f : Fm} (h : GoodF f) : 0 < f.2.2 := by
  obtain ⟨a, b, c⟩ := f
  have a0 := h.a0; have d2 := h.d2
  unfold disc at d2
  simp only at a0 d2 ⊢
  have bb := sq_nn b
  by_cases q : 0 < c
  · exact q
  · have := Int.mul_nonneg (a := 4 * a) (b := -c) (by omega) (by omega)
    rw [Int.mul_neg] at this
    omega
/-- the last number of a form whose middle one is small -/
theorem GoodF.c_le {f : Fm} (h : GoodF f) (h1 : -f.1 ≤ f.2.1) (h2 : f.2.1 ≤ f.1) : f.2.2 ≤ f.1 + 20000 := by
  obtain ⟨a, b, c⟩ := f
  have a0 := h.a0; have d1 := h.d1
  unfold disc at d1
  simp only at a0 d1 h1 h2 ⊢
  have b2 : b * b ≤ a * a := by
    have s1 : 0 ≤ (a - b) * (a + b) := Int.mul_nonneg (by omega) (by omega)
    grind
  by_cases q : c ≤ a + 20000
  · exact q
  · have s4 : a * (a + 20001) ≤ a * c := mulL (by omega) (by omega)
    have s5 : a * (a + 20001) = a * a + a * 20001 := by grind
    have s6 : 0 ≤ a * a := sq_nn a
    have s7 : 4 * a * c = 4 * (a * c) := by grind
    omega
theorem GoodF.led {f : Fm} {m : Mx} (h : GoodF f) (d : det m = 1) (h2 : 0 < (ledF f m).1) : GoodF (ledF f m) := by
  have := disc_led f m
  rw [d] at this
  exact ⟨h2, by have := h.d1; omega, by have := h.d2; omega⟩
/-- values bound the pairs -/
theorem val_bound {f : Fm} {k l : Nat} {x y : Int} (h : GoodF f) (hs : SzK k f) (hv : Sz l (val f x y)) (hx : 0 ≤ val f x y) : Sz (k + l + k + 6) x ∧ Sz (k + l + k + 6) y := by
  obtain ⟨a, b, c⟩ := f
  obtain ⟨sa, sb, sc⟩ := hs
  have a0 := h.a0; have d2 := h.d2
  unfold disc at d2
  generalize hV : val (a, b, c) x y = v at hv hx
  unfold val at hV
  simp only at a0 d2 sa sb sc hV
  have e : 4 * a * v = (2 * a * x + b * y) * (2 * a * x + b * y) + (4 * a * c - b * b) * (y * y) := by rw [← hV]; grind
  have t0 := sq_nn (2 * a * x + b * y)
  have y2 := sq_nn y
  have t1 : 3 * (y * y) ≤ (4 * a * c - b * b) * (y * y) := Int.mul_le_mul_of_nonneg_right (by omega) y2
  have sq_abs : ∀ z : Int, (z.natAbs : Int) ≤ z * z := fun z => by
    by_cases q : z = 0
    · subst q; decide
    · have h1 : (1 : Int) ≤ z.natAbs := by omega
      have h2 := mulL h1 (show 0 ≤ (z.natAbs : Int) by omega)
      have h3 : (z.natAbs : Int) * z.natAbs = z * z := Int.natAbs_mul_self
      omega
  have yb : (y.natAbs : Int) ≤ 4 * a * v := by have := sq_abs y; omega
  have wb : ((2 * a * x + b * y).natAbs : Int) ≤ 4 * a * v := by have := sq_abs (2 * a * x + b * y); omega
  have S : Sz (3 + k + l) (4 * a * v) := ((show Sz 3 4 by unfold Sz; decide).mul sa).mul hv
  have sy : Sz (3 + k + l) y := by unfold Sz at *; omega
  have sw : Sz (3 + k + l) (2 * a * x + b * y) := by unfold Sz at *; omega
  have sby := sb.mul sy
  have s2 := sw.sub sby
  have e2 : 2 * a * x + b * y - b * y = 2 * a * x := by omega
  rw [e2] at s2
  refine ⟨?_, sy.mono (by omega)⟩
  have hx2 : x.natAbs ≤ (2 * a * x).natAbs := by
    rw [Int.natAbs_mul]
    exact Nat.le_mul_of_pos_left _ (by omega)
  have s3 : Sz (max (3 + k + l) (k + (3 + k + l)) + 1) x := Nat.lt_of_le_of_lt hx2 s2
  exact s3.mono (by omega)
/-- what is kept on the way -/
structure Way (f0 f : Fm) (m : Mx) : Prop where
  good : GoodF f
  led : f = ledF f0 m
  det : det m = 1
  sa : f.1 ≤ f0.1
  sb : Sz (k0 + 20) f.2.1
  sc : Sz (k0 + 20) f.2.2
theorem Way.szM {f0 f : Fm} {m : Mx} (h : Way f0 f m) (g0 : GoodF f0) (s0 : SzK k0 f0) : SzM kb m := by
  have v1 : val f0 m.1 m.2.2.1 = f.1 := by rw [h.led]; rfl
  have v2 : val f0 m.2.1 m.2.2.2 = f.2.2 := by rw [h.led]; rfl
  have a0 := h.good.a0
  have c0 := h.good.c0
  have sa : Sz (k0 + 20) f.1 := (sz_le s0.a (by have := h.sa; omega) h.sa).mono (by omega)
  obtain ⟨p1, p2⟩ := val_bound g0 s0 (x := m.1) (y := m.2.2.1) (by rw [v1]; exact sa) (by omega)
  obtain ⟨p3, p4⟩ := val_bound g0 s0 (x := m.2.1) (y := m.2.2.2) (by rw [v2]; exact h.sc) (by omega)
  have le : k0 + (k0 + 20) + k0 + 6 ≤ kb := by unfold k0 kb; omega
  exact ⟨p1.mono le, p3.mono le, p2.mono le, p4.mono le⟩
theorem Way.szK {f0 f : Fm} {m : Mx} (h : Way f0 f m) (s0 : SzK k0 f0) : SzK kb f := by
  have a0 := h.good.a0
  have sa : Sz (k0 + 20) f.1 := (sz_le s0.a (by have := h.sa; omega) h.sa).mono (by omega)
  have le : k0 + 20 ≤ kb := by unfold k0 kb; omega
  exact ⟨sa.mono le, h.sb.mono le, h.sc.mono le⟩
theorem Way.start {f : Fm} (g : GoodF f) (s : SzK k0 f) : Way f f oneM := ⟨g, (led_one f).symm, rfl, Int.le_refl _, s.b.mono (by omega), s.c.mono (by omega)⟩
theorem Way.next {f0 f : Fm} {m n : Mx} (h : Way f0 f m) (s0 : SzK k0 f0) (e : stepM f = some n) : Way f0 (ledF f n) (mulM m n) ∧ far (ledF f n) < far f ∧ SzM kb n := by
  obtain ⟨l1, l2⟩ := step_far h.good.a0 h.good.d2 e
  have dn := step_det e
  have g2 : GoodF (ledF f n) := h.good.led dn l2
  have lf : ledF f n = ledF f0 (mulM m n) := by rw [← led_mul, ← h.led]
  have dm : Pv.det (mulM m n) = 1 := by rw [det_mul, h.det, dn]; rfl
  have K : Sz (k0 + 20) f0.1 := s0.a.mono (by omega)
  have one : ∀ i : Int, i = 0 ∨ i = 1 ∨ i = -1 → Sz kb i := fun i hi => by
    have : Sz 1 i := by unfold Sz; rcases hi with rfl | rfl | rfl <;> decide
    exact this.mono (by unfold kb; omega)
  have fa := h.sa
  have fa0 := h.good.a0
  refine ⟨?_, l1, ?_⟩
  · obtain ⟨a, b, c⟩ := f
    simp only at fa fa0
    have e0 := e
    unfold stepM at e
    split at e
    · rename_i z
      cases e
      have e1 : ledF (a, b, c) (1, shiftF (a, b, c), 0, 1) = (a, b + 2 * a * shiftF (a, b, c), a * shiftF (a, b, c) * shiftF (a, b, c) + b * shiftF (a, b, c) + c) := by
        simp only [ledF, Prod.mk.injEq]
        refine ⟨?_, ?_, ?_⟩ <;> grind
      have q := Int.emod_add_mul_ediv (a - b) (2 * a)
      have r0 := Int.emod_nonneg (a - b) (show 2 * a ≠ 0 by omega)
      have r1 := Int.emod_lt_of_pos (a - b) (show 0 < 2 * a by omega)
      have lo : -a ≤ b + 2 * a * shiftF (a, b, c) := by unfold shiftF; simp only; omega
      have hi : b + 2 * a * shiftF (a, b, c) ≤ a := by unfold shiftF; simp only; omega
      have cl := g2.c_le (by rw [e1]; exact lo) (by rw [e1]; exact hi)
      have c0 := g2.c0
      rw [e1] at cl c0 g2 lf
      rw [e1]
      simp only at cl c0
      refine ⟨g2, lf, dm, fa, (sz_le s0.a (by simp only; omega) (by simp only; omega)).mono (by omega), ?_⟩
      have s3 : Sz (k0 + 20) (f0.1 + 20000) := by
        have := s0.a.add (show Sz 16 20000 by unfold Sz; decide)
        exact this.mono (by unfold k0; omega)
      exact sz_le s3 (by simp only; omega) (by simp only; omega)
    · rename_i z
      have z0 : shiftF (a, b, c) = 0 := by simpa using z
      have zz := (shift_zero (f := (a, b, c)) fa0).mp z0
      simp only at zz
      split at e
      · rename_i w
        simp only at w
        cases e
        have e1 : ledF (a, b, c) (0, -1, 1, 0) = (c, -b, a) := by
          simp only [ledF, Prod.mk.injEq]
          refine ⟨?_, ?_, ?_⟩ <;> grind
        rw [e1] at g2 lf
        rw [e1]
        exact ⟨g2, lf, dm, by simp only; omega, (sz_le s0.a (by simp only; omega) (by simp only; omega)).mono (by omega), (sz_le s0.a (by simp only; omega) (by simp only; omega)).mono (by omega)⟩
      · cases e
  · unfold stepM at e
    split at e
    · cases e
      refine ⟨one _ (.inr (.inl rfl)), ?_, one _ (.inl rfl), one _ (.inr (.inl rfl))⟩
      show Sz kb (shiftF f)
      have sh := h.szK s0
      have sd := sz_le s0.a (show -f0.1 ≤ f.1 by omega) fa |>.sub h.sb
      refine Sz.mono (k := max k0 (k0 + 20) + 1) ?_ (by unfold k0 kb; omega)
      unfold shiftF
      refine Nat.lt_of_le_of_lt ?_ sd
      have p : 0 < 2 * f.1 := by omega
      have ed := Int.emod_add_mul_ediv (f.1 - f.2.1) (2 * f.1)
      have r0 := Int.emod_nonneg (f.1 - f.2.1) (show 2 * f.1 ≠ 0 by omega)
      have r1 := Int.emod_lt_of_pos (f.1 - f.2.1) p
      generalize (f.1 - f.2.1) = t at *
      generalize (t % (2 * f.1)) = r at *
      generalize (t / (2 * f.1)) = q at *
      by_cases hq : 0 ≤ q
      · have := mulL (show (1 : Int) ≤ 2 * f.1 by omega) hq
        rw [Int.mul_comm q (2 * f.1)] at this
        omega
      · have := mulL (show (2 : Int) ≤ 2 * f.1 by omega) (show 0 ≤ -q by omega)
        have t2 : -q * (2 * f.1) = -(2 * f.1 * q) := by grind
        by_cases hq1 : q = -1
        · subst hq1; omega
        · have := mulL (show (2 : Int) ≤ -q by omega) (show 0 ≤ 2 * f.1 by omega)
          have t3 : 2 * f.1 * -q = -(2 * f.1 * q) := by grind
          have := mulL (show (1 : Int) ≤ f.1 by omega) (show 0 ≤ -q - 1 by omega)
          have t4 : (-q - 1) * f.1 = -(f.1 * q) - f.1 := by grind
          have t5 : 2 * f.1 * q = 2 * (f.1 * q) := by grind
          omega
    · split at e
      · cases e
        exact ⟨one _ (.inl rfl), one _ (.inr (.inr rfl)), one _ (.inr (.inl rfl)), one _ (.inl rfl)⟩
      · cases e
end Pv
end

section
/-! PvY: the reduced forms of a discriminant, as lists. -/
set_option autoImplicit false
namespace Pv
open PySem

def prim (f : Fm) : Prop := Int.gcd (Int.gcd f.1 f.2.1) f.2.2 = 1
instance (f : Fm) : Decidable (prim f) := by unfold prim; infer_instance
/-- a reduced form of this discriminant -/
structure Rf (d : Int) (f : Fm) : Prop where
  red : Red f
  disc : disc f = d
  prim : prim f
def ltF (f g : Fm) : Prop := f.1 < g.1 ∨ (f.1 = g.1 ∧ (f.2.1 < g.2.1 ∨ (f.2.1 = g.2.1 ∧ f.2.2 < g.2.2)))
instance (f g : Fm) : Decidable (ltF f g) := by unfold ltF; infer_instance
theorem lex_f (f g : Fm) : HT.lexLt (fL f) (fL g) = decide (ltF f g) := by
  obtain ⟨a, b, c⟩ := f
  obtain ⟨x, y, z⟩ := g
  unfold fL ltF
  simp only [HT.lexLt_cons, HT.lexLt_nil_nil]
  by_cases h1 : a = x
  · by_cases h2 : b = y
    · by_cases h3 : c = z
      · simp [h1, h2, h3]
      · simp [h1, h2, h3]
    · simp [h1, h2]
  · simp [h1]
theorem ltF_irrefl (f : Fm) : ¬ ltF f f := by unfold ltF; omega
theorem ltF_asym {f g : Fm} (h : ltF f g) : ¬ ltF g f := by unfold ltF at *; omega
theorem eq_of_ltF {f g : Fm} (h : ¬ ltF f g) (h2 : ¬ ltF g f) : f = g := by
  obtain ⟨a, b, c⟩ := f
  obtain ⟨x, y, z⟩ := g
  unfold ltF at *
  simp only at h h2
  simp only [Prod.mk.injEq]
  omega
abbrev SortedF (l : List Fm) : Prop := l.Pairwise ltF
theorem SortedF.nodup {l : List Fm} (h : SortedF l) : l.Nodup := h.imp fun {a b} q e => by subst e; exact ltF_irrefl _ q
theorem perm_of_mem {l m : List Fm} (hl : l.Nodup) (hm : m.Nodup) (h : ∀ f, f ∈ l ↔ f ∈ m) : l.Perm m := (List.perm_ext_iff_of_nodup hl hm).mpr h
theorem sorted_eq {l m : List Fm} (hl : SortedF l) (hm : SortedF m) (h : ∀ f, f ∈ l ↔ f ∈ m) : l = m :=
  (perm_of_mem hl.nodup hm.nodup h).eq_of_pairwise (fun a b _ _ h1 h2 => absurd h2 (ltF_asym h1)) hl hm
theorem sortT_eq {l m : List Fm} (hl : l.Nodup) (hm : SortedF m) (h : ∀ f, f ∈ l ↔ f ∈ m) : sortT (l.map fL) = m.map fL := by
  refine sortT_unique ((sortT_perm _).trans ((perm_of_mem hl hm.nodup h).map fL)) (sortT_sorted _) ?_
  rw [List.pairwise_map]
  refine hm.imp fun {a b} q => ?_
  rw [lex_f]
  exact decide_eq_false (ltF_asym q)

/-! ### the list, row by row -/
def keepP (d a b : Int) : Bool := decide ((b * b - d) % (4 * a) = 0) && !decide ((b * b - d) / (4 * a) < a ∨ ((b * b - d) / (4 * a) = a ∧ b < 0)) && decide (prim (a, b, (b * b - d) / (4 * a)))
def rowP (d a : Int) : List Fm := (List.range (2 * a).toNat).filterMap fun k : Nat => if keepP d a (1 - a + k) then some (a, 1 - a + k, ((1 - a + k) * (1 - a + k) - d) / (4 * a)) else none
/-- rows 1 to n -/
def rowsP (d : Int) (n : Nat) : List Fm := (List.range n).flatMap fun k : Nat => rowP d (k + 1)
def PL (d : Int) : List Fm := rowsP d 81
theorem keepP_iff {d a b : Int} (a0 : 0 < a) (h1 : 1 - a ≤ b) (h2 : b ≤ a) : keepP d a b = true ↔ (b * b - d) % (4 * a) = 0 ∧ Rf d (a, b, (b * b - d) / (4 * a)) := by
  unfold keepP
  simp only [Bool.and_eq_true, decide_eq_true_eq, Bool.not_eq_true', decide_eq_false_iff_not]
  constructor
  · rintro ⟨⟨e, n⟩, p⟩
    refine ⟨e, ⟨a0, by simp only; omega, h2, by simp only; omega, fun q => by simp only at q ⊢; omega⟩, ?_, p⟩
    have := Int.emod_add_mul_ediv (b * b - d) (4 * a)
    unfold disc
    simp only
    omega
  · rintro ⟨e, r, _, p⟩
    have r4 := r.ac; have r5 := r.eq
    simp only at r4 r5
    exact ⟨⟨e, by omega⟩, p⟩
theorem Rf.row {d : Int} {f : Fm} (h : Rf d f) : keepP d f.1 f.2.1 = true ∧ f.2.2 = (f.2.1 * f.2.1 - d) / (4 * f.1) := by
  obtain ⟨a, b, c⟩ := f
  obtain ⟨r, e, p⟩ := h
  have a0 := r.a0; have r2 := r.lo; have r3 := r.hi
  unfold Pv.disc at e
  simp only at a0 r2 r3 e ⊢
  have e1 : b * b - d = (4 * a) * c := by omega
  have e2 : (b * b - d) / (4 * a) = c := by rw [e1, Int.mul_ediv_cancel_left _ (by omega)]
  refine ⟨(keepP_iff a0 (by omega) r3).mpr ⟨by rw [e1, Int.mul_emod_right], ?_⟩, e2.symm⟩
  rw [e2]
  exact ⟨r, by unfold Pv.disc; exact e, p⟩
theorem mem_row {d a : Int} {f : Fm} (a0 : 0 < a) : f ∈ rowP d a ↔ Rf d f ∧ f.1 = a := by
  unfold rowP
  rw [List.mem_filterMap]
  constructor
  · rintro ⟨k, hk, e⟩
    have hk := List.mem_range.mp hk
    split at e
    · rename_i q
      cases e
      exact ⟨((keepP_iff a0 (by omega) (by omega)).mp q).2, rfl⟩
    · cases e
  · rintro ⟨h, rfl⟩
    obtain ⟨k1, k2⟩ := h.row
    have r2 := h.red.lo; have r3 := h.red.hi
    have ek : 1 - f.1 + ((f.2.1 - (1 - f.1)).toNat : Int) = f.2.1 := by omega
    refine ⟨(f.2.1 - (1 - f.1)).toNat, List.mem_range.mpr (by omega), ?_⟩
    rw [ek, if_pos k1, ← k2]
theorem row_sorted {d a : Int} : SortedF (rowP d a) := by
  unfold rowP
  refine List.Pairwise.filterMap _ (R := fun i j : Nat => i < j) ?_ List.pairwise_lt_range
  intro i j hij f hf g hg
  split at hf
  · split at hg
    · cases hf; cases hg
      exact .inr ⟨rfl, .inl (by simp only; omega)⟩
    · cases hg
  · cases hf
theorem rows_succ (d : Int) (n : Nat) : rowsP d (n + 1) = rowsP d n ++ rowP d (n + 1) := by
  unfold rowsP
  rw [List.range_succ, List.flatMap_append, List.flatMap_singleton]
theorem mem_rows {d : Int} {f : Fm} : ∀ {n : Nat}, f ∈ rowsP d n ↔ Rf d f ∧ f.1 ≤ n
  | 0 => by
    constructor
    · intro h; cases h
    · rintro ⟨h, q⟩
      have := h.red.a0
      omega
  | n + 1 => by
    rw [rows_succ, List.mem_append, mem_rows, mem_row (by omega)]
    constructor
    · rintro (⟨h, q⟩ | ⟨h, q⟩)
      · exact ⟨h, by omega⟩
      · exact ⟨h, by omega⟩
    · rintro ⟨h, q⟩
      by_cases e : f.1 = (n : Int) + 1
      · exact .inr ⟨h, e⟩
      · exact .inl ⟨h, by omega⟩
theorem rows_sorted {d : Int} : ∀ {n : Nat}, SortedF (rowsP d n)
  | 0 => .nil
  | n + 1 => by
    rw [rows_succ]
    refine List.pairwise_append.mpr ⟨rows_sorted, row_sorted, fun f hf g hg => ?_⟩
    have h1 := (mem_rows.mp hf).2
    have h2 := ((mem_row (by omega)).mp hg).2
    exact .inl (by omega)
theorem Rf.a3 {d : Int} {f : Fm} (h : Rf d f) : 3 * f.1 * f.1 ≤ -d := by
  obtain ⟨a, b, c⟩ := f
  obtain ⟨r, e, p⟩ := h
  have a0 := r.a0; have r2 := r.lo; have r3 := r.hi; have r4 := r.ac
  unfold Pv.disc at e
  simp only at a0 r2 r3 r4 e ⊢
  have s1 : 0 ≤ (a - b) * (a + b) := Int.mul_nonneg (by omega) (by omega)
  have s2 := mulL r4 (show 0 ≤ a by omega)
  have s3 : (a - b) * (a + b) = a * a - b * b := by grind
  have s4 : 4 * a * c = 4 * (a * c) := by grind
  have s5 : 3 * a * a = 3 * (a * a) := by grind
  omega
theorem Rf.b3 {d : Int} {f : Fm} (h : Rf d f) : 3 * (f.2.1 * f.2.1) ≤ -d := by
  have r2 := h.red.lo; have r3 := h.red.hi
  have s1 : 0 ≤ (f.1 - f.2.1) * (f.1 + f.2.1) := Int.mul_nonneg (by omega) (by omega)
  have s3 : (f.1 - f.2.1) * (f.1 + f.2.1) = f.1 * f.1 - f.2.1 * f.2.1 := by grind
  have s5 : 3 * f.1 * f.1 = 3 * (f.1 * f.1) := by grind
  have := h.a3
  omega
theorem sq_lt {x y : Int} (hy : 0 ≤ y) (h : x * x < y * y) : x < y := by
  by_cases q : x < y
  · exact q
  · have := mulL (show y ≤ x by omega) hy
    have := mulL (show y ≤ x by omega) (show 0 ≤ x by omega)
    rw [Int.mul_comm x y] at this
    omega
theorem Rf.a_le {d : Int} {f : Fm} (h : Rf d f) (hd : -20000 ≤ d) : f.1 ≤ 81 := by
  have := h.a3
  have s5 : 3 * f.1 * f.1 = 3 * (f.1 * f.1) := by grind
  have : f.1 < 82 := sq_lt (by omega) (by omega)
  omega
theorem mem_PL {d : Int} {f : Fm} (hd : -20000 ≤ d) : f ∈ PL d ↔ Rf d f := by
  unfold PL
  rw [mem_rows]
  exact ⟨fun h => h.1, fun h => ⟨h, h.a_le hd⟩⟩
theorem PL_sorted {d : Int} : SortedF (PL d) := rows_sorted
theorem tups_of (l : List Fm) : tupsOf (l.map fD) = some (l.map fL) := by
  induction l with
  | nil => rfl
  | cons f l ih =>
    rw [List.map_cons, List.map_cons]
    unfold fD fL at *
    unfold tupsOf
    simp only [intsOf, Option.map_some, ih]
theorem sortV_f {l m : List Fm} (hl : l.Nodup) (hm : SortedF m) (h : ∀ f, f ∈ l ↔ f ∈ m) : sortV (l.map fD) = some (.list (m.map fD)) := by
  unfold sortV
  cases l with
  | nil =>
    have : m = [] := by
      cases m with
      | nil => rfl
      | cons x m => exact absurd ((h x).mpr List.mem_cons_self) List.not_mem_nil
    subst this
    rfl
  | cons f l =>
    have e : intsOf ((f :: l).map fD) = none := rfl
    rw [e, tups_of]
    simp only [Option.map_some]
    rw [sortT_eq hl hm h, List.map_map]
    rfl
end Pv
end

section
/-! PvZ: the reduced forms, found by their middle numbers. -/
set_option autoImplicit false
namespace Pv
open PySem
theorem sq4 (b : Int) : (b % 2 = 0 ∧ b * b % 4 = 0) ∨ (b % 2 = 1 ∧ b * b % 4 = 1) := by
  have h : b % 4 = 0 ∨ b % 4 = 1 ∨ b % 4 = 2 ∨ b % 4 = 3 := by omega
  have e : b * b % 4 = (b % 4) * (b % 4) % 4 := Int.mul_emod ..
  rcases h with h | h | h | h <;> rw [h] at e
  · left; exact ⟨by omega, e⟩
  · right; exact ⟨by omega, e⟩
  · left; exact ⟨by omega, e⟩
  · right; exact ⟨by omega, e⟩
/-- what is found: middle numbers below b, and those of b with a first number below a -/
structure Jf (d b a : Int) (l : List Fm) : Prop where
  nd : l.Nodup
  mem : ∀ f, f ∈ l ↔ Rf d f ∧ ((f.2.1.natAbs : Int) < b ∨ ((f.2.1.natAbs : Int) = b ∧ f.1 < a))
def keepL (d b a : Int) : Prop := (b * b - d) / 4 % a = 0 ∧ Int.gcd (Int.gcd a b) ((b * b - d) / 4 / a) = 1
instance (d b a : Int) : Decidable (keepL d b a) := by unfold keepL; infer_instance
def twoL (d b a : Int) : Prop := 0 < b ∧ b < a ∧ a < (b * b - d) / 4 / a
instance (d b a : Int) : Decidable (twoL d b a) := by unfold twoL; infer_instance
def addL (d b a : Int) (l : List Fm) : List Fm := if keepL d b a then (if twoL d b a then (l ++ [(a, b, (b * b - d) / 4 / a)]) ++ [(a, 0 - b, (b * b - d) / 4 / a)] else l ++ [(a, b, (b * b - d) / 4 / a)]) else l
theorem rf_iff {d b a : Int} {f : Fm} (a0 : 0 < a) (b0 : 0 ≤ b) (ba : b ≤ a) (hd : d % 4 = 0 ∨ d % 4 = 1) (hb : b % 2 = d % 2) (hp : a * a ≤ (b * b - d) / 4) :
    (Rf d f ∧ (f.2.1.natAbs : Int) = b ∧ f.1 = a) ↔ keepL d b a ∧ (f = (a, b, (b * b - d) / 4 / a) ∨ (twoL d b a ∧ f = (a, 0 - b, (b * b - d) / 4 / a))) := by
  have e4 : 4 * ((b * b - d) / 4) = b * b - d := by
    have := sq4 b
    omega
  unfold keepL twoL
  generalize (b * b - d) / 4 = p at *
  constructor
  · rintro ⟨⟨r, e, q⟩, hB, rfl⟩
    obtain ⟨A, B, C⟩ := f
    have r2 := r.lo; have r4 := r.ac; have r5 := r.eq
    unfold Pv.disc at e
    unfold Pv.prim at q
    simp only at *
    have bb : B * B = b * b := by rw [← hB]; exact (Int.natAbs_mul_self (a := B)).symm
    have pe : p = A * C := by
      have t1 : 4 * A * C = 4 * (A * C) := by grind
      omega
    have pm : p % A = 0 := by rw [pe, Int.mul_emod_right]
    have pd : p / A = C := by rw [pe, Int.mul_ediv_cancel_left _ (by omega)]
    have gq : Int.gcd A b = Int.gcd A B := by
      rw [← hB]
      unfold Int.gcd
      rw [Int.natAbs_natCast]
    rw [pd, gq]
    refine ⟨⟨pm, q⟩, ?_⟩
    by_cases hs : B = b
    · left; rw [hs]
    · right
      have : B = 0 - b := by omega
      exact ⟨⟨by omega, by omega, by omega⟩, by rw [this]⟩
  · rintro ⟨⟨k1, k2⟩, hf⟩
    have pe : p = a * (p / a) := by
      have := Int.emod_add_mul_ediv p a
      omega
    generalize p / a = C at *
    have ac : a ≤ C := by
      by_cases h : a ≤ C
      · exact h
      · have := mulL (show C + 1 ≤ a by omega) (show 0 ≤ a by omega)
        have t : a * (C + 1) = a * C + a := by grind
        omega
    have t1 : 4 * a * C = 4 * (a * C) := by grind
    rcases hf with rfl | ⟨⟨z1, z2, z3⟩, rfl⟩
    · refine ⟨⟨⟨a0, by simp only; omega, ba, ac, fun _ => b0⟩, ?_, k2⟩, by simp only; omega, rfl⟩
      unfold Pv.disc
      simp only
      omega
    · have e0 : 0 - b = -b := by omega
      refine ⟨⟨⟨a0, by simp only; omega, by simp only; omega, ac, fun q => by simp only at q; omega⟩, ?_, ?_⟩, by simp only; omega, rfl⟩
      · unfold Pv.disc
        simp only
        rw [e0, Int.neg_mul_neg]
        omega
      · unfold Pv.prim
        simp only
        rw [e0, Int.gcd_neg]
        exact k2
theorem Jf.step {d b a : Int} {l : List Fm} (h : Jf d b a l) (a0 : 0 < a) (b0 : 0 ≤ b) (ba : b ≤ a) (hd : d % 4 = 0 ∨ d % 4 = 1) (hb : b % 2 = d % 2) (hp : a * a ≤ (b * b - d) / 4) : Jf d b (a + 1) (addL d b a l) := by
  have key : ∀ f, f ∈ addL d b a l ↔ f ∈ l ∨ (Rf d f ∧ (f.2.1.natAbs : Int) = b ∧ f.1 = a) := fun f => by
    rw [rf_iff a0 b0 ba hd hb hp]
    unfold addL
    by_cases k : keepL d b a
    · by_cases t : twoL d b a
      · simp [k, t, or_assoc]
      · simp [k, t]
    · simp [k]
  have new : ∀ f, f.1 = a → (f.2.1.natAbs : Int) = b → f ∉ l := fun f e1 e2 hf => by
    obtain ⟨_, q | ⟨_, q⟩⟩ := (h.mem f).mp hf
    · omega
    · omega
  refine ⟨?_, fun f => ?_⟩
  · unfold addL
    have n1 : (l ++ [(a, b, (b * b - d) / 4 / a)]).Nodup := List.nodup_append.mpr ⟨h.nd, by simp, fun x hx y hy e => by
      rw [List.mem_singleton] at hy
      subst hy; subst e
      exact new _ rfl (by simp only; omega) hx⟩
    split
    · split
      · rename_i t
        refine List.nodup_append.mpr ⟨n1, by simp, fun x hx y hy e => ?_⟩
        rw [List.mem_singleton] at hy
        subst hy; subst e
        rcases List.mem_append.mp hx with hx | hx
        · exact new _ rfl (by simp only; omega) hx
        · rw [List.mem_singleton] at hx
          have := congrArg (fun q : Fm => q.2.1) hx
          simp only at this
          have := t.1
          omega
      · exact n1
    · exact h.nd
  · rw [key, h.mem]
    constructor
    · rintro (⟨h1, h2⟩ | ⟨h1, h2, h3⟩)
      · exact ⟨h1, by omega⟩
      · exact ⟨h1, by omega⟩
    · rintro ⟨h1, h2⟩
      by_cases h3 : (f.2.1.natAbs : Int) = b ∧ f.1 = a
      · exact .inr ⟨h1, h3⟩
      · exact .inl ⟨h1, by omega⟩
theorem addL_len (d b a : Int) (l : List Fm) : (addL d b a l).length ≤ l.length + 2 := by
  unfold addL
  split
  · split
    · simp
    · simp
  · omega
/-- a row's start and end -/
theorem Jf.open_ {d b : Int} {l : List Fm} (h : Jf d b 0 l) : Jf d b (if 1 < b then b else 1) l := by
  refine ⟨h.nd, fun f => ?_⟩
  rw [h.mem]
  refine and_congr_right fun r => ?_
  have r1 := r.red.a0; have r2 := r.red.lo; have r3 := r.red.hi
  split <;> omega
theorem Jf.close {d b a : Int} {l : List Fm} (h : Jf d b a l) (a0 : 0 < a) (b0 : 0 ≤ b) (hd : d % 4 = 0 ∨ d % 4 = 1) (hb : b % 2 = d % 2) (hp : (b * b - d) / 4 < a * a) : Jf d (b + 2) 0 l := by
  refine ⟨h.nd, fun f => ?_⟩
  rw [h.mem]
  refine and_congr_right fun r => ?_
  have r1 := r.red.a0; have r4 := r.red.ac
  have e := r.disc
  obtain ⟨A, B, C⟩ := f
  unfold Pv.disc at e
  simp only at *
  have par : B % 2 = d % 2 := by
    have := sq4 B
    have t1 : 4 * A * C = 4 * (A * C) := by grind
    omega
  constructor
  · rintro (q | q)
    · omega
    · omega
  · rintro (q | q)
    · by_cases w : (B.natAbs : Int) < b
      · exact .inl w
      · right
        have eb : (B.natAbs : Int) = b := by omega
        refine ⟨eb, ?_⟩
        have bb : B * B = b * b := by rw [← eb]; exact (Int.natAbs_mul_self (a := B)).symm
        have t1 : 4 * A * C = 4 * (A * C) := by grind
        have := mulL r4 (show 0 ≤ A by omega)
        exact sq_lt (by omega) (by omega)
    · omega
theorem Jf.start {d b : Int} (h : b = d % 2) : Jf d b 0 [] := by
  refine ⟨.nil, fun f => ⟨fun h => (by cases h), ?_⟩⟩
  rintro ⟨r, q⟩
  have e := r.disc
  obtain ⟨A, B, C⟩ := f
  unfold Pv.disc at e
  have r1 := r.red.a0
  simp only at *
  have := sq4 B
  have t1 : 4 * A * C = 4 * (A * C) := by grind
  omega
theorem Jf.all {d b : Int} {l : List Fm} (h : Jf d b 0 l) (b0 : 0 ≤ b) (hp : -d < 3 * (b * b)) : ∀ f, f ∈ l ↔ Rf d f := fun f => by
  rw [h.mem]
  refine ⟨fun h => h.1, fun r => ⟨r, .inl ?_⟩⟩
  have := r.b3
  have e : (f.2.1.natAbs : Int) * f.2.1.natAbs = f.2.1 * f.2.1 := Int.natAbs_mul_self
  exact sq_lt b0 (by omega)
end Pv
end

section
/-! PvPF: conductors, symbols, prime forms; plain. -/
set_option autoImplicit false
namespace Pv
open PySem

/-! ### conductors -/
def goodC (d f : Int) : Prop := d % (f * f) = 0 ∧ d / (f * f) % 4 < 2
instance (d f : Int) : Decidable (goodC d f) := by unfold goodC; infer_instance
structure MaxC (d F : Int) : Prop where
  pos : 1 ≤ F
  good : goodC d F
  max : ∀ f, F < f → ¬ goodC d f
theorem goodC.bound {d f : Int} (h : goodC d f) (f1 : 1 ≤ f) (hd : d < 0) : 3 * (f * f) ≤ -d := by
  obtain ⟨h1, h2⟩ := h
  have e := Int.emod_add_mul_ediv d (f * f)
  have p := prod1 f1 f1
  generalize d / (f * f) = q at *
  by_cases z : q ≤ -3
  · have := mulL (show q ≤ -3 by omega) (show 0 ≤ f * f by omega)
    omega
  · have q0 : 0 ≤ q := by omega
    have := Int.mul_nonneg (show 0 ≤ f * f by omega) q0
    omega
theorem goodC.le {d f : Int} (h : goodC d f) (f1 : 1 ≤ f) (hd : d < 0) (h2 : -20000 ≤ d) : f ≤ 81 := by
  have := h.bound f1 hd
  have : f < 82 := sq_lt (by omega) (by omega)
  omega
theorem MaxC.unique {d F G : Int} (h : MaxC d F) (h2 : MaxC d G) : F = G := by
  rcases Int.lt_trichotomy F G with q | q | q
  · exact absurd h2.good (h.max G q)
  · exact q
  · exact absurd h.good (h2.max F q)
/-! ### primes -/
structure Pr (l : Int) : Prop where
  two : 2 ≤ l
  one : ∀ b : Int, b % l ≠ 0 → Int.gcd l b = 1
theorem gcd_mod (l b : Int) : Int.gcd l (b % l) = Int.gcd l b := by
  rw [Int.emod_def, show b - l * (b / l) = b + l * (-(b / l)) by grind, Int.gcd_add_mul_left_right]
def prB (l : Nat) : Bool := decide (2 ≤ l) && (List.range l).all fun k => k == 0 || Nat.gcd l k == 1
theorem Pr.of {l : Nat} (h : prB l = true) : Pr l := by
  unfold prB at h
  simp only [Bool.and_eq_true, decide_eq_true_eq, List.all_eq_true, List.mem_range, Bool.or_eq_true, beq_iff_eq] at h
  refine ⟨by omega, fun b hb => ?_⟩
  rw [← gcd_mod]
  have r0 := Int.emod_nonneg b (show (l : Int) ≠ 0 by omega)
  have r1 := Int.emod_lt_of_pos b (show (0 : Int) < l by omega)
  have := h.2 (b % l).toNat (by omega)
  have e : b % l = ((b % l).toNat : Int) := by omega
  rw [e]
  rcases this with z | z
  · omega
  · exact z
theorem Pr.mul {l x y : Int} (p : Pr l) (h : (x * y) % l = 0) : x % l = 0 ∨ y % l = 0 := by
  by_cases z : x % l = 0
  · exact .inl z
  · right
    have g := p.one x z
    have h1 : l.natAbs ∣ (x * y).natAbs := Int.natAbs_dvd_natAbs.mpr (Int.dvd_of_emod_eq_zero h)
    rw [Int.natAbs_mul] at h1
    have h2 := Nat.Coprime.dvd_of_dvd_mul_left (show Nat.Coprime l.natAbs x.natAbs from g) h1
    exact Int.emod_eq_zero_of_dvd (Int.natAbs_dvd_natAbs.mp h2)
theorem gcd_self {l b : Int} (l0 : 0 ≤ l) (h : b % l = 0) : (Int.gcd l b : Int) = l := (Int.gcd_eq_left_iff_dvd l0).mpr (Int.dvd_of_emod_eq_zero h)
/-! ### square roots by a prime -/
def rootsN (l r : Nat) : List Nat := (List.range l).filter fun x => x * x % l == r
def rootsB (l : Nat) : Bool := (List.range l).all fun r => if r == 0 then rootsN l r == [0] else match rootsN l r with
  | [] => true
  | [x, y] => x + y == l && decide (0 < x) && decide (x < y)
  | _ => false
def symI (d l : Int) : Int := if d % l = 0 then 0 else if l = 2 then (if d % 8 = 1 then 1 else -1) else if ∃ k ∈ List.range (l - 1).toNat, (((k : Int) + 1) * (k + 1)) % l = d % l then 1 else -1
theorem root_mem {l : Nat} (l0 : 0 < l) {d b : Int} : (b * b - d) % l = 0 ↔ (b % l).toNat ∈ rootsN l (d % l).toNat := by
  have r0 := Int.emod_nonneg b (show (l : Int) ≠ 0 by omega)
  have r1 := Int.emod_lt_of_pos b (show (0 : Int) < l by omega)
  have d0 := Int.emod_nonneg d (show (l : Int) ≠ 0 by omega)
  unfold rootsN
  rw [List.mem_filter, List.mem_range, ← Int.emod_eq_emod_iff_emod_sub_eq_zero, Int.mul_emod]
  have e : (b % l) * (b % l) % l = (((b % l).toNat * (b % l).toNat % l : Nat) : Int) := by
    rw [Int.natCast_emod, Int.natCast_mul]
    have : ((b % l).toNat : Int) = b % l := by omega
    rw [this]
  rw [e, beq_iff_eq]
  omega
/-- what the kept middle numbers are -/
def keepF (d l b : Int) : Prop := (b * b - d) % (4 * l) = 0 ∧ Int.gcd (Int.gcd l b) ((b * b - d) / (4 * l)) = 1
instance (d l b : Int) : Decidable (keepF d l b) := by unfold keepF; infer_instance
def pfL (d l : Int) : List Fm := (List.range (2 * l).toNat).filterMap fun k : Nat => if keepF d l (1 - l + k) then some (l, 1 - l + k, ((1 - l + k) * (1 - l + k) - d) / (4 * l)) else none
def formF (d l b : Int) : Fm := (l, b, (b * b - d) / (4 * l))
theorem mem_pfL {d l : Int} {f : Fm} (l0 : 0 < l) : f ∈ pfL d l ↔ ∃ b, 1 - l ≤ b ∧ b ≤ l ∧ keepF d l b ∧ f = formF d l b := by
  unfold pfL
  rw [List.mem_filterMap]
  constructor
  · rintro ⟨k, hk, e⟩
    have hk := List.mem_range.mp hk
    split at e
    · rename_i q
      cases e
      exact ⟨_, by omega, by omega, q, rfl⟩
    · cases e
  · rintro ⟨b, h1, h2, h3, rfl⟩
    have ek : 1 - l + ((b - (1 - l)).toNat : Int) = b := by omega
    refine ⟨(b - (1 - l)).toNat, List.mem_range.mpr (by omega), ?_⟩
    rw [ek, if_pos h3]; rfl
theorem pfL_sorted {d l : Int} : SortedF (pfL d l) := by
  unfold pfL
  refine List.Pairwise.filterMap _ (R := fun i j : Nat => i < j) ?_ List.pairwise_lt_range
  intro i j hij f hf g hg
  split at hf
  · split at hg
    · cases hf; cases hg
      exact .inr ⟨rfl, .inl (by simp only; omega)⟩
    · cases hg
  · cases hf
/-- from the kept numbers to the list -/
theorem pfL_none {d l : Int} (l0 : 0 < l) (h : ∀ b, 1 - l ≤ b → b ≤ l → ¬ keepF d l b) : pfL d l = [] := by
  refine sorted_eq pfL_sorted .nil fun f => ?_
  rw [mem_pfL l0]
  exact ⟨fun ⟨b, h1, h2, h3, _⟩ => absurd h3 (h b h1 h2), fun h => (by cases h)⟩
theorem pfL_one {d l b0 : Int} (l0 : 0 < l) (h1 : 1 - l ≤ b0) (h2 : b0 ≤ l) (h : ∀ b, 1 - l ≤ b → b ≤ l → (keepF d l b ↔ b = b0)) : pfL d l = [formF d l b0] := by
  refine sorted_eq pfL_sorted (List.pairwise_singleton _ _) fun f => ?_
  rw [mem_pfL l0, List.mem_singleton]
  constructor
  · rintro ⟨b, h3, h4, h5, rfl⟩
    rw [(h b h3 h4).mp h5]
  · rintro rfl
    exact ⟨b0, h1, h2, (h b0 h1 h2).mpr rfl, rfl⟩
theorem pfL_two {d l b0 : Int} (l0 : 0 < l) (h1 : 0 < b0) (h2 : b0 < l) (h : ∀ b, 1 - l ≤ b → b ≤ l → (keepF d l b ↔ b = b0 ∨ b = -b0)) : pfL d l = [formF d l (-b0), formF d l b0] := by
  refine sorted_eq pfL_sorted (List.pairwise_pair.mpr (.inr ⟨rfl, .inl (by show -b0 < b0; omega)⟩)) fun f => ?_
  rw [mem_pfL l0]
  constructor
  · rintro ⟨b, h3, h4, h5, rfl⟩
    rcases (h b h3 h4).mp h5 with rfl | rfl
    · exact List.mem_cons_of_mem _ List.mem_cons_self
    · exact List.mem_cons_self
  · intro hf
    rcases List.mem_cons.mp hf with rfl | hf
    · exact ⟨-b0, by omega, by omega, (h (-b0) (by omega) (by omega)).mpr (.inr rfl), rfl⟩
    · rw [List.mem_singleton] at hf
      subst hf
      exact ⟨b0, by omega, by omega, (h b0 (by omega) (by omega)).mpr (.inl rfl), rfl⟩
/-- how many they must be -/
def manyI (F s l : Int) : Int := if F % l = 0 ∨ s = -1 then 0 else if s = 0 then 1 else 2
/-- what is asked of them -/
inductive PfOk (d l F : Int) : Prop
  | no (h : pfL d l = []) (m : manyI F (symI d l) l = 0)
  | one (b : Int) (h : pfL d l = [formF d l b]) (m : manyI F (symI d l) l = 1) (hb : b = 0 ∨ b = l)
  | two (b : Int) (h : pfL d l = [formF d l (-b), formF d l b]) (m : manyI F (symI d l) l = 2) (h1 : 0 < b) (h2 : b < l)
/-- odd primes: what is kept -/
theorem keep_iff {l : Nat} (p : Pr l) (ho : l % 2 = 1) {d b : Int} (hd : d % 4 = 0 ∨ d % 4 = 1) : (b * b - d) % (4 * (l : Int)) = 0 ↔ b % 2 = d % 2 ∧ (b * b - d) % l = 0 := by
  have s4 := sq4 b
  constructor
  · intro h
    obtain ⟨q, e⟩ := Int.dvd_of_emod_eq_zero h
    refine ⟨?_, ?_⟩
    · have t : 4 * (l : Int) * q = 4 * (l * q) := by grind
      omega
    · have t : 4 * (l : Int) * q = l * (4 * q) := by grind
      rw [e, t, Int.mul_emod_right]
  · rintro ⟨h1, h2⟩
    obtain ⟨q, e⟩ := Int.dvd_of_emod_eq_zero h2
    have m4 : (b * b - d) % 4 = 0 := by omega
    have q4 : q % 4 = 0 := by
      have e2 : ((l : Int) * q) % 4 = 0 := by rw [← e]; exact m4
      have hl : (l : Int) % 4 = 1 ∨ (l : Int) % 4 = 3 := by omega
      have hq : q % 4 = 0 ∨ q % 4 = 1 ∨ q % 4 = 2 ∨ q % 4 = 3 := by omega
      rw [Int.mul_emod] at e2
      rcases hl with hl | hl <;> rcases hq with hq | hq | hq | hq <;> rw [hl, hq] at e2 <;> omega
    obtain ⟨t, et⟩ := Int.dvd_of_emod_eq_zero q4
    have : b * b - d = 4 * (l : Int) * t := by rw [e, et]; grind
    rw [this, Int.mul_emod_right]
/-- a prime in the conductor -/
theorem cond_iff {l : Nat} (p : Pr l) (ho : l % 2 = 1) {d F : Int} (hm : MaxC d F) : F % (l : Int) = 0 ↔ d % ((l : Int) * l) = 0 := by
  obtain ⟨h1, h2⟩ := hm.good
  have ed := Int.emod_add_mul_ediv d (F * F)
  rw [h1, Int.zero_add] at ed
  have two := p.two
  constructor
  · intro h
    obtain ⟨q, e⟩ := Int.dvd_of_emod_eq_zero h
    rw [← ed, e]
    have : (l : Int) * q * (l * q) * (d / (l * q * (l * q))) = (l * l) * (q * q * (d / (l * q * (l * q)))) := by grind
    rw [this, Int.mul_emod_right]
  · intro h
    by_cases z : F % (l : Int) = 0
    · exact z
    · exfalso
      obtain ⟨t, et⟩ := Int.dvd_of_emod_eq_zero h
      have hm2 := hm.max (F * l) (by
        have := mulL (show (2 : Int) ≤ l by omega) (show 0 ≤ F by have := hm.pos; omega)
        have := hm.pos
        omega)
      generalize d / (F * F) = e at *
      have FF : ∀ y : Int, (F * F * y) % (l : Int) = 0 → y % (l : Int) = 0 := fun y hy => by
        rw [Int.mul_assoc] at hy
        have := (p.mul hy).resolve_left z
        exact (p.mul this).resolve_left z
      have e1 : e % (l : Int) = 0 := FF e (by rw [ed, et, Int.mul_assoc, Int.mul_emod_right])
      obtain ⟨e', ee⟩ := Int.dvd_of_emod_eq_zero e1
      have e2 : e' % (l : Int) = 0 := FF e' (by
        have : (l : Int) * (F * F * e') = l * (l * t) := by rw [← Int.mul_assoc (l : Int) l t, ← et, ← ed, ee]; grind
        have := Int.eq_of_mul_eq_mul_left (show (l : Int) ≠ 0 by omega) this
        rw [this, Int.mul_emod_right])
      obtain ⟨e'', ee2⟩ := Int.dvd_of_emod_eq_zero e2
      apply hm2
      have dd : d = (F * l * (F * l)) * e'' := by rw [← ed, ee, ee2]; grind
      have pos : F * l * (F * l) ≠ 0 := by
        have := hm.pos
        have q1 := prod1 (show 1 ≤ F by omega) (show (1 : Int) ≤ l by omega)
        have q2 := prod1 q1 q1
        omega
      refine ⟨by rw [dd, Int.mul_emod_right], ?_⟩
      rw [dd, Int.mul_ediv_cancel_left _ pos]
      have s4 := sq4 (l : Int)
      have l4 : (l : Int) * l % 4 = 1 := by omega
      have : e = l * l * e'' := by rw [ee, ee2]; grind
      have m : e % 4 = ((l : Int) * l % 4) * (e'' % 4) % 4 := by rw [this, Int.mul_emod]
      rw [l4] at m
      omega
theorem symI_cases {l : Nat} (p : Pr l) (ho : l % 2 = 1) (hr : rootsB l = true) (d : Int) : (d % (l : Int) = 0 ∧ symI d l = 0) ∨ (d % (l : Int) ≠ 0 ∧ symI d l = -1 ∧ rootsN l (d % l).toNat = []) ∨
    (d % (l : Int) ≠ 0 ∧ symI d l = 1 ∧ ∃ x : Nat, rootsN l (d % l).toNat = [x, l - x] ∧ 0 < x ∧ x < l - x) := by
  have two := p.two
  unfold symI
  by_cases h : d % (l : Int) = 0
  · exact .inl ⟨h, by rw [if_pos h]⟩
  · right
    rw [if_neg h, if_neg (by omega)]
    have d0 := Int.emod_nonneg d (show (l : Int) ≠ 0 by omega)
    have d1 := Int.emod_lt_of_pos d (show (0 : Int) < l by omega)
    have q := List.all_eq_true.mp hr (d % l).toNat (List.mem_range.mpr (by omega))
    rw [if_neg (by rw [beq_iff_eq]; omega)] at q
    have ex : (∃ k ∈ List.range ((l : Int) - 1).toNat, (((k : Int) + 1) * (k + 1)) % (l : Int) = d % l) ↔ rootsN l (d % l).toNat ≠ [] := by
      constructor
      · rintro ⟨k, hk, e⟩ hn
        have hk := List.mem_range.mp hk
        have := (root_mem (l := l) (by omega) (d := d) (b := (k : Int) + 1)).mp (Int.emod_eq_emod_iff_emod_sub_eq_zero.mp e)
        rw [hn] at this
        cases this
      · intro hn
        obtain ⟨x, hx⟩ := List.exists_mem_of_ne_nil _ hn
        have hx2 := hx
        unfold rootsN at hx2
        rw [List.mem_filter, List.mem_range, beq_iff_eq] at hx2
        have x0 : x ≠ 0 := by
          rintro rfl
          simp at hx2
          omega
        refine ⟨x - 1, List.mem_range.mpr (by omega), ?_⟩
        have e1 : ((x - 1 : Nat) : Int) + 1 = x := by omega
        rw [e1]
        have : (x : Int) * x % l = ((x * x % l : Nat) : Int) := by rw [Int.natCast_emod, Int.natCast_mul]
        rw [this, hx2.2]
        omega
    split at q
    · rename_i e
      left
      rw [if_neg (fun z => (ex.mp z) e)]
      exact ⟨h, rfl, e⟩
    · rename_i x y e
      right
      simp only [Bool.and_eq_true, beq_iff_eq, decide_eq_true_eq] at q
      rw [if_pos (ex.mpr (by rw [e]; exact List.cons_ne_nil _ _))]
      refine ⟨h, rfl, x, ?_, q.1.2, by omega⟩
      rw [e, show y = l - x by omega]
    · cases q
theorem pf_odd {l : Nat} (p : Pr l) (ho : l % 2 = 1) (hr : rootsB l = true) {d F : Int} (hd : d % 4 = 0 ∨ d % 4 = 1) (hm : MaxC d F) : PfOk d l F := by
  have two := p.two
  have l0 : 0 < l := by omega
  have cF : d % (l : Int) ≠ 0 → F % (l : Int) ≠ 0 := fun h z => h (by
    obtain ⟨q, e⟩ := Int.dvd_of_emod_eq_zero ((cond_iff p ho hm).mp z)
    rw [e, Int.mul_assoc, Int.mul_emod_right])
  have mods : ∀ b : Int, 1 - (l : Int) ≤ b → b ≤ l → (b % (l : Int) = if b < 0 then b + l else if b = l then 0 else b) := fun b h1 h2 => by
    split
    · have : b % (l : Int) = (b + l) % l := by rw [Int.add_emod_right]
      rw [this, Int.emod_eq_of_lt (by omega) (by omega)]
    · split
      · rename_i e
        rw [e, Int.emod_self]
      · rw [Int.emod_eq_of_lt (by omega) (by omega)]
  have mb : ∀ b : Int, b % (l : Int) ≠ 0 → ∀ y, Int.gcd (Int.gcd l b) y = 1 := fun b h y => by
    rw [p.one b h]; exact Int.one_gcd
  rcases symI_cases p ho hr d with ⟨h0, hs⟩ | ⟨h0, hs, hn⟩ | ⟨h0, hs, x, hx, x0, x1⟩
  · -- the prime divides d
    have bl : ∀ b : Int, 1 - (l : Int) ≤ b → b ≤ l → ((b * b - d) % (4 * (l : Int)) = 0 ↔ b = if d % 2 = 0 then 0 else (l : Int)) := fun b h1 h2 => by
      rw [keep_iff p ho hd]
      have z : (b * b - d) % (l : Int) = 0 ↔ b % (l : Int) = 0 := by
        rw [← Int.emod_eq_emod_iff_emod_sub_eq_zero, h0]
        constructor
        · intro e
          rcases p.mul e with e | e <;> exact e
        · intro e
          rw [Int.mul_emod, e]
          simp
      rw [z, mods b h1 h2]
      split
      · split <;> omega
      · split
        · split <;> omega
        · split <;> omega
    generalize hb0 : (if d % 2 = 0 then 0 else (l : Int)) = b0 at bl
    have hb1 : b0 = 0 ∨ b0 = (l : Int) := by split at hb0 <;> omega
    have rng : 1 - (l : Int) ≤ b0 ∧ b0 ≤ l := by omega
    have m0 : b0 % (l : Int) = 0 := by rcases hb1 with e | e <;> rw [e] <;> simp
    have c0 := (bl b0 rng.1 rng.2).mpr rfl
    obtain ⟨c, ec⟩ := Int.dvd_of_emod_eq_zero c0
    have cc : (b0 * b0 - d) / (4 * (l : Int)) = c := by rw [ec, Int.mul_ediv_cancel_left _ (by omega)]
    have lc : c % (l : Int) = 0 ↔ d % ((l : Int) * l) = 0 := by
      have b2 : ∃ t, b0 * b0 = (l : Int) * l * t := by
        rcases hb1 with e | e
        · exact ⟨0, by rw [e]; simp⟩
        · exact ⟨1, by rw [e]; simp⟩
      obtain ⟨t, et⟩ := b2
      constructor
      · intro h
        obtain ⟨q, eq⟩ := Int.dvd_of_emod_eq_zero h
        have : d = (l : Int) * l * (t - 4 * q) := by
          have : d = b0 * b0 - 4 * l * c := by omega
          rw [this, et, eq]; grind
        rw [this, Int.mul_emod_right]
      · intro h
        obtain ⟨q, eq⟩ := Int.dvd_of_emod_eq_zero h
        have e1 : (l : Int) * (4 * c) = l * (l * (t - q)) := by
          have : 4 * (l : Int) * c = b0 * b0 - d := ec.symm
          have t1 : (l : Int) * (4 * c) = 4 * l * c := by grind
          rw [t1, this, et, eq]; grind
        have e2 := Int.eq_of_mul_eq_mul_left (show (l : Int) ≠ 0 by omega) e1
        have e3 : (4 * c) % (l : Int) = 0 := by rw [e2, Int.mul_emod_right]
        have n4 : (4 : Int) % l ≠ 0 := by
          intro z
          have := Int.emod_add_mul_ediv 4 (l : Int)
          rw [z] at this
          have h3 : (l : Int) % 2 = 1 := by omega
          have hq : (4 : Int) / l = 0 ∨ (4 : Int) / l = 1 ∨ 2 ≤ (4 : Int) / l := by
            have := Int.ediv_nonneg (show (0 : Int) ≤ 4 by omega) (show (0 : Int) ≤ l by omega)
            omega
          rcases hq with q | q | q
          · rw [q] at this; omega
          · rw [q] at this; omega
          · have := mulL q (show (0 : Int) ≤ l by omega)
            omega
        exact (p.mul e3).resolve_left n4
    have g0 : (Int.gcd l b0 : Int) = l := gcd_self (by omega) m0
    by_cases hc : c % (l : Int) = 0
    · refine .no (pfL_none (by omega) fun b h1 h2 hk => ?_) ?_
      · have e := (bl b h1 h2).mp hk.1
        subst e
        have := hk.2
        rw [cc, g0] at this
        have := gcd_self (l := l) (by omega) hc
        omega
      · unfold manyI
        rw [if_pos (.inl ((cond_iff p ho hm).mpr (lc.mp hc)))]
    · refine .one b0 (pfL_one (by omega) rng.1 rng.2 fun b h1 h2 => ⟨fun hk => (bl b h1 h2).mp hk.1, fun e => ?_⟩) ?_ hb1
      · subst e
        refine ⟨c0, ?_⟩
        rw [cc, g0]
        exact p.one c hc
      · unfold manyI
        rw [hs, if_neg (by rw [cond_iff p ho hm, ← lc]; omega), if_pos rfl]
  · refine .no (pfL_none (by omega) fun b h1 h2 hk => ?_) ?_
    · have := (root_mem (l := l) l0).mp ((keep_iff p ho hd).mp hk.1).2
      rw [hn] at this
      cases this
    · unfold manyI
      rw [if_pos (.inr hs)]
  · -- two roots
    have key : ∀ b : Int, 1 - (l : Int) ≤ b → b ≤ l → (keepF d l b ↔ b % 2 = d % 2 ∧ (b % (l : Int) = x ∨ b % (l : Int) = l - x)) := fun b h1 h2 => by
      have rm := root_mem (l := l) l0 (d := d) (b := b)
      rw [hx, List.mem_cons, List.mem_singleton] at rm
      have r0 := Int.emod_nonneg b (show (l : Int) ≠ 0 by omega)
      unfold keepF
      rw [keep_iff p ho hd, rm]
      constructor
      · rintro ⟨⟨k1, k2⟩, _⟩
        exact ⟨k1, by omega⟩
      · rintro ⟨k1, k2⟩
        refine ⟨⟨k1, by omega⟩, mb b (by omega) _⟩
    generalize hb0 : (if (x : Int) % 2 = d % 2 then (x : Int) else l - x) = b0
    refine .two b0 (pfL_two (by omega) (by split at hb0 <;> omega) (by split at hb0 <;> omega) fun b h1 h2 => ?_) ?_ (by split at hb0 <;> omega) (by split at hb0 <;> omega)
    · rw [key b h1 h2, mods b h1 h2]
      split at hb0 <;> split <;> (try split) <;> omega
    · unfold manyI
      rw [hs, if_neg (by have := cF h0; omega), if_neg (by omega)]
theorem pf_two {d F : Int} (hd : d % 4 = 0 ∨ d % 4 = 1) (hm : MaxC d F) : PfOk d 2 F := by
  obtain ⟨h1, h2⟩ := hm.good
  have ed := Int.emod_add_mul_ediv d (F * F)
  rw [h1, Int.zero_add] at ed
  have F1 := hm.pos
  have sF := sq4 F
  have g2 : ∀ b : Int, b % 2 = 1 → ∀ y, Int.gcd (Int.gcd 2 b) y = 1 := fun b h y => by
    have : Int.gcd 2 b = 1 := (Pr.of (l := 2) (by decide)).one b (by omega)
    rw [this]; exact Int.one_gcd
  have g0 : ∀ b : Int, b % 2 = 0 → ∀ y, (Int.gcd (Int.gcd 2 b) y = 1 ↔ y % 2 = 1) := fun b h y => by
    have e : (Int.gcd 2 b : Int) = 2 := gcd_self (by omega) h
    rw [e]
    constructor
    · intro q
      by_cases w : y % 2 = 1
      · exact w
      · have := gcd_self (l := 2) (b := y) (by omega) (by omega)
        omega
    · intro q
      exact (Pr.of (l := 2) (by decide)).one y (by omega)
  have vals : ∀ b : Int, 1 - 2 ≤ b → b ≤ 2 → b = -1 ∨ b = 0 ∨ b = 1 ∨ b = 2 := fun b h1 h2 => by omega
  rcases hd with hd | hd
  · -- even
    have cF : F % 2 = 0 ↔ d % 16 = 0 ∨ d % 16 = 4 := by
      generalize d / (F * F) = e at *
      constructor
      · intro h
        obtain ⟨q, eq⟩ := Int.dvd_of_emod_eq_zero h
        have sq := sq4 q
        have t : d = 4 * (q * q * e) := by rw [← ed, eq]; grind
        have m : (q * q * e) % 4 = (q * q % 4) * (e % 4) % 4 := Int.mul_emod ..
        have e4 : e % 4 = 0 ∨ e % 4 = 1 := by omega
        rcases sq with sq | sq <;> rcases e4 with e4 | e4 <;> rw [sq.2, e4] at m <;> omega
      · intro h
        by_cases z : F % 2 = 0
        · exact z
        · exfalso
          have f4 : F * F % 4 = 1 := by omega
          have m : d % 4 = (F * F % 4) * (e % 4) % 4 := by rw [← ed, Int.mul_emod]
          rw [f4] at m
          have e4 : e % 4 = 0 := by omega
          obtain ⟨t, et⟩ := Int.dvd_of_emod_eq_zero e4
          have d4 : d = 4 * (F * F * t) := by rw [← ed, et]; grind
          have m2 : (F * F * t) % 4 = (F * F % 4) * (t % 4) % 4 := Int.mul_emod ..
          rw [f4] at m2
          have t4 : t % 4 < 2 := by omega
          apply hm.max (2 * F) (by omega)
          have dd : d = (2 * F * (2 * F)) * t := by rw [d4]; grind
          have p1 := prod1 F1 F1
          have pos : 2 * F * (2 * F) ≠ 0 := by
            have : 2 * F * (2 * F) = 4 * (F * F) := by grind
            omega
          refine ⟨by rw [dd, Int.mul_emod_right], ?_⟩
          rw [dd, Int.mul_ediv_cancel_left _ pos]
          exact t4
    have s0 : symI d 2 = 0 := by unfold symI; rw [if_pos (by omega)]
    have mk : manyI F (symI d 2) 2 = if d % 16 = 0 ∨ d % 16 = 4 then 0 else 1 := by
      unfold manyI
      rw [s0]
      by_cases q : F % 2 = 0
      · rw [if_pos (.inl q), if_pos (cF.mp q)]
      · rw [if_neg (by omega), if_pos rfl, if_neg (fun z => q (cF.mpr z))]
    have kp : ∀ b : Int, 1 - 2 ≤ b → b ≤ 2 → (keepF d 2 b ↔ (b = 0 ∧ d % 16 = 8) ∨ (b = 2 ∧ d % 16 = 12)) := fun b h1 h2 => by
      unfold keepF
      rcases vals b h1 h2 with rfl | rfl | rfl | rfl
      · simp; omega
      · rw [g0 0 (by decide)]; omega
      · simp; omega
      · rw [g0 2 (by decide)]; omega
    by_cases q1 : d % 16 = 8
    · exact .one 0 (pfL_one (by omega) (by omega) (by omega) fun b h1 h2 => by rw [kp b h1 h2]; omega) (by rw [mk, if_neg (by omega)]) (.inl rfl)
    · by_cases q2 : d % 16 = 12
      · exact .one 2 (pfL_one (by omega) (by omega) (by omega) fun b h1 h2 => by rw [kp b h1 h2]; omega) (by rw [mk, if_neg (by omega)]) (.inr rfl)
      · exact .no (pfL_none (by omega) fun b h1 h2 => by rw [kp b h1 h2]; omega) (by rw [mk, if_pos (by omega)])
  · -- odd
    have cF : F % 2 = 1 := by
      generalize d / (F * F) = e at *
      by_cases z : F % 2 = 1
      · exact z
      · have f4 : F * F % 4 = 0 := by omega
        have m : d % 4 = (F * F % 4) * (e % 4) % 4 := by rw [← ed, Int.mul_emod]
        rw [f4] at m
        omega
    have s0 : symI d 2 = if d % 8 = 1 then 1 else -1 := by unfold symI; rw [if_neg (by omega), if_pos rfl]
    have kp : ∀ b : Int, 1 - 2 ≤ b → b ≤ 2 → (keepF d 2 b ↔ (b = 1 ∨ b = -1) ∧ d % 8 = 1) := fun b h1 h2 => by
      unfold keepF
      rcases vals b h1 h2 with rfl | rfl | rfl | rfl
      · rw [and_iff_left (g2 (-1) (by decide) _)]; omega
      · rw [g0 0 (by decide)]; omega
      · rw [and_iff_left (g2 1 (by decide) _)]; omega
      · rw [g0 2 (by decide)]; omega
    by_cases q1 : d % 8 = 1
    · refine .two 1 (pfL_two (by omega) (by omega) (by omega) fun b h1 h2 => by rw [kp b h1 h2]; omega) ?_ (by omega) (by omega)
      unfold manyI
      rw [s0, if_pos q1, if_neg (by omega), if_neg (by omega)]
    · refine .no (pfL_none (by omega) fun b h1 h2 => by rw [kp b h1 h2]; omega) ?_
      unfold manyI
      rw [s0, if_neg q1, if_pos (.inr rfl)]
end Pv
end

section
/-! PvCW: conductors in a list, weighted numbers; plain. -/
set_option autoImplicit false
namespace Pv
open PySem
def condL (d : Int) : List Int := (List.range 81).filterMap fun k : Nat => if goodC d (k + 1) then some ((k : Int) + 1) else none
theorem mem_cond {d f : Int} : f ∈ condL d ↔ 1 ≤ f ∧ f ≤ 81 ∧ goodC d f := by
  unfold condL
  rw [List.mem_filterMap]
  constructor
  · rintro ⟨k, hk, e⟩
    have := List.mem_range.mp hk
    split at e
    · rename_i q
      cases e
      exact ⟨by omega, by omega, q⟩
    · cases e
  · rintro ⟨h1, h2, h3⟩
    refine ⟨(f - 1).toNat, List.mem_range.mpr (by omega), ?_⟩
    have e : ((f - 1).toNat : Int) + 1 = f := by omega
    rw [e, if_pos h3]
theorem cond_sorted {d : Int} : (condL d).Pairwise (· < ·) := by
  unfold condL
  refine List.Pairwise.filterMap _ (R := fun i j : Nat => i < j) ?_ List.pairwise_lt_range
  intro i j hij f hf g hg
  split at hf
  · split at hg
    · cases hf; cases hg
      show (i : Int) + 1 < j + 1
      omega
    · cases hg
  · cases hf
theorem snoc_ex {α : Type} : ∀ {xs : List α}, xs ≠ [] → ∃ ys y, xs = ys ++ [y]
  | [], h => absurd rfl h
  | [x], _ => ⟨[], x, rfl⟩
  | x :: y :: xs, _ => by
    obtain ⟨ys, z, e⟩ := snoc_ex (xs := y :: xs) (List.cons_ne_nil _ _)
    exact ⟨x :: ys, z, by rw [e]; rfl⟩
theorem cond_last {d : Int} (h1 : -20000 ≤ d) (h2 : d ≤ -3) (hd : d % 4 = 0 ∨ d % 4 = 1) : ∃ ys F, condL d = ys ++ [F] ∧ MaxC d F := by
  have one : (1 : Int) ∈ condL d := mem_cond.mpr ⟨by omega, by omega, by unfold goodC; constructor <;> simp <;> omega⟩
  obtain ⟨ys, F, e⟩ := snoc_ex (List.ne_nil_of_mem one)
  refine ⟨ys, F, e, ?_⟩
  have hF : F ∈ condL d := by rw [e]; simp
  obtain ⟨f1, f2, f3⟩ := mem_cond.mp hF
  refine ⟨f1, f3, fun f hf hg => ?_⟩
  have hm : f ∈ condL d := mem_cond.mpr ⟨by omega, hg.le (by omega) (by omega) h1, hg⟩
  have s := cond_sorted (d := d)
  rw [e] at hm s
  rcases List.mem_append.mp hm with hm | hm
  · have := (List.pairwise_append.mp s).2.2 f hm F (by simp)
    omega
  · rw [List.mem_singleton] at hm
    omega
def wI (d : Int) : Int := if d = -3 then 2 else if d = -4 then 3 else 6
def termI (d f : Int) : Int := if goodC d f then wI (d / (f * f)) * ((PL (d / (f * f))).length : Int) else 0
def wsumN (d : Int) (n : Nat) : Int := ((List.range n).map fun k : Nat => termI d (k + 1)).sum
def wsum (d : Int) : Int := wsumN d 81
theorem wsumN_succ (d : Int) (n : Nat) : wsumN d (n + 1) = wsumN d n + termI d (n + 1) := by
  unfold wsumN
  rw [List.range_succ, List.map_append, List.sum_append]
  simp
theorem wsumN_stop {d : Int} (hd : d < 0) {n : Nat} (h : -d < 3 * (((n : Int) + 1) * (n + 1))) : ∀ m : Nat, wsumN d (n + m) = wsumN d n
  | 0 => rfl
  | m + 1 => by
    rw [show n + (m + 1) = n + m + 1 from rfl, wsumN_succ, wsumN_stop hd h m]
    have : termI d ((n + m : Nat) + 1) = 0 := by
      unfold termI
      rw [if_neg]
      intro g
      have b := g.bound (by omega) hd
      have := mulL (show (n : Int) + 1 ≤ ((n + m : Nat) : Int) + 1 by omega) (show 0 ≤ (n : Int) + 1 by omega)
      have := mulL (show (n : Int) + 1 ≤ ((n + m : Nat) : Int) + 1 by omega) (show 0 ≤ ((n + m : Nat) : Int) + 1 by omega)
      rw [Int.mul_comm (((n + m : Nat) : Int) + 1) ((n : Int) + 1)] at this
      omega
    rw [this, Int.add_zero]
theorem sum_filterMap {α : Type} (p : α → Prop) [DecidablePred p] (f : α → Int) (h : Int → Int) : ∀ xs : List α, ((xs.filterMap fun k => if p k then some (f k) else none).map h).sum = (xs.map fun k => if p k then h (f k) else 0).sum
  | [] => rfl
  | x :: xs => by
    rw [List.filterMap_cons, List.map_cons, List.sum_cons, ← sum_filterMap p f h xs]
    by_cases q : p x
    · simp [q]
    · simp [q]
theorem wsum_cond (d : Int) : ((condL d).map fun f => wI (d / (f * f)) * ((PL (d / (f * f))).length : Int)).sum = wsum d := by
  unfold condL wsum wsumN termI
  exact sum_filterMap (fun k : Nat => goodC d (k + 1)) (fun k : Nat => (k : Int) + 1) (fun f => wI (d / (f * f)) * ((PL (d / (f * f))).length : Int)) (List.range 81)
/-- the quotients are discriminants -/
theorem goodC.inner {d f : Int} (h : goodC d f) (f1 : 1 ≤ f) (h1 : -20000 ≤ d) (hd : d < 0) : -20000 ≤ d / (f * f) ∧ d / (f * f) ≤ -3 ∧ (d / (f * f) % 4 = 0 ∨ d / (f * f) % 4 = 1) := by
  obtain ⟨g1, g2⟩ := h
  have e := Int.emod_add_mul_ediv d (f * f)
  have p := prod1 f1 f1
  generalize d / (f * f) = q at *
  have q0 : q ≤ -1 := by
    by_cases z : q ≤ -1
    · exact z
    · have := Int.mul_nonneg (show 0 ≤ f * f by omega) (show 0 ≤ q by omega)
      omega
  have := mulL p (show 0 ≤ -q by omega)
  have t : -q * (f * f) = -(f * f * q) := by grind
  omega
end Pv
end

section
/-! PvSh: what is shown: forms, lists of them; equal things. -/
set_option autoImplicit false
namespace Pv
open PySem
def smI (i : Int) : Prop := i.natAbs < 2 ^ 64
theorem p64 : (2 : Nat) ^ 64 ≤ 10 ^ 250 := by decide +kernel
theorem smI.fine {i : Int} (h : smI i) : fine (.int i) = true ∧ (PyData.int i).weight ≤ 64 := by
  refine ⟨decide_eq_true (Nat.lt_of_lt_of_le h p64), ?_⟩
  unfold PyData.weight
  split
  · omega
  · rename_i z
    have : i.natAbs ≠ 0 := by
      intro q
      apply z
      have : i = 0 := by omega
      rw [this]; rfl
    have := (Nat.log2_lt this).mpr h
    omega
structure SmF (f : Fm) : Prop where
  a : smI f.1
  b : smI f.2.1
  c : smI f.2.2
theorem SmF.fine {f : Fm} (h : SmF f) : fine (fD f) = true ∧ (fD f).depth ≤ 1 ∧ (fD f).weight ≤ 195 := by
  obtain ⟨a1, a2⟩ := h.a.fine
  obtain ⟨b1, b2⟩ := h.b.fine
  obtain ⟨c1, c2⟩ := h.c.fine
  refine ⟨?_, ?_, ?_⟩
  · unfold fD
    simp only [Pv.fine, fineAll, Bool.and_true, Bool.and_eq_true] at *
    exact ⟨a1, b1, c1⟩
  · unfold fD
    simp [PyData.depth, PyData.depthAll]
  · unfold fD
    simp only [PyData.weight, PyData.weightAll] at *
    omega
theorem fine_forms : ∀ {fs : List Fm}, (∀ f ∈ fs, SmF f) → fineAll (fs.map fD) = true ∧ PyData.depthAll (fs.map fD) ≤ 1 ∧ PyData.weightAll (fs.map fD) ≤ 196 * fs.length
  | [], _ => ⟨rfl, by simp [PyData.depthAll], by simp [PyData.weightAll]⟩
  | f :: fs, h => by
    obtain ⟨h1, h2, h3⟩ := (h f List.mem_cons_self).fine
    obtain ⟨i1, i2, i3⟩ := fine_forms (fs := fs) fun x hx => h x (List.mem_cons_of_mem _ hx)
    rw [List.map_cons]
    refine ⟨?_, ?_, ?_⟩
    · unfold fineAll
      rw [h1, i1]; rfl
    · unfold PyData.depthAll
      omega
    · unfold PyData.weightAll
      rw [List.length_cons]
      omega
/-- a list of two equal small things -/
theorem show_two {x : D} (h1 : fine x = true) (h2 : x.depth ≤ 60) (h3 : x.weight ≤ 9000) : showOk (.list [x, x]) = true := by
  refine show_fine ?_ ?_ ?_
  · simp [fine, fineAll, h1]
  · simp only [PyData.depth, PyData.depthAll]
    omega
  · simp only [PyData.weight, PyData.weightAll]
    omega
theorem show_forms {fs : List Fm} (h : ∀ f ∈ fs, SmF f) (hl : fs.length ≤ 40) : showOk (.list [.tuple (fs.map fD), .tuple (fs.map fD)]) = true := by
  obtain ⟨h1, h2, h3⟩ := fine_forms h
  refine show_two h1 ?_ ?_
  · simp only [PyData.depth]; omega
  · simp only [PyData.weight]; omega
theorem show_ints {i : Int} (h : smI i) : showOk (.list [.int i, .int i]) = true := by
  obtain ⟨h1, h2⟩ := h.fine
  exact show_two h1 (by simp [PyData.depth]) (by omega)
theorem show_pair {i j : Int} (h : smI i) (h' : smI j) : showOk (.list [.tuple [.int i, .int j], .tuple [.int i, .int j]]) = true := by
  obtain ⟨h1, h2⟩ := h.fine
  obtain ⟨h3, h4⟩ := h'.fine
  refine show_two ?_ ?_ ?_
  · simp only [fine, fineAll] at *
    simp [h1, h3]
  · simp [PyData.depth, PyData.depthAll]
  · simp only [PyData.weight, PyData.weightAll] at *
    omega
theorem eq_self {x : D} (h : shp x = true) (h2 : isInt x = false) : cmpV .eq x x = some true := by
  have hc : x.canLay0 = true := by
    unfold shp SeqAt.shaped at h
    simp only [Bool.and_eq_true] at h
    exact h.1
  have e : PyData.eqv x x = true := SeqAt.eqv_refl x hc
  cases x with
  | none => rfl
  | bool b => show some (b == b) = _; simp
  | int i => simp [isInt] at h2
  | str y => show some (decide (y = y)) = _; simp
  | list xs => show (if shp (.list xs) && shp (.list xs) then some (PyData.eqv (.list xs) (.list xs)) else lensV (.list xs) (.list xs)) = _; rw [h, e]; rfl
  | tuple xs => show (if shp (.tuple xs) && shp (.tuple xs) then some (PyData.eqv (.tuple xs) (.tuple xs)) else lensV (.tuple xs) (.tuple xs)) = _; rw [h, e]; rfl
  | dict kvs => show (if shp (.dict kvs) && shp (.dict kvs) then some (PyData.eqv (.dict kvs) (.dict kvs)) else lensV (.dict kvs) (.dict kvs)) = _; rw [h, e]; rfl
theorem shp_form (f : Fm) : shp (fD f) = true := by
  unfold shp SeqAt.shaped fD
  simp [PyData.canLay0, PyData.canLayAll0, PyData.depth, PyData.depthAll]
theorem eq_form (f : Fm) : cmpV .eq (fD f) (fD f) = some true := eq_self (shp_form f) rfl
/-- repr(x) != repr(x) -/
theorem repr_self {x : D} (h : showOk x = true) : biV .repr [x] = some (.str x.shown) := bi_repr h
@[simp] theorem ne_str (x : Str) : cmpV .ne (.str x) (.str x) = some false := ne_same x
@[simp] theorem eq_str (x : Str) : cmpV .eq (.str x) (.str x) = some true := eq_same x
theorem sm_of {i : Int} (h1 : -18446744073709551616 < i) (h2 : i < 18446744073709551616) : smI i := by
  unfold smI
  have : (2 : Nat) ^ 64 = 18446744073709551616 := by decide
  omega
end Pv
end

section
/-! PvMo: led forms: sizes, divisors, values; what is shown of them. -/
set_option autoImplicit false
namespace Pv
open PySem
theorem Sz.add' {k l n : Nat} {i j : Int} (h : Sz k i) (h2 : Sz l j) (hk : k < n) (hl : l < n) : Sz n (i + j) := (h.add h2).mono (by omega)
theorem sz_led {f : Fm} {m : Mx} {k l : Nat} (hf : SzK k f) (hm : SzM l m) : SzK (k + l + l + 6) (ledF f m) := by
  obtain ⟨a, b, c⟩ := f
  obtain ⟨g, h, i, j⟩ := m
  obtain ⟨sa, sb, sc⟩ := hf
  obtain ⟨sg, sh, si, sj⟩ := hm
  simp only at sa sb sc sg sh si sj
  have s2 : Sz 2 2 := by unfold Sz; decide
  refine ⟨?_, ?_, ?_⟩
  · exact Sz.add' (Sz.add' ((sa.mul sg).mul sg) ((sb.mul sg).mul si) (n := k + l + l + 1) (by omega) (by omega)) ((sc.mul si).mul si) (by omega) (by omega)
  · have ss : Sz (l + l + 1) (g * j + h * i) := Sz.add' (sg.mul sj) (sh.mul si) (by omega) (by omega)
    exact Sz.add' (Sz.add' (((s2.mul sa).mul sg).mul sh) (sb.mul ss) (n := k + l + l + 4) (by omega) (by omega)) (((s2.mul sc).mul si).mul sj) (by omega) (by omega)
  · exact Sz.add' (Sz.add' ((sa.mul sh).mul sh) ((sb.mul sh).mul sj) (n := k + l + l + 1) (by omega) (by omega)) ((sc.mul sj).mul sj) (by omega) (by omega)
theorem sz_mulM {m n : Mx} {k l : Nat} (hm : SzM k m) (hn : SzM l n) : SzM (k + l + 1) (mulM m n) := by
  obtain ⟨a, b, c, d⟩ := m
  obtain ⟨g, h, i, j⟩ := n
  obtain ⟨sa, sb, sc, sd⟩ := hm
  obtain ⟨sg, sh, si, sj⟩ := hn
  simp only at sa sb sc sd sg sh si sj
  exact ⟨Sz.add' (sa.mul sg) (sb.mul si) (by omega) (by omega), Sz.add' (sa.mul sh) (sb.mul sj) (by omega) (by omega), Sz.add' (sc.mul sg) (sd.mul si) (by omega) (by omega), Sz.add' (sc.mul sh) (sd.mul sj) (by omega) (by omega)⟩
theorem SzM.inv {k : Nat} {m : Mx} (h : SzM k m) : SzM k (invM m) := ⟨h.j, h.h.neg, h.i.neg, h.g⟩
theorem sz_val {f : Fm} {x y : Int} {k l : Nat} (hf : SzK k f) (hx : Sz l x) (hy : Sz l y) : Sz (k + l + l + 3) (val f x y) := by
  obtain ⟨a, b, c⟩ := f
  obtain ⟨sa, sb, sc⟩ := hf
  simp only at sa sb sc
  exact Sz.add' (Sz.add' ((sa.mul hx).mul hx) ((sb.mul hx).mul hy) (n := k + l + l + 1) (by omega) (by omega)) ((sc.mul hy).mul hy) (by omega) (by omega)
theorem val_pos {f : Fm} (h : GoodF f) {x y : Int} (hn : ¬ (x = 0 ∧ y = 0)) : 0 < val f x y := by
  obtain ⟨a, b, c⟩ := f
  have a0 := h.a0; have d2 := h.d2
  unfold disc at d2
  unfold val
  simp only at a0 d2 ⊢
  generalize hv : a * x * x + b * x * y + c * y * y = v
  have e : 4 * a * v = (2 * a * x + b * y) * (2 * a * x + b * y) + (4 * a * c - b * b) * (y * y) := by rw [← hv]; grind
  have t0 := sq_nn (2 * a * x + b * y)
  have pos : 0 < 4 * a * v := by
    by_cases hy : y = 0
    · have hx : x ≠ 0 := fun z => hn ⟨z, hy⟩
      subst hy
      have ax : 2 * a * x ≠ 0 := fun z => by
        rcases Int.mul_eq_zero.mp z with q | q
        · omega
        · exact hx q
      have := sq_pos ax
      simp only [Int.mul_zero, Int.add_zero] at e
      omega
    · have := sq_pos hy
      have t1 : 3 * 1 ≤ (4 * a * c - b * b) * (y * y) := by
        have q1 := mulL this (show 0 ≤ 4 * a * c - b * b by omega)
        omega
      omega
  by_cases q : 0 < v
  · exact q
  · have := Int.mul_nonneg (show 0 ≤ 4 * a by omega) (show 0 ≤ -v by omega)
    rw [Int.mul_neg] at this
    omega
theorem det_ne {m : Mx} (d : det m = 1) : ¬ (m.1 = 0 ∧ m.2.2.1 = 0) := by
  rintro ⟨h1, h2⟩
  unfold det at d
  rw [h1, h2] at d
  simp at d
theorem led_good {f : Fm} {m : Mx} (h : GoodF f) (d : det m = 1) : GoodF (ledF f m) := h.led d (val_pos h (det_ne d))
theorem led_prim {f : Fm} {m : Mx} (h : prim f) (d : det m = 1) : prim (ledF f m) := by
  have back : f = ledF (ledF f m) (invM m) := by rw [led_mul, mul_inv d, led_one]
  unfold prim at *
  generalize hG : ledF f m = G at *
  obtain ⟨a, b, c⟩ := G
  obtain ⟨g, h', i, j⟩ := m
  have k1 : (Int.gcd (Int.gcd a b) c : Int) ∣ a := Int.dvd_trans (Int.gcd_dvd_left _ _) (Int.gcd_dvd_left _ _)
  have k2 : (Int.gcd (Int.gcd a b) c : Int) ∣ b := Int.dvd_trans (Int.gcd_dvd_left _ _) (Int.gcd_dvd_right _ _)
  have k3 : (Int.gcd (Int.gcd a b) c : Int) ∣ c := Int.gcd_dvd_right _ _
  simp only
  generalize Int.gcd (Int.gcd a b) c = k at *
  obtain ⟨x, rfl⟩ := k1
  obtain ⟨y, rfl⟩ := k2
  obtain ⟨z, rfl⟩ := k3
  have f1 : (k : Int) ∣ f.1 := by
    rw [back]
    exact ⟨x * j * j + y * j * (-i) + z * (-i) * (-i), by simp only [ledF, invM]; grind⟩
  have f2 : (k : Int) ∣ f.2.1 := by
    rw [back]
    exact ⟨2 * x * j * (-h') + y * (j * g + (-h') * (-i)) + 2 * z * (-i) * g, by simp only [ledF, invM]; grind⟩
  have f3 : (k : Int) ∣ f.2.2 := by
    rw [back]
    exact ⟨x * (-h') * (-h') + y * (-h') * g + z * g * g, by simp only [ledF, invM]; grind⟩
  have := Int.dvd_gcd (Int.dvd_coe_gcd f1 f2) f3
  rw [h] at this
  exact Nat.dvd_one.mp this
/-! ### what is shown: ints of many digits -/
def mdI (i : Int) : Prop := i.natAbs < 2 ^ 800
theorem p800 : (2 : Nat) ^ 800 ≤ 10 ^ 250 := by decide +kernel
theorem Sz.md {k : Nat} {i : Int} (h : Sz k i) (hk : k ≤ 800) : mdI i := h.mono hk
theorem mdI.fine {i : Int} (h : mdI i) : fine (.int i) = true ∧ (PyData.int i).weight ≤ 800 := by
  refine ⟨decide_eq_true (Nat.lt_of_lt_of_le h p800), ?_⟩
  unfold PyData.weight
  split
  · omega
  · rename_i z
    have : i.natAbs ≠ 0 := by
      intro q
      apply z
      have : i = 0 := by omega
      rw [this]; rfl
    have := (Nat.log2_lt this).mpr h
    omega
/-- a few ints -/
theorem md_all : ∀ {is : List Int}, (∀ i ∈ is, mdI i) → fineAll (is.map .int) = true ∧ PyData.depthAll (is.map .int) = 0 ∧ PyData.weightAll (is.map .int) ≤ 801 * is.length
  | [], _ => ⟨rfl, by simp [PyData.depthAll], by simp [PyData.weightAll]⟩
  | i :: is, h => by
    obtain ⟨h1, h2⟩ := (h i List.mem_cons_self).fine
    obtain ⟨i1, i2, i3⟩ := md_all (is := is) fun x hx => h x (List.mem_cons_of_mem _ hx)
    rw [List.map_cons]
    refine ⟨?_, ?_, ?_⟩
    · unfold fineAll
      rw [h1, i1]; rfl
    · unfold PyData.depthAll
      rw [i2]; rfl
    · unfold PyData.weightAll
      rw [List.length_cons]
      omega
theorem show_md2 {is : List Int} (h : ∀ i ∈ is, mdI i) (hl : is.length ≤ 10) : showOk (.list [.tuple (is.map .int), .tuple (is.map .int)]) = true := by
  obtain ⟨h1, h2, h3⟩ := md_all h
  refine show_two h1 ?_ ?_
  · simp only [PyData.depth]; omega
  · simp only [PyData.weight]; omega
theorem show_mds {is : List Int} (h : ∀ i ∈ is, mdI i) (hl : is.length ≤ 10) : showOk (.list (is.map .int)) = true := by
  obtain ⟨h1, h2, h3⟩ := md_all h
  refine show_fine h1 ?_ ?_
  · simp only [PyData.depth]; omega
  · simp only [PyData.weight]; omega
theorem show_fm {f : Fm} {k : Nat} (h : SzK k f) (hk : k ≤ 800) : showOk (.list [fD f, fD f]) = true := by
  have := show_md2 (is := fL f) (by
    intro i hi
    unfold fL at hi
    simp only [List.mem_cons, List.not_mem_nil, or_false] at hi
    rcases hi with rfl | rfl | rfl
    · exact h.a.md hk
    · exact h.b.md hk
    · exact h.c.md hk) (by simp [fL])
  exact this
theorem show_mx {m : Mx} {k : Nat} (h : SzM k m) (hk : k ≤ 800) : showOk (.list [mD m, mD m]) = true := by
  have := show_md2 (is := [m.1, m.2.1, m.2.2.1, m.2.2.2]) (by
    intro i hi
    simp only [List.mem_cons, List.not_mem_nil, or_false] at hi
    rcases hi with rfl | rfl | rfl | rfl
    · exact h.g.md hk
    · exact h.h.md hk
    · exact h.i.md hk
    · exact h.j.md hk) (by simp)
  exact this
theorem shp_md (m : Mx) : shp (mD m) = true := by
  unfold shp SeqAt.shaped mD
  simp [PyData.canLay0, PyData.canLayAll0, PyData.depth, PyData.depthAll]
theorem ne_mx (m : Mx) : cmpV .ne (mD m) (mD m) = some false := by
  have e := eq_self (shp_md m) rfl
  show (eqD (mD m) (mD m)).map (!·) = _
  rw [show eqD (mD m) (mD m) = some true from e]; rfl
theorem eq_mx (m : Mx) : cmpV .eq (mD m) (mD m) = some true := eq_self (shp_md m) rfl
theorem ne_fm (f : Fm) : cmpV .ne (fD f) (fD f) = some false := by
  have e := eq_form f
  show (eqD (fD f) (fD f)).map (!·) = _
  rw [show eqD (fD f) (fD f) = some true from e]; rfl
/-- small reduced forms -/
theorem sz_of {n : Nat} {x : Int} {k : Nat} (h : x.natAbs ≤ n) (hn : n < 2 ^ k) : Sz k x := Nat.lt_of_le_of_lt h hn
theorem Rf.good {d : Int} {f : Fm} (h : Rf d f) (h1 : -20000 ≤ d) (h2 : d ≤ -3) : GoodF f := ⟨h.red.a0, by rw [h.disc]; exact h1, by rw [h.disc]; exact h2⟩
theorem Rf.sz {d : Int} {f : Fm} (h : Rf d f) (h1 : -20000 ≤ d) (h2 : d ≤ -3) : SzK 20 f := by
  have a := h.a_le h1
  have g := h.good h1 h2
  have r1 := h.red.a0; have r2 := h.red.lo; have r3 := h.red.hi
  have c := g.c_le (by omega) r3
  have c0 := g.c0
  exact ⟨sz_of (n := 81) (by omega) (by decide), sz_of (n := 81) (by omega) (by decide), sz_of (n := 20081) (by omega) (by decide)⟩
theorem PL_ne {d : Int} (h1 : -20000 ≤ d) (h2 : d ≤ -3) (hd : d % 4 = 0 ∨ d % 4 = 1) : PL d ≠ [] := by
  have : (1, d % 2, (d % 2 * (d % 2) - d) / 4) ∈ PL d := by
    rw [mem_PL h1]
    have e : d % 2 = 0 ∨ d % 2 = 1 := by omega
    rcases e with e | e
    · rw [e]
      refine ⟨⟨by simp only; omega, by simp only; omega, by simp only; omega, by simp only; omega, by simp⟩, ?_, ?_⟩
      · unfold Pv.disc; simp only; omega
      · unfold Pv.prim; simp
    · rw [e]
      refine ⟨⟨by simp only; omega, by simp only; omega, by simp only; omega, by simp only; omega, by simp⟩, ?_, ?_⟩
      · unfold Pv.disc; simp only; omega
      · unfold Pv.prim; simp
  exact List.ne_nil_of_mem this
theorem PL_len (d : Int) : (PL d).length ≤ 20000 := by
  have : ∀ n : Nat, n ≤ 81 → (rowsP d n).length ≤ n * 200 := by
    intro n
    induction n with
    | zero => intro _; exact Nat.le_refl _
    | succ n ih =>
      intro h
      rw [rows_succ, List.length_append]
      have h1 := ih (by omega)
      have h2 : (rowP d (n + 1)).length ≤ (2 * ((n : Int) + 1)).toNat := by
        unfold rowP
        refine Nat.le_trans (List.length_filterMap_le _ _) ?_
        rw [List.length_range]; omega
      omega
  have := this 81 (by omega)
  unfold PL
  omega
end Pv
end

section
/-! PvRd: another reduction, turn by turn: how many turns; the sizes of what leads to a reduced form. -/
set_option autoImplicit false
namespace Pv
open PySem
def mu2 (d a : Int) : Nat := if a * a ≤ -d then a.toNat else 142 + a.natAbs.log2
theorem mu2_lt {d a c : Int} (h1 : -20000 ≤ d) (a0 : 0 < a) (c0 : 0 < c) (h : c < a) (hq : -d < a * a → 2 * c ≤ a) : mu2 d c < mu2 d a := by
  have cc : c * c ≤ a * a := Int.mul_le_mul (by omega) (by omega) (by omega) (by omega)
  unfold mu2
  by_cases w : a * a ≤ -d
  · rw [if_pos w, if_pos (by omega)]; omega
  · rw [if_neg w]
    have q := hq (by omega)
    have la : 1 ≤ a.natAbs.log2 := (Nat.le_log2 (by omega)).mpr (by omega)
    by_cases w2 : c * c ≤ -d
    · rw [if_pos w2]
      have : c < 142 := sq_lt (by omega) (by omega)
      omega
    · rw [if_neg w2]
      have l1 : 2 ^ c.natAbs.log2 ≤ c.natAbs := Nat.log2_self_le (by omega)
      have : c.natAbs.log2 + 1 ≤ a.natAbs.log2 := (Nat.le_log2 (by omega)).mpr (by rw [Nat.pow_succ]; omega)
      omega
theorem mu2_pos {d a : Int} (a0 : 0 < a) : 1 ≤ mu2 d a := by
  unfold mu2
  split <;> omega
theorem mu2_le {d a : Int} {k : Nat} (h1 : -20000 ≤ d) (a0 : 0 < a) (s : Sz k a) : mu2 d a ≤ 142 + k := by
  have := s.log
  unfold mu2
  split
  · rename_i w
    have : a < 142 := sq_lt (by omega) (by omega)
    omega
  · omega
def shM (f : Fm) : Mx := (1, shiftF f, 0, 1)
def shF (f : Fm) : Fm := ledF f (shM f)
def swM : Mx := (0, -1, 1, 0)
def stopF (f : Fm) : Prop := f.1 < f.2.2 ∨ (f.1 = f.2.2 ∧ 0 ≤ f.2.1)
instance (f : Fm) : Decidable (stopF f) := by unfold stopF; infer_instance
def T2 (f : Fm) : Nat := if stopF (shF f) then 0 else if (shF f).2.2 < f.1 then 1 + mu2 (disc f) f.1 else 1
theorem sh_eq (f : Fm) : shF f = (f.1, f.2.1 + 2 * f.1 * shiftF f, f.1 * shiftF f * shiftF f + f.2.1 * shiftF f + f.2.2) := by
  obtain ⟨a, b, c⟩ := f
  simp only [shF, shM, ledF, Prod.mk.injEq]
  refine ⟨?_, ?_, ?_⟩ <;> grind
theorem sh_lo {f : Fm} (a0 : 0 < f.1) : -f.1 < (shF f).2.1 ∧ (shF f).2.1 ≤ f.1 := by
  rw [sh_eq]
  unfold shiftF
  have q := Int.emod_add_mul_ediv (f.1 - f.2.1) (2 * f.1)
  have r0 := Int.emod_nonneg (f.1 - f.2.1) (show 2 * f.1 ≠ 0 by omega)
  have r1 := Int.emod_lt_of_pos (f.1 - f.2.1) (show 0 < 2 * f.1 by omega)
  simp only
  omega
theorem sh_red {f : Fm} (a0 : 0 < f.1) (h : stopF (shF f)) : Red (shF f) := by
  have h1 := sh_lo a0
  have e : (shF f).1 = f.1 := by rw [sh_eq]
  unfold stopF at h
  exact ⟨by omega, by omega, by omega, by omega, fun q => by omega⟩
theorem sw_eq (f : Fm) : ledF f swM = (f.2.2, -f.2.1, f.1) := by
  obtain ⟨a, b, c⟩ := f
  simp only [ledF, swM, Prod.mk.injEq]
  refine ⟨?_, ?_, ?_⟩ <;> grind
theorem sh_step {f : Fm} (a0 : 0 < f.1) (h : ¬ stopF (shF f)) : stepM (shF f) = some swM := by
  have h1 := sh_lo a0
  have e : (shF f).1 = f.1 := by rw [sh_eq]
  have z := (shift_zero (f := shF f) (by omega)).mpr (by omega)
  unfold stepM
  rw [if_neg (by simpa using z), if_pos]
  · rfl
  · unfold stopF at h
    omega
theorem t2_next {f : Fm} (g : GoodF f) (h : ¬ stopF (shF f)) : T2 (ledF (shF f) swM) < T2 f := by
  have a0 := g.a0; have d1 := g.d1
  have h1 := sh_lo a0
  have dd : disc (shF f) = disc f := by unfold shF; rw [disc_led]; simp [det, shM]
  have dn : disc (ledF (shF f) swM) = disc f := by rw [disc_led, dd]; simp [det, swM]
  have gs : GoodF (shF f) := ⟨by rw [sh_eq]; exact a0, by rw [dd]; exact g.d1, by rw [dd]; exact g.d2⟩
  have c0 := gs.c0
  have e : (shF f).1 = f.1 := by rw [sh_eq]
  have en := sw_eq (shF f)
  have hstop := h
  unfold stopF at h
  have tf : T2 f = if (shF f).2.2 < f.1 then 1 + mu2 (disc f) f.1 else 1 := by unfold T2; rw [if_neg hstop]
  rw [tf]
  have n1 : (ledF (shF f) swM).1 = (shF f).2.2 := by rw [en]
  by_cases hc : (shF f).2.2 < f.1
  · rw [if_pos hc]
    have hm : mu2 (disc f) (shF f).2.2 < mu2 (disc f) f.1 := by
      refine mu2_lt d1 a0 c0 hc fun q => ?_
      rw [← dd] at q
      unfold disc at q
      rw [e] at q
      generalize (shF f).2.1 = b at *
      generalize (shF f).2.2 = c at *
      generalize f.1 = a at *
      have s1 : 0 ≤ (a - b) * (a + b) := Int.mul_nonneg (by omega) (by omega)
      have s2 : (a - b) * (a + b) = a * a - b * b := by grind
      have s3 : 4 * a * c = 2 * (a * (2 * c)) := by grind
      by_cases w : 2 * c ≤ a
      · exact w
      · have := mulL (show a ≤ 2 * c by omega) (show 0 ≤ a by omega)
        omega
    have p := mu2_pos (d := disc f) a0
    unfold T2
    rw [dn, n1]
    split
    · omega
    · split <;> omega
  · rw [if_neg hc]
    have he : f.1 = (shF f).2.2 ∧ (shF f).2.1 < 0 := by omega
    have z : shiftF (ledF (shF f) swM) = 0 := by
      refine (shift_zero ?_).mpr ?_
      · rw [en]; exact c0
      · rw [en]; simp only; omega
    have s2 : shF (ledF (shF f) swM) = ledF (shF f) swM := by
      generalize ledF (shF f) swM = n at z
      unfold shF
      rw [show shM n = oneM by unfold shM; rw [z]; rfl, led_one]
    unfold T2
    rw [s2, if_pos]
    · omega
    · unfold stopF
      rw [en]
      simp only
      omega
theorem t2_le {f : Fm} {k : Nat} (g : GoodF f) (s : Sz k f.1) : T2 f ≤ 143 + k := by
  have := mu2_le g.d1 g.a0 s
  unfold T2
  split
  · omega
  · split <;> omega
/-- the way with a turn's first step, that may change nothing -/
theorem Way.shift {f0 f : Fm} {m : Mx} (h : Way f0 f m) (s0 : SzK k0 f0) : Way f0 (shF f) (mulM m (shM f)) ∧ SzM kb (shM f) := by
  by_cases z : shiftF f = 0
  · have e : shM f = oneM := by unfold shM; rw [z]; rfl
    have sM : SzM kb oneM := by
      have : SzM 1 oneM := ⟨by unfold Sz oneM; decide, by unfold Sz oneM; decide, by unfold Sz oneM; decide, by unfold Sz oneM; decide⟩
      exact this.mono (by unfold kb; omega)
    unfold shF
    rw [e, led_one, mul_one']
    exact ⟨h, sM⟩
  · have e : stepM f = some (shM f) := by unfold stepM; rw [if_pos z]; rfl
    obtain ⟨w, _, sn⟩ := h.next s0 e
    exact ⟨w, sn⟩
theorem Way.swap {f0 f : Fm} {m : Mx} (h : Way f0 f m) (s0 : SzK k0 f0) (hs : ¬ stopF (shF f)) : Way f0 (ledF (shF f) swM) (mulM (mulM m (shM f)) swM) := by
  obtain ⟨w, _⟩ := h.shift s0
  exact (w.next s0 (sh_step h.good.a0 hs)).1
/-- what leads to a small form is small -/
theorem sz_mat {f f' : Fm} {m : Mx} {k l : Nat} (g : GoodF f) (d : det m = 1) (e : f' = ledF f m) (s : SzK k f) (s' : SzK l f') : SzM (k + l + k + 6) m := by
  have g' : GoodF f' := by rw [e]; exact led_good g d
  have v1 : val f m.1 m.2.2.1 = f'.1 := by rw [e]; rfl
  have v2 : val f m.2.1 m.2.2.2 = f'.2.2 := by rw [e]; rfl
  have a0 := g'.a0
  have c0 := g'.c0
  obtain ⟨p1, p2⟩ := val_bound g s (x := m.1) (y := m.2.2.1) (by rw [v1]; exact s'.a) (by omega)
  obtain ⟨p3, p4⟩ := val_bound g s (x := m.2.1) (y := m.2.2.2) (by rw [v2]; exact s'.c) (by omega)
  exact ⟨p1, p3, p2, p4⟩
instance (f : Fm) : Decidable (Red f) := decidable_of_iff (0 < f.1 ∧ -f.1 < f.2.1 ∧ f.2.1 ≤ f.1 ∧ f.1 ≤ f.2.2 ∧ (f.1 = f.2.2 → 0 ≤ f.2.1)) ⟨fun ⟨a, b, c, d, e⟩ => ⟨a, b, c, d, e⟩, fun ⟨a, b, c, d, e⟩ => ⟨a, b, c, d, e⟩⟩
/-! ### what may be held right: values of many kinds -/
def mxV : D → Option Mx
  | .tuple [.int g, .int h, .int i, .int j] => if g * j - h * i = 1 then some (g, h, i, j) else none
  | _ => none
theorem mxV_some {v : D} {m : Mx} (h : mxV v = some m) : v = mD m ∧ det m = 1 := by
  unfold mxV at h
  split at h
  · split at h
    · cases h; exact ⟨rfl, by assumption⟩
    · cases h
  · cases h
theorem mxV_mD {m : Mx} (h : det m = 1) : mxV (mD m) = some m := by
  obtain ⟨g, h', i, j⟩ := m
  unfold det at h
  show (if g * j - h' * i = 1 then some (g, h', i, j) else none) = _
  rw [if_pos h]
def isMx (v : D) : Bool := (mxV v).isSome
def heldB (f h : Fm) (t : D) : Bool := match t with
  | .tuple [.str s, v] => decide (s = "same") && (match mxV v with | some m => decide (ledF f m = h) | none => false)
  | .tuple [.str s, v, w] => decide (s = "apart") && (match mxV v, mxV w with | some m, some n => decide (Red (ledF f m)) && (decide (Red (ledF h n)) && !decide (ledF f m = ledF h n)) | _, _ => false)
  | _ => false
structure FitM (v : D) : Prop where
  nd : isDk v = false
  len : ∀ xs, v = .tuple xs → xs.length ≤ 10
  it : ∀ xs, v = .tuple xs → ∀ x ∈ xs, isDk x = false
  sz : ∀ xs, v = .tuple xs → ∀ i : Int, PyData.int i ∈ xs → Sz 700 i
structure FitT (t : D) : Prop where
  nd : isDk t = false
  len : ∀ xs, t = .tuple xs → xs.length ≤ 10
  it : ∀ xs, t = .tuple xs → ∀ x ∈ xs, FitM x
  hd : ∀ x xs, t = .tuple (x :: xs) → shp x = true
theorem FitM.mx {v : D} {m : Mx} (h : FitM v) (e : mxV v = some m) : SzM 700 m := by
  obtain ⟨rfl, _⟩ := mxV_some e
  have := h.sz _ rfl
  exact ⟨this _ (by simp), this _ (by simp), this _ (by simp), this _ (by simp)⟩
theorem FitM.flat {v : D} (h : isDk v = false) (n : ∀ xs, v ≠ .tuple xs) : FitM v := ⟨h, fun xs e => absurd e (n xs), fun xs e => absurd e (n xs), fun xs e => absurd e (n xs)⟩
theorem FitM.of {m : Mx} {k : Nat} (h : SzM k m) (hk : k ≤ 700) : FitM (mD m) := by
  refine ⟨rfl, fun xs e => ?_, fun xs e => ?_, fun xs e => ?_⟩
  · cases e; simp
  · cases e
    intro x hx
    simp only [List.mem_cons, List.not_mem_nil, or_false] at hx
    rcases hx with rfl | rfl | rfl | rfl <;> rfl
  · cases e
    intro i hx
    simp only [List.mem_cons, List.not_mem_nil, or_false, PyData.int.injEq] at hx
    rcases hx with rfl | rfl | rfl | rfl
    · exact h.g.mono hk
    · exact h.h.mono hk
    · exact h.i.mono hk
    · exact h.j.mono hk
end Pv
end

section
/-! PvX: decks, by steps. -/
set_option autoImplicit false
namespace Pv
open PySem
section
variable {Φ : Fns} {fu : Nat} {σ : Sl} {g : G} {Q : D → G → Prop} {a b c e : Ex} {as : Exs}
@[simp] theorem Ok_dkGet {t : Bool} : Ok (ev Φ (.dkGet t a) σ g) Q = Ok (ev Φ a σ g) fun x g => ∃ z, dkGetV t x g = some z ∧ Q z g := by
  conv => lhs; unfold ev
  simp only [Ok_bind, Ok_lift]
@[simp] theorem Ok_dkHas : Ok (ev Φ (.dkHas a) σ g) Q = Ok (ev Φ a σ g) fun x g => ∃ z, dkHasV x g = some z ∧ Q z g := by
  conv => lhs; unfold ev
  simp only [Ok_bind, Ok_lift]
@[simp] theorem Ok_dkPop : Ok (ev Φ (.dkPop a) σ g) Q = Ok (ev Φ a σ g) fun x g => Ok (dkPopV x g) Q := by
  conv => lhs; unfold ev
  simp only [Ok_bind]
@[simp] theorem Ok_dkPush : Ok (ev Φ (.dkPush a e) σ g) Q = Ok (ev Φ a σ g) fun x g => ∃ st, g = some st ∧ Ok (ev Φ e σ g) fun v g => Ok (dkPushV x v g) Q := by
  conv => lhs; unfold ev
  simp only [Ok_bind]
  congr; funext x g
  cases g <;> simp
@[simp] theorem Ok_dkNew : Ok (ev Φ (.dkNew a b c) σ g) Q = Ok (ev Φ a σ g) fun x g => Ok (ev Φ b σ g) fun y g => Ok (ev Φ c σ g) fun z g => Ok (dkNewV x y z g) Q := by
  conv => lhs; unfold ev
  simp only [Ok_bind]
@[simp] theorem Ok_dkNew2 : Ok (ev Φ (.dkNew2 a b) σ g) Q = Ok (ev Φ a σ g) fun x g => Ok (ev Φ b σ g) fun y g => Ok (dkNewV x y (.int 0) g) Q := by
  conv => lhs; unfold ev
  simp only [Ok_bind]
@[simp] theorem Ok_scr {ns : List Int} {n : Nat} : Ok (ev Φ (.scr a ns n) σ g) Q = Ok (ev Φ a σ g) fun x g => isTok 1 x = true ∧ Q (.list ((ns.take n).map .int)) g := by
  conv => lhs; unfold ev
  simp only [Ok_bind]
  congr; funext x g
  by_cases h : isTok 1 x = true <;> simp [h]
@[simp] theorem Ok_dkSet {t : Bool} {Q : Fl → G → Prop} : Ok (Pv.run Φ fu (.dkSet t a e) σ g) Q = Ok (ev Φ e σ g) fun v g => Ok (ev Φ a σ g) fun x g => ∃ g', dkSetV t x v g = some g' ∧ Q (.nx σ) g' := by
  conv => lhs; unfold Pv.run
  simp only [Ok_bind, Ok_lift, Ok_ok]
end
section
variable {st : Dk} {n : Int} {Q : D → G → Prop}
@[simp] theorem dkGet_t : dkGetV true (tokD 0) (some st) = some (.int st.turn) := (rfl)
@[simp] theorem dkGet_f : dkGetV false (tokD 0) (some st) = some (.int st.mixed) := (rfl)
@[simp] theorem dkHas_e : dkHasV (tokD 0) (some st) = some (.bool (!st.cells.isEmpty)) := (rfl)
@[simp] theorem dkSet_t {c : Int} : dkSetV true (tokD 0) (.int c) (some st) = some (some { st with turn := c }) := (rfl)
@[simp] theorem dkSet_f {c : Int} : dkSetV false (tokD 0) (.int c) (some st) = some (some { st with mixed := c }) := (rfl)
theorem dkPop_c {xs : List Int} {c m t : Int} : Ok (dkPopV (tokD 0) (some ⟨xs ++ [c], m, t⟩)) Q = Q (.int c) (some ⟨xs, m, t⟩) := by
  unfold dkPopV
  simp
theorem dkPush_c {c : Int} (h : st.cells.length < lineN) : Ok (dkPushV (tokD 0) (.int c) (some st)) Q = Q .none (some { st with cells := st.cells ++ [c] }) := by
  unfold dkPushV
  simp [h]
theorem dkNew_c {xs : List D} {ns : List Int} {m t : Int} (h : intsOf xs = some ns) : Ok (dkNewV (.list xs) (.int m) (.int t) none) Q = Q (tokD 0) (some ⟨ns, m, t⟩) := by
  unfold dkNewV
  simp [h]
end
@[simp] theorem lg2 : Nat.log2 2 < 9000 := by decide
@[simp] theorem lg4 : Nat.log2 4 < 9000 := by decide
@[simp] theorem lg64 : Nat.log2 64 < 9000 := by decide
/-- a function's value from its body's -/
theorem Ok_F {T : List Fn} {d f np nl : Nat} {body : Sm} {as : List D} {σ : Sl} {g : G} {Q : D → G → Prop} (hb : Ok (Pv.run (FT T (fun _ => none) d) fuel body σ g) (retF Q))
    (h : T[f]? = some ⟨np, nl, body⟩ := by rfl) (hl : as.length = np := by rfl) (hσ : as.map some ++ List.replicate (nl - np) none = σ := by rfl) : Ok (FT T (fun _ => none) (d + 1) f as g) Q := by
  subst hσ
  exact Ok_FT h hl hb
/-- a deck after at most so many draws -/
def DkOk (n : Nat) (g : G) : Prop := ∃ st : Dk, g = some st ∧ st.cells.length ≤ 63 ∧ 0 ≤ st.turn ∧ st.turn ≤ n
theorem DkOk.mono {n m : Nat} {g : G} (h : DkOk n g) (l : n ≤ m) : DkOk m g := by
  obtain ⟨st, e, h1, h2, h3⟩ := h
  exact ⟨st, e, h1, h2, by omega⟩
theorem snoc_of {α : Type} : ∀ {xs : List α}, xs ≠ [] → ∃ ys y, xs = ys ++ [y]
  | [], h => absurd rfl h
  | [x], _ => ⟨[], x, rfl⟩
  | x :: y :: xs, _ => by
    obtain ⟨ys, z, e⟩ := snoc_of (xs := y :: xs) (List.cons_ne_nil _ _)
    exact ⟨x :: ys, z, by rw [e]; rfl⟩
end Pv
end

section
/-! FoA: the forms' functions, first part: divisors, discriminants, forms. -/
set_option autoImplicit false
namespace Xk35
open PySem Pv
variable {Φ : Fns} {g : G}
def isI : D → Bool
  | .int _ => true
  | _ => false
theorem are_integers_run {i0 : Nat} {f : Fm} (h0 : ∀ v g, isDk v = false → Φ i0 [v] g = .ok (.bool (isI v)) g) : Ok (Pv.run Φ fuel (m_are_integers i0) [some (fD f), some (.int 3), none] g) (retF fun r g' => r = .bool true ∧ g' = g) := by
  unfold m_are_integers
  rw [Ok_seq]
  have n1 : ∀ i : Int, isDk (.int i) = false := fun i => rfl
  have n2 : isDk (.tuple [.int f.1, .int f.2.1, .int f.2.2]) = false := rfl
  simp [biV, fD, lenV, isDk]
  refine ⟨_, rfl, (by unfold lineN; simp), ?_⟩
  simp [compL, itemF, h0, n1, isI, ev, boolsOf, evs, wipeS]
/-- how long ints may be -/
def bg : Nat := 200000
theorem _root_.Pv.Sz.abs {k : Nat} {a : Int} (h : Sz k a) : Sz k (a.natAbs : Int) := by
  unfold Sz at *
  rw [Int.natAbs_natCast]; exact h
theorem sz_gcd {k : Nat} {a b : Int} (h : Sz k a) (h2 : Sz k b) : Sz k (Int.gcd a b : Int) := by
  unfold Sz at *
  rw [Int.natAbs_natCast]
  by_cases z : a = 0
  · subst z; rw [Int.gcd_zero_left]; exact h2
  · have := Int.gcd_le_natAbs_left b z
    omega
/-- Euclid in a loop -/
theorem eu_loop {t : Ex} {bd : Sm} {a b : Int} {Q : Fl → G → Prop} (n : Nat) (ha : 0 ≤ a) (hb : 0 ≤ b) (ho : euOk n a b ∨ euOk n b a) (hn : n + 1 < fuel)
    (ht : ∀ x y : Int, 0 ≤ x → 0 ≤ y → Ok (ev Φ t [some (.int x), some (.int y)] g) fun v g' => v = .bool (decide (0 < y)) ∧ g' = g)
    (hs : ∀ x y : Int, 0 ≤ x → 0 < y → Ok (Pv.run Φ fuel bd [some (.int x), some (.int y)] g) fun fl g' => fl = .nx [some (.int y), some (.int (x % y))] ∧ g' = g)
    (q : Q (.nx [some (.int (Int.gcd a b)), some (.int 0)]) g) : Ok (whileL (fun σ g => ev Φ t σ g) (fun σ g => Pv.run Φ fuel bd σ g) fuel [some (.int a), some (.int b)] g) Q := by
  refine ok_whileL (fun m σ g' => g' = g ∧ ∃ x y : Int, σ = [some (.int x), some (.int y)] ∧ 0 ≤ x ∧ 0 ≤ y ∧ Int.gcd x y = Int.gcd a b ∧ (euOk m x y ∨ ∃ k, m = k + 1 ∧ euOk k y x)) ?_ fuel (n + 1) hn ⟨rfl, a, b, rfl, ha, hb, rfl, ?_⟩
  · rintro m σ g' ⟨rfl, x, y, rfl, hx, hy, hg, hm⟩
    refine (ht x y hx hy).mono ?_
    rintro _ _ ⟨rfl, rfl⟩
    refine ⟨_, rfl, ?_⟩
    by_cases z : 0 < y
    · rw [decide_eq_true z, if_pos rfl]
      refine (hs x y hx z).mono ?_
      rintro _ _ ⟨rfl, rfl⟩
      have r0 := Int.emod_nonneg x (show y ≠ 0 by omega)
      rcases hm with hm | ⟨k, rfl, hm⟩
      · obtain ⟨k, rfl, h2⟩ := hm.next (by omega)
        exact ⟨k, by omega, rfl, _, _, rfl, hy, r0, by rw [gcd_step hy, hg], .inl h2⟩
      · by_cases w : x < y
        · rw [Int.emod_eq_of_lt hx w]
          exact ⟨k, by omega, rfl, _, _, rfl, hy, hx, by rw [Int.gcd_comm, hg], .inl hm⟩
        · have e : x = y := by have := hm.2.1; omega
          subst e
          obtain ⟨k', rfl, h2⟩ := hm.next (by omega)
          exact ⟨k', by omega, rfl, _, _, rfl, hy, r0, by rw [gcd_step hy, hg], .inl h2⟩
    · have e : y = 0 := by omega
      subst e
      rw [decide_eq_false z, if_neg Bool.false_ne_true]
      have e2 : x = (Int.gcd a b : Int) := by
        rw [← hg, Int.gcd_zero_right]; omega
      rw [e2]; exact q
  · rcases ho with h | h
    · left
      have e2 : (2 : Int) ^ (n + 1) = 2 ^ n * 2 := Int.pow_succ ..
      have e3 : (0 : Int) < 2 ^ n := Int.pow_pos (by omega)
      have := h.2.2
      exact ⟨h.1, h.2.1, by omega⟩
    · exact .inr ⟨n, rfl, h⟩
theorem common_divisor_run {a b : Int} (ha : Sz bg a) (hb : Sz bg b) : Ok (Pv.run Φ fuel m_common_divisor [some (.int a), some (.int b)] g) (retF fun r g' => r = .int (Int.gcd a b) ∧ g' = g) := by
  unfold m_common_divisor
  rw [Ok_seq]; simp [abs_ite]
  rw [Ok_seq]; simp [abs_ite]
  rw [Ok_seq, Ok_while]
  have sa := ha.abs
  have sb := hb.abs
  refine eu_loop (n := bg + bg) (by omega) (by omega) ?_ (by unfold fuel bg; omega) (fun x y hx hy => ?_) (fun x y hx hy => ?_) ?_
  · by_cases h : (b.natAbs : Int) ≤ a.natAbs
    · exact .inl (euOk.start (by omega) (by omega) sa sb h)
    · exact .inr (euOk.start (by omega) (by omega) sb sa (by omega))
  · simp; omega
  · simp [hy]
  · simp [Int.gcd]
end Xk35
end

section
/-! FoB: discriminants, forms, reduction. -/
set_option autoImplicit false
namespace Xk35
open PySem Pv
variable {Φ : Fns} {g : G}
theorem in01 (x : Int) : cmpV .isin (.int x) (.tuple [.int 0, .int 1]) = some (decide (x = 0 ∨ x = 1)) := by
  have s : shp (.tuple [.int 0, .int 1]) = true := by decide
  have s2 : shp (.int x) = true := rfl
  show (if shp (.int x) && shp (.tuple [.int 0, .int 1]) then some ([PyData.int 0, .int 1].any fun z => PyData.eqv z (.int x)) else none) = _
  rw [s, s2]
  show some ((0 == x) || ((1 == x) || false)) = _
  by_cases h : x = 0
  · subst h; rfl
  · by_cases h2 : x = 1
    · subst h2; rfl
    · have e1 : ((0 : Int) == x) = false := beq_eq_false_iff_ne.mpr (Ne.symm h)
      have e2 : ((1 : Int) == x) = false := beq_eq_false_iff_ne.mpr (Ne.symm h2)
      rw [e1, e2, decide_eq_false (by omega)]; rfl
def isDisc (d : Int) : Prop := -20000 ≤ d ∧ d ≤ -3 ∧ (d % 4 = 0 ∨ d % 4 = 1)
instance (d : Int) : Decidable (isDisc d) := by unfold isDisc; infer_instance
theorem is_discriminant_run {i0 : Nat} {d : Int} (h0 : ∀ v g, isDk v = false → Φ i0 [v] g = .ok (.bool (isI v)) g) : Ok (Pv.run Φ fuel (m_is_discriminant i0) [some (.int d)] g) (retF fun r g' => r = .bool (decide (isDisc d)) ∧ g' = g) := by
  unfold m_is_discriminant isDisc
  have n : isDk (.int d) = false := rfl
  by_cases h1 : -20000 ≤ d <;> by_cases h2 : d ≤ -3 <;> simp [h0, n, isI, in01, h1, h2] <;> omega
def isForm (f : Fm) : Prop := 0 < f.1 ∧ isDisc (disc f) ∧ Int.gcd (Int.gcd f.1 f.2.1) f.2.2 = 1
instance (f : Fm) : Decidable (isForm f) := by unfold isForm; infer_instance
structure SzF (f : Fm) : Prop where
  a : Sz bg f.1
  b : Sz bg f.2.1
  c : Sz bg f.2.2
theorem is_form_run {i0 i1 i2 : Nat} {f : Fm} (hs : SzF f) (h0 : ∀ (f : Fm) g, Φ i0 [fD f, .int 3] g = .ok (.bool true) g) (h1 : ∀ a b g, Sz bg a → Sz bg b → Φ i1 [.int a, .int b] g = .ok (.int (Int.gcd a b)) g) (h2 : ∀ d g, Φ i2 [.int d] g = .ok (.bool (decide (isDisc d))) g) :
    Ok (Pv.run Φ fuel (m_is_form i0 i1 i2) [some (fD f), none, none, none] g) (retF fun r g' => r = .bool (decide (isForm f)) ∧ g' = g) := by
  unfold m_is_form
  rw [Ok_seq]; simp [h0]
  rw [Ok_seq]; simp [fD]
  obtain ⟨a, b, c⟩ := f
  obtain ⟨sa, sb, sc⟩ := hs
  simp only at sa sb sc
  have m1 : mulOk b b = true := mulOk_sz sb sb (by unfold bg; omega)
  have s4 : Sz (3 + bg) (4 * a) := Sz.mul (show Sz 3 4 by unfold Sz; decide) sa
  have m2 : mulOk (4 * a) c = true := mulOk_sz s4 sc (by unfold bg; omega)
  rw [Ok_seq]
  simp [m1, m2, h2]
  by_cases a0 : a ≤ 0
  · simp [a0, isForm, show ¬ 0 < a by omega]
  · by_cases hd : isDisc (b * b - 4 * a * c)
    · have g1 := sz_gcd sa sb
      simp [a0, hd, h1 a b, sa, sb, h1 _ _ _ g1 sc, isForm, disc, show 0 < a by omega]
      omega
    · simp [a0, hd, isForm, disc, show 0 < a by omega]
end Xk35
end

section
/-! FoC: the reduced form. -/
set_option autoImplicit false
namespace Xk35
open PySem Pv
variable {Φ : Fns} {g : G}
/-- what reduction answers -/
def RedOf (f f' : Fm) (m : Mx) : Prop := Red f' ∧ f' = ledF f m ∧ det m = 1 ∧ SzK kb f' ∧ SzM kb m
theorem red_unique {f f1 f2 : Fm} {m1 m2 : Mx} (h1 : RedOf f f1 m1) (h2 : RedOf f f2 m2) : f1 = f2 := by
  obtain ⟨r1, e1, d1, _⟩ := h1
  obtain ⟨r2, e2, d2, _⟩ := h2
  refine (gauss r1 r2 (m := mulM (invM m1) m2) ?_ ?_).symm
  · rw [e2, e1, led_mul, ← mul_assoc', mul_inv d1, one_mul']
  · rw [det_mul, det_inv, d1, d2]; rfl
end Xk35
end

section
/-! FoD: the law's deck, draws, picks, divisors. -/
set_option autoImplicit false
namespace Xk35
open PySem Pv
variable {Φ : Fns} {g : G}
theorem draw_run {n : Nat} {below : Int} (hd : DkOk n g) (h0 : 0 < below) (hl : below.natAbs.log2 < 8999) (hn : n < 1000000) :
    Ok (Pv.run Φ fuel m__law_draw [some (tokD 0), some (.int below), none, none] g) (retF fun r g' => DkOk (n + 1) g' ∧ ∃ i, r = .int i ∧ 0 ≤ i ∧ i < below) := by
  obtain ⟨st, rfl, c1, c2, c3⟩ := hd
  obtain ⟨cells, mixed, turn⟩ := st
  simp only at c1 c2 c3
  unfold m__law_draw
  generalize hQ : retF _ = QQ
  rw [Ok_seq]; simp
  rw [Ok_seq]
  have fin : ∀ (x : Int) (cs : List Int) (m : Int), cs.length ≤ 63 → QQ (.rt (.int (x % below))) (some ⟨cs, m, turn + 1⟩) := fun x cs m hc => by
    subst hQ
    exact ⟨⟨_, rfl, hc, by simp only; omega, by simp only; omega⟩, _, rfl, Int.emod_nonneg _ (by omega), Int.emod_lt_of_pos _ h0⟩
  by_cases he : cells = []
  · subst he
    simp
    have m1 : mulOk (40692 * (turn + 1)) (turn + 1) = true := mulOk_2 (by omega) (by omega)
    rw [Ok_seq]; simp [m1]
    generalize hA : (mixed + 40692 * (turn + 1) * (turn + 1)) % 2147483399 = A
    have a1 : 0 ≤ A := by omega
    have a2 : A < 2147483399 := by omega
    have m2 : mulOk A A = true := mulOk_2 (by omega) (by omega)
    rw [Ok_seq]; simp [m2]
    simp [h0]
    exact fin _ _ _ (by simp)
  · obtain ⟨ys, c, rfl⟩ := snoc_of he
    have hl2 : ys.length + 1 ≤ 63 := by simpa using c1
    have e1 : (ys ++ [c]).isEmpty = false := by simp
    have p1 : powOk 10 6 = true := by decide
    have ml : (if 2 < below then below else 2).natAbs.log2 < 9000 := by
      split
      · omega
      · decide
    have mp : 0 < (if 2 < below then below else 2) := by split <;> omega
    have ll : ys.length < lineN := by unfold lineN; omega
    simp [e1]
    rw [Ok_seq]; simp [dkPop_c]
    rw [Ok_seq]
    by_cases hb : 1000000 ≤ c
    · simp [p1, hb, mp, ml]
      rw [dkPush_c ll]
      simp [h0]
      exact fin _ _ _ (by simp; omega)
    · simp [p1, hb, h0]
      exact fin _ _ _ (by omega)
theorem deck_run {ns : List Int} : Ok (Pv.run Φ fuel (m__law_deck ns) [some (tokD 1), none, none, none] none) (retF fun r g' => r = tokD 0 ∧ DkOk 0 g') := by
  unfold m__law_deck
  generalize hQ : retF _ = QQ
  rw [Ok_seq]
  have p1 : powOk 10 24 = true := by decide
  have ln : (ns.take 63).length ≤ lineN := by rw [List.length_take]; unfold lineN; omega
  simp [itV]
  refine ⟨by rw [List.length_take] at ln; exact ln, ?_⟩
  rw [← List.map_take]
  refine ok_compM (em := .int) (eo := .int) (u := fun i : Int => some (i % (10 ^ 24 + 7))) (xs := ns.take 63) (fun x hx => ?_) ?_
  · rw [Ok_itemF]
    simp [wipeS, p1]
  rw [show (fun i : Int => some (i % (10 ^ 24 + 7))) = some ∘ (fun i : Int => i % (10 ^ 24 + 7)) from rfl, List.filterMap_eq_map]
  generalize hL : (ns.take 63).map (fun i : Int => i % (10 ^ 24 + 7)) = L
  have hlen : L.length ≤ 63 := by rw [← hL, List.length_map, List.length_take]; omega
  rw [Ok_seq, Ok_for]; simp [itV]
  refine ok_forL (fun k σ g' => g' = none ∧ ∃ m : Int, ∃ y, σ = [some (tokD 1), y, some (.list (L.map .int)), some (.int m)]) ⟨rfl, _, _, rfl⟩ ?_ ?_
  · rintro k x σ g' hx ⟨rfl, m, y, rfl⟩
    rw [List.getElem?_map] at hx
    obtain ⟨c, hc, rfl⟩ := Option.map_eq_some_iff.mp hx
    simp
  · rintro σ g' ⟨rfl, m, y, rfl⟩
    have e : intsOf (L.map .int).reverse = some L.reverse := by rw [← List.map_reverse, ints_map]
    simp
    rw [dkNew_c e]
    subst hQ
    exact ⟨rfl, _, rfl, by rw [List.length_reverse]; exact hlen, by simp⟩
theorem pickT_run {i0 n : Nat} {xs : List D} (hd : DkOk n g) (hn : n < 1000000) (hx : xs ≠ []) (hl : xs.length < 100000) (h0 : ∀ (n : Nat) (below : Int) g, DkOk n g → 0 < below → below.natAbs.log2 < 8999 → n < 1000000 → Ok (Φ i0 [tokD 0, .int below] g) (fun r g' => DkOk (n + 1) g' ∧ ∃ i, r = .int i ∧ 0 ≤ i ∧ i < below)) :
    Ok (Pv.run Φ fuel (m__law_pick i0) [some (tokD 0), some (.tuple xs)] g) (retF fun r g' => DkOk (n + 1) g' ∧ r ∈ xs) := by
  have lp : 0 < xs.length := List.length_pos_iff.mpr hx
  unfold m__law_pick
  simp
  refine (h0 n xs.length g hd (by omega) ?_ hn).mono ?_
  · rw [Int.natAbs_natCast]
    exact Nat.lt_of_lt_of_le (Nat.log2_lt (by omega) |>.mpr (show xs.length < 2 ^ 20 by omega)) (by omega)
  · rintro _ g' ⟨h1, i, rfl, h2, h3⟩
    obtain ⟨x, hx, e⟩ := idx_t h2 h3
    exact ⟨x, e, h1, hx⟩
theorem pickL_run {i0 n : Nat} {xs : List D} (hd : DkOk n g) (hn : n < 1000000) (hx : xs ≠ []) (hl : xs.length < 100000) (h0 : ∀ (n : Nat) (below : Int) g, DkOk n g → 0 < below → below.natAbs.log2 < 8999 → n < 1000000 → Ok (Φ i0 [tokD 0, .int below] g) (fun r g' => DkOk (n + 1) g' ∧ ∃ i, r = .int i ∧ 0 ≤ i ∧ i < below)) :
    Ok (Pv.run Φ fuel (m__law_pick i0) [some (tokD 0), some (.list xs)] g) (retF fun r g' => DkOk (n + 1) g' ∧ r ∈ xs) := by
  have lp : 0 < xs.length := List.length_pos_iff.mpr hx
  unfold m__law_pick
  simp
  refine (h0 n xs.length g hd (by omega) ?_ hn).mono ?_
  · rw [Int.natAbs_natCast]
    exact Nat.lt_of_lt_of_le (Nat.log2_lt (by omega) |>.mpr (show xs.length < 2 ^ 20 by omega)) (by omega)
  · rintro _ g' ⟨h1, i, rfl, h2, h3⟩
    obtain ⟨x, hx, e⟩ := idx_l h2 h3
    exact ⟨x, e, h1, hx⟩
theorem lawgcd_run {a b : Int} (ha : Sz bg a) (hb : Sz bg b) : Ok (Pv.run Φ fuel m__law_gcd [some (.int a), some (.int b)] g) (retF fun r g' => r = .int (Int.gcd a b) ∧ g' = g) := by
  unfold m__law_gcd
  rw [Ok_seq]; simp [abs_ite]
  rw [Ok_seq, Ok_while]
  have sa := ha.abs
  have sb := hb.abs
  refine eu_loop (n := bg + bg) (by omega) (by omega) ?_ (by unfold fuel bg; omega) (fun x y hx hy => ?_) (fun x y hx hy => ?_) ?_
  · by_cases h : (b.natAbs : Int) ≤ a.natAbs
    · exact .inl (euOk.start (by omega) (by omega) sa sb h)
    · exact .inr (euOk.start (by omega) (by omega) sb sa (by omega))
  · simp; omega
  · simp [hy]
  · simp [Int.gcd]
end Xk35
end

section
/-! FoE: the classes, by the program and by the law. -/
set_option autoImplicit false
namespace Xk35
open PySem Pv
variable {Φ : Fns} {g : G}
theorem szb {x : Int} (h1 : -18446744073709551616 < x) (h2 : x < 18446744073709551616) : Sz bg x := by
  have : Sz 64 x := by
    unfold Sz
    have : (2 : Nat) ^ 64 = 18446744073709551616 := by decide
    omega
  exact this.mono (by unfold bg; omega)
def rowPk (d a : Int) (n : Nat) : List Fm := (List.range n).filterMap fun k : Nat => if keepP d a (1 - a + k) then some (a, 1 - a + k, ((1 - a + k) * (1 - a + k) - d) / (4 * a)) else none
theorem rowPk_succ (d a : Int) (n : Nat) : rowPk d a (n + 1) = rowPk d a n ++ (if keepP d a (1 - a + n) then [(a, 1 - a + n, ((1 - a + n) * (1 - a + n) - d) / (4 * a))] else []) := by
  unfold rowPk
  rw [List.range_succ, List.filterMap_append]
  congr 1
  simp only [List.filterMap_cons, List.filterMap_nil]
  split <;> rename_i h <;> split at h <;> simp_all
theorem rowPk_len (d a : Int) (n : Nat) : (rowPk d a n).length ≤ n := by
  unfold rowPk
  refine Nat.le_trans (List.length_filterMap_le _ _) ?_
  rw [List.length_range]; omega
theorem rowsP_len (d : Int) : ∀ n : Nat, n ≤ 81 → (rowsP d n).length ≤ n * 200
  | 0, _ => Nat.le_refl _
  | n + 1, h => by
    rw [rows_succ, List.length_append]
    have h1 := rowsP_len d n (by omega)
    have h2 : (rowP d (n + 1)).length ≤ (2 * ((n : Int) + 1)).toNat := rowPk_len d (n + 1) (2 * ((n : Int) + 1)).toNat
    omega
theorem rng_at {lo : Int} {n k : Nat} {x : D} (h : (rangeD lo n)[k]? = some x) : k < n ∧ x = .int (lo + k) := by
  unfold rangeD at h
  rw [List.getElem?_map] at h
  obtain ⟨j, hj, rfl⟩ := Option.map_eq_some_iff.mp h
  have hk : k < n := by
    have := (List.getElem?_eq_some_iff.mp hj).1
    rwa [List.length_range] at this
  rw [List.getElem?_range hk] at hj
  cases hj
  exact ⟨hk, rfl⟩
theorem rng_len (lo : Int) (n : Nat) : (rangeD lo n).length = n := by unfold rangeD; rw [List.length_map, List.length_range]
theorem itV_r2 {i j : Int} (h1 : -4611686018427387904 < i) (h2 : i < 4611686018427387904) (h3 : -4611686018427387904 < j) (h4 : j < 4611686018427387904) : itV .rng2 [.int i, .int j] = some (rangeD i (j - i).toNat) := by
  simp [itV, show i.natAbs < 4611686018427387904 by omega, show j.natAbs < 4611686018427387904 by omega]
theorem itV_r1 {j : Int} (h3 : -4611686018427387904 < j) (h4 : j < 4611686018427387904) : itV .rng1 [.int j] = some (rangeD 0 j.toNat) := by
  simp [itV, show j.natAbs < 4611686018427387904 by omega]
theorem app_l {xs : List D} {v : D} (h : xs.length < lineN) : appV (.list xs) v = some (.list (xs ++ [v])) := by
  simp [appV, h]
end Xk35
end

section
/-! FoF: the law's own classes. -/
set_option autoImplicit false
namespace Xk35
open PySem Pv
variable {Φ : Fns} {g : G}
theorem lawclasses_run {i0 : Nat} {d : Int} (h1 : -20000 ≤ d) (h2 : d ≤ -3) (hd : d % 4 = 0 ∨ d % 4 = 1) (h0 : ∀ a b g, Sz bg a → Sz bg b → Φ i0 [.int a, .int b] g = .ok (.int (Int.gcd a b)) g) :
    Ok (Pv.run Φ fuel (m__law_classes i0) [some (.int d), none, none, none, none] g) (retF fun r g' => r = .list ((PL d).map fD) ∧ g' = g) := by
  unfold m__law_classes
  generalize hQ : retF _ = QQ
  rw [Ok_seq]; simp
  rw [Ok_seq, Ok_while]
  refine ok_whileL (fun m σ g' => g' = g ∧ ∃ (b : Int) (l : List Fm) (y3 y4 : Option D), σ = [some (.int d), some (.list (l.map fD)), some (.int b), y3, y4] ∧ 0 ≤ b ∧ b ≤ 84 ∧ b % 2 = d % 2 ∧ Jf d b 0 l ∧ l.length ≤ 200 * b.toNat ∧ m = (84 - b).toNat) ?_ fuel (84 - d % 2).toNat (by unfold fuel; omega) ⟨rfl, d % 2, [], none, none, rfl, by omega, by omega, by omega, Jf.start rfl, Nat.zero_le _, rfl⟩
  rintro m σ g' ⟨rfl, b, l, y3, y4, rfl, b0, b84, bp, hj, hl, rfl⟩
  have m1 : mulOk (3 * b) b = true := mulOk_2 (by omega) (by omega)
  have m2 : mulOk b b = true := mulOk_2 (by omega) (by omega)
  have s6 : 3 * b * b = 3 * (b * b) := by grind
  generalize hL : loopF _ _ = LL
  by_cases hw : 3 * b * b ≤ -d
  rotate_left
  · have sv : sortV (l.map fD) = some (.list ((PL d).map fD)) := sortV_f hj.nd PL_sorted fun f => by rw [hj.all b0 (by omega), mem_PL h1]
    have bv : biV .sorted [.list (l.map fD)] = some (.list ((PL d).map fD)) := sv
    subst hQ
    simp [m1, hw, bv]
  · have b82 : b < 82 := sq_lt (by omega) (by omega)
    have bb : b * b ≤ 6561 := by
      have := mulL (show b ≤ 81 by omega) b0
      omega
    simp [m1, hw]
    rw [Ok_seq]; simp [m2]
    generalize hp : (b * b - d) / 4 = p
    have p1 : p ≤ 6641 := by omega
    have p0 : 0 ≤ p := by have := sq_nn b; omega
    rw [Ok_seq]; simp
    rw [Ok_seq, Ok_while]
    have ha : ∃ a : Int, (if 1 < b then b else 1) = a := ⟨_, rfl⟩
    obtain ⟨a, ha⟩ := ha
    have hj2 := hj.open_
    rw [ha] at hj2 ⊢
    refine ok_whileL (fun m σ g2 => g2 = g' ∧ ∃ (a : Int) (l : List Fm), σ = [some (.int d), some (.list (l.map fD)), some (.int b), some (.int p), some (.int a)] ∧ 0 < a ∧ b ≤ a ∧ a ≤ 84 ∧ Jf d b a l ∧ l.length ≤ 200 * b.toNat + 2 * a.toNat ∧ m = (84 - a).toNat) ?_ fuel (84 - a).toNat (by unfold fuel; omega) ⟨rfl, a, l, rfl, by split at ha <;> omega, by split at ha <;> omega, by split at ha <;> omega, hj2, by omega, rfl⟩
    clear ha hj2 a
    rintro m σ g2 ⟨rfl, a, l2, rfl, a0, ba, a84, hj2, hl2, rfl⟩
    generalize hI : loopF _ _ = II
    have m3 : mulOk a a = true := mulOk_2 (by omega) (by omega)
    by_cases hw2 : a * a ≤ p
    rotate_left
    · have hc := hj2.close a0 b0 hd bp (by omega)
      simp [m3, hw2]
      subst hL
      exact ⟨(84 - (b + 2)).toNat, by omega, rfl, b + 2, l2, _, _, rfl, by omega, by omega, by omega, hc, by omega, rfl⟩
    · have a82 : a < 82 := sq_lt (by omega) (by omega)
      have st := hj2.step a0 b0 ba hd bp (by omega)
      have sl := addL_len d b a l2
      have nx : II (.nx [some (.int d), some (.list ((addL d b a l2).map fD)), some (.int b), some (.int p), some (.int (a + 1))]) g2 := by
        subst hI
        exact ⟨(84 - (a + 1)).toNat, by omega, rfl, a + 1, _, rfl, by omega, by omega, by omega, st, by omega, rfl⟩
      have ln : (l2.map fD).length < lineN := by
        rw [List.length_map]
        unfold lineN; omega
      have ln2 : ∀ x : D, (l2.map fD ++ [x]).length < lineN := fun x => by
        rw [List.length_append, List.length_map, List.length_singleton]
        unfold lineN; omega
      have la : a.natAbs.log2 < 9000 := Nat.lt_of_le_of_lt (Nat.log2_le_self _) (by omega)
      have pa : p / a ≤ 6641 := by
        have q := Int.emod_add_mul_ediv p a
        have r0 := Int.emod_nonneg p (show a ≠ 0 by omega)
        have := mulL (show 1 ≤ a by omega) (show 0 ≤ p / a from Int.ediv_nonneg (by omega) (by omega))
        rw [Int.mul_comm (p / a) a] at this
        omega
      have pa0 : 0 ≤ p / a := Int.ediv_nonneg (by omega) (by omega)
      have sa : Sz bg a := szb (by omega) (by omega)
      have sb : Sz bg b := szb (by omega) (by omega)
      have sc : Sz bg (p / a) := szb (by omega) (by omega)
      have g1 := h0 a b g2 sa sb
      have g3 := h0 _ (p / a) g2 (sz_gcd sa sb) sc
      simp [m3, hw2]
      rw [Ok_seq]
      unfold addL keepL twoL at nx
      simp only [hp] at nx
      generalize hc : p / a = c at nx g3
      by_cases q1 : p % a = 0
      · by_cases q2 : Int.gcd (Int.gcd a b) c = 1
        · by_cases q3 : 0 < b ∧ b < a ∧ a < c
          · simp [q1, q2, q3] at nx
            simp [a0, la, hc, q1, g1, g3, q2]
            rw [Ok_seq]; simp [a0, la, hc, q3, app_l ln, app_l (ln2 _)]
            simpa [fD] using nx
          · simp [q1, q2, q3] at nx
            simp [a0, la, hc, q1, g1, g3, q2]
            rw [Ok_seq]
            by_cases w1 : 0 < b
            · by_cases w2 : b < a
              · have w3 : ¬ a < c := fun z => q3 ⟨w1, w2, z⟩
                simp [a0, la, hc, app_l ln, w1, w2, w3]
                simpa [fD] using nx
              · simp [a0, la, hc, app_l ln, w1, w2]
                simpa [fD] using nx
            · simp [a0, la, hc, app_l ln, w1]
              simpa [fD] using nx
        · have q5 : ¬ ((Int.gcd (Int.gcd a b) c : Nat) : Int) = 1 := by omega
          simp [q1, q2] at nx
          simp [a0, la, hc, q1, g1, g3, q5]
          exact nx
      · simp [q1] at nx
        simp [a0, q1]
        exact nx
end Xk35
end

section
/-! FoR: reduced. -/
set_option autoImplicit false
namespace Xk35
open PySem Pv
variable {Φ : Fns} {g : G}
theorem isForm.good {f : Fm} (h : isForm f) : GoodF f := ⟨h.1, h.2.1.1, h.2.1.2.1⟩
end Xk35
end

section
/-! FoL: matrices and led forms, by the program and by the law. -/
set_option autoImplicit false
namespace Xk35
open PySem Pv
variable {Φ : Fns} {g : G}
theorem isForm.led {f : Fm} {m : Mx} (h : isForm f) (d : det m = 1) : isForm (ledF f m) := by
  have g := led_good h.good d
  have e : disc (ledF f m) = disc f := by rw [disc_led, d]; omega
  exact ⟨g.a0, by rw [e]; exact h.2.1, led_prim h.2.2 d⟩
theorem Rf_form {d : Int} {f : Fm} (h : Rf d f) (hd : isDisc d) : isForm f := ⟨h.red.a0, by rw [h.disc]; exact hd, h.prim⟩
theorem are_integers4_run {i0 : Nat} {m : Mx} (h0 : ∀ v g, isDk v = false → Φ i0 [v] g = .ok (.bool (isI v)) g) : Ok (Pv.run Φ fuel (m_are_integers i0) [some (mD m), some (.int 4), none] g) (retF fun r g' => r = .bool true ∧ g' = g) := by
  unfold m_are_integers
  rw [Ok_seq]
  have n1 : ∀ i : Int, isDk (.int i) = false := fun i => rfl
  simp [biV, mD, lenV, isDk]
  refine ⟨_, rfl, (by unfold lineN; simp), ?_⟩
  simp [compL, itemF, h0, n1, isI, ev, boolsOf, evs, wipeS]
theorem is_matrix_run {i0 : Nat} {m : Mx} {k : Nat} (hm : SzM k m) (hk : k + k < 1000000) (h0 : ∀ (m : Mx) g, Φ i0 [mD m, .int 4] g = .ok (.bool true) g) :
    Ok (Pv.run Φ fuel (m_is_matrix i0) [some (mD m)] g) (retF fun r g' => r = .bool (decide (det m = 1)) ∧ g' = g) := by
  unfold m_is_matrix
  have h := h0 m g
  obtain ⟨a, b, c, d⟩ := m
  obtain ⟨sa, sb, sc, sd⟩ := hm
  simp only at sa sb sc sd
  have M : ∀ {i j : Int}, Sz k i → Sz k j → mulOk i j = true := fun h1 h2 => mulOk_sz h1 h2 hk
  have e0 : idxV (mD (a, b, c, d)) (.int 0) = some (.int a) := idx_tuple (n := 0) rfl
  have e1 : idxV (mD (a, b, c, d)) (.int 1) = some (.int b) := idx_tuple (n := 1) rfl
  have e2 : idxV (mD (a, b, c, d)) (.int 2) = some (.int c) := idx_tuple (n := 2) rfl
  have e3 : idxV (mD (a, b, c, d)) (.int 3) = some (.int d) := idx_tuple (n := 3) rfl
  by_cases q : a * d - b * c = 1 <;> simp [h, e0, e1, e2, e3, M sa sd, M sb sc, det, q]
theorem discriminant_at_run {f : Fm} {k : Nat} (hf : SzK k f) (hk : k + k + 3 < 1000000) : Ok (Pv.run Φ fuel m_discriminant_at [some (fD f), none, none, none] g) (retF fun r g' => r = .int (disc f) ∧ g' = g) := by
  unfold m_discriminant_at
  obtain ⟨a, b, c⟩ := f
  obtain ⟨sa, sb, sc⟩ := hf
  simp only at sa sb sc
  have s4 : Sz (3 + k) (4 * a) := Sz.mul (show Sz 3 4 by unfold Sz; decide) sa
  rw [Ok_seq]; simp [fD]
  simp [mulOk_sz sb sb (by omega), mulOk_sz s4 sc (by omega), disc]
theorem discriminant_of_run {i0 i1 : Nat} {f : Fm} (hf : isForm f) (h1 : Φ i1 [fD f] g = .ok (.bool (decide (isForm f))) g) (h0 : Φ i0 [fD f] g = .ok (.int (disc f)) g) :
    Ok (Pv.run Φ fuel (m_discriminant_of i0 i1) [some (fD f)] g) (retF fun r g' => r = .int (disc f) ∧ g' = g) := by
  unfold m_discriminant_of
  rw [Ok_seq]; simp [h1, hf, h0]
theorem lawled_run {f : Fm} {m : Mx} {k l : Nat} (hf : SzK k f) (hm : SzM l m) (hk : k + l + l + 20 < 1000000) :
    Ok (Pv.run Φ fuel m__law_led [some (fD f), some (mD m), none, none, none, none, none, none, none, none, none] g) (retF fun r g' => r = fD (ledF f m) ∧ g' = g) := by
  obtain ⟨a, b, c⟩ := f
  obtain ⟨x, h, i, j⟩ := m
  obtain ⟨sa, sb, sc⟩ := hf
  obtain ⟨sg, sh, si, sj⟩ := hm
  simp only at sa sb sc sg sh si sj
  have s2 : Sz 2 2 := by unfold Sz; decide
  have M : ∀ {k l : Nat} {i j : Int}, Sz k i → Sz l j → k + l < 1000000 → mulOk i j = true := mulOk_sz
  have ss : Sz (max (l + l) (l + l) + 1) (x * j + h * i) := (sg.mul sj).add (sh.mul si)
  rw [Nat.max_self] at ss
  unfold m__law_led
  rw [Ok_seq]; simp [fD, mD, setG, setGs]
  rw [Ok_seq]; simp [M sa sg (by omega), M (sa.mul sg) sg (by omega), M sb sg (by omega), M (sb.mul sg) si (by omega), M sc si (by omega), M (sc.mul si) si (by omega), M sa sh (by omega), M (sa.mul sh) sh (by omega), M sb sh (by omega), M (sb.mul sh) sj (by omega), M sc sj (by omega), M (sc.mul sj) sj (by omega)]
  simp [M (s2.mul sa) sg (by omega), M ((s2.mul sa).mul sg) sh (by omega), M sg sj (by omega), M sh si (by omega), M sb ss (by omega), M (s2.mul sc) si (by omega), M ((s2.mul sc).mul si) sj (by omega), ledF]
theorem lawtimes_run {m n : Mx} {k l : Nat} (hm : SzM k m) (hn : SzM l n) (hk : k + l < 1000000) :
    Ok (Pv.run Φ fuel m__law_times [some (mD m), some (mD n), none, none, none, none, none, none, none, none] g) (retF fun r g' => r = mD (mulM m n) ∧ g' = g) := by
  obtain ⟨a, b, c, d⟩ := m
  obtain ⟨x, h, i, j⟩ := n
  obtain ⟨sa, sb, sc, sd⟩ := hm
  obtain ⟨sg, sh, si, sj⟩ := hn
  simp only at sa sb sc sd sg sh si sj
  have M : ∀ {i j : Int}, Sz k i → Sz l j → mulOk i j = true := fun h1 h2 => mulOk_sz h1 h2 hk
  unfold m__law_times
  rw [Ok_seq]; simp [mD, setG, setGs]
  simp [M sa sg, M sb si, M sa sh, M sb sj, M sc sg, M sd si, M sc sh, M sd sj, mulM]
theorem sz_one : SzM 1 oneM := ⟨by unfold Sz oneM; decide, by unfold Sz oneM; decide, by unfold Sz oneM; decide, by unfold Sz oneM; decide⟩
/-- a drawn matrix: at most many simple ones -/
theorem lawmatrix_run {i0 i1 n : Nat} {many great : Int} (hd : DkOk n g) (hn : n < 900000) (m0 : 0 ≤ many) (m1 : many ≤ 6) (g0 : 1 ≤ great) (g1 : great ≤ 10000000)
    (h0 : ∀ (n : Nat) (below : Int) g, DkOk n g → 0 < below → below.natAbs.log2 < 8999 → n < 1000000 → Ok (Φ i0 [tokD 0, .int below] g) (fun r g' => DkOk (n + 1) g' ∧ ∃ i, r = .int i ∧ 0 ≤ i ∧ i < below))
    (h1 : ∀ (m n : Mx) g, SzM 400 m → SzM 400 n → Φ i1 [mD m, mD n] g = .ok (mD (mulM m n)) g) :
    Ok (Pv.run Φ fuel (m__law_matrix i0 i1) [some (tokD 0), some (.int many), some (.int great), none, none, none, none] g) (retF fun r g' => DkOk (n + 20) g' ∧ ∃ m, r = mD m ∧ det m = 1 ∧ SzM 200 m) := by
  unfold m__law_matrix
  generalize hQ : retF _ = QQ
  have lg : ∀ x : Int, 0 ≤ x → x < 100000000 → x.natAbs.log2 < 8999 := fun x h1 h2 => by
    by_cases z : x.natAbs = 0
    · rw [z]; decide
    · exact Nat.lt_of_lt_of_le ((Nat.log2_lt z).mpr (show x.natAbs < 2 ^ 30 by omega)) (by omega)
  rw [Ok_seq]; simp
  rw [Ok_seq, Ok_for]
  simp
  refine (h0 n (many + 1) g hd (by omega) (lg _ (by omega) (by omega)) (by omega)).mono ?_
  rintro _ g1 ⟨hg1, t, rfl, t0, t1⟩
  simp [itV_r1 (show -4611686018427387904 < t by omega) (by omega)]
  refine ok_forL (fun k σ g' => k ≤ 6 ∧ DkOk (n + 1 + 2 * k) g' ∧ ∃ (m : Mx) (y4 y5 y6 : Option D), σ = [some (tokD 0), some (.int many), some (.int great), some (mD m), y4, y5, y6] ∧ det m = 1 ∧ SzM (1 + 30 * k) m) ⟨by omega, hg1, oneM, none, none, none, rfl, rfl, sz_one⟩ ?_ ?_
  · rintro k x σ g' hx ⟨hk6, hg, m, y4, y5, y6, rfl, hdm, hsm⟩
    obtain ⟨hk, rfl⟩ := rng_at hx
    have hk5 : k ≤ 5 := by omega
    generalize hL : loopF _ _ = LL
    rw [Ok_turnF]; simp
    rw [Ok_seq]; simp
    refine (h0 _ 3 g' hg (by omega) (by decide) (by omega)).mono ?_
    rintro _ g2 ⟨hg2, w, rfl, w0, w1⟩
    try simp
    refine (h0 _ (2 * great + 1) g2 hg2 (by omega) (lg _ (by omega) (by omega)) (by omega)).mono ?_
    rintro _ g3 ⟨hg3, v, rfl, v0, v1⟩
    try simp
    have fin : ∀ s : Mx, det s = 1 → SzM 25 s → Φ i1 [mD m, mD s] g3 = .ok (mD (mulM m s)) g3 ∧ ∀ y4 y5 y6, LL (.nx [some (tokD 0), some (.int many), some (.int great), some (mD (mulM m s)), y4, y5, y6]) g3 := fun s hs1 hs2 => by
      refine ⟨h1 _ _ g3 (hsm.mono (by omega)) (hs2.mono (by omega)), fun y4 y5 y6 => ?_⟩
      subst hL
      refine ⟨by omega, hg3.mono (by omega), _, _, _, _, rfl, by rw [det_mul, hdm, hs1]; rfl, (sz_mulM hsm hs2).mono (by omega)⟩
    have sv : Sz 25 (v - great) := sz_of (n := 20000000) (by omega) (by decide)
    have s0 : Sz 25 0 := by unfold Sz; decide
    have s1 : Sz 25 1 := by unfold Sz; decide
    have s1' : Sz 25 (-1) := by unfold Sz; decide
    have e0 : ∀ a b c : D, idxV (.tuple [a, b, c]) (.int 0) = some a := fun a b c => idx_tuple (n := 0) rfl
    have e1 : ∀ a b c : D, idxV (.tuple [a, b, c]) (.int 1) = some b := fun a b c => idx_tuple (n := 1) rfl
    have e2 : ∀ a b c : D, idxV (.tuple [a, b, c]) (.int 2) = some c := fun a b c => idx_tuple (n := 2) rfl
    have hw : w = 0 ∨ w = 1 ∨ w = 2 := by omega
    rcases hw with rfl | rfl | rfl
    · obtain ⟨a1, a2⟩ := fin (1, v - great, 0, 1) (by simp [det]) ⟨s1, sv, s0, s1⟩
      simp only [mD] at a1 a2
      simp [e0, mD, a1]
      exact a2 _ _ _
    · obtain ⟨a1, a2⟩ := fin (1, 0, v - great, 1) (by simp [det]) ⟨s1, s0, sv, s1⟩
      simp only [mD] at a1 a2
      simp [e1, mD, a1]
      exact a2 _ _ _
    · obtain ⟨a1, a2⟩ := fin (0, -1, 1, 0) (by simp [det]) ⟨s0, s1', s1, s0⟩
      simp only [mD] at a1 a2
      simp [e2, mD, a1]
      exact a2 _ _ _
  · rintro σ g' ⟨hk6, hg, m, y4, y5, y6, rfl, hdm, hsm⟩
    rw [rng_len] at hk6 hg hsm
    simp
    subst hQ
    exact ⟨hg.mono (by omega), m, rfl, hdm, hsm.mono (by omega)⟩
end Xk35
end

section
/-! FoS: values of many kinds looked at: matrices, reduced forms, certificates. -/
set_option autoImplicit false
namespace Xk35
open PySem Pv
variable {Φ : Fns} {g : G}
def areI (v : D) (n : Nat) : Bool := match v with
  | .tuple xs => decide (xs.length = n) && xs.all isI
  | _ => false
theorem areI_4 {v : D} (h : areI v 4 = true) : ∃ m : Mx, v = mD m := by
  unfold areI at h
  split at h
  · rename_i xs
    simp only [Bool.and_eq_true, decide_eq_true_eq] at h
    obtain ⟨h1, h2⟩ := h
    match xs, h1, h2 with
    | [a, b, c, d], _, h2 =>
      simp only [List.all_cons, List.all_nil, Bool.and_true, Bool.and_eq_true] at h2
      obtain ⟨h3, h4, h5, h6⟩ := h2
      cases a <;> simp [isI] at h3
      cases b <;> simp [isI] at h4
      cases c <;> simp [isI] at h5
      cases d <;> simp [isI] at h6
      exact ⟨(_, _, _, _), rfl⟩
  · cases h
theorem areI_mD (m : Mx) : areI (mD m) 4 = true := rfl
theorem isMx_of {v : D} (h : areI v 4 = false) : isMx v = false := by
  unfold isMx
  cases e : mxV v with
  | none => rfl
  | some m =>
    obtain ⟨rfl, _⟩ := mxV_some e
    rw [areI_mD] at h
    cases h
theorem isMx_mD (m : Mx) : isMx (mD m) = decide (det m = 1) := by
  obtain ⟨a, b, c, d⟩ := m
  unfold isMx
  show (if a * d - b * c = 1 then some (a, b, c, d) else none).isSome = _
  unfold det
  by_cases h : a * d - b * c = 1 <;> simp [h]
theorem all_b {α : Type} (f : α → Bool) : ∀ xs : List α, boolsOf (xs.map fun x => .bool (f x)) = some (xs.map f)
  | [] => rfl
  | x :: xs => by
    rw [List.map_cons]
    unfold boolsOf
    rw [all_b f xs]
    rfl
theorem bi_all {α : Type} (f : α → Bool) (xs : List α) : biV .all [.list (xs.map fun x => .bool (f x))] = some (.bool (xs.all f)) := by
  show (boolsOf (xs.map fun x => .bool (f x))).map (fun bs => PyData.bool (bs.all id)) = _
  rw [all_b]
  simp [List.all_map]
/-- [f(x) for x in xs] where f leaves the deck alone -/
theorem comp_all {σ : Sl} {t i0 : Nat} {p : D → Bool} {xs : List D} {Q : List D → G → Prop} (ht : t < σ.length) (h : ∀ x ∈ xs, Φ i0 [x] g = .ok (.bool (p x)) g) (q : Q (xs.map fun x => .bool (p x)) g) :
    Ok (compL (itemF Φ [t] σ (.c (.bool true)) (.call i0 (.cons (.var t) .nil))) xs [] g) Q := by
  have e : xs = xs.map id := by simp
  rw [e]
  refine ok_compM (em := id) (eo := id) (u := fun x => some (.bool (p x))) (fun x hx => ?_) ?_
  · rw [Ok_itemF]
    have l : ((wipeS σ [t]).set t (some x))[t]? = some (some x) := by
      rw [List.getElem?_set_self]
      simp [wipeS, ht]
    refine ⟨_, rfl, ?_⟩
    simp [l, h x hx]
  · simpa [List.filterMap_eq_map'] using q
/-- [x for x in xs if not f(x)] -/
theorem comp_not {σ : Sl} {t i0 : Nat} {p : D → Bool} {xs : List D} {Q : List D → G → Prop} (ht : t < σ.length) (h : ∀ x ∈ xs, Φ i0 [x] g = .ok (.bool (p x)) g) (q : Q (xs.filter fun x => !p x) g) :
    Ok (compL (itemF Φ [t] σ (.not (.truth (.call i0 (.cons (.var t) .nil)))) (.var t)) xs [] g) Q := by
  have e : xs = xs.map id := by simp
  rw [e]
  refine ok_compM (em := id) (eo := id) (u := fun x => if !p x then some x else none) (fun x hx => ?_) ?_
  · rw [Ok_itemF]
    have l : ((wipeS σ [t]).set t (some x))[t]? = some (some x) := by
      rw [List.getElem?_set_self]
      simp [wipeS, ht]
    refine ⟨_, rfl, ?_⟩
    cases hp : p x <;> simp [l, h x hx, hp]
  · have : (xs.filterMap fun x => if !p x then some x else none) = xs.filter fun x => !p x := by
      rw [← List.filterMap_eq_filter]; rfl
    rw [this]
    simpa using q
theorem ne_nil_l (p : D → Bool) (xs : List D) : cmpV .ne (.list (xs.filter fun x => !p x)) (.list []) = some (!xs.all p) ∧ cmpV .eq (.list (xs.filter fun x => !p x)) (.list []) = some (xs.all p) := by
  have key : eqD (.list (xs.filter fun x => !p x)) (.list []) = some (xs.all p) := by
    cases e : xs.filter fun x => !p x with
    | nil =>
      have : xs.all p = true := by
        rw [List.all_eq_true]
        intro x hx
        have := List.filter_eq_nil_iff.mp e x hx
        simpa using this
      rw [this]; rfl
    | cons y ys =>
      have : xs.all p = false := by
        have hy : y ∈ xs.filter fun x => !p x := by rw [e]; exact List.mem_cons_self
        obtain ⟨h1, h2⟩ := List.mem_filter.mp hy
        rw [List.all_eq_false]
        exact ⟨y, h1, by simpa using h2⟩
      rw [this]
      show (if shp (.list (y :: ys)) && shp (.list []) then some (PyData.eqv (.list (y :: ys)) (.list [])) else lensV (.list (y :: ys)) (.list [])) = _
      split
      · simp [PyData.eqv, PyData.eqvAll]
      · rfl
  refine ⟨?_, key⟩
  show (eqD (.list (xs.filter fun x => !p x)) (.list [])).map (!·) = _
  rw [key]; rfl
theorem are_integersV_run {i0 : Nat} {v : D} {n : Nat} (h : FitM v) (h0 : ∀ v g, isDk v = false → Φ i0 [v] g = .ok (.bool (isI v)) g) : Ok (Pv.run Φ fuel (m_are_integers i0) [some v, some (.int n), none] g) (retF fun r g' => r = .bool (areI v n) ∧ g' = g) := by
  unfold m_are_integers
  rw [Ok_seq]
  have nd := h.nd
  cases v with
  | tuple xs =>
    have hl := h.len xs rfl
    by_cases q : xs.length = n
    · have e : biV .all [.list (xs.map fun x => .bool (isI x))] = some (.bool (xs.all isI)) := bi_all isI xs
      simp [biV, isDk, lenV, q]
      refine ⟨_, rfl, by unfold lineN; omega, ?_⟩
      refine comp_all (by simp) (fun x hx => h0 x g (h.it xs rfl x hx)) ?_
      refine ⟨_, ⟨_, all_b isI xs, rfl⟩, ?_⟩
      simp [areI, q, List.all_map]
    · have q2 : ¬ ((xs.length : Int) = n) := by omega
      simp [biV, isDk, lenV, q, q2, areI]
  | dict kvs =>
    have nd2 : isDeck kvs = false := nd
    simp [biV, isDk, nd2, areI]
  | _ => simp [biV, isDk, areI]
theorem is_matrixV_run {i0 : Nat} {v : D} (h : FitM v) (h0 : Φ i0 [v, .int 4] g = .ok (.bool (areI v 4)) g) :
    Ok (Pv.run Φ fuel (m_is_matrix i0) [some v] g) (retF fun r g' => r = .bool (isMx v) ∧ g' = g) := by
  unfold m_is_matrix
  cases q : areI v 4 with
  | false =>
    rw [q] at h0
    simp [h0, isMx_of q]
  | true =>
    rw [q] at h0
    obtain ⟨m, rfl⟩ := areI_4 q
    rw [isMx_mD]
    obtain ⟨a, b, c, d⟩ := m
    have s := h.sz _ rfl
    have sa := s a (by simp); have sb := s b (by simp); have sc := s c (by simp); have sd := s d (by simp)
    have M : ∀ {i j : Int}, Sz 700 i → Sz 700 j → mulOk i j = true := fun h1 h2 => mulOk_sz h1 h2 (by omega)
    have e0 : idxV (mD (a, b, c, d)) (.int 0) = some (.int a) := idx_tuple (n := 0) rfl
    have e1 : idxV (mD (a, b, c, d)) (.int 1) = some (.int b) := idx_tuple (n := 1) rfl
    have e2 : idxV (mD (a, b, c, d)) (.int 2) = some (.int c) := idx_tuple (n := 2) rfl
    have e3 : idxV (mD (a, b, c, d)) (.int 3) = some (.int d) := idx_tuple (n := 3) rfl
    by_cases w : a * d - b * c = 1 <;> simp [h0, e0, e1, e2, e3, M sa sd, M sb sc, det, w]
theorem is_reduced_run {i0 : Nat} {f : Fm} (hf : isForm f) (h0 : Φ i0 [fD f] g = .ok (.bool (decide (isForm f))) g) :
    Ok (Pv.run Φ fuel (m_is_reduced i0) [some (fD f), none, none, none] g) (retF fun r g' => r = .bool (decide (Red f)) ∧ g' = g) := by
  unfold m_is_reduced
  generalize hQ : retF _ = QQ
  rw [Ok_seq]; simp [h0, hf]
  have a0 := hf.1
  obtain ⟨a, b, c⟩ := f
  simp only at a0
  rw [Ok_seq]; simp [fD]
  have key : Red (a, b, c) ↔ -a < b ∧ b ≤ a ∧ a ≤ c ∧ (a = c → 0 ≤ b) := ⟨fun h => ⟨h.lo, h.hi, h.ac, h.eq⟩, fun ⟨h1, h2, h3, h4⟩ => ⟨a0, h1, h2, h3, h4⟩⟩
  by_cases q1 : -a < b
  · by_cases q2 : b ≤ a
    · by_cases q3 : a ≤ c
      · by_cases q4 : a = c
        · by_cases q5 : b < 0
          · have n : ¬ Red (a, b, c) := fun z => by have := (key.mp z).2.2.2 q4; omega
            simp [q1, q2, q3, q4, q5]
            subst q4; subst hQ
            simp [n]
            omega
          · have y : Red (a, b, c) := key.mpr ⟨q1, q2, q3, fun _ => by omega⟩
            simp [q1, q2, q3, q4, q5]
            subst q4; subst hQ
            simp [y]
            omega
        · have y : Red (a, b, c) := key.mpr ⟨q1, q2, q3, fun z => absurd z q4⟩
          simp [q1, q2, q3, q4]
          subst hQ
          simp [y]
      · have n : ¬ Red (a, b, c) := fun z => q3 (key.mp z).2.2.1
        simp [q1, q2, q3]
        subst hQ
        simp [n]
        omega
    · have n : ¬ Red (a, b, c) := fun z => q2 (key.mp z).2.1
      simp [q1, q2]
      subst hQ
      simp [n]
      omega
  · have n : ¬ Red (a, b, c) := fun z => q1 (key.mp z).1
    simp [q1]
    subst hQ
    simp [n]
    omega
theorem RedOf.sz {f f' : Fm} {m : Mx} (h : RedOf f f' m) (hf : isForm f) (s : SzK 150 f) : SzK 20 f' ∧ SzM 330 m ∧ isForm f' := by
  obtain ⟨r, e, d, _, _⟩ := h
  have ff : isForm f' := by rw [e]; exact hf.led d
  have rf : Rf (disc f') f' := ⟨r, rfl, ff.2.2⟩
  have s2 := rf.sz ff.2.1.1 ff.2.1.2.1
  exact ⟨s2, (sz_mat hf.good d e s s2).mono (by omega), ff⟩
theorem fD_inj {f h : Fm} : fD f = fD h ↔ f = h := by
  obtain ⟨a, b, c⟩ := f
  obtain ⟨x, y, z⟩ := h
  simp [fD]
theorem eqv_f (f h : Fm) : PyData.eqv (fD f) (fD h) = decide (f = h) := by
  obtain ⟨a, b, c⟩ := f
  obtain ⟨x, y, z⟩ := h
  by_cases h1 : a = x <;> by_cases h2 : b = y <;> by_cases h3 : c = z <;> simp [fD, PyData.eqv, PyData.eqvAll, h1, h2, h3]
theorem eq_f (f h : Fm) : cmpV .eq (fD f) (fD h) = some (decide (f = h)) := by
  show (if shp (fD f) && shp (fD h) then some (PyData.eqv (fD f) (fD h)) else lensV (fD f) (fD h)) = _
  rw [shp_form, shp_form, eqv_f]; rfl
theorem ne_f (f h : Fm) : cmpV .ne (fD f) (fD h) = some (!decide (f = h)) := by
  have e := eq_f f h
  show (eqD (fD f) (fD h)).map (!·) = _
  rw [show eqD (fD f) (fD h) = some (decide (f = h)) from e]; rfl
end Xk35
end

section
/-! FkA: values of any kind looked at. -/
set_option autoImplicit false
namespace Xk35
open PySem Pv
variable {Φ : Fns} {g : G}
def okV (v : D) : Bool := !(isDk v && !isObj v)
theorem okV_n {v : D} (h : okV v = true) : (isDk v && !isObj v) = false := by
  unfold okV at h
  cases e : (isDk v && !isObj v) with
  | false => rfl
  | true => rw [e] at h; cases h
def ibV (v : D) : Bool := match v with | .int _ => true | .bool _ => true | _ => false
def boV (v : D) : Bool := match v with | .bool _ => true | _ => false
def tuV (v : D) : Bool := match v with | .tuple _ => true | _ => false
theorem okV_i {v : D} (h : okV v = true) : biV .isInt [v] = some (.bool (ibV v)) := by
  show (if (isDk v && !isObj v) = true then none else some (PyData.bool (ibV v))) = _
  rw [okV_n h]; rfl
theorem okV_b {v : D} (h : okV v = true) : biV .isBool [v] = some (.bool (boV v)) := by
  show (if (isDk v && !isObj v) = true then none else some (PyData.bool (boV v))) = _
  rw [okV_n h]; rfl
theorem okV_t {v : D} (h : okV v = true) : biV .isTuple [v] = some (.bool (tuV v)) := by
  show (if (isDk v && !isObj v) = true then none else some (PyData.bool (tuV v))) = _
  rw [okV_n h]; rfl
/-- a value that may be looked at -/
structure FitV (v : D) : Prop where
  nd : okV v = true
  len : ∀ xs, v = .tuple xs → xs.length ≤ 10
  it : ∀ xs, v = .tuple xs → ∀ x ∈ xs, okV x = true
  sz : ∀ xs, v = .tuple xs → ∀ i : Int, PyData.int i ∈ xs → Sz 700 i
theorem FitV.flat {v : D} (h : okV v = true) (n : ∀ xs, v ≠ .tuple xs) : FitV v := ⟨h, fun xs e => absurd e (n xs), fun xs e => absurd e (n xs), fun xs e => absurd e (n xs)⟩
theorem FitV.tup {xs : List D} (hl : xs.length ≤ 10) (h : ∀ x ∈ xs, okV x = true ∧ ∀ i : Int, x = .int i → Sz 700 i) : FitV (.tuple xs) :=
  ⟨rfl, fun ys e => by cases e; exact hl, fun ys e => by cases e; exact fun x hx => (h x hx).1, fun ys e => by cases e; exact fun i hi => (h _ hi).2 i rfl⟩
abbrev IsIC (Φ : Fns) (i : Nat) : Prop := ∀ (v : D) (g : G), okV v = true → Φ i [v] g = .ok (.bool (isI v)) g
theorem isI_any {v : D} (h : okV v = true) : Ok (Pv.run Φ fuel (.ret (.and (.bi .isInt (.cons (.var 0) .nil)) (.not (.bi .isBool (.cons (.var 0) .nil))))) [some v] g) (retF fun r g' => r = .bool (isI v) ∧ g' = g) := by
  simp [okV_i h, okV_b h, -Bool.exists_bool]
  cases v <;> simp [isI, ibV, boV]
-- @E is_integer_integers IsIC isI1_run 1
theorem isI1_run {v : D} (h : okV v = true) : Ok (Pv.run Φ fuel m_is_integer_integers [some v] g) (retF fun r g' => r = .bool (isI v) ∧ g' = g) := isI_any h
-- @E is_integer_primefield IsIC isI2_run 1
theorem isI2_run {v : D} (h : okV v = true) : Ok (Pv.run Φ fuel m_is_integer_primefield [some v] g) (retF fun r g' => r = .bool (isI v) ∧ g' = g) := isI_any h
-- @E _law_is_integer IsIC isI4_run 1
theorem isI4_run {v : D} (h : okV v = true) : Ok (Pv.run Φ fuel m__law_is_integer [some v] g) (retF fun r g' => r = .bool (isI v) ∧ g' = g) := isI_any h
abbrev AreIC (Φ : Fns) (i : Nat) : Prop := ∀ (v : D) (n : Nat) (g : G), FitV v → Φ i [v, .int n] g = .ok (.bool (areI v n)) g
-- @E are_integers AreIC areI_run 1 : is_integer_integers
theorem areI_run {i0 n : Nat} {v : D} (h : FitV v) (h0 : IsIC Φ i0) : Ok (Pv.run Φ fuel (m_are_integers i0) [some v, some (.int n), none] g) (retF fun r g' => r = .bool (areI v n) ∧ g' = g) := by
  unfold m_are_integers
  have nd := h.nd
  rw [Ok_seq]; simp [okV_t nd, -Bool.exists_bool]
  cases v with
  | tuple xs =>
    have hl := h.len xs rfl
    by_cases q : xs.length = n
    · simp [tuV, q, -Bool.exists_bool]
      refine ⟨_, rfl, by unfold lineN; omega, ?_⟩
      refine comp_all (by simp) (fun x hx => h0 x g (h.it xs rfl x hx)) ?_
      refine ⟨_, bi_all isI xs, ?_⟩
      simp [areI, q]
    · have q2 : ¬ ((xs.length : Int) = n) := by omega
      simp [tuV, q, q2, areI, -Bool.exists_bool]
  | _ => simp [tuV, areI, -Bool.exists_bool]
-- @E _law_are_integers AreIC lareI_run 1 : _law_is_integer
theorem lareI_run {i0 n : Nat} {v : D} (h : FitV v) (h0 : IsIC Φ i0) : Ok (Pv.run Φ fuel (m__law_are_integers i0) [some v, some (.int n), none] g) (retF fun r g' => r = .bool (areI v n) ∧ g' = g) := by
  unfold m__law_are_integers
  have nd := h.nd
  rw [Ok_seq]; simp [okV_t nd, -Bool.exists_bool]
  cases v with
  | tuple xs =>
    have hl := h.len xs rfl
    by_cases q : xs.length = n
    · simp [tuV, q, -Bool.exists_bool]
      refine ⟨_, rfl, by unfold lineN; omega, ?_⟩
      refine comp_not (by simp) (fun x hx => h0 x g (h.it xs rfl x hx)) ?_
      rw [(ne_nil_l isI xs).2]
      simp [areI, q]
    · have q2 : ¬ ((xs.length : Int) = n) := by omega
      simp [tuV, q, q2, areI, -Bool.exists_bool]
  | _ => simp [tuV, areI, -Bool.exists_bool]
/-! ### discriminants -/
def discV (v : D) : Bool := match v with
  | .int d => decide (isDisc d)
  | _ => false
abbrev DiscC (Φ : Fns) (i : Nat) : Prop := ∀ (v : D) (g : G), okV v = true → Φ i [v] g = .ok (.bool (discV v)) g
-- @E is_discriminant DiscC discV_run 1 : is_integer_integers
theorem discV_run {i0 : Nat} {v : D} (h : okV v = true) (h0 : IsIC Φ i0) : Ok (Pv.run Φ fuel (m_is_discriminant i0) [some v] g) (retF fun r g' => r = .bool (discV v) ∧ g' = g) := by
  unfold m_is_discriminant
  simp [h0 v g h, -Bool.exists_bool]
  cases v with
  | int d => by_cases h1 : -20000 ≤ d <;> by_cases h2 : d ≤ -3 <;> simp [isI, discV, isDisc, in01, h1, h2]
  | _ => simp [isI, discV]
-- @E _law_is_discriminant DiscC ldiscV_run 1 : _law_is_integer
theorem ldiscV_run {i0 : Nat} {v : D} (h : okV v = true) (h0 : IsIC Φ i0) : Ok (Pv.run Φ fuel (m__law_is_discriminant i0) [some v] g) (retF fun r g' => r = .bool (discV v) ∧ g' = g) := by
  unfold m__law_is_discriminant
  simp [h0 v g h, -Bool.exists_bool]
  cases v with
  | int d =>
    have e : (d % 4 < 2) ↔ (d % 4 = 0 ∨ d % 4 = 1) := by omega
    by_cases h1 : -20000 ≤ d <;> by_cases h2 : d ≤ -3 <;> simp [isI, discV, isDisc, h1, h2, e]
  | _ => simp [isI, discV]
abbrev GcdC (Φ : Fns) (i : Nat) : Prop := ∀ (a b : Int) (g : G), Sz bg a → Sz bg b → Φ i [.int a, .int b] g = .ok (.int (Int.gcd a b)) g
-- @E common_divisor GcdC gcd_run 2
theorem gcd_run {a b : Int} (ha : Sz bg a) (hb : Sz bg b) : Ok (Pv.run Φ fuel m_common_divisor [some (.int a), some (.int b)] g) (retF fun r g' => r = .int (Int.gcd a b) ∧ g' = g) := common_divisor_run ha hb
-- @E _law_gcd GcdC lgcd_run 2
theorem lgcd_run {a b : Int} (ha : Sz bg a) (hb : Sz bg b) : Ok (Pv.run Φ fuel m__law_gcd [some (.int a), some (.int b)] g) (retF fun r g' => r = .int (Int.gcd a b) ∧ g' = g) := lawgcd_run ha hb
/-! ### forms -/
theorem areI_3 {v : D} (h : areI v 3 = true) : ∃ f : Fm, v = fD f := by
  unfold areI at h
  split at h
  · rename_i xs
    simp only [Bool.and_eq_true, decide_eq_true_eq, List.all_eq_true] at h
    obtain ⟨h1, h2⟩ := h
    match xs, h1, h2 with
    | [x, y, z], _, h2 =>
      have hx := h2 x (by simp); have hy := h2 y (by simp); have hz := h2 z (by simp)
      cases x <;> simp [isI] at hx
      cases y <;> simp [isI] at hy
      cases z <;> simp [isI] at hz
      exact ⟨(_, _, _), rfl⟩
  · cases h
def formV (v : D) : Bool := match v with
  | .tuple [.int a, .int b, .int c] => decide (isForm (a, b, c))
  | _ => false
def redV (v : D) : Bool := match v with
  | .tuple [.int a, .int b, .int c] => decide (isForm (a, b, c)) && decide (-a < b ∧ b ≤ a ∧ a ≤ c ∧ (0 ≤ b ∨ a < c))
  | _ => false
theorem formV_no {v : D} (h : areI v 3 = false) : formV v = false := by
  unfold formV
  split
  · cases h
  · rfl
theorem redV_no {v : D} (h : formV v = false) : redV v = false := by
  unfold redV
  split
  · have : decide _ = false := h
    rw [this]; rfl
  · rfl
theorem formV_at {v : D} (h : formV v = true) : ∃ f : Fm, v = fD f ∧ isForm f := by
  unfold formV at h
  split at h
  · exact ⟨(_, _, _), rfl, of_decide_eq_true h⟩
  · cases h
abbrev FormC (Φ : Fns) (i : Nat) : Prop := ∀ (v : D) (g : G), FitV v → Φ i [v] g = .ok (.bool (formV v)) g
theorem szF {a b c : Int} (h : FitV (fD (a, b, c))) : Sz bg a ∧ Sz bg b ∧ Sz bg c ∧ mulOk b b = true ∧ mulOk 4 a = true ∧ mulOk (4 * a) c = true := by
  have s := h.sz _ rfl
  have sa := s a (by simp); have sb := s b (by simp); have sc := s c (by simp)
  have s4 : Sz (3 + 700) (4 * a) := Sz.mul (show Sz 3 4 by unfold Sz; decide) sa
  exact ⟨sa.mono (by unfold bg; omega), sb.mono (by unfold bg; omega), sc.mono (by unfold bg; omega), mulOk_sz sb sb (by omega), mulOk_sz (show Sz 3 4 by unfold Sz; decide) sa (by omega), mulOk_sz s4 sc (by omega)⟩
-- @E is_form FormC formV_run 1 : are_integers common_divisor is_discriminant
theorem formV_run {i0 i1 i2 : Nat} {v : D} (h : FitV v) (h0 : AreIC Φ i0) (h1 : GcdC Φ i1) (h2 : DiscC Φ i2) : Ok (Pv.run Φ fuel (m_is_form i0 i1 i2) [some v, none, none, none] g) (retF fun r g' => r = .bool (formV v) ∧ g' = g) := by
  unfold m_is_form
  have e0 : Φ i0 [v, .int 3] g = .ok (.bool (areI v 3)) g := h0 v 3 g h
  cases q : areI v 3 with
  | false =>
    rw [q] at e0
    rw [Ok_seq]; simp [e0, formV_no q, -Bool.exists_bool]
  | true =>
    rw [q] at e0
    obtain ⟨⟨a, b, c⟩, rfl⟩ := areI_3 q
    obtain ⟨sa, sb, sc, m1, m2, m3⟩ := szF h
    rw [Ok_seq]; simp [e0, -Bool.exists_bool]
    rw [Ok_seq]; simp [fD]
    rw [Ok_seq]
    have e2 : ∀ g, Φ i2 [.int (b * b - 4 * a * c)] g = .ok (.bool (decide (isDisc (b * b - 4 * a * c)))) g := fun g => h2 (.int (b * b - 4 * a * c)) g rfl
    have fv : formV (.tuple [.int a, .int b, .int c]) = decide (isForm (a, b, c)) := rfl
    rw [fv]
    by_cases a0 : a ≤ 0
    · simp [a0, isForm, show ¬ 0 < a by omega, -Bool.exists_bool]
    · by_cases hd : isDisc (b * b - 4 * a * c)
      · have g1 := sz_gcd sa sb
        simp [m1, m2, m3, a0, hd, e2, h1 a b g sa sb, h1 _ _ _ g1 sc, isForm, disc, show 0 < a by omega, -Bool.exists_bool]
        omega
      · simp [m1, m2, m3, a0, hd, e2, isForm, disc, show 0 < a by omega, -Bool.exists_bool]
-- @E _law_is_form FormC lformV_run 1 : _law_are_integers _law_gcd _law_is_discriminant
theorem lformV_run {i0 i1 i2 : Nat} {v : D} (h : FitV v) (h0 : AreIC Φ i0) (h1 : GcdC Φ i1) (h2 : DiscC Φ i2) : Ok (Pv.run Φ fuel (m__law_is_form i0 i1 i2) [some v, none, none, none] g) (retF fun r g' => r = .bool (formV v) ∧ g' = g) := by
  unfold m__law_is_form
  have e0 : Φ i0 [v, .int 3] g = .ok (.bool (areI v 3)) g := h0 v 3 g h
  cases q : areI v 3 with
  | false =>
    rw [q] at e0
    rw [Ok_seq]; simp [e0, formV_no q, -Bool.exists_bool]
  | true =>
    rw [q] at e0
    obtain ⟨⟨a, b, c⟩, rfl⟩ := areI_3 q
    obtain ⟨sa, sb, sc, m1, m2, m3⟩ := szF h
    rw [Ok_seq]; simp [e0, -Bool.exists_bool]
    rw [Ok_seq]; simp [fD]
    have e2 : ∀ g, Φ i2 [.int (b * b - 4 * a * c)] g = .ok (.bool (decide (isDisc (b * b - 4 * a * c)))) g := fun g => h2 (.int (b * b - 4 * a * c)) g rfl
    have fv : formV (.tuple [.int a, .int b, .int c]) = decide (isForm (a, b, c)) := rfl
    rw [fv]
    by_cases a0 : 0 < a
    · by_cases hd : isDisc (b * b - 4 * a * c)
      · have g1 := sz_gcd sa sb
        simp [m1, m2, m3, a0, hd, e2, h1 a b g sa sb, h1 _ _ _ g1 sc, isForm, disc, -Bool.exists_bool]
        omega
      · simp [m1, m2, m3, a0, hd, e2, isForm, disc, -Bool.exists_bool]
    · simp [a0, isForm, -Bool.exists_bool]
      omega
abbrev RedC (Φ : Fns) (i : Nat) : Prop := ∀ (v : D) (g : G), FitV v → Φ i [v] g = .ok (.bool (redV v)) g
theorem redV_f (f : Fm) (h : isForm f) : redV (fD f) = decide (-f.1 < f.2.1 ∧ f.2.1 ≤ f.1 ∧ f.1 ≤ f.2.2 ∧ (0 ≤ f.2.1 ∨ f.1 < f.2.2)) := by
  show (decide (isForm f) && _) = _
  rw [decide_eq_true h]; rfl
-- @E is_reduced RedC redV_run 1 : is_form
theorem redV_run {i0 : Nat} {v : D} (h : FitV v) (h0 : FormC Φ i0) : Ok (Pv.run Φ fuel (m_is_reduced i0) [some v, none, none, none] g) (retF fun r g' => r = .bool (redV v) ∧ g' = g) := by
  unfold m_is_reduced
  have e0 := h0 v g h
  cases q : formV v with
  | false =>
    rw [q] at e0
    rw [Ok_seq]; simp [e0, redV_no q, -Bool.exists_bool]
  | true =>
    rw [q] at e0
    obtain ⟨f, rfl, hf⟩ := formV_at q
    rw [redV_f f hf]
    obtain ⟨a, b, c⟩ := f
    rw [Ok_seq]; simp [e0, -Bool.exists_bool]
    rw [Ok_seq]; simp [fD]
    by_cases h1 : -a < b <;> by_cases h2 : b ≤ a <;> by_cases h3 : a ≤ c <;> by_cases h4 : a = c <;> by_cases h5 : b < 0 <;> simp [h1, h2, h3, h4, h5] <;> omega
-- @E _law_is_reduced RedC lredV_run 1 : _law_is_form
theorem lredV_run {i0 : Nat} {v : D} (h : FitV v) (h0 : FormC Φ i0) : Ok (Pv.run Φ fuel (m__law_is_reduced i0) [some v, none, none, none] g) (retF fun r g' => r = .bool (redV v) ∧ g' = g) := by
  unfold m__law_is_reduced
  have e0 := h0 v g h
  cases q : formV v with
  | false =>
    rw [q] at e0
    rw [Ok_seq]; simp [e0, redV_no q, -Bool.exists_bool]
  | true =>
    rw [q] at e0
    obtain ⟨f, rfl, hf⟩ := formV_at q
    rw [redV_f f hf]
    obtain ⟨a, b, c⟩ := f
    rw [Ok_seq]; simp [e0, -Bool.exists_bool]
    rw [Ok_seq]; simp [fD]
    by_cases h1 : -a < b <;> by_cases h2 : b ≤ a <;> by_cases h3 : a ≤ c <;> by_cases h4 : a < c <;> by_cases h5 : 0 ≤ b <;> simp [h1, h2, h3, h4, h5] <;> omega
/-! ### matrices -/
abbrev MatC (Φ : Fns) (i : Nat) : Prop := ∀ (v : D) (g : G), FitV v → Φ i [v] g = .ok (.bool (isMx v)) g
theorem mx_any {i0 : Nat} {v : D} (h : FitV v) (h0 : AreIC Φ i0) : Ok (Pv.run Φ fuel (.ret (.and (.call i0 (.cons (.var 0) (.cons (.c (.int 4)) .nil))) (.cmp .eq (.bin .sub (.bin .mul (.idx (.var 0) (.c (.int 0))) (.idx (.var 0) (.c (.int 3)))) (.bin .mul (.idx (.var 0) (.c (.int 1))) (.idx (.var 0) (.c (.int 2))))) (.c (.int 1))))) [some v] g) (retF fun r g' => r = .bool (isMx v) ∧ g' = g) := by
  have e0 : Φ i0 [v, .int 4] g = .ok (.bool (areI v 4)) g := h0 v 4 g h
  cases q : areI v 4 with
  | false =>
    rw [q] at e0
    simp [e0, isMx_of q]
  | true =>
    rw [q] at e0
    obtain ⟨m, rfl⟩ := areI_4 q
    rw [isMx_mD]
    obtain ⟨a, b, c, d⟩ := m
    have s := h.sz _ rfl
    have sa := s a (by simp); have sb := s b (by simp); have sc := s c (by simp); have sd := s d (by simp)
    have M : ∀ {i j : Int}, Sz 700 i → Sz 700 j → mulOk i j = true := fun h1 h2 => mulOk_sz h1 h2 (by omega)
    have e1 : idxV (mD (a, b, c, d)) (.int 0) = some (.int a) := idx_tuple (n := 0) rfl
    have e2 : idxV (mD (a, b, c, d)) (.int 1) = some (.int b) := idx_tuple (n := 1) rfl
    have e3 : idxV (mD (a, b, c, d)) (.int 2) = some (.int c) := idx_tuple (n := 2) rfl
    have e4 : idxV (mD (a, b, c, d)) (.int 3) = some (.int d) := idx_tuple (n := 3) rfl
    by_cases w : a * d - b * c = 1 <;> simp [e0, e1, e2, e3, e4, M sa sd, M sb sc, det, w]
-- @E is_matrix MatC mx_run 1 : are_integers
theorem mx_run {i0 : Nat} {v : D} (h : FitV v) (h0 : AreIC Φ i0) : Ok (Pv.run Φ fuel (m_is_matrix i0) [some v] g) (retF fun r g' => r = .bool (isMx v) ∧ g' = g) := mx_any h h0
-- @E _law_is_matrix MatC lmx_run 1 : _law_are_integers
theorem lmx_run {i0 : Nat} {v : D} (h : FitV v) (h0 : AreIC Φ i0) : Ok (Pv.run Φ fuel (m__law_is_matrix i0) [some v] g) (retF fun r g' => r = .bool (isMx v) ∧ g' = g) := mx_any h h0
/-! ### all four -/
def fourV (v : D) : List Bool := [discV v, formV v, redV v, isMx v]
theorem show_four : ∀ a b c d : Bool, showOk (.list [.list [.bool a, .bool b, .bool c, .bool d], .list [.bool a, .bool b, .bool c, .bool d]]) = true := by decide +kernel
abbrev AskC (Φ : Fns) (i : Nat) : Prop := ∀ (v : D) (g : G), FitV v → Φ i [v] g = .ok (.list [.list [.bool (discV v), .bool (formV v), .bool (redV v), .bool (isMx v)], .list [.bool (discV v), .bool (formV v), .bool (redV v), .bool (isMx v)]]) g
-- @E _law_asked AskC ask_run 1 : is_discriminant is_form is_matrix is_reduced
theorem ask_run {i0 i1 i2 i3 : Nat} {v : D} (h : FitV v) (h0 : DiscC Φ i0) (h1 : FormC Φ i1) (h2 : MatC Φ i2) (h3 : RedC Φ i3) : Ok (Pv.run Φ fuel (m__law_asked i0 i1 i2 i3) [some v, none, none] g) (retF fun r g' => r = .list [.list [.bool (discV v), .bool (formV v), .bool (redV v), .bool (isMx v)], .list [.bool (discV v), .bool (formV v), .bool (redV v), .bool (isMx v)]] ∧ g' = g) := by
  unfold m__law_asked
  rw [Ok_seq]; simp [h0 v g h.nd, h1 v g h, h2 v g h, h3 v g h]
  rw [Ok_seq]; simp [pm, h0 v g h.nd, h1 v g h, h2 v g h, h3 v g h]
abbrev RightC (Φ : Fns) (i : Nat) : Prop := ∀ (v : D) (g : G), FitV v → Φ i [v] g = .ok (.bool true) g
-- @E _law_is_right RightC right_run 1 : _law_asked _law_is_discriminant _law_is_form _law_is_matrix _law_is_reduced
theorem right_run {i0 i1 i2 i3 i4 : Nat} {v : D} (h : FitV v) (h0 : AskC Φ i0) (h1 : DiscC Φ i1) (h2 : FormC Φ i2) (h3 : MatC Φ i3) (h4 : RedC Φ i4) : Ok (Pv.run Φ fuel (m__law_is_right i0 i1 i2 i3 i4) [some v, none] g) (retF fun r g' => r = .bool true ∧ g' = g) := by
  unfold m__law_is_right
  rw [Ok_seq]; simp [h1 v g h.nd, h2 v g h, h3 v g h, h4 v g h]
  simp [h0 v g h, bi_repr (show_four _ _ _ _), eq_same]
end Xk35
end

section
/-! FoN: drawn discriminants. -/
set_option autoImplicit false
namespace Xk35
open PySem Pv
variable {Φ : Fns} {g : G}
def intIn (lo hi : Int) : D → Bool
  | .int i => decide (lo ≤ i) && decide (i ≤ hi)
  | _ => false
theorem of_intIn {lo hi : Int} {d : D} (h : intIn lo hi d = true) : ∃ i, d = .int i ∧ lo ≤ i ∧ i ≤ hi := by
  cases d with
  | int i => simp [intIn] at h; exact ⟨i, rfl, h⟩
  | _ => simp [intIn] at h
theorem discriminant_run {i0 i1 n : Nat} (hd : DkOk n g) (hn : n < 900000) (h0 : ∀ (n : Nat) (below : Int) g, DkOk n g → 0 < below → below.natAbs.log2 < 8999 → n < 1000000 → Ok (Φ i0 [tokD 0, .int below] g) (fun r g' => DkOk (n + 1) g' ∧ ∃ i, r = .int i ∧ 0 ≤ i ∧ i < below))
    (h1 : ∀ (n : Nat) (xs : List D) g, DkOk n g → n < 1000000 → xs ≠ [] → xs.length < 100000 → Ok (Φ i1 [tokD 0, .tuple xs] g) (fun r g' => DkOk (n + 1) g' ∧ r ∈ xs)) :
    Ok (Pv.run Φ fuel (m__law_discriminant i0 i1) [some (tokD 0), none, none, none, none] g) (retF fun r g' => DkOk (n + 3) g' ∧ ∃ d, r = .int d ∧ isDisc d) := by
  unfold m__law_discriminant
  generalize hQ : retF _ = QQ
  have dv : dispV [.int 0, .int 0, .int 1, .int 0, .int 2, .int 1, .int 3, .int 2] [] = some [(.int 0, .int 0), (.int 1, .int 0), (.int 2, .int 1), (.int 3, .int 2)] := rfl
  have last : ∀ (x : Int) g', DkOk (n + 3) g' → -20000 ≤ x → x ≤ -3 → ∃ t : Int, dixV (.dict [(.int 0, .int 0), (.int 1, .int 0), (.int 2, .int 1), (.int 3, .int 2)]) (.int (x % 4)) = some (.int t) ∧ QQ (.rt (.int (x - t))) g' := fun x g' hg x1 x2 => by
    have fin : ∀ t : Int, (x % 4 = 0 ∧ t = 0) ∨ (x % 4 = 1 ∧ t = 0) ∨ (x % 4 = 2 ∧ t = 1) ∨ (x % 4 = 3 ∧ t = 2) → QQ (.rt (.int (x - t))) g' := fun t ht => by
      subst hQ
      refine ⟨hg, _, rfl, ?_⟩
      unfold isDisc
      omega
    have h : x % 4 = 0 ∨ x % 4 = 1 ∨ x % 4 = 2 ∨ x % 4 = 3 := by omega
    rcases h with h | h | h | h
    · exact ⟨0, by rw [h]; rfl, fin 0 (by omega)⟩
    · exact ⟨0, by rw [h]; rfl, fin 0 (by omega)⟩
    · exact ⟨1, by rw [h]; rfl, fin 1 (by omega)⟩
    · exact ⟨2, by rw [h]; rfl, fin 2 (by omega)⟩
  rw [Ok_seq]; simp
  refine (h0 n 4 g hd (by omega) (by decide) (by omega)).mono ?_
  rintro _ g1 ⟨hg1, w, rfl, w0, w1⟩
  rw [Ok_seq]
  by_cases q0 : w = 0
  · subst q0
    simp
    refine (h0 _ 120 g1 hg1 (by omega) (by decide) (by omega)).mono ?_
    rintro _ g2 ⟨hg2, x, rfl, x0, x1⟩
    obtain ⟨t, e, q⟩ := last (-3 - x) g2 (hg2.mono (by omega)) (by omega) (by omega)
    simp [dv, e]
    exact q
  · by_cases q1 : w = 1
    · subst q1
      simp
      refine (h0 _ 19998 g1 hg1 (by omega) (by decide) (by omega)).mono ?_
      rintro _ g2 ⟨hg2, x, rfl, x0, x1⟩
      obtain ⟨t, e, q⟩ := last (-3 - x) g2 (hg2.mono (by omega)) (by omega) (by omega)
      simp [dv, e]
      exact q
    · simp [q0, q1]
      rw [Ok_seq]; simp
      rw [Ok_seq]; simp
      refine (h1 _ _ g1 hg1 (by omega) (by simp) (by simp)).mono ?_
      rintro r g2 ⟨hg2, hr⟩
      obtain ⟨f, rfl, f0, f1⟩ := of_intIn (lo := 1) (hi := 30) (List.all_eq_true.mp (by decide) r hr)
      refine (h1 _ _ g2 hg2 (by omega) (by simp) (by simp)).mono ?_
      rintro r g3 ⟨hg3, hr⟩
      obtain ⟨s, rfl, s0, s1⟩ := of_intIn (lo := -300) (hi := -3) (List.all_eq_true.mp (by decide) r hr)
      have m1 : mulOk s f = true := mulOk_2 (by omega) (by omega)
      have m2 : mulOk (s * f) f = true := mulOk_2 (by omega) (by omega)
      have p1 : s * f ≤ -3 := by
        have := mulL (show 1 ≤ f by omega) (show 0 ≤ -s by omega)
        have t : -s * f = -(s * f) := Int.neg_mul ..
        omega
      have p2 : s * f * f ≤ -3 := by
        have := mulL (show 1 ≤ f by omega) (show 0 ≤ -(s * f) by omega)
        have t : -(s * f) * f = -(s * f * f) := Int.neg_mul ..
        omega
      obtain ⟨t, e, q⟩ := last (if -20000 < s * f * f then s * f * f else -20000) g3 (hg3.mono (by omega)) (by split <;> omega) (by split <;> omega)
      simp [m1, m2, dv, e]
      exact q
end Xk35
end

section
/-! FoG: roots, conductors, symbols, prime forms. -/
set_option autoImplicit false
namespace Xk35
open PySem Pv
variable {Φ : Fns} {g : G}
theorem whole_root_run {n : Int} (h1 : 0 ≤ n) (h2 : n < 1099511627776) : Ok (Pv.run Φ fuel m_whole_root [some (.int n), none, none, none] g) (retF fun r g' => (∃ x, r = .int x ∧ 0 ≤ x ∧ x * x ≤ n ∧ n < (x + 1) * (x + 1)) ∧ g' = g) := by
  unfold m_whole_root
  generalize hQ : retF _ = QQ
  rw [Ok_seq]; simp
  rw [Ok_seq]; simp
  rw [Ok_seq, Ok_while]
  refine ok_whileL (fun m σ g' => g' = g ∧ ∃ h : Int, σ = [some (.int n), some (.int 0), some (.int h), none] ∧ 1 ≤ h ∧ h ≤ 2 * n + 1 ∧ m = (2 * n + 2 - h).toNat) ?_ fuel (2 * n + 1).toNat (by unfold fuel; omega) ⟨rfl, 1, rfl, by omega, by omega, by omega⟩
  rintro m σ g' ⟨rfl, h, rfl, a1, a2, rfl⟩
  have m1 : mulOk h h = true := mulOk_2 (by omega) (by omega)
  generalize hL : loopF _ _ = LL
  by_cases hw : h * h ≤ n
  · have : h ≤ n := by
      have := mulL (show 1 ≤ h by omega) (show 0 ≤ h by omega)
      omega
    simp [m1, hw]
    subst hL
    exact ⟨_, by omega, rfl, 2 * h, rfl, by omega, by omega, rfl⟩
  · simp [m1, hw]
    rw [Ok_seq, Ok_while]
    refine ok_whileL (fun m σ g2 => g2 = g' ∧ ∃ (lo hi : Int) (y : Option D), σ = [some (.int n), some (.int lo), some (.int hi), y] ∧ 0 ≤ lo ∧ lo < hi ∧ hi ≤ h ∧ lo * lo ≤ n ∧ n < hi * hi ∧ m = (hi - lo).toNat) ?_ fuel h.toNat (by unfold fuel; omega) ⟨rfl, 0, h, none, rfl, by omega, by omega, by omega, by omega, by omega, by omega⟩
    rintro m σ g2 ⟨rfl, lo, hi, y, rfl, b1, b2, b3, b4, b5, rfl⟩
    generalize hL2 : loopF _ _ = LL2
    by_cases hw2 : 1 < hi - lo
    · simp [hw2]
      generalize hk : (lo + hi) / 2 = k
      have k1 : lo < k := by omega
      have k2 : k < hi := by omega
      have m2 : mulOk k k = true := mulOk_2 (by omega) (by omega)
      rw [Ok_seq]; simp [hk]
      by_cases hw3 : k * k ≤ n
      · simp [m2, hw3]
        subst hL2
        exact ⟨_, by omega, rfl, k, hi, _, rfl, by omega, by omega, by omega, by omega, by omega, rfl⟩
      · simp [m2, hw3]
        subst hL2
        exact ⟨_, by omega, rfl, lo, k, _, rfl, by omega, by omega, by omega, by omega, by omega, rfl⟩
    · simp [hw2]
      have e : hi = lo + 1 := by omega
      subst hQ
      exact ⟨⟨lo, rfl, b1, b4, by rw [← e]; exact b5⟩, rfl⟩
theorem fundamental_run {i0 : Nat} {d F : Int} (h1 : -20000 ≤ d) (h2 : d ≤ -3) (hm : MaxC d F) (h0 : ∀ n g, 0 ≤ n → n < 1099511627776 → Ok (Φ i0 [.int n] g) fun r g' => (∃ x, r = .int x ∧ 0 ≤ x ∧ x * x ≤ n ∧ n < (x + 1) * (x + 1)) ∧ g' = g) :
    Ok (Pv.run Φ fuel (m_fundamental i0) [some (.int d), none, none] g) (retF fun r g' => r = .tuple [.int F, .int (d / (F * F))] ∧ g' = g) := by
  unfold m_fundamental
  generalize hQ : retF _ = QQ
  have F1 := hm.pos
  have Fb := hm.good.bound F1 (by omega)
  rw [Ok_seq]; simp
  refine (h0 (-d) g (by omega) (by omega)).mono ?_
  rintro _ g' ⟨⟨x, rfl, x0, x1, x2⟩, rfl⟩
  have Fx : F < x + 1 := by
    have := prod1 F1 F1
    exact sq_lt (by omega) (by omega)
  have xb : x ≤ 20000 := by
    have := mulL (show 1 ≤ x by omega) (show 0 ≤ x by omega)
    omega
  rw [Ok_while]
  refine ok_whileL (fun m σ g2 => g2 = g' ∧ ∃ (c : Int) (y : Option D), σ = [some (.int d), some (.int c), y] ∧ F ≤ c ∧ c ≤ x ∧ m = c.toNat) ?_ fuel x.toNat (by unfold fuel; omega) ⟨rfl, x, none, rfl, by omega, by omega, rfl⟩
  rintro m σ g2 ⟨rfl, c, y, rfl, c1, c2, rfl⟩
  generalize hL : loopF _ _ = LL
  have m1 : mulOk c c = true := mulOk_2 (by omega) (by omega)
  have cc : 0 < c * c := prod1 (show 1 ≤ c by omega) (show 1 ≤ c by omega)
  have cl : (c * c).natAbs.log2 < 9000 := by
    have s : Sz 15 c := by unfold Sz; omega
    have := (s.mul s).log
    omega
  simp
  rw [Ok_seq]; simp [m1]
  rw [Ok_seq]
  by_cases hc : F = c
  · subst hc
    obtain ⟨g1, g2'⟩ := hm.good
    have : d / (F * F) % 4 = 0 ∨ d / (F * F) % 4 = 1 := by omega
    have fin : LL (.rt (.tuple [.int F, .int (d / (F * F))])) g2 := by
      subst hL
      subst hQ
      exact ⟨rfl, rfl⟩
    rcases this with e | e
    · simp [cc, cl, g1, in01, e]
      exact fin
    · simp [cc, cl, g1, in01, e]
      exact fin
  · have ng := hm.max c (by omega)
    have out : LL (.nx [some (.int d), some (.int (c - 1)), some (.int (c * c))]) g2 := by
      subst hL
      exact ⟨_, by omega, rfl, c - 1, _, rfl, by omega, by omega, rfl⟩
    by_cases q1 : d % (c * c) = 0
    · have q2 : ¬ d / (c * c) % 4 = 0 ∧ ¬ d / (c * c) % 4 = 1 := by
        have : ¬ d / (c * c) % 4 < 2 := fun z => ng ⟨q1, z⟩
        omega
      simp [cc, cl, q1, in01, q2]
      exact out
    · simp [cc, q1]
      exact out
/-- a list of ints beside the empty one -/
theorem ne_nil (xs : List Int) : cmpV .ne (.list (xs.map .int)) (.list []) = some (!xs.isEmpty) := by
  show (eqD (.list (xs.map .int)) (.list [])).map (!·) = _
  have s1 : shp (.list (xs.map .int)) = true := shp_ints xs
  have s2 : shp (.list []) = true := rfl
  have e : eqD (.list (xs.map .int)) (.list []) = some (PyData.eqv (.list (xs.map .int)) (.list [])) := by
    show (if shp (.list (xs.map .int)) && shp (.list []) then some (PyData.eqv (.list (xs.map .int)) (.list [])) else lensV (.list (xs.map .int)) (.list [])) = _
    rw [s1, s2]; rfl
  rw [e]
  cases xs <;> rfl
end Xk35
end

section
/-! FkB: k35: decks, bent rows, fundamental discriminants, the curve that is no form. -/
set_option autoImplicit false
namespace Xk35
open PySem Pv
variable {Φ : Fns} {g : G}
abbrev DrawC (Φ : Fns) (i : Nat) : Prop := ∀ (n : Nat) (below : Int) (g : G), DkOk n g → 0 < below → below.natAbs.log2 < 8999 → n < 1000000 → Ok (Φ i [tokD 0, .int below] g) fun r g' => DkOk (n + 1) g' ∧ ∃ i, r = .int i ∧ 0 ≤ i ∧ i < below
-- @F _law_draw DrawC drawK_run 4
theorem drawK_run {n : Nat} {below : Int} (hd : DkOk n g) (h0 : 0 < below) (hl : below.natAbs.log2 < 8999) (hn : n < 1000000) :
    Ok (Pv.run Φ fuel m__law_draw [some (tokD 0), some (.int below), none, none] g) (retF fun r g' => DkOk (n + 1) g' ∧ ∃ i, r = .int i ∧ 0 ≤ i ∧ i < below) := draw_run hd h0 hl hn
abbrev DeckC (Φ : Fns) (i : Nat) : Prop := Ok (Φ i [tokD 1] none) fun r g' => r = tokD 0 ∧ DkOk 0 g'
-- @F _law_deck DeckC deckK_run 0
theorem deckK_run {ns : List Int} : Ok (Pv.run Φ fuel (m__law_deck ns) [some (tokD 1), none, none, none] none) (retF fun r g' => r = tokD 0 ∧ DkOk 0 g') := deck_run
abbrev PickTC (Φ : Fns) (i : Nat) : Prop := ∀ (n : Nat) (xs : List D) (g : G), DkOk n g → n < 1000000 → xs ≠ [] → xs.length < 100000 → Ok (Φ i [tokD 0, .tuple xs] g) fun r g' => DkOk (n + 1) g' ∧ r ∈ xs
abbrev PickLC (Φ : Fns) (i : Nat) : Prop := ∀ (n : Nat) (xs : List D) (g : G), DkOk n g → n < 1000000 → xs ≠ [] → xs.length < 100000 → Ok (Φ i [tokD 0, .list xs] g) fun r g' => DkOk (n + 1) g' ∧ r ∈ xs
-- @F _law_pick PickTC pickTK_run 4 : _law_draw
theorem pickTK_run {i0 n : Nat} {xs : List D} (hd : DkOk n g) (hn : n < 1000000) (hx : xs ≠ []) (hl : xs.length < 100000) (h0 : DrawC Φ i0) :
    Ok (Pv.run Φ fuel (m__law_pick i0) [some (tokD 0), some (.tuple xs)] g) (retF fun r g' => DkOk (n + 1) g' ∧ r ∈ xs) := pickT_run hd hn hx hl h0
-- @F _law_pick PickLC pickLK_run 4 : _law_draw
theorem pickLK_run {i0 n : Nat} {xs : List D} (hd : DkOk n g) (hn : n < 1000000) (hx : xs ≠ []) (hl : xs.length < 100000) (h0 : DrawC Φ i0) :
    Ok (Pv.run Φ fuel (m__law_pick i0) [some (tokD 0), some (.list xs)] g) (retF fun r g' => DkOk (n + 1) g' ∧ r ∈ xs) := pickL_run hd hn hx hl h0
abbrev LDiscC (Φ : Fns) (i : Nat) : Prop := ∀ (n : Nat) (g : G), DkOk n g → n < 900000 → Ok (Φ i [tokD 0] g) fun r g' => DkOk (n + 3) g' ∧ ∃ d, r = .int d ∧ isDisc d
-- @F _law_discriminant LDiscC ldisc_run 2 : _law_draw _law_pick/PickTC
theorem ldisc_run {i0 i1 n : Nat} (hd : DkOk n g) (hn : n < 900000) (h0 : DrawC Φ i0) (h1 : PickTC Φ i1) : Ok (Pv.run Φ fuel (m__law_discriminant i0 i1) [some (tokD 0), none, none, none, none] g) (retF fun r g' => DkOk (n + 3) g' ∧ ∃ d, r = .int d ∧ isDisc d) := discriminant_run hd hn h0 h1
abbrev LClC (Φ : Fns) (i : Nat) : Prop := ∀ (d : Int) (g : G), isDisc d → Φ i [.int d] g = .ok (.list ((PL d).map fD)) g
-- @E _law_classes LClC lcl_run 1 : _law_gcd
theorem lcl_run {i0 : Nat} {d : Int} (hd : isDisc d) (h0 : GcdC Φ i0) : Ok (Pv.run Φ fuel (m__law_classes i0) [some (.int d), none, none, none, none] g) (retF fun r g' => r = .list ((PL d).map fD) ∧ g' = g) := lawclasses_run hd.1 hd.2.1 hd.2.2 h0
abbrev LTimC (Φ : Fns) (i : Nat) : Prop := ∀ (m n : Mx) (g : G), SzM 400 m → SzM 400 n → Φ i [mD m, mD n] g = .ok (mD (mulM m n)) g
-- @E _law_times LTimC ltim_run 2
theorem ltim_run {m n : Mx} (hm : SzM 400 m) (hn : SzM 400 n) : Ok (Pv.run Φ fuel m__law_times [some (mD m), some (mD n), none, none, none, none, none, none, none, none] g) (retF fun r g' => r = mD (mulM m n) ∧ g' = g) := lawtimes_run hm hn (by omega)
abbrev LLedC (Φ : Fns) (i : Nat) : Prop := ∀ (f : Fm) (m : Mx) (g : G), SzK 200 f → SzM 200 m → Φ i [fD f, mD m] g = .ok (fD (ledF f m)) g
-- @E _law_led LLedC lled_run 2
theorem lled_run {f : Fm} {m : Mx} (hf : SzK 200 f) (hm : SzM 200 m) : Ok (Pv.run Φ fuel m__law_led [some (fD f), some (mD m), none, none, none, none, none, none, none, none, none] g) (retF fun r g' => r = fD (ledF f m) ∧ g' = g) := lawled_run hf hm (by omega)
abbrev LMatC (Φ : Fns) (i : Nat) : Prop := ∀ (n : Nat) (many great : Int) (g : G), DkOk n g → n < 900000 → 0 ≤ many → many ≤ 6 → 1 ≤ great → great ≤ 10000000 → Ok (Φ i [tokD 0, .int many, .int great] g) fun r g' => DkOk (n + 20) g' ∧ ∃ m, r = mD m ∧ det m = 1 ∧ SzM 200 m
-- @F _law_matrix LMatC lmat_run 6 : _law_draw _law_times
theorem lmat_run {i0 i1 n : Nat} {many great : Int} (hd : DkOk n g) (hn : n < 900000) (m0 : 0 ≤ many) (m1 : many ≤ 6) (g0 : 1 ≤ great) (g1 : great ≤ 10000000) (h0 : DrawC Φ i0) (h1 : LTimC Φ i1) :
    Ok (Pv.run Φ fuel (m__law_matrix i0 i1) [some (tokD 0), some (.int many), some (.int great), none, none, none, none] g) (retF fun r g' => DkOk (n + 20) g' ∧ ∃ m, r = mD m ∧ det m = 1 ∧ SzM 200 m) := lawmatrix_run hd hn m0 m1 g0 g1 h0 h1
/-! ### fundamental discriminants -/
abbrev RootC (Φ : Fns) (i : Nat) : Prop := ∀ (n : Int) (g : G), 0 ≤ n → n < 1099511627776 → Ok (Φ i [.int n] g) fun r g' => (∃ x, r = .int x ∧ 0 ≤ x ∧ x * x ≤ n ∧ n < (x + 1) * (x + 1)) ∧ g' = g
-- @F whole_root RootC rootK_run 2
theorem rootK_run {n : Int} (h1 : 0 ≤ n) (h2 : n < 1099511627776) : Ok (Pv.run Φ fuel m_whole_root [some (.int n), none, none, none] g) (retF fun r g' => (∃ x, r = .int x ∧ 0 ≤ x ∧ x * x ≤ n ∧ n < (x + 1) * (x + 1)) ∧ g' = g) := whole_root_run h1 h2
abbrev FundC (Φ : Fns) (i : Nat) : Prop := ∀ (d F : Int) (g : G), isDisc d → MaxC d F → Φ i [.int d] g = .ok (.tuple [.int F, .int (d / (F * F))]) g
-- @E fundamental FundC fund_run 2 : whole_root
theorem fund_run {i0 : Nat} {d F : Int} (hd : isDisc d) (hm : MaxC d F) (h0 : RootC Φ i0) : Ok (Pv.run Φ fuel (m_fundamental i0) [some (.int d), none, none] g) (retF fun r g' => r = .tuple [.int F, .int (d / (F * F))] ∧ g' = g) := fundamental_run hd.1 hd.2.1 hm h0
abbrev DatC (Φ : Fns) (i : Nat) : Prop := ∀ (f : Fm) (g : G), SzK 700 f → Φ i [fD f] g = .ok (.int (disc f)) g
-- @E discriminant_at DatC dat_run 1
theorem dat_run {f : Fm} (h : SzK 700 f) : Ok (Pv.run Φ fuel m_discriminant_at [some (fD f), none, none, none] g) (retF fun r g' => r = .int (disc f) ∧ g' = g) := discriminant_at_run h (by omega)
theorem SzK_fit {f : Fm} {k : Nat} (h : SzK k f) (hk : k ≤ 700) : FitV (fD f) := by
  obtain ⟨a, b, c⟩ := f
  obtain ⟨h1, h2, h3⟩ := h
  refine .tup (by simp) fun x hx => ?_
  simp at hx
  rcases hx with rfl | rfl | rfl
  · exact ⟨rfl, fun i e => by cases e; exact h1.mono hk⟩
  · exact ⟨rfl, fun i e => by cases e; exact h2.mono hk⟩
  · exact ⟨rfl, fun i e => by cases e; exact h3.mono hk⟩
theorem SzM_fitV {m : Mx} {k : Nat} (h : SzM k m) (hk : k ≤ 700) : FitV (mD m) := by
  obtain ⟨a, b, c, d⟩ := m
  obtain ⟨h1, h2, h3, h4⟩ := h
  refine .tup (by simp) fun x hx => ?_
  simp at hx
  rcases hx with rfl | rfl | rfl | rfl
  · exact ⟨rfl, fun i e => by cases e; exact h1.mono hk⟩
  · exact ⟨rfl, fun i e => by cases e; exact h2.mono hk⟩
  · exact ⟨rfl, fun i e => by cases e; exact h3.mono hk⟩
  · exact ⟨rfl, fun i e => by cases e; exact h4.mono hk⟩
abbrev DofC (Φ : Fns) (i : Nat) : Prop := ∀ (f : Fm) (g : G), isForm f → SzK 700 f → Φ i [fD f] g = .ok (.int (disc f)) g
-- @E discriminant_of DofC dof_run 2 : discriminant_at is_form
theorem dof_run {i0 i1 : Nat} {f : Fm} (hf : isForm f) (hs : SzK 700 f) (h0 : DatC Φ i0) (h1 : FormC Φ i1) : Ok (Pv.run Φ fuel (m_discriminant_of i0 i1) [some (fD f)] g) (retF fun r g' => r = .int (disc f) ∧ g' = g) :=
  discriminant_of_run hf (h1 _ g (SzK_fit hs (by omega))) (h0 f g hs)
end Xk35
end

section
/-! FkC: k35: the law's conductors, bent rows, one curve. -/
set_option autoImplicit false
namespace Xk35
open PySem Pv
variable {Φ : Fns} {g : G}
/-! ### conductors by a list -/
theorem fm_last {P : Nat → Prop} [DecidablePred P] {e : Nat → Int} : ∀ {n : Nat}, (∃ k, k < n ∧ P k) → ∃ (L : List Int) (a : Nat), (List.range n).filterMap (fun k => if P k then some (e k) else none) = L ++ [e a] ∧ a < n ∧ P a ∧ ∀ k, a < k → k < n → ¬ P k
  | 0, h => by obtain ⟨k, hk, _⟩ := h; omega
  | n + 1, h => by
    rw [List.range_succ, List.filterMap_append]
    by_cases q : P n
    · exact ⟨(List.range n).filterMap fun k => if P k then some (e k) else none, n, by simp [q], by omega, q, fun k h1 h2 => by omega⟩
    · obtain ⟨k, hk, hp⟩ := h
      obtain ⟨L, a, e1, e2, e3, e4⟩ := fm_last (P := P) (e := e) (n := n) ⟨k, by
        rcases Nat.lt_or_ge k n with z | z
        · exact z
        · exact absurd (show P n by rwa [show n = k by omega]) q, hp⟩
      refine ⟨L, a, by rw [e1]; simp [q], by omega, e3, fun k h1 h2 => ?_⟩
      by_cases z : k = n
      · subst z; exact q
      · exact e4 k h1 (by omega)
theorem good_iff {d f : Int} (hd : isDisc d) (f1 : 1 ≤ f) : (d % (f * f) = 0 ∧ isDisc (d / (f * f))) ↔ goodC d f := by
  constructor
  · rintro ⟨h1, h2⟩
    exact ⟨h1, by have := h2.2.2; omega⟩
  · intro h
    have b := h.bound f1 (by have := hd.2.1; omega)
    obtain ⟨h1, h2⟩ := h
    have p := prod1 f1 f1
    have e := Int.emod_add_mul_ediv d (f * f)
    rw [h1] at e
    refine ⟨h1, ?_⟩
    have hd1 := hd.1
    generalize hq : d / (f * f) = q at *
    generalize f * f = s at *
    have q1 : q ≤ -3 := by
      rcases Int.lt_or_le (-3) q with z | z
      · have := Int.mul_le_mul_of_nonneg_left (show -2 ≤ q by omega) (show 0 ≤ s by omega)
        omega
      · exact z
    have q2 : -20000 ≤ q := by
      have := Int.mul_le_mul_of_nonneg_right (show 1 ≤ s by omega) (show 0 ≤ -q by omega)
      have t : s * -q = -(s * q) := Int.mul_neg ..
      omega
    have := Int.emod_nonneg q (show (4 : Int) ≠ 0 by omega)
    exact ⟨q2, q1, by omega⟩
abbrev LFundC (Φ : Fns) (i : Nat) : Prop := ∀ (d : Int) (g : G), isDisc d → Ok (Φ i [.int d] g) fun r g' => (∃ F, MaxC d F ∧ r = .tuple [.int F, .int (d / (F * F))]) ∧ g' = g
theorem last_l {L : List Int} {x : Int} : idxV (.list ((L ++ [x]).map .int)) (.int (-1)) = some (.int x) := by
  rw [List.map_append]
  exact L2.atI_last _ _
-- @F _law_fundamental LFundC lfund_run 1 : _law_is_discriminant
theorem lfund_run {i0 : Nat} {d : Int} (hd : isDisc d) (h0 : DiscC Φ i0) : Ok (Pv.run Φ fuel (m__law_fundamental i0) [some (.int d), none, none] g) (retF fun r g' => (∃ F, MaxC d F ∧ r = .tuple [.int F, .int (d / (F * F))]) ∧ g' = g) := by
  unfold m__law_fundamental
  generalize hQ : retF _ = QQ
  rw [Ok_seq]; simp [-Bool.exists_bool]
  rw [itV_r2 (by omega) (by omega) (by omega) (by omega)]; simp [rng_len, -Bool.exists_bool]
  refine ⟨by unfold lineN; omega, ?_⟩
  have em : rangeD 1 141 = (List.range 141).map fun k : Nat => .int (1 + k) := rfl
  rw [em]
  obtain ⟨L, a, e1, e2, e3, e4⟩ := fm_last (P := fun k : Nat => goodC d (1 + (k : Int))) (e := fun k => 1 + (k : Int)) (n := 141) ⟨0, by omega, by
    have := hd.2.2
    refine ⟨by simp, ?_⟩
    simp
    omega⟩
  have hN : ∀ k ∈ List.range 141, k < 141 := fun k hk => List.mem_range.mp hk
  generalize List.range 141 = xs at *
  refine ok_compM (em := fun k : Nat => .int (1 + k)) (eo := .int) (u := fun k : Nat => if goodC d (1 + (k : Int)) then some (1 + (k : Int)) else none) (xs := xs) (fun k hk => ?_) ?_
  · have hk := hN k hk
    have p := prod1 (show 1 ≤ 1 + (k : Int) by omega) (show 1 ≤ 1 + (k : Int) by omega)
    have m1 : mulOk (1 + (k : Int)) (1 + (k : Int)) = true := mulOk_2 (by omega) (by omega)
    have s : Sz 15 (1 + (k : Int)) := by unfold Sz; omega
    have cl := (s.mul s).log
    have gi := good_iff hd (show 1 ≤ 1 + (k : Int) by omega)
    have dv : ∀ g, Φ i0 [.int (d / ((1 + (k : Int)) * (1 + k)))] g = .ok (.bool (decide (isDisc (d / ((1 + (k : Int)) * (1 + k)))))) g := fun g => h0 (.int _) g rfl
    rw [Ok_itemF]
    by_cases z1 : d % ((1 + (k : Int)) * (1 + k)) = 0
    · by_cases z2 : isDisc (d / ((1 + (k : Int)) * (1 + k)))
      · simp [wipeS, m1, z1, z2, dv, show 0 < (1 + (k : Int)) * (1 + k) by omega, show ((1 + (k : Int)) * (1 + k)).natAbs.log2 < 9000 by omega, gi.mp ⟨z1, z2⟩, -Bool.exists_bool]
      · have ng : ¬ goodC d (1 + (k : Int)) := fun w => z2 (gi.mpr w).2
        simp [wipeS, m1, z1, z2, dv, show 0 < (1 + (k : Int)) * (1 + k) by omega, show ((1 + (k : Int)) * (1 + k)).natAbs.log2 < 9000 by omega, ng, -Bool.exists_bool]
    · have ng : ¬ goodC d (1 + (k : Int)) := fun w => z1 (gi.mpr w).1
      simp [wipeS, m1, z1, show 0 < (1 + (k : Int)) * (1 + k) by omega, ng, -Bool.exists_bool]
  · rw [e1]
    have mx : MaxC d (1 + (a : Int)) := ⟨by omega, e3, fun f hf hg => by
      have := hg.le (by omega) (by have := hd.2.1; omega) hd.1
      have := e4 (f - 1).toNat (by omega) (by omega)
      rw [show 1 + ((f - 1).toNat : Int) = f by omega] at this
      exact this hg⟩
    have b := mx.good.le mx.pos (by have := hd.2.1; omega) hd.1
    generalize (1 + (a : Int)) = F at *
    have Fp := mx.pos
    have p := prod1 Fp Fp
    have m1 : mulOk F F = true := mulOk_2 (by omega) (by omega)
    have s : Sz 15 F := by unfold Sz; omega
    have cl := (s.mul s).log
    have ll := last_l (L := L) (x := F)
    rw [List.map_append] at ll ⊢
    simp at ll ⊢
    simp [ll, m1, show 0 < F * F by omega, show (F * F).natAbs.log2 < 9000 by omega]
    subst hQ
    exact ⟨⟨F, mx, rfl⟩, rfl⟩
/-! ### one curve -/
abbrev Pr7C (Φ : Fns) (i : Nat) : Prop := ∀ (g : G), Φ i [.int 7] g = .ok (.bool true) g
-- @E is_prime Pr7C pr7_run 0 : is_integer_primefield
theorem pr7_run {i0 : Nat} (h0 : IsIC Φ i0) : Ok (Pv.run Φ fuel (m_is_prime i0) [some (.int 7), none] g) (retF fun r g' => r = .bool true ∧ g' = g) := by
  have e0 : Φ i0 [.int 7] g = .ok (.bool true) g := h0 (.int 7) g rfl
  unfold m_is_prime
  generalize hQ : retF _ = QQ
  rw [Ok_seq]; simp [e0, -Bool.exists_bool]
  rw [Ok_seq, Ok_for]; simp [-Bool.exists_bool]
  refine ⟨_, rfl, ?_⟩
  refine ok_forL (fun k σ g2 => g2 = g ∧ ∃ y : Option D, σ = [some (.int 7), y]) ⟨rfl, none, rfl⟩ ?_ ?_
  · rintro k x σ g2 hx ⟨rfl, y, rfl⟩
    have hm := List.mem_of_getElem? hx
    have hl : ∃ l : Int, x = .int l ∧ 0 < l ∧ (7 % l = 0 → 7 = l) := by
      simp at hm
      rcases hm with rfl | rfl | rfl | rfl | rfl | rfl
      all_goals exact ⟨_, rfl, by decide, by decide⟩
    obtain ⟨l, rfl, lp, f⟩ := hl
    generalize hI : loopF _ _ = II
    rw [Ok_turnF]; simp [lp, -Bool.exists_bool]
    subst hI
    by_cases z : 7 % l = 0
    · simp [z, ← f z, -Bool.exists_bool]
    · simp [z, -Bool.exists_bool]
  · rintro σ g2 ⟨rfl, y, rfl⟩
    simp
    subst hQ
    exact ⟨rfl, rfl⟩
abbrev IsNumC (Φ : Fns) (i : Nat) : Prop := ∀ (p a : Int) (g : G), 0 ≤ a → a < p → Φ i [.int p, .int a] g = .ok (.bool true) g
-- @E is_number IsNumC is_num_run 2 : is_integer_primefield
theorem is_num_run {i0 : Nat} {p a : Int} (h1 : 0 ≤ a) (h2 : a < p) (h0 : IsIC Φ i0) : Ok (Pv.run Φ fuel (m_is_number i0) [some (.int p), some (.int a)] g) (retF fun r g' => r = .bool true ∧ g' = g) := by
  have e0 : Φ i0 [.int a] g = .ok (.bool true) g := h0 (.int a) g rfl
  unfold m_is_number
  simp [e0, h1, h2, -Bool.exists_bool]
def cur7 : D := objD 0 [(.str "prime", .int 7), (.str "a", .int 0), (.str "b", .int 2)]
theorem set_0 (v : D) : setFV 0 "prime" v (objD 0 []) = some (objD 0 [(.str "prime", v)]) := rfl
theorem set_1 (v w : D) : setFV 0 "a" w (objD 0 [(.str "prime", v)]) = some (objD 0 [(.str "prime", v), (.str "a", w)]) := rfl
theorem set_2 (v w x : D) : setFV 0 "b" x (objD 0 [(.str "prime", v), (.str "a", w)]) = some (objD 0 [(.str "prime", v), (.str "a", w), (.str "b", x)]) := rfl
abbrev Cur7C (Φ : Fns) (i : Nat) : Prop := ∀ (g : G), Φ i [objD 0 [], .int 7, .int 0, .int 2] g = .ok cur7 g
-- @E Curve___init__ Cur7C cur7_run 0 : is_number is_prime
theorem cur7_run {i0 i1 : Nat} (h0 : IsNumC Φ i0) (h1 : Pr7C Φ i1) : Ok (Pv.run Φ fuel (m_Curve___init__ i0 i1) [some (objD 0 []), some (.int 7), some (.int 0), some (.int 2)] g) (retF fun r g' => r = cur7 ∧ g' = g) := by
  have M : ∀ x y : Int, -1000 < y → y < 1000 → mulOk x y = true := fun x y a b => mulOk_2 (by omega) (by omega)
  unfold m_Curve___init__ n_Curve___init__
  generalize hQ : retF _ = QQ
  rw [Ok_seq, Ok_seq]; simp [h1 g, -Bool.exists_bool]
  rw [Ok_seq]; simp [h0 7 0 g (by omega) (by omega), -Bool.exists_bool]
  rw [Ok_seq]; simp [h0 7 2 g (by omega) (by omega), -Bool.exists_bool]
  rw [Ok_seq]; simp [M, -Bool.exists_bool]
  rw [Ok_seq]; simp [set_0]
  rw [Ok_seq]; simp [set_1]
  simp [set_2]
  subst hQ
  exact ⟨rfl, rfl⟩
end Xk35
end

section
/-! FkD: k35: rows bent; the law. -/
set_option autoImplicit false
namespace Xk35
open PySem Pv
variable {Φ : Fns} {g : G}
def okE (x : D) : Prop := okV x = true ∧ ∀ i : Int, x = .int i → Sz 700 i
theorem okE.flat {x : D} (h : okV x = true) (n : ∀ i, x ≠ .int i) : okE x := ⟨h, fun i e => absurd e (n i)⟩
theorem okE.int {i : Int} (h : Sz 700 i) : okE (.int i) := ⟨rfl, fun j e => by cases e; exact h⟩
theorem cut_in {xs : List D} {lo hi : Option Int} {x : D} (h : x ∈ cutD xs lo hi) : x ∈ xs := by
  unfold cutD at h
  exact List.mem_of_mem_drop (List.mem_of_mem_take h)
theorem cut_len {xs : List D} {lo hi : Option Int} : (cutD xs lo hi).length ≤ xs.length := by
  unfold cutD
  rw [List.length_take, List.length_drop]
  omega
theorem slc_h (xs : List D) (i : Int) : slcV (.tuple xs) .none (.int i) = some (.tuple (cutD xs none (some i))) := rfl
theorem slc_l (xs : List D) (i : Int) : slcV (.tuple xs) (.int i) .none = some (.tuple (cutD xs (some i) none)) := rfl
theorem add_tt {xs ys : List D} (h : xs.length + ys.length ≤ 100) : binV .add (.tuple xs) (.tuple ys) = some (.tuple (xs ++ ys)) := by
  have : xs.length + ys.length ≤ lineN := by unfold lineN; omega
  simp [binV, this]
theorem rev_t (xs : List D) : revV (.tuple xs) = some (.tuple xs.reverse) := rfl
theorem lst_t (xs : List D) : biV .toList [.tuple xs] = some (.list xs) := rfl
theorem tup_l (xs : List D) : biV .toTuple [.list xs] = some (.tuple xs) := rfl
theorem fm_map' {α β : Type} (u : α → β) (l : List α) : l.filterMap (fun x => some (u x)) = l.map u := by
  show l.filterMap (some ∘ u) = _
  rw [List.filterMap_eq_map]
theorem show_row {is : List Int} (h : ∀ i ∈ is, Sz 600 i) (hl : is.length ≤ 10) : showOk (.tuple (is.map .int)) = true := by
  obtain ⟨h1, h2, h3⟩ := md_all fun i hi => (h i hi).md (by omega)
  refine show_fine h1 ?_ ?_
  · simp only [PyData.depth]; omega
  · simp only [PyData.weight]; omega
abbrev BentC (Φ : Fns) (i : Nat) : Prop := ∀ (n : Nat) (is : List Int) (g : G), DkOk n g → n < 900000 → 1 ≤ is.length → is.length ≤ 4 → (∀ i ∈ is, Sz 600 i) → Ok (Φ i [tokD 0, .tuple (is.map .int)] g) fun r g' => DkOk (n + 4) g' ∧ FitV r
-- @F _law_bent BentC bent_run 5 : _law_draw _law_pick/PickTC _law_pick/PickLC
theorem bent_run {i0 i1 n : Nat} {is : List Int} (hd : DkOk n g) (hn : n < 900000) (l1 : 1 ≤ is.length) (l4 : is.length ≤ 4) (hs : ∀ i ∈ is, Sz 600 i) (h0 : DrawC Φ i0) (h1 : PickTC Φ i1) (h2 : PickLC Φ i1) :
    Ok (Pv.run Φ fuel (m__law_bent i0 i1) [some (tokD 0), some (.tuple (is.map .int)), none, none, none, none, none] g) (retF fun r g' => DkOk (n + 4) g' ∧ FitV r) := by
  have rowE : ∀ x ∈ is.map PyData.int, okE x := fun x hx => by
    obtain ⟨i, hi, rfl⟩ := List.mem_map.mp hx
    exact .int ((hs i hi).mono (by omega))
  have rl : (is.map PyData.int).length = is.length := List.length_map _
  have p29 : powOk 10 29 = true := by decide
  unfold m__law_bent
  generalize hQ : retF _ = QQ
  rw [Ok_seq]; simp
  refine (h0 n is.length g hd (by omega) (by have : is.length = 1 ∨ is.length = 2 ∨ is.length = 3 ∨ is.length = 4 := by omega
                                             rcases this with e | e | e | e <;> rw [e] <;> decide) (by omega)).mono ?_
  rintro _ g1 ⟨d1, a, rfl, a0, a1⟩
  refine (h0 _ 3 g1 d1 (by omega) (by decide) (by omega)).mono ?_
  rintro _ g2 ⟨d2, t, rfl, t0, t1⟩
  simp
  obtain ⟨x, hx, ex⟩ : ∃ x : Int, x ∈ is ∧ idxV (.tuple (is.map .int)) (.int a) = some (.int x) := by
    obtain ⟨y, hy, e⟩ := idx_t (xs := is.map .int) a0 (by rw [rl]; exact a1)
    obtain ⟨x, hx, rfl⟩ := List.mem_map.mp hy
    exact ⟨x, hx, e⟩
  have sx := hs x hx
  rw [Ok_seq]; simp [ex, p29]
  refine (h1 _ _ g2 d2 (by omega) (by simp) (by simp)).mono ?_
  rintro odd g3 ⟨d3, ho⟩
  have oe : okE odd := by
    simp at ho
    rcases ho with rfl | rfl | rfl | rfl | rfl | rfl | rfl | rfl | rfl | rfl | rfl | rfl | rfl
    all_goals first
      | exact .int (by unfold Sz; decide)
      | exact .flat rfl (fun i e => nomatch e)
  have st : Sz 2 (t + 1) := by unfold Sz; omega
  have oa : okE (.int (x + (t + 1))) := .int ((sx.add st).mono (by omega))
  have ob : okE (.int (-x)) := .int (sx.neg.mono (by omega))
  have oc : okE (.int (x - (t + 1))) := .int ((sx.sub st).mono (by omega))
  have mt : ∀ y : Int, mulOk (t + 1) y = true := fun y => mulOk_1 (by omega) (by omega)
  have sr := show_row hs (by omega)
  generalize hrow : is.map PyData.int = row at *
  have lA := cut_len (xs := row) (lo := none) (hi := some a)
  have lB := cut_len (xs := row) (lo := some (a + 1)) (hi := none)
  have lC := cut_len (xs := row) (lo := some a) (hi := none)
  have lD' := cut_len (xs := row) (lo := none) (hi := some (-1))
  have iA := fun x (h : x ∈ cutD row none (some a)) => rowE x (cut_in h)
  have iB := fun x (h : x ∈ cutD row (some (a + 1)) none) => rowE x (cut_in h)
  have iC := fun x (h : x ∈ cutD row (some a) none) => rowE x (cut_in h)
  have iD := fun x (h : x ∈ cutD row none (some (-1))) => rowE x (cut_in h)
  rw [Ok_seq]
  simp [slc_h, slc_l, rev_t, lst_t, ex]
  generalize cutD row none (some a) = A at *
  generalize cutD row (some (a + 1)) none = B at *
  generalize cutD row (some a) none = C at *
  generalize cutD row none (some (-1)) = E at *
  have q1 : binV .add (.tuple row) (.tuple [.int 0]) = some (.tuple (row ++ [.int 0])) := add_tt (by simp; omega)
  have q2 : binV .add (.tuple C) (.tuple A) = some (.tuple (C ++ A)) := add_tt (by omega)
  have q3 : ∀ z, binV .add (.tuple A) (.tuple [z]) = some (.tuple (A ++ [z])) := fun z => add_tt (by simp; omega)
  have q4 : ∀ z, binV .add (.tuple (A ++ [z])) (.tuple B) = some (.tuple (A ++ [z] ++ B)) := fun z => add_tt (by simp; omega)
  have q5 : binV .add (.tuple A) (.tuple B) = some (.tuple (A ++ B)) := add_tt (by omega)
  have q6 : biV .toStr [.tuple row] = some (.str (PyData.shown (.tuple row))) := by
    show (if showOk (.tuple row) = true then _ else _) = _
    rw [sr]; rfl
  have fitA : ∀ z, okE z → FitV (.tuple (A ++ z :: B)) := fun z hz => .tup (by simp; omega) fun y hy => by
    simp at hy
    rcases hy with hy | rfl | hy
    · exact iA y hy
    · exact hz
    · exact iB y hy
  simp [q1, q2, q3, q4, q5, q6]
  refine ⟨_, rfl, by unfold lineN; omega, ?_⟩
  rw [← hrow]
  refine ok_compM (em := .int) (eo := .int) (u := fun i : Int => some (0 - i)) (xs := is) (fun y hy => ?_) ?_
  · rw [Ok_itemF]; simp [wipeS]
  rw [hrow, fm_map']
  have fN : FitV (.tuple ((is.map fun i => 0 - i).map .int)) := .tup (by simp; omega) fun y hy => by
    obtain ⟨j, hj, rfl⟩ := List.mem_map.mp hy
    obtain ⟨i, hi, rfl⟩ := List.mem_map.mp hj
    exact okE.int ((show Sz 1 0 by unfold Sz; decide).sub (hs i hi) |>.mono (by omega))
  generalize (is.map fun i => 0 - i).map PyData.int = N at *
  refine ⟨_, rfl, by unfold lineN; omega, ?_⟩
  rw [← hrow]
  refine ok_compM (em := .int) (eo := .int) (u := fun i : Int => some ((t + 1) * i)) (xs := is) (fun y hy => ?_) ?_
  · rw [Ok_itemF]; simp [wipeS, mt]
  rw [hrow, fm_map']
  have fT : FitV (.tuple ((is.map fun i => (t + 1) * i).map .int)) := .tup (by simp; omega) fun y hy => by
    obtain ⟨j, hj, rfl⟩ := List.mem_map.mp hy
    obtain ⟨i, hi, rfl⟩ := List.mem_map.mp hj
    exact okE.int ((st.mul (hs i hi)).mono (by omega))
  generalize (is.map fun i => (t + 1) * i).map PyData.int = T' at *
  have fR : FitV (.tuple row) := .tup (by omega) rowE
  have fl : ∀ v : D, okV v = true → (∀ xs, v ≠ .tuple xs) → FitV v := fun v h n => .flat h n
  refine (h2 _ _ g3 d3 (by omega) (by simp) (by simp)).mono ?_
  rintro r g4 ⟨d4, hr⟩
  subst hQ
  refine ⟨d4.mono (by omega), ?_⟩
  clear sr q6 q1 q2 q3 q4 q5
  simp only [List.mem_cons, List.not_mem_nil, or_false] at hr
  rcases hr with rfl | rfl | rfl | rfl | rfl | rfl | rfl | rfl | rfl | rfl | rfl | rfl | rfl | rfl | rfl | rfl | rfl | rfl | rfl | rfl | rfl | rfl
  · exact fR
  · exact fl _ rfl (fun _ e => nomatch e)
  · exact .tup (by omega) iD
  · exact .tup (by simp; omega) fun y hy => by
      rcases List.mem_append.mp hy with z | z
      · exact rowE y z
      · rw [List.mem_singleton.mp z]; exact okE.int (by unfold Sz; decide)
  · exact .tup (by simp; omega) fun y hy => rowE y (List.mem_reverse.mp hy)
  · exact .tup (by simp; omega) fun y hy => by
      rcases List.mem_append.mp hy with z | z
      · exact iC y z
      · exact iA y z
  · exact .tup (by simp) fun y hy => by
      rw [List.mem_singleton.mp hy]; exact okE.flat rfl (fun _ e => nomatch e)
  · exact fl _ rfl (fun _ e => nomatch e)
  · exact fl _ rfl (fun _ e => nomatch e)
  · exact fl _ rfl (fun _ e => nomatch e)
  · exact fl _ rfl (fun _ e => nomatch e)
  · exact fl _ rfl (fun _ e => nomatch e)
  · exact .tup (by simp) fun y hy => absurd hy List.not_mem_nil
  · exact fitA _ oe
  · exact fitA _ oa
  · exact fl _ rfl (fun _ e => nomatch e)
  · exact fl _ rfl (fun _ e => nomatch e)
  · exact fN
  · exact fT
  · exact .tup (by simp; omega) fun y hy => by
      rcases List.mem_append.mp hy with z | z
      · exact iA y z
      · exact iB y z
  · exact fitA _ ob
  · exact fitA _ oc
end Xk35
end

section
/-! FkE: k35: the law. -/
set_option autoImplicit false
namespace Xk35
open PySem Pv
variable {Φ : Fns} {g : G}
abbrev LawC (Φ : Fns) (i : Nat) : Prop := Ok (Φ i [tokD 1] none) fun r g' => r = .bool true
theorem maxI_any (n : Int) (ns : List Int) : ∃ m, biV .maxL [.list ((n :: ns).map .int)] = some (.int m) := by
  refine ⟨maxI n ns, ?_⟩
  simp only [biV, ints_map]
theorem fit_flat {v : D} (h : okV v = true) (n : ∀ xs, v ≠ .tuple xs) : FitV v := .flat h n
theorem fD_row (f : Fm) : fD f = .tuple ((fL f).map .int) := rfl
theorem mD_row (m : Mx) : mD m = .tuple ([m.1, m.2.1, m.2.2.1, m.2.2.2].map .int) := rfl
-- @L law LawC law_run 0 : Curve___init__ _law_bent _law_classes _law_deck _law_discriminant _law_fundamental _law_is_right _law_led _law_matrix _law_pick/PickTC _law_pick/PickLC discriminant_of fundamental
theorem law_run {i0 i1 i2 i3 i4 i5 i6 i7 i8 i9 i10 i11 : Nat} (h0 : Cur7C Φ i0) (h1 : BentC Φ i1) (h2 : LClC Φ i2) (h3 : DeckC Φ i3) (h4 : LDiscC Φ i4) (h5 : LFundC Φ i5) (h6 : RightC Φ i6) (h7 : LLedC Φ i7) (h8 : LMatC Φ i8) (h9 : PickTC Φ i9) (h9' : PickLC Φ i9) (h10 : DofC Φ i10) (h11 : FundC Φ i11) :
    Ok (Pv.run Φ fuel (m_law i0 i1 i2 i3 i4 i5 i6 i7 i8 i9 i10 i11) [some (tokD 1), none, none, none, none, none, none, none, none, none, none, none] none) (retF fun r g' => r = .bool true) := by
  have p39 : powOk 10 39 = true := by decide
  have p6 : powOk 10 6 = true := by decide
  have p12 : powOk 10 12 = true := by decide
  unfold m_law
  generalize hQ : retF _ = QQ
  rw [Ok_seq]; simp
  refine h3.mono ?_
  rintro _ g1 ⟨rfl, d1⟩
  rw [Ok_seq]; simp
  refine (h4 0 g1 d1 (by omega)).mono ?_
  rintro _ g2 ⟨d2, d, rfl, hd⟩
  have hd1 := hd.1
  have hd2 := hd.2.1
  rw [Ok_seq]; simp [p39]
  refine (h9 _ _ g2 d2 (by omega) (by simp) (by simp)).mono ?_
  rintro r g3 ⟨d3, hr⟩
  obtain ⟨near, rfl⟩ : ∃ near : Int, r = .int near := by
    simp only [List.mem_cons, List.not_mem_nil, or_false] at hr
    rcases hr with rfl | rfl | rfl | rfl | rfl | rfl | rfl <;> exact ⟨_, rfl⟩
  rw [Ok_seq]; simp
  rw [Ok_seq, Ok_for]; simp
  refine ⟨_, rfl, ?_⟩
  refine ok_forL (fun k σ g' => g' = g3 ∧ ∃ (y4 y5 : Option D), σ = [some (tokD 1), some (tokD 0), some (.int d), some (.int near), y4, y5, none, none, none, none, none, none]) ⟨rfl, _, none, rfl⟩ ?_ ?_
  · rintro k x σ g' hx ⟨rfl, y4, y5, rfl⟩
    have hm := List.mem_of_getElem? hx
    have fx : FitV x := by
      simp only [List.mem_cons, List.not_mem_nil, or_false] at hm
      rcases hm with rfl | rfl | rfl | rfl | rfl | rfl | rfl | rfl | rfl | rfl | rfl | rfl <;> exact fit_flat rfl (fun _ e => nomatch e)
    generalize hI : loopF _ _ = II
    rw [Ok_turnF]; simp [h6 x _ fx, -Bool.exists_bool]
    subst hI
    exact ⟨rfl, _, _, rfl⟩
  rintro σ g' ⟨rfl, y4, y5, rfl⟩
  have fi : ∀ i : Int, FitV (.int i) := fun i => fit_flat rfl (fun _ e => nomatch e)
  have f7 : FitV cur7 := fit_flat rfl (fun _ e => nomatch e)
  simp only [thenF_nx, loopF_nx]
  rw [Ok_seq]; simp [p39, h6 _ _ (fi _), h0, h6 _ _ f7, -Bool.exists_bool]
  have ft : FitV (.tuple [.int d]) := .tup (by simp) fun x hx => by
    rw [List.mem_singleton.mp hx]
    exact okE.int (by unfold Sz; have : d.natAbs < 2 ^ 20 := by have : (2 : Nat) ^ 20 = 1048576 := by decide
                                                                omega
                      exact Nat.lt_of_lt_of_le this (Nat.pow_le_pow_right (by omega) (by omega)))
  have fl : FitV (.list [.int d]) := fit_flat rfl (fun _ e => nomatch e)
  have fs : ∀ s : Str, FitV (.str s) := fun s => fit_flat rfl (fun _ e => nomatch e)
  have ts : biV .toStr [.int d] = some (.str (toString d)) := by
    have : d.natAbs.log2 < 1920 := by
      have := (Nat.log2_lt (n := d.natAbs) (k := 20) (by omega)).mpr (by omega)
      omega
    simp [biV, this]
  rw [Ok_seq]; simp [h6 _ _ ft, h6 _ _ fl, ts, h6 _ _ (fs _), -Bool.exists_bool]
  rw [Ok_seq]; simp
  refine (h5 d g' hd).mono ?_
  rintro _ g4 ⟨⟨F, mF, rfl⟩, rfl⟩
  have Fb := mF.good.le mF.pos (by omega) hd1
  have Fp := mF.pos
  have qd := ((good_iff hd mF.pos).mpr mF.good).2
  have qd1 := qd.1
  have qd2 := qd.2.1
  have sh := show_pair (i := F) (j := d / (F * F)) (sm_of (by omega) (by omega)) (sm_of (by omega) (by omega))
  rw [Ok_seq]; simp [h11 d F _ hd mF, pm, bi_repr sh, ne_same, -Bool.exists_bool]
  rw [Ok_seq]; simp [h2 d _ hd]
  rw [Ok_seq, Ok_for]; simp
  rw [itV_r1 (by omega) (by omega)]; simp
  refine ok_forL (fun k σ g' => DkOk (100 + 40 * k) g' ∧ ∃ (y5 y7 y8 y9 y10 : Option D), σ = [some (tokD 1), some (tokD 0), some (.int d), some (.int near), some (.list ((PL d).map fD)), y5, some (.tuple [.int F, .int (d / (F * F))]), y7, y8, y9, y10, none]) ⟨d3.mono (by omega), _, _, _, _, _, rfl⟩ ?_ ?_
  · rintro k x σ g5 hx ⟨d5, y5, y7, y8, y9, y10, rfl⟩
    obtain ⟨hk, rfl⟩ := rng_at hx
    generalize hI : loopF _ _ = II
    rw [Ok_turnF]; simp
    rw [Ok_seq]; simp
    refine (h9' _ _ g5 d5 (by omega) (by simp [PL_ne hd1 hd2 hd.2.2]) (by rw [List.length_map]; have := PL_len d; omega)).mono ?_
    rintro r g6 ⟨d6, hr⟩
    obtain ⟨f, hf, rfl⟩ := List.mem_map.mp hr
    have hf := (mem_PL hd1).mp hf
    have sf := hf.sz hd1 hd2
    have ff := Rf_form hf hd
    have rest : ∀ (great : Int) (g7 : G), DkOk (100 + 40 * k + 2) g7 → 1 ≤ great → great ≤ 10000000 → Ok (Φ i8 [tokD 0, .int 5, .int great] g7) fun r g' => DkOk (100 + 40 * k + 22) g' ∧ ∃ m, r = mD m ∧ det m = 1 ∧ SzM 200 m := fun great g7 d7 a b =>
      (h8 _ 5 great g7 d7 (by omega) (by omega) (by omega) a b).mono fun _ _ q => ⟨q.1.mono (by omega), q.2⟩
    have mat : ∀ TT : Fl → G → Prop, (∀ (g' : G) (m : Mx), DkOk (100 + 40 * k + 22) g' → det m = 1 → SzM 200 m → TT (.nx [some (tokD 1), some (tokD 0), some (.int d), some (.int near), some (.list ((PL d).map fD)), y5, some (.tuple [.int F, .int (d / (F * F))]), some (.int k), some (fD f), some (mD m), y10, none]) g') → Ok (Pv.run Φ fuel (.set [9] (.call i8 (.cons (.var 1) (.cons (.c (.int 5)) (.cons (.ite (.cmp .gt (.var 7) (.c (.int 3))) (.call i9 (.cons (.var 1) (.cons (.tup (.cons (.c (.int 1)) (.cons (.c (.int 9)) (.cons (.c (.int 30)) (.cons (.bin .pow (.c (.int 10)) (.c (.int 6))) .nil))))) .nil))) (.c (.int 2))) .nil))))) [some (tokD 1), some (tokD 0), some (.int d), some (.int near), some (.list ((PL d).map fD)), y5, some (.tuple [.int F, .int (d / (F * F))]), some (.int k), some (fD f), y9, y10, none] g6) TT := by
      intro TT hT
      simp [-Bool.exists_bool]
      by_cases z : 3 < (k : Int)
      · simp [z, p6, -Bool.exists_bool]
        refine (h9 _ _ g6 d6 (by omega) (by simp) (by simp)).mono ?_
        rintro r g7 ⟨d7, hr⟩
        obtain ⟨great, rfl, q1, q2⟩ : ∃ great : Int, r = .int great ∧ 1 ≤ great ∧ great ≤ 10000000 := by
          simp only [List.mem_cons, List.not_mem_nil, or_false] at hr
          rcases hr with rfl | rfl | rfl | rfl <;> exact ⟨_, rfl, by omega, by omega⟩
        refine (rest great g7 d7 q1 q2).mono ?_
        rintro _ g8 ⟨d8, m, rfl, q⟩
        exact hT _ _ d8 q.1 q.2
      · simp [z, -Bool.exists_bool]
        refine (rest 2 g6 (d6.mono (by omega)) (by omega) (by omega)).mono ?_
        rintro _ g8 ⟨d8, m, rfl, q⟩
        exact hT _ _ d8 q.1 q.2
    rw [Ok_seq]
    refine mat _ fun g8 m d8 dm sm => ?_
    simp only [thenF_nx]
    have fin : ∀ m : Mx, det m = 1 → SzM 200 m → Ok (Pv.run Φ fuel (.seq (.set [10] (.call i7 (.cons (.var 8) (.cons (.var 9) .nil))))
      (.seq (.forr [5] .seq (.cons (.tup (.cons (.var 8) (.cons (.var 9) (.cons (.var 10) (.cons (.call i1 (.cons (.var 1) (.cons (.var 8) .nil))) (.cons (.call i1 (.cons (.var 1) (.cons (.var 9) .nil))) (.cons (.call i1 (.cons (.var 1) (.cons (.var 10) .nil))) .nil))))))) .nil) (.ite (.not (.truth (.call i6 (.cons (.var 5) .nil)))) (.ret (.c (.bool false))) .skip))
      (.ite (.cmp .ne (.bi .repr (.cons (.lst (.cons (.call i10 (.cons (.var 10) .nil)) (.cons (.callK i10 (.cons (.var 8) .nil) [0]) .nil))) .nil)) (.bi .repr (.cons (.lst (.cons (.var 2) (.cons (.var 2) .nil))) .nil))) (.ret (.c (.bool false))) .skip))) [some (tokD 1), some (tokD 0), some (.int d), some (.int near), some (.list ((PL d).map fD)), y5, some (.tuple [.int F, .int (d / (F * F))]), some (.int k), some (fD f), some (mD m), y10, none] g8) II := by
      intro m dm sm
      have fl := ff.led dm
      have sl : SzK 426 (ledF f m) := (sz_led sf sm).mono (by omega)
      have dl : disc (ledF f m) = d := by rw [disc_led, dm, hf.disc]; omega
      rw [Ok_seq]; simp [h7 f m g8 (sf.mono (by omega)) sm]
      rw [Ok_seq, Ok_for]; simp
      rw [fD_row f, mD_row m, fD_row (ledF f m)]
      have lf : ∀ f : Fm, (fL f).length = 3 := fun f => rfl
      have zf : ∀ (f : Fm) (k : Nat), SzK k f → k ≤ 600 → ∀ i ∈ fL f, Sz 600 i := fun f k h hk i hi => by
        simp only [fL, List.mem_cons, List.not_mem_nil, or_false] at hi
        rcases hi with rfl | rfl | rfl
        · exact h.a.mono hk
        · exact h.b.mono hk
        · exact h.c.mono hk
      refine (h1 _ (fL f) g8 d8 (by omega) (by rw [lf]; omega) (by rw [lf]; omega) (zf f 20 sf (by omega))).mono ?_
      rintro t1 g9 ⟨d9, f1⟩
      refine (h1 _ [m.1, m.2.1, m.2.2.1, m.2.2.2] g9 d9 (by omega) (by simp) (by simp) (fun i hi => by
        simp only [List.mem_cons, List.not_mem_nil, or_false] at hi
        rcases hi with rfl | rfl | rfl | rfl
        · exact sm.g.mono (by omega)
        · exact sm.h.mono (by omega)
        · exact sm.i.mono (by omega)
        · exact sm.j.mono (by omega))).mono ?_
      rintro t2 g10 ⟨d10, f2⟩
      refine (h1 _ (fL (ledF f m)) g10 d10 (by omega) (by rw [lf]; omega) (by rw [lf]; omega) (zf _ 426 sl (by omega))).mono ?_
      rintro t3 g11 ⟨d11, f3⟩
      rw [← fD_row f, ← mD_row m, ← fD_row (ledF f m)]
      refine ⟨_, rfl, ?_⟩
      refine ok_forL (fun j σ g' => g' = g11 ∧ ∃ (y5 : Option D), σ = [some (tokD 1), some (tokD 0), some (.int d), some (.int near), some (.list ((PL d).map fD)), y5, some (.tuple [.int F, .int (d / (F * F))]), some (.int k), some (fD f), some (mD m), some (fD (ledF f m)), none]) ⟨rfl, _, rfl⟩ ?_ ?_
      · rintro j x σ g' hx ⟨rfl, y5, rfl⟩
        have hm := List.mem_of_getElem? hx
        have fx : FitV x := by
          simp only [List.mem_cons, List.not_mem_nil, or_false] at hm
          rcases hm with rfl | rfl | rfl | rfl | rfl | rfl
          · exact SzK_fit sf (by omega)
          · exact SzM_fitV sm (by omega)
          · exact SzK_fit sl (by omega)
          · exact f1
          · exact f2
          · exact f3
        generalize hJ : loopF _ _ = JJ
        rw [Ok_turnF]; simp [h6 x _ fx, -Bool.exists_bool]
        subst hJ
        exact ⟨rfl, _, rfl⟩
      · rintro σ g' ⟨rfl, y5, rfl⟩
        simp only [thenF_nx, loopF_nx]
        have sd := show_ints (i := d) (sm_of (by omega) (by omega))
        simp [h10 _ _ fl (sl.mono (by omega)), h10 f _ ff (sf.mono (by omega)), pm, dl, hf.disc, bi_repr sd, ne_same, -Bool.exists_bool]
        subst hI
        exact ⟨d11.mono (by omega), _, _, _, _, _, rfl⟩
    rw [Ok_seq]; simp [-Bool.exists_bool]
    have mr : itV .seq [mD m] = some ([m.1, m.2.1, m.2.2.1, m.2.2.2].map .int) := rfl
    rw [mr]; simp [-Bool.exists_bool]
    refine ⟨by unfold lineN; omega, ?_⟩
    rw [show [PyData.int m.1, .int m.2.1, .int m.2.2.1, .int m.2.2.2] = [m.1, m.2.1, m.2.2.1, m.2.2.2].map PyData.int from rfl]
    refine ok_compM (em := .int) (eo := .int) (u := fun i : Int => some (if i < 0 then -i else i)) (xs := [m.1, m.2.1, m.2.2.1, m.2.2.2]) (fun y hy => ?_) ?_
    · rw [Ok_itemF]; simp [wipeS]
    rw [fm_map', List.map_cons]
    obtain ⟨mx, em⟩ := maxI_any (if m.1 < 0 then -m.1 else m.1) ([m.2.1, m.2.2.1, m.2.2.2].map fun i => if i < 0 then -i else i)
    rw [em]
    simp [p12, -Bool.exists_bool]
    by_cases z : mx < 1000000000000
    · simp [z, -Bool.exists_bool]
      exact fin m dm sm
    · simp [z, -Bool.exists_bool]
      exact fin (1, 1000000000000, 0, 1) rfl ⟨by unfold Sz; decide, by unfold Sz; decide, by unfold Sz; decide, by unfold Sz; decide⟩
  · rintro σ g' ⟨d5, y5, y7, y8, y9, y10, rfl⟩
    simp
    subst hQ
    rfl
end Xk35
end

section
/-! the functions of k35 at their heights: printed by pk.py -/
set_option autoImplicit false
namespace Xk35
open PySem Pv
variable {ns : List Int}
theorem q_is_integer_integers_IsIC {d : Nat} : IsIC (PH ns (d + 1)) 0 := by unfold IsIC; intro _ _ h0; refine Ok.eq ?_; exact Ok_F (isI1_run h0)
theorem q_is_integer_primefield_IsIC {d : Nat} : IsIC (PH ns (d + 1)) 11 := by unfold IsIC; intro _ _ h0; refine Ok.eq ?_; exact Ok_F (isI2_run h0)
theorem q__law_is_integer_IsIC {d : Nat} : IsIC (PH ns (d + 1)) 24 := by unfold IsIC; intro _ _ h0; refine Ok.eq ?_; exact Ok_F (isI4_run h0)
theorem q_are_integers_AreIC {d : Nat} : AreIC (PH ns (d + 2)) 1 := by unfold AreIC; intro _ _ _ h0; refine Ok.eq ?_; exact Ok_F (areI_run h0 (q_is_integer_integers_IsIC (d := d + 0)))
theorem q__law_are_integers_AreIC {d : Nat} : AreIC (PH ns (d + 2)) 26 := by unfold AreIC; intro _ _ _ h0; refine Ok.eq ?_; exact Ok_F (lareI_run h0 (q__law_is_integer_IsIC (d := d + 0)))
theorem q_is_discriminant_DiscC {d : Nat} : DiscC (PH ns (d + 2)) 4 := by unfold DiscC; intro _ _ h0; refine Ok.eq ?_; exact Ok_F (discV_run h0 (q_is_integer_integers_IsIC (d := d + 0)))
theorem q__law_is_discriminant_DiscC {d : Nat} : DiscC (PH ns (d + 2)) 25 := by unfold DiscC; intro _ _ h0; refine Ok.eq ?_; exact Ok_F (ldiscV_run h0 (q__law_is_integer_IsIC (d := d + 0)))
theorem q_common_divisor_GcdC {d : Nat} : GcdC (PH ns (d + 1)) 2 := by unfold GcdC; intro _ _ _ h0 h1; refine Ok.eq ?_; exact Ok_F (gcd_run h0 h1)
theorem q__law_gcd_GcdC {d : Nat} : GcdC (PH ns (d + 1)) 18 := by unfold GcdC; intro _ _ _ h0 h1; refine Ok.eq ?_; exact Ok_F (lgcd_run h0 h1)
theorem q_is_form_FormC {d : Nat} : FormC (PH ns (d + 3)) 6 := by unfold FormC; intro _ _ h0; refine Ok.eq ?_; exact Ok_F (formV_run h0 (q_are_integers_AreIC (d := d + 0)) (q_common_divisor_GcdC (d := d + 1)) (q_is_discriminant_DiscC (d := d + 0)))
theorem q__law_is_form_FormC {d : Nat} : FormC (PH ns (d + 3)) 27 := by unfold FormC; intro _ _ h0; refine Ok.eq ?_; exact Ok_F (lformV_run h0 (q__law_are_integers_AreIC (d := d + 0)) (q__law_gcd_GcdC (d := d + 1)) (q__law_is_discriminant_DiscC (d := d + 0)))
theorem q_is_reduced_RedC {d : Nat} : RedC (PH ns (d + 4)) 7 := by unfold RedC; intro _ _ h0; refine Ok.eq ?_; exact Ok_F (redV_run h0 (q_is_form_FormC (d := d + 0)))
theorem q__law_is_reduced_RedC {d : Nat} : RedC (PH ns (d + 4)) 28 := by unfold RedC; intro _ _ h0; refine Ok.eq ?_; exact Ok_F (lredV_run h0 (q__law_is_form_FormC (d := d + 0)))
theorem q_is_matrix_MatC {d : Nat} : MatC (PH ns (d + 3)) 8 := by unfold MatC; intro _ _ h0; refine Ok.eq ?_; exact Ok_F (mx_run h0 (q_are_integers_AreIC (d := d + 0)))
theorem q__law_is_matrix_MatC {d : Nat} : MatC (PH ns (d + 3)) 29 := by unfold MatC; intro _ _ h0; refine Ok.eq ?_; exact Ok_F (lmx_run h0 (q__law_are_integers_AreIC (d := d + 0)))
theorem q__law_asked_AskC {d : Nat} : AskC (PH ns (d + 5)) 32 := by unfold AskC; intro _ _ h0; refine Ok.eq ?_; exact Ok_F (ask_run h0 (q_is_discriminant_DiscC (d := d + 2)) (q_is_form_FormC (d := d + 1)) (q_is_matrix_MatC (d := d + 1)) (q_is_reduced_RedC (d := d + 0)))
theorem q__law_is_right_RightC {d : Nat} : RightC (PH ns (d + 6)) 33 := by unfold RightC; intro _ _ h0; refine Ok.eq ?_; exact Ok_F (right_run h0 (q__law_asked_AskC (d := d + 0)) (q__law_is_discriminant_DiscC (d := d + 3)) (q__law_is_form_FormC (d := d + 2)) (q__law_is_matrix_MatC (d := d + 2)) (q__law_is_reduced_RedC (d := d + 1)))
theorem q__law_draw_DrawC {d : Nat} : DrawC (PH ns (d + 1)) 16 := by unfold DrawC; intro _ _ _ h0 h1 h2 h3; exact Ok_F (drawK_run h0 h1 h2 h3)
theorem q__law_deck_DeckC {d : Nat} : DeckC (PH ns (d + 1)) 15 := by unfold DeckC; exact Ok_F (deckK_run (ns := ns))
theorem q__law_pick_PickTC {d : Nat} : PickTC (PH ns (d + 2)) 17 := by unfold PickTC; intro _ _ _ h0 h1 h2 h3; exact Ok_F (pickTK_run h0 h1 h2 h3 (q__law_draw_DrawC (d := d + 0)))
theorem q__law_pick_PickLC {d : Nat} : PickLC (PH ns (d + 2)) 17 := by unfold PickLC; intro _ _ _ h0 h1 h2 h3; exact Ok_F (pickLK_run h0 h1 h2 h3 (q__law_draw_DrawC (d := d + 0)))
theorem q__law_discriminant_LDiscC {d : Nat} : LDiscC (PH ns (d + 3)) 19 := by unfold LDiscC; intro _ _ h0 h1; exact Ok_F (ldisc_run h0 h1 (q__law_draw_DrawC (d := d + 1)) (q__law_pick_PickTC (d := d + 0)))
theorem q__law_classes_LClC {d : Nat} : LClC (PH ns (d + 2)) 20 := by unfold LClC; intro _ _ h0; refine Ok.eq ?_; exact Ok_F (lcl_run h0 (q__law_gcd_GcdC (d := d + 0)))
theorem q__law_times_LTimC {d : Nat} : LTimC (PH ns (d + 1)) 22 := by unfold LTimC; intro _ _ _ h0 h1; refine Ok.eq ?_; exact Ok_F (ltim_run h0 h1)
theorem q__law_led_LLedC {d : Nat} : LLedC (PH ns (d + 1)) 21 := by unfold LLedC; intro _ _ _ h0 h1; refine Ok.eq ?_; exact Ok_F (lled_run h0 h1)
theorem q__law_matrix_LMatC {d : Nat} : LMatC (PH ns (d + 2)) 23 := by unfold LMatC; intro _ _ _ _ h0 h1 h2 h3 h4 h5; exact Ok_F (lmat_run h0 h1 h2 h3 h4 h5 (q__law_draw_DrawC (d := d + 0)) (q__law_times_LTimC (d := d + 0)))
theorem q_whole_root_RootC {d : Nat} : RootC (PH ns (d + 1)) 3 := by unfold RootC; intro _ _ h0 h1; exact Ok_F (rootK_run h0 h1)
theorem q_fundamental_FundC {d : Nat} : FundC (PH ns (d + 2)) 9 := by unfold FundC; intro _ _ _ h0 h1; refine Ok.eq ?_; exact Ok_F (fund_run h0 h1 (q_whole_root_RootC (d := d + 0)))
theorem q_discriminant_at_DatC {d : Nat} : DatC (PH ns (d + 1)) 5 := by unfold DatC; intro _ _ h0; refine Ok.eq ?_; exact Ok_F (dat_run h0)
theorem q_discriminant_of_DofC {d : Nat} : DofC (PH ns (d + 4)) 10 := by unfold DofC; intro _ _ h0 h1; refine Ok.eq ?_; exact Ok_F (dof_run h0 h1 (q_discriminant_at_DatC (d := d + 2)) (q_is_form_FormC (d := d + 0)))
theorem q__law_fundamental_LFundC {d : Nat} : LFundC (PH ns (d + 3)) 30 := by unfold LFundC; intro _ _ h0; exact Ok_F (lfund_run h0 (q__law_is_discriminant_DiscC (d := d + 0)))
theorem q_is_prime_Pr7C {d : Nat} : Pr7C (PH ns (d + 2)) 12 := by unfold Pr7C; intro _; refine Ok.eq ?_; exact Ok_F (pr7_run (q_is_integer_primefield_IsIC (d := d + 0)))
theorem q_is_number_IsNumC {d : Nat} : IsNumC (PH ns (d + 2)) 13 := by unfold IsNumC; intro _ _ _ h0 h1; refine Ok.eq ?_; exact Ok_F (is_num_run h0 h1 (q_is_integer_primefield_IsIC (d := d + 0)))
theorem q_Curve___init___Cur7C {d : Nat} : Cur7C (PH ns (d + 3)) 14 := by unfold Cur7C; intro _; refine Ok.eq ?_; exact Ok_F (cur7_run (q_is_number_IsNumC (d := d + 0)) (q_is_prime_Pr7C (d := d + 0)))
theorem q__law_bent_BentC {d : Nat} : BentC (PH ns (d + 3)) 31 := by unfold BentC; intro _ _ _ h0 h1 h2 h3 h4; exact Ok_F (bent_run h0 h1 h2 h3 h4 (q__law_draw_DrawC (d := d + 1)) (q__law_pick_PickTC (d := d + 0)) (q__law_pick_PickLC (d := d + 0)))
theorem q_law_LawC {d : Nat} : LawC (PH ns (d + 7)) 34 := Ok_F (law_run (q_Curve___init___Cur7C (d := d + 3)) (q__law_bent_BentC (d := d + 3)) (q__law_classes_LClC (d := d + 4)) (q__law_deck_DeckC (d := d + 5)) (q__law_discriminant_LDiscC (d := d + 3)) (q__law_fundamental_LFundC (d := d + 3)) (q__law_is_right_RightC (d := d + 0)) (q__law_led_LLedC (d := d + 5)) (q__law_matrix_LMatC (d := d + 4)) (q__law_pick_PickTC (d := d + 4)) (q__law_pick_PickLC (d := d + 4)) (q_discriminant_of_DofC (d := d + 2)) (q_fundamental_FundC (d := d + 4)))
theorem law_val (ns : List Int) (h : ns.length ≤ 63) : ∃ g', FT (T ns) (fun _ => none) (6 + 1) 34 [tokD 1] none = .ok (.bool true) g' := by
  have z : LawC (PH ns (0 + 7)) 34 := q_law_LawC (d := 0)
  obtain ⟨a, g', e, rfl⟩ := Ok.ex z
  exact ⟨g', e⟩
end Xk35
end

section
/-! the end of k35: printed by gen.py -/
set_option autoImplicit false
namespace Xk35
open PySem PySem.Spec PyProof.Rows L2 Pv
theorem kit_no {K : PySem.W.Frag} {C : Addr} {T : String} (hm : PySem.W.kitMeta T = true) (h : PySem.W.mroIn K C (.type T) = some false) : PySem.W.kitOne K (.ref C) (.type T) = some false := by
  have e : PySem.W.kitOne K (.ref C) (.type T) = (if PySem.W.kitMeta T = true then PySem.W.subIn K (.ref C) (.type T) else none) := rfl
  rw [e, if_pos hm]
  exact h
set_option maxHeartbeats 0 in
theorem fin {l : PySem.W.OpenLaw} {w : World} {K : PySem.W.Frag} {h : Heap} {mg : Str → Option Value} {fa : Addr} (X : K.In h) (G : h.Ns mainGlobals mg) (hfa : mg "law" = some (.ref fa))
    {C_Curve : Addr} (aC_Curve : PySem.W.nsIn K mainGlobals "Curve" = some (some (.ref C_Curve))) (pg_Curve : PySem.W.plainGet K C_Curve Str.empty = true) (hd_Curve : PySem.W.hasDictIn K C_Curve = true) (po_Curve : PySem.W.plainOver K C_Curve = true) (sa_Curve : PySem.W.findIn K (.ref C_Curve) "__setattr__" = some (some (.builtin "object.__setattr__"))) (mk_Curve : PySem.W.makesIn K C_Curve = true) (kc_Curve : PySem.W.keepIn K (.ref C_Curve) = true) (na_Curve_prime : PySem.W.findIn K (.ref C_Curve) "prime" = some none) (na_Curve_a : PySem.W.findIn K (.ref C_Curve) "a" = some none) (na_Curve_b : PySem.W.findIn K (.ref C_Curve) "b" = some none)
    (ia_Curve : PySem.W.findIn K (.ref C_Curve) "__class__" = some (some (.builtin "object.__class__"))) (ib_Curve : PySem.W.specialIn K (.builtin "object.__class__") "__get__" = some (some (.builtin "getset_descriptor.__get__"))) (ic_Curve : PySem.W.takesIn K (.builtin "object.__class__") = some true) (id_Curve : PySem.W.mroIn K C_Curve (.type "object") = some true) (ik_Curve_int : PySem.W.mroIn K C_Curve (.type "int") = some false) (ik_Curve_bool : PySem.W.mroIn K C_Curve (.type "bool") = some false) (ik_Curve_str : PySem.W.mroIn K C_Curve (.type "str") = some false) (ik_Curve_tuple : PySem.W.mroIn K C_Curve (.type "tuple") = some false) (ik_Curve_list : PySem.W.mroIn K C_Curve (.type "list") = some false)
    {f_is_integer_integers : Addr} {od_is_integer_integers an_is_integer_integers : Option Addr} {sl_is_integer_integers : Array (Option Value)} {oc_is_integer_integers kV_is_integer_integers dc_is_integer_integers pm_is_integer_integers cd_is_integer_integers ct_is_integer_integers : Value}
    (a_is_integer_integers : PySem.W.nsIn K mainGlobals "is_integer_integers" = some (some (.ref f_is_integer_integers))) (l_is_integer_integers : K.lookup f_is_integer_integers = some ⟨oc_is_integer_integers, od_is_integer_integers, .func (PySem.W.fnOf "is_integer" "is_integer" (defArgs s_is_integer_integers) (defBody s_is_integer_integers) (defScope s_is_integer_integers) .none kV_is_integer_integers dc_is_integer_integers pm_is_integer_integers an_is_integer_integers cd_is_integer_integers ct_is_integer_integers), sl_is_integer_integers⟩) (c_is_integer_integers : PySem.W.codeIn K cd_is_integer_integers "is_integer" = true) (k_is_integer_integers : PySem.W.keepIn K (.ref f_is_integer_integers) = true)
    {f_are_integers : Addr} {od_are_integers an_are_integers : Option Addr} {sl_are_integers : Array (Option Value)} {oc_are_integers kV_are_integers dc_are_integers pm_are_integers cd_are_integers ct_are_integers : Value}
    (a_are_integers : PySem.W.nsIn K mainGlobals "are_integers" = some (some (.ref f_are_integers))) (l_are_integers : K.lookup f_are_integers = some ⟨oc_are_integers, od_are_integers, .func (PySem.W.fnOf "are_integers" "are_integers" (defArgs s_are_integers) (defBody s_are_integers) (defScope s_are_integers) .none kV_are_integers dc_are_integers pm_are_integers an_are_integers cd_are_integers ct_are_integers), sl_are_integers⟩) (c_are_integers : PySem.W.codeIn K cd_are_integers "are_integers" = true) (k_are_integers : PySem.W.keepIn K (.ref f_are_integers) = true)
    {f_common_divisor : Addr} {od_common_divisor an_common_divisor : Option Addr} {sl_common_divisor : Array (Option Value)} {oc_common_divisor kV_common_divisor dc_common_divisor pm_common_divisor cd_common_divisor ct_common_divisor : Value}
    (a_common_divisor : PySem.W.nsIn K mainGlobals "common_divisor" = some (some (.ref f_common_divisor))) (l_common_divisor : K.lookup f_common_divisor = some ⟨oc_common_divisor, od_common_divisor, .func (PySem.W.fnOf "common_divisor" "common_divisor" (defArgs s_common_divisor) (defBody s_common_divisor) (defScope s_common_divisor) .none kV_common_divisor dc_common_divisor pm_common_divisor an_common_divisor cd_common_divisor ct_common_divisor), sl_common_divisor⟩) (c_common_divisor : PySem.W.codeIn K cd_common_divisor "common_divisor" = true) (k_common_divisor : PySem.W.keepIn K (.ref f_common_divisor) = true)
    {f_whole_root : Addr} {od_whole_root an_whole_root : Option Addr} {sl_whole_root : Array (Option Value)} {oc_whole_root kV_whole_root dc_whole_root pm_whole_root cd_whole_root ct_whole_root : Value}
    (a_whole_root : PySem.W.nsIn K mainGlobals "whole_root" = some (some (.ref f_whole_root))) (l_whole_root : K.lookup f_whole_root = some ⟨oc_whole_root, od_whole_root, .func (PySem.W.fnOf "whole_root" "whole_root" (defArgs s_whole_root) (defBody s_whole_root) (defScope s_whole_root) .none kV_whole_root dc_whole_root pm_whole_root an_whole_root cd_whole_root ct_whole_root), sl_whole_root⟩) (c_whole_root : PySem.W.codeIn K cd_whole_root "whole_root" = true) (k_whole_root : PySem.W.keepIn K (.ref f_whole_root) = true)
    {f_is_discriminant : Addr} {od_is_discriminant an_is_discriminant : Option Addr} {sl_is_discriminant : Array (Option Value)} {oc_is_discriminant kV_is_discriminant dc_is_discriminant pm_is_discriminant cd_is_discriminant ct_is_discriminant : Value}
    (a_is_discriminant : PySem.W.nsIn K mainGlobals "is_discriminant" = some (some (.ref f_is_discriminant))) (l_is_discriminant : K.lookup f_is_discriminant = some ⟨oc_is_discriminant, od_is_discriminant, .func (PySem.W.fnOf "is_discriminant" "is_discriminant" (defArgs s_is_discriminant) (defBody s_is_discriminant) (defScope s_is_discriminant) .none kV_is_discriminant dc_is_discriminant pm_is_discriminant an_is_discriminant cd_is_discriminant ct_is_discriminant), sl_is_discriminant⟩) (c_is_discriminant : PySem.W.codeIn K cd_is_discriminant "is_discriminant" = true) (k_is_discriminant : PySem.W.keepIn K (.ref f_is_discriminant) = true)
    {f_discriminant_at : Addr} {od_discriminant_at an_discriminant_at : Option Addr} {sl_discriminant_at : Array (Option Value)} {oc_discriminant_at kV_discriminant_at dc_discriminant_at pm_discriminant_at cd_discriminant_at ct_discriminant_at : Value}
    (a_discriminant_at : PySem.W.nsIn K mainGlobals "discriminant_at" = some (some (.ref f_discriminant_at))) (l_discriminant_at : K.lookup f_discriminant_at = some ⟨oc_discriminant_at, od_discriminant_at, .func (PySem.W.fnOf "discriminant_at" "discriminant_at" (defArgs s_discriminant_at) (defBody s_discriminant_at) (defScope s_discriminant_at) .none kV_discriminant_at dc_discriminant_at pm_discriminant_at an_discriminant_at cd_discriminant_at ct_discriminant_at), sl_discriminant_at⟩) (c_discriminant_at : PySem.W.codeIn K cd_discriminant_at "discriminant_at" = true) (k_discriminant_at : PySem.W.keepIn K (.ref f_discriminant_at) = true)
    {f_is_form : Addr} {od_is_form an_is_form : Option Addr} {sl_is_form : Array (Option Value)} {oc_is_form kV_is_form dc_is_form pm_is_form cd_is_form ct_is_form : Value}
    (a_is_form : PySem.W.nsIn K mainGlobals "is_form" = some (some (.ref f_is_form))) (l_is_form : K.lookup f_is_form = some ⟨oc_is_form, od_is_form, .func (PySem.W.fnOf "is_form" "is_form" (defArgs s_is_form) (defBody s_is_form) (defScope s_is_form) .none kV_is_form dc_is_form pm_is_form an_is_form cd_is_form ct_is_form), sl_is_form⟩) (c_is_form : PySem.W.codeIn K cd_is_form "is_form" = true) (k_is_form : PySem.W.keepIn K (.ref f_is_form) = true)
    {f_is_reduced : Addr} {od_is_reduced an_is_reduced : Option Addr} {sl_is_reduced : Array (Option Value)} {oc_is_reduced kV_is_reduced dc_is_reduced pm_is_reduced cd_is_reduced ct_is_reduced : Value}
    (a_is_reduced : PySem.W.nsIn K mainGlobals "is_reduced" = some (some (.ref f_is_reduced))) (l_is_reduced : K.lookup f_is_reduced = some ⟨oc_is_reduced, od_is_reduced, .func (PySem.W.fnOf "is_reduced" "is_reduced" (defArgs s_is_reduced) (defBody s_is_reduced) (defScope s_is_reduced) .none kV_is_reduced dc_is_reduced pm_is_reduced an_is_reduced cd_is_reduced ct_is_reduced), sl_is_reduced⟩) (c_is_reduced : PySem.W.codeIn K cd_is_reduced "is_reduced" = true) (k_is_reduced : PySem.W.keepIn K (.ref f_is_reduced) = true)
    {f_is_matrix : Addr} {od_is_matrix an_is_matrix : Option Addr} {sl_is_matrix : Array (Option Value)} {oc_is_matrix kV_is_matrix dc_is_matrix pm_is_matrix cd_is_matrix ct_is_matrix : Value}
    (a_is_matrix : PySem.W.nsIn K mainGlobals "is_matrix" = some (some (.ref f_is_matrix))) (l_is_matrix : K.lookup f_is_matrix = some ⟨oc_is_matrix, od_is_matrix, .func (PySem.W.fnOf "is_matrix" "is_matrix" (defArgs s_is_matrix) (defBody s_is_matrix) (defScope s_is_matrix) .none kV_is_matrix dc_is_matrix pm_is_matrix an_is_matrix cd_is_matrix ct_is_matrix), sl_is_matrix⟩) (c_is_matrix : PySem.W.codeIn K cd_is_matrix "is_matrix" = true) (k_is_matrix : PySem.W.keepIn K (.ref f_is_matrix) = true)
    {f_fundamental : Addr} {od_fundamental an_fundamental : Option Addr} {sl_fundamental : Array (Option Value)} {oc_fundamental kV_fundamental dc_fundamental pm_fundamental cd_fundamental ct_fundamental : Value}
    (a_fundamental : PySem.W.nsIn K mainGlobals "fundamental" = some (some (.ref f_fundamental))) (l_fundamental : K.lookup f_fundamental = some ⟨oc_fundamental, od_fundamental, .func (PySem.W.fnOf "fundamental" "fundamental" (defArgs s_fundamental) (defBody s_fundamental) (defScope s_fundamental) .none kV_fundamental dc_fundamental pm_fundamental an_fundamental cd_fundamental ct_fundamental), sl_fundamental⟩) (c_fundamental : PySem.W.codeIn K cd_fundamental "fundamental" = true) (k_fundamental : PySem.W.keepIn K (.ref f_fundamental) = true)
    {f_discriminant_of : Addr} {od_discriminant_of an_discriminant_of : Option Addr} {sl_discriminant_of : Array (Option Value)} {oc_discriminant_of kV_discriminant_of dc_discriminant_of pm_discriminant_of cd_discriminant_of ct_discriminant_of : Value}
    (a_discriminant_of : PySem.W.nsIn K mainGlobals "discriminant_of" = some (some (.ref f_discriminant_of))) (l_discriminant_of : K.lookup f_discriminant_of = some ⟨oc_discriminant_of, od_discriminant_of, .func (PySem.W.fnOf "discriminant_of" "discriminant_of" (defArgs s_discriminant_of) (defBody s_discriminant_of) (defScope s_discriminant_of) .none kV_discriminant_of dc_discriminant_of pm_discriminant_of an_discriminant_of cd_discriminant_of ct_discriminant_of), sl_discriminant_of⟩) (c_discriminant_of : PySem.W.codeIn K cd_discriminant_of "discriminant_of" = true) (k_discriminant_of : PySem.W.keepIn K (.ref f_discriminant_of) = true)
    {f_is_integer_primefield : Addr} {od_is_integer_primefield an_is_integer_primefield : Option Addr} {sl_is_integer_primefield : Array (Option Value)} {oc_is_integer_primefield kV_is_integer_primefield dc_is_integer_primefield pm_is_integer_primefield cd_is_integer_primefield ct_is_integer_primefield : Value}
    (a_is_integer_primefield : PySem.W.nsIn K mainGlobals "is_integer_primefield" = some (some (.ref f_is_integer_primefield))) (l_is_integer_primefield : K.lookup f_is_integer_primefield = some ⟨oc_is_integer_primefield, od_is_integer_primefield, .func (PySem.W.fnOf "is_integer" "is_integer" (defArgs s_is_integer_primefield) (defBody s_is_integer_primefield) (defScope s_is_integer_primefield) .none kV_is_integer_primefield dc_is_integer_primefield pm_is_integer_primefield an_is_integer_primefield cd_is_integer_primefield ct_is_integer_primefield), sl_is_integer_primefield⟩) (c_is_integer_primefield : PySem.W.codeIn K cd_is_integer_primefield "is_integer" = true) (k_is_integer_primefield : PySem.W.keepIn K (.ref f_is_integer_primefield) = true)
    {f_is_prime : Addr} {od_is_prime an_is_prime : Option Addr} {sl_is_prime : Array (Option Value)} {oc_is_prime kV_is_prime dc_is_prime pm_is_prime cd_is_prime ct_is_prime : Value}
    (a_is_prime : PySem.W.nsIn K mainGlobals "is_prime" = some (some (.ref f_is_prime))) (l_is_prime : K.lookup f_is_prime = some ⟨oc_is_prime, od_is_prime, .func (PySem.W.fnOf "is_prime" "is_prime" (defArgs s_is_prime) (defBody s_is_prime) (defScope s_is_prime) .none kV_is_prime dc_is_prime pm_is_prime an_is_prime cd_is_prime ct_is_prime), sl_is_prime⟩) (c_is_prime : PySem.W.codeIn K cd_is_prime "is_prime" = true) (k_is_prime : PySem.W.keepIn K (.ref f_is_prime) = true)
    {f_is_number : Addr} {od_is_number an_is_number : Option Addr} {sl_is_number : Array (Option Value)} {oc_is_number kV_is_number dc_is_number pm_is_number cd_is_number ct_is_number : Value}
    (a_is_number : PySem.W.nsIn K mainGlobals "is_number" = some (some (.ref f_is_number))) (l_is_number : K.lookup f_is_number = some ⟨oc_is_number, od_is_number, .func (PySem.W.fnOf "is_number" "is_number" (defArgs s_is_number) (defBody s_is_number) (defScope s_is_number) .none kV_is_number dc_is_number pm_is_number an_is_number cd_is_number ct_is_number), sl_is_number⟩) (c_is_number : PySem.W.codeIn K cd_is_number "is_number" = true) (k_is_number : PySem.W.keepIn K (.ref f_is_number) = true)
    {f_Curve___init__ : Addr} {od_Curve___init__ an_Curve___init__ : Option Addr} {sl_Curve___init__ : Array (Option Value)} {oc_Curve___init__ kV_Curve___init__ dc_Curve___init__ pm_Curve___init__ cd_Curve___init__ ct_Curve___init__ : Value}
    (a_Curve___init__ : PySem.W.findIn K (.ref C_Curve) "__init__" = some (some (.ref f_Curve___init__))) (i_Curve___init__ : PySem.W.isFn K (.ref f_Curve___init__) = true) (l_Curve___init__ : K.lookup f_Curve___init__ = some ⟨oc_Curve___init__, od_Curve___init__, .func (PySem.W.fnOf "__init__" "Curve.__init__" (defArgs s_Curve___init__) (defBody s_Curve___init__) (defScope s_Curve___init__) .none kV_Curve___init__ dc_Curve___init__ pm_Curve___init__ an_Curve___init__ cd_Curve___init__ ct_Curve___init__), sl_Curve___init__⟩) (c_Curve___init__ : PySem.W.codeIn K cd_Curve___init__ "Curve.__init__" = true) (k_Curve___init__ : PySem.W.keepIn K (.ref f_Curve___init__) = true)
    {f__law_deck : Addr} {od__law_deck an__law_deck : Option Addr} {sl__law_deck : Array (Option Value)} {oc__law_deck kV__law_deck dc__law_deck pm__law_deck cd__law_deck ct__law_deck : Value}
    (a__law_deck : PySem.W.nsIn K mainGlobals "_law_deck" = some (some (.ref f__law_deck))) (l__law_deck : K.lookup f__law_deck = some ⟨oc__law_deck, od__law_deck, .func (PySem.W.fnOf "_law_deck" "_law_deck" (defArgs s__law_deck) (defBody s__law_deck) (defScope s__law_deck) .none kV__law_deck dc__law_deck pm__law_deck an__law_deck cd__law_deck ct__law_deck), sl__law_deck⟩) (c__law_deck : PySem.W.codeIn K cd__law_deck "_law_deck" = true) (k__law_deck : PySem.W.keepIn K (.ref f__law_deck) = true)
    {f__law_draw : Addr} {od__law_draw an__law_draw : Option Addr} {sl__law_draw : Array (Option Value)} {oc__law_draw kV__law_draw dc__law_draw pm__law_draw cd__law_draw ct__law_draw : Value}
    (a__law_draw : PySem.W.nsIn K mainGlobals "_law_draw" = some (some (.ref f__law_draw))) (l__law_draw : K.lookup f__law_draw = some ⟨oc__law_draw, od__law_draw, .func (PySem.W.fnOf "_law_draw" "_law_draw" (defArgs s__law_draw) (defBody s__law_draw) (defScope s__law_draw) .none kV__law_draw dc__law_draw pm__law_draw an__law_draw cd__law_draw ct__law_draw), sl__law_draw⟩) (c__law_draw : PySem.W.codeIn K cd__law_draw "_law_draw" = true) (k__law_draw : PySem.W.keepIn K (.ref f__law_draw) = true)
    {f__law_pick : Addr} {od__law_pick an__law_pick : Option Addr} {sl__law_pick : Array (Option Value)} {oc__law_pick kV__law_pick dc__law_pick pm__law_pick cd__law_pick ct__law_pick : Value}
    (a__law_pick : PySem.W.nsIn K mainGlobals "_law_pick" = some (some (.ref f__law_pick))) (l__law_pick : K.lookup f__law_pick = some ⟨oc__law_pick, od__law_pick, .func (PySem.W.fnOf "_law_pick" "_law_pick" (defArgs s__law_pick) (defBody s__law_pick) (defScope s__law_pick) .none kV__law_pick dc__law_pick pm__law_pick an__law_pick cd__law_pick ct__law_pick), sl__law_pick⟩) (c__law_pick : PySem.W.codeIn K cd__law_pick "_law_pick" = true) (k__law_pick : PySem.W.keepIn K (.ref f__law_pick) = true)
    {f__law_gcd : Addr} {od__law_gcd an__law_gcd : Option Addr} {sl__law_gcd : Array (Option Value)} {oc__law_gcd kV__law_gcd dc__law_gcd pm__law_gcd cd__law_gcd ct__law_gcd : Value}
    (a__law_gcd : PySem.W.nsIn K mainGlobals "_law_gcd" = some (some (.ref f__law_gcd))) (l__law_gcd : K.lookup f__law_gcd = some ⟨oc__law_gcd, od__law_gcd, .func (PySem.W.fnOf "_law_gcd" "_law_gcd" (defArgs s__law_gcd) (defBody s__law_gcd) (defScope s__law_gcd) .none kV__law_gcd dc__law_gcd pm__law_gcd an__law_gcd cd__law_gcd ct__law_gcd), sl__law_gcd⟩) (c__law_gcd : PySem.W.codeIn K cd__law_gcd "_law_gcd" = true) (k__law_gcd : PySem.W.keepIn K (.ref f__law_gcd) = true)
    {f__law_discriminant : Addr} {od__law_discriminant an__law_discriminant : Option Addr} {sl__law_discriminant : Array (Option Value)} {oc__law_discriminant kV__law_discriminant dc__law_discriminant pm__law_discriminant cd__law_discriminant ct__law_discriminant : Value}
    (a__law_discriminant : PySem.W.nsIn K mainGlobals "_law_discriminant" = some (some (.ref f__law_discriminant))) (l__law_discriminant : K.lookup f__law_discriminant = some ⟨oc__law_discriminant, od__law_discriminant, .func (PySem.W.fnOf "_law_discriminant" "_law_discriminant" (defArgs s__law_discriminant) (defBody s__law_discriminant) (defScope s__law_discriminant) .none kV__law_discriminant dc__law_discriminant pm__law_discriminant an__law_discriminant cd__law_discriminant ct__law_discriminant), sl__law_discriminant⟩) (c__law_discriminant : PySem.W.codeIn K cd__law_discriminant "_law_discriminant" = true) (k__law_discriminant : PySem.W.keepIn K (.ref f__law_discriminant) = true)
    {f__law_classes : Addr} {od__law_classes an__law_classes : Option Addr} {sl__law_classes : Array (Option Value)} {oc__law_classes kV__law_classes dc__law_classes pm__law_classes cd__law_classes ct__law_classes : Value}
    (a__law_classes : PySem.W.nsIn K mainGlobals "_law_classes" = some (some (.ref f__law_classes))) (l__law_classes : K.lookup f__law_classes = some ⟨oc__law_classes, od__law_classes, .func (PySem.W.fnOf "_law_classes" "_law_classes" (defArgs s__law_classes) (defBody s__law_classes) (defScope s__law_classes) .none kV__law_classes dc__law_classes pm__law_classes an__law_classes cd__law_classes ct__law_classes), sl__law_classes⟩) (c__law_classes : PySem.W.codeIn K cd__law_classes "_law_classes" = true) (k__law_classes : PySem.W.keepIn K (.ref f__law_classes) = true)
    {f__law_led : Addr} {od__law_led an__law_led : Option Addr} {sl__law_led : Array (Option Value)} {oc__law_led kV__law_led dc__law_led pm__law_led cd__law_led ct__law_led : Value}
    (a__law_led : PySem.W.nsIn K mainGlobals "_law_led" = some (some (.ref f__law_led))) (l__law_led : K.lookup f__law_led = some ⟨oc__law_led, od__law_led, .func (PySem.W.fnOf "_law_led" "_law_led" (defArgs s__law_led) (defBody s__law_led) (defScope s__law_led) .none kV__law_led dc__law_led pm__law_led an__law_led cd__law_led ct__law_led), sl__law_led⟩) (c__law_led : PySem.W.codeIn K cd__law_led "_law_led" = true) (k__law_led : PySem.W.keepIn K (.ref f__law_led) = true)
    {f__law_times : Addr} {od__law_times an__law_times : Option Addr} {sl__law_times : Array (Option Value)} {oc__law_times kV__law_times dc__law_times pm__law_times cd__law_times ct__law_times : Value}
    (a__law_times : PySem.W.nsIn K mainGlobals "_law_times" = some (some (.ref f__law_times))) (l__law_times : K.lookup f__law_times = some ⟨oc__law_times, od__law_times, .func (PySem.W.fnOf "_law_times" "_law_times" (defArgs s__law_times) (defBody s__law_times) (defScope s__law_times) .none kV__law_times dc__law_times pm__law_times an__law_times cd__law_times ct__law_times), sl__law_times⟩) (c__law_times : PySem.W.codeIn K cd__law_times "_law_times" = true) (k__law_times : PySem.W.keepIn K (.ref f__law_times) = true)
    {f__law_matrix : Addr} {od__law_matrix an__law_matrix : Option Addr} {sl__law_matrix : Array (Option Value)} {oc__law_matrix kV__law_matrix dc__law_matrix pm__law_matrix cd__law_matrix ct__law_matrix : Value}
    (a__law_matrix : PySem.W.nsIn K mainGlobals "_law_matrix" = some (some (.ref f__law_matrix))) (l__law_matrix : K.lookup f__law_matrix = some ⟨oc__law_matrix, od__law_matrix, .func (PySem.W.fnOf "_law_matrix" "_law_matrix" (defArgs s__law_matrix) (defBody s__law_matrix) (defScope s__law_matrix) .none kV__law_matrix dc__law_matrix pm__law_matrix an__law_matrix cd__law_matrix ct__law_matrix), sl__law_matrix⟩) (c__law_matrix : PySem.W.codeIn K cd__law_matrix "_law_matrix" = true) (k__law_matrix : PySem.W.keepIn K (.ref f__law_matrix) = true)
    {f__law_is_integer : Addr} {od__law_is_integer an__law_is_integer : Option Addr} {sl__law_is_integer : Array (Option Value)} {oc__law_is_integer kV__law_is_integer dc__law_is_integer pm__law_is_integer cd__law_is_integer ct__law_is_integer : Value}
    (a__law_is_integer : PySem.W.nsIn K mainGlobals "_law_is_integer" = some (some (.ref f__law_is_integer))) (l__law_is_integer : K.lookup f__law_is_integer = some ⟨oc__law_is_integer, od__law_is_integer, .func (PySem.W.fnOf "_law_is_integer" "_law_is_integer" (defArgs s__law_is_integer) (defBody s__law_is_integer) (defScope s__law_is_integer) .none kV__law_is_integer dc__law_is_integer pm__law_is_integer an__law_is_integer cd__law_is_integer ct__law_is_integer), sl__law_is_integer⟩) (c__law_is_integer : PySem.W.codeIn K cd__law_is_integer "_law_is_integer" = true) (k__law_is_integer : PySem.W.keepIn K (.ref f__law_is_integer) = true)
    {f__law_is_discriminant : Addr} {od__law_is_discriminant an__law_is_discriminant : Option Addr} {sl__law_is_discriminant : Array (Option Value)} {oc__law_is_discriminant kV__law_is_discriminant dc__law_is_discriminant pm__law_is_discriminant cd__law_is_discriminant ct__law_is_discriminant : Value}
    (a__law_is_discriminant : PySem.W.nsIn K mainGlobals "_law_is_discriminant" = some (some (.ref f__law_is_discriminant))) (l__law_is_discriminant : K.lookup f__law_is_discriminant = some ⟨oc__law_is_discriminant, od__law_is_discriminant, .func (PySem.W.fnOf "_law_is_discriminant" "_law_is_discriminant" (defArgs s__law_is_discriminant) (defBody s__law_is_discriminant) (defScope s__law_is_discriminant) .none kV__law_is_discriminant dc__law_is_discriminant pm__law_is_discriminant an__law_is_discriminant cd__law_is_discriminant ct__law_is_discriminant), sl__law_is_discriminant⟩) (c__law_is_discriminant : PySem.W.codeIn K cd__law_is_discriminant "_law_is_discriminant" = true) (k__law_is_discriminant : PySem.W.keepIn K (.ref f__law_is_discriminant) = true)
    {f__law_are_integers : Addr} {od__law_are_integers an__law_are_integers : Option Addr} {sl__law_are_integers : Array (Option Value)} {oc__law_are_integers kV__law_are_integers dc__law_are_integers pm__law_are_integers cd__law_are_integers ct__law_are_integers : Value}
    (a__law_are_integers : PySem.W.nsIn K mainGlobals "_law_are_integers" = some (some (.ref f__law_are_integers))) (l__law_are_integers : K.lookup f__law_are_integers = some ⟨oc__law_are_integers, od__law_are_integers, .func (PySem.W.fnOf "_law_are_integers" "_law_are_integers" (defArgs s__law_are_integers) (defBody s__law_are_integers) (defScope s__law_are_integers) .none kV__law_are_integers dc__law_are_integers pm__law_are_integers an__law_are_integers cd__law_are_integers ct__law_are_integers), sl__law_are_integers⟩) (c__law_are_integers : PySem.W.codeIn K cd__law_are_integers "_law_are_integers" = true) (k__law_are_integers : PySem.W.keepIn K (.ref f__law_are_integers) = true)
    {f__law_is_form : Addr} {od__law_is_form an__law_is_form : Option Addr} {sl__law_is_form : Array (Option Value)} {oc__law_is_form kV__law_is_form dc__law_is_form pm__law_is_form cd__law_is_form ct__law_is_form : Value}
    (a__law_is_form : PySem.W.nsIn K mainGlobals "_law_is_form" = some (some (.ref f__law_is_form))) (l__law_is_form : K.lookup f__law_is_form = some ⟨oc__law_is_form, od__law_is_form, .func (PySem.W.fnOf "_law_is_form" "_law_is_form" (defArgs s__law_is_form) (defBody s__law_is_form) (defScope s__law_is_form) .none kV__law_is_form dc__law_is_form pm__law_is_form an__law_is_form cd__law_is_form ct__law_is_form), sl__law_is_form⟩) (c__law_is_form : PySem.W.codeIn K cd__law_is_form "_law_is_form" = true) (k__law_is_form : PySem.W.keepIn K (.ref f__law_is_form) = true)
    {f__law_is_reduced : Addr} {od__law_is_reduced an__law_is_reduced : Option Addr} {sl__law_is_reduced : Array (Option Value)} {oc__law_is_reduced kV__law_is_reduced dc__law_is_reduced pm__law_is_reduced cd__law_is_reduced ct__law_is_reduced : Value}
    (a__law_is_reduced : PySem.W.nsIn K mainGlobals "_law_is_reduced" = some (some (.ref f__law_is_reduced))) (l__law_is_reduced : K.lookup f__law_is_reduced = some ⟨oc__law_is_reduced, od__law_is_reduced, .func (PySem.W.fnOf "_law_is_reduced" "_law_is_reduced" (defArgs s__law_is_reduced) (defBody s__law_is_reduced) (defScope s__law_is_reduced) .none kV__law_is_reduced dc__law_is_reduced pm__law_is_reduced an__law_is_reduced cd__law_is_reduced ct__law_is_reduced), sl__law_is_reduced⟩) (c__law_is_reduced : PySem.W.codeIn K cd__law_is_reduced "_law_is_reduced" = true) (k__law_is_reduced : PySem.W.keepIn K (.ref f__law_is_reduced) = true)
    {f__law_is_matrix : Addr} {od__law_is_matrix an__law_is_matrix : Option Addr} {sl__law_is_matrix : Array (Option Value)} {oc__law_is_matrix kV__law_is_matrix dc__law_is_matrix pm__law_is_matrix cd__law_is_matrix ct__law_is_matrix : Value}
    (a__law_is_matrix : PySem.W.nsIn K mainGlobals "_law_is_matrix" = some (some (.ref f__law_is_matrix))) (l__law_is_matrix : K.lookup f__law_is_matrix = some ⟨oc__law_is_matrix, od__law_is_matrix, .func (PySem.W.fnOf "_law_is_matrix" "_law_is_matrix" (defArgs s__law_is_matrix) (defBody s__law_is_matrix) (defScope s__law_is_matrix) .none kV__law_is_matrix dc__law_is_matrix pm__law_is_matrix an__law_is_matrix cd__law_is_matrix ct__law_is_matrix), sl__law_is_matrix⟩) (c__law_is_matrix : PySem.W.codeIn K cd__law_is_matrix "_law_is_matrix" = true) (k__law_is_matrix : PySem.W.keepIn K (.ref f__law_is_matrix) = true)
    {f__law_fundamental : Addr} {od__law_fundamental an__law_fundamental : Option Addr} {sl__law_fundamental : Array (Option Value)} {oc__law_fundamental kV__law_fundamental dc__law_fundamental pm__law_fundamental cd__law_fundamental ct__law_fundamental : Value}
    (a__law_fundamental : PySem.W.nsIn K mainGlobals "_law_fundamental" = some (some (.ref f__law_fundamental))) (l__law_fundamental : K.lookup f__law_fundamental = some ⟨oc__law_fundamental, od__law_fundamental, .func (PySem.W.fnOf "_law_fundamental" "_law_fundamental" (defArgs s__law_fundamental) (defBody s__law_fundamental) (defScope s__law_fundamental) .none kV__law_fundamental dc__law_fundamental pm__law_fundamental an__law_fundamental cd__law_fundamental ct__law_fundamental), sl__law_fundamental⟩) (c__law_fundamental : PySem.W.codeIn K cd__law_fundamental "_law_fundamental" = true) (k__law_fundamental : PySem.W.keepIn K (.ref f__law_fundamental) = true)
    {f__law_bent : Addr} {od__law_bent an__law_bent : Option Addr} {sl__law_bent : Array (Option Value)} {oc__law_bent kV__law_bent dc__law_bent pm__law_bent cd__law_bent ct__law_bent : Value}
    (a__law_bent : PySem.W.nsIn K mainGlobals "_law_bent" = some (some (.ref f__law_bent))) (l__law_bent : K.lookup f__law_bent = some ⟨oc__law_bent, od__law_bent, .func (PySem.W.fnOf "_law_bent" "_law_bent" (defArgs s__law_bent) (defBody s__law_bent) (defScope s__law_bent) .none kV__law_bent dc__law_bent pm__law_bent an__law_bent cd__law_bent ct__law_bent), sl__law_bent⟩) (c__law_bent : PySem.W.codeIn K cd__law_bent "_law_bent" = true) (k__law_bent : PySem.W.keepIn K (.ref f__law_bent) = true)
    {f__law_asked : Addr} {od__law_asked an__law_asked : Option Addr} {sl__law_asked : Array (Option Value)} {oc__law_asked kV__law_asked dc__law_asked pm__law_asked cd__law_asked ct__law_asked : Value}
    (a__law_asked : PySem.W.nsIn K mainGlobals "_law_asked" = some (some (.ref f__law_asked))) (l__law_asked : K.lookup f__law_asked = some ⟨oc__law_asked, od__law_asked, .func (PySem.W.fnOf "_law_asked" "_law_asked" (defArgs s__law_asked) (defBody s__law_asked) (defScope s__law_asked) .none kV__law_asked dc__law_asked pm__law_asked an__law_asked cd__law_asked ct__law_asked), sl__law_asked⟩) (c__law_asked : PySem.W.codeIn K cd__law_asked "_law_asked" = true) (k__law_asked : PySem.W.keepIn K (.ref f__law_asked) = true)
    {f__law_is_right : Addr} {od__law_is_right an__law_is_right : Option Addr} {sl__law_is_right : Array (Option Value)} {oc__law_is_right kV__law_is_right dc__law_is_right pm__law_is_right cd__law_is_right ct__law_is_right : Value}
    (a__law_is_right : PySem.W.nsIn K mainGlobals "_law_is_right" = some (some (.ref f__law_is_right))) (l__law_is_right : K.lookup f__law_is_right = some ⟨oc__law_is_right, od__law_is_right, .func (PySem.W.fnOf "_law_is_right" "_law_is_right" (defArgs s__law_is_right) (defBody s__law_is_right) (defScope s__law_is_right) .none kV__law_is_right dc__law_is_right pm__law_is_right an__law_is_right cd__law_is_right ct__law_is_right), sl__law_is_right⟩) (c__law_is_right : PySem.W.codeIn K cd__law_is_right "_law_is_right" = true) (k__law_is_right : PySem.W.keepIn K (.ref f__law_is_right) = true)
    {f_law : Addr} {od_law an_law : Option Addr} {sl_law : Array (Option Value)} {oc_law kV_law dc_law pm_law cd_law ct_law : Value}
    (a_law : PySem.W.nsIn K mainGlobals "law" = some (some (.ref f_law))) (l_law : K.lookup f_law = some ⟨oc_law, od_law, .func (PySem.W.fnOf "law" "law" (defArgs s_law) (defBody s_law) (defScope s_law) .none kV_law dc_law pm_law an_law cd_law ct_law), sl_law⟩) (c_law : PySem.W.codeIn K cd_law "law" = true) (k_law : PySem.W.keepIn K (.ref f_law) = true)
    {v_GREATEST_PRIME : Nat} (e_GREATEST_PRIME : PySem.W.nsIn K mainGlobals "GREATEST_PRIME" = some (some (.int 199 v_GREATEST_PRIME)))
    {v_LEAST : Nat} (e_LEAST : PySem.W.nsIn K mainGlobals "LEAST" = some (some (.int (-20000) v_LEAST)))
    {v_LEAST_PRIME : Nat} (e_LEAST_PRIME : PySem.W.nsIn K mainGlobals "LEAST_PRIME" = some (some (.int 7 v_LEAST_PRIME)))
    (y_abs : PySem.W.nsIn K mainGlobals "abs" = some none)
    (y_all : PySem.W.nsIn K mainGlobals "all" = some none)
    (y_bool : PySem.W.nsIn K mainGlobals "bool" = some none)
    (y_int : PySem.W.nsIn K mainGlobals "int" = some none)
    (y_isinstance : PySem.W.nsIn K mainGlobals "isinstance" = some none)
    (y_len : PySem.W.nsIn K mainGlobals "len" = some none)
    (y_list : PySem.W.nsIn K mainGlobals "list" = some none)
    (y_max : PySem.W.nsIn K mainGlobals "max" = some none)
    (y_range : PySem.W.nsIn K mainGlobals "range" = some none)
    (y_repr : PySem.W.nsIn K mainGlobals "repr" = some none)
    (y_sorted : PySem.W.nsIn K mainGlobals "sorted" = some none)
    (y_str : PySem.W.nsIn K mainGlobals "str" = some none)
    (y_tuple : PySem.W.nsIn K mainGlobals "tuple" = some none) :
    ∃ fd : FuncData, (∀ (s : Shared) (u : Value), BindsTo s fd ⟨[u], []⟩ [("_law_script", u)]) ∧ ∀ (a : Addr) (ns : List Int), ns.length ≤ 63 → ∃ sp : Sp, (∀ H : Hp, (∀ b, H b = none ∨ ∃ o xs, H b = some (.frz o (.lst xs))) → SqL K H a (ns.map V.int) → sp [.ref a] H (fun v _ => v = .bl true) fun _ _ _ => False) ∧ ∀ base : Heap, K.In base → base.Ns mainGlobals mg → FnG l.prog w K mg base CX0 7 fa fd ["_law_script"] sp := by
  have e := hfa.symm.trans (PySem.W.mg_of X G a_law)
  have A : { A : Fa K mg // A.f_law = f_law ∧ A.d_law = PySem.W.fnOf "law" "law" (defArgs s_law) (defBody s_law) (defScope s_law) .none kV_law dc_law pm_law an_law cd_law ct_law } := ⟨{
    C_Curve := C_Curve,
    cl_Curve := ⟨pg_Curve, hd_Curve, po_Curve, sa_Curve⟩,
    in_Curve := ⟨⟨pg_Curve, hd_Curve, po_Curve, sa_Curve⟩, ia_Curve, ib_Curve, ic_Curve, id_Curve, fun T h => by
      simp only [List.mem_cons, List.not_mem_nil, or_false] at h
      rcases h with rfl | rfl | rfl | rfl | rfl
      · exact kit_no rfl ik_Curve_int
      · exact kit_no rfl ik_Curve_bool
      · exact kit_no rfl ik_Curve_str
      · exact kit_no rfl ik_Curve_tuple
      · exact kit_no rfl ik_Curve_list⟩,
    gC_Curve := PySem.W.mg_of X G aC_Curve,
    nA_Curve_prime := na_Curve_prime,
    nA_Curve_a := na_Curve_a,
    nA_Curve_b := na_Curve_b,
    f_is_integer_integers := f_is_integer_integers,
    d_is_integer_integers := _,
    F_is_integer_integers := fun_mk (st := s_is_integer_integers) l_is_integer_integers c_is_integer_integers k_is_integer_integers,
    g_is_integer_integers := PySem.W.mg_of X G a_is_integer_integers,
    b_is_integer_integers := (fun_mk (st := s_is_integer_integers) l_is_integer_integers c_is_integer_integers k_is_integer_integers).binds (ps := p_is_integer_integers) (fun _ _ _ _ _ _ us hl => match us, hl with | [_], _ => rfl),
    f_are_integers := f_are_integers,
    d_are_integers := _,
    F_are_integers := fun_mk (st := s_are_integers) l_are_integers c_are_integers k_are_integers,
    g_are_integers := PySem.W.mg_of X G a_are_integers,
    b_are_integers := (fun_mk (st := s_are_integers) l_are_integers c_are_integers k_are_integers).binds (ps := p_are_integers) (fun _ _ _ _ _ _ us hl => match us, hl with | [_, _], _ => rfl),
    f_common_divisor := f_common_divisor,
    d_common_divisor := _,
    F_common_divisor := fun_mk (st := s_common_divisor) l_common_divisor c_common_divisor k_common_divisor,
    g_common_divisor := PySem.W.mg_of X G a_common_divisor,
    b_common_divisor := (fun_mk (st := s_common_divisor) l_common_divisor c_common_divisor k_common_divisor).binds (ps := p_common_divisor) (fun _ _ _ _ _ _ us hl => match us, hl with | [_, _], _ => rfl),
    f_whole_root := f_whole_root,
    d_whole_root := _,
    F_whole_root := fun_mk (st := s_whole_root) l_whole_root c_whole_root k_whole_root,
    g_whole_root := PySem.W.mg_of X G a_whole_root,
    b_whole_root := (fun_mk (st := s_whole_root) l_whole_root c_whole_root k_whole_root).binds (ps := p_whole_root) (fun _ _ _ _ _ _ us hl => match us, hl with | [_], _ => rfl),
    f_is_discriminant := f_is_discriminant,
    d_is_discriminant := _,
    F_is_discriminant := fun_mk (st := s_is_discriminant) l_is_discriminant c_is_discriminant k_is_discriminant,
    g_is_discriminant := PySem.W.mg_of X G a_is_discriminant,
    b_is_discriminant := (fun_mk (st := s_is_discriminant) l_is_discriminant c_is_discriminant k_is_discriminant).binds (ps := p_is_discriminant) (fun _ _ _ _ _ _ us hl => match us, hl with | [_], _ => rfl),
    f_discriminant_at := f_discriminant_at,
    d_discriminant_at := _,
    F_discriminant_at := fun_mk (st := s_discriminant_at) l_discriminant_at c_discriminant_at k_discriminant_at,
    g_discriminant_at := PySem.W.mg_of X G a_discriminant_at,
    b_discriminant_at := (fun_mk (st := s_discriminant_at) l_discriminant_at c_discriminant_at k_discriminant_at).binds (ps := p_discriminant_at) (fun _ _ _ _ _ _ us hl => match us, hl with | [_], _ => rfl),
    f_is_form := f_is_form,
    d_is_form := _,
    F_is_form := fun_mk (st := s_is_form) l_is_form c_is_form k_is_form,
    g_is_form := PySem.W.mg_of X G a_is_form,
    b_is_form := (fun_mk (st := s_is_form) l_is_form c_is_form k_is_form).binds (ps := p_is_form) (fun _ _ _ _ _ _ us hl => match us, hl with | [_], _ => rfl),
    f_is_reduced := f_is_reduced,
    d_is_reduced := _,
    F_is_reduced := fun_mk (st := s_is_reduced) l_is_reduced c_is_reduced k_is_reduced,
    g_is_reduced := PySem.W.mg_of X G a_is_reduced,
    b_is_reduced := (fun_mk (st := s_is_reduced) l_is_reduced c_is_reduced k_is_reduced).binds (ps := p_is_reduced) (fun _ _ _ _ _ _ us hl => match us, hl with | [_], _ => rfl),
    f_is_matrix := f_is_matrix,
    d_is_matrix := _,
    F_is_matrix := fun_mk (st := s_is_matrix) l_is_matrix c_is_matrix k_is_matrix,
    g_is_matrix := PySem.W.mg_of X G a_is_matrix,
    b_is_matrix := (fun_mk (st := s_is_matrix) l_is_matrix c_is_matrix k_is_matrix).binds (ps := p_is_matrix) (fun _ _ _ _ _ _ us hl => match us, hl with | [_], _ => rfl),
    f_fundamental := f_fundamental,
    d_fundamental := _,
    F_fundamental := fun_mk (st := s_fundamental) l_fundamental c_fundamental k_fundamental,
    g_fundamental := PySem.W.mg_of X G a_fundamental,
    b_fundamental := (fun_mk (st := s_fundamental) l_fundamental c_fundamental k_fundamental).binds (ps := p_fundamental) (fun _ _ _ _ _ _ us hl => match us, hl with | [_], _ => rfl),
    f_discriminant_of := f_discriminant_of,
    d_discriminant_of := _,
    F_discriminant_of := fun_mk (st := s_discriminant_of) l_discriminant_of c_discriminant_of k_discriminant_of,
    g_discriminant_of := PySem.W.mg_of X G a_discriminant_of,
    b_discriminant_of := (fun_mk (st := s_discriminant_of) l_discriminant_of c_discriminant_of k_discriminant_of).binds (ps := p_discriminant_of) (fun _ _ _ _ _ _ us hl => match us, hl with | [_], _ => rfl),
    f_is_integer_primefield := f_is_integer_primefield,
    d_is_integer_primefield := _,
    F_is_integer_primefield := fun_mk (st := s_is_integer_primefield) l_is_integer_primefield c_is_integer_primefield k_is_integer_primefield,
    g_is_integer_primefield := PySem.W.mg_of X G a_is_integer_primefield,
    b_is_integer_primefield := (fun_mk (st := s_is_integer_primefield) l_is_integer_primefield c_is_integer_primefield k_is_integer_primefield).binds (ps := p_is_integer_primefield) (fun _ _ _ _ _ _ us hl => match us, hl with | [_], _ => rfl),
    f_is_prime := f_is_prime,
    d_is_prime := _,
    F_is_prime := fun_mk (st := s_is_prime) l_is_prime c_is_prime k_is_prime,
    g_is_prime := PySem.W.mg_of X G a_is_prime,
    b_is_prime := (fun_mk (st := s_is_prime) l_is_prime c_is_prime k_is_prime).binds (ps := p_is_prime) (fun _ _ _ _ _ _ us hl => match us, hl with | [_], _ => rfl),
    f_is_number := f_is_number,
    d_is_number := _,
    F_is_number := fun_mk (st := s_is_number) l_is_number c_is_number k_is_number,
    g_is_number := PySem.W.mg_of X G a_is_number,
    b_is_number := (fun_mk (st := s_is_number) l_is_number c_is_number k_is_number).binds (ps := p_is_number) (fun _ _ _ _ _ _ us hl => match us, hl with | [_, _], _ => rfl),
    f_Curve___init__ := f_Curve___init__,
    d_Curve___init__ := _,
    F_Curve___init__ := fun_mk (st := s_Curve___init__) l_Curve___init__ c_Curve___init__ k_Curve___init__,
    b_Curve___init__ := (fun_mk (st := s_Curve___init__) l_Curve___init__ c_Curve___init__ k_Curve___init__).binds (ps := p_Curve___init__) (fun _ _ _ _ _ _ us hl => match us, hl with | [_, _, _, _], _ => rfl),
    K_Curve := ⟨mk_Curve, a_Curve___init__, i_Curve___init__, kc_Curve⟩,
    f__law_deck := f__law_deck,
    d__law_deck := _,
    F__law_deck := fun_mk (st := s__law_deck) l__law_deck c__law_deck k__law_deck,
    g__law_deck := PySem.W.mg_of X G a__law_deck,
    b__law_deck := (fun_mk (st := s__law_deck) l__law_deck c__law_deck k__law_deck).binds (ps := p__law_deck) (fun _ _ _ _ _ _ us hl => match us, hl with | [_], _ => rfl),
    f__law_draw := f__law_draw,
    d__law_draw := _,
    F__law_draw := fun_mk (st := s__law_draw) l__law_draw c__law_draw k__law_draw,
    g__law_draw := PySem.W.mg_of X G a__law_draw,
    b__law_draw := (fun_mk (st := s__law_draw) l__law_draw c__law_draw k__law_draw).binds (ps := p__law_draw) (fun _ _ _ _ _ _ us hl => match us, hl with | [_, _], _ => rfl),
    f__law_pick := f__law_pick,
    d__law_pick := _,
    F__law_pick := fun_mk (st := s__law_pick) l__law_pick c__law_pick k__law_pick,
    g__law_pick := PySem.W.mg_of X G a__law_pick,
    b__law_pick := (fun_mk (st := s__law_pick) l__law_pick c__law_pick k__law_pick).binds (ps := p__law_pick) (fun _ _ _ _ _ _ us hl => match us, hl with | [_, _], _ => rfl),
    f__law_gcd := f__law_gcd,
    d__law_gcd := _,
    F__law_gcd := fun_mk (st := s__law_gcd) l__law_gcd c__law_gcd k__law_gcd,
    g__law_gcd := PySem.W.mg_of X G a__law_gcd,
    b__law_gcd := (fun_mk (st := s__law_gcd) l__law_gcd c__law_gcd k__law_gcd).binds (ps := p__law_gcd) (fun _ _ _ _ _ _ us hl => match us, hl with | [_, _], _ => rfl),
    f__law_discriminant := f__law_discriminant,
    d__law_discriminant := _,
    F__law_discriminant := fun_mk (st := s__law_discriminant) l__law_discriminant c__law_discriminant k__law_discriminant,
    g__law_discriminant := PySem.W.mg_of X G a__law_discriminant,
    b__law_discriminant := (fun_mk (st := s__law_discriminant) l__law_discriminant c__law_discriminant k__law_discriminant).binds (ps := p__law_discriminant) (fun _ _ _ _ _ _ us hl => match us, hl with | [_], _ => rfl),
    f__law_classes := f__law_classes,
    d__law_classes := _,
    F__law_classes := fun_mk (st := s__law_classes) l__law_classes c__law_classes k__law_classes,
    g__law_classes := PySem.W.mg_of X G a__law_classes,
    b__law_classes := (fun_mk (st := s__law_classes) l__law_classes c__law_classes k__law_classes).binds (ps := p__law_classes) (fun _ _ _ _ _ _ us hl => match us, hl with | [_], _ => rfl),
    f__law_led := f__law_led,
    d__law_led := _,
    F__law_led := fun_mk (st := s__law_led) l__law_led c__law_led k__law_led,
    g__law_led := PySem.W.mg_of X G a__law_led,
    b__law_led := (fun_mk (st := s__law_led) l__law_led c__law_led k__law_led).binds (ps := p__law_led) (fun _ _ _ _ _ _ us hl => match us, hl with | [_, _], _ => rfl),
    f__law_times := f__law_times,
    d__law_times := _,
    F__law_times := fun_mk (st := s__law_times) l__law_times c__law_times k__law_times,
    g__law_times := PySem.W.mg_of X G a__law_times,
    b__law_times := (fun_mk (st := s__law_times) l__law_times c__law_times k__law_times).binds (ps := p__law_times) (fun _ _ _ _ _ _ us hl => match us, hl with | [_, _], _ => rfl),
    f__law_matrix := f__law_matrix,
    d__law_matrix := _,
    F__law_matrix := fun_mk (st := s__law_matrix) l__law_matrix c__law_matrix k__law_matrix,
    g__law_matrix := PySem.W.mg_of X G a__law_matrix,
    b__law_matrix := (fun_mk (st := s__law_matrix) l__law_matrix c__law_matrix k__law_matrix).binds (ps := p__law_matrix) (fun _ _ _ _ _ _ us hl => match us, hl with | [_, _, _], _ => rfl),
    f__law_is_integer := f__law_is_integer,
    d__law_is_integer := _,
    F__law_is_integer := fun_mk (st := s__law_is_integer) l__law_is_integer c__law_is_integer k__law_is_integer,
    g__law_is_integer := PySem.W.mg_of X G a__law_is_integer,
    b__law_is_integer := (fun_mk (st := s__law_is_integer) l__law_is_integer c__law_is_integer k__law_is_integer).binds (ps := p__law_is_integer) (fun _ _ _ _ _ _ us hl => match us, hl with | [_], _ => rfl),
    f__law_is_discriminant := f__law_is_discriminant,
    d__law_is_discriminant := _,
    F__law_is_discriminant := fun_mk (st := s__law_is_discriminant) l__law_is_discriminant c__law_is_discriminant k__law_is_discriminant,
    g__law_is_discriminant := PySem.W.mg_of X G a__law_is_discriminant,
    b__law_is_discriminant := (fun_mk (st := s__law_is_discriminant) l__law_is_discriminant c__law_is_discriminant k__law_is_discriminant).binds (ps := p__law_is_discriminant) (fun _ _ _ _ _ _ us hl => match us, hl with | [_], _ => rfl),
    f__law_are_integers := f__law_are_integers,
    d__law_are_integers := _,
    F__law_are_integers := fun_mk (st := s__law_are_integers) l__law_are_integers c__law_are_integers k__law_are_integers,
    g__law_are_integers := PySem.W.mg_of X G a__law_are_integers,
    b__law_are_integers := (fun_mk (st := s__law_are_integers) l__law_are_integers c__law_are_integers k__law_are_integers).binds (ps := p__law_are_integers) (fun _ _ _ _ _ _ us hl => match us, hl with | [_, _], _ => rfl),
    f__law_is_form := f__law_is_form,
    d__law_is_form := _,
    F__law_is_form := fun_mk (st := s__law_is_form) l__law_is_form c__law_is_form k__law_is_form,
    g__law_is_form := PySem.W.mg_of X G a__law_is_form,
    b__law_is_form := (fun_mk (st := s__law_is_form) l__law_is_form c__law_is_form k__law_is_form).binds (ps := p__law_is_form) (fun _ _ _ _ _ _ us hl => match us, hl with | [_], _ => rfl),
    f__law_is_reduced := f__law_is_reduced,
    d__law_is_reduced := _,
    F__law_is_reduced := fun_mk (st := s__law_is_reduced) l__law_is_reduced c__law_is_reduced k__law_is_reduced,
    g__law_is_reduced := PySem.W.mg_of X G a__law_is_reduced,
    b__law_is_reduced := (fun_mk (st := s__law_is_reduced) l__law_is_reduced c__law_is_reduced k__law_is_reduced).binds (ps := p__law_is_reduced) (fun _ _ _ _ _ _ us hl => match us, hl with | [_], _ => rfl),
    f__law_is_matrix := f__law_is_matrix,
    d__law_is_matrix := _,
    F__law_is_matrix := fun_mk (st := s__law_is_matrix) l__law_is_matrix c__law_is_matrix k__law_is_matrix,
    g__law_is_matrix := PySem.W.mg_of X G a__law_is_matrix,
    b__law_is_matrix := (fun_mk (st := s__law_is_matrix) l__law_is_matrix c__law_is_matrix k__law_is_matrix).binds (ps := p__law_is_matrix) (fun _ _ _ _ _ _ us hl => match us, hl with | [_], _ => rfl),
    f__law_fundamental := f__law_fundamental,
    d__law_fundamental := _,
    F__law_fundamental := fun_mk (st := s__law_fundamental) l__law_fundamental c__law_fundamental k__law_fundamental,
    g__law_fundamental := PySem.W.mg_of X G a__law_fundamental,
    b__law_fundamental := (fun_mk (st := s__law_fundamental) l__law_fundamental c__law_fundamental k__law_fundamental).binds (ps := p__law_fundamental) (fun _ _ _ _ _ _ us hl => match us, hl with | [_], _ => rfl),
    f__law_bent := f__law_bent,
    d__law_bent := _,
    F__law_bent := fun_mk (st := s__law_bent) l__law_bent c__law_bent k__law_bent,
    g__law_bent := PySem.W.mg_of X G a__law_bent,
    b__law_bent := (fun_mk (st := s__law_bent) l__law_bent c__law_bent k__law_bent).binds (ps := p__law_bent) (fun _ _ _ _ _ _ us hl => match us, hl with | [_, _], _ => rfl),
    f__law_asked := f__law_asked,
    d__law_asked := _,
    F__law_asked := fun_mk (st := s__law_asked) l__law_asked c__law_asked k__law_asked,
    g__law_asked := PySem.W.mg_of X G a__law_asked,
    b__law_asked := (fun_mk (st := s__law_asked) l__law_asked c__law_asked k__law_asked).binds (ps := p__law_asked) (fun _ _ _ _ _ _ us hl => match us, hl with | [_], _ => rfl),
    f__law_is_right := f__law_is_right,
    d__law_is_right := _,
    F__law_is_right := fun_mk (st := s__law_is_right) l__law_is_right c__law_is_right k__law_is_right,
    g__law_is_right := PySem.W.mg_of X G a__law_is_right,
    b__law_is_right := (fun_mk (st := s__law_is_right) l__law_is_right c__law_is_right k__law_is_right).binds (ps := p__law_is_right) (fun _ _ _ _ _ _ us hl => match us, hl with | [_], _ => rfl),
    f_law := f_law,
    d_law := _,
    F_law := fun_mk (st := s_law) l_law c_law k_law,
    g_law := PySem.W.mg_of X G a_law,
    b_law := (fun_mk (st := s_law) l_law c_law k_law).binds (ps := p_law) (fun _ _ _ _ _ _ us hl => match us, hl with | [_], _ => rfl),
    kb_is_matrix_0 := kb_of (fun_mk (st := s_is_matrix) l_is_matrix c_is_matrix k_is_matrix) (fun _ _ _ _ _ _ us ws h1 h2 => match us, ws, h1, h2 with | [], [_], _, _ => rfl),
    kb_is_reduced_0 := kb_of (fun_mk (st := s_is_reduced) l_is_reduced c_is_reduced k_is_reduced) (fun _ _ _ _ _ _ us ws h1 h2 => match us, ws, h1, h2 with | [], [_], _, _ => rfl),
    kb_is_form_0 := kb_of (fun_mk (st := s_is_form) l_is_form c_is_form k_is_form) (fun _ _ _ _ _ _ us ws h1 h2 => match us, ws, h1, h2 with | [], [_], _, _ => rfl),
    kb_is_discriminant_0 := kb_of (fun_mk (st := s_is_discriminant) l_is_discriminant c_is_discriminant k_is_discriminant) (fun _ _ _ _ _ _ us ws h1 h2 => match us, ws, h1, h2 with | [], [_], _, _ => rfl),
    kb_fundamental_0 := kb_of (fun_mk (st := s_fundamental) l_fundamental c_fundamental k_fundamental) (fun _ _ _ _ _ _ us ws h1 h2 => match us, ws, h1, h2 with | [], [_], _, _ => rfl),
    kb_discriminant_of_0 := kb_of (fun_mk (st := s_discriminant_of) l_discriminant_of c_discriminant_of k_discriminant_of) (fun _ _ _ _ _ _ us ws h1 h2 => match us, ws, h1, h2 with | [], [_], _, _ => rfl),
    v_GREATEST_PRIME := v_GREATEST_PRIME,
    g_GREATEST_PRIME := PySem.W.mg_of X G e_GREATEST_PRIME,
    v_LEAST := v_LEAST,
    g_LEAST := PySem.W.mg_of X G e_LEAST,
    v_LEAST_PRIME := v_LEAST_PRIME,
    g_LEAST_PRIME := PySem.W.mg_of X G e_LEAST_PRIME,
    z_abs := PySem.W.mg_none_of X G y_abs,
    z_all := PySem.W.mg_none_of X G y_all,
    z_bool := PySem.W.mg_none_of X G y_bool,
    z_int := PySem.W.mg_none_of X G y_int,
    z_isinstance := PySem.W.mg_none_of X G y_isinstance,
    z_len := PySem.W.mg_none_of X G y_len,
    z_list := PySem.W.mg_none_of X G y_list,
    z_max := PySem.W.mg_none_of X G y_max,
    z_range := PySem.W.mg_none_of X G y_range,
    z_repr := PySem.W.mg_none_of X G y_repr,
    z_sorted := PySem.W.mg_none_of X G y_sorted,
    z_str := PySem.W.mg_none_of X G y_str,
    z_tuple := PySem.W.mg_none_of X G y_tuple }, rfl, rfl⟩
  obtain ⟨A, h1, h2⟩ := A
  have h3 : fa = A.f_law := by
    rw [h1]
    exact Value.ref.inj (Option.some.inj e)
  subst h3
  refine ⟨A.d_law, fun s u => by rw [h2]; exact .of_eq rfl, fun a ns hl => ?_⟩
  let C0 : Ct := { K := K, n1 := n_1, n2 := n_2, n3 := n_3, sc := (some (a, ns), A.cl), H0 := fun _ => none, F0 := ⟨fun _ => none, none, (none, [])⟩, Φ := fun _ _ _ => .no, fu := 0 }
  exact ⟨spS C0 (FT (T ns) (fun _ => none) (6 + 1) 34) 1, fun H _ hS => law_sp (C := C0) rfl hS (law_val ns hl), fun base _ _ => ok_law (C := C0) A a ns ⟨rfl, rfl, rfl, rfl, rfl⟩ 0 0⟩
end Xk35
open PySem PySem.W PyProof.Rows
set_option maxHeartbeats 0 in
theorem PySem.Challenge.cw_craterhouse_k35_forms_of_any_value_holds : PySem.Challenge.rw_craterhouse_k35_forms_of_any_value.Holds := by
  w_on; o_law; k_head; (case hw => w_witness2)
  k_fill
  refine Pv.walkEnd (l := PySem.Challenge.rw_craterhouse_k35_forms_of_any_value) (n := 63) (k := 7) (x := "_law_script") rfl (by decide) rfl ⟨rfl, by decide, by decide⟩ (fun w h Y => PySem.W.kIn_of Y) ?F
  case F =>
    intro w mg fa h KX G hmg
    refine' Xk35.fin KX G hmg ?aC_Curve ?pg_Curve ?hd_Curve ?po_Curve ?sa_Curve ?mk_Curve ?kc_Curve ?na_Curve_prime ?na_Curve_a ?na_Curve_b ?ia_Curve ?ib_Curve ?ic_Curve ?id_Curve ?ik_Curve_int ?ik_Curve_bool ?ik_Curve_str ?ik_Curve_tuple ?ik_Curve_list ?a_is_integer_integers ?l_is_integer_integers ?c_is_integer_integers ?k_is_integer_integers ?a_are_integers ?l_are_integers ?c_are_integers ?k_are_integers ?a_common_divisor ?l_common_divisor ?c_common_divisor ?k_common_divisor ?a_whole_root ?l_whole_root ?c_whole_root ?k_whole_root ?a_is_discriminant ?l_is_discriminant ?c_is_discriminant ?k_is_discriminant ?a_discriminant_at ?l_discriminant_at ?c_discriminant_at ?k_discriminant_at ?a_is_form ?l_is_form ?c_is_form ?k_is_form ?a_is_reduced ?l_is_reduced ?c_is_reduced ?k_is_reduced ?a_is_matrix ?l_is_matrix ?c_is_matrix ?k_is_matrix ?a_fundamental ?l_fundamental ?c_fundamental ?k_fundamental ?a_discriminant_of ?l_discriminant_of ?c_discriminant_of ?k_discriminant_of ?a_is_integer_primefield ?l_is_integer_primefield ?c_is_integer_primefield ?k_is_integer_primefield ?a_is_prime ?l_is_prime ?c_is_prime ?k_is_prime ?a_is_number ?l_is_number ?c_is_number ?k_is_number ?a_Curve___init__ ?i_Curve___init__ ?l_Curve___init__ ?c_Curve___init__ ?k_Curve___init__ ?a__law_deck ?l__law_deck ?c__law_deck ?k__law_deck ?a__law_draw ?l__law_draw ?c__law_draw ?k__law_draw ?a__law_pick ?l__law_pick ?c__law_pick ?k__law_pick ?a__law_gcd ?l__law_gcd ?c__law_gcd ?k__law_gcd ?a__law_discriminant ?l__law_discriminant ?c__law_discriminant ?k__law_discriminant ?a__law_classes ?l__law_classes ?c__law_classes ?k__law_classes ?a__law_led ?l__law_led ?c__law_led ?k__law_led ?a__law_times ?l__law_times ?c__law_times ?k__law_times ?a__law_matrix ?l__law_matrix ?c__law_matrix ?k__law_matrix ?a__law_is_integer ?l__law_is_integer ?c__law_is_integer ?k__law_is_integer ?a__law_is_discriminant ?l__law_is_discriminant ?c__law_is_discriminant ?k__law_is_discriminant ?a__law_are_integers ?l__law_are_integers ?c__law_are_integers ?k__law_are_integers ?a__law_is_form ?l__law_is_form ?c__law_is_form ?k__law_is_form ?a__law_is_reduced ?l__law_is_reduced ?c__law_is_reduced ?k__law_is_reduced ?a__law_is_matrix ?l__law_is_matrix ?c__law_is_matrix ?k__law_is_matrix ?a__law_fundamental ?l__law_fundamental ?c__law_fundamental ?k__law_fundamental ?a__law_bent ?l__law_bent ?c__law_bent ?k__law_bent ?a__law_asked ?l__law_asked ?c__law_asked ?k__law_asked ?a__law_is_right ?l__law_is_right ?c__law_is_right ?k__law_is_right ?a_law ?l_law ?c_law ?k_law ?e_GREATEST_PRIME ?e_LEAST ?e_LEAST_PRIME ?y_abs ?y_all ?y_bool ?y_int ?y_isinstance ?y_len ?y_list ?y_max ?y_range ?y_repr ?y_sorted ?y_str ?y_tuple
    (case aC_Curve => k_is)
    (case pg_Curve => k_is)
    (case hd_Curve => k_is)
    (case po_Curve => k_is)
    (case sa_Curve => k_is)
    (case mk_Curve => k_is)
    (case kc_Curve => k_is)
    (case na_Curve_prime => k_is)
    (case na_Curve_a => k_is)
    (case na_Curve_b => k_is)
    (case ia_Curve => k_is)
    (case ib_Curve => k_is)
    (case ic_Curve => k_is)
    (case id_Curve => k_is)
    (case ik_Curve_int => k_is)
    (case ik_Curve_bool => k_is)
    (case ik_Curve_str => k_is)
    (case ik_Curve_tuple => k_is)
    (case ik_Curve_list => k_is)
    (case a_is_integer_integers => k_is)
    (case l_is_integer_integers => k_is)
    (case c_is_integer_integers => k_is)
    (case k_is_integer_integers => k_is)
    (case a_are_integers => k_is)
    (case l_are_integers => k_is)
    (case c_are_integers => k_is)
    (case k_are_integers => k_is)
    (case a_common_divisor => k_is)
    (case l_common_divisor => k_is)
    (case c_common_divisor => k_is)
    (case k_common_divisor => k_is)
    (case a_whole_root => k_is)
    (case l_whole_root => k_is)
    (case c_whole_root => k_is)
    (case k_whole_root => k_is)
    (case a_is_discriminant => k_is)
    (case l_is_discriminant => k_is)
    (case c_is_discriminant => k_is)
    (case k_is_discriminant => k_is)
    (case a_discriminant_at => k_is)
    (case l_discriminant_at => k_is)
    (case c_discriminant_at => k_is)
    (case k_discriminant_at => k_is)
    (case a_is_form => k_is)
    (case l_is_form => k_is)
    (case c_is_form => k_is)
    (case k_is_form => k_is)
    (case a_is_reduced => k_is)
    (case l_is_reduced => k_is)
    (case c_is_reduced => k_is)
    (case k_is_reduced => k_is)
    (case a_is_matrix => k_is)
    (case l_is_matrix => k_is)
    (case c_is_matrix => k_is)
    (case k_is_matrix => k_is)
    (case a_fundamental => k_is)
    (case l_fundamental => k_is)
    (case c_fundamental => k_is)
    (case k_fundamental => k_is)
    (case a_discriminant_of => k_is)
    (case l_discriminant_of => k_is)
    (case c_discriminant_of => k_is)
    (case k_discriminant_of => k_is)
    (case a_is_integer_primefield => k_is)
    (case l_is_integer_primefield => k_is)
    (case c_is_integer_primefield => k_is)
    (case k_is_integer_primefield => k_is)
    (case a_is_prime => k_is)
    (case l_is_prime => k_is)
    (case c_is_prime => k_is)
    (case k_is_prime => k_is)
    (case a_is_number => k_is)
    (case l_is_number => k_is)
    (case c_is_number => k_is)
    (case k_is_number => k_is)
    (case a_Curve___init__ => k_is)
    (case i_Curve___init__ => k_is)
    (case l_Curve___init__ => k_is)
    (case c_Curve___init__ => k_is)
    (case k_Curve___init__ => k_is)
    (case a__law_deck => k_is)
    (case l__law_deck => k_is)
    (case c__law_deck => k_is)
    (case k__law_deck => k_is)
    (case a__law_draw => k_is)
    (case l__law_draw => k_is)
    (case c__law_draw => k_is)
    (case k__law_draw => k_is)
    (case a__law_pick => k_is)
    (case l__law_pick => k_is)
    (case c__law_pick => k_is)
    (case k__law_pick => k_is)
    (case a__law_gcd => k_is)
    (case l__law_gcd => k_is)
    (case c__law_gcd => k_is)
    (case k__law_gcd => k_is)
    (case a__law_discriminant => k_is)
    (case l__law_discriminant => k_is)
    (case c__law_discriminant => k_is)
    (case k__law_discriminant => k_is)
    (case a__law_classes => k_is)
    (case l__law_classes => k_is)
    (case c__law_classes => k_is)
    (case k__law_classes => k_is)
    (case a__law_led => k_is)
    (case l__law_led => k_is)
    (case c__law_led => k_is)
    (case k__law_led => k_is)
    (case a__law_times => k_is)
    (case l__law_times => k_is)
    (case c__law_times => k_is)
    (case k__law_times => k_is)
    (case a__law_matrix => k_is)
    (case l__law_matrix => k_is)
    (case c__law_matrix => k_is)
    (case k__law_matrix => k_is)
    (case a__law_is_integer => k_is)
    (case l__law_is_integer => k_is)
    (case c__law_is_integer => k_is)
    (case k__law_is_integer => k_is)
    (case a__law_is_discriminant => k_is)
    (case l__law_is_discriminant => k_is)
    (case c__law_is_discriminant => k_is)
    (case k__law_is_discriminant => k_is)
    (case a__law_are_integers => k_is)
    (case l__law_are_integers => k_is)
    (case c__law_are_integers => k_is)
    (case k__law_are_integers => k_is)
    (case a__law_is_form => k_is)
    (case l__law_is_form => k_is)
    (case c__law_is_form => k_is)
    (case k__law_is_form => k_is)
    (case a__law_is_reduced => k_is)
    (case l__law_is_reduced => k_is)
    (case c__law_is_reduced => k_is)
    (case k__law_is_reduced => k_is)
    (case a__law_is_matrix => k_is)
    (case l__law_is_matrix => k_is)
    (case c__law_is_matrix => k_is)
    (case k__law_is_matrix => k_is)
    (case a__law_fundamental => k_is)
    (case l__law_fundamental => k_is)
    (case c__law_fundamental => k_is)
    (case k__law_fundamental => k_is)
    (case a__law_bent => k_is)
    (case l__law_bent => k_is)
    (case c__law_bent => k_is)
    (case k__law_bent => k_is)
    (case a__law_asked => k_is)
    (case l__law_asked => k_is)
    (case c__law_asked => k_is)
    (case k__law_asked => k_is)
    (case a__law_is_right => k_is)
    (case l__law_is_right => k_is)
    (case c__law_is_right => k_is)
    (case k__law_is_right => k_is)
    (case a_law => k_is)
    (case l_law => k_is)
    (case c_law => k_is)
    (case k_law => k_is)
    (case e_GREATEST_PRIME => k_is)
    (case e_LEAST => k_is)
    (case e_LEAST_PRIME => k_is)
    (case y_abs => k_is)
    (case y_all => k_is)
    (case y_bool => k_is)
    (case y_int => k_is)
    (case y_isinstance => k_is)
    (case y_len => k_is)
    (case y_list => k_is)
    (case y_max => k_is)
    (case y_range => k_is)
    (case y_repr => k_is)
    (case y_sorted => k_is)
    (case y_str => k_is)
    (case y_tuple => k_is)
end
