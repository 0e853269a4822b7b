import PyProof.Rows.All
import Wide.All
import OpenK.AllK
import Wide.FinOn
import HandS.ForMost
import HandS.Deep
import HandS.IsInst
import HandS.Wide
import HandS.SortInts
import HandS.SetKeys
import HandS.TupAny
import HandS.TupLe
import HandS.Style
import HandS.Conv
import HandS.NoneIn
import HandS.NamedTupSort
import HandS.SetFor
import HandS.Strs
import PySem.Challenge.RW_craterhouse_k40_whole_products_of_classe
set_option Elab.async false
set_option linter.all false
set_option maxRecDepth 100000
section
/-! PvA: a small language of values (no heap): its terms, its reckoning. -/
set_option autoImplicit false
namespace Pv
open PySem

abbrev D := PyData
/-- what a deck of draws holds -/
structure Dk where
  cells : List Int
  mixed : Int
  turn : Int
abbrev G := Option Dk
abbrev Sl := List (Option D)

inductive Res (α : Type) where
  | ok (a : α) (g : G)
  | exc (c : Nat) (vs : List D) (g : G)
  | no
def Res.bind {α β : Type} : Res α → (α → G → Res β) → Res β
  | .ok a g, f => f a g
  | .exc c vs g, _ => .exc c vs g
  | .no, _ => .no
def lift {α : Type} : Option α → G → Res α
  | some a, g => .ok a g
  | none, _ => .no
@[simp] theorem bind_ok {α β : Type} (a : α) (g : G) (f : α → G → Res β) : (Res.ok a g).bind f = f a g := rfl
@[simp] theorem bind_no {α β : Type} (f : α → G → Res β) : (Res.no : Res α).bind f = .no := rfl
@[simp] theorem bind_exc {α β : Type} (c : Nat) (vs : List D) (g : G) (f : α → G → Res β) : (Res.exc c vs g : Res α).bind f = .exc c vs g := rfl
@[simp] theorem lift_some {α : Type} (a : α) (g : G) : lift (some a) g = .ok a g := rfl
@[simp] theorem lift_none {α : Type} (g : G) : lift (none : Option α) g = .no := rfl
theorem bind_eq_ok {α β : Type} {r : Res α} {f : α → G → Res β} {b : β} {g : G} (h : r.bind f = .ok b g) : ∃ a g1, r = .ok a g1 ∧ f a g1 = .ok b g := by
  cases r with
  | ok a g1 => exact ⟨a, g1, rfl, h⟩
  | exc c vs g1 => cases h
  | no => cases h
theorem lift_eq_ok {α : Type} {o : Option α} {g g' : G} {a : α} (h : lift o g = .ok a g') : o = some a ∧ g' = g := by
  cases o with
  | none => cases h
  | some b => cases h; exact ⟨rfl, rfl⟩

/-- marks that stand for things outside as values: 0 the deck, 1 the script -/
def tokD (n : Int) : D := .dict [(.list [], .int n)]
def isDeck : List (D × D) → Bool
  | (.list _, _) :: _ => true
  | _ => false

/-! ### operators -/
inductive Bop where | add | sub | mul | fdiv | mod | pow | shl | shr | band | bor | bxor | lcat | lrep
inductive Cop where | eq | ne | lt | le | gt | ge | isin | notin | isN | notN
def mulOk (i j : Int) : Bool := decide (i.natAbs < 18446744073709551616) || decide (j.natAbs < 18446744073709551616) || decide (i.natAbs.log2 + j.natAbs.log2 < 1000000)
def powOk (i j : Int) : Bool := decide (0 ≤ j) && decide (j ≤ 1000000) && decide (i.natAbs < 18446744073709551616)
def lineN : Nat := 16777216
def binV : Bop → D → D → Option D
  | .add, .int i, .int j => some (.int (i + j))
  | .sub, .int i, .int j => some (.int (i - j))
  | .mul, .int i, .int j => if mulOk i j then some (.int (i * j)) else none
  | .fdiv, .int i, .int j => if decide (0 < j) && decide (j.natAbs.log2 < 9000) then some (.int (i / j)) else if decide (j < 0) && decide (j.natAbs.log2 < 9000) then some (.int (i.fdiv j)) else none
  | .mod, .int i, .int j => if decide (0 < j) then some (.int (i % j)) else none
  | .pow, .int i, .int j => if powOk i j then some (.int (i ^ j.toNat)) else none
  | .shl, .int i, .int j => if powOk i j then some (.int (i * 2 ^ j.toNat)) else none
  | .shr, .int i, .int j => if decide (0 ≤ j) then some (.int (i / 2 ^ j.toNat)) else none
  | .band, .int i, .int j => some (.int (Builtin.bitAnd i j))
  | .bor, .int i, .int j => some (.int (Builtin.bitOr i j))
  | .bxor, .int i, .int j => some (.int (Builtin.bitXor i j))
  | .add, .str x, .str y => if decide (x.length + y.length ≤ lineN) then some (.str (x ++ y)) else none
  | .add, .list xs, .list ys => if decide (xs.length + ys.length ≤ lineN) then some (.list (xs ++ ys)) else none
  | .add, .tuple xs, .tuple ys => if decide (xs.length + ys.length ≤ lineN) then some (.tuple (xs ++ ys)) else none
  | .mul, .list xs, .int k => if decide (-9223372036854775808 ≤ k) && decide (k < 16777217) && decide (xs.length * k.toNat ≤ lineN) then some (.list (List.replicate k.toNat xs).flatten) else none
  | .lcat, .list xs, .list ys => if decide (xs.length + ys.length ≤ lineN) then some (.list (xs ++ ys)) else none
  | .lrep, .list xs, .int k => if decide (-9223372036854775808 ≤ k) && decide (k < 16777217) && decide (xs.length * k.toNat ≤ lineN) then some (.list (List.replicate k.toNat xs).flatten) else none
  | _, _, _ => none
def isInt : D → Bool
  | .int _ => true
  | _ => false
def shp (d : D) : Bool := SeqAt.shaped d
/-- lists of different lengths, of whatever they hold -/
def lensV : D → D → Option Bool
  | .list xs, .list ys => if decide (xs.length = ys.length) then none else some false
  | _, _ => none
def eqD : D → D → Option Bool
  | .int i, .int j => some (decide (i = j))
  | .bool i, .bool j => some (i == j)
  | .str x, .str y => some (decide (x = y))
  | .none, .none => some true
  | x, y => if shp x && shp y then some (PyData.eqv x y) else lensV x y
def intsOf : List D → Option (List Int)
  | [] => some []
  | .int i :: r => (intsOf r).map (i :: ·)
  | _ :: _ => none
def ltT : D → D → Option Bool
  | .int i, .int j => some (decide (i < j))
  | .tuple xs, .tuple ys => match intsOf xs, intsOf ys with
    | some ns, some ms => some (HT.lexLt ns ms)
    | _, _ => none
  | _, _ => none
def inD (x : D) : D → Option Bool
  | .list ds => if shp x && shp (.list ds) then some (ds.any fun z => PyData.eqv z x) else none
  | .tuple ds => if shp x && shp (.tuple ds) then some (ds.any fun z => PyData.eqv z x) else none
  | _ => none
/-- tuples of ints, none of them empty -/
def tupsOf : List D → Option (List (List Int))
  | [] => some []
  | .tuple ds :: r => match intsOf ds, tupsOf r with
    | some (n :: ns), some ts => some ((n :: ns) :: ts)
    | _, _ => none
  | _ :: _ => none
def boolsOf : List D → Option (List Bool)
  | [] => some []
  | .bool b :: r => (boolsOf r).map (b :: ·)
  | _ :: _ => none
def tupD (ns : List Int) : D := .tuple (ns.map .int)
def keyD : D → Option L2.Key
  | .int i => some (.inl i)
  | .str x => some (.inr x)
  | _ => none
def cmpV : Cop → D → D → Option Bool
  | .eq, x, y => eqD x y
  | .ne, x, y => (eqD x y).map (!·)
  | .lt, x, y => ltT x y
  | .gt, .int i, .int j => some (decide (j < i))
  | .le, .int i, .int j => some (decide (i ≤ j))
  | .ge, .int i, .int j => some (decide (j ≤ i))
  | .isN, x, .none => some (match x with | .none => true | _ => false)
  | .notN, x, .none => some (match x with | .none => false | _ => true)
  | .isN, .bool a, .bool b => some (decide (a = b))
  | .notN, .bool a, .bool b => some (!decide (a = b))
  | .isin, x, y => inD x y
  | .notin, x, y => (inD x y).map (!·)
  | _, _, _ => none
def truV : D → Option Bool
  | .none => some false
  | .bool b => some b
  | .int i => some (i != 0)
  | .str x => if decide (x.length ≤ lineN) then some (decide (x.length ≠ 0)) else none
  | .list xs => some (!xs.isEmpty)
  | .tuple xs => some (!xs.isEmpty)
  | .dict _ => none

/-! ### subscripts -/
def ixD (xs : List D) (i : Int) : Option D := L2.atI xs i
def idxV : D → D → Option D
  | .list xs, .int i => ixD xs i
  | .tuple xs, .int i => ixD xs i
  | _, _ => none
def optI : D → Option (Option Int)
  | .none => some none
  | .int i => some (some i)
  | _ => none
def cutD (xs : List D) (lo hi : Option Int) : List D := (xs.drop (HT.sIx xs.length 0 lo)).take (HT.sIx xs.length xs.length hi - HT.sIx xs.length 0 lo)
def slcV : D → D → D → Option D
  | .list xs, l, h => match optI l, optI h with
    | some lo, some hi => some (.list (cutD xs lo hi))
    | _, _ => none
  | .tuple xs, l, h => match optI l, optI h with
    | some lo, some hi => some (.tuple (cutD xs lo hi))
    | _, _ => none
  | _, _, _ => none
def revV : D → Option D
  | .list xs => some (.list xs.reverse)
  | .tuple xs => some (.tuple xs.reverse)
  | _ => none

/-! ### built-in functions, by values -/
inductive Bi where | all | len | abs | min2 | max2 | sum | toInt | toStr | toList | toTuple | isInt | isBool | isStr | isTuple | isList | repr | sorted | listRange1 | listRange2 | divmod | sortSet
def lenV : D → Option D
  | .list xs => some (.int xs.length)
  | .tuple xs => some (.int xs.length)
  | .str x => if decide (x.length ≤ lineN) then some (.int x.length) else none
  | _ => none
def isDk : D → Bool
  | .dict kvs => isDeck kvs
  | _ => false
def rangeD (a : Int) (n : Nat) : List D := (List.range n).map fun (k : Nat) => .int (a + k)
def scalD : D → Bool
  | .none | .bool _ | .int _ | .str _ => true
  | _ => false
def flatD : D → Bool
  | .dict kvs => !isDeck kvs && kvs.all fun p => (keyD p.1).isSome && scalD p.2
  | _ => false
def showOk (d : D) : Bool := (shp d || (flatD d && decide (d.depth ≤ 64))) && d.showable && decide (d.shown.length ≤ lineN)
def insI (x : Int) : List Int → List Int
  | [] => [x]
  | y :: r => if x ≤ y then x :: y :: r else y :: insI x r
def sortI (xs : List Int) : List Int := xs.foldr insI []
def insT (x : List Int) : List (List Int) → List (List Int)
  | [] => [x]
  | y :: r => if HT.lexLt y x then y :: insT x r else x :: y :: r
def sortT (xs : List (List Int)) : List (List Int) := xs.foldr insT []
def sortV (xs : List D) : Option D := match intsOf xs with
  | some ns => some (.list ((sortI ns).map .int))
  | none => (tupsOf xs).map fun ts => .list ((sortT ts).map tupD)
/-- into a row that climbs strictly -/
def insS (x : Int) : List Int → List Int
  | [] => [x]
  | y :: r => if x < y then x :: y :: r else if x = y then y :: r else y :: insS x r
def setI (xs : List Int) : List Int := xs.foldr insS []
def biV : Bi → List D → Option D
  | .divmod, [.int i, .int j] => if decide (j ≠ 0) && decide (j.natAbs < 1073741824) then some (.tuple [.int (i.fdiv j), .int (i.fmod j)]) else none
  | .sortSet, [.list xs] => match intsOf xs with
    | some ns => if decide (ns.length ≤ 60) then some (.list ((setI ns).map .int)) else none
    | none => none
  | .all, [.list xs] => (boolsOf xs).map fun bs => .bool (bs.all id)
  | .len, [x] => lenV x
  | .abs, [.int i] => some (.int (if i < 0 then -i else i))
  | .min2, [.int i, .int j] => some (.int (if j < i then j else i))
  | .max2, [.int i, .int j] => some (.int (if j > i then j else i))
  | .sum, [.list xs] => (intsOf xs).map fun ns => .int ns.sum
  | .toInt, [.int i] => some (.int i)
  | .toInt, [.bool b] => some (.int (if b then 1 else 0))
  | .toStr, [.int i] => if decide (i.natAbs.log2 < 1920) then some (.str (toString i)) else none
  | .toList, [.list xs] => some (.list xs)
  | .toList, [.tuple xs] => some (.list xs)
  | .toTuple, [.list xs] => some (.tuple xs)
  | .toTuple, [.tuple xs] => some (.tuple xs)
  | .isInt, [x] => if isDk x then none else some (.bool (match x with | .int _ => true | .bool _ => true | _ => false))
  | .isBool, [x] => if isDk x then none else some (.bool (match x with | .bool _ => true | _ => false))
  | .isStr, [x] => if isDk x then none else some (.bool (match x with | .str _ => true | _ => false))
  | .isTuple, [x] => if isDk x then none else some (.bool (match x with | .tuple _ => true | _ => false))
  | .isList, [x] => if isDk x then none else some (.bool (match x with | .list _ => true | _ => false))
  | .repr, [x] => if showOk x then some (.str x.shown) else none
  | .sorted, [.list xs] => sortV xs
  | .listRange1, [.int j] => if decide (-4611686018427387904 ≤ j) && decide (j ≤ 16777216) then some (.list (rangeD 0 j.toNat)) else none
  | .listRange2, [.int i, .int j] => if decide (-4611686018427387904 ≤ i) && decide (i < 4611686018427387904) && decide (-4611686018427387904 ≤ j) && decide (j < 4611686018427387904) && decide ((j - i).toNat ≤ lineN) then some (.list (rangeD i (j - i).toNat)) else none
  | _, _ => none

/-! ### what a loop walks -/
inductive Ik where | seq | rng1 | rng2 | enum | zip
def itV : Ik → List D → Option (List D)
  | .seq, [.list xs] => some xs
  | .seq, [.tuple xs] => some xs
  | .rng1, [.int j] => if decide (j < 4611686018427387904) && decide (-4611686018427387904 ≤ j) then some (rangeD 0 j.toNat) else none
  | .rng2, [.int i, .int j] => if decide (-4611686018427387904 ≤ i) && decide (i < 4611686018427387904) && decide (-4611686018427387904 ≤ j) && decide (j < 4611686018427387904) then some (rangeD i (j - i).toNat) else none
  | .enum, [.list xs] => some (xs.zipIdx.map fun p => .tuple [.int p.2, p.1])
  | .zip, [.list xs, .list ys] => if decide (xs.length ≤ lineN) then some ((xs.zip ys).map fun p => .tuple [p.1, p.2]) else none
  | _, _ => none

/-! ### the terms -/
mutual
inductive Ex where
  | c (v : D)
  | var (i : Nat)
  | bin (op : Bop) (a b : Ex)
  | neg (a : Ex)
  | cmp (op : Cop) (a b : Ex)
  | chain (o1 o2 : Cop) (a b c : Ex)
  | chain3 (o1 o2 o3 : Cop) (a b c d : Ex)
  | and (a b : Ex)
  | or (a b : Ex)
  | not (a : Ex)
  | truth (a : Ex)
  | ite (t a b : Ex)
  | idx (a i : Ex)
  | slc (a lo hi : Ex)
  | rev (a : Ex)
  | tup (as : Exs)
  | lst (as : Exs)
  | bi (f : Bi) (as : Exs)
  | call (f : Nat) (as : Exs)
  | callK (f : Nat) (as : Exs) (perm : List Nat)
  | comp (t : List Nat) (k : Ik) (as : Exs) (cond elt : Ex)
  | dnew
  | dget (d k x : Ex)
  | dix (d k : Ex)
  | dhas (k d : Ex) (neg : Bool)
  | ddisp (kvs : Exs)
  | lrev (a : Ex)
  | scr (a : Ex) (ns : List Int) (n : Nat)
  | dkGet (turn : Bool) (a : Ex)
  | dkHas (a : Ex)
  | dkPop (a : Ex)
  | dkPush (a e : Ex)
  | dkNew (a b c : Ex)
  | dkNew2 (a b : Ex)
  | asI (a : Ex)
inductive Exs where
  | nil
  | cons (a : Ex) (as : Exs)
end
/-- a target: one name, or the names of a tuple -/
def setMany : List Nat → List D → Sl → Option Sl
  | [], [], σ => some σ
  | i :: is, v :: vs, σ => setMany is vs (σ.set i (some v))
  | _, _, _ => none
def setT : List Nat → D → Sl → Option Sl
  | [i], v, σ => some (σ.set i (some v))
  | is, .tuple vs, σ => setMany is vs σ
  | is, .list vs, σ => setMany is vs σ
  | _, _, _ => none
/-- names in groups: the items of a tuple, each by a target of its own -/
def setGs : List (List Nat) → List D → Sl → Option Sl
  | [], [], σ => some σ
  | t :: ts, v :: vs, σ => (setT t v σ).bind (setGs ts vs)
  | _, _, _ => none
def setG : List (List Nat) → D → Sl → Option Sl
  | ts, .tuple vs, σ => setGs ts vs σ
  | _, _, _ => none
def compL (f : D → G → Res (Option D)) : List D → List D → G → Res (List D)
  | [], acc, g => .ok acc.reverse g
  | x :: r, acc, g => (f x g).bind fun o g => match o with
    | some y => compL f r (y :: acc) g
    | none => compL f r acc g
/-- the slots forgotten -/
def wipeS (σ : Sl) : List Nat → Sl
  | [] => σ
  | v :: vs => (wipeS σ vs).set v none
/-- dicts as pairs of values -/
def keq (a b : D) : Bool := match keyD a, keyD b with
  | some x, some y => decide (x = y)
  | _, _ => false
def dLook (k : D) (kvs : List (D × D)) : Option D := (kvs.find? fun p => keq p.1 k).map (·.2)
def dPut (k v : D) (kvs : List (D × D)) : List (D × D) := if (kvs.any fun p => keq p.1 k) then kvs.map (fun p => if keq p.1 k then (p.1, v) else p) else kvs ++ [(k, v)]
def dgetV : D → D → D → Option D
  | .dict kvs, k, x => if isDeck kvs || (keyD k).isNone then none else some ((dLook k kvs).getD x)
  | _, _, _ => none
def dixV : D → D → Option D
  | .dict kvs, k => if isDeck kvs || (keyD k).isNone then none else dLook k kvs
  | _, _ => none
def dhasV : D → D → Option Bool
  | k, .dict kvs => if isDeck kvs || (keyD k).isNone then none else some (dLook k kvs).isSome
  | _, _ => none
def dispV : List D → List (D × D) → Option (List (D × D))
  | [], acc => some acc
  | k :: v :: r, acc => if (keyD k).isNone then none else dispV r (dPut k v acc)
  | _, _ => none
/-! ### decks -/
def isTok (n : Int) : D → Bool
  | .dict [(.list [], .int k)] => decide (k = n)
  | _ => false
theorem of_isTok {n : Int} {d : D} (h : isTok n d = true) : d = tokD n := by
  unfold isTok at h
  split at h
  · rw [of_decide_eq_true h]; rfl
  · cases h
@[simp] theorem isTok_tok (n : Int) : isTok n (tokD n) = true := by simp [isTok, tokD]
def dkGetV (t : Bool) (d : D) : G → Option D
  | some st => if isTok 0 d then some (.int (if t then st.turn else st.mixed)) else none
  | none => none
def dkHasV (d : D) : G → Option D
  | some st => if isTok 0 d then some (.bool (!st.cells.isEmpty)) else none
  | none => none
def dkPopV (d : D) : G → Res D
  | some st => if isTok 0 d then match st.cells.getLast? with
      | some c => .ok (.int c) (some { st with cells := st.cells.dropLast })
      | none => .no
    else .no
  | none => .no
def dkPushV (d v : D) : G → Res D
  | some st => if isTok 0 d && decide (st.cells.length < lineN) then match v with
      | .int c => .ok .none (some { st with cells := st.cells ++ [c] })
      | _ => .no
    else .no
  | none => .no
def dkSetV (t : Bool) (d v : D) : G → Option G
  | some st => if isTok 0 d then match v with
      | .int c => some (some (if t then { st with turn := c } else { st with mixed := c }))
      | _ => none
    else none
  | none => none
def dkNewV (l m t : D) : G → Res D
  | none => match l, m, t with
    | .list xs, .int m, .int t => match intsOf xs with
      | some ns => .ok (tokD 0) (some ⟨ns, m, t⟩)
      | none => .no
    | _, _, _ => .no
  | some _ => .no
/-- items by their places -/
def pm {α : Type} (perm : List Nat) (xs : List α) : List α := perm.filterMap fun j => xs[j]?
abbrev Fns := Nat → List D → G → Res D
mutual
def ev (Φ : Fns) : Ex → Sl → G → Res D
  | .c v, _, g => .ok v g
  | .var i, σ, g => match σ[i]? with
    | some (some v) => .ok v g
    | _ => .no
  | .bin op a b, σ, g => (ev Φ a σ g).bind fun x g => (ev Φ b σ g).bind fun y g => lift (binV op x y) g
  | .neg a, σ, g => (ev Φ a σ g).bind fun x g => match x with
    | .int i => .ok (.int (-i)) g
    | _ => .no
  | .cmp op a b, σ, g => (ev Φ a σ g).bind fun x g => (ev Φ b σ g).bind fun y g => lift ((cmpV op x y).map .bool) g
  | .chain o1 o2 a b c, σ, g => (ev Φ a σ g).bind fun x g => (ev Φ b σ g).bind fun y g => (lift (cmpV o1 x y) g).bind fun k g =>
      if k then (ev Φ c σ g).bind fun z g => lift ((cmpV o2 y z).map .bool) g else .ok (.bool false) g
  | .chain3 o1 o2 o3 a b c d, σ, g => (ev Φ a σ g).bind fun x g => (ev Φ b σ g).bind fun y g => (lift (cmpV o1 x y) g).bind fun k g =>
      if k then (ev Φ c σ g).bind fun z g => (lift (cmpV o2 y z) g).bind fun k g => if k then (ev Φ d σ g).bind fun w g => lift ((cmpV o3 z w).map .bool) g else .ok (.bool false) g else .ok (.bool false) g
  | .and a b, σ, g => (ev Φ a σ g).bind fun x g => match x with
    | .bool true => ev Φ b σ g
    | .bool false => .ok (.bool false) g
    | _ => .no
  | .or a b, σ, g => (ev Φ a σ g).bind fun x g => match x with
    | .bool true => .ok (.bool true) g
    | .bool false => ev Φ b σ g
    | _ => .no
  | .not a, σ, g => (ev Φ a σ g).bind fun x g => match x with
    | .bool k => .ok (.bool (!k)) g
    | _ => .no
  | .truth a, σ, g => (ev Φ a σ g).bind fun x g => lift ((truV x).map .bool) g
  | .ite t a b, σ, g => (ev Φ t σ g).bind fun x g => match x with
    | .bool true => ev Φ a σ g
    | .bool false => ev Φ b σ g
    | _ => .no
  | .idx a i, σ, g => (ev Φ a σ g).bind fun x g => (ev Φ i σ g).bind fun y g => lift (idxV x y) g
  | .slc a lo hi, σ, g => (ev Φ a σ g).bind fun x g => (ev Φ lo σ g).bind fun l g => (ev Φ hi σ g).bind fun h g => lift (slcV x l h) g
  | .rev a, σ, g => (ev Φ a σ g).bind fun x g => lift (revV x) g
  | .tup as, σ, g => (evs Φ as σ g).bind fun xs g => .ok (.tuple xs) g
  | .lst as, σ, g => (evs Φ as σ g).bind fun xs g => .ok (.list xs) g
  | .bi f as, σ, g => (evs Φ as σ g).bind fun xs g => lift (biV f xs) g
  | .call f as, σ, g => (evs Φ as σ g).bind fun xs g => Φ f xs g
  | .callK f as perm, σ, g => (evs Φ as σ g).bind fun xs g => Φ f (pm perm xs) g
  | .comp t k as cond elt, σ, g => (evs Φ as σ g).bind fun vs g => (lift (itV k vs) g).bind fun xs g =>
      if decide (xs.length ≤ lineN) then (compL (fun x g => (lift (setT t x (wipeS σ t)) g).bind fun σ' g => (ev Φ cond σ' g).bind fun b g => match b with
        | .bool true => (ev Φ elt σ' g).bind fun v g => .ok (some v) g
        | .bool false => .ok none g
        | _ => .no) xs [] g).bind fun ys g => .ok (.list ys) g else .no
  | .dnew, _, g => .ok (.dict []) g
  | .dget d k x, σ, g => (ev Φ d σ g).bind fun dv g => (ev Φ k σ g).bind fun kv g => (ev Φ x σ g).bind fun xv g => lift (dgetV dv kv xv) g
  | .dix d k, σ, g => (ev Φ d σ g).bind fun dv g => (ev Φ k σ g).bind fun kv g => lift (dixV dv kv) g
  | .dhas k d n, σ, g => (ev Φ k σ g).bind fun kv g => (ev Φ d σ g).bind fun dv g => lift ((dhasV kv dv).map fun b => .bool (b != n)) g
  | .ddisp kvs, σ, g => (evs Φ kvs σ g).bind fun xs g => lift ((dispV xs []).map .dict) g
  | .lrev a, σ, g => (ev Φ a σ g).bind fun x g => match x with
    | .list xs => .ok (.list xs.reverse) g
    | _ => .no
  | .scr a ns n, σ, g => (ev Φ a σ g).bind fun x g => if isTok 1 x then .ok (.list ((ns.take n).map .int)) g else .no
  | .dkGet t a, σ, g => (ev Φ a σ g).bind fun x g => lift (dkGetV t x g) g
  | .dkHas a, σ, g => (ev Φ a σ g).bind fun x g => lift (dkHasV x g) g
  | .dkPop a, σ, g => (ev Φ a σ g).bind fun x g => dkPopV x g
  | .dkPush a e, σ, g => (ev Φ a σ g).bind fun x g => match g with
    | none => .no
    | some _ => (ev Φ e σ g).bind fun v g => dkPushV x v g
  | .dkNew a b c, σ, g => (ev Φ a σ g).bind fun x g => (ev Φ b σ g).bind fun y g => (ev Φ c σ g).bind fun z g => dkNewV x y z g
  | .asI a, σ, g => (ev Φ a σ g).bind fun x g => match x with
    | .int i => .ok (.int i) g
    | _ => .no
  | .dkNew2 a b, σ, g => (ev Φ a σ g).bind fun x g => (ev Φ b σ g).bind fun y g => dkNewV x y (.int 0) g
def evs (Φ : Fns) : Exs → Sl → G → Res (List D)
  | .nil, _, g => .ok [] g
  | .cons a as, σ, g => (ev Φ a σ g).bind fun x g => (evs Φ as σ g).bind fun xs g => .ok (x :: xs) g
end

def Exs.len : Exs → Nat
  | .nil => 0
  | .cons _ as => as.len + 1
theorem evs_len (Φ : Fns) : ∀ (as : Exs) (σ : Sl) (g g' : G) (vs : List D), evs Φ as σ g = .ok vs g' → vs.length = as.len
  | .nil, σ, g, g', vs, h => by unfold evs at h; cases h; rfl
  | .cons a as, σ, g, g', vs, h => by
    unfold evs at h
    obtain ⟨x, g1, _, h⟩ := bind_eq_ok h
    obtain ⟨xs, g2, h2, h⟩ := bind_eq_ok h
    cases h
    rw [List.length_cons, evs_len Φ as _ _ _ _ h2]; rfl
/-! ### statements -/
inductive Sm where
  | skip
  | seq (a b : Sm)
  | set (t : List Nat) (e : Ex)
  | setG (ts : List (List Nat)) (e : Ex)
  | par (i j : Nat) (a b : Ex)
  | par3 (i j k : Nat) (a b c : Ex)
  | aug (i : Nat) (op : Bop) (e : Ex)
  | setIx (i : Nat) (k e : Ex)
  | setKey (i : Nat) (k e : Ex)
  | app (i : Nat) (e : Ex)
  | ext (i : Nat) (e : Ex)
  | setd (i : Nat) (k e : Ex)
  | ite (t : Ex) (a b : Sm)
  | forr (t : List Nat) (k : Ik) (as : Exs) (b : Sm)
  | whil (t : Ex) (b : Sm)
  | ret (e : Ex)
  | brk
  | cnt
  | ex (e : Ex)
  | dkSet (turn : Bool) (a e : Ex)
  | bad
inductive Fl where
  | nx (σ : Sl)
  | rt (v : D)
  | bk (σ : Sl)
  | ct (σ : Sl)
def forL (f : D → Sl → G → Res Fl) : List D → Sl → G → Res Fl
  | [], σ, g => .ok (.nx σ) g
  | x :: r, σ, g => (f x σ g).bind fun fl g => match fl with
    | .nx σ => forL f r σ g
    | .ct σ => forL f r σ g
    | .bk σ => .ok (.nx σ) g
    | .rt v => .ok (.rt v) g
def whileL (c : Sl → G → Res D) (b : Sl → G → Res Fl) : Nat → Sl → G → Res Fl
  | 0, _, _ => .no
  | n + 1, σ, g => (c σ g).bind fun v g => match v with
    | .bool true => (b σ g).bind fun fl g => match fl with
      | .nx σ => whileL c b n σ g
      | .ct σ => whileL c b n σ g
      | .bk σ => .ok (.nx σ) g
      | .rt v => .ok (.rt v) g
    | .bool false => .ok (.nx σ) g
    | _ => .no
def setIxV : D → D → D → Option D
  | .list xs, .int i, v => (L2.ixN xs.length i).map fun j => .list (xs.set j v)
  | _, _, _ => none
def augV : Bop → D → D → Option D
  | .add, .int i, .int j => some (.int (i + j))
  | .sub, .int i, .int j => some (.int (i - j))
  | .mul, .int i, .int j => if decide (i.natAbs < 18446744073709551616) || decide (j.natAbs < 18446744073709551616) then some (.int (i * j)) else none
  | .fdiv, .int i, .int j => if decide (0 < j) && decide (j < 1073741824) then some (.int (i / j)) else none
  | .add, .str x, .str y => if decide (x.length + y.length ≤ lineN) then some (.str (x ++ y)) else none
  | _, _, _ => none
def setKeyV : D → D → D → Option D
  | .dict kvs, k, v => if isDeck kvs || (keyD k).isNone || !decide (kvs.length < lineN) then none else some (.dict (dPut k v kvs))
  | _, _, _ => none
def appV : D → D → Option D
  | .list xs, v => if decide (xs.length < lineN) then some (.list (xs ++ [v])) else none
  | _, _ => none
def extV : D → D → Option D
  | .list xs, .list ys => if decide (xs.length + ys.length ≤ lineN) then some (.list (xs ++ ys)) else none
  | _, _ => none
def setdV : D → D → D → Option D
  | .dict kvs, k, v => if isDeck kvs || (keyD k).isNone || !decide (kvs.length < lineN) then none else match dLook k kvs with
    | some _ => some (.dict kvs)
    | none => some (.dict (dPut k v kvs))
  | _, _, _ => none
def slot (σ : Sl) (i : Nat) (g : G) : Res D := match σ[i]? with
  | some (some v) => .ok v g
  | _ => .no
def run (Φ : Fns) (fu : Nat) : Sm → Sl → G → Res Fl
  | .skip, σ, g => .ok (.nx σ) g
  | .seq a b, σ, g => (run Φ fu a σ g).bind fun fl g => match fl with
    | .nx σ => run Φ fu b σ g
    | fl => .ok fl g
  | .set t e, σ, g => (ev Φ e σ g).bind fun v g => (lift (setT t v σ) g).bind fun σ g => .ok (.nx σ) g
  | .setG ts e, σ, g => (ev Φ e σ g).bind fun v g => (lift (setG ts v σ) g).bind fun σ g => .ok (.nx σ) g
  | .par i j a b, σ, g => (ev Φ a σ g).bind fun v g => (ev Φ b σ g).bind fun w g => .ok (.nx ((σ.set i (some v)).set j (some w))) g
  | .par3 i j k a b c, σ, g => (ev Φ a σ g).bind fun u g => (ev Φ b σ g).bind fun v g => (ev Φ c σ g).bind fun w g => .ok (.nx (((σ.set i (some u)).set j (some v)).set k (some w))) g
  | .aug i op e, σ, g => (slot σ i g).bind fun x g => (ev Φ e σ g).bind fun y g => (lift (augV op x y) g).bind fun z g => .ok (.nx (σ.set i (some z))) g
  | .setIx i k e, σ, g => (ev Φ e σ g).bind fun v g => (slot σ i g).bind fun d g => (ev Φ k σ g).bind fun kv g => (lift (setIxV d kv v) g).bind fun d' g => .ok (.nx (σ.set i (some d'))) g
  | .setKey i k e, σ, g => (ev Φ e σ g).bind fun v g => (slot σ i g).bind fun d g => (ev Φ k σ g).bind fun kv g => (lift (setKeyV d kv v) g).bind fun d' g => .ok (.nx (σ.set i (some d'))) g
  | .app i e, σ, g => (slot σ i g).bind fun _ g => (ev Φ e σ g).bind fun v g => (slot σ i g).bind fun d g => (lift (appV d v) g).bind fun d' g => .ok (.nx (σ.set i (some d'))) g
  | .ext i e, σ, g => (slot σ i g).bind fun _ g => (ev Φ e σ g).bind fun v g => (slot σ i g).bind fun d g => (lift (extV d v) g).bind fun d' g => .ok (.nx (σ.set i (some d'))) g
  | .setd i k e, σ, g => (slot σ i g).bind fun d g => (ev Φ k σ g).bind fun kv g => (ev Φ e σ g).bind fun v g => (lift (setdV d kv v) g).bind fun d' g => .ok (.nx (σ.set i (some d'))) g
  | .ite t a b, σ, g => (ev Φ t σ g).bind fun x g => match x with
    | .bool true => run Φ fu a σ g
    | .bool false => run Φ fu b σ g
    | _ => .no
  | .forr t k as b, σ, g => (evs Φ as σ g).bind fun vs g => (lift (itV k vs) g).bind fun xs g =>
      forL (fun x σ g => (lift (setT t x σ) g).bind fun σ g => run Φ fu b σ g) xs σ g
  | .whil t b, σ, g => whileL (fun σ g => ev Φ t σ g) (fun σ g => run Φ fu b σ g) fu σ g
  | .ret e, σ, g => (ev Φ e σ g).bind fun v g => .ok (.rt v) g
  | .brk, σ, g => .ok (.bk σ) g
  | .cnt, σ, g => .ok (.ct σ) g
  | .ex e, σ, g => (ev Φ e σ g).bind fun _ g => .ok (.nx σ) g
  | .dkSet t a e, σ, g => (ev Φ e σ g).bind fun v g => (ev Φ a σ g).bind fun x g => (lift (dkSetV t x v g) g).bind fun g' _ => .ok (.nx σ) g'
  | .bad, _, _ => .no

/-! ### functions -/
structure Fn where
  np : Nat
  nl : Nat
  body : Sm
def fin : Res Fl → Res D
  | .ok (.rt v) g => .ok v g
  | .ok (.nx _) g => .ok .none g
  | .ok _ _ => .no
  | .exc c vs g => .exc c vs g
  | .no => .no
def fuel : Nat := 18446744073709551616
abbrev Prims := Nat → Option (List D → G → Res D)
def FT (T : List Fn) (pr : Prims) : Nat → Fns
  | 0, _, _, _ => .no
  | d + 1, f, as, g => match pr f with
    | some p => p as g
    | none => match T[f]? with
      | some fn => if as.length = fn.np then fin (run (FT T pr d) fuel fn.body (as.map some ++ List.replicate (fn.nl - fn.np) none) g) else .no
      | none => .no
end Pv
end

section
/-! PvB: values of the small language over the hand layer's heap: the relation, the state, the judgements. -/
set_option autoImplicit false
namespace Pv
open PySem PySem.Spec PyProof.Rows L2

/-- the frozen part of the heap; the deck's dict and list; the script -/
structure Fz where
  h : Hp
  dk : Option (Addr × Addr)
  sc : Option (Addr × List Int)
def Fz.isDk (F : Fz) (a : Addr) : Prop := ∃ d l, F.dk = some (d, l) ∧ (a = d ∨ a = l)
def Fz.put (F : Fz) (p : Addr) (o : HO) : Fz := { F with h := upd F.h p o }
structure Fsub (F F' : Fz) : Prop where
  h : Same F.h F'.h
  dk : ∀ p, F.dk = some p → F'.dk = some p
  sc : F'.sc = F.sc
theorem Fsub.refl (F : Fz) : Fsub F F := ⟨Same.refl _, fun _ h => h, rfl⟩
theorem Fsub.trans {F F1 F2 : Fz} (a : Fsub F F1) (b : Fsub F1 F2) : Fsub F F2 := ⟨a.h.trans b.h, fun p h => b.dk p (a.dk p h), b.sc.trans a.sc⟩
theorem Fsub.isDk {F F' : Fz} (s : Fsub F F') {a : Addr} (h : F.isDk a) : F'.isDk a := let ⟨d, l, e, q⟩ := h; ⟨d, l, s.dk _ e, q⟩
theorem same_upd {H : Hp} {p : Addr} {o : HO} (h : H p = none) : Same H (upd H p o) := fun b x e => by
  rw [upd_ne (ne_of_none e h)]
  exact e
theorem Fsub.put {F : Fz} {p : Addr} {o : HO} (h : F.h p = none) : Fsub F (F.put p o) := ⟨same_upd h, fun _ h => h, rfl⟩
theorem sqT_mono {K : PySem.W.Frag} {H H' : Hp} {a : Addr} {xs : List V} (e : Same H H') (h : SqT K H a xs) : SqT K H' a xs := by
  rcases h with (h | ⟨o, h⟩) | h
  · exact .inl (.inl (e _ _ h))
  · exact .inl (.inr ⟨o, e _ _ h⟩)
  · exact .inr h
theorem sqL_mono {K : PySem.W.Frag} {H H' : Hp} {a : Addr} {xs : List V} (e : Same H H') (h : SqL K H a xs) : SqL K H' a xs := e.seq h

section
variable (K : PySem.W.Frag) (F : Fz)
mutual
def Rel : D → V → Prop
  | .none, v => v = .non
  | .bool b, v => v = .bl b
  | .int i, v => v = .int i
  | .str x, v => v = .str x
  | .list xs, v => ∃ a vs, v = .ref a ∧ F.h a = some (.lst vs) ∧ RelL xs vs
  | .tuple xs, v => ∃ a vs, v = .ref a ∧ SqT K F.h a vs ∧ RelL xs vs
  | .dict kvs, v => (isDeck kvs = true ∧ ((∃ d l, F.dk = some (d, l) ∧ v = .ref d ∧ tokD 0 = .dict kvs) ∨ (∃ a ns, F.sc = some (a, ns) ∧ v = .ref a ∧ SqL K F.h a (ns.map V.int) ∧ tokD 1 = .dict kvs))) ∨
      (isDeck kvs = false ∧ ∃ a kk, v = .ref a ∧ F.h a = some (.dK kk) ∧ RelKV kvs kk)
def RelL : List D → List V → Prop
  | [], vs => vs = []
  | d :: ds, vs => ∃ v vr, vs = v :: vr ∧ Rel d v ∧ RelL ds vr
def RelKV : List (D × D) → List (Key × V) → Prop
  | [], kk => kk = []
  | (k, d) :: r, kk => ∃ kv v kr, kk = (kv, v) :: kr ∧ keyD k = some kv ∧ Rel d v ∧ RelKV r kr
end
end

section
variable {K : PySem.W.Frag} {F F' : Fz}
mutual
theorem Rel.mono (s : Fsub F F') : ∀ (d : D) (v : V), Rel K F d v → Rel K F' d v
  | .none, v, h => by unfold Rel at h ⊢; exact h
  | .bool b, v, h => by unfold Rel at h ⊢; exact h
  | .int i, v, h => by unfold Rel at h ⊢; exact h
  | .str x, v, h => by unfold Rel at h ⊢; exact h
  | .list xs, v, h => by
    unfold Rel at h ⊢
    obtain ⟨a, vs, e, q, r⟩ := h
    exact ⟨a, vs, e, s.h _ _ q, RelL.mono s xs vs r⟩
  | .tuple xs, v, h => by
    unfold Rel at h ⊢
    obtain ⟨a, vs, e, q, r⟩ := h
    exact ⟨a, vs, e, sqT_mono s.h q, RelL.mono s xs vs r⟩
  | .dict kvs, v, h => by
    unfold Rel at h ⊢
    rcases h with ⟨m, ⟨d, l, e, q⟩ | ⟨a, ns, e, q, q1, q2⟩⟩ | ⟨m, a, kk, e, q, r⟩
    · exact .inl ⟨m, .inl ⟨d, l, s.dk _ e, q⟩⟩
    · exact .inl ⟨m, .inr ⟨a, ns, s.sc.trans e, q, sqL_mono s.h q1, q2⟩⟩
    · exact .inr ⟨m, a, kk, e, s.h _ _ q, RelKV.mono s kvs kk r⟩
theorem RelL.mono (s : Fsub F F') : ∀ (ds : List D) (vs : List V), RelL K F ds vs → RelL K F' ds vs
  | [], vs, h => by unfold RelL at h ⊢; exact h
  | d :: ds, vs, h => by
    unfold RelL at h ⊢
    obtain ⟨v, vr, e, h1, h2⟩ := h
    exact ⟨v, vr, e, Rel.mono s d v h1, RelL.mono s ds vr h2⟩
theorem RelKV.mono (s : Fsub F F') : ∀ (ds : List (D × D)) (vs : List (Key × V)), RelKV K F ds vs → RelKV K F' ds vs
  | [], vs, h => by unfold RelKV at h ⊢; exact h
  | (k, d) :: ds, vs, h => by
    unfold RelKV at h ⊢
    obtain ⟨kv, v, vr, e, h0, h1, h2⟩ := h
    exact ⟨kv, v, vr, e, h0, Rel.mono s d v h1, RelKV.mono s ds vr h2⟩
end
theorem RelL.nil : RelL K F [] [] := by unfold RelL; rfl
theorem RelL.cons {d : D} {ds : List D} {v : V} {vs : List V} (h : Rel K F d v) (r : RelL K F ds vs) : RelL K F (d :: ds) (v :: vs) := by
  unfold RelL; exact ⟨v, vs, rfl, h, r⟩
theorem RelL.inv {d : D} {ds : List D} {vs : List V} (h : RelL K F (d :: ds) vs) : ∃ v vr, vs = v :: vr ∧ Rel K F d v ∧ RelL K F ds vr := by
  unfold RelL at h; exact h
theorem RelL.inv0 {vs : List V} (h : RelL K F [] vs) : vs = [] := by unfold RelL at h; exact h
theorem RelL.length : ∀ {ds : List D} {vs : List V}, RelL K F ds vs → ds.length = vs.length
  | [], vs, h => by rw [h.inv0]; rfl
  | d :: ds, vs, h => by
    obtain ⟨v, vr, rfl, _, r⟩ := h.inv
    rw [List.length_cons, List.length_cons, r.length]
theorem RelL.get : ∀ {ds : List D} {vs : List V} {i : Nat} {d : D}, RelL K F ds vs → ds[i]? = some d → ∃ v, vs[i]? = some v ∧ Rel K F d v
  | [], vs, i, d, h, e => by simp at e
  | x :: ds, vs, 0, d, h, e => by
    obtain ⟨v, vr, rfl, r1, r⟩ := h.inv
    simp at e; subst e
    exact ⟨v, rfl, r1⟩
  | x :: ds, vs, i + 1, d, h, e => by
    obtain ⟨v, vr, rfl, r1, r⟩ := h.inv
    obtain ⟨u, e1, e2⟩ := r.get (i := i) (d := d) (by simpa using e)
    exact ⟨u, by simpa using e1, e2⟩
theorem RelL.append : ∀ {ds es : List D} {vs us : List V}, RelL K F ds vs → RelL K F es us → RelL K F (ds ++ es) (vs ++ us)
  | [], es, vs, us, h, r => by rw [h.inv0]; exact r
  | d :: ds, es, vs, us, h, r => by
    obtain ⟨v, vr, rfl, h1, h2⟩ := h.inv
    exact .cons h1 (h2.append r)
theorem RelL.take : ∀ {ds : List D} {vs : List V} (n : Nat), RelL K F ds vs → RelL K F (ds.take n) (vs.take n)
  | ds, vs, 0, h => by simp; exact .nil
  | [], vs, n + 1, h => by rw [h.inv0]; simp; exact .nil
  | d :: ds, vs, n + 1, h => by
    obtain ⟨v, vr, rfl, h1, h2⟩ := h.inv
    exact .cons h1 (h2.take n)
theorem RelL.drop : ∀ {ds : List D} {vs : List V} (n : Nat), RelL K F ds vs → RelL K F (ds.drop n) (vs.drop n)
  | ds, vs, 0, h => by simpa using h
  | [], vs, n + 1, h => by rw [h.inv0]; simp; exact .nil
  | d :: ds, vs, n + 1, h => by
    obtain ⟨v, vr, rfl, h1, h2⟩ := h.inv
    simpa using h2.drop n
theorem RelL.set {d : D} {v : V} (r : Rel K F d v) : ∀ {ds : List D} {vs : List V} (i : Nat), RelL K F ds vs → RelL K F (ds.set i d) (vs.set i v)
  | [], vs, i, h => by rw [h.inv0]; simp; exact .nil
  | x :: ds, vs, 0, h => by
    obtain ⟨y, vr, rfl, h1, h2⟩ := h.inv
    exact .cons r h2
  | x :: ds, vs, i + 1, h => by
    obtain ⟨y, vr, rfl, h1, h2⟩ := h.inv
    exact .cons h1 (h2.set r i)
theorem RelL.reverse : ∀ {ds : List D} {vs : List V}, RelL K F ds vs → RelL K F ds.reverse vs.reverse
  | [], vs, h => by rw [h.inv0]; exact .nil
  | d :: ds, vs, h => by
    obtain ⟨v, vr, rfl, h1, h2⟩ := h.inv
    rw [List.reverse_cons, List.reverse_cons]
    exact h2.reverse.append (.cons h1 .nil)
theorem RelL.rep {ds : List D} {vs : List V} (h : RelL K F ds vs) : ∀ k : Nat, RelL K F (List.replicate k ds).flatten (List.replicate k vs).flatten
  | 0 => .nil
  | k + 1 => by
    rw [List.replicate_succ, List.replicate_succ, List.flatten_cons, List.flatten_cons]
    exact h.append (h.rep k)
theorem RelL.ints : ∀ {ds : List D} {vs : List V} {ns : List Int}, RelL K F ds vs → intsOf ds = some ns → vs = ns.map V.int
  | [], vs, ns, h, e => by cases e; rw [h.inv0]; rfl
  | .int i :: ds, vs, ns, h, e => by
    obtain ⟨v, vr, rfl, h1, h2⟩ := h.inv
    unfold intsOf at e
    cases q : intsOf ds with
    | none => rw [q] at e; cases e
    | some ms =>
      rw [q] at e; cases e
      unfold Rel at h1
      rw [h1, h2.ints q]; rfl
  | .none :: ds, vs, ns, h, e => by cases e
  | .bool _ :: ds, vs, ns, h, e => by cases e
  | .str _ :: ds, vs, ns, h, e => by cases e
  | .list _ :: ds, vs, ns, h, e => by cases e
  | .tuple _ :: ds, vs, ns, h, e => by cases e
  | .dict _ :: ds, vs, ns, h, e => by cases e
theorem relL_ints : ∀ (ns : List Int), RelL K F (ns.map .int) (ns.map V.int)
  | [] => .nil
  | n :: ns => .cons (by unfold Rel; rfl) (relL_ints ns)

/-! plain data is data of the hand layer -/
mutual
theorem dp_of {H : Hp} (s : Same F.h H) : ∀ (d : D) (v : V), d.canLay0 = true → Rel K F d v → Dp K H v d
  | .none, v, _, h => by unfold Rel at h; subst h; exact .non
  | .bool b, v, _, h => by unfold Rel at h; subst h; exact .bl b
  | .int i, v, _, h => by unfold Rel at h; subst h; exact .int i
  | .str x, v, _, h => by unfold Rel at h; subst h; exact .str x
  | .list xs, v, c, h => by
    unfold Rel at h
    obtain ⟨a, vs, rfl, q, r⟩ := h
    unfold PyData.canLay0 at c
    exact .lst (SqL.of (s _ _ q)) (dpAll_of s xs vs c r)
  | .tuple xs, v, c, h => by
    unfold Rel at h
    obtain ⟨a, vs, rfl, q, r⟩ := h
    unfold PyData.canLay0 at c
    exact .tup (sqT_mono s q) (dpAll_of s xs vs c r)
  | .dict kvs, v, c, _ => by unfold PyData.canLay0 at c; cases c
theorem dpAll_of {H : Hp} (s : Same F.h H) : ∀ (ds : List D) (vs : List V), PyData.canLayAll0 ds = true → RelL K F ds vs → DpAll K H vs ds
  | [], vs, _, h => by rw [h.inv0]; exact .nil
  | d :: ds, vs, c, h => by
    obtain ⟨v, vr, rfl, h1, h2⟩ := h.inv
    unfold PyData.canLayAll0 at c
    simp only [Bool.and_eq_true] at c
    exact .cons (dp_of s d v c.1 h1) (dpAll_of s ds vr c.2 h2)
end
end

/-! ### the root of a value, read off the heap -/
section
variable (K : PySem.W.Frag) (F : Fz)
def Sh (H : Hp) (d : D) (v : V) : Prop := match d with
  | .none => v = .non
  | .bool b => v = .bl b
  | .int i => v = .int i
  | .str x => v = .str x
  | .list xs => ∃ a vs, v = .ref a ∧ H a = some (.lst vs) ∧ RelL K F xs vs
  | .tuple xs => ∃ a vs, v = .ref a ∧ SqT K F.h a vs ∧ RelL K F xs vs
  | .dict kvs => (isDeck kvs = true ∧ ∃ a, v = .ref a) ∨ (isDeck kvs = false ∧ ∃ a kk, v = .ref a ∧ H a = some (.dK kk) ∧ RelKV K F kvs kk)
/-- what a name holds alone -/
def OwnAt (H : Hp) (d : D) (a : Addr) : Prop := match d with
  | .list xs => ∃ vs, H a = some (.lst vs) ∧ RelL K F xs vs
  | .dict kvs => isDeck kvs = false ∧ ∃ kk, H a = some (.dK kk) ∧ RelKV K F kvs kk
  | _ => False
end
section
variable {K : PySem.W.Frag} {F F' : Fz} {H H' : Hp}
theorem Rel.sh (s : Same F.h H) {d : D} {v : V} (h : Rel K F d v) : Sh K F H d v := by
  cases d with
  | none => unfold Rel at h; exact h
  | bool b => unfold Rel at h; exact h
  | int i => unfold Rel at h; exact h
  | str x => unfold Rel at h; exact h
  | list xs => unfold Rel at h; obtain ⟨a, vs, e, q, r⟩ := h; exact ⟨a, vs, e, s _ _ q, r⟩
  | tuple xs => unfold Rel at h; exact h
  | dict kvs =>
    unfold Rel at h
    rcases h with ⟨m, ⟨d, l, e, q, _⟩ | ⟨a, ns, e, q, _⟩⟩ | ⟨m, a, kk, e, q, r⟩
    · exact .inl ⟨m, d, q⟩
    · exact .inl ⟨m, a, q⟩
    · exact .inr ⟨m, a, kk, e, s _ _ q, r⟩
theorem OwnAt.sh {d : D} {a : Addr} (h : OwnAt K F H d a) : Sh K F H d (.ref a) := by
  cases d with
  | list xs => obtain ⟨vs, q, r⟩ := h; exact ⟨a, vs, rfl, q, r⟩
  | dict kvs => obtain ⟨m, kk, q, r⟩ := h; exact .inr ⟨m, a, kk, rfl, q, r⟩
  | none => exact h.elim
  | bool b => exact h.elim
  | int i => exact h.elim
  | str x => exact h.elim
  | tuple xs => exact h.elim
theorem OwnAt.there {d : D} {a : Addr} (h : OwnAt K F H d a) : ∃ o, H a = some o := by
  cases d with
  | list xs => obtain ⟨vs, q, r⟩ := h; exact ⟨_, q⟩
  | dict kvs => obtain ⟨m, kk, q, r⟩ := h; exact ⟨_, q⟩
  | none => exact h.elim
  | bool b => exact h.elim
  | int i => exact h.elim
  | str x => exact h.elim
  | tuple xs => exact h.elim
theorem OwnAt.move {d : D} {a : Addr} (h : OwnAt K F H d a) (s : Fsub F F') (k : ∀ o, H a = some o → H' a = some o) : OwnAt K F' H' d a := by
  cases d with
  | list xs => obtain ⟨vs, q, r⟩ := h; exact ⟨vs, k _ q, r.mono s _ _⟩
  | dict kvs => obtain ⟨m, kk, q, r⟩ := h; exact ⟨m, kk, k _ q, r.mono s _ _⟩
  | none => exact h.elim
  | bool b => exact h.elim
  | int i => exact h.elim
  | str x => exact h.elim
  | tuple xs => exact h.elim
/-- what a name holds alone, frozen -/
theorem OwnAt.frozen {d : D} {a : Addr} (h : OwnAt K F H d a) (n : F.h a = none) {o : HO} (e : H a = some o) : Rel K (F.put a o) d (.ref a) := by
  have s : Fsub F (F.put a o) := Fsub.put n
  cases d with
  | list xs =>
    obtain ⟨vs, q, r⟩ := h
    rw [q] at e; cases e
    unfold Rel
    exact ⟨a, vs, rfl, upd_same, r.mono s _ _⟩
  | dict kvs =>
    obtain ⟨m, kk, q, r⟩ := h
    rw [q] at e; cases e
    unfold Rel
    exact .inr ⟨m, a, kk, rfl, upd_same, r.mono s _ _⟩
  | none => exact h.elim
  | bool b => exact h.elim
  | int i => exact h.elim
  | str x => exact h.elim
  | tuple xs => exact h.elim
end

/-! ### the state -/
/-- what is fixed through a call: the written part, the deck's names, the heap and the frozen part at the call, the functions' values -/
structure Ct where
  K : PySem.W.Frag
  n1 : Str
  n2 : Str
  n3 : Option Str
  sc : Option (Addr × List Int)
  H0 : Hp
  F0 : Fz
  Φ : Fns
  fu : Nat
def dkL (C : Ct) (l : Addr) (st : Dk) : List (Key × V) := (.inr C.n1, .ref l) :: (.inr C.n2, .int st.mixed) :: (C.n3.map fun n => ((.inr n, .int st.turn) : Key × V)).toList
def DkR (C : Ct) (F : Fz) (g : G) (H : Hp) : Prop := match g with
  | none => F.dk = none
  | some st => ∃ d l, F.dk = some (d, l) ∧ d ≠ l ∧ F.h d = none ∧ F.h l = none ∧ H l = some (.lst (st.cells.map V.int)) ∧
      H d = some (.dK (dkL C l st))
structure R (C : Ct) (Ow : List Nat) (T : Hp) (F : Fz) (σe : Sl) (g : G) (σ : L2.St) (H : Hp) : Prop where
  sub : Same F.h H
  sc : F.sc = C.sc
  grow : Fsub C.F0 F
  new : ∀ a o, F.h a = some o → C.F0.h a = none → C.H0 a = none
  keep : ∀ a o, C.H0 a = some o → F.isDk a ∨ H a = some o
  dnew : ∀ d l, F.dk = some (d, l) → C.F0.dk = some (d, l) ∨ (C.H0 d = none ∧ C.H0 l = none)
  len : σe.length = σ.length
  fz : ∀ i v, σe[i]? = some (some v) → i ∉ Ow → ∃ x, σ[i]? = some (some x) ∧ Rel C.K F v x
  ow : ∀ i v, σe[i]? = some (some v) → i ∈ Ow → ∃ a, σ[i]? = some (some (V.ref a)) ∧ OwnAt C.K F H v a ∧ C.H0 a = none ∧ F.h a = none ∧ ¬ F.isDk a
  inj : ∀ i j a, i ∈ Ow → j ∈ Ow → (∃ v, σe[i]? = some (some v)) → (∃ v, σe[j]? = some (some v)) → σ[i]? = some (some (V.ref a)) → σ[j]? = some (some (V.ref a)) → i = j
  dk : DkR C F g H
  hold : ∀ a o, T a = some o → H a = some o ∧ C.H0 a = none ∧ F.h a = none ∧ ¬ F.isDk a ∧ ∀ i v, i ∈ Ow → σe[i]? = some (some v) → σ[i]? ≠ some (some (V.ref a))
section
variable {C : Ct} {Ow : List Nat} {T : Hp} {F F' : Fz} {σe : Sl} {g g' : G} {σ : L2.St} {H H' : Hp}
theorem DkR.there (h : DkR C F g H) {a : Addr} (q : F.isDk a) : ∃ o, H a = some o := by
  obtain ⟨d, l, e, q⟩ := q
  cases g with
  | none => have h : F.dk = none := h; rw [e] at h; cases h
  | some st =>
    obtain ⟨d', l', e', _, _, _, hl, hd⟩ := h
    rw [e] at e'; cases e'
    rcases q with rfl | rfl
    · exact ⟨_, hd⟩
    · exact ⟨_, hl⟩
theorem R.h0 (r : R C Ow T F σe g σ H) {a : Addr} (h : H a = none) : C.H0 a = none := by
  cases e : C.H0 a with
  | none => rfl
  | some o =>
    rcases r.keep a o e with q | q
    · obtain ⟨o', q⟩ := r.dk.there q
      rw [h] at q; cases q
    · rw [h] at q; cases q
theorem R.fn (r : R C Ow T F σe g σ H) {a : Addr} (h : H a = none) : F.h a = none := r.sub.free h
/-- the heap grows: what stands stays, but the deck; new things may be frozen -/
theorem R.step (r : R C Ow T F σe g σ H) (fs : Fsub F F') (sub : Same F'.h H') (nw : ∀ a o, F'.h a = some o → F.h a = none → H a = none)
    (kp : ∀ a o, H a = some o → F'.isDk a ∨ H' a = some o) (dn : ∀ d l, F'.dk = some (d, l) → F.dk = some (d, l) ∨ (H d = none ∧ H l = none)) (dk : DkR C F' g' H') : R C Ow T F' σe g' σ H' := by
  have nd : ∀ a o, H a = some o → ¬ F.isDk a → ¬ F'.isDk a := fun a o e n q => by
    obtain ⟨d, l, q1, q2⟩ := q
    rcases dn d l q1 with z | ⟨z1, z2⟩
    · exact n ⟨d, l, z, q2⟩
    · rcases q2 with rfl | rfl
      · rw [e] at z1; cases z1
      · rw [e] at z2; cases z2
  refine ⟨sub, fs.sc.trans r.sc, r.grow.trans fs, fun a o e n => ?_, fun a o e => ?_, fun d l e => ?_, r.len, fun i v e n => ?_, fun i v e n => ?_, r.inj, dk, fun a o e => ?_⟩
  · cases q : F.h a with
    | some o' => exact r.new a o' q n
    | none => exact r.h0 (nw a o e q)
  · rcases r.keep a o e with q | q
    · exact .inl (fs.isDk q)
    · exact kp a o q
  · rcases dn d l e with q | ⟨q1, q2⟩
    · exact r.dnew d l q
    · exact .inr ⟨r.h0 q1, r.h0 q2⟩
  · obtain ⟨x, e1, e2⟩ := r.fz i v e n
    exact ⟨x, e1, e2.mono fs _ _⟩
  · obtain ⟨a, e1, e2, e3, e4, e5⟩ := r.ow i v e n
    obtain ⟨o, eo⟩ := e2.there
    have nn := nd a o eo e5
    refine ⟨a, e1, e2.move fs fun o' q => ?_, e3, ?_, nn⟩
    · rcases kp a o' q with z | z
      · exact (nn z).elim
      · exact z
    · cases q : F'.h a with
      | none => rfl
      | some o' =>
        have z := nw a o' q e4
        rw [eo] at z; cases z
  · obtain ⟨e1, e2, e3, e4, e5⟩ := r.hold a o e
    have nn := nd a o e1 e4
    refine ⟨(kp a o e1).resolve_left nn, e2, ?_, nn, e5⟩
    cases q : F'.h a with
    | none => rfl
    | some o' =>
      have z := nw a o' q e3
      rw [e1] at z; cases z
theorem R.tn (r : R C Ow T F σe g σ H) {a : Addr} (h : H a = none) : T a = none := by
  cases q : T a with
  | none => rfl
  | some o =>
    have z := (r.hold a o q).1
    rw [h] at z; cases z
theorem DkR.put {p : Addr} {o : HO} (h : DkR C F g H) (n : H p = none) : DkR C F g (upd H p o) := by
  cases g with
  | none => exact h
  | some st =>
    obtain ⟨d, l, e, ne, f1, f2, hl, hd⟩ := h
    exact ⟨d, l, e, ne, f1, f2, (upd_ne (ne_of_none hl n)).trans hl, (upd_ne (ne_of_none hd n)).trans hd⟩
theorem DkR.putF {p : Addr} {o : HO} (h : DkR C F g H) (n : ¬ F.isDk p) : DkR C (F.put p o) g H := by
  cases g with
  | none => exact h
  | some st =>
    obtain ⟨d, l, e, ne, f1, f2, hl, hd⟩ := h
    have n1 : d ≠ p := fun z => n ⟨d, l, e, .inl z.symm⟩
    have n2 : l ≠ p := fun z => n ⟨d, l, e, .inr z.symm⟩
    exact ⟨d, l, e, ne, (upd_ne n1).trans f1, (upd_ne n2).trans f2, hl, hd⟩
theorem R.ndk (r : R C Ow T F σe g σ H) {p : Addr} (n : H p = none) : ¬ F.isDk p := fun q => by
  obtain ⟨o, q⟩ := r.dk.there q
  rw [n] at q; cases q
/-- a new thing, not frozen -/
theorem R.grown {p : Addr} {o : HO} (r : R C Ow T F σe g σ H) (n : H p = none) : R C Ow T F σe g σ (upd H p o) :=
  r.step (.refl F) (r.sub.trans (same_upd n)) (fun a o e q => by rw [q] at e; cases e) (fun a o e => .inr ((same_upd n) a o e)) (fun d l e => .inl e) (r.dk.put n)
/-- a new thing, frozen -/
theorem R.laid {p : Addr} {o : HO} (r : R C Ow T F σe g σ H) (n : H p = none) : R C Ow T (F.put p o) σe g σ (upd H p o) := by
  refine r.step (Fsub.put (r.fn n)) (fun a u e => ?_) (fun a u e q => ?_) (fun a u e => .inr ((same_upd n) a u e)) (fun d l e => .inl e) ((r.dk.putF (r.ndk n)).put n)
  · by_cases h : a = p
    · subst h
      have e : (upd F.h a o) a = some u := e
      rw [upd_same] at e ⊢; exact e
    · have e : (upd F.h p o) a = some u := e
      rw [upd_ne h] at e ⊢
      exact r.sub _ _ e
  · by_cases h : a = p
    · rw [h]; exact n
    · have e : (upd F.h p o) a = some u := e
      rw [upd_ne h, q] at e; cases e
/-- a thing that no name holds is frozen -/
theorem R.freeze {p : Addr} {o : HO} (r : R C Ow T F σe g σ H) (e : H p = some o) (n0 : C.H0 p = none) (nf : F.h p = none) (nd : ¬ F.isDk p)
    (no : ∀ i v, i ∈ Ow → σe[i]? = some (some v) → σ[i]? ≠ some (some (V.ref p))) (nt : T p = none) : R C Ow T (F.put p o) σe g σ H := by
  have fs : Fsub F (F.put p o) := Fsub.put nf
  refine ⟨fun a u q => ?_, fs.sc.trans r.sc, r.grow.trans fs, fun a u q n => ?_, r.keep, r.dnew, r.len, fun i v q n => ?_, fun i v q n => ?_, r.inj, r.dk.putF nd, fun a u q => ?_⟩
  · by_cases h : a = p
    · subst h
      have q : (upd F.h a o) a = some u := q
      rw [upd_same] at q; cases q; exact e
    · have q : (upd F.h p o) a = some u := q
      rw [upd_ne h] at q
      exact r.sub _ _ q
  · by_cases h : a = p
    · rw [h]; exact n0
    · have q : (upd F.h p o) a = some u := q
      rw [upd_ne h] at q
      exact r.new a u q n
  · obtain ⟨x, e1, e2⟩ := r.fz i v q n
    exact ⟨x, e1, e2.mono fs _ _⟩
  · obtain ⟨a, e1, e2, e3, e4, e5⟩ := r.ow i v q n
    have ne : a ≠ p := fun z => no i v n q (z ▸ e1)
    exact ⟨a, e1, e2.move fs fun _ z => z, e3, (upd_ne ne).trans e4, e5⟩
  · obtain ⟨e1, e2, e3, e4, e5⟩ := r.hold a u q
    have ne : a ≠ p := fun z => by rw [z, nt] at q; cases q
    exact ⟨e1, e2, (upd_ne ne).trans e3, e4, e5⟩
/-- a name is no longer held alone -/
theorem R.drop {i : Nat} (r : R C (i :: Ow) T F σe g σ H) (h : i ∉ Ow) : ∃ F', Fsub F F' ∧ R C Ow T F' σe g σ H := by
  cases q : σe[i]? with
  | none =>
    refine ⟨F, .refl F, r.sub, r.sc, r.grow, r.new, r.keep, r.dnew, r.len, fun j v e n => ?_, fun j v e n => r.ow j v e (List.mem_cons_of_mem _ n), fun j k a hj hk => r.inj j k a (List.mem_cons_of_mem _ hj) (List.mem_cons_of_mem _ hk), r.dk, fun a o e => let ⟨e1, e2, e3, e4, e5⟩ := r.hold a o e; ⟨e1, e2, e3, e4, fun j v hj => e5 j v (List.mem_cons_of_mem _ hj)⟩⟩
    refine r.fz j v e fun m => ?_
    rcases List.mem_cons.mp m with rfl | m
    · rw [q] at e; cases e
    · exact n m
  | some ov =>
    cases ov with
    | none =>
      refine ⟨F, .refl F, r.sub, r.sc, r.grow, r.new, r.keep, r.dnew, r.len, fun j v e n => ?_, fun j v e n => r.ow j v e (List.mem_cons_of_mem _ n), fun j k a hj hk => r.inj j k a (List.mem_cons_of_mem _ hj) (List.mem_cons_of_mem _ hk), r.dk, fun a o e => let ⟨e1, e2, e3, e4, e5⟩ := r.hold a o e; ⟨e1, e2, e3, e4, fun j v hj => e5 j v (List.mem_cons_of_mem _ hj)⟩⟩
      refine r.fz j v e fun m => ?_
      rcases List.mem_cons.mp m with rfl | m
      · rw [q] at e; cases e
      · exact n m
    | some v0 =>
      obtain ⟨p, e1, e2, e3, e4, e5⟩ := r.ow i v0 q List.mem_cons_self
      obtain ⟨o, eo⟩ := e2.there
      have r1 : R C Ow T F (σe.set i none) g σ H := by
        refine ⟨r.sub, r.sc, r.grow, r.new, r.keep, r.dnew, by rw [List.length_set]; exact r.len, fun j v e n => ?_, fun j v e n => ?_, fun j k a hj hk h1 h2 => ?_, r.dk, fun a o e => ?_⟩
        · by_cases hj : j = i
          · subst hj
            rw [List.getElem?_set] at e
            simp at e
          · rw [List.getElem?_set_ne (Ne.symm hj)] at e
            refine r.fz j v e fun m => ?_
            rcases List.mem_cons.mp m with z | m
            · exact hj z
            · exact n m
        · have hj : j ≠ i := fun z => h (z ▸ n)
          rw [List.getElem?_set_ne (Ne.symm hj)] at e
          exact r.ow j v e (List.mem_cons_of_mem _ n)
        · have hj' : j ≠ i := fun z => h (z ▸ hj)
          have hk' : k ≠ i := fun z => h (z ▸ hk)
          rw [List.getElem?_set_ne (Ne.symm hj')] at h1
          rw [List.getElem?_set_ne (Ne.symm hk')] at h2
          exact r.inj j k a (List.mem_cons_of_mem _ hj) (List.mem_cons_of_mem _ hk) h1 h2
        · obtain ⟨e1, e2, e3, e4, e5⟩ := r.hold a o e
          refine ⟨e1, e2, e3, e4, fun j v hj e => ?_⟩
          have hj' : j ≠ i := fun z => h (z ▸ hj)
          rw [List.getElem?_set_ne (Ne.symm hj')] at e
          exact e5 j v (List.mem_cons_of_mem _ hj) e
      have r2 := r1.freeze (o := o) eo e3 e4 e5 (fun j v hj e z => by
        have hj' : j ≠ i := fun z => h (z ▸ hj)
        rw [List.getElem?_set_ne (Ne.symm hj')] at e
        exact hj' (r.inj j i p (List.mem_cons_of_mem _ hj) List.mem_cons_self ⟨v, e⟩ ⟨v0, q⟩ z e1)) (by
        cases qt : T p with
        | none => rfl
        | some o' => exact ((r.hold p o' qt).2.2.2.2 i v0 List.mem_cons_self q e1).elim)
      refine ⟨F.put p o, Fsub.put e4, r2.sub, r2.sc, r2.grow, r2.new, r2.keep, r2.dnew, r.len, fun j v e n => ?_, fun j v e n => ?_, fun j k a hj hk => r.inj j k a (List.mem_cons_of_mem _ hj) (List.mem_cons_of_mem _ hk), r2.dk, fun a o e => let ⟨e1, e2, e3, e4, e5⟩ := r2.hold a o e; ⟨e1, e2, e3, e4, fun j v hj => (r.hold a o e).2.2.2.2 j v (List.mem_cons_of_mem _ hj)⟩⟩
      · by_cases hj : j = i
        · subst hj
          rw [q] at e; cases e
          exact ⟨_, e1, e2.frozen e4 eo⟩
        · refine r2.fz j v ?_ n
          rw [List.getElem?_set_ne (Ne.symm hj)]; exact e
      · have hj : j ≠ i := fun z => h (z ▸ n)
        refine r2.ow j v ?_ n
        rw [List.getElem?_set_ne (Ne.symm hj)]; exact e
end
end Pv
end

section
/-! PvC: the judgements, the operators. -/
set_option autoImplicit false
namespace Pv
open PySem PySem.Spec PyProof.Rows L2

theorem lineN_le {n : Nat} (h : n ≤ lineN) : n ≤ sizeLine := by rw [sizeLine_eq]; exact h
theorem lineN_lt {n : Nat} (h : n < lineN) : n < sizeLine := by rw [sizeLine_eq]; exact h

theorem pe_con {X : Cx} {e : Expr} {t t' : TE} (h : PE X e t) (c : ∀ σ H Q, t' σ H Q → t σ H Q) : PE X e t' := ⟨fun pins s σ H Q I hw => h.run pins s σ H Q I (c σ H Q hw)⟩
theorem pt_con {X : Cx} {e : Expr} {t t' : TT} (h : PT X e t) (c : ∀ σ H Q, t' σ H Q → t σ H Q) : PT X e t' := ⟨fun pins s σ H Q I hw => h.run pins s σ H Q I (c σ H Q hw)⟩
theorem pw_con {X : Cx} {e : Expr} {t t' : TT} (h : PW X e t) (c : ∀ σ H Q, t' σ H Q → t σ H Q) : PW X e t' := ⟨fun wh pins s σ H Q I hw => h.run wh pins s σ H Q I (c σ H Q hw)⟩
theorem pa_con {X : Cx} {es : List Expr} {t t' : TA} (h : PA X es t) (c : ∀ σ H Q, t' σ H Q → t σ H Q) : PA X es t' := ⟨fun pos pins s σ H Q I hw => h.run pos pins s σ H Q I (c σ H Q hw)⟩
theorem ps_con {X : Cx} {st : Stmt} {t t' : TS} (h : PS X st t) (c : ∀ D σ H, t' D σ H → t D σ H) : PS X st t' := ⟨fun pins s σ H D I hw => h.run pins s σ H D I (c D σ H hw)⟩
theorem pss_con {X : Cx} {st : List Stmt} {t t' : TS} (h : PSs X st t) (c : ∀ D σ H, t' D σ H → t D σ H) : PSs X st t' := ⟨fun pins s σ H D I hw => h.run pins s σ H D I (c D σ H hw)⟩

abbrev Mv := Sl → G → Res D
/-- the value is frozen -/
def tS (C : Ct) (Ow : List Nat) (m : Mv) : TE := fun σ H Q => ∃ T F σe g v g', R C Ow T F σe g σ H ∧ m σe g = .ok v g' ∧ ∀ F' H' x, Fsub F F' → R C Ow T F' σe g' σ H' → Rel C.K F' v x → Q x H'
/-- .. or what a name holds alone -/
def Bm (C : Ct) (Ow : List Nat) (F : Fz) (σe : Sl) (σ : L2.St) (v : D) (x : V) : Prop := Rel C.K F v x ∨ ∃ i, i ∈ Ow ∧ σe[i]? = some (some v) ∧ σ[i]? = some (some x)
def tB (C : Ct) (Ow : List Nat) (m : Mv) : TE := fun σ H Q => ∃ T F σe g v g', R C Ow T F σe g σ H ∧ m σe g = .ok v g' ∧ ∀ F' H' x, Fsub F F' → R C Ow T F' σe g' σ H' → Bm C Ow F' σe σ v x → Q x H'
/-- a new thing that nobody holds -/
structure New (C : Ct) (Ow : List Nat) (T : Hp) (F : Fz) (σe : Sl) (σ : L2.St) (H : Hp) (v : D) (a : Addr) : Prop where
  at_ : OwnAt C.K F H v a
  h0 : C.H0 a = none
  fn : F.h a = none
  nd : ¬ F.isDk a
  no : ∀ i v, i ∈ Ow → σe[i]? = some (some v) → σ[i]? ≠ some (some (V.ref a))
  nt : T a = none
def tF (C : Ct) (Ow : List Nat) (m : Mv) : TE := fun σ H Q => ∃ T F σe g v g', R C Ow T F σe g σ H ∧ m σe g = .ok v g' ∧ ∀ F' H' a, Fsub F F' → R C Ow T F' σe g' σ H' → New C Ow T F' σe σ H' v a → Q (.ref a) H'
def tT (C : Ct) (Ow : List Nat) (m : Mv) : TT := fun σ H Q => ∃ T F σe g b g', R C Ow T F σe g σ H ∧ m σe g = .ok (.bool b) g' ∧ ∀ F' H', Fsub F F' → R C Ow T F' σe g' σ H' → Q b H'
def tA (C : Ct) (Ow : List Nat) (m : Sl → G → Res (List D)) : TA := fun σ H Q => ∃ T F σe g vs g', R C Ow T F σe g σ H ∧ m σe g = .ok vs g' ∧ ∀ F' H' xs, Fsub F F' → R C Ow T F' σe g' σ H' → RelL C.K F' vs xs → Q xs H'

structure Es (X : Cx) (C : Ct) (Ow : List Nat) (e : Expr) (i : Ex) : Prop where
  run : PE X e (tS C Ow (ev C.Φ i))
structure Eb (X : Cx) (C : Ct) (Ow : List Nat) (e : Expr) (i : Ex) : Prop where
  run : PE X e (tB C Ow (ev C.Φ i))
structure Ef (X : Cx) (C : Ct) (Ow : List Nat) (e : Expr) (i : Ex) : Prop where
  run : PE X e (tF C Ow (ev C.Φ i))
structure Et (X : Cx) (C : Ct) (Ow : List Nat) (e : Expr) (i : Ex) : Prop where
  run : PT X e (tT C Ow (ev C.Φ i))
structure Ew (X : Cx) (C : Ct) (Ow : List Nat) (e : Expr) (i : Ex) : Prop where
  run : PW X e (tT C Ow (ev C.Φ i))
structure Ea (X : Cx) (C : Ct) (Ow : List Nat) (es : List Expr) (is : Exs) : Prop where
  run : PA X es (tA C Ow (evs C.Φ is))

section
variable {X : Cx} {C : Ct} {Ow : List Nat} {T : Hp} {F F' : Fz} {σe : Sl} {g g' : G} {σ : L2.St} {H H' : Hp} {v : D} {x : V}
theorem Bm.mono (h : Bm C Ow F σe σ v x) (s : Fsub F F') : Bm C Ow F' σe σ v x := by
  rcases h with h | h
  · exact .inl (h.mono s _ _)
  · exact .inr h
theorem R.sh (r : R C Ow T F σe g σ H) (h : Bm C Ow F σe σ v x) : Sh C.K F H v x := by
  rcases h with h | ⟨i, hi, e1, e2⟩
  · exact h.sh r.sub
  · obtain ⟨a, q, o, _⟩ := r.ow i v e1 hi
    rw [q] at e2
    have e2 : V.ref a = x := Option.some.inj (Option.some.inj e2)
    rw [← e2]
    exact o.sh
theorem R.frozen {a : Addr} (r : R C Ow T F σe g σ H) (n : New C Ow T F σe σ H v a) : ∃ F', Fsub F F' ∧ R C Ow T F' σe g σ H ∧ Rel C.K F' v (.ref a) := by
  obtain ⟨o, eo⟩ := n.at_.there
  exact ⟨F.put a o, Fsub.put n.fn, r.freeze eo n.h0 n.fn n.nd n.no n.nt, n.at_.frozen n.fn eo⟩
variable {e : Expr} {i : Ex}
theorem Es.b (h : Es X C Ow e i) : Eb X C Ow e i := ⟨pe_con h.run fun σ H Q ⟨T, F, σe, g, v, g', r, m, q⟩ => ⟨T, F, σe, g, v, g', r, m, fun F' H' x s r' h => q F' H' x s r' (.inl h)⟩⟩
theorem Ef.s (h : Ef X C Ow e i) : Es X C Ow e i := ⟨pe_con h.run fun σ H Q ⟨T, F, σe, g, v, g', r, m, q⟩ => ⟨T, F, σe, g, v, g', r, m, fun F' H' a s r' n => by
  obtain ⟨F2, s2, r2, q2⟩ := r'.frozen n
  exact q F2 H' (.ref a) (s.trans s2) r2 q2⟩⟩
theorem Ef.b (h : Ef X C Ow e i) : Eb X C Ow e i := h.s.b
theorem Ew.t (h : Ew X C Ow e i) : Et X C Ow e i := ⟨h.run.pt⟩

/-! ### results of operators -/
/-- what may come: a value as it stands, or a new thing that is frozen at once -/
def Out (K : PySem.W.Frag) (F : Fz) (H : Hp) (d : D) (Q : V → Hp → Prop) : Prop :=
  (∀ x, Rel K F d x → Q x H) ∧ (∀ p o, H p = none → Rel K (F.put p o) d (.ref p) → Q (.ref p) (upd H p o))
theorem R.out {Q : V → Hp → Prop} (r : R C Ow T F σe g σ H) (h : ∀ F' H' x, Fsub F F' → R C Ow T F' σe g σ H' → Rel C.K F' v x → Q x H') : Out C.K F H v Q :=
  ⟨fun x q => h F H x (.refl F) r q, fun p o n q => h (F.put p o) (upd H p o) (.ref p) (Fsub.put (r.fn n)) (r.laid n) q⟩
theorem rel_int {K : PySem.W.Frag} {i : Int} : Rel K F (.int i) (.int i) := by unfold Rel; rfl
theorem rel_bl {K : PySem.W.Frag} {i : Bool} : Rel K F (.bool i) (.bl i) := by unfold Rel; rfl
theorem rel_str {K : PySem.W.Frag} {i : Str} : Rel K F (.str i) (.str i) := by unfold Rel; rfl
theorem rel_non {K : PySem.W.Frag} : Rel K F .none .non := by unfold Rel; rfl
theorem rel_lst {K : PySem.W.Frag} {xs : List D} {vs : List V} {p : Addr} (n : F.h p = none) (r : RelL K F xs vs) : Rel K (F.put p (.lst vs)) (.list xs) (.ref p) := by
  unfold Rel; exact ⟨p, vs, rfl, upd_same, r.mono (Fsub.put n) _ _⟩
theorem rel_tup {K : PySem.W.Frag} {xs : List D} {vs : List V} {p : Addr} (n : F.h p = none) (r : RelL K F xs vs) : Rel K (F.put p (.tup vs)) (.tuple xs) (.ref p) := by
  unfold Rel; exact ⟨p, vs, rfl, .of upd_same, r.mono (Fsub.put n) _ _⟩

def bop : Bop → Operator
  | .add => .Add | .sub => .Sub | .mul => .Mult | .fdiv => .FloorDiv | .mod => .Mod | .pow => .Pow | .shl => .LShift | .shr => .RShift | .band => .BitAnd | .bor => .BitOr | .bxor => .BitXor | .lcat => .Add | .lrep => .Mult
def cop : Cop → CmpOp
  | .eq => .Eq | .ne => .NotEq | .lt => .Lt | .le => .LtE | .gt => .Gt | .ge => .GtE | .isin => .In | .notin => .NotIn | .isN => .Is | .notN => .IsNot

/-- // by a divisor below 0 -/
def CDivNW (_ j : Int) : Prop := j < 0 ∧ j.natAbs.log2 < 9000
theorem op_fdivNW : OpR X (binaryOp .FloorDiv) (rI CDivNW fun i j => .int (i.fdiv j)) := opI fun i j _ _ _ _ _ hc q => by
  have h1 : j < 0 := hc.1
  exact floordiv_int (by omega) q (.inl (PyProof.noPylong_of_log2 hc.2))
def rB (K : PySem.W.Frag) (o : Bop) : R2 := fun x y H Q => ∃ F va vb v, Same F.h H ∧ Sh K F H va x ∧ Sh K F H vb y ∧ binV o va vb = some v ∧ Out K F H v Q
theorem op_bin (o : Bop) : OpR X (binaryOp (bop o)) (rB X.K o) := by
  intro pins s σ H x y u w Q I rx ry h
  obtain ⟨F, va, vb, v, sub, ha, hb, hv, q⟩ := h
  unfold binV at hv
  split at hv
  · cases hv; cases ha; cases hb
    exact op_add pins s σ H _ _ u w Q I rx ry ⟨_, _, rfl, rfl, q.1 _ rel_int⟩
  · cases hv; cases ha; cases hb
    exact op_sub pins s σ H _ _ u w Q I rx ry ⟨_, _, rfl, rfl, q.1 _ rel_int⟩
  · rename_i i j
    cases ha; cases hb
    split at hv
    · rename_i hc
      cases hv
      have q := q.1 _ rel_int
      unfold mulOk at hc
      simp only [Bool.or_eq_true, decide_eq_true_eq] at hc
      rcases hc with (hc | hc) | hc
      · exact op_mul pins s σ H _ _ u w Q I rx ry ⟨_, _, rfl, rfl, .inl ⟨by omega, by omega⟩, q⟩
      · exact op_mul pins s σ H _ _ u w Q I rx ry ⟨_, _, rfl, rfl, .inr ⟨by omega, by omega⟩, q⟩
      · exact op_mulW pins s σ H _ _ u w Q I rx ry ⟨_, _, rfl, rfl, hc, q⟩
    · cases hv
  · cases ha; cases hb
    split at hv
    · rename_i hc
      cases hv
      simp only [Bool.and_eq_true, decide_eq_true_eq] at hc
      exact op_fdivW pins s σ H _ _ u w Q I rx ry ⟨_, _, rfl, rfl, hc, q.1 _ rel_int⟩
    · split at hv
      · rename_i hc
        cases hv
        simp only [Bool.and_eq_true, decide_eq_true_eq] at hc
        exact op_fdivNW pins s σ H _ _ u w Q I rx ry ⟨_, _, rfl, rfl, hc, q.1 _ rel_int⟩
      · cases hv
  · cases ha; cases hb
    split at hv
    · rename_i hc
      cases hv
      simp only [decide_eq_true_eq] at hc
      exact op_mod pins s σ H _ _ u w Q I rx ry ⟨_, _, rfl, rfl, hc, q.1 _ rel_int⟩
    · cases hv
  · cases ha; cases hb
    split at hv
    · rename_i hc
      cases hv
      unfold powOk at hc
      simp only [Bool.and_eq_true, decide_eq_true_eq] at hc
      exact op_pow pins s σ H _ _ u w Q I rx ry ⟨_, _, rfl, rfl, ⟨hc.1.1, hc.1.2, hc.2⟩, q.1 _ rel_int⟩
    · cases hv
  · cases ha; cases hb
    split at hv
    · rename_i hc
      cases hv
      unfold powOk at hc
      simp only [Bool.and_eq_true, decide_eq_true_eq] at hc
      exact op_shl pins s σ H _ _ u w Q I rx ry ⟨_, _, rfl, rfl, ⟨hc.1.1, hc.1.2, hc.2⟩, q.1 _ rel_int⟩
    · cases hv
  · cases ha; cases hb
    split at hv
    · rename_i hc
      cases hv
      simp only [decide_eq_true_eq] at hc
      exact op_shr pins s σ H _ _ u w Q I rx ry ⟨_, _, rfl, rfl, hc, q.1 _ rel_int⟩
    · cases hv
  · cases hv; cases ha; cases hb
    exact op_and pins s σ H _ _ u w Q I rx ry ⟨_, _, rfl, rfl, q.1 _ rel_int⟩
  · cases hv; cases ha; cases hb
    exact op_or pins s σ H _ _ u w Q I rx ry ⟨_, _, rfl, rfl, q.1 _ rel_int⟩
  · cases hv; cases ha; cases hb
    exact op_xor pins s σ H _ _ u w Q I rx ry ⟨_, _, rfl, rfl, q.1 _ rel_int⟩
  · cases ha; cases hb
    split at hv
    · rename_i hc
      cases hv
      simp only [decide_eq_true_eq] at hc
      exact op_add_str pins s σ H _ _ u w Q I rx ry ⟨_, _, rfl, rfl, lineN_le hc, q.1 _ rel_str⟩
    · cases hv
  · obtain ⟨a, vs, rfl, h1, r1⟩ := ha
    obtain ⟨b, us, rfl, h2, r2⟩ := hb
    split at hv
    · rename_i hc
      cases hv
      simp only [decide_eq_true_eq] at hc
      rw [r1.length, r2.length] at hc
      exact op_cat pins s σ H _ _ u w Q I rx ry ⟨_, _, _, _, rfl, rfl, h1, h2, lineN_le hc, fun p n => q.2 p _ n (rel_lst (sub.free n) (r1.append r2))⟩
    · cases hv
  · obtain ⟨a, vs, rfl, h1, r1⟩ := ha
    obtain ⟨b, us, rfl, h2, r2⟩ := hb
    split at hv
    · rename_i xs ys hc
      cases hv
      simp only [decide_eq_true_eq] at hc
      rw [r1.length, r2.length] at hc
      refine op_catA pins s σ H _ _ u w Q I rx ry ⟨_, _, _, _, rfl, rfl, sqT_mono sub h1, sqT_mono sub h2, lineN_le hc, fun e => ?_, fun e1 e2 => ?_, fun e1 e2 p n => q.2 p _ n (rel_tup (sub.free n) (r1.append r2))⟩
      · subst e
        have e : xs = [] := List.eq_nil_of_length_eq_zero r1.length
        subst e
        exact q.1 _ (by unfold Rel; exact ⟨_, _, rfl, h2, r2⟩)
      · subst e2
        have e : ys = [] := List.eq_nil_of_length_eq_zero r2.length
        subst e
        exact q.1 _ (by unfold Rel; exact ⟨_, _, rfl, h1, by rw [List.append_nil]; exact r1⟩)
    · cases hv
  · obtain ⟨a, vs, rfl, h1, r1⟩ := ha
    cases hb
    split at hv
    · rename_i xs k hc
      cases hv
      simp only [Bool.and_eq_true, decide_eq_true_eq] at hc
      rw [r1.length] at hc
      exact op_rep pins s σ H _ _ u w Q I rx ry ⟨_, _, _, rfl, rfl, h1, by omega, by omega, lineN_le hc.2, fun p n => q.2 p _ n (rel_lst (sub.free n) (r1.rep _))⟩
    · cases hv
  · obtain ⟨a, vs, rfl, h1, r1⟩ := ha
    obtain ⟨b, us, rfl, h2, r2⟩ := hb
    split at hv
    · rename_i hc
      cases hv
      simp only [decide_eq_true_eq] at hc
      rw [r1.length, r2.length] at hc
      exact op_cat pins s σ H _ _ u w Q I rx ry ⟨_, _, _, _, rfl, rfl, h1, h2, lineN_le hc, fun p n => q.2 p _ n (rel_lst (sub.free n) (r1.append r2))⟩
    · cases hv
  · obtain ⟨a, vs, rfl, h1, r1⟩ := ha
    cases hb
    split at hv
    · rename_i xs k hc
      cases hv
      simp only [Bool.and_eq_true, decide_eq_true_eq] at hc
      rw [r1.length] at hc
      exact op_rep pins s σ H _ _ u w Q I rx ry ⟨_, _, _, rfl, rfl, h1, by omega, by omega, lineN_le hc.2, fun p n => q.2 p _ n (rel_lst (sub.free n) (r1.rep _))⟩
    · cases hv
  · cases hv

/-! ### comparisons -/
theorem op_inT (hu : X.A.units + 65 < cLine) : OpR X (compareOp .In) (fun x y H Q => ∃ d ds, Dp X.K H x d ∧ Dp X.K H y (.tuple ds) ∧ SeqAt.shaped d = true ∧ SeqAt.shaped (.tuple ds) = true ∧ Q (.bl (ds.any fun z => PyData.eqv z d)) H) := by
  intro pins s σ H x y v u Q I rx ry h
  obtain ⟨d, ds, hd, he, sd, se, q⟩ := h
  obtain ⟨as, r1⟩ := Dp.reads I d x v hd rx
  obtain ⟨bs, r2⟩ := Dp.reads I (.tuple ds) y u he ry
  exact SeqAt.in_tuple_reads r2 r1 (SeqAt.canLay_of_shaped se) (SeqAt.canLay_of_shaped sd) (room_in_shaped sd hu) ⟨.bl _, H, I, rfl, q⟩
theorem op_notInT (hu : X.A.units + 65 < cLine) : OpR X (compareOp .NotIn) (fun x y H Q => ∃ d ds, Dp X.K H x d ∧ Dp X.K H y (.tuple ds) ∧ SeqAt.shaped d = true ∧ SeqAt.shaped (.tuple ds) = true ∧ Q (.bl (!ds.any fun z => PyData.eqv z d)) H) := by
  intro pins s σ H x y v u Q I rx ry h
  obtain ⟨d, ds, hd, he, sd, se, q⟩ := h
  obtain ⟨as, r1⟩ := Dp.reads I d x v hd rx
  obtain ⟨bs, r2⟩ := Dp.reads I (.tuple ds) y u he ry
  exact SeqAt.notIn_tuple_reads r2 r1 (SeqAt.canLay_of_shaped se) (SeqAt.canLay_of_shaped sd) (room_in_shaped sd hu) ⟨.bl _, H, I, rfl, q⟩
theorem dp_sh {K : PySem.W.Frag} (s : Same F.h H) {d : D} {x : V} (c : d.canLay0 = true) (h : Sh K F H d x) : Dp K H x d := by
  cases d with
  | none => cases h; exact .non
  | bool b => cases h; exact .bl b
  | int i => cases h; exact .int i
  | str y => cases h; exact .str y
  | list xs =>
    obtain ⟨a, vs, rfl, q, r⟩ := h
    unfold PyData.canLay0 at c
    exact .lst (SqL.of q) (dpAll_of s xs vs c r)
  | tuple xs =>
    obtain ⟨a, vs, rfl, q, r⟩ := h
    unfold PyData.canLay0 at c
    exact .tup (sqT_mono s q) (dpAll_of s xs vs c r)
  | dict kvs => unfold PyData.canLay0 at c; cases c
theorem lay_of_shp {d : D} (h : shp d = true) : d.canLay0 = true := by
  unfold shp SeqAt.shaped at h
  simp only [Bool.and_eq_true] at h
  exact h.1
theorem sh_non {K : PySem.W.Frag} {d : D} {x : V} (h : Sh K F H d x) : decide (x = V.non) = (match d with | .none => true | _ => false) := by
  cases d with
  | none => cases h; rfl
  | bool b => cases h; rfl
  | int i => cases h; rfl
  | str y => cases h; rfl
  | list xs => obtain ⟨a, vs, rfl, q, r⟩ := h; rfl
  | tuple xs => obtain ⟨a, vs, rfl, q, r⟩ := h; rfl
  | dict kvs =>
    rcases h with ⟨_, a, rfl⟩ | ⟨_, a, kk, rfl, _⟩
    · rfl
    · rfl
def rC (K : PySem.W.Frag) (o : Cop) : R2 := fun x y H Q => ∃ F va vb b, Same F.h H ∧ Sh K F H va x ∧ Sh K F H vb y ∧ cmpV o va vb = some b ∧ Q (.bl b) H
theorem dI {i j : Int} : decide (V.int i = V.int j) = decide (i = j) := by
  by_cases h : i = j
  · subst h; simp
  · rw [decide_eq_false h, decide_eq_false fun z => h (V.int.inj z)]
theorem dS {i j : Str} : decide (V.str i = V.str j) = decide (i = j) := by
  by_cases h : i = j
  · subst h; simp
  · rw [decide_eq_false h, decide_eq_false fun z => h (V.str.inj z)]
theorem lensV_some {va vb : D} {b : Bool} (h : lensV va vb = some b) : b = false ∧ ∃ xs ys, va = .list xs ∧ vb = .list ys ∧ xs.length ≠ ys.length := by
  unfold lensV at h
  split at h
  · split at h
    · cases h
    · rename_i z
      cases h
      exact ⟨rfl, _, _, rfl, rfl, by simpa using z⟩
  · cases h
theorem lists_lens {va vb : List D} {x y : V} {u w : Value} {pins : List (Addr × Obj)} {s : Shared} (I : Inv X pins σ H s) (rx : RelV x u) (ry : RelV y w)
    (ha : Sh X.K F H (.list va) x) (hb : Sh X.K F H (.list vb) y) (hl : va.length ≠ vb.length) : ∃ l b items items2, u = .ref l ∧ w = .ref b ∧ s.heap.IsList l items ∧ s.heap.IsList b items2 ∧ (items.size != items2.size) = true := by
  obtain ⟨p, vs, rfl, e1, r1⟩ := ha
  obtain ⟨p2, vs2, rfl, e2, r2⟩ := hb
  cases rx
  cases ry
  obtain ⟨its, v1, pl1, _⟩ := I.list (SqL.of e1)
  obtain ⟨its2, v2, pl2, _⟩ := I.list (SqL.of e2)
  refine ⟨p, p2, _, _, rfl, rfl, pl1.isList, pl2.isList, ?_⟩
  have k1 := v1.length; have k2 := v2.length; have k3 := r1.length; have k4 := r2.length
  simp only [List.size_toArray, bne_iff_ne]
  omega
theorem op_eqV {b : Bool} {va vb : D} {x y : V} {u w : Value} {Q : VK} {pins : List (Addr × Obj)} {s : Shared} (hu : X.A.units + 64 < cLine) (I : Inv X pins σ H s) (rx : RelV x u) (ry : RelV y w)
    (sub : Same F.h H) (ha : Sh X.K F H va x) (hb : Sh X.K F H vb y) (hv : eqD va vb = some b) (q : Q (.bl b) H) : wpAny (model X.prog X.w) X.A (compareOp .Eq u w) (EP X pins σ Q) X.xe s := by
  unfold eqD at hv
  split at hv
  · cases ha; cases hb; cases hv
    refine op_eq pins s σ H _ _ u w Q I rx ry ⟨rfl, ?_⟩
    rw [dI]; exact q
  · cases ha; cases hb; cases hv
    refine op_eq pins s σ H _ _ u w Q I rx ry ⟨rfl, ?_⟩
    rw [dec_bl]; exact q
  · cases ha; cases hb; cases hv
    refine op_eq pins s σ H _ _ u w Q I rx ry ⟨rfl, ?_⟩
    rw [dS]; exact q
  · cases ha; cases hb; cases hv
    exact op_eq pins s σ H _ _ u w Q I rx ry ⟨rfl, q⟩
  · split at hv
    · rename_i hc
      cases hv
      simp only [Bool.and_eq_true] at hc
      exact op_eqD hu pins s σ H _ _ u w Q I rx ry ⟨_, _, dp_sh sub (lay_of_shp hc.1) ha, dp_sh sub (lay_of_shp hc.2) hb, hc.1, hc.2, q⟩
    · obtain ⟨rfl, xs, ys, rfl, rfl, hl⟩ := lensV_some hv
      obtain ⟨l, b, i1, i2, rfl, rfl, l1, l2, hn⟩ := lists_lens I rx ry ha hb hl
      exact SeqAt.RcAt.lists_lengths l1 l2 hn (by omega) _ _ _ _ ⟨.bl false, H, I, rfl, q⟩
theorem op_neV {b : Bool} {va vb : D} {x y : V} {u w : Value} {Q : VK} {pins : List (Addr × Obj)} {s : Shared} (hu : X.A.units + 64 < cLine) (I : Inv X pins σ H s) (rx : RelV x u) (ry : RelV y w)
    (sub : Same F.h H) (ha : Sh X.K F H va x) (hb : Sh X.K F H vb y) (hv : eqD va vb = some b) (q : Q (.bl (!b)) H) : wpAny (model X.prog X.w) X.A (compareOp .NotEq u w) (EP X pins σ Q) X.xe s := by
  unfold eqD at hv
  split at hv
  · cases ha; cases hb; cases hv
    refine op_ne pins s σ H _ _ u w Q I rx ry ⟨rfl, ?_⟩
    rw [dI]; exact q
  · cases ha; cases hb; cases hv
    refine op_ne pins s σ H _ _ u w Q I rx ry ⟨rfl, ?_⟩
    rw [dec_bl]; exact q
  · cases ha; cases hb; cases hv
    refine op_ne pins s σ H _ _ u w Q I rx ry ⟨rfl, ?_⟩
    rw [dS]; exact q
  · cases ha; cases hb; cases hv
    exact op_ne pins s σ H _ _ u w Q I rx ry ⟨rfl, q⟩
  · split at hv
    · rename_i hc
      cases hv
      simp only [Bool.and_eq_true] at hc
      exact op_neD hu pins s σ H _ _ u w Q I rx ry ⟨_, _, dp_sh sub (lay_of_shp hc.1) ha, dp_sh sub (lay_of_shp hc.2) hb, hc.1, hc.2, q⟩
    · obtain ⟨rfl, xs, ys, rfl, rfl, hl⟩ := lensV_some hv
      obtain ⟨l, b, i1, i2, rfl, rfl, l1, l2, hn⟩ := lists_lens I rx ry ha hb hl
      exact SeqAt.RcNeAt.lists_lengths l1 l2 hn (by omega) _ _ _ _ ⟨.bl true, H, I, rfl, q⟩
theorem map_some {α β : Type} {o : Option α} {f : α → β} {b : β} (h : o.map f = some b) : ∃ a, o = some a ∧ f a = b := by
  cases o with
  | none => cases h
  | some a => exact ⟨a, rfl, Option.some.inj h⟩
theorem op_cmp (o : Cop) (hu : X.A.units + 65 < cLine) : OpR X (compareOp (cop o)) (rC X.K o) := by
  intro pins s σ H x y u w Q I rx ry h
  obtain ⟨F, va, vb, b, sub, ha, hb, hv, q⟩ := h
  unfold cmpV at hv
  split at hv
  · exact op_eqV (by omega) I rx ry sub ha hb hv q
  · obtain ⟨b', e, rfl⟩ := map_some hv
    exact op_neV (by omega) I rx ry sub ha hb e q
  · unfold ltT at hv
    split at hv
    · cases ha; cases hb; cases hv
      exact op_lt pins s σ H _ _ u w Q I rx ry ⟨_, _, rfl, rfl, q⟩
    · obtain ⟨a, vs, rfl, h1, r1⟩ := ha
      obtain ⟨c, us, rfl, h2, r2⟩ := hb
      split at hv
      · rename_i ns ms e1 e2
        cases hv
        rw [r1.ints e1] at h1
        rw [r2.ints e2] at h2
        exact op_ltT (by omega) pins s σ H _ _ u w Q I rx ry ⟨_, _, _, _, rfl, rfl, sqT_mono sub h1, sqT_mono sub h2, q⟩
      · cases hv
    · cases hv
  · cases ha; cases hb; cases hv
    exact op_gt pins s σ H _ _ u w Q I rx ry ⟨_, _, rfl, rfl, q⟩
  · cases ha; cases hb; cases hv
    exact op_le pins s σ H _ _ u w Q I rx ry ⟨_, _, rfl, rfl, q⟩
  · cases ha; cases hb; cases hv
    exact op_ge pins s σ H _ _ u w Q I rx ry ⟨_, _, rfl, rfl, q⟩
  · cases hb
    have e := sh_non ha
    cases hv
    refine op_isN pins s σ H _ _ u w Q I rx ry ⟨rfl, ?_⟩
    rw [e]
    cases va <;> exact q
  · cases hb
    have e := sh_non ha
    refine op_notN pins s σ H _ _ u w Q I rx ry ⟨rfl, ?_⟩
    rw [e]
    have hv := Option.some.inj hv
    subst hv
    cases va <;> exact q
  · cases ha; cases hb; cases hv
    exact op_is_bl pins s σ H _ _ u w Q I rx ry ⟨_, _, rfl, rfl, q⟩
  · cases ha; cases hb; cases hv
    exact op_isnot_bl pins s σ H _ _ u w Q I rx ry ⟨_, _, rfl, rfl, q⟩
  · unfold inD at hv
    split at hv
    · split at hv
      · rename_i ds hc
        cases hv
        simp only [Bool.and_eq_true] at hc
        exact op_inD hu pins s σ H _ _ u w Q I rx ry ⟨_, _, dp_sh sub (lay_of_shp hc.1) ha, dp_sh sub (lay_of_shp hc.2) hb, hc.1, hc.2, q⟩
      · cases hv
    · split at hv
      · rename_i ds hc
        cases hv
        simp only [Bool.and_eq_true] at hc
        exact op_inT hu pins s σ H _ _ u w Q I rx ry ⟨_, _, dp_sh sub (lay_of_shp hc.1) ha, dp_sh sub (lay_of_shp hc.2) hb, hc.1, hc.2, q⟩
      · cases hv
    · cases hv
  · obtain ⟨b', hz, e0⟩ := map_some hv
    clear hv
    subst e0
    unfold inD at hz
    split at hz
    · split at hz
      · rename_i ds hc
        have hz := Option.some.inj hz
        subst hz
        simp only [Bool.and_eq_true] at hc
        exact op_notInD hu pins s σ H _ _ u w Q I rx ry ⟨_, _, dp_sh sub (lay_of_shp hc.1) ha, dp_sh sub (lay_of_shp hc.2) hb, hc.1, hc.2, q⟩
      · cases hz
    · split at hz
      · rename_i ds hc
        have hz := Option.some.inj hz
        subst hz
        simp only [Bool.and_eq_true] at hc
        exact op_notInT hu pins s σ H _ _ u w Q I rx ry ⟨_, _, dp_sh sub (lay_of_shp hc.1) ha, dp_sh sub (lay_of_shp hc.2) hb, hc.1, hc.2, q⟩
      · cases hz
    · cases hz
  · cases hv
end
end Pv
end

section
/-! PvD: the rules for expressions. -/
set_option autoImplicit false
namespace Pv
open PySem PySem.Spec PyProof.Rows L2

section
variable {X : Cx} {C : Ct} {Ow : List Nat} {e a b c : Expr} {i ia ib ic : Ex} {pos : Pos}

/-! ### names and constants -/
theorem Es.var (n : Nat) {x : Str} (hi : n ∉ Ow) (hN : X.N[n]? = some x) (hv : Vis X.env.scope x) (hd : (x == ("__debug__" : Str)) = false) (hcd : (x == ("__classdict__" : Str)) = false) : Es X C Ow (.Name x pos) (.var n) :=
  ⟨pe_con (pe_var hN hv hd hcd) fun σ H Q ⟨T, F, σe, g, v, g', r, m, q⟩ => by
    unfold ev at m
    split at m
    · rename_i w e
      cases m
      obtain ⟨y, e1, e2⟩ := r.fz n _ e hi
      exact ⟨y, e1, q F H y (.refl F) r e2⟩
    · cases m⟩
theorem Eb.var (n : Nat) {x : Str} (hN : X.N[n]? = some x) (hv : Vis X.env.scope x) (hd : (x == ("__debug__" : Str)) = false) (hcd : (x == ("__classdict__" : Str)) = false) : Eb X C Ow (.Name x pos) (.var n) :=
  ⟨pe_con (pe_var hN hv hd hcd) fun σ H Q ⟨T, F, σe, g, v, g', r, m, q⟩ => by
    unfold ev at m
    split at m
    · rename_i w e
      cases m
      by_cases hi : n ∈ Ow
      · obtain ⟨p, e1, e2, _⟩ := r.ow n _ e hi
        exact ⟨_, e1, q F H _ (.refl F) r (.inr ⟨n, hi, e, e1⟩)⟩
      · obtain ⟨y, e1, e2⟩ := r.fz n _ e hi
        exact ⟨y, e1, q F H y (.refl F) r (.inl e2)⟩
    · cases m⟩
theorem es_const {d : D} {x : V} (h : PE X e (tC x)) (hr : ∀ F, Rel C.K F d x) : Es X C Ow e (.c d) :=
  ⟨pe_con h fun σ H Q ⟨T, F, σe, g, v, g', r, m, q⟩ => by
    unfold ev at m
    cases m
    exact q F H x (.refl F) r (hr F)⟩
theorem Es.int {n : Int} {j : Nat} : Es X C Ow (.Constant (.int n) j pos) (.c (.int n)) := es_const pe_int fun _ => rel_int
theorem Es.str {n : Str} {j : Nat} : Es X C Ow (.Constant (.str n) j pos) (.c (.str n)) := es_const pe_str fun _ => rel_str
theorem Es.bl {n : Bool} {j : Nat} : Es X C Ow (.Constant (.bool n) j pos) (.c (.bool n)) := es_const pe_bl fun _ => rel_bl
theorem Es.non {j : Nat} : Es X C Ow (.Constant .none j pos) (.c .none) := es_const pe_non fun _ => rel_non
/-- a module's constant -/
theorem Es.glob {x : Str} {u : Value} {d : D} {v : V} (hg : Gl X x) (hm : X.mg x = some u) (rv : RelV v u) (hr : ∀ F, Rel C.K F d v) (hd : (x == ("__debug__" : Str)) = false) : Es X C Ow (.Name x pos) (.c d) :=
  es_const (pe_glob hg hm rv hd) hr

/-! ### operators -/
theorem Es.bin (o : Bop) (hK : X.K = C.K) (ha : Eb X C Ow a ia) (hb : Eb X C Ow b ib) : Es X C Ow (.BinOp a (bop o) b pos) (.bin o ia ib) :=
  ⟨pe_con (pe_op (op_bin o) ha.run hb.run) fun σ H Q ⟨T, F, σe, g, v, g', r, m, q⟩ => by
    unfold ev at m
    obtain ⟨va, g1, m1, m⟩ := bind_eq_ok m
    obtain ⟨vb, g2, m2, m⟩ := bind_eq_ok m
    obtain ⟨m3, e⟩ := lift_eq_ok m
    subst e
    refine ⟨T, F, σe, g, va, g1, r, m1, fun F1 H1 x s1 r1 b1 => ⟨T, F1, σe, g1, vb, _, r1, m2, fun F2 H2 y s2 r2 b2 => ⟨F2, va, vb, v, r2.sub, ?_, ?_, m3, ?_⟩⟩⟩
    · rw [hK]; exact r2.sh (b1.mono s2)
    · rw [hK]; exact r2.sh b2
    · rw [hK]; exact r2.out fun F' H' z s r' => q F' H' z (s1.trans (s2.trans s)) r'⟩
theorem new_of {T : Hp} {F : Fz} {σe : Sl} {g : G} {σ : L2.St} {H : Hp} {v : D} {p : Addr} {o : HO} (r : R C Ow T F σe g σ H) (n : H p = none) (h : OwnAt C.K F (upd H p o) v p) : New C Ow T F σe σ (upd H p o) v p :=
  ⟨h, r.h0 n, r.fn n, r.ndk n, (fun i w hi e z => by
    obtain ⟨a', e1, e2, _⟩ := r.ow i w e hi
    rw [e1] at z
    have z : V.ref a' = V.ref p := Option.some.inj (Option.some.inj z)
    cases z
    obtain ⟨o', eo⟩ := e2.there
    rw [n] at eo; cases eo), r.tn n⟩
theorem lcat_inv {va vb v : D} (h : binV .lcat va vb = some v) : ∃ xs ys, va = .list xs ∧ vb = .list ys ∧ xs.length + ys.length ≤ lineN ∧ v = .list (xs ++ ys) := by
  cases va with
  | list xs =>
    cases vb with
    | list ys =>
      simp only [binV] at h
      split at h
      · rename_i hc
        cases h
        exact ⟨xs, ys, rfl, rfl, of_decide_eq_true hc, rfl⟩
      · cases h
    | _ => simp [binV] at h
  | _ => simp [binV] at h
theorem lrep_inv {va vb v : D} (h : binV .lrep va vb = some v) : ∃ xs k, va = .list xs ∧ vb = .int k ∧ (-9223372036854775808 ≤ k ∧ k < 16777217 ∧ xs.length * k.toNat ≤ lineN) ∧ v = .list (List.replicate k.toNat xs).flatten := by
  cases va with
  | list xs =>
    cases vb with
    | int k =>
      simp only [binV] at h
      split at h
      · rename_i hc
        cases h
        simp only [Bool.and_eq_true, decide_eq_true_eq] at hc
        exact ⟨xs, k, rfl, rfl, ⟨hc.1.1, hc.1.2, hc.2⟩, rfl⟩
      · cases h
    | _ => simp [binV] at h
  | _ => simp [binV] at h
theorem Ef.cat (ha : Eb X C Ow a ia) (hb : Eb X C Ow b ib) : Ef X C Ow (.BinOp a .Add b pos) (.bin .lcat ia ib) :=
  ⟨pe_con (pe_op op_cat ha.run hb.run) fun σ H Q ⟨T, F, σe, g, v, g', r, m, q⟩ => by
    unfold ev at m
    obtain ⟨va, g1, m1, m⟩ := bind_eq_ok m
    obtain ⟨vb, g2, m2, m⟩ := bind_eq_ok m
    obtain ⟨m3, e⟩ := lift_eq_ok m
    subst e
    refine ⟨T, F, σe, g, va, g1, r, m1, fun F1 H1 x s1 r1 b1 => ⟨T, F1, σe, g1, vb, _, r1, m2, fun F2 H2 y s2 r2 b2 => ?_⟩⟩
    have ha := r2.sh (b1.mono s2)
    have hb := r2.sh b2
    obtain ⟨xs, ys, e1, e2, hc, e3⟩ := lcat_inv m3
    subst e1; subst e2; subst e3
    obtain ⟨p, vs, rfl, h1, q1⟩ := ha
    obtain ⟨p', us, rfl, h2, q2⟩ := hb
    rw [q1.length, q2.length] at hc
    exact ⟨_, _, _, _, rfl, rfl, h1, h2, lineN_le hc, fun p n => q F2 _ p (s1.trans s2) (r2.grown n) (new_of r2 n ⟨_, upd_same, q1.append q2⟩)⟩⟩
theorem Ef.rep (ha : Eb X C Ow a ia) (hb : Eb X C Ow b ib) : Ef X C Ow (.BinOp a .Mult b pos) (.bin .lrep ia ib) :=
  ⟨pe_con (pe_op op_rep ha.run hb.run) fun σ H Q ⟨T, F, σe, g, v, g', r, m, q⟩ => by
    unfold ev at m
    obtain ⟨va, g1, m1, m⟩ := bind_eq_ok m
    obtain ⟨vb, g2, m2, m⟩ := bind_eq_ok m
    obtain ⟨m3, e⟩ := lift_eq_ok m
    subst e
    refine ⟨T, F, σe, g, va, g1, r, m1, fun F1 H1 x s1 r1 b1 => ⟨T, F1, σe, g1, vb, _, r1, m2, fun F2 H2 y s2 r2 b2 => ?_⟩⟩
    have ha := r2.sh (b1.mono s2)
    have hb := r2.sh b2
    obtain ⟨xs, k, e1, e2, hc, e3⟩ := lrep_inv m3
    subst e1; subst e2; subst e3
    obtain ⟨p, vs, rfl, h1, q1⟩ := ha
    cases hb
    rw [q1.length] at hc
    exact ⟨_, _, _, rfl, rfl, h1, by omega, by omega, lineN_le hc.2.2, fun p n => q F2 _ p (s1.trans s2) (r2.grown n) (new_of r2 n ⟨_, upd_same, q1.rep _⟩)⟩⟩
theorem Es.neg (hK : X.K = C.K) (ha : Eb X C Ow a ia) : Es X C Ow (.UnaryOp .USub a pos) (.neg ia) :=
  ⟨pe_con (pe_un un_neg ha.run) fun σ H Q ⟨T, F, σe, g, v, g', r, m, q⟩ => by
    unfold ev at m
    obtain ⟨va, g1, m1, m⟩ := bind_eq_ok m
    refine ⟨T, F, σe, g, va, g1, r, m1, fun F1 H1 x s1 r1 b1 => ?_⟩
    have h := r1.sh b1
    split at m
    · cases m; cases h
      exact ⟨_, rfl, q F1 H1 _ s1 r1 rel_int⟩
    · cases m⟩

/-! ### comparisons -/
theorem Es.cmp (o : Cop) (hK : X.K = C.K) (hu : X.A.units + 65 < cLine) (ha : Eb X C Ow a ia) (hb : Eb X C Ow b ib) (hm : behindInMarks (cop o) b = false) : Es X C Ow (.Compare a [cop o] [b] pos) (.cmp o ia ib) :=
  ⟨pe_con (pe_cmpR (op_cmp o hu) ha.run hb.run hm) fun σ H Q ⟨T, F, σe, g, v, g', r, m, q⟩ => by
    unfold ev at m
    obtain ⟨va, g1, m1, m⟩ := bind_eq_ok m
    obtain ⟨vb, g2, m2, m⟩ := bind_eq_ok m
    obtain ⟨m3, e⟩ := lift_eq_ok m
    obtain ⟨k, m4, e2⟩ := map_some m3
    subst e; subst e2
    refine ⟨T, F, σe, g, va, g1, r, m1, fun F1 H1 x s1 r1 b1 => ⟨T, F1, σe, g1, vb, _, r1, m2, fun F2 H2 y s2 r2 b2 => ⟨F2, va, vb, k, r2.sub, ?_, ?_, m4, q F2 H2 _ (s1.trans s2) r2 rel_bl⟩⟩⟩
    · rw [hK]; exact r2.sh (b1.mono s2)
    · rw [hK]; exact r2.sh b2⟩
theorem Et.cmp (o : Cop) (hK : X.K = C.K) (hu : X.A.units + 65 < cLine) (ha : Eb X C Ow a ia) (hb : Eb X C Ow b ib) (hm : behindInMarks (cop o) b = false) : Et X C Ow (.Compare a [cop o] [b] pos) (.cmp o ia ib) :=
  ⟨pt_con (pt_cmpR (op_cmp o hu) ha.run hb.run hm) fun σ H Q ⟨T, F, σe, g, v, g', r, m, q⟩ => by
    unfold ev at m
    obtain ⟨va, g1, m1, m⟩ := bind_eq_ok m
    obtain ⟨vb, g2, m2, m⟩ := bind_eq_ok m
    obtain ⟨m3, e⟩ := lift_eq_ok m
    obtain ⟨k, m4, e2⟩ := map_some m3
    subst e; cases e2
    refine ⟨T, F, σe, g, va, g1, r, m1, fun F1 H1 x s1 r1 b1 => ⟨T, F1, σe, g1, vb, _, r1, m2, fun F2 H2 y s2 r2 b2 => ⟨F2, va, vb, _, r2.sub, ?_, ?_, m4, ⟨_, rfl, q F2 H2 (s1.trans s2) r2⟩⟩⟩⟩
    · rw [hK]; exact r2.sh (b1.mono s2)
    · rw [hK]; exact r2.sh b2⟩
theorem chain_ok {o1 o2 : Cop} (hK : X.K = C.K) {σ : L2.St} {H : Hp} {P : V → Hp → Prop} {T : Hp} {F : Fz} {σe : Sl} {g g' : G} {v : D} (r : R C Ow T F σe g σ H) (m : ev C.Φ (.chain o1 o2 ia ib ic) σe g = .ok v g')
    (q : ∀ (k : Bool) (F' : Fz) (H' : Hp), v = .bool k → Fsub F F' → R C Ow T F' σe g' σ H' → P (.bl k) H') :
    tChain (rC X.K o1) (rC X.K o2) (tB C Ow (ev C.Φ ia)) (tB C Ow (ev C.Φ ib)) (tB C Ow (ev C.Φ ic)) σ H P := by
  unfold ev at m
  obtain ⟨va, g1, m1, m⟩ := bind_eq_ok m
  obtain ⟨vb, g2, m2, m⟩ := bind_eq_ok m
  obtain ⟨k, g3, m30, m⟩ := bind_eq_ok m
  obtain ⟨m3, e⟩ := lift_eq_ok m30
  clear m30
  subst e
  refine ⟨T, F, σe, g, va, g1, r, m1, fun F1 H1 x s1 r1 b1 => ⟨T, F1, σe, g1, vb, _, r1, m2, fun F2 H2 y s2 r2 b2 => ⟨F2, va, vb, k, r2.sub, ?_, ?_, m3, k, rfl, ?_⟩⟩⟩
  · rw [hK]; exact r2.sh (b1.mono s2)
  · rw [hK]; exact r2.sh b2
  · cases k with
    | false =>
      rw [if_neg Bool.false_ne_true] at m ⊢
      cases m
      exact q false F2 H2 rfl (s1.trans s2) r2
    | true =>
      rw [if_pos rfl] at m ⊢
      obtain ⟨vc, g4, m4, m⟩ := bind_eq_ok m
      obtain ⟨m5, e⟩ := lift_eq_ok m
      obtain ⟨k2, m6, e2⟩ := map_some m5
      subst e
      refine ⟨T, F2, σe, _, vc, _, r2, m4, fun F3 H3 z s3 r3 b3 => ⟨F3, vb, vc, k2, r3.sub, ?_, ?_, m6, q k2 F3 H3 e2.symm (s1.trans (s2.trans s3)) r3⟩⟩
      · rw [hK]; exact r3.sh (b2.mono s3)
      · rw [hK]; exact r3.sh b3
theorem Es.chain (o1 o2 : Cop) (hK : X.K = C.K) (hu : X.A.units + 65 < cLine) (ha : Eb X C Ow a ia) (hb : Eb X C Ow b ib) (hc : Eb X C Ow c ic) (hm : lastMarks [cop o1, cop o2] [b, c] = false) :
    Es X C Ow (.Compare a [cop o1, cop o2] [b, c] pos) (.chain o1 o2 ia ib ic) :=
  ⟨pe_con (pe_chain (op_cmp o1 hu) (op_cmp o2 hu) ha.run hb.run hc.run hm) fun σ H Q ⟨T, F, σe, g, v, g', r, m, q⟩ =>
    chain_ok hK r m fun k F' H' e s r' => q F' H' _ s r' (by rw [e]; exact rel_bl)⟩
theorem Et.chain (o1 o2 : Cop) (hK : X.K = C.K) (hu : X.A.units + 65 < cLine) (ha : Eb X C Ow a ia) (hb : Eb X C Ow b ib) (hc : Eb X C Ow c ic) (hm : lastMarks [cop o1, cop o2] [b, c] = false) :
    Et X C Ow (.Compare a [cop o1, cop o2] [b, c] pos) (.chain o1 o2 ia ib ic) :=
  ⟨pt_con (pt_chain (op_cmp o1 hu) (op_cmp o2 hu) ha.run hb.run hc.run hm) fun σ H Q ⟨T, F, σe, g, v, g', r, m, q⟩ =>
    chain_ok hK r m fun k F' H' e s r' => ⟨k, rfl, by cases e; exact q F' H' s r'⟩⟩

/-- a op1 b op2 c op3 d -/
def tChain3 (r r' r'' : R2) (ta tb tc td : TE) : TE := fun σ H Q => ta σ H fun x H1 => tb σ H1 fun y H2 => r x y H2 fun z H3 => ∃ k, z = .bl k ∧
  (if k = true then tc σ H3 fun w' H4 => r' y w' H4 fun z2 H5 => ∃ k2, z2 = .bl k2 ∧ (if k2 = true then td σ H5 fun w2 H6 => r'' w' w2 H6 Q else Q (.bl false) H5) else Q (.bl false) H3)
theorem pe_chain3 {op op' op'' : CmpOp} {r r' r'' : R2} {d : Expr} {ta tb tc td : TE} (ho : OpR X (compareOp op) r) (ho' : OpR X (compareOp op') r') (ho'' : OpR X (compareOp op'') r'') (ha : PE X a ta) (hb : PE X b tb) (hc : PE X c tc) (hd : PE X d td)
    (hm : lastMarks [op, op', op''] [b, c, d] = false) : PE X (.Compare a [op, op', op''] [b, c, d] pos) (tChain3 r r' r'' ta tb tc td) := by
  refine ⟨fun pins s σ H Q I h => ?_⟩
  refine Compare_chain (thn (ha.run pins s σ H _ I h) fun v s1 ⟨x, H1, I1, r1, q1⟩ => chain_link (thn (hb.run pins s1 σ H1 _ I1 q1) fun u s2 ⟨y, H2, I2, r2, q2⟩ =>
    thn (ho pins s2 σ H2 x y v u _ I2 r1 r2 q2) fun d s3 ⟨z, H3, I3, r3, k, e, q3⟩ => ?_)) hm
  subst e
  cases r3
  refine wpAny_truthy_bool ?_
  cases k with
  | false => exact ite_ff ⟨.bl false, H3, I3, rfl, q3⟩
  | true =>
    refine ite_tt (chain_link (thn (hc.run pins s3 σ H3 _ I3 q3) fun u' s4 ⟨y', H4, I4, r4, q4⟩ => thn (ho' pins s4 σ H4 y y' u u' _ I4 r2 r4 q4) fun d' s5 ⟨z', H5, I5, r5, k2, e2, q5⟩ => ?_))
    subst e2
    cases r5
    refine wpAny_truthy_bool ?_
    cases k2 with
    | false => exact ite_ff ⟨.bl false, H5, I5, rfl, q5⟩
    | true => exact ite_tt (chain_last (thn (hd.run pins s5 σ H5 _ I5 q5) fun w' s6 ⟨z6, H6, I6, r6, q6⟩ => ho'' pins s6 σ H6 y' z6 u' w' Q I6 r4 r6 q6))
theorem pt_chain3 {op op' op'' : CmpOp} {r r' r'' : R2} {d : Expr} {ta tb tc td : TE} (ho : OpR X (compareOp op) r) (ho' : OpR X (compareOp op') r') (ho'' : OpR X (compareOp op'') r'') (ha : PE X a ta) (hb : PE X b tb) (hc : PE X c tc) (hd : PE X d td)
    (hm : lastMarks [op, op', op''] [b, c, d] = false) : PT X (.Compare a [op, op', op''] [b, c, d] pos) (tTest (tChain3 r r' r'' ta tb tc td)) := by
  refine ⟨fun pins s σ H Q I h => ?_⟩
  refine isTrue_chain (thn (ha.run pins s σ H _ I h) fun v s1 ⟨x, H1, I1, r1, q1⟩ => test_link (thn (hb.run pins s1 σ H1 _ I1 q1) fun u s2 ⟨y, H2, I2, r2, q2⟩ =>
    thn (ho pins s2 σ H2 x y v u _ I2 r1 r2 q2) fun d s3 ⟨z, H3, I3, r3, k, e, q3⟩ => ?_)) hm
  subst e
  cases r3
  refine wpAny_truthy_bool ?_
  cases k with
  | false =>
    obtain ⟨k', e', q'⟩ := q3
    cases e'
    exact ite_ff ⟨H3, I3, q'⟩
  | true =>
    refine ite_tt (test_link (thn (hc.run pins s3 σ H3 _ I3 q3) fun u' s4 ⟨y', H4, I4, r4, q4⟩ => thn (ho' pins s4 σ H4 y y' u u' _ I4 r2 r4 q4) fun d' s5 ⟨z', H5, I5, r5, k2, e2, q5⟩ => ?_))
    subst e2
    cases r5
    refine wpAny_truthy_bool ?_
    cases k2 with
    | false =>
      obtain ⟨k', e', q'⟩ := q5
      cases e'
      exact ite_ff ⟨H5, I5, q'⟩
    | true =>
      refine ite_tt (test_last (thn (hd.run pins s5 σ H5 _ I5 q5) fun w' s6 ⟨z6, H6, I6, r6, q6⟩ => thn (ho'' pins s6 σ H6 y' z6 u' w' _ I6 r4 r6 q6) fun d' s7 ⟨z7, H7, I7, r7, k3, e3, q7⟩ => ?_))
      subst e3
      cases r7
      exact wpAny_truthy_bool ⟨H7, I7, q7⟩
theorem chain3_ok {o1 o2 o3 : Cop} {id : Ex} (hK : X.K = C.K) {σ : L2.St} {H : Hp} {P : V → Hp → Prop} {T : Hp} {F : Fz} {σe : Sl} {g g' : G} {v : D} (r : R C Ow T F σe g σ H) (m : ev C.Φ (.chain3 o1 o2 o3 ia ib ic id) σe g = .ok v g')
    (q : ∀ (k : Bool) (F' : Fz) (H' : Hp), v = .bool k → Fsub F F' → R C Ow T F' σe g' σ H' → P (.bl k) H') :
    tChain3 (rC X.K o1) (rC X.K o2) (rC X.K o3) (tB C Ow (ev C.Φ ia)) (tB C Ow (ev C.Φ ib)) (tB C Ow (ev C.Φ ic)) (tB C Ow (ev C.Φ id)) σ H P := by
  unfold ev at m
  obtain ⟨va, g1, m1, m⟩ := bind_eq_ok m
  obtain ⟨vb, g2, m2, m⟩ := bind_eq_ok m
  obtain ⟨k, g3, m30, m⟩ := bind_eq_ok m
  obtain ⟨m3, e⟩ := lift_eq_ok m30
  clear m30
  subst e
  refine ⟨T, F, σe, g, va, g1, r, m1, fun F1 H1 x s1 r1 b1 => ⟨T, F1, σe, g1, vb, _, r1, m2, fun F2 H2 y s2 r2 b2 => ⟨F2, va, vb, k, r2.sub, ?_, ?_, m3, k, rfl, ?_⟩⟩⟩
  · rw [hK]; exact r2.sh (b1.mono s2)
  · rw [hK]; exact r2.sh b2
  · cases k with
    | false =>
      rw [if_neg Bool.false_ne_true] at m ⊢
      cases m
      exact q false F2 H2 rfl (s1.trans s2) r2
    | true =>
      rw [if_pos rfl] at m ⊢
      obtain ⟨vc, g4, m4, m⟩ := bind_eq_ok m
      obtain ⟨k2, g5, m50, m⟩ := bind_eq_ok m
      obtain ⟨m5, e⟩ := lift_eq_ok m50
      clear m50
      subst e
      refine ⟨T, F2, σe, _, vc, _, r2, m4, fun F3 H3 z s3 r3 b3 => ⟨F3, vb, vc, k2, r3.sub, ?_, ?_, m5, k2, rfl, ?_⟩⟩
      · rw [hK]; exact r3.sh (b2.mono s3)
      · rw [hK]; exact r3.sh b3
      · cases k2 with
        | false =>
          rw [if_neg Bool.false_ne_true] at m ⊢
          cases m
          exact q false F3 H3 rfl (s1.trans (s2.trans s3)) r3
        | true =>
          rw [if_pos rfl] at m ⊢
          obtain ⟨vd, g6, m6, m⟩ := bind_eq_ok m
          obtain ⟨m7, e⟩ := lift_eq_ok m
          obtain ⟨k3, m8, e2⟩ := map_some m7
          subst e
          refine ⟨T, F3, σe, _, vd, _, r3, m6, fun F4 H4 z4 s4 r4 b4 => ⟨F4, vc, vd, k3, r4.sub, ?_, ?_, m8, q k3 F4 H4 e2.symm (s1.trans (s2.trans (s3.trans s4))) r4⟩⟩
          · rw [hK]; exact r4.sh (b3.mono s4)
          · rw [hK]; exact r4.sh b4
theorem Es.chain3 (o1 o2 o3 : Cop) {d : Expr} {id : Ex} (hK : X.K = C.K) (hu : X.A.units + 65 < cLine) (ha : Eb X C Ow a ia) (hb : Eb X C Ow b ib) (hc : Eb X C Ow c ic) (hd : Eb X C Ow d id) (hm : lastMarks [cop o1, cop o2, cop o3] [b, c, d] = false) :
    Es X C Ow (.Compare a [cop o1, cop o2, cop o3] [b, c, d] pos) (.chain3 o1 o2 o3 ia ib ic id) :=
  ⟨pe_con (pe_chain3 (op_cmp o1 hu) (op_cmp o2 hu) (op_cmp o3 hu) ha.run hb.run hc.run hd.run hm) fun σ H Q ⟨T, F, σe, g, v, g', r, m, q⟩ =>
    chain3_ok hK r m fun k F' H' e s r' => q F' H' _ s r' (by rw [e]; exact rel_bl)⟩
theorem Et.chain3 (o1 o2 o3 : Cop) {d : Expr} {id : Ex} (hK : X.K = C.K) (hu : X.A.units + 65 < cLine) (ha : Eb X C Ow a ia) (hb : Eb X C Ow b ib) (hc : Eb X C Ow c ic) (hd : Eb X C Ow d id) (hm : lastMarks [cop o1, cop o2, cop o3] [b, c, d] = false) :
    Et X C Ow (.Compare a [cop o1, cop o2, cop o3] [b, c, d] pos) (.chain3 o1 o2 o3 ia ib ic id) :=
  ⟨pt_con (pt_chain3 (op_cmp o1 hu) (op_cmp o2 hu) (op_cmp o3 hu) ha.run hb.run hc.run hd.run hm) fun σ H Q ⟨T, F, σe, g, v, g', r, m, q⟩ =>
    chain3_ok hK r m fun k F' H' e s r' => ⟨k, rfl, by cases e; exact q F' H' s r'⟩⟩

/-! ### and, or, not, if -/
theorem Et.not (ha : Et X C Ow a ia) : Et X C Ow (.UnaryOp .Not a pos) (.not ia) :=
  ⟨pt_con (pt_not ha.run) fun σ H Q ⟨T, F, σe, g, v, g', r, m, q⟩ => by
    unfold ev at m
    obtain ⟨va, g1, m1, m⟩ := bind_eq_ok m
    split at m
    · cases m
      exact ⟨T, F, σe, g, _, _, r, m1, fun F1 H1 s1 r1 => q F1 H1 s1 r1⟩
    · cases m⟩
theorem Ew.one {op : BoolOp} (ha : Et X C Ow a ia) : Ew X C Ow (.BoolOp op [a] pos) ia := by
  cases op with
  | And => exact ⟨pw_and1 ha.run⟩
  | Or => exact ⟨pw_or1 ha.run⟩
theorem Ew.and {rest : List Expr} (ha : Et X C Ow a ia) (hb : Ew X C Ow (.BoolOp .And (b :: rest) pos) ib) : Ew X C Ow (.BoolOp .And (a :: b :: rest) pos) (.and ia ib) :=
  ⟨pw_con (pw_and ha.run hb.run) fun σ H Q ⟨T, F, σe, g, v, g', r, m, q⟩ => by
    unfold ev at m
    obtain ⟨va, g1, m1, m⟩ := bind_eq_ok m
    split at m
    · exact ⟨T, F, σe, g, _, _, r, m1, fun F1 H1 s1 r1 => by
        refine iteT ?_
        exact ⟨T, F1, σe, _, v, g', r1, m, fun F2 H2 s2 r2 => q F2 H2 (s1.trans s2) r2⟩⟩
    · cases m
      exact ⟨T, F, σe, g, _, _, r, m1, fun F1 H1 s1 r1 => by
        refine iteF ?_
        exact q F1 H1 s1 r1⟩
    · cases m⟩
theorem Ew.or {rest : List Expr} (ha : Et X C Ow a ia) (hb : Ew X C Ow (.BoolOp .Or (b :: rest) pos) ib) : Ew X C Ow (.BoolOp .Or (a :: b :: rest) pos) (.or ia ib) :=
  ⟨pw_con (pw_or ha.run hb.run) fun σ H Q ⟨T, F, σe, g, v, g', r, m, q⟩ => by
    unfold ev at m
    obtain ⟨va, g1, m1, m⟩ := bind_eq_ok m
    split at m
    · cases m
      exact ⟨T, F, σe, g, _, _, r, m1, fun F1 H1 s1 r1 => by
        refine iteT ?_
        exact q F1 H1 s1 r1⟩
    · exact ⟨T, F, σe, g, _, _, r, m1, fun F1 H1 s1 r1 => by
        refine iteF ?_
        exact ⟨T, F1, σe, _, v, g', r1, m, fun F2 H2 s2 r2 => q F2 H2 (s1.trans s2) r2⟩⟩
    · cases m⟩
theorem Es.not (hK : X.K = C.K) (ha : Eb X C Ow a ia) : Es X C Ow (.UnaryOp .Not a pos) (.not ia) :=
  ⟨pe_con (pe_not ha.run) fun σ H Q ⟨T, F, σe, g, v, g', r, m, q⟩ => by
    unfold ev at m
    obtain ⟨va, g1, m1, m⟩ := bind_eq_ok m
    refine ⟨T, F, σe, g, va, g1, r, m1, fun F1 H1 x s1 r1 b1 => ?_⟩
    have h := r1.sh b1
    split at m
    · cases m; cases h
      exact ⟨_, rfl, q F1 H1 _ s1 r1 rel_bl⟩
    · cases m⟩
theorem Es.one {op : BoolOp} (ha : Es X C Ow a ia) : Es X C Ow (.BoolOp op [a] pos) ia := ⟨pe_one ha.run⟩
theorem Es.and {rest : List Expr} (ha : Eb X C Ow a ia) (hb : Es X C Ow (.BoolOp .And (b :: rest) pos) ib) : Es X C Ow (.BoolOp .And (a :: b :: rest) pos) (.and ia ib) :=
  ⟨pe_con (pe_and ha.run hb.run) fun σ H Q ⟨T, F, σe, g, v, g', r, m, q⟩ => by
    unfold ev at m
    obtain ⟨va, g1, m1, m⟩ := bind_eq_ok m
    refine ⟨T, F, σe, g, va, g1, r, m1, fun F1 H1 x s1 r1 b1 => ?_⟩
    have h := r1.sh b1
    split at m
    · cases h
      refine ⟨_, rfl, ?_⟩
      refine iteT ?_
      exact ⟨T, F1, σe, _, v, g', r1, m, fun F2 H2 y s2 r2 => q F2 H2 y (s1.trans s2) r2⟩
    · cases m; cases h
      refine ⟨_, rfl, ?_⟩
      refine iteF ?_
      exact q F1 H1 _ s1 r1 rel_bl
    · cases m⟩
theorem Es.or {rest : List Expr} (ha : Eb X C Ow a ia) (hb : Es X C Ow (.BoolOp .Or (b :: rest) pos) ib) : Es X C Ow (.BoolOp .Or (a :: b :: rest) pos) (.or ia ib) :=
  ⟨pe_con (pe_or ha.run hb.run) fun σ H Q ⟨T, F, σe, g, v, g', r, m, q⟩ => by
    unfold ev at m
    obtain ⟨va, g1, m1, m⟩ := bind_eq_ok m
    refine ⟨T, F, σe, g, va, g1, r, m1, fun F1 H1 x s1 r1 b1 => ?_⟩
    have h := r1.sh b1
    split at m
    · cases m; cases h
      refine ⟨_, rfl, ?_⟩
      refine iteT ?_
      exact q F1 H1 _ s1 r1 rel_bl
    · cases h
      refine ⟨_, rfl, ?_⟩
      refine iteF ?_
      exact ⟨T, F1, σe, _, v, g', r1, m, fun F2 H2 y s2 r2 => q F2 H2 y (s1.trans s2) r2⟩
    · cases m⟩
theorem Es.ite {t : Expr} {it : Ex} (ht : Et X C Ow t it) (ha : Es X C Ow a ia) (hb : Es X C Ow b ib) : Es X C Ow (.IfExp t a b pos) (.ite it ia ib) :=
  ⟨pe_con (pe_ifExp ht.run ha.run hb.run) fun σ H Q ⟨T, F, σe, g, v, g', r, m, q⟩ => by
    unfold ev at m
    obtain ⟨va, g1, m1, m⟩ := bind_eq_ok m
    split at m
    · refine ⟨T, F, σe, g, _, g1, r, m1, fun F1 H1 s1 r1 => ?_⟩
      refine iteT ?_
      exact ⟨T, F1, σe, _, v, g', r1, m, fun F2 H2 y s2 r2 => q F2 H2 y (s1.trans s2) r2⟩
    · refine ⟨T, F, σe, g, _, g1, r, m1, fun F1 H1 s1 r1 => ?_⟩
      refine iteF ?_
      exact ⟨T, F1, σe, _, v, g', r1, m, fun F2 H2 y s2 r2 => q F2 H2 y (s1.trans s2) r2⟩
    · cases m⟩
theorem tru_sh {K : PySem.W.Frag} {F : Fz} {H : Hp} {d : D} {x : V} {k : Bool} (s : Same F.h H) (h : Sh K F H d x) (t : truV d = some k) : TruV K x H k := by
  cases d with
  | none => cases h; cases t; rfl
  | bool b => cases h; cases t; rfl
  | int i => cases h; cases t; rfl
  | str y =>
    cases h
    have t : (if decide (y.length ≤ lineN) then some (decide (y.length ≠ 0)) else none) = some k := t
    split at t
    · rename_i hz
      cases t
      refine ⟨lineN_le (of_decide_eq_true hz), ?_⟩
      by_cases e : y.length = 0 <;> simp [e]
    · cases t
  | list xs =>
    obtain ⟨p, vs, rfl, q, r⟩ := h
    cases t
    refine .inl ⟨vs, SqL.of q, ?_⟩
    have e := r.length
    cases xs <;> cases vs <;> first | rfl | simp at e
  | tuple xs =>
    obtain ⟨p, vs, rfl, q, r⟩ := h
    cases t
    refine .inr (.inl ⟨vs, sqT_mono s q, ?_⟩)
    have e := r.length
    cases xs <;> cases vs <;> first | rfl | simp at e
  | dict kvs => cases t
/-- a value's truth, as a test -/
theorem Et.truth (hK : X.K = C.K) (ha : Eb X C Ow a ia) (he : ∀ whole, isTrue a X.env whole = (do let v ← whole; standAt a.pos; holding [v] (truthy v))) : Et X C Ow a (.truth ia) :=
  ⟨pt_con (pt_truth ha.run he) fun σ H Q ⟨T, F, σe, g, v, g', r, m, q⟩ => by
    unfold ev at m
    obtain ⟨va, g1, m1, m⟩ := bind_eq_ok m
    obtain ⟨m2, e⟩ := lift_eq_ok m
    obtain ⟨k, m3, e2⟩ := map_some m2
    subst e; cases e2
    refine ⟨T, F, σe, g, va, _, r, m1, fun F1 H1 x s1 r1 b1 => ⟨_, ?_, q F1 H1 s1 r1⟩⟩
    rw [hK]
    exact tru_sh r1.sub (r1.sh b1) m3⟩
/-- a bool, as a test -/
theorem Et.val (ha : Eb X C Ow a ia) (he : ∀ whole, isTrue a X.env whole = (do let v ← whole; standAt a.pos; holding [v] (truthy v))) : Et X C Ow a ia :=
  ⟨pt_con (pt_val ha.run he) fun σ H Q ⟨T, F, σe, g, v, g', r, m, q⟩ =>
    ⟨T, F, σe, g, _, _, r, m, fun F1 H1 x s1 r1 b1 => ⟨v, r1.sh b1, q F1 H1 s1 r1⟩⟩⟩
end
end Pv
end

section
/-! PvE: calls of defs; arguments, displays, subscripts. -/
set_option autoImplicit false
namespace Pv
open PySem PySem.Spec PyProof.Rows L2

/-! ### a def's promise, called where nothing is being shown -/
structure FnG (P : Program) (w : World) (K : PySem.W.Frag) (mg : Str → Option Value) (base : Heap) (CX : CXT) (k : Nat) (f : Addr) (fd : FuncData) (ps : List Str) (sp : Sp) : Prop where
  len : ∀ vs H Q E, sp vs H Q E → vs.length = ps.length
  run : ∀ (A : Around) (outer : List Env) (s : Shared) (H : Hp) (args : Args) (us : List Value) (vs : List V) (Q : VK) (E : XK), A.guards = some [] → Room k A → Env0 P w K mg base A outer s H → BindsTo s fd args (ps.zip us) → Vals vs us → sp vs H Q E →
    codeAny (model P w) A (.call (.ref f) args) (CR CX outer P w H s Q E) s
section
variable {P : Program} {w : World} {K : PySem.W.Frag} {mg : Str → Option Value} {base : Heap} {CX : CXT} {k : Nat} {f : Addr} {fd : FuncData} {ps : List Str} {sp sp' : Sp}
theorem FnG.mono {j : Nat} (F : FnG P w K mg base CX j f fd ps sp) (h : j ≤ k) : FnG P w K mg base CX k f fd ps sp :=
  ⟨F.len, fun A outer s H args us vs Q E hg hr => F.run A outer s H args us vs Q E hg (hr.mono h)⟩
theorem FnG.of (F : FnOk P w K mg base CX k f fd ps sp) : FnG P w K mg base CX k f fd ps sp :=
  ⟨F.len, fun A outer s H args us vs Q E _ hr => F.run A outer s H args us vs Q E hr⟩
theorem FnG.imp (F : FnG P w K mg base CX k f fd ps sp) (h : ∀ vs H Q E, sp' vs H Q E → sp vs H Q E) : FnG P w K mg base CX k f fd ps sp' :=
  ⟨fun vs H Q E q => F.len vs H Q E (h _ _ _ _ q), fun A outer s H args us vs Q E hg hr he hb hv hs => F.run A outer s H args us vs Q E hg hr he hb hv (h _ _ _ _ hs)⟩
end
section
variable {P : Program} {w : World} {K : PySem.W.Frag} {mg : Str → Option Value} {base : Heap} {x qual : Str} {st : Stmt} {f : Addr} {fd : FuncData} {N ps : List Str} {k : Nat} {sp : Sp}
def flV : Flow → Value
  | .ret v => v
  | _ => .none
/-- where a def of this kind may lead: it hands back a value (nothing is raised) -/
theorem sp_end {X : Cx} {s' : Shared} {Q : VK} {E : XK} {fl : Flow} (hx : X.ex = []) (h : SP X [] { nx := fun _ H' => Q .non H', rt := Q } fl s') : CR CX0 X.outer X.prog X.w X.H_0 X.s_0 Q E (.ok (.ret (flV fl))) s' := by
  have out : ∀ {σ' : L2.St} {H' : Hp} {v : V} {u : Value}, Inv X [] σ' H' s' → RelV v u → Q v H' → CR CX0 X.outer X.prog X.w X.H_0 X.s_0 Q E (.ok (.ret u)) s' := fun {σ' H' v u} J rv q =>
    ⟨v, H', J.os, J.bare, by have z := J.base; rw [hx] at z; exact z, J.hok, rv, q⟩
  cases fl with
  | next => obtain ⟨_, H', J, q⟩ := h; exact out (v := .non) J rfl q
  | ret u => obtain ⟨v, _, H', J, rv, q⟩ := h; exact out J rv q
  | brk => obtain ⟨_, _, _, q⟩ := h; exact q.elim
  | cont => obtain ⟨_, _, _, q⟩ := h; exact q.elim
/-- THE RULE for a def that raises nothing, called where nothing is being shown -/
theorem funOk (F : Fun K x qual st f fd) (S : FnScope N ps (defScope st)) (len : ∀ vs H Q E, sp vs H Q E → vs.length = ps.length)
    (body : ∀ (cdv : Value) (A : Around) (outer : List Env) (s : Shared) (H : Hp) (vs : List V) (Q : VK) (E : XK), A.guards = some [] → Room k (A.deeper (envOfC qual (defScope st) s.heap.objs.size f cdv)) → sp vs H Q E →
      ∃ t, PSs (cxOf CX0 P w K mg base N qual (defScope st) f cdv A outer s H E).nox (defBody st) t ∧ t { nx := fun _ H' => Q .non H', rt := Q } (start N vs) H) : FnG P w K mg base CX0 (k + 1) f fd ps sp := by
  obtain ⟨oc, od, kV, doc, pm, an, cdv, ct, osl, rfl, lk, hcd⟩ := F.ex
  refine ⟨len, ?_⟩
  intro A outer s H args us vs Q E hg hr e0 hb r hsp
  have inK : K.In s.heap := e0.mod.kin.keeps fun b o e => (e0.bs b o e).1
  refine codeAny_call_function hr.depth (inK _ _ lk) rfl S.co S.gen rfl (PySem.W.codeRec_of inK hcd) (hb _ _ _ _ ?_)
  refine wpAny_newFunctionEnv_cells S.kind (fun y hy => (S.par y.1 (List.of_mem_zip hy).1).imp id fun q => ⟨q, PySem.W.cellsFrom_some _ _ _ (.inl q)⟩) ?_
  rintro env rfl s1 x1
  refine ⟨(e0.mod.nolimit.keeps fun b o e => (e0.bs b o e).1).keeps x1.toInCall.keep, codeAny_func ?_⟩
  obtain ⟨t, ht, hq⟩ := body cdv A outer s H vs Q E hg (hr.deeper _) hsp
  have I := inv_start (CX := CX0) (E := E) S hr.hd e0 (len _ _ _ _ hsp) r x1
  exact wpAny_mono (ht.nox.run [] s1 _ H _ I hq) (fun fl s' hs => by
    have z := sp_end (E := E) rfl hs
    cases fl <;> exact z) fun e s' hs => hs
end

/-! ### the promise of the small language -/
def spS (C : Ct) (Φ : List D → G → Res D) (n : Nat) : Sp := fun vs H Q E => vs.length = n ∧ ∃ F ds g v g', Same F.h H ∧ F.sc = C.sc ∧ DkR C F g H ∧ RelL C.K F ds vs ∧ Φ ds g = .ok v g' ∧
  ∀ F' H' x, Fsub F F' → Same F'.h H' → (∀ a o, F'.h a = some o → F.h a = none → H a = none) → (∀ a o, H a = some o → F'.isDk a ∨ H' a = some o) →
    (∀ d l, F'.dk = some (d, l) → F.dk = some (d, l) ∨ (H d = none ∧ H l = none)) → DkR C F' g' H' → Rel C.K F' v x → Q x H'
section
variable {X : Cx} {C : Ct} {Ow : List Nat} {e a b c : Expr} {es : List Expr} {i ia ib ic : Ex} {is : Exs} {pos : Pos}
theorem Ea.nil : Ea X C Ow [] .nil := ⟨pa_con pa_nil fun σ H Q ⟨T, F, σe, g, v, g', r, m, q⟩ => by
  unfold evs at m
  cases m
  exact q F H _ (.refl F) r .nil⟩
theorem Ea.cons (ha : Es X C Ow e i) (hs : Ea X C Ow es is) (hst : starEach (e :: es) X.env = (false, eval e X.env) :: starEach es X.env) : Ea X C Ow (e :: es) (.cons i is) :=
  ⟨pa_con (pa_cons ha.run hs.run hst) fun σ H Q ⟨T, F, σe, g, v, g', r, m, q⟩ => by
    unfold evs at m
    obtain ⟨x, g1, m1, m⟩ := bind_eq_ok m
    obtain ⟨xs, g2, m2, m⟩ := bind_eq_ok m
    cases m
    exact ⟨T, F, σe, g, x, g1, r, m1, fun F1 H1 y s1 r1 q1 => ⟨T, F1, σe, g1, xs, _, r1, m2, fun F2 H2 ys s2 r2 q2 => q F2 H2 _ (s1.trans s2) r2 (.cons (q1.mono s2 _ _) q2)⟩⟩⟩
theorem Es.tup {k : Nat} (hs : Ea X C Ow es is) (hl : is.len ≤ 1000) : Es X C Ow (.Tuple es k pos) (.tup is) :=
  ⟨pe_con (pe_tup hs.run) fun σ H Q ⟨T, F, σe, g, v, g', r, m, q⟩ => by
    unfold ev at m
    obtain ⟨xs, g1, m1, m⟩ := bind_eq_ok m
    cases m
    refine ⟨T, F, σe, g, xs, _, r, m1, fun F1 H1 ys s1 r1 q1 => ⟨?_, fun p n => ?_⟩⟩
    · rw [← q1.length, evs_len _ _ _ _ _ _ m1, sizeLine_eq]; omega
    · exact q (F1.put p _) _ _ (s1.trans (Fsub.put (r1.fn n))) (r1.laid n) (rel_tup (r1.fn n) q1)⟩
theorem Ef.lst (hs : Ea X C Ow es is) (hl : is.len ≤ 1000) : Ef X C Ow (.List es pos) (.lst is) :=
  ⟨pe_con (pe_lst hs.run) fun σ H Q ⟨T, F, σe, g, v, g', r, m, q⟩ => by
    unfold ev at m
    obtain ⟨xs, g1, m1, m⟩ := bind_eq_ok m
    cases m
    refine ⟨T, F, σe, g, xs, _, r, m1, fun F1 H1 ys s1 r1 q1 => ⟨?_, fun p n => ?_⟩⟩
    · rw [← q1.length, evs_len _ _ _ _ _ _ m1, sizeLine_eq]; omega
    · exact q F1 _ _ s1 (r1.grown n) (new_of r1 n ⟨_, upd_same, q1⟩)⟩

/-! ### calls -/
variable {CX : CXT} {E : XK} {k n : Nat} {f : Addr} {fd : FuncData} {ps : List Str} {x : Str} {p : Pos} {fi : Nat}
theorem R.call {T : Hp} {F : Fz} {σe : Sl} {g : G} {σ : L2.St} {H : Hp} {vs : List V} {ds : List D} {v : D} {g' : G} {Q : VK} {E : XK} (r : R C Ow T F σe g σ H) (h : RelL C.K F ds vs) (hn : vs.length = n) (hf : C.Φ fi ds g = .ok v g')
    (q : ∀ F' H' x, Fsub F F' → R C Ow T F' σe g' σ H' → Rel C.K F' v x → Q x H') : spS C (C.Φ fi) n vs H Q E :=
  ⟨hn, F, ds, g, v, g', r.sub, r.sc, r.dk, h, hf, fun F' H' x s1 s2 nw kp dn dk rx => q F' H' x s1 (r.step s1 s2 nw kp dn dk) rx⟩
theorem run_fnG {pins : List (Addr × Obj)} {σ : L2.St} {H : Hp} {s : Shared} {Q : VK} {us : List Value} {vs : List V} {sp : Sp} {args : Args} (F : FnG X.prog X.w X.K X.mg X.base CX k f fd ps sp) (hG : X.A.guards = some []) (hr : Room k X.A) (hx : Passes CX X E)
    (I : Inv X pins σ H s) (hb : BindsTo s fd args (ps.zip us)) (r : Vals vs us) (h : sp vs H Q E) : codeAny (model X.prog X.w) X.A (.call (.ref f) args) (fun r s' => match r with
      | .ok (.ret u) => EP X pins σ Q u s'
      | .ok _ => False
      | .error e => X.xe e s') s := by
  refine codeAny_mono (F.run X.A X.stack s H args us vs Q E hG hr I.env0 hb r h) fun r s' hq => ?_
  cases r with
  | error e => exact hx pins σ H s e s' I hq
  | ok fl =>
    cases fl with
    | ret u => exact I.after hq
    | next => exact False.elim hq
    | brk => exact False.elim hq
    | cont => exact False.elim hq
theorem Es.call (fi : Nat) (F : FnG X.prog X.w X.K X.mg X.base CX k f fd ps (spS C (C.Φ fi) ps.length)) (hG : X.A.guards = some []) (hr : Room k X.A) (hg : Gl X x) (hm : X.mg x = some (.ref f)) (hk : PySem.W.keepIn X.K (.ref f) = true) (hb : Binds X.K fd ps []) (hx : Passes CX X E)
    (ha : Ea X C Ow (e :: es) is) (hdb : (x == ("__debug__" : Str)) = false) (he : starEach (e :: es) X.env = (false, eval e X.env) :: starEach es X.env) (hpl : (backTo pos (starEach es X.env)).any (·.1) = false) (hl : is.len = ps.length) :
    Es X C Ow (.Call (.Name x p) (e :: es) [] pos) (.call fi is) := by
  refine ⟨⟨fun pins s σ H Q I h => ?_⟩⟩
  refine wpAny_Call_Name_kw (ld_glob I hg hm ?_ hdb)
  obtain ⟨T, F0, σe, g, v, g', r, m, q⟩ := h
  unfold ev at m
  obtain ⟨ds, g1, m1, m⟩ := bind_eq_ok m
  refine PySem.W.callWith_K (h₀ := X.base) I.ok.mod.kin hk (thn (ha.run.run pos pins s σ H (fun vs H' => vs.length = ps.length ∧ spS C (C.Φ fi) ps.length vs H' Q E) I ⟨T, F0, σe, g, ds, g1, r, m1, fun F1 H1 xs s1 r1 q1 => ?_⟩) fun us s1 ⟨vs, H1, I1, rv, hn, hsp⟩ => ⟨I1.kIn, ?_⟩) he hpl
  · have hn : xs.length = ps.length := by rw [← q1.length, evs_len _ _ _ _ _ _ m1, hl]
    exact ⟨hn, r1.call q1 hn m fun F' H' x s2 r2 q2 => q F' H' x (s1.trans s2) r2 q2⟩
  · have hl : us.length = ps.length := by rw [← rv.length]; exact hn
    have bt := hb s1 us I1.kIn (by rw [List.append_nil]; exact hl)
    rw [List.append_nil] at bt
    refine wpAny_call (codeAny_mono (run_fnG F hG hr hx I1 bt rv hsp) fun r s' hq => ?_)
    cases r with
    | error e => exact hq
    | ok fl =>
      cases fl with
      | ret u => exact hq
      | next => exact False.elim hq
      | brk => exact False.elim hq
      | cont => exact False.elim hq

/-! ### calls with keywords -/
structure KB (K : PySem.W.Frag) (fd : FuncData) (ps ks : List Str) (n : Nat) (perm : List Nat) : Prop where
  to : ∀ (s : Shared) (us ws : List Value), K.In s.heap → us.length = n → ws.length = ks.length → BindsTo s fd ⟨us, ks.zip ws⟩ (ps.zip (pm perm (us ++ ws)))
theorem RelL.pm {K : PySem.W.Frag} {F : Fz} {ds : List D} {vs : List V} (h : RelL K F ds vs) : ∀ perm : List Nat, RelL K F (pm perm ds) (pm perm vs)
  | [] => .nil
  | j :: r => by
    have ih := h.pm r
    unfold Pv.pm at ih ⊢
    rw [List.filterMap_cons, List.filterMap_cons]
    cases e : ds[j]? with
    | none =>
      have e2 : vs[j]? = none := by
        rw [List.getElem?_eq_none_iff] at e ⊢
        rw [← h.length]; exact e
      rw [e2]; exact ih
    | some d =>
      obtain ⟨v, e2, rv⟩ := h.get e
      rw [e2]; exact .cons rv ih
theorem Vals.pm {vs : List V} {us : List Value} (h : Vals vs us) : ∀ perm : List Nat, Vals (Pv.pm perm vs) (Pv.pm perm us)
  | [] => .nil
  | j :: r => by
    have ih := Vals.pm h r
    unfold Pv.pm at ih ⊢
    rw [List.filterMap_cons, List.filterMap_cons]
    cases e : vs[j]? with
    | none =>
      rw [Vals.none_of h e]; exact ih
    | some d =>
      obtain ⟨v, e2, rv⟩ := Vals.get h e
      rw [e2]; exact .cons rv ih
/-- keyword arguments -/
structure Ek (X : Cx) (C : Ct) (Ow : List Nat) (kws : List Keyword) (is : Exs) : Prop where
  run : PK X kws (tA C Ow (evs C.Φ is))
theorem Ek.nil : Ek X C Ow [] .nil := ⟨⟨fun pos pins s σ H Q I h => pk_nil.run pos pins s σ H Q I (by
  obtain ⟨T, F, σe, g, v, g', r, m, q⟩ := h
  unfold evs at m
  cases m
  exact q F H _ (.refl F) r .nil)⟩⟩
theorem Ek.cons {nm : Option Str} {kpos : Pos} {kws : List Keyword} (ha : Es X C Ow e i) (hs : Ek X C Ow kws is) : Ek X C Ow (⟨nm, e, kpos⟩ :: kws) (.cons i is) :=
  ⟨⟨fun pos pins s σ H Q I h => (pk_cons ha.run hs.run).run pos pins s σ H Q I (by
    obtain ⟨T, F, σe, g, v, g', r, m, q⟩ := h
    unfold evs at m
    obtain ⟨x, g1, m1, m⟩ := bind_eq_ok m
    obtain ⟨xs, g2, m2, m⟩ := bind_eq_ok m
    cases m
    exact ⟨T, F, σe, g, x, g1, r, m1, fun F1 H1 y s1 r1 q1 => ⟨T, F1, σe, g1, xs, _, r1, m2, fun F2 H2 ys s2 r2 q2 => q F2 H2 _ (s1.trans s2) r2 (.cons (q1.mono s2 _ _) q2)⟩⟩)⟩⟩
def Exs.app : Exs → Exs → Exs
  | .nil, bs => bs
  | .cons a as, bs => .cons a (as.app bs)
theorem evs_app (Φ : Fns) : ∀ (as bs : Exs) (σ : Sl) (g g' : G) (vs : List D), evs Φ (as.app bs) σ g = .ok vs g' → ∃ xs ys g1, vs = xs ++ ys ∧ evs Φ as σ g = .ok xs g1 ∧ evs Φ bs σ g1 = .ok ys g'
  | .nil, bs, σ, g, g', vs, h => ⟨[], vs, g, rfl, by unfold evs; rfl, h⟩
  | .cons a as, bs, σ, g, g', vs, h => by
    unfold Exs.app evs at h
    obtain ⟨x, g1, h1, h⟩ := bind_eq_ok h
    obtain ⟨xs, g2, h2, h⟩ := bind_eq_ok h
    cases h
    obtain ⟨us, ws, g3, e, q1, q2⟩ := evs_app Φ as bs _ _ _ _ h2
    refine ⟨x :: us, ws, g3, by rw [e]; rfl, ?_, q2⟩
    unfold evs
    rw [h1, bind_ok, q1, bind_ok]
theorem Es.callK {ks : List Str} {kws : List Keyword} {perm : List Nat} {iks : Exs} (fi : Nat) (F : FnG X.prog X.w X.K X.mg X.base CX k f fd ps (spS C (C.Φ fi) ps.length)) (hG : X.A.guards = some []) (hr : Room k X.A) (hg : Gl X x) (hm : X.mg x = some (.ref f)) (hk : PySem.W.keepIn X.K (.ref f) = true) (hb : KB X.K fd ps ks n perm) (hx : Passes CX X E)
    (ha : Ea X C Ow (e :: es) is) (hkw : Ek X C Ow kws iks) (hall : (backToKw pos (keywordEach kws X.env)).all (·.1.isSome) = true) (hks : (backToKw pos (keywordEach kws X.env)).filterMap (·.1) = ks)
    (hdb : (x == ("__debug__" : Str)) = false) (he : starEach (e :: es) X.env = (false, eval e X.env) :: starEach es X.env)
    (hpl : ((backTo pos (starEach (e :: es) X.env)).any (·.1) || (backToKw pos (keywordEach kws X.env)).any (·.1.isNone)) = false) (h1 : is.len = n) (h2 : iks.len = ks.length) (h3 : ∀ {α : Type} (l : List α), l.length = n + ks.length → (pm perm l).length = ps.length) :
    Es X C Ow (.Call (.Name x p) (e :: es) kws pos) (.callK fi (is.app iks) perm) := by
  refine ⟨⟨fun pins s σ H Q I h => ?_⟩⟩
  refine wpAny_Call_Name_kw (ld_glob I hg hm ?_ hdb)
  obtain ⟨T, F0, σe, g, v, g', r, m, q⟩ := h
  unfold ev at m
  obtain ⟨ds, g1, m1, m⟩ := bind_eq_ok m
  obtain ⟨as, bs, g2, e0, ma, mb⟩ := evs_app _ _ _ _ _ _ _ m1
  subst e0
  refine PySem.W.callWith_KW (h₀ := X.base) I.ok.mod.kin hk hall (thn (ha.run.run pos pins s σ H (fun vs H' => vs.length = n ∧ tA C Ow (evs C.Φ iks) σ H' fun zs H2 => zs.length = ks.length ∧ spS C (C.Φ fi) ps.length (Pv.pm perm (vs ++ zs)) H2 Q E) I ⟨T, F0, σe, g, as, g2, r, ma, fun F1 H1 xs s1 r1 q1 =>
      ⟨by rw [← q1.length, evs_len _ _ _ _ _ _ ma, h1], T, F1, σe, g2, bs, g1, r1, mb, fun F2 H2 ys s2 r2 q2 => ?_⟩⟩) fun us s1 ⟨vs, H1, I1, rv, hn, hsp⟩ => ?_) hpl he
  · have e1 : ys.length = ks.length := by rw [← q2.length, evs_len _ _ _ _ _ _ mb, h2]
    have e2 : xs.length = n := by rw [← q1.length, evs_len _ _ _ _ _ _ ma, h1]
    refine ⟨e1, r2.call (((q1.mono s2 _ _).append q2).pm perm) (h3 _ (by rw [List.length_append, e1, e2])) m fun F' H' x s3 r3 q3 => q F' H' x (s1.trans (s2.trans s3)) r3 q3⟩
  · refine thn (hkw.run.run pos pins s1 σ H1 _ I1 hsp) fun ws s2 ⟨zs, H2, I2, rz, hz, hsp⟩ => ⟨I2.kIn, ?_⟩
    rw [hks]
    have bt := hb.to s2 us ws I2.kIn (by rw [← rv.length]; exact hn) (by rw [← rz.length]; exact hz)
    refine wpAny_call (codeAny_mono (run_fnG F hG hr hx I2 bt (Vals.pm (rv.append rz) perm) hsp) fun r s' hq => ?_)
    cases r with
    | error e => exact hq
    | ok fl =>
      cases fl with
      | ret u => exact hq
      | next => exact False.elim hq
      | brk => exact False.elim hq
      | cont => exact False.elim hq
theorem Es.callK0 {ks : List Str} {kws : List Keyword} {perm : List Nat} {iks : Exs} (fi : Nat) (F : FnG X.prog X.w X.K X.mg X.base CX k f fd ps (spS C (C.Φ fi) ps.length)) (hG : X.A.guards = some []) (hr : Room k X.A) (hg : Gl X x) (hm : X.mg x = some (.ref f)) (hk : PySem.W.keepIn X.K (.ref f) = true) (hb : KB X.K fd ps ks 0 perm) (hx : Passes CX X E)
    (hkw : Ek X C Ow kws iks) (hall : (backToKw pos (keywordEach kws X.env)).all (·.1.isSome) = true) (hks : (backToKw pos (keywordEach kws X.env)).filterMap (·.1) = ks)
    (hdb : (x == ("__debug__" : Str)) = false)
    (hpl : ((backTo pos (starEach [] X.env)).any (·.1) || (backToKw pos (keywordEach kws X.env)).any (·.1.isNone)) = false) (h2 : iks.len = ks.length) (h3 : ∀ {α : Type} (l : List α), l.length = ks.length → (pm perm l).length = ps.length) :
    Es X C Ow (.Call (.Name x p) [] kws pos) (.callK fi iks perm) := by
  refine ⟨⟨fun pins s σ H Q I h => ?_⟩⟩
  refine wpAny_Call_Name_kw (ld_glob I hg hm ?_ hdb)
  obtain ⟨T, F0, σe, g, v, g', r, m, q⟩ := h
  unfold ev at m
  obtain ⟨ds, g1, m1, m⟩ := bind_eq_ok m
  refine PySem.W.callWith_KW0 (h₀ := X.base) I.ok.mod.kin hk hall (thn (hkw.run.run pos pins s σ H (fun zs H2 => zs.length = ks.length ∧ spS C (C.Φ fi) ps.length (Pv.pm perm zs) H2 Q E) I ⟨T, F0, σe, g, ds, g1, r, m1, fun F1 H1 xs s1 r1 q1 => ?_⟩) fun ws s2 ⟨zs, H2, I2, rz, hz, hsp⟩ => ⟨I2.kIn, ?_⟩) hpl
  · have e1 : xs.length = ks.length := by rw [← q1.length, evs_len _ _ _ _ _ _ m1, h2]
    exact ⟨e1, r1.call (q1.pm perm) (h3 _ e1) m fun F' H' x s3 r3 q3 => q F' H' x (s1.trans s3) r3 q3⟩
  · rw [hks]
    have bt := hb.to s2 [] ws I2.kIn rfl (by rw [← rz.length]; exact hz)
    refine wpAny_call (codeAny_mono (run_fnG F hG hr hx I2 bt (Vals.pm rz perm) hsp) fun r s' hq => ?_)
    cases r with
    | error e => exact hq
    | ok fl =>
      cases fl with
      | ret u => exact hq
      | next => exact False.elim hq
      | brk => exact False.elim hq
      | cont => exact False.elim hq
end
end Pv
end

section
/-! PvF: targets, what is walked, comprehensions. -/
set_option autoImplicit false
namespace Pv
open PySem PySem.Spec PyProof.Rows L2

section
variable {C : Ct} {Ow : List Nat} {T : Hp} {F F' : Fz} {σe σe' : Sl} {g g' : G} {σ : L2.St} {H H' : Hp} {v : D} {x : V}
/-- a name is given a frozen value -/
theorem R.setS {i : Nat} (r : R C Ow T F σe g σ H) (hi : i ∉ Ow) (h : Rel C.K F v x) : R C Ow T F (σe.set i (some v)) g (σ.set i (some x)) H := by
  refine ⟨r.sub, r.sc, r.grow, r.new, r.keep, r.dnew, by rw [List.length_set, List.length_set]; exact r.len, fun j w e n => ?_, fun j w e n => ?_, fun j k a hj hk h1 h2 q1 q2 => ?_, r.dk, fun a o e => ?_⟩
  · by_cases hj : j = i
    · subst hj
      have hl : j < σe.length := by
        have := (List.getElem?_eq_some_iff.mp e).1
        rwa [List.length_set] at this
      rw [List.getElem?_set_self hl] at e
      cases e
      exact ⟨x, by rw [List.getElem?_set_self (r.len ▸ hl)], h⟩
    · rw [List.getElem?_set_ne (Ne.symm hj)] at e
      obtain ⟨y, e1, e2⟩ := r.fz j w e n
      exact ⟨y, by rw [List.getElem?_set_ne (Ne.symm hj)]; exact e1, e2⟩
  · have hj : j ≠ i := fun z => hi (z ▸ n)
    rw [List.getElem?_set_ne (Ne.symm hj)] at e
    obtain ⟨a, e1, e2⟩ := r.ow j w e n
    exact ⟨a, by rw [List.getElem?_set_ne (Ne.symm hj)]; exact e1, e2⟩
  · have hj' : j ≠ i := fun z => hi (z ▸ hj)
    have hk' : k ≠ i := fun z => hi (z ▸ hk)
    rw [List.getElem?_set_ne (Ne.symm hj')] at h1 q1
    rw [List.getElem?_set_ne (Ne.symm hk')] at h2 q2
    exact r.inj j k a hj hk h1 h2 q1 q2
  · obtain ⟨e1, e2, e3, e4, e5⟩ := r.hold a o e
    refine ⟨e1, e2, e3, e4, fun j w hj q => ?_⟩
    have hj' : j ≠ i := fun z => hi (z ▸ hj)
    rw [List.getElem?_set_ne (Ne.symm hj')] at q ⊢
    exact e5 j w hj q
/-- a name is forgotten -/
theorem R.wipe1 {i : Nat} (r : R C Ow T F σe g σ H) (hi : i ∉ Ow) : R C Ow T F (σe.set i none) g (σ.set i none) H := by
  refine ⟨r.sub, r.sc, r.grow, r.new, r.keep, r.dnew, by rw [List.length_set, List.length_set]; exact r.len, fun j w e n => ?_, fun j w e n => ?_, fun j k a hj hk h1 h2 q1 q2 => ?_, r.dk, fun a o e => ?_⟩
  · by_cases hj : j = i
    · subst hj
      rw [List.getElem?_set] at e
      simp at e
    · rw [List.getElem?_set_ne (Ne.symm hj)] at e
      obtain ⟨y, e1, e2⟩ := r.fz j w e n
      exact ⟨y, by rw [List.getElem?_set_ne (Ne.symm hj)]; exact e1, e2⟩
  · have hj : j ≠ i := fun z => hi (z ▸ n)
    rw [List.getElem?_set_ne (Ne.symm hj)] at e
    obtain ⟨a, e1, e2⟩ := r.ow j w e n
    exact ⟨a, by rw [List.getElem?_set_ne (Ne.symm hj)]; exact e1, e2⟩
  · have hj' : j ≠ i := fun z => hi (z ▸ hj)
    have hk' : k ≠ i := fun z => hi (z ▸ hk)
    rw [List.getElem?_set_ne (Ne.symm hj')] at h1 q1
    rw [List.getElem?_set_ne (Ne.symm hk')] at h2 q2
    exact r.inj j k a hj hk h1 h2 q1 q2
  · obtain ⟨e1, e2, e3, e4, e5⟩ := r.hold a o e
    refine ⟨e1, e2, e3, e4, fun j w hj q => ?_⟩
    have hj' : j ≠ i := fun z => hi (z ▸ hj)
    rw [List.getElem?_set_ne (Ne.symm hj')] at q ⊢
    exact e5 j w hj q
theorem R.wipe (r : R C Ow T F σe g σ H) : ∀ t : List Nat, (∀ i ∈ t, i ∉ Ow) → R C Ow T F (wipeS σe t) g (L2.wipe σ t) H
  | [], _ => r
  | i :: t, h => (r.wipe t fun j hj => h j (List.mem_cons_of_mem _ hj)).wipe1 (h i List.mem_cons_self)
theorem wipe_set {i : Nat} {o : Option V} : ∀ {t : List Nat}, i ∈ t → L2.wipe (σ.set i o) t = L2.wipe σ t
  | j :: t, h => by
    show (L2.wipe (σ.set i o) t).set j none = (L2.wipe σ t).set j none
    by_cases hi : i ∈ t
    · rw [wipe_set hi]
    · have e : i = j := (List.mem_cons.mp h).resolve_right hi
      subst e
      have q : ∀ (t : List Nat) (s : L2.St), i ∉ t → L2.wipe (s.set i o) t = (L2.wipe s t).set i o := by
        intro t
        induction t with
        | nil => intro s _; rfl
        | cons k t ih =>
          intro s hk
          have h1 : i ≠ k := fun z => hk (z ▸ List.mem_cons_self)
          have h2 : i ∉ t := fun z => hk (List.mem_cons_of_mem _ z)
          show (L2.wipe (s.set i o) t).set k none = ((L2.wipe s t).set k none).set i o
          rw [ih s h2, List.set_comm _ _ h1]
      rw [q t σ hi, List.set_set]
theorem wipe_wipe : ∀ (t u : List Nat), (∀ i ∈ t, i ∈ u) → L2.wipe (L2.wipe σ t) u = L2.wipe σ u
  | [], u, _ => rfl
  | i :: t, u, h => by
    show L2.wipe ((L2.wipe σ t).set i none) u = _
    rw [wipe_set (h i List.mem_cons_self)]
    exact wipe_wipe t u fun j hj => h j (List.mem_cons_of_mem _ hj)
/-- the held thing is changed -/
theorem R.held {p : Addr} {o o' : HO} (r : R C Ow T F σe g σ H) (h : T p = some o) : R C Ow (upd T p o') F σe g σ (upd H p o') := by
  obtain ⟨e1, e2, e3, e4, e5⟩ := r.hold p o h
  refine ⟨fun a u q => ?_, r.sc, r.grow, r.new, fun a u q => ?_, r.dnew, r.len, r.fz, fun i w q n => ?_, r.inj, ?_, fun a u q => ?_⟩
  · have ne : a ≠ p := fun z => by rw [z, e3] at q; cases q
    rw [upd_ne ne]; exact r.sub a u q
  · have ne : a ≠ p := fun z => by rw [z, e2] at q; cases q
    rw [upd_ne ne]; exact r.keep a u q
  · obtain ⟨a, q1, q2, q3, q4, q5⟩ := r.ow i w q n
    have ne : a ≠ p := fun z => e5 i w n q (z ▸ q1)
    exact ⟨a, q1, q2.move (.refl F) fun u z => by rw [upd_ne ne]; exact z, q3, q4, q5⟩
  · have dk := r.dk
    cases g with
    | none => exact dk
    | some st =>
      obtain ⟨d, l, z, ne, f1, f2, hl, hd⟩ := dk
      have n1 : d ≠ p := fun y => e4 ⟨d, l, z, .inl y.symm⟩
      have n2 : l ≠ p := fun y => e4 ⟨d, l, z, .inr y.symm⟩
      exact ⟨d, l, z, ne, f1, f2, (upd_ne n2).trans hl, (upd_ne n1).trans hd⟩
  · by_cases ne : a = p
    · subst ne
      rw [upd_same] at q ⊢
      exact ⟨q, e2, e3, e4, e5⟩
    · rw [upd_ne ne] at q
      rw [upd_ne ne]
      exact r.hold a u q
/-- a new thing is held -/
theorem R.take {p : Addr} {o : HO} (r : R C Ow T F σe g σ H) (n : H p = none) : R C Ow (upd T p o) F σe g σ (upd H p o) := by
  have r1 := r.grown (o := o) n
  refine ⟨r1.sub, r1.sc, r1.grow, r1.new, r1.keep, r1.dnew, r1.len, r1.fz, r1.ow, r1.inj, r1.dk, fun a u q => ?_⟩
  by_cases ne : a = p
  · subst ne
    rw [upd_same] at q ⊢
    refine ⟨q, r.h0 n, r.fn n, r.ndk n, fun i w hi e z => ?_⟩
    obtain ⟨b, q1, q2, _⟩ := r.ow i w e hi
    rw [q1] at z
    have z : V.ref b = V.ref a := Option.some.inj (Option.some.inj z)
    cases z
    obtain ⟨o', eo⟩ := q2.there
    rw [n] at eo; cases eo
  · rw [upd_ne ne] at q
    exact r1.hold a u q
/-- .. and let go -/
theorem R.letgo {T' : Hp} (r : R C Ow T' F σe g σ H) (h : ∀ a o, T a = some o → T' a = some o) : R C Ow T F σe g σ H :=
  ⟨r.sub, r.sc, r.grow, r.new, r.keep, r.dnew, r.len, r.fz, r.ow, r.inj, r.dk, fun a o e => r.hold a o (h a o e)⟩
end

/-! ### targets -/
def gS (C : Ct) (Ow : List Nat) (t : List Nat) : TG := fun x σ H Q => ∃ T F σe g v σe', R C Ow T F σe g σ H ∧ Rel C.K F v x ∧ setT t v σe = some σe' ∧ ∀ σ', R C Ow T F σe' g σ' H → L2.wipe σ' t = L2.wipe σ t → Q σ' H
structure Eg (X : Cx) (C : Ct) (Ow : List Nat) (tg : Expr) (t : List Nat) : Prop where
  run : PG X tg (gS C Ow t)
def gSs (C : Ct) (Ow : List Nat) (t : List Nat) : TGs := fun xs σ H Q => ∃ T F σe g vs σe', R C Ow T F σe g σ H ∧ RelL C.K F vs xs ∧ setMany t vs σe = some σe' ∧ ∀ σ', R C Ow T F σe' g σ' H → (∀ u, (∀ i ∈ t, i ∈ u) → L2.wipe σ' u = L2.wipe σ u) → Q σ' H
structure Egs (X : Cx) (C : Ct) (Ow : List Nat) (ts : List Expr) (t : List Nat) : Prop where
  run : PGs X ts (gSs C Ow t)
theorem pg_con {X : Cx} {e : Expr} {t t' : TG} (h : PG X e t) (c : ∀ x σ H Q, t' x σ H Q → t x σ H Q) : PG X e t' := ⟨fun pins s σ H v u Q I r hw => h.run pins s σ H v u Q I r (c v σ H Q hw)⟩
theorem pgs_con {X : Cx} {e : List Expr} {t t' : TGs} (h : PGs X e t) (c : ∀ x σ H Q, t' x σ H Q → t x σ H Q) : PGs X e t' := ⟨fun pins s σ H v u Q I r hw => h.run pins s σ H v u Q I r (c v σ H Q hw)⟩
section
variable {X : Cx} {C : Ct} {Ow : List Nat} {pos : Pos}
theorem Eg.name {x : Str} (i : Nat) (hi : i ∉ Ow) (hN : X.N.Nodup) (hx : X.N[i]? = some x) (hl : Loc X.env.scope x) (hf : X.fn x = true ∨ X.env.scope.names.lookup x = some .local) : Eg X C Ow (.Name x pos) [i] :=
  ⟨pg_con (pg_name hN hx hl hf) fun x σ H Q ⟨T, F, σe, g, v, σe', r, h, e, q⟩ => by
    cases e
    exact q _ (r.setS hi h) (wipe_set List.mem_cons_self)⟩
theorem Egs.nil : Egs X C Ow [] [] := ⟨pgs_con pgs_nil fun xs σ H Q ⟨T, F, σe, g, vs, σe', r, h, e, q⟩ => by
  cases vs with
  | nil => cases e; rw [h.inv0]; exact ⟨rfl, q σ r fun _ _ => rfl⟩
  | cons _ _ => cases e⟩
theorem Egs.cons {e : Expr} {es : List Expr} {i : Nat} {t : List Nat} (h1 : Eg X C Ow e [i]) (h2 : Egs X C Ow es t) (hs : (assignEach (e :: es) X.env).map (·.2) = assign e X.env :: (assignEach es X.env).map (·.2)) : Egs X C Ow (e :: es) (i :: t) :=
  ⟨pgs_con (pgs_cons h1.run h2.run hs) fun xs σ H Q ⟨T, F, σe, g, vs, σe', r, h, em, q⟩ => by
    cases vs with
    | nil => cases em
    | cons v vs =>
      obtain ⟨y, yr, rfl, e1, e2⟩ := h.inv
      exact ⟨y, yr, rfl, T, F, σe, g, v, _, r, e1, rfl, fun σ1 r1 w1 => ⟨T, F, _, g, vs, σe', r1, e2, em, fun σ2 r2 w2 => q σ2 r2 fun u hu => by
        rw [w2 u fun j hj => hu j (List.mem_cons_of_mem _ hj)]
        have w : L2.wipe (L2.wipe σ1 [i]) u = L2.wipe (L2.wipe σ [i]) u := by rw [w1]
        rw [wipe_wipe _ _ (fun j hj => hu j (by rw [List.mem_singleton.mp hj]; exact List.mem_cons_self)), wipe_wipe _ _ (fun j hj => hu j (by rw [List.mem_singleton.mp hj]; exact List.mem_cons_self))] at w
        exact w⟩⟩⟩
/-- a tuple or a list, unpacked -/
theorem pg_seq {es : List Expr} {k : Nat} {t : TGs} {n : Nat} (hc : X.calm = true) (h : PGs X es t)
    (hn : (assignEach es X.env).length = n) (hst : (assignEach es X.env).findIdx? (·.1) = none) : PG X (.Tuple es k pos) (fun v σ H Q => gTup X.K n t v σ H Q ∨ gUnl X.K n t v σ H Q) :=
  ⟨fun pins s σ H v u Q I r hw => hw.elim ((pg_tup hc h hn hst).run pins s σ H v u Q I r) ((pg_unl hc h hn hst).run pins s σ H v u Q I r)⟩
theorem Eg.tup {es : List Expr} {k : Nat} {t : List Nat} (hK : X.K = C.K) (hc : X.calm = true) (h : Egs X C Ow es t) (hl : 2 ≤ t.length) (hn : (assignEach es X.env).length = t.length) (hst : (assignEach es X.env).findIdx? (·.1) = none) : Eg X C Ow (.Tuple es k pos) t :=
  ⟨pg_con (pg_seq (n := t.length) hc h.run hn hst) fun x σ H Q ⟨T, F, σe, g, v, σe', r, h, em, q⟩ => by
    have len : ∀ (t : List Nat) (vs : List D) (σe σe' : Sl), setMany t vs σe = some σe' → t.length = vs.length := by
      intro t
      induction t with
      | nil => intro vs σe σe' e; cases vs with
        | nil => rfl
        | cons _ _ => cases e
      | cons i t ih => intro vs σe σe' e; cases vs with
        | nil => cases e
        | cons v vs => rw [List.length_cons, List.length_cons, ih vs _ _ e]
    have two : (∃ vs, v = .tuple vs ∧ setMany t vs σe = some σe') ∨ ∃ vs, v = .list vs ∧ setMany t vs σe = some σe' := by
      unfold setT at em
      split at em
      · simp at hl
      · exact .inl ⟨_, rfl, em⟩
      · exact .inr ⟨_, rfl, em⟩
      · cases em
    clear em
    rcases two with ⟨vs, rfl, em2⟩ | ⟨vs, rfl, em2⟩
    · left
      unfold Rel at h
      obtain ⟨a, us, rfl, hq, rl⟩ := h
      refine ⟨a, us, rfl, ?_, ?_, T, F, σe, g, vs, σe', r, rl, em2, fun σ' r' w => q σ' r' (w t fun _ h => h)⟩
      · rw [hK]; exact sqT_mono r.sub hq
      · rw [← rl.length]; exact (len t vs σe σe' em2).symm
    · right
      unfold Rel at h
      obtain ⟨a, us, rfl, hq, rl⟩ := h
      refine ⟨a, us, rfl, .of (r.sub _ _ hq), ?_, T, F, σe, g, vs, σe', r, rl, em2, fun σ' r' w => q σ' r' (w t fun _ h => h)⟩
      rw [← rl.length]; exact (len t vs σe σe' em2).symm⟩
end

/-! ### names in groups -/
section
variable {X : Cx} {C : Ct} {Ow : List Nat} {pos : Pos}
def gSg (C : Ct) (Ow : List Nat) (ts : List (List Nat)) : TGs := fun xs σ H Q => ∃ T F σe g vs σe', R C Ow T F σe g σ H ∧ RelL C.K F vs xs ∧ setGs ts vs σe = some σe' ∧ ∀ σ', R C Ow T F σe' g σ' H → Q σ' H
structure Egg (X : Cx) (C : Ct) (Ow : List Nat) (es : List Expr) (ts : List (List Nat)) : Prop where
  run : PGs X es (gSg C Ow ts)
def gG (C : Ct) (Ow : List Nat) (ts : List (List Nat)) : TG := fun x σ H Q => ∃ T F σe g v σe', R C Ow T F σe g σ H ∧ Rel C.K F v x ∧ setG ts v σe = some σe' ∧ ∀ σ', R C Ow T F σe' g σ' H → Q σ' H
structure EgG (X : Cx) (C : Ct) (Ow : List Nat) (tg : Expr) (ts : List (List Nat)) : Prop where
  run : PG X tg (gG C Ow ts)
theorem Egg.nil : Egg X C Ow [] [] := ⟨pgs_con pgs_nil fun xs σ H Q ⟨T, F, σe, g, vs, σe', r, h, e, q⟩ => by
  cases vs with
  | nil => cases e; rw [h.inv0]; exact ⟨rfl, q σ r⟩
  | cons _ _ => cases e⟩
theorem Egg.cons {e : Expr} {es : List Expr} {t : List Nat} {ts : List (List Nat)} (h1 : Eg X C Ow e t) (h2 : Egg X C Ow es ts) (hs : (assignEach (e :: es) X.env).map (·.2) = assign e X.env :: (assignEach es X.env).map (·.2)) : Egg X C Ow (e :: es) (t :: ts) :=
  ⟨pgs_con (pgs_cons h1.run h2.run hs) fun xs σ H Q ⟨T, F, σe, g, vs, σe', r, h, em, q⟩ => by
    cases vs with
    | nil => cases em
    | cons v vs =>
      obtain ⟨y, yr, rfl, e1, e2⟩ := h.inv
      unfold setGs at em
      cases e3 : setT t v σe with
      | none => rw [e3] at em; cases em
      | some σ1 =>
        rw [e3] at em
        exact ⟨y, yr, rfl, T, F, σe, g, v, _, r, e1, e3, fun σ1' r1 w1 => ⟨T, F, _, g, vs, σe', r1, e2, em, fun σ2 r2 => q σ2 r2⟩⟩⟩
theorem EgG.tup {es : List Expr} {k : Nat} {ts : List (List Nat)} (hK : X.K = C.K) (hc : X.calm = true) (h : Egg X C Ow es ts) (hn : (assignEach es X.env).length = ts.length) (hst : (assignEach es X.env).findIdx? (·.1) = none) : EgG X C Ow (.Tuple es k pos) ts :=
  ⟨pg_con (pg_tup (n := ts.length) hc h.run hn hst) fun x σ H Q ⟨T, F, σe, g, v, σe', r, h, em, q⟩ => by
    have len : ∀ (ts : List (List Nat)) (vs : List D) (σe σe' : Sl), setGs ts vs σe = some σe' → ts.length = vs.length := by
      intro ts
      induction ts with
      | nil => intro vs σe σe' e; cases vs with
        | nil => rfl
        | cons _ _ => cases e
      | cons i t ih => intro vs σe σe' e; cases vs with
        | nil => cases e
        | cons v vs =>
          unfold setGs at e
          cases e3 : setT i v σe with
          | none => rw [e3] at e; cases e
          | some σ1 => rw [e3] at e; rw [List.length_cons, List.length_cons, ih vs _ _ e]
    have two : ∃ vs, v = .tuple vs ∧ setGs ts vs σe = some σe' := by
      unfold setG at em
      split at em
      · exact ⟨_, rfl, em⟩
      · cases em
    obtain ⟨vs, rfl, em2⟩ := two
    clear em
    unfold Rel at h
    obtain ⟨a, us, rfl, hq, rl⟩ := h
    refine ⟨a, us, rfl, ?_, ?_, T, F, σe, g, vs, σe', r, rl, em2, fun σ' r' => q σ' r'⟩
    · rw [hK]; exact sqT_mono r.sub hq
    · rw [← rl.length]; exact (len ts vs σe σe' em2).symm⟩
end
/-! ### what is walked -/
structure Walk (C : Ct) (F : Fz) (xs : List D) (J : It) : Prop where
  go : ∀ i F1 H, i < xs.length → Fsub F F1 → Same F1.h H → J.go i H
  stop : ∀ F1 H, Fsub F F1 → Same F1.h H → J.stop xs.length H
  yld : ∀ i d F1 H x H', xs[i]? = some d → Fsub F F1 → Same F1.h H → J.yld i H x H' → (H' = H ∧ Rel C.K F1 d x) ∨ ∃ p o, x = .ref p ∧ H p = none ∧ H' = upd H p o ∧ (F1.h p = none → Rel C.K (F1.put p o) d x)
theorem Walk.mono {C : Ct} {F F' : Fz} {xs : List D} {J : It} (w : Walk C F xs J) (s : Fsub F F') : Walk C F' xs J :=
  ⟨fun i F1 H h s1 => w.go i F1 H h (s.trans s1), fun F1 H s1 => w.stop F1 H (s.trans s1), fun i d F1 H x H' h s1 => w.yld i d F1 H x H' h (s.trans s1)⟩
abbrev Ms := Sl → G → Res (List D)
def tI (C : Ct) (Ow : List Nat) (m : Ms) : TI := fun σ H Rr => ∃ T F σe g xs g', R C Ow T F σe g σ H ∧ m σe g = .ok xs g' ∧ ∀ F' H' J, Fsub F F' → R C Ow T F' σe g' σ H' → Walk C F' xs J → Rr J H'
def itm (Φ : Fns) (k : Ik) (as : Exs) : Ms := fun σ g => (evs Φ as σ g).bind fun vs g => lift (itV k vs) g
structure Ei (X : Cx) (C : Ct) (Ow : List Nat) (tg iter : Expr) (k : Ik) (as : Exs) : Prop where
  run : PI X tg iter (tI C Ow (itm C.Φ k as))
theorem pi_con {X : Cx} {tg e : Expr} {t t' : TI} (h : PI X tg e t) (c : ∀ σ H Q, t' σ H Q → t σ H Q) : PI X tg e t' := ⟨fun pins s σ H Q I hw => h.run pins s σ H Q I (c σ H Q hw)⟩
theorem walk_list {C : Ct} {F : Fz} {xs : List D} {K : PySem.W.Frag} {a : Addr} {vs : List V} (hK : K = C.K) (h : F.h a = some (.lst vs)) (r : RelL C.K F xs vs) : Walk C F xs (Itl K a) := by
  refine ⟨fun i F1 H hi s sub => ?_, fun F1 H s sub => ?_, fun i d F1 H x H' hd s sub y => ?_⟩
  · obtain ⟨v, e, _⟩ := r.get (i := i) (d := xs[i]) (by simp [hi])
    exact ⟨vs, v, SqL.of (sub _ _ (s.h _ _ h)), e⟩
  · exact ⟨vs, SqL.of (sub _ _ (s.h _ _ h)), by rw [r.length]; exact Nat.le_refl _⟩
  · obtain ⟨e, y⟩ := y
    obtain ⟨v, e2, rv⟩ := r.get hd
    have z := y vs (SqL.of (sub _ _ (s.h _ _ h)))
    rw [e2] at z; cases z
    exact .inl ⟨e, rv.mono s _ _⟩
theorem walk_tup {C : Ct} {F : Fz} {xs : List D} {K : PySem.W.Frag} {a : Addr} {vs : List V} (hK : K = C.K) (h : SqT C.K F.h a vs) (r : RelL C.K F xs vs) : Walk C F xs (Itt K a) := by
  subst hK
  refine ⟨fun i F1 H hi s sub => ?_, fun F1 H s sub => ?_, fun i d F1 H x H' hd s sub y => ?_⟩
  · obtain ⟨v, e, _⟩ := r.get (i := i) (d := xs[i]) (by simp [hi])
    exact ⟨vs, v, sqT_mono sub (sqT_mono s.h h), e⟩
  · exact ⟨vs, sqT_mono sub (sqT_mono s.h h), by rw [r.length]; exact Nat.le_refl _⟩
  · obtain ⟨e, y⟩ := y
    obtain ⟨v, e2, rv⟩ := r.get hd
    have z := y vs (sqT_mono sub (sqT_mono s.h h))
    rw [e2] at z; cases z
    exact .inl ⟨e, rv.mono s _ _⟩
theorem walk_rng {C : Ct} {F : Fz} {lo : Int} {n : Nat} : Walk C F (rangeD lo n) (Itr lo n) := by
  have hl : (rangeD lo n).length = n := by unfold rangeD; rw [List.length_map, List.length_range]
  refine ⟨fun i F1 H hi s sub => ?_, fun F1 H s sub => ?_, fun i d F1 H x H' hd s sub y => ?_⟩
  · rw [hl] at hi; exact hi
  · rw [hl]; exact Nat.le_refl n
  · obtain ⟨e, y⟩ := y
    have hi : i < n := by
      have := (List.getElem?_eq_some_iff.mp hd).1
      rwa [hl] at this
    unfold rangeD at hd
    rw [List.getElem?_map, List.getElem?_range hi] at hd
    cases hd
    exact .inl ⟨e, by rw [y]; exact rel_int⟩
theorem walk_enum {C : Ct} {F : Fz} {xs : List D} {K : PySem.W.Frag} {a : Addr} {vs : List V} (h : F.h a = some (.lst vs)) (r : RelL C.K F xs vs) : Walk C F (xs.zipIdx.map fun p => .tuple [.int p.2, p.1]) (Ite K a) := by
  have hl : (xs.zipIdx.map fun p => (PyData.tuple [.int p.2, p.1] : D)).length = xs.length := by simp
  refine ⟨fun i F1 H hi s sub => ?_, fun F1 H s sub => ?_, fun i d F1 H x H' hd s sub y => ?_⟩
  · rw [hl] at hi
    obtain ⟨v, e, _⟩ := r.get (i := i) (d := xs[i]) (by simp [hi])
    exact ⟨vs, v, SqL.of (sub _ _ (s.h _ _ h)), e⟩
  · exact ⟨vs, SqL.of (sub _ _ (s.h _ _ h)), by rw [hl, r.length]; exact Nat.le_refl _⟩
  · obtain ⟨p, u, rfl, hn, e, y⟩ := y
    rw [List.getElem?_map, List.getElem?_zipIdx] at hd
    cases q : xs[i]? with
    | none => rw [q] at hd; cases hd
    | some d0 =>
      rw [q] at hd
      cases hd
      obtain ⟨v, e2, rv⟩ := r.get q
      have z := y vs (SqL.of (sub _ _ (s.h _ _ h)))
      rw [e2] at z; cases z
      refine .inr ⟨p, _, rfl, hn, e, fun hf => rel_tup hf (.cons ?_ (.cons (rv.mono s _ _) .nil))⟩
      simp only [Nat.zero_add]
      exact rel_int
theorem walk_zip {C : Ct} {F : Fz} {xs ys : List D} {K : PySem.W.Frag} {a b : Addr} {vs us : List V} (h : F.h a = some (.lst vs)) (r : RelL C.K F xs vs) (h2 : F.h b = some (.lst us)) (r2 : RelL C.K F ys us) : Walk C F ((xs.zip ys).map fun p => .tuple [p.1, p.2]) (Itz K a b) := by
  have hl : ((xs.zip ys).map fun p => (PyData.tuple [p.1, p.2] : D)).length = min xs.length ys.length := by simp
  refine ⟨fun i F1 H hi s sub => ?_, fun F1 H s sub => ?_, fun i d F1 H x H' hd s sub y => ?_⟩
  · rw [hl] at hi
    have i1 : i < xs.length := by omega
    have i2 : i < ys.length := by omega
    obtain ⟨v, e, _⟩ := r.get (i := i) (d := xs[i]) (by simp [i1])
    obtain ⟨u, e', _⟩ := r2.get (i := i) (d := ys[i]) (by simp [i2])
    exact ⟨vs, us, v, u, SqL.of (sub _ _ (s.h _ _ h)), SqL.of (sub _ _ (s.h _ _ h2)), e, e'⟩
  · refine ⟨vs, us, SqL.of (sub _ _ (s.h _ _ h)), SqL.of (sub _ _ (s.h _ _ h2)), ?_⟩
    rw [hl, ← r.length, ← r2.length]; omega
  · obtain ⟨p, u, u', rfl, hn, e, y, y'⟩ := y
    rw [List.getElem?_map] at hd
    cases q : (xs.zip ys)[i]? with
    | none => rw [q] at hd; cases hd
    | some d0 =>
      rw [q] at hd
      cases hd
      rw [List.getElem?_zip_eq_some] at q
      obtain ⟨v, e2, rv⟩ := r.get q.1
      obtain ⟨v', e2', rv'⟩ := r2.get q.2
      have z := y vs (SqL.of (sub _ _ (s.h _ _ h)))
      rw [e2] at z; cases z
      have z := y' us (SqL.of (sub _ _ (s.h _ _ h2)))
      rw [e2'] at z; cases z
      exact .inr ⟨p, _, rfl, hn, e, fun hf => rel_tup hf (.cons (rv.mono s _ _) (.cons (rv'.mono s _ _) .nil))⟩

/-! ### sources -/
section
variable {X : Cx} {C : Ct} {Ow : List Nat} {pos p : Pos} {tg e e2 : Expr} {i : Ex} {is : Exs}
/-- a list or a tuple -/
theorem pi_seq {tl : TE} (hl : PE X e tl) : PI X tg e (fun σ H Rr => tl σ H fun x H1 => (∃ a, x = .ref a ∧ (∃ xs, SqL X.K H1 a xs) ∧ Rr (Itl X.K a) H1) ∨ ∃ a, x = .ref a ∧ (∃ xs, SqT X.K H1 a xs) ∧ Rr (Itt X.K a) H1) := by
  refine ⟨fun pins s σ H R I h => ?_⟩
  refine thn (hl.run pins s σ H _ I h) fun v s1 ⟨x, H1, I1, r1, q1⟩ => ?_
  rcases q1 with ⟨a, e, ⟨xs, hq⟩, q⟩ | ⟨a, e, ⟨xs, hq⟩, q⟩
  · subst e
    cases r1
    obtain ⟨its, rv, p, hz⟩ := I1.list hq
    refine wpAny_pyIter_list p.isList ?_
    refine ⟨s1.heap.objs.size, [s1.heap.objs.size], _, _, H1, rfl, I1.kept (t' := s1.toks) fun b o e => Heap.get?_push_of_some _ e, turn_list a _, ⟨_, Heap.get?_push_size _ rfl, rfl, rfl⟩, fun b hb => ?_, q⟩
    have e : b = s1.heap.objs.size := by simpa using hb
    subst e
    exact I1.fpOk (Nat.le_refl _) (I1.hok.fresh (Nat.le_refl _))
  · subst e
    cases r1
    obtain ⟨its, rv, p, hz⟩ := I1.tuple hq
    refine wpAny_pyIter_tuple (show s1.heap.IsTuple a its.toArray from p) ?_
    refine ⟨s1.heap.objs.size, [s1.heap.objs.size], _, _, H1, rfl, I1.kept (t' := s1.toks) fun b o e => Heap.get?_push_of_some _ e, turn_tuple a _, ⟨_, Heap.get?_push_size _ rfl, rfl, rfl⟩, fun b hb => ?_, q⟩
    have e : b = s1.heap.objs.size := by simpa using hb
    subst e
    exact I1.fpOk (Nat.le_refl _) (I1.hok.fresh (Nat.le_refl _))
theorem itm1 {Φ : Fns} {k : Ik} {σe : Sl} {g g' : G} {xs : List D} (m : itm Φ k (.cons i .nil) σe g = .ok xs g') : ∃ v, ev Φ i σe g = .ok v g' ∧ itV k [v] = some xs := by
  unfold itm evs at m
  obtain ⟨vs, g1, m1, m⟩ := bind_eq_ok m
  obtain ⟨v, g2, m2, m1⟩ := bind_eq_ok m1
  obtain ⟨ws, g3, m3, m1⟩ := bind_eq_ok m1
  unfold evs at m3
  cases m3; cases m1
  obtain ⟨m4, e⟩ := lift_eq_ok m
  clear m
  subst e
  exact ⟨v, m2, m4⟩
theorem itm0 {Φ : Fns} {k : Ik} {σe : Sl} {g g' : G} {xs : List D} (m : itm Φ k is σe g = .ok xs g') : ∃ vs, evs Φ is σe g = .ok vs g' ∧ itV k vs = some xs := by
  unfold itm at m
  obtain ⟨vs, g1, m1, m2⟩ := bind_eq_ok m
  obtain ⟨m4, e⟩ := lift_eq_ok m2
  clear m m2
  subst e
  exact ⟨vs, m1, m4⟩
theorem itV_seq {v : D} {xs : List D} (h : itV .seq [v] = some xs) : v = .list xs ∨ v = .tuple xs := by
  cases v <;> simp [itV] at h
  · exact .inl (by rw [h])
  · exact .inr (by rw [h])
theorem itV_rng1 {vs xs : List D} (h : itV .rng1 vs = some xs) : ∃ j : Int, vs = [.int j] ∧ (-4611686018427387904 ≤ j ∧ j < 4611686018427387904) ∧ xs = rangeD 0 j.toNat := by
  rcases vs with _ | ⟨v, _ | ⟨w, r⟩⟩
  · simp [itV] at h
  · cases v <;> simp [itV] at h
    exact ⟨_, rfl, ⟨h.1.2, h.1.1⟩, h.2.symm⟩
  · simp [itV] at h
theorem itV_rng2 {vs xs : List D} (h : itV .rng2 vs = some xs) : ∃ i j : Int, vs = [.int i, .int j] ∧ (-4611686018427387904 ≤ i ∧ i < 4611686018427387904 ∧ -4611686018427387904 ≤ j ∧ j < 4611686018427387904) ∧ xs = rangeD i (j - i).toNat := by
  rcases vs with _ | ⟨v, _ | ⟨w, _ | ⟨u, r⟩⟩⟩
  · simp [itV] at h
  · simp [itV] at h
  · cases v <;> cases w <;> simp [itV] at h
    exact ⟨_, _, rfl, ⟨h.1.1.1.1, h.1.1.1.2, h.1.1.2, h.1.2⟩, h.2.symm⟩
  · simp [itV] at h
theorem itV_enum {vs xs : List D} (h : itV .enum vs = some xs) : ∃ ys, vs = [.list ys] ∧ xs = ys.zipIdx.map fun p => .tuple [.int p.2, p.1] := by
  rcases vs with _ | ⟨v, _ | ⟨w, r⟩⟩
  · simp [itV] at h
  · cases v <;> simp [itV] at h
    exact ⟨_, rfl, h.symm⟩
  · simp [itV] at h
theorem itV_zip {vs xs : List D} (h : itV .zip vs = some xs) : ∃ ys zs, vs = [.list ys, .list zs] ∧ xs = (ys.zip zs).map fun p => .tuple [p.1, p.2] := by
  rcases vs with _ | ⟨v, _ | ⟨w, _ | ⟨u, r⟩⟩⟩
  · simp [itV] at h
  · simp [itV] at h
  · cases v <;> cases w <;> simp [itV] at h
    exact ⟨_, _, rfl, h.2.symm⟩
  · simp [itV] at h
theorem Ei.seq (hK : X.K = C.K) (h : Es X C Ow e i) : Ei X C Ow tg e .seq (.cons i .nil) :=
  ⟨pi_con (pi_seq h.run) fun σ H Q ⟨T, F, σe, g, xs, g', r, m, q⟩ => by
    obtain ⟨v, m1, m2⟩ := itm1 m
    refine ⟨T, F, σe, g, v, g', r, m1, fun F1 H1 x s1 r1 h1 => ?_⟩
    rcases itV_seq m2 with e | e
    · subst e
      unfold Rel at h1
      obtain ⟨a, vs, rfl, ha, rl⟩ := h1
      exact .inl ⟨a, rfl, ⟨vs, SqL.of (r1.sub _ _ ha)⟩, q F1 H1 _ s1 r1 (walk_list hK ha rl)⟩
    · subst e
      unfold Rel at h1
      obtain ⟨a, vs, rfl, ha, rl⟩ := h1
      exact .inr ⟨a, rfl, ⟨vs, by rw [hK]; exact sqT_mono r1.sub ha⟩, q F1 H1 _ s1 r1 (walk_tup hK ha rl)⟩⟩
theorem Ei.rng1 (hg : Gl X "range") (hm : X.mg "range" = none) (ha : Ea X C Ow [e] is) (hs : starEach [e] X.env = [(false, eval e X.env)]) : Ei X C Ow tg (.Call (.Name "range" p) [e] [] pos) .rng1 is :=
  ⟨pi_con (pi_range1 hg hm ha.run hs) fun σ H Q ⟨T, F, σe, g, xs, g', r, m, q⟩ => by
    obtain ⟨vs, m1, m2⟩ := itm0 m
    obtain ⟨j, e1, hc, e2⟩ := itV_rng1 m2
    subst e1; subst e2
    refine ⟨T, F, σe, g, _, g', r, m1, fun F1 H1 ys s1 r1 h1 => ?_⟩
    obtain ⟨y, yr, rfl, e1, e2⟩ := h1.inv
    unfold Rel at e1
    rw [e1, e2.inv0]
    exact ⟨j, rfl, by omega, by omega, q F1 H1 _ s1 r1 walk_rng⟩⟩
theorem Ei.rng2 (hg : Gl X "range") (hm : X.mg "range" = none) (ha : Ea X C Ow [e, e2] is) (hs : starEach [e, e2] X.env = [(false, eval e X.env), (false, eval e2 X.env)]) (hs2 : starEach [e2] X.env = [(false, eval e2 X.env)]) : Ei X C Ow tg (.Call (.Name "range" p) [e, e2] [] pos) .rng2 is :=
  ⟨pi_con (pi_range2 hg hm ha.run hs hs2) fun σ H Q ⟨T, F, σe, g, xs, g', r, m, q⟩ => by
    obtain ⟨vs, m1, m2⟩ := itm0 m
    obtain ⟨j, k, e1, hc, e2⟩ := itV_rng2 m2
    subst e1; subst e2
    refine ⟨T, F, σe, g, _, g', r, m1, fun F1 H1 ys s1 r1 h1 => ?_⟩
    obtain ⟨y, yr, rfl, e1, e2⟩ := h1.inv
    obtain ⟨z, zr, rfl, e3, e4⟩ := e2.inv
    unfold Rel at e1 e3
    rw [e1, e3, e4.inv0]
    exact ⟨j, k, rfl, ⟨by omega, by omega, by omega, by omega⟩, q F1 H1 _ s1 r1 walk_rng⟩⟩
theorem Ei.enum {elts : List Expr} {kk : Nat} {tpos : Pos} (hK : X.K = C.K) (hg : Gl X "enumerate") (hm : X.mg "enumerate" = none) (ha : Ea X C Ow [e] is) (hs : starEach [e] X.env = [(false, eval e X.env)]) : Ei X C Ow (.Tuple elts kk tpos) (.Call (.Name "enumerate" p) [e] [] pos) .enum is :=
  ⟨pi_con (pi_enum hg hm ha.run hs) fun σ H Q ⟨T, F, σe, g, xs, g', r, m, q⟩ => by
    obtain ⟨vs, m1, m2⟩ := itm0 m
    obtain ⟨ds, e1, e2⟩ := itV_enum m2
    subst e1; subst e2
    refine ⟨T, F, σe, g, _, g', r, m1, fun F1 H1 ys s1 r1 h1 => ?_⟩
    obtain ⟨y, yr, rfl, e1, e2⟩ := h1.inv
    unfold Rel at e1
    obtain ⟨a, us, rfl, ha, rl⟩ := e1
    rw [e2.inv0]
    exact ⟨a, us, rfl, SqL.of (r1.sub _ _ ha), q F1 H1 _ s1 r1 (walk_enum ha rl)⟩⟩
theorem Ei.zip {elts : List Expr} {kk : Nat} {tpos : Pos} (hK : X.K = C.K) (hg : Gl X "zip") (hm : X.mg "zip" = none) (ha : Ea X C Ow [e, e2] is) (hs : starEach [e, e2] X.env = (false, eval e X.env) :: starEach [e2] X.env) (hpl : (backTo pos (starEach [e2] X.env)).any (·.1) = false) : Ei X C Ow (.Tuple elts kk tpos) (.Call (.Name "zip" p) [e, e2] [] pos) .zip is :=
  ⟨pi_con (pi_zip hg hm ha.run hs hpl) fun σ H Q ⟨T, F, σe, g, xs, g', r, m, q⟩ => by
    obtain ⟨vs, m1, m2⟩ := itm0 m
    obtain ⟨ds, es, e1, e2⟩ := itV_zip m2
    subst e1; subst e2
    refine ⟨T, F, σe, g, _, g', r, m1, fun F1 H1 ys s1 r1 h1 => ?_⟩
    obtain ⟨y, yr, rfl, e1, e2⟩ := h1.inv
    obtain ⟨z, zr, rfl, e3, e4⟩ := e2.inv
    unfold Rel at e1 e3
    obtain ⟨a, us, rfl, ha, rl⟩ := e1
    obtain ⟨b, ws, rfl, hb, rl2⟩ := e3
    rw [e4.inv0]
    exact ⟨a, b, us, ws, rfl, SqL.of (r1.sub _ _ ha), SqL.of (r1.sub _ _ hb), q F1 H1 _ s1 r1 (walk_zip ha rl hb rl2)⟩⟩

/-! ### comprehensions -/
/-- the tests of a clause: none, or one -/
structure Ec (X : Cx) (C : Ct) (Ow : List Nat) (ifs : List Expr) (i : Ex) : Prop where
  run : PTs X ifs (tT C Ow (ev C.Φ i))
theorem pts_con {X : Cx} {es : List Expr} {t t' : TT} (h : PTs X es t) (c : ∀ σ H Q, t' σ H Q → t σ H Q) : PTs X es t' := ⟨fun pins s σ H Q I hw => h.run pins s σ H Q I (c σ H Q hw)⟩
theorem Ec.none : Ec X C Ow [] (.c (.bool true)) := ⟨pts_con pts_nil fun σ H Q ⟨T, F, σe, g, b, g', r, m, q⟩ => by
  unfold ev at m
  cases m
  exact q F H (.refl F) r⟩
theorem Ec.one (h : Et X C Ow e i) : Ec X C Ow [e] i := ⟨pts_one h.run⟩
/-- what a turn of a comprehension reckons -/
def cturn (Φ : Fns) (t : List Nat) (cond elt : Ex) (σ : Sl) : D → G → Res (Option D) := fun x g => (lift (setT t x (wipeS σ t)) g).bind fun σ' g => (ev Φ cond σ' g).bind fun b g => match b with
  | .bool true => (ev Φ elt σ' g).bind fun v g => .ok (some v) g
  | .bool false => .ok none g
  | _ => .no
theorem comp_eq {Φ : Fns} {t : List Nat} {k : Ik} {as : Exs} {cond elt : Ex} {σ : Sl} {g g' : G} {v : D} (m : ev Φ (.comp t k as cond elt) σ g = .ok v g') :
    ∃ xs ys g1, itm Φ k as σ g = .ok xs g1 ∧ xs.length ≤ lineN ∧ compL (cturn Φ t cond elt σ) xs [] g1 = .ok ys g' ∧ v = .list ys := by
  unfold ev at m
  obtain ⟨vs, g1, m1, m⟩ := bind_eq_ok m
  obtain ⟨xs, g2, m2, m⟩ := bind_eq_ok m
  split at m
  · rename_i hl
    obtain ⟨ys, g3, m3, m⟩ := bind_eq_ok m
    cases m
    refine ⟨xs, ys, g2, ?_, of_decide_eq_true hl, m3, rfl⟩
    unfold itm
    rw [m1]; exact m2
  · cases m
theorem compL_len (f : D → G → Res (Option D)) : ∀ (xs acc : List D) (g g' : G) (ys : List D), compL f xs acc g = .ok ys g' → ys.length ≤ acc.length + xs.length
  | [], acc, g, g', ys, h => by
    unfold compL at h
    cases h
    rw [List.length_reverse]; exact Nat.le_add_right _ _
  | x :: r, acc, g, g', ys, h => by
    unfold compL at h
    obtain ⟨o, g1, h1, h⟩ := bind_eq_ok h
    cases o with
    | none => have := compL_len f r acc _ _ _ h; rw [List.length_cons]; omega
    | some y => have := compL_len f r _ _ _ _ h; rw [List.length_cons] at *; omega
theorem setMany_out : ∀ (t : List Nat) (vs : List D) (σ σ' : Sl) (i : Nat), setMany t vs σ = some σ' → i ∉ t → σ'[i]? = σ[i]?
  | [], [], σ, σ', i, h, _ => by cases h; rfl
  | [], _ :: _, σ, σ', i, h, _ => by cases h
  | _ :: _, [], σ, σ', i, h, _ => by cases h
  | j :: t, v :: vs, σ, σ', i, h, hi => by
    rw [setMany_out t vs _ _ i h fun z => hi (List.mem_cons_of_mem _ z)]
    exact List.getElem?_set_ne (fun z : j = i => hi (by rw [z]; exact List.mem_cons_self))
theorem setT_out {t : List Nat} {v : D} {σ σ' : Sl} {i : Nat} (h : setT t v σ = some σ') (hi : i ∉ t) : σ'[i]? = σ[i]? := by
  unfold setT at h
  split at h
  · cases h
    refine List.getElem?_set_ne fun z => hi ?_
    rw [z]; exact List.mem_cons_self
  · exact setMany_out _ _ _ _ _ h hi
  · exact setMany_out _ _ _ _ _ h hi
  · cases h
theorem wipeS_out {σ : Sl} {i : Nat} : ∀ {t : List Nat}, i ∉ t → (wipeS σ t)[i]? = σ[i]?
  | [], _ => rfl
  | j :: t, h => by
    show ((wipeS σ t).set j none)[i]? = _
    rw [List.getElem?_set_ne (show j ≠ i from fun z => h (by rw [z]; exact List.mem_cons_self))]
    exact wipeS_out fun z => h (List.mem_cons_of_mem _ z)
theorem wipe_out2 {σ : L2.St} {i : Nat} : ∀ {t : List Nat}, i ∉ t → (L2.wipe σ t)[i]? = σ[i]?
  | [], _ => rfl
  | j :: t, h => by
    show ((L2.wipe σ t).set j none)[i]? = _
    rw [List.getElem?_set_ne (show j ≠ i from fun z => h (by rw [z]; exact List.mem_cons_self))]
    exact wipe_out2 fun z => h (List.mem_cons_of_mem _ z)
/-- back to the slots as they stood, but for those of t -/
theorem R.back {T T' : Hp} {F F5 : Fz} {σe σ' : Sl} {g g5 : G} {σ σ2 : L2.St} {H H5 : Hp} {t : List Nat} (r : R C Ow T F σe g σ H) (r5 : R C Ow T' F5 σ' g5 σ2 H5) (s : Fsub F F5) (out : ∀ i, i ∉ t → σ'[i]? = σe[i]? ∧ σ2[i]? = σ[i]?) (ht : ∀ i ∈ t, i ∉ Ow) : R C Ow T' F5 σe g5 σ H5 := by
  have no : ∀ i, i ∈ Ow → i ∉ t := fun i hi z => ht i z hi
  refine ⟨r5.sub, r5.sc, r5.grow, r5.new, r5.keep, r5.dnew, r.len, fun i v e n => ?_, fun i v e n => ?_, fun i j a hi hj h1 h2 q1 q2 => ?_, r5.dk, fun a o e => ?_⟩
  · obtain ⟨x, e1, e2⟩ := r.fz i v e n
    exact ⟨x, e1, e2.mono s _ _⟩
  · obtain ⟨o1, o2⟩ := out i (no i n)
    obtain ⟨a, e1, e2⟩ := r5.ow i v (o1.trans e) n
    exact ⟨a, o2.symm.trans e1, e2⟩
  · obtain ⟨o1, o2⟩ := out i (no i hi)
    obtain ⟨o3, o4⟩ := out j (no j hj)
    exact r5.inj i j a hi hj (by rw [o1]; exact h1) (by rw [o3]; exact h2) (o2.trans q1) (o4.trans q2)
  · obtain ⟨e1, e2, e3, e4, e5⟩ := r5.hold a o e
    refine ⟨e1, e2, e3, e4, fun j v hj q => ?_⟩
    obtain ⟨o1, o2⟩ := out j (no j hj)
    rw [← o2]
    exact e5 j v hj (o1.trans q)
/-- the reading of a comprehension -/
theorem lc_run {elt cond : Ex} {t : List Nat} {k : Ik} {is : Exs} {σ : L2.St} {H : Hp} {Q : VK} (ht : ∀ i ∈ t, i ∉ Ow) (h : tF C Ow (ev C.Φ (.comp t k is cond elt)) σ H Q) :
    tLc (tI C Ow (itm C.Φ k is)) (gS C Ow t) (tT C Ow (ev C.Φ cond)) (tS C Ow (ev C.Φ elt)) t σ H Q := by
  obtain ⟨T, F, σe, g, v, g', r, m, q⟩ := h
  obtain ⟨xs, ys, g1, m1, hl, m2, rfl⟩ := comp_eq m
  refine ⟨T, F, σe, g, xs, g1, r, m1, fun F1 H1 J s1 r1 w => fun D hD => ?_⟩
  refine ⟨fun i m H => ∃ F2 g2 acc vs, m + i = xs.length ∧ Fsub F1 F2 ∧ R C Ow (upd T D (.lst vs)) F2 σe g2 σ H ∧ RelL C.K F2 acc.reverse vs ∧ acc.length ≤ i ∧ compL (cturn C.Φ t cond elt σe) (xs.drop i) acc g2 = .ok ys g', ⟨xs.length, F1, g1, [], [], rfl, .refl _, r1.take hD, .nil, Nat.le_refl _, by rw [List.drop_zero]; exact m2⟩, ?_⟩
  rintro i m H ⟨F2, g2, acc, vs, hm, s2, r2, ra, hacc, hc⟩
  have holdD : (upd T D (.lst vs)) D = some (.lst vs) := upd_same
  have tD : T D = none := r1.tn hD
  by_cases hi : i < xs.length
  · refine .inr ⟨w.go i F2 H hi s2 r2.sub, fun H => ∃ m', m' < m ∧ (∃ F2 g2 acc vs, m' + (i + 1) = xs.length ∧ Fsub F1 F2 ∧ R C Ow (upd T D (.lst vs)) F2 σe g2 σ H ∧ RelL C.K F2 acc.reverse vs ∧ acc.length ≤ i + 1 ∧ compL (cturn C.Φ t cond elt σe) (xs.drop (i + 1)) acc g2 = .ok ys g'), fun H' h => h, fun x H' hy => ?_⟩
    have hd : xs[i]? = some xs[i] := List.getElem?_eq_getElem hi
    rw [List.drop_eq_getElem_cons hi] at hc
    unfold compL at hc
    obtain ⟨o, g3, hc1, hc2⟩ := bind_eq_ok hc
    unfold cturn at hc1
    obtain ⟨σ', g4, hc3, hc4⟩ := bind_eq_ok hc1
    obtain ⟨hc5, e⟩ := lift_eq_ok hc3
    subst e
    obtain ⟨b, g5, hc6, hc7⟩ := bind_eq_ok hc4
    -- the item
    obtain ⟨F3, s3, r3, rx⟩ : ∃ F3, Fsub F2 F3 ∧ R C Ow (upd T D (.lst vs)) F3 σe g4 σ H' ∧ Rel C.K F3 xs[i] x := by
      rcases w.yld i _ F2 H x H' hd s2 r2.sub hy with ⟨e, rx⟩ | ⟨p, o', rfl, hn, e, rx⟩
      · subst e; exact ⟨F2, .refl _, r2, rx⟩
      · subst e; exact ⟨F2.put p o', Fsub.put (r2.fn hn), r2.laid hn, rx (r2.fn hn)⟩
    refine ⟨_, F3, _, g4, xs[i], σ', r3.wipe t ht, rx, hc5, fun σ2 r4 w2 => ⟨by rw [w2, wipe_wipe t t fun _ h => h], ?_⟩⟩
    have out : ∀ i, i ∉ t → σ'[i]? = σe[i]? ∧ σ2[i]? = σ[i]? := fun i hi => ⟨(setT_out hc5 hi).trans (wipeS_out hi), by
      have z : (L2.wipe σ2 t)[i]? = (L2.wipe (L2.wipe σ t) t)[i]? := by rw [w2]
      rw [wipe_out2 hi, wipe_out2 hi, wipe_out2 hi] at z
      exact z⟩
    split at hc7
    · obtain ⟨y, g6, hc8, hc9⟩ := bind_eq_ok hc7
      injection hc9 with e1 e2
      subst e1; subst e2
      refine ⟨_, F3, σ', _, true, g5, r4, hc6, fun F5 H5 s5 r5 => iteT ⟨_, F5, σ', g5, y, _, r5, hc8, fun F6 H6 yv s6 r6 ry => ?_⟩⟩
      have r7 := r3.back (t := t) r6 (s5.trans s6) out ht
      have hh := r7.hold D _ holdD
      refine ⟨vs, hh.1, ?_, m - 1, by omega, F6, _, y :: acc, vs ++ [yv], by omega, s2.trans (s3.trans (s5.trans s6)), ?_, ?_, by rw [List.length_cons]; omega, hc2⟩
      · have e1 := ra.length
        rw [List.length_reverse] at e1
        rw [← e1]
        exact lineN_lt (by omega)
      · have z := r7.held (o' := .lst (vs ++ [yv])) holdD
        rw [upd_upd] at z
        exact z
      · rw [List.reverse_cons]
        exact (ra.mono (s3.trans (s5.trans s6)) _ _).append (.cons ry .nil)
    · cases hc7
      refine ⟨_, F3, σ', _, false, _, r4, hc6, fun F5 H5 s5 r5 => iteF ?_⟩
      have r7 := r3.back (t := t) r5 s5 out ht
      exact ⟨m - 1, by omega, F5, _, acc, vs, by omega, s2.trans (s3.trans s5), r7, ra.mono (s3.trans s5) _ _, by omega, hc2⟩
    · cases hc7
  · have e : i = xs.length := by omega
    subst e
    rw [List.drop_length] at hc
    unfold compL at hc
    cases hc
    refine .inl ⟨w.stop F2 H s2 r2.sub, ?_⟩
    have hh := r2.hold D _ holdD
    refine q F2 H D (s1.trans s2) (r2.letgo fun a o e => ?_) ⟨⟨vs, hh.1, ra⟩, hh.2.1, hh.2.2.1, hh.2.2.2.1, hh.2.2.2.2, tD⟩
    have ne : a ≠ D := fun z => by rw [z, tD] at e; cases e
    rw [upd_ne ne]; exact e
theorem Ef.comp {elt iter : Expr} {ifs : List Expr} {scope : Scope} {own : List (Str × Nat)} {t : List Nat} {k : Ik} {cond ei : Ex} (hc : X.calm = true) (hN : X.N.Nodup) (hi : Ei X C Ow tg iter k is) (ok : BlkOk X.N X.env.scope scope own) (hown : own.map (·.2) = t)
    (hg : ∀ (s : Shared) (H : Hp) (A : Addr) (cl : List (Str × Addr)) (fp : List Addr), Eg (X.blk s H scope (compEnvC scope cl A X.env) fp) C Ow tg t)
    (ht : ∀ (s : Shared) (H : Hp) (A : Addr) (cl : List (Str × Addr)) (fp : List Addr), Ec (X.blk s H scope (compEnvC scope cl A X.env) fp) C Ow ifs cond)
    (he : ∀ (s : Shared) (H : Hp) (A : Addr) (cl : List (Str × Addr)) (fp : List Addr), Es (X.blk s H scope (compEnvC scope cl A X.env) fp) C Ow elt ei)
    (hs : ∀ x, foldedSetIterable iter X.env x = pure x) (hno : ∀ i ∈ t, i ∉ Ow) : Ef X C Ow (.ListComp elt [⟨tg, iter, ifs, 0⟩] scope pos) (.comp t k is cond ei) :=
  ⟨pe_con (pe_lc hc hN hi.run ok (fun s H A cl fp => (hg s H A cl fp).run) (fun s H A cl fp => (ht s H A cl fp).run) (fun s H A cl fp => (he s H A cl fp).run) hs) fun σ H Q h => by
    rw [hown]
    exact lc_run hno h⟩
end
end Pv
end

section
/-! PvG: the rules for statements. -/
set_option autoImplicit false
namespace Pv
open PySem PySem.Spec PyProof.Rows L2

abbrev Mf := Sl → G → Res Fl
def EndOk (C : Ct) (T : Hp) (Ow' OwL : List Nat) (F : Fz) (g' : G) (D : Ends) : Fl → Prop
  | .nx σe' => ∀ F' σ' H', Fsub F F' → R C Ow' T F' σe' g' σ' H' → D.nx σ' H'
  | .bk σe' => ∀ F' σ' H', Fsub F F' → R C OwL T F' σe' g' σ' H' → D.bk σ' H'
  | .ct σe' => ∀ F' σ' H', Fsub F F' → R C OwL T F' σe' g' σ' H' → D.ct σ' H'
  | .rt v => ∀ F' Ow2 σe2 σ2 H' x, Fsub F F' → R C Ow2 T F' σe2 g' σ2 H' → Rel C.K F' v x → D.rt x H'
def tSt (C : Ct) (Ow Ow' OwL : List Nat) (m : Mf) : TS := fun D σ H => ∃ T F σe g fl g', R C Ow T F σe g σ H ∧ m σe g = .ok fl g' ∧ EndOk C T Ow' OwL F g' D fl
structure Ss (X : Cx) (C : Ct) (Ow Ow' OwL : List Nat) (st : Stmt) (m : Sm) : Prop where
  run : PS X st (tSt C Ow Ow' OwL (run C.Φ C.fu m))
structure Sb (X : Cx) (C : Ct) (Ow Ow' OwL : List Nat) (sts : List Stmt) (m : Sm) : Prop where
  run : PSs X sts (tSt C Ow Ow' OwL (Pv.run C.Φ C.fu m))
theorem EndOk.mono {C : Ct} {T : Hp} {Ow' OwL : List Nat} {F F1 : Fz} {g' : G} {D : Ends} (s : Fsub F F1) : ∀ {fl : Fl}, EndOk C T Ow' OwL F g' D fl → EndOk C T Ow' OwL F1 g' D fl
  | .nx _, h => fun F' σ' H' s' r => h F' σ' H' (s.trans s') r
  | .bk _, h => fun F' σ' H' s' r => h F' σ' H' (s.trans s') r
  | .ct _, h => fun F' σ' H' s' r => h F' σ' H' (s.trans s') r
  | .rt _, h => fun F' Ow2 σe2 σ2 H' x s' r q => h F' Ow2 σe2 σ2 H' x (s.trans s') r q

section
variable {C : Ct} {Ow Ow2 : List Nat} {T : Hp} {F F' : Fz} {σe σe' : Sl} {g g' : G} {σ : L2.St} {H H' : Hp} {v v' : D} {x : V}
theorem R.congr (r : R C Ow T F σe g σ H) (h : ∀ j, j ∈ Ow ↔ j ∈ Ow2) : R C Ow2 T F σe g σ H :=
  ⟨r.sub, r.sc, r.grow, r.new, r.keep, r.dnew, r.len, fun i v e n => r.fz i v e fun z => n ((h i).mp z), fun i v e n => r.ow i v e ((h i).mpr n), fun i j a hi hj => r.inj i j a ((h i).mpr hi) ((h j).mpr hj), r.dk,
    fun a o e => let ⟨e1, e2, e3, e4, e5⟩ := r.hold a o e; ⟨e1, e2, e3, e4, fun i v hi => e5 i v ((h i).mpr hi)⟩⟩
theorem R.dropAll : ∀ (L : List Nat) {F : Fz}, R C (L ++ Ow2) T F σe g σ H → ∃ F', Fsub F F' ∧ R C Ow2 T F' σe g σ H
  | [], F, r => ⟨F, .refl F, r⟩
  | i :: L, F, r => by
    by_cases h : i ∈ L ++ Ow2
    · have r' : R C (L ++ Ow2) T F σe g σ H := R.congr (Ow := i :: (L ++ Ow2)) r fun j => by
        rw [List.mem_cons]
        constructor
        · rintro (rfl | z)
          · exact h
          · exact z
        · exact .inr
      exact r'.dropAll L
    · have r0 : R C (i :: (L ++ Ow2)) T F σe g σ H := r
      obtain ⟨F1, s1, r1⟩ := r0.drop h
      obtain ⟨F2, s2, r2⟩ := r1.dropAll L
      exact ⟨F2, s1.trans s2, r2⟩
theorem R.less (r : R C Ow T F σe g σ H) (h : ∀ j ∈ Ow2, j ∈ Ow) : ∃ F', Fsub F F' ∧ R C Ow2 T F' σe g σ H :=
  R.dropAll Ow (r.congr fun j => by
    rw [List.mem_append]
    exact ⟨.inl, fun z => z.elim id (h j)⟩)
/-- what a name holds alone is changed -/
theorem R.write {i : Nat} {a : Addr} {o' : HO} (r : R C Ow T F σe g σ H) (hi : i ∈ Ow) (e : σe[i]? = some (some v)) (ea : σ[i]? = some (some (V.ref a))) (h : OwnAt C.K F (upd H a o') v' a) : R C Ow T F (σe.set i (some v')) g σ (upd H a o') := by
  obtain ⟨b, e1, e2, e3, e4, e5⟩ := r.ow i v e hi
  rw [ea] at e1
  have e1 : V.ref a = V.ref b := Option.some.inj (Option.some.inj e1)
  cases e1
  have hl : i < σe.length := (List.getElem?_eq_some_iff.mp e).1
  have there : ∀ {j : Nat}, (∃ w, (σe.set i (some v'))[j]? = some (some w)) → ∃ w, σe[j]? = some (some w) := fun {j} ⟨w, q⟩ => by
    by_cases hj : j = i
    · exact ⟨v, hj ▸ e⟩
    · rw [List.getElem?_set_ne (Ne.symm hj)] at q; exact ⟨w, q⟩
  refine ⟨fun c u q => ?_, r.sc, r.grow, r.new, fun c u q => ?_, r.dnew, by rw [List.length_set]; exact r.len, fun j w q n => ?_, fun j w q n => ?_, fun j k c hj hk h1 h2 => r.inj j k c hj hk (there h1) (there h2), ?_, fun c u q => ?_⟩
  · have ne : c ≠ a := fun z => by rw [z, e4] at q; cases q
    rw [upd_ne ne]; exact r.sub c u q
  · have ne : c ≠ a := fun z => by rw [z, e3] at q; cases q
    rw [upd_ne ne]; exact r.keep c u q
  · have hj : j ≠ i := fun z => n (z ▸ hi)
    rw [List.getElem?_set_ne (Ne.symm hj)] at q
    exact r.fz j w q n
  · by_cases hj : j = i
    · subst hj
      rw [List.getElem?_set_self hl] at q
      cases q
      exact ⟨a, ea, h, e3, e4, e5⟩
    · rw [List.getElem?_set_ne (Ne.symm hj)] at q
      obtain ⟨c, q1, q2, q3, q4, q5⟩ := r.ow j w q n
      have ne : c ≠ a := fun z => hj (r.inj j i a n hi ⟨w, q⟩ ⟨v, e⟩ (z ▸ q1) ea)
      exact ⟨c, q1, q2.move (.refl F) fun u z => by rw [upd_ne ne]; exact z, q3, q4, q5⟩
  · have dk := r.dk
    cases g with
    | none => exact dk
    | some st =>
      obtain ⟨d, l, z, ne, f1, f2, hl, hd⟩ := dk
      have n1 : d ≠ a := fun y => e5 ⟨d, l, z, .inl y.symm⟩
      have n2 : l ≠ a := fun y => e5 ⟨d, l, z, .inr y.symm⟩
      exact ⟨d, l, z, ne, f1, f2, (upd_ne n2).trans hl, (upd_ne n1).trans hd⟩
  · obtain ⟨q1, q2, q3, q4, q5⟩ := r.hold c u q
    have ne : c ≠ a := fun z => q5 i v hi e (z ▸ ea)
    refine ⟨(upd_ne ne).trans q1, q2, q3, q4, fun j w hj z => ?_⟩
    obtain ⟨w', z'⟩ := there ⟨w, z⟩
    exact q5 j w' hj z'
/-- a name is given a new thing to hold alone -/
theorem R.own {i : Nat} {a : Addr} (r : R C Ow T F σe g σ H) (n : New C Ow T F σe σ H v a) : R C (i :: Ow) T F (σe.set i (some v)) g (σ.set i (some (V.ref a))) H := by
  obtain ⟨o0, eo⟩ := n.at_.there
  refine ⟨r.sub, r.sc, r.grow, r.new, r.keep, r.dnew, by rw [List.length_set, List.length_set]; exact r.len, fun j w e hj => ?_, fun j w e hj => ?_, fun j k c hj hk h1 h2 q1 q2 => ?_, r.dk, fun c o e => ?_⟩
  · have n1 : j ≠ i := fun z => hj (z ▸ List.mem_cons_self)
    have n2 : j ∉ Ow := fun z => hj (List.mem_cons_of_mem _ z)
    rw [List.getElem?_set_ne (Ne.symm n1)] at e
    obtain ⟨y, e1, e2⟩ := r.fz j w e n2
    exact ⟨y, by rw [List.getElem?_set_ne (Ne.symm n1)]; exact e1, e2⟩
  · by_cases hji : j = i
    · subst hji
      have hl : j < σe.length := by
        have := (List.getElem?_eq_some_iff.mp e).1
        rwa [List.length_set] at this
      rw [List.getElem?_set_self hl] at e
      cases e
      exact ⟨a, by rw [List.getElem?_set_self (r.len ▸ hl)], n.at_, n.h0, n.fn, n.nd⟩
    · rw [List.getElem?_set_ne (Ne.symm hji)] at e
      obtain ⟨c, e1, e2⟩ := r.ow j w e ((List.mem_cons.mp hj).resolve_left hji)
      exact ⟨c, by rw [List.getElem?_set_ne (Ne.symm hji)]; exact e1, e2⟩
  · have one : ∀ j, j ∈ i :: Ow → j ≠ i → (∃ w, (σe.set i (some v))[j]? = some (some w)) → (σ.set i (some (V.ref a)))[j]? = some (some (V.ref c)) → j ∈ Ow ∧ (∃ w, σe[j]? = some (some w)) ∧ σ[j]? = some (some (V.ref c)) := fun j hj hji ⟨w, h⟩ q => by
      rw [List.getElem?_set_ne (Ne.symm hji)] at h q
      exact ⟨(List.mem_cons.mp hj).resolve_left hji, ⟨w, h⟩, q⟩
    have self : (σ.set i (some (V.ref a)))[i]? = some (some (V.ref c)) → c = a := fun q => by
      have hl : i < σ.length := by
        have := (List.getElem?_eq_some_iff.mp q).1
        rwa [List.length_set] at this
      rw [List.getElem?_set_self hl] at q
      cases q; rfl
    by_cases hji : j = i
    · by_cases hki : k = i
      · exact hji.trans hki.symm
      · subst hji
        have z := self q1
        obtain ⟨z1, ⟨w, z2⟩, z3⟩ := one k hk hki h2 q2
        exact (n.no k w z1 z2 (z ▸ z3)).elim
    · obtain ⟨z1, ⟨w, z2⟩, z3⟩ := one j hj hji h1 q1
      by_cases hki : k = i
      · subst hki
        have z := self q2
        exact (n.no j w z1 z2 (z ▸ z3)).elim
      · obtain ⟨y1, y2, y3⟩ := one k hk hki h2 q2
        exact r.inj j k c z1 y1 ⟨w, z2⟩ y2 z3 y3
  · obtain ⟨e1, e2, e3, e4, e5⟩ := r.hold c o e
    refine ⟨e1, e2, e3, e4, fun j w hj q => ?_⟩
    by_cases hji : j = i
    · subst hji
      have hl : j < σe.length := by
        have := (List.getElem?_eq_some_iff.mp q).1
        rwa [List.length_set] at this
      rw [List.getElem?_set_self (r.len ▸ hl)]
      intro z
      cases z
      rw [n.nt] at e; cases e
    · rw [List.getElem?_set_ne (Ne.symm hji)] at q ⊢
      exact e5 j w ((List.mem_cons.mp hj).resolve_left hji) q
end

section
variable {X : Cx} {C : Ct} {Ow Ow' Ow1 Ow2 OwL : List Nat} {st : Stmt} {rest sts : List Stmt} {e : Expr} {i ie : Ex} {m m' : Sm} {pos pos' : Pos}
/-! ### blocks -/
theorem Sb.nil : Sb X C Ow Ow OwL [] .skip := ⟨pss_con pss_nil fun D σ H ⟨T, F, σe, g, fl, g', r, m, q⟩ => by
  unfold Pv.run at m
  cases m
  exact q F σ H (.refl F) r⟩
theorem Sb.one (h : Ss X C Ow Ow' OwL st m) : Sb X C Ow Ow' OwL [st] m := ⟨pss_one h.run⟩
theorem Sb.cons (h : Ss X C Ow Ow1 OwL st m) (h2 : Sb X C Ow1 Ow' OwL rest m') : Sb X C Ow Ow' OwL (st :: rest) (.seq m m') :=
  ⟨pss_con (pss_cons h.run h2.run) fun D σ H ⟨T, F, σe, g, fl, g', r, m, q⟩ => by
    unfold Pv.run at m
    obtain ⟨fl1, g1, m1, m2⟩ := bind_eq_ok m
    cases fl1 with
    | nx σ1 => exact ⟨T, F, σe, g, .nx σ1, g1, r, m1, fun F1 σ' H1 s1 r1 => ⟨T, F1, σ1, g1, fl, g', r1, m2, q.mono s1⟩⟩
    | rt v => cases m2; exact ⟨T, F, σe, g, .rt v, _, r, m1, q⟩
    | bk σ1 => cases m2; exact ⟨T, F, σe, g, .bk σ1, _, r, m1, q⟩
    | ct σ1 => cases m2; exact ⟨T, F, σe, g, .ct σ1, _, r, m1, q⟩⟩
/-- names are no longer held alone ahead of a statement -/
theorem Ss.pre (h : Ss X C Ow2 Ow' OwL st m) (s : ∀ j ∈ Ow2, j ∈ Ow) : Ss X C Ow Ow' OwL st m :=
  ⟨ps_con h.run fun D σ H ⟨T, F, σe, g, fl, g', r, m, q⟩ => by
    obtain ⟨F1, s1, r1⟩ := r.less s
    exact ⟨T, F1, σe, g, fl, g', r1, m, q.mono s1⟩⟩
theorem Sb.pre (h : Sb X C Ow2 Ow' OwL sts m) (s : ∀ j ∈ Ow2, j ∈ Ow) : Sb X C Ow Ow' OwL sts m :=
  ⟨pss_con h.run fun D σ H ⟨T, F, σe, g, fl, g', r, m, q⟩ => by
    obtain ⟨F1, s1, r1⟩ := r.less s
    exact ⟨T, F1, σe, g, fl, g', r1, m, q.mono s1⟩⟩
theorem EndOk.less {T : Hp} {F : Fz} {g' : G} {D : Ends} {OwL1 : List Nat} (s : ∀ j ∈ Ow', j ∈ Ow1) (sl : ∀ j ∈ OwL, j ∈ OwL1) : ∀ {fl : Fl}, EndOk C T Ow' OwL F g' D fl → EndOk C T Ow1 OwL1 F g' D fl
  | .nx _, h => fun F' σ' H' s' r => let ⟨F2, s2, r2⟩ := r.less s; h F2 σ' H' (s'.trans s2) r2
  | .bk _, h => fun F' σ' H' s' r => let ⟨F2, s2, r2⟩ := r.less sl; h F2 σ' H' (s'.trans s2) r2
  | .ct _, h => fun F' σ' H' s' r => let ⟨F2, s2, r2⟩ := r.less sl; h F2 σ' H' (s'.trans s2) r2
  | .rt _, h => fun F' Ow2 σe2 σ2 H' x s' r q => h F' Ow2 σe2 σ2 H' x s' r q
theorem Ss.post (h : Ss X C Ow Ow1 OwL st m) (s : ∀ j ∈ Ow', j ∈ Ow1) : Ss X C Ow Ow' OwL st m :=
  ⟨ps_con h.run fun D σ H ⟨T, F, σe, g, fl, g', r, m, q⟩ => ⟨T, F, σe, g, fl, g', r, m, q.less s fun _ z => z⟩⟩
theorem Sb.post (h : Sb X C Ow Ow1 OwL sts m) (s : ∀ j ∈ Ow', j ∈ Ow1) : Sb X C Ow Ow' OwL sts m :=
  ⟨pss_con h.run fun D σ H ⟨T, F, σe, g, fl, g', r, m, q⟩ => ⟨T, F, σe, g, fl, g', r, m, q.less s fun _ z => z⟩⟩
/-- a block that never runs to its end may promise any names -/
theorem Ss.pass : Ss X C Ow Ow OwL (.Pass pos) .skip := ⟨ps_con ps_pass fun D σ H ⟨T, F, σe, g, fl, g', r, m, q⟩ => by
  unfold Pv.run at m
  cases m
  exact q F σ H (.refl F) r⟩
theorem Ss.brk : Ss X C Ow Ow' Ow (.Break pos) .brk := ⟨ps_con ps_break fun D σ H ⟨T, F, σe, g, fl, g', r, m, q⟩ => by
  unfold Pv.run at m
  cases m
  exact q F σ H (.refl F) r⟩
theorem Ss.cnt : Ss X C Ow Ow' Ow (.Continue pos) .cnt := ⟨ps_con ps_continue fun D σ H ⟨T, F, σe, g, fl, g', r, m, q⟩ => by
  unfold Pv.run at m
  cases m
  exact q F σ H (.refl F) r⟩
theorem Ss.bad : Ss X C Ow Ow' OwL st .bad := ⟨ps_con ps_never fun D σ H ⟨T, F, σe, g, fl, g', r, m, q⟩ => by
  unfold Pv.run at m
  cases m⟩
theorem Ss.ret (h : Es X C Ow e i) : Ss X C Ow Ow' OwL (.Return (some e) pos) (.ret i) := ⟨ps_con (ps_ret h.run) fun D σ H ⟨T, F, σe, g, fl, g', r, m, q⟩ => by
  unfold Pv.run at m
  obtain ⟨v, g1, m1, m2⟩ := bind_eq_ok m
  cases m2
  exact ⟨T, F, σe, g, v, _, r, m1, fun F1 H1 x s1 r1 h1 => q F1 _ σe σ H1 x s1 r1 h1⟩⟩
theorem Ss.retN : Ss X C Ow Ow' OwL (.Return none pos) (.ret (.c .none)) := ⟨ps_con ps_retN fun D σ H ⟨T, F, σe, g, fl, g', r, m, q⟩ => by
  unfold Pv.run ev at m
  cases m
  exact q F _ σe σ H _ (.refl F) r rel_non⟩
theorem Ss.ex (h : Eb X C Ow e i) (hs : swapsWith e none pos.line X.env = pure false) : Ss X C Ow Ow OwL (.Expr e pos) (.ex i) := ⟨ps_con (ps_expr h.run hs) fun D σ H ⟨T, F, σe, g, fl, g', r, m, q⟩ => by
  unfold Pv.run at m
  obtain ⟨v, g1, m1, m2⟩ := bind_eq_ok m
  cases m2
  exact ⟨T, F, σe, g, v, _, r, m1, fun F1 H1 x s1 r1 _ => q F1 σ H1 s1 r1⟩⟩
theorem Ss.doc {x : Str} {j : Nat} : Ss X C Ow Ow OwL (.Expr (.Constant (.str x) j pos) pos') .skip := ⟨ps_con ps_doc fun D σ H ⟨T, F, σe, g, fl, g', r, m, q⟩ => by
  unfold Pv.run at m
  cases m
  exact q F σ H (.refl F) r⟩
theorem Ss.ite {t : Expr} {a b : List Stmt} {it : Ex} {ma mb : Sm} (ht : Et X C Ow t it) (ha : Sb X C Ow Ow' OwL a ma) (hb : Sb X C Ow Ow' OwL b mb) : Ss X C Ow Ow' OwL (.If t a b pos) (.ite it ma mb) :=
  ⟨ps_con (ps_if ht.run ha.run hb.run) fun D σ H ⟨T, F, σe, g, fl, g', r, m, q⟩ => by
    unfold Pv.run at m
    obtain ⟨v, g1, m1, m2⟩ := bind_eq_ok m
    split at m2
    · exact ⟨T, F, σe, g, _, g1, r, m1, fun F1 H1 s1 r1 => iteT ⟨T, F1, σe, g1, fl, g', r1, m2, q.mono s1⟩⟩
    · exact ⟨T, F, σe, g, _, g1, r, m1, fun F1 H1 s1 r1 => iteF ⟨T, F1, σe, g1, fl, g', r1, m2, q.mono s1⟩⟩
    · cases m2⟩

/-! ### stores -/
theorem Ss.set {tg : Expr} {t : List Nat} (h : Es X C Ow e i) (hg : Eg X C Ow tg t) (hs : swapsWithSole [tg] e pos.line X.env = pure false) (hw : swappedStores [tg] e X.env = pure none) (h1 : (assignEach [tg] X.env).map (·.2) = [assign tg X.env]) :
    Ss X C Ow Ow OwL (.Assign [tg] e pos) (.set t i) := ⟨ps_con (ps_asg h.run hg.run hs hw h1) fun D σ H ⟨T, F, σe, g, fl, g', r, m, q⟩ => by
  unfold Pv.run at m
  obtain ⟨v, g1, m1, m2⟩ := bind_eq_ok m
  obtain ⟨σe', g2, m3, m4⟩ := bind_eq_ok m2
  obtain ⟨m5, e5⟩ := lift_eq_ok m3
  subst e5
  cases m4
  exact ⟨T, F, σe, g, v, _, r, m1, fun F1 H1 x s1 r1 h1 => ⟨T, F1, σe, _, v, σe', r1, h1, m5, fun σ' r' _ => q F1 σ' H1 s1 r'⟩⟩⟩
theorem Ss.setG {tg : Expr} {ts : List (List Nat)} (h : Es X C Ow e i) (hg : EgG X C Ow tg ts) (hs : swapsWithSole [tg] e pos.line X.env = pure false) (hw : swappedStores [tg] e X.env = pure none) (h1 : (assignEach [tg] X.env).map (·.2) = [assign tg X.env]) :
    Ss X C Ow Ow OwL (.Assign [tg] e pos) (.setG ts i) := ⟨ps_con (ps_asg h.run hg.run hs hw h1) fun D σ H ⟨T, F, σe, g, fl, g', r, m, q⟩ => by
  unfold Pv.run at m
  obtain ⟨v, g1, m1, m2⟩ := bind_eq_ok m
  obtain ⟨σe', g2, m3, m4⟩ := bind_eq_ok m2
  obtain ⟨m5, e5⟩ := lift_eq_ok m3
  subst e5
  cases m4
  exact ⟨T, F, σe, g, v, _, r, m1, fun F1 H1 x s1 r1 h1 => ⟨T, F1, σe, _, v, σe', r1, h1, m5, fun σ' r' => q F1 σ' H1 s1 r'⟩⟩⟩
theorem Ss.own {x : Str} (n : Nat) (h : Ef X C Ow e i) (hN : X.N.Nodup) (hi : X.N[n]? = some x) (hx : Loc X.env.scope x) (hf : X.fn x = true ∨ X.env.scope.names.lookup x = some .local) (hs : swapsWith e (some (.Name x pos')) pos.line X.env = pure false) :
    Ss X C Ow (n :: Ow) OwL (.Assign [.Name x pos'] e pos) (.set [n] i) := ⟨ps_con (ps_set hN hi hx h.run hs hf) fun D σ H ⟨T, F, σe, g, fl, g', r, m, q⟩ => by
  unfold Pv.run at m
  obtain ⟨v, g1, m1, m2⟩ := bind_eq_ok m
  cases m2
  exact ⟨T, F, σe, g, v, _, r, m1, fun F1 H1 a s1 r1 h1 => q F1 _ H1 s1 (r1.own h1)⟩⟩
theorem Ss.par {x y : Str} {a b : Expr} {ia ib : Ex} {px py pt : Pos} {kt k2 : Nat} {pt2 : Pos} (n k : Nat) (hc : X.calm = true) (hN : X.N.Nodup) (hi : X.N[n]? = some x) (hj : X.N[k]? = some y) (hij : n ≠ k) (hn : n ∉ Ow) (hk : k ∉ Ow)
    (hx : X.env.scope.names.lookup x = some .local) (hy : X.env.scope.names.lookup y = some .local) (ha : Ea X C Ow [a, b] (.cons ia (.cons ib .nil)))
    (hw : swappedStores [.Tuple [.Name x px, .Name y py] kt pt] (.Tuple [a, b] k2 pt2) X.env = pure (some [x, y]))
    (hs : swapsWithSole [.Tuple [.Name x px, .Name y py] kt pt] (.Tuple [a, b] k2 pt2) pos.line X.env = pure false) :
    Ss X C Ow Ow OwL (.Assign [.Tuple [.Name x px, .Name y py] kt pt] (.Tuple [a, b] k2 pt2) pos) (.par n k ia ib) := ⟨ps_con (ps_par hc hN hi hj hij hx hy ha.run hw hs) fun D σ H ⟨T, F, σe, g, fl, g', r, m, q⟩ => by
  unfold Pv.run at m
  obtain ⟨v, g1, m1, m2⟩ := bind_eq_ok m
  obtain ⟨w, g2, m3, m4⟩ := bind_eq_ok m2
  cases m4
  refine ⟨T, F, σe, g, [v, w], g', r, ?_, fun F1 H1 xs s1 r1 h1 => ?_⟩
  · simp only [evs, m1, m3, bind_ok]
  · obtain ⟨x1, xr, rfl, e1, e2⟩ := h1.inv
    obtain ⟨x2, xr2, rfl, e3, e4⟩ := e2.inv
    rw [e4.inv0]
    exact ⟨x1, x2, rfl, q F1 _ H1 s1 ((r1.setS hn e1).setS hk e3)⟩⟩
theorem Ss.par3 {x y z : Str} {a b c : Expr} {ia ib ic : Ex} {px py pz pt : Pos} {kt k2 : Nat} {pt2 : Pos} (n k l : Nat) (hc : X.calm = true) (hN : X.N.Nodup) (hi : X.N[n]? = some x) (hj : X.N[k]? = some y) (hl : X.N[l]? = some z) (hij : n ≠ k) (hil : n ≠ l) (hjl : k ≠ l) (hn : n ∉ Ow) (hk : k ∉ Ow) (hll : l ∉ Ow)
    (hx : X.env.scope.names.lookup x = some .local) (hy : X.env.scope.names.lookup y = some .local) (hz : X.env.scope.names.lookup z = some .local) (ha : Ea X C Ow [a, b, c] (.cons ia (.cons ib (.cons ic .nil))))
    (hw : swappedStores [.Tuple [.Name x px, .Name y py, .Name z pz] kt pt] (.Tuple [a, b, c] k2 pt2) X.env = pure (some [x, y, z]))
    (hs : swapsWithSole [.Tuple [.Name x px, .Name y py, .Name z pz] kt pt] (.Tuple [a, b, c] k2 pt2) pos.line X.env = pure false) :
    Ss X C Ow Ow OwL (.Assign [.Tuple [.Name x px, .Name y py, .Name z pz] kt pt] (.Tuple [a, b, c] k2 pt2) pos) (.par3 n k l ia ib ic) := ⟨ps_con (ps_par3 hc hN hi hj hl hij hil hjl hx hy hz ha.run hw hs) fun D σ H ⟨T, F, σe, g, fl, g', r, m, q⟩ => by
  unfold Pv.run at m
  obtain ⟨v, g1, m1, m2⟩ := bind_eq_ok m
  obtain ⟨w, g2, m3, m4⟩ := bind_eq_ok m2
  obtain ⟨u, g3, m5, m6⟩ := bind_eq_ok m4
  cases m6
  refine ⟨T, F, σe, g, [v, w, u], g', r, ?_, fun F1 H1 xs s1 r1 h1 => ?_⟩
  · simp only [evs, m1, m3, m5, bind_ok]
  · obtain ⟨x1, xr, rfl, e1, e2⟩ := h1.inv
    obtain ⟨x2, xr2, rfl, e3, e4⟩ := e2.inv
    obtain ⟨x3, xr3, rfl, e5, e6⟩ := e4.inv
    rw [e6.inv0]
    exact ⟨x1, x2, x3, rfl, q F1 _ H1 s1 (((r1.setS hn e1).setS hk e3).setS hll e5)⟩⟩
theorem op_ip (o : Bop) : PIp X (bop o) (fun x y H Q => ∃ va vb v F K, Sh K F H va x ∧ Sh K F H vb y ∧ augV o va vb = some v ∧ ∀ z, Rel K F v z → Q z H) := by
  intro pins s σ H x y u w Q I rx ry h
  obtain ⟨va, vb, v, F, K, ha, hb, hv, q⟩ := h
  unfold augV at hv
  split at hv
  · cases hv; cases ha; cases hb
    exact iop_add pins s σ H _ _ u w Q I rx ry ⟨_, _, rfl, rfl, q _ rel_int⟩
  · cases hv; cases ha; cases hb
    exact iop_sub pins s σ H _ _ u w Q I rx ry ⟨_, _, rfl, rfl, q _ rel_int⟩
  · cases ha; cases hb
    split at hv
    · rename_i hc
      cases hv
      simp only [Bool.or_eq_true, decide_eq_true_eq] at hc
      refine iop_mul pins s σ H _ _ u w Q I rx ry ⟨_, _, rfl, rfl, ?_, q _ rel_int⟩
      rcases hc with hc | hc
      · exact .inl ⟨by omega, by omega⟩
      · exact .inr ⟨by omega, by omega⟩
    · cases hv
  · cases ha; cases hb
    split at hv
    · rename_i hc
      cases hv
      simp only [Bool.and_eq_true, decide_eq_true_eq] at hc
      exact iop_fdiv pins s σ H _ _ u w Q I rx ry ⟨_, _, rfl, rfl, hc, q _ rel_int⟩
    · cases hv
  · cases ha; cases hb
    split at hv
    · rename_i hc
      cases hv
      simp only [decide_eq_true_eq] at hc
      exact iop_add_str pins s σ H _ _ u w Q I rx ry ⟨_, _, rfl, rfl, lineN_le hc, q _ rel_str⟩
    · cases hv
  · cases hv
theorem slot_ok {σ : Sl} {n : Nat} {g g' : G} {v : D} (h : slot σ n g = .ok v g') : σ[n]? = some (some v) ∧ g' = g := by
  unfold slot at h
  split at h
  · cases h; exact ⟨by assumption, rfl⟩
  · cases h
theorem Ss.aug {x : Str} (n : Nat) (o : Bop) (hn : n ∉ Ow) (h : Eb X C Ow e i) (hN : X.N.Nodup) (hi : X.N[n]? = some x) (hx : Loc X.env.scope x) (hf : X.fn x = true ∨ X.env.scope.names.lookup x = some .local) :
    Ss X C Ow Ow OwL (.AugAssign (.Name x pos') (bop o) e pos) (.aug n o i) := ⟨ps_con (ps_aug hN hi hx h.run (op_ip o) hf) fun D σ H ⟨T, F, σe, g, fl, g', r, m, q⟩ => by
  unfold Pv.run at m
  obtain ⟨v, g1, m1, m2⟩ := bind_eq_ok m
  obtain ⟨e1, e2⟩ := slot_ok m1
  subst e2
  obtain ⟨w, g2, m3, m4⟩ := bind_eq_ok m2
  obtain ⟨z, g3, m5, m6⟩ := bind_eq_ok m4
  obtain ⟨m7, e7⟩ := lift_eq_ok m5
  subst e7
  cases m6
  obtain ⟨x1, q1, q2⟩ := r.fz n v e1 hn
  exact ⟨x1, q1, T, F, σe, _, w, _, r, m3, fun F1 H1 y s1 r1 b1 => ⟨v, w, z, F1, C.K, (q2.mono s1 _ _).sh r1.sub, r1.sh b1, m7, fun z' hz => q F1 _ H1 s1 (r1.setS hn hz)⟩⟩⟩

/-! ### loops -/
theorem Ss.for_ {tg iter : Expr} {body : List Stmt} {t : List Nat} {k : Ik} {is : Exs} (hp : PassesOwn (model X.prog X.w) X.A X.env X.xe) (hc : X.calm = true) (hi : Ei X C Ow tg iter k is) (hg : Eg X C Ow tg t) (hb : Sb X C Ow Ow Ow body m)
    (hs : ∀ x, foldedSetIterable iter X.env x = pure x) : Ss X C Ow Ow OwL (.For tg iter body [] pos) (.forr t k is m) :=
  ⟨ps_con (ps_for hp hc hi.run hg.run hb.run hs) fun D σ H ⟨T, F, σe, g, fl, g', r, mm, q⟩ => by
    unfold Pv.run at mm
    obtain ⟨vs, g1, m1, m2⟩ := bind_eq_ok mm
    obtain ⟨xs, g2, m3, m4⟩ := bind_eq_ok m2
    have mi : itm C.Φ k is σe g = .ok xs g2 := by
      unfold itm
      rw [m1]; exact m3
    refine ⟨T, F, σe, g, xs, g2, r, mi, fun F1 H1 J s1 r1 w => ?_⟩
    refine ⟨fun j n σ H => ∃ F2 σe2 g2, n + j = xs.length ∧ Fsub F1 F2 ∧ R C Ow T F2 σe2 g2 σ H ∧ forL (fun x σ g => (lift (setT t x σ) g).bind fun σ g => Pv.run C.Φ C.fu m σ g) (xs.drop j) σe2 g2 = .ok fl g', ⟨xs.length, F1, σe, _, rfl, .refl _, r1, by rw [List.drop_zero]; exact m4⟩, ?_⟩
    rintro j n σ H ⟨F2, σe2, g3, hn, s2, r2, hl⟩
    by_cases hj : j < xs.length
    · have hd : xs[j]? = some xs[j] := List.getElem?_eq_getElem hj
      rw [List.drop_eq_getElem_cons hj] at hl
      unfold forL at hl
      obtain ⟨fl1, g4, l1, l2⟩ := bind_eq_ok hl
      obtain ⟨σe3, g5, l3, l4⟩ := bind_eq_ok l1
      obtain ⟨l5, e5⟩ := lift_eq_ok l3
      subst e5
      refine .inr ⟨w.go j F2 H hj s2 r2.sub, fun σ H => ∃ m', m' < n ∧ ∃ F2 σe2 g2, m' + (j + 1) = xs.length ∧ Fsub F1 F2 ∧ R C Ow T F2 σe2 g2 σ H ∧ forL (fun x σ g => (lift (setT t x σ) g).bind fun σ g => Pv.run C.Φ C.fu m σ g) (xs.drop (j + 1)) σe2 g2 = .ok fl g', fun σ' H' h => h, fun x H' hy => ?_⟩
      obtain ⟨F3, s3, r3, rx⟩ : ∃ F3, Fsub F2 F3 ∧ R C Ow T F3 σe2 g5 σ H' ∧ Rel C.K F3 xs[j] x := by
        rcases w.yld j _ F2 H x H' hd s2 r2.sub hy with ⟨e, rx⟩ | ⟨p, o', rfl, hf, e, rx⟩
        · subst e; exact ⟨F2, .refl _, r2, rx⟩
        · subst e; exact ⟨F2.put p o', Fsub.put (r2.fn hf), r2.laid hf, rx (r2.fn hf)⟩
      refine ⟨T, F3, σe2, g5, xs[j], σe3, r3, rx, l5, fun σ3 r4 _ => ⟨T, F3, σe3, g5, fl1, g4, r4, l4, ?_⟩⟩
      cases fl1 with
      | nx σe4 => exact fun F5 σ5 H5 s5 r5 => ⟨n - 1, by omega, F5, σe4, g4, by omega, s2.trans (s3.trans s5), r5, l2⟩
      | ct σe4 => exact fun F5 σ5 H5 s5 r5 => ⟨n - 1, by omega, F5, σe4, g4, by omega, s2.trans (s3.trans s5), r5, l2⟩
      | bk σe4 =>
        cases l2
        exact fun F5 σ5 H5 s5 r5 => q F5 σ5 H5 (s1.trans (s2.trans (s3.trans s5))) r5
      | rt v =>
        cases l2
        exact fun F5 Ow5 σe5 σ5 H5 x5 s5 r5 h5 => q F5 Ow5 σe5 σ5 H5 x5 (s1.trans (s2.trans (s3.trans s5))) r5 h5
    · have e : j = xs.length := by omega
      subst e
      rw [List.drop_length] at hl
      unfold forL at hl
      cases hl
      exact .inl ⟨w.stop F2 H s2 r2.sub, q F2 σ H (s1.trans s2) r2⟩⟩
theorem Ss.while_ {t : Expr} {body : List Stmt} {it : Ex} (hp : PassesOwn (model X.prog X.w) X.A X.env X.xe) (ht : Et X C Ow t it) (hb : Sb X C Ow Ow Ow body m) : Ss X C Ow Ow OwL (.While t body [] pos) (.whil it m) :=
  ⟨ps_con (ps_while hp ht.run hb.run) fun D σ H ⟨T, F, σe, g, fl, g', r, mm, q⟩ => by
    unfold Pv.run at mm
    refine ⟨fun n σ H => ∃ F2 σe2 g2, Fsub F F2 ∧ R C Ow T F2 σe2 g2 σ H ∧ whileL (fun σ g => ev C.Φ it σ g) (fun σ g => Pv.run C.Φ C.fu m σ g) n σe2 g2 = .ok fl g', ⟨C.fu, F, σe, g, .refl _, r, mm⟩, ?_⟩
    rintro n σ H ⟨F2, σe2, g2, s2, r2, hl⟩
    cases n with
    | zero => unfold whileL at hl; cases hl
    | succ n =>
      unfold whileL at hl
      obtain ⟨v, g3, l1, l2⟩ := bind_eq_ok hl
      split at l2
      · obtain ⟨fl1, g4, l3, l4⟩ := bind_eq_ok l2
        refine ⟨T, F2, σe2, g2, _, g3, r2, l1, fun F3 H3 s3 r3 => iteT ⟨fun σ H => ∃ m', m' < n + 1 ∧ ∃ F2 σe2 g2, Fsub F F2 ∧ R C Ow T F2 σe2 g2 σ H ∧ whileL (fun σ g => ev C.Φ it σ g) (fun σ g => Pv.run C.Φ C.fu m σ g) m' σe2 g2 = .ok fl g', fun σ' H' h => h, T, F3, σe2, g3, fl1, g4, r3, l3, ?_⟩⟩
        cases fl1 with
        | nx σe4 => exact fun F5 σ5 H5 s5 r5 => ⟨n, Nat.lt_succ_self n, F5, σe4, g4, s2.trans (s3.trans s5), r5, l4⟩
        | ct σe4 => exact fun F5 σ5 H5 s5 r5 => ⟨n, Nat.lt_succ_self n, F5, σe4, g4, s2.trans (s3.trans s5), r5, l4⟩
        | bk σe4 =>
          cases l4
          exact fun F5 σ5 H5 s5 r5 => q F5 σ5 H5 (s2.trans (s3.trans s5)) r5
        | rt v =>
          cases l4
          exact fun F5 Ow5 σe5 σ5 H5 x5 s5 r5 h5 => q F5 Ow5 σe5 σ5 H5 x5 (s2.trans (s3.trans s5)) r5 h5
      · cases l2
        exact ⟨T, F2, σe2, g2, _, _, r2, l1, fun F3 H3 s3 r3 => iteF (q F3 σ H3 (s2.trans s3) r3)⟩
      · cases l2⟩
end
end Pv
end

section
/-! PvS: sorted of tuples of ints, of any length and any number. -/
set_option autoImplicit false
namespace Pv
open PySem PySem.Spec PyProof.Rows L2 Srt

/-- a tuple of these ints -/
def IsIt (h : Heap) (v : Value) (ns : List Int) : Prop := ∃ a o items n, v = .ref a ∧ h.get? a = some o ∧ o.cls = .type "tuple" ∧ o.data = .seq items n ∧ IntsAre items.toList ns
theorem IsIt.keeps {h h' : Heap} {v : Value} {ns : List Int} (p : IsIt h v ns) (k : ∀ b o, h.get? b = some o → o.cls = .type "tuple" → h'.get? b = some o) : IsIt h' v ns := by
  obtain ⟨a, o, its, n, e, ho, hc, hd, hi⟩ := p
  exact ⟨a, o, its, n, e, k _ _ ho hc, hc, hd, hi⟩
section
variable {prog : Program} {w : World} {A : Around} {s : Shared}
theorem kat_ints {Q : Bool → Shared → Prop} {b : Bool} : ∀ {vs ws : List Value} {ns ms : List Int} {fin : Bool} {i : Nat}, IntsAre vs ns → IntsAre ws ms → fin = decide (ns.length < ms.length) → Q (HT.lexLt ns ms) s → PySem.W.KatLex prog w A b fin Q (vs.zip ws) i s
  | [], ws, ns, ms, fin, i, hi, hj, hf, q => by
    cases hi
    rw [List.zip_nil_left]
    refine PySem.W.kat_nil ?_
    subst hf
    cases hj with
    | nil => exact q
    | cons y u r => exact q
  | v :: vs, [], ns, ms, fin, i, hi, hj, hf, q => by
    cases hj
    rw [List.zip_nil_right]
    refine PySem.W.kat_nil ?_
    subst hf
    cases hi with
    | cons x t r => exact q
  | v :: vs, w' :: ws, ns, ms, fin, i, hi, hj, hf, q => by
    cases hi with
    | cons x t r =>
      cases hj with
      | cons y u r2 =>
        rw [List.zip_cons_cons]
        rename_i ns' ms'
        rw [HT.lexLt_cons] at q
        refine PySem.W.kat_cons (SeqAt.EqAt.int_int x t y u prog w _ _ ?_)
        refine PySem.W.kat_go (fun e1 => ?_) (fun e1 => ?_)
        · have ex : x = y := by simpa using e1
          rw [if_pos ex] at q
          exact PySem.W.kat_yes (kat_ints r r2 (by rw [hf]; simp [List.length_cons]) q)
        · have ex : ¬ x = y := by simpa using e1
          rw [if_neg ex] at q
          refine PySem.W.kat_no ?_
          cases hb : (b && i == 0) with
          | true => exact oneLt_int q
          | false => exact PySem.W.kat_one _ _ (PyProof.Rows.lt_int q)
theorem it_cmp {vs : List Value} {k : Value → List Int} (hp : ∀ v ∈ vs, IsIt s.heap v (k v)) : SrtO.Cmp prog w A s (tuples' true) (fun p => p.1 ∈ vs) (SrtO.lt2 fun v u => HT.lexLt (k v) (k u)) := by
  intro p q hm hm'
  have h1 := hp _ hm
  have h2 := hp _ hm'
  show wpAny (model prog w) A (keyLt' (tuples' true) p.1 q.1) (fun r s' => s' = s ∧ r = HT.lexLt (k p.1) (k q.1)) (fun _ _ => False) s
  generalize k p.1 = ns at h1 ⊢
  generalize k q.1 = ms at h2 ⊢
  obtain ⟨a, o, its, n, e, ho, hc, hd, hi⟩ := h1
  obtain ⟨a', o', its', n', e', ho', hc', hd', hi'⟩ := h2
  rw [e, e']
  refine PySem.W.kat_lt ho hd ho' hd' ?_
  have l1 := hi.length
  have l2 := hi'.length
  refine kat_ints hi hi' ?_ ⟨rfl, rfl⟩
  rw [← Array.length_toList, ← Array.length_toList, l1, l2]
theorem it_firsts {h : Heap} : ∀ {vs : List Value}, (∀ v ∈ vs, ∃ x xs, IsIt h v (x :: xs)) → ∃ fs : List Value, PySem.W.KatTups h vs fs ∧ fs.length = vs.length ∧ ∀ f ∈ fs, ∃ x t, f = Value.int x t
  | [], _ => ⟨[], PySem.W.KatTups.nil, rfl, fun _ hm => by simp at hm⟩
  | v :: vs, hp => by
    obtain ⟨fs, h1, h2, h3⟩ := it_firsts (vs := vs) fun v' hm => hp v' (List.mem_cons_of_mem _ hm)
    obtain ⟨x, xs, a, o, its, n, e, ho, hc, hd, hi⟩ := hp v (List.mem_cons_self ..)
    subst e
    obtain ⟨y, ys, ey⟩ : ∃ y ys, its.toList = y :: ys := by
      cases q : its.toList with
      | nil => rw [q] at hi; cases hi
      | cons y ys => exact ⟨y, ys, rfl⟩
    rw [ey] at hi
    cases hi with
    | cons x' t r =>
    refine ⟨.int x t :: fs, PySem.W.KatTups.cons ho hc hd ?_ h1, by rw [List.length_cons, List.length_cons, h2], fun f hm => ?_⟩
    · have z := congrArg (fun l : List Value => l[0]?) ey
      simpa using z
    · rcases List.mem_cons.mp hm with rfl | hm
      · exact ⟨x, t, rfl⟩
      · exact h3 f hm
theorem its_sortable {a : Addr} {vs : List Value} {k : Value → List Int} (h0 : 0 < vs.length) (hp : ∀ v ∈ vs, IsIt s.heap v (k v)) (hn : ∀ v ∈ vs, k v ≠ []) (ha : ∀ o, s.heap.get? a = some o → o.cls ≠ .type "tuple") : SrtO.SortableO prog w A s a vs fun v u => HT.lexLt (k v) (k u) := by
  intro h' keep
  have hp' : ∀ v ∈ vs, IsIt h' v (k v) := fun v hm => (hp v hm).keeps fun b o e c => keep b o (fun z => by subst z; exact ha o e c) e
  obtain ⟨fs, h1, h2, h3⟩ := it_firsts (h := h') (vs := vs) fun v hm => by
    have q := hp' v hm
    have n := hn v hm
    cases e : k v with
    | nil => exact absurd e n
    | cons x xs => rw [e] at q; exact ⟨x, xs, q⟩
  refine ⟨tuples' true, fun Q E hq => ?_, it_cmp (s := { s with heap := h' }) hp'⟩
  refine PySem.W.kat_kind (T := .type "int") h1 (by omega) (fun f hm => ?_) (by rfl) ?_
  · obtain ⟨x, t, rfl⟩ := h3 f hm
    exact PySem.W.Looks.now
  · have e : (Value.type "int" != Value.type "tuple") = true := by first | decide +kernel | rfl | decide
    rw [e]
    exact hq
/-- what a heap holds there, read as ints -/
def readIt (h : Heap) : Value → List Int
  | .ref a => match h.get? a with
    | some o => match o.data with
      | .seq its _ => its.toList.map SrtO.iv
      | _ => []
    | none => []
  | _ => []
theorem IsIt.read {h : Heap} {v : Value} {ns : List Int} (p : IsIt h v ns) : readIt h v = ns := by
  obtain ⟨a, o, its, n, rfl, ho, hc, hd, hi⟩ := p
  unfold readIt
  simp only [ho, hd]
  exact SrtO.iv_ints hi
end
/-- these things are these tuples -/
inductive TupsAre (K : PySem.W.Frag) (H : Hp) : List V → List (List Int) → Prop
  | nil : TupsAre K H [] []
  | cons {t : Addr} {n : Int} {ns : List Int} {xs : List V} {ts : List (List Int)} (h : SqT K H t ((n :: ns).map V.int)) (r : TupsAre K H xs ts) : TupsAre K H (.ref t :: xs) ((n :: ns) :: ts)
theorem TupsAre.refs {K : PySem.W.Frag} {H : Hp} : ∀ {xs : List V} {ts : List (List Int)}, TupsAre K H xs ts → ∀ x ∈ xs, ∃ t, x = V.ref t
  | _, _, .nil, x, h => by cases h
  | _, _, .cons (t := t) h r, x, hx => by
    rcases List.mem_cons.mp hx with rfl | hx
    · exact ⟨t, rfl⟩
    · exact r.refs x hx
theorem TupsAre.its {K : PySem.W.Frag} {X : Cx} (hK : X.K = K) {pins : List (Addr × Obj)} {s : Shared} {σ : L2.St} {H : Hp} (I : Inv X pins σ H s) : ∀ {xs : List V} {ts : List (List Int)} {vs : List Value}, TupsAre K H xs ts → Vals xs vs → ts = vs.map (readIt s.heap) ∧ ∀ v ∈ vs, ∃ n ns, IsIt s.heap v (n :: ns)
  | _, _, _, .nil, .nil => ⟨rfl, fun v h => by cases h⟩
  | _, _, _, .cons (t := t) (n := n) (ns := ns) h r, .cons rv rr => by
    cases rv
    obtain ⟨e1, e2⟩ := r.its hK I rr
    subst hK
    obtain ⟨its, r1, p1, _⟩ := I.tuple h
    obtain ⟨o, ho, hc, k, hd⟩ := p1
    have ii : IsIt s.heap (.ref t) (n :: ns) := ⟨t, o, its.toArray, k, rfl, ho, hc, hd, by simpa using r1.ints⟩
    refine ⟨?_, fun v hv => ?_⟩
    · rw [List.map_cons, ii.read, e1]
    · rcases List.mem_cons.mp hv with rfl | hv
      · exact ⟨n, ns, ii⟩
      · exact e2 v hv
def rSortedIt (K : PySem.W.Frag) : List V → Hp → VK → Prop := fun vs H Q => ∃ (a : Addr) (xs : List V) (ts : List (List Int)), vs = [V.ref a] ∧ SqL K H a xs ∧ TupsAre K H xs ts ∧
  ∀ ys us p, ys.length = us.length → (ys.zip us).Perm (xs.zip ts) → us.Pairwise (fun x y => HT.lexLt y x = false) → H p = none → Q (.ref p) (upd H p (.lst ys))
theorem zip_maps {α β γ : Type} (f : α → β) (g : α → γ) : ∀ l : List α, (l.map f).zip (l.map g) = l.map fun x => (f x, g x)
  | [] => rfl
  | x :: l => by rw [List.map_cons, List.map_cons, List.zip_cons_cons, zip_maps f g l]; rfl
theorem cr_sortedIt {X : Cx} : CallR X (.builtin "sorted") (rSortedIt X.K) := by
  intro pins s σ H vs us Q I r h
  obtain ⟨a, xs, ts, rfl, hs, hx, q⟩ := h
  obtain ⟨its, rv, hl, hz⟩ := I.list hs
  obtain ⟨u, rfl, ru⟩ := vals1 r
  obtain rfl : u = Value.ref a := ru
  obtain ⟨e1, e2⟩ := refs_back rv hx.refs
  obtain ⟨t1, t2⟩ := hx.its rfl I rv
  have hp : ∀ v ∈ its, IsIt s.heap v (readIt s.heap v) := fun v hv => by
    obtain ⟨n, ns, hi⟩ := t2 v hv
    rw [hi.read]; exact hi
  have hn : ∀ v ∈ its, readIt s.heap v ≠ [] := fun v hv => by
    obtain ⟨n, ns, hi⟩ := t2 v hv
    rw [hi.read]; exact List.cons_ne_nil _ _
  refine SrtO.sorted_ord (NtL.swo_lexL (readIt s.heap)) hl.isList (by rw [← rv.length]; exact hz) (fun h2 h₁ a ha kk => ?_) fun out h1 h2 => ?_
  · refine its_sortable (s := { s with heap := h₁ }) (by omega) (fun v hm => (hp v hm).keeps fun b o e _ => (kk b o e).2) hn fun o e => ?_
    have e' : some o = some (seqObj "list" its.toArray 0) := e.symm.trans ha
    cases e'
    intro c
    exact absurd (Value.type.inj c) (by decide)
  · have h3 : ∀ u ∈ out, ∃ a, u = Value.ref a := fun u hu => e2 u (h2.perm.mem_iff.mp hu)
    obtain ⟨n, hn'⟩ := PyProof.Rows.sortedAll_at s.heap its out.toArray
    have pm : (out.map backV).Perm xs := by rw [e1]; exact h2.perm.map backV
    have hlen : (out.map backV).length ≤ sizeLine := by
      rw [pm.length_eq]; exact hz
    refine ⟨.ref _, upd H (s.heap.objs.size + 1) (.lst (out.map backV)), I.laid (t' := s.toks) (fun _ _ => PyProof.Rows.sortedAll_old) (Nat.le_succ _) ⟨hlen, out, n, vals_back h3, hn'⟩, rfl, q (out.map backV) (out.map (readIt s.heap)) _ (by rw [List.length_map, List.length_map]) ?_ ?_ (I.hok.fresh (Nat.le_succ _))⟩
    · rw [zip_maps, t1, e1, zip_maps]
      exact h2.perm.map _
    · exact List.pairwise_map.mpr (h1.imp fun {x y} z => z)
/-! ### the sorted list, by values -/
theorem insT_perm (x : List Int) : ∀ ys : List (List Int), (insT x ys).Perm (x :: ys)
  | [] => .refl _
  | y :: r => by
    unfold insT
    split
    · exact ((insT_perm x r).cons y).trans (.swap x y r)
    · exact .refl _
theorem sortT_perm : ∀ xs : List (List Int), (sortT xs).Perm xs
  | [] => .refl _
  | x :: r => (insT_perm x _).trans ((sortT_perm r).cons x)
theorem insT_sorted (x : List Int) : ∀ {ys : List (List Int)}, ys.Pairwise (fun x y => HT.lexLt y x = false) → (insT x ys).Pairwise (fun x y => HT.lexLt y x = false)
  | [], _ => by unfold insT; exact List.pairwise_singleton _ _
  | y :: r, h => by
    unfold insT
    rw [List.pairwise_cons] at h
    split
    · rename_i hc
      refine List.pairwise_cons.mpr ⟨fun z hz => ?_, insT_sorted x h.2⟩
      rcases List.mem_cons.mp ((insT_perm x r).mem_iff.mp hz) with rfl | hz
      · exact NtL.lex_asym _ _ hc
      · exact h.1 z hz
    · rename_i hc
      have hc : HT.lexLt y x = false := by simpa using hc
      refine List.pairwise_cons.mpr ⟨fun z hz => ?_, List.pairwise_cons.mpr h⟩
      rcases List.mem_cons.mp hz with rfl | hz
      · exact hc
      · exact NtL.lex_tr _ _ _ hc (h.1 z hz)
theorem sortT_sorted : ∀ xs : List (List Int), (sortT xs).Pairwise (fun x y => HT.lexLt y x = false)
  | [] => .nil
  | x :: r => insT_sorted x (sortT_sorted r)
theorem lex_eq : ∀ {xs ys : List Int}, HT.lexLt xs ys = false → HT.lexLt ys xs = false → xs = ys
  | [], [], _, _ => rfl
  | [], y :: ys, h, _ => by rw [HT.lexLt_nil_cons] at h; cases h
  | x :: xs, [], _, h => by rw [HT.lexLt_nil_cons] at h; cases h
  | x :: xs, y :: ys, h1, h2 => by
    rw [HT.lexLt_cons] at h1 h2
    by_cases e : x = y
    · rw [if_pos e] at h1
      rw [if_pos e.symm] at h2
      rw [e, lex_eq h1 h2]
    · rw [if_neg e] at h1
      rw [if_neg (Ne.symm e)] at h2
      have := of_decide_eq_false h1
      have := of_decide_eq_false h2
      omega
theorem sortT_unique {xs ys : List (List Int)} (p : xs.Perm ys) (hx : xs.Pairwise (fun x y => HT.lexLt y x = false)) (hy : ys.Pairwise (fun x y => HT.lexLt y x = false)) : xs = ys :=
  p.eq_of_pairwise (fun a b _ _ h1 h2 => lex_eq h2 h1) hx hy
theorem tups_rel {K : PySem.W.Frag} {F : Fz} {H : Hp} (s : Same F.h H) : ∀ {ds : List D} {vs : List V} {ts : List (List Int)}, RelL K F ds vs → tupsOf ds = some ts → TupsAre K H vs ts ∧ ∀ p ∈ vs.zip ts, Rel K F (tupD p.2) p.1
  | [], vs, ts, h, e => by
    rw [h.inv0]
    cases e
    exact ⟨.nil, fun p hp => by simp at hp⟩
  | .tuple ds :: r, vs, ts, h, e => by
    obtain ⟨v, vr, rfl, h1, h2⟩ := h.inv
    unfold tupsOf at e
    split at e
    · rename_i n ns ts' e1 e2
      cases e
      obtain ⟨i1, i2⟩ := tups_rel s h2 e2
      have h0 := h1
      unfold Rel at h1
      obtain ⟨a, us, rfl, q, rl⟩ := h1
      have eu := rl.ints e1
      subst eu
      refine ⟨.cons (sqT_mono s q) i1, fun p hp => ?_⟩
      rw [List.zip_cons_cons] at hp
      rcases List.mem_cons.mp hp with rfl | hp
      · show Rel K F (tupD (n :: ns)) (.ref a)
        unfold tupD Rel
        exact ⟨a, _, rfl, q, relL_ints _⟩
      · exact i2 p hp
    · cases e
  | .none :: r, vs, ts, h, e => by cases e
  | .bool _ :: r, vs, ts, h, e => by cases e
  | .int _ :: r, vs, ts, h, e => by cases e
  | .str _ :: r, vs, ts, h, e => by cases e
  | .list _ :: r, vs, ts, h, e => by cases e
  | .dict _ :: r, vs, ts, h, e => by cases e
theorem rel_of_zip {K : PySem.W.Frag} {F : Fz} : ∀ {ys : List V} {us : List (List Int)}, ys.length = us.length → (∀ p ∈ ys.zip us, Rel K F (tupD p.2) p.1) → RelL K F (us.map tupD) ys
  | [], [], _, _ => .nil
  | y :: ys, u :: us, hl, h => by
    rw [List.zip_cons_cons] at h
    exact .cons (h (y, u) List.mem_cons_self) (rel_of_zip (by simpa using hl) fun p hp => h p (List.mem_cons_of_mem _ hp))
  | [], _ :: _, hl, _ => by simp at hl
  | _ :: _, [], hl, _ => by simp at hl
theorem snd_zip {α β : Type} : ∀ {xs : List α} {ys : List β}, xs.length = ys.length → (xs.zip ys).map (·.2) = ys
  | [], [], _ => rfl
  | x :: xs, y :: ys, h => by rw [List.zip_cons_cons, List.map_cons, snd_zip (by simpa using h)]
  | [], _ :: _, h => by simp at h
  | _ :: _, [], h => by simp at h
theorem TupsAre.len {K : PySem.W.Frag} {H : Hp} : ∀ {xs : List V} {ts : List (List Int)}, TupsAre K H xs ts → xs.length = ts.length
  | _, _, .nil => rfl
  | _, _, .cons h r => by rw [List.length_cons, List.length_cons, r.len]
end Pv
end

section
/-! PvH: built-in functions, subscripts, dicts, the methods of lists. -/
set_option autoImplicit false
namespace Pv
open PySem PySem.Spec PyProof.Rows L2

section
variable {X : Cx} {C : Ct} {Ow Ow' OwL : List Nat} {e a b : Expr} {es : List Expr} {i ia ib ic : Ex} {is : Exs} {pos p apos : Pos} {x : Str}

/-! ### a built-in function by values -/
def ShL (K : PySem.W.Frag) (F : Fz) (H : Hp) : List D → List V → Prop
  | [], vs => vs = []
  | d :: ds, vs => ∃ v vr, vs = v :: vr ∧ Sh K F H d v ∧ ShL K F H ds vr
def rBi (K : PySem.W.Frag) (f : Bi) : List V → Hp → VK → Prop := fun xs H Q => ∃ F vas v, Same F.h H ∧ ShL K F H vas xs ∧ biV f vas = some v ∧ Out K F H v Q
/-- args, one or two, that are only looked at -/
structure Eas (X : Cx) (C : Ct) (Ow : List Nat) (es : List Expr) (is : Exs) : Prop where
  run : PA X es (fun σ H Q => ∃ T F σe g vs g', R C Ow T F σe g σ H ∧ evs C.Φ is σe g = .ok vs g' ∧ ∀ F' H' xs, Fsub F F' → R C Ow T F' σe g' σ H' → ShL C.K F' H' vs xs → Q xs H')
theorem Eas.one (h : Eb X C Ow e i) (hs : starEach [e] X.env = (false, eval e X.env) :: starEach [] X.env) : Eas X C Ow [e] (.cons i .nil) :=
  ⟨pa_con (pa_cons h.run pa_nil hs) fun σ H Q ⟨T, F, σe, g, vs, g', r, m, q⟩ => by
    unfold evs at m
    obtain ⟨v, g1, m1, m2⟩ := bind_eq_ok m
    obtain ⟨ws, g2, m3, m4⟩ := bind_eq_ok m2
    unfold evs at m3
    cases m3; cases m4
    exact ⟨T, F, σe, g, v, _, r, m1, fun F1 H1 y s1 r1 b1 => q F1 H1 _ s1 r1 ⟨y, [], rfl, r1.sh b1, rfl⟩⟩⟩
theorem Eas.two (h : Eb X C Ow a ia) (h2 : Eb X C Ow b ib) (hs : starEach [a, b] X.env = (false, eval a X.env) :: starEach [b] X.env) (hs2 : starEach [b] X.env = (false, eval b X.env) :: starEach [] X.env) : Eas X C Ow [a, b] (.cons ia (.cons ib .nil)) :=
  ⟨pa_con (pa_cons h.run (pa_cons h2.run pa_nil hs2) hs) fun σ H Q ⟨T, F, σe, g, vs, g', r, m, q⟩ => by
    unfold evs at m
    obtain ⟨v, g1, m1, m2⟩ := bind_eq_ok m
    obtain ⟨ws, g2, m3, m4⟩ := bind_eq_ok m2
    unfold evs at m3
    obtain ⟨v2, g3, m5, m6⟩ := bind_eq_ok m3
    obtain ⟨ws2, g4, m7, m8⟩ := bind_eq_ok m6
    unfold evs at m7
    cases m7; cases m8; cases m4
    exact ⟨T, F, σe, g, v, _, r, m1, fun F1 H1 y s1 r1 b1 => ⟨T, F1, σe, _, v2, _, r1, m5, fun F2 H2 z s2 r2 b2 => q F2 H2 _ (s1.trans s2) r2 ⟨y, [z], rfl, r2.sh (b1.mono s2), z, [], rfl, r2.sh b2, rfl⟩⟩⟩⟩
theorem Es.biB (f : Bi) {id : String} (hK : X.K = C.K) (hc : CallR X (.builtin id) (rBi X.K f)) (hg : Gl X x) (hm : X.mg x = none) (hv : bootBuiltins x = some (.builtin id)) (ha : Eas X C Ow (e :: es) is) (hn : x ≠ "__name__") (hdb : (x == ("__debug__" : Str)) = false)
    (he : starEach (e :: es) X.env = (false, eval e X.env) :: starEach es X.env) (hpl : (backTo pos (starEach es X.env)).any (·.1) = false) : Es X C Ow (.Call (.Name x p) (e :: es) [] pos) (.bi f is) :=
  ⟨pe_con (pe_callB hc hg hm hv ha.run hn hdb he hpl) fun σ H Q ⟨T, F, σe, g, v, g', r, m, q⟩ => by
    unfold ev at m
    obtain ⟨vs, g1, m1, m2⟩ := bind_eq_ok m
    obtain ⟨m3, e3⟩ := lift_eq_ok m2
    subst e3
    exact ⟨T, F, σe, g, vs, _, r, m1, fun F1 H1 xs s1 r1 h1 => ⟨F1, vs, v, r1.sub, by rw [hK]; exact h1, m3, by rw [hK]; exact r1.out fun F' H' z s r' => q F' H' z (s1.trans s) r'⟩⟩⟩
theorem Es.biT (f : Bi) {id : String} (hK : X.K = C.K) (hc : CallR X (.type id) (rBi X.K f)) (hg : Gl X x) (hm : X.mg x = none) (hv : bootBuiltins x = some (.type id)) (ha : Eas X C Ow (e :: es) is) (hn : x ≠ "__name__") (hdb : (x == ("__debug__" : Str)) = false)
    (he : starEach (e :: es) X.env = (false, eval e X.env) :: starEach es X.env) (hpl : (backTo pos (starEach es X.env)).any (·.1) = false) : Es X C Ow (.Call (.Name x p) (e :: es) [] pos) (.bi f is) :=
  ⟨pe_con (pe_callTy hc hg hm hv ha.run hn hdb he hpl) fun σ H Q ⟨T, F, σe, g, v, g', r, m, q⟩ => by
    unfold ev at m
    obtain ⟨vs, g1, m1, m2⟩ := bind_eq_ok m
    obtain ⟨m3, e3⟩ := lift_eq_ok m2
    subst e3
    exact ⟨T, F, σe, g, vs, _, r, m1, fun F1 H1 xs s1 r1 h1 => ⟨F1, vs, v, r1.sub, by rw [hK]; exact h1, m3, by rw [hK]; exact r1.out fun F' H' z s r' => q F' H' z (s1.trans s) r'⟩⟩⟩
theorem ShL.one {K : PySem.W.Frag} {F : Fz} {H : Hp} {d : D} {xs : List V} (h : ShL K F H [d] xs) : ∃ v, xs = [v] ∧ Sh K F H d v := by
  obtain ⟨v, vr, e, h1, h2⟩ := h
  exact ⟨v, by rw [e, (show vr = [] from h2)], h1⟩
theorem ShL.two {K : PySem.W.Frag} {F : Fz} {H : Hp} {d d2 : D} {xs : List V} (h : ShL K F H [d, d2] xs) : ∃ v w, xs = [v, w] ∧ Sh K F H d v ∧ Sh K F H d2 w := by
  obtain ⟨v, vr, e, h1, h2⟩ := h
  obtain ⟨w, e2, h3⟩ := ShL.one h2
  exact ⟨v, w, by rw [e, e2], h1, h3⟩
theorem cb_len : CallR X (.builtin "len") (rBi X.K .len) := by
  intro pins s σ H xs us Q I rx h
  obtain ⟨F, vas, v, sub, hs, hv, q⟩ := h
  rcases vas with _ | ⟨d, _ | ⟨d2, r⟩⟩
  · simp [biV] at hv
  · obtain ⟨y, rfl, hy⟩ := hs.one
    refine call_len pins s σ H _ us Q I rx ?_
    cases d with
    | list ds =>
      obtain ⟨a, vs, rfl, h1, h2⟩ := hy
      cases hv
      exact ⟨_, _, rfl, .inl ⟨vs, SqL.of h1, h2.length⟩, q.1 _ rel_int⟩
    | tuple ds =>
      obtain ⟨a, vs, rfl, h1, h2⟩ := hy
      cases hv
      exact ⟨_, _, rfl, .inr ⟨vs, sqT_mono sub h1, h2.length⟩, q.1 _ rel_int⟩
    | str z =>
      cases hy
      simp only [biV, lenV] at hv
      split at hv
      · rename_i hc
        cases hv
        exact ⟨_, _, rfl, ⟨lineN_le (of_decide_eq_true hc), rfl⟩, q.1 _ rel_int⟩
      · cases hv
    | _ => simp [biV, lenV] at hv
  · simp [biV] at hv
theorem cb_abs : CallR X (.builtin "abs") (rBi X.K .abs) := by
  intro pins s σ H xs us Q I rx h
  obtain ⟨F, vas, v, sub, hs, hv, q⟩ := h
  rcases vas with _ | ⟨d, _ | ⟨d2, r⟩⟩
  · simp [biV] at hv
  · obtain ⟨y, rfl, hy⟩ := hs.one
    cases d with
    | int j =>
      cases hy; cases hv
      exact call_abs pins s σ H _ us Q I rx ⟨_, rfl, q.1 _ rel_int⟩
    | _ => simp [biV] at hv
  · cases d <;> simp [biV] at hv
theorem cb_min2 (hc : X.calm = true) : CallR X (.builtin "min") (rBi X.K .min2) := by
  intro pins s σ H xs us Q I rx h
  obtain ⟨F, vas, v, sub, hs, hv, q⟩ := h
  rcases vas with _ | ⟨d, _ | ⟨d2, _ | ⟨d3, r⟩⟩⟩
  · simp [biV] at hv
  · simp [biV] at hv
  · obtain ⟨y, z, rfl, hy, hz⟩ := hs.two
    cases d with
    | int j =>
      cases d2 with
      | int k =>
        cases hy; cases hz; cases hv
        exact call_min2 hc pins s σ H _ us Q I rx ⟨_, _, rfl, q.1 _ rel_int⟩
      | _ => simp [biV] at hv
    | _ => simp [biV] at hv
  · cases d <;> cases d2 <;> simp [biV] at hv
theorem cb_max2 (hc : X.calm = true) : CallR X (.builtin "max") (rBi X.K .max2) := by
  intro pins s σ H xs us Q I rx h
  obtain ⟨F, vas, v, sub, hs, hv, q⟩ := h
  rcases vas with _ | ⟨d, _ | ⟨d2, _ | ⟨d3, r⟩⟩⟩
  · simp [biV] at hv
  · simp [biV] at hv
  · obtain ⟨y, z, rfl, hy, hz⟩ := hs.two
    cases d with
    | int j =>
      cases d2 with
      | int k =>
        cases hy; cases hz; cases hv
        exact call_max2 hc pins s σ H _ us Q I rx ⟨_, _, rfl, q.1 _ rel_int⟩
      | _ => simp [biV] at hv
    | _ => simp [biV] at hv
  · cases d <;> cases d2 <;> simp [biV] at hv
theorem cb_sum (hc : X.calm = true) : CallR X (.builtin "sum") (rBi X.K .sum) := by
  intro pins s σ H xs us Q I rx h
  obtain ⟨F, vas, v, sub, hs, hv, q⟩ := h
  rcases vas with _ | ⟨d, _ | ⟨d2, r⟩⟩
  · simp [biV] at hv
  · obtain ⟨y, rfl, hy⟩ := hs.one
    cases d with
    | list ds =>
      obtain ⟨a, vs, rfl, h1, h2⟩ := hy
      obtain ⟨ns, e1, e2⟩ := map_some hv
      subst e2
      rw [h2.ints e1] at h1
      exact cr_sum hc pins s σ H _ us Q I rx ⟨a, ns, rfl, SqL.of h1, q.1 _ rel_int⟩
    | _ => simp [biV] at hv
  · cases d <;> simp [biV] at hv
theorem cb_toInt : CallR X (.type "int") (rBi X.K .toInt) := by
  intro pins s σ H xs us Q I rx h
  obtain ⟨F, vas, v, sub, hs, hv, q⟩ := h
  rcases vas with _ | ⟨d, _ | ⟨d2, r⟩⟩
  · simp [biV] at hv
  · obtain ⟨y, rfl, hy⟩ := hs.one
    cases d with
    | int j =>
      cases hy; cases hv
      exact call_int1 pins s σ H _ us Q I rx (.inl ⟨_, rfl, q.1 _ rel_int⟩)
    | bool j =>
      cases hy; cases hv
      exact call_int1 pins s σ H _ us Q I rx (.inr ⟨_, rfl, q.1 _ rel_int⟩)
    | _ => simp [biV] at hv
  · cases d <;> simp [biV] at hv
theorem cb_toStr : CallR X (.type "str") (rBi X.K .toStr) := by
  intro pins s σ H xs us Q I rx h
  obtain ⟨F, vas, v, sub, hs, hv, q⟩ := h
  rcases vas with _ | ⟨d, _ | ⟨d2, r⟩⟩
  · simp [biV] at hv
  · obtain ⟨y, rfl, hy⟩ := hs.one
    cases d with
    | int j =>
      cases hy
      simp only [biV] at hv
      split at hv
      · rename_i hc
        cases hv
        exact call_str_int pins s σ H _ us Q I rx ⟨_, rfl, of_decide_eq_true hc, q.1 _ rel_str⟩
      · cases hv
    | _ => simp [biV] at hv
  · cases d <;> simp [biV] at hv
theorem cb_toList : CallR X (.type "list") (rBi X.K .toList) := by
  intro pins s σ H xs us Q I rx h
  obtain ⟨F, vas, v, sub, hs, hv, q⟩ := h
  rcases vas with _ | ⟨d, _ | ⟨d2, r⟩⟩
  · simp [biV] at hv
  · obtain ⟨y, rfl, hy⟩ := hs.one
    cases d with
    | list ds =>
      obtain ⟨a, vs, rfl, h1, h2⟩ := hy
      cases hv
      exact call_list_of pins s σ H _ us Q I rx ⟨a, vs, rfl, .inl (SqL.of h1), fun l hl => q.2 l _ hl (rel_lst (sub.free hl) h2)⟩
    | tuple ds =>
      obtain ⟨a, vs, rfl, h1, h2⟩ := hy
      cases hv
      exact call_list_of pins s σ H _ us Q I rx ⟨a, vs, rfl, .inr (sqT_mono sub h1), fun l hl => q.2 l _ hl (rel_lst (sub.free hl) h2)⟩
    | _ => simp [biV] at hv
  · cases d <;> simp [biV] at hv
theorem cb_toTuple : CallR X (.type "tuple") (rBi X.K .toTuple) := by
  intro pins s σ H xs us Q I rx h
  obtain ⟨F, vas, v, sub, hs, hv, q⟩ := h
  rcases vas with _ | ⟨d, _ | ⟨d2, r⟩⟩
  · simp [biV] at hv
  · obtain ⟨y, rfl, hy⟩ := hs.one
    cases d with
    | list ds =>
      obtain ⟨a, vs, rfl, h1, h2⟩ := hy
      cases hv
      exact call_tuple_of pins s σ H _ us Q I rx ⟨a, vs, rfl, .inl ⟨SqL.of h1, fun l hl => q.2 l _ hl (rel_tup (sub.free hl) h2)⟩⟩
    | tuple ds =>
      obtain ⟨a, vs, rfl, h1, h2⟩ := hy
      cases hv
      exact call_tuple_of pins s σ H _ us Q I rx ⟨a, vs, rfl, .inr ⟨sqT_mono sub h1, q.1 _ (by unfold Rel; exact ⟨a, vs, rfl, h1, h2⟩)⟩⟩
    | _ => simp [biV] at hv
  · cases d <;> simp [biV] at hv
theorem bools_rel {K : PySem.W.Frag} {F : Fz} : ∀ {ds : List D} {vs : List V} {bs : List Bool}, RelL K F ds vs → boolsOf ds = some bs → vs = bs.map V.bl
  | [], vs, bs, h, e => by cases e; rw [h.inv0]; rfl
  | .bool b :: ds, vs, bs, h, e => by
    obtain ⟨v, vr, rfl, h1, h2⟩ := h.inv
    unfold boolsOf at e
    obtain ⟨cs, e1, e2⟩ := map_some e
    subst e2
    unfold Rel at h1
    rw [h1, bools_rel h2 e1]; rfl
  | .none :: r, vs, ts, h, e => by cases e
  | .tuple _ :: r, vs, ts, h, e => by cases e
  | .int _ :: r, vs, ts, h, e => by cases e
  | .str _ :: r, vs, ts, h, e => by cases e
  | .list _ :: r, vs, ts, h, e => by cases e
  | .dict _ :: r, vs, ts, h, e => by cases e
theorem cb_all (hc : X.calm = true) : CallR X (.builtin "all") (rBi X.K .all) := by
  intro pins s σ H xs us Q I rx h
  obtain ⟨F, vas, v, sub, hs, hv, q⟩ := h
  rcases vas with _ | ⟨d, _ | ⟨d2, r⟩⟩
  · simp [biV] at hv
  · obtain ⟨y, rfl, hy⟩ := hs.one
    cases d with
    | list ds =>
      obtain ⟨a, vs, rfl, h1, h2⟩ := hy
      obtain ⟨bs, e1, e2⟩ := map_some hv
      subst e2
      rw [bools_rel h2 e1] at h1
      exact cr_all hc pins s σ H _ us Q I rx ⟨a, bs, rfl, SqL.of h1, q.1 _ rel_bl⟩
    | _ => simp [biV] at hv
  · cases d <;> simp [biV] at hv
/-! ### sorted of ints -/
theorem insI_perm (x : Int) : ∀ ys : List Int, (insI x ys).Perm (x :: ys)
  | [] => .refl _
  | y :: r => by
    unfold insI
    split
    · exact .refl _
    · exact ((insI_perm x r).cons y).trans (.swap x y r)
theorem sortI_perm : ∀ xs : List Int, (sortI xs).Perm xs
  | [] => .refl _
  | x :: r => (insI_perm x _).trans ((sortI_perm r).cons x)
theorem insI_sorted (x : Int) : ∀ {ys : List Int}, ys.Pairwise (· ≤ ·) → (insI x ys).Pairwise (· ≤ ·)
  | [], _ => by unfold insI; exact List.pairwise_singleton _ _
  | y :: r, h => by
    unfold insI
    rw [List.pairwise_cons] at h
    split
    · rename_i hc
      refine List.pairwise_cons.mpr ⟨fun z hz => ?_, List.pairwise_cons.mpr h⟩
      rcases List.mem_cons.mp hz with rfl | hz
      · exact hc
      · exact Int.le_trans hc (h.1 z hz)
    · rename_i hc
      refine List.pairwise_cons.mpr ⟨fun z hz => ?_, insI_sorted x h.2⟩
      rcases List.mem_cons.mp ((insI_perm x r).mem_iff.mp hz) with rfl | hz
      · omega
      · exact h.1 z hz
theorem sortI_sorted : ∀ xs : List Int, (sortI xs).Pairwise (· ≤ ·)
  | [] => .nil
  | x :: r => insI_sorted x (sortI_sorted r)
theorem sorted_unique {xs ys : List Int} (p : xs.Perm ys) (hx : xs.Pairwise (· ≤ ·)) (hy : ys.Pairwise (· ≤ ·)) : xs = ys :=
  p.eq_of_pairwise (fun a b _ _ h1 h2 => Int.le_antisymm h1 h2) hx hy
theorem cb_sorted : CallR X (.builtin "sorted") (rBi X.K .sorted) := by
  intro pins s σ H xs us Q I rx h
  obtain ⟨F, vas, v, sub, hs, hv, q⟩ := h
  rcases vas with _ | ⟨d, _ | ⟨d2, r⟩⟩
  · simp [biV] at hv
  · obtain ⟨y, rfl, hy⟩ := hs.one
    cases d with
    | list ds =>
      obtain ⟨a, vs, rfl, h1, h2⟩ := hy
      have hv : sortV ds = some v := hv
      unfold sortV at hv
      split at hv
      · rename_i ns e1
        cases hv
        rw [h2.ints e1] at h1
        refine cr_sortedI pins s σ H _ us Q I rx ⟨a, ns, rfl, SqL.of h1, fun ns' p hp hs' hn => ?_⟩
        have e : ns' = sortI ns := sorted_unique (hp.trans (sortI_perm ns).symm) hs' (sortI_sorted ns)
        subst e
        exact q.2 p _ hn (rel_lst (sub.free hn) (relL_ints _))
      · obtain ⟨ts, e1, e2⟩ := map_some hv
        subst e2
        obtain ⟨t1, t2⟩ := tups_rel sub h2 e1
        refine cr_sortedIt pins s σ H _ us Q I rx ⟨a, vs, ts, rfl, SqL.of h1, t1, fun ys ts' p hl hp hs' hn => ?_⟩
        have pm : ts'.Perm ts := by
          have z := hp.map (fun x => x.2)
          rw [snd_zip hl, snd_zip t1.len] at z
          exact z
        have e : ts' = sortT ts := sortT_unique (pm.trans (sortT_perm ts).symm) hs' (sortT_sorted ts)
        subst e
        exact q.2 p _ hn (rel_lst (sub.free hn) (rel_of_zip hl fun z hz => t2 z (hp.mem_iff.mp hz)))
    | _ => simp [biV] at hv
  · cases d <;> simp [biV] at hv
/-! ### divmod -/
theorem cb_divmod : CallR X (.builtin "divmod") (rBi X.K .divmod) := by
  intro pins s σ H xs us Q I rx h
  obtain ⟨F, vas, v, sub, hs, hv, q⟩ := h
  rcases vas with _ | ⟨d, _ | ⟨d2, _ | ⟨d3, r⟩⟩⟩
  · simp [biV] at hv
  · cases d <;> simp [biV] at hv
  · obtain ⟨y, z, rfl, hy, hz⟩ := hs.two
    cases d <;> cases d2 <;> simp only [biV] at hv <;> first
      | (cases hv; done)
      | (rename_i i j
         split at hv
         · rename_i c
           simp only [Bool.and_eq_true, decide_eq_true_eq] at c
           cases hv
           cases hy
           cases hz
           obtain ⟨u, w', rfl, ⟨t, rfl⟩, ⟨t', rfl⟩⟩ := vals2 rx
           refine divmod_int c.1 ?_ (.inl (PyProof.noPylong_small c.2))
           have hn : H s.heap.objs.size = none := I.hok.fresh (Nat.le_refl _)
           refine ⟨.ref s.heap.objs.size, upd H s.heap.objs.size (.tup [.int (i.fdiv j), .int (i.fmod j)]), ?_, rfl, q.2 _ _ hn (rel_tup (sub.free hn) (.cons rel_int (.cons rel_int .nil)))⟩
           refine I.laid (fun b o e => Heap.get?_push_of_some _ e) (Nat.le_refl _) ⟨by simp only [List.length_cons, List.length_nil]; rw [sizeLine_eq]; decide, [.int (i.fdiv j) s.toks, .int (i.fmod j) (s.toks + 1)], .cons ⟨_, rfl⟩ (.cons ⟨_, rfl⟩ .nil), ?_⟩
           exact ⟨_, Heap.get?_push_size s.heap rfl, rfl, 0, rfl⟩
         · cases hv)
  · cases d <;> cases d2 <;> simp [biV] at hv
/-! ### repr -/
theorem reads_scal {h : Heap} {K : PySem.W.Frag} {F : Fz} {d : D} {v : V} {u : Value} (hd : scalD d = true) (hr : Rel K F d v) (ru : RelV v u) : Reads h u d [] := by
  cases d with
  | none => unfold Rel at hr; subst hr; cases ru; exact .none
  | bool b => unfold Rel at hr; subst hr; cases ru; exact .bool b
  | int i => unfold Rel at hr; subst hr; obtain ⟨t, rfl⟩ := ru; exact .int i t
  | str y => unfold Rel at hr; subst hr; obtain ⟨t, rfl⟩ := ru; exact .str y t
  | _ => cases hd
theorem reads_flat {h : Heap} {P : Program} {w : World} {K : PySem.W.Frag} {F : Fz} : ∀ {kvs : List (D × D)} {kk : List (Key × V)} {vs : List (Key × Value)} {es : List DictEntry}, (kvs.all fun p => (keyD p.1).isSome && scalD p.2) = true → RelKV K F kvs kk → KV kk vs →
    PySem.Pairs (mixKind P w) es vs → ReadsAll h (es.map (·.key)) (kvs.map (·.1)) [] ∧ ReadsAll h (es.map (·.val)) (kvs.map (·.2)) []
  | [], kk, vs, es, _, hr, hv, hp => by
    unfold RelKV at hr; subst hr; cases hv; cases hp
    exact ⟨.nil, .nil⟩
  | (k, d) :: r, kk, vs, es, hs, hr, hv, hp => by
    unfold RelKV at hr
    obtain ⟨kx, v, kr, rfl, e1, e2, e3⟩ := hr
    cases hv with
    | cons h1 h2 =>
      cases hp with
      | @cons e kv es' vr p1 p2 p3 =>
        simp only [List.all_cons, Bool.and_eq_true] at hs
        obtain ⟨i1, i2⟩ := reads_flat (h := h) (by simpa using hs.2) e3 h2 p3
        have rk : Reads h e.key k [] := by
          have p1 : keyIs _ e.key = true := p1
          rw [← h1.1] at p1
          rcases keyIs_shape (k := kx) p1 with ⟨i, t, z1, z2⟩ | ⟨i, t, z1, z2⟩
          · rw [z2]
            cases k <;> simp [keyD] at e1
            · subst z1
              have e1 := Sum.inl.inj e1
              subst e1; exact .int _ t
            · subst z1; cases e1
          · rw [z2]
            cases k <;> simp [keyD] at e1
            · subst z1; cases e1
            · subst z1
              have e1 := Sum.inr.inj e1
              subst e1; exact .str _ t
        have rv : Reads h e.val d [] := by
          rw [p2]
          exact reads_scal hs.1.2 e2 h1.2
        exact ⟨.cons (as := []) (bs := []) rk i1, .cons (as := []) (bs := []) rv i2⟩
theorem cb_repr (hG : X.A.guards = some []) (hu : X.A.units + 70 < cLine) : CallR X (.builtin "repr") (rBi X.K .repr) := by
  intro pins s σ H xs us Q I rx h
  obtain ⟨F, vas, v, sub, hs, hv, q⟩ := h
  rcases vas with _ | ⟨d, _ | ⟨d2, r⟩⟩
  · simp [biV] at hv
  · obtain ⟨y, rfl, hy⟩ := hs.one
    obtain ⟨u, rfl, ru⟩ := vals1 rx
    simp only [biV] at hv
    split at hv
    · rename_i hc
      cases hv
      unfold showOk at hc
      simp only [Bool.and_eq_true, decide_eq_true_eq, Bool.or_eq_true] at hc
      obtain ⟨⟨hd, hsh⟩, hl⟩ := hc
      have hl := lineN_le hl
      have q := q.1 _ rel_str
      have fin : ∀ h' tk u, (∀ b o, s.heap.get? b = some o → h'.get? b = some o) → EP X pins σ Q (.str d.shown u) { s with heap := h', toks := tk } := fun h' tk u hk => ⟨.str d.shown, H, I.kept hk, ⟨_, rfl⟩, q⟩
      have disp : ∀ a as, u = .ref a → Reads s.heap u d as → (d.hasDict = true → sysModules ∉ as) → d.depth ≤ 64 → wpAny (model X.prog X.w) X.A (PySem.call (.builtin "repr") [u]) (EP X pins σ Q) X.xe s := fun a as e r1 hm hdp => by
        subst e
        exact repr_of_reads' r1 hsh hm hG (by omega) (fun _ _ e => e) (fun h' u tk hk => fin h' tk u hk) hl
      cases d with
      | none => cases hy; cases ru; exact PySem.P.repr_of_none (fin s.heap _ _ fun _ _ z => z)
      | bool b => cases hy; cases ru; exact PySem.P.repr_of_bool (fin s.heap _ _ fun _ _ z => z)
      | int i =>
        cases hy
        obtain ⟨t, rfl⟩ := ru
        unfold PyData.showable at hsh
        exact PySem.P.repr_of_int (of_decide_eq_true hsh) (fin s.heap _ _ fun _ _ z => z)
      | str z =>
        cases hy
        obtain ⟨t, rfl⟩ := ru
        exact PySem.P.repr_of_str (fin s.heap _ _ fun _ _ z => z) hl
      | list ds =>
        have hd : shp (.list ds) = true := hd.resolve_right (by simp [flatD])
        have hd2 := hd
        unfold shp SeqAt.shaped at hd2
        simp only [Bool.and_eq_true, decide_eq_true_eq] at hd2
        obtain ⟨as, r1⟩ := Dp.reads I (.list ds) y u (dp_sh sub hd2.1 hy) ru
        obtain ⟨a, vs, rfl, _⟩ := hy
        exact disp a as ru r1 (PyData.noDict_hsm (PyData.hasDict_of_canLay _ hd2.1)) hd2.2
      | tuple ds =>
        have hd : shp (.tuple ds) = true := hd.resolve_right (by simp [flatD])
        have hd2 := hd
        unfold shp SeqAt.shaped at hd2
        simp only [Bool.and_eq_true, decide_eq_true_eq] at hd2
        obtain ⟨as, r1⟩ := Dp.reads I (.tuple ds) y u (dp_sh sub hd2.1 hy) ru
        obtain ⟨a, vs, rfl, _⟩ := hy
        exact disp a as ru r1 (PyData.noDict_hsm (PyData.hasDict_of_canLay _ hd2.1)) hd2.2
      | dict kvs =>
        have hd := hd.resolve_left fun z => by
          unfold shp SeqAt.shaped PyData.canLay0 at z
          simp at z
        obtain ⟨hd, hdp⟩ := hd
        unfold flatD at hd
        simp only [Bool.and_eq_true, Bool.not_eq_true'] at hd
        rcases hy with ⟨z, _⟩ | ⟨_, a, kk, rfl, h1, h2⟩
        · rw [hd.1] at z; cases z
        · obtain ⟨_, hsys, vs, kv, o, es, ep, e1, e2, e3, e4, e5, e6⟩ := (show ObjOk X.prog X.w H s.heap a (.dK kk) from I.hok a _ h1)
          obtain ⟨r1, r2⟩ := reads_flat (h := s.heap) hd.2 h2 kv e5
          have hne : a ≠ sysModules := fun z => by rw [z] at hsys; simp at hsys
          cases (show u = Value.ref a from ru)
          refine disp a ([a] ++ [] ++ []) rfl (.dict (as := []) (bs := []) e1 e2.1 e3 r1 r2) (fun _ z => hne ?_) ?_
          · simp at z; exact z.symm
          · exact hdp
    · cases hv
  · simp [biV] at hv
end
end Pv
end

section
/-! PvSd: sorted(set(xs)), xs a list of a few ints. -/
set_option autoImplicit false
namespace Pv
open PySem PySem.Spec PyProof.Rows L2
theorem insS_mem {x z : Int} : ∀ {ys : List Int}, z ∈ insS x ys ↔ z = x ∨ z ∈ ys
  | [] => by simp [insS]
  | y :: r => by
    unfold insS
    split
    · simp
    · split
      · rename_i e; subst e; simp
      · simp [insS_mem (ys := r)]
        constructor <;> rintro (h | h | h) <;> simp [h]
theorem insS_sorted {x : Int} : ∀ {ys : List Int}, ys.Pairwise (· < ·) → (insS x ys).Pairwise (· < ·)
  | [], _ => by simp [insS]
  | y :: r, h => by
    have h0 := List.pairwise_cons.mp h
    unfold insS
    split
    · rename_i c
      refine List.pairwise_cons.mpr ⟨fun z hz => ?_, h⟩
      rcases List.mem_cons.mp hz with rfl | hz
      · exact c
      · have := h0.1 z hz; omega
    · split
      · exact h
      · refine List.pairwise_cons.mpr ⟨fun z hz => ?_, insS_sorted h0.2⟩
        rcases insS_mem.mp hz with rfl | hz
        · omega
        · exact h0.1 z hz
theorem setI_sorted : ∀ xs : List Int, (setI xs).Pairwise (· < ·)
  | [] => .nil
  | x :: r => insS_sorted (setI_sorted r)
theorem setI_mem {z : Int} : ∀ {xs : List Int}, z ∈ setI xs ↔ z ∈ xs
  | [] => Iff.rfl
  | x :: r => by
    show z ∈ insS x (setI r) ↔ _
    rw [insS_mem, setI_mem (xs := r), List.mem_cons]
theorem strict_eq {xs ys : List Int} (hx : xs.Pairwise (· < ·)) (hy : ys.Pairwise (· < ·)) (h : ∀ z, z ∈ xs ↔ z ∈ ys) : xs = ys := by
  have nx : xs.Nodup := hx.imp fun {a b} q e => by omega
  have ny : ys.Nodup := hy.imp fun {a b} q e => by omega
  exact ((List.perm_ext_iff_of_nodup nx ny).mpr h).eq_of_pairwise (fun a b _ _ h1 h2 => by omega) hx hy
section
variable {P : Program} {w : World} {A : Around} {E : Value → Shared → Prop} {s : Shared}
set_option maxHeartbeats 3200000 in
/-- set(xs) of a list of ints (the kit has it of a tuple) -/
theorem set_of_list {l : Addr} {items : Array Value} (ns : List Int) {Q : Value → Shared → Prop} (hh : A.handled = none) (hl : s.heap.IsList l items) (hit : IntsAre items.toList ns) (hb : ns.length + 1 < scanBound)
    (h : ∀ (h' : Heap) (tk c : Nat), SetR w h' s.heap.objs.size (fun j => decide (j ∈ ns)) c → c ≤ ns.length → (∀ b o, s.heap.get? b = some o → h'.get? b = some o) → Q (.ref s.heap.objs.size) { s with heap := h', toks := tk }) :
    wpAny (model P w) A (call (.type "set") [.ref l]) Q E s := by
  have hisz : items.size = ns.length := by
    have q := IntsAre.length hit
    rw [Array.length_toList] at q
    exact q
  generalize hO : ({ cls := .type "set", dict := none, data := .set #[] 0 (.fresh 0 0 (!w.params.followText "set-order")) } : Obj) = ob
  obtain ⟨c, tl, hmro⟩ := F.called_set.mro
  have hmade := F.called_set.made
  have hsub := F.called_set.sub
  refine wpAny_call (codeAny_of_tree ?_)
  show wpAny _ _ (callAny (.type "set") _) _ _ _
  refine wpAny_pure ⟨Code.quiet_builtin _ (by decide +kernel), codeAny_builtin F.entry_type_call ?_⟩
  rw [Around.under_plain (weight_type_call_type "set" [.ref l] []) rfl]
  have h1 := F.called_set.notType
  have h2 := F.called_set.canCreate
  have hct := F.typeCall_set_1 (.ref l)
  repeat (any_goals (first | assumption | wp_step))
  refine codeAny_mono (code_set_led1 (.ref l) (E := E) (Q₁ := fun obj s₁ => obj = .ref s.heap.objs.size ∧ s₁ = { s with heap := s.heap.push ob }) ⟨rfl, by rw [hO]⟩) fun r s₁ hr => ?_
  cases r with
  | error e => exact hr
  | ok fl =>
    cases fl with
    | ret obj =>
      obtain ⟨rfl, rfl⟩ := hr
      have hS : (s.heap.push ob).get? s.heap.objs.size = some ob := Heap.get?_push_size _ (by rw [← hO]; rfl)
      have hT : Shared.TypeIs { s with heap := s.heap.push ob } (.ref s.heap.objs.size) "set" := ⟨_, hS, by rw [← hO]⟩
      have hli := F.called_set.init.lookup
      have hbi := F.called_set.init.bind (.ref s.heap.objs.size)
      repeat (any_goals (first | assumption | wp_step))
      refine codeAny_mono (codeAny_call_builtin (R := wants (fun r s₂ => r = .none ∧ ∃ h' tk c, s₂ = { s with heap := h', toks := tk } ∧ SetR w h' s.heap.objs.size (fun j => decide (j ∈ ns)) c ∧ c ≤ ns.length ∧
          (∀ b o, s.heap.get? b = some o → h'.get? b = some o)) E) F.called_set.init.plain F.entry_set_init (check_set_init_1 hT ?_)) fun r₂ s₂ hr₂ => ?_
      · obtain ⟨ol, hol, hcl, nl, hdl⟩ := hl
        obtain ⟨ocls, odict, odata, oslots⟩ := ol
        simp only at hcl hdl
        subst hcl; subst hdl
        have hol' : (s.heap.push ob).get? l = some { cls := .type "list", dict := odict, data := .seq items nl, slots := oslots } := Heap.get?_push_of_some _ hol
        have hsls := F.sub_list_set
        have hslf := F.sub_list_frozenset
        have hne : (Value.type "list" == Value.type "dict") = false := by decide
        have hl1 : (s.heap.push ob).IsList l items := ⟨_, hol', rfl, nl, rfl⟩
        unfold Builtin.«set.__init__» noKeywords Builtin.Frozenset.updateFrom
        generalize hPI : pyIter = PI
        rw [← hO] at hol' hl1 hS
        rw [← hO]
        wp_walk
        subst hPI
        refine wpAny_pyIter_list hl1 ?_
        refine wpAny_bind (wpAny_runValue ?_)
        rw [hO] at hol' hl1 hS ⊢
        have hlS : l < s.heap.objs.size := Heap.lt_size hol
        have hh3 : A.in1.in1.in1.handled = none := by simp [hh]
        have hz : (s.heap.push ob).objs.size = s.heap.objs.size + 1 := Heap.size_push ..
        have hneI : l ≠ (s.heap.push ob).objs.size := by
          rw [hz]; exact Nat.ne_of_lt (Nat.lt_succ_of_lt hlS)
        have hSf : s.heap.objs.size ∉ [(s.heap.push ob).objs.size, l] := by
          rw [hz]
          simp only [List.mem_cons, List.not_mem_nil, or_false, not_or]
          exact ⟨Nat.ne_of_lt (Nat.lt_succ_self _), Nat.ne_of_gt hlS⟩
        have hval : ∀ (i : Nat) (v : Value), items[i]? = some v → ∃ k t, ns[i]? = some k ∧ v = .int k t := fun i v hv => by
          have hi : i < ns.length := by rw [← hisz]; exact (Array.getElem?_eq_some_iff.mp hv).1
          obtain ⟨t, e⟩ := PyProof.Rows.IntsAre.int_at hit i v (by rw [Array.getElem?_toList]; exact hv)
          refine ⟨ns[i], t, List.getElem?_eq_getElem hi, ?_⟩
          rw [e, List.getD_eq_getElem?_getD, List.getElem?_eq_getElem hi] <;> rfl
        refine set_update_ints ((Walks.list hh3 _ l hneI items).toS) s.heap.objs.size
          hSf ns hisz hb hval (items.size - 0) 0 _ (by omega) (Nat.zero_le _)
          ⟨⟨_, Heap.get?_push_size _ rfl, rfl, rfl⟩, (hl1.push _)⟩ ⟨0, Nat.le_refl 0, setR_new_at (by rw [hO]; exact Heap.get?_push_of_some _ hS)⟩ fun s' c' hm hc' hS' => ?_
        obtain ⟨h', g2, d', tk', os'⟩ := s'
        have eg : g2 = s.gens := hm.gens
        have ed : d' = s.drawn := hm.drawn
        have eo : os' = s.os := hm.os
        subst eg; subst ed; subst eo
        show wpAny _ _ _ _ _ _
        refine wpAny_pure ?_
        show wpAny _ _ (ret Value.none) _ _ _
        rw [hisz] at hc'
        refine wpAny_pure ⟨rfl, h', tk', c', rfl, hS', hc', fun b o e => ?_⟩
        have hb0 : b < s.heap.objs.size := Heap.lt_size e
        exact hm.heap b o (by rw [hz]; simp only [List.mem_cons, List.not_mem_nil, or_false, not_or]; exact ⟨Nat.ne_of_lt hb0, Nat.ne_of_lt (Nat.lt_succ_of_lt hb0)⟩) (Heap.get?_push_of_some _ (Heap.get?_push_of_some _ e))
      · cases r₂ with
        | error e => exact hr₂
        | ok fl₂ =>
          cases fl₂ with
          | ret r =>
            obtain ⟨rfl, h', tk, c', rfl, hS', hc', hk'⟩ := hr₂
            repeat (any_goals (first | assumption | wp_step))
            exact h _ _ _ hS' hc' hk'
          | _ => exact hr₂.elim
    | _ => exact hr.elim
end
/-- set(xs), xs a list of ints -/
def rSetL (K : PySem.W.Frag) (w : World) : List V → Hp → VK → Prop := fun xs H Q => ∃ (l : Addr) (ns : List Int), xs = [.ref l] ∧ SqL K H l (ns.map V.int) ∧ ns.length ≤ 60 ∧ ∀ p c, H p = none → c ≤ ns.length → Q (.ref p) (upd H p (SetO w p (fun j => decide (j ∈ ns)) c))
theorem cr_setL {X : Cx} (hc : X.calm = true) : CallR X (.type "set") (rSetL X.K X.w) := by
  intro pins s σ H xs us Q I r h
  obtain ⟨l, ns, rfl, hl, hn, q⟩ := h
  rw [Vals.ref1 r]
  obtain ⟨its, rv, pl, hz⟩ := I.list hl
  refine set_of_list ns (I.ok.hd hc) pl.isList (by simpa using L2.intsAre_of rv) (by unfold scanBound; omega) fun h' tk c hS hc2 k => ?_
  refine ⟨.ref s.heap.objs.size, upd H s.heap.objs.size (SetO X.w s.heap.objs.size (fun j => decide (j ∈ ns)) c), I.laid (t' := tk) k (Nat.le_refl _) (setO_new hS), rfl, q _ c (I.hok.fresh (Nat.le_refl _)) hc2⟩
section
variable {X : Cx} {C : Ct} {Ow : List Nat} {a : Expr} {ia : Ex} {pos p p2 pos2 : Pos}
/-- sorted(set(xs)) -/
theorem Es.sortSet (hc : X.calm = true) (hK : X.K = C.K) (hg : Gl X "sorted") (hm : X.mg "sorted" = none) (hg2 : Gl X "set") (hm2 : X.mg "set" = none) (ha : Eb X C Ow a ia)
    (he : starEach [a] X.env = (false, eval a X.env) :: starEach [] X.env)
    (he2 : starEach [.Call (.Name "set" p2) [a] [] pos2] X.env = (false, eval (.Call (.Name "set" p2) [a] [] pos2) X.env) :: starEach [] X.env) : Es X C Ow (.Call (.Name "sorted" p) [.Call (.Name "set" p2) [a] [] pos2] [] pos) (.bi .sortSet (.cons ia .nil)) :=
  ⟨pe_con (pe_callB (cr_sortedSet hc) hg hm boot_sorted (pa_cons (pe_callTy (cr_setL hc) hg2 hm2 boot_set (pa_cons ha.run pa_nil he) (he := he)) pa_nil he2) (he := he2)) fun σ H Q ⟨T, F, σe, g, v, g', r, m, q⟩ => by
    unfold ev at m
    obtain ⟨vs, g1, m1, m2⟩ := bind_eq_ok m
    obtain ⟨m3, e3⟩ := lift_eq_ok m2
    subst e3
    unfold evs at m1
    obtain ⟨va, g2, m4, m5⟩ := bind_eq_ok m1
    obtain ⟨ws, g3, m6, m7⟩ := bind_eq_ok m5
    unfold evs at m6
    cases m6; cases m7
    refine ⟨T, F, σe, g, va, _, r, m4, fun F1 H1 y s1 r1 b1 => ?_⟩
    cases va with
    | list ds =>
      have m3 : (match intsOf ds with | some ns => if decide (ns.length ≤ 60) then some (PyData.list ((setI ns).map .int)) else none | none => none) = some v := m3
      split at m3
      · rename_i ns e
        split at m3
        · rename_i hl
          cases m3
          have hl := of_decide_eq_true hl
          obtain ⟨l, xs, rfl, h1, h2⟩ := r1.sh b1
          rw [h2.ints e] at h1
          refine ⟨l, ns, rfl, by rw [hK]; exact SqL.of h1, hl, fun p c n hc2 => ?_⟩
          have r2 := r1.laid (o := SetO X.w p (fun j => decide (j ∈ ns)) c) n
          refine ⟨p, _, c, rfl, upd_same, by omega, fun ms p3 hs hm3 _ n3 => ?_⟩
          have e2 : ms = setI ns := strict_eq hs (setI_sorted ns) fun z => by rw [hm3, setI_mem]; simp
          subst e2
          exact q _ _ _ (s1.trans ((Fsub.put (r1.fn n)).trans (Fsub.put (r2.fn n3)))) (r2.laid n3) (rel_lst (r2.fn n3) (relL_ints _))
        · cases m3
      · cases m3
    | _ => cases m3⟩
end
end Pv
end

section
/-! PvT: a tuple turned round, t[::-1]. -/
set_option autoImplicit false
namespace Pv
open PySem PyProof.Rows L2 HT
section
variable {prog : Program} {w : World} {A : Around} {E : Value → Shared → Prop} {s : Shared}
theorem sliceApplied_rev {sl : Addr} {vs : Value} {n : Nat} {Q : Int × Int × Nat → Shared → Prop} (hs : s.heap.IsSliceOf sl .none .none vs) (ps : IsPart vs (some (-1)))
    (h : Q ((n : Int) - 1, -1, n) s) : wpAny (model prog w) A (Builtin.Slice.sliceApplied (.ref sl) (pure (n : Int))) Q E s := by
  obtain ⟨os, hos, hcs, hds⟩ := id hs
  unfold Builtin.Slice.sliceApplied Builtin.Slice.sliceFields
  refine wpAny_bind (wpAny_bind (wpAny_field hos hds (x := .none) rfl (wpAny_bind (wpAny_field hos hds (x := .none) rfl (wpAny_bind (wpAny_field hos hds (x := vs) rfl (wpAny_pure ?_)))))))
  refine wpAny_bind (slicePart_ ps ?_)
  show wpAny _ _ (if ((-1 : Int) == 0) = true then _ else _) _ _ s
  rw [if_neg (by decide)]
  refine wpAny_bind (slicePart_none (wpAny_bind (slicePart_none (wpAny_bind (wpAny_pure ?_)))))
  show wpAny _ _ (pure ((n : Int) - 1, (-1 : Int), Builtin.Slice.slicePlaces ((n : Int) - 1) (-1) (-1))) _ _ s
  have e : Builtin.Slice.slicePlaces ((n : Int) - 1) (-1) (-1) = n := by
    unfold Builtin.Slice.slicePlaces
    have h1 : ¬ ((-1 : Int) > 0) := by omega
    simp only [h1, if_false]
    by_cases h2 : (n : Int) - 1 > -1
    · simp only [h2, if_true]
      rw [show (- -1 : Int) = 1 by decide, Int.ediv_one]; omega
    · simp only [h2, if_false]; omega
  rw [e]
  exact wpAny_pure h
theorem pick_rev (xs : Array Value) : ((List.range xs.size).filterMap fun (m : Nat) => xs[((xs.size : Int) - 1 + (m : Int) * -1).toNat]?).toArray = xs.toList.reverse.toArray := by
  have e : (fun (m : Nat) => xs[((xs.size : Int) - 1 + (m : Int) * -1).toNat]?) = fun m => xs[xs.size - 1 - m]? := by
    funext m
    have : ((xs.size : Int) - 1 + (m : Int) * -1).toNat = xs.size - 1 - m := by omega
    rw [this]
  rw [e, show (fun (m : Nat) => xs[xs.size - 1 - m]?) = (fun m => xs[m]?) ∘ (fun m => xs.size - 1 - m) from rfl, ← List.filterMap_map, PySem.W.krv_range, List.filterMap_reverse, PySem.W.krv_all]
theorem getItem_tuple_rev {t sl : Addr} {items : Array Value} {vs : Value} {Q : Value → Shared → Prop} (ht : IsTup s.heap t items) (hs : s.heap.IsSliceOf sl .none .none vs) (ps : IsPart vs (some (-1)))
    (h : Q (.ref s.heap.objs.size) { s with heap := s.heap.push { cls := .type "tuple", data := .seq items.toList.reverse.toArray } })
    (hsz : items.size ≤ sizeLine) : wpAny (model prog w) A (getItem (.ref t) (.ref sl)) Q E s := by
  have htake : sizeOk (.seq items.toList.reverse.toArray) := by
    show items.toList.reverse.toArray.size ≤ sizeLine
    rw [List.size_toArray, List.length_reverse, Array.length_toList]
    exact hsz
  obtain ⟨os, hos, hcs, hds⟩ := id hs
  have hTs : s.TypeIs (.ref sl) "slice" := ⟨os, hos, hcs⟩
  unfold getItem
  try with_reducible refine wpAny_holding ?_
  first | refine wpAny_bind (wpAny_pure ?_) | skip
  refine wpAny_bind (wpAny_sequenceKey ht.typeIs (by decide) ?_)
  refine wpAny_bind (wpAny_callSpecial?_slot (name := Str.ofString "__getitem__") ht.typeIs PyProof.Rows.slot_tuple_getitem
    (wpAny_call_entry PyProof.Rows.slot_tuple_getitem ht.typeIs entry_tuple_getitem ?_ (args_tuple_getitem _ _)))
  show wpAny _ _ (Builtin.Tuple.tupleItemsOf (.ref t) >>= _) _ _ s
  refine wpAny_bind (tupleItemsOf_ ht ?_)
  refine wpAny_bind (wpAny_typeOf hTs ?_)
  rw [if_pos (by decide)]
  refine wpAny_bind (sliceApplied_rev hs ps ?_)
  have hno : ¬ ((((items.size : Int) - 1) == 0 && (-1 : Int) == 1 && items.size == items.size) = true) := by
    intro q
    rw [Bool.and_eq_true, Bool.and_eq_true] at q
    exact absurd q.1.2 (by decide)
  show wpAny _ _ (if (((items.size : Int) - 1) == 0 && (-1 : Int) == 1 && items.size == items.size) = true then _ else _) _ _ s
  rw [if_neg hno, pick_rev]
  first
    | exact wpAny_bind (m := Builtin.Tuple.tupleExact _) (wpAny_newObj_type (wpAny_pure ⟨_, rfl, wpAny_pure h⟩) htake)
    | exact wpAny_bind (m := Builtin.Tuple.tupleExact _) (wpAny_newObj_type (wpAny_bind (wpAny_pure (wpAny_pure ⟨_, rfl, wpAny_pure h⟩))) htake)
    | exact wpAny_bind (wpAny_bind (m := Builtin.Tuple.tupleExact _) (wpAny_newObj_type (wpAny_pure (wpAny_pure ⟨_, rfl, wpAny_pure h⟩)) htake))
    | exact wpAny_bind (wpAny_bind (m := Builtin.Tuple.tupleExact _) (wpAny_newObj_type (wpAny_pure ⟨_, rfl, wpAny_pure h⟩) htake))
end
def rRev (K : PySem.W.Frag) (x : V) (H1 : Hp) (Q : VK) : Prop := (∃ a xs, x = .ref a ∧ SqL K H1 a xs ∧ ∀ p, H1 p = none → Q (.ref p) (upd H1 p (.lst xs.reverse))) ∨ ∃ a xs, x = .ref a ∧ SqT K H1 a xs ∧ ∀ p, H1 p = none → Q (.ref p) (upd H1 p (.tup xs.reverse))
def tRev (K : PySem.W.Frag) (te : TE) : TE := fun σ H Q => te σ H fun x H1 => rRev K x H1 Q
/-- x[::-1] of a list or a tuple -/
theorem pe_rev {X : Cx} {e : Expr} {te : TE} {k : Nat} {p1 p2 p3 pos : Pos} (he : PE X e te) : PE X (.Subscript e (.Slice none none (some (.UnaryOp .USub (.Constant (.int 1) k p1) p2)) p3) pos) (tRev X.K te) := by
  refine ⟨fun pins s σ H Q I h => ?_⟩
  refine Subscript_ (thn (he.run pins s σ H _ I h) fun v s1 ⟨x, H1, I1, r1, q1⟩ => ?_)
  have hst : PO X (some (.UnaryOp .USub (.Constant (.int 1) k p1) p2)) (tPart (tUn (rU fun i => .int (-i)) (tC (.int 1)))) := po_some (pe_un un_neg pe_int)
  refine wpAny_Slice (thn (po_none.run pins s1 σ H1 (fun o H2 => o = none ∧ H2 = H1) I1 ⟨rfl, rfl⟩) fun vl s2 ⟨l, H2, I2, pl, el, e2⟩ => ?_)
  subst el e2
  refine thn (po_none.run pins s2 σ H2 (fun o H3 => o = none ∧ H3 = H2) I2 ⟨rfl, rfl⟩) fun vu s3 ⟨u, H3, I3, pu, eu, e3⟩ => ?_
  subst eu e3
  refine thn (hst.run pins s3 σ H3 (fun o H4 => o = some (-1) ∧ H4 = H3) I3 ⟨1, rfl, -1, rfl, rfl, rfl⟩) fun vs s4 ⟨o, H4, I4, ps, eo, e4⟩ => ?_
  subst eo e4
  cases pl
  cases pu
  have I5 : Inv X pins σ H4 { s4 with heap := s4.heap.push { cls := .type "slice", data := .fields #[.none, .none, vs] } } := I4.kept (t' := s4.toks) fun b ob q => Heap.get?_push_of_some _ q
  show wpAny (model X.prog X.w) X.A (subscriptTail e (.Slice none none (some (.UnaryOp .USub (.Constant (.int 1) k p1) p2)) p3) v (.ref s4.heap.objs.size)) (EP X pins σ Q) X.xe { s4 with heap := s4.heap.push { cls := .type "slice", data := .fields #[.none, .none, vs] } }
  rcases q1 with ⟨a, xs, ex, hx, q⟩ | ⟨a, xs, ex, hx, q⟩
  · subst ex
    cases r1
    obtain ⟨its, r, ht, hz⟩ := I5.list hx
    have hlen := r.length
    refine tail_any (ops := [.ref a, .ref s4.heap.objs.size]) ht.isList.typeIs (PySem.slot_list_getitem.lookup) ?_ (by with_unfolding_all rfl)
    refine wpAny_getItem_list_slice ht.isList (Heap.IsSliceOf.new _ .none .none vs) .none .none ps (by decide) ?_ (by rw [List.size_toArray]; omega)
    rw [PySem.W.krv_pick]
    refine ⟨.ref _, _, I5.laid (t' := s4.toks) (o := .lst xs.reverse) (fun b ob q => Heap.get?_push_of_some _ q) (Nat.le_refl _) ?_, rfl, q _ (I5.hok.fresh (Nat.le_refl _))⟩
    exact ⟨by rw [List.length_reverse]; exact hz, _, 0, r.reverse, Heap.get?_push_size _ rfl⟩
  · subst ex
    cases r1
    obtain ⟨its, r, ht, hz⟩ := I5.tuple hx
    have hlen := r.length
    refine tail_any (ops := [.ref a, .ref s4.heap.objs.size]) ht.typeIs (PyProof.Rows.slot_tuple_getitem.lookup) ?_ (by with_unfolding_all rfl)
    refine getItem_tuple_rev ht (Heap.IsSliceOf.new _ .none .none vs) ps ?_ (by rw [List.size_toArray]; omega)
    refine ⟨.ref _, _, I5.laid (t' := s4.toks) (o := .tup xs.reverse) (fun b ob q => Heap.get?_push_of_some _ q) (Nat.le_refl _) ?_, rfl, q _ (I5.hok.fresh (Nat.le_refl _))⟩
    exact ⟨by rw [List.length_reverse]; exact hz, _, r.reverse, IsTup.new _ _⟩
end Pv
end

section
/-! PvI: isinstance, subscripts, dicts, lists changed; a def; the law. -/
set_option autoImplicit false
namespace Pv
open PySem PySem.Spec PyProof.Rows L2

section
variable {X : Cx} {C : Ct} {Ow Ow' OwL : List Nat} {e a b c : Expr} {es : List Expr} {i ia ib ic : Ex} {is : Exs} {pos p apos np : Pos} {x : Str}

/-! ### isinstance -/
def tyN : D → String
  | .none => "NoneType" | .bool _ => "bool" | .int _ => "int" | .str _ => "str" | .list _ => "list" | .tuple _ => "tuple" | .dict _ => "dict"
theorem ty_sh {F : Fz} {H : Hp} {d : D} {v : V} (s : Same F.h H) (h : Sh X.K F H d v) (n : isDk d = false) : TyX X.K H v (.type (tyN d)) := by
  cases d with
  | none => cases h; exact .base .non
  | bool b => cases h; exact .base (.bl b)
  | int j => cases h; exact .base (.int j)
  | str y => cases h; exact .base (.str y)
  | list xs => obtain ⟨q, vs, rfl, e1, _⟩ := h; exact .base (.lst e1)
  | tuple xs =>
    obtain ⟨q, vs, rfl, e1, _⟩ := h
    rcases e1 with (e1 | ⟨o, e1⟩) | ⟨o, its, n, e1, e2, _⟩
    · exact .base (.tup (s _ _ e1))
    · exact .fTuple (s _ _ e1)
    · exact .kTuple e1 e2
  | dict kvs =>
    rcases h with ⟨z, _⟩ | ⟨_, q, kk, rfl, e1, _⟩
    · have n : isDeck kvs = false := n
      rw [n] at z; cases z
    · exact .base (.dK e1)
def isB : Bi → Option String
  | .isInt => some "int" | .isBool => some "bool" | .isStr => some "str" | .isTuple => some "tuple" | .isList => some "list"
  | _ => none
theorem isi_val {f : Bi} {T : String} (hf : isB f = some T) {d v : D} (h : biV f [d] = some v) : isDk d = false ∧ ∃ k, v = .bool k ∧ kitB (tyN d) T = some k := by
  cases f <;> simp only [isB] at hf <;> cases hf <;> simp only [biV] at h <;> split at h <;> first
    | (cases h; done)
    | (rename_i hc
       have hc : isDk d = false := by simpa using hc
       refine ⟨hc, _, (Option.some.inj h).symm, ?_⟩
       cases d <;> first | (simp only [tyN]; decide +kernel) | rfl)
theorem Es.isi {nx : Str} {T : String} (f : Bi) (hf : isB f = some T) (hK : X.K = C.K) (hg : Gl X "isinstance") (hm : X.mg "isinstance" = none) (hv : bootBuiltins "isinstance" = some (.builtin "isinstance")) (hg2 : Gl X nx) (hm2 : X.mg nx = none) (hv2 : bootBuiltins nx = some (.type T)) (hn2 : nx ≠ "__name__") (hd2 : (nx == ("__debug__" : Str)) = false)
    (ha : Eb X C Ow a ia) (he : starEach [a, .Name nx np] X.env = (false, eval a X.env) :: starEach [.Name nx np] X.env) (he2 : starEach [.Name nx np] X.env = (false, eval (.Name nx np) X.env) :: starEach [] X.env) (hpl : (backTo pos (starEach [.Name nx np] X.env)).any (·.1) = false) :
    Es X C Ow (.Call (.Name "isinstance" p) [a, .Name nx np] [] pos) (.bi f (.cons ia .nil)) :=
  ⟨pe_con (pe_callB call_isi hg hm hv (pa_cons ha.run (pa_cons (pe_bltn hg2 hm2 hv2 (v := .ty T) rfl hn2 hd2) pa_nil he2) he) (by decide) (by decide) he hpl) fun σ H Q ⟨Th, F, σe, g, v, g', r, m, q⟩ => by
    unfold ev evs at m
    obtain ⟨vs, g1, m1, m2⟩ := bind_eq_ok m
    obtain ⟨d, g2, m3, m4⟩ := bind_eq_ok m1
    obtain ⟨ws, g3, m5, m6⟩ := bind_eq_ok m4
    unfold evs at m5
    cases m5; cases m6
    obtain ⟨m7, e7⟩ := lift_eq_ok m2
    subst e7
    obtain ⟨hn, k, e8, hk⟩ := isi_val hf m7
    subst e8
    refine ⟨Th, F, σe, g, d, _, r, m3, fun F1 H1 y s1 r1 b1 => ⟨y, .ty T, _, _, k, rfl, .ty T, ty_sh r1.sub (by rw [hK]; exact r1.sh b1) hn, kit_ty hk, q F1 H1 _ s1 r1 rel_bl⟩⟩⟩

/-! ### list(range(..)) -/
theorem rgV_eq {K : PySem.W.Frag} {F : Fz} (lo hi : Int) : RelL K F (rangeD lo (hi - lo).toNat) (rgV lo hi) := by
  have : ∀ (l : List Nat), RelL K F (l.map fun (k : Nat) => (PyData.int (lo + k) : D)) (l.map fun (k : Nat) => V.int (lo + k)) := by
    intro l
    induction l with
    | nil => exact .nil
    | cons n l ih => exact .cons rel_int ih
  exact this _
theorem Ef.listRange1 {e1 : Expr} (hK : X.K = C.K) (hc : X.calm = true) (hg : Gl X "list") (hm : X.mg "list" = none) (hg2 : Gl X "range") (hm2 : X.mg "range" = none) (ha : Eb X C Ow a ia) (na : starEach [a] X.env = (false, eval a X.env) :: starEach [] X.env)
    (na2 : starEach [Expr.Call (.Name "range" np) [a] [] apos] X.env = (false, eval (.Call (.Name "range" np) [a] [] apos) X.env) :: starEach [] X.env) :
    Ef X C Ow (.Call (.Name "list" p) [.Call (.Name "range" np) [a] [] apos] [] pos) (.bi .listRange1 (.cons ia .nil)) :=
  ⟨pe_con (pe_listRg hc hg hm (prg_1 hg2 hm2 ha.run na) na2) fun σ H Q ⟨Th, F, σe, g, v, g', r, m, q⟩ => by
    unfold ev evs at m
    obtain ⟨vs, g1, m1, m2⟩ := bind_eq_ok m
    obtain ⟨d, g2, m3, m4⟩ := bind_eq_ok m1
    obtain ⟨ws, g3, m5, m6⟩ := bind_eq_ok m4
    unfold evs at m5
    cases m5; cases m6
    obtain ⟨m7, e7⟩ := lift_eq_ok m2
    subst e7
    cases d with
    | int j =>
      simp only [biV] at m7
      split at m7
      · rename_i hc
        cases m7
        simp only [Bool.and_eq_true, decide_eq_true_eq] at hc
        refine ⟨Th, F, σe, g, _, _, r, m3, fun F1 H1 y s1 r1 b1 => ?_⟩
        have hy : y = .int j := r1.sh b1
        subst hy
        have e := rgV_eq (K := C.K) (F := F1) 0 j
        rw [Int.sub_zero] at e
        exact ⟨j, rfl, ⟨by omega, by omega, by omega, by omega, by omega⟩, fun p n => q F1 _ p s1 (r1.grown n) (new_of r1 n ⟨_, upd_same, e⟩)⟩
      · cases m7
    | _ => simp [biV] at m7⟩
theorem Ef.listRange2 (hK : X.K = C.K) (hc : X.calm = true) (hg : Gl X "list") (hm : X.mg "list" = none) (hg2 : Gl X "range") (hm2 : X.mg "range" = none) (ha : Eb X C Ow a ia) (hb : Eb X C Ow b ib) (na : starEach [a, b] X.env = (false, eval a X.env) :: starEach [b] X.env)
    (nb : starEach [b] X.env = (false, eval b X.env) :: starEach [] X.env) (hp : (backTo apos (starEach [b] X.env)).any (·.1) = false)
    (na2 : starEach [Expr.Call (.Name "range" np) [a, b] [] apos] X.env = (false, eval (.Call (.Name "range" np) [a, b] [] apos) X.env) :: starEach [] X.env) :
    Ef X C Ow (.Call (.Name "list" p) [.Call (.Name "range" np) [a, b] [] apos] [] pos) (.bi .listRange2 (.cons ia (.cons ib .nil))) :=
  ⟨pe_con (pe_listRg hc hg hm (prg_2 hg2 hm2 ha.run hb.run na nb hp) na2) fun σ H Q ⟨Th, F, σe, g, v, g', r, m, q⟩ => by
    unfold ev evs at m
    obtain ⟨vs, g1, m1, m2⟩ := bind_eq_ok m
    obtain ⟨d, g2, m3, m4⟩ := bind_eq_ok m1
    obtain ⟨ws, g3, m5, m6⟩ := bind_eq_ok m4
    unfold evs at m5
    obtain ⟨d2, g4, m8, m9⟩ := bind_eq_ok m5
    obtain ⟨ws2, g5, m10, m11⟩ := bind_eq_ok m9
    unfold evs at m10
    cases m10; cases m11; cases m6
    obtain ⟨m7, e7⟩ := lift_eq_ok m2
    subst e7
    cases d with
    | int j =>
      cases d2 with
      | int k =>
        simp only [biV] at m7
        split at m7
        · rename_i hc
          cases m7
          simp only [Bool.and_eq_true, decide_eq_true_eq] at hc
          refine ⟨Th, F, σe, g, _, _, r, m3, fun F1 H1 y s1 r1 b1 => ⟨Th, F1, σe, _, _, _, r1, m8, fun F2 H2 z s2 r2 b2 => ?_⟩⟩
          have hy : y = .int j := r1.sh b1
          have hz : z = .int k := r2.sh b2
          subst hy; subst hz
          refine ⟨j, k, rfl, rfl, ⟨by omega, by omega, by omega, by omega, ?_⟩, fun p n => q F2 _ p (s1.trans s2) (r2.grown n) (new_of r2 n ⟨_, upd_same, rgV_eq _ _⟩)⟩
          have := hc.2
          unfold lineN at this
          omega
        · cases m7
      | _ => simp [biV] at m7
    | _ => cases d2 <;> simp [biV] at m7⟩

/-! ### subscripts -/
theorem RelL.atI {K : PySem.W.Frag} {F : Fz} {ds : List D} {vs : List V} {j : Int} {d : D} (h : RelL K F ds vs) (e : L2.atI ds j = some d) : ∃ v, L2.atI vs j = some v ∧ Rel K F d v := by
  unfold L2.atI at e ⊢
  rw [← h.length]
  cases q : ixN ds.length j with
  | none => rw [q] at e; cases e
  | some n =>
    rw [q] at e
    exact h.get e
theorem Es.idx (hK : X.K = C.K) (ha : Eb X C Ow a ia) (hb : Eb X C Ow b ib) (hs : PlainIx b) : Es X C Ow (.Subscript a b pos) (.idx ia ib) :=
  ⟨pe_con (pe_ix (ix_list.or ix_tup) ha.run hb.run hs) fun σ H Q ⟨T, F, σe, g, v, g', r, m, q⟩ => by
    unfold ev at m
    obtain ⟨va, g1, m1, m2⟩ := bind_eq_ok m
    obtain ⟨vb, g2, m3, m4⟩ := bind_eq_ok m2
    obtain ⟨m5, e5⟩ := lift_eq_ok m4
    subst e5
    refine ⟨T, F, σe, g, va, g1, r, m1, fun F1 H1 y s1 r1 b1 => ⟨T, F1, σe, g1, vb, _, r1, m3, fun F2 H2 z s2 r2 b2 => ?_⟩⟩
    have hy := r2.sh (b1.mono s2)
    have hz := r2.sh b2
    cases va with
    | list ds =>
      cases vb with
      | int j =>
        obtain ⟨p, vs, rfl, h1, h2⟩ := hy
        cases hz
        obtain ⟨w, e1, e2⟩ := h2.atI m5
        exact .inl ⟨p, vs, j, w, rfl, rfl, SqL.of h1, e1, q F2 H2 w (s1.trans s2) r2 e2⟩
      | _ => simp [idxV] at m5
    | tuple ds =>
      cases vb with
      | int j =>
        obtain ⟨p, vs, rfl, h1, h2⟩ := hy
        cases hz
        obtain ⟨w, e1, e2⟩ := h2.atI m5
        exact .inr ⟨p, vs, j, w, rfl, rfl, by rw [hK]; exact sqT_mono r2.sub h1, e1, q F2 H2 w (s1.trans s2) r2 e2⟩
      | _ => simp [idxV] at m5
    | _ => simp [idxV] at m5⟩
/-- a part of a slice -/
structure Eo (X : Cx) (C : Ct) (Ow : List Nat) (o : Option Expr) (i : Ex) : Prop where
  run : PO X o (fun σ H Q => ∃ T F σe g v g' oi, R C Ow T F σe g σ H ∧ ev C.Φ i σe g = .ok v g' ∧ optI v = some oi ∧ ∀ F' H', Fsub F F' → R C Ow T F' σe g' σ H' → Q oi H')
theorem po_con {o : Option Expr} {t t' : TO} (h : PO X o t) (c : ∀ σ H Q, t' σ H Q → t σ H Q) : PO X o t' := ⟨fun pins s σ H Q I hw => h.run pins s σ H Q I (c σ H Q hw)⟩
theorem Eo.none : Eo X C Ow none (.c .none) := ⟨po_con po_none fun σ H Q ⟨T, F, σe, g, v, g', oi, r, m, e, q⟩ => by
  unfold ev at m
  cases m; cases e
  exact q F H (.refl F) r⟩
theorem Eo.some (h : Eb X C Ow e i) (hi : ∀ (σ : Sl) (g g' : G), ev C.Φ i σ g ≠ .ok .none g') : Eo X C Ow (some e) i := ⟨po_con (po_some h.run) fun σ H Q ⟨T, F, σe, g, v, g', oi, r, m, e, q⟩ => by
  refine ⟨T, F, σe, g, v, g', r, m, fun F1 H1 y s1 r1 b1 => ?_⟩
  cases v with
  | int j =>
    cases e
    exact ⟨j, r1.sh b1, q F1 H1 s1 r1⟩
  | none => exact (hi _ _ _ m).elim
  | _ => cases e⟩
theorem cut_rel {K : PySem.W.Frag} {F : Fz} {ds : List D} {vs : List V} (h : RelL K F ds vs) (lo hi : Option Int) : RelL K F (cutD ds lo hi) (cutV vs lo hi) := by
  unfold cutD cutV
  rw [h.length]
  exact (h.drop _).take _
theorem Es.slc {lo hi : Option Expr} {il ih : Ex} {p2 : Pos} (hK : X.K = C.K) (ha : Eb X C Ow a ia) (hl : Eo X C Ow lo il) (hh : Eo X C Ow hi ih) : Es X C Ow (.Subscript a (.Slice lo hi none p2) pos) (.slc ia il ih) :=
  ⟨pe_con (pe_slice (sl_list.or sl_tupA) ha.run hl.run hh.run) fun σ H Q ⟨T, F, σe, g, v, g', r, m, q⟩ => by
    unfold ev at m
    obtain ⟨va, g1, m1, m2⟩ := bind_eq_ok m
    obtain ⟨vl, g2, m3, m4⟩ := bind_eq_ok m2
    obtain ⟨vh, g3, m5, m6⟩ := bind_eq_ok m4
    obtain ⟨m7, e7⟩ := lift_eq_ok m6
    subst e7
    have key : ∀ (ds : List D) (P : List D → D), (match optI vl, optI vh with
        | some l, some h => some (P (cutD ds l h))
        | _, _ => none) = some v → ∃ l h, optI vl = some l ∧ optI vh = some h ∧ v = P (cutD ds l h) := fun ds P z => by
      cases e1 : optI vl with
      | none => rw [e1] at z; cases z
      | some l =>
        cases e2 : optI vh with
        | none => rw [e1, e2] at z; cases z
        | some h => rw [e1, e2] at z; exact ⟨l, h, rfl, rfl, (Option.some.inj z).symm⟩
    cases va with
    | list ds =>
      obtain ⟨l, h, e1, e2, rfl⟩ := key ds .list m7
      refine ⟨T, F, σe, g, _, g1, r, m1, fun F1 H1 y s1 r1 b1 => ⟨T, F1, σe, g1, vl, _, l, r1, m3, e1, fun F2 H2 s2 r2 => ⟨T, F2, σe, _, vh, _, h, r2, m5, e2, fun F3 H3 s3 r3 => .inl ?_⟩⟩⟩
      obtain ⟨p, vs, rfl, h1, h2⟩ := r3.sh ((b1.mono s2).mono s3)
      refine ⟨p, vs, rfl, SqL.of h1, fun p n => ?_⟩
      exact q (F3.put p _) _ _ (s1.trans (s2.trans (s3.trans (Fsub.put (r3.fn n))))) (r3.laid n) (rel_lst (r3.fn n) (cut_rel h2 l h))
    | tuple ds =>
      obtain ⟨l, h, e1, e2, rfl⟩ := key ds .tuple m7
      refine ⟨T, F, σe, g, _, g1, r, m1, fun F1 H1 y s1 r1 b1 => ⟨T, F1, σe, g1, vl, _, l, r1, m3, e1, fun F2 H2 s2 r2 => ⟨T, F2, σe, _, vh, _, h, r2, m5, e2, fun F3 H3 s3 r3 => .inr ?_⟩⟩⟩
      obtain ⟨p, vs, rfl, h1, h2⟩ := r3.sh ((b1.mono s2).mono s3)
      refine ⟨p, vs, rfl, by rw [hK]; exact sqT_mono r3.sub h1, fun z => ?_, fun _ p n => ?_⟩
      · refine q F3 H3 _ (s1.trans (s2.trans s3)) r3 ?_
        unfold Rel
        refine ⟨p, vs, rfl, h1, ?_⟩
        have e : cutV vs l h = vs := by
          unfold cutV
          rw [z.1, z.2]
          simp
        have := cut_rel h2 l h
        rwa [e] at this
      · exact q (F3.put p _) _ _ (s1.trans (s2.trans (s3.trans (Fsub.put (r3.fn n))))) (r3.laid n) (rel_tup (r3.fn n) (cut_rel h2 l h))
    | _ => simp [slcV] at m7⟩
/-- xs[::-1], a list or a tuple -/
theorem Es.rev {k : Nat} {p1 p2 p3 : Pos} (hK : X.K = C.K) (ha : Eb X C Ow a ia) : Es X C Ow (.Subscript a (.Slice none none (some (.UnaryOp .USub (.Constant (.int 1) k p1) p2)) p3) pos) (.rev ia) :=
  ⟨pe_con (pe_rev ha.run) fun σ H Q ⟨T, F, σe, g, v, g', r, m, q⟩ => by
    unfold ev at m
    obtain ⟨va, g1, m1, m2⟩ := bind_eq_ok m
    obtain ⟨m3, e3⟩ := lift_eq_ok m2
    subst e3
    refine ⟨T, F, σe, g, va, _, r, m1, fun F1 H1 y s1 r1 b1 => ?_⟩
    cases va with
    | list ds =>
      cases m3
      obtain ⟨p, vs, rfl, h1, h2⟩ := r1.sh b1
      exact .inl ⟨p, vs, rfl, SqL.of h1, fun p n => q (F1.put p _) _ _ (s1.trans (Fsub.put (r1.fn n))) (r1.laid n) (rel_lst (r1.fn n) h2.reverse)⟩
    | tuple ds =>
      cases m3
      obtain ⟨p, vs, rfl, h1, h2⟩ := r1.sh b1
      exact .inr ⟨p, vs, rfl, by rw [hK]; exact sqT_mono r1.sub h1, fun p n => q (F1.put p _) _ _ (s1.trans (Fsub.put (r1.fn n))) (r1.laid n) (rel_tup (r1.fn n) h2.reverse)⟩
    | _ => simp [revV] at m3⟩

/-! ### dicts with keys that are ints and texts -/
theorem Ef.dnew : Ef X C Ow (.Dict [] [] pos) .dnew :=
  ⟨pe_con pe_dnewK fun σ H Q ⟨T, F, σe, g, v, g', r, m, q⟩ => by
    unfold ev at m
    cases m
    exact fun p n => q F _ p (.refl F) (r.grown n) (new_of r n ⟨rfl, [], upd_same, by unfold RelKV; rfl⟩)⟩
theorem key_rel {K : PySem.W.Frag} {F : Fz} {H : Hp} {k : D} {kx : Key} {y : V} (e : keyD k = some kx) (h : Sh K F H k y) : y = kV kx := by
  cases k <;> simp [keyD] at e
  · subst e; cases h; rfl
  · subst e; cases h; rfl
theorem keq_of {a k : D} {ka kx : Key} (e1 : keyD a = some ka) (e2 : keyD k = some kx) : keq a k = decide (ka = kx) := by
  unfold keq; rw [e1, e2]
theorem look_rel {K : PySem.W.Frag} {F : Fz} {k : D} {kx : Key} (e : keyD k = some kx) : ∀ {kvs : List (D × D)} {kk : List (Key × V)}, RelKV K F kvs kk → (∀ d, dLook k kvs = some d → ∃ v, valV kk kx = some v ∧ Rel K F d v) ∧ (dLook k kvs = none → valV kk kx = none)
  | [], kk, h => by
    unfold RelKV at h; subst h
    exact ⟨(fun d z => by cases z), fun _ => rfl⟩
  | (a, d) :: r, kk, h => by
    unfold RelKV at h
    obtain ⟨ka, v, kr, rfl, e1, e2, e3⟩ := h
    have ih := look_rel (k := k) e e3
    unfold dLook valV at ih ⊢
    rw [List.find?_cons, List.find?_cons]
    simp only [keq_of e1 e]
    by_cases hc : ka = kx
    · simp only [hc, decide_true]
      exact ⟨fun d' z => ⟨v, rfl, by cases z; exact e2⟩, fun z => by cases z⟩
    · simp only [decide_eq_false hc]
      exact ih
theorem any_rel {K : PySem.W.Frag} {F : Fz} {k : D} {kx : Key} (e : keyD k = some kx) : ∀ {kvs : List (D × D)} {kk : List (Key × V)}, RelKV K F kvs kk → (kvs.any fun p => keq p.1 k) = (kk.any fun kv => decide (kv.1 = kx))
  | [], kk, h => by unfold RelKV at h; subst h; rfl
  | (a, d) :: r, kk, h => by
    unfold RelKV at h
    obtain ⟨ka, v, kr, rfl, e1, e2, e3⟩ := h
    rw [List.any_cons, List.any_cons, any_rel e e3]
    simp only [keq_of e1 e]
theorem RelKV.append {K : PySem.W.Frag} {F : Fz} {k d : D} {kx : Key} {v : V} (e : keyD k = some kx) (h : Rel K F d v) : ∀ {kvs : List (D × D)} {kk : List (Key × V)}, RelKV K F kvs kk → RelKV K F (kvs ++ [(k, d)]) (kk ++ [(kx, v)])
  | [], kk, q => by unfold RelKV at q; subst q; unfold RelKV; exact ⟨kx, v, [], rfl, e, h, by unfold RelKV; rfl⟩
  | (a, d0) :: r, kk, q => by
    unfold RelKV at q
    obtain ⟨ka, w, kr, rfl, e1, e2, e3⟩ := q
    show RelKV K F ((a, d0) :: (r ++ [(k, d)])) _
    unfold RelKV
    exact ⟨ka, w, _, rfl, e1, e2, RelKV.append e h e3⟩
theorem RelKV.upd {K : PySem.W.Frag} {F : Fz} {k d : D} {kx : Key} {v : V} (e : keyD k = some kx) (h : Rel K F d v) : ∀ {kvs : List (D × D)} {kk : List (Key × V)}, RelKV K F kvs kk → RelKV K F (kvs.map fun p => if keq p.1 k then (p.1, d) else p) (kk.map fun kv => if kv.1 = kx then (kv.1, v) else kv)
  | [], kk, q => by unfold RelKV at q; subst q; unfold RelKV; rfl
  | (a, d0) :: r, kk, q => by
    unfold RelKV at q
    obtain ⟨ka, w, kr, rfl, e1, e2, e3⟩ := q
    have ih := RelKV.upd (k := k) e h e3
    rw [List.map_cons, List.map_cons]
    simp only [keq_of e1 e]
    by_cases hc : ka = kx
    · simp only [hc, decide_true, if_true]
      unfold RelKV
      exact ⟨kx, v, _, rfl, hc ▸ e1, h, ih⟩
    · simp only [decide_eq_false hc, if_neg hc, Bool.false_eq_true, if_false]
      unfold RelKV
      exact ⟨ka, w, _, rfl, e1, e2, ih⟩
theorem put_rel {K : PySem.W.Frag} {F : Fz} {k d : D} {kx : Key} {v : V} {kvs : List (D × D)} {kk : List (Key × V)} (e : keyD k = some kx) (h : Rel K F d v) (q : RelKV K F kvs kk) : RelKV K F (dPut k d kvs) (putK kk kx v) := by
  unfold dPut putK
  rw [any_rel e q]
  split
  · exact q.upd e h
  · exact q.append e h
theorem RelKV.length {K : PySem.W.Frag} {F : Fz} : ∀ {kvs : List (D × D)} {kk : List (Key × V)}, RelKV K F kvs kk → kvs.length = kk.length
  | [], kk, q => by unfold RelKV at q; subst q; rfl
  | (a, d0) :: r, kk, q => by
    unfold RelKV at q
    obtain ⟨ka, w, kr, rfl, e1, e2, e3⟩ := q
    rw [List.length_cons, List.length_cons, RelKV.length e3]
theorem dPut_mark {k d : D} {kx : Key} {kvs : List (D × D)} (e : keyD k = some kx) (h : isDeck kvs = false) : isDeck (dPut k d kvs) = false := by
  have hk : isDeck [(k, d)] = false := by cases k <;> simp [keyD] at e <;> rfl
  unfold dPut
  cases kvs with
  | nil => exact hk
  | cons p r =>
    obtain ⟨a, w⟩ := p
    split
    · rw [List.map_cons]
      cases a <;> first | (split <;> rfl) | (unfold isDeck at h; cases h)
    · cases a <;> first | rfl | (unfold isDeck at h; cases h)
theorem isDeckN {kvs : List (D × D)} {b : Bool} (h : ¬ ((isDeck kvs || b) = true)) : isDeck kvs = false ∧ b = false := by
  cases e : isDeck kvs <;> cases b <;> simp_all
theorem Es.dget1 (hK : X.K = C.K) (hu : X.A.units + 1 < cLine) (ha : Eb X C Ow a ia) (hb : Eb X C Ow b ib) (m : M1 X a "get" apos b pos) : Es X C Ow (.Call (.Attribute a "get" apos) [b] [] pos) (.dget ia ib (.c .none)) :=
  ⟨pe_con (pe_dget1 hu ha.run hb.run m) fun σ H Q ⟨T, F, σe, g, v, g', r, m, q⟩ => by
    unfold ev at m
    obtain ⟨dv, g1, m1, m2⟩ := bind_eq_ok m
    obtain ⟨kv, g2, m3, m4⟩ := bind_eq_ok m2
    obtain ⟨xv, g3, m5, m6⟩ := bind_eq_ok m4
    unfold ev at m5
    cases m5
    obtain ⟨m7, e7⟩ := lift_eq_ok m6
    subst e7
    cases dv with
    | dict kvs =>
      simp only [dgetV] at m7
      split at m7
      · cases m7
      · rename_i hc
        obtain ⟨hd, hk⟩ := isDeckN hc
        cases m7
        obtain ⟨kx, ek⟩ : ∃ kx, keyD kv = some kx := by
          cases z : keyD kv with
          | none => rw [z] at hk; cases hk
          | some kx => exact ⟨kx, rfl⟩
        refine ⟨T, F, σe, g, _, g1, r, m1, fun F1 H1 y s1 r1 b1 => ?_⟩
        have hy := r1.sh b1
        rcases hy with ⟨z, _⟩ | ⟨_, p, kk, rfl, h1, h2⟩
        · rw [hd] at z; cases z
        refine ⟨p, rfl, .inl ⟨kk, .inl h1⟩, T, F1, σe, g1, kv, _, r1, m3, fun F2 H2 z s2 r2 b2 => ?_⟩
        have hz := key_rel ek (r2.sh b2)
        subst hz
        rcases r2.sh (b1.mono s2) with ⟨z, _⟩ | ⟨_, p', kk', e', h1, h2⟩
        · rw [hd] at z; cases z
        cases e'
        refine ⟨_, DGet.k h1, ?_⟩
        obtain ⟨l1, l2⟩ := look_rel ek h2
        cases z : dLook kv kvs with
        | none =>
          rw [z] at q
          rw [l2 z]
          exact q F2 H2 _ (s1.trans s2) r2 rel_non
        | some d =>
          rw [z] at q
          obtain ⟨w, e1, e2⟩ := l1 d z
          rw [e1]
          exact q F2 H2 _ (s1.trans s2) r2 e2
    | _ => simp [dgetV] at m7⟩
theorem Es.dget2 (hK : X.K = C.K) (hu : X.A.units + 1 < cLine) {c : Expr} {ic : Ex} (ha : Eb X C Ow a ia) (hb : Eb X C Ow b ib) (hc : Es X C Ow c ic) (m : M2 X a "get" apos b c pos) : Es X C Ow (.Call (.Attribute a "get" apos) [b, c] [] pos) (.dget ia ib ic) :=
  ⟨pe_con (pe_dget2 hu ha.run hb.run hc.run m) fun σ H Q ⟨T, F, σe, g, v, g', r, m, q⟩ => by
    unfold ev at m
    obtain ⟨dv, g1, m1, m2⟩ := bind_eq_ok m
    obtain ⟨kv, g2, m3, m4⟩ := bind_eq_ok m2
    obtain ⟨xv, g3, m5, m6⟩ := bind_eq_ok m4
    obtain ⟨m7, e7⟩ := lift_eq_ok m6
    subst e7
    cases dv with
    | dict kvs =>
      simp only [dgetV] at m7
      split at m7
      · cases m7
      · rename_i hc
        obtain ⟨hd, hk⟩ := isDeckN hc
        cases m7
        obtain ⟨kx, ek⟩ : ∃ kx, keyD kv = some kx := by
          cases z : keyD kv with
          | none => rw [z] at hk; cases hk
          | some kx => exact ⟨kx, rfl⟩
        refine ⟨T, F, σe, g, _, g1, r, m1, fun F1 H1 y s1 r1 b1 => ?_⟩
        have hy := r1.sh b1
        rcases hy with ⟨z, _⟩ | ⟨_, p, kk, rfl, h1, h2⟩
        · rw [hd] at z; cases z
        refine ⟨p, rfl, .inl ⟨kk, .inl h1⟩, T, F1, σe, g1, kv, _, r1, m3, fun F2 H2 z s2 r2 b2 => ⟨T, F2, σe, _, xv, _, r2, m5, fun F3 H3 y3 s3 r3 h3 => ?_⟩⟩
        have hz := key_rel ek (r2.sh b2)
        subst hz
        rcases r3.sh (b1.mono (s2.trans s3)) with ⟨z, _⟩ | ⟨_, p', kk', e', h1, h2⟩
        · rw [hd] at z; cases z
        cases e'
        refine ⟨_, DGet.k h1, ?_⟩
        obtain ⟨l1, l2⟩ := look_rel ek h2
        cases z : dLook kv kvs with
        | none =>
          rw [z] at q
          rw [l2 z]
          exact q F3 H3 _ (s1.trans (s2.trans s3)) r3 h3
        | some d =>
          rw [z] at q
          obtain ⟨w, e1, e2⟩ := l1 d z
          rw [e1]
          exact q F3 H3 _ (s1.trans (s2.trans s3)) r3 e2
    | _ => simp [dgetV] at m7⟩
theorem Es.dix (hK : X.K = C.K) (hu : X.A.units + 1 < cLine) (ha : Eb X C Ow a ia) (hb : Eb X C Ow b ib) (hs : NoSl b) : Es X C Ow (.Subscript a b pos) (.dix ia ib) :=
  ⟨pe_con (pe_dget hu ha.run hb.run hs) fun σ H Q ⟨T, F, σe, g, v, g', r, m, q⟩ => by
    unfold ev at m
    obtain ⟨dv, g1, m1, m2⟩ := bind_eq_ok m
    obtain ⟨kv, g2, m3, m4⟩ := bind_eq_ok m2
    obtain ⟨m7, e7⟩ := lift_eq_ok m4
    subst e7
    cases dv with
    | dict kvs =>
      simp only [dixV] at m7
      split at m7
      · cases m7
      · rename_i hc
        obtain ⟨hd, hk⟩ := isDeckN hc
        obtain ⟨kx, ek⟩ : ∃ kx, keyD kv = some kx := by
          cases z : keyD kv with
          | none => rw [z] at hk; cases hk
          | some kx => exact ⟨kx, rfl⟩
        refine ⟨T, F, σe, g, _, g1, r, m1, fun F1 H1 y s1 r1 b1 => ⟨T, F1, σe, g1, kv, _, r1, m3, fun F2 H2 z s2 r2 b2 => ?_⟩⟩
        have hz := key_rel ek (r2.sh b2)
        subst hz
        rcases r2.sh (b1.mono s2) with ⟨z, _⟩ | ⟨_, p', kk', e', h1, h2⟩
        · rw [hd] at z; cases z
        subst e'
        obtain ⟨l1, l2⟩ := look_rel ek h2
        obtain ⟨w, e1, e2⟩ := l1 v m7
        exact ⟨p', w, rfl, by rw [← e1]; exact DGet.k h1, q F2 H2 _ (s1.trans s2) r2 e2⟩
    | _ => simp [dixV] at m7⟩
theorem Et.dhas (hK : X.K = C.K) (hu : X.A.units + 1 < cLine) (ha : Eb X C Ow a ia) (hb : Eb X C Ow b ib) : PC X .In a b (tS C Ow (ev C.Φ (.dhas ia ib false))) := by
  refine ⟨fun pins s σ H Q I h => (pc_din hu ha.run hb.run).run pins s σ H Q I ?_⟩
  obtain ⟨T, F, σe, g, v, g', r, m, q⟩ := h
  unfold ev at m
  obtain ⟨kv, g1, m1, m2⟩ := bind_eq_ok m
  obtain ⟨dv, g2, m3, m4⟩ := bind_eq_ok m2
  obtain ⟨m7, e7⟩ := lift_eq_ok m4
  subst e7
  obtain ⟨k, m8, e8⟩ := map_some m7
  subst e8
  cases dv with
  | dict kvs =>
    simp only [dhasV] at m8
    split at m8
    · cases m8
    · rename_i hc
      obtain ⟨hd, hk⟩ := isDeckN hc
      cases m8
      obtain ⟨kx, ek⟩ : ∃ kx, keyD kv = some kx := by
        cases z : keyD kv with
        | none => rw [z] at hk; cases hk
        | some kx => exact ⟨kx, rfl⟩
      refine ⟨T, F, σe, g, _, g1, r, m1, fun F1 H1 y s1 r1 b1 => ⟨T, F1, σe, g1, _, _, r1, m3, fun F2 H2 z s2 r2 b2 => ?_⟩⟩
      have hz := key_rel ek (r2.sh (b1.mono s2))
      subst hz
      rcases r2.sh b2 with ⟨z, _⟩ | ⟨_, p', kk', e', h1, h2⟩
      · rw [hd] at z; cases z
      subst e'
      refine ⟨p', _, rfl, DGet.k h1, ?_⟩
      obtain ⟨l1, l2⟩ := look_rel ek h2
      refine q F2 H2 _ (s1.trans s2) r2 ?_
      cases z : dLook kv kvs with
      | none => rw [l2 z]; exact rel_bl
      | some d =>
        obtain ⟨w, e1, e2⟩ := l1 d z
        rw [e1]; exact rel_bl
  | _ => simp [dhasV] at m8
theorem Et.dhasN (hK : X.K = C.K) (hu : X.A.units + 1 < cLine) (ha : Eb X C Ow a ia) (hb : Eb X C Ow b ib) : PC X .NotIn a b (tS C Ow (ev C.Φ (.dhas ia ib true))) := by
  refine ⟨fun pins s σ H Q I h => (pc_dnotin hu ha.run hb.run).run pins s σ H Q I ?_⟩
  obtain ⟨T, F, σe, g, v, g', r, m, q⟩ := h
  unfold ev at m
  obtain ⟨kv, g1, m1, m2⟩ := bind_eq_ok m
  obtain ⟨dv, g2, m3, m4⟩ := bind_eq_ok m2
  obtain ⟨m7, e7⟩ := lift_eq_ok m4
  subst e7
  obtain ⟨k, m8, e8⟩ := map_some m7
  subst e8
  cases dv with
  | dict kvs =>
    simp only [dhasV] at m8
    split at m8
    · cases m8
    · rename_i hc
      obtain ⟨hd, hk⟩ := isDeckN hc
      cases m8
      obtain ⟨kx, ek⟩ : ∃ kx, keyD kv = some kx := by
        cases z : keyD kv with
        | none => rw [z] at hk; cases hk
        | some kx => exact ⟨kx, rfl⟩
      refine ⟨T, F, σe, g, _, g1, r, m1, fun F1 H1 y s1 r1 b1 => ⟨T, F1, σe, g1, _, _, r1, m3, fun F2 H2 z s2 r2 b2 => ?_⟩⟩
      have hz := key_rel ek (r2.sh (b1.mono s2))
      subst hz
      rcases r2.sh b2 with ⟨z, _⟩ | ⟨_, p', kk', e', h1, h2⟩
      · rw [hd] at z; cases z
      subst e'
      refine ⟨p', _, rfl, DGet.k h1, ?_⟩
      obtain ⟨l1, l2⟩ := look_rel ek h2
      refine q F2 H2 _ (s1.trans s2) r2 ?_
      cases z : dLook kv kvs with
      | none => rw [l2 z]; exact rel_bl
      | some d =>
        obtain ⟨w, e1, e2⟩ := l1 d z
        rw [e1]; exact rel_bl
  | _ => simp [dhasV] at m8
theorem Es.dhas (hK : X.K = C.K) (hu : X.A.units + 1 < cLine) (ha : Eb X C Ow a ia) (hb : Eb X C Ow b ib) (h1 : behindInMarks .In b = false) : Es X C Ow (.Compare a [.In] [b] pos) (.dhas ia ib false) := ⟨pe_cmp (Et.dhas hK hu ha hb) h1⟩
theorem Es.dhasN (hK : X.K = C.K) (hu : X.A.units + 1 < cLine) (ha : Eb X C Ow a ia) (hb : Eb X C Ow b ib) (h1 : behindInMarks .NotIn b = false) : Es X C Ow (.Compare a [.NotIn] [b] pos) (.dhas ia ib true) := ⟨pe_cmp (Et.dhasN hK hu ha hb) h1⟩
end
end Pv
end

section
/-! PvJ: lists and dicts changed; a def; the law. -/
set_option autoImplicit false
namespace Pv
open PySem PySem.Spec PyProof.Rows L2

section
variable {X : Cx} {C : Ct} {Ow Ow' OwL : List Nat} {e a b c : Expr} {es : List Expr} {i ia ib ic : Ex} {is : Exs} {pos p apos np pos' : Pos} {x : Str} {n : Nat}
theorem own_list {T : Hp} {F : Fz} {σe : Sl} {g : G} {σ : L2.St} {H : Hp} {xs : List D} (r : R C Ow T F σe g σ H) (hn : n ∈ Ow) (e : σe[n]? = some (some (.list xs))) : ∃ a vs, σ[n]? = some (some (V.ref a)) ∧ H a = some (.lst vs) ∧ RelL C.K F xs vs := by
  obtain ⟨a, e1, ⟨vs, e2, e3⟩, _⟩ := r.ow n _ e hn
  exact ⟨a, vs, e1, e2, e3⟩
theorem own_dict {T : Hp} {F : Fz} {σe : Sl} {g : G} {σ : L2.St} {H : Hp} {xs : List (D × D)} (r : R C Ow T F σe g σ H) (hn : n ∈ Ow) (e : σe[n]? = some (some (.dict xs))) : ∃ a vs, σ[n]? = some (some (V.ref a)) ∧ H a = some (.dK vs) ∧ RelKV C.K F xs vs ∧ isDeck xs = false := by
  obtain ⟨a, e1, ⟨e0, vs, e2, e3⟩, _⟩ := r.ow n _ e hn
  exact ⟨a, vs, e1, e2, e3, e0⟩
/-- xs.append(e) -/
theorem Ss.app (n : Nat) (hn : n ∈ Ow) (hN : X.N[n]? = some x) (hv : Vis X.env.scope x) (hd : (x == ("__debug__" : Str)) = false) (hcd : (x == ("__classdict__" : Str)) = false) (h : Es X C Ow e i)
    (hbase : attributeBase (.Name x np) "append" X.env (eval (.Name x np) X.env) = eval (.Name x np) X.env)
    (hfew : ((backTo pos (starEach [e] X.env)).all (fun x => !x.1) && (backToKw pos (keywordEach [] X.env)).all (fun x => x.1.isSome) && decide (([e] : List Expr).length + ([] : List Keyword).length + (if ([] : List Keyword).isEmpty then 0 else 1) < 30)) = true)
    (hline : (apos.endLine == pos.line) = true) (hs : starEach [e] X.env = (false, eval e X.env) :: starEach [] X.env) (hpl : (backTo pos (starEach [] X.env)).any (·.1) = false) (hsw : swapsWith (.Call (.Attribute (.Name x np) "append" apos) [e] [] pos) none pos'.line X.env = pure false) :
    Ss X C Ow Ow OwL (.Expr (.Call (.Attribute (.Name x np) "append" apos) [e] [] pos) pos') (.app n i) :=
  ⟨ps_con (ps_expr (pe_bm PySem.F.plainAttrs_list PySem.F.slot_list_append PySem.F.type_list_append (by exact mt_append) (pe_var hN hv hd hcd) (pa_cons h.run pa_nil hs) hbase hfew hline hs hpl) hsw) fun D σ H ⟨T, F, σe, g, fl, g', r, m, q⟩ => by
    unfold Pv.run at m
    obtain ⟨d0, g0, m0, m1⟩ := bind_eq_ok m
    obtain ⟨e0, e0'⟩ := slot_ok m0
    subst e0'
    obtain ⟨v, g1, m2, m3⟩ := bind_eq_ok m1
    obtain ⟨d1, g2, m4, m5⟩ := bind_eq_ok m3
    obtain ⟨e1, e1'⟩ := slot_ok m4
    subst e1'
    obtain ⟨d2, g3, m6, m7⟩ := bind_eq_ok m5
    obtain ⟨m8, e8⟩ := lift_eq_ok m6
    subst e8
    cases m7
    rw [e0] at e1
    have e1 : d0 = d1 := Option.some.inj (Option.some.inj e1)
    subst e1
    cases d0 with
    | list xs =>
      simp only [appV] at m8
      split at m8
      · rename_i hc
        cases m8
        obtain ⟨p, vs, q1, q2, q3⟩ := own_list r hn e0
        refine ⟨.ref p, q1, .inl ⟨rfl, vs, SqL.of q2⟩, T, F, σe, _, v, _, r, m2, fun F1 H1 y s1 r1 h1 => ?_⟩
        obtain ⟨p', vs', z1, z2, z3⟩ := own_list r1 hn e0
        rw [q1] at z1
        cases z1
        refine ⟨p, vs', y, rfl, rfl, z2, ?_, q F1 _ _ s1 (r1.write hn e0 q1 ⟨_, upd_same, z3.append (.cons h1 .nil)⟩)⟩
        rw [← z3.length]
        exact lineN_lt (of_decide_eq_true hc)
      · cases m8
    | _ => simp [appV] at m8⟩
/-- xs[k] = e, a list -/
theorem Ss.setIx {k : Expr} {ik : Ex} (n : Nat) (hn : n ∈ Ow) (hN : X.N[n]? = some x) (hv : Vis X.env.scope x) (hd : (x == ("__debug__" : Str)) = false) (hcd : (x == ("__classdict__" : Str)) = false) (h : Es X C Ow e i) (hk : Eb X C Ow k ik)
    (ha : ∀ v, assign (.Subscript (.Name x np) k apos) X.env v = (do
      let ov ← holding [v] (eval (.Name x np) X.env)
      let iv ← holding [v, ov] (eval k X.env)
      standAt apos
      holding [v, ov, iv] (setItem ov iv v)
      release [v, ov, iv] [])) (hs : swapsWithSole [.Subscript (.Name x np) k apos] e pos.line X.env = pure false) (hw : swappedStores [.Subscript (.Name x np) k apos] e X.env = pure none) (h1 : (assignEach [.Subscript (.Name x np) k apos] X.env).map (·.2) = [assign (.Subscript (.Name x np) k apos) X.env]) :
    Ss X C Ow Ow OwL (.Assign [.Subscript (.Name x np) k apos] e pos) (.setIx n ik i) :=
  ⟨ps_con (ps_asg h.run (pg_sub (pe_var hN hv hd hcd) hk.run set_list ha) hs hw h1) fun D σ H ⟨T, F, σe, g, fl, g', r, m, q⟩ => by
    unfold Pv.run at m
    obtain ⟨v, g1, m1, m2⟩ := bind_eq_ok m
    obtain ⟨d0, g2, m3, m4⟩ := bind_eq_ok m2
    obtain ⟨e0, e0'⟩ := slot_ok m3
    subst e0'
    obtain ⟨kv, g3, m5, m6⟩ := bind_eq_ok m4
    obtain ⟨d2, g4, m7, m8⟩ := bind_eq_ok m6
    obtain ⟨m9, e9⟩ := lift_eq_ok m7
    subst e9
    cases m8
    cases d0 with
    | list xs =>
      cases kv with
      | int j =>
        obtain ⟨jj, e2, e3⟩ := map_some m9
        subst e3
        refine ⟨T, F, σe, g, v, _, r, m1, fun F1 H1 y s1 r1 h1 => ?_⟩
        obtain ⟨p, vs, q1, q2, q3⟩ := own_list r1 hn e0
        refine ⟨.ref p, q1, T, F1, σe, _, _, _, r1, m5, fun F2 H2 z s2 r2 b2 => ?_⟩
        have hz : z = .int j := r2.sh b2
        subst hz
        obtain ⟨p', vs', z1, z2, z3⟩ := own_list r2 hn e0
        rw [q1] at z1
        cases z1
        exact ⟨p, vs', j, jj, rfl, rfl, z2, by rw [← z3.length]; exact e2, q F2 _ _ (s1.trans s2) (r2.write hn e0 q1 ⟨_, upd_same, z3.set (h1.mono s2 _ _) jj⟩)⟩
      | _ => simp [setIxV] at m9
    | _ => simp [setIxV] at m9⟩
/-- d.setdefault(k, e) -/
theorem Ss.setd {k : Expr} {ik : Ex} (n : Nat) (hn : n ∈ Ow) (hN : X.N[n]? = some x) (hv : Vis X.env.scope x) (hd : (x == ("__debug__" : Str)) = false) (hcd : (x == ("__classdict__" : Str)) = false) (hk : Eb X C Ow k ik) (h : Es X C Ow e i)
    (m2 : M2 X (.Name x np) "setdefault" apos k e pos) (hsw : swapsWith (.Call (.Attribute (.Name x np) "setdefault" apos) [k, e] [] pos) none pos'.line X.env = pure false) :
    Ss X C Ow Ow OwL (.Expr (.Call (.Attribute (.Name x np) "setdefault" apos) [k, e] [] pos) pos') (.setd n ik i) :=
  ⟨ps_con (ps_expr (pe_dsetd (pe_var hN hv hd hcd) hk.run h.run m2) hsw) fun D σ H ⟨T, F, σe, g, fl, g', r, m, q⟩ => by
    unfold Pv.run at m
    obtain ⟨d0, g0, m0, m1⟩ := bind_eq_ok m
    obtain ⟨e0, e0'⟩ := slot_ok m0
    subst e0'
    obtain ⟨kv, g1, m2, m3⟩ := bind_eq_ok m1
    obtain ⟨v, g2, m4, m5⟩ := bind_eq_ok m3
    obtain ⟨d2, g3, m6, m7⟩ := bind_eq_ok m5
    obtain ⟨m8, e8⟩ := lift_eq_ok m6
    subst e8
    cases m7
    cases d0 with
    | dict kvs =>
      simp only [setdV] at m8
      split at m8
      · cases m8
      · rename_i hc
        obtain ⟨p, vs, q1, q2, q3, q4⟩ := own_dict r hn e0
        refine ⟨.ref p, q1, p, rfl, .inl ⟨vs, .inl q2⟩, T, F, σe, _, kv, _, r, m2, fun F1 H1 y s1 r1 b1 => ⟨T, F1, σe, _, v, _, r1, m4, fun F2 H2 z s2 r2 h2 => ?_⟩⟩
        obtain ⟨kx, ek⟩ : ∃ kx, keyD kv = some kx := by
          cases z : keyD kv with
          | none => rw [z] at hc; simp at hc
          | some kx => exact ⟨kx, rfl⟩
        have hz := key_rel ek (r2.sh (b1.mono s2))
        obtain ⟨p', vs', z1, z2, z3, _⟩ := own_dict r2 hn e0
        rw [q1] at z1
        cases z1
        obtain ⟨l1, l2⟩ := look_rel ek z3
        have hl : vs'.length < sizeLine := by
          rw [← z3.length]
          refine lineN_lt ?_
          simp at hc
          exact hc.2
        refine ⟨vs', kx, z2, hz, hl, fun w hw => ?_, fun hw => ?_⟩
        · cases zl : dLook kv kvs with
          | none => rw [l2 zl] at hw; cases hw
          | some d =>
            rw [zl] at m8
            cases m8
            have e1 : σe.set n (some (.dict kvs)) = σe := by
              apply List.ext_getElem?
              intro j
              by_cases hj : n = j
              · subst hj
                rw [List.getElem?_set_self (List.getElem?_eq_some_iff.mp e0).1, e0]
              · rw [List.getElem?_set_ne hj]
            rw [e1] at q
            exact q F2 _ _ (s1.trans s2) r2
        · cases zl : dLook kv kvs with
          | some d =>
            obtain ⟨w, e1, _⟩ := l1 d zl
            rw [hw] at e1; cases e1
          | none =>
            rw [zl] at m8
            cases m8
            exact q F2 _ _ (s1.trans s2) (r2.write hn e0 q1 ⟨dPut_mark ek q4, _, upd_same, put_rel ek h2 z3⟩)
    | _ => simp [setdV] at m8⟩
end

/-! ### a def -/
section
variable {P : Program} {w : World} {K : PySem.W.Frag} {mg : Str → Option Value} {base : Heap} {x qual : Str} {st : Stmt} {f : Addr} {fd : FuncData} {N ps : List Str} {k : Nat}
theorem start_len {vs : List V} (h : vs.length ≤ N.length) : (L2.start N vs).length = N.length := by
  unfold L2.start
  rw [List.length_append, List.length_map, List.length_replicate]
  omega
/-- the state at a def's start -/
theorem R.start {C : Ct} {F : Fz} {ds : List D} {g : G} {H : Hp} {vs : List V} (hH : C.H0 = H) (hF : C.F0 = F) (sub : Same F.h H) (sc : F.sc = C.sc) (dk : DkR C F g H) (h : RelL C.K F ds vs) (hn : vs.length ≤ N.length) :
    R C [] (fun _ => none) F (ds.map some ++ List.replicate (N.length - ds.length) none) g (L2.start N vs) H := by
  subst hH; subst hF
  have hl := h.length
  refine ⟨sub, sc, .refl _, (fun a o e n => by rw [n] at e; cases e), fun a o e => .inr e, fun d l e => .inl e, ?_, fun i v e n => ?_, fun i v e n => absurd n (List.not_mem_nil), fun i j a hi => absurd hi (List.not_mem_nil), dk, (fun a o e => by cases e)⟩
  · rw [start_len hn, List.length_append, List.length_map, List.length_replicate]; omega
  · have hi : i < ds.length := by
      by_cases hi : i < ds.length
      · exact hi
      · rw [List.getElem?_append_right (by rw [List.length_map]; omega), List.getElem?_replicate] at e
        split at e <;> cases e
    rw [List.getElem?_append_left (by rw [List.length_map]; exact hi), List.getElem?_map] at e
    cases q : ds[i]? with
    | none => rw [q] at e; cases e
    | some d =>
      rw [q] at e
      cases e
      obtain ⟨u, e1, e2⟩ := h.get q
      refine ⟨u, ?_, e2⟩
      unfold L2.start
      rw [List.getElem?_append_left (by rw [List.length_map]; rw [← hl]; exact hi), List.getElem?_map, e1]
      rfl
/-- a def's body in the small language gives its promise -/
theorem defOk {C0 : Ct} (F : Fun K x qual st f fd) (S : FnScope N ps (defScope st)) (hK : C0.K = K) (fi : Nat) (m : Sm) (T : List Fn) (pr : Prims) (d : Nat) (hpr : pr fi = none) (hT : T[fi]? = some ⟨ps.length, N.length, m⟩) (hps : ps.length ≤ N.length)
    (body : ∀ (cdv : Value) (A : Around) (outer : List Env) (s : Shared) (H : Hp) (F0 : Fz), A.guards = some [] → Room k (A.deeper (envOfC qual (defScope st) s.heap.objs.size f cdv)) →
      ∃ Ow', Sb (cxOf CX0 P w K mg base N qual (defScope st) f cdv A outer s H E0).nox { C0 with H0 := H, F0 := F0, Φ := FT T pr d, fu := fuel } [] Ow' [] (defBody st) m) :
    FnG P w K mg base CX0 (k + 1) f fd ps (spS C0 (FT T pr (d + 1) fi) ps.length) := by
  refine funOk F S (fun vs H Q E h => h.1) fun cdv A outer s H vs Q E hg hr hsp => ?_
  obtain ⟨hn, F0, ds, g, v, g', sub, sc, dk, rl, hev, q⟩ := hsp
  obtain ⟨Ow', hb⟩ := body cdv A outer s H F0 hg hr
  unfold FT at hev
  rw [hpr] at hev
  simp only [hT] at hev
  split at hev
  · rename_i hl
    refine ⟨_, (show PSs (cxOf CX0 P w K mg base N qual (defScope st) f cdv A outer s H E).nox _ _ from hb.run), ?_⟩
    cases hr0 : Pv.run (FT T pr d) fuel m (ds.map some ++ List.replicate (N.length - ps.length) none) g with
    | no => rw [hr0] at hev; cases hev
    | exc c vs g1 => rw [hr0] at hev; cases hev
    | ok fl g1 =>
      rw [hr0] at hev
      have r := R.start (C := { C0 with H0 := H, F0 := F0, Φ := FT T pr d, fu := fuel }) (N := N) (vs := vs) rfl rfl sub sc (show DkR _ F0 g H from dk) rl (by rw [hn]; exact hps)
      rw [hl] at r
      have endR : ∀ {F' : Fz} {Ow2 : List Nat} {σe2 : Sl} {σ2 : L2.St} {H' : Hp} {y : V} {v2 : D}, Fsub F0 F' → R { C0 with H0 := H, F0 := F0, Φ := FT T pr d, fu := fuel } Ow2 (fun _ => none) F' σe2 g1 σ2 H' → Rel C0.K F' v2 y → v2 = v → g1 = g' → Q y H' := fun {F' Ow2 σe2 σ2 H' y v2} s1 r1 h1 e1 e2 => by
        subst e1; subst e2
        exact q F' H' y s1 r1.sub (fun a o z1 z2 => r1.new a o z1 z2) (fun a o z => r1.keep a o z) (fun d l z => r1.dnew d l z) r1.dk h1
      refine ⟨fun _ => none, F0, _, g, fl, g1, r, hr0, ?_⟩
      cases fl with
      | nx σe' => cases hev; exact fun F' σ' H' s1 r1 => endR s1 r1 rel_non rfl rfl
      | rt v2 => cases hev; exact fun F' Ow2 σe2 σ2 H' y s1 r1 h1 => endR s1 r1 h1 rfl rfl
      | bk σe' => cases hev
      | ct σe' => cases hev
  · cases hev
end
end Pv
end

section
/-! PvK: the law's end; decks. -/
set_option autoImplicit false
namespace Pv
open PySem PySem.Spec PyProof.Rows L2

/-! ### the end -/
/-- what is wanted of the law's call -/
def Good (s₁ : Shared) (r : Result) (s' : Shared) : Prop := r = .ok (.ret (.bool true)) ∧ OldK s₁.heap s'.heap ∧ s'.os = s₁.os ∧ AllBare s'.gens
section
variable {P : Program} {w : World} {K : PySem.W.Frag} {mg mb : Str → Option Value} {k : Nat} {fa a : Addr} {fd : FuncData} {x : Str} {sp : Sp} {s₁ : Shared} {vs : List Value} {ns : List Int}
/-- the heap with nothing tracked but the script, and that as it stands -/
def scriptHp (K : PySem.W.Frag) (a : Addr) (vs : List Value) (ns : List Int) : Hp := fun b => if b = a ∧ K.lookup a = none then some (.frz { cls := .type "list", data := .seq vs.toArray } (.lst (ns.map V.int))) else none
theorem scriptHp_cases (b : Addr) : scriptHp K a vs ns b = none ∨ (b = a ∧ K.lookup a = none ∧ scriptHp K a vs ns b = some (.frz { cls := .type "list", data := .seq vs.toArray } (.lst (ns.map V.int)))) := by
  unfold scriptHp
  by_cases h : b = a ∧ K.lookup a = none
  · exact .inr ⟨h.1, h.2, if_pos h⟩
  · exact .inl (if_neg h)
theorem lawEnd (KX : K.In s₁.heap) (hns : s₁.heap.Ns mainGlobals mg) (hb : s₁.heap.Ns builtinsNs mb) (hbb : ∀ x : Str, x ≠ "__name__" → mb x = bootBuiltins x) (hlim : s₁.heap.NoLimit) (hg : s₁.gens = #[])
    (ha : s₁.heap.get? a = some { cls := .type "list", data := .seq vs.toArray }) (hi : IntsAre vs ns) (hl : ns.length ≤ sizeLine) (hr : Room k callerA)
    (F : ∀ base : Heap, K.In base → base.Ns mainGlobals mg → FnG P w K mg base CX0 k fa fd [x] sp) (hbind : ∀ (s : Shared) (u : Value), BindsTo s fd ⟨[u], []⟩ [(x, u)])
    (hsp : ∀ H : Hp, (∀ b, H b = none ∨ ∃ o xs, H b = some (.frz o (.lst xs))) → SqL K H a (ns.map V.int) → sp [.ref a] H (fun v _ => v = .bl true) fun _ _ _ => False) : codeAny (model P w) callerA (.call (.ref fa) ⟨[.ref a], []⟩) (Good s₁) s₁ := by
  have rv := vals_ints hi
  have cs := scriptHp_cases (K := K) (a := a) (vs := vs) (ns := ns)
  let H := scriptHp K a vs ns
  have only : ∀ b, H b = none ∨ ∃ o xs, H b = some (.frz o (.lst xs)) := fun b => (cs b).imp id fun z => ⟨_, _, z.2.2⟩
  have isSeq : SqL K H a (ns.map V.int) := by
    cases hk : K.lookup a with
    | none => exact .inl (.inr ⟨_, if_pos ⟨rfl, hk⟩⟩)
    | some o =>
      have e := KX a o hk
      rw [ha] at e
      cases e
      exact .inr ⟨_, vs.toArray, _, hk, rfl, rfl, rfl, by rw [List.size_toArray, hi.length]; exact hl, by simpa using rv⟩
  have hok : HOk P w H s₁.heap := fun b u z => by
    rcases cs b with q | ⟨rfl, _, q⟩
    · rw [show H b = none from q] at z; cases z
    · rw [show H b = _ from q] at z; cases z
      exact ⟨ha, by rw [List.length_map]; exact hl, vs, _, rv, ha⟩
  have keep : ∀ {b : Addr} {o : Obj}, s₁.heap.get? b = some o → (b = a → o.data ≠ .seq vs.toArray 0) → (hidT s₁.heap H).get? b = some o := fun {b o} e n => hidT_get e (by
    rcases cs b with q | ⟨rfl, _, q⟩
    · exact q
    · rw [ha] at e; cases e
      exact (n rfl rfl).elim)
  have ns2 : ∀ {b : Addr} {m : Str → Option Value}, s₁.heap.Ns b m → (hidT s₁.heap H).Ns b m := fun {b m} ⟨o, es, ep, e, d, r⟩ => ⟨o, es, ep, keep e fun _ z => (by rw [d] at z; cases z), d, r⟩
  have inB : K.In (hidT s₁.heap H) := fun b o e => hidT_get (KX b o e) (by
    rcases cs b with q | ⟨rfl, z, _⟩
    · exact q
    · rw [z] at e; cases e)
  have md : Mod K mg (hidT s₁.heap H) := ⟨inB, ns2 hns, ⟨mb, ns2 hb, hbb⟩, hlim.imp fun mc z => ⟨ns2 z.1, z.2⟩⟩
  have e0 : Env0 P w K mg (hidT s₁.heap H) callerA [] s₁ H := ⟨rfl, md, fun b o e => of_hidT e, Nat.le_of_eq (hidT_size _ _), trivial, (fun b hb => nomatch hb), hok, .of_eq hg⟩
  refine codeAny_mono ((F _ inB (ns2 hns)).run callerA [] s₁ H ⟨[.ref a], []⟩ [.ref a] [.ref a] _ _ rfl hr e0 (hbind s₁ (.ref a)) (.cons rfl .nil) (hsp H only isSeq)) fun r s' h => ?_
  match r, h with
  | .error e, h => exact False.elim h
  | .ok .next, h => exact False.elim h
  | .ok .brk, h => exact False.elim h
  | .ok .cont, h => exact False.elim h
  | .ok (.ret u), ⟨v, H', os, bare, un, hok', r', q⟩ =>
    subst q
    cases r'
    refine ⟨rfl, OldK.of_keep fun b o e => ?_, os, bare⟩
    rcases cs b with z | ⟨_, _, z⟩
    · exact un.keep b o e z (fun y => nomatch y) (fun y => nomatch y)
    · have e1 := (hok b _ z).1
      rw [e] at e1; cases e1
      exact (hok' b _ (un.frzs b _ _ z)).1
end
/-- the goal that k_head leaves -/
theorem walkEnd {l : PySem.W.OpenLaw} {n k : Nat} {q : Program} {loose : List Str} {XP : (Str → Option Value) → Heap → Prop} {YP : World → Heap → Prop} {d : DefRec} {K : Params → PySem.W.Frag} {x : Str}
    (hn : l.most = some n) (hn2 : n ≤ sizeLine) (hdf : d.params.defaults = []) (hr : Room k callerA)
    (hY : ∀ (w : World) (h : Heap), YP w h → (K w.params).In h)
    (F : ∀ (w : World) (mg : Str → Option Value) (fa : Addr) (h : Heap), (K w.params).In h → h.Ns mainGlobals mg → mg d.name = some (.ref fa) →
      ∃ fd : FuncData, (∀ (s : Shared) (u : Value), BindsTo s fd ⟨[u], []⟩ [(x, u)]) ∧
        ∀ (a : Addr) (ns : List Int), ns.length ≤ n → ∃ sp : Sp, (∀ H : Hp, (∀ b, H b = none ∨ ∃ o xs, H b = some (.frz o (.lst xs))) → SqL (K w.params) H a (ns.map V.int) → sp [.ref a] H (fun v _ => v = .bl true) fun _ _ _ => False) ∧
          ∀ base : Heap, (K w.params).In base → base.Ns mainGlobals mg → FnG l.prog w (K w.params) mg base CX0 k fa fd [x] sp) :
    PySem.W.WalkO q loose XP YP l.row.toRowW d [] (fun f vs => PySem.call f vs) := by
  refine Att.attach_call hn hdf fun w s₀ s₁ mg mb fa o pm cd doc a vs ns G Y ho hd hcd hmg hobj hints hlen hg => ?_
  have KX := hY w _ Y
  obtain ⟨fd, hb, hF⟩ := F w mg fa _ KX G.T.g hmg
  obtain ⟨sp, h1, h2⟩ := hF a ns hlen
  exact lawEnd KX G.T.g G.T.b G.T.builtins G.T.nolimit hg hobj hints (Nat.le_trans hlen hn2) hr h2 hb fun H hO hS => h1 H hO hS

/-! ### the law's promise: from its value in the small language -/
theorem law_sp {C : Ct} {H : Hp} {a : Addr} {ns : List Int} {Φ : List D → G → Res D} (hc : C.sc = some (a, ns)) (hS : SqL C.K H a (ns.map V.int)) (hs : ∃ g', Φ [tokD 1] none = .ok (.bool true) g') :
    spS C Φ 1 [.ref a] H (fun v _ => v = .bl true) fun _ _ _ => False := by
  obtain ⟨g', h⟩ := hs
  refine ⟨rfl, ⟨H, none, some (a, ns)⟩, [tokD 1], none, .bool true, g', Same.refl _, hc.symm, rfl, .cons ?_ .nil, h, fun F' H' x s1 s2 nw kp dn dk rx => ?_⟩
  · unfold tokD Rel
    exact .inl ⟨rfl, .inr ⟨a, ns, rfl, rfl, hS, rfl⟩⟩
  · unfold Rel at rx; exact rx

/-! ### decks -/
/-- what a primitive of the deck does -/
abbrev Prim := List D → G → Res D
theorem rel_tok0 {K : PySem.W.Frag} {F : Fz} {x : V} (h : Rel K F (tokD 0) x) : ∃ d l, F.dk = some (d, l) ∧ x = .ref d := by
  unfold tokD Rel at h
  rcases h with ⟨_, ⟨d, l, e1, e2, _⟩ | ⟨a, ns, _, _, _, e⟩⟩ | ⟨z, _⟩
  · exact ⟨d, l, e1, e2⟩
  · unfold tokD at e
    simp at e
  · cases z
theorem rel_tok1 {K : PySem.W.Frag} {F : Fz} {x : V} (h : Rel K F (tokD 1) x) : ∃ a ns, F.sc = some (a, ns) ∧ x = .ref a ∧ SqL K F.h a (ns.map V.int) := by
  unfold tokD Rel at h
  rcases h with ⟨_, ⟨d, l, e1, e2, e⟩ | ⟨a, ns, e1, e2, e3, _⟩⟩ | ⟨z, _⟩
  · unfold tokD at e
    simp at e
  · exact ⟨a, ns, e1, e2, e3⟩
  · cases z
end Pv
end

section
/-! PvL: the rules for decks of draws. -/
set_option autoImplicit false
namespace Pv
open PySem PySem.Spec PyProof.Rows L2

structure DkN (C : Ct) : Prop where
  a : C.n1 ≠ C.n2
  b : ∀ n, C.n3 = some n → n ≠ C.n1 ∧ n ≠ C.n2
section
variable {X : Cx} {C : Ct} {Ow Ow' OwL : List Nat} {e a b c : Expr} {i ia ib ic : Ex} {pos pos' apos kp : Pos}
theorem dk_of_tok {T : Hp} {F : Fz} {σe : Sl} {st : Dk} {σ : L2.St} {H : Hp} {d : D} {x : V} (r : R C Ow T F σe (some st) σ H) (h : Bm C Ow F σe σ d x) (t : isTok 0 d = true) : ∃ d l, F.dk = some (d, l) ∧ x = .ref d ∧ d ≠ l ∧ F.h d = none ∧ F.h l = none ∧ H l = some (.lst (st.cells.map V.int)) ∧ H d = some (.dK (dkL C l st)) := by
  have e := of_isTok t
  subst e
  rcases h with h | ⟨i, hi, e1, e2⟩
  · obtain ⟨d, l, e1, e2⟩ := rel_tok0 h
    obtain ⟨d', l', e3, q⟩ := r.dk
    rw [e1] at e3; cases e3
    exact ⟨d, l, e1, e2, q⟩
  · obtain ⟨a, _, o, _⟩ := r.ow i _ e1 hi
    obtain ⟨z, _⟩ := o
    cases z
theorem val_1 {l : Addr} {st : Dk} : valV (dkL C l st) (.inr C.n1) = some (.ref l) := by
  unfold valV dkL
  rw [List.find?_cons_of_pos (by simp)]; rfl
theorem val_2 {l : Addr} {st : Dk} (n : DkN C) : valV (dkL C l st) (.inr C.n2) = some (.int st.mixed) := by
  unfold valV dkL
  rw [List.find?_cons_of_neg (by simpa using n.a), List.find?_cons_of_pos (by simp)]; rfl
theorem val_3 {l : Addr} {st : Dk} {x : Str} (n : DkN C) (h : C.n3 = some x) : valV (dkL C l st) (.inr x) = some (.int st.turn) := by
  obtain ⟨h1, h2⟩ := n.b x h
  unfold valV dkL
  rw [h, List.find?_cons_of_neg (by simpa using Ne.symm h1), List.find?_cons_of_neg (by simpa using Ne.symm h2)]
  simp
theorem put_2 {l : Addr} {st : Dk} {c : Int} (n : DkN C) : putK (dkL C l st) (.inr C.n2) (.int c) = dkL C l { st with mixed := c } := by
  have h : ∀ x, C.n3 = some x → x ≠ C.n2 := fun x e => (n.b x e).2
  unfold putK dkL
  cases e : C.n3 with
  | none => simp [n.a]
  | some x => simp [n.a, h x e]
theorem put_3 {l : Addr} {st : Dk} {c : Int} {x : Str} (n : DkN C) (h : C.n3 = some x) : putK (dkL C l st) (.inr x) (.int c) = dkL C l { st with turn := c } := by
  obtain ⟨h1, h2⟩ := n.b x h
  unfold putK dkL
  rw [h]
  simp [Ne.symm h1, Ne.symm h2]
theorem dkL_len {l : Addr} {st : Dk} : (dkL C l st).length ≤ 3 := by
  unfold dkL
  cases C.n3 <;> simp
/-- the deck changes -/
theorem R.deck {T : Hp} {F : Fz} {σe : Sl} {st st' : Dk} {σ : L2.St} {H H' : Hp} {d l : Addr} (r : R C Ow T F σe (some st) σ H) (e : F.dk = some (d, l)) (ne : d ≠ l) (f1 : F.h d = none) (f2 : F.h l = none)
    (out : ∀ a, a ≠ d → a ≠ l → H' a = H a) (h1 : H' l = some (.lst (st'.cells.map V.int))) (h2 : H' d = some (.dK (dkL C l st'))) : R C Ow T F σe (some st') σ H' := by
  refine r.step (.refl F) (fun a o z => ?_) (fun a o z n => by rw [z] at n; cases n) (fun a o z => ?_) (fun _ _ z => .inl z) ⟨d, l, e, ne, f1, f2, h1, h2⟩
  · rw [out a (fun q => by rw [q, f1] at z; cases z) (fun q => by rw [q, f2] at z; cases z)]
    exact r.sub a o z
  · by_cases q1 : a = d
    · exact .inl ⟨d, l, e, .inl q1⟩
    · by_cases q2 : a = l
      · exact .inl ⟨d, l, e, .inr q2⟩
      · exact .inr (by rw [out a q1 q2]; exact z)

/-- d["mixed"] -/
theorem Es.dkGet {x : Str} {j : Nat} (t : Bool) (hu : X.A.units + 1 < cLine) (n : DkN C) (hx : (if t then C.n3 else some C.n2) = some x) (ha : Eb X C Ow a ia) (hs : NoSl (.Constant (.str x) j kp)) : Es X C Ow (.Subscript a (.Constant (.str x) j kp) pos) (.dkGet t ia) :=
  ⟨pe_con (pe_dget hu ha.run pe_str hs) fun σ H Q ⟨T, F, σe, g, v, g', r, m, q⟩ => by
    unfold ev at m
    obtain ⟨d0, g1, m1, m2⟩ := bind_eq_ok m
    obtain ⟨m3, e3⟩ := lift_eq_ok m2
    subst e3
    refine ⟨T, F, σe, g, d0, _, r, m1, fun F1 H1 y s1 r1 b1 => ?_⟩
    show ∃ a v, y = .ref a ∧ DGet H1 a (.str x) (some v) ∧ Q v H1
    cases g' with
    | none => cases m3
    | some st =>
      simp only [dkGetV] at m3
      split at m3
      · rename_i ht
        cases m3
        obtain ⟨d, l, e1, e2, e3, e4, e5, e6, e7⟩ := dk_of_tok r1 b1 ht
        cases t with
        | true =>
          have z := DGet.k (k := .inr x) e7
          rw [val_3 n hx] at z
          exact ⟨d, _, e2, z, q F1 H1 _ s1 r1 rel_int⟩
        | false =>
          have hx : C.n2 = x := Option.some.inj hx
          subst hx
          have z := DGet.k (k := .inr C.n2) e7
          rw [val_2 n] at z
          exact ⟨d, _, e2, z, q F1 H1 _ s1 r1 rel_int⟩
      · cases m3⟩
/-- the deck's list -/
def tDkl (C : Ct) (Ow : List Nat) (m : Mv) : TE := fun σ H Q => ∃ T F σe g v st, R C Ow T F σe g σ H ∧ m σe g = .ok v (some st) ∧ isTok 0 v = true ∧
  ∀ F' H' d l, Fsub F F' → R C Ow T F' σe (some st) σ H' → F'.dk = some (d, l) → d ≠ l → F'.h d = none → F'.h l = none → H' l = some (.lst (st.cells.map V.int)) → H' d = some (.dK (dkL C l st)) → Q (.ref l) H'
theorem pe_dkl {x : Str} {j : Nat} (hu : X.A.units + 1 < cLine) (hx : C.n1 = x) (ha : Eb X C Ow a ia) (hs : NoSl (.Constant (.str x) j kp)) :
    PE X (.Subscript a (.Constant (.str x) j kp) pos) (tDkl C Ow (ev C.Φ ia)) :=
  pe_con (pe_dget hu ha.run pe_str hs) fun σ H Q ⟨T, F, σe, g, v, st, r, m, ht, q⟩ => ⟨T, F, σe, g, v, _, r, m, fun F1 H1 y s1 r1 b1 => by
    obtain ⟨d, l, e1, e2, e3, e4, e5, e6, e7⟩ := dk_of_tok r1 b1 ht
    have z := DGet.k (k := .inr C.n1) e7
    rw [val_1] at z
    rw [hx] at z
    exact ⟨d, _, e2, z, q F1 H1 d l s1 r1 e1 e3 e4 e5 e6 e7⟩⟩
theorem lay_ints : ∀ ns : List Int, PyData.canLayAll0 (ns.map .int) = true
  | [] => rfl
  | n :: ns => by
    rw [List.map_cons]
    unfold PyData.canLayAll0
    rw [lay_ints ns]; rfl
theorem depth_ints : ∀ ns : List Int, PyData.depthAll (ns.map .int) ≤ 1
  | [] => by rw [List.map_nil]; unfold PyData.depthAll; omega
  | n :: ns => by
    have := depth_ints ns
    rw [List.map_cons]
    unfold PyData.depthAll PyData.depth
    omega
theorem shp_ints (ns : List Int) : SeqAt.shaped (.list (ns.map .int)) = true := by
  have := depth_ints ns
  unfold SeqAt.shaped PyData.canLay0 PyData.depth
  rw [lay_ints ns, Bool.true_and]
  exact decide_eq_true (by omega)
/-- d["left"] != [] -/
theorem neq_nil {K : PySem.W.Frag} {H : Hp} {a : Addr} {p : Addr} {ns : List Int} {Q : V → Hp → Prop} (h : H a = some (.lst (ns.map V.int))) (h2 : H p = some (.lst [])) (q : Q (.bl (!ns.isEmpty)) H) : rNeD K (.ref a) (.ref p) H Q := by
  refine ⟨.list (ns.map .int), .list [], .lst (SqL.of h) ?_, .lst (SqL.of h2) .nil, ?_, rfl, ?_⟩
  · exact dpAll_of (F := ⟨H, none, none⟩) (Same.refl _) _ _ (lay_ints ns) (relL_ints ns)
  · exact shp_ints ns
  · have e : PyData.eqv (.list (ns.map .int)) (.list []) = ns.isEmpty := by
      cases ns with
      | nil => rfl
      | cons n ns => rfl
    rw [e]; exact q
theorem Et.dkHas {x : Str} {j : Nat} {p1 p2 : Pos} (hu : X.A.units + 65 < cLine) (hx : C.n1 = x) (ha : Eb X C Ow a ia) (hs : NoSl (.Constant (.str x) j kp)) : Et X C Ow (.Compare (.Subscript a (.Constant (.str x) j kp) p1) [.NotEq] [.List [] p2] pos) (.dkHas ia) :=
  ⟨pt_con (pt_cmpR (op_neD (by omega)) (pe_dkl (by omega) hx ha hs) (pe_lst pa_nil) rfl) fun σ H Q ⟨T, F, σe, g, b, g', r, m, q⟩ => by
    unfold ev at m
    obtain ⟨d0, g1, m1, m2⟩ := bind_eq_ok m
    obtain ⟨m3, e3⟩ := lift_eq_ok m2
    subst e3
    cases g' with
    | none => cases m3
    | some st =>
      simp only [dkHasV] at m3
      split at m3
      · rename_i ht
        cases m3
        refine ⟨T, F, σe, g, d0, st, r, m1, ht, fun F1 H1 d l s1 r1 e1 e3 e4 e5 e6 e7 => ⟨by rw [sizeLine_eq]; exact Nat.zero_le _, fun p n => neq_nil ((upd_ne (ne_of_none e6 n)).trans e6) upd_same ?_⟩⟩
        exact ⟨_, rfl, q F1 _ s1 (r1.grown n)⟩
      · cases m3⟩
/-- d["left"].pop() -/
theorem Es.dkPop {x : Str} {j : Nat} {p1 : Pos} (hu : X.A.units + 1 < cLine) (n : DkN C) (hx : C.n1 = x) (ha : Eb X C Ow a ia) (hs : NoSl (.Constant (.str x) j kp))
    (hbase : attributeBase (.Subscript a (.Constant (.str x) j kp) p1) "pop" X.env (eval (.Subscript a (.Constant (.str x) j kp) p1) X.env) = eval (.Subscript a (.Constant (.str x) j kp) p1) X.env)
    (hline : (apos.endLine == pos.line) = true) :
    Es X C Ow (.Call (.Attribute (.Subscript a (.Constant (.str x) j kp) p1) "pop" apos) [] [] pos) (.dkPop ia) :=
  ⟨pe_con (pe_bm0 PySem.F.plainAttrs_list PySem.F.slot_list_pop PySem.F.type_list_pop (by exact mt_pop) (pe_dkl (by omega) hx ha hs) hbase hline) fun σ H Q ⟨T, F, σe, g, v, g', r, m, q⟩ => by
    unfold ev at m
    obtain ⟨d0, g1, m1, m2⟩ := bind_eq_ok m
    cases g1 with
    | none => cases m2
    | some st =>
      simp only [dkPopV] at m2
      split at m2
      · rename_i ht
        split at m2
        · rename_i c hc
          cases m2
          refine ⟨T, F, σe, g, d0, st, r, m1, ht, fun F1 H1 d l s1 r1 e1 e3 e4 e5 e6 e7 => ⟨.inl ⟨rfl, _, SqL.of e6⟩, l, _, .int c, rfl, rfl, e6, ?_, ?_⟩⟩
          · rw [List.length_map, List.getElem?_map, ← List.getLast?_eq_getElem?, hc]; rfl
          · refine q F1 _ _ s1 (r1.deck (st' := { st with cells := st.cells.dropLast }) e1 e3 e4 e5 (fun b h1 h2 => upd_ne h2) (by rw [upd_same, List.map_dropLast]) ((upd_ne e3).trans e7)) rel_int
        · cases m2
      · cases m2⟩
/-- d["left"].append(e) -/
theorem Es.dkPush {x : Str} {j : Nat} {p1 : Pos} (hu : X.A.units + 1 < cLine) (n : DkN C) (hx : C.n1 = x) (ha : Eb X C Ow a ia) (he : Es X C Ow e i) (hs : NoSl (.Constant (.str x) j kp)) (hX : X.K = C.K)
    (hbase : attributeBase (.Subscript a (.Constant (.str x) j kp) p1) "append" X.env (eval (.Subscript a (.Constant (.str x) j kp) p1) X.env) = eval (.Subscript a (.Constant (.str x) j kp) p1) X.env)
    (hfew : ((backTo pos (starEach [e] X.env)).all (fun x => !x.1) && (backToKw pos (keywordEach [] X.env)).all (fun x => x.1.isSome) && decide (([e] : List Expr).length + ([] : List Keyword).length + (if ([] : List Keyword).isEmpty then 0 else 1) < 30)) = true)
    (hline : (apos.endLine == pos.line) = true) (hst : starEach [e] X.env = (false, eval e X.env) :: starEach [] X.env) (hpl : (backTo pos (starEach [] X.env)).any (·.1) = false) :
    Es X C Ow (.Call (.Attribute (.Subscript a (.Constant (.str x) j kp) p1) "append" apos) [e] [] pos) (.dkPush ia i) :=
  ⟨pe_con (pe_bm PySem.F.plainAttrs_list PySem.F.slot_list_append PySem.F.type_list_append (by exact mt_append) (pe_dkl (by omega) hx ha hs) (pa_cons he.run pa_nil hst) hbase hfew hline hst hpl) fun σ H Q ⟨T, F, σe, g, v, g', r, m, q⟩ => by
    unfold ev at m
    obtain ⟨d0, g1, m1, m2⟩ := bind_eq_ok m
    cases g1 with
    | none => cases m2
    | some st1 =>
    obtain ⟨v1, g2, m3, m4⟩ := bind_eq_ok m2
    cases g2 with
    | none => cases m4
    | some st =>
      simp only [dkPushV] at m4
      split at m4
      · rename_i ht
        simp only [Bool.and_eq_true, decide_eq_true_eq] at ht
        split at m4
        · rename_i v0 c
          cases m4
          refine ⟨T, F, σe, g, d0, st1, r, m1, ht.1, fun F1 H1 d l s1 r1 e1 e3 e4 e5 e6 e7 => ⟨.inl ⟨rfl, _, SqL.of e6⟩, T, F1, σe, _, _, _, r1, m3, fun F2 H2 y s2 r2 h2 => ?_⟩⟩
          obtain ⟨d', l', z1, z2, z3, z4, z5, z6⟩ := r2.dk
          rw [s2.dk _ e1] at z1
          cases z1
          have hy : y = .int c := by unfold Rel at h2; exact h2
          subst hy
          refine ⟨l, _, _, rfl, rfl, z5, ?_, ?_⟩
          · rw [List.length_map]; exact lineN_lt ht.2
          · refine q F2 _ _ (s1.trans s2) (r2.deck (st' := { st with cells := st.cells ++ [c] }) (s2.dk _ e1) e3 z3 z4 (fun b h1 h2 => upd_ne h2) (by rw [upd_same, List.map_append]; rfl) ((upd_ne e3).trans z6)) rel_non
        · cases m4
      · cases m4⟩
/-- d["mixed"] = e -/
theorem Ss.dkSet {x : Str} {j : Nat} {p1 : Pos} (t : Bool) (hu : X.A.units + 1 < cLine) (n : DkN C) (hx : (if t then C.n3 else some C.n2) = some x) (ha : Eb X C Ow a ia) (he : Es X C Ow e i)
    (hs : swapsWith e (some (.Subscript a (.Constant (.str x) j kp) p1)) pos.line X.env = pure false) :
    Ss X C Ow Ow OwL (.Assign [.Subscript a (.Constant (.str x) j kp) p1] e pos) (.dkSet t ia i) :=
  ⟨ps_con (ps_dput hu ha.run pe_str he.run hs) fun D σ H ⟨T, F, σe, g, fl, g', r, m, q⟩ => by
    unfold Pv.run at m
    obtain ⟨v, g1, m1, m2⟩ := bind_eq_ok m
    obtain ⟨d0, g2, m3, m4⟩ := bind_eq_ok m2
    obtain ⟨g4, g5, m6, m7⟩ := bind_eq_ok m4
    obtain ⟨m8, e8⟩ := lift_eq_ok m6
    cases m7
    refine ⟨T, F, σe, g, v, g1, r, m1, fun F1 H1 y s1 r1 h1 => ⟨T, F1, σe, g1, d0, _, r1, m3, fun F2 H2 z s2 r2 b2 => ?_⟩⟩
    cases g2 with
    | none => cases m8
    | some st =>
      simp only [dkSetV] at m8
      split at m8
      · rename_i ht
        split at m8
        · rename_i c
          cases m8
          obtain ⟨d, l, e1, e2, e3, e4, e5, e6, e7⟩ := dk_of_tok r2 b2 ht
          have hy : y = .int c := by unfold Rel at h1; exact h1
          subst hy
          subst e2
          have hl := dkL_len (C := C) (l := l) (st := st)
          show ∃ a H4, V.ref d = .ref a ∧ DPut H2 a (.str x) (.int c) H4 ∧ D.nx σ H4
          refine ⟨d, _, rfl, DPut.k (k := .inr x) e7 (by rw [sizeLine_eq]; omega), ?_⟩
          cases t with
          | true =>
            rw [put_3 n hx]
            exact q F2 _ _ (s1.trans s2) (r2.deck (st' := { st with turn := c }) e1 e3 e4 e5 (fun b h1 h2 => upd_ne h1) ((upd_ne (Ne.symm e3)).trans e6) upd_same)
          | false =>
            have hx : C.n2 = x := Option.some.inj hx
            subst hx
            rw [put_2 n]
            exact q F2 _ _ (s1.trans s2) (r2.deck (st' := { st with mixed := c }) e1 e3 e4 e5 (fun b h1 h2 => upd_ne h1) ((upd_ne (Ne.symm e3)).trans e6) upd_same)
        · cases m8
      · cases m8⟩
/-- xs[::-1] of a list, a new one -/
theorem Ef.lrev {k : Nat} {p1 p2 p3 : Pos} (hK : X.K = C.K) (ha : Eb X C Ow a ia) : Ef X C Ow (.Subscript a (.Slice none none (some (.UnaryOp .USub (.Constant (.int 1) k p1) p2)) p3) pos) (.lrev ia) :=
  ⟨pe_con (pe_revL ha.run) fun σ H Q ⟨T, F, σe, g, v, g', r, m, q⟩ => by
    unfold ev at m
    obtain ⟨va, g1, m1, m2⟩ := bind_eq_ok m
    cases va with
    | list ds =>
      cases m2
      refine ⟨T, F, σe, g, _, _, r, m1, fun F1 H1 y s1 r1 b1 => ?_⟩
      obtain ⟨p, vs, rfl, h1, h2⟩ := r1.sh b1
      exact ⟨p, vs, rfl, SqL.of h1, fun p n => q F1 _ _ s1 (r1.grown n) (new_of r1 n ⟨_, upd_same, h2.reverse⟩)⟩
    | _ => cases m2⟩
/-- script[:n] -/
theorem Es.scr {p1 p2 : Pos} {j : Nat} {a0 : Addr} {ns : List Int} (n : Nat) (hK : X.K = C.K) (hc : C.sc = some (a0, ns)) (ha : Es X C Ow a ia) : Es X C Ow (.Subscript a (.Slice none (some (.Constant (.int n) j p1)) none p2) pos) (.scr ia ns n) :=
  ⟨pe_con (pe_slice sl_list ha.run po_none (po_some (pe_int (i := n)))) fun σ H Q ⟨T, F, σe, g, v, g', r, m, q⟩ => by
    unfold ev at m
    obtain ⟨va, g1, m1, m2⟩ := bind_eq_ok m
    split at m2
    · rename_i ht
      have e := of_isTok ht
      subst e
      cases m2
      refine ⟨T, F, σe, g, _, _, r, m1, fun F1 H1 y s1 r1 b1 => ?_⟩
      obtain ⟨a2, ns2, z1, z2, z3⟩ := rel_tok1 b1
      rw [r1.sc, hc] at z1
      cases z1
      refine ⟨n, rfl, _, _, z2, hK ▸ sqL_mono r1.sub z3, fun p hn => ?_⟩
      refine q (F1.put p _) _ _ (s1.trans (Fsub.put (r1.fn hn))) (r1.laid hn) (rel_lst (r1.fn hn) ?_)
      have h := cut_rel (relL_ints (K := C.K) (F := F1) ns) none (some (n : Int))
      have e : cutD (ns.map .int) none (some (n : Int)) = (ns.take n).map .int := by
        unfold cutD
        rw [HT.sIx_none, HT.sIx_nat, List.drop_zero, List.length_map, Nat.sub_zero, List.map_take]
        by_cases z : n ≤ ns.length
        · rw [Nat.min_eq_left z]
        · rw [Nat.min_eq_right (by omega), List.take_of_length_le (by rw [List.length_map]; omega), List.take_of_length_le (by rw [List.length_map]; omega)]
      rw [e] at h
      exact h
    · cases m2⟩
theorem R.holdN {T : Hp} {F : Fz} {σe : Sl} {g : G} {σ : L2.St} {H : Hp} {v : D} {p : Addr} {o : HO} (r : R C Ow T F σe g σ H) (n : New C Ow T F σe σ H v p) (e : H p = some o) : R C Ow (upd T p o) F σe g σ H :=
  ⟨r.sub, r.sc, r.grow, r.new, r.keep, r.dnew, r.len, r.fz, r.ow, r.inj, r.dk, fun a u q => by
    by_cases z : a = p
    · subst z
      rw [upd_same] at q
      cases q
      exact ⟨e, n.h0, n.fn, n.nd, n.no⟩
    · rw [upd_ne z] at q
      exact r.hold a u q⟩
/-- the deck is made: {"left": xs, "mixed": m, "draws": 0} -/
theorem R.newDeck {T : Hp} {F : Fz} {σe : Sl} {σ : L2.St} {H : Hp} {d l : Addr} {st : Dk} {o : HO} (r : R C Ow (upd (upd T d o) l (.lst (st.cells.map V.int))) F σe none σ H) (rT : T d = none) (rl : T l = none) (ne : d ≠ l) :
    R C Ow T { F with dk := some (d, l) } σe (some st) σ (upd H d (.dK (dkL C l st))) ∧ Fsub F { F with dk := some (d, l) } := by
  have dk0 : F.dk = none := r.dk
  obtain ⟨e1, e2, e3, e4, e5⟩ := r.hold d o ((upd_ne ne).trans upd_same)
  obtain ⟨f1, f2, f3, f4, f5⟩ := r.hold l _ upd_same
  have fs : Fsub F { F with dk := some (d, l) } := ⟨Same.refl _, (fun p h => by rw [dk0] at h; cases h), rfl⟩
  have nd : ∀ {a}, ¬ F.isDk a := fun {a} z => by
    obtain ⟨x, y, z, _⟩ := z
    rw [dk0] at z
    cases z
  have isd : ∀ {a}, a ≠ d → a ≠ l → ¬ Fz.isDk { F with dk := some (d, l) } a := fun {a} z1 z2 z => by
    obtain ⟨x, y, q, q2⟩ := z
    cases q
    rcases q2 with q2 | q2
    · exact z1 q2
    · exact z2 q2
  refine ⟨⟨fun a u q => ?_, r.sc, r.grow.trans fs, r.new, fun a u q => ?_, fun a b q => ?_, r.len, fun i v q n => ?_, fun i v q hi => ?_, r.inj, ⟨d, l, rfl, ne, e3, f3, (upd_ne (Ne.symm ne)).trans f1, upd_same⟩, fun a u q => ?_⟩, fs⟩
  · have z : a ≠ d := fun z => by
      rw [z] at q
      rw [show F.h d = none from e3] at q
      cases q
    rw [upd_ne z]
    exact r.sub a u q
  · rcases r.keep a u q with z | z
    · exact (nd z).elim
    · have z1 : a ≠ d := fun y => by
        rw [y, e2] at q
        cases q
      exact .inr ((upd_ne z1).trans z)
  · cases q
    exact .inr ⟨e2, f2⟩
  · obtain ⟨x, z1, z2⟩ := r.fz i v q n
    exact ⟨x, z1, z2.mono fs _ _⟩
  · obtain ⟨a, z1, z2, z3, z4, z5⟩ := r.ow i v q hi
    have q1 : a ≠ d := fun y => e5 i v hi q (y ▸ z1)
    have q2 : a ≠ l := fun y => f5 i v hi q (y ▸ z1)
    exact ⟨a, z1, z2.move fs fun u z => (upd_ne q1).trans z, z3, z4, isd q1 q2⟩
  · have q1 : a ≠ d := fun y => by
      rw [y, rT] at q
      cases q
    have q2 : a ≠ l := fun y => by
      rw [y, rl] at q
      cases q
    obtain ⟨y1, y2, y3, y4, y5⟩ := r.hold a u ((upd_ne q2).trans ((upd_ne q1).trans q))
    exact ⟨(upd_ne q1).trans y1, y2, y3, isd q1 q2, y5⟩
theorem ints_of_some : ∀ {xs : List D} {ns : List Int}, intsOf xs = some ns → xs = ns.map .int
  | [], ns, h => by cases h; rfl
  | .int i :: xs, ns, h => by
    unfold intsOf at h
    obtain ⟨ms, h1, h2⟩ := map_some h
    subst h2
    rw [ints_of_some h1]; rfl
  | .none :: ds, ns, e => by cases e
  | .bool _ :: ds, ns, e => by cases e
  | .str _ :: ds, ns, e => by cases e
  | .list _ :: ds, ns, e => by cases e
  | .tuple _ :: ds, ns, e => by cases e
  | .dict _ :: ds, ns, e => by cases e
theorem Es.dkNew {x1 x2 x3 : Str} {j1 j2 j3 : Nat} {p1 p2 p3 : Pos} (n : DkN C) (h1 : C.n1 = x1) (h2' : C.n2 = x2) (h3' : C.n3 = some x3) (ha : Ef X C Ow a ia) (hb : Es X C Ow b ib) (hc : Es X C Ow c ic) :
    Es X C Ow (.Dict [some (.Constant (.str x1) j1 p1), some (.Constant (.str x2) j2 p2), some (.Constant (.str x3) j3 p3)] [a, b, c] pos) (.dkNew ia ib ic) :=
  ⟨pe_con (pe_disp (pps_cons pe_str ha.run (pps_cons pe_str hb.run (pps_cons pe_str hc.run pps_nil))) rfl rfl (by simp) (Nat.le_of_ble_eq_true rfl)) fun σ H Q ⟨T, F, σe, g, v, g', r, m, q⟩ => by
    unfold ev at m
    obtain ⟨va, g1, m1, m2⟩ := bind_eq_ok m
    obtain ⟨vb, g2, m3, m4⟩ := bind_eq_ok m2
    obtain ⟨vc, g3, m5, m6⟩ := bind_eq_ok m4
    unfold dkNewV at m6
    split at m6
    · split at m6
      · rename_i xs mx tn
        split at m6
        · rename_i ns hi
          cases m6
          have e := ints_of_some hi
          subst e
          intro p hp
          have rT := r.tn hp
          refine ⟨upd T p (.dK []), F, σe, g, _, _, r.take hp, m1, fun F1 H1 y s1 r1 n1 => ?_⟩
          obtain ⟨vs, l1, l2⟩ := n1.at_
          have l3 := l2.ints hi
          subst l3
          have nt := n1.nt
          have ne : p ≠ y := fun z => by
            rw [z, upd_same] at nt
            cases nt
          have rl : T y = none := by
            rw [upd_ne (Ne.symm ne)] at nt
            exact nt
          refine ⟨_, F1, σe, g1, _, _, r1.holdN n1 l1, m3, fun F2 H2 y2 s2 r2 h2 => ⟨_, F2, σe, _, _, _, r2, m5, fun F3 H3 y3 s3 r3 h3 => ?_⟩⟩
          have e2 : y2 = .int mx := by unfold Rel at h2; exact h2
          have e3 : y3 = .int tn := by unfold Rel at h3; exact h3
          subst e2; subst e3
          obtain ⟨z1, z2⟩ := R.newDeck (st := ⟨ns, mx, tn⟩) r3 rT rl ne
          refine ⟨(r3.hold p _ ((upd_ne ne).trans upd_same)).1, [(.inr x1, .ref y), (.inr x2, .int mx), (.inr x3, .int tn)], rfl, Nat.le_of_ble_eq_true rfl, ?_⟩
          have em : mergeK [] [(.inr x1, V.ref y), (.inr x2, .int mx), (.inr x3, .int tn)] = dkL C y ⟨ns, mx, tn⟩ := by
            subst h1; subst h2'
            obtain ⟨b1, b2⟩ := n.b x3 h3'
            unfold mergeK dkL
            rw [h3']
            simp [putK, n.a, Ne.symm n.a, b1, b2, Ne.symm b1, Ne.symm b2]
          rw [em]
          exact q _ _ _ (s1.trans (s2.trans (s3.trans z2))) z1 (by unfold tokD Rel; exact .inl ⟨rfl, .inl ⟨p, y, rfl, rfl, rfl⟩⟩)
        · cases m6
      · cases m6
    · cases m6⟩
theorem Es.dkNew2 {x1 x2 : Str} {j1 j2 : Nat} {p1 p2 : Pos} (n : DkN C) (h1 : C.n1 = x1) (h2' : C.n2 = x2) (h3' : C.n3 = none) (ha : Ef X C Ow a ia) (hb : Es X C Ow b ib) :
    Es X C Ow (.Dict [some (.Constant (.str x1) j1 p1), some (.Constant (.str x2) j2 p2)] [a, b] pos) (.dkNew2 ia ib) :=
  ⟨pe_con (pe_disp (pps_cons pe_str ha.run (pps_cons pe_str hb.run pps_nil)) rfl rfl (by simp) (Nat.le_of_ble_eq_true rfl)) fun σ H Q ⟨T, F, σe, g, v, g', r, m, q⟩ => by
    unfold ev at m
    obtain ⟨va, g1, m1, m2⟩ := bind_eq_ok m
    obtain ⟨vb, g2, m3, m4⟩ := bind_eq_ok m2
    have m6 := m4
    unfold dkNewV at m6
    split at m6
    · split at m6
      · rename_i xs mx tn he
        cases he
        split at m6
        · rename_i ns hi
          cases m6
          have e := ints_of_some hi
          subst e
          intro p hp
          have rT := r.tn hp
          refine ⟨upd T p (.dK []), F, σe, g, _, _, r.take hp, m1, fun F1 H1 y s1 r1 n1 => ?_⟩
          obtain ⟨vs, l1, l2⟩ := n1.at_
          have l3 := l2.ints hi
          subst l3
          have nt := n1.nt
          have ne : p ≠ y := fun z => by
            rw [z, upd_same] at nt
            cases nt
          have rl : T y = none := by
            rw [upd_ne (Ne.symm ne)] at nt
            exact nt
          refine ⟨_, F1, σe, g1, _, _, r1.holdN n1 l1, m3, fun F3 H3 y2 s2 r3 h2 => ?_⟩
          have e2 : y2 = .int mx := by unfold Rel at h2; exact h2
          subst e2
          obtain ⟨z1, z2⟩ := R.newDeck (st := ⟨ns, mx, 0⟩) r3 rT rl ne
          refine ⟨(r3.hold p _ ((upd_ne ne).trans upd_same)).1, [(.inr x1, .ref y), (.inr x2, .int mx)], rfl, Nat.le_of_ble_eq_true rfl, ?_⟩
          have em : mergeK [] [(.inr x1, V.ref y), (.inr x2, .int mx)] = dkL C y ⟨ns, mx, 0⟩ := by
            subst h1; subst h2'
            unfold mergeK dkL
            rw [h3']
            simp [putK, n.a, Ne.symm n.a]
          rw [em]
          exact q _ _ _ (s1.trans (s2.trans z2)) z1 (by unfold tokD Rel; exact .inl ⟨rfl, .inl ⟨p, y, rfl, rfl, rfl⟩⟩)
        · cases m6
      · cases m6
    · cases m6⟩
end
end Pv
end

section
/-! PvM: comprehensions bound to names, displays of dicts, keywords; what a law's texts share. -/
set_option autoImplicit false
namespace Pv
open PySem PySem.Spec PyProof.Rows L2

section
variable {X : Cx} {C : Ct} {Ow Ow' OwL : List Nat} {tg e a b : Expr} {i ia ib : Ex} {is : Exs} {pos : Pos}
/-- x = [elt for .. in ..] on one line -/
theorem Ss.ownLc {elt iter : Expr} {ifs : List Expr} {scope : Scope} {own : List (Str × Nat)} {t : List Nat} {k : Ik} {cond ei : Ex} {y : Str} {py spos : Pos} (n : Nat) (hc : X.calm = true) (hN : X.N.Nodup) (hy : X.N[n]? = some y) (hyl : X.env.scope.names.lookup y = some .local)
    (hsw : swapsWith (.ListComp elt [⟨tg, iter, ifs, 0⟩] scope pos) (some (.Name y py)) spos.line X.env = pure true) (hi : Ei X C Ow tg iter k is) (ok : BlkOk X.N X.env.scope scope own) (hown : own.map (·.2) = t)
    (hg : ∀ (s : Shared) (H : Hp) (A : Addr) (cl : List (Str × Addr)) (fp : List Addr), Eg (X.blk s H scope (compEnvC scope cl A X.env) fp) C Ow tg t)
    (ht : ∀ (s : Shared) (H : Hp) (A : Addr) (cl : List (Str × Addr)) (fp : List Addr), Ec (X.blk s H scope (compEnvC scope cl A X.env) fp) C Ow ifs cond)
    (he : ∀ (s : Shared) (H : Hp) (A : Addr) (cl : List (Str × Addr)) (fp : List Addr), Es (X.blk s H scope (compEnvC scope cl A X.env) fp) C Ow elt ei)
    (hs : ∀ x, foldedSetIterable iter X.env x = pure x) (hno : ∀ i ∈ t, i ∉ Ow) :
    Ss X C Ow (n :: Ow) OwL (.Assign [.Name y py] (.ListComp elt [⟨tg, iter, ifs, 0⟩] scope pos) spos) (.set [n] (.comp t k is cond ei)) :=
  ⟨ps_con (ps_setLc hc hN hy hyl hsw hi.run ok (fun s H A cl fp => (hg s H A cl fp).run) (fun s H A cl fp => (ht s H A cl fp).run) (fun s H A cl fp => (he s H A cl fp).run) hs) fun D σ H ⟨T, F, σe, g, fl, g', r, m, q⟩ => by
    unfold Pv.run at m
    obtain ⟨v, g1, m1, m2⟩ := bind_eq_ok m
    cases m2
    rw [hown]
    exact lc_run hno ⟨T, F, σe, g, v, _, r, m1, fun F1 H1 a s1 r1 h1 => q F1 _ H1 s1 (r1.own h1)⟩⟩

/-- x, y = new, e -/
theorem Ss.parO {x y : Str} {px py pt : Pos} {kt k2 : Nat} {pt2 : Pos} (n k : Nat) (hc : X.calm = true) (hN : X.N.Nodup) (hi : X.N[n]? = some x) (hj : X.N[k]? = some y) (hij : n ≠ k) (hk : k ∉ n :: Ow)
    (hx : X.env.scope.names.lookup x = some .local) (hy : X.env.scope.names.lookup y = some .local) (ha : Ef X C Ow a ia) (hb : Es X C Ow b ib)
    (hs1 : starEach [a, b] X.env = (false, eval a X.env) :: starEach [b] X.env) (hs2 : starEach [b] X.env = (false, eval b X.env) :: starEach [] X.env)
    (hw : swappedStores [.Tuple [.Name x px, .Name y py] kt pt] (.Tuple [a, b] k2 pt2) X.env = pure (some [x, y]))
    (hs : swapsWithSole [.Tuple [.Name x px, .Name y py] kt pt] (.Tuple [a, b] k2 pt2) pos.line X.env = pure false) :
    Ss X C Ow (n :: Ow) OwL (.Assign [.Tuple [.Name x px, .Name y py] kt pt] (.Tuple [a, b] k2 pt2) pos) (.par n k ia ib) := ⟨ps_con (ps_par hc hN hi hj hij hx hy (pa_cons ha.run (pa_cons hb.run pa_nil hs2) hs1) hw hs) fun D σ H ⟨T, F, σe, g, fl, g', r, m, q⟩ => by
  unfold Pv.run at m
  obtain ⟨v, g1, m1, m2⟩ := bind_eq_ok m
  obtain ⟨w, g2, m3, m4⟩ := bind_eq_ok m2
  cases m4
  refine ⟨T, F, σe, g, v, g1, r, m1, fun F1 H1 p s1 r1 n1 => ?_⟩
  obtain ⟨o, eo⟩ := n1.at_.there
  refine ⟨upd T p o, F1, σe, g1, w, _, r1.holdN n1 eo, m3, fun F2 H2 z s2 r2 h2 => ?_⟩
  obtain ⟨e1, e2, e3, e4, e5⟩ := r2.hold p o upd_same
  have n2 : New C Ow T F2 σe σ H2 v p := ⟨n1.at_.move s2 (fun o' e => by rw [eo] at e; cases e; exact e1), e2, e3, e4, e5, n1.nt⟩
  have r3 : R C Ow T F2 σe _ σ H2 := r2.letgo fun a o' h => by
    have ne : a ≠ p := fun z => by rw [z, n1.nt] at h; cases h
    exact (upd_ne ne).trans h
  exact ⟨.ref p, z, rfl, q F2 _ H2 (s1.trans s2) ((r3.own n2).setS hk h2)⟩⟩
/-- x, y = e, new -/
theorem Ss.parP {x y : Str} {px py pt : Pos} {kt k2 : Nat} {pt2 : Pos} (n k : Nat) (hc : X.calm = true) (hN : X.N.Nodup) (hi : X.N[n]? = some x) (hj : X.N[k]? = some y) (hij : n ≠ k) (hn : n ∉ Ow)
    (hx : X.env.scope.names.lookup x = some .local) (hy : X.env.scope.names.lookup y = some .local) (ha : Es X C Ow a ia) (hb : Ef X C Ow b ib)
    (hs1 : starEach [a, b] X.env = (false, eval a X.env) :: starEach [b] X.env) (hs2 : starEach [b] X.env = (false, eval b X.env) :: starEach [] X.env)
    (hw : swappedStores [.Tuple [.Name x px, .Name y py] kt pt] (.Tuple [a, b] k2 pt2) X.env = pure (some [x, y]))
    (hs : swapsWithSole [.Tuple [.Name x px, .Name y py] kt pt] (.Tuple [a, b] k2 pt2) pos.line X.env = pure false) :
    Ss X C Ow (k :: Ow) OwL (.Assign [.Tuple [.Name x px, .Name y py] kt pt] (.Tuple [a, b] k2 pt2) pos) (.par n k ia ib) := ⟨ps_con (ps_par hc hN hi hj hij hx hy (pa_cons ha.run (pa_cons hb.run pa_nil hs2) hs1) hw hs) fun D σ H ⟨T, F, σe, g, fl, g', r, m, q⟩ => by
  unfold Pv.run at m
  obtain ⟨v, g1, m1, m2⟩ := bind_eq_ok m
  obtain ⟨w, g2, m3, m4⟩ := bind_eq_ok m2
  cases m4
  refine ⟨T, F, σe, g, v, g1, r, m1, fun F1 H1 z s1 r1 h1 => ⟨T, F1, σe, g1, w, _, r1, m3, fun F2 H2 p s2 r2 n2 => ?_⟩⟩
  have n3 : New C Ow T F2 (σe.set n (some v)) (σ.set n (some z)) H2 w p := ⟨n2.at_, n2.h0, n2.fn, n2.nd, fun i u hi' e => by
    have ne : n ≠ i := fun y => hn (y ▸ hi')
    rw [List.getElem?_set_ne ne] at e ⊢
    exact n2.no i u hi' e, n2.nt⟩
  exact ⟨z, .ref p, rfl, q F2 _ H2 (s1.trans s2) ((r2.setS hn (h1.mono s2 _ _)).own n3)⟩⟩
/-- `in` of a dict, as a test -/
theorem Et.has (hK : X.K = C.K) (hu : X.A.units + 1 < cLine) (ha : Eb X C Ow a ia) (hb : Eb X C Ow b ib) (h1 : behindInMarks .In b = false) : Et X C Ow (.Compare a [.In] [b] pos) (.dhas ia ib false) :=
  ⟨pt_con (pt_cmp (Et.dhas hK hu ha hb) h1) fun σ H Q ⟨T, F, σe, g, v, g', r, m, q⟩ => ⟨T, F, σe, g, _, _, r, m, fun F1 H1 x s1 r1 hx => ⟨v, by unfold Rel at hx; exact hx, q F1 H1 s1 r1⟩⟩⟩
theorem Et.hasN (hK : X.K = C.K) (hu : X.A.units + 1 < cLine) (ha : Eb X C Ow a ia) (hb : Eb X C Ow b ib) (h1 : behindInMarks .NotIn b = false) : Et X C Ow (.Compare a [.NotIn] [b] pos) (.dhas ia ib true) :=
  ⟨pt_con (pt_cmp (Et.dhasN hK hu ha hb) h1) fun σ H Q ⟨T, F, σe, g, v, g', r, m, q⟩ => ⟨T, F, σe, g, _, _, r, m, fun F1 H1 x s1 r1 hx => ⟨v, by unfold Rel at hx; exact hx, q F1 H1 s1 r1⟩⟩⟩
/-- a bound of a slice -/
theorem Eo.int (h : Eb X C Ow e i) : Eo X C Ow (Option.some e) (.asI i) := ⟨po_con (po_some h.run) fun σ H Q ⟨T, F, σe, g, v, g', oi, r, m, eo, q⟩ => by
  unfold ev at m
  obtain ⟨x, g1, m1, m2⟩ := bind_eq_ok m
  cases x with
  | int j =>
    cases m2
    cases eo
    exact ⟨T, F, σe, g, _, _, r, m1, fun F1 H1 y s1 r1 b1 => ⟨j, r1.sh b1, q F1 H1 s1 r1⟩⟩
  | _ => cases m2⟩
/-! ### displays of dicts -/
inductive RelP (K : PySem.W.Frag) (F : Fz) : List D → List (V × V) → Prop
  | nil : RelP K F [] []
  | cons {k d : D} {ds : List D} {x y : V} {ps : List (V × V)} (hk : Rel K F k x) (hd : Rel K F d y) (h : RelP K F ds ps) : RelP K F (k :: d :: ds) ((x, y) :: ps)
structure Ep (X : Cx) (C : Ct) (Ow : List Nat) (pos : Pos) (keys : List (Option Expr)) (vals : List Expr) (is : Exs) : Prop where
  run : ∃ trs, PPs X pos keys vals trs ∧ ∀ (σ : L2.St) (H : Hp) (Q : List (V × V) → Hp → Prop), (∃ T F σe g vs g', R C Ow T F σe g σ H ∧ evs C.Φ is σe g = .ok vs g' ∧ ∀ F' H' ps, Fsub F F' → R C Ow T F' σe g' σ H' → RelP C.K F' vs ps → Q ps H') → tPairs trs σ H Q
theorem Ep.nil : Ep X C Ow pos [] [] .nil := ⟨[], pps_nil, fun σ H Q ⟨T, F, σe, g, vs, g', r, m, q⟩ => by
  unfold evs at m
  cases m
  exact q F H [] (.refl F) r .nil⟩
theorem Ep.cons {keys : List (Option Expr)} {vals : List Expr} (ha : Es X C Ow a ia) (hb : Es X C Ow b ib) (h : Ep X C Ow pos keys vals is) : Ep X C Ow pos (some a :: keys) (b :: vals) (.cons ia (.cons ib is)) := by
  obtain ⟨trs, h1, h2⟩ := h
  refine ⟨_, pps_cons ha.run hb.run h1, fun σ H Q ⟨T, F, σe, g, vs, g', r, m, q⟩ => ?_⟩
  unfold evs at m
  obtain ⟨x, g1, m1, m2⟩ := bind_eq_ok m
  obtain ⟨xs, g2, m3, m4⟩ := bind_eq_ok m2
  cases m4
  unfold evs at m3
  obtain ⟨y, g3, m5, m6⟩ := bind_eq_ok m3
  obtain ⟨ys, g4, m7, m8⟩ := bind_eq_ok m6
  cases m8
  exact ⟨T, F, σe, g, x, g1, r, m1, fun F1 H1 vx s1 r1 hx => ⟨T, F1, σe, g1, y, g3, r1, m5, fun F2 H2 vy s2 r2 hy => h2 σ H2 _ ⟨T, F2, σe, g3, ys, _, r2, m7, fun F3 H3 ps s3 r3 hp => q F3 H3 _ (s1.trans (s2.trans s3)) r3 (.cons (hx.mono (s2.trans s3) _ _) (hy.mono s3 _ _) hp)⟩⟩⟩
theorem disp_rel {K : PySem.W.Frag} {F : Fz} : ∀ {vs : List D} {ps : List (V × V)} {acc out : List (D × D)} {kk : List (Key × V)}, RelP K F vs ps → dispV vs acc = some out → RelKV K F acc kk → ∃ kvs : List (Key × V), ps = kvs.map (fun kv => (kV kv.1, kv.2)) ∧ RelKV K F out (mergeK kk kvs)
  | _, _, acc, out, kk, .nil, h, r => by
    unfold dispV at h
    cases h
    exact ⟨[], rfl, r⟩
  | _, _, acc, out, kk, .cons (k := k) (d := d) (x := x) (y := y) hk hd hp, h, r => by
    unfold dispV at h
    cases e : keyD k with
    | none => rw [e] at h; cases h
    | some kx =>
      rw [e] at h
      have h := h
      simp only [Option.isNone_some, Bool.false_eq_true, if_false] at h
      obtain ⟨kvs, e1, e2⟩ := disp_rel hp h (put_rel e hd r)
      refine ⟨(kx, y) :: kvs, ?_, e2⟩
      rw [List.map_cons, ← e1]
      have z : x = kV kx := key_rel (H := F.h) e (hk.sh (Same.refl _))
      rw [z]
theorem isDeck_put {k v : D} {kvs : List (D × D)} {kx : Key} (e : keyD k = some kx) (h : isDeck kvs = false) : isDeck (dPut k v kvs) = false := dPut_mark e h
theorem disp_mark : ∀ {vs : List D} {acc out : List (D × D)}, dispV vs acc = some out → isDeck acc = false → isDeck out = false
  | [], acc, out, h, n => by
    unfold dispV at h
    cases h
    exact n
  | [k], acc, out, h, n => by
    unfold dispV at h
    cases h
  | k :: d :: vs, acc, out, h, n => by
    unfold dispV at h
    cases e : keyD k with
    | none => rw [e] at h; cases h
    | some kx =>
      rw [e] at h
      simp only [Option.isNone_some, Bool.false_eq_true, if_false] at h
      exact disp_mark h (dPut_mark e n)
theorem RelP.len {K : PySem.W.Frag} {F : Fz} : ∀ {vs : List D} {ps : List (V × V)}, RelP K F vs ps → vs.length = 2 * ps.length
  | _, _, .nil => rfl
  | _, _, .cons _ _ h => by
    have := h.len
    simp only [List.length_cons]
    omega
theorem Ef.ddisp {keys : List (Option Expr)} {vals : List Expr} (h : Ep X C Ow pos keys vals is) (hall : keys.all (·.isSome) = true) (hl : keys.length = vals.length) (h0 : keys ≠ []) (h15 : keys.length ≤ 15) (h30 : is.len ≤ 30) : Ef X C Ow (.Dict keys vals pos) (.ddisp is) := by
  obtain ⟨trs, h1, h2⟩ := h
  refine ⟨pe_con (pe_disp h1 hall hl h0 h15) fun σ H Q ⟨T, F, σe, g, v, g', r, m, q⟩ => ?_⟩
  unfold ev at m
  obtain ⟨xs, g1, m1, m2⟩ := bind_eq_ok m
  obtain ⟨m3, e3⟩ := lift_eq_ok m2
  subst e3
  obtain ⟨kvs, m4, e4⟩ := map_some m3
  subst e4
  intro p hp
  refine h2 σ _ _ ⟨upd T p (.dK []), F, σe, g, xs, _, r.take hp, m1, fun F1 H1 ps s1 r1 hps => ?_⟩
  obtain ⟨kk, e1, e2⟩ := disp_rel hps m4 (kk := []) (by unfold RelKV; rfl)
  have hk := hps.len
  rw [e1, List.length_map, evs_len _ _ _ _ _ _ m1] at hk
  refine ⟨(r1.hold p _ upd_same).1, kk, e1, by omega, ?_⟩
  obtain ⟨w1, w2, w3, w4, w5⟩ := r1.hold p _ upd_same
  have rT := r.tn hp
  have r2 := (r1.held (o' := .dK (mergeK [] kk)) upd_same).letgo (T := T) (fun a o z => by
    have ne : a ≠ p := fun y => by
      rw [y, rT] at z
      cases z
    rw [upd_ne ne, upd_ne ne]
    exact z)
  exact q F1 _ p s1 r2 ⟨⟨disp_mark m4 rfl, _, upd_same, e2⟩, w2, w3, w4, w5, rT⟩

/-! ### small facts that the printed texts use -/
theorem Room.u65 {k : Nat} {A : Around} (r : Room k A) : A.units + 65 < cLine := by
  have := r.un
  have e : cLine = 9900 := rfl
  omega
theorem Room.u70 {k : Nat} {A : Around} (r : Room k A) : A.units + 70 < cLine := by
  have := r.un
  have e : cLine = 9900 := rfl
  omega
theorem Room.u1 {k : Nat} {A : Around} (r : Room k A) : A.units + 1 < cLine := by
  have := r.un
  have e : cLine = 9900 := rfl
  omega
theorem kb_of {K : PySem.W.Frag} {x qual : Str} {st : Stmt} {f : Addr} {fd : FuncData} {ps ks : List Str} {n : Nat} {perm : List Nat} (F : Fun K x qual st f fd)
    (h : ∀ (kV doc pm : Value) (an : Option Addr) (cdv ct : Value) (us ws : List Value), us.length = n → ws.length = ks.length → bindArgs (PySem.W.fnOf x qual (defArgs st) (defBody st) (defScope st) .none kV doc pm an cdv ct) ⟨us, ks.zip ws⟩ = pure (ps.zip (Pv.pm perm (us ++ ws)))) : KB K fd ps ks n perm := by
  obtain ⟨oc, od, kV, doc, pm, an, cdv, ct, osl, rfl, lk, hcd⟩ := F.ex
  exact ⟨fun s us ws _ h1 h2 => .of_eq (h kV doc pm an cdv ct us ws h1 h2)⟩
/-- at a call -/
abbrev Ct.at (C : Ct) (H : Hp) (F0 : Fz) (Φ : Fns) : Ct := { C with H0 := H, F0 := F0, Φ := Φ, fu := fuel }
/-- what is fixed through a law's run -/
structure Dc (C : Ct) (n1 n2 : Str) (n3 : Option Str) (a : Addr) (ns : List Int) : Prop where
  n1 : C.n1 = n1
  n2 : C.n2 = n2
  n3 : C.n3 = n3
  sc : C.sc = some (a, ns)
end
end Pv
end

section
/-! the terms of k40: printed by gen.py -/
set_option autoImplicit false
namespace Xk40
open PySem Pv

def m_is_integer : Sm :=
  (.ret (.and (.bi .isInt (.cons (.var 0) .nil)) (.not (.bi .isBool (.cons (.var 0) .nil)))))

def m_are_integers (i_is_integer : Nat) : Sm :=
  (.seq (.ite (.or (.not (.truth (.bi .isTuple (.cons (.var 0) .nil)))) (.cmp .ne (.bi .len (.cons (.var 0) .nil)) (.var 1))) (.ret (.c (.bool false))) .skip)
    (.ret (.bi .all (.cons (.comp [2] .seq (.cons (.var 0) .nil) (.c (.bool true)) (.call i_is_integer (.cons (.var 2) .nil))) .nil))))

def m_common_divisor : Sm :=
  (.seq (.set [0] (.bi .abs (.cons (.var 0) .nil)))
    (.seq (.set [1] (.bi .abs (.cons (.var 1) .nil)))
    (.seq (.whil (.truth (.var 1)) (.par 0 1 (.var 1) (.bin .mod (.var 0) (.var 1))))
    (.ret (.var 0)))))

def m_bezout : Sm :=
  (.seq (.set [2, 3, 4, 5] (.tup (.cons (.c (.int 1)) (.cons (.c (.int 0)) (.cons (.c (.int 0)) (.cons (.c (.int 1)) .nil))))))
    (.seq (.whil (.truth (.var 1)) (.seq (.set [6] (.bin .fdiv (.var 0) (.var 1)))
      (.seq (.par 0 1 (.var 1) (.bin .sub (.var 0) (.bin .mul (.var 6) (.var 1))))
      (.seq (.par 2 4 (.var 4) (.bin .sub (.var 2) (.bin .mul (.var 6) (.var 4))))
      (.par 3 5 (.var 5) (.bin .sub (.var 3) (.bin .mul (.var 6) (.var 5))))))))
    (.seq (.ite (.cmp .lt (.var 0) (.c (.int 0))) (.ret (.tup (.cons (.neg (.var 0)) (.cons (.neg (.var 2)) (.cons (.neg (.var 3)) .nil))))) .skip)
    (.ret (.tup (.cons (.var 0) (.cons (.var 2) (.cons (.var 3) .nil))))))))

def m_whole_root : Sm :=
  (.seq (.set [1] (.c (.int 0)))
    (.seq (.set [2] (.c (.int 1)))
    (.seq (.whil (.cmp .le (.bin .mul (.var 2) (.var 2)) (.var 0)) (.set [2] (.bin .mul (.c (.int 2)) (.var 2))))
    (.seq (.whil (.cmp .gt (.bin .sub (.var 2) (.var 1)) (.c (.int 1))) (.seq (.set [3] (.bin .fdiv (.bin .add (.var 1) (.var 2)) (.c (.int 2))))
      (.ite (.cmp .le (.bin .mul (.var 3) (.var 3)) (.var 0)) (.set [1] (.var 3)) (.set [2] (.var 3)))))
    (.ret (.var 1))))))

def m_is_discriminant (i_is_integer : Nat) : Sm :=
  (.ret (.and (.call i_is_integer (.cons (.var 0) .nil)) (.and (.chain .le .le (.c (.int (-20000))) (.var 0) (.neg (.c (.int 3)))) (.cmp .isin (.bin .mod (.var 0) (.c (.int 4))) (.tup (.cons (.c (.int 0)) (.cons (.c (.int 1)) .nil)))))))

def m_discriminant_at : Sm :=
  (.seq (.set [1, 2, 3] (.var 0))
    (.ret (.bin .sub (.bin .mul (.var 2) (.var 2)) (.bin .mul (.bin .mul (.c (.int 4)) (.var 1)) (.var 3)))))

def m_is_form (i_are_integers i_common_divisor i_is_discriminant : Nat) : Sm :=
  (.seq (.ite (.not (.truth (.call i_are_integers (.cons (.var 0) (.cons (.c (.int 3)) .nil))))) (.ret (.c (.bool false))) .skip)
    (.seq (.set [1, 2, 3] (.var 0))
    (.seq (.ite (.or (.cmp .le (.var 1) (.c (.int 0))) (.not (.truth (.call i_is_discriminant (.cons (.bin .sub (.bin .mul (.var 2) (.var 2)) (.bin .mul (.bin .mul (.c (.int 4)) (.var 1)) (.var 3))) .nil))))) (.ret (.c (.bool false))) .skip)
    (.ret (.cmp .eq (.call i_common_divisor (.cons (.call i_common_divisor (.cons (.var 1) (.cons (.var 2) .nil))) (.cons (.var 3) .nil))) (.c (.int 1)))))))

def m_is_reduced (i_is_form : Nat) : Sm :=
  (.seq (.ite (.not (.truth (.call i_is_form (.cons (.var 0) .nil)))) (.ret (.c (.bool false))) .skip)
    (.seq (.set [1, 2, 3] (.var 0))
    (.ret (.and (.chain3 .lt .le .le (.neg (.var 1)) (.var 2) (.var 1) (.var 3)) (.not (.and (.cmp .eq (.var 1) (.var 3)) (.cmp .lt (.var 2) (.c (.int 0)))))))))

def m_lead : Sm :=
  (.seq (.set [2, 3, 4] (.var 0))
    (.seq (.set [5, 6, 7, 8] (.var 1))
    (.seq (.set [9] (.bin .add (.bin .add (.bin .mul (.bin .mul (.var 2) (.var 5)) (.var 5)) (.bin .mul (.bin .mul (.var 3) (.var 5)) (.var 7))) (.bin .mul (.bin .mul (.var 4) (.var 7)) (.var 7))))
    (.seq (.set [10] (.bin .add (.bin .add (.bin .mul (.bin .mul (.bin .mul (.c (.int 2)) (.var 2)) (.var 5)) (.var 6)) (.bin .mul (.var 3) (.bin .add (.bin .mul (.var 5) (.var 8)) (.bin .mul (.var 6) (.var 7))))) (.bin .mul (.bin .mul (.bin .mul (.c (.int 2)) (.var 4)) (.var 7)) (.var 8))))
    (.seq (.set [11] (.bin .add (.bin .add (.bin .mul (.bin .mul (.var 2) (.var 6)) (.var 6)) (.bin .mul (.bin .mul (.var 3) (.var 6)) (.var 8))) (.bin .mul (.bin .mul (.var 4) (.var 8)) (.var 8))))
    (.ret (.tup (.cons (.var 9) (.cons (.var 10) (.cons (.var 11) .nil))))))))))

def m_matrix_times : Sm :=
  (.seq (.set [2, 3, 4, 5] (.var 0))
    (.seq (.set [6, 7, 8, 9] (.var 1))
    (.ret (.tup (.cons (.bin .add (.bin .mul (.var 2) (.var 6)) (.bin .mul (.var 3) (.var 8))) (.cons (.bin .add (.bin .mul (.var 2) (.var 7)) (.bin .mul (.var 3) (.var 9))) (.cons (.bin .add (.bin .mul (.var 4) (.var 6)) (.bin .mul (.var 5) (.var 8))) (.cons (.bin .add (.bin .mul (.var 4) (.var 7)) (.bin .mul (.var 5) (.var 9))) .nil))))))))

def m_reduction (i_lead i_matrix_times : Nat) : Sm :=
  (.seq (.set [1] (.tup (.cons (.c (.int 1)) (.cons (.c (.int 0)) (.cons (.c (.int 0)) (.cons (.c (.int 1)) .nil))))))
    (.whil (.truth (.c (.bool true))) (.seq (.set [2, 3, 4] (.var 0))
      (.seq (.set [5] (.bin .fdiv (.bin .sub (.var 2) (.var 3)) (.bin .mul (.c (.int 2)) (.var 2))))
      (.seq (.ite (.truth (.var 5)) (.set [6] (.tup (.cons (.c (.int 1)) (.cons (.var 5) (.cons (.c (.int 0)) (.cons (.c (.int 1)) .nil)))))) (.ite (.or (.cmp .gt (.var 2) (.var 4)) (.and (.cmp .eq (.var 2) (.var 4)) (.cmp .lt (.var 3) (.c (.int 0))))) (.set [6] (.tup (.cons (.c (.int 0)) (.cons (.neg (.c (.int 1))) (.cons (.c (.int 1)) (.cons (.c (.int 0)) .nil)))))) (.ret (.tup (.cons (.var 0) (.cons (.var 1) .nil))))))
      (.seq (.set [0] (.call i_lead (.cons (.var 0) (.cons (.var 6) .nil))))
      (.set [1] (.call i_matrix_times (.cons (.var 1) (.cons (.var 6) .nil))))))))))

def m_ways_to (i_common_divisor i_discriminant_at i_is_reduced i_whole_root : Nat) : Sm :=
  (.seq (.ite (.not (.truth (.call i_is_reduced (.cons (.var 0) .nil)))) .bad .skip)
    (.seq (.set [2, 3, 4] (.var 0))
    (.seq (.set [5] (.call i_discriminant_at (.cons (.var 0) .nil)))
    (.seq (.set [6] (.lst .nil))
    (.seq (.set [7] (.call i_whole_root (.cons (.bin .fdiv (.bin .mul (.bin .mul (.c (.int 4)) (.var 2)) (.var 1)) (.neg (.var 5))) .nil)))
    (.seq (.forr [8] .rng2 (.cons (.neg (.var 7)) (.cons (.bin .add (.var 7) (.c (.int 1))) .nil)) (.seq (.set [9] (.bin .add (.bin .mul (.bin .mul (.c (.int 4)) (.var 2)) (.var 1)) (.bin .mul (.bin .mul (.var 5) (.var 8)) (.var 8))))
      (.seq (.set [10] (.call i_whole_root (.cons (.var 9) .nil)))
      (.seq (.ite (.cmp .ne (.bin .mul (.var 10) (.var 10)) (.var 9)) .cnt .skip)
      (.seq (.set [11] (.ite (.cmp .eq (.var 10) (.c (.int 0))) (.lst (.cons (.c (.int 0)) .nil)) (.lst (.cons (.neg (.var 10)) (.cons (.var 10) .nil)))))
      (.forr [12] .seq (.cons (.var 11) .nil) (.ite (.cmp .eq (.bin .mod (.bin .sub (.var 12) (.bin .mul (.var 3) (.var 8))) (.bin .mul (.c (.int 2)) (.var 2))) (.c (.int 0))) (.seq (.set [13] (.bin .fdiv (.bin .sub (.var 12) (.bin .mul (.var 3) (.var 8))) (.bin .mul (.c (.int 2)) (.var 2))))
          (.ite (.cmp .eq (.call i_common_divisor (.cons (.var 13) (.cons (.var 8) .nil))) (.c (.int 1))) (.app 6 (.tup (.cons (.var 13) (.cons (.var 8) .nil)))) .skip)) .skip)))))))
    (.ret (.bi .toTuple (.cons (.bi .sorted (.cons (.var 6) .nil)) .nil)))))))))

def m_first_class : Sm :=
  (.seq (.ite (.cmp .eq (.bin .mod (.var 0) (.c (.int 2))) (.c (.int 0))) (.ret (.tup (.cons (.c (.int 1)) (.cons (.c (.int 0)) (.cons (.bin .fdiv (.neg (.var 0)) (.c (.int 4))) .nil))))) .skip)
    (.ret (.tup (.cons (.c (.int 1)) (.cons (.c (.int 1)) (.cons (.bin .fdiv (.bin .sub (.c (.int 1)) (.var 0)) (.c (.int 4))) .nil))))))

def m_classes (i_common_divisor : Nat) : Sm :=
  (.seq (.set [1] (.lst .nil))
    (.seq (.set [2] (.c (.int 1)))
    (.seq (.whil (.cmp .le (.bin .mul (.bin .mul (.c (.int 3)) (.var 2)) (.var 2)) (.neg (.var 0))) (.seq (.forr [3] .rng2 (.cons (.bin .sub (.c (.int 1)) (.var 2)) (.cons (.bin .add (.var 2) (.c (.int 1))) .nil)) (.seq (.ite (.truth (.bin .mod (.bin .sub (.bin .mul (.var 3) (.var 3)) (.var 0)) (.bin .mul (.c (.int 4)) (.var 2)))) .cnt .skip)
        (.seq (.set [4] (.bin .fdiv (.bin .sub (.bin .mul (.var 3) (.var 3)) (.var 0)) (.bin .mul (.c (.int 4)) (.var 2))))
        (.seq (.ite (.or (.cmp .lt (.var 4) (.var 2)) (.and (.cmp .eq (.var 4) (.var 2)) (.cmp .lt (.var 3) (.c (.int 0))))) .cnt .skip)
        (.ite (.cmp .eq (.call i_common_divisor (.cons (.call i_common_divisor (.cons (.var 2) (.cons (.var 3) .nil))) (.cons (.var 4) .nil))) (.c (.int 1))) (.app 1 (.tup (.cons (.var 2) (.cons (.var 3) (.cons (.var 4) .nil))))) .skip)))))
      (.aug 2 .add (.c (.int 1)))))
    (.ret (.bi .toTuple (.cons (.var 1) .nil))))))

def m_class_number (i_classes : Nat) : Sm :=
  (.ret (.bi .len (.cons (.call i_classes (.cons (.var 0) .nil)) .nil)))

def m_compose (i_bezout i_discriminant_at i_reduction : Nat) : Sm :=
  (.seq (.set [2, 3, 4] (.var 0))
    (.seq (.set [5, 6, 4] (.var 1))
    (.seq (.set [7] (.call i_discriminant_at (.cons (.var 0) .nil)))
    (.seq (.set [8] (.bin .fdiv (.bin .add (.var 3) (.var 6)) (.c (.int 2))))
    (.seq (.set [9, 10, 11] (.call i_bezout (.cons (.var 2) (.cons (.var 5) .nil))))
    (.seq (.set [9, 12, 13] (.call i_bezout (.cons (.var 9) (.cons (.var 8) .nil))))
    (.seq (.set [14] (.bin .add (.bin .mul (.var 12) (.bin .add (.bin .mul (.bin .mul (.var 10) (.var 2)) (.var 6)) (.bin .mul (.bin .mul (.var 11) (.var 5)) (.var 3)))) (.bin .mul (.var 13) (.bin .fdiv (.bin .add (.bin .mul (.var 3) (.var 6)) (.var 7)) (.c (.int 2))))))
    (.seq (.set [15] (.bin .mul (.bin .fdiv (.var 2) (.var 9)) (.bin .fdiv (.var 5) (.var 9))))
    (.seq (.set [16] (.bin .mod (.bin .fdiv (.var 14) (.var 9)) (.bin .mul (.c (.int 2)) (.var 15))))
    (.seq (.set [17] (.bin .fdiv (.bin .sub (.bin .mul (.var 16) (.var 16)) (.var 7)) (.bin .mul (.c (.int 4)) (.var 15))))
    (.ret (.idx (.call i_reduction (.cons (.tup (.cons (.var 15) (.cons (.var 16) (.cons (.var 17) .nil)))) .nil)) (.c (.int 0))))))))))))))

def m_turned_about (i_reduction : Nat) : Sm :=
  (.seq (.set [1, 2, 3] (.var 0))
    (.ret (.idx (.call i_reduction (.cons (.tup (.cons (.var 1) (.cons (.neg (.var 2)) (.cons (.var 3) .nil)))) .nil)) (.c (.int 0)))))

def m_power_of (i_compose i_discriminant_at i_first_class i_reduction i_turned_about : Nat) : Sm :=
  (.seq (.set [2] (.idx (.call i_reduction (.cons (.var 0) .nil)) (.c (.int 0))))
    (.seq (.ite (.cmp .lt (.var 1) (.c (.int 0))) (.seq (.set [2] (.call i_turned_about (.cons (.var 2) .nil)))
      (.set [1] (.neg (.var 1)))) .skip)
    (.seq (.set [3] (.call i_first_class (.cons (.call i_discriminant_at (.cons (.var 0) .nil)) .nil)))
    (.seq (.whil (.truth (.var 1)) (.seq (.ite (.truth (.bin .mod (.var 1) (.c (.int 2)))) (.set [3] (.call i_compose (.cons (.var 3) (.cons (.var 2) .nil)))) .skip)
      (.seq (.set [2] (.call i_compose (.cons (.var 2) (.cons (.var 2) .nil))))
      (.aug 1 .fdiv (.c (.int 2))))))
    (.ret (.var 3))))))

def m_composed (i_compose i_discriminant_at i_is_form : Nat) : Sm :=
  (.seq (.ite (.not (.truth (.call i_is_form (.cons (.var 0) .nil)))) .bad .skip)
    (.seq (.ite (.not (.truth (.call i_is_form (.cons (.var 1) .nil)))) .bad .skip)
    (.seq (.ite (.cmp .ne (.call i_discriminant_at (.cons (.var 0) .nil)) (.call i_discriminant_at (.cons (.var 1) .nil))) .bad .skip)
    (.ret (.call i_compose (.cons (.var 0) (.cons (.var 1) .nil)))))))

def m_inverse_class (i_is_form i_turned_about : Nat) : Sm :=
  (.seq (.ite (.not (.truth (.call i_is_form (.cons (.var 0) .nil)))) .bad .skip)
    (.ret (.call i_turned_about (.cons (.var 0) .nil))))

def m_power (i_is_form i_power_of : Nat) : Sm :=
  (.seq (.ite (.not (.truth (.call i_is_form (.cons (.var 0) .nil)))) .bad .skip)
    (.ret (.call i_power_of (.cons (.var 0) (.cons (.var 1) .nil)))))

def m_order_of_class (i_compose i_discriminant_at i_first_class i_is_form i_reduction : Nat) : Sm :=
  (.seq (.ite (.not (.truth (.call i_is_form (.cons (.var 0) .nil)))) .bad .skip)
    (.seq (.set [1] (.call i_first_class (.cons (.call i_discriminant_at (.cons (.var 0) .nil)) .nil)))
    (.seq (.set [2] (.idx (.call i_reduction (.cons (.var 0) .nil)) (.c (.int 0))))
    (.seq (.set [3] (.c (.int 1)))
    (.seq (.whil (.cmp .ne (.var 2) (.var 1)) (.seq (.set [2] (.call i_compose (.cons (.var 2) (.cons (.var 0) .nil))))
      (.aug 3 .add (.c (.int 1)))))
    (.ret (.var 3)))))))

def m__law_deck (ns : List Int) : Sm :=
  (.seq (.par 2 3 (.comp [1] .seq (.cons (.scr (.var 0) ns 63) .nil) (.c (.bool true)) (.bin .mod (.bi .toInt (.cons (.var 1) .nil)) (.bin .add (.bin .pow (.c (.int 10)) (.c (.int 24))) (.c (.int 7))))) (.c (.int 1087640)))
    (.seq (.forr [1] .seq (.cons (.var 2) .nil) (.set [3] (.bin .mod (.bi .toInt (.cons (.bin .add (.bin .add (.bin .mul (.var 3) (.c (.int 48271))) (.bin .mod (.bi .toInt (.cons (.var 1) .nil)) (.c (.int 2147483543)))) (.c (.int 40))) .nil)) (.c (.int 2147483647)))))
    (.ret (.dkNew (.lrev (.var 2)) (.var 3) (.c (.int 0))))))

def m__law_draw : Sm :=
  (.seq (.dkSet true (.var 0) (.bin .add (.dkGet true (.var 0)) (.c (.int 1))))
    (.seq (.ite (.dkHas (.var 0)) (.seq (.set [2] (.dkPop (.var 0)))
      (.seq (.ite (.cmp .ge (.var 2) (.bin .pow (.c (.int 10)) (.c (.int 6)))) (.ex (.dkPush (.var 0) (.bin .fdiv (.var 2) (.bi .max2 (.cons (.c (.int 2)) (.cons (.var 1) .nil)))))) .skip)
      (.ret (.bin .mod (.bi .toInt (.cons (.var 2) .nil)) (.var 1))))) .skip)
    (.seq (.set [3] (.bin .mod (.bi .toInt (.cons (.bin .add (.dkGet false (.var 0)) (.bin .mul (.bin .mul (.c (.int 40692)) (.dkGet true (.var 0))) (.dkGet true (.var 0)))) .nil)) (.c (.int 2147483399))))
    (.seq (.set [3] (.bin .mod (.bi .toInt (.cons (.bin .mul (.var 3) (.var 3)) .nil)) (.c (.int 2147483563))))
    (.ret (.bin .mod (.bin .fdiv (.bin .mod (.bi .toInt (.cons (.bin .add (.bin .mul (.var 3) (.c (.int 39373))) (.bin .mul (.dkGet true (.var 0)) (.c (.int 7919)))) .nil)) (.c (.int 2147483629))) (.c (.int 64))) (.var 1)))))))

def m__law_pick (i__law_draw : Nat) : Sm :=
  (.ret (.idx (.var 1) (.call i__law_draw (.cons (.var 0) (.cons (.bi .len (.cons (.var 1) .nil)) .nil)))))

def m__law_gcd : Sm :=
  (.seq (.par 0 1 (.bi .abs (.cons (.var 0) .nil)) (.bi .abs (.cons (.var 1) .nil)))
    (.seq (.whil (.cmp .gt (.var 1) (.c (.int 0))) (.par 0 1 (.var 1) (.bin .mod (.bi .toInt (.cons (.var 0) .nil)) (.var 1))))
    (.ret (.var 0))))

def m__law_discriminant (i__law_draw i__law_pick : Nat) : Sm :=
  (.seq (.set [1] (.call i__law_draw (.cons (.var 0) (.cons (.c (.int 4)) .nil))))
    (.seq (.ite (.cmp .eq (.var 1) (.c (.int 0))) (.set [2] (.bin .sub (.neg (.c (.int 3))) (.call i__law_draw (.cons (.var 0) (.cons (.c (.int 120)) .nil))))) (.ite (.cmp .eq (.var 1) (.c (.int 1))) (.set [2] (.bin .sub (.neg (.c (.int 3))) (.call i__law_draw (.cons (.var 0) (.cons (.c (.int 19998)) .nil))))) (.seq (.set [3] (.tup (.cons (.neg (.c (.int 3))) (.cons (.neg (.c (.int 4))) (.cons (.neg (.c (.int 7))) (.cons (.neg (.c (.int 8))) (.cons (.neg (.c (.int 11))) (.cons (.neg (.c (.int 15))) (.cons (.neg (.c (.int 20))) (.cons (.neg (.c (.int 23))) (.cons (.neg (.c (.int 24))) (.cons (.neg (.c (.int 35))) (.cons (.neg (.c (.int 47))) (.cons (.neg (.c (.int 84))) (.cons (.neg (.c (.int 163))) (.cons (.neg (.c (.int 231))) .nil))))))))))))))))
        (.seq (.set [4] (.call i__law_pick (.cons (.var 0) (.cons (.tup (.cons (.c (.int 1)) (.cons (.c (.int 2)) (.cons (.c (.int 3)) (.cons (.c (.int 4)) (.cons (.c (.int 5)) (.cons (.c (.int 6)) (.cons (.c (.int 7)) (.cons (.c (.int 8)) (.cons (.c (.int 9)) (.cons (.c (.int 10)) (.cons (.c (.int 12)) (.cons (.c (.int 25)) .nil))))))))))))) .nil))))
        (.set [2] (.bi .max2 (.cons (.neg (.c (.int 20000))) (.cons (.bin .mul (.bin .mul (.call i__law_pick (.cons (.var 0) (.cons (.var 3) .nil))) (.var 4)) (.var 4)) .nil))))))))
    (.ret (.bin .sub (.var 2) (.dix (.ddisp (.cons (.c (.int 0)) (.cons (.c (.int 0)) (.cons (.c (.int 1)) (.cons (.c (.int 0)) (.cons (.c (.int 2)) (.cons (.c (.int 1)) (.cons (.c (.int 3)) (.cons (.c (.int 2)) .nil))))))))) (.bin .mod (.bi .toInt (.cons (.var 2) .nil)) (.c (.int 4))))))))

def m__law_classes (i__law_gcd : Nat) : Sm :=
  (.seq (.par 1 2 (.lst .nil) (.bin .mod (.bi .toInt (.cons (.var 0) .nil)) (.c (.int 2))))
    (.seq (.whil (.cmp .le (.bin .mul (.bin .mul (.c (.int 3)) (.var 2)) (.var 2)) (.bin .sub (.c (.int 0)) (.var 0))) (.seq (.set [3] (.bin .fdiv (.bin .sub (.bin .mul (.var 2) (.var 2)) (.var 0)) (.c (.int 4))))
      (.seq (.set [4] (.bi .max2 (.cons (.c (.int 1)) (.cons (.var 2) .nil))))
      (.seq (.whil (.cmp .le (.bin .mul (.var 4) (.var 4)) (.var 3)) (.seq (.ite (.and (.cmp .eq (.bin .mod (.bi .toInt (.cons (.var 3) .nil)) (.var 4)) (.c (.int 0))) (.cmp .eq (.call i__law_gcd (.cons (.call i__law_gcd (.cons (.var 4) (.cons (.var 2) .nil))) (.cons (.bin .fdiv (.var 3) (.var 4)) .nil))) (.c (.int 1)))) (.seq (.app 1 (.tup (.cons (.var 4) (.cons (.var 2) (.cons (.bin .fdiv (.var 3) (.var 4)) .nil)))))
          (.ite (.chain3 .lt .lt .lt (.c (.int 0)) (.var 2) (.var 4) (.bin .fdiv (.var 3) (.var 4))) (.app 1 (.tup (.cons (.var 4) (.cons (.bin .sub (.c (.int 0)) (.var 2)) (.cons (.bin .fdiv (.var 3) (.var 4)) .nil))))) .skip)) .skip)
        (.set [4] (.bin .add (.var 4) (.c (.int 1))))))
      (.set [2] (.bin .add (.var 2) (.c (.int 2))))))))
    (.ret (.bi .sorted (.cons (.var 1) .nil)))))

def m__law_led : Sm :=
  (.seq (.setG [[2, 3, 4], [5, 6, 7, 8]] (.tup (.cons (.var 0) (.cons (.var 1) .nil))))
    (.seq (.par 9 10 (.bin .add (.bin .add (.bin .mul (.bin .mul (.var 2) (.var 5)) (.var 5)) (.bin .mul (.bin .mul (.var 3) (.var 5)) (.var 7))) (.bin .mul (.bin .mul (.var 4) (.var 7)) (.var 7))) (.bin .add (.bin .add (.bin .mul (.bin .mul (.var 2) (.var 6)) (.var 6)) (.bin .mul (.bin .mul (.var 3) (.var 6)) (.var 8))) (.bin .mul (.bin .mul (.var 4) (.var 8)) (.var 8))))
    (.ret (.tup (.cons (.var 9) (.cons (.bin .add (.bin .add (.bin .mul (.bin .mul (.bin .mul (.c (.int 2)) (.var 2)) (.var 5)) (.var 6)) (.bin .mul (.var 3) (.bin .add (.bin .mul (.var 5) (.var 8)) (.bin .mul (.var 6) (.var 7))))) (.bin .mul (.bin .mul (.bin .mul (.c (.int 2)) (.var 4)) (.var 7)) (.var 8))) (.cons (.var 10) .nil)))))))

def m__law_times : Sm :=
  (.seq (.setG [[2, 3, 4, 5], [6, 7, 8, 9]] (.tup (.cons (.var 0) (.cons (.var 1) .nil))))
    (.ret (.tup (.cons (.bin .add (.bin .mul (.var 2) (.var 6)) (.bin .mul (.var 3) (.var 8))) (.cons (.bin .add (.bin .mul (.var 2) (.var 7)) (.bin .mul (.var 3) (.var 9))) (.cons (.bin .add (.bin .mul (.var 4) (.var 6)) (.bin .mul (.var 5) (.var 8))) (.cons (.bin .add (.bin .mul (.var 4) (.var 7)) (.bin .mul (.var 5) (.var 9))) .nil)))))))

def m__law_matrix (i__law_draw i__law_times : Nat) : Sm :=
  (.seq (.set [3] (.tup (.cons (.c (.int 1)) (.cons (.c (.int 0)) (.cons (.c (.int 0)) (.cons (.c (.int 1)) .nil))))))
    (.seq (.forr [4] .rng1 (.cons (.call i__law_draw (.cons (.var 0) (.cons (.bin .add (.var 1) (.c (.int 1))) .nil))) .nil) (.seq (.par 5 6 (.call i__law_draw (.cons (.var 0) (.cons (.c (.int 3)) .nil))) (.bin .sub (.call i__law_draw (.cons (.var 0) (.cons (.bin .add (.bin .mul (.c (.int 2)) (.var 2)) (.c (.int 1))) .nil))) (.var 2)))
      (.set [3] (.call i__law_times (.cons (.var 3) (.cons (.idx (.tup (.cons (.tup (.cons (.c (.int 1)) (.cons (.var 6) (.cons (.c (.int 0)) (.cons (.c (.int 1)) .nil))))) (.cons (.tup (.cons (.c (.int 1)) (.cons (.c (.int 0)) (.cons (.var 6) (.cons (.c (.int 1)) .nil))))) (.cons (.tup (.cons (.c (.int 0)) (.cons (.neg (.c (.int 1))) (.cons (.c (.int 1)) (.cons (.c (.int 0)) .nil))))) .nil)))) (.var 5)) .nil))))))
    (.ret (.var 3))))

def m__law_reduced (i__law_led i__law_times : Nat) : Sm :=
  (.seq (.set [1] (.tup (.cons (.c (.int 1)) (.cons (.c (.int 0)) (.cons (.c (.int 0)) (.cons (.c (.int 1)) .nil))))))
    (.seq (.forr [2] .rng1 (.cons (.c (.int 400)) .nil) (.seq (.set [3] (.tup (.cons (.c (.int 1)) (.cons (.bin .fdiv (.bin .sub (.idx (.var 0) (.c (.int 0))) (.idx (.var 0) (.c (.int 1)))) (.bin .mul (.c (.int 2)) (.idx (.var 0) (.c (.int 0))))) (.cons (.c (.int 0)) (.cons (.c (.int 1)) .nil))))))
      (.seq (.par 0 1 (.call i__law_led (.cons (.var 0) (.cons (.var 3) .nil))) (.call i__law_times (.cons (.var 1) (.cons (.var 3) .nil))))
      (.seq (.ite (.or (.cmp .lt (.idx (.var 0) (.c (.int 0))) (.idx (.var 0) (.c (.int 2)))) (.and (.cmp .eq (.idx (.var 0) (.c (.int 0))) (.idx (.var 0) (.c (.int 2)))) (.cmp .ge (.idx (.var 0) (.c (.int 1))) (.c (.int 0))))) .brk .skip)
      (.par 0 1 (.call i__law_led (.cons (.var 0) (.cons (.tup (.cons (.c (.int 0)) (.cons (.neg (.c (.int 1))) (.cons (.c (.int 1)) (.cons (.c (.int 0)) .nil))))) .nil))) (.call i__law_times (.cons (.var 1) (.cons (.tup (.cons (.c (.int 0)) (.cons (.neg (.c (.int 1))) (.cons (.c (.int 1)) (.cons (.c (.int 0)) .nil))))) .nil))))))))
    (.ret (.tup (.cons (.var 0) (.cons (.var 1) .nil))))))

def m__law_mates : Sm :=
  (.seq (.set [2, 3, 4, 5] (.tup (.cons (.var 0) (.cons (.var 1) (.cons (.tup (.cons (.c (.int 1)) (.cons (.c (.int 0)) .nil))) (.cons (.tup (.cons (.c (.int 0)) (.cons (.c (.int 1)) .nil))) .nil))))))
    (.seq (.whil (.cmp .gt (.var 3) (.c (.int 0))) (.seq (.set [6] (.bin .fdiv (.var 2) (.var 3)))
      (.set [2, 3, 4, 5] (.tup (.cons (.var 3) (.cons (.bin .sub (.var 2) (.bin .mul (.var 6) (.var 3))) (.cons (.var 5) (.cons (.tup (.cons (.bin .sub (.idx (.var 4) (.c (.int 0))) (.bin .mul (.var 6) (.idx (.var 5) (.c (.int 0))))) (.cons (.bin .sub (.idx (.var 4) (.c (.int 1))) (.bin .mul (.var 6) (.idx (.var 5) (.c (.int 1))))) .nil))) .nil))))))))
    (.ret (.var 4))))

def m__law_coprime_pair (i__law_gcd : Nat) : Sm :=
  (.seq (.forr [2] .rng2 (.cons (.c (.int 1)) (.cons (.bin .add (.bin .mul (.c (.int 2)) (.var 1)) (.c (.int 2))) .nil)) (.forr [3] .rng1 (.cons (.bin .add (.var 2) (.c (.int 1))) .nil) (.seq (.set [4] (.bin .sub (.var 2) (.var 3)))
        (.seq (.set [5] (.bin .add (.bin .add (.bin .mul (.bin .mul (.idx (.var 0) (.c (.int 0))) (.var 3)) (.var 3)) (.bin .mul (.bin .mul (.idx (.var 0) (.c (.int 1))) (.var 3)) (.var 4))) (.bin .mul (.bin .mul (.idx (.var 0) (.c (.int 2))) (.var 4)) (.var 4))))
        (.ite (.and (.cmp .eq (.call i__law_gcd (.cons (.var 3) (.cons (.var 4) .nil))) (.c (.int 1))) (.cmp .eq (.call i__law_gcd (.cons (.var 5) (.cons (.var 1) .nil))) (.c (.int 1)))) (.ret (.tup (.cons (.var 3) (.cons (.var 4) .nil)))) .skip)))))
    (.ret (.tup (.cons (.c (.int 1)) (.cons (.c (.int 0)) .nil)))))

def m__law_composed (i__law_coprime_pair i__law_led i__law_mates i__law_reduced : Nat) : Sm :=
  (.seq (.setG [[2, 3, 4], [1]] (.tup (.cons (.idx (.call i__law_reduced (.cons (.var 0) .nil)) (.c (.int 0))) (.cons (.idx (.call i__law_reduced (.cons (.var 1) .nil)) (.c (.int 0))) .nil))))
    (.seq (.set [5, 6] (.call i__law_coprime_pair (.cons (.var 1) (.cons (.var 2) .nil))))
    (.seq (.set [7, 8] (.call i__law_mates (.cons (.var 5) (.cons (.var 6) .nil))))
    (.seq (.set [9, 10, 11] (.call i__law_led (.cons (.var 1) (.cons (.tup (.cons (.var 5) (.cons (.bin .sub (.c (.int 0)) (.var 8)) (.cons (.var 6) (.cons (.var 7) .nil))))) .nil))))
    (.seq (.set [12] (.bin .mod (.bi .toInt (.cons (.bin .mul (.bin .fdiv (.bin .sub (.var 10) (.var 3)) (.c (.int 2))) (.idx (.call i__law_mates (.cons (.bin .mod (.bi .toInt (.cons (.var 2) .nil)) (.var 9)) (.cons (.var 9) .nil))) (.c (.int 0)))) .nil)) (.var 9)))
    (.seq (.set [10] (.bin .add (.var 3) (.bin .mul (.bin .mul (.c (.int 2)) (.var 2)) (.var 12))))
    (.ret (.idx (.call i__law_reduced (.cons (.tup (.cons (.bin .mul (.var 2) (.var 9)) (.cons (.var 10) (.cons (.bin .fdiv (.bin .add (.bin .sub (.bin .mul (.var 10) (.var 10)) (.bin .mul (.var 3) (.var 3))) (.bin .mul (.bin .mul (.c (.int 4)) (.var 2)) (.var 4))) (.bin .mul (.bin .mul (.c (.int 4)) (.var 2)) (.var 9))) .nil)))) .nil)) (.c (.int 0))))))))))

def m__law_first : Sm :=
  (.ret (.tup (.cons (.c (.int 1)) (.cons (.bin .mod (.bi .toInt (.cons (.var 0) .nil)) (.c (.int 2))) (.cons (.bin .fdiv (.bin .sub (.bin .mod (.bi .toInt (.cons (.var 0) .nil)) (.c (.int 2))) (.var 0)) (.c (.int 4))) .nil)))))

def m__law_order (i__law_composed i__law_first i__law_reduced : Nat) : Sm :=
  (.seq (.par3 2 3 4 (.call i__law_first (.cons (.var 1) .nil)) (.idx (.call i__law_reduced (.cons (.var 0) .nil)) (.c (.int 0))) (.c (.int 1)))
    (.seq (.set [5] (.var 3))
    (.seq (.whil (.cmp .ne (.var 3) (.var 2)) (.par 3 4 (.call i__law_composed (.cons (.var 3) (.cons (.var 5) .nil))) (.bin .add (.var 4) (.c (.int 1)))))
    (.ret (.var 4)))))

def m__law_power (i__law_composed i__law_first i__law_reduced : Nat) : Sm :=
  (.seq (.par 3 4 (.call i__law_first (.cons (.var 2) .nil)) (.idx (.call i__law_reduced (.cons (.ite (.cmp .ge (.var 1) (.c (.int 0))) (.var 0) (.tup (.cons (.idx (.var 0) (.c (.int 0))) (.cons (.bin .sub (.c (.int 0)) (.idx (.var 0) (.c (.int 1)))) (.cons (.idx (.var 0) (.c (.int 2))) .nil))))) .nil)) (.c (.int 0))))
    (.seq (.set [5] (.bi .abs (.cons (.var 1) .nil)))
    (.seq (.whil (.cmp .gt (.var 5) (.c (.int 0))) (.seq (.ite (.cmp .eq (.bin .mod (.bi .toInt (.cons (.var 5) .nil)) (.c (.int 2))) (.c (.int 1))) (.set [3] (.call i__law_composed (.cons (.var 3) (.cons (.var 4) .nil)))) .skip)
      (.par 4 5 (.call i__law_composed (.cons (.var 4) (.cons (.var 4) .nil))) (.bin .fdiv (.var 5) (.c (.int 2))))))
    (.ret (.var 3)))))

def m__law_value (i__law_draw i__law_gcd : Nat) : Sm :=
  (.seq (.par 2 3 (.bin .add (.c (.int 1)) (.call i__law_draw (.cons (.var 0) (.cons (.c (.int 5)) .nil)))) (.bin .sub (.call i__law_draw (.cons (.var 0) (.cons (.c (.int 9)) .nil))) (.c (.int 4))))
    (.seq (.set [4] (.call i__law_gcd (.cons (.var 2) (.cons (.var 3) .nil))))
    (.seq (.par 2 3 (.bin .fdiv (.var 2) (.var 4)) (.bin .fdiv (.var 3) (.var 4)))
    (.ret (.bin .add (.bin .add (.bin .mul (.bin .mul (.idx (.var 1) (.c (.int 0))) (.var 2)) (.var 2)) (.bin .mul (.bin .mul (.idx (.var 1) (.c (.int 1))) (.var 2)) (.var 3))) (.bin .mul (.bin .mul (.idx (.var 1) (.c (.int 2))) (.var 3)) (.var 3)))))))

def m__law_is_product_right (i__law_composed i_composed i_is_reduced : Nat) : Sm :=
  (.seq (.set [2] (.call i__law_composed (.cons (.var 0) (.cons (.var 1) .nil))))
    (.seq (.set [3] (.lst (.cons (.call i_composed (.cons (.var 0) (.cons (.var 1) .nil))) (.cons (.call i_composed (.cons (.var 1) (.cons (.var 0) .nil))) (.cons (.callK i_composed (.cons (.var 1) (.cons (.var 0) .nil)) [1, 0]) .nil)))))
    (.ret (.and (.cmp .eq (.bi .repr (.cons (.var 3) .nil)) (.bi .repr (.cons (.bin .mul (.lst (.cons (.var 2) .nil)) (.c (.int 3))) .nil))) (.cmp .isN (.call i_is_reduced (.cons (.var 2) .nil)) (.c (.bool true)))))))

def m__law_are_powers_right (i__law_draw i__law_first i__law_order i__law_power i_order_of_class i_power : Nat) : Sm :=
  (.seq (.par 4 5 (.call i__law_first (.cons (.var 2) .nil)) (.call i__law_order (.cons (.var 1) (.cons (.var 2) .nil))))
    (.seq (.ite (.or (.cmp .ne (.bi .repr (.cons (.lst (.cons (.call i_order_of_class (.cons (.var 1) .nil)) (.cons (.callK i_order_of_class (.cons (.var 1) .nil) [0]) .nil))) .nil)) (.bi .repr (.cons (.bin .mul (.lst (.cons (.var 5) .nil)) (.c (.int 2))) .nil))) (.cmp .ne (.bin .mod (.bi .toInt (.cons (.var 3) .nil)) (.var 5)) (.c (.int 0)))) (.ret (.c (.bool false))) .skip)
    (.seq (.set [6] (.bin .add (.bin .mul (.call i__law_draw (.cons (.var 0) (.cons (.bin .pow (.c (.int 10)) (.c (.int 6))) .nil))) (.bin .sub (.bin .pow (.c (.int 10)) (.c (.int 24))) (.c (.int 3)))) (.call i__law_draw (.cons (.var 0) (.cons (.bin .pow (.c (.int 10)) (.c (.int 6))) .nil)))))
    (.seq (.forr [7] .seq (.cons (.tup (.cons (.bin .sub (.call i__law_draw (.cons (.var 0) (.cons (.c (.int 19)) .nil))) (.c (.int 9))) (.cons (.var 6) (.cons (.bin .sub (.c (.int 0)) (.var 6)) (.cons (.var 5) (.cons (.c (.int 0)) (.cons (.bin .sub (.var 5) (.c (.int 1))) (.cons (.neg (.c (.int 1))) .nil)))))))) .nil) (.seq (.set [8] (.call i__law_power (.cons (.var 1) (.cons (.bin .mod (.bi .toInt (.cons (.var 7) .nil)) (.var 5)) (.cons (.var 2) .nil)))))
      (.ite (.cmp .ne (.bi .repr (.cons (.lst (.cons (.call i_power (.cons (.var 1) (.cons (.var 7) .nil))) (.cons (.callK i_power (.cons (.var 7) (.cons (.var 1) .nil)) [1, 0]) .nil))) .nil)) (.bi .repr (.cons (.lst (.cons (.var 8) (.cons (.var 8) .nil))) .nil))) (.ret (.c (.bool false))) .skip)))
    (.ret (.and (.cmp .eq (.call i_power (.cons (.var 1) (.cons (.var 5) .nil))) (.var 4)) (.or (.cmp .eq (.var 5) (.c (.int 1))) (.cmp .ne (.call i_power (.cons (.var 1) (.cons (.bin .sub (.var 5) (.c (.int 1))) .nil))) (.var 4)))))))))

def m_law (i__law_are_powers_right i__law_classes i__law_deck i__law_discriminant i__law_draw i__law_first i__law_gcd i__law_is_product_right i__law_led i__law_matrix i__law_pick i__law_reduced i__law_value i_class_number i_composed i_first_class i_inverse_class i_ways_to : Nat) : Sm :=
  (.seq (.set [1] (.call i__law_deck (.cons (.var 0) .nil)))
    (.seq (.set [2] (.call i__law_discriminant (.cons (.var 1) .nil)))
    (.seq (.set [3] (.call i__law_classes (.cons (.var 2) .nil)))
    (.seq (.set [4] (.comp [15] .rng1 (.cons (.c (.int 3)) .nil) (.c (.bool true)) (.call i__law_pick (.cons (.var 1) (.cons (.var 3) .nil)))))
    (.seq (.set [5, 6, 7] (.comp [16] .seq (.cons (.var 4) .nil) (.c (.bool true)) (.call i__law_led (.cons (.var 16) (.cons (.call i__law_matrix (.cons (.var 1) (.cons (.c (.int 5)) (.cons (.c (.int 4)) .nil)))) .nil)))))
    (.seq (.ite (.cmp .eq (.call i__law_draw (.cons (.var 1) (.cons (.c (.int 4)) .nil))) (.c (.int 3))) (.seq (.set [5] (.call i__law_led (.cons (.idx (.var 4) (.c (.int 0))) (.cons (.tup (.cons (.c (.int 1)) (.cons (.call i__law_pick (.cons (.var 1) (.cons (.tup (.cons (.bin .pow (.c (.int 10)) (.c (.int 13))) (.cons (.bin .sub (.c (.int 0)) (.bin .pow (.c (.int 10)) (.c (.int 13)))) .nil))) .nil))) (.cons (.c (.int 0)) (.cons (.c (.int 1)) .nil))))) .nil))))
      (.set [5] (.call i__law_led (.cons (.var 5) (.cons (.call i__law_pick (.cons (.var 1) (.cons (.tup (.cons (.tup (.cons (.c (.int 1)) (.cons (.c (.int 0)) (.cons (.c (.int 0)) (.cons (.c (.int 1)) .nil))))) (.cons (.tup (.cons (.c (.int 0)) (.cons (.neg (.c (.int 1))) (.cons (.c (.int 1)) (.cons (.c (.int 0)) .nil))))) (.cons (.tup (.cons (.c (.int 1)) (.cons (.c (.int 0)) (.cons (.c (.int 1)) (.cons (.c (.int 1)) .nil))))) .nil)))) .nil))) .nil))))) .skip)
    (.seq (.ite (.or (.not (.truth (.call i__law_is_product_right (.cons (.var 5) (.cons (.var 6) .nil))))) (.not (.truth (.call i__law_is_product_right (.cons (.idx (.var 4) (.c (.int 1))) (.cons (.var 7) .nil)))))) (.ret (.c (.bool false))) .skip)
    (.seq (.ite (.or (.cmp .ne (.call i_composed (.cons (.idx (.var 4) (.c (.int 0))) (.cons (.idx (.var 4) (.c (.int 1))) .nil))) (.call i_composed (.cons (.var 5) (.cons (.var 6) .nil)))) (.not (.truth (.call i__law_is_product_right (.cons (.var 5) (.cons (.var 5) .nil)))))) (.ret (.c (.bool false))) .skip)
    (.seq (.ite (.cmp .ne (.call i_composed (.cons (.call i_composed (.cons (.var 5) (.cons (.var 6) .nil))) (.cons (.var 7) .nil))) (.call i_composed (.cons (.var 5) (.cons (.call i_composed (.cons (.var 6) (.cons (.var 7) .nil))) .nil)))) (.ret (.c (.bool false))) .skip)
    (.seq (.par 8 9 (.call i_first_class (.cons (.var 2) .nil)) (.idx (.call i__law_reduced (.cons (.tup (.cons (.idx (.var 5) (.c (.int 0))) (.cons (.bin .sub (.c (.int 0)) (.idx (.var 5) (.c (.int 1)))) (.cons (.idx (.var 5) (.c (.int 2))) .nil)))) .nil)) (.c (.int 0))))
    (.seq (.ite (.or (.cmp .ne (.call i_composed (.cons (.var 5) (.cons (.var 8) .nil))) (.idx (.var 4) (.c (.int 0)))) (.or (.cmp .ne (.call i_composed (.cons (.var 8) (.cons (.var 6) .nil))) (.idx (.var 4) (.c (.int 1)))) (.cmp .ne (.var 8) (.call i__law_first (.cons (.var 2) .nil))))) (.ret (.c (.bool false))) .skip)
    (.seq (.ite (.or (.cmp .ne (.bi .repr (.cons (.lst (.cons (.call i_inverse_class (.cons (.var 5) .nil)) (.cons (.callK i_inverse_class (.cons (.var 5) .nil) [0]) .nil))) .nil)) (.bi .repr (.cons (.lst (.cons (.var 9) (.cons (.var 9) .nil))) .nil))) (.cmp .ne (.call i_composed (.cons (.var 9) (.cons (.var 5) .nil))) (.var 8))) (.ret (.c (.bool false))) .skip)
    (.seq (.ite (.or (.cmp .ne (.call i_class_number (.cons (.var 2) .nil)) (.bi .len (.cons (.var 3) .nil))) (.not (.truth (.call i__law_are_powers_right (.cons (.var 1) (.cons (.var 5) (.cons (.var 2) (.cons (.bi .len (.cons (.var 3) .nil)) .nil)))))))) (.ret (.c (.bool false))) .skip)
    (.seq (.par 10 11 (.lst (.cons (.idx (.idx (.var 4) (.c (.int 0))) (.c (.int 0))) (.cons (.idx (.idx (.var 4) (.c (.int 0))) (.c (.int 2))) .nil))) (.lst (.cons (.idx (.idx (.var 4) (.c (.int 2))) (.c (.int 0))) (.cons (.idx (.idx (.var 4) (.c (.int 2))) (.c (.int 2))) .nil))))
    (.seq (.par 10 11 (.bin .add (.var 10) (.lst (.cons (.call i__law_value (.cons (.var 1) (.cons (.idx (.var 4) (.c (.int 0))) .nil))) .nil))) (.bin .add (.var 11) (.lst (.cons (.call i__law_value (.cons (.var 1) (.cons (.idx (.var 4) (.c (.int 2))) .nil))) .nil))))
    (.seq (.set [12] (.call i_composed (.cons (.idx (.var 4) (.c (.int 0))) (.cons (.idx (.var 4) (.c (.int 2))) .nil))))
    (.seq (.forr [13] .seq (.cons (.var 10) .nil) (.forr [14] .seq (.cons (.comp [14] .seq (.cons (.var 11) .nil) (.and (.cmp .eq (.call i__law_gcd (.cons (.var 13) (.cons (.var 14) .nil))) (.c (.int 1))) (.cmp .le (.bin .mul (.var 13) (.var 14)) (.c (.int 10000)))) (.var 14)) .nil) (.ite (.cmp .eq (.call i_ways_to (.cons (.var 12) (.cons (.bin .mul (.var 13) (.var 14)) .nil))) (.tup .nil)) (.ret (.c (.bool false))) .skip)))
    (.ret (.c (.bool true))))))))))))))))))))

def T (ns : List Int) : List Fn := [⟨1, 1, m_is_integer⟩, ⟨2, 3, m_are_integers 0⟩, ⟨2, 2, m_common_divisor⟩, ⟨2, 7, m_bezout⟩, ⟨1, 4, m_whole_root⟩, ⟨1, 1, m_is_discriminant 0⟩, ⟨1, 4, m_discriminant_at⟩, ⟨1, 4, m_is_form 1 2 5⟩, ⟨1, 4, m_is_reduced 7⟩, ⟨2, 12, m_lead⟩, ⟨2, 10, m_matrix_times⟩, ⟨1, 7, m_reduction 9 10⟩, ⟨2, 14, m_ways_to 2 6 8 4⟩, ⟨1, 1, m_first_class⟩, ⟨1, 5, m_classes 2⟩, ⟨1, 1, m_class_number 14⟩, ⟨2, 18, m_compose 3 6 11⟩, ⟨1, 4, m_turned_about 11⟩, ⟨2, 4, m_power_of 16 6 13 11 17⟩, ⟨2, 2, m_composed 16 6 7⟩, ⟨1, 1, m_inverse_class 7 17⟩, ⟨2, 2, m_power 7 18⟩, ⟨1, 4, m_order_of_class 16 6 13 7 11⟩, ⟨1, 4, m__law_deck ns⟩, ⟨2, 4, m__law_draw⟩, ⟨2, 2, m__law_pick 24⟩, ⟨2, 2, m__law_gcd⟩, ⟨1, 5, m__law_discriminant 24 25⟩, ⟨1, 5, m__law_classes 26⟩, ⟨2, 11, m__law_led⟩, ⟨2, 10, m__law_times⟩, ⟨3, 7, m__law_matrix 24 30⟩, ⟨1, 4, m__law_reduced 29 30⟩, ⟨2, 7, m__law_mates⟩, ⟨2, 6, m__law_coprime_pair 26⟩, ⟨2, 13, m__law_composed 34 29 33 32⟩, ⟨1, 1, m__law_first⟩, ⟨2, 6, m__law_order 35 36 32⟩, ⟨3, 6, m__law_power 35 36 32⟩, ⟨2, 5, m__law_value 24 26⟩, ⟨2, 4, m__law_is_product_right 35 19 8⟩, ⟨4, 9, m__law_are_powers_right 24 36 37 38 22 21⟩, ⟨1, 17, m_law 41 28 23 27 24 36 26 40 29 31 25 32 39 15 19 13 20 12⟩]

/-- the functions at a height -/
abbrev PH (ns : List Int) (d : Nat) : Fns := FT (T ns) (fun _ => none) d

end Xk40
end

section
/-! the walk of k40: printed by gen.py -/
set_option autoImplicit false
namespace Xk40
open PySem PySem.Spec PyProof.Rows L2 Pv

def topS (i : Nat) : Stmt := PySem.Challenge.pw_craterhouse_k40_whole_products_of_classe.main.body.getD i (.Pass ⟨0, 0, 0, 0⟩)

abbrev n_1 : Str := "rest"
abbrev n_2 : Str := "mixed"
abbrev n_3 : Option Str := some ("turn" : Str)

theorem dkn_of {C : Ct} {a : Addr} {ns : List Int} (D : Dc C n_1 n_2 n_3 a ns) : DkN C := ⟨by rw [D.n1, D.n2]; decide, fun n h => by
  rw [D.n3] at h
  rw [D.n1, D.n2]
  cases h
  decide⟩

theorem hn3_of {C : Ct} {a : Addr} {ns : List Int} (D : Dc C n_1 n_2 n_3 a ns) : (if true then C.n3 else some C.n2) = some ("turn" : Str) := by rw [D.n3]; rfl

theorem hn2_of {C : Ct} {a : Addr} {ns : List Int} (D : Dc C n_1 n_2 n_3 a ns) : (if false then C.n3 else some C.n2) = some ("mixed" : Str) := by rw [D.n2]; rfl

abbrev s_is_integer : Stmt := topS 5
abbrev p_is_integer : List Str := ["thing"]
theorem sc_is_integer : FnScope ["thing"] p_is_integer (defScope s_is_integer) := ⟨rfl, rfl, rfl, by decide +kernel, rfl, by decide +kernel, by decide +kernel⟩

abbrev s_are_integers : Stmt := topS 6
abbrev p_are_integers : List Str := ["thing", "many"]
theorem sc_are_integers : FnScope ["thing", "many", "part"] p_are_integers (defScope s_are_integers) := ⟨rfl, rfl, rfl, by decide +kernel, rfl, by decide +kernel, by decide +kernel⟩

abbrev s_common_divisor : Stmt := topS 7
abbrev p_common_divisor : List Str := ["one", "other"]
theorem sc_common_divisor : FnScope ["one", "other"] p_common_divisor (defScope s_common_divisor) := ⟨rfl, rfl, rfl, by decide +kernel, rfl, by decide +kernel, by decide +kernel⟩

abbrev s_bezout : Stmt := topS 8
abbrev p_bezout : List Str := ["one", "other"]
theorem sc_bezout : FnScope ["one", "other", "x", "y", "next_x", "next_y", "quotient"] p_bezout (defScope s_bezout) := ⟨rfl, rfl, rfl, by decide +kernel, rfl, by decide +kernel, by decide +kernel⟩

abbrev s_whole_root : Stmt := topS 9
abbrev p_whole_root : List Str := ["number"]
theorem sc_whole_root : FnScope ["number", "low", "high", "middle"] p_whole_root (defScope s_whole_root) := ⟨rfl, rfl, rfl, by decide +kernel, rfl, by decide +kernel, by decide +kernel⟩

abbrev s_is_discriminant : Stmt := topS 12
abbrev p_is_discriminant : List Str := ["thing"]
theorem sc_is_discriminant : FnScope ["thing"] p_is_discriminant (defScope s_is_discriminant) := ⟨rfl, rfl, rfl, by decide +kernel, rfl, by decide +kernel, by decide +kernel⟩

abbrev s_discriminant_at : Stmt := topS 13
abbrev p_discriminant_at : List Str := ["form"]
theorem sc_discriminant_at : FnScope ["form", "a", "b", "c"] p_discriminant_at (defScope s_discriminant_at) := ⟨rfl, rfl, rfl, by decide +kernel, rfl, by decide +kernel, by decide +kernel⟩

abbrev s_is_form : Stmt := topS 14
abbrev p_is_form : List Str := ["thing"]
theorem sc_is_form : FnScope ["thing", "a", "b", "c"] p_is_form (defScope s_is_form) := ⟨rfl, rfl, rfl, by decide +kernel, rfl, by decide +kernel, by decide +kernel⟩

abbrev s_is_reduced : Stmt := topS 15
abbrev p_is_reduced : List Str := ["thing"]
theorem sc_is_reduced : FnScope ["thing", "a", "b", "c"] p_is_reduced (defScope s_is_reduced) := ⟨rfl, rfl, rfl, by decide +kernel, rfl, by decide +kernel, by decide +kernel⟩

abbrev s_lead : Stmt := topS 16
abbrev p_lead : List Str := ["form", "matrix"]
theorem sc_lead : FnScope ["form", "matrix", "a", "b", "c", "g", "h", "i", "j", "first", "middle", "last"] p_lead (defScope s_lead) := ⟨rfl, rfl, rfl, by decide +kernel, rfl, by decide +kernel, by decide +kernel⟩

abbrev s_matrix_times : Stmt := topS 17
abbrev p_matrix_times : List Str := ["one", "other"]
theorem sc_matrix_times : FnScope ["one", "other", "g", "h", "i", "j", "g2", "h2", "i2", "j2"] p_matrix_times (defScope s_matrix_times) := ⟨rfl, rfl, rfl, by decide +kernel, rfl, by decide +kernel, by decide +kernel⟩

abbrev s_reduction : Stmt := topS 18
abbrev p_reduction : List Str := ["form"]
theorem sc_reduction : FnScope ["form", "matrix", "a", "b", "c", "shift", "step"] p_reduction (defScope s_reduction) := ⟨rfl, rfl, rfl, by decide +kernel, rfl, by decide +kernel, by decide +kernel⟩

abbrev s_ways_to : Stmt := topS 19
abbrev p_ways_to : List Str := ["form", "number"]
theorem sc_ways_to : FnScope ["form", "number", "a", "b", "c", "discriminant", "found", "most", "y", "square", "root", "tops", "top", "x"] p_ways_to (defScope s_ways_to) := ⟨rfl, rfl, rfl, by decide +kernel, rfl, by decide +kernel, by decide +kernel⟩

abbrev s_first_class : Stmt := topS 21
abbrev p_first_class : List Str := ["discriminant"]
theorem sc_first_class : FnScope ["discriminant"] p_first_class (defScope s_first_class) := ⟨rfl, rfl, rfl, by decide +kernel, rfl, by decide +kernel, by decide +kernel⟩

abbrev s_classes : Stmt := topS 22
abbrev p_classes : List Str := ["discriminant"]
theorem sc_classes : FnScope ["discriminant", "found", "a", "b", "c"] p_classes (defScope s_classes) := ⟨rfl, rfl, rfl, by decide +kernel, rfl, by decide +kernel, by decide +kernel⟩

abbrev s_class_number : Stmt := topS 23
abbrev p_class_number : List Str := ["discriminant"]
theorem sc_class_number : FnScope ["discriminant"] p_class_number (defScope s_class_number) := ⟨rfl, rfl, rfl, by decide +kernel, rfl, by decide +kernel, by decide +kernel⟩

abbrev s_compose : Stmt := topS 24
abbrev p_compose : List Str := ["one", "other"]
theorem sc_compose : FnScope ["one", "other", "a", "b", "_", "a2", "b2", "discriminant", "half", "g", "x", "y", "scale", "z", "top", "first", "middle", "last"] p_compose (defScope s_compose) := ⟨rfl, rfl, rfl, by decide +kernel, rfl, by decide +kernel, by decide +kernel⟩

abbrev s_turned_about : Stmt := topS 25
abbrev p_turned_about : List Str := ["form"]
theorem sc_turned_about : FnScope ["form", "a", "b", "c"] p_turned_about (defScope s_turned_about) := ⟨rfl, rfl, rfl, by decide +kernel, rfl, by decide +kernel, by decide +kernel⟩

abbrev s_power_of : Stmt := topS 26
abbrev p_power_of : List Str := ["form", "exponent"]
theorem sc_power_of : FnScope ["form", "exponent", "base", "result"] p_power_of (defScope s_power_of) := ⟨rfl, rfl, rfl, by decide +kernel, rfl, by decide +kernel, by decide +kernel⟩

abbrev s_composed : Stmt := topS 27
abbrev p_composed : List Str := ["one", "other"]
theorem sc_composed : FnScope ["one", "other"] p_composed (defScope s_composed) := ⟨rfl, rfl, rfl, by decide +kernel, rfl, by decide +kernel, by decide +kernel⟩

abbrev s_inverse_class : Stmt := topS 28
abbrev p_inverse_class : List Str := ["form"]
theorem sc_inverse_class : FnScope ["form"] p_inverse_class (defScope s_inverse_class) := ⟨rfl, rfl, rfl, by decide +kernel, rfl, by decide +kernel, by decide +kernel⟩

abbrev s_power : Stmt := topS 29
abbrev p_power : List Str := ["form", "exponent"]
theorem sc_power : FnScope ["form", "exponent"] p_power (defScope s_power) := ⟨rfl, rfl, rfl, by decide +kernel, rfl, by decide +kernel, by decide +kernel⟩

abbrev s_order_of_class : Stmt := topS 30
abbrev p_order_of_class : List Str := ["form"]
theorem sc_order_of_class : FnScope ["form", "first", "at", "order"] p_order_of_class (defScope s_order_of_class) := ⟨rfl, rfl, rfl, by decide +kernel, rfl, by decide +kernel, by decide +kernel⟩

abbrev s__law_deck : Stmt := topS 32
abbrev p__law_deck : List Str := ["_law_script"]
theorem sc__law_deck : FnScope ["_law_script", "_law_cell", "_law_rest", "_law_mixed"] p__law_deck (defScope s__law_deck) := ⟨rfl, rfl, rfl, by decide +kernel, rfl, by decide +kernel, by decide +kernel⟩

abbrev s__law_draw : Stmt := topS 33
abbrev p__law_draw : List Str := ["_law_deck_here", "_law_below"]
theorem sc__law_draw : FnScope ["_law_deck_here", "_law_below", "_law_cell", "_law_number"] p__law_draw (defScope s__law_draw) := ⟨rfl, rfl, rfl, by decide +kernel, rfl, by decide +kernel, by decide +kernel⟩

abbrev s__law_pick : Stmt := topS 34
abbrev p__law_pick : List Str := ["_law_deck_here", "_law_some"]
theorem sc__law_pick : FnScope ["_law_deck_here", "_law_some"] p__law_pick (defScope s__law_pick) := ⟨rfl, rfl, rfl, by decide +kernel, rfl, by decide +kernel, by decide +kernel⟩

abbrev s__law_gcd : Stmt := topS 35
abbrev p__law_gcd : List Str := ["_law_one", "_law_other"]
theorem sc__law_gcd : FnScope ["_law_one", "_law_other"] p__law_gcd (defScope s__law_gcd) := ⟨rfl, rfl, rfl, by decide +kernel, rfl, by decide +kernel, by decide +kernel⟩

abbrev s__law_discriminant : Stmt := topS 36
abbrev p__law_discriminant : List Str := ["_law_deck_here"]
theorem sc__law_discriminant : FnScope ["_law_deck_here", "_law_way", "_law_number", "_law_some", "_law_factor"] p__law_discriminant (defScope s__law_discriminant) := ⟨rfl, rfl, rfl, by decide +kernel, rfl, by decide +kernel, by decide +kernel⟩

abbrev s__law_classes : Stmt := topS 37
abbrev p__law_classes : List Str := ["_law_discriminant_here"]
theorem sc__law_classes : FnScope ["_law_discriminant_here", "_law_found", "_law_b", "_law_product", "_law_a"] p__law_classes (defScope s__law_classes) := ⟨rfl, rfl, rfl, by decide +kernel, rfl, by decide +kernel, by decide +kernel⟩

abbrev s__law_led : Stmt := topS 38
abbrev p__law_led : List Str := ["_law_form", "_law_matrix_here"]
theorem sc__law_led : FnScope ["_law_form", "_law_matrix_here", "_law_a", "_law_b", "_law_c", "_law_g", "_law_h", "_law_i", "_law_j", "_law_first_here", "_law_last"] p__law_led (defScope s__law_led) := ⟨rfl, rfl, rfl, by decide +kernel, rfl, by decide +kernel, by decide +kernel⟩

abbrev s__law_times : Stmt := topS 39
abbrev p__law_times : List Str := ["_law_one", "_law_other"]
theorem sc__law_times : FnScope ["_law_one", "_law_other", "_law_g", "_law_h", "_law_i", "_law_j", "_law_k", "_law_m", "_law_n", "_law_o"] p__law_times (defScope s__law_times) := ⟨rfl, rfl, rfl, by decide +kernel, rfl, by decide +kernel, by decide +kernel⟩

abbrev s__law_matrix : Stmt := topS 40
abbrev p__law_matrix : List Str := ["_law_deck_here", "_law_many", "_law_great"]
theorem sc__law_matrix : FnScope ["_law_deck_here", "_law_many", "_law_great", "_law_found", "_law_turn", "_law_way", "_law_k"] p__law_matrix (defScope s__law_matrix) := ⟨rfl, rfl, rfl, by decide +kernel, rfl, by decide +kernel, by decide +kernel⟩

abbrev s__law_reduced : Stmt := topS 41
abbrev p__law_reduced : List Str := ["_law_form"]
theorem sc__law_reduced : FnScope ["_law_form", "_law_matrix_here", "_law_turn", "_law_step"] p__law_reduced (defScope s__law_reduced) := ⟨rfl, rfl, rfl, by decide +kernel, rfl, by decide +kernel, by decide +kernel⟩

abbrev s__law_mates : Stmt := topS 42
abbrev p__law_mates : List Str := ["_law_x", "_law_y"]
theorem sc__law_mates : FnScope ["_law_x", "_law_y", "_law_one", "_law_other", "_law_row", "_law_near", "_law_k"] p__law_mates (defScope s__law_mates) := ⟨rfl, rfl, rfl, by decide +kernel, rfl, by decide +kernel, by decide +kernel⟩

abbrev s__law_coprime_pair : Stmt := topS 43
abbrev p__law_coprime_pair : List Str := ["_law_form", "_law_a"]
theorem sc__law_coprime_pair : FnScope ["_law_form", "_law_a", "_law_total", "_law_x", "_law_y", "_law_value_here"] p__law_coprime_pair (defScope s__law_coprime_pair) := ⟨rfl, rfl, rfl, by decide +kernel, rfl, by decide +kernel, by decide +kernel⟩

abbrev s__law_composed : Stmt := topS 44
abbrev p__law_composed : List Str := ["_law_one", "_law_other"]
theorem sc__law_composed : FnScope ["_law_one", "_law_other", "_law_a", "_law_b", "_law_c", "_law_x", "_law_y", "_law_u", "_law_w", "_law_n", "_law_middle", "_law_last", "_law_k"] p__law_composed (defScope s__law_composed) := ⟨rfl, rfl, rfl, by decide +kernel, rfl, by decide +kernel, by decide +kernel⟩

abbrev s__law_first : Stmt := topS 45
abbrev p__law_first : List Str := ["_law_number"]
theorem sc__law_first : FnScope ["_law_number"] p__law_first (defScope s__law_first) := ⟨rfl, rfl, rfl, by decide +kernel, rfl, by decide +kernel, by decide +kernel⟩

abbrev s__law_order : Stmt := topS 46
abbrev p__law_order : List Str := ["_law_form", "_law_number"]
theorem sc__law_order : FnScope ["_law_form", "_law_number", "_law_first_here", "_law_here", "_law_many", "_law_own"] p__law_order (defScope s__law_order) := ⟨rfl, rfl, rfl, by decide +kernel, rfl, by decide +kernel, by decide +kernel⟩

abbrev s__law_power : Stmt := topS 47
abbrev p__law_power : List Str := ["_law_form", "_law_exponent", "_law_number"]
theorem sc__law_power : FnScope ["_law_form", "_law_exponent", "_law_number", "_law_found", "_law_here", "_law_rest"] p__law_power (defScope s__law_power) := ⟨rfl, rfl, rfl, by decide +kernel, rfl, by decide +kernel, by decide +kernel⟩

abbrev s__law_value : Stmt := topS 48
abbrev p__law_value : List Str := ["_law_deck_here", "_law_form"]
theorem sc__law_value : FnScope ["_law_deck_here", "_law_form", "_law_x", "_law_y", "_law_common"] p__law_value (defScope s__law_value) := ⟨rfl, rfl, rfl, by decide +kernel, rfl, by decide +kernel, by decide +kernel⟩

abbrev s__law_is_product_right : Stmt := topS 49
abbrev p__law_is_product_right : List Str := ["_law_one", "_law_other"]
theorem sc__law_is_product_right : FnScope ["_law_one", "_law_other", "_law_due", "_law_told"] p__law_is_product_right (defScope s__law_is_product_right) := ⟨rfl, rfl, rfl, by decide +kernel, rfl, by decide +kernel, by decide +kernel⟩

abbrev s__law_are_powers_right : Stmt := topS 50
abbrev p__law_are_powers_right : List Str := ["_law_deck_here", "_law_form", "_law_number", "_law_many"]
theorem sc__law_are_powers_right : FnScope ["_law_deck_here", "_law_form", "_law_number", "_law_many", "_law_first_here", "_law_order_here", "_law_great", "_law_exponent", "_law_due"] p__law_are_powers_right (defScope s__law_are_powers_right) := ⟨rfl, rfl, rfl, by decide +kernel, rfl, by decide +kernel, by decide +kernel⟩

abbrev s_law : Stmt := topS 51
abbrev p_law : List Str := ["_law_script"]
theorem sc_law : FnScope ["_law_script", "_law_deck_here", "_law_number", "_law_some", "_law_near", "_law_one", "_law_other", "_law_third", "_law_first_here", "_law_back", "_law_values", "_law_mates_here", "_law_both", "_law_value_here", "_law_mate", "_law_turn", "_law_form"] p_law (defScope s_law) := ⟨rfl, rfl, rfl, by decide +kernel, rfl, by decide +kernel, by decide +kernel⟩

/-- what the top has written -/
structure Fa (K : PySem.W.Frag) (mg : Str → Option Value) where

  f_is_integer : Addr
  d_is_integer : FuncData
  F_is_integer : Fun K "is_integer" "is_integer" s_is_integer f_is_integer d_is_integer
  g_is_integer : mg "is_integer" = some (.ref f_is_integer)
  b_is_integer : Binds K d_is_integer p_is_integer []

  f_are_integers : Addr
  d_are_integers : FuncData
  F_are_integers : Fun K "are_integers" "are_integers" s_are_integers f_are_integers d_are_integers
  g_are_integers : mg "are_integers" = some (.ref f_are_integers)
  b_are_integers : Binds K d_are_integers p_are_integers []

  f_common_divisor : Addr
  d_common_divisor : FuncData
  F_common_divisor : Fun K "common_divisor" "common_divisor" s_common_divisor f_common_divisor d_common_divisor
  g_common_divisor : mg "common_divisor" = some (.ref f_common_divisor)
  b_common_divisor : Binds K d_common_divisor p_common_divisor []

  f_bezout : Addr
  d_bezout : FuncData
  F_bezout : Fun K "bezout" "bezout" s_bezout f_bezout d_bezout
  g_bezout : mg "bezout" = some (.ref f_bezout)
  b_bezout : Binds K d_bezout p_bezout []

  f_whole_root : Addr
  d_whole_root : FuncData
  F_whole_root : Fun K "whole_root" "whole_root" s_whole_root f_whole_root d_whole_root
  g_whole_root : mg "whole_root" = some (.ref f_whole_root)
  b_whole_root : Binds K d_whole_root p_whole_root []

  f_is_discriminant : Addr
  d_is_discriminant : FuncData
  F_is_discriminant : Fun K "is_discriminant" "is_discriminant" s_is_discriminant f_is_discriminant d_is_discriminant
  g_is_discriminant : mg "is_discriminant" = some (.ref f_is_discriminant)
  b_is_discriminant : Binds K d_is_discriminant p_is_discriminant []

  f_discriminant_at : Addr
  d_discriminant_at : FuncData
  F_discriminant_at : Fun K "discriminant_at" "discriminant_at" s_discriminant_at f_discriminant_at d_discriminant_at
  g_discriminant_at : mg "discriminant_at" = some (.ref f_discriminant_at)
  b_discriminant_at : Binds K d_discriminant_at p_discriminant_at []

  f_is_form : Addr
  d_is_form : FuncData
  F_is_form : Fun K "is_form" "is_form" s_is_form f_is_form d_is_form
  g_is_form : mg "is_form" = some (.ref f_is_form)
  b_is_form : Binds K d_is_form p_is_form []

  f_is_reduced : Addr
  d_is_reduced : FuncData
  F_is_reduced : Fun K "is_reduced" "is_reduced" s_is_reduced f_is_reduced d_is_reduced
  g_is_reduced : mg "is_reduced" = some (.ref f_is_reduced)
  b_is_reduced : Binds K d_is_reduced p_is_reduced []

  f_lead : Addr
  d_lead : FuncData
  F_lead : Fun K "lead" "lead" s_lead f_lead d_lead
  g_lead : mg "lead" = some (.ref f_lead)
  b_lead : Binds K d_lead p_lead []

  f_matrix_times : Addr
  d_matrix_times : FuncData
  F_matrix_times : Fun K "matrix_times" "matrix_times" s_matrix_times f_matrix_times d_matrix_times
  g_matrix_times : mg "matrix_times" = some (.ref f_matrix_times)
  b_matrix_times : Binds K d_matrix_times p_matrix_times []

  f_reduction : Addr
  d_reduction : FuncData
  F_reduction : Fun K "reduction" "reduction" s_reduction f_reduction d_reduction
  g_reduction : mg "reduction" = some (.ref f_reduction)
  b_reduction : Binds K d_reduction p_reduction []

  f_ways_to : Addr
  d_ways_to : FuncData
  F_ways_to : Fun K "ways_to" "ways_to" s_ways_to f_ways_to d_ways_to
  g_ways_to : mg "ways_to" = some (.ref f_ways_to)
  b_ways_to : Binds K d_ways_to p_ways_to []

  f_first_class : Addr
  d_first_class : FuncData
  F_first_class : Fun K "first_class" "first_class" s_first_class f_first_class d_first_class
  g_first_class : mg "first_class" = some (.ref f_first_class)
  b_first_class : Binds K d_first_class p_first_class []

  f_classes : Addr
  d_classes : FuncData
  F_classes : Fun K "classes" "classes" s_classes f_classes d_classes
  g_classes : mg "classes" = some (.ref f_classes)
  b_classes : Binds K d_classes p_classes []

  f_class_number : Addr
  d_class_number : FuncData
  F_class_number : Fun K "class_number" "class_number" s_class_number f_class_number d_class_number
  g_class_number : mg "class_number" = some (.ref f_class_number)
  b_class_number : Binds K d_class_number p_class_number []

  f_compose : Addr
  d_compose : FuncData
  F_compose : Fun K "compose" "compose" s_compose f_compose d_compose
  g_compose : mg "compose" = some (.ref f_compose)
  b_compose : Binds K d_compose p_compose []

  f_turned_about : Addr
  d_turned_about : FuncData
  F_turned_about : Fun K "turned_about" "turned_about" s_turned_about f_turned_about d_turned_about
  g_turned_about : mg "turned_about" = some (.ref f_turned_about)
  b_turned_about : Binds K d_turned_about p_turned_about []

  f_power_of : Addr
  d_power_of : FuncData
  F_power_of : Fun K "power_of" "power_of" s_power_of f_power_of d_power_of
  g_power_of : mg "power_of" = some (.ref f_power_of)
  b_power_of : Binds K d_power_of p_power_of []

  f_composed : Addr
  d_composed : FuncData
  F_composed : Fun K "composed" "composed" s_composed f_composed d_composed
  g_composed : mg "composed" = some (.ref f_composed)
  b_composed : Binds K d_composed p_composed []

  f_inverse_class : Addr
  d_inverse_class : FuncData
  F_inverse_class : Fun K "inverse_class" "inverse_class" s_inverse_class f_inverse_class d_inverse_class
  g_inverse_class : mg "inverse_class" = some (.ref f_inverse_class)
  b_inverse_class : Binds K d_inverse_class p_inverse_class []

  f_power : Addr
  d_power : FuncData
  F_power : Fun K "power" "power" s_power f_power d_power
  g_power : mg "power" = some (.ref f_power)
  b_power : Binds K d_power p_power []

  f_order_of_class : Addr
  d_order_of_class : FuncData
  F_order_of_class : Fun K "order_of_class" "order_of_class" s_order_of_class f_order_of_class d_order_of_class
  g_order_of_class : mg "order_of_class" = some (.ref f_order_of_class)
  b_order_of_class : Binds K d_order_of_class p_order_of_class []

  f__law_deck : Addr
  d__law_deck : FuncData
  F__law_deck : Fun K "_law_deck" "_law_deck" s__law_deck f__law_deck d__law_deck
  g__law_deck : mg "_law_deck" = some (.ref f__law_deck)
  b__law_deck : Binds K d__law_deck p__law_deck []

  f__law_draw : Addr
  d__law_draw : FuncData
  F__law_draw : Fun K "_law_draw" "_law_draw" s__law_draw f__law_draw d__law_draw
  g__law_draw : mg "_law_draw" = some (.ref f__law_draw)
  b__law_draw : Binds K d__law_draw p__law_draw []

  f__law_pick : Addr
  d__law_pick : FuncData
  F__law_pick : Fun K "_law_pick" "_law_pick" s__law_pick f__law_pick d__law_pick
  g__law_pick : mg "_law_pick" = some (.ref f__law_pick)
  b__law_pick : Binds K d__law_pick p__law_pick []

  f__law_gcd : Addr
  d__law_gcd : FuncData
  F__law_gcd : Fun K "_law_gcd" "_law_gcd" s__law_gcd f__law_gcd d__law_gcd
  g__law_gcd : mg "_law_gcd" = some (.ref f__law_gcd)
  b__law_gcd : Binds K d__law_gcd p__law_gcd []

  f__law_discriminant : Addr
  d__law_discriminant : FuncData
  F__law_discriminant : Fun K "_law_discriminant" "_law_discriminant" s__law_discriminant f__law_discriminant d__law_discriminant
  g__law_discriminant : mg "_law_discriminant" = some (.ref f__law_discriminant)
  b__law_discriminant : Binds K d__law_discriminant p__law_discriminant []

  f__law_classes : Addr
  d__law_classes : FuncData
  F__law_classes : Fun K "_law_classes" "_law_classes" s__law_classes f__law_classes d__law_classes
  g__law_classes : mg "_law_classes" = some (.ref f__law_classes)
  b__law_classes : Binds K d__law_classes p__law_classes []

  f__law_led : Addr
  d__law_led : FuncData
  F__law_led : Fun K "_law_led" "_law_led" s__law_led f__law_led d__law_led
  g__law_led : mg "_law_led" = some (.ref f__law_led)
  b__law_led : Binds K d__law_led p__law_led []

  f__law_times : Addr
  d__law_times : FuncData
  F__law_times : Fun K "_law_times" "_law_times" s__law_times f__law_times d__law_times
  g__law_times : mg "_law_times" = some (.ref f__law_times)
  b__law_times : Binds K d__law_times p__law_times []

  f__law_matrix : Addr
  d__law_matrix : FuncData
  F__law_matrix : Fun K "_law_matrix" "_law_matrix" s__law_matrix f__law_matrix d__law_matrix
  g__law_matrix : mg "_law_matrix" = some (.ref f__law_matrix)
  b__law_matrix : Binds K d__law_matrix p__law_matrix []

  f__law_reduced : Addr
  d__law_reduced : FuncData
  F__law_reduced : Fun K "_law_reduced" "_law_reduced" s__law_reduced f__law_reduced d__law_reduced
  g__law_reduced : mg "_law_reduced" = some (.ref f__law_reduced)
  b__law_reduced : Binds K d__law_reduced p__law_reduced []

  f__law_mates : Addr
  d__law_mates : FuncData
  F__law_mates : Fun K "_law_mates" "_law_mates" s__law_mates f__law_mates d__law_mates
  g__law_mates : mg "_law_mates" = some (.ref f__law_mates)
  b__law_mates : Binds K d__law_mates p__law_mates []

  f__law_coprime_pair : Addr
  d__law_coprime_pair : FuncData
  F__law_coprime_pair : Fun K "_law_coprime_pair" "_law_coprime_pair" s__law_coprime_pair f__law_coprime_pair d__law_coprime_pair
  g__law_coprime_pair : mg "_law_coprime_pair" = some (.ref f__law_coprime_pair)
  b__law_coprime_pair : Binds K d__law_coprime_pair p__law_coprime_pair []

  f__law_composed : Addr
  d__law_composed : FuncData
  F__law_composed : Fun K "_law_composed" "_law_composed" s__law_composed f__law_composed d__law_composed
  g__law_composed : mg "_law_composed" = some (.ref f__law_composed)
  b__law_composed : Binds K d__law_composed p__law_composed []

  f__law_first : Addr
  d__law_first : FuncData
  F__law_first : Fun K "_law_first" "_law_first" s__law_first f__law_first d__law_first
  g__law_first : mg "_law_first" = some (.ref f__law_first)
  b__law_first : Binds K d__law_first p__law_first []

  f__law_order : Addr
  d__law_order : FuncData
  F__law_order : Fun K "_law_order" "_law_order" s__law_order f__law_order d__law_order
  g__law_order : mg "_law_order" = some (.ref f__law_order)
  b__law_order : Binds K d__law_order p__law_order []

  f__law_power : Addr
  d__law_power : FuncData
  F__law_power : Fun K "_law_power" "_law_power" s__law_power f__law_power d__law_power
  g__law_power : mg "_law_power" = some (.ref f__law_power)
  b__law_power : Binds K d__law_power p__law_power []

  f__law_value : Addr
  d__law_value : FuncData
  F__law_value : Fun K "_law_value" "_law_value" s__law_value f__law_value d__law_value
  g__law_value : mg "_law_value" = some (.ref f__law_value)
  b__law_value : Binds K d__law_value p__law_value []

  f__law_is_product_right : Addr
  d__law_is_product_right : FuncData
  F__law_is_product_right : Fun K "_law_is_product_right" "_law_is_product_right" s__law_is_product_right f__law_is_product_right d__law_is_product_right
  g__law_is_product_right : mg "_law_is_product_right" = some (.ref f__law_is_product_right)
  b__law_is_product_right : Binds K d__law_is_product_right p__law_is_product_right []

  f__law_are_powers_right : Addr
  d__law_are_powers_right : FuncData
  F__law_are_powers_right : Fun K "_law_are_powers_right" "_law_are_powers_right" s__law_are_powers_right f__law_are_powers_right d__law_are_powers_right
  g__law_are_powers_right : mg "_law_are_powers_right" = some (.ref f__law_are_powers_right)
  b__law_are_powers_right : Binds K d__law_are_powers_right p__law_are_powers_right []

  f_law : Addr
  d_law : FuncData
  F_law : Fun K "law" "law" s_law f_law d_law
  g_law : mg "law" = some (.ref f_law)
  b_law : Binds K d_law p_law []

  kb_composed_0 : KB K d_composed p_composed ["other", "one"] 0 [1, 0]

  kb_order_of_class_0 : KB K d_order_of_class p_order_of_class ["form"] 0 [0]

  kb_power_0 : KB K d_power p_power ["exponent", "form"] 0 [1, 0]

  kb_inverse_class_0 : KB K d_inverse_class p_inverse_class ["form"] 0 [0]

  v_LEAST : Nat
  g_LEAST : mg "LEAST" = some (.int (-20000) v_LEAST)

  z_abs : mg "abs" = none

  z_all : mg "all" = none

  z_bool : mg "bool" = none

  z_int : mg "int" = none

  z_isinstance : mg "isinstance" = none

  z_len : mg "len" = none

  z_max : mg "max" = none

  z_range : mg "range" = none

  z_repr : mg "repr" = none

  z_sorted : mg "sorted" = none

  z_tuple : mg "tuple" = none


def sn_are_integers_0 : Scope := { kind := .function, names := [(".0", .local), ("part", .local), ("is_integer", .globalImplicit)], isGenerator := false, isCoroutine := false, more := [] }
def sn_are_integers_0r : Scope := { kind := .function, names := [(".0", .local), ("part", .local), ("is_integer", .globalImplicit)], isGenerator := false, isCoroutine := false, more := [] }
theorem bk_are_integers_0 : BlkOk ["thing", "many", "part"] (defScope s_are_integers) sn_are_integers_0 [("part", 2)] := ⟨rfl, by decide +kernel, by decide +kernel, by decide +kernel, by decide +kernel⟩






















def sn__law_deck_0 : Scope := { kind := .function, names := [(".0", .local), ("_law_cell", .local), ("int", .globalImplicit)], isGenerator := false, isCoroutine := false, more := [] }
def sn__law_deck_0r : Scope := { kind := .function, names := [(".0", .local), ("_law_cell", .local), ("int", .globalImplicit)], isGenerator := false, isCoroutine := false, more := [] }
theorem bk__law_deck_0 : BlkOk ["_law_script", "_law_cell", "_law_rest", "_law_mixed"] (defScope s__law_deck) sn__law_deck_0 [("_law_cell", 1)] := ⟨rfl, by decide +kernel, by decide +kernel, by decide +kernel, by decide +kernel⟩



















def sn_law_0 : Scope := { kind := .function, names := [(".0", .local), ("_law_turn", .local), ("_law_pick", .globalImplicit), ("_law_deck_here", .free), ("_law_some", .free)], isGenerator := false, isCoroutine := false, more := [] }
def sn_law_0r : Scope := { kind := .function, names := [(".0", .local), ("_law_turn", .local), ("_law_pick", .globalImplicit), ("_law_deck_here", .cell), ("_law_some", .cell)], isGenerator := false, isCoroutine := false, more := [] }
theorem bk_law_0 : BlkOk ["_law_script", "_law_deck_here", "_law_number", "_law_some", "_law_near", "_law_one", "_law_other", "_law_third", "_law_first_here", "_law_back", "_law_values", "_law_mates_here", "_law_both", "_law_value_here", "_law_mate", "_law_turn", "_law_form"] (defScope s_law) sn_law_0 [("_law_turn", 15)] := ⟨rfl, by decide +kernel, by decide +kernel, by decide +kernel, by decide +kernel⟩
def sn_law_1 : Scope := { kind := .function, names := [(".0", .local), ("_law_form", .local), ("_law_led", .globalImplicit), ("_law_matrix", .globalImplicit), ("_law_deck_here", .free)], isGenerator := false, isCoroutine := false, more := [] }
def sn_law_1r : Scope := { kind := .function, names := [(".0", .local), ("_law_form", .local), ("_law_led", .globalImplicit), ("_law_matrix", .globalImplicit), ("_law_deck_here", .cell)], isGenerator := false, isCoroutine := false, more := [] }
theorem bk_law_1 : BlkOk ["_law_script", "_law_deck_here", "_law_number", "_law_some", "_law_near", "_law_one", "_law_other", "_law_third", "_law_first_here", "_law_back", "_law_values", "_law_mates_here", "_law_both", "_law_value_here", "_law_mate", "_law_turn", "_law_form"] (defScope s_law) sn_law_1 [("_law_form", 16)] := ⟨rfl, by decide +kernel, by decide +kernel, by decide +kernel, by decide +kernel⟩
def sn_law_2 : Scope := { kind := .function, names := [(".0", .local), ("_law_mate", .local), ("_law_gcd", .globalImplicit), ("_law_value_here", .free)], isGenerator := false, isCoroutine := false, more := [] }
def sn_law_2r : Scope := { kind := .function, names := [(".0", .local), ("_law_mate", .local), ("_law_gcd", .globalImplicit), ("_law_value_here", .cell)], isGenerator := false, isCoroutine := false, more := [] }
theorem bk_law_2 : BlkOk ["_law_script", "_law_deck_here", "_law_number", "_law_some", "_law_near", "_law_one", "_law_other", "_law_third", "_law_first_here", "_law_back", "_law_values", "_law_mates_here", "_law_both", "_law_value_here", "_law_mate", "_law_turn", "_law_form"] (defScope s_law) sn_law_2 [("_law_mate", 14)] := ⟨rfl, by decide +kernel, by decide +kernel, by decide +kernel, by decide +kernel⟩

theorem ok_is_integer {P : Program} {w : World} {mg : Str → Option Value} {base : Heap} (C : Ct) (A : Fa C.K mg) (a : Addr) (ns : List Int) (D : Dc C n_1 n_2 n_3 a ns) (j : Nat) : FnG P w C.K mg base CX0 (j + 0 + 1) A.f_is_integer A.d_is_integer p_is_integer (spS C (FT (T ns) (fun _ => none) (j + 0 + 1) 0) 1) := by
  refine defOk A.F_is_integer sc_is_integer rfl 0 (m_is_integer) (T ns) (fun _ => none) (j + 0) rfl rfl (by decide) (fun cdv A0 outer s H F0 hG hr => ?_)
  have D' : Dc (C.at H F0 (FT (T ns) (fun _ => none) (j + 0))) n_1 n_2 n_3 a ns := ⟨D.n1, D.n2, D.n3, D.sc⟩
  have hu := Pv.Room.u70 hr
  have hu65 := Pv.Room.u65 hr
  have hu1 := Pv.Room.u1 hr
  have hdk := dkn_of D'
  have hn3 := hn3_of D'
  have hn2 := hn2_of D'
  exact ⟨[],
    (Sb.one (Ss.ret (Es.and (Es.b (Es.isi .isInt rfl rfl rfl A.z_isinstance rfl rfl A.z_int rfl (by decide) rfl (Eb.var 0 rfl (.inl rfl) rfl rfl) rfl rfl rfl)) (Es.one (Es.not rfl (Es.b (Es.isi .isBool rfl rfl rfl A.z_isinstance rfl rfl A.z_bool rfl (by decide) rfl (Eb.var 0 rfl (.inl rfl) rfl rfl) rfl rfl rfl)))))))⟩

theorem ok_common_divisor {P : Program} {w : World} {mg : Str → Option Value} {base : Heap} (C : Ct) (A : Fa C.K mg) (a : Addr) (ns : List Int) (D : Dc C n_1 n_2 n_3 a ns) (j : Nat) : FnG P w C.K mg base CX0 (j + 0 + 1) A.f_common_divisor A.d_common_divisor p_common_divisor (spS C (FT (T ns) (fun _ => none) (j + 0 + 1) 2) 2) := by
  refine defOk A.F_common_divisor sc_common_divisor rfl 2 (m_common_divisor) (T ns) (fun _ => none) (j + 0) rfl rfl (by decide) (fun cdv A0 outer s H F0 hG hr => ?_)
  have D' : Dc (C.at H F0 (FT (T ns) (fun _ => none) (j + 0))) n_1 n_2 n_3 a ns := ⟨D.n1, D.n2, D.n3, D.sc⟩
  have hu := Pv.Room.u70 hr
  have hu65 := Pv.Room.u65 hr
  have hu1 := Pv.Room.u1 hr
  have hdk := dkn_of D'
  have hn3 := hn3_of D'
  have hn2 := hn2_of D'
  exact ⟨[],
    (Sb.cons (Ss.set (Es.biB .abs rfl cb_abs rfl A.z_abs rfl (Eas.one (Eb.var 0 rfl (.inl rfl) rfl rfl) rfl) (by decide) rfl rfl rfl) (Eg.name 0 (by decide) sc_common_divisor.nd rfl (.inl rfl) (.inr rfl)) rfl rfl rfl)
    (Sb.cons (Ss.set (Es.biB .abs rfl cb_abs rfl A.z_abs rfl (Eas.one (Eb.var 1 rfl (.inl rfl) rfl rfl) rfl) (by decide) rfl rfl rfl) (Eg.name 1 (by decide) sc_common_divisor.nd rfl (.inl rfl) (.inr rfl)) rfl rfl rfl)
    (Sb.cons (Ss.while_ PassesOwn.never (Et.truth rfl (Eb.var 1 rfl (.inl rfl) rfl rfl) (fun _ => rfl)) (Sb.one (Ss.par 0 1 rfl sc_common_divisor.nd rfl rfl (by decide) (by decide) (by decide) rfl rfl (Ea.cons (Es.var 1 (by decide) rfl (.inl rfl) rfl rfl) (Ea.cons (Es.bin .mod rfl (Eb.var 0 rfl (.inl rfl) rfl rfl) (Eb.var 1 rfl (.inl rfl) rfl rfl)) Ea.nil rfl) rfl) rfl rfl)))
    (Sb.one (Ss.ret (Es.var 0 (by decide) rfl (.inl rfl) rfl rfl))))))⟩

theorem ok_bezout {P : Program} {w : World} {mg : Str → Option Value} {base : Heap} (C : Ct) (A : Fa C.K mg) (a : Addr) (ns : List Int) (D : Dc C n_1 n_2 n_3 a ns) (j : Nat) : FnG P w C.K mg base CX0 (j + 0 + 1) A.f_bezout A.d_bezout p_bezout (spS C (FT (T ns) (fun _ => none) (j + 0 + 1) 3) 2) := by
  refine defOk A.F_bezout sc_bezout rfl 3 (m_bezout) (T ns) (fun _ => none) (j + 0) rfl rfl (by decide) (fun cdv A0 outer s H F0 hG hr => ?_)
  have D' : Dc (C.at H F0 (FT (T ns) (fun _ => none) (j + 0))) n_1 n_2 n_3 a ns := ⟨D.n1, D.n2, D.n3, D.sc⟩
  have hu := Pv.Room.u70 hr
  have hu65 := Pv.Room.u65 hr
  have hu1 := Pv.Room.u1 hr
  have hdk := dkn_of D'
  have hn3 := hn3_of D'
  have hn2 := hn2_of D'
  exact ⟨[],
    (Sb.cons (Ss.set (Es.tup (Ea.cons Es.int (Ea.cons Es.int (Ea.cons Es.int (Ea.cons Es.int Ea.nil rfl) rfl) rfl) rfl) (Nat.le_of_ble_eq_true rfl)) (Eg.tup rfl rfl (Egs.cons (Eg.name 2 (by decide) sc_bezout.nd rfl (.inl rfl) (.inr rfl)) (Egs.cons (Eg.name 3 (by decide) sc_bezout.nd rfl (.inl rfl) (.inr rfl)) (Egs.cons (Eg.name 4 (by decide) sc_bezout.nd rfl (.inl rfl) (.inr rfl)) (Egs.cons (Eg.name 5 (by decide) sc_bezout.nd rfl (.inl rfl) (.inr rfl)) Egs.nil rfl) rfl) rfl) rfl) (by decide) rfl rfl) rfl rfl rfl)
    (Sb.cons (Ss.while_ PassesOwn.never (Et.truth rfl (Eb.var 1 rfl (.inl rfl) rfl rfl) (fun _ => rfl)) (Sb.cons (Ss.set (Es.bin .fdiv rfl (Eb.var 0 rfl (.inl rfl) rfl rfl) (Eb.var 1 rfl (.inl rfl) rfl rfl)) (Eg.name 6 (by decide) sc_bezout.nd rfl (.inl rfl) (.inr rfl)) rfl rfl rfl)
      (Sb.cons (Ss.par 0 1 rfl sc_bezout.nd rfl rfl (by decide) (by decide) (by decide) rfl rfl (Ea.cons (Es.var 1 (by decide) rfl (.inl rfl) rfl rfl) (Ea.cons (Es.bin .sub rfl (Eb.var 0 rfl (.inl rfl) rfl rfl) (Es.b (Es.bin .mul rfl (Eb.var 6 rfl (.inl rfl) rfl rfl) (Eb.var 1 rfl (.inl rfl) rfl rfl)))) Ea.nil rfl) rfl) rfl rfl)
      (Sb.cons (Ss.par 2 4 rfl sc_bezout.nd rfl rfl (by decide) (by decide) (by decide) rfl rfl (Ea.cons (Es.var 4 (by decide) rfl (.inl rfl) rfl rfl) (Ea.cons (Es.bin .sub rfl (Eb.var 2 rfl (.inl rfl) rfl rfl) (Es.b (Es.bin .mul rfl (Eb.var 6 rfl (.inl rfl) rfl rfl) (Eb.var 4 rfl (.inl rfl) rfl rfl)))) Ea.nil rfl) rfl) rfl rfl)
      (Sb.one (Ss.par 3 5 rfl sc_bezout.nd rfl rfl (by decide) (by decide) (by decide) rfl rfl (Ea.cons (Es.var 5 (by decide) rfl (.inl rfl) rfl rfl) (Ea.cons (Es.bin .sub rfl (Eb.var 3 rfl (.inl rfl) rfl rfl) (Es.b (Es.bin .mul rfl (Eb.var 6 rfl (.inl rfl) rfl rfl) (Eb.var 5 rfl (.inl rfl) rfl rfl)))) Ea.nil rfl) rfl) rfl rfl))))))
    (Sb.cons (Ss.ite (Et.cmp .lt rfl hu65 (Eb.var 0 rfl (.inl rfl) rfl rfl) (Es.b Es.int) rfl) (Sb.one (Ss.ret (Es.tup (Ea.cons (Es.neg rfl (Eb.var 0 rfl (.inl rfl) rfl rfl)) (Ea.cons (Es.neg rfl (Eb.var 2 rfl (.inl rfl) rfl rfl)) (Ea.cons (Es.neg rfl (Eb.var 3 rfl (.inl rfl) rfl rfl)) Ea.nil rfl) rfl) rfl) (Nat.le_of_ble_eq_true rfl)))) Sb.nil)
    (Sb.one (Ss.ret (Es.tup (Ea.cons (Es.var 0 (by decide) rfl (.inl rfl) rfl rfl) (Ea.cons (Es.var 2 (by decide) rfl (.inl rfl) rfl rfl) (Ea.cons (Es.var 3 (by decide) rfl (.inl rfl) rfl rfl) Ea.nil rfl) rfl) rfl) (Nat.le_of_ble_eq_true rfl)))))))⟩

theorem ok_whole_root {P : Program} {w : World} {mg : Str → Option Value} {base : Heap} (C : Ct) (A : Fa C.K mg) (a : Addr) (ns : List Int) (D : Dc C n_1 n_2 n_3 a ns) (j : Nat) : FnG P w C.K mg base CX0 (j + 0 + 1) A.f_whole_root A.d_whole_root p_whole_root (spS C (FT (T ns) (fun _ => none) (j + 0 + 1) 4) 1) := by
  refine defOk A.F_whole_root sc_whole_root rfl 4 (m_whole_root) (T ns) (fun _ => none) (j + 0) rfl rfl (by decide) (fun cdv A0 outer s H F0 hG hr => ?_)
  have D' : Dc (C.at H F0 (FT (T ns) (fun _ => none) (j + 0))) n_1 n_2 n_3 a ns := ⟨D.n1, D.n2, D.n3, D.sc⟩
  have hu := Pv.Room.u70 hr
  have hu65 := Pv.Room.u65 hr
  have hu1 := Pv.Room.u1 hr
  have hdk := dkn_of D'
  have hn3 := hn3_of D'
  have hn2 := hn2_of D'
  exact ⟨[],
    (Sb.cons (Ss.set Es.int (Eg.name 1 (by decide) sc_whole_root.nd rfl (.inl rfl) (.inr rfl)) rfl rfl rfl)
    (Sb.cons (Ss.set Es.int (Eg.name 2 (by decide) sc_whole_root.nd rfl (.inl rfl) (.inr rfl)) rfl rfl rfl)
    (Sb.cons (Ss.while_ PassesOwn.never (Et.cmp .le rfl hu65 (Es.b (Es.bin .mul rfl (Eb.var 2 rfl (.inl rfl) rfl rfl) (Eb.var 2 rfl (.inl rfl) rfl rfl))) (Eb.var 0 rfl (.inl rfl) rfl rfl) rfl) (Sb.one (Ss.set (Es.bin .mul rfl (Es.b Es.int) (Eb.var 2 rfl (.inl rfl) rfl rfl)) (Eg.name 2 (by decide) sc_whole_root.nd rfl (.inl rfl) (.inr rfl)) rfl rfl rfl)))
    (Sb.cons (Ss.while_ PassesOwn.never (Et.cmp .gt rfl hu65 (Es.b (Es.bin .sub rfl (Eb.var 2 rfl (.inl rfl) rfl rfl) (Eb.var 1 rfl (.inl rfl) rfl rfl))) (Es.b Es.int) rfl) (Sb.cons (Ss.set (Es.bin .fdiv rfl (Es.b (Es.bin .add rfl (Eb.var 1 rfl (.inl rfl) rfl rfl) (Eb.var 2 rfl (.inl rfl) rfl rfl))) (Es.b Es.int)) (Eg.name 3 (by decide) sc_whole_root.nd rfl (.inl rfl) (.inr rfl)) rfl rfl rfl)
      (Sb.one (Ss.ite (Et.cmp .le rfl hu65 (Es.b (Es.bin .mul rfl (Eb.var 3 rfl (.inl rfl) rfl rfl) (Eb.var 3 rfl (.inl rfl) rfl rfl))) (Eb.var 0 rfl (.inl rfl) rfl rfl) rfl) (Sb.one (Ss.set (Es.var 3 (by decide) rfl (.inl rfl) rfl rfl) (Eg.name 1 (by decide) sc_whole_root.nd rfl (.inl rfl) (.inr rfl)) rfl rfl rfl)) (Sb.one (Ss.set (Es.var 3 (by decide) rfl (.inl rfl) rfl rfl) (Eg.name 2 (by decide) sc_whole_root.nd rfl (.inl rfl) (.inr rfl)) rfl rfl rfl))))))
    (Sb.one (Ss.ret (Es.var 1 (by decide) rfl (.inl rfl) rfl rfl)))))))⟩

theorem ok_discriminant_at {P : Program} {w : World} {mg : Str → Option Value} {base : Heap} (C : Ct) (A : Fa C.K mg) (a : Addr) (ns : List Int) (D : Dc C n_1 n_2 n_3 a ns) (j : Nat) : FnG P w C.K mg base CX0 (j + 0 + 1) A.f_discriminant_at A.d_discriminant_at p_discriminant_at (spS C (FT (T ns) (fun _ => none) (j + 0 + 1) 6) 1) := by
  refine defOk A.F_discriminant_at sc_discriminant_at rfl 6 (m_discriminant_at) (T ns) (fun _ => none) (j + 0) rfl rfl (by decide) (fun cdv A0 outer s H F0 hG hr => ?_)
  have D' : Dc (C.at H F0 (FT (T ns) (fun _ => none) (j + 0))) n_1 n_2 n_3 a ns := ⟨D.n1, D.n2, D.n3, D.sc⟩
  have hu := Pv.Room.u70 hr
  have hu65 := Pv.Room.u65 hr
  have hu1 := Pv.Room.u1 hr
  have hdk := dkn_of D'
  have hn3 := hn3_of D'
  have hn2 := hn2_of D'
  exact ⟨[],
    (Sb.cons (Ss.set (Es.var 0 (by decide) rfl (.inl rfl) rfl rfl) (Eg.tup rfl rfl (Egs.cons (Eg.name 1 (by decide) sc_discriminant_at.nd rfl (.inl rfl) (.inr rfl)) (Egs.cons (Eg.name 2 (by decide) sc_discriminant_at.nd rfl (.inl rfl) (.inr rfl)) (Egs.cons (Eg.name 3 (by decide) sc_discriminant_at.nd rfl (.inl rfl) (.inr rfl)) Egs.nil rfl) rfl) rfl) (by decide) rfl rfl) rfl rfl rfl)
    (Sb.one (Ss.ret (Es.bin .sub rfl (Es.b (Es.bin .mul rfl (Eb.var 2 rfl (.inl rfl) rfl rfl) (Eb.var 2 rfl (.inl rfl) rfl rfl))) (Es.b (Es.bin .mul rfl (Es.b (Es.bin .mul rfl (Es.b Es.int) (Eb.var 1 rfl (.inl rfl) rfl rfl))) (Eb.var 3 rfl (.inl rfl) rfl rfl)))))))⟩

theorem ok_lead {P : Program} {w : World} {mg : Str → Option Value} {base : Heap} (C : Ct) (A : Fa C.K mg) (a : Addr) (ns : List Int) (D : Dc C n_1 n_2 n_3 a ns) (j : Nat) : FnG P w C.K mg base CX0 (j + 0 + 1) A.f_lead A.d_lead p_lead (spS C (FT (T ns) (fun _ => none) (j + 0 + 1) 9) 2) := by
  refine defOk A.F_lead sc_lead rfl 9 (m_lead) (T ns) (fun _ => none) (j + 0) rfl rfl (by decide) (fun cdv A0 outer s H F0 hG hr => ?_)
  have D' : Dc (C.at H F0 (FT (T ns) (fun _ => none) (j + 0))) n_1 n_2 n_3 a ns := ⟨D.n1, D.n2, D.n3, D.sc⟩
  have hu := Pv.Room.u70 hr
  have hu65 := Pv.Room.u65 hr
  have hu1 := Pv.Room.u1 hr
  have hdk := dkn_of D'
  have hn3 := hn3_of D'
  have hn2 := hn2_of D'
  exact ⟨[],
    (Sb.cons (Ss.set (Es.var 0 (by decide) rfl (.inl rfl) rfl rfl) (Eg.tup rfl rfl (Egs.cons (Eg.name 2 (by decide) sc_lead.nd rfl (.inl rfl) (.inr rfl)) (Egs.cons (Eg.name 3 (by decide) sc_lead.nd rfl (.inl rfl) (.inr rfl)) (Egs.cons (Eg.name 4 (by decide) sc_lead.nd rfl (.inl rfl) (.inr rfl)) Egs.nil rfl) rfl) rfl) (by decide) rfl rfl) rfl rfl rfl)
    (Sb.cons (Ss.set (Es.var 1 (by decide) rfl (.inl rfl) rfl rfl) (Eg.tup rfl rfl (Egs.cons (Eg.name 5 (by decide) sc_lead.nd rfl (.inl rfl) (.inr rfl)) (Egs.cons (Eg.name 6 (by decide) sc_lead.nd rfl (.inl rfl) (.inr rfl)) (Egs.cons (Eg.name 7 (by decide) sc_lead.nd rfl (.inl rfl) (.inr rfl)) (Egs.cons (Eg.name 8 (by decide) sc_lead.nd rfl (.inl rfl) (.inr rfl)) Egs.nil rfl) rfl) rfl) rfl) (by decide) rfl rfl) rfl rfl rfl)
    (Sb.cons (Ss.set (Es.bin .add rfl (Es.b (Es.bin .add rfl (Es.b (Es.bin .mul rfl (Es.b (Es.bin .mul rfl (Eb.var 2 rfl (.inl rfl) rfl rfl) (Eb.var 5 rfl (.inl rfl) rfl rfl))) (Eb.var 5 rfl (.inl rfl) rfl rfl))) (Es.b (Es.bin .mul rfl (Es.b (Es.bin .mul rfl (Eb.var 3 rfl (.inl rfl) rfl rfl) (Eb.var 5 rfl (.inl rfl) rfl rfl))) (Eb.var 7 rfl (.inl rfl) rfl rfl))))) (Es.b (Es.bin .mul rfl (Es.b (Es.bin .mul rfl (Eb.var 4 rfl (.inl rfl) rfl rfl) (Eb.var 7 rfl (.inl rfl) rfl rfl))) (Eb.var 7 rfl (.inl rfl) rfl rfl)))) (Eg.name 9 (by decide) sc_lead.nd rfl (.inl rfl) (.inr rfl)) rfl rfl rfl)
    (Sb.cons (Ss.set (Es.bin .add rfl (Es.b (Es.bin .add rfl (Es.b (Es.bin .mul rfl (Es.b (Es.bin .mul rfl (Es.b (Es.bin .mul rfl (Es.b Es.int) (Eb.var 2 rfl (.inl rfl) rfl rfl))) (Eb.var 5 rfl (.inl rfl) rfl rfl))) (Eb.var 6 rfl (.inl rfl) rfl rfl))) (Es.b (Es.bin .mul rfl (Eb.var 3 rfl (.inl rfl) rfl rfl) (Es.b (Es.bin .add rfl (Es.b (Es.bin .mul rfl (Eb.var 5 rfl (.inl rfl) rfl rfl) (Eb.var 8 rfl (.inl rfl) rfl rfl))) (Es.b (Es.bin .mul rfl (Eb.var 6 rfl (.inl rfl) rfl rfl) (Eb.var 7 rfl (.inl rfl) rfl rfl))))))))) (Es.b (Es.bin .mul rfl (Es.b (Es.bin .mul rfl (Es.b (Es.bin .mul rfl (Es.b Es.int) (Eb.var 4 rfl (.inl rfl) rfl rfl))) (Eb.var 7 rfl (.inl rfl) rfl rfl))) (Eb.var 8 rfl (.inl rfl) rfl rfl)))) (Eg.name 10 (by decide) sc_lead.nd rfl (.inl rfl) (.inr rfl)) rfl rfl rfl)
    (Sb.cons (Ss.set (Es.bin .add rfl (Es.b (Es.bin .add rfl (Es.b (Es.bin .mul rfl (Es.b (Es.bin .mul rfl (Eb.var 2 rfl (.inl rfl) rfl rfl) (Eb.var 6 rfl (.inl rfl) rfl rfl))) (Eb.var 6 rfl (.inl rfl) rfl rfl))) (Es.b (Es.bin .mul rfl (Es.b (Es.bin .mul rfl (Eb.var 3 rfl (.inl rfl) rfl rfl) (Eb.var 6 rfl (.inl rfl) rfl rfl))) (Eb.var 8 rfl (.inl rfl) rfl rfl))))) (Es.b (Es.bin .mul rfl (Es.b (Es.bin .mul rfl (Eb.var 4 rfl (.inl rfl) rfl rfl) (Eb.var 8 rfl (.inl rfl) rfl rfl))) (Eb.var 8 rfl (.inl rfl) rfl rfl)))) (Eg.name 11 (by decide) sc_lead.nd rfl (.inl rfl) (.inr rfl)) rfl rfl rfl)
    (Sb.one (Ss.ret (Es.tup (Ea.cons (Es.var 9 (by decide) rfl (.inl rfl) rfl rfl) (Ea.cons (Es.var 10 (by decide) rfl (.inl rfl) rfl rfl) (Ea.cons (Es.var 11 (by decide) rfl (.inl rfl) rfl rfl) Ea.nil rfl) rfl) rfl) (Nat.le_of_ble_eq_true rfl)))))))))⟩

theorem ok_matrix_times {P : Program} {w : World} {mg : Str → Option Value} {base : Heap} (C : Ct) (A : Fa C.K mg) (a : Addr) (ns : List Int) (D : Dc C n_1 n_2 n_3 a ns) (j : Nat) : FnG P w C.K mg base CX0 (j + 0 + 1) A.f_matrix_times A.d_matrix_times p_matrix_times (spS C (FT (T ns) (fun _ => none) (j + 0 + 1) 10) 2) := by
  refine defOk A.F_matrix_times sc_matrix_times rfl 10 (m_matrix_times) (T ns) (fun _ => none) (j + 0) rfl rfl (by decide) (fun cdv A0 outer s H F0 hG hr => ?_)
  have D' : Dc (C.at H F0 (FT (T ns) (fun _ => none) (j + 0))) n_1 n_2 n_3 a ns := ⟨D.n1, D.n2, D.n3, D.sc⟩
  have hu := Pv.Room.u70 hr
  have hu65 := Pv.Room.u65 hr
  have hu1 := Pv.Room.u1 hr
  have hdk := dkn_of D'
  have hn3 := hn3_of D'
  have hn2 := hn2_of D'
  exact ⟨[],
    (Sb.cons (Ss.set (Es.var 0 (by decide) rfl (.inl rfl) rfl rfl) (Eg.tup rfl rfl (Egs.cons (Eg.name 2 (by decide) sc_matrix_times.nd rfl (.inl rfl) (.inr rfl)) (Egs.cons (Eg.name 3 (by decide) sc_matrix_times.nd rfl (.inl rfl) (.inr rfl)) (Egs.cons (Eg.name 4 (by decide) sc_matrix_times.nd rfl (.inl rfl) (.inr rfl)) (Egs.cons (Eg.name 5 (by decide) sc_matrix_times.nd rfl (.inl rfl) (.inr rfl)) Egs.nil rfl) rfl) rfl) rfl) (by decide) rfl rfl) rfl rfl rfl)
    (Sb.cons (Ss.set (Es.var 1 (by decide) rfl (.inl rfl) rfl rfl) (Eg.tup rfl rfl (Egs.cons (Eg.name 6 (by decide) sc_matrix_times.nd rfl (.inl rfl) (.inr rfl)) (Egs.cons (Eg.name 7 (by decide) sc_matrix_times.nd rfl (.inl rfl) (.inr rfl)) (Egs.cons (Eg.name 8 (by decide) sc_matrix_times.nd rfl (.inl rfl) (.inr rfl)) (Egs.cons (Eg.name 9 (by decide) sc_matrix_times.nd rfl (.inl rfl) (.inr rfl)) Egs.nil rfl) rfl) rfl) rfl) (by decide) rfl rfl) rfl rfl rfl)
    (Sb.one (Ss.ret (Es.tup (Ea.cons (Es.bin .add rfl (Es.b (Es.bin .mul rfl (Eb.var 2 rfl (.inl rfl) rfl rfl) (Eb.var 6 rfl (.inl rfl) rfl rfl))) (Es.b (Es.bin .mul rfl (Eb.var 3 rfl (.inl rfl) rfl rfl) (Eb.var 8 rfl (.inl rfl) rfl rfl)))) (Ea.cons (Es.bin .add rfl (Es.b (Es.bin .mul rfl (Eb.var 2 rfl (.inl rfl) rfl rfl) (Eb.var 7 rfl (.inl rfl) rfl rfl))) (Es.b (Es.bin .mul rfl (Eb.var 3 rfl (.inl rfl) rfl rfl) (Eb.var 9 rfl (.inl rfl) rfl rfl)))) (Ea.cons (Es.bin .add rfl (Es.b (Es.bin .mul rfl (Eb.var 4 rfl (.inl rfl) rfl rfl) (Eb.var 6 rfl (.inl rfl) rfl rfl))) (Es.b (Es.bin .mul rfl (Eb.var 5 rfl (.inl rfl) rfl rfl) (Eb.var 8 rfl (.inl rfl) rfl rfl)))) (Ea.cons (Es.bin .add rfl (Es.b (Es.bin .mul rfl (Eb.var 4 rfl (.inl rfl) rfl rfl) (Eb.var 7 rfl (.inl rfl) rfl rfl))) (Es.b (Es.bin .mul rfl (Eb.var 5 rfl (.inl rfl) rfl rfl) (Eb.var 9 rfl (.inl rfl) rfl rfl)))) Ea.nil rfl) rfl) rfl) rfl) (Nat.le_of_ble_eq_true rfl))))))⟩

theorem ok_first_class {P : Program} {w : World} {mg : Str → Option Value} {base : Heap} (C : Ct) (A : Fa C.K mg) (a : Addr) (ns : List Int) (D : Dc C n_1 n_2 n_3 a ns) (j : Nat) : FnG P w C.K mg base CX0 (j + 0 + 1) A.f_first_class A.d_first_class p_first_class (spS C (FT (T ns) (fun _ => none) (j + 0 + 1) 13) 1) := by
  refine defOk A.F_first_class sc_first_class rfl 13 (m_first_class) (T ns) (fun _ => none) (j + 0) rfl rfl (by decide) (fun cdv A0 outer s H F0 hG hr => ?_)
  have D' : Dc (C.at H F0 (FT (T ns) (fun _ => none) (j + 0))) n_1 n_2 n_3 a ns := ⟨D.n1, D.n2, D.n3, D.sc⟩
  have hu := Pv.Room.u70 hr
  have hu65 := Pv.Room.u65 hr
  have hu1 := Pv.Room.u1 hr
  have hdk := dkn_of D'
  have hn3 := hn3_of D'
  have hn2 := hn2_of D'
  exact ⟨[],
    (Sb.cons (Ss.ite (Et.cmp .eq rfl hu65 (Es.b (Es.bin .mod rfl (Eb.var 0 rfl (.inl rfl) rfl rfl) (Es.b Es.int))) (Es.b Es.int) rfl) (Sb.one (Ss.ret (Es.tup (Ea.cons Es.int (Ea.cons Es.int (Ea.cons (Es.bin .fdiv rfl (Es.b (Es.neg rfl (Eb.var 0 rfl (.inl rfl) rfl rfl))) (Es.b Es.int)) Ea.nil rfl) rfl) rfl) (Nat.le_of_ble_eq_true rfl)))) Sb.nil)
    (Sb.one (Ss.ret (Es.tup (Ea.cons Es.int (Ea.cons Es.int (Ea.cons (Es.bin .fdiv rfl (Es.b (Es.bin .sub rfl (Es.b Es.int) (Eb.var 0 rfl (.inl rfl) rfl rfl))) (Es.b Es.int)) Ea.nil rfl) rfl) rfl) (Nat.le_of_ble_eq_true rfl)))))⟩

theorem ok__law_deck {P : Program} {w : World} {mg : Str → Option Value} {base : Heap} (C : Ct) (A : Fa C.K mg) (a : Addr) (ns : List Int) (D : Dc C n_1 n_2 n_3 a ns) (j : Nat) : FnG P w C.K mg base CX0 (j + 0 + 1) A.f__law_deck A.d__law_deck p__law_deck (spS C (FT (T ns) (fun _ => none) (j + 0 + 1) 23) 1) := by
  refine defOk A.F__law_deck sc__law_deck rfl 23 (m__law_deck ns) (T ns) (fun _ => none) (j + 0) rfl rfl (by decide) (fun cdv A0 outer s H F0 hG hr => ?_)
  have D' : Dc (C.at H F0 (FT (T ns) (fun _ => none) (j + 0))) n_1 n_2 n_3 a ns := ⟨D.n1, D.n2, D.n3, D.sc⟩
  have hu := Pv.Room.u70 hr
  have hu65 := Pv.Room.u65 hr
  have hu1 := Pv.Room.u1 hr
  have hdk := dkn_of D'
  have hn3 := hn3_of D'
  have hn2 := hn2_of D'
  exact ⟨[],
    (Sb.cons (Ss.par 2 3 rfl sc__law_deck.nd rfl rfl (by decide) (by decide) (by decide) rfl rfl (Ea.cons (Ef.s (Ef.comp rfl sc__law_deck.nd (Ei.seq rfl (Es.scr 63 rfl D'.sc (Es.var 0 (by decide) rfl (.inl rfl) rfl rfl))) bk__law_deck_0 rfl (fun _ _ _ _ _ => (Eg.name 1 (by decide) sc__law_deck.nd rfl (.inl rfl) (.inr rfl))) (fun _ _ _ _ _ => Ec.none) (fun _ _ _ _ _ => (Es.bin .mod rfl (Es.b (Es.biT .toInt rfl cb_toInt rfl A.z_int rfl (Eas.one (Eb.var 1 rfl (.inl rfl) rfl rfl) rfl) (by decide) rfl rfl rfl)) (Es.b (Es.bin .add rfl (Es.b (Es.bin .pow rfl (Es.b Es.int) (Es.b Es.int))) (Es.b Es.int))))) (fun _ => rfl) (by decide))) (Ea.cons Es.int Ea.nil rfl) rfl) rfl rfl)
    (Sb.cons (Ss.for_ PassesOwn.never rfl (Ei.seq rfl (Es.var 2 (by decide) rfl (.inl rfl) rfl rfl)) (Eg.name 1 (by decide) sc__law_deck.nd rfl (.inl rfl) (.inr rfl)) (Sb.one (Ss.set (Es.bin .mod rfl (Es.b (Es.biT .toInt rfl cb_toInt rfl A.z_int rfl (Eas.one (Es.b (Es.bin .add rfl (Es.b (Es.bin .add rfl (Es.b (Es.bin .mul rfl (Eb.var 3 rfl (.inl rfl) rfl rfl) (Es.b Es.int))) (Es.b (Es.bin .mod rfl (Es.b (Es.biT .toInt rfl cb_toInt rfl A.z_int rfl (Eas.one (Eb.var 1 rfl (.inl rfl) rfl rfl) rfl) (by decide) rfl rfl rfl)) (Es.b Es.int))))) (Es.b Es.int))) rfl) (by decide) rfl rfl rfl)) (Es.b Es.int)) (Eg.name 3 (by decide) sc__law_deck.nd rfl (.inl rfl) (.inr rfl)) rfl rfl rfl)) (fun _ => rfl))
    (Sb.one (Ss.ret (Es.dkNew hdk D'.n1 D'.n2 D'.n3 (Ef.lrev rfl (Eb.var 2 rfl (.inl rfl) rfl rfl)) (Es.var 3 (by decide) rfl (.inl rfl) rfl rfl) Es.int)))))⟩

theorem ok__law_draw {P : Program} {w : World} {mg : Str → Option Value} {base : Heap} (C : Ct) (A : Fa C.K mg) (a : Addr) (ns : List Int) (D : Dc C n_1 n_2 n_3 a ns) (j : Nat) : FnG P w C.K mg base CX0 (j + 0 + 1) A.f__law_draw A.d__law_draw p__law_draw (spS C (FT (T ns) (fun _ => none) (j + 0 + 1) 24) 2) := by
  refine defOk A.F__law_draw sc__law_draw rfl 24 (m__law_draw) (T ns) (fun _ => none) (j + 0) rfl rfl (by decide) (fun cdv A0 outer s H F0 hG hr => ?_)
  have D' : Dc (C.at H F0 (FT (T ns) (fun _ => none) (j + 0))) n_1 n_2 n_3 a ns := ⟨D.n1, D.n2, D.n3, D.sc⟩
  have hu := Pv.Room.u70 hr
  have hu65 := Pv.Room.u65 hr
  have hu1 := Pv.Room.u1 hr
  have hdk := dkn_of D'
  have hn3 := hn3_of D'
  have hn2 := hn2_of D'
  exact ⟨[],
    (Sb.cons (Ss.dkSet true hu1 hdk hn3 (Eb.var 0 rfl (.inl rfl) rfl rfl) (Es.bin .add rfl (Es.b (Es.dkGet true hu1 hdk hn3 (Eb.var 0 rfl (.inl rfl) rfl rfl) (by intro _ _; rfl))) (Es.b Es.int)) rfl)
    (Sb.cons (Ss.ite (Et.dkHas hu65 D'.n1 (Eb.var 0 rfl (.inl rfl) rfl rfl) (by intro _ _; rfl)) (Sb.cons (Ss.set (Es.dkPop hu1 hdk D'.n1 (Eb.var 0 rfl (.inl rfl) rfl rfl) (by intro _ _; rfl) rfl rfl) (Eg.name 2 (by decide) sc__law_draw.nd rfl (.inl rfl) (.inr rfl)) rfl rfl rfl)
      (Sb.cons (Ss.ite (Et.cmp .ge rfl hu65 (Eb.var 2 rfl (.inl rfl) rfl rfl) (Es.b (Es.bin .pow rfl (Es.b Es.int) (Es.b Es.int))) rfl) (Sb.one (Ss.ex (Es.b (Es.dkPush hu1 hdk D'.n1 (Eb.var 0 rfl (.inl rfl) rfl rfl) (Es.bin .fdiv rfl (Eb.var 2 rfl (.inl rfl) rfl rfl) (Es.b (Es.biB .max2 rfl (cb_max2 rfl) rfl A.z_max rfl (Eas.two (Es.b Es.int) (Eb.var 1 rfl (.inl rfl) rfl rfl) rfl rfl) (by decide) rfl rfl rfl))) (by intro _ _; rfl) rfl rfl rfl rfl rfl rfl)) rfl)) Sb.nil)
      (Sb.one (Ss.ret (Es.bin .mod rfl (Es.b (Es.biT .toInt rfl cb_toInt rfl A.z_int rfl (Eas.one (Eb.var 2 rfl (.inl rfl) rfl rfl) rfl) (by decide) rfl rfl rfl)) (Eb.var 1 rfl (.inl rfl) rfl rfl)))))) Sb.nil)
    (Sb.cons (Ss.set (Es.bin .mod rfl (Es.b (Es.biT .toInt rfl cb_toInt rfl A.z_int rfl (Eas.one (Es.b (Es.bin .add rfl (Es.b (Es.dkGet false hu1 hdk hn2 (Eb.var 0 rfl (.inl rfl) rfl rfl) (by intro _ _; rfl))) (Es.b (Es.bin .mul rfl (Es.b (Es.bin .mul rfl (Es.b Es.int) (Es.b (Es.dkGet true hu1 hdk hn3 (Eb.var 0 rfl (.inl rfl) rfl rfl) (by intro _ _; rfl))))) (Es.b (Es.dkGet true hu1 hdk hn3 (Eb.var 0 rfl (.inl rfl) rfl rfl) (by intro _ _; rfl))))))) rfl) (by decide) rfl rfl rfl)) (Es.b Es.int)) (Eg.name 3 (by decide) sc__law_draw.nd rfl (.inl rfl) (.inr rfl)) rfl rfl rfl)
    (Sb.cons (Ss.set (Es.bin .mod rfl (Es.b (Es.biT .toInt rfl cb_toInt rfl A.z_int rfl (Eas.one (Es.b (Es.bin .mul rfl (Eb.var 3 rfl (.inl rfl) rfl rfl) (Eb.var 3 rfl (.inl rfl) rfl rfl))) rfl) (by decide) rfl rfl rfl)) (Es.b Es.int)) (Eg.name 3 (by decide) sc__law_draw.nd rfl (.inl rfl) (.inr rfl)) rfl rfl rfl)
    (Sb.one (Ss.ret (Es.bin .mod rfl (Es.b (Es.bin .fdiv rfl (Es.b (Es.bin .mod rfl (Es.b (Es.biT .toInt rfl cb_toInt rfl A.z_int rfl (Eas.one (Es.b (Es.bin .add rfl (Es.b (Es.bin .mul rfl (Eb.var 3 rfl (.inl rfl) rfl rfl) (Es.b Es.int))) (Es.b (Es.bin .mul rfl (Es.b (Es.dkGet true hu1 hdk hn3 (Eb.var 0 rfl (.inl rfl) rfl rfl) (by intro _ _; rfl))) (Es.b Es.int))))) rfl) (by decide) rfl rfl rfl)) (Es.b Es.int))) (Es.b Es.int))) (Eb.var 1 rfl (.inl rfl) rfl rfl))))))))⟩

theorem ok__law_gcd {P : Program} {w : World} {mg : Str → Option Value} {base : Heap} (C : Ct) (A : Fa C.K mg) (a : Addr) (ns : List Int) (D : Dc C n_1 n_2 n_3 a ns) (j : Nat) : FnG P w C.K mg base CX0 (j + 0 + 1) A.f__law_gcd A.d__law_gcd p__law_gcd (spS C (FT (T ns) (fun _ => none) (j + 0 + 1) 26) 2) := by
  refine defOk A.F__law_gcd sc__law_gcd rfl 26 (m__law_gcd) (T ns) (fun _ => none) (j + 0) rfl rfl (by decide) (fun cdv A0 outer s H F0 hG hr => ?_)
  have D' : Dc (C.at H F0 (FT (T ns) (fun _ => none) (j + 0))) n_1 n_2 n_3 a ns := ⟨D.n1, D.n2, D.n3, D.sc⟩
  have hu := Pv.Room.u70 hr
  have hu65 := Pv.Room.u65 hr
  have hu1 := Pv.Room.u1 hr
  have hdk := dkn_of D'
  have hn3 := hn3_of D'
  have hn2 := hn2_of D'
  exact ⟨[],
    (Sb.cons (Ss.par 0 1 rfl sc__law_gcd.nd rfl rfl (by decide) (by decide) (by decide) rfl rfl (Ea.cons (Es.biB .abs rfl cb_abs rfl A.z_abs rfl (Eas.one (Eb.var 0 rfl (.inl rfl) rfl rfl) rfl) (by decide) rfl rfl rfl) (Ea.cons (Es.biB .abs rfl cb_abs rfl A.z_abs rfl (Eas.one (Eb.var 1 rfl (.inl rfl) rfl rfl) rfl) (by decide) rfl rfl rfl) Ea.nil rfl) rfl) rfl rfl)
    (Sb.cons (Ss.while_ PassesOwn.never (Et.cmp .gt rfl hu65 (Eb.var 1 rfl (.inl rfl) rfl rfl) (Es.b Es.int) rfl) (Sb.one (Ss.par 0 1 rfl sc__law_gcd.nd rfl rfl (by decide) (by decide) (by decide) rfl rfl (Ea.cons (Es.var 1 (by decide) rfl (.inl rfl) rfl rfl) (Ea.cons (Es.bin .mod rfl (Es.b (Es.biT .toInt rfl cb_toInt rfl A.z_int rfl (Eas.one (Eb.var 0 rfl (.inl rfl) rfl rfl) rfl) (by decide) rfl rfl rfl)) (Eb.var 1 rfl (.inl rfl) rfl rfl)) Ea.nil rfl) rfl) rfl rfl)))
    (Sb.one (Ss.ret (Es.var 0 (by decide) rfl (.inl rfl) rfl rfl)))))⟩

theorem ok__law_led {P : Program} {w : World} {mg : Str → Option Value} {base : Heap} (C : Ct) (A : Fa C.K mg) (a : Addr) (ns : List Int) (D : Dc C n_1 n_2 n_3 a ns) (j : Nat) : FnG P w C.K mg base CX0 (j + 0 + 1) A.f__law_led A.d__law_led p__law_led (spS C (FT (T ns) (fun _ => none) (j + 0 + 1) 29) 2) := by
  refine defOk A.F__law_led sc__law_led rfl 29 (m__law_led) (T ns) (fun _ => none) (j + 0) rfl rfl (by decide) (fun cdv A0 outer s H F0 hG hr => ?_)
  have D' : Dc (C.at H F0 (FT (T ns) (fun _ => none) (j + 0))) n_1 n_2 n_3 a ns := ⟨D.n1, D.n2, D.n3, D.sc⟩
  have hu := Pv.Room.u70 hr
  have hu65 := Pv.Room.u65 hr
  have hu1 := Pv.Room.u1 hr
  have hdk := dkn_of D'
  have hn3 := hn3_of D'
  have hn2 := hn2_of D'
  exact ⟨[],
    (Sb.cons (Ss.setG (Es.tup (Ea.cons (Es.var 0 (by decide) rfl (.inl rfl) rfl rfl) (Ea.cons (Es.var 1 (by decide) rfl (.inl rfl) rfl rfl) Ea.nil rfl) rfl) (Nat.le_of_ble_eq_true rfl)) (EgG.tup rfl rfl (Egg.cons (Eg.tup rfl rfl (Egs.cons (Eg.name 2 (by decide) sc__law_led.nd rfl (.inl rfl) (.inr rfl)) (Egs.cons (Eg.name 3 (by decide) sc__law_led.nd rfl (.inl rfl) (.inr rfl)) (Egs.cons (Eg.name 4 (by decide) sc__law_led.nd rfl (.inl rfl) (.inr rfl)) Egs.nil rfl) rfl) rfl) (by decide) rfl rfl) (Egg.cons (Eg.tup rfl rfl (Egs.cons (Eg.name 5 (by decide) sc__law_led.nd rfl (.inl rfl) (.inr rfl)) (Egs.cons (Eg.name 6 (by decide) sc__law_led.nd rfl (.inl rfl) (.inr rfl)) (Egs.cons (Eg.name 7 (by decide) sc__law_led.nd rfl (.inl rfl) (.inr rfl)) (Egs.cons (Eg.name 8 (by decide) sc__law_led.nd rfl (.inl rfl) (.inr rfl)) Egs.nil rfl) rfl) rfl) rfl) (by decide) rfl rfl) Egg.nil rfl) rfl) rfl rfl) rfl rfl rfl)
    (Sb.cons (Ss.par 9 10 rfl sc__law_led.nd rfl rfl (by decide) (by decide) (by decide) rfl rfl (Ea.cons (Es.bin .add rfl (Es.b (Es.bin .add rfl (Es.b (Es.bin .mul rfl (Es.b (Es.bin .mul rfl (Eb.var 2 rfl (.inl rfl) rfl rfl) (Eb.var 5 rfl (.inl rfl) rfl rfl))) (Eb.var 5 rfl (.inl rfl) rfl rfl))) (Es.b (Es.bin .mul rfl (Es.b (Es.bin .mul rfl (Eb.var 3 rfl (.inl rfl) rfl rfl) (Eb.var 5 rfl (.inl rfl) rfl rfl))) (Eb.var 7 rfl (.inl rfl) rfl rfl))))) (Es.b (Es.bin .mul rfl (Es.b (Es.bin .mul rfl (Eb.var 4 rfl (.inl rfl) rfl rfl) (Eb.var 7 rfl (.inl rfl) rfl rfl))) (Eb.var 7 rfl (.inl rfl) rfl rfl)))) (Ea.cons (Es.bin .add rfl (Es.b (Es.bin .add rfl (Es.b (Es.bin .mul rfl (Es.b (Es.bin .mul rfl (Eb.var 2 rfl (.inl rfl) rfl rfl) (Eb.var 6 rfl (.inl rfl) rfl rfl))) (Eb.var 6 rfl (.inl rfl) rfl rfl))) (Es.b (Es.bin .mul rfl (Es.b (Es.bin .mul rfl (Eb.var 3 rfl (.inl rfl) rfl rfl) (Eb.var 6 rfl (.inl rfl) rfl rfl))) (Eb.var 8 rfl (.inl rfl) rfl rfl))))) (Es.b (Es.bin .mul rfl (Es.b (Es.bin .mul rfl (Eb.var 4 rfl (.inl rfl) rfl rfl) (Eb.var 8 rfl (.inl rfl) rfl rfl))) (Eb.var 8 rfl (.inl rfl) rfl rfl)))) Ea.nil rfl) rfl) rfl rfl)
    (Sb.one (Ss.ret (Es.tup (Ea.cons (Es.var 9 (by decide) rfl (.inl rfl) rfl rfl) (Ea.cons (Es.bin .add rfl (Es.b (Es.bin .add rfl (Es.b (Es.bin .mul rfl (Es.b (Es.bin .mul rfl (Es.b (Es.bin .mul rfl (Es.b Es.int) (Eb.var 2 rfl (.inl rfl) rfl rfl))) (Eb.var 5 rfl (.inl rfl) rfl rfl))) (Eb.var 6 rfl (.inl rfl) rfl rfl))) (Es.b (Es.bin .mul rfl (Eb.var 3 rfl (.inl rfl) rfl rfl) (Es.b (Es.bin .add rfl (Es.b (Es.bin .mul rfl (Eb.var 5 rfl (.inl rfl) rfl rfl) (Eb.var 8 rfl (.inl rfl) rfl rfl))) (Es.b (Es.bin .mul rfl (Eb.var 6 rfl (.inl rfl) rfl rfl) (Eb.var 7 rfl (.inl rfl) rfl rfl))))))))) (Es.b (Es.bin .mul rfl (Es.b (Es.bin .mul rfl (Es.b (Es.bin .mul rfl (Es.b Es.int) (Eb.var 4 rfl (.inl rfl) rfl rfl))) (Eb.var 7 rfl (.inl rfl) rfl rfl))) (Eb.var 8 rfl (.inl rfl) rfl rfl)))) (Ea.cons (Es.var 10 (by decide) rfl (.inl rfl) rfl rfl) Ea.nil rfl) rfl) rfl) (Nat.le_of_ble_eq_true rfl))))))⟩

theorem ok__law_times {P : Program} {w : World} {mg : Str → Option Value} {base : Heap} (C : Ct) (A : Fa C.K mg) (a : Addr) (ns : List Int) (D : Dc C n_1 n_2 n_3 a ns) (j : Nat) : FnG P w C.K mg base CX0 (j + 0 + 1) A.f__law_times A.d__law_times p__law_times (spS C (FT (T ns) (fun _ => none) (j + 0 + 1) 30) 2) := by
  refine defOk A.F__law_times sc__law_times rfl 30 (m__law_times) (T ns) (fun _ => none) (j + 0) rfl rfl (by decide) (fun cdv A0 outer s H F0 hG hr => ?_)
  have D' : Dc (C.at H F0 (FT (T ns) (fun _ => none) (j + 0))) n_1 n_2 n_3 a ns := ⟨D.n1, D.n2, D.n3, D.sc⟩
  have hu := Pv.Room.u70 hr
  have hu65 := Pv.Room.u65 hr
  have hu1 := Pv.Room.u1 hr
  have hdk := dkn_of D'
  have hn3 := hn3_of D'
  have hn2 := hn2_of D'
  exact ⟨[],
    (Sb.cons (Ss.setG (Es.tup (Ea.cons (Es.var 0 (by decide) rfl (.inl rfl) rfl rfl) (Ea.cons (Es.var 1 (by decide) rfl (.inl rfl) rfl rfl) Ea.nil rfl) rfl) (Nat.le_of_ble_eq_true rfl)) (EgG.tup rfl rfl (Egg.cons (Eg.tup rfl rfl (Egs.cons (Eg.name 2 (by decide) sc__law_times.nd rfl (.inl rfl) (.inr rfl)) (Egs.cons (Eg.name 3 (by decide) sc__law_times.nd rfl (.inl rfl) (.inr rfl)) (Egs.cons (Eg.name 4 (by decide) sc__law_times.nd rfl (.inl rfl) (.inr rfl)) (Egs.cons (Eg.name 5 (by decide) sc__law_times.nd rfl (.inl rfl) (.inr rfl)) Egs.nil rfl) rfl) rfl) rfl) (by decide) rfl rfl) (Egg.cons (Eg.tup rfl rfl (Egs.cons (Eg.name 6 (by decide) sc__law_times.nd rfl (.inl rfl) (.inr rfl)) (Egs.cons (Eg.name 7 (by decide) sc__law_times.nd rfl (.inl rfl) (.inr rfl)) (Egs.cons (Eg.name 8 (by decide) sc__law_times.nd rfl (.inl rfl) (.inr rfl)) (Egs.cons (Eg.name 9 (by decide) sc__law_times.nd rfl (.inl rfl) (.inr rfl)) Egs.nil rfl) rfl) rfl) rfl) (by decide) rfl rfl) Egg.nil rfl) rfl) rfl rfl) rfl rfl rfl)
    (Sb.one (Ss.ret (Es.tup (Ea.cons (Es.bin .add rfl (Es.b (Es.bin .mul rfl (Eb.var 2 rfl (.inl rfl) rfl rfl) (Eb.var 6 rfl (.inl rfl) rfl rfl))) (Es.b (Es.bin .mul rfl (Eb.var 3 rfl (.inl rfl) rfl rfl) (Eb.var 8 rfl (.inl rfl) rfl rfl)))) (Ea.cons (Es.bin .add rfl (Es.b (Es.bin .mul rfl (Eb.var 2 rfl (.inl rfl) rfl rfl) (Eb.var 7 rfl (.inl rfl) rfl rfl))) (Es.b (Es.bin .mul rfl (Eb.var 3 rfl (.inl rfl) rfl rfl) (Eb.var 9 rfl (.inl rfl) rfl rfl)))) (Ea.cons (Es.bin .add rfl (Es.b (Es.bin .mul rfl (Eb.var 4 rfl (.inl rfl) rfl rfl) (Eb.var 6 rfl (.inl rfl) rfl rfl))) (Es.b (Es.bin .mul rfl (Eb.var 5 rfl (.inl rfl) rfl rfl) (Eb.var 8 rfl (.inl rfl) rfl rfl)))) (Ea.cons (Es.bin .add rfl (Es.b (Es.bin .mul rfl (Eb.var 4 rfl (.inl rfl) rfl rfl) (Eb.var 7 rfl (.inl rfl) rfl rfl))) (Es.b (Es.bin .mul rfl (Eb.var 5 rfl (.inl rfl) rfl rfl) (Eb.var 9 rfl (.inl rfl) rfl rfl)))) Ea.nil rfl) rfl) rfl) rfl) (Nat.le_of_ble_eq_true rfl)))))⟩

theorem ok__law_mates {P : Program} {w : World} {mg : Str → Option Value} {base : Heap} (C : Ct) (A : Fa C.K mg) (a : Addr) (ns : List Int) (D : Dc C n_1 n_2 n_3 a ns) (j : Nat) : FnG P w C.K mg base CX0 (j + 0 + 1) A.f__law_mates A.d__law_mates p__law_mates (spS C (FT (T ns) (fun _ => none) (j + 0 + 1) 33) 2) := by
  refine defOk A.F__law_mates sc__law_mates rfl 33 (m__law_mates) (T ns) (fun _ => none) (j + 0) rfl rfl (by decide) (fun cdv A0 outer s H F0 hG hr => ?_)
  have D' : Dc (C.at H F0 (FT (T ns) (fun _ => none) (j + 0))) n_1 n_2 n_3 a ns := ⟨D.n1, D.n2, D.n3, D.sc⟩
  have hu := Pv.Room.u70 hr
  have hu65 := Pv.Room.u65 hr
  have hu1 := Pv.Room.u1 hr
  have hdk := dkn_of D'
  have hn3 := hn3_of D'
  have hn2 := hn2_of D'
  exact ⟨[],
    (Sb.cons (Ss.set (Es.tup (Ea.cons (Es.var 0 (by decide) rfl (.inl rfl) rfl rfl) (Ea.cons (Es.var 1 (by decide) rfl (.inl rfl) rfl rfl) (Ea.cons (Es.tup (Ea.cons Es.int (Ea.cons Es.int Ea.nil rfl) rfl) (Nat.le_of_ble_eq_true rfl)) (Ea.cons (Es.tup (Ea.cons Es.int (Ea.cons Es.int Ea.nil rfl) rfl) (Nat.le_of_ble_eq_true rfl)) Ea.nil rfl) rfl) rfl) rfl) (Nat.le_of_ble_eq_true rfl)) (Eg.tup rfl rfl (Egs.cons (Eg.name 2 (by decide) sc__law_mates.nd rfl (.inl rfl) (.inr rfl)) (Egs.cons (Eg.name 3 (by decide) sc__law_mates.nd rfl (.inl rfl) (.inr rfl)) (Egs.cons (Eg.name 4 (by decide) sc__law_mates.nd rfl (.inl rfl) (.inr rfl)) (Egs.cons (Eg.name 5 (by decide) sc__law_mates.nd rfl (.inl rfl) (.inr rfl)) Egs.nil rfl) rfl) rfl) rfl) (by decide) rfl rfl) rfl rfl rfl)
    (Sb.cons (Ss.while_ PassesOwn.never (Et.cmp .gt rfl hu65 (Eb.var 3 rfl (.inl rfl) rfl rfl) (Es.b Es.int) rfl) (Sb.cons (Ss.set (Es.bin .fdiv rfl (Eb.var 2 rfl (.inl rfl) rfl rfl) (Eb.var 3 rfl (.inl rfl) rfl rfl)) (Eg.name 6 (by decide) sc__law_mates.nd rfl (.inl rfl) (.inr rfl)) rfl rfl rfl)
      (Sb.one (Ss.set (Es.tup (Ea.cons (Es.var 3 (by decide) rfl (.inl rfl) rfl rfl) (Ea.cons (Es.bin .sub rfl (Eb.var 2 rfl (.inl rfl) rfl rfl) (Es.b (Es.bin .mul rfl (Eb.var 6 rfl (.inl rfl) rfl rfl) (Eb.var 3 rfl (.inl rfl) rfl rfl)))) (Ea.cons (Es.var 5 (by decide) rfl (.inl rfl) rfl rfl) (Ea.cons (Es.tup (Ea.cons (Es.bin .sub rfl (Es.b (Es.idx rfl (Eb.var 4 rfl (.inl rfl) rfl rfl) (Es.b Es.int) (by intro _ _; rfl))) (Es.b (Es.bin .mul rfl (Eb.var 6 rfl (.inl rfl) rfl rfl) (Es.b (Es.idx rfl (Eb.var 5 rfl (.inl rfl) rfl rfl) (Es.b Es.int) (by intro _ _; rfl)))))) (Ea.cons (Es.bin .sub rfl (Es.b (Es.idx rfl (Eb.var 4 rfl (.inl rfl) rfl rfl) (Es.b Es.int) (by intro _ _; rfl))) (Es.b (Es.bin .mul rfl (Eb.var 6 rfl (.inl rfl) rfl rfl) (Es.b (Es.idx rfl (Eb.var 5 rfl (.inl rfl) rfl rfl) (Es.b Es.int) (by intro _ _; rfl)))))) Ea.nil rfl) rfl) (Nat.le_of_ble_eq_true rfl)) Ea.nil rfl) rfl) rfl) rfl) (Nat.le_of_ble_eq_true rfl)) (Eg.tup rfl rfl (Egs.cons (Eg.name 2 (by decide) sc__law_mates.nd rfl (.inl rfl) (.inr rfl)) (Egs.cons (Eg.name 3 (by decide) sc__law_mates.nd rfl (.inl rfl) (.inr rfl)) (Egs.cons (Eg.name 4 (by decide) sc__law_mates.nd rfl (.inl rfl) (.inr rfl)) (Egs.cons (Eg.name 5 (by decide) sc__law_mates.nd rfl (.inl rfl) (.inr rfl)) Egs.nil rfl) rfl) rfl) rfl) (by decide) rfl rfl) rfl rfl rfl))))
    (Sb.one (Ss.ret (Es.var 4 (by decide) rfl (.inl rfl) rfl rfl)))))⟩

theorem ok__law_first {P : Program} {w : World} {mg : Str → Option Value} {base : Heap} (C : Ct) (A : Fa C.K mg) (a : Addr) (ns : List Int) (D : Dc C n_1 n_2 n_3 a ns) (j : Nat) : FnG P w C.K mg base CX0 (j + 0 + 1) A.f__law_first A.d__law_first p__law_first (spS C (FT (T ns) (fun _ => none) (j + 0 + 1) 36) 1) := by
  refine defOk A.F__law_first sc__law_first rfl 36 (m__law_first) (T ns) (fun _ => none) (j + 0) rfl rfl (by decide) (fun cdv A0 outer s H F0 hG hr => ?_)
  have D' : Dc (C.at H F0 (FT (T ns) (fun _ => none) (j + 0))) n_1 n_2 n_3 a ns := ⟨D.n1, D.n2, D.n3, D.sc⟩
  have hu := Pv.Room.u70 hr
  have hu65 := Pv.Room.u65 hr
  have hu1 := Pv.Room.u1 hr
  have hdk := dkn_of D'
  have hn3 := hn3_of D'
  have hn2 := hn2_of D'
  exact ⟨[],
    (Sb.one (Ss.ret (Es.tup (Ea.cons Es.int (Ea.cons (Es.bin .mod rfl (Es.b (Es.biT .toInt rfl cb_toInt rfl A.z_int rfl (Eas.one (Eb.var 0 rfl (.inl rfl) rfl rfl) rfl) (by decide) rfl rfl rfl)) (Es.b Es.int)) (Ea.cons (Es.bin .fdiv rfl (Es.b (Es.bin .sub rfl (Es.b (Es.bin .mod rfl (Es.b (Es.biT .toInt rfl cb_toInt rfl A.z_int rfl (Eas.one (Eb.var 0 rfl (.inl rfl) rfl rfl) rfl) (by decide) rfl rfl rfl)) (Es.b Es.int))) (Eb.var 0 rfl (.inl rfl) rfl rfl))) (Es.b Es.int)) Ea.nil rfl) rfl) rfl) (Nat.le_of_ble_eq_true rfl))))⟩

theorem ok_are_integers {P : Program} {w : World} {mg : Str → Option Value} {base : Heap} (C : Ct) (A : Fa C.K mg) (a : Addr) (ns : List Int) (D : Dc C n_1 n_2 n_3 a ns) (j : Nat) : FnG P w C.K mg base CX0 (j + 1 + 1) A.f_are_integers A.d_are_integers p_are_integers (spS C (FT (T ns) (fun _ => none) (j + 1 + 1) 1) 2) := by
  refine defOk A.F_are_integers sc_are_integers rfl 1 (m_are_integers 0) (T ns) (fun _ => none) (j + 1) rfl rfl (by decide) (fun cdv A0 outer s H F0 hG hr => ?_)
  have D' : Dc (C.at H F0 (FT (T ns) (fun _ => none) (j + 1))) n_1 n_2 n_3 a ns := ⟨D.n1, D.n2, D.n3, D.sc⟩
  have hu := Pv.Room.u70 hr
  have hu65 := Pv.Room.u65 hr
  have hu1 := Pv.Room.u1 hr
  have hdk := dkn_of D'
  have hn3 := hn3_of D'
  have hn2 := hn2_of D'
  have c_is_integer := @ok_is_integer P w mg base (C.at H F0 (FT (T ns) (fun _ => none) (j + 1))) A a ns D' (j + 0)
  exact ⟨[],
    (Sb.cons (Ss.ite (Ew.t (Ew.or (Et.not (Et.truth rfl (Es.b (Es.isi .isTuple rfl rfl rfl A.z_isinstance rfl rfl A.z_tuple rfl (by decide) rfl (Eb.var 0 rfl (.inl rfl) rfl rfl) rfl rfl rfl)) (fun _ => rfl))) (Ew.one (Et.cmp .ne rfl hu65 (Es.b (Es.biB .len rfl cb_len rfl A.z_len rfl (Eas.one (Eb.var 0 rfl (.inl rfl) rfl rfl) rfl) (by decide) rfl rfl rfl)) (Eb.var 1 rfl (.inl rfl) rfl rfl) rfl)))) (Sb.one (Ss.ret Es.bl)) Sb.nil)
    (Sb.one (Ss.ret (Es.biB .all rfl (cb_all rfl) rfl A.z_all rfl (Eas.one (Ef.b (Ef.comp rfl sc_are_integers.nd (Ei.seq rfl (Es.var 0 (by decide) rfl (.inl rfl) rfl rfl)) bk_are_integers_0 rfl (fun _ _ _ _ _ => (Eg.name 2 (by decide) sc_are_integers.nd rfl (.inl rfl) (.inr rfl))) (fun _ _ _ _ _ => Ec.none) (fun _ _ _ _ _ => (Es.call 0 (c_is_integer) hG hr rfl A.g_is_integer A.F_is_integer.kp A.b_is_integer pass0 (Ea.cons (Es.var 2 (by decide) rfl (.inl rfl) rfl rfl) Ea.nil rfl) rfl rfl rfl rfl)) (fun _ => rfl) (by decide))) rfl) (by decide) rfl rfl rfl))))⟩

theorem ok_is_discriminant {P : Program} {w : World} {mg : Str → Option Value} {base : Heap} (C : Ct) (A : Fa C.K mg) (a : Addr) (ns : List Int) (D : Dc C n_1 n_2 n_3 a ns) (j : Nat) : FnG P w C.K mg base CX0 (j + 1 + 1) A.f_is_discriminant A.d_is_discriminant p_is_discriminant (spS C (FT (T ns) (fun _ => none) (j + 1 + 1) 5) 1) := by
  refine defOk A.F_is_discriminant sc_is_discriminant rfl 5 (m_is_discriminant 0) (T ns) (fun _ => none) (j + 1) rfl rfl (by decide) (fun cdv A0 outer s H F0 hG hr => ?_)
  have D' : Dc (C.at H F0 (FT (T ns) (fun _ => none) (j + 1))) n_1 n_2 n_3 a ns := ⟨D.n1, D.n2, D.n3, D.sc⟩
  have hu := Pv.Room.u70 hr
  have hu65 := Pv.Room.u65 hr
  have hu1 := Pv.Room.u1 hr
  have hdk := dkn_of D'
  have hn3 := hn3_of D'
  have hn2 := hn2_of D'
  have c_is_integer := @ok_is_integer P w mg base (C.at H F0 (FT (T ns) (fun _ => none) (j + 1))) A a ns D' (j + 0)
  exact ⟨[],
    (Sb.one (Ss.ret (Es.and (Es.b (Es.call 0 (c_is_integer) hG hr rfl A.g_is_integer A.F_is_integer.kp A.b_is_integer pass0 (Ea.cons (Es.var 0 (by decide) rfl (.inl rfl) rfl rfl) Ea.nil rfl) rfl rfl rfl rfl)) (Es.and (Es.b (Es.chain .le .le rfl hu65 (Es.b (Es.glob (v := .int (-20000)) rfl A.g_LEAST ⟨_, rfl⟩ (fun _ => rel_int) rfl)) (Eb.var 0 rfl (.inl rfl) rfl rfl) (Es.b (Es.neg rfl (Es.b Es.int))) rfl)) (Es.one (Es.cmp .isin rfl hu65 (Es.b (Es.bin .mod rfl (Eb.var 0 rfl (.inl rfl) rfl rfl) (Es.b Es.int))) (Es.b (Es.tup (Ea.cons Es.int (Ea.cons Es.int Ea.nil rfl) rfl) (Nat.le_of_ble_eq_true rfl))) rfl))))))⟩

theorem ok_reduction {P : Program} {w : World} {mg : Str → Option Value} {base : Heap} (C : Ct) (A : Fa C.K mg) (a : Addr) (ns : List Int) (D : Dc C n_1 n_2 n_3 a ns) (j : Nat) : FnG P w C.K mg base CX0 (j + 1 + 1) A.f_reduction A.d_reduction p_reduction (spS C (FT (T ns) (fun _ => none) (j + 1 + 1) 11) 1) := by
  refine defOk A.F_reduction sc_reduction rfl 11 (m_reduction 9 10) (T ns) (fun _ => none) (j + 1) rfl rfl (by decide) (fun cdv A0 outer s H F0 hG hr => ?_)
  have D' : Dc (C.at H F0 (FT (T ns) (fun _ => none) (j + 1))) n_1 n_2 n_3 a ns := ⟨D.n1, D.n2, D.n3, D.sc⟩
  have hu := Pv.Room.u70 hr
  have hu65 := Pv.Room.u65 hr
  have hu1 := Pv.Room.u1 hr
  have hdk := dkn_of D'
  have hn3 := hn3_of D'
  have hn2 := hn2_of D'
  have c_lead := @ok_lead P w mg base (C.at H F0 (FT (T ns) (fun _ => none) (j + 1))) A a ns D' (j + 0)
  have c_matrix_times := @ok_matrix_times P w mg base (C.at H F0 (FT (T ns) (fun _ => none) (j + 1))) A a ns D' (j + 0)
  exact ⟨_,
    (Sb.cons (Ss.set (Es.tup (Ea.cons Es.int (Ea.cons Es.int (Ea.cons Es.int (Ea.cons Es.int Ea.nil rfl) rfl) rfl) rfl) (Nat.le_of_ble_eq_true rfl)) (Eg.name 1 (by decide) sc_reduction.nd rfl (.inl rfl) (.inr rfl)) rfl rfl rfl)
    (Sb.one (Ss.while_ PassesOwn.never (Et.truth rfl (Es.b Es.bl) (fun _ => rfl)) (Sb.cons (Ss.set (Es.var 0 (by decide) rfl (.inl rfl) rfl rfl) (Eg.tup rfl rfl (Egs.cons (Eg.name 2 (by decide) sc_reduction.nd rfl (.inl rfl) (.inr rfl)) (Egs.cons (Eg.name 3 (by decide) sc_reduction.nd rfl (.inl rfl) (.inr rfl)) (Egs.cons (Eg.name 4 (by decide) sc_reduction.nd rfl (.inl rfl) (.inr rfl)) Egs.nil rfl) rfl) rfl) (by decide) rfl rfl) rfl rfl rfl)
      (Sb.cons (Ss.set (Es.bin .fdiv rfl (Es.b (Es.bin .sub rfl (Eb.var 2 rfl (.inl rfl) rfl rfl) (Eb.var 3 rfl (.inl rfl) rfl rfl))) (Es.b (Es.bin .mul rfl (Es.b Es.int) (Eb.var 2 rfl (.inl rfl) rfl rfl)))) (Eg.name 5 (by decide) sc_reduction.nd rfl (.inl rfl) (.inr rfl)) rfl rfl rfl)
      (Sb.cons (Ss.ite (Et.truth rfl (Eb.var 5 rfl (.inl rfl) rfl rfl) (fun _ => rfl)) (Sb.one (Ss.set (Es.tup (Ea.cons Es.int (Ea.cons (Es.var 5 (by decide) rfl (.inl rfl) rfl rfl) (Ea.cons Es.int (Ea.cons Es.int Ea.nil rfl) rfl) rfl) rfl) (Nat.le_of_ble_eq_true rfl)) (Eg.name 6 (by decide) sc_reduction.nd rfl (.inl rfl) (.inr rfl)) rfl rfl rfl)) (Sb.one (Ss.ite (Ew.t (Ew.or (Et.cmp .gt rfl hu65 (Eb.var 2 rfl (.inl rfl) rfl rfl) (Eb.var 4 rfl (.inl rfl) rfl rfl) rfl) (Ew.one (Ew.t (Ew.and (Et.cmp .eq rfl hu65 (Eb.var 2 rfl (.inl rfl) rfl rfl) (Eb.var 4 rfl (.inl rfl) rfl rfl) rfl) (Ew.one (Et.cmp .lt rfl hu65 (Eb.var 3 rfl (.inl rfl) rfl rfl) (Es.b Es.int) rfl))))))) (Sb.one (Ss.set (Es.tup (Ea.cons Es.int (Ea.cons (Es.neg rfl (Es.b Es.int)) (Ea.cons Es.int (Ea.cons Es.int Ea.nil rfl) rfl) rfl) rfl) (Nat.le_of_ble_eq_true rfl)) (Eg.name 6 (by decide) sc_reduction.nd rfl (.inl rfl) (.inr rfl)) rfl rfl rfl)) (Sb.one (Ss.ret (Es.tup (Ea.cons (Es.var 0 (by decide) rfl (.inl rfl) rfl rfl) (Ea.cons (Es.var 1 (by decide) rfl (.inl rfl) rfl rfl) Ea.nil rfl) rfl) (Nat.le_of_ble_eq_true rfl)))))))
      (Sb.cons (Ss.set (Es.call 9 (c_lead) hG hr rfl A.g_lead A.F_lead.kp A.b_lead pass0 (Ea.cons (Es.var 0 (by decide) rfl (.inl rfl) rfl rfl) (Ea.cons (Es.var 6 (by decide) rfl (.inl rfl) rfl rfl) Ea.nil rfl) rfl) rfl rfl rfl rfl) (Eg.name 0 (by decide) sc_reduction.nd rfl (.inl rfl) (.inr rfl)) rfl rfl rfl)
      (Sb.one (Ss.set (Es.call 10 (c_matrix_times) hG hr rfl A.g_matrix_times A.F_matrix_times.kp A.b_matrix_times pass0 (Ea.cons (Es.var 1 (by decide) rfl (.inl rfl) rfl rfl) (Ea.cons (Es.var 6 (by decide) rfl (.inl rfl) rfl rfl) Ea.nil rfl) rfl) rfl rfl rfl rfl) (Eg.name 1 (by decide) sc_reduction.nd rfl (.inl rfl) (.inr rfl)) rfl rfl rfl)))))))))⟩

theorem ok_classes {P : Program} {w : World} {mg : Str → Option Value} {base : Heap} (C : Ct) (A : Fa C.K mg) (a : Addr) (ns : List Int) (D : Dc C n_1 n_2 n_3 a ns) (j : Nat) : FnG P w C.K mg base CX0 (j + 1 + 1) A.f_classes A.d_classes p_classes (spS C (FT (T ns) (fun _ => none) (j + 1 + 1) 14) 1) := by
  refine defOk A.F_classes sc_classes rfl 14 (m_classes 2) (T ns) (fun _ => none) (j + 1) rfl rfl (by decide) (fun cdv A0 outer s H F0 hG hr => ?_)
  have D' : Dc (C.at H F0 (FT (T ns) (fun _ => none) (j + 1))) n_1 n_2 n_3 a ns := ⟨D.n1, D.n2, D.n3, D.sc⟩
  have hu := Pv.Room.u70 hr
  have hu65 := Pv.Room.u65 hr
  have hu1 := Pv.Room.u1 hr
  have hdk := dkn_of D'
  have hn3 := hn3_of D'
  have hn2 := hn2_of D'
  have c_common_divisor := @ok_common_divisor P w mg base (C.at H F0 (FT (T ns) (fun _ => none) (j + 1))) A a ns D' (j + 0)
  exact ⟨[],
    (Sb.cons (Ss.own 1 (Ef.lst Ea.nil (Nat.le_of_ble_eq_true rfl)) sc_classes.nd rfl (.inl rfl) (.inr rfl) rfl)
    (Sb.cons (Ss.set Es.int (Eg.name 2 (by decide) sc_classes.nd rfl (.inl rfl) (.inr rfl)) rfl rfl rfl)
    (Sb.cons (Ss.while_ PassesOwn.never (Et.cmp .le rfl hu65 (Es.b (Es.bin .mul rfl (Es.b (Es.bin .mul rfl (Es.b Es.int) (Eb.var 2 rfl (.inl rfl) rfl rfl))) (Eb.var 2 rfl (.inl rfl) rfl rfl))) (Es.b (Es.neg rfl (Eb.var 0 rfl (.inl rfl) rfl rfl))) rfl) (Sb.cons (Ss.for_ PassesOwn.never rfl (Ei.rng2 rfl A.z_range (Ea.cons (Es.bin .sub rfl (Es.b Es.int) (Eb.var 2 rfl (.inl rfl) rfl rfl)) (Ea.cons (Es.bin .add rfl (Eb.var 2 rfl (.inl rfl) rfl rfl) (Es.b Es.int)) Ea.nil rfl) rfl) rfl rfl) (Eg.name 3 (by decide) sc_classes.nd rfl (.inl rfl) (.inr rfl)) (Sb.cons (Ss.ite (Et.truth rfl (Es.b (Es.bin .mod rfl (Es.b (Es.bin .sub rfl (Es.b (Es.bin .mul rfl (Eb.var 3 rfl (.inl rfl) rfl rfl) (Eb.var 3 rfl (.inl rfl) rfl rfl))) (Eb.var 0 rfl (.inl rfl) rfl rfl))) (Es.b (Es.bin .mul rfl (Es.b Es.int) (Eb.var 2 rfl (.inl rfl) rfl rfl))))) (fun _ => rfl)) (Sb.one Ss.cnt) Sb.nil)
        (Sb.cons (Ss.set (Es.bin .fdiv rfl (Es.b (Es.bin .sub rfl (Es.b (Es.bin .mul rfl (Eb.var 3 rfl (.inl rfl) rfl rfl) (Eb.var 3 rfl (.inl rfl) rfl rfl))) (Eb.var 0 rfl (.inl rfl) rfl rfl))) (Es.b (Es.bin .mul rfl (Es.b Es.int) (Eb.var 2 rfl (.inl rfl) rfl rfl)))) (Eg.name 4 (by decide) sc_classes.nd rfl (.inl rfl) (.inr rfl)) rfl rfl rfl)
        (Sb.cons (Ss.ite (Ew.t (Ew.or (Et.cmp .lt rfl hu65 (Eb.var 4 rfl (.inl rfl) rfl rfl) (Eb.var 2 rfl (.inl rfl) rfl rfl) rfl) (Ew.one (Ew.t (Ew.and (Et.cmp .eq rfl hu65 (Eb.var 4 rfl (.inl rfl) rfl rfl) (Eb.var 2 rfl (.inl rfl) rfl rfl) rfl) (Ew.one (Et.cmp .lt rfl hu65 (Eb.var 3 rfl (.inl rfl) rfl rfl) (Es.b Es.int) rfl))))))) (Sb.one Ss.cnt) Sb.nil)
        (Sb.one (Ss.ite (Et.cmp .eq rfl hu65 (Es.b (Es.call 2 (c_common_divisor) hG hr rfl A.g_common_divisor A.F_common_divisor.kp A.b_common_divisor pass0 (Ea.cons (Es.call 2 (c_common_divisor) hG hr rfl A.g_common_divisor A.F_common_divisor.kp A.b_common_divisor pass0 (Ea.cons (Es.var 2 (by decide) rfl (.inl rfl) rfl rfl) (Ea.cons (Es.var 3 (by decide) rfl (.inl rfl) rfl rfl) Ea.nil rfl) rfl) rfl rfl rfl rfl) (Ea.cons (Es.var 4 (by decide) rfl (.inl rfl) rfl rfl) Ea.nil rfl) rfl) rfl rfl rfl rfl)) (Es.b Es.int) rfl) (Sb.one (Ss.app 1 (by decide) rfl (.inl rfl) rfl rfl (Es.tup (Ea.cons (Es.var 2 (by decide) rfl (.inl rfl) rfl rfl) (Ea.cons (Es.var 3 (by decide) rfl (.inl rfl) rfl rfl) (Ea.cons (Es.var 4 (by decide) rfl (.inl rfl) rfl rfl) Ea.nil rfl) rfl) rfl) (Nat.le_of_ble_eq_true rfl)) rfl rfl rfl rfl rfl rfl)) Sb.nil))))) (fun _ => rfl))
      (Sb.one (Ss.aug 2 .add (by decide) (Es.b Es.int) sc_classes.nd rfl (.inl rfl) (.inr rfl)))))
    (Sb.one (Ss.ret (Es.biT .toTuple rfl cb_toTuple rfl A.z_tuple rfl (Eas.one (Eb.var 1 rfl (.inl rfl) rfl rfl) rfl) (by decide) rfl rfl rfl))))))⟩

theorem ok__law_pick {P : Program} {w : World} {mg : Str → Option Value} {base : Heap} (C : Ct) (A : Fa C.K mg) (a : Addr) (ns : List Int) (D : Dc C n_1 n_2 n_3 a ns) (j : Nat) : FnG P w C.K mg base CX0 (j + 1 + 1) A.f__law_pick A.d__law_pick p__law_pick (spS C (FT (T ns) (fun _ => none) (j + 1 + 1) 25) 2) := by
  refine defOk A.F__law_pick sc__law_pick rfl 25 (m__law_pick 24) (T ns) (fun _ => none) (j + 1) rfl rfl (by decide) (fun cdv A0 outer s H F0 hG hr => ?_)
  have D' : Dc (C.at H F0 (FT (T ns) (fun _ => none) (j + 1))) n_1 n_2 n_3 a ns := ⟨D.n1, D.n2, D.n3, D.sc⟩
  have hu := Pv.Room.u70 hr
  have hu65 := Pv.Room.u65 hr
  have hu1 := Pv.Room.u1 hr
  have hdk := dkn_of D'
  have hn3 := hn3_of D'
  have hn2 := hn2_of D'
  have c__law_draw := @ok__law_draw P w mg base (C.at H F0 (FT (T ns) (fun _ => none) (j + 1))) A a ns D' (j + 0)
  exact ⟨[],
    (Sb.one (Ss.ret (Es.idx rfl (Eb.var 1 rfl (.inl rfl) rfl rfl) (Es.b (Es.call 24 (c__law_draw) hG hr rfl A.g__law_draw A.F__law_draw.kp A.b__law_draw pass0 (Ea.cons (Es.var 0 (by decide) rfl (.inl rfl) rfl rfl) (Ea.cons (Es.biB .len rfl cb_len rfl A.z_len rfl (Eas.one (Eb.var 1 rfl (.inl rfl) rfl rfl) rfl) (by decide) rfl rfl rfl) Ea.nil rfl) rfl) rfl rfl rfl rfl)) (by intro _ _; rfl))))⟩

theorem ok__law_classes {P : Program} {w : World} {mg : Str → Option Value} {base : Heap} (C : Ct) (A : Fa C.K mg) (a : Addr) (ns : List Int) (D : Dc C n_1 n_2 n_3 a ns) (j : Nat) : FnG P w C.K mg base CX0 (j + 1 + 1) A.f__law_classes A.d__law_classes p__law_classes (spS C (FT (T ns) (fun _ => none) (j + 1 + 1) 28) 1) := by
  refine defOk A.F__law_classes sc__law_classes rfl 28 (m__law_classes 26) (T ns) (fun _ => none) (j + 1) rfl rfl (by decide) (fun cdv A0 outer s H F0 hG hr => ?_)
  have D' : Dc (C.at H F0 (FT (T ns) (fun _ => none) (j + 1))) n_1 n_2 n_3 a ns := ⟨D.n1, D.n2, D.n3, D.sc⟩
  have hu := Pv.Room.u70 hr
  have hu65 := Pv.Room.u65 hr
  have hu1 := Pv.Room.u1 hr
  have hdk := dkn_of D'
  have hn3 := hn3_of D'
  have hn2 := hn2_of D'
  have c__law_gcd := @ok__law_gcd P w mg base (C.at H F0 (FT (T ns) (fun _ => none) (j + 1))) A a ns D' (j + 0)
  exact ⟨[],
    (Sb.cons (Ss.parO 1 2 rfl sc__law_classes.nd rfl rfl (by decide) (by decide) rfl rfl (Ef.lst Ea.nil (Nat.le_of_ble_eq_true rfl)) (Es.bin .mod rfl (Es.b (Es.biT .toInt rfl cb_toInt rfl A.z_int rfl (Eas.one (Eb.var 0 rfl (.inl rfl) rfl rfl) rfl) (by decide) rfl rfl rfl)) (Es.b Es.int)) rfl rfl rfl rfl)
    (Sb.cons (Ss.while_ PassesOwn.never (Et.cmp .le rfl hu65 (Es.b (Es.bin .mul rfl (Es.b (Es.bin .mul rfl (Es.b Es.int) (Eb.var 2 rfl (.inl rfl) rfl rfl))) (Eb.var 2 rfl (.inl rfl) rfl rfl))) (Es.b (Es.bin .sub rfl (Es.b Es.int) (Eb.var 0 rfl (.inl rfl) rfl rfl))) rfl) (Sb.cons (Ss.set (Es.bin .fdiv rfl (Es.b (Es.bin .sub rfl (Es.b (Es.bin .mul rfl (Eb.var 2 rfl (.inl rfl) rfl rfl) (Eb.var 2 rfl (.inl rfl) rfl rfl))) (Eb.var 0 rfl (.inl rfl) rfl rfl))) (Es.b Es.int)) (Eg.name 3 (by decide) sc__law_classes.nd rfl (.inl rfl) (.inr rfl)) rfl rfl rfl)
      (Sb.cons (Ss.set (Es.biB .max2 rfl (cb_max2 rfl) rfl A.z_max rfl (Eas.two (Es.b Es.int) (Eb.var 2 rfl (.inl rfl) rfl rfl) rfl rfl) (by decide) rfl rfl rfl) (Eg.name 4 (by decide) sc__law_classes.nd rfl (.inl rfl) (.inr rfl)) rfl rfl rfl)
      (Sb.cons (Ss.while_ PassesOwn.never (Et.cmp .le rfl hu65 (Es.b (Es.bin .mul rfl (Eb.var 4 rfl (.inl rfl) rfl rfl) (Eb.var 4 rfl (.inl rfl) rfl rfl))) (Eb.var 3 rfl (.inl rfl) rfl rfl) rfl) (Sb.cons (Ss.ite (Ew.t (Ew.and (Et.cmp .eq rfl hu65 (Es.b (Es.bin .mod rfl (Es.b (Es.biT .toInt rfl cb_toInt rfl A.z_int rfl (Eas.one (Eb.var 3 rfl (.inl rfl) rfl rfl) rfl) (by decide) rfl rfl rfl)) (Eb.var 4 rfl (.inl rfl) rfl rfl))) (Es.b Es.int) rfl) (Ew.one (Et.cmp .eq rfl hu65 (Es.b (Es.call 26 (c__law_gcd) hG hr rfl A.g__law_gcd A.F__law_gcd.kp A.b__law_gcd pass0 (Ea.cons (Es.call 26 (c__law_gcd) hG hr rfl A.g__law_gcd A.F__law_gcd.kp A.b__law_gcd pass0 (Ea.cons (Es.var 4 (by decide) rfl (.inl rfl) rfl rfl) (Ea.cons (Es.var 2 (by decide) rfl (.inl rfl) rfl rfl) Ea.nil rfl) rfl) rfl rfl rfl rfl) (Ea.cons (Es.bin .fdiv rfl (Eb.var 3 rfl (.inl rfl) rfl rfl) (Eb.var 4 rfl (.inl rfl) rfl rfl)) Ea.nil rfl) rfl) rfl rfl rfl rfl)) (Es.b Es.int) rfl)))) (Sb.cons (Ss.app 1 (by decide) rfl (.inl rfl) rfl rfl (Es.tup (Ea.cons (Es.var 4 (by decide) rfl (.inl rfl) rfl rfl) (Ea.cons (Es.var 2 (by decide) rfl (.inl rfl) rfl rfl) (Ea.cons (Es.bin .fdiv rfl (Eb.var 3 rfl (.inl rfl) rfl rfl) (Eb.var 4 rfl (.inl rfl) rfl rfl)) Ea.nil rfl) rfl) rfl) (Nat.le_of_ble_eq_true rfl)) rfl rfl rfl rfl rfl rfl)
          (Sb.one (Ss.ite (Et.chain3 .lt .lt .lt rfl hu65 (Es.b Es.int) (Eb.var 2 rfl (.inl rfl) rfl rfl) (Eb.var 4 rfl (.inl rfl) rfl rfl) (Es.b (Es.bin .fdiv rfl (Eb.var 3 rfl (.inl rfl) rfl rfl) (Eb.var 4 rfl (.inl rfl) rfl rfl))) rfl) (Sb.one (Ss.app 1 (by decide) rfl (.inl rfl) rfl rfl (Es.tup (Ea.cons (Es.var 4 (by decide) rfl (.inl rfl) rfl rfl) (Ea.cons (Es.bin .sub rfl (Es.b Es.int) (Eb.var 2 rfl (.inl rfl) rfl rfl)) (Ea.cons (Es.bin .fdiv rfl (Eb.var 3 rfl (.inl rfl) rfl rfl) (Eb.var 4 rfl (.inl rfl) rfl rfl)) Ea.nil rfl) rfl) rfl) (Nat.le_of_ble_eq_true rfl)) rfl rfl rfl rfl rfl rfl)) Sb.nil))) Sb.nil)
        (Sb.one (Ss.set (Es.bin .add rfl (Eb.var 4 rfl (.inl rfl) rfl rfl) (Es.b Es.int)) (Eg.name 4 (by decide) sc__law_classes.nd rfl (.inl rfl) (.inr rfl)) rfl rfl rfl))))
      (Sb.one (Ss.set (Es.bin .add rfl (Eb.var 2 rfl (.inl rfl) rfl rfl) (Es.b Es.int)) (Eg.name 2 (by decide) sc__law_classes.nd rfl (.inl rfl) (.inr rfl)) rfl rfl rfl))))))
    (Sb.one (Ss.ret (Es.biB .sorted rfl cb_sorted rfl A.z_sorted rfl (Eas.one (Eb.var 1 rfl (.inl rfl) rfl rfl) rfl) (by decide) rfl rfl rfl)))))⟩

theorem ok__law_matrix {P : Program} {w : World} {mg : Str → Option Value} {base : Heap} (C : Ct) (A : Fa C.K mg) (a : Addr) (ns : List Int) (D : Dc C n_1 n_2 n_3 a ns) (j : Nat) : FnG P w C.K mg base CX0 (j + 1 + 1) A.f__law_matrix A.d__law_matrix p__law_matrix (spS C (FT (T ns) (fun _ => none) (j + 1 + 1) 31) 3) := by
  refine defOk A.F__law_matrix sc__law_matrix rfl 31 (m__law_matrix 24 30) (T ns) (fun _ => none) (j + 1) rfl rfl (by decide) (fun cdv A0 outer s H F0 hG hr => ?_)
  have D' : Dc (C.at H F0 (FT (T ns) (fun _ => none) (j + 1))) n_1 n_2 n_3 a ns := ⟨D.n1, D.n2, D.n3, D.sc⟩
  have hu := Pv.Room.u70 hr
  have hu65 := Pv.Room.u65 hr
  have hu1 := Pv.Room.u1 hr
  have hdk := dkn_of D'
  have hn3 := hn3_of D'
  have hn2 := hn2_of D'
  have c__law_draw := @ok__law_draw P w mg base (C.at H F0 (FT (T ns) (fun _ => none) (j + 1))) A a ns D' (j + 0)
  have c__law_times := @ok__law_times P w mg base (C.at H F0 (FT (T ns) (fun _ => none) (j + 1))) A a ns D' (j + 0)
  exact ⟨[],
    (Sb.cons (Ss.set (Es.tup (Ea.cons Es.int (Ea.cons Es.int (Ea.cons Es.int (Ea.cons Es.int Ea.nil rfl) rfl) rfl) rfl) (Nat.le_of_ble_eq_true rfl)) (Eg.name 3 (by decide) sc__law_matrix.nd rfl (.inl rfl) (.inr rfl)) rfl rfl rfl)
    (Sb.cons (Ss.for_ PassesOwn.never rfl (Ei.rng1 rfl A.z_range (Ea.cons (Es.call 24 (c__law_draw) hG hr rfl A.g__law_draw A.F__law_draw.kp A.b__law_draw pass0 (Ea.cons (Es.var 0 (by decide) rfl (.inl rfl) rfl rfl) (Ea.cons (Es.bin .add rfl (Eb.var 1 rfl (.inl rfl) rfl rfl) (Es.b Es.int)) Ea.nil rfl) rfl) rfl rfl rfl rfl) Ea.nil rfl) rfl) (Eg.name 4 (by decide) sc__law_matrix.nd rfl (.inl rfl) (.inr rfl)) (Sb.cons (Ss.par 5 6 rfl sc__law_matrix.nd rfl rfl (by decide) (by decide) (by decide) rfl rfl (Ea.cons (Es.call 24 (c__law_draw) hG hr rfl A.g__law_draw A.F__law_draw.kp A.b__law_draw pass0 (Ea.cons (Es.var 0 (by decide) rfl (.inl rfl) rfl rfl) (Ea.cons Es.int Ea.nil rfl) rfl) rfl rfl rfl rfl) (Ea.cons (Es.bin .sub rfl (Es.b (Es.call 24 (c__law_draw) hG hr rfl A.g__law_draw A.F__law_draw.kp A.b__law_draw pass0 (Ea.cons (Es.var 0 (by decide) rfl (.inl rfl) rfl rfl) (Ea.cons (Es.bin .add rfl (Es.b (Es.bin .mul rfl (Es.b Es.int) (Eb.var 2 rfl (.inl rfl) rfl rfl))) (Es.b Es.int)) Ea.nil rfl) rfl) rfl rfl rfl rfl)) (Eb.var 2 rfl (.inl rfl) rfl rfl)) Ea.nil rfl) rfl) rfl rfl)
      (Sb.one (Ss.set (Es.call 30 (c__law_times) hG hr rfl A.g__law_times A.F__law_times.kp A.b__law_times pass0 (Ea.cons (Es.var 3 (by decide) rfl (.inl rfl) rfl rfl) (Ea.cons (Es.idx rfl (Es.b (Es.tup (Ea.cons (Es.tup (Ea.cons Es.int (Ea.cons (Es.var 6 (by decide) rfl (.inl rfl) rfl rfl) (Ea.cons Es.int (Ea.cons Es.int Ea.nil rfl) rfl) rfl) rfl) (Nat.le_of_ble_eq_true rfl)) (Ea.cons (Es.tup (Ea.cons Es.int (Ea.cons Es.int (Ea.cons (Es.var 6 (by decide) rfl (.inl rfl) rfl rfl) (Ea.cons Es.int Ea.nil rfl) rfl) rfl) rfl) (Nat.le_of_ble_eq_true rfl)) (Ea.cons (Es.tup (Ea.cons Es.int (Ea.cons (Es.neg rfl (Es.b Es.int)) (Ea.cons Es.int (Ea.cons Es.int Ea.nil rfl) rfl) rfl) rfl) (Nat.le_of_ble_eq_true rfl)) Ea.nil rfl) rfl) rfl) (Nat.le_of_ble_eq_true rfl))) (Eb.var 5 rfl (.inl rfl) rfl rfl) (by intro _ _; rfl)) Ea.nil rfl) rfl) rfl rfl rfl rfl) (Eg.name 3 (by decide) sc__law_matrix.nd rfl (.inl rfl) (.inr rfl)) rfl rfl rfl))) (fun _ => rfl))
    (Sb.one (Ss.ret (Es.var 3 (by decide) rfl (.inl rfl) rfl rfl)))))⟩

theorem ok__law_reduced {P : Program} {w : World} {mg : Str → Option Value} {base : Heap} (C : Ct) (A : Fa C.K mg) (a : Addr) (ns : List Int) (D : Dc C n_1 n_2 n_3 a ns) (j : Nat) : FnG P w C.K mg base CX0 (j + 1 + 1) A.f__law_reduced A.d__law_reduced p__law_reduced (spS C (FT (T ns) (fun _ => none) (j + 1 + 1) 32) 1) := by
  refine defOk A.F__law_reduced sc__law_reduced rfl 32 (m__law_reduced 29 30) (T ns) (fun _ => none) (j + 1) rfl rfl (by decide) (fun cdv A0 outer s H F0 hG hr => ?_)
  have D' : Dc (C.at H F0 (FT (T ns) (fun _ => none) (j + 1))) n_1 n_2 n_3 a ns := ⟨D.n1, D.n2, D.n3, D.sc⟩
  have hu := Pv.Room.u70 hr
  have hu65 := Pv.Room.u65 hr
  have hu1 := Pv.Room.u1 hr
  have hdk := dkn_of D'
  have hn3 := hn3_of D'
  have hn2 := hn2_of D'
  have c__law_led := @ok__law_led P w mg base (C.at H F0 (FT (T ns) (fun _ => none) (j + 1))) A a ns D' (j + 0)
  have c__law_times := @ok__law_times P w mg base (C.at H F0 (FT (T ns) (fun _ => none) (j + 1))) A a ns D' (j + 0)
  exact ⟨[],
    (Sb.cons (Ss.set (Es.tup (Ea.cons Es.int (Ea.cons Es.int (Ea.cons Es.int (Ea.cons Es.int Ea.nil rfl) rfl) rfl) rfl) (Nat.le_of_ble_eq_true rfl)) (Eg.name 1 (by decide) sc__law_reduced.nd rfl (.inl rfl) (.inr rfl)) rfl rfl rfl)
    (Sb.cons (Ss.for_ PassesOwn.never rfl (Ei.rng1 rfl A.z_range (Ea.cons Es.int Ea.nil rfl) rfl) (Eg.name 2 (by decide) sc__law_reduced.nd rfl (.inl rfl) (.inr rfl)) (Sb.cons (Ss.set (Es.tup (Ea.cons Es.int (Ea.cons (Es.bin .fdiv rfl (Es.b (Es.bin .sub rfl (Es.b (Es.idx rfl (Eb.var 0 rfl (.inl rfl) rfl rfl) (Es.b Es.int) (by intro _ _; rfl))) (Es.b (Es.idx rfl (Eb.var 0 rfl (.inl rfl) rfl rfl) (Es.b Es.int) (by intro _ _; rfl))))) (Es.b (Es.bin .mul rfl (Es.b Es.int) (Es.b (Es.idx rfl (Eb.var 0 rfl (.inl rfl) rfl rfl) (Es.b Es.int) (by intro _ _; rfl)))))) (Ea.cons Es.int (Ea.cons Es.int Ea.nil rfl) rfl) rfl) rfl) (Nat.le_of_ble_eq_true rfl)) (Eg.name 3 (by decide) sc__law_reduced.nd rfl (.inl rfl) (.inr rfl)) rfl rfl rfl)
      (Sb.cons (Ss.par 0 1 rfl sc__law_reduced.nd rfl rfl (by decide) (by decide) (by decide) rfl rfl (Ea.cons (Es.call 29 (c__law_led) hG hr rfl A.g__law_led A.F__law_led.kp A.b__law_led pass0 (Ea.cons (Es.var 0 (by decide) rfl (.inl rfl) rfl rfl) (Ea.cons (Es.var 3 (by decide) rfl (.inl rfl) rfl rfl) Ea.nil rfl) rfl) rfl rfl rfl rfl) (Ea.cons (Es.call 30 (c__law_times) hG hr rfl A.g__law_times A.F__law_times.kp A.b__law_times pass0 (Ea.cons (Es.var 1 (by decide) rfl (.inl rfl) rfl rfl) (Ea.cons (Es.var 3 (by decide) rfl (.inl rfl) rfl rfl) Ea.nil rfl) rfl) rfl rfl rfl rfl) Ea.nil rfl) rfl) rfl rfl)
      (Sb.cons (Ss.ite (Ew.t (Ew.or (Et.cmp .lt rfl hu65 (Es.b (Es.idx rfl (Eb.var 0 rfl (.inl rfl) rfl rfl) (Es.b Es.int) (by intro _ _; rfl))) (Es.b (Es.idx rfl (Eb.var 0 rfl (.inl rfl) rfl rfl) (Es.b Es.int) (by intro _ _; rfl))) rfl) (Ew.one (Ew.t (Ew.and (Et.cmp .eq rfl hu65 (Es.b (Es.idx rfl (Eb.var 0 rfl (.inl rfl) rfl rfl) (Es.b Es.int) (by intro _ _; rfl))) (Es.b (Es.idx rfl (Eb.var 0 rfl (.inl rfl) rfl rfl) (Es.b Es.int) (by intro _ _; rfl))) rfl) (Ew.one (Et.cmp .ge rfl hu65 (Es.b (Es.idx rfl (Eb.var 0 rfl (.inl rfl) rfl rfl) (Es.b Es.int) (by intro _ _; rfl))) (Es.b Es.int) rfl))))))) (Sb.one Ss.brk) Sb.nil)
      (Sb.one (Ss.par 0 1 rfl sc__law_reduced.nd rfl rfl (by decide) (by decide) (by decide) rfl rfl (Ea.cons (Es.call 29 (c__law_led) hG hr rfl A.g__law_led A.F__law_led.kp A.b__law_led pass0 (Ea.cons (Es.var 0 (by decide) rfl (.inl rfl) rfl rfl) (Ea.cons (Es.tup (Ea.cons Es.int (Ea.cons (Es.neg rfl (Es.b Es.int)) (Ea.cons Es.int (Ea.cons Es.int Ea.nil rfl) rfl) rfl) rfl) (Nat.le_of_ble_eq_true rfl)) Ea.nil rfl) rfl) rfl rfl rfl rfl) (Ea.cons (Es.call 30 (c__law_times) hG hr rfl A.g__law_times A.F__law_times.kp A.b__law_times pass0 (Ea.cons (Es.var 1 (by decide) rfl (.inl rfl) rfl rfl) (Ea.cons (Es.tup (Ea.cons Es.int (Ea.cons (Es.neg rfl (Es.b Es.int)) (Ea.cons Es.int (Ea.cons Es.int Ea.nil rfl) rfl) rfl) rfl) (Nat.le_of_ble_eq_true rfl)) Ea.nil rfl) rfl) rfl rfl rfl rfl) Ea.nil rfl) rfl) rfl rfl))))) (fun _ => rfl))
    (Sb.one (Ss.ret (Es.tup (Ea.cons (Es.var 0 (by decide) rfl (.inl rfl) rfl rfl) (Ea.cons (Es.var 1 (by decide) rfl (.inl rfl) rfl rfl) Ea.nil rfl) rfl) (Nat.le_of_ble_eq_true rfl))))))⟩

theorem ok__law_coprime_pair {P : Program} {w : World} {mg : Str → Option Value} {base : Heap} (C : Ct) (A : Fa C.K mg) (a : Addr) (ns : List Int) (D : Dc C n_1 n_2 n_3 a ns) (j : Nat) : FnG P w C.K mg base CX0 (j + 1 + 1) A.f__law_coprime_pair A.d__law_coprime_pair p__law_coprime_pair (spS C (FT (T ns) (fun _ => none) (j + 1 + 1) 34) 2) := by
  refine defOk A.F__law_coprime_pair sc__law_coprime_pair rfl 34 (m__law_coprime_pair 26) (T ns) (fun _ => none) (j + 1) rfl rfl (by decide) (fun cdv A0 outer s H F0 hG hr => ?_)
  have D' : Dc (C.at H F0 (FT (T ns) (fun _ => none) (j + 1))) n_1 n_2 n_3 a ns := ⟨D.n1, D.n2, D.n3, D.sc⟩
  have hu := Pv.Room.u70 hr
  have hu65 := Pv.Room.u65 hr
  have hu1 := Pv.Room.u1 hr
  have hdk := dkn_of D'
  have hn3 := hn3_of D'
  have hn2 := hn2_of D'
  have c__law_gcd := @ok__law_gcd P w mg base (C.at H F0 (FT (T ns) (fun _ => none) (j + 1))) A a ns D' (j + 0)
  exact ⟨[],
    (Sb.cons (Ss.for_ PassesOwn.never rfl (Ei.rng2 rfl A.z_range (Ea.cons Es.int (Ea.cons (Es.bin .add rfl (Es.b (Es.bin .mul rfl (Es.b Es.int) (Eb.var 1 rfl (.inl rfl) rfl rfl))) (Es.b Es.int)) Ea.nil rfl) rfl) rfl rfl) (Eg.name 2 (by decide) sc__law_coprime_pair.nd rfl (.inl rfl) (.inr rfl)) (Sb.one (Ss.for_ PassesOwn.never rfl (Ei.rng1 rfl A.z_range (Ea.cons (Es.bin .add rfl (Eb.var 2 rfl (.inl rfl) rfl rfl) (Es.b Es.int)) Ea.nil rfl) rfl) (Eg.name 3 (by decide) sc__law_coprime_pair.nd rfl (.inl rfl) (.inr rfl)) (Sb.cons (Ss.set (Es.bin .sub rfl (Eb.var 2 rfl (.inl rfl) rfl rfl) (Eb.var 3 rfl (.inl rfl) rfl rfl)) (Eg.name 4 (by decide) sc__law_coprime_pair.nd rfl (.inl rfl) (.inr rfl)) rfl rfl rfl)
        (Sb.cons (Ss.set (Es.bin .add rfl (Es.b (Es.bin .add rfl (Es.b (Es.bin .mul rfl (Es.b (Es.bin .mul rfl (Es.b (Es.idx rfl (Eb.var 0 rfl (.inl rfl) rfl rfl) (Es.b Es.int) (by intro _ _; rfl))) (Eb.var 3 rfl (.inl rfl) rfl rfl))) (Eb.var 3 rfl (.inl rfl) rfl rfl))) (Es.b (Es.bin .mul rfl (Es.b (Es.bin .mul rfl (Es.b (Es.idx rfl (Eb.var 0 rfl (.inl rfl) rfl rfl) (Es.b Es.int) (by intro _ _; rfl))) (Eb.var 3 rfl (.inl rfl) rfl rfl))) (Eb.var 4 rfl (.inl rfl) rfl rfl))))) (Es.b (Es.bin .mul rfl (Es.b (Es.bin .mul rfl (Es.b (Es.idx rfl (Eb.var 0 rfl (.inl rfl) rfl rfl) (Es.b Es.int) (by intro _ _; rfl))) (Eb.var 4 rfl (.inl rfl) rfl rfl))) (Eb.var 4 rfl (.inl rfl) rfl rfl)))) (Eg.name 5 (by decide) sc__law_coprime_pair.nd rfl (.inl rfl) (.inr rfl)) rfl rfl rfl)
        (Sb.one (Ss.ite (Ew.t (Ew.and (Et.cmp .eq rfl hu65 (Es.b (Es.call 26 (c__law_gcd) hG hr rfl A.g__law_gcd A.F__law_gcd.kp A.b__law_gcd pass0 (Ea.cons (Es.var 3 (by decide) rfl (.inl rfl) rfl rfl) (Ea.cons (Es.var 4 (by decide) rfl (.inl rfl) rfl rfl) Ea.nil rfl) rfl) rfl rfl rfl rfl)) (Es.b Es.int) rfl) (Ew.one (Et.cmp .eq rfl hu65 (Es.b (Es.call 26 (c__law_gcd) hG hr rfl A.g__law_gcd A.F__law_gcd.kp A.b__law_gcd pass0 (Ea.cons (Es.var 5 (by decide) rfl (.inl rfl) rfl rfl) (Ea.cons (Es.var 1 (by decide) rfl (.inl rfl) rfl rfl) Ea.nil rfl) rfl) rfl rfl rfl rfl)) (Es.b Es.int) rfl)))) (Sb.one (Ss.ret (Es.tup (Ea.cons (Es.var 3 (by decide) rfl (.inl rfl) rfl rfl) (Ea.cons (Es.var 4 (by decide) rfl (.inl rfl) rfl rfl) Ea.nil rfl) rfl) (Nat.le_of_ble_eq_true rfl)))) Sb.nil)))) (fun _ => rfl))) (fun _ => rfl))
    (Sb.one (Ss.ret (Es.tup (Ea.cons Es.int (Ea.cons Es.int Ea.nil rfl) rfl) (Nat.le_of_ble_eq_true rfl)))))⟩

theorem ok__law_value {P : Program} {w : World} {mg : Str → Option Value} {base : Heap} (C : Ct) (A : Fa C.K mg) (a : Addr) (ns : List Int) (D : Dc C n_1 n_2 n_3 a ns) (j : Nat) : FnG P w C.K mg base CX0 (j + 1 + 1) A.f__law_value A.d__law_value p__law_value (spS C (FT (T ns) (fun _ => none) (j + 1 + 1) 39) 2) := by
  refine defOk A.F__law_value sc__law_value rfl 39 (m__law_value 24 26) (T ns) (fun _ => none) (j + 1) rfl rfl (by decide) (fun cdv A0 outer s H F0 hG hr => ?_)
  have D' : Dc (C.at H F0 (FT (T ns) (fun _ => none) (j + 1))) n_1 n_2 n_3 a ns := ⟨D.n1, D.n2, D.n3, D.sc⟩
  have hu := Pv.Room.u70 hr
  have hu65 := Pv.Room.u65 hr
  have hu1 := Pv.Room.u1 hr
  have hdk := dkn_of D'
  have hn3 := hn3_of D'
  have hn2 := hn2_of D'
  have c__law_draw := @ok__law_draw P w mg base (C.at H F0 (FT (T ns) (fun _ => none) (j + 1))) A a ns D' (j + 0)
  have c__law_gcd := @ok__law_gcd P w mg base (C.at H F0 (FT (T ns) (fun _ => none) (j + 1))) A a ns D' (j + 0)
  exact ⟨[],
    (Sb.cons (Ss.par 2 3 rfl sc__law_value.nd rfl rfl (by decide) (by decide) (by decide) rfl rfl (Ea.cons (Es.bin .add rfl (Es.b Es.int) (Es.b (Es.call 24 (c__law_draw) hG hr rfl A.g__law_draw A.F__law_draw.kp A.b__law_draw pass0 (Ea.cons (Es.var 0 (by decide) rfl (.inl rfl) rfl rfl) (Ea.cons Es.int Ea.nil rfl) rfl) rfl rfl rfl rfl))) (Ea.cons (Es.bin .sub rfl (Es.b (Es.call 24 (c__law_draw) hG hr rfl A.g__law_draw A.F__law_draw.kp A.b__law_draw pass0 (Ea.cons (Es.var 0 (by decide) rfl (.inl rfl) rfl rfl) (Ea.cons Es.int Ea.nil rfl) rfl) rfl rfl rfl rfl)) (Es.b Es.int)) Ea.nil rfl) rfl) rfl rfl)
    (Sb.cons (Ss.set (Es.call 26 (c__law_gcd) hG hr rfl A.g__law_gcd A.F__law_gcd.kp A.b__law_gcd pass0 (Ea.cons (Es.var 2 (by decide) rfl (.inl rfl) rfl rfl) (Ea.cons (Es.var 3 (by decide) rfl (.inl rfl) rfl rfl) Ea.nil rfl) rfl) rfl rfl rfl rfl) (Eg.name 4 (by decide) sc__law_value.nd rfl (.inl rfl) (.inr rfl)) rfl rfl rfl)
    (Sb.cons (Ss.par 2 3 rfl sc__law_value.nd rfl rfl (by decide) (by decide) (by decide) rfl rfl (Ea.cons (Es.bin .fdiv rfl (Eb.var 2 rfl (.inl rfl) rfl rfl) (Eb.var 4 rfl (.inl rfl) rfl rfl)) (Ea.cons (Es.bin .fdiv rfl (Eb.var 3 rfl (.inl rfl) rfl rfl) (Eb.var 4 rfl (.inl rfl) rfl rfl)) Ea.nil rfl) rfl) rfl rfl)
    (Sb.one (Ss.ret (Es.bin .add rfl (Es.b (Es.bin .add rfl (Es.b (Es.bin .mul rfl (Es.b (Es.bin .mul rfl (Es.b (Es.idx rfl (Eb.var 1 rfl (.inl rfl) rfl rfl) (Es.b Es.int) (by intro _ _; rfl))) (Eb.var 2 rfl (.inl rfl) rfl rfl))) (Eb.var 2 rfl (.inl rfl) rfl rfl))) (Es.b (Es.bin .mul rfl (Es.b (Es.bin .mul rfl (Es.b (Es.idx rfl (Eb.var 1 rfl (.inl rfl) rfl rfl) (Es.b Es.int) (by intro _ _; rfl))) (Eb.var 2 rfl (.inl rfl) rfl rfl))) (Eb.var 3 rfl (.inl rfl) rfl rfl))))) (Es.b (Es.bin .mul rfl (Es.b (Es.bin .mul rfl (Es.b (Es.idx rfl (Eb.var 1 rfl (.inl rfl) rfl rfl) (Es.b Es.int) (by intro _ _; rfl))) (Eb.var 3 rfl (.inl rfl) rfl rfl))) (Eb.var 3 rfl (.inl rfl) rfl rfl)))))))))⟩

theorem ok_is_form {P : Program} {w : World} {mg : Str → Option Value} {base : Heap} (C : Ct) (A : Fa C.K mg) (a : Addr) (ns : List Int) (D : Dc C n_1 n_2 n_3 a ns) (j : Nat) : FnG P w C.K mg base CX0 (j + 2 + 1) A.f_is_form A.d_is_form p_is_form (spS C (FT (T ns) (fun _ => none) (j + 2 + 1) 7) 1) := by
  refine defOk A.F_is_form sc_is_form rfl 7 (m_is_form 1 2 5) (T ns) (fun _ => none) (j + 2) rfl rfl (by decide) (fun cdv A0 outer s H F0 hG hr => ?_)
  have D' : Dc (C.at H F0 (FT (T ns) (fun _ => none) (j + 2))) n_1 n_2 n_3 a ns := ⟨D.n1, D.n2, D.n3, D.sc⟩
  have hu := Pv.Room.u70 hr
  have hu65 := Pv.Room.u65 hr
  have hu1 := Pv.Room.u1 hr
  have hdk := dkn_of D'
  have hn3 := hn3_of D'
  have hn2 := hn2_of D'
  have c_are_integers := @ok_are_integers P w mg base (C.at H F0 (FT (T ns) (fun _ => none) (j + 2))) A a ns D' (j + 0)
  have c_common_divisor := @ok_common_divisor P w mg base (C.at H F0 (FT (T ns) (fun _ => none) (j + 2))) A a ns D' (j + 1)
  have c_is_discriminant := @ok_is_discriminant P w mg base (C.at H F0 (FT (T ns) (fun _ => none) (j + 2))) A a ns D' (j + 0)
  exact ⟨[],
    (Sb.cons (Ss.ite (Et.not (Et.truth rfl (Es.b (Es.call 1 (c_are_integers) hG hr rfl A.g_are_integers A.F_are_integers.kp A.b_are_integers pass0 (Ea.cons (Es.var 0 (by decide) rfl (.inl rfl) rfl rfl) (Ea.cons Es.int Ea.nil rfl) rfl) rfl rfl rfl rfl)) (fun _ => rfl))) (Sb.one (Ss.ret Es.bl)) Sb.nil)
    (Sb.cons (Ss.set (Es.var 0 (by decide) rfl (.inl rfl) rfl rfl) (Eg.tup rfl rfl (Egs.cons (Eg.name 1 (by decide) sc_is_form.nd rfl (.inl rfl) (.inr rfl)) (Egs.cons (Eg.name 2 (by decide) sc_is_form.nd rfl (.inl rfl) (.inr rfl)) (Egs.cons (Eg.name 3 (by decide) sc_is_form.nd rfl (.inl rfl) (.inr rfl)) Egs.nil rfl) rfl) rfl) (by decide) rfl rfl) rfl rfl rfl)
    (Sb.cons (Ss.ite (Ew.t (Ew.or (Et.cmp .le rfl hu65 (Eb.var 1 rfl (.inl rfl) rfl rfl) (Es.b Es.int) rfl) (Ew.one (Et.not (Et.truth rfl (Es.b (Es.call 5 (c_is_discriminant) hG hr rfl A.g_is_discriminant A.F_is_discriminant.kp A.b_is_discriminant pass0 (Ea.cons (Es.bin .sub rfl (Es.b (Es.bin .mul rfl (Eb.var 2 rfl (.inl rfl) rfl rfl) (Eb.var 2 rfl (.inl rfl) rfl rfl))) (Es.b (Es.bin .mul rfl (Es.b (Es.bin .mul rfl (Es.b Es.int) (Eb.var 1 rfl (.inl rfl) rfl rfl))) (Eb.var 3 rfl (.inl rfl) rfl rfl)))) Ea.nil rfl) rfl rfl rfl rfl)) (fun _ => rfl)))))) (Sb.one (Ss.ret Es.bl)) Sb.nil)
    (Sb.one (Ss.ret (Es.cmp .eq rfl hu65 (Es.b (Es.call 2 (c_common_divisor) hG hr rfl A.g_common_divisor A.F_common_divisor.kp A.b_common_divisor pass0 (Ea.cons (Es.call 2 (c_common_divisor) hG hr rfl A.g_common_divisor A.F_common_divisor.kp A.b_common_divisor pass0 (Ea.cons (Es.var 1 (by decide) rfl (.inl rfl) rfl rfl) (Ea.cons (Es.var 2 (by decide) rfl (.inl rfl) rfl rfl) Ea.nil rfl) rfl) rfl rfl rfl rfl) (Ea.cons (Es.var 3 (by decide) rfl (.inl rfl) rfl rfl) Ea.nil rfl) rfl) rfl rfl rfl rfl)) (Es.b Es.int) rfl))))))⟩

theorem ok_class_number {P : Program} {w : World} {mg : Str → Option Value} {base : Heap} (C : Ct) (A : Fa C.K mg) (a : Addr) (ns : List Int) (D : Dc C n_1 n_2 n_3 a ns) (j : Nat) : FnG P w C.K mg base CX0 (j + 2 + 1) A.f_class_number A.d_class_number p_class_number (spS C (FT (T ns) (fun _ => none) (j + 2 + 1) 15) 1) := by
  refine defOk A.F_class_number sc_class_number rfl 15 (m_class_number 14) (T ns) (fun _ => none) (j + 2) rfl rfl (by decide) (fun cdv A0 outer s H F0 hG hr => ?_)
  have D' : Dc (C.at H F0 (FT (T ns) (fun _ => none) (j + 2))) n_1 n_2 n_3 a ns := ⟨D.n1, D.n2, D.n3, D.sc⟩
  have hu := Pv.Room.u70 hr
  have hu65 := Pv.Room.u65 hr
  have hu1 := Pv.Room.u1 hr
  have hdk := dkn_of D'
  have hn3 := hn3_of D'
  have hn2 := hn2_of D'
  have c_classes := @ok_classes P w mg base (C.at H F0 (FT (T ns) (fun _ => none) (j + 2))) A a ns D' (j + 0)
  exact ⟨[],
    (Sb.one (Ss.ret (Es.biB .len rfl cb_len rfl A.z_len rfl (Eas.one (Es.b (Es.call 14 (c_classes) hG hr rfl A.g_classes A.F_classes.kp A.b_classes pass0 (Ea.cons (Es.var 0 (by decide) rfl (.inl rfl) rfl rfl) Ea.nil rfl) rfl rfl rfl rfl)) rfl) (by decide) rfl rfl rfl)))⟩

theorem ok_compose {P : Program} {w : World} {mg : Str → Option Value} {base : Heap} (C : Ct) (A : Fa C.K mg) (a : Addr) (ns : List Int) (D : Dc C n_1 n_2 n_3 a ns) (j : Nat) : FnG P w C.K mg base CX0 (j + 2 + 1) A.f_compose A.d_compose p_compose (spS C (FT (T ns) (fun _ => none) (j + 2 + 1) 16) 2) := by
  refine defOk A.F_compose sc_compose rfl 16 (m_compose 3 6 11) (T ns) (fun _ => none) (j + 2) rfl rfl (by decide) (fun cdv A0 outer s H F0 hG hr => ?_)
  have D' : Dc (C.at H F0 (FT (T ns) (fun _ => none) (j + 2))) n_1 n_2 n_3 a ns := ⟨D.n1, D.n2, D.n3, D.sc⟩
  have hu := Pv.Room.u70 hr
  have hu65 := Pv.Room.u65 hr
  have hu1 := Pv.Room.u1 hr
  have hdk := dkn_of D'
  have hn3 := hn3_of D'
  have hn2 := hn2_of D'
  have c_bezout := @ok_bezout P w mg base (C.at H F0 (FT (T ns) (fun _ => none) (j + 2))) A a ns D' (j + 1)
  have c_discriminant_at := @ok_discriminant_at P w mg base (C.at H F0 (FT (T ns) (fun _ => none) (j + 2))) A a ns D' (j + 1)
  have c_reduction := @ok_reduction P w mg base (C.at H F0 (FT (T ns) (fun _ => none) (j + 2))) A a ns D' (j + 0)
  exact ⟨[],
    (Sb.cons (Ss.set (Es.var 0 (by decide) rfl (.inl rfl) rfl rfl) (Eg.tup rfl rfl (Egs.cons (Eg.name 2 (by decide) sc_compose.nd rfl (.inl rfl) (.inr rfl)) (Egs.cons (Eg.name 3 (by decide) sc_compose.nd rfl (.inl rfl) (.inr rfl)) (Egs.cons (Eg.name 4 (by decide) sc_compose.nd rfl (.inl rfl) (.inr rfl)) Egs.nil rfl) rfl) rfl) (by decide) rfl rfl) rfl rfl rfl)
    (Sb.cons (Ss.set (Es.var 1 (by decide) rfl (.inl rfl) rfl rfl) (Eg.tup rfl rfl (Egs.cons (Eg.name 5 (by decide) sc_compose.nd rfl (.inl rfl) (.inr rfl)) (Egs.cons (Eg.name 6 (by decide) sc_compose.nd rfl (.inl rfl) (.inr rfl)) (Egs.cons (Eg.name 4 (by decide) sc_compose.nd rfl (.inl rfl) (.inr rfl)) Egs.nil rfl) rfl) rfl) (by decide) rfl rfl) rfl rfl rfl)
    (Sb.cons (Ss.set (Es.call 6 (c_discriminant_at) hG hr rfl A.g_discriminant_at A.F_discriminant_at.kp A.b_discriminant_at pass0 (Ea.cons (Es.var 0 (by decide) rfl (.inl rfl) rfl rfl) Ea.nil rfl) rfl rfl rfl rfl) (Eg.name 7 (by decide) sc_compose.nd rfl (.inl rfl) (.inr rfl)) rfl rfl rfl)
    (Sb.cons (Ss.set (Es.bin .fdiv rfl (Es.b (Es.bin .add rfl (Eb.var 3 rfl (.inl rfl) rfl rfl) (Eb.var 6 rfl (.inl rfl) rfl rfl))) (Es.b Es.int)) (Eg.name 8 (by decide) sc_compose.nd rfl (.inl rfl) (.inr rfl)) rfl rfl rfl)
    (Sb.cons (Ss.set (Es.call 3 (c_bezout) hG hr rfl A.g_bezout A.F_bezout.kp A.b_bezout pass0 (Ea.cons (Es.var 2 (by decide) rfl (.inl rfl) rfl rfl) (Ea.cons (Es.var 5 (by decide) rfl (.inl rfl) rfl rfl) Ea.nil rfl) rfl) rfl rfl rfl rfl) (Eg.tup rfl rfl (Egs.cons (Eg.name 9 (by decide) sc_compose.nd rfl (.inl rfl) (.inr rfl)) (Egs.cons (Eg.name 10 (by decide) sc_compose.nd rfl (.inl rfl) (.inr rfl)) (Egs.cons (Eg.name 11 (by decide) sc_compose.nd rfl (.inl rfl) (.inr rfl)) Egs.nil rfl) rfl) rfl) (by decide) rfl rfl) rfl rfl rfl)
    (Sb.cons (Ss.set (Es.call 3 (c_bezout) hG hr rfl A.g_bezout A.F_bezout.kp A.b_bezout pass0 (Ea.cons (Es.var 9 (by decide) rfl (.inl rfl) rfl rfl) (Ea.cons (Es.var 8 (by decide) rfl (.inl rfl) rfl rfl) Ea.nil rfl) rfl) rfl rfl rfl rfl) (Eg.tup rfl rfl (Egs.cons (Eg.name 9 (by decide) sc_compose.nd rfl (.inl rfl) (.inr rfl)) (Egs.cons (Eg.name 12 (by decide) sc_compose.nd rfl (.inl rfl) (.inr rfl)) (Egs.cons (Eg.name 13 (by decide) sc_compose.nd rfl (.inl rfl) (.inr rfl)) Egs.nil rfl) rfl) rfl) (by decide) rfl rfl) rfl rfl rfl)
    (Sb.cons (Ss.set (Es.bin .add rfl (Es.b (Es.bin .mul rfl (Eb.var 12 rfl (.inl rfl) rfl rfl) (Es.b (Es.bin .add rfl (Es.b (Es.bin .mul rfl (Es.b (Es.bin .mul rfl (Eb.var 10 rfl (.inl rfl) rfl rfl) (Eb.var 2 rfl (.inl rfl) rfl rfl))) (Eb.var 6 rfl (.inl rfl) rfl rfl))) (Es.b (Es.bin .mul rfl (Es.b (Es.bin .mul rfl (Eb.var 11 rfl (.inl rfl) rfl rfl) (Eb.var 5 rfl (.inl rfl) rfl rfl))) (Eb.var 3 rfl (.inl rfl) rfl rfl))))))) (Es.b (Es.bin .mul rfl (Eb.var 13 rfl (.inl rfl) rfl rfl) (Es.b (Es.bin .fdiv rfl (Es.b (Es.bin .add rfl (Es.b (Es.bin .mul rfl (Eb.var 3 rfl (.inl rfl) rfl rfl) (Eb.var 6 rfl (.inl rfl) rfl rfl))) (Eb.var 7 rfl (.inl rfl) rfl rfl))) (Es.b Es.int)))))) (Eg.name 14 (by decide) sc_compose.nd rfl (.inl rfl) (.inr rfl)) rfl rfl rfl)
    (Sb.cons (Ss.set (Es.bin .mul rfl (Es.b (Es.bin .fdiv rfl (Eb.var 2 rfl (.inl rfl) rfl rfl) (Eb.var 9 rfl (.inl rfl) rfl rfl))) (Es.b (Es.bin .fdiv rfl (Eb.var 5 rfl (.inl rfl) rfl rfl) (Eb.var 9 rfl (.inl rfl) rfl rfl)))) (Eg.name 15 (by decide) sc_compose.nd rfl (.inl rfl) (.inr rfl)) rfl rfl rfl)
    (Sb.cons (Ss.set (Es.bin .mod rfl (Es.b (Es.bin .fdiv rfl (Eb.var 14 rfl (.inl rfl) rfl rfl) (Eb.var 9 rfl (.inl rfl) rfl rfl))) (Es.b (Es.bin .mul rfl (Es.b Es.int) (Eb.var 15 rfl (.inl rfl) rfl rfl)))) (Eg.name 16 (by decide) sc_compose.nd rfl (.inl rfl) (.inr rfl)) rfl rfl rfl)
    (Sb.cons (Ss.set (Es.bin .fdiv rfl (Es.b (Es.bin .sub rfl (Es.b (Es.bin .mul rfl (Eb.var 16 rfl (.inl rfl) rfl rfl) (Eb.var 16 rfl (.inl rfl) rfl rfl))) (Eb.var 7 rfl (.inl rfl) rfl rfl))) (Es.b (Es.bin .mul rfl (Es.b Es.int) (Eb.var 15 rfl (.inl rfl) rfl rfl)))) (Eg.name 17 (by decide) sc_compose.nd rfl (.inl rfl) (.inr rfl)) rfl rfl rfl)
    (Sb.one (Ss.ret (Es.idx rfl (Es.b (Es.call 11 (c_reduction) hG hr rfl A.g_reduction A.F_reduction.kp A.b_reduction pass0 (Ea.cons (Es.tup (Ea.cons (Es.var 15 (by decide) rfl (.inl rfl) rfl rfl) (Ea.cons (Es.var 16 (by decide) rfl (.inl rfl) rfl rfl) (Ea.cons (Es.var 17 (by decide) rfl (.inl rfl) rfl rfl) Ea.nil rfl) rfl) rfl) (Nat.le_of_ble_eq_true rfl)) Ea.nil rfl) rfl rfl rfl rfl)) (Es.b Es.int) (by intro _ _; rfl))))))))))))))⟩

theorem ok_turned_about {P : Program} {w : World} {mg : Str → Option Value} {base : Heap} (C : Ct) (A : Fa C.K mg) (a : Addr) (ns : List Int) (D : Dc C n_1 n_2 n_3 a ns) (j : Nat) : FnG P w C.K mg base CX0 (j + 2 + 1) A.f_turned_about A.d_turned_about p_turned_about (spS C (FT (T ns) (fun _ => none) (j + 2 + 1) 17) 1) := by
  refine defOk A.F_turned_about sc_turned_about rfl 17 (m_turned_about 11) (T ns) (fun _ => none) (j + 2) rfl rfl (by decide) (fun cdv A0 outer s H F0 hG hr => ?_)
  have D' : Dc (C.at H F0 (FT (T ns) (fun _ => none) (j + 2))) n_1 n_2 n_3 a ns := ⟨D.n1, D.n2, D.n3, D.sc⟩
  have hu := Pv.Room.u70 hr
  have hu65 := Pv.Room.u65 hr
  have hu1 := Pv.Room.u1 hr
  have hdk := dkn_of D'
  have hn3 := hn3_of D'
  have hn2 := hn2_of D'
  have c_reduction := @ok_reduction P w mg base (C.at H F0 (FT (T ns) (fun _ => none) (j + 2))) A a ns D' (j + 0)
  exact ⟨[],
    (Sb.cons (Ss.set (Es.var 0 (by decide) rfl (.inl rfl) rfl rfl) (Eg.tup rfl rfl (Egs.cons (Eg.name 1 (by decide) sc_turned_about.nd rfl (.inl rfl) (.inr rfl)) (Egs.cons (Eg.name 2 (by decide) sc_turned_about.nd rfl (.inl rfl) (.inr rfl)) (Egs.cons (Eg.name 3 (by decide) sc_turned_about.nd rfl (.inl rfl) (.inr rfl)) Egs.nil rfl) rfl) rfl) (by decide) rfl rfl) rfl rfl rfl)
    (Sb.one (Ss.ret (Es.idx rfl (Es.b (Es.call 11 (c_reduction) hG hr rfl A.g_reduction A.F_reduction.kp A.b_reduction pass0 (Ea.cons (Es.tup (Ea.cons (Es.var 1 (by decide) rfl (.inl rfl) rfl rfl) (Ea.cons (Es.neg rfl (Eb.var 2 rfl (.inl rfl) rfl rfl)) (Ea.cons (Es.var 3 (by decide) rfl (.inl rfl) rfl rfl) Ea.nil rfl) rfl) rfl) (Nat.le_of_ble_eq_true rfl)) Ea.nil rfl) rfl rfl rfl rfl)) (Es.b Es.int) (by intro _ _; rfl)))))⟩

theorem ok__law_discriminant {P : Program} {w : World} {mg : Str → Option Value} {base : Heap} (C : Ct) (A : Fa C.K mg) (a : Addr) (ns : List Int) (D : Dc C n_1 n_2 n_3 a ns) (j : Nat) : FnG P w C.K mg base CX0 (j + 2 + 1) A.f__law_discriminant A.d__law_discriminant p__law_discriminant (spS C (FT (T ns) (fun _ => none) (j + 2 + 1) 27) 1) := by
  refine defOk A.F__law_discriminant sc__law_discriminant rfl 27 (m__law_discriminant 24 25) (T ns) (fun _ => none) (j + 2) rfl rfl (by decide) (fun cdv A0 outer s H F0 hG hr => ?_)
  have D' : Dc (C.at H F0 (FT (T ns) (fun _ => none) (j + 2))) n_1 n_2 n_3 a ns := ⟨D.n1, D.n2, D.n3, D.sc⟩
  have hu := Pv.Room.u70 hr
  have hu65 := Pv.Room.u65 hr
  have hu1 := Pv.Room.u1 hr
  have hdk := dkn_of D'
  have hn3 := hn3_of D'
  have hn2 := hn2_of D'
  have c__law_draw := @ok__law_draw P w mg base (C.at H F0 (FT (T ns) (fun _ => none) (j + 2))) A a ns D' (j + 1)
  have c__law_pick := @ok__law_pick P w mg base (C.at H F0 (FT (T ns) (fun _ => none) (j + 2))) A a ns D' (j + 0)
  exact ⟨[],
    (Sb.cons (Ss.set (Es.call 24 (c__law_draw) hG hr rfl A.g__law_draw A.F__law_draw.kp A.b__law_draw pass0 (Ea.cons (Es.var 0 (by decide) rfl (.inl rfl) rfl rfl) (Ea.cons Es.int Ea.nil rfl) rfl) rfl rfl rfl rfl) (Eg.name 1 (by decide) sc__law_discriminant.nd rfl (.inl rfl) (.inr rfl)) rfl rfl rfl)
    (Sb.cons (Ss.ite (Et.cmp .eq rfl hu65 (Eb.var 1 rfl (.inl rfl) rfl rfl) (Es.b Es.int) rfl) (Sb.one (Ss.set (Es.bin .sub rfl (Es.b (Es.neg rfl (Es.b Es.int))) (Es.b (Es.call 24 (c__law_draw) hG hr rfl A.g__law_draw A.F__law_draw.kp A.b__law_draw pass0 (Ea.cons (Es.var 0 (by decide) rfl (.inl rfl) rfl rfl) (Ea.cons Es.int Ea.nil rfl) rfl) rfl rfl rfl rfl))) (Eg.name 2 (by decide) sc__law_discriminant.nd rfl (.inl rfl) (.inr rfl)) rfl rfl rfl)) (Sb.one (Ss.ite (Et.cmp .eq rfl hu65 (Eb.var 1 rfl (.inl rfl) rfl rfl) (Es.b Es.int) rfl) (Sb.one (Ss.set (Es.bin .sub rfl (Es.b (Es.neg rfl (Es.b Es.int))) (Es.b (Es.call 24 (c__law_draw) hG hr rfl A.g__law_draw A.F__law_draw.kp A.b__law_draw pass0 (Ea.cons (Es.var 0 (by decide) rfl (.inl rfl) rfl rfl) (Ea.cons Es.int Ea.nil rfl) rfl) rfl rfl rfl rfl))) (Eg.name 2 (by decide) sc__law_discriminant.nd rfl (.inl rfl) (.inr rfl)) rfl rfl rfl)) (Sb.cons (Ss.set (Es.tup (Ea.cons (Es.neg rfl (Es.b Es.int)) (Ea.cons (Es.neg rfl (Es.b Es.int)) (Ea.cons (Es.neg rfl (Es.b Es.int)) (Ea.cons (Es.neg rfl (Es.b Es.int)) (Ea.cons (Es.neg rfl (Es.b Es.int)) (Ea.cons (Es.neg rfl (Es.b Es.int)) (Ea.cons (Es.neg rfl (Es.b Es.int)) (Ea.cons (Es.neg rfl (Es.b Es.int)) (Ea.cons (Es.neg rfl (Es.b Es.int)) (Ea.cons (Es.neg rfl (Es.b Es.int)) (Ea.cons (Es.neg rfl (Es.b Es.int)) (Ea.cons (Es.neg rfl (Es.b Es.int)) (Ea.cons (Es.neg rfl (Es.b Es.int)) (Ea.cons (Es.neg rfl (Es.b Es.int)) Ea.nil rfl) rfl) rfl) rfl) rfl) rfl) rfl) rfl) rfl) rfl) rfl) rfl) rfl) rfl) (Nat.le_of_ble_eq_true rfl)) (Eg.name 3 (by decide) sc__law_discriminant.nd rfl (.inl rfl) (.inr rfl)) rfl rfl rfl)
        (Sb.cons (Ss.set (Es.call 25 (c__law_pick) hG hr rfl A.g__law_pick A.F__law_pick.kp A.b__law_pick pass0 (Ea.cons (Es.var 0 (by decide) rfl (.inl rfl) rfl rfl) (Ea.cons (Es.tup (Ea.cons Es.int (Ea.cons Es.int (Ea.cons Es.int (Ea.cons Es.int (Ea.cons Es.int (Ea.cons Es.int (Ea.cons Es.int (Ea.cons Es.int (Ea.cons Es.int (Ea.cons Es.int (Ea.cons Es.int (Ea.cons Es.int Ea.nil rfl) rfl) rfl) rfl) rfl) rfl) rfl) rfl) rfl) rfl) rfl) rfl) (Nat.le_of_ble_eq_true rfl)) Ea.nil rfl) rfl) rfl rfl rfl rfl) (Eg.name 4 (by decide) sc__law_discriminant.nd rfl (.inl rfl) (.inr rfl)) rfl rfl rfl)
        (Sb.one (Ss.set (Es.biB .max2 rfl (cb_max2 rfl) rfl A.z_max rfl (Eas.two (Es.b (Es.neg rfl (Es.b Es.int))) (Es.b (Es.bin .mul rfl (Es.b (Es.bin .mul rfl (Es.b (Es.call 25 (c__law_pick) hG hr rfl A.g__law_pick A.F__law_pick.kp A.b__law_pick pass0 (Ea.cons (Es.var 0 (by decide) rfl (.inl rfl) rfl rfl) (Ea.cons (Es.var 3 (by decide) rfl (.inl rfl) rfl rfl) Ea.nil rfl) rfl) rfl rfl rfl rfl)) (Eb.var 4 rfl (.inl rfl) rfl rfl))) (Eb.var 4 rfl (.inl rfl) rfl rfl))) rfl rfl) (by decide) rfl rfl rfl) (Eg.name 2 (by decide) sc__law_discriminant.nd rfl (.inl rfl) (.inr rfl)) rfl rfl rfl)))))))
    (Sb.one (Ss.ret (Es.bin .sub rfl (Eb.var 2 rfl (.inl rfl) rfl rfl) (Es.b (Es.dix rfl hu1 (Ef.b (Ef.ddisp (Ep.cons Es.int Es.int (Ep.cons Es.int Es.int (Ep.cons Es.int Es.int (Ep.cons Es.int Es.int Ep.nil)))) rfl rfl (List.cons_ne_nil _ _) (Nat.le_of_ble_eq_true rfl) (Nat.le_of_ble_eq_true rfl))) (Es.b (Es.bin .mod rfl (Es.b (Es.biT .toInt rfl cb_toInt rfl A.z_int rfl (Eas.one (Eb.var 2 rfl (.inl rfl) rfl rfl) rfl) (by decide) rfl rfl rfl)) (Es.b Es.int))) (by intro _ _; rfl))))))))⟩

theorem ok__law_composed {P : Program} {w : World} {mg : Str → Option Value} {base : Heap} (C : Ct) (A : Fa C.K mg) (a : Addr) (ns : List Int) (D : Dc C n_1 n_2 n_3 a ns) (j : Nat) : FnG P w C.K mg base CX0 (j + 2 + 1) A.f__law_composed A.d__law_composed p__law_composed (spS C (FT (T ns) (fun _ => none) (j + 2 + 1) 35) 2) := by
  refine defOk A.F__law_composed sc__law_composed rfl 35 (m__law_composed 34 29 33 32) (T ns) (fun _ => none) (j + 2) rfl rfl (by decide) (fun cdv A0 outer s H F0 hG hr => ?_)
  have D' : Dc (C.at H F0 (FT (T ns) (fun _ => none) (j + 2))) n_1 n_2 n_3 a ns := ⟨D.n1, D.n2, D.n3, D.sc⟩
  have hu := Pv.Room.u70 hr
  have hu65 := Pv.Room.u65 hr
  have hu1 := Pv.Room.u1 hr
  have hdk := dkn_of D'
  have hn3 := hn3_of D'
  have hn2 := hn2_of D'
  have c__law_led := @ok__law_led P w mg base (C.at H F0 (FT (T ns) (fun _ => none) (j + 2))) A a ns D' (j + 1)
  have c__law_reduced := @ok__law_reduced P w mg base (C.at H F0 (FT (T ns) (fun _ => none) (j + 2))) A a ns D' (j + 0)
  have c__law_mates := @ok__law_mates P w mg base (C.at H F0 (FT (T ns) (fun _ => none) (j + 2))) A a ns D' (j + 1)
  have c__law_coprime_pair := @ok__law_coprime_pair P w mg base (C.at H F0 (FT (T ns) (fun _ => none) (j + 2))) A a ns D' (j + 0)
  exact ⟨[],
    (Sb.cons (Ss.setG (Es.tup (Ea.cons (Es.idx rfl (Es.b (Es.call 32 (c__law_reduced) hG hr rfl A.g__law_reduced A.F__law_reduced.kp A.b__law_reduced pass0 (Ea.cons (Es.var 0 (by decide) rfl (.inl rfl) rfl rfl) Ea.nil rfl) rfl rfl rfl rfl)) (Es.b Es.int) (by intro _ _; rfl)) (Ea.cons (Es.idx rfl (Es.b (Es.call 32 (c__law_reduced) hG hr rfl A.g__law_reduced A.F__law_reduced.kp A.b__law_reduced pass0 (Ea.cons (Es.var 1 (by decide) rfl (.inl rfl) rfl rfl) Ea.nil rfl) rfl rfl rfl rfl)) (Es.b Es.int) (by intro _ _; rfl)) Ea.nil rfl) rfl) (Nat.le_of_ble_eq_true rfl)) (EgG.tup rfl rfl (Egg.cons (Eg.tup rfl rfl (Egs.cons (Eg.name 2 (by decide) sc__law_composed.nd rfl (.inl rfl) (.inr rfl)) (Egs.cons (Eg.name 3 (by decide) sc__law_composed.nd rfl (.inl rfl) (.inr rfl)) (Egs.cons (Eg.name 4 (by decide) sc__law_composed.nd rfl (.inl rfl) (.inr rfl)) Egs.nil rfl) rfl) rfl) (by decide) rfl rfl) (Egg.cons (Eg.name 1 (by decide) sc__law_composed.nd rfl (.inl rfl) (.inr rfl)) Egg.nil rfl) rfl) rfl rfl) rfl rfl rfl)
    (Sb.cons (Ss.set (Es.call 34 (c__law_coprime_pair) hG hr rfl A.g__law_coprime_pair A.F__law_coprime_pair.kp A.b__law_coprime_pair pass0 (Ea.cons (Es.var 1 (by decide) rfl (.inl rfl) rfl rfl) (Ea.cons (Es.var 2 (by decide) rfl (.inl rfl) rfl rfl) Ea.nil rfl) rfl) rfl rfl rfl rfl) (Eg.tup rfl rfl (Egs.cons (Eg.name 5 (by decide) sc__law_composed.nd rfl (.inl rfl) (.inr rfl)) (Egs.cons (Eg.name 6 (by decide) sc__law_composed.nd rfl (.inl rfl) (.inr rfl)) Egs.nil rfl) rfl) (by decide) rfl rfl) rfl rfl rfl)
    (Sb.cons (Ss.set (Es.call 33 (c__law_mates) hG hr rfl A.g__law_mates A.F__law_mates.kp A.b__law_mates pass0 (Ea.cons (Es.var 5 (by decide) rfl (.inl rfl) rfl rfl) (Ea.cons (Es.var 6 (by decide) rfl (.inl rfl) rfl rfl) Ea.nil rfl) rfl) rfl rfl rfl rfl) (Eg.tup rfl rfl (Egs.cons (Eg.name 7 (by decide) sc__law_composed.nd rfl (.inl rfl) (.inr rfl)) (Egs.cons (Eg.name 8 (by decide) sc__law_composed.nd rfl (.inl rfl) (.inr rfl)) Egs.nil rfl) rfl) (by decide) rfl rfl) rfl rfl rfl)
    (Sb.cons (Ss.set (Es.call 29 (c__law_led) hG hr rfl A.g__law_led A.F__law_led.kp A.b__law_led pass0 (Ea.cons (Es.var 1 (by decide) rfl (.inl rfl) rfl rfl) (Ea.cons (Es.tup (Ea.cons (Es.var 5 (by decide) rfl (.inl rfl) rfl rfl) (Ea.cons (Es.bin .sub rfl (Es.b Es.int) (Eb.var 8 rfl (.inl rfl) rfl rfl)) (Ea.cons (Es.var 6 (by decide) rfl (.inl rfl) rfl rfl) (Ea.cons (Es.var 7 (by decide) rfl (.inl rfl) rfl rfl) Ea.nil rfl) rfl) rfl) rfl) (Nat.le_of_ble_eq_true rfl)) Ea.nil rfl) rfl) rfl rfl rfl rfl) (Eg.tup rfl rfl (Egs.cons (Eg.name 9 (by decide) sc__law_composed.nd rfl (.inl rfl) (.inr rfl)) (Egs.cons (Eg.name 10 (by decide) sc__law_composed.nd rfl (.inl rfl) (.inr rfl)) (Egs.cons (Eg.name 11 (by decide) sc__law_composed.nd rfl (.inl rfl) (.inr rfl)) Egs.nil rfl) rfl) rfl) (by decide) rfl rfl) rfl rfl rfl)
    (Sb.cons (Ss.set (Es.bin .mod rfl (Es.b (Es.biT .toInt rfl cb_toInt rfl A.z_int rfl (Eas.one (Es.b (Es.bin .mul rfl (Es.b (Es.bin .fdiv rfl (Es.b (Es.bin .sub rfl (Eb.var 10 rfl (.inl rfl) rfl rfl) (Eb.var 3 rfl (.inl rfl) rfl rfl))) (Es.b Es.int))) (Es.b (Es.idx rfl (Es.b (Es.call 33 (c__law_mates) hG hr rfl A.g__law_mates A.F__law_mates.kp A.b__law_mates pass0 (Ea.cons (Es.bin .mod rfl (Es.b (Es.biT .toInt rfl cb_toInt rfl A.z_int rfl (Eas.one (Eb.var 2 rfl (.inl rfl) rfl rfl) rfl) (by decide) rfl rfl rfl)) (Eb.var 9 rfl (.inl rfl) rfl rfl)) (Ea.cons (Es.var 9 (by decide) rfl (.inl rfl) rfl rfl) Ea.nil rfl) rfl) rfl rfl rfl rfl)) (Es.b Es.int) (by intro _ _; rfl))))) rfl) (by decide) rfl rfl rfl)) (Eb.var 9 rfl (.inl rfl) rfl rfl)) (Eg.name 12 (by decide) sc__law_composed.nd rfl (.inl rfl) (.inr rfl)) rfl rfl rfl)
    (Sb.cons (Ss.set (Es.bin .add rfl (Eb.var 3 rfl (.inl rfl) rfl rfl) (Es.b (Es.bin .mul rfl (Es.b (Es.bin .mul rfl (Es.b Es.int) (Eb.var 2 rfl (.inl rfl) rfl rfl))) (Eb.var 12 rfl (.inl rfl) rfl rfl)))) (Eg.name 10 (by decide) sc__law_composed.nd rfl (.inl rfl) (.inr rfl)) rfl rfl rfl)
    (Sb.one (Ss.ret (Es.idx rfl (Es.b (Es.call 32 (c__law_reduced) hG hr rfl A.g__law_reduced A.F__law_reduced.kp A.b__law_reduced pass0 (Ea.cons (Es.tup (Ea.cons (Es.bin .mul rfl (Eb.var 2 rfl (.inl rfl) rfl rfl) (Eb.var 9 rfl (.inl rfl) rfl rfl)) (Ea.cons (Es.var 10 (by decide) rfl (.inl rfl) rfl rfl) (Ea.cons (Es.bin .fdiv rfl (Es.b (Es.bin .add rfl (Es.b (Es.bin .sub rfl (Es.b (Es.bin .mul rfl (Eb.var 10 rfl (.inl rfl) rfl rfl) (Eb.var 10 rfl (.inl rfl) rfl rfl))) (Es.b (Es.bin .mul rfl (Eb.var 3 rfl (.inl rfl) rfl rfl) (Eb.var 3 rfl (.inl rfl) rfl rfl))))) (Es.b (Es.bin .mul rfl (Es.b (Es.bin .mul rfl (Es.b Es.int) (Eb.var 2 rfl (.inl rfl) rfl rfl))) (Eb.var 4 rfl (.inl rfl) rfl rfl))))) (Es.b (Es.bin .mul rfl (Es.b (Es.bin .mul rfl (Es.b Es.int) (Eb.var 2 rfl (.inl rfl) rfl rfl))) (Eb.var 9 rfl (.inl rfl) rfl rfl)))) Ea.nil rfl) rfl) rfl) (Nat.le_of_ble_eq_true rfl)) Ea.nil rfl) rfl rfl rfl rfl)) (Es.b Es.int) (by intro _ _; rfl))))))))))⟩

theorem ok_is_reduced {P : Program} {w : World} {mg : Str → Option Value} {base : Heap} (C : Ct) (A : Fa C.K mg) (a : Addr) (ns : List Int) (D : Dc C n_1 n_2 n_3 a ns) (j : Nat) : FnG P w C.K mg base CX0 (j + 3 + 1) A.f_is_reduced A.d_is_reduced p_is_reduced (spS C (FT (T ns) (fun _ => none) (j + 3 + 1) 8) 1) := by
  refine defOk A.F_is_reduced sc_is_reduced rfl 8 (m_is_reduced 7) (T ns) (fun _ => none) (j + 3) rfl rfl (by decide) (fun cdv A0 outer s H F0 hG hr => ?_)
  have D' : Dc (C.at H F0 (FT (T ns) (fun _ => none) (j + 3))) n_1 n_2 n_3 a ns := ⟨D.n1, D.n2, D.n3, D.sc⟩
  have hu := Pv.Room.u70 hr
  have hu65 := Pv.Room.u65 hr
  have hu1 := Pv.Room.u1 hr
  have hdk := dkn_of D'
  have hn3 := hn3_of D'
  have hn2 := hn2_of D'
  have c_is_form := @ok_is_form P w mg base (C.at H F0 (FT (T ns) (fun _ => none) (j + 3))) A a ns D' (j + 0)
  exact ⟨[],
    (Sb.cons (Ss.ite (Et.not (Et.truth rfl (Es.b (Es.call 7 (c_is_form) hG hr rfl A.g_is_form A.F_is_form.kp A.b_is_form pass0 (Ea.cons (Es.var 0 (by decide) rfl (.inl rfl) rfl rfl) Ea.nil rfl) rfl rfl rfl rfl)) (fun _ => rfl))) (Sb.one (Ss.ret Es.bl)) Sb.nil)
    (Sb.cons (Ss.set (Es.var 0 (by decide) rfl (.inl rfl) rfl rfl) (Eg.tup rfl rfl (Egs.cons (Eg.name 1 (by decide) sc_is_reduced.nd rfl (.inl rfl) (.inr rfl)) (Egs.cons (Eg.name 2 (by decide) sc_is_reduced.nd rfl (.inl rfl) (.inr rfl)) (Egs.cons (Eg.name 3 (by decide) sc_is_reduced.nd rfl (.inl rfl) (.inr rfl)) Egs.nil rfl) rfl) rfl) (by decide) rfl rfl) rfl rfl rfl)
    (Sb.one (Ss.ret (Es.and (Es.b (Es.chain3 .lt .le .le rfl hu65 (Es.b (Es.neg rfl (Eb.var 1 rfl (.inl rfl) rfl rfl))) (Eb.var 2 rfl (.inl rfl) rfl rfl) (Eb.var 1 rfl (.inl rfl) rfl rfl) (Eb.var 3 rfl (.inl rfl) rfl rfl) rfl)) (Es.one (Es.not rfl (Es.b (Es.and (Es.b (Es.cmp .eq rfl hu65 (Eb.var 1 rfl (.inl rfl) rfl rfl) (Eb.var 3 rfl (.inl rfl) rfl rfl) rfl)) (Es.one (Es.cmp .lt rfl hu65 (Eb.var 2 rfl (.inl rfl) rfl rfl) (Es.b Es.int) rfl)))))))))))⟩

theorem ok_power_of {P : Program} {w : World} {mg : Str → Option Value} {base : Heap} (C : Ct) (A : Fa C.K mg) (a : Addr) (ns : List Int) (D : Dc C n_1 n_2 n_3 a ns) (j : Nat) : FnG P w C.K mg base CX0 (j + 3 + 1) A.f_power_of A.d_power_of p_power_of (spS C (FT (T ns) (fun _ => none) (j + 3 + 1) 18) 2) := by
  refine defOk A.F_power_of sc_power_of rfl 18 (m_power_of 16 6 13 11 17) (T ns) (fun _ => none) (j + 3) rfl rfl (by decide) (fun cdv A0 outer s H F0 hG hr => ?_)
  have D' : Dc (C.at H F0 (FT (T ns) (fun _ => none) (j + 3))) n_1 n_2 n_3 a ns := ⟨D.n1, D.n2, D.n3, D.sc⟩
  have hu := Pv.Room.u70 hr
  have hu65 := Pv.Room.u65 hr
  have hu1 := Pv.Room.u1 hr
  have hdk := dkn_of D'
  have hn3 := hn3_of D'
  have hn2 := hn2_of D'
  have c_discriminant_at := @ok_discriminant_at P w mg base (C.at H F0 (FT (T ns) (fun _ => none) (j + 3))) A a ns D' (j + 2)
  have c_reduction := @ok_reduction P w mg base (C.at H F0 (FT (T ns) (fun _ => none) (j + 3))) A a ns D' (j + 1)
  have c_first_class := @ok_first_class P w mg base (C.at H F0 (FT (T ns) (fun _ => none) (j + 3))) A a ns D' (j + 2)
  have c_compose := @ok_compose P w mg base (C.at H F0 (FT (T ns) (fun _ => none) (j + 3))) A a ns D' (j + 0)
  have c_turned_about := @ok_turned_about P w mg base (C.at H F0 (FT (T ns) (fun _ => none) (j + 3))) A a ns D' (j + 0)
  exact ⟨[],
    (Sb.cons (Ss.set (Es.idx rfl (Es.b (Es.call 11 (c_reduction) hG hr rfl A.g_reduction A.F_reduction.kp A.b_reduction pass0 (Ea.cons (Es.var 0 (by decide) rfl (.inl rfl) rfl rfl) Ea.nil rfl) rfl rfl rfl rfl)) (Es.b Es.int) (by intro _ _; rfl)) (Eg.name 2 (by decide) sc_power_of.nd rfl (.inl rfl) (.inr rfl)) rfl rfl rfl)
    (Sb.cons (Ss.ite (Et.cmp .lt rfl hu65 (Eb.var 1 rfl (.inl rfl) rfl rfl) (Es.b Es.int) rfl) (Sb.cons (Ss.set (Es.call 17 (c_turned_about) hG hr rfl A.g_turned_about A.F_turned_about.kp A.b_turned_about pass0 (Ea.cons (Es.var 2 (by decide) rfl (.inl rfl) rfl rfl) Ea.nil rfl) rfl rfl rfl rfl) (Eg.name 2 (by decide) sc_power_of.nd rfl (.inl rfl) (.inr rfl)) rfl rfl rfl)
      (Sb.one (Ss.set (Es.neg rfl (Eb.var 1 rfl (.inl rfl) rfl rfl)) (Eg.name 1 (by decide) sc_power_of.nd rfl (.inl rfl) (.inr rfl)) rfl rfl rfl))) Sb.nil)
    (Sb.cons (Ss.set (Es.call 13 (c_first_class) hG hr rfl A.g_first_class A.F_first_class.kp A.b_first_class pass0 (Ea.cons (Es.call 6 (c_discriminant_at) hG hr rfl A.g_discriminant_at A.F_discriminant_at.kp A.b_discriminant_at pass0 (Ea.cons (Es.var 0 (by decide) rfl (.inl rfl) rfl rfl) Ea.nil rfl) rfl rfl rfl rfl) Ea.nil rfl) rfl rfl rfl rfl) (Eg.name 3 (by decide) sc_power_of.nd rfl (.inl rfl) (.inr rfl)) rfl rfl rfl)
    (Sb.cons (Ss.while_ PassesOwn.never (Et.truth rfl (Eb.var 1 rfl (.inl rfl) rfl rfl) (fun _ => rfl)) (Sb.cons (Ss.ite (Et.truth rfl (Es.b (Es.bin .mod rfl (Eb.var 1 rfl (.inl rfl) rfl rfl) (Es.b Es.int))) (fun _ => rfl)) (Sb.one (Ss.set (Es.call 16 (c_compose) hG hr rfl A.g_compose A.F_compose.kp A.b_compose pass0 (Ea.cons (Es.var 3 (by decide) rfl (.inl rfl) rfl rfl) (Ea.cons (Es.var 2 (by decide) rfl (.inl rfl) rfl rfl) Ea.nil rfl) rfl) rfl rfl rfl rfl) (Eg.name 3 (by decide) sc_power_of.nd rfl (.inl rfl) (.inr rfl)) rfl rfl rfl)) Sb.nil)
      (Sb.cons (Ss.set (Es.call 16 (c_compose) hG hr rfl A.g_compose A.F_compose.kp A.b_compose pass0 (Ea.cons (Es.var 2 (by decide) rfl (.inl rfl) rfl rfl) (Ea.cons (Es.var 2 (by decide) rfl (.inl rfl) rfl rfl) Ea.nil rfl) rfl) rfl rfl rfl rfl) (Eg.name 2 (by decide) sc_power_of.nd rfl (.inl rfl) (.inr rfl)) rfl rfl rfl)
      (Sb.one (Ss.aug 1 .fdiv (by decide) (Es.b Es.int) sc_power_of.nd rfl (.inl rfl) (.inr rfl))))))
    (Sb.one (Ss.ret (Es.var 3 (by decide) rfl (.inl rfl) rfl rfl)))))))⟩

theorem ok_composed {P : Program} {w : World} {mg : Str → Option Value} {base : Heap} (C : Ct) (A : Fa C.K mg) (a : Addr) (ns : List Int) (D : Dc C n_1 n_2 n_3 a ns) (j : Nat) : FnG P w C.K mg base CX0 (j + 3 + 1) A.f_composed A.d_composed p_composed (spS C (FT (T ns) (fun _ => none) (j + 3 + 1) 19) 2) := by
  refine defOk A.F_composed sc_composed rfl 19 (m_composed 16 6 7) (T ns) (fun _ => none) (j + 3) rfl rfl (by decide) (fun cdv A0 outer s H F0 hG hr => ?_)
  have D' : Dc (C.at H F0 (FT (T ns) (fun _ => none) (j + 3))) n_1 n_2 n_3 a ns := ⟨D.n1, D.n2, D.n3, D.sc⟩
  have hu := Pv.Room.u70 hr
  have hu65 := Pv.Room.u65 hr
  have hu1 := Pv.Room.u1 hr
  have hdk := dkn_of D'
  have hn3 := hn3_of D'
  have hn2 := hn2_of D'
  have c_discriminant_at := @ok_discriminant_at P w mg base (C.at H F0 (FT (T ns) (fun _ => none) (j + 3))) A a ns D' (j + 2)
  have c_is_form := @ok_is_form P w mg base (C.at H F0 (FT (T ns) (fun _ => none) (j + 3))) A a ns D' (j + 0)
  have c_compose := @ok_compose P w mg base (C.at H F0 (FT (T ns) (fun _ => none) (j + 3))) A a ns D' (j + 0)
  exact ⟨[],
    (Sb.cons (Ss.ite (Et.not (Et.truth rfl (Es.b (Es.call 7 (c_is_form) hG hr rfl A.g_is_form A.F_is_form.kp A.b_is_form pass0 (Ea.cons (Es.var 0 (by decide) rfl (.inl rfl) rfl rfl) Ea.nil rfl) rfl rfl rfl rfl)) (fun _ => rfl))) (Sb.one Ss.bad) Sb.nil)
    (Sb.cons (Ss.ite (Et.not (Et.truth rfl (Es.b (Es.call 7 (c_is_form) hG hr rfl A.g_is_form A.F_is_form.kp A.b_is_form pass0 (Ea.cons (Es.var 1 (by decide) rfl (.inl rfl) rfl rfl) Ea.nil rfl) rfl rfl rfl rfl)) (fun _ => rfl))) (Sb.one Ss.bad) Sb.nil)
    (Sb.cons (Ss.ite (Et.cmp .ne rfl hu65 (Es.b (Es.call 6 (c_discriminant_at) hG hr rfl A.g_discriminant_at A.F_discriminant_at.kp A.b_discriminant_at pass0 (Ea.cons (Es.var 0 (by decide) rfl (.inl rfl) rfl rfl) Ea.nil rfl) rfl rfl rfl rfl)) (Es.b (Es.call 6 (c_discriminant_at) hG hr rfl A.g_discriminant_at A.F_discriminant_at.kp A.b_discriminant_at pass0 (Ea.cons (Es.var 1 (by decide) rfl (.inl rfl) rfl rfl) Ea.nil rfl) rfl rfl rfl rfl)) rfl) (Sb.one Ss.bad) Sb.nil)
    (Sb.one (Ss.ret (Es.call 16 (c_compose) hG hr rfl A.g_compose A.F_compose.kp A.b_compose pass0 (Ea.cons (Es.var 0 (by decide) rfl (.inl rfl) rfl rfl) (Ea.cons (Es.var 1 (by decide) rfl (.inl rfl) rfl rfl) Ea.nil rfl) rfl) rfl rfl rfl rfl))))))⟩

theorem ok_inverse_class {P : Program} {w : World} {mg : Str → Option Value} {base : Heap} (C : Ct) (A : Fa C.K mg) (a : Addr) (ns : List Int) (D : Dc C n_1 n_2 n_3 a ns) (j : Nat) : FnG P w C.K mg base CX0 (j + 3 + 1) A.f_inverse_class A.d_inverse_class p_inverse_class (spS C (FT (T ns) (fun _ => none) (j + 3 + 1) 20) 1) := by
  refine defOk A.F_inverse_class sc_inverse_class rfl 20 (m_inverse_class 7 17) (T ns) (fun _ => none) (j + 3) rfl rfl (by decide) (fun cdv A0 outer s H F0 hG hr => ?_)
  have D' : Dc (C.at H F0 (FT (T ns) (fun _ => none) (j + 3))) n_1 n_2 n_3 a ns := ⟨D.n1, D.n2, D.n3, D.sc⟩
  have hu := Pv.Room.u70 hr
  have hu65 := Pv.Room.u65 hr
  have hu1 := Pv.Room.u1 hr
  have hdk := dkn_of D'
  have hn3 := hn3_of D'
  have hn2 := hn2_of D'
  have c_is_form := @ok_is_form P w mg base (C.at H F0 (FT (T ns) (fun _ => none) (j + 3))) A a ns D' (j + 0)
  have c_turned_about := @ok_turned_about P w mg base (C.at H F0 (FT (T ns) (fun _ => none) (j + 3))) A a ns D' (j + 0)
  exact ⟨[],
    (Sb.cons (Ss.ite (Et.not (Et.truth rfl (Es.b (Es.call 7 (c_is_form) hG hr rfl A.g_is_form A.F_is_form.kp A.b_is_form pass0 (Ea.cons (Es.var 0 (by decide) rfl (.inl rfl) rfl rfl) Ea.nil rfl) rfl rfl rfl rfl)) (fun _ => rfl))) (Sb.one Ss.bad) Sb.nil)
    (Sb.one (Ss.ret (Es.call 17 (c_turned_about) hG hr rfl A.g_turned_about A.F_turned_about.kp A.b_turned_about pass0 (Ea.cons (Es.var 0 (by decide) rfl (.inl rfl) rfl rfl) Ea.nil rfl) rfl rfl rfl rfl))))⟩

theorem ok_order_of_class {P : Program} {w : World} {mg : Str → Option Value} {base : Heap} (C : Ct) (A : Fa C.K mg) (a : Addr) (ns : List Int) (D : Dc C n_1 n_2 n_3 a ns) (j : Nat) : FnG P w C.K mg base CX0 (j + 3 + 1) A.f_order_of_class A.d_order_of_class p_order_of_class (spS C (FT (T ns) (fun _ => none) (j + 3 + 1) 22) 1) := by
  refine defOk A.F_order_of_class sc_order_of_class rfl 22 (m_order_of_class 16 6 13 7 11) (T ns) (fun _ => none) (j + 3) rfl rfl (by decide) (fun cdv A0 outer s H F0 hG hr => ?_)
  have D' : Dc (C.at H F0 (FT (T ns) (fun _ => none) (j + 3))) n_1 n_2 n_3 a ns := ⟨D.n1, D.n2, D.n3, D.sc⟩
  have hu := Pv.Room.u70 hr
  have hu65 := Pv.Room.u65 hr
  have hu1 := Pv.Room.u1 hr
  have hdk := dkn_of D'
  have hn3 := hn3_of D'
  have hn2 := hn2_of D'
  have c_discriminant_at := @ok_discriminant_at P w mg base (C.at H F0 (FT (T ns) (fun _ => none) (j + 3))) A a ns D' (j + 2)
  have c_is_form := @ok_is_form P w mg base (C.at H F0 (FT (T ns) (fun _ => none) (j + 3))) A a ns D' (j + 0)
  have c_reduction := @ok_reduction P w mg base (C.at H F0 (FT (T ns) (fun _ => none) (j + 3))) A a ns D' (j + 1)
  have c_first_class := @ok_first_class P w mg base (C.at H F0 (FT (T ns) (fun _ => none) (j + 3))) A a ns D' (j + 2)
  have c_compose := @ok_compose P w mg base (C.at H F0 (FT (T ns) (fun _ => none) (j + 3))) A a ns D' (j + 0)
  exact ⟨[],
    (Sb.cons (Ss.ite (Et.not (Et.truth rfl (Es.b (Es.call 7 (c_is_form) hG hr rfl A.g_is_form A.F_is_form.kp A.b_is_form pass0 (Ea.cons (Es.var 0 (by decide) rfl (.inl rfl) rfl rfl) Ea.nil rfl) rfl rfl rfl rfl)) (fun _ => rfl))) (Sb.one Ss.bad) Sb.nil)
    (Sb.cons (Ss.set (Es.call 13 (c_first_class) hG hr rfl A.g_first_class A.F_first_class.kp A.b_first_class pass0 (Ea.cons (Es.call 6 (c_discriminant_at) hG hr rfl A.g_discriminant_at A.F_discriminant_at.kp A.b_discriminant_at pass0 (Ea.cons (Es.var 0 (by decide) rfl (.inl rfl) rfl rfl) Ea.nil rfl) rfl rfl rfl rfl) Ea.nil rfl) rfl rfl rfl rfl) (Eg.name 1 (by decide) sc_order_of_class.nd rfl (.inl rfl) (.inr rfl)) rfl rfl rfl)
    (Sb.cons (Ss.set (Es.idx rfl (Es.b (Es.call 11 (c_reduction) hG hr rfl A.g_reduction A.F_reduction.kp A.b_reduction pass0 (Ea.cons (Es.var 0 (by decide) rfl (.inl rfl) rfl rfl) Ea.nil rfl) rfl rfl rfl rfl)) (Es.b Es.int) (by intro _ _; rfl)) (Eg.name 2 (by decide) sc_order_of_class.nd rfl (.inl rfl) (.inr rfl)) rfl rfl rfl)
    (Sb.cons (Ss.set Es.int (Eg.name 3 (by decide) sc_order_of_class.nd rfl (.inl rfl) (.inr rfl)) rfl rfl rfl)
    (Sb.cons (Ss.while_ PassesOwn.never (Et.cmp .ne rfl hu65 (Eb.var 2 rfl (.inl rfl) rfl rfl) (Eb.var 1 rfl (.inl rfl) rfl rfl) rfl) (Sb.cons (Ss.set (Es.call 16 (c_compose) hG hr rfl A.g_compose A.F_compose.kp A.b_compose pass0 (Ea.cons (Es.var 2 (by decide) rfl (.inl rfl) rfl rfl) (Ea.cons (Es.var 0 (by decide) rfl (.inl rfl) rfl rfl) Ea.nil rfl) rfl) rfl rfl rfl rfl) (Eg.name 2 (by decide) sc_order_of_class.nd rfl (.inl rfl) (.inr rfl)) rfl rfl rfl)
      (Sb.one (Ss.aug 3 .add (by decide) (Es.b Es.int) sc_order_of_class.nd rfl (.inl rfl) (.inr rfl)))))
    (Sb.one (Ss.ret (Es.var 3 (by decide) rfl (.inl rfl) rfl rfl))))))))⟩

theorem ok__law_order {P : Program} {w : World} {mg : Str → Option Value} {base : Heap} (C : Ct) (A : Fa C.K mg) (a : Addr) (ns : List Int) (D : Dc C n_1 n_2 n_3 a ns) (j : Nat) : FnG P w C.K mg base CX0 (j + 3 + 1) A.f__law_order A.d__law_order p__law_order (spS C (FT (T ns) (fun _ => none) (j + 3 + 1) 37) 2) := by
  refine defOk A.F__law_order sc__law_order rfl 37 (m__law_order 35 36 32) (T ns) (fun _ => none) (j + 3) rfl rfl (by decide) (fun cdv A0 outer s H F0 hG hr => ?_)
  have D' : Dc (C.at H F0 (FT (T ns) (fun _ => none) (j + 3))) n_1 n_2 n_3 a ns := ⟨D.n1, D.n2, D.n3, D.sc⟩
  have hu := Pv.Room.u70 hr
  have hu65 := Pv.Room.u65 hr
  have hu1 := Pv.Room.u1 hr
  have hdk := dkn_of D'
  have hn3 := hn3_of D'
  have hn2 := hn2_of D'
  have c__law_reduced := @ok__law_reduced P w mg base (C.at H F0 (FT (T ns) (fun _ => none) (j + 3))) A a ns D' (j + 1)
  have c__law_composed := @ok__law_composed P w mg base (C.at H F0 (FT (T ns) (fun _ => none) (j + 3))) A a ns D' (j + 0)
  have c__law_first := @ok__law_first P w mg base (C.at H F0 (FT (T ns) (fun _ => none) (j + 3))) A a ns D' (j + 2)
  exact ⟨[],
    (Sb.cons (Ss.par3 2 3 4 rfl sc__law_order.nd rfl rfl rfl (by decide) (by decide) (by decide) (by decide) (by decide) (by decide) rfl rfl rfl (Ea.cons (Es.call 36 (c__law_first) hG hr rfl A.g__law_first A.F__law_first.kp A.b__law_first pass0 (Ea.cons (Es.var 1 (by decide) rfl (.inl rfl) rfl rfl) Ea.nil rfl) rfl rfl rfl rfl) (Ea.cons (Es.idx rfl (Es.b (Es.call 32 (c__law_reduced) hG hr rfl A.g__law_reduced A.F__law_reduced.kp A.b__law_reduced pass0 (Ea.cons (Es.var 0 (by decide) rfl (.inl rfl) rfl rfl) Ea.nil rfl) rfl rfl rfl rfl)) (Es.b Es.int) (by intro _ _; rfl)) (Ea.cons Es.int Ea.nil rfl) rfl) rfl) rfl rfl)
    (Sb.cons (Ss.set (Es.var 3 (by decide) rfl (.inl rfl) rfl rfl) (Eg.name 5 (by decide) sc__law_order.nd rfl (.inl rfl) (.inr rfl)) rfl rfl rfl)
    (Sb.cons (Ss.while_ PassesOwn.never (Et.cmp .ne rfl hu65 (Eb.var 3 rfl (.inl rfl) rfl rfl) (Eb.var 2 rfl (.inl rfl) rfl rfl) rfl) (Sb.one (Ss.par 3 4 rfl sc__law_order.nd rfl rfl (by decide) (by decide) (by decide) rfl rfl (Ea.cons (Es.call 35 (c__law_composed) hG hr rfl A.g__law_composed A.F__law_composed.kp A.b__law_composed pass0 (Ea.cons (Es.var 3 (by decide) rfl (.inl rfl) rfl rfl) (Ea.cons (Es.var 5 (by decide) rfl (.inl rfl) rfl rfl) Ea.nil rfl) rfl) rfl rfl rfl rfl) (Ea.cons (Es.bin .add rfl (Eb.var 4 rfl (.inl rfl) rfl rfl) (Es.b Es.int)) Ea.nil rfl) rfl) rfl rfl)))
    (Sb.one (Ss.ret (Es.var 4 (by decide) rfl (.inl rfl) rfl rfl))))))⟩

theorem ok__law_power {P : Program} {w : World} {mg : Str → Option Value} {base : Heap} (C : Ct) (A : Fa C.K mg) (a : Addr) (ns : List Int) (D : Dc C n_1 n_2 n_3 a ns) (j : Nat) : FnG P w C.K mg base CX0 (j + 3 + 1) A.f__law_power A.d__law_power p__law_power (spS C (FT (T ns) (fun _ => none) (j + 3 + 1) 38) 3) := by
  refine defOk A.F__law_power sc__law_power rfl 38 (m__law_power 35 36 32) (T ns) (fun _ => none) (j + 3) rfl rfl (by decide) (fun cdv A0 outer s H F0 hG hr => ?_)
  have D' : Dc (C.at H F0 (FT (T ns) (fun _ => none) (j + 3))) n_1 n_2 n_3 a ns := ⟨D.n1, D.n2, D.n3, D.sc⟩
  have hu := Pv.Room.u70 hr
  have hu65 := Pv.Room.u65 hr
  have hu1 := Pv.Room.u1 hr
  have hdk := dkn_of D'
  have hn3 := hn3_of D'
  have hn2 := hn2_of D'
  have c__law_reduced := @ok__law_reduced P w mg base (C.at H F0 (FT (T ns) (fun _ => none) (j + 3))) A a ns D' (j + 1)
  have c__law_composed := @ok__law_composed P w mg base (C.at H F0 (FT (T ns) (fun _ => none) (j + 3))) A a ns D' (j + 0)
  have c__law_first := @ok__law_first P w mg base (C.at H F0 (FT (T ns) (fun _ => none) (j + 3))) A a ns D' (j + 2)
  exact ⟨[],
    (Sb.cons (Ss.par 3 4 rfl sc__law_power.nd rfl rfl (by decide) (by decide) (by decide) rfl rfl (Ea.cons (Es.call 36 (c__law_first) hG hr rfl A.g__law_first A.F__law_first.kp A.b__law_first pass0 (Ea.cons (Es.var 2 (by decide) rfl (.inl rfl) rfl rfl) Ea.nil rfl) rfl rfl rfl rfl) (Ea.cons (Es.idx rfl (Es.b (Es.call 32 (c__law_reduced) hG hr rfl A.g__law_reduced A.F__law_reduced.kp A.b__law_reduced pass0 (Ea.cons (Es.ite (Et.cmp .ge rfl hu65 (Eb.var 1 rfl (.inl rfl) rfl rfl) (Es.b Es.int) rfl) (Es.var 0 (by decide) rfl (.inl rfl) rfl rfl) (Es.tup (Ea.cons (Es.idx rfl (Eb.var 0 rfl (.inl rfl) rfl rfl) (Es.b Es.int) (by intro _ _; rfl)) (Ea.cons (Es.bin .sub rfl (Es.b Es.int) (Es.b (Es.idx rfl (Eb.var 0 rfl (.inl rfl) rfl rfl) (Es.b Es.int) (by intro _ _; rfl)))) (Ea.cons (Es.idx rfl (Eb.var 0 rfl (.inl rfl) rfl rfl) (Es.b Es.int) (by intro _ _; rfl)) Ea.nil rfl) rfl) rfl) (Nat.le_of_ble_eq_true rfl))) Ea.nil rfl) rfl rfl rfl rfl)) (Es.b Es.int) (by intro _ _; rfl)) Ea.nil rfl) rfl) rfl rfl)
    (Sb.cons (Ss.set (Es.biB .abs rfl cb_abs rfl A.z_abs rfl (Eas.one (Eb.var 1 rfl (.inl rfl) rfl rfl) rfl) (by decide) rfl rfl rfl) (Eg.name 5 (by decide) sc__law_power.nd rfl (.inl rfl) (.inr rfl)) rfl rfl rfl)
    (Sb.cons (Ss.while_ PassesOwn.never (Et.cmp .gt rfl hu65 (Eb.var 5 rfl (.inl rfl) rfl rfl) (Es.b Es.int) rfl) (Sb.cons (Ss.ite (Et.cmp .eq rfl hu65 (Es.b (Es.bin .mod rfl (Es.b (Es.biT .toInt rfl cb_toInt rfl A.z_int rfl (Eas.one (Eb.var 5 rfl (.inl rfl) rfl rfl) rfl) (by decide) rfl rfl rfl)) (Es.b Es.int))) (Es.b Es.int) rfl) (Sb.one (Ss.set (Es.call 35 (c__law_composed) hG hr rfl A.g__law_composed A.F__law_composed.kp A.b__law_composed pass0 (Ea.cons (Es.var 3 (by decide) rfl (.inl rfl) rfl rfl) (Ea.cons (Es.var 4 (by decide) rfl (.inl rfl) rfl rfl) Ea.nil rfl) rfl) rfl rfl rfl rfl) (Eg.name 3 (by decide) sc__law_power.nd rfl (.inl rfl) (.inr rfl)) rfl rfl rfl)) Sb.nil)
      (Sb.one (Ss.par 4 5 rfl sc__law_power.nd rfl rfl (by decide) (by decide) (by decide) rfl rfl (Ea.cons (Es.call 35 (c__law_composed) hG hr rfl A.g__law_composed A.F__law_composed.kp A.b__law_composed pass0 (Ea.cons (Es.var 4 (by decide) rfl (.inl rfl) rfl rfl) (Ea.cons (Es.var 4 (by decide) rfl (.inl rfl) rfl rfl) Ea.nil rfl) rfl) rfl rfl rfl rfl) (Ea.cons (Es.bin .fdiv rfl (Eb.var 5 rfl (.inl rfl) rfl rfl) (Es.b Es.int)) Ea.nil rfl) rfl) rfl rfl))))
    (Sb.one (Ss.ret (Es.var 3 (by decide) rfl (.inl rfl) rfl rfl))))))⟩

theorem ok_ways_to {P : Program} {w : World} {mg : Str → Option Value} {base : Heap} (C : Ct) (A : Fa C.K mg) (a : Addr) (ns : List Int) (D : Dc C n_1 n_2 n_3 a ns) (j : Nat) : FnG P w C.K mg base CX0 (j + 4 + 1) A.f_ways_to A.d_ways_to p_ways_to (spS C (FT (T ns) (fun _ => none) (j + 4 + 1) 12) 2) := by
  refine defOk A.F_ways_to sc_ways_to rfl 12 (m_ways_to 2 6 8 4) (T ns) (fun _ => none) (j + 4) rfl rfl (by decide) (fun cdv A0 outer s H F0 hG hr => ?_)
  have D' : Dc (C.at H F0 (FT (T ns) (fun _ => none) (j + 4))) n_1 n_2 n_3 a ns := ⟨D.n1, D.n2, D.n3, D.sc⟩
  have hu := Pv.Room.u70 hr
  have hu65 := Pv.Room.u65 hr
  have hu1 := Pv.Room.u1 hr
  have hdk := dkn_of D'
  have hn3 := hn3_of D'
  have hn2 := hn2_of D'
  have c_common_divisor := @ok_common_divisor P w mg base (C.at H F0 (FT (T ns) (fun _ => none) (j + 4))) A a ns D' (j + 3)
  have c_whole_root := @ok_whole_root P w mg base (C.at H F0 (FT (T ns) (fun _ => none) (j + 4))) A a ns D' (j + 3)
  have c_discriminant_at := @ok_discriminant_at P w mg base (C.at H F0 (FT (T ns) (fun _ => none) (j + 4))) A a ns D' (j + 3)
  have c_is_reduced := @ok_is_reduced P w mg base (C.at H F0 (FT (T ns) (fun _ => none) (j + 4))) A a ns D' (j + 0)
  exact ⟨[],
    (Sb.cons (Ss.ite (Et.not (Et.truth rfl (Es.b (Es.call 8 (c_is_reduced) hG hr rfl A.g_is_reduced A.F_is_reduced.kp A.b_is_reduced pass0 (Ea.cons (Es.var 0 (by decide) rfl (.inl rfl) rfl rfl) Ea.nil rfl) rfl rfl rfl rfl)) (fun _ => rfl))) (Sb.one Ss.bad) Sb.nil)
    (Sb.cons (Ss.set (Es.var 0 (by decide) rfl (.inl rfl) rfl rfl) (Eg.tup rfl rfl (Egs.cons (Eg.name 2 (by decide) sc_ways_to.nd rfl (.inl rfl) (.inr rfl)) (Egs.cons (Eg.name 3 (by decide) sc_ways_to.nd rfl (.inl rfl) (.inr rfl)) (Egs.cons (Eg.name 4 (by decide) sc_ways_to.nd rfl (.inl rfl) (.inr rfl)) Egs.nil rfl) rfl) rfl) (by decide) rfl rfl) rfl rfl rfl)
    (Sb.cons (Ss.set (Es.call 6 (c_discriminant_at) hG hr rfl A.g_discriminant_at A.F_discriminant_at.kp A.b_discriminant_at pass0 (Ea.cons (Es.var 0 (by decide) rfl (.inl rfl) rfl rfl) Ea.nil rfl) rfl rfl rfl rfl) (Eg.name 5 (by decide) sc_ways_to.nd rfl (.inl rfl) (.inr rfl)) rfl rfl rfl)
    (Sb.cons (Ss.own 6 (Ef.lst Ea.nil (Nat.le_of_ble_eq_true rfl)) sc_ways_to.nd rfl (.inl rfl) (.inr rfl) rfl)
    (Sb.cons (Ss.set (Es.call 4 (c_whole_root) hG hr rfl A.g_whole_root A.F_whole_root.kp A.b_whole_root pass0 (Ea.cons (Es.bin .fdiv rfl (Es.b (Es.bin .mul rfl (Es.b (Es.bin .mul rfl (Es.b Es.int) (Eb.var 2 rfl (.inl rfl) rfl rfl))) (Eb.var 1 rfl (.inl rfl) rfl rfl))) (Es.b (Es.neg rfl (Eb.var 5 rfl (.inl rfl) rfl rfl)))) Ea.nil rfl) rfl rfl rfl rfl) (Eg.name 7 (by decide) sc_ways_to.nd rfl (.inl rfl) (.inr rfl)) rfl rfl rfl)
    (Sb.cons (Ss.for_ PassesOwn.never rfl (Ei.rng2 rfl A.z_range (Ea.cons (Es.neg rfl (Eb.var 7 rfl (.inl rfl) rfl rfl)) (Ea.cons (Es.bin .add rfl (Eb.var 7 rfl (.inl rfl) rfl rfl) (Es.b Es.int)) Ea.nil rfl) rfl) rfl rfl) (Eg.name 8 (by decide) sc_ways_to.nd rfl (.inl rfl) (.inr rfl)) (Sb.cons (Ss.set (Es.bin .add rfl (Es.b (Es.bin .mul rfl (Es.b (Es.bin .mul rfl (Es.b Es.int) (Eb.var 2 rfl (.inl rfl) rfl rfl))) (Eb.var 1 rfl (.inl rfl) rfl rfl))) (Es.b (Es.bin .mul rfl (Es.b (Es.bin .mul rfl (Eb.var 5 rfl (.inl rfl) rfl rfl) (Eb.var 8 rfl (.inl rfl) rfl rfl))) (Eb.var 8 rfl (.inl rfl) rfl rfl)))) (Eg.name 9 (by decide) sc_ways_to.nd rfl (.inl rfl) (.inr rfl)) rfl rfl rfl)
      (Sb.cons (Ss.set (Es.call 4 (c_whole_root) hG hr rfl A.g_whole_root A.F_whole_root.kp A.b_whole_root pass0 (Ea.cons (Es.var 9 (by decide) rfl (.inl rfl) rfl rfl) Ea.nil rfl) rfl rfl rfl rfl) (Eg.name 10 (by decide) sc_ways_to.nd rfl (.inl rfl) (.inr rfl)) rfl rfl rfl)
      (Sb.cons (Ss.ite (Et.cmp .ne rfl hu65 (Es.b (Es.bin .mul rfl (Eb.var 10 rfl (.inl rfl) rfl rfl) (Eb.var 10 rfl (.inl rfl) rfl rfl))) (Eb.var 9 rfl (.inl rfl) rfl rfl) rfl) (Sb.one Ss.cnt) Sb.nil)
      (Sb.cons (Ss.set (Es.ite (Et.cmp .eq rfl hu65 (Eb.var 10 rfl (.inl rfl) rfl rfl) (Es.b Es.int) rfl) (Ef.s (Ef.lst (Ea.cons Es.int Ea.nil rfl) (Nat.le_of_ble_eq_true rfl))) (Ef.s (Ef.lst (Ea.cons (Es.neg rfl (Eb.var 10 rfl (.inl rfl) rfl rfl)) (Ea.cons (Es.var 10 (by decide) rfl (.inl rfl) rfl rfl) Ea.nil rfl) rfl) (Nat.le_of_ble_eq_true rfl)))) (Eg.name 11 (by decide) sc_ways_to.nd rfl (.inl rfl) (.inr rfl)) rfl rfl rfl)
      (Sb.one (Ss.for_ PassesOwn.never rfl (Ei.seq rfl (Es.var 11 (by decide) rfl (.inl rfl) rfl rfl)) (Eg.name 12 (by decide) sc_ways_to.nd rfl (.inl rfl) (.inr rfl)) (Sb.one (Ss.ite (Et.cmp .eq rfl hu65 (Es.b (Es.bin .mod rfl (Es.b (Es.bin .sub rfl (Eb.var 12 rfl (.inl rfl) rfl rfl) (Es.b (Es.bin .mul rfl (Eb.var 3 rfl (.inl rfl) rfl rfl) (Eb.var 8 rfl (.inl rfl) rfl rfl))))) (Es.b (Es.bin .mul rfl (Es.b Es.int) (Eb.var 2 rfl (.inl rfl) rfl rfl))))) (Es.b Es.int) rfl) (Sb.cons (Ss.set (Es.bin .fdiv rfl (Es.b (Es.bin .sub rfl (Eb.var 12 rfl (.inl rfl) rfl rfl) (Es.b (Es.bin .mul rfl (Eb.var 3 rfl (.inl rfl) rfl rfl) (Eb.var 8 rfl (.inl rfl) rfl rfl))))) (Es.b (Es.bin .mul rfl (Es.b Es.int) (Eb.var 2 rfl (.inl rfl) rfl rfl)))) (Eg.name 13 (by decide) sc_ways_to.nd rfl (.inl rfl) (.inr rfl)) rfl rfl rfl)
          (Sb.one (Ss.ite (Et.cmp .eq rfl hu65 (Es.b (Es.call 2 (c_common_divisor) hG hr rfl A.g_common_divisor A.F_common_divisor.kp A.b_common_divisor pass0 (Ea.cons (Es.var 13 (by decide) rfl (.inl rfl) rfl rfl) (Ea.cons (Es.var 8 (by decide) rfl (.inl rfl) rfl rfl) Ea.nil rfl) rfl) rfl rfl rfl rfl)) (Es.b Es.int) rfl) (Sb.one (Ss.app 6 (by decide) rfl (.inl rfl) rfl rfl (Es.tup (Ea.cons (Es.var 13 (by decide) rfl (.inl rfl) rfl rfl) (Ea.cons (Es.var 8 (by decide) rfl (.inl rfl) rfl rfl) Ea.nil rfl) rfl) (Nat.le_of_ble_eq_true rfl)) rfl rfl rfl rfl rfl rfl)) Sb.nil))) Sb.nil)) (fun _ => rfl))))))) (fun _ => rfl))
    (Sb.one (Ss.ret (Es.biT .toTuple rfl cb_toTuple rfl A.z_tuple rfl (Eas.one (Es.b (Es.biB .sorted rfl cb_sorted rfl A.z_sorted rfl (Eas.one (Eb.var 6 rfl (.inl rfl) rfl rfl) rfl) (by decide) rfl rfl rfl)) rfl) (by decide) rfl rfl rfl)))))))))⟩

theorem ok_power {P : Program} {w : World} {mg : Str → Option Value} {base : Heap} (C : Ct) (A : Fa C.K mg) (a : Addr) (ns : List Int) (D : Dc C n_1 n_2 n_3 a ns) (j : Nat) : FnG P w C.K mg base CX0 (j + 4 + 1) A.f_power A.d_power p_power (spS C (FT (T ns) (fun _ => none) (j + 4 + 1) 21) 2) := by
  refine defOk A.F_power sc_power rfl 21 (m_power 7 18) (T ns) (fun _ => none) (j + 4) rfl rfl (by decide) (fun cdv A0 outer s H F0 hG hr => ?_)
  have D' : Dc (C.at H F0 (FT (T ns) (fun _ => none) (j + 4))) n_1 n_2 n_3 a ns := ⟨D.n1, D.n2, D.n3, D.sc⟩
  have hu := Pv.Room.u70 hr
  have hu65 := Pv.Room.u65 hr
  have hu1 := Pv.Room.u1 hr
  have hdk := dkn_of D'
  have hn3 := hn3_of D'
  have hn2 := hn2_of D'
  have c_is_form := @ok_is_form P w mg base (C.at H F0 (FT (T ns) (fun _ => none) (j + 4))) A a ns D' (j + 1)
  have c_power_of := @ok_power_of P w mg base (C.at H F0 (FT (T ns) (fun _ => none) (j + 4))) A a ns D' (j + 0)
  exact ⟨[],
    (Sb.cons (Ss.ite (Et.not (Et.truth rfl (Es.b (Es.call 7 (c_is_form) hG hr rfl A.g_is_form A.F_is_form.kp A.b_is_form pass0 (Ea.cons (Es.var 0 (by decide) rfl (.inl rfl) rfl rfl) Ea.nil rfl) rfl rfl rfl rfl)) (fun _ => rfl))) (Sb.one Ss.bad) Sb.nil)
    (Sb.one (Ss.ret (Es.call 18 (c_power_of) hG hr rfl A.g_power_of A.F_power_of.kp A.b_power_of pass0 (Ea.cons (Es.var 0 (by decide) rfl (.inl rfl) rfl rfl) (Ea.cons (Es.var 1 (by decide) rfl (.inl rfl) rfl rfl) Ea.nil rfl) rfl) rfl rfl rfl rfl))))⟩

theorem ok__law_is_product_right {P : Program} {w : World} {mg : Str → Option Value} {base : Heap} (C : Ct) (A : Fa C.K mg) (a : Addr) (ns : List Int) (D : Dc C n_1 n_2 n_3 a ns) (j : Nat) : FnG P w C.K mg base CX0 (j + 4 + 1) A.f__law_is_product_right A.d__law_is_product_right p__law_is_product_right (spS C (FT (T ns) (fun _ => none) (j + 4 + 1) 40) 2) := by
  refine defOk A.F__law_is_product_right sc__law_is_product_right rfl 40 (m__law_is_product_right 35 19 8) (T ns) (fun _ => none) (j + 4) rfl rfl (by decide) (fun cdv A0 outer s H F0 hG hr => ?_)
  have D' : Dc (C.at H F0 (FT (T ns) (fun _ => none) (j + 4))) n_1 n_2 n_3 a ns := ⟨D.n1, D.n2, D.n3, D.sc⟩
  have hu := Pv.Room.u70 hr
  have hu65 := Pv.Room.u65 hr
  have hu1 := Pv.Room.u1 hr
  have hdk := dkn_of D'
  have hn3 := hn3_of D'
  have hn2 := hn2_of D'
  have c_is_reduced := @ok_is_reduced P w mg base (C.at H F0 (FT (T ns) (fun _ => none) (j + 4))) A a ns D' (j + 0)
  have c_composed := @ok_composed P w mg base (C.at H F0 (FT (T ns) (fun _ => none) (j + 4))) A a ns D' (j + 0)
  have c__law_composed := @ok__law_composed P w mg base (C.at H F0 (FT (T ns) (fun _ => none) (j + 4))) A a ns D' (j + 1)
  exact ⟨[],
    (Sb.cons (Ss.set (Es.call 35 (c__law_composed) hG hr rfl A.g__law_composed A.F__law_composed.kp A.b__law_composed pass0 (Ea.cons (Es.var 0 (by decide) rfl (.inl rfl) rfl rfl) (Ea.cons (Es.var 1 (by decide) rfl (.inl rfl) rfl rfl) Ea.nil rfl) rfl) rfl rfl rfl rfl) (Eg.name 2 (by decide) sc__law_is_product_right.nd rfl (.inl rfl) (.inr rfl)) rfl rfl rfl)
    (Sb.cons (Ss.set (Ef.s (Ef.lst (Ea.cons (Es.call 19 (c_composed) hG hr rfl A.g_composed A.F_composed.kp A.b_composed pass0 (Ea.cons (Es.var 0 (by decide) rfl (.inl rfl) rfl rfl) (Ea.cons (Es.var 1 (by decide) rfl (.inl rfl) rfl rfl) Ea.nil rfl) rfl) rfl rfl rfl rfl) (Ea.cons (Es.call 19 (c_composed) hG hr rfl A.g_composed A.F_composed.kp A.b_composed pass0 (Ea.cons (Es.var 1 (by decide) rfl (.inl rfl) rfl rfl) (Ea.cons (Es.var 0 (by decide) rfl (.inl rfl) rfl rfl) Ea.nil rfl) rfl) rfl rfl rfl rfl) (Ea.cons (Es.callK0 19 (c_composed) hG hr rfl A.g_composed A.F_composed.kp A.kb_composed_0 pass0 (Ek.cons (Es.var 1 (by decide) rfl (.inl rfl) rfl rfl) (Ek.cons (Es.var 0 (by decide) rfl (.inl rfl) rfl rfl) Ek.nil)) rfl rfl rfl rfl rfl (fun l h => match l, h with | [_, _], _ => rfl)) Ea.nil rfl) rfl) rfl) (Nat.le_of_ble_eq_true rfl))) (Eg.name 3 (by decide) sc__law_is_product_right.nd rfl (.inl rfl) (.inr rfl)) rfl rfl rfl)
    (Sb.one (Ss.ret (Es.and (Es.b (Es.cmp .eq rfl hu65 (Es.b (Es.biB .repr rfl (cb_repr hG hu) rfl A.z_repr rfl (Eas.one (Eb.var 3 rfl (.inl rfl) rfl rfl) rfl) (by decide) rfl rfl rfl)) (Es.b (Es.biB .repr rfl (cb_repr hG hu) rfl A.z_repr rfl (Eas.one (Es.b (Es.bin .mul rfl (Ef.b (Ef.lst (Ea.cons (Es.var 2 (by decide) rfl (.inl rfl) rfl rfl) Ea.nil rfl) (Nat.le_of_ble_eq_true rfl))) (Es.b Es.int))) rfl) (by decide) rfl rfl rfl)) rfl)) (Es.one (Es.cmp .isN rfl hu65 (Es.b (Es.call 8 (c_is_reduced) hG hr rfl A.g_is_reduced A.F_is_reduced.kp A.b_is_reduced pass0 (Ea.cons (Es.var 2 (by decide) rfl (.inl rfl) rfl rfl) Ea.nil rfl) rfl rfl rfl rfl)) (Es.b Es.bl) rfl)))))))⟩

theorem ok__law_are_powers_right {P : Program} {w : World} {mg : Str → Option Value} {base : Heap} (C : Ct) (A : Fa C.K mg) (a : Addr) (ns : List Int) (D : Dc C n_1 n_2 n_3 a ns) (j : Nat) : FnG P w C.K mg base CX0 (j + 5 + 1) A.f__law_are_powers_right A.d__law_are_powers_right p__law_are_powers_right (spS C (FT (T ns) (fun _ => none) (j + 5 + 1) 41) 4) := by
  refine defOk A.F__law_are_powers_right sc__law_are_powers_right rfl 41 (m__law_are_powers_right 24 36 37 38 22 21) (T ns) (fun _ => none) (j + 5) rfl rfl (by decide) (fun cdv A0 outer s H F0 hG hr => ?_)
  have D' : Dc (C.at H F0 (FT (T ns) (fun _ => none) (j + 5))) n_1 n_2 n_3 a ns := ⟨D.n1, D.n2, D.n3, D.sc⟩
  have hu := Pv.Room.u70 hr
  have hu65 := Pv.Room.u65 hr
  have hu1 := Pv.Room.u1 hr
  have hdk := dkn_of D'
  have hn3 := hn3_of D'
  have hn2 := hn2_of D'
  have c_power := @ok_power P w mg base (C.at H F0 (FT (T ns) (fun _ => none) (j + 5))) A a ns D' (j + 0)
  have c_order_of_class := @ok_order_of_class P w mg base (C.at H F0 (FT (T ns) (fun _ => none) (j + 5))) A a ns D' (j + 1)
  have c__law_draw := @ok__law_draw P w mg base (C.at H F0 (FT (T ns) (fun _ => none) (j + 5))) A a ns D' (j + 4)
  have c__law_first := @ok__law_first P w mg base (C.at H F0 (FT (T ns) (fun _ => none) (j + 5))) A a ns D' (j + 4)
  have c__law_order := @ok__law_order P w mg base (C.at H F0 (FT (T ns) (fun _ => none) (j + 5))) A a ns D' (j + 1)
  have c__law_power := @ok__law_power P w mg base (C.at H F0 (FT (T ns) (fun _ => none) (j + 5))) A a ns D' (j + 1)
  exact ⟨[],
    (Sb.cons (Ss.par 4 5 rfl sc__law_are_powers_right.nd rfl rfl (by decide) (by decide) (by decide) rfl rfl (Ea.cons (Es.call 36 (c__law_first) hG hr rfl A.g__law_first A.F__law_first.kp A.b__law_first pass0 (Ea.cons (Es.var 2 (by decide) rfl (.inl rfl) rfl rfl) Ea.nil rfl) rfl rfl rfl rfl) (Ea.cons (Es.call 37 (c__law_order) hG hr rfl A.g__law_order A.F__law_order.kp A.b__law_order pass0 (Ea.cons (Es.var 1 (by decide) rfl (.inl rfl) rfl rfl) (Ea.cons (Es.var 2 (by decide) rfl (.inl rfl) rfl rfl) Ea.nil rfl) rfl) rfl rfl rfl rfl) Ea.nil rfl) rfl) rfl rfl)
    (Sb.cons (Ss.ite (Ew.t (Ew.or (Et.cmp .ne rfl hu65 (Es.b (Es.biB .repr rfl (cb_repr hG hu) rfl A.z_repr rfl (Eas.one (Ef.b (Ef.lst (Ea.cons (Es.call 22 (c_order_of_class) hG hr rfl A.g_order_of_class A.F_order_of_class.kp A.b_order_of_class pass0 (Ea.cons (Es.var 1 (by decide) rfl (.inl rfl) rfl rfl) Ea.nil rfl) rfl rfl rfl rfl) (Ea.cons (Es.callK0 22 (c_order_of_class) hG hr rfl A.g_order_of_class A.F_order_of_class.kp A.kb_order_of_class_0 pass0 (Ek.cons (Es.var 1 (by decide) rfl (.inl rfl) rfl rfl) Ek.nil) rfl rfl rfl rfl rfl (fun l h => match l, h with | [_], _ => rfl)) Ea.nil rfl) rfl) (Nat.le_of_ble_eq_true rfl))) rfl) (by decide) rfl rfl rfl)) (Es.b (Es.biB .repr rfl (cb_repr hG hu) rfl A.z_repr rfl (Eas.one (Es.b (Es.bin .mul rfl (Ef.b (Ef.lst (Ea.cons (Es.var 5 (by decide) rfl (.inl rfl) rfl rfl) Ea.nil rfl) (Nat.le_of_ble_eq_true rfl))) (Es.b Es.int))) rfl) (by decide) rfl rfl rfl)) rfl) (Ew.one (Et.cmp .ne rfl hu65 (Es.b (Es.bin .mod rfl (Es.b (Es.biT .toInt rfl cb_toInt rfl A.z_int rfl (Eas.one (Eb.var 3 rfl (.inl rfl) rfl rfl) rfl) (by decide) rfl rfl rfl)) (Eb.var 5 rfl (.inl rfl) rfl rfl))) (Es.b Es.int) rfl)))) (Sb.one (Ss.ret Es.bl)) Sb.nil)
    (Sb.cons (Ss.set (Es.bin .add rfl (Es.b (Es.bin .mul rfl (Es.b (Es.call 24 (c__law_draw) hG hr rfl A.g__law_draw A.F__law_draw.kp A.b__law_draw pass0 (Ea.cons (Es.var 0 (by decide) rfl (.inl rfl) rfl rfl) (Ea.cons (Es.bin .pow rfl (Es.b Es.int) (Es.b Es.int)) Ea.nil rfl) rfl) rfl rfl rfl rfl)) (Es.b (Es.bin .sub rfl (Es.b (Es.bin .pow rfl (Es.b Es.int) (Es.b Es.int))) (Es.b Es.int))))) (Es.b (Es.call 24 (c__law_draw) hG hr rfl A.g__law_draw A.F__law_draw.kp A.b__law_draw pass0 (Ea.cons (Es.var 0 (by decide) rfl (.inl rfl) rfl rfl) (Ea.cons (Es.bin .pow rfl (Es.b Es.int) (Es.b Es.int)) Ea.nil rfl) rfl) rfl rfl rfl rfl))) (Eg.name 6 (by decide) sc__law_are_powers_right.nd rfl (.inl rfl) (.inr rfl)) rfl rfl rfl)
    (Sb.cons (Ss.for_ PassesOwn.never rfl (Ei.seq rfl (Es.tup (Ea.cons (Es.bin .sub rfl (Es.b (Es.call 24 (c__law_draw) hG hr rfl A.g__law_draw A.F__law_draw.kp A.b__law_draw pass0 (Ea.cons (Es.var 0 (by decide) rfl (.inl rfl) rfl rfl) (Ea.cons Es.int Ea.nil rfl) rfl) rfl rfl rfl rfl)) (Es.b Es.int)) (Ea.cons (Es.var 6 (by decide) rfl (.inl rfl) rfl rfl) (Ea.cons (Es.bin .sub rfl (Es.b Es.int) (Eb.var 6 rfl (.inl rfl) rfl rfl)) (Ea.cons (Es.var 5 (by decide) rfl (.inl rfl) rfl rfl) (Ea.cons Es.int (Ea.cons (Es.bin .sub rfl (Eb.var 5 rfl (.inl rfl) rfl rfl) (Es.b Es.int)) (Ea.cons (Es.neg rfl (Es.b Es.int)) Ea.nil rfl) rfl) rfl) rfl) rfl) rfl) rfl) (Nat.le_of_ble_eq_true rfl))) (Eg.name 7 (by decide) sc__law_are_powers_right.nd rfl (.inl rfl) (.inr rfl)) (Sb.cons (Ss.set (Es.call 38 (c__law_power) hG hr rfl A.g__law_power A.F__law_power.kp A.b__law_power pass0 (Ea.cons (Es.var 1 (by decide) rfl (.inl rfl) rfl rfl) (Ea.cons (Es.bin .mod rfl (Es.b (Es.biT .toInt rfl cb_toInt rfl A.z_int rfl (Eas.one (Eb.var 7 rfl (.inl rfl) rfl rfl) rfl) (by decide) rfl rfl rfl)) (Eb.var 5 rfl (.inl rfl) rfl rfl)) (Ea.cons (Es.var 2 (by decide) rfl (.inl rfl) rfl rfl) Ea.nil rfl) rfl) rfl) rfl rfl rfl rfl) (Eg.name 8 (by decide) sc__law_are_powers_right.nd rfl (.inl rfl) (.inr rfl)) rfl rfl rfl)
      (Sb.one (Ss.ite (Et.cmp .ne rfl hu65 (Es.b (Es.biB .repr rfl (cb_repr hG hu) rfl A.z_repr rfl (Eas.one (Ef.b (Ef.lst (Ea.cons (Es.call 21 (c_power) hG hr rfl A.g_power A.F_power.kp A.b_power pass0 (Ea.cons (Es.var 1 (by decide) rfl (.inl rfl) rfl rfl) (Ea.cons (Es.var 7 (by decide) rfl (.inl rfl) rfl rfl) Ea.nil rfl) rfl) rfl rfl rfl rfl) (Ea.cons (Es.callK0 21 (c_power) hG hr rfl A.g_power A.F_power.kp A.kb_power_0 pass0 (Ek.cons (Es.var 7 (by decide) rfl (.inl rfl) rfl rfl) (Ek.cons (Es.var 1 (by decide) rfl (.inl rfl) rfl rfl) Ek.nil)) rfl rfl rfl rfl rfl (fun l h => match l, h with | [_, _], _ => rfl)) Ea.nil rfl) rfl) (Nat.le_of_ble_eq_true rfl))) rfl) (by decide) rfl rfl rfl)) (Es.b (Es.biB .repr rfl (cb_repr hG hu) rfl A.z_repr rfl (Eas.one (Ef.b (Ef.lst (Ea.cons (Es.var 8 (by decide) rfl (.inl rfl) rfl rfl) (Ea.cons (Es.var 8 (by decide) rfl (.inl rfl) rfl rfl) Ea.nil rfl) rfl) (Nat.le_of_ble_eq_true rfl))) rfl) (by decide) rfl rfl rfl)) rfl) (Sb.one (Ss.ret Es.bl)) Sb.nil))) (fun _ => rfl))
    (Sb.one (Ss.ret (Es.and (Es.b (Es.cmp .eq rfl hu65 (Es.b (Es.call 21 (c_power) hG hr rfl A.g_power A.F_power.kp A.b_power pass0 (Ea.cons (Es.var 1 (by decide) rfl (.inl rfl) rfl rfl) (Ea.cons (Es.var 5 (by decide) rfl (.inl rfl) rfl rfl) Ea.nil rfl) rfl) rfl rfl rfl rfl)) (Eb.var 4 rfl (.inl rfl) rfl rfl) rfl)) (Es.one (Es.or (Es.b (Es.cmp .eq rfl hu65 (Eb.var 5 rfl (.inl rfl) rfl rfl) (Es.b Es.int) rfl)) (Es.one (Es.cmp .ne rfl hu65 (Es.b (Es.call 21 (c_power) hG hr rfl A.g_power A.F_power.kp A.b_power pass0 (Ea.cons (Es.var 1 (by decide) rfl (.inl rfl) rfl rfl) (Ea.cons (Es.bin .sub rfl (Eb.var 5 rfl (.inl rfl) rfl rfl) (Es.b Es.int)) Ea.nil rfl) rfl) rfl rfl rfl rfl)) (Eb.var 4 rfl (.inl rfl) rfl rfl) rfl)))))))))))⟩

theorem ok_law {P : Program} {w : World} {mg : Str → Option Value} {base : Heap} (C : Ct) (A : Fa C.K mg) (a : Addr) (ns : List Int) (D : Dc C n_1 n_2 n_3 a ns) (j : Nat) : FnG P w C.K mg base CX0 (j + 6 + 1) A.f_law A.d_law p_law (spS C (FT (T ns) (fun _ => none) (j + 6 + 1) 42) 1) := by
  refine defOk A.F_law sc_law rfl 42 (m_law 41 28 23 27 24 36 26 40 29 31 25 32 39 15 19 13 20 12) (T ns) (fun _ => none) (j + 6) rfl rfl (by decide) (fun cdv A0 outer s H F0 hG hr => ?_)
  have D' : Dc (C.at H F0 (FT (T ns) (fun _ => none) (j + 6))) n_1 n_2 n_3 a ns := ⟨D.n1, D.n2, D.n3, D.sc⟩
  have hu := Pv.Room.u70 hr
  have hu65 := Pv.Room.u65 hr
  have hu1 := Pv.Room.u1 hr
  have hdk := dkn_of D'
  have hn3 := hn3_of D'
  have hn2 := hn2_of D'
  have c_ways_to := @ok_ways_to P w mg base (C.at H F0 (FT (T ns) (fun _ => none) (j + 6))) A a ns D' (j + 1)
  have c_first_class := @ok_first_class P w mg base (C.at H F0 (FT (T ns) (fun _ => none) (j + 6))) A a ns D' (j + 5)
  have c_class_number := @ok_class_number P w mg base (C.at H F0 (FT (T ns) (fun _ => none) (j + 6))) A a ns D' (j + 3)
  have c_composed := @ok_composed P w mg base (C.at H F0 (FT (T ns) (fun _ => none) (j + 6))) A a ns D' (j + 2)
  have c_inverse_class := @ok_inverse_class P w mg base (C.at H F0 (FT (T ns) (fun _ => none) (j + 6))) A a ns D' (j + 2)
  have c__law_deck := @ok__law_deck P w mg base (C.at H F0 (FT (T ns) (fun _ => none) (j + 6))) A a ns D' (j + 5)
  have c__law_draw := @ok__law_draw P w mg base (C.at H F0 (FT (T ns) (fun _ => none) (j + 6))) A a ns D' (j + 5)
  have c__law_pick := @ok__law_pick P w mg base (C.at H F0 (FT (T ns) (fun _ => none) (j + 6))) A a ns D' (j + 4)
  have c__law_gcd := @ok__law_gcd P w mg base (C.at H F0 (FT (T ns) (fun _ => none) (j + 6))) A a ns D' (j + 5)
  have c__law_discriminant := @ok__law_discriminant P w mg base (C.at H F0 (FT (T ns) (fun _ => none) (j + 6))) A a ns D' (j + 3)
  have c__law_classes := @ok__law_classes P w mg base (C.at H F0 (FT (T ns) (fun _ => none) (j + 6))) A a ns D' (j + 4)
  have c__law_led := @ok__law_led P w mg base (C.at H F0 (FT (T ns) (fun _ => none) (j + 6))) A a ns D' (j + 5)
  have c__law_matrix := @ok__law_matrix P w mg base (C.at H F0 (FT (T ns) (fun _ => none) (j + 6))) A a ns D' (j + 4)
  have c__law_reduced := @ok__law_reduced P w mg base (C.at H F0 (FT (T ns) (fun _ => none) (j + 6))) A a ns D' (j + 4)
  have c__law_first := @ok__law_first P w mg base (C.at H F0 (FT (T ns) (fun _ => none) (j + 6))) A a ns D' (j + 5)
  have c__law_value := @ok__law_value P w mg base (C.at H F0 (FT (T ns) (fun _ => none) (j + 6))) A a ns D' (j + 4)
  have c__law_is_product_right := @ok__law_is_product_right P w mg base (C.at H F0 (FT (T ns) (fun _ => none) (j + 6))) A a ns D' (j + 1)
  have c__law_are_powers_right := @ok__law_are_powers_right P w mg base (C.at H F0 (FT (T ns) (fun _ => none) (j + 6))) A a ns D' (j + 0)
  exact ⟨[],
    (Sb.cons (Ss.set (Es.call 23 (c__law_deck) hG hr rfl A.g__law_deck A.F__law_deck.kp A.b__law_deck pass0 (Ea.cons (Es.var 0 (by decide) rfl (.inl rfl) rfl rfl) Ea.nil rfl) rfl rfl rfl rfl) (Eg.name 1 (by decide) sc_law.nd rfl (.inr rfl) (.inl rfl)) rfl rfl rfl)
    (Sb.cons (Ss.set (Es.call 27 (c__law_discriminant) hG hr rfl A.g__law_discriminant A.F__law_discriminant.kp A.b__law_discriminant pass0 (Ea.cons (Es.var 1 (by decide) rfl (.inr (.inl rfl)) rfl rfl) Ea.nil rfl) rfl rfl rfl rfl) (Eg.name 2 (by decide) sc_law.nd rfl (.inl rfl) (.inr rfl)) rfl rfl rfl)
    (Sb.cons (Ss.set (Es.call 28 (c__law_classes) hG hr rfl A.g__law_classes A.F__law_classes.kp A.b__law_classes pass0 (Ea.cons (Es.var 2 (by decide) rfl (.inl rfl) rfl rfl) Ea.nil rfl) rfl rfl rfl rfl) (Eg.name 3 (by decide) sc_law.nd rfl (.inr rfl) (.inl rfl)) rfl rfl rfl)
    (Sb.cons (Ss.post (Ow1 := [4]) (Ow' := []) (Ss.ownLc 4 rfl sc_law.nd rfl rfl rfl (Ei.rng1 rfl A.z_range (Ea.cons Es.int Ea.nil rfl) rfl) bk_law_0 rfl (fun _ _ _ _ _ => (Eg.name 15 (by decide) sc_law.nd rfl (.inl rfl) (.inr rfl))) (fun _ _ _ _ _ => Ec.none) (fun _ _ _ _ _ => (Es.call 25 (c__law_pick) hG hr rfl A.g__law_pick A.F__law_pick.kp A.b__law_pick pass0 (Ea.cons (Es.var 1 (by decide) rfl (.inr (.inl rfl)) rfl rfl) (Ea.cons (Es.var 3 (by decide) rfl (.inr (.inl rfl)) rfl rfl) Ea.nil rfl) rfl) rfl rfl rfl rfl)) (fun _ => rfl) (by decide)) (by decide))
    (Sb.cons (Ss.set (Ef.s (Ef.comp rfl sc_law.nd (Ei.seq rfl (Es.var 4 (by decide) rfl (.inl rfl) rfl rfl)) bk_law_1 rfl (fun _ _ _ _ _ => (Eg.name 16 (by decide) sc_law.nd rfl (.inl rfl) (.inr rfl))) (fun _ _ _ _ _ => Ec.none) (fun _ _ _ _ _ => (Es.call 29 (c__law_led) hG hr rfl A.g__law_led A.F__law_led.kp A.b__law_led pass0 (Ea.cons (Es.var 16 (by decide) rfl (.inl rfl) rfl rfl) (Ea.cons (Es.call 31 (c__law_matrix) hG hr rfl A.g__law_matrix A.F__law_matrix.kp A.b__law_matrix pass0 (Ea.cons (Es.var 1 (by decide) rfl (.inr (.inl rfl)) rfl rfl) (Ea.cons Es.int (Ea.cons Es.int Ea.nil rfl) rfl) rfl) rfl rfl rfl rfl) Ea.nil rfl) rfl) rfl rfl rfl rfl)) (fun _ => rfl) (by decide))) (Eg.tup rfl rfl (Egs.cons (Eg.name 5 (by decide) sc_law.nd rfl (.inl rfl) (.inr rfl)) (Egs.cons (Eg.name 6 (by decide) sc_law.nd rfl (.inl rfl) (.inr rfl)) (Egs.cons (Eg.name 7 (by decide) sc_law.nd rfl (.inl rfl) (.inr rfl)) Egs.nil rfl) rfl) rfl) (by decide) rfl rfl) rfl rfl rfl)
    (Sb.cons (Ss.ite (Et.cmp .eq rfl hu65 (Es.b (Es.call 24 (c__law_draw) hG hr rfl A.g__law_draw A.F__law_draw.kp A.b__law_draw pass0 (Ea.cons (Es.var 1 (by decide) rfl (.inr (.inl rfl)) rfl rfl) (Ea.cons Es.int Ea.nil rfl) rfl) rfl rfl rfl rfl)) (Es.b Es.int) rfl) (Sb.cons (Ss.set (Es.call 29 (c__law_led) hG hr rfl A.g__law_led A.F__law_led.kp A.b__law_led pass0 (Ea.cons (Es.idx rfl (Eb.var 4 rfl (.inl rfl) rfl rfl) (Es.b Es.int) (by intro _ _; rfl)) (Ea.cons (Es.tup (Ea.cons Es.int (Ea.cons (Es.call 25 (c__law_pick) hG hr rfl A.g__law_pick A.F__law_pick.kp A.b__law_pick pass0 (Ea.cons (Es.var 1 (by decide) rfl (.inr (.inl rfl)) rfl rfl) (Ea.cons (Es.tup (Ea.cons (Es.bin .pow rfl (Es.b Es.int) (Es.b Es.int)) (Ea.cons (Es.bin .sub rfl (Es.b Es.int) (Es.b (Es.bin .pow rfl (Es.b Es.int) (Es.b Es.int)))) Ea.nil rfl) rfl) (Nat.le_of_ble_eq_true rfl)) Ea.nil rfl) rfl) rfl rfl rfl rfl) (Ea.cons Es.int (Ea.cons Es.int Ea.nil rfl) rfl) rfl) rfl) (Nat.le_of_ble_eq_true rfl)) Ea.nil rfl) rfl) rfl rfl rfl rfl) (Eg.name 5 (by decide) sc_law.nd rfl (.inl rfl) (.inr rfl)) rfl rfl rfl)
      (Sb.one (Ss.set (Es.call 29 (c__law_led) hG hr rfl A.g__law_led A.F__law_led.kp A.b__law_led pass0 (Ea.cons (Es.var 5 (by decide) rfl (.inl rfl) rfl rfl) (Ea.cons (Es.call 25 (c__law_pick) hG hr rfl A.g__law_pick A.F__law_pick.kp A.b__law_pick pass0 (Ea.cons (Es.var 1 (by decide) rfl (.inr (.inl rfl)) rfl rfl) (Ea.cons (Es.tup (Ea.cons (Es.tup (Ea.cons Es.int (Ea.cons Es.int (Ea.cons Es.int (Ea.cons Es.int Ea.nil rfl) rfl) rfl) rfl) (Nat.le_of_ble_eq_true rfl)) (Ea.cons (Es.tup (Ea.cons Es.int (Ea.cons (Es.neg rfl (Es.b Es.int)) (Ea.cons Es.int (Ea.cons Es.int Ea.nil rfl) rfl) rfl) rfl) (Nat.le_of_ble_eq_true rfl)) (Ea.cons (Es.tup (Ea.cons Es.int (Ea.cons Es.int (Ea.cons Es.int (Ea.cons Es.int Ea.nil rfl) rfl) rfl) rfl) (Nat.le_of_ble_eq_true rfl)) Ea.nil rfl) rfl) rfl) (Nat.le_of_ble_eq_true rfl)) Ea.nil rfl) rfl) rfl rfl rfl rfl) Ea.nil rfl) rfl) rfl rfl rfl rfl) (Eg.name 5 (by decide) sc_law.nd rfl (.inl rfl) (.inr rfl)) rfl rfl rfl))) Sb.nil)
    (Sb.cons (Ss.ite (Ew.t (Ew.or (Et.not (Et.truth rfl (Es.b (Es.call 40 (c__law_is_product_right) hG hr rfl A.g__law_is_product_right A.F__law_is_product_right.kp A.b__law_is_product_right pass0 (Ea.cons (Es.var 5 (by decide) rfl (.inl rfl) rfl rfl) (Ea.cons (Es.var 6 (by decide) rfl (.inl rfl) rfl rfl) Ea.nil rfl) rfl) rfl rfl rfl rfl)) (fun _ => rfl))) (Ew.one (Et.not (Et.truth rfl (Es.b (Es.call 40 (c__law_is_product_right) hG hr rfl A.g__law_is_product_right A.F__law_is_product_right.kp A.b__law_is_product_right pass0 (Ea.cons (Es.idx rfl (Eb.var 4 rfl (.inl rfl) rfl rfl) (Es.b Es.int) (by intro _ _; rfl)) (Ea.cons (Es.var 7 (by decide) rfl (.inl rfl) rfl rfl) Ea.nil rfl) rfl) rfl rfl rfl rfl)) (fun _ => rfl)))))) (Sb.one (Ss.ret Es.bl)) Sb.nil)
    (Sb.cons (Ss.ite (Ew.t (Ew.or (Et.cmp .ne rfl hu65 (Es.b (Es.call 19 (c_composed) hG hr rfl A.g_composed A.F_composed.kp A.b_composed pass0 (Ea.cons (Es.idx rfl (Eb.var 4 rfl (.inl rfl) rfl rfl) (Es.b Es.int) (by intro _ _; rfl)) (Ea.cons (Es.idx rfl (Eb.var 4 rfl (.inl rfl) rfl rfl) (Es.b Es.int) (by intro _ _; rfl)) Ea.nil rfl) rfl) rfl rfl rfl rfl)) (Es.b (Es.call 19 (c_composed) hG hr rfl A.g_composed A.F_composed.kp A.b_composed pass0 (Ea.cons (Es.var 5 (by decide) rfl (.inl rfl) rfl rfl) (Ea.cons (Es.var 6 (by decide) rfl (.inl rfl) rfl rfl) Ea.nil rfl) rfl) rfl rfl rfl rfl)) rfl) (Ew.one (Et.not (Et.truth rfl (Es.b (Es.call 40 (c__law_is_product_right) hG hr rfl A.g__law_is_product_right A.F__law_is_product_right.kp A.b__law_is_product_right pass0 (Ea.cons (Es.var 5 (by decide) rfl (.inl rfl) rfl rfl) (Ea.cons (Es.var 5 (by decide) rfl (.inl rfl) rfl rfl) Ea.nil rfl) rfl) rfl rfl rfl rfl)) (fun _ => rfl)))))) (Sb.one (Ss.ret Es.bl)) Sb.nil)
    (Sb.cons (Ss.ite (Et.cmp .ne rfl hu65 (Es.b (Es.call 19 (c_composed) hG hr rfl A.g_composed A.F_composed.kp A.b_composed pass0 (Ea.cons (Es.call 19 (c_composed) hG hr rfl A.g_composed A.F_composed.kp A.b_composed pass0 (Ea.cons (Es.var 5 (by decide) rfl (.inl rfl) rfl rfl) (Ea.cons (Es.var 6 (by decide) rfl (.inl rfl) rfl rfl) Ea.nil rfl) rfl) rfl rfl rfl rfl) (Ea.cons (Es.var 7 (by decide) rfl (.inl rfl) rfl rfl) Ea.nil rfl) rfl) rfl rfl rfl rfl)) (Es.b (Es.call 19 (c_composed) hG hr rfl A.g_composed A.F_composed.kp A.b_composed pass0 (Ea.cons (Es.var 5 (by decide) rfl (.inl rfl) rfl rfl) (Ea.cons (Es.call 19 (c_composed) hG hr rfl A.g_composed A.F_composed.kp A.b_composed pass0 (Ea.cons (Es.var 6 (by decide) rfl (.inl rfl) rfl rfl) (Ea.cons (Es.var 7 (by decide) rfl (.inl rfl) rfl rfl) Ea.nil rfl) rfl) rfl rfl rfl rfl) Ea.nil rfl) rfl) rfl rfl rfl rfl)) rfl) (Sb.one (Ss.ret Es.bl)) Sb.nil)
    (Sb.cons (Ss.par 8 9 rfl sc_law.nd rfl rfl (by decide) (by decide) (by decide) rfl rfl (Ea.cons (Es.call 13 (c_first_class) hG hr rfl A.g_first_class A.F_first_class.kp A.b_first_class pass0 (Ea.cons (Es.var 2 (by decide) rfl (.inl rfl) rfl rfl) Ea.nil rfl) rfl rfl rfl rfl) (Ea.cons (Es.idx rfl (Es.b (Es.call 32 (c__law_reduced) hG hr rfl A.g__law_reduced A.F__law_reduced.kp A.b__law_reduced pass0 (Ea.cons (Es.tup (Ea.cons (Es.idx rfl (Eb.var 5 rfl (.inl rfl) rfl rfl) (Es.b Es.int) (by intro _ _; rfl)) (Ea.cons (Es.bin .sub rfl (Es.b Es.int) (Es.b (Es.idx rfl (Eb.var 5 rfl (.inl rfl) rfl rfl) (Es.b Es.int) (by intro _ _; rfl)))) (Ea.cons (Es.idx rfl (Eb.var 5 rfl (.inl rfl) rfl rfl) (Es.b Es.int) (by intro _ _; rfl)) Ea.nil rfl) rfl) rfl) (Nat.le_of_ble_eq_true rfl)) Ea.nil rfl) rfl rfl rfl rfl)) (Es.b Es.int) (by intro _ _; rfl)) Ea.nil rfl) rfl) rfl rfl)
    (Sb.cons (Ss.ite (Ew.t (Ew.or (Et.cmp .ne rfl hu65 (Es.b (Es.call 19 (c_composed) hG hr rfl A.g_composed A.F_composed.kp A.b_composed pass0 (Ea.cons (Es.var 5 (by decide) rfl (.inl rfl) rfl rfl) (Ea.cons (Es.var 8 (by decide) rfl (.inl rfl) rfl rfl) Ea.nil rfl) rfl) rfl rfl rfl rfl)) (Es.b (Es.idx rfl (Eb.var 4 rfl (.inl rfl) rfl rfl) (Es.b Es.int) (by intro _ _; rfl))) rfl) (Ew.or (Et.cmp .ne rfl hu65 (Es.b (Es.call 19 (c_composed) hG hr rfl A.g_composed A.F_composed.kp A.b_composed pass0 (Ea.cons (Es.var 8 (by decide) rfl (.inl rfl) rfl rfl) (Ea.cons (Es.var 6 (by decide) rfl (.inl rfl) rfl rfl) Ea.nil rfl) rfl) rfl rfl rfl rfl)) (Es.b (Es.idx rfl (Eb.var 4 rfl (.inl rfl) rfl rfl) (Es.b Es.int) (by intro _ _; rfl))) rfl) (Ew.one (Et.cmp .ne rfl hu65 (Eb.var 8 rfl (.inl rfl) rfl rfl) (Es.b (Es.call 36 (c__law_first) hG hr rfl A.g__law_first A.F__law_first.kp A.b__law_first pass0 (Ea.cons (Es.var 2 (by decide) rfl (.inl rfl) rfl rfl) Ea.nil rfl) rfl rfl rfl rfl)) rfl))))) (Sb.one (Ss.ret Es.bl)) Sb.nil)
    (Sb.cons (Ss.ite (Ew.t (Ew.or (Et.cmp .ne rfl hu65 (Es.b (Es.biB .repr rfl (cb_repr hG hu) rfl A.z_repr rfl (Eas.one (Ef.b (Ef.lst (Ea.cons (Es.call 20 (c_inverse_class) hG hr rfl A.g_inverse_class A.F_inverse_class.kp A.b_inverse_class pass0 (Ea.cons (Es.var 5 (by decide) rfl (.inl rfl) rfl rfl) Ea.nil rfl) rfl rfl rfl rfl) (Ea.cons (Es.callK0 20 (c_inverse_class) hG hr rfl A.g_inverse_class A.F_inverse_class.kp A.kb_inverse_class_0 pass0 (Ek.cons (Es.var 5 (by decide) rfl (.inl rfl) rfl rfl) Ek.nil) rfl rfl rfl rfl rfl (fun l h => match l, h with | [_], _ => rfl)) Ea.nil rfl) rfl) (Nat.le_of_ble_eq_true rfl))) rfl) (by decide) rfl rfl rfl)) (Es.b (Es.biB .repr rfl (cb_repr hG hu) rfl A.z_repr rfl (Eas.one (Ef.b (Ef.lst (Ea.cons (Es.var 9 (by decide) rfl (.inl rfl) rfl rfl) (Ea.cons (Es.var 9 (by decide) rfl (.inl rfl) rfl rfl) Ea.nil rfl) rfl) (Nat.le_of_ble_eq_true rfl))) rfl) (by decide) rfl rfl rfl)) rfl) (Ew.one (Et.cmp .ne rfl hu65 (Es.b (Es.call 19 (c_composed) hG hr rfl A.g_composed A.F_composed.kp A.b_composed pass0 (Ea.cons (Es.var 9 (by decide) rfl (.inl rfl) rfl rfl) (Ea.cons (Es.var 5 (by decide) rfl (.inl rfl) rfl rfl) Ea.nil rfl) rfl) rfl rfl rfl rfl)) (Eb.var 8 rfl (.inl rfl) rfl rfl) rfl)))) (Sb.one (Ss.ret Es.bl)) Sb.nil)
    (Sb.cons (Ss.ite (Ew.t (Ew.or (Et.cmp .ne rfl hu65 (Es.b (Es.call 15 (c_class_number) hG hr rfl A.g_class_number A.F_class_number.kp A.b_class_number pass0 (Ea.cons (Es.var 2 (by decide) rfl (.inl rfl) rfl rfl) Ea.nil rfl) rfl rfl rfl rfl)) (Es.b (Es.biB .len rfl cb_len rfl A.z_len rfl (Eas.one (Eb.var 3 rfl (.inr (.inl rfl)) rfl rfl) rfl) (by decide) rfl rfl rfl)) rfl) (Ew.one (Et.not (Et.truth rfl (Es.b (Es.call 41 (c__law_are_powers_right) hG hr rfl A.g__law_are_powers_right A.F__law_are_powers_right.kp A.b__law_are_powers_right pass0 (Ea.cons (Es.var 1 (by decide) rfl (.inr (.inl rfl)) rfl rfl) (Ea.cons (Es.var 5 (by decide) rfl (.inl rfl) rfl rfl) (Ea.cons (Es.var 2 (by decide) rfl (.inl rfl) rfl rfl) (Ea.cons (Es.biB .len rfl cb_len rfl A.z_len rfl (Eas.one (Eb.var 3 rfl (.inr (.inl rfl)) rfl rfl) rfl) (by decide) rfl rfl rfl) Ea.nil rfl) rfl) rfl) rfl) rfl rfl rfl rfl)) (fun _ => rfl)))))) (Sb.one (Ss.ret Es.bl)) Sb.nil)
    (Sb.cons (Ss.par 10 11 rfl sc_law.nd rfl rfl (by decide) (by decide) (by decide) rfl rfl (Ea.cons (Ef.s (Ef.lst (Ea.cons (Es.idx rfl (Es.b (Es.idx rfl (Eb.var 4 rfl (.inl rfl) rfl rfl) (Es.b Es.int) (by intro _ _; rfl))) (Es.b Es.int) (by intro _ _; rfl)) (Ea.cons (Es.idx rfl (Es.b (Es.idx rfl (Eb.var 4 rfl (.inl rfl) rfl rfl) (Es.b Es.int) (by intro _ _; rfl))) (Es.b Es.int) (by intro _ _; rfl)) Ea.nil rfl) rfl) (Nat.le_of_ble_eq_true rfl))) (Ea.cons (Ef.s (Ef.lst (Ea.cons (Es.idx rfl (Es.b (Es.idx rfl (Eb.var 4 rfl (.inl rfl) rfl rfl) (Es.b Es.int) (by intro _ _; rfl))) (Es.b Es.int) (by intro _ _; rfl)) (Ea.cons (Es.idx rfl (Es.b (Es.idx rfl (Eb.var 4 rfl (.inl rfl) rfl rfl) (Es.b Es.int) (by intro _ _; rfl))) (Es.b Es.int) (by intro _ _; rfl)) Ea.nil rfl) rfl) (Nat.le_of_ble_eq_true rfl))) Ea.nil rfl) rfl) rfl rfl)
    (Sb.cons (Ss.par 10 11 rfl sc_law.nd rfl rfl (by decide) (by decide) (by decide) rfl rfl (Ea.cons (Es.bin .add rfl (Eb.var 10 rfl (.inl rfl) rfl rfl) (Ef.b (Ef.lst (Ea.cons (Es.call 39 (c__law_value) hG hr rfl A.g__law_value A.F__law_value.kp A.b__law_value pass0 (Ea.cons (Es.var 1 (by decide) rfl (.inr (.inl rfl)) rfl rfl) (Ea.cons (Es.idx rfl (Eb.var 4 rfl (.inl rfl) rfl rfl) (Es.b Es.int) (by intro _ _; rfl)) Ea.nil rfl) rfl) rfl rfl rfl rfl) Ea.nil rfl) (Nat.le_of_ble_eq_true rfl)))) (Ea.cons (Es.bin .add rfl (Eb.var 11 rfl (.inl rfl) rfl rfl) (Ef.b (Ef.lst (Ea.cons (Es.call 39 (c__law_value) hG hr rfl A.g__law_value A.F__law_value.kp A.b__law_value pass0 (Ea.cons (Es.var 1 (by decide) rfl (.inr (.inl rfl)) rfl rfl) (Ea.cons (Es.idx rfl (Eb.var 4 rfl (.inl rfl) rfl rfl) (Es.b Es.int) (by intro _ _; rfl)) Ea.nil rfl) rfl) rfl rfl rfl rfl) Ea.nil rfl) (Nat.le_of_ble_eq_true rfl)))) Ea.nil rfl) rfl) rfl rfl)
    (Sb.cons (Ss.set (Es.call 19 (c_composed) hG hr rfl A.g_composed A.F_composed.kp A.b_composed pass0 (Ea.cons (Es.idx rfl (Eb.var 4 rfl (.inl rfl) rfl rfl) (Es.b Es.int) (by intro _ _; rfl)) (Ea.cons (Es.idx rfl (Eb.var 4 rfl (.inl rfl) rfl rfl) (Es.b Es.int) (by intro _ _; rfl)) Ea.nil rfl) rfl) rfl rfl rfl rfl) (Eg.name 12 (by decide) sc_law.nd rfl (.inl rfl) (.inr rfl)) rfl rfl rfl)
    (Sb.cons (Ss.for_ PassesOwn.never rfl (Ei.seq rfl (Es.var 10 (by decide) rfl (.inl rfl) rfl rfl)) (Eg.name 13 (by decide) sc_law.nd rfl (.inr rfl) (.inl rfl)) (Sb.one (Ss.for_ PassesOwn.never rfl (Ei.seq rfl (Ef.s (Ef.comp rfl sc_law.nd (Ei.seq rfl (Es.var 11 (by decide) rfl (.inl rfl) rfl rfl)) bk_law_2 rfl (fun _ _ _ _ _ => (Eg.name 14 (by decide) sc_law.nd rfl (.inl rfl) (.inr rfl))) (fun _ _ _ _ _ => (Ec.one (Ew.t (Ew.and (Et.cmp .eq rfl hu65 (Es.b (Es.call 26 (c__law_gcd) hG hr rfl A.g__law_gcd A.F__law_gcd.kp A.b__law_gcd pass0 (Ea.cons (Es.var 13 (by decide) rfl (.inr (.inl rfl)) rfl rfl) (Ea.cons (Es.var 14 (by decide) rfl (.inl rfl) rfl rfl) Ea.nil rfl) rfl) rfl rfl rfl rfl)) (Es.b Es.int) rfl) (Ew.one (Et.cmp .le rfl hu65 (Es.b (Es.bin .mul rfl (Eb.var 13 rfl (.inr (.inl rfl)) rfl rfl) (Eb.var 14 rfl (.inl rfl) rfl rfl))) (Es.b Es.int) rfl)))))) (fun _ _ _ _ _ => (Es.var 14 (by decide) rfl (.inl rfl) rfl rfl)) (fun _ => rfl) (by decide)))) (Eg.name 14 (by decide) sc_law.nd rfl (.inl rfl) (.inr rfl)) (Sb.one (Ss.ite (Et.cmp .eq rfl hu65 (Es.b (Es.call 12 (c_ways_to) hG hr rfl A.g_ways_to A.F_ways_to.kp A.b_ways_to pass0 (Ea.cons (Es.var 12 (by decide) rfl (.inl rfl) rfl rfl) (Ea.cons (Es.bin .mul rfl (Eb.var 13 rfl (.inr (.inl rfl)) rfl rfl) (Eb.var 14 rfl (.inl rfl) rfl rfl)) Ea.nil rfl) rfl) rfl rfl rfl rfl)) (Es.b (Es.tup Ea.nil (Nat.le_of_ble_eq_true rfl))) rfl) (Sb.one (Ss.ret Es.bl)) Sb.nil)) (fun _ => rfl))) (fun _ => rfl))
    (Sb.one (Ss.ret Es.bl)))))))))))))))))))⟩

end Xk40
end

section
/-! PvN: plain laws of the small language: loops, texts, decks. -/
set_option autoImplicit false
namespace Pv
open PySem

theorem FT_at {T : List Fn} {d f : Nat} {as : List D} {g : G} {fn : Fn} (h : T[f]? = some fn) (hl : as.length = fn.np) :
    FT T (fun _ => none) (d + 1) f as g = fin (run (FT T (fun _ => none) d) fuel fn.body (as.map some ++ List.replicate (fn.nl - fn.np) none) g) := by
  show (match (fun _ => none : Prims) f with
    | some p => p as g
    | none => match T[f]? with
      | some fn => if as.length = fn.np then fin (run (FT T (fun _ => none) d) fuel fn.body (as.map some ++ List.replicate (fn.nl - fn.np) none) g) else .no
      | none => .no) = _
  simp only [h, if_pos hl]

/-! ### steps -/
section
variable {Φ : Fns} {fu : Nat} {a b : Sm} {σ σ' : Sl} {g g' : G} {v : D} {t e : Ex} {i : Nat}
theorem run_seq_nx (h : Pv.run Φ fu a σ g = .ok (.nx σ') g') : Pv.run Φ fu (.seq a b) σ g = Pv.run Φ fu b σ' g' := by
  conv => lhs; unfold Pv.run
  rw [h]; rfl
theorem run_seq_rt (h : Pv.run Φ fu a σ g = .ok (.rt v) g') : Pv.run Φ fu (.seq a b) σ g = .ok (.rt v) g' := by
  conv => lhs; unfold Pv.run
  rw [h]; rfl
theorem run_ite {k : Bool} (h : ev Φ t σ g = .ok (.bool k) g') : Pv.run Φ fu (.ite t a b) σ g = if k then Pv.run Φ fu a σ g' else Pv.run Φ fu b σ g' := by
  conv => lhs; unfold Pv.run
  rw [h]; cases k <;> rfl
theorem run_set (h : ev Φ e σ g = .ok v g') : Pv.run Φ fu (.set [i] e) σ g = .ok (.nx (σ.set i (some v))) g' := by
  conv => lhs; unfold Pv.run
  rw [h]; rfl
theorem run_ret (h : ev Φ e σ g = .ok v g') : Pv.run Φ fu (.ret e) σ g = .ok (.rt v) g' := by
  conv => lhs; unfold Pv.run
  rw [h]; rfl
theorem run_skip : Pv.run Φ fu .skip σ g = .ok (.nx σ) g := rfl
theorem run_for {ts : List Nat} {k : Ik} {as : Exs} {vs xs : List D} (h : evs Φ as σ g = .ok vs g') (hx : itV k vs = some xs) :
    Pv.run Φ fu (.forr ts k as b) σ g = forL (fun x σ g => (lift (setT ts x σ) g).bind fun σ g => Pv.run Φ fu b σ g) xs σ g' := by
  conv => lhs; unfold Pv.run
  rw [h]
  show (lift (itV k vs) g').bind _ = _
  rw [hx]; rfl
theorem ev_comp {ts : List Nat} {k : Ik} {as : Exs} {cond elt : Ex} {vs xs : List D} (h : evs Φ as σ g = .ok vs g') (hx : itV k vs = some xs) (hl : xs.length ≤ lineN) {ys : List D} {g2 : G}
    (hc : compL (fun x g => (lift (setT ts x (wipeS σ ts)) g).bind fun σ' g => (ev Φ cond σ' g).bind fun b g => match b with
        | .bool true => (ev Φ elt σ' g).bind fun v g => .ok (some v) g
        | .bool false => .ok none g
        | _ => .no) xs [] g' = .ok ys g2) : ev Φ (.comp ts k as cond elt) σ g = .ok (.list ys) g2 := by
  conv => lhs; unfold ev
  rw [h]
  show (lift (itV k vs) g').bind _ = _
  rw [hx]
  show (if decide (xs.length ≤ lineN) = true then _ else Res.no) = _
  rw [if_pos (decide_eq_true hl)]
  exact (congrArg (fun r => r.bind fun ys g => Res.ok (PyData.list ys) g) hc).trans rfl
/-- a loop with a test: one turn -/
theorem whileL_step {c : Sl → G → Res D} {bd : Sl → G → Res Fl} {n : Nat} {g2 : G} (h1 : c σ g = .ok (.bool true) g') (h2 : bd σ g' = .ok (.nx σ') g2) : whileL c bd (n + 1) σ g = whileL c bd n σ' g2 := by
  show (c σ g).bind _ = _
  rw [h1]
  show (bd σ g').bind _ = _
  rw [h2]; rfl
theorem whileL_end {c : Sl → G → Res D} {bd : Sl → G → Res Fl} {n : Nat} (h1 : c σ g = .ok (.bool false) g') : whileL c bd (n + 1) σ g = .ok (.nx σ) g' := by
  show (c σ g).bind _ = _
  rw [h1]; rfl
end
/-! ### loops -/
/-- a loop that ends by a return at the first item that is found -/
theorem forL_find {α : Type} {em : α → D} {f : D → Sl → G → Res Fl} {c : α → Bool} {r : α → D} {S : Option D → Sl} {g : G} : ∀ {xs : List α}, (∀ x ∈ xs, ∀ y, f (em x) (S y) g = if c x then .ok (.rt (r x)) g else .ok (.nx (S (some (em x)))) g) → ∀ y,
    ∃ y', forL f (xs.map em) (S y) g = match xs.find? c with
      | some x => .ok (.rt (r x)) g
      | none => .ok (.nx (S y')) g
  | [], _, y => ⟨y, rfl⟩
  | x :: xs, h, y => by
    obtain ⟨y', e⟩ := forL_find (xs := xs) (fun z hz y => h z (List.mem_cons_of_mem _ hz) y) (some (em x))
    refine ⟨y', ?_⟩
    show (f (em x) (S y) g).bind _ = _
    rw [h x List.mem_cons_self y, List.find?_cons]
    cases c x with
    | true => rfl
    | false => exact e
/-- a loop that never leaves: the state by a fold -/
theorem forL_fold {α β : Type} {em : β → D} {f : D → Sl → G → Res Fl} {S : α → Sl} {g : G} {st : α → β → α} {xs : List β} (P : α → Prop) (h : ∀ x ∈ xs, ∀ a, P a → f (em x) (S a) g = .ok (.nx (S (st a x))) g ∧ P (st a x)) : ∀ a, P a → forL f (xs.map em) (S a) g = .ok (.nx (S (xs.foldl st a))) g ∧ P (xs.foldl st a) := by
  induction xs with
  | nil => exact fun a ha => ⟨rfl, ha⟩
  | cons x xs ih =>
    intro a ha
    obtain ⟨h1, h2⟩ := h x List.mem_cons_self a ha
    obtain ⟨h3, h4⟩ := ih (fun z hz a ha => h z (List.mem_cons_of_mem _ hz) a ha) (st a x) h2
    refine ⟨?_, h4⟩
    show (f (em x) (S a) g).bind _ = _
    rw [h1]
    exact h3
/-- .. with the number of turns -/
theorem forL_foldI {α β : Type} {em : β → D} {f : D → Sl → G → Res Fl} {S : α → Sl} {g : G} {st : α → β → α} : ∀ {xs : List β} (P : Nat → α → Prop), (∀ x ∈ xs, ∀ k a, k < xs.length → P k a → f (em x) (S a) g = .ok (.nx (S (st a x))) g ∧ P (k + 1) (st a x)) → ∀ a, P 0 a → forL f (xs.map em) (S a) g = .ok (.nx (S (xs.foldl st a))) g ∧ P xs.length (xs.foldl st a)
  | [], P, _, a, ha => ⟨rfl, ha⟩
  | x :: xs, P, h, a, ha => by
    obtain ⟨h1, h2⟩ := h x List.mem_cons_self 0 a (Nat.succ_pos _) ha
    obtain ⟨h3, h4⟩ := forL_foldI (xs := xs) (fun k => P (k + 1)) (fun z hz k b hk hb => h z (List.mem_cons_of_mem _ hz) (k + 1) b (Nat.succ_lt_succ hk) hb) (st a x) h2
    refine ⟨?_, h4⟩
    show (f (em x) (S a) g).bind _ = _
    rw [h1]
    exact h3
/-- a loop by an invariant of the state and of the deck -/
theorem forL_inv {f : D → Sl → G → Res Fl} {I : Sl → G → Prop} : ∀ {xs : List D}, (∀ x ∈ xs, ∀ σ g, I σ g → ∃ σ' g', f x σ g = .ok (.nx σ') g' ∧ I σ' g') → ∀ σ g, I σ g → ∃ σ' g', forL f xs σ g = .ok (.nx σ') g' ∧ I σ' g'
  | [], _, σ, g, h => ⟨σ, g, rfl, h⟩
  | x :: xs, h, σ, g, hI => by
    obtain ⟨σ1, g1, e1, h1⟩ := h x List.mem_cons_self σ g hI
    obtain ⟨σ2, g2, e2, h2⟩ := forL_inv (xs := xs) (fun z hz => h z (List.mem_cons_of_mem _ hz)) σ1 g1 h1
    refine ⟨σ2, g2, ?_, h2⟩
    show (f x σ g).bind _ = _
    rw [e1]
    exact e2
/-- a comprehension over items -/
theorem compL_eq {α β : Type} {em : α → D} {eo : β → D} {f : D → G → Res (Option D)} {u : α → Option β} {g : G} : ∀ {xs : List α} {acc : List D}, (∀ x ∈ xs, f (em x) g = .ok ((u x).map eo) g) → compL f (xs.map em) acc g = .ok (acc.reverse ++ (xs.filterMap u).map eo) g
  | [], acc, _ => by
    show Res.ok acc.reverse g = _
    rw [List.filterMap_nil, List.map_nil, List.append_nil]
  | x :: xs, acc, h => by
    show (f (em x) g).bind _ = _
    rw [h x List.mem_cons_self]
    cases e : u x with
    | none =>
      show compL f (xs.map em) acc g = _
      rw [compL_eq fun z hz => h z (List.mem_cons_of_mem _ hz), List.filterMap_cons, e]
    | some y =>
      show compL f (xs.map em) (eo y :: acc) g = _
      rw [compL_eq fun z hz => h z (List.mem_cons_of_mem _ hz), List.filterMap_cons, e, List.reverse_cons, List.append_assoc]
      rfl

/-! ### texts -/
mutual
def fine : D → Bool
  | .none | .bool _ => true
  | .int i => decide (i.natAbs < 10 ^ 250)
  | .str x => PyData.strOk x
  | .list xs | .tuple xs => fineAll xs
  | .dict _ => false
def fineAll : List D → Bool
  | [] => true
  | x :: xs => fine x && fineAll xs
end
theorem short_int {i : Int} (h : i.natAbs < 10 ^ 250) : (PyData.shown (.int i)).length ≤ 251 := by
  have e := int_text_length_le10 (k := 250) (by decide) h
  show (Str.ofString (toString i)).length ≤ 251
  rw [ofString_length]; exact e
theorem log_int {i : Int} (h : i.natAbs < 10 ^ 250) : i.natAbs.log2 < 1920 := by
  by_cases z : i.natAbs = 0
  · rw [z]; decide
  · rw [Nat.log2_lt z]
    exact Nat.lt_of_lt_of_le h (by decide +kernel)
mutual
theorem fine_lay : ∀ d : D, fine d = true → d.canLay0 = true
  | .none, _ => rfl
  | .bool _, _ => rfl
  | .int _, _ => rfl
  | .str x, h => h
  | .list xs, h => fineAll_lay xs h
  | .tuple xs, h => fineAll_lay xs h
  | .dict _, h => by cases h
theorem fineAll_lay : ∀ xs : List D, fineAll xs = true → PyData.canLayAll0 xs = true
  | [], _ => rfl
  | x :: xs, h => by
    unfold fineAll at h
    simp only [Bool.and_eq_true] at h
    unfold PyData.canLayAll0
    rw [fine_lay x h.1, fineAll_lay xs h.2]; rfl
end
mutual
theorem fine_short : ∀ d : D, fine d = true → d.intsShort 251 = true ∧ d.showable = true
  | .none, _ => ⟨rfl, rfl⟩
  | .bool _, _ => ⟨rfl, rfl⟩
  | .int i, h => ⟨decide_eq_true (short_int (of_decide_eq_true h)), decide_eq_true (log_int (of_decide_eq_true h))⟩
  | .str x, h => ⟨rfl, rfl⟩
  | .list xs, h => fineAll_short xs h
  | .tuple xs, h => fineAll_short xs h
  | .dict _, h => by cases h
theorem fineAll_short : ∀ xs : List D, fineAll xs = true → PyData.intsShortAll 251 xs = true ∧ PyData.showableAll xs = true
  | [], _ => ⟨rfl, rfl⟩
  | x :: xs, h => by
    unfold fineAll at h
    simp only [Bool.and_eq_true] at h
    obtain ⟨h1, h2⟩ := fine_short x h.1
    obtain ⟨h3, h4⟩ := fineAll_short xs h.2
    unfold PyData.intsShortAll PyData.showableAll
    rw [h1, h2, h3, h4]; exact ⟨rfl, rfl⟩
end
theorem show_fine {d : D} (h : fine d = true) (hd : d.depth ≤ 64) (hw : d.weight ≤ 20000) : showOk d = true := by
  obtain ⟨h1, h2⟩ := fine_short d h
  have h3 := PyData.shown_le 251 (by decide) d (PyData.leavesShort_of_canLay0 251 d (fine_lay d h) h1)
  have h4 : 253 * d.weight ≤ 253 * 20000 := Nat.mul_le_mul_left _ hw
  have s : shp d = true := by
    show (d.canLay0 && decide (d.depth ≤ 64)) = true
    rw [fine_lay d h, decide_eq_true hd]; rfl
  unfold showOk
  rw [s, h2, Bool.true_or, Bool.true_and, Bool.true_and]
  refine decide_eq_true ?_
  unfold lineN
  omega
/-- few plain items -/
def scal : D → Bool
  | .none | .bool _ => true
  | .int i => decide (i.natAbs < 10 ^ 250)
  | _ => false
theorem scal_all : ∀ xs : List D, xs.all scal = true → fineAll xs = true ∧ PyData.depthAll xs = 0 ∧ PyData.weightAll xs ≤ 1922 * xs.length
  | [], _ => ⟨rfl, rfl, Nat.le_refl _⟩
  | x :: xs, h => by
    rw [List.all_cons, Bool.and_eq_true] at h
    obtain ⟨h1, h2, h3⟩ := scal_all xs h.2
    have key : fine x = true ∧ x.depth = 0 ∧ x.weight ≤ 1921 := by
      cases x with
      | none => exact ⟨rfl, rfl, Nat.zero_le _⟩
      | bool b => exact ⟨rfl, rfl, Nat.zero_le _⟩
      | int i =>
        have q := of_decide_eq_true h.1
        refine ⟨h.1, rfl, ?_⟩
        have := log_int q
        show (if i == 0 then 0 else i.natAbs.log2 + 1) ≤ 1921
        split <;> omega
      | str y => cases h.1
      | list y => cases h.1
      | tuple y => cases h.1
      | dict y => cases h.1
    obtain ⟨k1, k2, k3⟩ := key
    refine ⟨?_, ?_, ?_⟩
    · unfold fineAll
      rw [k1, h1]; rfl
    · unfold PyData.depthAll
      rw [k2, h2]; rfl
    · unfold PyData.weightAll
      rw [List.length_cons]
      omega
theorem show_list {xs : List D} (h : xs.all scal = true) (hl : xs.length ≤ 10) : showOk (.list xs) = true := by
  obtain ⟨h1, h2, h3⟩ := scal_all xs h
  exact show_fine h1 (by unfold PyData.depth; omega) (by unfold PyData.weight; omega)
theorem show_tuple {xs : List D} (h : xs.all scal = true) (hl : xs.length ≤ 10) : showOk (.tuple xs) = true := by
  obtain ⟨h1, h2, h3⟩ := scal_all xs h
  exact show_fine h1 (by unfold PyData.depth; omega) (by unfold PyData.weight; omega)
theorem show_one {x : D} (h : scal x = true) : showOk x = true := by
  obtain ⟨h1, h2, h3⟩ := scal_all [x] (by simpa using h)
  refine show_fine (by unfold fineAll at h1; simpa [fineAll] using h1) ?_ ?_
  · unfold PyData.depthAll at h2
    omega
  · unfold PyData.weightAll at h3
    rw [List.length_singleton] at h3
    omega
theorem bi_repr {x : D} (h : showOk x = true) : biV .repr [x] = some (.str x.shown) := by
  show (if showOk x = true then some (PyData.str x.shown) else none) = _
  rw [if_pos h]
theorem ne_same (x : Str) : cmpV .ne (.str x) (.str x) = some false := by
  show ((some (decide (x = x))).map fun b => !b) = _
  rw [decide_eq_true (rfl : x = x)]; rfl
theorem eq_same (x : Str) : cmpV .eq (.str x) (.str x) = some true := by
  show some (decide (x = x)) = _
  rw [decide_eq_true (rfl : x = x)]
end Pv
end

section
/-! PvO: decks, what they answer. -/
set_option autoImplicit false
namespace Pv
open PySem

/-- the draws of the first family -/
def drawA (k1 k2 k3 : Int) : Sm :=
  (.seq (.dkSet true (.var 0) (.bin .add (.dkGet true (.var 0)) (.c (.int 1))))
    (.seq (.set [2] (.bin .add (.dkGet false (.var 0)) (.bin .mul (.c (.int k1)) (.dkGet true (.var 0)))))
    (.seq (.ite (.dkHas (.var 0)) (.seq (.set [3] (.dkPop (.var 0)))
      (.seq (.ite (.cmp .ge (.var 3) (.bin .pow (.c (.int 10)) (.c (.int 18)))) (.seq (.ex (.dkPush (.var 0) (.bin .fdiv (.var 3) (.var 1))))
        (.ret (.bin .mod (.bi .toInt (.cons (.var 3) .nil)) (.var 1)))) .skip)
      (.set [2] (.bin .add (.var 2) (.bin .mod (.bi .toInt (.cons (.var 3) .nil)) (.c (.int 2147483629))))))) .skip)
    (.seq (.set [2] (.bin .mod (.bi .toInt (.cons (.bin .add (.bin .mul (.var 2) (.c (.int 39373))) (.c (.int k2))) .nil)) (.c (.int 2147483647))))
    (.seq (.set [2] (.bin .mod (.bi .toInt (.cons (.bin .add (.bin .add (.bin .mul (.var 2) (.var 2)) (.bin .mul (.c (.int 52711)) (.dkGet true (.var 0)))) (.c (.int k3))) .nil)) (.c (.int 2147483587))))
    (.ret (.bin .mod (.bin .fdiv (.bin .mod (.bi .toInt (.cons (.bin .mul (.var 2) (.c (.int 40692))) .nil)) (.c (.int 2147483563))) (.c (.int 64))) (.var 1))))))))
theorem mulOk_r {i j : Int} (h : j.natAbs < 18446744073709551616) : mulOk i j = true := by
  unfold mulOk
  rw [decide_eq_true h, Bool.or_true, Bool.true_or]
theorem mulOk_l {i j : Int} (h : i.natAbs < 18446744073709551616) : mulOk i j = true := by
  unfold mulOk
  rw [decide_eq_true h, Bool.true_or, Bool.true_or]
theorem getLast_some {α : Type} {xs : List α} (h : xs ≠ []) : ∃ x, xs.getLast? = some x := ⟨xs.getLast h, List.getLast?_eq_some_getLast h⟩
/-- what a draw answers -/
structure Drawn (Φd : Res D) (many : Int) (st : Dk) (r : Int) (st' : Dk) : Prop where
  eq : Φd = .ok (.int r) (some st')
  lo : 0 ≤ r
  hi : r < many
  len : st'.cells.length ≤ st.cells.length
theorem tail_A {Φ : Fns} {fu : Nat} {k2 k3 : Int} {st : Dk} {many f : Int} {x3 : Option D} (h0 : 0 < many) :
    Pv.run Φ fu (.seq (.set [2] (.bin .mod (.bi .toInt (.cons (.bin .add (.bin .mul (.var 2) (.c (.int 39373))) (.c (.int k2))) .nil)) (.c (.int 2147483647))))
    (.seq (.set [2] (.bin .mod (.bi .toInt (.cons (.bin .add (.bin .add (.bin .mul (.var 2) (.var 2)) (.bin .mul (.c (.int 52711)) (.dkGet true (.var 0)))) (.c (.int k3))) .nil)) (.c (.int 2147483587))))
    (.ret (.bin .mod (.bin .fdiv (.bin .mod (.bi .toInt (.cons (.bin .mul (.var 2) (.c (.int 40692))) .nil)) (.c (.int 2147483563))) (.c (.int 64))) (.var 1))))) [some (tokD 0), some (.int many), some (.int f), x3] (some st) =
    .ok (.rt (.int (((((f * 39373 + k2) % 2147483647) * ((f * 39373 + k2) % 2147483647) + 52711 * st.turn + k3) % 2147483587 * 40692) % 2147483563 / 64 % many))) (some st) := by
  have a1 : 0 ≤ (f * 39373 + k2) % 2147483647 := Int.emod_nonneg _ (by decide)
  have a2 : (f * 39373 + k2) % 2147483647 < 2147483647 := Int.emod_lt_of_pos _ (by decide)
  have m1 : mulOk f 39373 = true := mulOk_r (by decide)
  have m2 : mulOk ((f * 39373 + k2) % 2147483647) ((f * 39373 + k2) % 2147483647) = true := mulOk_r (by omega)
  have m3 : mulOk 52711 st.turn = true := mulOk_l (by decide)
  have m4 : mulOk (((f * 39373 + k2) % 2147483647 * ((f * 39373 + k2) % 2147483647) + 52711 * st.turn + k3) % 2147483587) 40692 = true := mulOk_r (by decide)
  have l1 : Nat.log2 64 < 9000 := by decide
  simp [Pv.run, ev, evs, biV, binV, m1, m2, m3, m4, setT, h0, dkGetV, l1]
theorem draw_A {Φ : Fns} {fu : Nat} {k1 k2 k3 : Int} {st : Dk} {many : Int} (h0 : 0 < many) (hl : many.natAbs.log2 < 9000) (hk : k1.natAbs < 18446744073709551616) (hc : st.cells.length ≤ 63) :
    ∃ r st', Drawn (fin (Pv.run Φ fu (drawA k1 k2 k3) [some (tokD 0), some (.int many), none, none] (some st))) many st r st' := by
  unfold drawA
  have m1 : mulOk k1 (st.turn + 1) = true := mulOk_l hk
  rw [run_seq_nx (σ' := [some (tokD 0), some (.int many), none, none]) (g' := some { st with turn := st.turn + 1 }) (by simp [Pv.run, ev, evs, binV, dkGetV, dkSetV])]
  rw [run_seq_nx (σ' := [some (tokD 0), some (.int many), some (.int (st.mixed + k1 * (st.turn + 1))), none]) (g' := some { st with turn := st.turn + 1 }) (by simp [Pv.run, ev, evs, binV, dkGetV, setT, m1])]
  by_cases he : st.cells = []
  · rw [run_seq_nx (σ' := [some (tokD 0), some (.int many), some (.int (st.mixed + k1 * (st.turn + 1))), none]) (g' := some { st with turn := st.turn + 1 }) (by simp [Pv.run, ev, evs, dkHasV, he])]
    rw [tail_A h0]
    exact ⟨_, _, rfl, Int.emod_nonneg _ (by omega), Int.emod_lt_of_pos _ h0, Nat.le_refl _⟩
  · obtain ⟨c, hcl⟩ := getLast_some he
    have hlen : st.cells.dropLast.length < 63 := by
      have : 0 < st.cells.length := List.length_pos_iff.mpr he
      rw [List.length_dropLast]; omega
    have hne : st.cells.isEmpty = false := by simpa using he
    have p1 : powOk 10 18 = true := by decide
    by_cases hb : 1000000000000000000 ≤ c
    · rw [run_seq_rt (v := .int (c % many)) (g' := some ⟨st.cells.dropLast ++ [c / many], st.mixed, st.turn + 1⟩) (by
        have l1 : st.cells.length - 1 < lineN := by
          unfold lineN; omega
        simp [Pv.run, ev, evs, dkHasV, hne, dkPopV, hcl, setT, cmpV, binV, p1, hb, dkPushV, h0, hl, biV, l1])]
      refine ⟨_, _, rfl, Int.emod_nonneg _ (by omega), Int.emod_lt_of_pos _ h0, ?_⟩
      show (st.cells.dropLast ++ [c / many]).length ≤ _
      rw [List.length_append, List.length_dropLast, List.length_singleton]
      have : 0 < st.cells.length := List.length_pos_iff.mpr he
      omega
    · rw [run_seq_nx (σ' := [some (tokD 0), some (.int many), some (.int (st.mixed + k1 * (st.turn + 1) + c % 2147483629)), some (.int c)]) (g' := some ⟨st.cells.dropLast, st.mixed, st.turn + 1⟩) (by
        simp [Pv.run, ev, evs, dkHasV, hne, dkPopV, hcl, setT, cmpV, binV, p1, hb, biV])]
      rw [tail_A h0]
      refine ⟨_, _, rfl, Int.emod_nonneg _ (by omega), Int.emod_lt_of_pos _ h0, ?_⟩
      show st.cells.dropLast.length ≤ _
      rw [List.length_dropLast]
      omega
/-- the deck of the first family -/
def deckA (ns : List Int) (seed k : Int) : Sm :=
  (.seq (.set [1] (.c (.int seed)))
    (.seq (.forr [2] .seq (.cons (.scr (.var 0) ns 63) .nil) (.set [1] (.bin .mod (.bi .toInt (.cons (.bin .add (.bin .add (.bin .mul (.var 1) (.c (.int 48271))) (.bin .mod (.bi .toInt (.cons (.var 2) .nil)) (.c (.int 2147483629)))) (.c (.int k))) .nil)) (.c (.int 2147483587)))))
    (.ret (.dkNew (.lrev (.bi .toList (.cons (.scr (.var 0) ns 63) .nil))) (.var 1) (.c (.int 0))))))
theorem ints_map : ∀ ns : List Int, intsOf (ns.map .int) = some ns
  | [] => rfl
  | n :: ns => by
    rw [List.map_cons]
    unfold intsOf
    rw [ints_map ns]; rfl
theorem deck_A {Φ : Fns} {fu : Nat} {ns : List Int} {seed k : Int} : ∃ st, fin (Pv.run Φ fu (deckA ns seed k) [some (tokD 1), none, none] none) = .ok (tokD 0) (some st) ∧ st.cells.length ≤ 63 := by
  unfold deckA
  rw [run_seq_nx (σ' := [some (tokD 1), some (.int seed), none]) (g' := none) (by simp [Pv.run, ev, setT])]
  have e2 := run_for (Φ := Φ) (fu := fu) (ts := [2]) (k := .seq) (σ := [some (tokD 1), some (.int seed), none]) (g := none) (vs := [.list ((ns.take 63).map .int)]) (xs := (ns.take 63).map .int) (g' := none) (as := .cons (.scr (.var 0) ns 63) .nil)
    (b := .set [1] (.bin .mod (.bi .toInt (.cons (.bin .add (.bin .add (.bin .mul (.var 1) (.c (.int 48271))) (.bin .mod (.bi .toInt (.cons (.var 2) .nil)) (.c (.int 2147483629)))) (.c (.int k))) .nil)) (.c (.int 2147483587)))) (by simp [evs, ev]) rfl
  obtain ⟨σ', g', e3, m, y, e4, e5⟩ := forL_inv (f := fun x σ g => (lift (setT [2] x σ) g).bind fun σ g => Pv.run Φ fu (.set [1] (.bin .mod (.bi .toInt (.cons (.bin .add (.bin .add (.bin .mul (.var 1) (.c (.int 48271))) (.bin .mod (.bi .toInt (.cons (.var 2) .nil)) (.c (.int 2147483629)))) (.c (.int k))) .nil)) (.c (.int 2147483587)))) σ g)
    (I := fun σ g => ∃ (m : Int) (y : Option D), σ = [some (tokD 1), some (.int m), y] ∧ g = none) (xs := (ns.take 63).map .int) (by
      rintro x hx σ g ⟨m, y, rfl, rfl⟩
      obtain ⟨n, hn, rfl⟩ := List.mem_map.mp hx
      have m1 : mulOk m 48271 = true := mulOk_r (by decide)
      exact ⟨_, _, by simp [setT, Pv.run, ev, evs, binV, biV, m1]; exact ⟨rfl, rfl⟩, _, _, rfl, rfl⟩) [some (tokD 1), some (.int seed), none] none ⟨_, _, rfl, rfl⟩
  subst e4; subst e5
  rw [run_seq_nx (e2.trans e3)]
  refine ⟨⟨(ns.take 63).reverse, m, 0⟩, ?_, ?_⟩
  · have e : (List.take 63 (List.map PyData.int ns)).reverse = ((ns.take 63).reverse).map PyData.int := by rw [← List.map_take, List.map_reverse]
    have e2 : intsOf (List.take 63 (List.map PyData.int ns)).reverse = some (ns.take 63).reverse := by rw [e, ints_map]
    simp [Pv.run, ev, evs, biV, dkNewV, e2, fin]
  · rw [List.length_reverse, List.length_take]
    omega
end Pv
end

section
/-! PvP: the program's functions of numbers, what they answer. -/
set_option autoImplicit false
namespace Pv
open PySem

theorem pow_emod' (a p : Int) : ∀ n : Nat, (a % p) ^ n % p = a ^ n % p
  | 0 => by rw [Int.pow_zero, Int.pow_zero]
  | n + 1 => by
    rw [Int.pow_succ, Int.pow_succ, Int.mul_emod, pow_emod' a p n, Int.emod_emod_of_dvd _ (Int.dvd_refl p), ← Int.mul_emod]
theorem pow_two_mul (b : Int) : ∀ k : Nat, (b * b) ^ k = b ^ (2 * k)
  | 0 => by rw [Nat.mul_zero, Int.pow_zero, Int.pow_zero]
  | k + 1 => by
    rw [Int.pow_succ, pow_two_mul b k, show 2 * (k + 1) = 2 * k + 1 + 1 from rfl, Int.pow_succ, Int.pow_succ, Int.mul_assoc]
theorem mulmod_l (a b p : Int) : a % p * b % p = a * b % p := by
  rw [Int.mul_emod, Int.emod_emod_of_dvd _ (Int.dvd_refl p), ← Int.mul_emod]
theorem mulmod_r (a b p : Int) : a * (b % p) % p = a * b % p := by
  rw [Int.mul_comm, mulmod_l, Int.mul_comm]
theorem mulpow_r (a b p : Int) (k : Nat) : a * (b % p) ^ k % p = a * b ^ k % p := by
  rw [← mulmod_r a ((b % p) ^ k), pow_emod', mulmod_r]
theorem sq_step (r b p : Int) (k : Nat) : (if k % 2 = 1 then r * b % p else r) * (b * b % p) ^ (k / 2) % p = r * b ^ k % p := by
  rw [mulpow_r, pow_two_mul]
  by_cases h : k % 2 = 1
  · rw [if_pos h, mulmod_l, Int.mul_assoc, Int.mul_comm b, ← Int.pow_succ]
    congr 2
    congr 1
    omega
  · rw [if_neg h]
    congr 2
    congr 1
    omega
/-- base ** exponent % prime by squares -/
def npowS : Sm :=
  (.seq (.set [3] (.c (.int 1)))
    (.seq (.set [4] (.bin .mod (.var 1) (.var 0)))
    (.seq (.set [5] (.var 2))
    (.seq (.whil (.cmp .gt (.var 5) (.c (.int 0))) (.seq (.ite (.truth (.bin .band (.var 5) (.c (.int 1)))) (.set [3] (.bin .mod (.bin .mul (.var 3) (.var 4)) (.var 0))) .skip)
      (.seq (.set [4] (.bin .mod (.bin .mul (.var 4) (.var 4)) (.var 0)))
      (.set [5] (.bin .shr (.var 5) (.c (.int 1)))))))
    (.ret (.var 3))))))
theorem band_one {k : Nat} : Builtin.bitAnd (k : Int) 1 = ((k % 2 : Nat) : Int) := by
  have h1 : decide ((0 : Int) ≤ (k : Int)) = true := decide_eq_true (by omega)
  have h2 : decide ((0 : Int) ≤ 1) = true := rfl
  unfold Builtin.bitAnd
  simp only [h1, h2, Int.toNat_natCast, show (1 : Int).toNat = 1 from rfl, Nat.and_one_is_mod]
theorem natAbs_lt {i p : Int} (h0 : 0 ≤ i) (h1 : i < p) (h2 : p < 18446744073709551616) : i.natAbs < 18446744073709551616 := by omega
section
variable {Φ : Fns} {g : G}
theorem npow_loop {p n e : Int} (hp : 0 < p) (hp2 : p < 18446744073709551616) : ∀ (k fu : Nat), k < fu → ∀ r b : Int, 0 ≤ r → r < p → 0 ≤ b → b < p → ∃ b' : Int,
    whileL (fun σ g => ev Φ (.cmp .gt (.var 5) (.c (.int 0))) σ g) (fun σ g => Pv.run Φ fuel (.seq (.ite (.truth (.bin .band (.var 5) (.c (.int 1)))) (.set [3] (.bin .mod (.bin .mul (.var 3) (.var 4)) (.var 0))) .skip)
      (.seq (.set [4] (.bin .mod (.bin .mul (.var 4) (.var 4)) (.var 0)))
      (.set [5] (.bin .shr (.var 5) (.c (.int 1)))))) σ g) fu [some (.int p), some (.int n), some (.int e), some (.int r), some (.int b), some (.int k)] g =
    .ok (.nx [some (.int p), some (.int n), some (.int e), some (.int (r * b ^ k % p)), some (.int b'), some (.int 0)]) g := by
  intro k
  induction k using Nat.strongRecOn with
  | _ k ih =>
    intro fu hf r b r0 r1 b0 b1
    obtain ⟨fu, rfl⟩ : ∃ m, fu = m + 1 := ⟨fu - 1, by omega⟩
    by_cases hk : k = 0
    · subst hk
      refine ⟨b, ?_⟩
      rw [whileL_end (by simp [ev, cmpV] : ev Φ (.cmp .gt (.var 5) (.c (.int 0))) [some (.int p), some (.int n), some (.int e), some (.int r), some (.int b), some (.int (0 : Nat))] g = .ok (.bool false) g)]
      rw [Int.pow_zero, Int.mul_one, Int.emod_eq_of_lt r0 r1]; rfl
    · have k0 : 0 < k := by omega
      have mrb : mulOk r b = true := mulOk_r (natAbs_lt b0 b1 hp2)
      have mbb : mulOk b b = true := mulOk_r (natAbs_lt b0 b1 hp2)
      obtain ⟨b', e⟩ := ih (k / 2) (by omega) fu (by omega) (if k % 2 = 1 then r * b % p else r) (b * b % p) (by split; exact Int.emod_nonneg _ (by omega); exact r0) (by split; exact Int.emod_lt_of_pos _ hp; exact r1) (Int.emod_nonneg _ (by omega)) (Int.emod_lt_of_pos _ hp)
      refine ⟨b', ?_⟩
      rw [whileL_step (g' := g) (σ' := [some (.int p), some (.int n), some (.int _), some (.int (if k % 2 = 1 then r * b % p else r)), some (.int (b * b % p)), some (.int ((k / 2 : Nat) : Int))]) (g2 := g)
        (by simp [ev, cmpV]; omega) ?_, e, sq_step]
      by_cases h2 : k % 2 = 1
      · have t : truV (.int (Builtin.bitAnd (k : Int) 1)) = some true := by rw [band_one, h2]; rfl
        simp [Pv.run, ev, binV, t, hp, mrb, mbb, setT, h2]
      · have h3 : k % 2 = 0 := by omega
        have t : truV (.int (Builtin.bitAnd (k : Int) 1)) = some false := by rw [band_one, h3]; rfl
        simp [Pv.run, ev, binV, t, hp, mrb, mbb, setT, h2]
theorem npow {p n e : Int} (hp : 1 < p) (hp2 : p < 18446744073709551616) (he : 0 ≤ e) (he2 : e < 18446744073709551616) : fin (Pv.run Φ fuel npowS [some (.int p), some (.int n), some (.int e), none, none, none] g) = .ok (.int (n ^ e.toNat % p)) g := by
  have hp0 : 0 < p := by omega
  unfold npowS
  rw [run_seq_nx (σ' := [some (.int p), some (.int n), some (.int e), some (.int 1), none, none]) (g' := g) rfl]
  rw [run_seq_nx (σ' := [some (.int p), some (.int n), some (.int e), some (.int 1), some (.int (n % p)), none]) (g' := g) (by simp [Pv.run, ev, binV, hp0, setT])]
  rw [run_seq_nx (σ' := [some (.int p), some (.int n), some (.int e), some (.int 1), some (.int (n % p)), some (.int (e.toNat : Nat))]) (g' := g) (by rw [Int.toNat_of_nonneg he]; rfl)]
  obtain ⟨b', h⟩ := npow_loop (Φ := Φ) (g := g) (n := n) (e := e) hp0 hp2 e.toNat fuel (by unfold fuel; omega) 1 (n % p) (by omega) hp (Int.emod_nonneg _ (by omega)) (Int.emod_lt_of_pos _ hp0)
  have h2 : Pv.run Φ fuel (.whil (.cmp .gt (.var 5) (.c (.int 0))) (.seq (.ite (.truth (.bin .band (.var 5) (.c (.int 1)))) (.set [3] (.bin .mod (.bin .mul (.var 3) (.var 4)) (.var 0))) .skip)
      (.seq (.set [4] (.bin .mod (.bin .mul (.var 4) (.var 4)) (.var 0)))
      (.set [5] (.bin .shr (.var 5) (.c (.int 1))))))) [some (.int p), some (.int n), some (.int e), some (.int 1), some (.int (n % p)), some (.int (e.toNat : Nat))] g = .ok (.nx [some (.int p), some (.int n), some (.int e), some (.int (1 * (n % p) ^ e.toNat % p)), some (.int b'), some (.int 0)]) g := h
  rw [run_seq_nx h2, Int.one_mul, pow_emod']
  rfl
end
end Pv
end

section
/-! PvQ: what a run must answer, by steps. -/
set_option autoImplicit false
namespace Pv
open PySem

def Ok {α : Type} (r : Res α) (Q : α → G → Prop) : Prop := match r with
  | .ok a g => Q a g
  | _ => False
/-- the rest of a row of statements -/
def thenF (k : Sl → G → Prop) (Q : Fl → G → Prop) : Fl → G → Prop
  | .nx σ, g => k σ g
  | fl, g => Q fl g
@[simp] theorem thenF_nx {k : Sl → G → Prop} {Q : Fl → G → Prop} {σ : Sl} {g : G} : thenF k Q (.nx σ) g = k σ g := rfl
@[simp] theorem thenF_rt {k : Sl → G → Prop} {Q : Fl → G → Prop} {v : D} {g : G} : thenF k Q (.rt v) g = Q (.rt v) g := rfl
@[simp] theorem thenF_bk {k : Sl → G → Prop} {Q : Fl → G → Prop} {σ : Sl} {g : G} : thenF k Q (.bk σ) g = Q (.bk σ) g := rfl
@[simp] theorem thenF_ct {k : Sl → G → Prop} {Q : Fl → G → Prop} {σ : Sl} {g : G} : thenF k Q (.ct σ) g = Q (.ct σ) g := rfl
/-- what a function answers -/
def retF (Q : D → G → Prop) : Fl → G → Prop
  | .rt v, g => Q v g
  | .nx _, g => Q .none g
  | _, _ => False
@[simp] theorem retF_rt {Q : D → G → Prop} {v : D} {g : G} : retF Q (.rt v) g = Q v g := rfl
@[simp] theorem retF_nx {Q : D → G → Prop} {σ : Sl} {g : G} : retF Q (.nx σ) g = Q .none g := rfl
@[simp] theorem retF_bk {Q : D → G → Prop} {σ : Sl} {g : G} : retF Q (.bk σ) g = False := rfl
@[simp] theorem retF_ct {Q : D → G → Prop} {σ : Sl} {g : G} : retF Q (.ct σ) g = False := rfl
/-- a loop's body: on, or out -/
def loopF (I : Sl → G → Prop) (Q : Fl → G → Prop) : Fl → G → Prop
  | .nx σ, g => I σ g
  | .ct σ, g => I σ g
  | .bk σ, g => Q (.nx σ) g
  | .rt v, g => Q (.rt v) g
@[simp] theorem loopF_nx {k : Sl → G → Prop} {Q : Fl → G → Prop} {σ : Sl} {g : G} : loopF k Q (.nx σ) g = k σ g := rfl
@[simp] theorem loopF_ct {k : Sl → G → Prop} {Q : Fl → G → Prop} {σ : Sl} {g : G} : loopF k Q (.ct σ) g = k σ g := rfl
@[simp] theorem loopF_bk {k : Sl → G → Prop} {Q : Fl → G → Prop} {σ : Sl} {g : G} : loopF k Q (.bk σ) g = Q (.nx σ) g := rfl
@[simp] theorem loopF_rt {k : Sl → G → Prop} {Q : Fl → G → Prop} {v : D} {g : G} : loopF k Q (.rt v) g = Q (.rt v) g := rfl
section
variable {α β : Type} {Q P : α → G → Prop} {g g' : G} {a : α}
@[simp] theorem Ok_ok : Ok (.ok a g) Q = Q a g := rfl
@[simp] theorem Ok_no : Ok (.no : Res α) Q = False := rfl
@[simp] theorem Ok_exc {c : Nat} {vs : List D} : Ok (.exc c vs g : Res α) Q = False := rfl
@[simp] theorem Ok_bind {r : Res β} {f : β → G → Res α} : Ok (r.bind f) Q = Ok r fun b g => Ok (f b g) Q := by cases r <;> rfl
@[simp] theorem Ok_lift {o : Option α} : Ok (lift o g) Q = ∃ a, o = some a ∧ Q a g := by
  cases o with
  | none => exact propext ⟨fun h => h.elim, fun ⟨_, h, _⟩ => nomatch h⟩
  | some a => exact propext ⟨fun h => ⟨a, rfl, h⟩, fun ⟨_, h, q⟩ => by cases h; exact q⟩
@[simp] theorem Ok_if {c : Prop} [Decidable c] {r s : Res α} : Ok (if c then r else s) Q = if c then Ok r Q else Ok s Q := by split <;> rfl
theorem Ok.mono {r : Res α} (h : Ok r P) (i : ∀ a g, P a g → Q a g) : Ok r Q := by
  cases r with
  | ok a g => exact i a g h
  | exc c vs g => exact h
  | no => exact h
theorem Ok.of_eq {r : Res α} (h : r = .ok a g) (q : Q a g) : Ok r Q := by rw [h]; exact q
theorem Ok.ex {r : Res α} (h : Ok r Q) : ∃ a g, r = .ok a g ∧ Q a g := by
  cases r with
  | ok a g => exact ⟨a, g, rfl, h⟩
  | exc c vs g => exact h.elim
  | no => exact h.elim
theorem Ok.eq {r : Res α} (h : Ok r fun b g' => b = a ∧ g' = g) : r = .ok a g := by
  obtain ⟨b, g', e, rfl, rfl⟩ := h.ex
  exact e
theorem Ok_fin {r : Res Fl} {Q : D → G → Prop} : Ok (fin r) Q = Ok r (retF Q) := by
  cases r with
  | ok a g => cases a <;> rfl
  | exc c vs g => rfl
  | no => rfl
end
theorem Ok_FT {T : List Fn} {d f : Nat} {as : List D} {g : G} {Q : D → G → Prop} {fn : Fn} (h : T[f]? = some fn) (hl : as.length = fn.np)
    (hb : Ok (Pv.run (FT T (fun _ => none) d) fuel fn.body (as.map some ++ List.replicate (fn.nl - fn.np) none) g) (retF Q)) : Ok (FT T (fun _ => none) (d + 1) f as g) Q := by
  rw [FT_at h hl, Ok_fin]; exact hb
section
variable {Φ : Fns} {fu : Nat} {σ : Sl} {g : G} {Q : D → G → Prop} {a b c t e d k x : Ex} {as : Exs}
@[simp] theorem Ok_c {v : D} : Ok (ev Φ (.c v) σ g) Q = Q v g := by unfold ev; rfl
@[simp] theorem Ok_var {i : Nat} : Ok (ev Φ (.var i) σ g) Q = ∃ v, σ[i]? = some (some v) ∧ Q v g := by
  unfold ev
  refine propext ⟨fun h => ?_, fun ⟨v, h, q⟩ => by rw [h]; exact q⟩
  cases e : σ[i]? with
  | none => rw [e] at h; exact h.elim
  | some o => cases o with
    | none => rw [e] at h; exact h.elim
    | some v => rw [e] at h; exact ⟨v, rfl, h⟩
@[simp] theorem Ok_bin {op : Bop} : Ok (ev Φ (.bin op a b) σ g) Q = Ok (ev Φ a σ g) fun x g => Ok (ev Φ b σ g) fun y g => ∃ z, binV op x y = some z ∧ Q z g := by
  conv => lhs; unfold ev
  simp only [Ok_bind, Ok_lift]
@[simp] theorem Ok_neg : Ok (ev Φ (.neg a) σ g) Q = Ok (ev Φ a σ g) fun x g => ∃ i, x = .int i ∧ Q (.int (-i)) g := by
  conv => lhs; unfold ev
  simp only [Ok_bind]
  congr; funext x g
  cases x <;> simp
@[simp] theorem Ok_asI : Ok (ev Φ (.asI a) σ g) Q = Ok (ev Φ a σ g) fun x g => ∃ i, x = .int i ∧ Q (.int i) g := by
  conv => lhs; unfold ev
  simp only [Ok_bind]
  congr; funext x g
  cases x <;> simp
@[simp] theorem Ok_cmp {op : Cop} : Ok (ev Φ (.cmp op a b) σ g) Q = Ok (ev Φ a σ g) fun x g => Ok (ev Φ b σ g) fun y g => ∃ z, cmpV op x y = some z ∧ Q (.bool z) g := by
  conv => lhs; unfold ev
  simp only [Ok_bind, Ok_lift, Option.map_eq_some_iff]
  congr; funext x g; congr; funext y g
  exact propext ⟨fun ⟨_, ⟨z, h, e⟩, q⟩ => ⟨z, h, by rw [e]; exact q⟩, fun ⟨z, h, q⟩ => ⟨_, ⟨z, h, rfl⟩, q⟩⟩
@[simp] theorem Ok_chain {o1 o2 : Cop} : Ok (ev Φ (.chain o1 o2 a b c) σ g) Q = Ok (ev Φ a σ g) fun x g => Ok (ev Φ b σ g) fun y g => ∃ k, cmpV o1 x y = some k ∧
    if k = true then Ok (ev Φ c σ g) fun z g => ∃ w, cmpV o2 y z = some w ∧ Q (.bool w) g else Q (.bool false) g := by
  conv => lhs; unfold ev
  simp only [Ok_bind, Ok_lift, Option.map_eq_some_iff, Ok_if, Ok_ok]
  congr; funext x g; congr; funext y g
  congr; funext k; congr; funext z g
  exact propext ⟨fun ⟨_, ⟨z, h, e⟩, q⟩ => ⟨z, h, by rw [e]; exact q⟩, fun ⟨z, h, q⟩ => ⟨_, ⟨z, h, rfl⟩, q⟩⟩
@[simp] theorem Ok_chain3 {o1 o2 o3 : Cop} : Ok (ev Φ (.chain3 o1 o2 o3 a b c d) σ g) Q = Ok (ev Φ a σ g) fun x g => Ok (ev Φ b σ g) fun y g => ∃ k, cmpV o1 x y = some k ∧
    if k = true then Ok (ev Φ c σ g) fun z g => ∃ k, cmpV o2 y z = some k ∧ if k = true then Ok (ev Φ d σ g) fun w g => ∃ u, cmpV o3 z w = some u ∧ Q (.bool u) g else Q (.bool false) g else Q (.bool false) g := by
  conv => lhs; unfold ev
  simp only [Ok_bind, Ok_lift, Option.map_eq_some_iff, Ok_if, Ok_ok]
  congr; funext x g; congr; funext y g
  congr; funext k; congr; funext z g
  congr; funext k; congr; funext w g
  exact propext ⟨fun ⟨_, ⟨z, h, e⟩, q⟩ => ⟨z, h, by rw [e]; exact q⟩, fun ⟨z, h, q⟩ => ⟨_, ⟨z, h, rfl⟩, q⟩⟩
@[simp] theorem Ok_and : Ok (ev Φ (.and a b) σ g) Q = Ok (ev Φ a σ g) fun x g => ∃ k : Bool, x = .bool k ∧ if k = true then Ok (ev Φ b σ g) Q else Q (.bool false) g := by
  conv => lhs; unfold ev
  simp only [Ok_bind]
  congr; funext x g
  cases x with
  | bool k => cases k <;> simp
  | _ => simp
@[simp] theorem Ok_or : Ok (ev Φ (.or a b) σ g) Q = Ok (ev Φ a σ g) fun x g => ∃ k : Bool, x = .bool k ∧ if k = true then Q (.bool true) g else Ok (ev Φ b σ g) Q := by
  conv => lhs; unfold ev
  simp only [Ok_bind]
  congr; funext x g
  cases x with
  | bool k => cases k <;> simp
  | _ => simp
@[simp] theorem Ok_not : Ok (ev Φ (.not a) σ g) Q = Ok (ev Φ a σ g) fun x g => ∃ k : Bool, x = .bool k ∧ Q (.bool (!k)) g := by
  conv => lhs; unfold ev
  simp only [Ok_bind]
  congr; funext x g
  cases x <;> simp
@[simp] theorem Ok_truth : Ok (ev Φ (.truth a) σ g) Q = Ok (ev Φ a σ g) fun x g => ∃ k, truV x = some k ∧ Q (.bool k) g := by
  conv => lhs; unfold ev
  simp only [Ok_bind, Ok_lift, Option.map_eq_some_iff]
  congr; funext x g
  exact propext ⟨fun ⟨_, ⟨z, h, e⟩, q⟩ => ⟨z, h, by rw [e]; exact q⟩, fun ⟨z, h, q⟩ => ⟨_, ⟨z, h, rfl⟩, q⟩⟩
@[simp] theorem Ok_ite : Ok (ev Φ (.ite t a b) σ g) Q = Ok (ev Φ t σ g) fun x g => ∃ k : Bool, x = .bool k ∧ if k = true then Ok (ev Φ a σ g) Q else Ok (ev Φ b σ g) Q := by
  conv => lhs; unfold ev
  simp only [Ok_bind]
  congr; funext x g
  cases x with
  | bool k => cases k <;> simp
  | _ => simp
@[simp] theorem Ok_idx : Ok (ev Φ (.idx a b) σ g) Q = Ok (ev Φ a σ g) fun x g => Ok (ev Φ b σ g) fun y g => ∃ z, idxV x y = some z ∧ Q z g := by
  conv => lhs; unfold ev
  simp only [Ok_bind, Ok_lift]
@[simp] theorem Ok_slc : Ok (ev Φ (.slc a b c) σ g) Q = Ok (ev Φ a σ g) fun x g => Ok (ev Φ b σ g) fun l g => Ok (ev Φ c σ g) fun h g => ∃ z, slcV x l h = some z ∧ Q z g := by
  conv => lhs; unfold ev
  simp only [Ok_bind, Ok_lift]
@[simp] theorem Ok_rev : Ok (ev Φ (.rev a) σ g) Q = Ok (ev Φ a σ g) fun x g => ∃ z, revV x = some z ∧ Q z g := by
  conv => lhs; unfold ev
  simp only [Ok_bind, Ok_lift]
@[simp] theorem Ok_tup : Ok (ev Φ (.tup as) σ g) Q = Ok (evs Φ as σ g) fun xs g => Q (.tuple xs) g := by
  conv => lhs; unfold ev
  simp only [Ok_bind, Ok_ok]
@[simp] theorem Ok_lst : Ok (ev Φ (.lst as) σ g) Q = Ok (evs Φ as σ g) fun xs g => Q (.list xs) g := by
  conv => lhs; unfold ev
  simp only [Ok_bind, Ok_ok]
@[simp] theorem Ok_bi {f : Bi} : Ok (ev Φ (.bi f as) σ g) Q = Ok (evs Φ as σ g) fun xs g => ∃ z, biV f xs = some z ∧ Q z g := by
  conv => lhs; unfold ev
  simp only [Ok_bind, Ok_lift]
@[simp] theorem Ok_call {f : Nat} : Ok (ev Φ (.call f as) σ g) Q = Ok (evs Φ as σ g) fun xs g => Ok (Φ f xs g) Q := by
  conv => lhs; unfold ev
  simp only [Ok_bind]
@[simp] theorem Ok_callK {f : Nat} {perm : List Nat} : Ok (ev Φ (.callK f as perm) σ g) Q = Ok (evs Φ as σ g) fun xs g => Ok (Φ f (pm perm xs) g) Q := by
  conv => lhs; unfold ev
  simp only [Ok_bind]
/-- one item of a comprehension -/
def itemF (Φ : Fns) (t : List Nat) (σ : Sl) (cond elt : Ex) (x : D) (g : G) : Res (Option D) :=
  (lift (setT t x (wipeS σ t)) g).bind fun σ' g => (ev Φ cond σ' g).bind fun b g => match b with
        | .bool true => (ev Φ elt σ' g).bind fun v g => .ok (some v) g
        | .bool false => .ok none g
        | _ => .no
theorem Ok_itemF {t : List Nat} {cond elt : Ex} {x : D} {Q : Option D → G → Prop} : Ok (itemF Φ t σ cond elt x g) Q = ∃ σ', setT t x (wipeS σ t) = some σ' ∧ Ok (ev Φ cond σ' g) fun b g => ∃ k : Bool, b = .bool k ∧ if k = true then Ok (ev Φ elt σ' g) fun v g => Q (some v) g else Q none g := by
  unfold itemF
  simp only [Ok_bind, Ok_lift]
  congr; funext σ'; congr; funext b g
  cases b with
  | bool k => cases k <;> simp
  | _ => simp
@[simp] theorem Ok_comp {t : List Nat} {k : Ik} {cond elt : Ex} : Ok (ev Φ (.comp t k as cond elt) σ g) Q = Ok (evs Φ as σ g) fun vs g => ∃ xs, itV k vs = some xs ∧ xs.length ≤ lineN ∧ Ok (compL (itemF Φ t σ cond elt) xs [] g) fun ys g => Q (.list ys) g := by
  conv => lhs; unfold ev
  simp only [Ok_bind, Ok_lift]
  congr; funext vs g; congr; funext xs
  by_cases h : xs.length ≤ lineN
  · simp [h]; exact fun _ => Iff.rfl
  · simp [h]
@[simp] theorem Ok_dnew : Ok (ev Φ .dnew σ g) Q = Q (.dict []) g := by unfold ev; rfl
@[simp] theorem Ok_dget : Ok (ev Φ (.dget d k x) σ g) Q = Ok (ev Φ d σ g) fun dv g => Ok (ev Φ k σ g) fun kv g => Ok (ev Φ x σ g) fun xv g => ∃ z, dgetV dv kv xv = some z ∧ Q z g := by
  conv => lhs; unfold ev
  simp only [Ok_bind, Ok_lift]
@[simp] theorem Ok_dix : Ok (ev Φ (.dix d k) σ g) Q = Ok (ev Φ d σ g) fun dv g => Ok (ev Φ k σ g) fun kv g => ∃ z, dixV dv kv = some z ∧ Q z g := by
  conv => lhs; unfold ev
  simp only [Ok_bind, Ok_lift]
@[simp] theorem Ok_dhas {n : Bool} : Ok (ev Φ (.dhas k d n) σ g) Q = Ok (ev Φ k σ g) fun kv g => Ok (ev Φ d σ g) fun dv g => ∃ b, dhasV kv dv = some b ∧ Q (.bool (b != n)) g := by
  conv => lhs; unfold ev
  simp only [Ok_bind, Ok_lift, Option.map_eq_some_iff]
  congr; funext x g; congr; funext y g
  exact propext ⟨fun ⟨_, ⟨z, h, e⟩, q⟩ => ⟨z, h, by rw [e]; exact q⟩, fun ⟨z, h, q⟩ => ⟨_, ⟨z, h, rfl⟩, q⟩⟩
@[simp] theorem Ok_ddisp : Ok (ev Φ (.ddisp as) σ g) Q = Ok (evs Φ as σ g) fun xs g => ∃ z, dispV xs [] = some z ∧ Q (.dict z) g := by
  conv => lhs; unfold ev
  simp only [Ok_bind, Ok_lift, Option.map_eq_some_iff]
  congr; funext x g
  exact propext ⟨fun ⟨_, ⟨z, h, e⟩, q⟩ => ⟨z, h, by rw [e]; exact q⟩, fun ⟨z, h, q⟩ => ⟨_, ⟨z, h, rfl⟩, q⟩⟩
@[simp] theorem Ok_lrev : Ok (ev Φ (.lrev a) σ g) Q = Ok (ev Φ a σ g) fun x g => ∃ xs, x = .list xs ∧ Q (.list xs.reverse) g := by
  conv => lhs; unfold ev
  simp only [Ok_bind]
  congr; funext x g
  cases x <;> simp
@[simp] theorem Ok_evs_nil {Q : List D → G → Prop} : Ok (evs Φ .nil σ g) Q = Q [] g := by unfold evs; rfl
@[simp] theorem Ok_evs_cons {Q : List D → G → Prop} : Ok (evs Φ (.cons a as) σ g) Q = Ok (ev Φ a σ g) fun x g => Ok (evs Φ as σ g) fun xs g => Q (x :: xs) g := by
  conv => lhs; unfold evs
  simp only [Ok_bind, Ok_ok]
end
section
variable {Φ : Fns} {fu : Nat} {σ : Sl} {g : G} {Q : Fl → G → Prop} {s b : Sm} {t e k : Ex} {as : Exs} {i : Nat}
theorem Ok_seq : Ok (Pv.run Φ fu (.seq s b) σ g) Q = Ok (Pv.run Φ fu s σ g) (thenF (fun σ g => Ok (Pv.run Φ fu b σ g) Q) Q) := by
  conv => lhs; unfold Pv.run
  simp only [Ok_bind]
  congr; funext fl g
  cases fl <;> rfl
@[simp] theorem Ok_skip : Ok (Pv.run Φ fu .skip σ g) Q = Q (.nx σ) g := rfl
@[simp] theorem Ok_set1 : Ok (Pv.run Φ fu (.set [i] e) σ g) Q = Ok (ev Φ e σ g) fun v g => Q (.nx (σ.set i (some v))) g := by
  conv => lhs; unfold Pv.run
  simp only [Ok_bind, Ok_lift, Ok_ok, setT, Option.some.injEq, exists_eq_left']
@[simp] theorem Ok_set2 {j : Nat} {ts : List Nat} : Ok (Pv.run Φ fu (.set (i :: j :: ts) e) σ g) Q = Ok (ev Φ e σ g) fun v g => ∃ σ', setT (i :: j :: ts) v σ = some σ' ∧ Q (.nx σ') g := by
  conv => lhs; unfold Pv.run
  simp only [Ok_bind, Ok_lift, Ok_ok]
@[simp] theorem Ok_setG {ts : List (List Nat)} : Ok (Pv.run Φ fu (.setG ts e) σ g) Q = Ok (ev Φ e σ g) fun v g => ∃ σ', setG ts v σ = some σ' ∧ Q (.nx σ') g := by
  conv => lhs; unfold Pv.run
  simp only [Ok_bind, Ok_lift, Ok_ok]
@[simp] theorem Ok_par {j : Nat} {a b : Ex} : Ok (Pv.run Φ fu (.par i j a b) σ g) Q = Ok (ev Φ a σ g) fun v g => Ok (ev Φ b σ g) fun w g => Q (.nx ((σ.set i (some v)).set j (some w))) g := by
  conv => lhs; unfold Pv.run
  simp only [Ok_bind, Ok_ok]
@[simp] theorem Ok_par3 {j l : Nat} {a b c : Ex} : Ok (Pv.run Φ fu (.par3 i j l a b c) σ g) Q = Ok (ev Φ a σ g) fun u g => Ok (ev Φ b σ g) fun v g => Ok (ev Φ c σ g) fun w g => Q (.nx (((σ.set i (some u)).set j (some v)).set l (some w))) g := by
  conv => lhs; unfold Pv.run
  simp only [Ok_bind, Ok_ok]
theorem Ok_slot {Q : D → G → Prop} : Ok (slot σ i g) Q = ∃ v, σ[i]? = some (some v) ∧ Q v g := by
  unfold slot
  refine propext ⟨fun h => ?_, fun ⟨v, h, q⟩ => by rw [h]; exact q⟩
  cases e : σ[i]? with
  | none => rw [e] at h; exact h.elim
  | some o => cases o with
    | none => rw [e] at h; exact h.elim
    | some v => rw [e] at h; exact ⟨v, rfl, h⟩
@[simp] theorem Ok_aug {op : Bop} : Ok (Pv.run Φ fu (.aug i op e) σ g) Q = ∃ x, σ[i]? = some (some x) ∧ Ok (ev Φ e σ g) fun y g => ∃ z, augV op x y = some z ∧ Q (.nx (σ.set i (some z))) g := by
  conv => lhs; unfold Pv.run
  simp only [Ok_bind, Ok_ok, Ok_slot, Ok_lift]
@[simp] theorem Ok_setIx : Ok (Pv.run Φ fu (.setIx i k e) σ g) Q = Ok (ev Φ e σ g) fun v g => ∃ d, σ[i]? = some (some d) ∧ Ok (ev Φ k σ g) fun kv g => ∃ d', setIxV d kv v = some d' ∧ Q (.nx (σ.set i (some d'))) g := by
  conv => lhs; unfold Pv.run
  simp only [Ok_bind, Ok_ok, Ok_slot, Ok_lift]
@[simp] theorem Ok_setKey : Ok (Pv.run Φ fu (.setKey i k e) σ g) Q = Ok (ev Φ e σ g) fun v g => ∃ d, σ[i]? = some (some d) ∧ Ok (ev Φ k σ g) fun kv g => ∃ d', setKeyV d kv v = some d' ∧ Q (.nx (σ.set i (some d'))) g := by
  conv => lhs; unfold Pv.run
  simp only [Ok_bind, Ok_ok, Ok_slot, Ok_lift]
@[simp] theorem Ok_app : Ok (Pv.run Φ fu (.app i e) σ g) Q = ∃ x, σ[i]? = some (some x) ∧ Ok (ev Φ e σ g) fun v g => ∃ d, σ[i]? = some (some d) ∧ ∃ d', appV d v = some d' ∧ Q (.nx (σ.set i (some d'))) g := by
  conv => lhs; unfold Pv.run
  simp only [Ok_bind, Ok_ok, Ok_slot, Ok_lift]
@[simp] theorem Ok_ext : Ok (Pv.run Φ fu (.ext i e) σ g) Q = ∃ x, σ[i]? = some (some x) ∧ Ok (ev Φ e σ g) fun v g => ∃ d, σ[i]? = some (some d) ∧ ∃ d', extV d v = some d' ∧ Q (.nx (σ.set i (some d'))) g := by
  conv => lhs; unfold Pv.run
  simp only [Ok_bind, Ok_ok, Ok_slot, Ok_lift]
@[simp] theorem Ok_setd : Ok (Pv.run Φ fu (.setd i k e) σ g) Q = ∃ d, σ[i]? = some (some d) ∧ Ok (ev Φ k σ g) fun kv g => Ok (ev Φ e σ g) fun v g => ∃ d', setdV d kv v = some d' ∧ Q (.nx (σ.set i (some d'))) g := by
  conv => lhs; unfold Pv.run
  simp only [Ok_bind, Ok_ok, Ok_slot, Ok_lift]
@[simp] theorem Ok_sif {a : Sm} : Ok (Pv.run Φ fu (.ite t a b) σ g) Q = Ok (ev Φ t σ g) fun x g => ∃ k : Bool, x = .bool k ∧ if k = true then Ok (Pv.run Φ fu a σ g) Q else Ok (Pv.run Φ fu b σ g) Q := by
  conv => lhs; unfold Pv.run
  simp only [Ok_bind]
  congr; funext x g
  cases x with
  | bool k => cases k <;> simp
  | _ => simp
@[simp] theorem Ok_ret : Ok (Pv.run Φ fu (.ret e) σ g) Q = Ok (ev Φ e σ g) fun v g => Q (.rt v) g := by
  conv => lhs; unfold Pv.run
  simp only [Ok_bind, Ok_ok]
@[simp] theorem Ok_brk : Ok (Pv.run Φ fu .brk σ g) Q = Q (.bk σ) g := rfl
@[simp] theorem Ok_cnt : Ok (Pv.run Φ fu .cnt σ g) Q = Q (.ct σ) g := rfl
@[simp] theorem Ok_sex : Ok (Pv.run Φ fu (.ex e) σ g) Q = Ok (ev Φ e σ g) fun _ g => Q (.nx σ) g := by
  conv => lhs; unfold Pv.run
  simp only [Ok_bind, Ok_ok]
/-- one turn of a loop -/
def turnF (Φ : Fns) (fu : Nat) (t : List Nat) (b : Sm) (x : D) (σ : Sl) (g : G) : Res Fl := (lift (setT t x σ) g).bind fun σ g => Pv.run Φ fu b σ g
@[simp] theorem Ok_turnF {t : List Nat} {x : D} : Ok (turnF Φ fu t b x σ g) Q = ∃ σ', setT t x σ = some σ' ∧ Ok (Pv.run Φ fu b σ' g) Q := by
  unfold turnF
  simp only [Ok_bind, Ok_lift]
theorem Ok_for {t : List Nat} {k : Ik} : Ok (Pv.run Φ fu (.forr t k as b) σ g) Q = Ok (evs Φ as σ g) fun vs g => ∃ xs, itV k vs = some xs ∧ Ok (forL (turnF Φ fu t b) xs σ g) Q := by
  conv => lhs; unfold Pv.run
  simp only [Ok_bind, Ok_lift]; rfl
theorem Ok_while : Ok (Pv.run Φ fu (.whil t b) σ g) Q = Ok (whileL (fun σ g => ev Φ t σ g) (fun σ g => Pv.run Φ fu b σ g) fu σ g) Q := by
  conv => lhs; unfold Pv.run
end
/-! ### loops -/
/-- a loop over items: the invariant knows how many are behind -/
theorem ok_forL {f : D → Sl → G → Res Fl} {Q : Fl → G → Prop} (I : Nat → Sl → G → Prop) : ∀ {xs : List D} {σ : Sl} {g : G}, I 0 σ g → (∀ k x σ g, xs[k]? = some x → I k σ g → Ok (f x σ g) (loopF (I (k + 1)) Q)) → (∀ σ g, I xs.length σ g → Q (.nx σ) g) → Ok (forL f xs σ g) Q := by
  intro xs
  induction xs generalizing I with
  | nil => exact fun h0 _ h2 => h2 _ _ h0
  | cons x xs ih =>
    intro σ g h0 h1 h2
    show Ok ((f x σ g).bind _) Q
    rw [Ok_bind]
    refine (h1 0 x σ g rfl h0).mono fun fl g h => ?_
    cases fl with
    | nx σ => exact ih (fun k => I (k + 1)) h (fun k y σ g hy hi => h1 (k + 1) y σ g (by rw [List.getElem?_cons_succ]; exact hy) hi) h2
    | ct σ => exact ih (fun k => I (k + 1)) h (fun k y σ g hy hi => h1 (k + 1) y σ g (by rw [List.getElem?_cons_succ]; exact hy) hi) h2
    | bk σ => exact h
    | rt v => exact h
/-- a loop with a test: the invariant knows a measure -/
theorem ok_whileL {c : Sl → G → Res D} {b : Sl → G → Res Fl} {Q : Fl → G → Prop} (I : Nat → Sl → G → Prop)
    (h : ∀ m σ g, I m σ g → Ok (c σ g) fun v g => ∃ k : Bool, v = .bool k ∧ if k = true then Ok (b σ g) (loopF (fun σ g => ∃ m', m' < m ∧ I m' σ g) Q) else Q (.nx σ) g) :
    ∀ (n m : Nat) {σ : Sl} {g : G}, m < n → I m σ g → Ok (whileL c b n σ g) Q := by
  intro n
  induction n with
  | zero => exact fun m _ _ h _ => absurd h (Nat.not_lt_zero _)
  | succ n ih =>
    intro m σ g hm hI
    show Ok ((c σ g).bind _) Q
    rw [Ok_bind]
    refine (h m σ g hI).mono ?_
    rintro _ g1 ⟨k, rfl, h1⟩
    cases k with
    | false => simpa using h1
    | true =>
      rw [if_pos rfl] at h1
      show Ok ((b σ g1).bind _) Q
      rw [Ok_bind]
      refine h1.mono fun fl g2 h2 => ?_
      cases fl with
      | nx σ =>
        obtain ⟨m', h3, h4⟩ := h2
        exact ih m' (by omega) h4
      | ct σ =>
        obtain ⟨m', h3, h4⟩ := h2
        exact ih m' (by omega) h4
      | bk σ => exact h2
      | rt v => exact h2
/-- a comprehension: every item is shown, the deck may change -/
theorem ok_compL {f : D → G → Res (Option D)} {Q : List D → G → Prop} (I : Nat → List D → G → Prop) : ∀ {xs acc : List D} {g : G}, I 0 acc.reverse g → (∀ k x ys g, xs[k]? = some x → I k ys g → Ok (f x g) fun o g => I (k + 1) (ys ++ o.toList) g) → (∀ ys g, I xs.length ys g → Q ys g) → Ok (compL f xs acc g) Q := by
  intro xs
  induction xs generalizing I with
  | nil => exact fun h0 _ h2 => h2 _ _ h0
  | cons x xs ih =>
    intro acc g h0 h1 h2
    show Ok ((f x g).bind _) Q
    rw [Ok_bind]
    refine (h1 0 x _ g rfl h0).mono fun o g h => ?_
    cases o with
    | none => exact ih (fun k => I (k + 1)) (by simpa using h) (fun k y ys g hy hi => h1 (k + 1) y ys g (by rw [List.getElem?_cons_succ]; exact hy) hi) h2
    | some y => exact ih (fun k => I (k + 1)) (acc := y :: acc) (by simpa using h) (fun k y ys g hy hi => h1 (k + 1) y ys g (by rw [List.getElem?_cons_succ]; exact hy) hi) h2
/-- .. items that leave the deck alone -/
theorem ok_compM {α β : Type} {em : α → D} {eo : β → D} {f : D → G → Res (Option D)} {u : α → Option β} {xs : List α} {g : G} {Q : List D → G → Prop} (h : ∀ x ∈ xs, Ok (f (em x) g) fun o g' => o = (u x).map eo ∧ g' = g) (q : Q ((xs.filterMap u).map eo) g) : Ok (compL f (xs.map em) [] g) Q := by
  rw [compL_eq (em := em) (eo := eo) (u := u) (acc := []) fun x hx => (h x hx).eq]
  exact q
/-! ### values -/
section
variable {i j : Int}
@[simp] theorem binV_add : binV .add (.int i) (.int j) = some (.int (i + j)) := rfl
@[simp] theorem binV_sub : binV .sub (.int i) (.int j) = some (.int (i - j)) := rfl
@[simp] theorem binV_mul : binV .mul (.int i) (.int j) = if mulOk i j then some (.int (i * j)) else none := rfl
@[simp] theorem binV_mod : binV .mod (.int i) (.int j) = if 0 < j then some (.int (i % j)) else none := by simp [binV]
@[simp] theorem binV_fdiv : binV .fdiv (.int i) (.int j) = if 0 < j ∧ j.natAbs.log2 < 9000 then some (.int (i / j)) else if j < 0 ∧ j.natAbs.log2 < 9000 then some (.int (i.fdiv j)) else none := by simp [binV]
@[simp] theorem binV_pow : binV .pow (.int i) (.int j) = if powOk i j then some (.int (i ^ j.toNat)) else none := rfl
@[simp] theorem cmpV_eq : cmpV .eq (.int i) (.int j) = some (decide (i = j)) := rfl
@[simp] theorem cmpV_ne : cmpV .ne (.int i) (.int j) = some (!decide (i = j)) := rfl
@[simp] theorem cmpV_lt : cmpV .lt (.int i) (.int j) = some (decide (i < j)) := rfl
@[simp] theorem cmpV_gt : cmpV .gt (.int i) (.int j) = some (decide (j < i)) := rfl
@[simp] theorem cmpV_le : cmpV .le (.int i) (.int j) = some (decide (i ≤ j)) := rfl
@[simp] theorem cmpV_ge : cmpV .ge (.int i) (.int j) = some (decide (j ≤ i)) := rfl
@[simp] theorem truV_int : truV (.int i) = some (i != 0) := rfl
@[simp] theorem truV_bool {b : Bool} : truV (.bool b) = some b := rfl
@[simp] theorem truV_none : truV .none = some false := rfl
@[simp] theorem augV_add : augV .add (.int i) (.int j) = some (.int (i + j)) := rfl
@[simp] theorem augV_sub : augV .sub (.int i) (.int j) = some (.int (i - j)) := rfl
@[simp] theorem biV_toInt : biV .toInt [.int i] = some (.int i) := rfl
@[simp] theorem biV_abs : biV .abs [.int i] = some (.int (if i < 0 then -i else i)) := rfl
@[simp] theorem biV_min : biV .min2 [.int i, .int j] = some (.int (if j < i then j else i)) := rfl
@[simp] theorem biV_max : biV .max2 [.int i, .int j] = some (.int (if i < j then j else i)) := rfl
@[simp] theorem biV_len {xs : List D} : biV .len [.list xs] = some (.int xs.length) := rfl
@[simp] theorem biV_lenT {xs : List D} : biV .len [.tuple xs] = some (.int xs.length) := rfl
@[simp] theorem biV_tup {xs : List D} : biV .toTuple [.list xs] = some (.tuple xs) := rfl
@[simp] theorem biV_tupT {xs : List D} : biV .toTuple [.tuple xs] = some (.tuple xs) := rfl
@[simp] theorem biV_lst {xs : List D} : biV .toList [.list xs] = some (.list xs) := rfl
@[simp] theorem biV_lstT {xs : List D} : biV .toList [.tuple xs] = some (.list xs) := rfl
@[simp] theorem setT_1 {k : Nat} {v : D} {σ : Sl} : setT [k] v σ = some (σ.set k (some v)) := rfl
@[simp] theorem setT_2 {k l : Nat} {v w : D} {σ : Sl} : setT [k, l] (.tuple [v, w]) σ = some ((σ.set k (some v)).set l (some w)) := rfl
@[simp] theorem setT_3 {k l m : Nat} {v w x : D} {σ : Sl} : setT [k, l, m] (.tuple [v, w, x]) σ = some (((σ.set k (some v)).set l (some w)).set m (some x)) := rfl
@[simp] theorem setT_2l {k l : Nat} {v w : D} {σ : Sl} : setT [k, l] (.list [v, w]) σ = some ((σ.set k (some v)).set l (some w)) := rfl
@[simp] theorem setT_3l {k l m : Nat} {v w x : D} {σ : Sl} : setT [k, l, m] (.list [v, w, x]) σ = some (((σ.set k (some v)).set l (some w)).set m (some x)) := rfl
@[simp] theorem setT_4 {k l m n : Nat} {v w x y : D} {σ : Sl} : setT [k, l, m, n] (.tuple [v, w, x, y]) σ = some ((((σ.set k (some v)).set l (some w)).set m (some x)).set n (some y)) := rfl
@[simp] theorem mulOk_l' (h : i.natAbs < 18446744073709551616) : mulOk i j = true := by
  unfold mulOk
  rw [decide_eq_true h, Bool.true_or, Bool.true_or]
@[simp] theorem mulOk_r' (h : j.natAbs < 18446744073709551616) : mulOk i j = true := by
  unfold mulOk
  rw [decide_eq_true h, Bool.or_true, Bool.true_or]
end
theorem idx_list {xs : List D} {n : Nat} {x : D} (h : xs[n]? = some x) : idxV (.list xs) (.int n) = some x := L2.atI_nat h
theorem idx_tuple {xs : List D} {n : Nat} {x : D} (h : xs[n]? = some x) : idxV (.tuple xs) (.int n) = some x := L2.atI_nat h
end Pv
end

section
/-! PvU: sizes of ints, common divisors, the decks and draws of another family, forms as values. -/
set_option autoImplicit false
namespace Pv
open PySem

/-! ### sizes -/
def Sz (k : Nat) (i : Int) : Prop := i.natAbs < 2 ^ k
theorem Sz.mono {k l : Nat} {i : Int} (h : Sz k i) (hl : k ≤ l) : Sz l i := Nat.lt_of_lt_of_le h (Nat.pow_le_pow_right (by omega) hl)
theorem Sz.mul {k l : Nat} {i j : Int} (h : Sz k i) (h2 : Sz l j) : Sz (k + l) (i * j) := by
  unfold Sz at *
  rw [Int.natAbs_mul, Nat.pow_add]
  exact Nat.mul_lt_mul'' h h2
theorem Sz.add {k l : Nat} {i j : Int} (h : Sz k i) (h2 : Sz l j) : Sz (max k l + 1) (i + j) := by
  have h := h.mono (Nat.le_max_left k l)
  have h2 := h2.mono (Nat.le_max_right k l)
  unfold Sz at *
  rw [Nat.pow_succ]
  omega
theorem Sz.sub {k l : Nat} {i j : Int} (h : Sz k i) (h2 : Sz l j) : Sz (max k l + 1) (i - j) := by
  have h := h.mono (Nat.le_max_left k l)
  have h2 := h2.mono (Nat.le_max_right k l)
  unfold Sz at *
  rw [Nat.pow_succ]
  omega
theorem Sz.neg {k : Nat} {i : Int} (h : Sz k i) : Sz k (-i) := by unfold Sz at *; omega
theorem Sz.log {k : Nat} {i : Int} (h : Sz k i) : i.natAbs.log2 ≤ k := by
  unfold Sz at h
  by_cases z : i.natAbs = 0
  · rw [z]; exact Nat.zero_le _
  · exact Nat.le_of_lt ((Nat.log2_lt z).mpr h)
theorem mulOk_sz {k l : Nat} {i j : Int} (h : Sz k i) (h2 : Sz l j) (hk : k + l < 1000000) : mulOk i j = true := by
  have := h.log
  have := h2.log
  unfold mulOk
  rw [decide_eq_true (show i.natAbs.log2 + j.natAbs.log2 < 1000000 by omega), Bool.or_true]
theorem mulOk_1 {i j : Int} (h1 : -18446744073709551616 < i) (h2 : i < 18446744073709551616) : mulOk i j = true := mulOk_l (by omega)
theorem mulOk_2 {i j : Int} (h1 : -18446744073709551616 < j) (h2 : j < 18446744073709551616) : mulOk i j = true := mulOk_r (by omega)

/-! ### Euclid -/
/-- a step of Euclid on numbers that are not negative -/
def euOk (n : Nat) (a b : Int) : Prop := 0 ≤ b ∧ b ≤ a ∧ a * b < 2 ^ n
theorem euOk.next {n : Nat} {a b : Int} (h : euOk n a b) (hb : b ≠ 0) : ∃ m, n = m + 1 ∧ euOk m b (a % b) := by
  obtain ⟨h0, h1, h2⟩ := h
  have b0 : 0 < b := by omega
  have r0 := Int.emod_nonneg a hb
  have r1 := Int.emod_lt_of_pos a b0
  have e := Int.emod_add_mul_ediv a b
  have q1 : 1 ≤ a / b := (Int.le_ediv_iff_mul_le b0).mpr (by omega)
  have q2 : b * 1 ≤ b * (a / b) := Int.mul_le_mul_of_nonneg_left q1 h0
  have a2 : 2 * (a % b) ≤ a := by omega
  have p1 : b * (2 * (a % b)) ≤ b * a := Int.mul_le_mul_of_nonneg_left a2 h0
  have p2 : b * (2 * (a % b)) = 2 * (b * (a % b)) := by grind
  have p3 : b * a = a * b := Int.mul_comm _ _
  cases n with
  | zero =>
    have : 0 < a * b := Int.mul_pos (by omega) b0
    simp at h2
    omega
  | succ m =>
    refine ⟨m, rfl, r0, by omega, ?_⟩
    have e2 : (2 : Int) ^ (m + 1) = 2 ^ m * 2 := Int.pow_succ ..
    omega
theorem euOk.start {k l : Nat} {a b : Int} (ha : 0 ≤ a) (hb : 0 ≤ b) (h : Sz k a) (h2 : Sz l b) (hab : b ≤ a) : euOk (k + l) a b := by
  refine ⟨hb, hab, ?_⟩
  have := h.mul h2
  unfold Sz at this
  have p : 0 ≤ a * b := Int.mul_nonneg ha hb
  have e : ((2 ^ (k + l) : Nat) : Int) = 2 ^ (k + l) := by norm_cast
  omega
theorem gcd_step {a b : Int} (hb : 0 ≤ b) : Int.gcd b (a % b) = Int.gcd a b := by
  rw [Int.gcd_comm a b]
  rcases Int.lt_or_eq_of_le hb with h | h
  · rw [Int.emod_def, Int.gcd_comm b, Int.gcd_comm b]
    have : a - b * (a / b) = a + b * (-(a / b)) := by grind
    rw [this, Int.gcd_add_mul_left_left]
  · rw [← h, Int.emod_zero]
theorem abs_ite (a : Int) : (if a < 0 then -a else a) = (a.natAbs : Int) := by split <;> omega

/-! ### forms as values -/
abbrev Fm := Int × Int × Int
def fL (f : Fm) : List Int := [f.1, f.2.1, f.2.2]
def fD (f : Fm) : D := .tuple [.int f.1, .int f.2.1, .int f.2.2]
theorem tupD_f (f : Fm) : tupD (fL f) = fD f := rfl
/-- items drawn by a pick -/
theorem atI_nn {α : Type} {xs : List α} {i : Int} {x : α} (h0 : 0 ≤ i) (h : xs[i.toNat]? = some x) : L2.atI xs i = some x := by
  have e : i = (i.toNat : Int) := by omega
  rw [e]; exact L2.atI_nat h
theorem idx_t {xs : List D} {i : Int} (h0 : 0 ≤ i) (h1 : i < xs.length) : ∃ x, x ∈ xs ∧ idxV (.tuple xs) (.int i) = some x := by
  have h : i.toNat < xs.length := by omega
  exact ⟨xs[i.toNat], List.getElem_mem h, atI_nn h0 (List.getElem?_eq_getElem h)⟩
theorem idx_l {xs : List D} {i : Int} (h0 : 0 ≤ i) (h1 : i < xs.length) : ∃ x, x ∈ xs ∧ idxV (.list xs) (.int i) = some x := by
  have h : i.toNat < xs.length := by omega
  exact ⟨xs[i.toNat], List.getElem_mem h, atI_nn h0 (List.getElem?_eq_getElem h)⟩
end Pv
end

section
/-! PvV: forms and matrices, plain: led forms, reduced forms, there is just one in a class. -/
set_option autoImplicit false
namespace Pv
open PySem

abbrev Mx := Int × Int × Int × Int
def val (f : Fm) (x y : Int) : Int := f.1 * x * x + f.2.1 * x * y + f.2.2 * y * y
def ledF (f : Fm) (m : Mx) : Fm :=
  (f.1 * m.1 * m.1 + f.2.1 * m.1 * m.2.2.1 + f.2.2 * m.2.2.1 * m.2.2.1,
   2 * f.1 * m.1 * m.2.1 + f.2.1 * (m.1 * m.2.2.2 + m.2.1 * m.2.2.1) + 2 * f.2.2 * m.2.2.1 * m.2.2.2,
   f.1 * m.2.1 * m.2.1 + f.2.1 * m.2.1 * m.2.2.2 + f.2.2 * m.2.2.2 * m.2.2.2)
def mulM (m n : Mx) : Mx := (m.1 * n.1 + m.2.1 * n.2.2.1, m.1 * n.2.1 + m.2.1 * n.2.2.2, m.2.2.1 * n.1 + m.2.2.2 * n.2.2.1, m.2.2.1 * n.2.1 + m.2.2.2 * n.2.2.2)
def det (m : Mx) : Int := m.1 * m.2.2.2 - m.2.1 * m.2.2.1
def disc (f : Fm) : Int := f.2.1 * f.2.1 - 4 * f.1 * f.2.2
def invM (m : Mx) : Mx := (m.2.2.2, -m.2.1, -m.2.2.1, m.1)
def oneM : Mx := (1, 0, 0, 1)
def mD (m : Mx) : D := .tuple [.int m.1, .int m.2.1, .int m.2.2.1, .int m.2.2.2]
theorem det_mul (m n : Mx) : det (mulM m n) = det m * det n := by
  obtain ⟨g, h, i, j⟩ := m
  obtain ⟨k, l, o, p⟩ := n
  simp only [det, mulM]
  grind
theorem disc_led (f : Fm) (m : Mx) : disc (ledF f m) = det m * det m * disc f := by
  obtain ⟨a, b, c⟩ := f
  obtain ⟨g, h, i, j⟩ := m
  simp only [det, ledF, disc]
  grind
theorem led_mul (f : Fm) (m n : Mx) : ledF (ledF f m) n = ledF f (mulM m n) := by
  obtain ⟨a, b, c⟩ := f
  obtain ⟨g, h, i, j⟩ := m
  obtain ⟨k, l, o, p⟩ := n
  simp only [ledF, mulM, Prod.mk.injEq]
  refine ⟨?_, ?_, ?_⟩ <;> grind
theorem mul_assoc' (l m n : Mx) : mulM (mulM l m) n = mulM l (mulM m n) := by
  obtain ⟨g, h, i, j⟩ := m
  obtain ⟨k, l', o, p⟩ := n
  obtain ⟨q, r, s, t⟩ := l
  simp only [mulM, Prod.mk.injEq]
  refine ⟨?_, ?_, ?_, ?_⟩ <;> grind
theorem mul_inv {m : Mx} (h : det m = 1) : mulM m (invM m) = oneM := by
  obtain ⟨g, h', i, j⟩ := m
  simp only [det] at h
  simp only [mulM, invM, oneM, Prod.mk.injEq]
  refine ⟨?_, ?_, ?_, ?_⟩ <;> grind
theorem inv_mul {m : Mx} (h : det m = 1) : mulM (invM m) m = oneM := by
  obtain ⟨g, h', i, j⟩ := m
  simp only [det] at h
  simp only [mulM, invM, oneM, Prod.mk.injEq]
  refine ⟨?_, ?_, ?_, ?_⟩ <;> grind
theorem det_inv (m : Mx) : det (invM m) = det m := by
  obtain ⟨g, h', i, j⟩ := m
  simp only [det, invM]
  grind
theorem led_one (f : Fm) : ledF f oneM = f := by
  obtain ⟨a, b, c⟩ := f
  simp [ledF, oneM]
theorem mul_one' (m : Mx) : mulM m oneM = m := by
  obtain ⟨g, h', i, j⟩ := m
  simp [mulM, oneM]
theorem one_mul' (m : Mx) : mulM oneM m = m := by
  obtain ⟨g, h', i, j⟩ := m
  simp [mulM, oneM]
theorem val_led (f : Fm) (m : Mx) (x y : Int) : val (ledF f m) x y = val f (m.1 * x + m.2.1 * y) (m.2.2.1 * x + m.2.2.2 * y) := by
  obtain ⟨a, b, c⟩ := f
  obtain ⟨g, h, i, j⟩ := m
  simp only [ledF, val]
  grind
/-- reduced -/
structure Red (f : Fm) : Prop where
  a0 : 0 < f.1
  lo : -f.1 < f.2.1
  hi : f.2.1 ≤ f.1
  ac : f.1 ≤ f.2.2
  eq : f.1 = f.2.2 → 0 ≤ f.2.1
theorem mulL {x y z : Int} (h : x ≤ y) (hz : 0 ≤ z) : z * x ≤ z * y := Int.mul_le_mul_of_nonneg_left h hz
theorem sq_nn (x : Int) : 0 ≤ x * x := by
  by_cases h : 0 ≤ x
  · exact Int.mul_nonneg h h
  · have := Int.mul_nonneg (a := -x) (b := -x) (by omega) (by omega)
    grind
theorem sq_pos {x : Int} (h : x ≠ 0) : 1 ≤ x * x := by
  have := sq_nn x
  have : x * x ≠ 0 := fun z => by rcases Int.mul_eq_zero.mp z with q | q <;> exact h q
  omega
theorem prod1 {x y : Int} (h : 1 ≤ x) (h2 : 1 ≤ y) : 1 ≤ x * y := by
  have := mulL h2 (show 0 ≤ x by omega)
  omega
theorem low {a b c g i : Int} (a0 : 0 < a) (h1 : -a ≤ b) (h2 : b ≤ a) (h3 : a ≤ c) (hi : i ≠ 0) : c ≤ a * g * g + b * g * i + c * i * i := by
  have i1 : 1 ≤ i * i := sq_pos hi
  by_cases hg : g = 0
  · subst hg
    have : c * 1 ≤ c * (i * i) := mulL i1 (by omega)
    grind
  · -- with P = |g|, Q = |i|
    obtain ⟨P, hP, hP1, hPg⟩ : ∃ P : Int, P * P = g * g ∧ 1 ≤ P ∧ (P = g ∨ P = -g) := by
      rcases Int.lt_or_gt_of_ne hg with h | h
      · exact ⟨-g, by grind, by omega, .inr rfl⟩
      · exact ⟨g, rfl, by omega, .inl rfl⟩
    obtain ⟨Q, hQ, hQ1, hQi⟩ : ∃ Q : Int, Q * Q = i * i ∧ 1 ≤ Q ∧ (Q = i ∨ Q = -i) := by
      rcases Int.lt_or_gt_of_ne hi with h | h
      · exact ⟨-i, by grind, by omega, .inr rfl⟩
      · exact ⟨i, rfl, by omega, .inl rfl⟩
    have pq : 1 ≤ P * Q := prod1 hP1 hQ1
    have bb : -(a * (P * Q)) ≤ b * (g * i) := by
      have s1 : b * (P * Q) ≤ a * (P * Q) := Int.mul_le_mul_of_nonneg_right h2 (by omega)
      have s2 : (-a) * (P * Q) ≤ b * (P * Q) := Int.mul_le_mul_of_nonneg_right h1 (by omega)
      have gi : g * i = P * Q ∨ g * i = -(P * Q) := by
        rcases hPg with e1 | e1 <;> rcases hQi with e2 | e2 <;> rw [e1, e2]
        · left; rfl
        · right; rw [Int.mul_neg, Int.neg_neg]
        · right; rw [Int.neg_mul, Int.neg_neg]
        · left; rw [Int.neg_mul_neg]
      rw [Int.neg_mul] at s2
      rcases gi with e1 | e1 <;> rw [e1]
      · omega
      · rw [Int.mul_neg]; omega
    have sq : 0 ≤ (P - Q) * (P - Q) := sq_nn _
    have t1 : 0 ≤ a * ((P - Q) * (P - Q)) := Int.mul_nonneg (by omega) sq
    have t2 : 0 ≤ (c - a) * (Q * Q - 1) := Int.mul_nonneg (by omega) (by omega)
    have t3 : 0 ≤ a * (P * Q - 1) := Int.mul_nonneg (by omega) (by omega)
    have id : a * g * g + b * g * i + c * i * i - c = a * ((P - Q) * (P - Q)) + (c - a) * (Q * Q - 1) + a * (P * Q - 1) + (b * (g * i) + a * (P * Q)) := by grind
    omega
theorem min_a {f : Fm} (r : Red f) {g i : Int} (h : ¬ (g = 0 ∧ i = 0)) : f.1 ≤ val f g i := by
  by_cases hi : i = 0
  · subst hi
    have hg : g ≠ 0 := fun z => h ⟨z, rfl⟩
    have g1 : 1 ≤ g * g := sq_pos hg
    have := mulL g1 (show 0 ≤ f.1 by have := r.a0; omega)
    unfold val
    grind
  · have := low (g := g) r.a0 (by have := r.lo; omega) r.hi r.ac hi
    have := r.ac
    unfold val
    omega
theorem gauss {f f' : Fm} {m : Mx} (r : Red f) (r' : Red f') (e : f' = ledF f m) (d : det m = 1) : f' = f := by
  have back : f = ledF f' (invM m) := by rw [e, led_mul, mul_inv d, led_one]
  obtain ⟨g, h, i, j⟩ := m
  have d0 : g * j - h * i = 1 := d
  have a1 : f.1 ≤ f'.1 := by
    have := min_a r (g := g) (i := i) (by rintro ⟨rfl, rfl⟩; simp at d0)
    rw [e]; exact this
  have a2 : f'.1 ≤ f.1 := by
    have := min_a r' (g := j) (i := -i) (by
      rintro ⟨rfl, z⟩
      have z2 : i = 0 := by omega
      rw [z2, Int.mul_zero, Int.mul_zero] at d0
      omega)
    rw [back]; exact this
  have dd : disc f' = disc f := by rw [e, disc_led, d]; omega
  have ea : f'.1 = f.1 := by omega
  by_cases hi : i = 0
  · subst hi
    have e2 : f'.2.1 = 2 * f.1 * g * h + f.2.1 * (g * j + h * 0) + 2 * f.2.2 * 0 * j := by rw [e]; rfl
    have gj : g * j = 1 := by grind
    have e3 : f'.2.1 = f.2.1 + 2 * f.1 * (g * h) := by grind
    have l1 := r.lo; have l2 := r.hi; have l3 := r'.lo; have l4 := r'.hi; have a0 := r.a0
    have t0 : g * h = 0 := by
      generalize g * h = t at e3
      rcases Int.lt_trichotomy t 0 with q | q | q
      · have := mulL (show t ≤ -1 by omega) (show 0 ≤ 2 * f.1 by omega)
        omega
      · exact q
      · have := mulL (show 1 ≤ t by omega) (show 0 ≤ 2 * f.1 by omega)
        omega
    have eb : f'.2.1 = f.2.1 := by rw [e3, t0]; omega
    have ec : f'.2.2 = f.2.2 := by
      unfold disc at dd
      rw [eb, ea] at dd
      have : f.1 * (f'.2.2 - f.2.2) = 0 := by grind
      rcases Int.mul_eq_zero.mp this with q | q <;> omega
    exact Prod.ext ea (Prod.ext eb ec)
  · have c1 : f.2.2 ≤ f'.1 := by
      have := low (g := g) r.a0 (by have := r.lo; omega) r.hi r.ac hi
      rw [e]; exact this
    have c2 : f'.2.2 ≤ f.1 := by
      have := low (g := j) (i := -i) r'.a0 (by have := r'.lo; omega) r'.hi r'.ac (by omega)
      rw [back]; exact this
    have := r.ac; have := r'.ac
    have ec : f'.2.2 = f.2.2 := by omega
    have b0 := r.eq (by omega)
    have b0' := r'.eq (by omega)
    have eb : f'.2.1 = f.2.1 := by
      unfold disc at dd
      rw [ec, ea] at dd
      have : (f'.2.1 - f.2.1) * (f'.2.1 + f.2.1) = 0 := by grind
      rcases Int.mul_eq_zero.mp this with q | q <;> omega
    exact Prod.ext ea (Prod.ext eb ec)
/-- one step towards the reduced form -/
def shiftF (f : Fm) : Int := (f.1 - f.2.1) / (2 * f.1)
def stepM (f : Fm) : Option Mx := if shiftF f ≠ 0 then some (1, shiftF f, 0, 1) else if f.2.2 < f.1 ∨ (f.1 = f.2.2 ∧ f.2.1 < 0) then some (0, -1, 1, 0) else none
theorem step_det {f : Fm} {m : Mx} (h : stepM f = some m) : det m = 1 := by
  unfold stepM at h
  split at h
  · cases h; simp [det]
  · split at h
    · cases h; simp [det]
    · cases h
theorem shift_zero {f : Fm} (a0 : 0 < f.1) : shiftF f = 0 ↔ -f.1 < f.2.1 ∧ f.2.1 ≤ f.1 := by
  unfold shiftF
  have e := Int.emod_add_mul_ediv (f.1 - f.2.1) (2 * f.1)
  have r0 := Int.emod_nonneg (f.1 - f.2.1) (show 2 * f.1 ≠ 0 by omega)
  have r1 := Int.emod_lt_of_pos (f.1 - f.2.1) (show 0 < 2 * f.1 by omega)
  constructor
  · intro z
    rw [z] at e
    omega
  · rintro ⟨h1, h2⟩
    exact Int.ediv_eq_zero_of_lt (by omega) (by omega)
theorem step_none {f : Fm} (a0 : 0 < f.1) (h : stepM f = none) : Red f := by
  unfold stepM at h
  split at h
  · cases h
  · rename_i z
    have z := (shift_zero a0).mp (by simpa using z)
    split at h
    · cases h
    · rename_i w
      exact ⟨a0, z.1, z.2, by omega, fun q => by omega⟩
/-- how far it is -/
def mu (d : Int) (a : Int) : Nat := if a ≤ -d then a.toNat else (-d).toNat + a.natAbs.log2
def far (f : Fm) : Nat := 4 * mu (disc f) f.1 + (if shiftF f ≠ 0 then 2 else 0) + (if f.1 = f.2.2 ∧ f.2.1 < 0 then 1 else 0)
theorem mu_lt {d a c : Int} (hd : d ≤ -3) (a0 : 0 < a) (c0 : 0 < c) (h : c < a) (hq : -d < a → 2 * c ≤ a) : mu d c < mu d a := by
  unfold mu
  by_cases w : a ≤ -d
  · rw [if_pos w, if_pos (by omega)]; omega
  · rw [if_neg w]
    have q := hq (by omega)
    have la : 1 ≤ a.natAbs.log2 := (Nat.le_log2 (by omega)).mpr (by omega)
    by_cases w2 : c ≤ -d
    · rw [if_pos w2]; omega
    · rw [if_neg w2]
      have l1 : 2 ^ c.natAbs.log2 ≤ c.natAbs := Nat.log2_self_le (by omega)
      have : c.natAbs.log2 + 1 ≤ a.natAbs.log2 := (Nat.le_log2 (by omega)).mpr (by rw [Nat.pow_succ]; omega)
      omega
theorem step_far {f : Fm} {m : Mx} (a0 : 0 < f.1) (hd : disc f ≤ -3) (h : stepM f = some m) : far (ledF f m) < far f ∧ 0 < (ledF f m).1 := by
  have dd : disc (ledF f m) = disc f := by rw [disc_led, step_det h]; omega
  obtain ⟨a, b, c⟩ := f
  unfold disc at hd
  simp only at a0 hd
  unfold stepM at h
  split at h
  · rename_i z
    cases h
    have e : ledF (a, b, c) (1, shiftF (a, b, c), 0, 1) = (a, b + 2 * a * shiftF (a, b, c), a * shiftF (a, b, c) * shiftF (a, b, c) + b * shiftF (a, b, c) + c) := by
      simp only [ledF, Prod.mk.injEq]
      refine ⟨?_, ?_, ?_⟩ <;> grind
    have s0 : shiftF (ledF (a, b, c) (1, shiftF (a, b, c), 0, 1)) = 0 := by
      refine (shift_zero ?_).mpr ?_
      · rw [e]; exact a0
      · rw [e]
        unfold shiftF
        simp only
        have q := Int.emod_add_mul_ediv (a - b) (2 * a)
        have r0 := Int.emod_nonneg (a - b) (show 2 * a ≠ 0 by omega)
        have r1 := Int.emod_lt_of_pos (a - b) (show 0 < 2 * a by omega)
        omega
    refine ⟨?_, by rw [e]; exact a0⟩
    unfold far
    rw [dd, s0, if_pos z]
    have ea : (ledF (a, b, c) (1, shiftF (a, b, c), 0, 1)).1 = a := by rw [e]
    rw [ea]
    simp only [ne_eq, not_true, if_false]
    split <;> split <;> omega
  · rename_i z
    have z0 : shiftF (a, b, c) = 0 := by simpa using z
    have zz := (shift_zero a0).mp z0
    simp only at zz
    split at h
    · rename_i w
      cases h
      have e : ledF (a, b, c) (0, -1, 1, 0) = (c, -b, a) := by
        simp only [ledF, Prod.mk.injEq]
        refine ⟨?_, ?_, ?_⟩ <;> grind
      have c0 : 0 < c := by
        have bb : 0 ≤ b * b := sq_nn b
        by_cases h : 0 < c
        · exact h
        · have := Int.mul_nonneg (a := 4 * a) (b := -c) (by omega) (by omega)
          grind
      rw [e]
      refine ⟨?_, c0⟩
      unfold far
      rw [← e, dd, e, z0]
      simp only [ne_eq, not_true, if_false]
      rcases w with w | w
      · have w : c < a := w
        have hm : mu (disc (a, b, c)) c < mu (disc (a, b, c)) a := by
          refine mu_lt hd a0 c0 w fun q => ?_
          unfold disc at q
          simp only at q
          have b2 : b * b ≤ a * a := by
            have s1 : 0 ≤ (a - b) * (a + b) := Int.mul_nonneg (by omega) (by omega)
            grind
          -- 4 a c < a a + a
          by_cases hc : 2 * c ≤ a
          · exact hc
          · have s2 : 4 * a * c < a + b * b := by omega
            have s3 : 4 * a * c < a + a * a := by omega
            have s4 : a * (a + 1) ≤ a * (2 * c) := mulL (by omega) (by omega)
            have s5 : 0 ≤ a * (2 * c - 1) := Int.mul_nonneg (by omega) (by omega)
            grind
        split <;> split <;> omega
      · have w : a = c ∧ b < 0 := w
        have s1 : shiftF (c, -b, a) = 0 := (shift_zero (f := (c, -b, a)) c0).mpr ⟨by simp only; omega, by simp only; omega⟩
        rw [s1, ← w.1]
        simp only [ne_eq, not_true, if_false]
        rw [if_neg (show ¬ (True ∧ -b < 0) by omega), if_pos (show True ∧ b < 0 from ⟨trivial, w.2⟩)]
        omega
    · cases h
theorem far_le {f : Fm} {k : Nat} (h : Sz k f.1) (hd : -20000 ≤ disc f) : far f ≤ 4 * (20000 + k) + 80003 := by
  unfold far
  have : mu (disc f) f.1 ≤ 40000 + k := by
    unfold mu
    have := h.log
    split <;> omega
  split <;> split <;> omega
end Pv
end

section
/-! PvW: sizes on the way to the reduced form. -/
set_option autoImplicit false
namespace Pv
open PySem
def kb : Nat := 100000
def k0 : Nat := 8000
structure SzK (k : Nat) (f : Fm) : Prop where
  a : Sz k f.1
  b : Sz k f.2.1
  c : Sz k f.2.2
structure SzM (k : Nat) (m : Mx) : Prop where
  g : Sz k m.1
  h : Sz k m.2.1
  i : Sz k m.2.2.1
  j : Sz k m.2.2.2
theorem SzK.mono {k l : Nat} {f : Fm} (h : SzK k f) (hl : k ≤ l) : SzK l f := ⟨h.a.mono hl, h.b.mono hl, h.c.mono hl⟩
theorem SzM.mono {k l : Nat} {f : Mx} (h : SzM k f) (hl : k ≤ l) : SzM l f := ⟨h.g.mono hl, h.h.mono hl, h.i.mono hl, h.j.mono hl⟩
/-- forms that can be reduced here -/
structure GoodF (f : Fm) : Prop where
  a0 : 0 < f.1
  d1 : -20000 ≤ disc f
  d2 : disc f ≤ -3
theorem sz_le {k : Nat} {i j : Int} (h : Sz k j) (h1 : -j ≤ i) (h2 : i ≤ j) : Sz k i := by unfold Sz at *; omega
theorem GoodF.c0 {f : Fm} (h : GoodF f) : 0 < f.2.2 := by
  obtain ⟨a, b, c⟩ := f
  have a0 := h.a0; have d2 := h.d2
  unfold disc at d2
  simp only at a0 d2 ⊢
  have bb := sq_nn b
  by_cases q : 0 < c
  · exact q
  · have := Int.mul_nonneg (a := 4 * a) (b := -c) (by omega) (by omega)
    rw [Int.mul_neg] at this
    omega
/-- the last number of a form whose middle one is small -/
theorem GoodF.c_le {f : Fm} (h : GoodF f) (h1 : -f.1 ≤ f.2.1) (h2 : f.2.1 ≤ f.1) : f.2.2 ≤ f.1 + 20000 := by
  obtain ⟨a, b, c⟩ := f
  have a0 := h.a0; have d1 := h.d1
  unfold disc at d1
  simp only at a0 d1 h1 h2 ⊢
  have b2 : b * b ≤ a * a := by
    have s1 : 0 ≤ (a - b) * (a + b) := Int.mul_nonneg (by omega) (by omega)
    grind
  by_cases q : c ≤ a + 20000
  · exact q
  · have s4 : a * (a + 20001) ≤ a * c := mulL (by omega) (by omega)
    have s5 : a * (a + 20001) = a * a + a * 20001 := by grind
    have s6 : 0 ≤ a * a := sq_nn a
    have s7 : 4 * a * c = 4 * (a * c) := by grind
    omega
theorem GoodF.led {f : Fm} {m : Mx} (h : GoodF f) (d : det m = 1) (h2 : 0 < (ledF f m).1) : GoodF (ledF f m) := by
  have := disc_led f m
  rw [d] at this
  exact ⟨h2, by have := h.d1; omega, by have := h.d2; omega⟩
/-- values bound the pairs -/
theorem val_bound {f : Fm} {k l : Nat} {x y : Int} (h : GoodF f) (hs : SzK k f) (hv : Sz l (val f x y)) (hx : 0 ≤ val f x y) : Sz (k + l + k + 6) x ∧ Sz (k + l + k + 6) y := by
  obtain ⟨a, b, c⟩ := f
  obtain ⟨sa, sb, sc⟩ := hs
  have a0 := h.a0; have d2 := h.d2
  unfold disc at d2
  generalize hV : val (a, b, c) x y = v at hv hx
  unfold val at hV
  simp only at a0 d2 sa sb sc hV
  have e : 4 * a * v = (2 * a * x + b * y) * (2 * a * x + b * y) + (4 * a * c - b * b) * (y * y) := by rw [← hV]; grind
  have t0 := sq_nn (2 * a * x + b * y)
  have y2 := sq_nn y
  have t1 : 3 * (y * y) ≤ (4 * a * c - b * b) * (y * y) := Int.mul_le_mul_of_nonneg_right (by omega) y2
  have sq_abs : ∀ z : Int, (z.natAbs : Int) ≤ z * z := fun z => by
    by_cases q : z = 0
    · subst q; decide
    · have h1 : (1 : Int) ≤ z.natAbs := by omega
      have h2 := mulL h1 (show 0 ≤ (z.natAbs : Int) by omega)
      have h3 : (z.natAbs : Int) * z.natAbs = z * z := Int.natAbs_mul_self
      omega
  have yb : (y.natAbs : Int) ≤ 4 * a * v := by have := sq_abs y; omega
  have wb : ((2 * a * x + b * y).natAbs : Int) ≤ 4 * a * v := by have := sq_abs (2 * a * x + b * y); omega
  have S : Sz (3 + k + l) (4 * a * v) := ((show Sz 3 4 by unfold Sz; decide).mul sa).mul hv
  have sy : Sz (3 + k + l) y := by unfold Sz at *; omega
  have sw : Sz (3 + k + l) (2 * a * x + b * y) := by unfold Sz at *; omega
  have sby := sb.mul sy
  have s2 := sw.sub sby
  have e2 : 2 * a * x + b * y - b * y = 2 * a * x := by omega
  rw [e2] at s2
  refine ⟨?_, sy.mono (by omega)⟩
  have hx2 : x.natAbs ≤ (2 * a * x).natAbs := by
    rw [Int.natAbs_mul]
    exact Nat.le_mul_of_pos_left _ (by omega)
  have s3 : Sz (max (3 + k + l) (k + (3 + k + l)) + 1) x := Nat.lt_of_le_of_lt hx2 s2
  exact s3.mono (by omega)
/-- what is kept on the way -/
structure Way (f0 f : Fm) (m : Mx) : Prop where
  good : GoodF f
  led : f = ledF f0 m
  det : det m = 1
  sa : f.1 ≤ f0.1
  sb : Sz (k0 + 20) f.2.1
  sc : Sz (k0 + 20) f.2.2
theorem Way.szM {f0 f : Fm} {m : Mx} (h : Way f0 f m) (g0 : GoodF f0) (s0 : SzK k0 f0) : SzM kb m := by
  have v1 : val f0 m.1 m.2.2.1 = f.1 := by rw [h.led]; rfl
  have v2 : val f0 m.2.1 m.2.2.2 = f.2.2 := by rw [h.led]; rfl
  have a0 := h.good.a0
  have c0 := h.good.c0
  have sa : Sz (k0 + 20) f.1 := (sz_le s0.a (by have := h.sa; omega) h.sa).mono (by omega)
  obtain ⟨p1, p2⟩ := val_bound g0 s0 (x := m.1) (y := m.2.2.1) (by rw [v1]; exact sa) (by omega)
  obtain ⟨p3, p4⟩ := val_bound g0 s0 (x := m.2.1) (y := m.2.2.2) (by rw [v2]; exact h.sc) (by omega)
  have le : k0 + (k0 + 20) + k0 + 6 ≤ kb := by unfold k0 kb; omega
  exact ⟨p1.mono le, p3.mono le, p2.mono le, p4.mono le⟩
theorem Way.szK {f0 f : Fm} {m : Mx} (h : Way f0 f m) (s0 : SzK k0 f0) : SzK kb f := by
  have a0 := h.good.a0
  have sa : Sz (k0 + 20) f.1 := (sz_le s0.a (by have := h.sa; omega) h.sa).mono (by omega)
  have le : k0 + 20 ≤ kb := by unfold k0 kb; omega
  exact ⟨sa.mono le, h.sb.mono le, h.sc.mono le⟩
theorem Way.start {f : Fm} (g : GoodF f) (s : SzK k0 f) : Way f f oneM := ⟨g, (led_one f).symm, rfl, Int.le_refl _, s.b.mono (by omega), s.c.mono (by omega)⟩
theorem Way.next {f0 f : Fm} {m n : Mx} (h : Way f0 f m) (s0 : SzK k0 f0) (e : stepM f = some n) : Way f0 (ledF f n) (mulM m n) ∧ far (ledF f n) < far f ∧ SzM kb n := by
  obtain ⟨l1, l2⟩ := step_far h.good.a0 h.good.d2 e
  have dn := step_det e
  have g2 : GoodF (ledF f n) := h.good.led dn l2
  have lf : ledF f n = ledF f0 (mulM m n) := by rw [← led_mul, ← h.led]
  have dm : Pv.det (mulM m n) = 1 := by rw [det_mul, h.det, dn]; rfl
  have K : Sz (k0 + 20) f0.1 := s0.a.mono (by omega)
  have one : ∀ i : Int, i = 0 ∨ i = 1 ∨ i = -1 → Sz kb i := fun i hi => by
    have : Sz 1 i := by unfold Sz; rcases hi with rfl | rfl | rfl <;> decide
    exact this.mono (by unfold kb; omega)
  have fa := h.sa
  have fa0 := h.good.a0
  refine ⟨?_, l1, ?_⟩
  · obtain ⟨a, b, c⟩ := f
    simp only at fa fa0
    have e0 := e
    unfold stepM at e
    split at e
    · rename_i z
      cases e
      have e1 : ledF (a, b, c) (1, shiftF (a, b, c), 0, 1) = (a, b + 2 * a * shiftF (a, b, c), a * shiftF (a, b, c) * shiftF (a, b, c) + b * shiftF (a, b, c) + c) := by
        simp only [ledF, Prod.mk.injEq]
        refine ⟨?_, ?_, ?_⟩ <;> grind
      have q := Int.emod_add_mul_ediv (a - b) (2 * a)
      have r0 := Int.emod_nonneg (a - b) (show 2 * a ≠ 0 by omega)
      have r1 := Int.emod_lt_of_pos (a - b) (show 0 < 2 * a by omega)
      have lo : -a ≤ b + 2 * a * shiftF (a, b, c) := by unfold shiftF; simp only; omega
      have hi : b + 2 * a * shiftF (a, b, c) ≤ a := by unfold shiftF; simp only; omega
      have cl := g2.c_le (by rw [e1]; exact lo) (by rw [e1]; exact hi)
      have c0 := g2.c0
      rw [e1] at cl c0 g2 lf
      rw [e1]
      simp only at cl c0
      refine ⟨g2, lf, dm, fa, (sz_le s0.a (by simp only; omega) (by simp only; omega)).mono (by omega), ?_⟩
      have s3 : Sz (k0 + 20) (f0.1 + 20000) := by
        have := s0.a.add (show Sz 16 20000 by unfold Sz; decide)
        exact this.mono (by unfold k0; omega)
      exact sz_le s3 (by simp only; omega) (by simp only; omega)
    · rename_i z
      have z0 : shiftF (a, b, c) = 0 := by simpa using z
      have zz := (shift_zero (f := (a, b, c)) fa0).mp z0
      simp only at zz
      split at e
      · rename_i w
        simp only at w
        cases e
        have e1 : ledF (a, b, c) (0, -1, 1, 0) = (c, -b, a) := by
          simp only [ledF, Prod.mk.injEq]
          refine ⟨?_, ?_, ?_⟩ <;> grind
        rw [e1] at g2 lf
        rw [e1]
        exact ⟨g2, lf, dm, by simp only; omega, (sz_le s0.a (by simp only; omega) (by simp only; omega)).mono (by omega), (sz_le s0.a (by simp only; omega) (by simp only; omega)).mono (by omega)⟩
      · cases e
  · unfold stepM at e
    split at e
    · cases e
      refine ⟨one _ (.inr (.inl rfl)), ?_, one _ (.inl rfl), one _ (.inr (.inl rfl))⟩
      show Sz kb (shiftF f)
      have sh := h.szK s0
      have sd := sz_le s0.a (show -f0.1 ≤ f.1 by omega) fa |>.sub h.sb
      refine Sz.mono (k := max k0 (k0 + 20) + 1) ?_ (by unfold k0 kb; omega)
      unfold shiftF
      refine Nat.lt_of_le_of_lt ?_ sd
      have p : 0 < 2 * f.1 := by omega
      have ed := Int.emod_add_mul_ediv (f.1 - f.2.1) (2 * f.1)
      have r0 := Int.emod_nonneg (f.1 - f.2.1) (show 2 * f.1 ≠ 0 by omega)
      have r1 := Int.emod_lt_of_pos (f.1 - f.2.1) p
      generalize (f.1 - f.2.1) = t at *
      generalize (t % (2 * f.1)) = r at *
      generalize (t / (2 * f.1)) = q at *
      by_cases hq : 0 ≤ q
      · have := mulL (show (1 : Int) ≤ 2 * f.1 by omega) hq
        rw [Int.mul_comm q (2 * f.1)] at this
        omega
      · have := mulL (show (2 : Int) ≤ 2 * f.1 by omega) (show 0 ≤ -q by omega)
        have t2 : -q * (2 * f.1) = -(2 * f.1 * q) := by grind
        by_cases hq1 : q = -1
        · subst hq1; omega
        · have := mulL (show (2 : Int) ≤ -q by omega) (show 0 ≤ 2 * f.1 by omega)
          have t3 : 2 * f.1 * -q = -(2 * f.1 * q) := by grind
          have := mulL (show (1 : Int) ≤ f.1 by omega) (show 0 ≤ -q - 1 by omega)
          have t4 : (-q - 1) * f.1 = -(f.1 * q) - f.1 := by grind
          have t5 : 2 * f.1 * q = 2 * (f.1 * q) := by grind
          omega
    · split at e
      · cases e
        exact ⟨one _ (.inl rfl), one _ (.inr (.inr rfl)), one _ (.inr (.inl rfl)), one _ (.inl rfl)⟩
      · cases e
end Pv
end

section
/-! PvY: the reduced forms of a discriminant, as lists. -/
set_option autoImplicit false
namespace Pv
open PySem

def prim (f : Fm) : Prop := Int.gcd (Int.gcd f.1 f.2.1) f.2.2 = 1
instance (f : Fm) : Decidable (prim f) := by unfold prim; infer_instance
/-- a reduced form of this discriminant -/
structure Rf (d : Int) (f : Fm) : Prop where
  red : Red f
  disc : disc f = d
  prim : prim f
def ltF (f g : Fm) : Prop := f.1 < g.1 ∨ (f.1 = g.1 ∧ (f.2.1 < g.2.1 ∨ (f.2.1 = g.2.1 ∧ f.2.2 < g.2.2)))
instance (f g : Fm) : Decidable (ltF f g) := by unfold ltF; infer_instance
theorem lex_f (f g : Fm) : HT.lexLt (fL f) (fL g) = decide (ltF f g) := by
  obtain ⟨a, b, c⟩ := f
  obtain ⟨x, y, z⟩ := g
  unfold fL ltF
  simp only [HT.lexLt_cons, HT.lexLt_nil_nil]
  by_cases h1 : a = x
  · by_cases h2 : b = y
    · by_cases h3 : c = z
      · simp [h1, h2, h3]
      · simp [h1, h2, h3]
    · simp [h1, h2]
  · simp [h1]
theorem ltF_irrefl (f : Fm) : ¬ ltF f f := by unfold ltF; omega
theorem ltF_asym {f g : Fm} (h : ltF f g) : ¬ ltF g f := by unfold ltF at *; omega
theorem eq_of_ltF {f g : Fm} (h : ¬ ltF f g) (h2 : ¬ ltF g f) : f = g := by
  obtain ⟨a, b, c⟩ := f
  obtain ⟨x, y, z⟩ := g
  unfold ltF at *
  simp only at h h2
  simp only [Prod.mk.injEq]
  omega
abbrev SortedF (l : List Fm) : Prop := l.Pairwise ltF
theorem SortedF.nodup {l : List Fm} (h : SortedF l) : l.Nodup := h.imp fun {a b} q e => by subst e; exact ltF_irrefl _ q
theorem perm_of_mem {l m : List Fm} (hl : l.Nodup) (hm : m.Nodup) (h : ∀ f, f ∈ l ↔ f ∈ m) : l.Perm m := (List.perm_ext_iff_of_nodup hl hm).mpr h
theorem sorted_eq {l m : List Fm} (hl : SortedF l) (hm : SortedF m) (h : ∀ f, f ∈ l ↔ f ∈ m) : l = m :=
  (perm_of_mem hl.nodup hm.nodup h).eq_of_pairwise (fun a b _ _ h1 h2 => absurd h2 (ltF_asym h1)) hl hm
theorem sortT_eq {l m : List Fm} (hl : l.Nodup) (hm : SortedF m) (h : ∀ f, f ∈ l ↔ f ∈ m) : sortT (l.map fL) = m.map fL := by
  refine sortT_unique ((sortT_perm _).trans ((perm_of_mem hl hm.nodup h).map fL)) (sortT_sorted _) ?_
  rw [List.pairwise_map]
  refine hm.imp fun {a b} q => ?_
  rw [lex_f]
  exact decide_eq_false (ltF_asym q)

/-! ### the list, row by row -/
def keepP (d a b : Int) : Bool := decide ((b * b - d) % (4 * a) = 0) && !decide ((b * b - d) / (4 * a) < a ∨ ((b * b - d) / (4 * a) = a ∧ b < 0)) && decide (prim (a, b, (b * b - d) / (4 * a)))
def rowP (d a : Int) : List Fm := (List.range (2 * a).toNat).filterMap fun k : Nat => if keepP d a (1 - a + k) then some (a, 1 - a + k, ((1 - a + k) * (1 - a + k) - d) / (4 * a)) else none
/-- rows 1 to n -/
def rowsP (d : Int) (n : Nat) : List Fm := (List.range n).flatMap fun k : Nat => rowP d (k + 1)
def PL (d : Int) : List Fm := rowsP d 81
theorem keepP_iff {d a b : Int} (a0 : 0 < a) (h1 : 1 - a ≤ b) (h2 : b ≤ a) : keepP d a b = true ↔ (b * b - d) % (4 * a) = 0 ∧ Rf d (a, b, (b * b - d) / (4 * a)) := by
  unfold keepP
  simp only [Bool.and_eq_true, decide_eq_true_eq, Bool.not_eq_true', decide_eq_false_iff_not]
  constructor
  · rintro ⟨⟨e, n⟩, p⟩
    refine ⟨e, ⟨a0, by simp only; omega, h2, by simp only; omega, fun q => by simp only at q ⊢; omega⟩, ?_, p⟩
    have := Int.emod_add_mul_ediv (b * b - d) (4 * a)
    unfold disc
    simp only
    omega
  · rintro ⟨e, r, _, p⟩
    have r4 := r.ac; have r5 := r.eq
    simp only at r4 r5
    exact ⟨⟨e, by omega⟩, p⟩
theorem Rf.row {d : Int} {f : Fm} (h : Rf d f) : keepP d f.1 f.2.1 = true ∧ f.2.2 = (f.2.1 * f.2.1 - d) / (4 * f.1) := by
  obtain ⟨a, b, c⟩ := f
  obtain ⟨r, e, p⟩ := h
  have a0 := r.a0; have r2 := r.lo; have r3 := r.hi
  unfold Pv.disc at e
  simp only at a0 r2 r3 e ⊢
  have e1 : b * b - d = (4 * a) * c := by omega
  have e2 : (b * b - d) / (4 * a) = c := by rw [e1, Int.mul_ediv_cancel_left _ (by omega)]
  refine ⟨(keepP_iff a0 (by omega) r3).mpr ⟨by rw [e1, Int.mul_emod_right], ?_⟩, e2.symm⟩
  rw [e2]
  exact ⟨r, by unfold Pv.disc; exact e, p⟩
theorem mem_row {d a : Int} {f : Fm} (a0 : 0 < a) : f ∈ rowP d a ↔ Rf d f ∧ f.1 = a := by
  unfold rowP
  rw [List.mem_filterMap]
  constructor
  · rintro ⟨k, hk, e⟩
    have hk := List.mem_range.mp hk
    split at e
    · rename_i q
      cases e
      exact ⟨((keepP_iff a0 (by omega) (by omega)).mp q).2, rfl⟩
    · cases e
  · rintro ⟨h, rfl⟩
    obtain ⟨k1, k2⟩ := h.row
    have r2 := h.red.lo; have r3 := h.red.hi
    have ek : 1 - f.1 + ((f.2.1 - (1 - f.1)).toNat : Int) = f.2.1 := by omega
    refine ⟨(f.2.1 - (1 - f.1)).toNat, List.mem_range.mpr (by omega), ?_⟩
    rw [ek, if_pos k1, ← k2]
theorem row_sorted {d a : Int} : SortedF (rowP d a) := by
  unfold rowP
  refine List.Pairwise.filterMap _ (R := fun i j : Nat => i < j) ?_ List.pairwise_lt_range
  intro i j hij f hf g hg
  split at hf
  · split at hg
    · cases hf; cases hg
      exact .inr ⟨rfl, .inl (by simp only; omega)⟩
    · cases hg
  · cases hf
theorem rows_succ (d : Int) (n : Nat) : rowsP d (n + 1) = rowsP d n ++ rowP d (n + 1) := by
  unfold rowsP
  rw [List.range_succ, List.flatMap_append, List.flatMap_singleton]
theorem mem_rows {d : Int} {f : Fm} : ∀ {n : Nat}, f ∈ rowsP d n ↔ Rf d f ∧ f.1 ≤ n
  | 0 => by
    constructor
    · intro h; cases h
    · rintro ⟨h, q⟩
      have := h.red.a0
      omega
  | n + 1 => by
    rw [rows_succ, List.mem_append, mem_rows, mem_row (by omega)]
    constructor
    · rintro (⟨h, q⟩ | ⟨h, q⟩)
      · exact ⟨h, by omega⟩
      · exact ⟨h, by omega⟩
    · rintro ⟨h, q⟩
      by_cases e : f.1 = (n : Int) + 1
      · exact .inr ⟨h, e⟩
      · exact .inl ⟨h, by omega⟩
theorem rows_sorted {d : Int} : ∀ {n : Nat}, SortedF (rowsP d n)
  | 0 => .nil
  | n + 1 => by
    rw [rows_succ]
    refine List.pairwise_append.mpr ⟨rows_sorted, row_sorted, fun f hf g hg => ?_⟩
    have h1 := (mem_rows.mp hf).2
    have h2 := ((mem_row (by omega)).mp hg).2
    exact .inl (by omega)
theorem Rf.a3 {d : Int} {f : Fm} (h : Rf d f) : 3 * f.1 * f.1 ≤ -d := by
  obtain ⟨a, b, c⟩ := f
  obtain ⟨r, e, p⟩ := h
  have a0 := r.a0; have r2 := r.lo; have r3 := r.hi; have r4 := r.ac
  unfold Pv.disc at e
  simp only at a0 r2 r3 r4 e ⊢
  have s1 : 0 ≤ (a - b) * (a + b) := Int.mul_nonneg (by omega) (by omega)
  have s2 := mulL r4 (show 0 ≤ a by omega)
  have s3 : (a - b) * (a + b) = a * a - b * b := by grind
  have s4 : 4 * a * c = 4 * (a * c) := by grind
  have s5 : 3 * a * a = 3 * (a * a) := by grind
  omega
theorem Rf.b3 {d : Int} {f : Fm} (h : Rf d f) : 3 * (f.2.1 * f.2.1) ≤ -d := by
  have r2 := h.red.lo; have r3 := h.red.hi
  have s1 : 0 ≤ (f.1 - f.2.1) * (f.1 + f.2.1) := Int.mul_nonneg (by omega) (by omega)
  have s3 : (f.1 - f.2.1) * (f.1 + f.2.1) = f.1 * f.1 - f.2.1 * f.2.1 := by grind
  have s5 : 3 * f.1 * f.1 = 3 * (f.1 * f.1) := by grind
  have := h.a3
  omega
theorem sq_lt {x y : Int} (hy : 0 ≤ y) (h : x * x < y * y) : x < y := by
  by_cases q : x < y
  · exact q
  · have := mulL (show y ≤ x by omega) hy
    have := mulL (show y ≤ x by omega) (show 0 ≤ x by omega)
    rw [Int.mul_comm x y] at this
    omega
theorem Rf.a_le {d : Int} {f : Fm} (h : Rf d f) (hd : -20000 ≤ d) : f.1 ≤ 81 := by
  have := h.a3
  have s5 : 3 * f.1 * f.1 = 3 * (f.1 * f.1) := by grind
  have : f.1 < 82 := sq_lt (by omega) (by omega)
  omega
theorem mem_PL {d : Int} {f : Fm} (hd : -20000 ≤ d) : f ∈ PL d ↔ Rf d f := by
  unfold PL
  rw [mem_rows]
  exact ⟨fun h => h.1, fun h => ⟨h, h.a_le hd⟩⟩
theorem PL_sorted {d : Int} : SortedF (PL d) := rows_sorted
theorem tups_of (l : List Fm) : tupsOf (l.map fD) = some (l.map fL) := by
  induction l with
  | nil => rfl
  | cons f l ih =>
    rw [List.map_cons, List.map_cons]
    unfold fD fL at *
    unfold tupsOf
    simp only [intsOf, Option.map_some, ih]
theorem sortV_f {l m : List Fm} (hl : l.Nodup) (hm : SortedF m) (h : ∀ f, f ∈ l ↔ f ∈ m) : sortV (l.map fD) = some (.list (m.map fD)) := by
  unfold sortV
  cases l with
  | nil =>
    have : m = [] := by
      cases m with
      | nil => rfl
      | cons x m => exact absurd ((h x).mpr List.mem_cons_self) List.not_mem_nil
    subst this
    rfl
  | cons f l =>
    have e : intsOf ((f :: l).map fD) = none := rfl
    rw [e, tups_of]
    simp only [Option.map_some]
    rw [sortT_eq hl hm h, List.map_map]
    rfl
end Pv
end

section
/-! PvZ: the reduced forms, found by their middle numbers. -/
set_option autoImplicit false
namespace Pv
open PySem
theorem sq4 (b : Int) : (b % 2 = 0 ∧ b * b % 4 = 0) ∨ (b % 2 = 1 ∧ b * b % 4 = 1) := by
  have h : b % 4 = 0 ∨ b % 4 = 1 ∨ b % 4 = 2 ∨ b % 4 = 3 := by omega
  have e : b * b % 4 = (b % 4) * (b % 4) % 4 := Int.mul_emod ..
  rcases h with h | h | h | h <;> rw [h] at e
  · left; exact ⟨by omega, e⟩
  · right; exact ⟨by omega, e⟩
  · left; exact ⟨by omega, e⟩
  · right; exact ⟨by omega, e⟩
/-- what is found: middle numbers below b, and those of b with a first number below a -/
structure Jf (d b a : Int) (l : List Fm) : Prop where
  nd : l.Nodup
  mem : ∀ f, f ∈ l ↔ Rf d f ∧ ((f.2.1.natAbs : Int) < b ∨ ((f.2.1.natAbs : Int) = b ∧ f.1 < a))
def keepL (d b a : Int) : Prop := (b * b - d) / 4 % a = 0 ∧ Int.gcd (Int.gcd a b) ((b * b - d) / 4 / a) = 1
instance (d b a : Int) : Decidable (keepL d b a) := by unfold keepL; infer_instance
def twoL (d b a : Int) : Prop := 0 < b ∧ b < a ∧ a < (b * b - d) / 4 / a
instance (d b a : Int) : Decidable (twoL d b a) := by unfold twoL; infer_instance
def addL (d b a : Int) (l : List Fm) : List Fm := if keepL d b a then (if twoL d b a then (l ++ [(a, b, (b * b - d) / 4 / a)]) ++ [(a, 0 - b, (b * b - d) / 4 / a)] else l ++ [(a, b, (b * b - d) / 4 / a)]) else l
theorem rf_iff {d b a : Int} {f : Fm} (a0 : 0 < a) (b0 : 0 ≤ b) (ba : b ≤ a) (hd : d % 4 = 0 ∨ d % 4 = 1) (hb : b % 2 = d % 2) (hp : a * a ≤ (b * b - d) / 4) :
    (Rf d f ∧ (f.2.1.natAbs : Int) = b ∧ f.1 = a) ↔ keepL d b a ∧ (f = (a, b, (b * b - d) / 4 / a) ∨ (twoL d b a ∧ f = (a, 0 - b, (b * b - d) / 4 / a))) := by
  have e4 : 4 * ((b * b - d) / 4) = b * b - d := by
    have := sq4 b
    omega
  unfold keepL twoL
  generalize (b * b - d) / 4 = p at *
  constructor
  · rintro ⟨⟨r, e, q⟩, hB, rfl⟩
    obtain ⟨A, B, C⟩ := f
    have r2 := r.lo; have r4 := r.ac; have r5 := r.eq
    unfold Pv.disc at e
    unfold Pv.prim at q
    simp only at *
    have bb : B * B = b * b := by rw [← hB]; exact (Int.natAbs_mul_self (a := B)).symm
    have pe : p = A * C := by
      have t1 : 4 * A * C = 4 * (A * C) := by grind
      omega
    have pm : p % A = 0 := by rw [pe, Int.mul_emod_right]
    have pd : p / A = C := by rw [pe, Int.mul_ediv_cancel_left _ (by omega)]
    have gq : Int.gcd A b = Int.gcd A B := by
      rw [← hB]
      unfold Int.gcd
      rw [Int.natAbs_natCast]
    rw [pd, gq]
    refine ⟨⟨pm, q⟩, ?_⟩
    by_cases hs : B = b
    · left; rw [hs]
    · right
      have : B = 0 - b := by omega
      exact ⟨⟨by omega, by omega, by omega⟩, by rw [this]⟩
  · rintro ⟨⟨k1, k2⟩, hf⟩
    have pe : p = a * (p / a) := by
      have := Int.emod_add_mul_ediv p a
      omega
    generalize p / a = C at *
    have ac : a ≤ C := by
      by_cases h : a ≤ C
      · exact h
      · have := mulL (show C + 1 ≤ a by omega) (show 0 ≤ a by omega)
        have t : a * (C + 1) = a * C + a := by grind
        omega
    have t1 : 4 * a * C = 4 * (a * C) := by grind
    rcases hf with rfl | ⟨⟨z1, z2, z3⟩, rfl⟩
    · refine ⟨⟨⟨a0, by simp only; omega, ba, ac, fun _ => b0⟩, ?_, k2⟩, by simp only; omega, rfl⟩
      unfold Pv.disc
      simp only
      omega
    · have e0 : 0 - b = -b := by omega
      refine ⟨⟨⟨a0, by simp only; omega, by simp only; omega, ac, fun q => by simp only at q; omega⟩, ?_, ?_⟩, by simp only; omega, rfl⟩
      · unfold Pv.disc
        simp only
        rw [e0, Int.neg_mul_neg]
        omega
      · unfold Pv.prim
        simp only
        rw [e0, Int.gcd_neg]
        exact k2
theorem Jf.step {d b a : Int} {l : List Fm} (h : Jf d b a l) (a0 : 0 < a) (b0 : 0 ≤ b) (ba : b ≤ a) (hd : d % 4 = 0 ∨ d % 4 = 1) (hb : b % 2 = d % 2) (hp : a * a ≤ (b * b - d) / 4) : Jf d b (a + 1) (addL d b a l) := by
  have key : ∀ f, f ∈ addL d b a l ↔ f ∈ l ∨ (Rf d f ∧ (f.2.1.natAbs : Int) = b ∧ f.1 = a) := fun f => by
    rw [rf_iff a0 b0 ba hd hb hp]
    unfold addL
    by_cases k : keepL d b a
    · by_cases t : twoL d b a
      · simp [k, t, or_assoc]
      · simp [k, t]
    · simp [k]
  have new : ∀ f, f.1 = a → (f.2.1.natAbs : Int) = b → f ∉ l := fun f e1 e2 hf => by
    obtain ⟨_, q | ⟨_, q⟩⟩ := (h.mem f).mp hf
    · omega
    · omega
  refine ⟨?_, fun f => ?_⟩
  · unfold addL
    have n1 : (l ++ [(a, b, (b * b - d) / 4 / a)]).Nodup := List.nodup_append.mpr ⟨h.nd, by simp, fun x hx y hy e => by
      rw [List.mem_singleton] at hy
      subst hy; subst e
      exact new _ rfl (by simp only; omega) hx⟩
    split
    · split
      · rename_i t
        refine List.nodup_append.mpr ⟨n1, by simp, fun x hx y hy e => ?_⟩
        rw [List.mem_singleton] at hy
        subst hy; subst e
        rcases List.mem_append.mp hx with hx | hx
        · exact new _ rfl (by simp only; omega) hx
        · rw [List.mem_singleton] at hx
          have := congrArg (fun q : Fm => q.2.1) hx
          simp only at this
          have := t.1
          omega
      · exact n1
    · exact h.nd
  · rw [key, h.mem]
    constructor
    · rintro (⟨h1, h2⟩ | ⟨h1, h2, h3⟩)
      · exact ⟨h1, by omega⟩
      · exact ⟨h1, by omega⟩
    · rintro ⟨h1, h2⟩
      by_cases h3 : (f.2.1.natAbs : Int) = b ∧ f.1 = a
      · exact .inr ⟨h1, h3⟩
      · exact .inl ⟨h1, by omega⟩
theorem addL_len (d b a : Int) (l : List Fm) : (addL d b a l).length ≤ l.length + 2 := by
  unfold addL
  split
  · split
    · simp
    · simp
  · omega
/-- a row's start and end -/
theorem Jf.open_ {d b : Int} {l : List Fm} (h : Jf d b 0 l) : Jf d b (if 1 < b then b else 1) l := by
  refine ⟨h.nd, fun f => ?_⟩
  rw [h.mem]
  refine and_congr_right fun r => ?_
  have r1 := r.red.a0; have r2 := r.red.lo; have r3 := r.red.hi
  split <;> omega
theorem Jf.close {d b a : Int} {l : List Fm} (h : Jf d b a l) (a0 : 0 < a) (b0 : 0 ≤ b) (hd : d % 4 = 0 ∨ d % 4 = 1) (hb : b % 2 = d % 2) (hp : (b * b - d) / 4 < a * a) : Jf d (b + 2) 0 l := by
  refine ⟨h.nd, fun f => ?_⟩
  rw [h.mem]
  refine and_congr_right fun r => ?_
  have r1 := r.red.a0; have r4 := r.red.ac
  have e := r.disc
  obtain ⟨A, B, C⟩ := f
  unfold Pv.disc at e
  simp only at *
  have par : B % 2 = d % 2 := by
    have := sq4 B
    have t1 : 4 * A * C = 4 * (A * C) := by grind
    omega
  constructor
  · rintro (q | q)
    · omega
    · omega
  · rintro (q | q)
    · by_cases w : (B.natAbs : Int) < b
      · exact .inl w
      · right
        have eb : (B.natAbs : Int) = b := by omega
        refine ⟨eb, ?_⟩
        have bb : B * B = b * b := by rw [← eb]; exact (Int.natAbs_mul_self (a := B)).symm
        have t1 : 4 * A * C = 4 * (A * C) := by grind
        have := mulL r4 (show 0 ≤ A by omega)
        exact sq_lt (by omega) (by omega)
    · omega
theorem Jf.start {d b : Int} (h : b = d % 2) : Jf d b 0 [] := by
  refine ⟨.nil, fun f => ⟨fun h => (by cases h), ?_⟩⟩
  rintro ⟨r, q⟩
  have e := r.disc
  obtain ⟨A, B, C⟩ := f
  unfold Pv.disc at e
  have r1 := r.red.a0
  simp only at *
  have := sq4 B
  have t1 : 4 * A * C = 4 * (A * C) := by grind
  omega
theorem Jf.all {d b : Int} {l : List Fm} (h : Jf d b 0 l) (b0 : 0 ≤ b) (hp : -d < 3 * (b * b)) : ∀ f, f ∈ l ↔ Rf d f := fun f => by
  rw [h.mem]
  refine ⟨fun h => h.1, fun r => ⟨r, .inl ?_⟩⟩
  have := r.b3
  have e : (f.2.1.natAbs : Int) * f.2.1.natAbs = f.2.1 * f.2.1 := Int.natAbs_mul_self
  exact sq_lt b0 (by omega)
end Pv
end

section
/-! PvPF: conductors, symbols, prime forms; plain. -/
set_option autoImplicit false
namespace Pv
open PySem

/-! ### conductors -/
def goodC (d f : Int) : Prop := d % (f * f) = 0 ∧ d / (f * f) % 4 < 2
instance (d f : Int) : Decidable (goodC d f) := by unfold goodC; infer_instance
structure MaxC (d F : Int) : Prop where
  pos : 1 ≤ F
  good : goodC d F
  max : ∀ f, F < f → ¬ goodC d f
theorem goodC.bound {d f : Int} (h : goodC d f) (f1 : 1 ≤ f) (hd : d < 0) : 3 * (f * f) ≤ -d := by
  obtain ⟨h1, h2⟩ := h
  have e := Int.emod_add_mul_ediv d (f * f)
  have p := prod1 f1 f1
  generalize d / (f * f) = q at *
  by_cases z : q ≤ -3
  · have := mulL (show q ≤ -3 by omega) (show 0 ≤ f * f by omega)
    omega
  · have q0 : 0 ≤ q := by omega
    have := Int.mul_nonneg (show 0 ≤ f * f by omega) q0
    omega
theorem goodC.le {d f : Int} (h : goodC d f) (f1 : 1 ≤ f) (hd : d < 0) (h2 : -20000 ≤ d) : f ≤ 81 := by
  have := h.bound f1 hd
  have : f < 82 := sq_lt (by omega) (by omega)
  omega
theorem MaxC.unique {d F G : Int} (h : MaxC d F) (h2 : MaxC d G) : F = G := by
  rcases Int.lt_trichotomy F G with q | q | q
  · exact absurd h2.good (h.max G q)
  · exact q
  · exact absurd h.good (h2.max F q)
/-! ### primes -/
structure Pr (l : Int) : Prop where
  two : 2 ≤ l
  one : ∀ b : Int, b % l ≠ 0 → Int.gcd l b = 1
theorem gcd_mod (l b : Int) : Int.gcd l (b % l) = Int.gcd l b := by
  rw [Int.emod_def, show b - l * (b / l) = b + l * (-(b / l)) by grind, Int.gcd_add_mul_left_right]
def prB (l : Nat) : Bool := decide (2 ≤ l) && (List.range l).all fun k => k == 0 || Nat.gcd l k == 1
theorem Pr.of {l : Nat} (h : prB l = true) : Pr l := by
  unfold prB at h
  simp only [Bool.and_eq_true, decide_eq_true_eq, List.all_eq_true, List.mem_range, Bool.or_eq_true, beq_iff_eq] at h
  refine ⟨by omega, fun b hb => ?_⟩
  rw [← gcd_mod]
  have r0 := Int.emod_nonneg b (show (l : Int) ≠ 0 by omega)
  have r1 := Int.emod_lt_of_pos b (show (0 : Int) < l by omega)
  have := h.2 (b % l).toNat (by omega)
  have e : b % l = ((b % l).toNat : Int) := by omega
  rw [e]
  rcases this with z | z
  · omega
  · exact z
theorem Pr.mul {l x y : Int} (p : Pr l) (h : (x * y) % l = 0) : x % l = 0 ∨ y % l = 0 := by
  by_cases z : x % l = 0
  · exact .inl z
  · right
    have g := p.one x z
    have h1 : l.natAbs ∣ (x * y).natAbs := Int.natAbs_dvd_natAbs.mpr (Int.dvd_of_emod_eq_zero h)
    rw [Int.natAbs_mul] at h1
    have h2 := Nat.Coprime.dvd_of_dvd_mul_left (show Nat.Coprime l.natAbs x.natAbs from g) h1
    exact Int.emod_eq_zero_of_dvd (Int.natAbs_dvd_natAbs.mp h2)
theorem gcd_self {l b : Int} (l0 : 0 ≤ l) (h : b % l = 0) : (Int.gcd l b : Int) = l := (Int.gcd_eq_left_iff_dvd l0).mpr (Int.dvd_of_emod_eq_zero h)
/-! ### square roots by a prime -/
def rootsN (l r : Nat) : List Nat := (List.range l).filter fun x => x * x % l == r
def rootsB (l : Nat) : Bool := (List.range l).all fun r => if r == 0 then rootsN l r == [0] else match rootsN l r with
  | [] => true
  | [x, y] => x + y == l && decide (0 < x) && decide (x < y)
  | _ => false
def symI (d l : Int) : Int := if d % l = 0 then 0 else if l = 2 then (if d % 8 = 1 then 1 else -1) else if ∃ k ∈ List.range (l - 1).toNat, (((k : Int) + 1) * (k + 1)) % l = d % l then 1 else -1
theorem root_mem {l : Nat} (l0 : 0 < l) {d b : Int} : (b * b - d) % l = 0 ↔ (b % l).toNat ∈ rootsN l (d % l).toNat := by
  have r0 := Int.emod_nonneg b (show (l : Int) ≠ 0 by omega)
  have r1 := Int.emod_lt_of_pos b (show (0 : Int) < l by omega)
  have d0 := Int.emod_nonneg d (show (l : Int) ≠ 0 by omega)
  unfold rootsN
  rw [List.mem_filter, List.mem_range, ← Int.emod_eq_emod_iff_emod_sub_eq_zero, Int.mul_emod]
  have e : (b % l) * (b % l) % l = (((b % l).toNat * (b % l).toNat % l : Nat) : Int) := by
    rw [Int.natCast_emod, Int.natCast_mul]
    have : ((b % l).toNat : Int) = b % l := by omega
    rw [this]
  rw [e, beq_iff_eq]
  omega
/-- what the kept middle numbers are -/
def keepF (d l b : Int) : Prop := (b * b - d) % (4 * l) = 0 ∧ Int.gcd (Int.gcd l b) ((b * b - d) / (4 * l)) = 1
instance (d l b : Int) : Decidable (keepF d l b) := by unfold keepF; infer_instance
def pfL (d l : Int) : List Fm := (List.range (2 * l).toNat).filterMap fun k : Nat => if keepF d l (1 - l + k) then some (l, 1 - l + k, ((1 - l + k) * (1 - l + k) - d) / (4 * l)) else none
def formF (d l b : Int) : Fm := (l, b, (b * b - d) / (4 * l))
theorem mem_pfL {d l : Int} {f : Fm} (l0 : 0 < l) : f ∈ pfL d l ↔ ∃ b, 1 - l ≤ b ∧ b ≤ l ∧ keepF d l b ∧ f = formF d l b := by
  unfold pfL
  rw [List.mem_filterMap]
  constructor
  · rintro ⟨k, hk, e⟩
    have hk := List.mem_range.mp hk
    split at e
    · rename_i q
      cases e
      exact ⟨_, by omega, by omega, q, rfl⟩
    · cases e
  · rintro ⟨b, h1, h2, h3, rfl⟩
    have ek : 1 - l + ((b - (1 - l)).toNat : Int) = b := by omega
    refine ⟨(b - (1 - l)).toNat, List.mem_range.mpr (by omega), ?_⟩
    rw [ek, if_pos h3]; rfl
theorem pfL_sorted {d l : Int} : SortedF (pfL d l) := by
  unfold pfL
  refine List.Pairwise.filterMap _ (R := fun i j : Nat => i < j) ?_ List.pairwise_lt_range
  intro i j hij f hf g hg
  split at hf
  · split at hg
    · cases hf; cases hg
      exact .inr ⟨rfl, .inl (by simp only; omega)⟩
    · cases hg
  · cases hf
/-- from the kept numbers to the list -/
theorem pfL_none {d l : Int} (l0 : 0 < l) (h : ∀ b, 1 - l ≤ b → b ≤ l → ¬ keepF d l b) : pfL d l = [] := by
  refine sorted_eq pfL_sorted .nil fun f => ?_
  rw [mem_pfL l0]
  exact ⟨fun ⟨b, h1, h2, h3, _⟩ => absurd h3 (h b h1 h2), fun h => (by cases h)⟩
theorem pfL_one {d l b0 : Int} (l0 : 0 < l) (h1 : 1 - l ≤ b0) (h2 : b0 ≤ l) (h : ∀ b, 1 - l ≤ b → b ≤ l → (keepF d l b ↔ b = b0)) : pfL d l = [formF d l b0] := by
  refine sorted_eq pfL_sorted (List.pairwise_singleton _ _) fun f => ?_
  rw [mem_pfL l0, List.mem_singleton]
  constructor
  · rintro ⟨b, h3, h4, h5, rfl⟩
    rw [(h b h3 h4).mp h5]
  · rintro rfl
    exact ⟨b0, h1, h2, (h b0 h1 h2).mpr rfl, rfl⟩
theorem pfL_two {d l b0 : Int} (l0 : 0 < l) (h1 : 0 < b0) (h2 : b0 < l) (h : ∀ b, 1 - l ≤ b → b ≤ l → (keepF d l b ↔ b = b0 ∨ b = -b0)) : pfL d l = [formF d l (-b0), formF d l b0] := by
  refine sorted_eq pfL_sorted (List.pairwise_pair.mpr (.inr ⟨rfl, .inl (by show -b0 < b0; omega)⟩)) fun f => ?_
  rw [mem_pfL l0]
  constructor
  · rintro ⟨b, h3, h4, h5, rfl⟩
    rcases (h b h3 h4).mp h5 with rfl | rfl
    · exact List.mem_cons_of_mem _ List.mem_cons_self
    · exact List.mem_cons_self
  · intro hf
    rcases List.mem_cons.mp hf with rfl | hf
    · exact ⟨-b0, by omega, by omega, (h (-b0) (by omega) (by omega)).mpr (.inr rfl), rfl⟩
    · rw [List.mem_singleton] at hf
      subst hf
      exact ⟨b0, by omega, by omega, (h b0 (by omega) (by omega)).mpr (.inl rfl), rfl⟩
/-- how many they must be -/
def manyI (F s l : Int) : Int := if F % l = 0 ∨ s = -1 then 0 else if s = 0 then 1 else 2
/-- what is asked of them -/
inductive PfOk (d l F : Int) : Prop
  | no (h : pfL d l = []) (m : manyI F (symI d l) l = 0)
  | one (b : Int) (h : pfL d l = [formF d l b]) (m : manyI F (symI d l) l = 1) (hb : b = 0 ∨ b = l)
  | two (b : Int) (h : pfL d l = [formF d l (-b), formF d l b]) (m : manyI F (symI d l) l = 2) (h1 : 0 < b) (h2 : b < l)
/-- odd primes: what is kept -/
theorem keep_iff {l : Nat} (p : Pr l) (ho : l % 2 = 1) {d b : Int} (hd : d % 4 = 0 ∨ d % 4 = 1) : (b * b - d) % (4 * (l : Int)) = 0 ↔ b % 2 = d % 2 ∧ (b * b - d) % l = 0 := by
  have s4 := sq4 b
  constructor
  · intro h
    obtain ⟨q, e⟩ := Int.dvd_of_emod_eq_zero h
    refine ⟨?_, ?_⟩
    · have t : 4 * (l : Int) * q = 4 * (l * q) := by grind
      omega
    · have t : 4 * (l : Int) * q = l * (4 * q) := by grind
      rw [e, t, Int.mul_emod_right]
  · rintro ⟨h1, h2⟩
    obtain ⟨q, e⟩ := Int.dvd_of_emod_eq_zero h2
    have m4 : (b * b - d) % 4 = 0 := by omega
    have q4 : q % 4 = 0 := by
      have e2 : ((l : Int) * q) % 4 = 0 := by rw [← e]; exact m4
      have hl : (l : Int) % 4 = 1 ∨ (l : Int) % 4 = 3 := by omega
      have hq : q % 4 = 0 ∨ q % 4 = 1 ∨ q % 4 = 2 ∨ q % 4 = 3 := by omega
      rw [Int.mul_emod] at e2
      rcases hl with hl | hl <;> rcases hq with hq | hq | hq | hq <;> rw [hl, hq] at e2 <;> omega
    obtain ⟨t, et⟩ := Int.dvd_of_emod_eq_zero q4
    have : b * b - d = 4 * (l : Int) * t := by rw [e, et]; grind
    rw [this, Int.mul_emod_right]
/-- a prime in the conductor -/
theorem cond_iff {l : Nat} (p : Pr l) (ho : l % 2 = 1) {d F : Int} (hm : MaxC d F) : F % (l : Int) = 0 ↔ d % ((l : Int) * l) = 0 := by
  obtain ⟨h1, h2⟩ := hm.good
  have ed := Int.emod_add_mul_ediv d (F * F)
  rw [h1, Int.zero_add] at ed
  have two := p.two
  constructor
  · intro h
    obtain ⟨q, e⟩ := Int.dvd_of_emod_eq_zero h
    rw [← ed, e]
    have : (l : Int) * q * (l * q) * (d / (l * q * (l * q))) = (l * l) * (q * q * (d / (l * q * (l * q)))) := by grind
    rw [this, Int.mul_emod_right]
  · intro h
    by_cases z : F % (l : Int) = 0
    · exact z
    · exfalso
      obtain ⟨t, et⟩ := Int.dvd_of_emod_eq_zero h
      have hm2 := hm.max (F * l) (by
        have := mulL (show (2 : Int) ≤ l by omega) (show 0 ≤ F by have := hm.pos; omega)
        have := hm.pos
        omega)
      generalize d / (F * F) = e at *
      have FF : ∀ y : Int, (F * F * y) % (l : Int) = 0 → y % (l : Int) = 0 := fun y hy => by
        rw [Int.mul_assoc] at hy
        have := (p.mul hy).resolve_left z
        exact (p.mul this).resolve_left z
      have e1 : e % (l : Int) = 0 := FF e (by rw [ed, et, Int.mul_assoc, Int.mul_emod_right])
      obtain ⟨e', ee⟩ := Int.dvd_of_emod_eq_zero e1
      have e2 : e' % (l : Int) = 0 := FF e' (by
        have : (l : Int) * (F * F * e') = l * (l * t) := by rw [← Int.mul_assoc (l : Int) l t, ← et, ← ed, ee]; grind
        have := Int.eq_of_mul_eq_mul_left (show (l : Int) ≠ 0 by omega) this
        rw [this, Int.mul_emod_right])
      obtain ⟨e'', ee2⟩ := Int.dvd_of_emod_eq_zero e2
      apply hm2
      have dd : d = (F * l * (F * l)) * e'' := by rw [← ed, ee, ee2]; grind
      have pos : F * l * (F * l) ≠ 0 := by
        have := hm.pos
        have q1 := prod1 (show 1 ≤ F by omega) (show (1 : Int) ≤ l by omega)
        have q2 := prod1 q1 q1
        omega
      refine ⟨by rw [dd, Int.mul_emod_right], ?_⟩
      rw [dd, Int.mul_ediv_cancel_left _ pos]
      have s4 := sq4 (l : Int)
      have l4 : (l : Int) * l % 4 = 1 := by omega
      have : e = l * l * e'' := by rw [ee, ee2]; grind
      have m : e % 4 = ((l : Int) * l % 4) * (e'' % 4) % 4 := by rw [this, Int.mul_emod]
      rw [l4] at m
      omega
theorem symI_cases {l : Nat} (p : Pr l) (ho : l % 2 = 1) (hr : rootsB l = true) (d : Int) : (d % (l : Int) = 0 ∧ symI d l = 0) ∨ (d % (l : Int) ≠ 0 ∧ symI d l = -1 ∧ rootsN l (d % l).toNat = []) ∨
    (d % (l : Int) ≠ 0 ∧ symI d l = 1 ∧ ∃ x : Nat, rootsN l (d % l).toNat = [x, l - x] ∧ 0 < x ∧ x < l - x) := by
  have two := p.two
  unfold symI
  by_cases h : d % (l : Int) = 0
  · exact .inl ⟨h, by rw [if_pos h]⟩
  · right
    rw [if_neg h, if_neg (by omega)]
    have d0 := Int.emod_nonneg d (show (l : Int) ≠ 0 by omega)
    have d1 := Int.emod_lt_of_pos d (show (0 : Int) < l by omega)
    have q := List.all_eq_true.mp hr (d % l).toNat (List.mem_range.mpr (by omega))
    rw [if_neg (by rw [beq_iff_eq]; omega)] at q
    have ex : (∃ k ∈ List.range ((l : Int) - 1).toNat, (((k : Int) + 1) * (k + 1)) % (l : Int) = d % l) ↔ rootsN l (d % l).toNat ≠ [] := by
      constructor
      · rintro ⟨k, hk, e⟩ hn
        have hk := List.mem_range.mp hk
        have := (root_mem (l := l) (by omega) (d := d) (b := (k : Int) + 1)).mp (Int.emod_eq_emod_iff_emod_sub_eq_zero.mp e)
        rw [hn] at this
        cases this
      · intro hn
        obtain ⟨x, hx⟩ := List.exists_mem_of_ne_nil _ hn
        have hx2 := hx
        unfold rootsN at hx2
        rw [List.mem_filter, List.mem_range, beq_iff_eq] at hx2
        have x0 : x ≠ 0 := by
          rintro rfl
          simp at hx2
          omega
        refine ⟨x - 1, List.mem_range.mpr (by omega), ?_⟩
        have e1 : ((x - 1 : Nat) : Int) + 1 = x := by omega
        rw [e1]
        have : (x : Int) * x % l = ((x * x % l : Nat) : Int) := by rw [Int.natCast_emod, Int.natCast_mul]
        rw [this, hx2.2]
        omega
    split at q
    · rename_i e
      left
      rw [if_neg (fun z => (ex.mp z) e)]
      exact ⟨h, rfl, e⟩
    · rename_i x y e
      right
      simp only [Bool.and_eq_true, beq_iff_eq, decide_eq_true_eq] at q
      rw [if_pos (ex.mpr (by rw [e]; exact List.cons_ne_nil _ _))]
      refine ⟨h, rfl, x, ?_, q.1.2, by omega⟩
      rw [e, show y = l - x by omega]
    · cases q
theorem pf_odd {l : Nat} (p : Pr l) (ho : l % 2 = 1) (hr : rootsB l = true) {d F : Int} (hd : d % 4 = 0 ∨ d % 4 = 1) (hm : MaxC d F) : PfOk d l F := by
  have two := p.two
  have l0 : 0 < l := by omega
  have cF : d % (l : Int) ≠ 0 → F % (l : Int) ≠ 0 := fun h z => h (by
    obtain ⟨q, e⟩ := Int.dvd_of_emod_eq_zero ((cond_iff p ho hm).mp z)
    rw [e, Int.mul_assoc, Int.mul_emod_right])
  have mods : ∀ b : Int, 1 - (l : Int) ≤ b → b ≤ l → (b % (l : Int) = if b < 0 then b + l else if b = l then 0 else b) := fun b h1 h2 => by
    split
    · have : b % (l : Int) = (b + l) % l := by rw [Int.add_emod_right]
      rw [this, Int.emod_eq_of_lt (by omega) (by omega)]
    · split
      · rename_i e
        rw [e, Int.emod_self]
      · rw [Int.emod_eq_of_lt (by omega) (by omega)]
  have mb : ∀ b : Int, b % (l : Int) ≠ 0 → ∀ y, Int.gcd (Int.gcd l b) y = 1 := fun b h y => by
    rw [p.one b h]; exact Int.one_gcd
  rcases symI_cases p ho hr d with ⟨h0, hs⟩ | ⟨h0, hs, hn⟩ | ⟨h0, hs, x, hx, x0, x1⟩
  · -- the prime divides d
    have bl : ∀ b : Int, 1 - (l : Int) ≤ b → b ≤ l → ((b * b - d) % (4 * (l : Int)) = 0 ↔ b = if d % 2 = 0 then 0 else (l : Int)) := fun b h1 h2 => by
      rw [keep_iff p ho hd]
      have z : (b * b - d) % (l : Int) = 0 ↔ b % (l : Int) = 0 := by
        rw [← Int.emod_eq_emod_iff_emod_sub_eq_zero, h0]
        constructor
        · intro e
          rcases p.mul e with e | e <;> exact e
        · intro e
          rw [Int.mul_emod, e]
          simp
      rw [z, mods b h1 h2]
      split
      · split <;> omega
      · split
        · split <;> omega
        · split <;> omega
    generalize hb0 : (if d % 2 = 0 then 0 else (l : Int)) = b0 at bl
    have hb1 : b0 = 0 ∨ b0 = (l : Int) := by split at hb0 <;> omega
    have rng : 1 - (l : Int) ≤ b0 ∧ b0 ≤ l := by omega
    have m0 : b0 % (l : Int) = 0 := by rcases hb1 with e | e <;> rw [e] <;> simp
    have c0 := (bl b0 rng.1 rng.2).mpr rfl
    obtain ⟨c, ec⟩ := Int.dvd_of_emod_eq_zero c0
    have cc : (b0 * b0 - d) / (4 * (l : Int)) = c := by rw [ec, Int.mul_ediv_cancel_left _ (by omega)]
    have lc : c % (l : Int) = 0 ↔ d % ((l : Int) * l) = 0 := by
      have b2 : ∃ t, b0 * b0 = (l : Int) * l * t := by
        rcases hb1 with e | e
        · exact ⟨0, by rw [e]; simp⟩
        · exact ⟨1, by rw [e]; simp⟩
      obtain ⟨t, et⟩ := b2
      constructor
      · intro h
        obtain ⟨q, eq⟩ := Int.dvd_of_emod_eq_zero h
        have : d = (l : Int) * l * (t - 4 * q) := by
          have : d = b0 * b0 - 4 * l * c := by omega
          rw [this, et, eq]; grind
        rw [this, Int.mul_emod_right]
      · intro h
        obtain ⟨q, eq⟩ := Int.dvd_of_emod_eq_zero h
        have e1 : (l : Int) * (4 * c) = l * (l * (t - q)) := by
          have : 4 * (l : Int) * c = b0 * b0 - d := ec.symm
          have t1 : (l : Int) * (4 * c) = 4 * l * c := by grind
          rw [t1, this, et, eq]; grind
        have e2 := Int.eq_of_mul_eq_mul_left (show (l : Int) ≠ 0 by omega) e1
        have e3 : (4 * c) % (l : Int) = 0 := by rw [e2, Int.mul_emod_right]
        have n4 : (4 : Int) % l ≠ 0 := by
          intro z
          have := Int.emod_add_mul_ediv 4 (l : Int)
          rw [z] at this
          have h3 : (l : Int) % 2 = 1 := by omega
          have hq : (4 : Int) / l = 0 ∨ (4 : Int) / l = 1 ∨ 2 ≤ (4 : Int) / l := by
            have := Int.ediv_nonneg (show (0 : Int) ≤ 4 by omega) (show (0 : Int) ≤ l by omega)
            omega
          rcases hq with q | q | q
          · rw [q] at this; omega
          · rw [q] at this; omega
          · have := mulL q (show (0 : Int) ≤ l by omega)
            omega
        exact (p.mul e3).resolve_left n4
    have g0 : (Int.gcd l b0 : Int) = l := gcd_self (by omega) m0
    by_cases hc : c % (l : Int) = 0
    · refine .no (pfL_none (by omega) fun b h1 h2 hk => ?_) ?_
      · have e := (bl b h1 h2).mp hk.1
        subst e
        have := hk.2
        rw [cc, g0] at this
        have := gcd_self (l := l) (by omega) hc
        omega
      · unfold manyI
        rw [if_pos (.inl ((cond_iff p ho hm).mpr (lc.mp hc)))]
    · refine .one b0 (pfL_one (by omega) rng.1 rng.2 fun b h1 h2 => ⟨fun hk => (bl b h1 h2).mp hk.1, fun e => ?_⟩) ?_ hb1
      · subst e
        refine ⟨c0, ?_⟩
        rw [cc, g0]
        exact p.one c hc
      · unfold manyI
        rw [hs, if_neg (by rw [cond_iff p ho hm, ← lc]; omega), if_pos rfl]
  · refine .no (pfL_none (by omega) fun b h1 h2 hk => ?_) ?_
    · have := (root_mem (l := l) l0).mp ((keep_iff p ho hd).mp hk.1).2
      rw [hn] at this
      cases this
    · unfold manyI
      rw [if_pos (.inr hs)]
  · -- two roots
    have key : ∀ b : Int, 1 - (l : Int) ≤ b → b ≤ l → (keepF d l b ↔ b % 2 = d % 2 ∧ (b % (l : Int) = x ∨ b % (l : Int) = l - x)) := fun b h1 h2 => by
      have rm := root_mem (l := l) l0 (d := d) (b := b)
      rw [hx, List.mem_cons, List.mem_singleton] at rm
      have r0 := Int.emod_nonneg b (show (l : Int) ≠ 0 by omega)
      unfold keepF
      rw [keep_iff p ho hd, rm]
      constructor
      · rintro ⟨⟨k1, k2⟩, _⟩
        exact ⟨k1, by omega⟩
      · rintro ⟨k1, k2⟩
        refine ⟨⟨k1, by omega⟩, mb b (by omega) _⟩
    generalize hb0 : (if (x : Int) % 2 = d % 2 then (x : Int) else l - x) = b0
    refine .two b0 (pfL_two (by omega) (by split at hb0 <;> omega) (by split at hb0 <;> omega) fun b h1 h2 => ?_) ?_ (by split at hb0 <;> omega) (by split at hb0 <;> omega)
    · rw [key b h1 h2, mods b h1 h2]
      split at hb0 <;> split <;> (try split) <;> omega
    · unfold manyI
      rw [hs, if_neg (by have := cF h0; omega), if_neg (by omega)]
theorem pf_two {d F : Int} (hd : d % 4 = 0 ∨ d % 4 = 1) (hm : MaxC d F) : PfOk d 2 F := by
  obtain ⟨h1, h2⟩ := hm.good
  have ed := Int.emod_add_mul_ediv d (F * F)
  rw [h1, Int.zero_add] at ed
  have F1 := hm.pos
  have sF := sq4 F
  have g2 : ∀ b : Int, b % 2 = 1 → ∀ y, Int.gcd (Int.gcd 2 b) y = 1 := fun b h y => by
    have : Int.gcd 2 b = 1 := (Pr.of (l := 2) (by decide)).one b (by omega)
    rw [this]; exact Int.one_gcd
  have g0 : ∀ b : Int, b % 2 = 0 → ∀ y, (Int.gcd (Int.gcd 2 b) y = 1 ↔ y % 2 = 1) := fun b h y => by
    have e : (Int.gcd 2 b : Int) = 2 := gcd_self (by omega) h
    rw [e]
    constructor
    · intro q
      by_cases w : y % 2 = 1
      · exact w
      · have := gcd_self (l := 2) (b := y) (by omega) (by omega)
        omega
    · intro q
      exact (Pr.of (l := 2) (by decide)).one y (by omega)
  have vals : ∀ b : Int, 1 - 2 ≤ b → b ≤ 2 → b = -1 ∨ b = 0 ∨ b = 1 ∨ b = 2 := fun b h1 h2 => by omega
  rcases hd with hd | hd
  · -- even
    have cF : F % 2 = 0 ↔ d % 16 = 0 ∨ d % 16 = 4 := by
      generalize d / (F * F) = e at *
      constructor
      · intro h
        obtain ⟨q, eq⟩ := Int.dvd_of_emod_eq_zero h
        have sq := sq4 q
        have t : d = 4 * (q * q * e) := by rw [← ed, eq]; grind
        have m : (q * q * e) % 4 = (q * q % 4) * (e % 4) % 4 := Int.mul_emod ..
        have e4 : e % 4 = 0 ∨ e % 4 = 1 := by omega
        rcases sq with sq | sq <;> rcases e4 with e4 | e4 <;> rw [sq.2, e4] at m <;> omega
      · intro h
        by_cases z : F % 2 = 0
        · exact z
        · exfalso
          have f4 : F * F % 4 = 1 := by omega
          have m : d % 4 = (F * F % 4) * (e % 4) % 4 := by rw [← ed, Int.mul_emod]
          rw [f4] at m
          have e4 : e % 4 = 0 := by omega
          obtain ⟨t, et⟩ := Int.dvd_of_emod_eq_zero e4
          have d4 : d = 4 * (F * F * t) := by rw [← ed, et]; grind
          have m2 : (F * F * t) % 4 = (F * F % 4) * (t % 4) % 4 := Int.mul_emod ..
          rw [f4] at m2
          have t4 : t % 4 < 2 := by omega
          apply hm.max (2 * F) (by omega)
          have dd : d = (2 * F * (2 * F)) * t := by rw [d4]; grind
          have p1 := prod1 F1 F1
          have pos : 2 * F * (2 * F) ≠ 0 := by
            have : 2 * F * (2 * F) = 4 * (F * F) := by grind
            omega
          refine ⟨by rw [dd, Int.mul_emod_right], ?_⟩
          rw [dd, Int.mul_ediv_cancel_left _ pos]
          exact t4
    have s0 : symI d 2 = 0 := by unfold symI; rw [if_pos (by omega)]
    have mk : manyI F (symI d 2) 2 = if d % 16 = 0 ∨ d % 16 = 4 then 0 else 1 := by
      unfold manyI
      rw [s0]
      by_cases q : F % 2 = 0
      · rw [if_pos (.inl q), if_pos (cF.mp q)]
      · rw [if_neg (by omega), if_pos rfl, if_neg (fun z => q (cF.mpr z))]
    have kp : ∀ b : Int, 1 - 2 ≤ b → b ≤ 2 → (keepF d 2 b ↔ (b = 0 ∧ d % 16 = 8) ∨ (b = 2 ∧ d % 16 = 12)) := fun b h1 h2 => by
      unfold keepF
      rcases vals b h1 h2 with rfl | rfl | rfl | rfl
      · simp; omega
      · rw [g0 0 (by decide)]; omega
      · simp; omega
      · rw [g0 2 (by decide)]; omega
    by_cases q1 : d % 16 = 8
    · exact .one 0 (pfL_one (by omega) (by omega) (by omega) fun b h1 h2 => by rw [kp b h1 h2]; omega) (by rw [mk, if_neg (by omega)]) (.inl rfl)
    · by_cases q2 : d % 16 = 12
      · exact .one 2 (pfL_one (by omega) (by omega) (by omega) fun b h1 h2 => by rw [kp b h1 h2]; omega) (by rw [mk, if_neg (by omega)]) (.inr rfl)
      · exact .no (pfL_none (by omega) fun b h1 h2 => by rw [kp b h1 h2]; omega) (by rw [mk, if_pos (by omega)])
  · -- odd
    have cF : F % 2 = 1 := by
      generalize d / (F * F) = e at *
      by_cases z : F % 2 = 1
      · exact z
      · have f4 : F * F % 4 = 0 := by omega
        have m : d % 4 = (F * F % 4) * (e % 4) % 4 := by rw [← ed, Int.mul_emod]
        rw [f4] at m
        omega
    have s0 : symI d 2 = if d % 8 = 1 then 1 else -1 := by unfold symI; rw [if_neg (by omega), if_pos rfl]
    have kp : ∀ b : Int, 1 - 2 ≤ b → b ≤ 2 → (keepF d 2 b ↔ (b = 1 ∨ b = -1) ∧ d % 8 = 1) := fun b h1 h2 => by
      unfold keepF
      rcases vals b h1 h2 with rfl | rfl | rfl | rfl
      · rw [and_iff_left (g2 (-1) (by decide) _)]; omega
      · rw [g0 0 (by decide)]; omega
      · rw [and_iff_left (g2 1 (by decide) _)]; omega
      · rw [g0 2 (by decide)]; omega
    by_cases q1 : d % 8 = 1
    · refine .two 1 (pfL_two (by omega) (by omega) (by omega) fun b h1 h2 => by rw [kp b h1 h2]; omega) ?_ (by omega) (by omega)
      unfold manyI
      rw [s0, if_pos q1, if_neg (by omega), if_neg (by omega)]
    · refine .no (pfL_none (by omega) fun b h1 h2 => by rw [kp b h1 h2]; omega) ?_
      unfold manyI
      rw [s0, if_neg q1, if_pos (.inr rfl)]
end Pv
end

section
/-! PvCW: conductors in a list, weighted numbers; plain. -/
set_option autoImplicit false
namespace Pv
open PySem
def condL (d : Int) : List Int := (List.range 81).filterMap fun k : Nat => if goodC d (k + 1) then some ((k : Int) + 1) else none
theorem mem_cond {d f : Int} : f ∈ condL d ↔ 1 ≤ f ∧ f ≤ 81 ∧ goodC d f := by
  unfold condL
  rw [List.mem_filterMap]
  constructor
  · rintro ⟨k, hk, e⟩
    have := List.mem_range.mp hk
    split at e
    · rename_i q
      cases e
      exact ⟨by omega, by omega, q⟩
    · cases e
  · rintro ⟨h1, h2, h3⟩
    refine ⟨(f - 1).toNat, List.mem_range.mpr (by omega), ?_⟩
    have e : ((f - 1).toNat : Int) + 1 = f := by omega
    rw [e, if_pos h3]
theorem cond_sorted {d : Int} : (condL d).Pairwise (· < ·) := by
  unfold condL
  refine List.Pairwise.filterMap _ (R := fun i j : Nat => i < j) ?_ List.pairwise_lt_range
  intro i j hij f hf g hg
  split at hf
  · split at hg
    · cases hf; cases hg
      show (i : Int) + 1 < j + 1
      omega
    · cases hg
  · cases hf
theorem snoc_ex {α : Type} : ∀ {xs : List α}, xs ≠ [] → ∃ ys y, xs = ys ++ [y]
  | [], h => absurd rfl h
  | [x], _ => ⟨[], x, rfl⟩
  | x :: y :: xs, _ => by
    obtain ⟨ys, z, e⟩ := snoc_ex (xs := y :: xs) (List.cons_ne_nil _ _)
    exact ⟨x :: ys, z, by rw [e]; rfl⟩
theorem cond_last {d : Int} (h1 : -20000 ≤ d) (h2 : d ≤ -3) (hd : d % 4 = 0 ∨ d % 4 = 1) : ∃ ys F, condL d = ys ++ [F] ∧ MaxC d F := by
  have one : (1 : Int) ∈ condL d := mem_cond.mpr ⟨by omega, by omega, by unfold goodC; constructor <;> simp <;> omega⟩
  obtain ⟨ys, F, e⟩ := snoc_ex (List.ne_nil_of_mem one)
  refine ⟨ys, F, e, ?_⟩
  have hF : F ∈ condL d := by rw [e]; simp
  obtain ⟨f1, f2, f3⟩ := mem_cond.mp hF
  refine ⟨f1, f3, fun f hf hg => ?_⟩
  have hm : f ∈ condL d := mem_cond.mpr ⟨by omega, hg.le (by omega) (by omega) h1, hg⟩
  have s := cond_sorted (d := d)
  rw [e] at hm s
  rcases List.mem_append.mp hm with hm | hm
  · have := (List.pairwise_append.mp s).2.2 f hm F (by simp)
    omega
  · rw [List.mem_singleton] at hm
    omega
def wI (d : Int) : Int := if d = -3 then 2 else if d = -4 then 3 else 6
def termI (d f : Int) : Int := if goodC d f then wI (d / (f * f)) * ((PL (d / (f * f))).length : Int) else 0
def wsumN (d : Int) (n : Nat) : Int := ((List.range n).map fun k : Nat => termI d (k + 1)).sum
def wsum (d : Int) : Int := wsumN d 81
theorem wsumN_succ (d : Int) (n : Nat) : wsumN d (n + 1) = wsumN d n + termI d (n + 1) := by
  unfold wsumN
  rw [List.range_succ, List.map_append, List.sum_append]
  simp
theorem wsumN_stop {d : Int} (hd : d < 0) {n : Nat} (h : -d < 3 * (((n : Int) + 1) * (n + 1))) : ∀ m : Nat, wsumN d (n + m) = wsumN d n
  | 0 => rfl
  | m + 1 => by
    rw [show n + (m + 1) = n + m + 1 from rfl, wsumN_succ, wsumN_stop hd h m]
    have : termI d ((n + m : Nat) + 1) = 0 := by
      unfold termI
      rw [if_neg]
      intro g
      have b := g.bound (by omega) hd
      have := mulL (show (n : Int) + 1 ≤ ((n + m : Nat) : Int) + 1 by omega) (show 0 ≤ (n : Int) + 1 by omega)
      have := mulL (show (n : Int) + 1 ≤ ((n + m : Nat) : Int) + 1 by omega) (show 0 ≤ ((n + m : Nat) : Int) + 1 by omega)
      rw [Int.mul_comm (((n + m : Nat) : Int) + 1) ((n : Int) + 1)] at this
      omega
    rw [this, Int.add_zero]
theorem sum_filterMap {α : Type} (p : α → Prop) [DecidablePred p] (f : α → Int) (h : Int → Int) : ∀ xs : List α, ((xs.filterMap fun k => if p k then some (f k) else none).map h).sum = (xs.map fun k => if p k then h (f k) else 0).sum
  | [] => rfl
  | x :: xs => by
    rw [List.filterMap_cons, List.map_cons, List.sum_cons, ← sum_filterMap p f h xs]
    by_cases q : p x
    · simp [q]
    · simp [q]
theorem wsum_cond (d : Int) : ((condL d).map fun f => wI (d / (f * f)) * ((PL (d / (f * f))).length : Int)).sum = wsum d := by
  unfold condL wsum wsumN termI
  exact sum_filterMap (fun k : Nat => goodC d (k + 1)) (fun k : Nat => (k : Int) + 1) (fun f => wI (d / (f * f)) * ((PL (d / (f * f))).length : Int)) (List.range 81)
/-- the quotients are discriminants -/
theorem goodC.inner {d f : Int} (h : goodC d f) (f1 : 1 ≤ f) (h1 : -20000 ≤ d) (hd : d < 0) : -20000 ≤ d / (f * f) ∧ d / (f * f) ≤ -3 ∧ (d / (f * f) % 4 = 0 ∨ d / (f * f) % 4 = 1) := by
  obtain ⟨g1, g2⟩ := h
  have e := Int.emod_add_mul_ediv d (f * f)
  have p := prod1 f1 f1
  generalize d / (f * f) = q at *
  have q0 : q ≤ -1 := by
    by_cases z : q ≤ -1
    · exact z
    · have := Int.mul_nonneg (show 0 ≤ f * f by omega) (show 0 ≤ q by omega)
      omega
  have := mulL p (show 0 ≤ -q by omega)
  have t : -q * (f * f) = -(f * f * q) := by grind
  omega
end Pv
end

section
/-! PvSh: what is shown: forms, lists of them; equal things. -/
set_option autoImplicit false
namespace Pv
open PySem
def smI (i : Int) : Prop := i.natAbs < 2 ^ 64
theorem p64 : (2 : Nat) ^ 64 ≤ 10 ^ 250 := by decide +kernel
theorem smI.fine {i : Int} (h : smI i) : fine (.int i) = true ∧ (PyData.int i).weight ≤ 64 := by
  refine ⟨decide_eq_true (Nat.lt_of_lt_of_le h p64), ?_⟩
  unfold PyData.weight
  split
  · omega
  · rename_i z
    have : i.natAbs ≠ 0 := by
      intro q
      apply z
      have : i = 0 := by omega
      rw [this]; rfl
    have := (Nat.log2_lt this).mpr h
    omega
structure SmF (f : Fm) : Prop where
  a : smI f.1
  b : smI f.2.1
  c : smI f.2.2
theorem SmF.fine {f : Fm} (h : SmF f) : fine (fD f) = true ∧ (fD f).depth ≤ 1 ∧ (fD f).weight ≤ 195 := by
  obtain ⟨a1, a2⟩ := h.a.fine
  obtain ⟨b1, b2⟩ := h.b.fine
  obtain ⟨c1, c2⟩ := h.c.fine
  refine ⟨?_, ?_, ?_⟩
  · unfold fD
    simp only [Pv.fine, fineAll, Bool.and_true, Bool.and_eq_true] at *
    exact ⟨a1, b1, c1⟩
  · unfold fD
    simp [PyData.depth, PyData.depthAll]
  · unfold fD
    simp only [PyData.weight, PyData.weightAll] at *
    omega
theorem fine_forms : ∀ {fs : List Fm}, (∀ f ∈ fs, SmF f) → fineAll (fs.map fD) = true ∧ PyData.depthAll (fs.map fD) ≤ 1 ∧ PyData.weightAll (fs.map fD) ≤ 196 * fs.length
  | [], _ => ⟨rfl, by simp [PyData.depthAll], by simp [PyData.weightAll]⟩
  | f :: fs, h => by
    obtain ⟨h1, h2, h3⟩ := (h f List.mem_cons_self).fine
    obtain ⟨i1, i2, i3⟩ := fine_forms (fs := fs) fun x hx => h x (List.mem_cons_of_mem _ hx)
    rw [List.map_cons]
    refine ⟨?_, ?_, ?_⟩
    · unfold fineAll
      rw [h1, i1]; rfl
    · unfold PyData.depthAll
      omega
    · unfold PyData.weightAll
      rw [List.length_cons]
      omega
/-- a list of two equal small things -/
theorem show_two {x : D} (h1 : fine x = true) (h2 : x.depth ≤ 60) (h3 : x.weight ≤ 9000) : showOk (.list [x, x]) = true := by
  refine show_fine ?_ ?_ ?_
  · simp [fine, fineAll, h1]
  · simp only [PyData.depth, PyData.depthAll]
    omega
  · simp only [PyData.weight, PyData.weightAll]
    omega
theorem show_forms {fs : List Fm} (h : ∀ f ∈ fs, SmF f) (hl : fs.length ≤ 40) : showOk (.list [.tuple (fs.map fD), .tuple (fs.map fD)]) = true := by
  obtain ⟨h1, h2, h3⟩ := fine_forms h
  refine show_two h1 ?_ ?_
  · simp only [PyData.depth]; omega
  · simp only [PyData.weight]; omega
theorem show_ints {i : Int} (h : smI i) : showOk (.list [.int i, .int i]) = true := by
  obtain ⟨h1, h2⟩ := h.fine
  exact show_two h1 (by simp [PyData.depth]) (by omega)
theorem show_pair {i j : Int} (h : smI i) (h' : smI j) : showOk (.list [.tuple [.int i, .int j], .tuple [.int i, .int j]]) = true := by
  obtain ⟨h1, h2⟩ := h.fine
  obtain ⟨h3, h4⟩ := h'.fine
  refine show_two ?_ ?_ ?_
  · simp only [fine, fineAll] at *
    simp [h1, h3]
  · simp [PyData.depth, PyData.depthAll]
  · simp only [PyData.weight, PyData.weightAll] at *
    omega
theorem eq_self {x : D} (h : shp x = true) (h2 : isInt x = false) : cmpV .eq x x = some true := by
  have hc : x.canLay0 = true := by
    unfold shp SeqAt.shaped at h
    simp only [Bool.and_eq_true] at h
    exact h.1
  have e : PyData.eqv x x = true := SeqAt.eqv_refl x hc
  cases x with
  | none => rfl
  | bool b => show some (b == b) = _; simp
  | int i => simp [isInt] at h2
  | str y => show some (decide (y = y)) = _; simp
  | list xs => show (if shp (.list xs) && shp (.list xs) then some (PyData.eqv (.list xs) (.list xs)) else lensV (.list xs) (.list xs)) = _; rw [h, e]; rfl
  | tuple xs => show (if shp (.tuple xs) && shp (.tuple xs) then some (PyData.eqv (.tuple xs) (.tuple xs)) else lensV (.tuple xs) (.tuple xs)) = _; rw [h, e]; rfl
  | dict kvs => show (if shp (.dict kvs) && shp (.dict kvs) then some (PyData.eqv (.dict kvs) (.dict kvs)) else lensV (.dict kvs) (.dict kvs)) = _; rw [h, e]; rfl
theorem shp_form (f : Fm) : shp (fD f) = true := by
  unfold shp SeqAt.shaped fD
  simp [PyData.canLay0, PyData.canLayAll0, PyData.depth, PyData.depthAll]
theorem eq_form (f : Fm) : cmpV .eq (fD f) (fD f) = some true := eq_self (shp_form f) rfl
/-- repr(x) != repr(x) -/
theorem repr_self {x : D} (h : showOk x = true) : biV .repr [x] = some (.str x.shown) := bi_repr h
@[simp] theorem ne_str (x : Str) : cmpV .ne (.str x) (.str x) = some false := ne_same x
@[simp] theorem eq_str (x : Str) : cmpV .eq (.str x) (.str x) = some true := eq_same x
theorem sm_of {i : Int} (h1 : -18446744073709551616 < i) (h2 : i < 18446744073709551616) : smI i := by
  unfold smI
  have : (2 : Nat) ^ 64 = 18446744073709551616 := by decide
  omega
end Pv
end

section
/-! PvMo: led forms: sizes, divisors, values; what is shown of them. -/
set_option autoImplicit false
namespace Pv
open PySem
theorem Sz.add' {k l n : Nat} {i j : Int} (h : Sz k i) (h2 : Sz l j) (hk : k < n) (hl : l < n) : Sz n (i + j) := (h.add h2).mono (by omega)
theorem sz_led {f : Fm} {m : Mx} {k l : Nat} (hf : SzK k f) (hm : SzM l m) : SzK (k + l + l + 6) (ledF f m) := by
  obtain ⟨a, b, c⟩ := f
  obtain ⟨g, h, i, j⟩ := m
  obtain ⟨sa, sb, sc⟩ := hf
  obtain ⟨sg, sh, si, sj⟩ := hm
  simp only at sa sb sc sg sh si sj
  have s2 : Sz 2 2 := by unfold Sz; decide
  refine ⟨?_, ?_, ?_⟩
  · exact Sz.add' (Sz.add' ((sa.mul sg).mul sg) ((sb.mul sg).mul si) (n := k + l + l + 1) (by omega) (by omega)) ((sc.mul si).mul si) (by omega) (by omega)
  · have ss : Sz (l + l + 1) (g * j + h * i) := Sz.add' (sg.mul sj) (sh.mul si) (by omega) (by omega)
    exact Sz.add' (Sz.add' (((s2.mul sa).mul sg).mul sh) (sb.mul ss) (n := k + l + l + 4) (by omega) (by omega)) (((s2.mul sc).mul si).mul sj) (by omega) (by omega)
  · exact Sz.add' (Sz.add' ((sa.mul sh).mul sh) ((sb.mul sh).mul sj) (n := k + l + l + 1) (by omega) (by omega)) ((sc.mul sj).mul sj) (by omega) (by omega)
theorem sz_mulM {m n : Mx} {k l : Nat} (hm : SzM k m) (hn : SzM l n) : SzM (k + l + 1) (mulM m n) := by
  obtain ⟨a, b, c, d⟩ := m
  obtain ⟨g, h, i, j⟩ := n
  obtain ⟨sa, sb, sc, sd⟩ := hm
  obtain ⟨sg, sh, si, sj⟩ := hn
  simp only at sa sb sc sd sg sh si sj
  exact ⟨Sz.add' (sa.mul sg) (sb.mul si) (by omega) (by omega), Sz.add' (sa.mul sh) (sb.mul sj) (by omega) (by omega), Sz.add' (sc.mul sg) (sd.mul si) (by omega) (by omega), Sz.add' (sc.mul sh) (sd.mul sj) (by omega) (by omega)⟩
theorem SzM.inv {k : Nat} {m : Mx} (h : SzM k m) : SzM k (invM m) := ⟨h.j, h.h.neg, h.i.neg, h.g⟩
theorem sz_val {f : Fm} {x y : Int} {k l : Nat} (hf : SzK k f) (hx : Sz l x) (hy : Sz l y) : Sz (k + l + l + 3) (val f x y) := by
  obtain ⟨a, b, c⟩ := f
  obtain ⟨sa, sb, sc⟩ := hf
  simp only at sa sb sc
  exact Sz.add' (Sz.add' ((sa.mul hx).mul hx) ((sb.mul hx).mul hy) (n := k + l + l + 1) (by omega) (by omega)) ((sc.mul hy).mul hy) (by omega) (by omega)
theorem val_pos {f : Fm} (h : GoodF f) {x y : Int} (hn : ¬ (x = 0 ∧ y = 0)) : 0 < val f x y := by
  obtain ⟨a, b, c⟩ := f
  have a0 := h.a0; have d2 := h.d2
  unfold disc at d2
  unfold val
  simp only at a0 d2 ⊢
  generalize hv : a * x * x + b * x * y + c * y * y = v
  have e : 4 * a * v = (2 * a * x + b * y) * (2 * a * x + b * y) + (4 * a * c - b * b) * (y * y) := by rw [← hv]; grind
  have t0 := sq_nn (2 * a * x + b * y)
  have pos : 0 < 4 * a * v := by
    by_cases hy : y = 0
    · have hx : x ≠ 0 := fun z => hn ⟨z, hy⟩
      subst hy
      have ax : 2 * a * x ≠ 0 := fun z => by
        rcases Int.mul_eq_zero.mp z with q | q
        · omega
        · exact hx q
      have := sq_pos ax
      simp only [Int.mul_zero, Int.add_zero] at e
      omega
    · have := sq_pos hy
      have t1 : 3 * 1 ≤ (4 * a * c - b * b) * (y * y) := by
        have q1 := mulL this (show 0 ≤ 4 * a * c - b * b by omega)
        omega
      omega
  by_cases q : 0 < v
  · exact q
  · have := Int.mul_nonneg (show 0 ≤ 4 * a by omega) (show 0 ≤ -v by omega)
    rw [Int.mul_neg] at this
    omega
theorem det_ne {m : Mx} (d : det m = 1) : ¬ (m.1 = 0 ∧ m.2.2.1 = 0) := by
  rintro ⟨h1, h2⟩
  unfold det at d
  rw [h1, h2] at d
  simp at d
theorem led_good {f : Fm} {m : Mx} (h : GoodF f) (d : det m = 1) : GoodF (ledF f m) := h.led d (val_pos h (det_ne d))
theorem led_prim {f : Fm} {m : Mx} (h : prim f) (d : det m = 1) : prim (ledF f m) := by
  have back : f = ledF (ledF f m) (invM m) := by rw [led_mul, mul_inv d, led_one]
  unfold prim at *
  generalize hG : ledF f m = G at *
  obtain ⟨a, b, c⟩ := G
  obtain ⟨g, h', i, j⟩ := m
  have k1 : (Int.gcd (Int.gcd a b) c : Int) ∣ a := Int.dvd_trans (Int.gcd_dvd_left _ _) (Int.gcd_dvd_left _ _)
  have k2 : (Int.gcd (Int.gcd a b) c : Int) ∣ b := Int.dvd_trans (Int.gcd_dvd_left _ _) (Int.gcd_dvd_right _ _)
  have k3 : (Int.gcd (Int.gcd a b) c : Int) ∣ c := Int.gcd_dvd_right _ _
  simp only
  generalize Int.gcd (Int.gcd a b) c = k at *
  obtain ⟨x, rfl⟩ := k1
  obtain ⟨y, rfl⟩ := k2
  obtain ⟨z, rfl⟩ := k3
  have f1 : (k : Int) ∣ f.1 := by
    rw [back]
    exact ⟨x * j * j + y * j * (-i) + z * (-i) * (-i), by simp only [ledF, invM]; grind⟩
  have f2 : (k : Int) ∣ f.2.1 := by
    rw [back]
    exact ⟨2 * x * j * (-h') + y * (j * g + (-h') * (-i)) + 2 * z * (-i) * g, by simp only [ledF, invM]; grind⟩
  have f3 : (k : Int) ∣ f.2.2 := by
    rw [back]
    exact ⟨x * (-h') * (-h') + y * (-h') * g + z * g * g, by simp only [ledF, invM]; grind⟩
  have := Int.dvd_gcd (Int.dvd_coe_gcd f1 f2) f3
  rw [h] at this
  exact Nat.dvd_one.mp this
/-! ### what is shown: ints of many digits -/
def mdI (i : Int) : Prop := i.natAbs < 2 ^ 800
theorem p800 : (2 : Nat) ^ 800 ≤ 10 ^ 250 := by decide +kernel
theorem Sz.md {k : Nat} {i : Int} (h : Sz k i) (hk : k ≤ 800) : mdI i := h.mono hk
theorem mdI.fine {i : Int} (h : mdI i) : fine (.int i) = true ∧ (PyData.int i).weight ≤ 800 := by
  refine ⟨decide_eq_true (Nat.lt_of_lt_of_le h p800), ?_⟩
  unfold PyData.weight
  split
  · omega
  · rename_i z
    have : i.natAbs ≠ 0 := by
      intro q
      apply z
      have : i = 0 := by omega
      rw [this]; rfl
    have := (Nat.log2_lt this).mpr h
    omega
/-- a few ints -/
theorem md_all : ∀ {is : List Int}, (∀ i ∈ is, mdI i) → fineAll (is.map .int) = true ∧ PyData.depthAll (is.map .int) = 0 ∧ PyData.weightAll (is.map .int) ≤ 801 * is.length
  | [], _ => ⟨rfl, by simp [PyData.depthAll], by simp [PyData.weightAll]⟩
  | i :: is, h => by
    obtain ⟨h1, h2⟩ := (h i List.mem_cons_self).fine
    obtain ⟨i1, i2, i3⟩ := md_all (is := is) fun x hx => h x (List.mem_cons_of_mem _ hx)
    rw [List.map_cons]
    refine ⟨?_, ?_, ?_⟩
    · unfold fineAll
      rw [h1, i1]; rfl
    · unfold PyData.depthAll
      rw [i2]; rfl
    · unfold PyData.weightAll
      rw [List.length_cons]
      omega
theorem show_md2 {is : List Int} (h : ∀ i ∈ is, mdI i) (hl : is.length ≤ 10) : showOk (.list [.tuple (is.map .int), .tuple (is.map .int)]) = true := by
  obtain ⟨h1, h2, h3⟩ := md_all h
  refine show_two h1 ?_ ?_
  · simp only [PyData.depth]; omega
  · simp only [PyData.weight]; omega
theorem show_mds {is : List Int} (h : ∀ i ∈ is, mdI i) (hl : is.length ≤ 10) : showOk (.list (is.map .int)) = true := by
  obtain ⟨h1, h2, h3⟩ := md_all h
  refine show_fine h1 ?_ ?_
  · simp only [PyData.depth]; omega
  · simp only [PyData.weight]; omega
theorem show_fm {f : Fm} {k : Nat} (h : SzK k f) (hk : k ≤ 800) : showOk (.list [fD f, fD f]) = true := by
  have := show_md2 (is := fL f) (by
    intro i hi
    unfold fL at hi
    simp only [List.mem_cons, List.not_mem_nil, or_false] at hi
    rcases hi with rfl | rfl | rfl
    · exact h.a.md hk
    · exact h.b.md hk
    · exact h.c.md hk) (by simp [fL])
  exact this
theorem show_mx {m : Mx} {k : Nat} (h : SzM k m) (hk : k ≤ 800) : showOk (.list [mD m, mD m]) = true := by
  have := show_md2 (is := [m.1, m.2.1, m.2.2.1, m.2.2.2]) (by
    intro i hi
    simp only [List.mem_cons, List.not_mem_nil, or_false] at hi
    rcases hi with rfl | rfl | rfl | rfl
    · exact h.g.md hk
    · exact h.h.md hk
    · exact h.i.md hk
    · exact h.j.md hk) (by simp)
  exact this
theorem shp_md (m : Mx) : shp (mD m) = true := by
  unfold shp SeqAt.shaped mD
  simp [PyData.canLay0, PyData.canLayAll0, PyData.depth, PyData.depthAll]
theorem ne_mx (m : Mx) : cmpV .ne (mD m) (mD m) = some false := by
  have e := eq_self (shp_md m) rfl
  show (eqD (mD m) (mD m)).map (!·) = _
  rw [show eqD (mD m) (mD m) = some true from e]; rfl
theorem eq_mx (m : Mx) : cmpV .eq (mD m) (mD m) = some true := eq_self (shp_md m) rfl
theorem ne_fm (f : Fm) : cmpV .ne (fD f) (fD f) = some false := by
  have e := eq_form f
  show (eqD (fD f) (fD f)).map (!·) = _
  rw [show eqD (fD f) (fD f) = some true from e]; rfl
/-- small reduced forms -/
theorem sz_of {n : Nat} {x : Int} {k : Nat} (h : x.natAbs ≤ n) (hn : n < 2 ^ k) : Sz k x := Nat.lt_of_le_of_lt h hn
theorem Rf.good {d : Int} {f : Fm} (h : Rf d f) (h1 : -20000 ≤ d) (h2 : d ≤ -3) : GoodF f := ⟨h.red.a0, by rw [h.disc]; exact h1, by rw [h.disc]; exact h2⟩
theorem Rf.sz {d : Int} {f : Fm} (h : Rf d f) (h1 : -20000 ≤ d) (h2 : d ≤ -3) : SzK 20 f := by
  have a := h.a_le h1
  have g := h.good h1 h2
  have r1 := h.red.a0; have r2 := h.red.lo; have r3 := h.red.hi
  have c := g.c_le (by omega) r3
  have c0 := g.c0
  exact ⟨sz_of (n := 81) (by omega) (by decide), sz_of (n := 81) (by omega) (by decide), sz_of (n := 20081) (by omega) (by decide)⟩
theorem PL_ne {d : Int} (h1 : -20000 ≤ d) (h2 : d ≤ -3) (hd : d % 4 = 0 ∨ d % 4 = 1) : PL d ≠ [] := by
  have : (1, d % 2, (d % 2 * (d % 2) - d) / 4) ∈ PL d := by
    rw [mem_PL h1]
    have e : d % 2 = 0 ∨ d % 2 = 1 := by omega
    rcases e with e | e
    · rw [e]
      refine ⟨⟨by simp only; omega, by simp only; omega, by simp only; omega, by simp only; omega, by simp⟩, ?_, ?_⟩
      · unfold Pv.disc; simp only; omega
      · unfold Pv.prim; simp
    · rw [e]
      refine ⟨⟨by simp only; omega, by simp only; omega, by simp only; omega, by simp only; omega, by simp⟩, ?_, ?_⟩
      · unfold Pv.disc; simp only; omega
      · unfold Pv.prim; simp
  exact List.ne_nil_of_mem this
theorem PL_len (d : Int) : (PL d).length ≤ 20000 := by
  have : ∀ n : Nat, n ≤ 81 → (rowsP d n).length ≤ n * 200 := by
    intro n
    induction n with
    | zero => intro _; exact Nat.le_refl _
    | succ n ih =>
      intro h
      rw [rows_succ, List.length_append]
      have h1 := ih (by omega)
      have h2 : (rowP d (n + 1)).length ≤ (2 * ((n : Int) + 1)).toNat := by
        unfold rowP
        refine Nat.le_trans (List.length_filterMap_le _ _) ?_
        rw [List.length_range]; omega
      omega
  have := this 81 (by omega)
  unfold PL
  omega
end Pv
end

section
/-! PvId: products of forms: eight numbers that hold two forms and their product. -/
set_option autoImplicit false
namespace Pv
open PySem
/-- what holds two forms and their product -/
structure Cub where
  g : Int
  v : Int
  u1 : Int
  u2 : Int
  k1 : Int
  k2 : Int
  k3 : Int
def Cub.f1 (q : Cub) : Fm := (q.g * q.u1, q.g * q.v - q.u1 * q.k1 + q.u2 * q.k2, q.k3 * q.u2 - q.v * q.k1)
def Cub.f2 (q : Cub) : Fm := (q.g * q.u2, q.g * q.v + q.u1 * q.k1 - q.u2 * q.k2, q.k3 * q.u1 - q.v * q.k2)
def Cub.ff (q : Cub) : Fm := (q.u1 * q.u2, q.g * q.v + q.u1 * q.k1 + q.u2 * q.k2, q.g * q.k3 + q.k1 * q.k2)
theorem Cub.disc1 (q : Cub) : disc q.f1 = disc q.ff := by
  unfold disc Cub.f1 Cub.ff
  grind
theorem Cub.disc2 (q : Cub) : disc q.f2 = disc q.ff := by
  unfold disc Cub.f2 Cub.ff
  grind
/-- two forms of one discriminant have such numbers -/
theorem cub_of {a1 b1 c1 a2 b2 c2 g u1 u2 v m x y s z : Int} (hg : g ≠ 0) (h1 : a1 = g * u1) (h2 : a2 = g * u2) (hb1 : b1 = g * v + m) (hb2 : b2 = g * v - m)
    (hz : s * (x * u1 + y * u2) + z * v = 1) (hd : b1 * b1 - 4 * a1 * c1 = b2 * b2 - 4 * a2 * c2) :
    ∃ q : Cub, q.g = g ∧ q.u1 = u1 ∧ q.u2 = u2 ∧ q.v = v ∧ q.k1 = -(s * x * m) - z * c1 ∧ q.k2 = s * y * m - z * c2 ∧ q.k3 = s * (x * c2 + y * c1) ∧ q.f1 = (a1, b1, c1) ∧ q.f2 = (a2, b2, c2) := by
  subst h1 h2 hb1 hb2
  have e1 : g * (v * m) = g * (u1 * c1 - u2 * c2) := by grind
  have vm : v * m = u1 * c1 - u2 * c2 := Int.eq_of_mul_eq_mul_left hg e1
  refine ⟨⟨g, v, u1, u2, -(s * x * m) - z * c1, s * y * m - z * c2, s * (x * c2 + y * c1)⟩, rfl, rfl, rfl, rfl, rfl, rfl, rfl, ?_, ?_⟩
  · simp only [Cub.f1, Prod.mk.injEq, true_and]
    refine ⟨?_, ?_⟩
    · have : -(u1 * (-(s * x * m) - z * c1)) + u2 * (s * y * m - z * c2) = m := by
        have : -(u1 * (-(s * x * m) - z * c1)) + u2 * (s * y * m - z * c2) = m * (s * (x * u1 + y * u2)) + z * (u1 * c1 - u2 * c2) := by grind
        rw [this, ← vm]
        have : m * (s * (x * u1 + y * u2)) + z * (v * m) = m * (s * (x * u1 + y * u2) + z * v) := by grind
        rw [this, hz, Int.mul_one]
      omega
    · have : s * (x * c2 + y * c1) * u2 - v * (-(s * x * m) - z * c1) = s * x * c2 * u2 + s * y * c1 * u2 + s * x * (v * m) + v * z * c1 := by grind
      rw [this, vm]
      have : s * x * c2 * u2 + s * y * c1 * u2 + s * x * (u1 * c1 - u2 * c2) + v * z * c1 = c1 * (s * (x * u1 + y * u2) + z * v) := by grind
      rw [this, hz, Int.mul_one]
  · simp only [Cub.f2, Prod.mk.injEq, true_and]
    refine ⟨?_, ?_⟩
    · have : -(u1 * (-(s * x * m) - z * c1)) + u2 * (s * y * m - z * c2) = m := by
        have : -(u1 * (-(s * x * m) - z * c1)) + u2 * (s * y * m - z * c2) = m * (s * (x * u1 + y * u2)) + z * (u1 * c1 - u2 * c2) := by grind
        rw [this, ← vm]
        have : m * (s * (x * u1 + y * u2)) + z * (v * m) = m * (s * (x * u1 + y * u2) + z * v) := by grind
        rw [this, hz, Int.mul_one]
      omega
    · have : s * (x * c2 + y * c1) * u1 - v * (s * y * m - z * c2) = s * x * c2 * u1 + s * y * c1 * u1 - s * y * (v * m) + v * z * c2 := by grind
      rw [this, vm]
      have : s * x * c2 * u1 + s * y * c1 * u1 - s * y * (u1 * c1 - u2 * c2) + v * z * c2 = c2 * (s * (x * u1 + y * u2) + z * v) := by grind
      rw [this, hz, Int.mul_one]
/-- a common divisor of g, k1, k2, k3 divides all of the first form -/
theorem Cub.cop (q : Cub) (p1 : prim q.f1) {e : Int} (hg : e ∣ q.g) (h1 : e ∣ q.k1) (h2 : e ∣ q.k2) (h3 : e ∣ q.k3) : e ∣ 1 := by
  have d1 : e ∣ q.f1.1 := Int.dvd_trans hg (Int.dvd_mul_right _ _)
  have d2 : e ∣ q.f1.2.1 := Int.dvd_add (Int.dvd_sub (Int.dvd_trans hg (Int.dvd_mul_right _ _)) (Int.dvd_trans h1 (Int.dvd_mul_left _ _))) (Int.dvd_trans h2 (Int.dvd_mul_left _ _))
  have d3 : e ∣ q.f1.2.2 := Int.dvd_sub (Int.dvd_trans h3 (Int.dvd_mul_right _ _)) (Int.dvd_trans h1 (Int.dvd_mul_left _ _))
  have := Int.dvd_coe_gcd (Int.dvd_coe_gcd d1 d2) d3
  unfold prim at p1
  rw [p1] at this
  exact this
end Pv
end

section
/-! PvIe: whole numbers of a quadratic field; sets of them; products of sets. -/
set_option autoImplicit false
namespace Pv
open PySem
abbrev QO := Int × Int
/-- u + v t times u' + v' t, where t t = s t + q -/
def mO (s q : Int) (z w : QO) : QO := (z.1 * w.1 + q * (z.2 * w.2), z.1 * w.2 + z.2 * w.1 + s * (z.2 * w.2))
def aO (z w : QO) : QO := (z.1 + w.1, z.2 + w.2)
def iO (n : Int) (z : QO) : QO := (n * z.1, n * z.2)
def nO (s q : Int) (z : QO) : Int := z.1 * z.1 + s * (z.1 * z.2) - q * (z.2 * z.2)
section
variable (s q : Int) (x y z w : QO)
theorem mO_comm : mO s q x y = mO s q y x := by
  obtain ⟨a, b⟩ := x; obtain ⟨c, d⟩ := y
  simp only [mO, Prod.mk.injEq]
  refine ⟨?_, ?_⟩ <;> grind
theorem mO_assoc : mO s q (mO s q x y) z = mO s q x (mO s q y z) := by
  obtain ⟨a, b⟩ := x; obtain ⟨c, d⟩ := y; obtain ⟨e, f⟩ := z
  simp only [mO, Prod.mk.injEq]
  refine ⟨?_, ?_⟩ <;> grind
theorem mO_add : mO s q x (aO y z) = aO (mO s q x y) (mO s q x z) := by
  obtain ⟨a, b⟩ := x; obtain ⟨c, d⟩ := y; obtain ⟨e, f⟩ := z
  simp only [mO, aO, Prod.mk.injEq]
  refine ⟨?_, ?_⟩ <;> grind
theorem aO_comm : aO x y = aO y x := by
  simp only [aO, Prod.mk.injEq]
  refine ⟨?_, ?_⟩ <;> omega
theorem aO_assoc : aO (aO x y) z = aO x (aO y z) := by
  simp only [aO, Prod.mk.injEq]
  refine ⟨?_, ?_⟩ <;> omega
theorem mO_zero : mO s q x (0, 0) = (0, 0) := by simp [mO]
theorem aO_zero : aO x (0, 0) = x := by simp [aO]
theorem nO_mul : nO s q (mO s q x y) = nO s q x * nO s q y := by
  obtain ⟨a, b⟩ := x; obtain ⟨c, d⟩ := y
  simp only [mO, nO]
  grind
end
/-- sums of products -/
inductive Prd (s q : Int) (S T : QO → Prop) : QO → Prop where
  | zero : Prd s q S T (0, 0)
  | add {z a b : QO} (h : Prd s q S T z) (ha : S a) (hb : T b) : Prd s q S T (aO z (mO s q a b))
theorem Prd.comm {s q : Int} {S T : QO → Prop} {z : QO} (h : Prd s q S T z) : Prd s q T S z := by
  induction h with
  | zero => exact .zero
  | add _ ha hb ih => rw [mO_comm]; exact .add ih hb ha
theorem Prd.plus {s q : Int} {S T : QO → Prop} {z w : QO} (h : Prd s q S T z) (k : Prd s q S T w) : Prd s q S T (aO z w) := by
  induction k with
  | zero => rw [aO_zero]; exact h
  | add _ ha hb ih => rw [← aO_assoc]; exact .add ih ha hb
theorem Prd.one {s q : Int} {S T : QO → Prop} {a b : QO} (ha : S a) (hb : T b) : Prd s q S T (mO s q a b) := by
  have := Prd.add (s := s) (q := q) .zero ha hb
  rwa [aO_comm, aO_zero] at this
theorem Prd.assoc1 {s q : Int} {S T U : QO → Prop} {z u : QO} (h : Prd s q S T z) (hu : U u) : Prd s q S (Prd s q T U) (mO s q z u) := by
  induction h with
  | zero => rw [mO_comm, mO_zero]; exact .zero
  | add _ ha hb ih =>
    rw [mO_comm, mO_add, mO_comm s q u, mO_comm s q u, mO_assoc]
    exact .add ih ha (.one hb hu)
theorem Prd.assoc {s q : Int} {S T U : QO → Prop} {z : QO} (h : Prd s q (Prd s q S T) U z) : Prd s q S (Prd s q T U) z := by
  induction h with
  | zero => exact .zero
  | add _ ha hb ih => exact ih.plus (ha.assoc1 hb)
theorem Prd.mono {s q : Int} {S S' T T' : QO → Prop} {z : QO} (hS : ∀ x, S x → S' x) (hT : ∀ x, T x → T' x) (h : Prd s q S T z) : Prd s q S' T' z := by
  induction h with
  | zero => exact .zero
  | add _ ha hb ih => exact .add ih (hS _ ha) (hT _ hb)
end Pv
end

section
/-! PvWy: pairs that a form takes to a number; forms that begin with it; traces. -/
set_option autoImplicit false
namespace Pv
open PySem
def RtOf (n x : Int) : Prop := 0 ≤ x ∧ x * x ≤ n ∧ n < (x + 1) * (x + 1)
theorem RtOf.uni {n x y : Int} (h : RtOf n x) (k : RtOf n y) : x = y := by
  obtain ⟨a1, a2, a3⟩ := h
  obtain ⟨b1, b2, b3⟩ := k
  have c1 : x < y + 1 := sq_lt (by omega) (by omega)
  have c2 : y < x + 1 := sq_lt (by omega) (by omega)
  omega
theorem RtOf.ex : ∀ n : Nat, ∃ x, RtOf (n : Int) x
  | 0 => ⟨0, by unfold RtOf; omega⟩
  | n + 1 => by
    obtain ⟨x, h1, h2, h3⟩ := RtOf.ex n
    by_cases q : (n : Int) + 1 < (x + 1) * (x + 1)
    · exact ⟨x, h1, by push_cast; omega, by push_cast; omega⟩
    · refine ⟨x + 1, by omega, by push_cast; omega, ?_⟩
      have e : (x + 1 + 1) * (x + 1 + 1) = (x + 1) * (x + 1) + 2 * (x + 1) + 1 := by grind
      push_cast
      omega
open Classical in
noncomputable def rt (n : Int) : Int := if h : ∃ x, RtOf n x then Classical.choose h else 0
theorem rt_of {n : Int} (h : 0 ≤ n) : RtOf n (rt n) := by
  have e : ∃ x, RtOf n x := by
    obtain ⟨x, hx⟩ := RtOf.ex n.toNat
    have : (n.toNat : Int) = n := by omega
    rw [this] at hx
    exact ⟨x, hx⟩
  unfold rt
  rw [dif_pos e]
  exact Classical.choose_spec e
theorem rt_eq {n x : Int} (h : RtOf n x) : rt n = x := (rt_of (by have := sq_nn x; have := h.2.1; omega)).uni h
theorem rt_sq {x : Int} (h : 0 ≤ x) : rt (x * x) = x := by
  have e : (x + 1) * (x + 1) = x * x + 2 * x + 1 := by grind
  exact rt_eq ⟨h, Int.le_refl _, by omega⟩
/-- a pair of ints as a value -/
abbrev Pr2 := Int × Int
def pD (p : Pr2) : D := .tuple [.int p.1, .int p.2]
def pL (p : Pr2) : List Int := [p.1, p.2]
theorem tupD_p (p : Pr2) : tupD (pL p) = pD p := rfl
def tops (r : Int) : List Int := if r = 0 then [0] else [-r, r]
def keepT (a c y t : Int) : Option Pr2 := if (t - c) % (2 * a) = 0 ∧ Int.gcd ((t - c) / (2 * a)) y = 1 then some ((t - c) / (2 * a), y) else none
def sqW (f : Fm) (d n y : Int) : Int := 4 * f.1 * n + d * y * y
noncomputable def rowW (f : Fm) (d n y : Int) : List Pr2 := if rt (sqW f d n y) * rt (sqW f d n y) = sqW f d n y then (tops (rt (sqW f d n y))).filterMap (keepT f.1 (f.2.1 * y) y) else []
noncomputable def mostW (f : Fm) (d n : Int) : Int := rt (4 * f.1 * n / -d)
noncomputable def rowsW (f : Fm) (d n lo : Int) (k : Nat) : List Pr2 := (List.range k).flatMap fun j : Nat => rowW f d n (lo + j)
noncomputable def WL (f : Fm) (d n : Int) : List Pr2 := rowsW f d n (-mostW f d n) (2 * mostW f d n + 1).toNat
theorem rowsW_succ (f : Fm) (d n lo : Int) (k : Nat) : rowsW f d n lo (k + 1) = rowsW f d n lo k ++ rowW f d n (lo + k) := by
  unfold rowsW
  rw [List.range_succ, List.flatMap_append, List.flatMap_singleton]
theorem tops_len (r : Int) : (tops r).length ≤ 2 := by unfold tops; split <;> simp
theorem rowW_len (f : Fm) (d n y : Int) : (rowW f d n y).length ≤ 2 := by
  unfold rowW
  split
  · exact Nat.le_trans (List.length_filterMap_le _ _) (tops_len _)
  · simp
theorem rowsW_len (f : Fm) (d n lo : Int) : ∀ k : Nat, (rowsW f d n lo k).length ≤ 2 * k
  | 0 => Nat.le_refl _
  | k + 1 => by
    rw [rowsW_succ, List.length_append]
    have := rowsW_len f d n lo k
    have := rowW_len f d n (lo + k)
    omega
def IsWay (f : Fm) (n : Int) (p : Pr2) : Prop := val f p.1 p.2 = n ∧ Int.gcd p.1 p.2 = 1
theorem val_id (f : Fm) (x y : Int) : 4 * f.1 * val f x y = (2 * f.1 * x + f.2.1 * y) * (2 * f.1 * x + f.2.1 * y) - disc f * y * y := by
  unfold val disc
  grind
theorem mem_tops {r t : Int} : t ∈ tops r ↔ t = r ∨ t = -r := by
  unfold tops
  split
  · rename_i h; subst h; simp
  · simp [or_comm]
theorem mem_rowW {f : Fm} {d n y : Int} {p : Pr2} (a0 : 0 < f.1) (hd : disc f = d) (hq : 0 ≤ sqW f d n y) : p ∈ rowW f d n y ↔ IsWay f n p ∧ p.2 = y := by
  obtain ⟨r0, r1, r2⟩ := rt_of hq
  generalize hr : rt (sqW f d n y) = r at *
  unfold rowW
  rw [hr]
  unfold sqW at *
  have key : ∀ x : Int, (2 * f.1 * x + f.2.1 * y) * (2 * f.1 * x + f.2.1 * y) = 4 * f.1 * n + d * y * y ↔ val f x y = n := fun x => by
    have e := val_id f x y
    rw [hd] at e
    constructor
    · intro h
      have : 4 * f.1 * val f x y = 4 * f.1 * n := by omega
      exact Int.eq_of_mul_eq_mul_left (by omega) this
    · intro h
      rw [h] at e
      omega
  constructor
  · intro h
    split at h
    · rename_i hs
      obtain ⟨t, ht, e⟩ := List.mem_filterMap.mp h
      unfold keepT at e
      split at e
      · rename_i hc
        cases e
        obtain ⟨c1, c2⟩ := hc
        refine ⟨⟨?_, c2⟩, rfl⟩
        simp only
        refine (key _).mp ?_
        have q := Int.emod_add_mul_ediv (t - f.2.1 * y) (2 * f.1)
        have e2 : 2 * f.1 * ((t - f.2.1 * y) / (2 * f.1)) + f.2.1 * y = t := by omega
        rw [e2]
        rcases mem_tops.mp ht with rfl | rfl
        · exact hs
        · rw [Int.neg_mul_neg]; exact hs
      · cases e
    · cases h
  · rintro ⟨⟨h1, h2⟩, rfl⟩
    obtain ⟨x, y⟩ := p
    simp only at *
    have k := (key x).mpr h1
    generalize hT : 2 * f.1 * x + f.2.1 * y = T at k
    have hrT : r = T ∨ r = -T := by
      by_cases c : 0 ≤ T
      · left
        have := rt_sq c
        rw [k, hr] at this
        exact this
      · right
        have := rt_sq (show 0 ≤ -T by omega)
        rw [Int.neg_mul_neg, k, hr] at this
        exact this
    have hs : r * r = 4 * f.1 * n + d * y * y := by
      rcases hrT with rfl | rfl
      · exact k
      · rw [Int.neg_mul_neg]; exact k
    rw [if_pos hs]
    refine List.mem_filterMap.mpr ⟨T, mem_tops.mpr (by omega), ?_⟩
    unfold keepT
    have e1 : T - f.2.1 * y = 2 * f.1 * x := by omega
    rw [e1, Int.mul_emod_right, Int.mul_ediv_cancel_left _ (by omega)]
    rw [if_pos ⟨rfl, h2⟩]
theorem most_of {f : Fm} {d n : Int} (a0 : 0 < f.1) (d0 : d ≤ -3) (n0 : 0 ≤ n) : RtOf (4 * f.1 * n / -d) (mostW f d n) :=
  rt_of (Int.ediv_nonneg (Int.mul_nonneg (by omega) n0) (by omega))
theorem sq_nonneg_in {f : Fm} {d n y : Int} (a0 : 0 < f.1) (d0 : d ≤ -3) (n0 : 0 ≤ n) (h1 : -mostW f d n ≤ y) (h2 : y ≤ mostW f d n) : 0 ≤ sqW f d n y := by
  obtain ⟨m0, m1, m2⟩ := most_of a0 d0 n0
  generalize mostW f d n = M at *
  unfold sqW
  have yy : y * y ≤ M * M := by
    have : 0 ≤ (M - y) * (M + y) := Int.mul_nonneg (by omega) (by omega)
    grind
  have q := Int.emod_add_mul_ediv (4 * f.1 * n) (-d)
  have q0 := Int.emod_nonneg (4 * f.1 * n) (show -d ≠ 0 by omega)
  have := mulL (show y * y ≤ 4 * f.1 * n / -d by omega) (show 0 ≤ -d by omega)
  have e : d * y * y = -(-d * (y * y)) := by grind
  omega
theorem way_in {f : Fm} {d n : Int} {p : Pr2} (a0 : 0 < f.1) (hd : disc f = d) (d0 : d ≤ -3) (n0 : 0 ≤ n) (h : IsWay f n p) : -mostW f d n ≤ p.2 ∧ p.2 ≤ mostW f d n := by
  obtain ⟨m0, m1, m2⟩ := most_of a0 d0 n0
  have e := val_id f p.1 p.2
  rw [h.1, hd] at e
  have s := sq_nn (2 * f.1 * p.1 + f.2.1 * p.2)
  generalize mostW f d n = M at *
  generalize p.2 = y at *
  have e2 : d * y * y = -(-d * (y * y)) := by grind
  have le : y * y ≤ 4 * f.1 * n / -d := (Int.le_ediv_iff_mul_le (by omega)).mpr (by rw [Int.mul_comm]; omega)
  have c1 : y < M + 1 := sq_lt (by omega) (by omega)
  have c2 : -y < M + 1 := sq_lt (by omega) (by rw [Int.neg_mul_neg]; omega)
  omega
theorem mem_rowsW {f : Fm} {d n lo : Int} {p : Pr2} (a0 : 0 < f.1) (hd : disc f = d) : ∀ {k : Nat}, (∀ j : Nat, j < k → 0 ≤ sqW f d n (lo + j)) → (p ∈ rowsW f d n lo k ↔ IsWay f n p ∧ lo ≤ p.2 ∧ p.2 < lo + k)
  | 0, _ => by
    constructor
    · intro h; cases h
    · rintro ⟨_, h1, h2⟩
      simp at h2
      omega
  | k + 1, hq => by
    rw [rowsW_succ, List.mem_append, mem_rowsW a0 hd fun j hj => hq j (by omega), mem_rowW a0 hd (hq k (by omega))]
    constructor
    · rintro (⟨h, q1, q2⟩ | ⟨h, q⟩)
      · exact ⟨h, q1, by push_cast; omega⟩
      · exact ⟨h, by omega, by push_cast; omega⟩
    · rintro ⟨h, q1, q2⟩
      push_cast at q2
      by_cases c : p.2 = lo + k
      · exact .inr ⟨h, c⟩
      · exact .inl ⟨h, q1, by omega⟩
theorem mem_WL {f : Fm} {d n : Int} {p : Pr2} (a0 : 0 < f.1) (hd : disc f = d) (d0 : d ≤ -3) (n0 : 0 ≤ n) : p ∈ WL f d n ↔ IsWay f n p := by
  unfold WL
  have m0 := (most_of a0 d0 n0).1
  rw [mem_rowsW a0 hd fun j hj => sq_nonneg_in a0 d0 n0 (by omega) (by omega)]
  constructor
  · exact fun h => h.1
  · intro h
    have := way_in a0 hd d0 n0 h
    exact ⟨h, by omega, by omega⟩
theorem setI_tops {r c : Int} (h : 0 ≤ r) : setI [r - c, 0 - r - c] = (tops r).map fun t => t - c := by
  unfold setI tops
  simp only [List.foldr, insS]
  by_cases q : r = 0
  · subst q; simp
  · rw [if_neg q]
    have c1 : ¬ r - c < 0 - r - c := by omega
    have c2 : ¬ r - c = 0 - r - c := by omega
    rw [if_neg c1, if_neg c2]
    simp only [insS, List.map_cons, List.map_nil]
    rw [show 0 - r - c = -r - c by omega]
/-- the list shown: sorted -/
def srtP (l : List Pr2) : List Pr2 := (sortT (l.map pL)).map fun xs => (xs.getD 0 0, xs.getD 1 0)
theorem tups_p (l : List Pr2) : tupsOf (l.map pD) = some (l.map pL) := by
  induction l with
  | nil => rfl
  | cons f l ih =>
    rw [List.map_cons, List.map_cons]
    unfold pD pL at *
    unfold tupsOf
    simp only [intsOf, Option.map_some, ih]
theorem srt_back (l : List Pr2) : (srtP l).map pL = sortT (l.map pL) := by
  unfold srtP
  rw [List.map_map]
  conv => rhs; rw [← List.map_id (sortT (l.map pL))]
  apply List.map_congr_left
  intro xs hx
  have := (sortT_perm (l.map pL)).mem_iff.mp hx
  obtain ⟨p, _, rfl⟩ := List.mem_map.mp this
  rfl
theorem mem_srtP {l : List Pr2} {p : Pr2} : p ∈ srtP l ↔ p ∈ l := by
  have inj : ∀ {p q : Pr2}, pL p = pL q → p = q := fun {p q} h => by
    obtain ⟨a, b⟩ := p
    obtain ⟨c, d⟩ := q
    simp only [pL, List.cons.injEq, and_true] at h
    rw [h.1, h.2]
  constructor
  · intro h
    have h2 : pL p ∈ sortT (l.map pL) := by rw [← srt_back]; exact List.mem_map_of_mem h
    obtain ⟨q, hq, e⟩ := List.mem_map.mp ((sortT_perm (l.map pL)).mem_iff.mp h2)
    rw [← inj e]; exact hq
  · intro h
    have h2 : pL p ∈ sortT (l.map pL) := (sortT_perm (l.map pL)).mem_iff.mpr (List.mem_map_of_mem h)
    rw [← srt_back] at h2
    obtain ⟨q, hq, e⟩ := List.mem_map.mp h2
    rw [← inj e]; exact hq
theorem srtP_len (l : List Pr2) : (srtP l).length = l.length := by
  unfold srtP
  rw [List.length_map, (sortT_perm _).length_eq, List.length_map]
theorem sortV_p (l : List Pr2) : sortV (l.map pD) = some (.list ((srtP l).map pD)) := by
  unfold sortV
  cases l with
  | nil => rfl
  | cons p l =>
    have e : intsOf ((p :: l).map pD) = none := rfl
    rw [e, tups_p]
    simp only [Option.map_some]
    rw [← srt_back, List.map_map]
    rfl
end Pv
end

section
/-! PvWz: ways, forms that begin with a number, traces: the plain law of k39. -/
set_option autoImplicit false
namespace Pv
open PySem
theorem bez0 : ∀ (n : Nat) (x y : Int), 0 ≤ y → y.toNat ≤ n → Int.gcd x y = 1 → ∃ u v : Int, x * v - y * u = 1
  | 0, x, y, h0, hn, hg => by
    have e : y = 0 := by omega
    subst e
    rw [Int.gcd_zero_right] at hg
    have : x = 1 ∨ x = -1 := by omega
    rcases this with rfl | rfl
    · exact ⟨0, 1, by omega⟩
    · exact ⟨0, -1, by omega⟩
  | n + 1, x, y, h0, hn, hg => by
    by_cases q : y = 0
    · subst q
      exact bez0 n x 0 (by omega) (by omega) hg
    · have r0 := Int.emod_nonneg x q
      have r1 := Int.emod_lt_of_pos x (show 0 < y by omega)
      obtain ⟨u, v, e⟩ := bez0 n y (x % y) r0 (by omega) (by rw [gcd_step h0]; exact hg)
      have d := Int.emod_add_mul_ediv x y
      refine ⟨-(v + (x / y) * u), -u, ?_⟩
      generalize x % y = z at *
      generalize x / y = k at *
      subst d
      grind
theorem bez {x y : Int} (hg : Int.gcd x y = 1) : ∃ u v : Int, x * v - y * u = 1 := by
  by_cases q : 0 ≤ y
  · exact bez0 y.toNat x y q (Nat.le_refl _) hg
  · obtain ⟨u, v, e⟩ := bez0 (-y).toNat x (-y) (by omega) (Nat.le_refl _) (by rw [Int.gcd_neg]; exact hg)
    exact ⟨-u, v, by rw [Int.mul_neg, ← Int.neg_mul]; exact e⟩
theorem cop_of {a b c d : Int} (h : a * d - b * c = 1) : Int.gcd a c = 1 := by
  have h1 : (Int.gcd a c : Int) ∣ 1 := by
    rw [← h]
    exact Int.dvd_sub (Int.dvd_trans (Int.gcd_dvd_left _ _) (Int.dvd_mul_right _ _)) (Int.dvd_trans (Int.gcd_dvd_right _ _) (Int.dvd_mul_left _ _))
  have := Int.natAbs_dvd_natAbs.mpr h1
  rw [Int.natAbs_natCast] at this
  exact Nat.dvd_one.mp this
/-- a form that begins with n and leads to f -/
def Bgn (f : Fm) (d n b : Int) : Prop := (b * b - d) % (4 * n) = 0 ∧ Int.gcd (Int.gcd n b) ((b * b - d) / (4 * n)) = 1 ∧ ∃ m, det m = 1 ∧ f = ledF (n, b, (b * b - d) / (4 * n)) m
theorem begins_iff {f : Fm} {d n : Int} (hf : prim f) (hd : disc f = d) (n0 : 0 < n) : (∃ p, IsWay f n p) ↔ ∃ b, 0 ≤ b ∧ b < 2 * n ∧ Bgn f d n b := by
  constructor
  · rintro ⟨⟨x, y⟩, h1, h2⟩
    simp only at h1 h2
    obtain ⟨u, v, e⟩ := bez h2
    have d1 : det (x, u, y, v) = 1 := by unfold det; simp only; rw [Int.mul_comm u y]; exact e
    have n1 : (ledF f (x, u, y, v)).1 = n := h1
    generalize hG : ledF f (x, u, y, v) = G at n1
    -- shift
    have ek : -(G.2.1 / (2 * n)) = -(G.2.1 / (2 * n)) := rfl
    generalize hk : -(G.2.1 / (2 * n)) = k at ek
    have d2 : det (1, k, 0, 1) = 1 := by simp [det]
    have sh : ledF G (1, k, 0, 1) = (n, G.2.1 + 2 * n * k, n * k * k + G.2.1 * k + G.2.2) := by
      rw [← n1]
      simp only [ledF, Prod.mk.injEq]
      refine ⟨?_, ?_, ?_⟩ <;> grind
    have dM : det (mulM (x, u, y, v) (1, k, 0, 1)) = 1 := by rw [det_mul, d1, d2]; rfl
    have eM : ledF f (mulM (x, u, y, v) (1, k, 0, 1)) = (n, G.2.1 + 2 * n * k, n * k * k + G.2.1 * k + G.2.2) := by rw [← led_mul, hG, sh]
    generalize mulM (x, u, y, v) (1, k, 0, 1) = M at dM eM
    have q := Int.emod_add_mul_ediv G.2.1 (2 * n)
    have q0 := Int.emod_nonneg G.2.1 (show 2 * n ≠ 0 by omega)
    have q1 := Int.emod_lt_of_pos G.2.1 (show 0 < 2 * n by omega)
    have eb : G.2.1 + 2 * n * k = G.2.1 % (2 * n) := by rw [← hk, Int.mul_neg]; omega
    rw [eb] at eM
    generalize G.2.1 % (2 * n) = b at *
    generalize n * k * k + G.2.1 * k + G.2.2 = c at *
    have dc : b * b - 4 * n * c = d := by
      have := disc_led f M
      rw [eM, dM, hd] at this
      unfold disc at this
      simp only at this
      omega
    have e4 : b * b - d = 4 * n * c := by omega
    have ec : (b * b - d) / (4 * n) = c := by rw [e4, Int.mul_ediv_cancel_left _ (by omega)]
    refine ⟨b, q0, q1, by rw [e4, Int.mul_emod_right], ?_, invM M, by rw [det_inv, dM], ?_⟩
    · rw [ec]
      have := led_prim hf dM
      rw [eM] at this
      exact this
    · rw [ec, ← eM, led_mul, mul_inv dM, led_one]
  · rintro ⟨b, b0, b1, h1, h2, m, dm, e⟩
    have back : ledF f (invM m) = (n, b, (b * b - d) / (4 * n)) := by rw [e, led_mul, mul_inv dm, led_one]
    refine ⟨(m.2.2.2, -m.2.2.1), ?_, ?_⟩
    · have := congrArg (fun z : Fm => z.1) back
      exact this
    · have : det (invM m) = 1 := by rw [det_inv, dm]
      unfold det invM at this
      simp only at this
      exact cop_of this
/-- the first class -/
def fstF (d : Int) : Fm := (1, d % 2, (d % 2 - d) / 4)
theorem fst_rf {d : Int} (h2 : d ≤ -3) (hd : d % 4 = 0 ∨ d % 4 = 1) : Rf d (fstF d) := by
  have e : d % 2 = 0 ∨ d % 2 = 1 := by omega
  unfold fstF
  rcases e with e | e
  · rw [e]
    refine ⟨⟨by simp only; omega, by simp only; omega, by simp only; omega, by simp only; omega, by simp⟩, ?_, ?_⟩
    · unfold Pv.disc; simp only; omega
    · unfold Pv.prim; simp
  · rw [e]
    refine ⟨⟨by simp only; omega, by simp only; omega, by simp only; omega, by simp only; omega, by simp⟩, ?_, ?_⟩
    · unfold Pv.disc; simp only; omega
    · unfold Pv.prim; simp
theorem fst_uni {d : Int} {f : Fm} (h : Rf d f) (h1 : f.1 = 1) (hd : d % 4 = 0 ∨ d % 4 = 1) : f = fstF d := by
  obtain ⟨a, b, c⟩ := f
  have e := h.disc
  have lo := h.red.lo; have hi := h.red.hi
  unfold Pv.disc at e
  simp only at *
  subst h1
  have hb : b = 0 ∨ b = 1 := by omega
  unfold fstF
  simp only [Prod.mk.injEq, true_and]
  rcases hb with rfl | rfl <;> omega
theorem head_first {d : Int} (h1 : -20000 ≤ d) (h2 : d ≤ -3) (hd : d % 4 = 0 ∨ d % 4 = 1) : ∃ l, PL d = fstF d :: l := by
  have hm : fstF d ∈ PL d := (mem_PL h1).mpr (fst_rf h2 hd)
  have hs := PL_sorted (d := d)
  cases hp : PL d with
  | nil => rw [hp] at hm; cases hm
  | cons x l =>
    rw [hp] at hm hs
    rcases List.mem_cons.mp hm with e | e
    · exact ⟨l, by rw [e]⟩
    · have lt := (List.pairwise_cons.mp hs).1 _ e
      have rx : Rf d x := (mem_PL h1).mp (by rw [hp]; exact List.mem_cons_self)
      have x0 := rx.red.a0
      have f1 : (fstF d).1 = 1 := rfl
      have : x.1 = 1 := by unfold ltF at lt; omega
      exact ⟨l, by rw [fst_uni rx this hd]⟩
/-- no square divides it -/
def sqfr (p : Int) : Prop := 0 < p ∧ ∀ g : Int, g * g ∣ p → g = 1 ∨ g = -1
def Trc (d p t : Int) : Prop := t * t < 4 * p ∧ (t * t - 4 * p).fmod d = 0 ∧ rt ((t * t - 4 * p).fdiv d) * rt ((t * t - 4 * p).fdiv d) = (t * t - 4 * p).fdiv d
theorem fst_val (d x y : Int) (hd : d % 4 = 0 ∨ d % 4 = 1) : 4 * val (fstF d) x y = (2 * x + d % 2 * y) * (2 * x + d % 2 * y) - d * (y * y) := by
  have e := val_id (fstF d) x y
  have dd : disc (fstF d) = d := by
    unfold Pv.disc fstF
    simp only
    have q : d % 2 = 0 ∨ d % 2 = 1 := by omega
    rcases q with q | q <;> rw [q] <;> omega
  rw [dd] at e
  have a1 : (fstF d).1 = 1 := rfl
  have b1 : (fstF d).2.1 = d % 2 := rfl
  rw [a1, b1] at e
  have e2 : d * y * y = d * (y * y) := Int.mul_assoc ..
  rw [e2] at e
  simp only [Int.mul_one] at e
  exact e
theorem trace_iff {d p : Int} (h2 : d ≤ -3) (hd : d % 4 = 0 ∨ d % 4 = 1) (hp : sqfr p) (p2 : p ≤ 210) (p1 : 2 ≤ p) : (∃ q, IsWay (fstF d) p q) ↔ ∃ t, 0 ≤ t ∧ t < 29 ∧ Trc d p t := by
  constructor
  · rintro ⟨⟨x, y⟩, h1, h3⟩
    simp only at h1 h3
    have e := fst_val d x y hd
    rw [h1] at e
    generalize hT : 2 * x + d % 2 * y = T at e
    have y0 : y ≠ 0 := by
      rintro rfl
      have e3 : x * x = p := by
        have : 4 * p = 4 * (x * x) := by
          rw [e, ← hT]
          simp only [Int.mul_zero, Int.add_zero, Int.sub_zero]
          grind
        omega
      rcases hp.2 x ⟨1, by omega⟩ with rfl | rfl <;> omega
    have yy := sq_pos y0
    have dy : 1 ≤ -d * (y * y) := prod1 (by omega) yy
    rw [Int.neg_mul] at dy
    have TT : (T.natAbs : Int) * T.natAbs = T * T := Int.natAbs_mul_self
    have X : (T.natAbs : Int) * T.natAbs - 4 * p = d * (y * y) := by omega
    refine ⟨T.natAbs, by omega, sq_lt (by omega) (by omega), by omega, ?_, ?_⟩
    · rw [X]; exact Int.fmod_eq_zero_of_dvd ⟨_, rfl⟩
    · have f0 : (d * (y * y)).fmod d = 0 := Int.fmod_eq_zero_of_dvd ⟨_, rfl⟩
      have f1 := Int.fmod_add_mul_fdiv (d * (y * y)) d
      rw [f0, Int.zero_add] at f1
      have f2 : (d * (y * y)).fdiv d = y * y := Int.eq_of_mul_eq_mul_left (by omega) f1
      rw [X, f2]
      have : y * y = (y.natAbs : Int) * y.natAbs := Int.natAbs_mul_self.symm
      rw [this, rt_sq (by omega)]
  · rintro ⟨t, t0, t1, h3, h4, h5⟩
    generalize hw : rt ((t * t - 4 * p).fdiv d) = w at h5
    have f1 := Int.fmod_add_mul_fdiv (t * t - 4 * p) d
    rw [h4, Int.zero_add, ← h5] at f1
    have par : t % 2 = (d % 2 * w) % 2 := by
      have q : d % 2 = 0 ∨ d % 2 = 1 := by omega
      have ht := sq4 t
      have hw4 := sq4 w
      have m1 : (d * (w * w)) % 4 = ((d % 4) * ((w * w) % 4)) % 4 := Int.mul_emod ..
      rcases hd with hd | hd
      · rw [hd, Int.zero_mul] at m1
        have : d % 2 = 0 := by omega
        rw [this, Int.zero_mul]
        omega
      · rw [hd, Int.one_mul] at m1
        have : d % 2 = 1 := by omega
        rw [this, Int.one_mul]
        omega
    generalize hx : (t - d % 2 * w) / 2 = x
    have ex : 2 * x + d % 2 * w = t := by omega
    have e := fst_val d x w hd
    rw [ex] at e
    have v : val (fstF d) x w = p := by omega
    refine ⟨(x, w), v, ?_⟩
    simp only
    have g1 : ((Int.gcd x w : Int) * Int.gcd x w) ∣ p := by
      obtain ⟨i, hi⟩ := Int.gcd_dvd_left x w
      obtain ⟨j, hj⟩ := Int.gcd_dvd_right x w
      refine ⟨val (fstF d) i j, ?_⟩
      rw [← v]
      generalize (Int.gcd x w : Int) = g at *
      rw [hi, hj]
      unfold val
      grind
    rcases hp.2 _ g1 with q | q <;> omega
def sqB (p : Int) : Bool := decide (0 < p) && (List.range 15).all fun g : Nat => decide (g < 2) || decide (p % ((g : Int) * g) ≠ 0)
theorem sqfr_of {p : Int} (h : sqB p = true) (h2 : p ≤ 210) : sqfr p := by
  unfold sqB at h
  simp only [Bool.and_eq_true, decide_eq_true_eq] at h
  refine ⟨h.1, fun g hg => ?_⟩
  have gg : (g.natAbs : Int) * g.natAbs = g * g := Int.natAbs_mul_self
  obtain ⟨k, hk⟩ := hg
  have k1 : 1 ≤ k := by
    by_cases q : 1 ≤ k
    · exact q
    · have := Int.mul_nonneg (sq_nn g) (show 0 ≤ -k by omega)
      rw [Int.mul_neg] at this
      omega
  have le : g * g ≤ p := by
    have := mulL k1 (sq_nn g)
    omega
  have b : (g.natAbs : Int) < 15 := sq_lt (by omega) (by omega)
  have := (List.all_eq_true.mp h.2) g.natAbs (List.mem_range.mpr (by omega))
  simp only [Bool.or_eq_true, decide_eq_true_eq] at this
  rcases this with q | q
  · have : g.natAbs ≠ 0 := by
      intro z
      have : g = 0 := by omega
      subst this
      simp at hk
      omega
    omega
  · rw [gg, hk, Int.mul_emod_right] at q
    exact absurd rfl q
end Pv
end

section
/-! PvIf: lattices of forms; their products; likeness. -/
set_option autoImplicit false
namespace Pv
open PySem
/-! ### likeness of sets -/
def Sim1 (s q : Int) (l m : QO) (S T : QO → Prop) : Prop := ∀ x, S x → ∃ y, T y ∧ mO s q l x = mO s q m y
def Sim (s q : Int) (S T : QO → Prop) : Prop := ∃ l m : QO, nO s q l ≠ 0 ∧ nO s q m ≠ 0 ∧ Sim1 s q l m S T ∧ Sim1 s q m l T S
section
variable {s q : Int} {S T U S' T' : QO → Prop}
theorem Sim.symm (h : Sim s q S T) : Sim s q T S := by
  obtain ⟨l, m, a, b, c, d⟩ := h
  exact ⟨m, l, b, a, d, c⟩
theorem Sim1.trans {l m l' m' : QO} (h : Sim1 s q l m S T) (k : Sim1 s q l' m' T U) : Sim1 s q (mO s q l' l) (mO s q m m') S U := fun x hx => by
  obtain ⟨y, hy, e⟩ := h x hx
  obtain ⟨z, hz, e2⟩ := k y hy
  refine ⟨z, hz, ?_⟩
  rw [mO_assoc, e, mO_assoc, ← e2, ← mO_assoc, ← mO_assoc, mO_comm s q l' m]
theorem Sim.trans (h : Sim s q S T) (k : Sim s q T U) : Sim s q S U := by
  obtain ⟨l, m, a, b, c, d⟩ := h
  obtain ⟨l', m', a', b', c', d'⟩ := k
  refine ⟨mO s q l' l, mO s q m m', ?_, ?_, c.trans c', ?_⟩
  · rw [nO_mul]; exact Int.mul_ne_zero a' a
  · rw [nO_mul]; exact Int.mul_ne_zero b b'
  · exact d'.trans d
theorem Sim1.prd {l m l' m' : QO} (h : Sim1 s q l m S T) (k : Sim1 s q l' m' S' T') : Sim1 s q (mO s q l l') (mO s q m m') (Prd s q S S') (Prd s q T T') := fun x hx => by
  induction hx with
  | zero => exact ⟨_, .zero, by rw [mO_zero, mO_zero]⟩
  | @add z a b hz ha hb ih =>
    obtain ⟨w, hw, e⟩ := ih
    obtain ⟨a', ha', e1⟩ := h a ha
    obtain ⟨b', hb', e2⟩ := k b hb
    refine ⟨_, .add hw ha' hb', ?_⟩
    rw [mO_add, mO_add, e]
    congr 1
    have sw : ∀ u v x y : QO, mO s q (mO s q u v) (mO s q x y) = mO s q (mO s q u x) (mO s q v y) := fun u v x y => by
      rw [mO_assoc, ← mO_assoc s q v x y, mO_comm s q v x, mO_assoc s q x v y, ← mO_assoc]
    rw [sw, sw m, e1, e2]
theorem Sim.prd (h : Sim s q S T) (k : Sim s q S' T') : Sim s q (Prd s q S S') (Prd s q T T') := by
  obtain ⟨l, m, a, b, c, d⟩ := h
  obtain ⟨l', m', a', b', c', d'⟩ := k
  refine ⟨mO s q l l', mO s q m m', ?_, ?_, c.prd c', d.prd d'⟩
  · rw [nO_mul]; exact Int.mul_ne_zero a a'
  · rw [nO_mul]; exact Int.mul_ne_zero b b'
theorem Sim.of_iff (h : ∀ x, S x ↔ T x) : Sim s q S T := by
  refine ⟨(1, 0), (1, 0), by simp [nO], by simp [nO], fun x hx => ⟨x, (h x).mp hx, rfl⟩, fun x hx => ⟨x, (h x).mpr hx, rfl⟩⟩
theorem Sim.refl (S : QO → Prop) : Sim s q S S := .of_iff fun _ => Iff.rfl
theorem Sim.comm : Sim s q (Prd s q S T) (Prd s q T S) := .of_iff fun _ => ⟨fun h => h.comm, fun h => h.comm⟩
theorem Prd.assoc2 {z : QO} (h : Prd s q S (Prd s q T U) z) : Prd s q (Prd s q S T) U z := by
  have h := h.comm
  have h := Prd.mono (fun x h => Prd.comm h) (fun _ h => h) h
  have h := h.assoc
  have h := h.comm
  exact Prd.mono (fun x h => Prd.comm h) (fun _ h => h) h
theorem Sim.assoc : Sim s q (Prd s q (Prd s q S T) U) (Prd s q S (Prd s q T U)) := .of_iff fun _ => ⟨fun h => h.assoc, fun h => h.assoc2⟩
end
/-! ### lattices -/
def Lat (a h : Int) : QO → Prop := fun z => ∃ x y : Int, z = (x * a - y * h, y)
structure Fh (s q : Int) (f : Fm) (h : Int) : Prop where
  b : f.2.1 = 2 * h - s
  n : q = h * h - h * s - f.1 * f.2.2
theorem lat_mod {a h k t : Int} (e : k = h + a * t) : ∀ z, Lat a h z ↔ Lat a k z := fun z => by
  subst e
  constructor
  · rintro ⟨x, y, rfl⟩
    exact ⟨x + y * t, y, by rw [Prod.mk.injEq]; exact ⟨by grind, rfl⟩⟩
  · rintro ⟨x, y, rfl⟩
    exact ⟨x - y * t, y, by rw [Prod.mk.injEq]; exact ⟨by grind, rfl⟩⟩
theorem bez4 {a b c d : Int} (h : ∀ e : Int, e ∣ a → e ∣ b → e ∣ c → e ∣ d → e ∣ 1) : ∃ x y z w : Int, x * a + y * b + z * c + w * d = 1 := by
  have two : ∀ u v : Int, ∃ x y : Int, x * u + y * v = Int.gcd u v := fun u v => by
    by_cases z : Int.gcd u v = 0
    · refine ⟨0, 0, by rw [z]; simp⟩
    · have hu : (Int.gcd u v : Int) ∣ u := Int.gcd_dvd_left ..
      have hv : (Int.gcd u v : Int) ∣ v := Int.gcd_dvd_right ..
      obtain ⟨u', eu⟩ := hu
      obtain ⟨v', ev⟩ := hv
      have g1 : Int.gcd u' v' = 1 := by
        have e : Int.gcd (Int.gcd u v * u') (Int.gcd u v * v') = (Int.gcd u v : Int).natAbs * Int.gcd u' v' := Int.gcd_mul_left ..
        rw [← eu, ← ev, Int.natAbs_natCast] at e
        have : Int.gcd u v * 1 = Int.gcd u v * Int.gcd u' v' := by omega
        exact (Nat.eq_of_mul_eq_mul_left (by omega) this).symm
      obtain ⟨p, r, hpr⟩ := bez g1
      refine ⟨r, -p, ?_⟩
      generalize (Int.gcd u v : Int) = G at *
      have : r * u + -p * v = G * (u' * r - v' * p) := by rw [eu, ev]; grind
      rw [this, hpr, Int.mul_one]
  obtain ⟨x1, y1, e1⟩ := two a b
  obtain ⟨x2, y2, e2⟩ := two c d
  obtain ⟨x3, y3, e3⟩ := two (Int.gcd a b) (Int.gcd c d)
  have g : (Int.gcd (Int.gcd a b) (Int.gcd c d) : Int) ∣ 1 := by
    have l1 : (Int.gcd (Int.gcd a b) (Int.gcd c d) : Int) ∣ Int.gcd a b := Int.gcd_dvd_left ..
    have l2 : (Int.gcd (Int.gcd a b) (Int.gcd c d) : Int) ∣ Int.gcd c d := Int.gcd_dvd_right ..
    exact h _ (Int.dvd_trans l1 (Int.gcd_dvd_left ..)) (Int.dvd_trans l1 (Int.gcd_dvd_right ..)) (Int.dvd_trans l2 (Int.gcd_dvd_left ..)) (Int.dvd_trans l2 (Int.gcd_dvd_right ..))
  have g1 : (Int.gcd (Int.gcd a b) (Int.gcd c d) : Int) = 1 := by
    have := Int.le_of_dvd (by omega) g
    have : (Int.gcd (Int.gcd a b) (Int.gcd c d) : Int) ≠ 0 := fun z => by
      rw [z] at g
      have := Int.zero_dvd.mp g
      omega
    omega
  rw [g1] at e3
  exact ⟨x3 * x1, x3 * y1, y3 * x2, y3 * y2, by rw [← e3, ← e1, ← e2]; grind⟩
/-! ### the product of two lattices -/
theorem Prd.smul {s q : Int} {S T : QO → Prop} (hS : ∀ (n : Int) z, S z → S (iO n z)) {z : QO} (n : Int) (h : Prd s q S T z) : Prd s q S T (iO n z) := by
  induction h with
  | zero => simp only [iO, Int.mul_zero]; exact .zero
  | @add z a b _ ha hb ih =>
    have e : iO n (aO z (mO s q a b)) = aO (iO n z) (mO s q (iO n a) b) := by
      obtain ⟨z1, z2⟩ := z; obtain ⟨a1, a2⟩ := a; obtain ⟨b1, b2⟩ := b
      simp only [iO, aO, mO, Prod.mk.injEq]
      refine ⟨?_, ?_⟩ <;> grind
    rw [e]
    exact .add ih (hS n a ha) hb
theorem lat_smul {a h : Int} (n : Int) (z : QO) (hz : Lat a h z) : Lat a h (iO n z) := by
  obtain ⟨x, y, rfl⟩ := hz
  exact ⟨n * x, n * y, by simp only [iO, Prod.mk.injEq]; exact ⟨by grind, trivial⟩⟩
theorem lat_add {a h : Int} (z w : QO) (hz : Lat a h z) (hw : Lat a h w) : Lat a h (aO z w) := by
  obtain ⟨x, y, rfl⟩ := hz
  obtain ⟨x', y', rfl⟩ := hw
  exact ⟨x + x', y + y', by simp only [aO, Prod.mk.injEq]; exact ⟨by grind, trivial⟩⟩
theorem lat_a (a h : Int) : Lat a h (a, 0) := ⟨1, 0, by simp⟩
theorem lat_t (a h : Int) : Lat a h (-h, 1) := ⟨0, 1, by simp⟩
theorem cub_prd {s q g v u1 u2 k1 k2 k3 h1 h2 H : Int} (e1 : 2 * h1 - s = g * v - u1 * k1 + u2 * k2) (e2 : h2 = h1 + u1 * k1 - u2 * k2) (e3 : H = h1 + u1 * k1)
    (eq : q = h1 * h1 - h1 * s - g * u1 * (k3 * u2 - v * k1))
    {e x y z : Int} (hz : e * (x * u1 + y * u2) + z * v = 1) (h0 : e * x * k2 + e * y * k1 + z * k3 = 0) {p0 p1 p2 p3 : Int} (hp : p0 * g + p1 * k1 + p2 * k2 + p3 * k3 = 1) :
    ∀ w, Prd s q (Lat (g * u1) h1) (Lat (g * u2) h2) w ↔ ∃ y, Lat (u1 * u2) H y ∧ w = iO g y := fun w => by
  have es : s = 2 * h1 - (g * v - u1 * k1 + u2 * k2) := by omega
  subst e3 e2
  -- the four products
  have c1 : mO s q (g * u1, 0) (g * u2, 0) = iO g (iO g (u1 * u2, 0)) := by
    simp only [mO, iO, Prod.mk.injEq]
    refine ⟨?_, ?_⟩ <;> grind
  have c2 : mO s q (g * u1, 0) (-(h1 + u1 * k1 - u2 * k2), 1) = iO g (aO (iO u1 (-(h1 + u1 * k1), 1)) (iO k2 (u1 * u2, 0))) := by
    simp only [mO, iO, aO, Prod.mk.injEq]
    refine ⟨?_, ?_⟩ <;> grind
  have c3 : mO s q (-h1, 1) (g * u2, 0) = iO g (aO (iO u2 (-(h1 + u1 * k1), 1)) (iO k1 (u1 * u2, 0))) := by
    simp only [mO, iO, aO, Prod.mk.injEq]
    refine ⟨?_, ?_⟩ <;> grind
  have c4 : mO s q (-h1, 1) (-(h1 + u1 * k1 - u2 * k2), 1) = iO g (aO (iO (-v) (-(h1 + u1 * k1), 1)) (iO (-k3) (u1 * u2, 0))) := by
    subst eq es
    simp only [mO, iO, aO, Prod.mk.injEq]
    refine ⟨?_, ?_⟩ <;> grind
  have LA := lat_a (u1 * u2) (h1 + u1 * k1)
  have LT := lat_t (u1 * u2) (h1 + u1 * k1)
  constructor
  · intro hw
    induction hw with
    | zero => exact ⟨(0, 0), ⟨0, 0, by simp⟩, by simp [iO]⟩
    | @add z a b _ ha hb ih =>
      obtain ⟨y0, hy0, rfl⟩ := ih
      obtain ⟨xa, ya, rfl⟩ := ha
      obtain ⟨xb, yb, rfl⟩ := hb
      refine ⟨aO y0 (aO (aO (iO (xa * xb) (iO g (u1 * u2, 0))) (iO (xa * yb) (aO (iO u1 (-(h1 + u1 * k1), 1)) (iO k2 (u1 * u2, 0))))) (aO (iO (ya * xb) (aO (iO u2 (-(h1 + u1 * k1), 1)) (iO k1 (u1 * u2, 0)))) (iO (ya * yb) (aO (iO (-v) (-(h1 + u1 * k1), 1)) (iO (-k3) (u1 * u2, 0)))))), ?_, ?_⟩
      · refine lat_add _ _ hy0 (lat_add _ _ (lat_add _ _ ?_ ?_) (lat_add _ _ ?_ ?_))
        · exact lat_smul _ _ (lat_smul _ _ LA)
        · exact lat_smul _ _ (lat_add _ _ (lat_smul _ _ LT) (lat_smul _ _ LA))
        · exact lat_smul _ _ (lat_add _ _ (lat_smul _ _ LT) (lat_smul _ _ LA))
        · exact lat_smul _ _ (lat_add _ _ (lat_smul _ _ LT) (lat_smul _ _ LA))
      · have ex : mO s q (xa * (g * u1) - ya * h1, ya) (xb * (g * u2) - yb * (h1 + u1 * k1 - u2 * k2), yb) = aO (aO (iO (xa * xb) (mO s q (g * u1, 0) (g * u2, 0))) (iO (xa * yb) (mO s q (g * u1, 0) (-(h1 + u1 * k1 - u2 * k2), 1)))) (aO (iO (ya * xb) (mO s q (-h1, 1) (g * u2, 0))) (iO (ya * yb) (mO s q (-h1, 1) (-(h1 + u1 * k1 - u2 * k2), 1)))) := by
          generalize g * u1 = A1
          generalize g * u2 = A2
          generalize h1 + u1 * k1 - u2 * k2 = h2
          simp only [mO, iO, aO, Prod.mk.injEq]
          refine ⟨?_, ?_⟩ <;> grind
        rw [ex, c1, c2, c3, c4]
        have dist : ∀ (n m : Int) (z : QO), iO n (iO m z) = iO m (iO n z) := fun n m z => by
          simp only [iO, Prod.mk.injEq]; exact ⟨by grind, by grind⟩
        have dadd : ∀ (n : Int) (z w : QO), iO n (aO z w) = aO (iO n z) (iO n w) := fun n z w => by
          simp only [iO, aO, Prod.mk.injEq]; exact ⟨by grind, by grind⟩
        rw [dist (xa * xb) g, dist (xa * yb) g, dist (ya * xb) g, dist (ya * yb) g, ← dadd, ← dadd, ← dadd, ← dadd]
  · rintro ⟨_, ⟨xx, yy, rfl⟩, rfl⟩
    have A1 := lat_a (g * u1) h1
    have T1 := lat_t (g * u1) h1
    have A2 := lat_a (g * u2) (h1 + u1 * k1 - u2 * k2)
    have T2 := lat_t (g * u2) (h1 + u1 * k1 - u2 * k2)
    have P1 := Prd.one (s := s) (q := q) A1 A2
    have P2 := Prd.one (s := s) (q := q) A1 T2
    have P3 := Prd.one (s := s) (q := q) T1 A2
    have P4 := Prd.one (s := s) (q := q) T1 T2
    have sm : ∀ (n : Int) {z : QO}, Prd s q (Lat (g * u1) h1) (Lat (g * u2) (h1 + u1 * k1 - u2 * k2)) z → Prd s q (Lat (g * u1) h1) (Lat (g * u2) (h1 + u1 * k1 - u2 * k2)) (iO n z) := fun n z h => Prd.smul lat_smul n h
    rw [c1] at P1
    rw [c2] at P2
    rw [c3] at P3
    rw [c4] at P4
    have B : Prd s q (Lat (g * u1) h1) (Lat (g * u2) (h1 + u1 * k1 - u2 * k2)) (iO g (-(h1 + u1 * k1), 1)) := by
      have := ((sm (e * x) P2).plus (sm (e * y) P3)).plus (sm (-z) P4)
      have ee : aO (aO (iO (e * x) (iO g (aO (iO u1 (-(h1 + u1 * k1), 1)) (iO k2 (u1 * u2, 0))))) (iO (e * y) (iO g (aO (iO u2 (-(h1 + u1 * k1), 1)) (iO k1 (u1 * u2, 0)))))) (iO (-z) (iO g (aO (iO (-v) (-(h1 + u1 * k1), 1)) (iO (-k3) (u1 * u2, 0))))) = iO g (-(h1 + u1 * k1), 1) := by
        generalize u1 * u2 = A
        generalize h1 + u1 * k1 = H
        simp only [iO, aO, Prod.mk.injEq]
        refine ⟨?_, ?_⟩
        · have : e * x * (g * (u1 * -H + k2 * A)) + e * y * (g * (u2 * -H + k1 * A)) + -z * (g * (-v * -H + -k3 * A)) = g * ((e * (x * u1 + y * u2) + z * v) * -H + (e * x * k2 + e * y * k1 + z * k3) * A) := by grind
          rw [this, hz, h0, Int.one_mul, Int.zero_mul, Int.add_zero]
        · have : e * x * (g * (u1 * 1 + k2 * 0)) + e * y * (g * (u2 * 1 + k1 * 0)) + -z * (g * (-v * 1 + -k3 * 0)) = g * (e * (x * u1 + y * u2) + z * v) := by grind
          rw [this, hz]
      rwa [ee] at this
    have C : Prd s q (Lat (g * u1) h1) (Lat (g * u2) (h1 + u1 * k1 - u2 * k2)) (iO g (u1 * u2, 0)) := by
      have := (((sm p0 P1).plus (sm p1 P3)).plus (sm p2 P2)).plus ((sm (-p3) P4).plus (sm (-(p1 * u2) - p2 * u1 - p3 * v) B))
      have ee : aO (aO (aO (iO p0 (iO g (iO g (u1 * u2, 0)))) (iO p1 (iO g (aO (iO u2 (-(h1 + u1 * k1), 1)) (iO k1 (u1 * u2, 0)))))) (iO p2 (iO g (aO (iO u1 (-(h1 + u1 * k1), 1)) (iO k2 (u1 * u2, 0)))))) (aO (iO (-p3) (iO g (aO (iO (-v) (-(h1 + u1 * k1), 1)) (iO (-k3) (u1 * u2, 0))))) (iO (-(p1 * u2) - p2 * u1 - p3 * v) (iO g (-(h1 + u1 * k1), 1)))) = iO g (u1 * u2, 0) := by
        generalize u1 * u2 = A
        generalize h1 + u1 * k1 = H
        simp only [iO, aO, Prod.mk.injEq]
        refine ⟨?_, ?_⟩
        · have : p0 * (g * (g * A)) + p1 * (g * (u2 * -H + k1 * A)) + p2 * (g * (u1 * -H + k2 * A)) + (-p3 * (g * (-v * -H + -k3 * A)) + (-(p1 * u2) - p2 * u1 - p3 * v) * (g * -H)) = (p0 * g + p1 * k1 + p2 * k2 + p3 * k3) * (g * A) := by grind
          rw [this, hp, Int.one_mul]
        · grind
      rwa [ee] at this
    have := (sm xx C).plus (sm yy B)
    have ee : aO (iO xx (iO g (u1 * u2, 0))) (iO yy (iO g (-(h1 + u1 * k1), 1))) = iO g (xx * (u1 * u2) - yy * (h1 + u1 * k1), yy) := by
      simp only [iO, aO, Prod.mk.injEq]
      refine ⟨?_, ?_⟩ <;> grind
    rwa [ee] at this
end Pv
end

section
/-! PvIg: forms and lattices: like lattices, led forms, products. -/
set_option autoImplicit false
namespace Pv
open PySem
def qO (d : Int) : Int := (d - d % 2) / 4
def hF (d : Int) (f : Fm) : Int := (f.2.1 + d % 2) / 2
def LF (d : Int) (f : Fm) : QO → Prop := Lat f.1 (hF d f)
abbrev SimF (d : Int) (S T : QO → Prop) : Prop := Sim (d % 2) (qO d) S T
abbrev PrF (d : Int) (S T : QO → Prop) : QO → Prop := Prd (d % 2) (qO d) S T
theorem par_b {d : Int} {f : Fm} (h : disc f = d) (hd : d % 4 = 0 ∨ d % 4 = 1) : f.2.1 % 2 = d % 2 := by
  unfold disc at h
  have e : 4 * f.1 * f.2.2 = 4 * (f.1 * f.2.2) := by grind
  rcases sq4 f.2.1 with ⟨p, q⟩ | ⟨p, q⟩ <;> omega
theorem fh_of {d : Int} {f : Fm} (h : disc f = d) (hd : d % 4 = 0 ∨ d % 4 = 1) : Fh (d % 2) (qO d) f (hF d f) := by
  have pb := par_b h hd
  have e2 : 2 * hF d f = f.2.1 + d % 2 := by unfold hF; omega
  refine ⟨by omega, ?_⟩
  have e4 : 4 * qO d = d - d % 2 := by unfold qO; omega
  unfold disc at h
  have ss : d % 2 * (d % 2) = d % 2 := by rcases (show d % 2 = 0 ∨ d % 2 = 1 by omega) with z | z <;> rw [z] <;> rfl
  generalize d % 2 = s at *
  generalize hF d f = H at *
  generalize qO d = Q at *
  have eb : f.2.1 = 2 * H - s := by omega
  rw [eb] at h
  grind
theorem nO_four (s q : Int) (z : QO) : 4 * nO s q z = (2 * z.1 + s * z.2) * (2 * z.1 + s * z.2) - (s * s + 4 * q) * (z.2 * z.2) := by
  unfold nO; grind
theorem d_sq {d : Int} (hd : d % 4 = 0 ∨ d % 4 = 1) : d % 2 * (d % 2) + 4 * qO d = d := by
  have e4 : 4 * qO d = d - d % 2 := by unfold qO; omega
  have ss : d % 2 * (d % 2) = d % 2 := by rcases (show d % 2 = 0 ∨ d % 2 = 1 by omega) with z | z <;> rw [z] <;> rfl
  omega
theorem nO_pos {d : Int} (hd : d % 4 = 0 ∨ d % 4 = 1) (d0 : d < 0) {z : QO} (h : nO (d % 2) (qO d) z ≠ 0) : 0 < nO (d % 2) (qO d) z := by
  have e := nO_four (d % 2) (qO d) z
  rw [d_sq hd] at e
  have s1 := sq_nn (2 * z.1 + d % 2 * z.2)
  have s2 := sq_nn z.2
  have s3 : 0 ≤ -d * (z.2 * z.2) := Int.mul_nonneg (by omega) s2
  have e2 : -d * (z.2 * z.2) = -(d * (z.2 * z.2)) := by grind
  omega
/-! ### led forms have like lattices -/
theorem led_sim {d : Int} {f : Fm} {m : Mx} (hd : d % 4 = 0 ∨ d % 4 = 1) (hf : disc f = d) (dm : det m = 1) (a0 : f.1 ≠ 0) (A0 : (ledF f m).1 ≠ 0) : SimF d (LF d (ledF f m)) (LF d f) := by
  have h2 : disc (ledF f m) = d := by rw [disc_led, dm, hf]; omega
  obtain ⟨b1, q1⟩ := fh_of hf hd
  clear hf
  obtain ⟨b2, q2⟩ := fh_of h2 hd
  unfold SimF LF
  generalize hF d (ledF f m) = H at *
  generalize hF d f = h at *
  generalize qO d = q at *
  generalize d % 2 = s at *
  obtain ⟨a, b, c⟩ := f
  obtain ⟨g, k, i, j⟩ := m
  simp only [det] at dm
  simp only [ledF] at A0 b2 q2 a0 b1 q1 ⊢
  subst b1 q1
  have eH : H = a * g * k + h * (1 + 2 * (k * i)) - s * (k * i) + c * i * j := by grind
  have eN : nO s (h * h - h * s - a * c) (g * a + i * h, -i) = a * (a * g * g + (2 * h - s) * g * i + c * i * i) := by simp only [nO]; grind
  refine ⟨(g * a + i * h, -i), (a * g * g + (2 * h - s) * g * i + c * i * i, 0), ?_, ?_, ?_, ?_⟩
  · rw [eN]; exact Int.mul_ne_zero a0 A0
  · simp only [nO]
    rw [show ∀ A : Int, A * A + s * (A * 0) - (h * h - h * s - a * c) * (0 * 0) = A * A by intro A; grind]
    exact Int.mul_ne_zero A0 A0
  · rintro _ ⟨x, y, rfl⟩
    refine ⟨((x * g - y * k) * a - (y * j - x * i) * h, y * j - x * i), ⟨_, _, rfl⟩, ?_⟩
    subst eH
    simp only [mO, Prod.mk.injEq]
    refine ⟨?_, ?_⟩ <;> grind
  · rintro _ ⟨u, w, rfl⟩
    refine ⟨((j * u + k * w) * (a * g * g + (2 * h - s) * g * i + c * i * i) - (i * u + g * w) * H, i * u + g * w), ⟨_, _, rfl⟩, ?_⟩
    subst eH
    simp only [mO, Prod.mk.injEq]
    refine ⟨?_, ?_⟩ <;> grind
/-! ### forms with like lattices are led to one another -/
theorem wedge_mul (s q : Int) (l u v : QO) : (mO s q l u).1 * (mO s q l v).2 - (mO s q l u).2 * (mO s q l v).1 = nO s q l * (u.1 * v.2 - u.2 * v.1) := by
  obtain ⟨l1, l2⟩ := l; obtain ⟨u1, u2⟩ := u; obtain ⟨v1, v2⟩ := v
  simp only [mO, nO]; grind
theorem nO_lat {s q : Int} {f : Fm} {h : Int} (k : Fh s q f h) (x y : Int) : nO s q (x * f.1 - y * h, y) = f.1 * val f x (-y) := by
  obtain ⟨b, n⟩ := k
  obtain ⟨a, b', c⟩ := f
  simp only at b n
  subst b n
  simp only [nO, val]; grind
theorem sim_half {s q : Int} {f F : Fm} {h H : Int} (kf : Fh s q f h) (kF : Fh s q F H) {l m : QO} (S : Sim1 s q l m (Lat f.1 h) (Lat F.1 H)) :
    ∃ x1 y1 x2 y2 : Int, nO s q l * f.1 = nO s q m * F.1 * (x1 * y2 - x2 * y1) ∧ ∀ x y : Int, nO s q l * f.1 * val f x (-y) = nO s q m * F.1 * val F (x * x1 + y * x2) (-(x * y1 + y * y2)) := by
  obtain ⟨_, ⟨x1, y1, rfl⟩, e1⟩ := S _ (lat_a f.1 h)
  obtain ⟨_, ⟨x2, y2, rfl⟩, e2⟩ := S _ (lat_t f.1 h)
  refine ⟨x1, y1, x2, y2, ?_, fun x y => ?_⟩
  · have w1 := wedge_mul s q l (f.1, 0) (-h, 1)
    have w2 := wedge_mul s q m (x1 * F.1 - y1 * H, y1) (x2 * F.1 - y2 * H, y2)
    rw [e1, e2] at w1
    rw [w1] at w2
    simp only at w2
    grind
  · have n1 := nO_lat kf x y
    have n2 := nO_lat kF (x * x1 + y * x2) (x * y1 + y * y2)
    have e3 : mO s q l (x * f.1 - y * h, y) = mO s q m ((x * x1 + y * x2) * F.1 - (x * y1 + y * y2) * H, x * y1 + y * y2) := by
      have t1 : mO s q l (x * f.1 - y * h, y) = aO (iO x (mO s q l (f.1, 0))) (iO y (mO s q l (-h, 1))) := by
        obtain ⟨l1, l2⟩ := l
        simp only [mO, iO, aO, Prod.mk.injEq]
        refine ⟨?_, ?_⟩ <;> grind
      have t2 : mO s q m ((x * x1 + y * x2) * F.1 - (x * y1 + y * y2) * H, x * y1 + y * y2) = aO (iO x (mO s q m (x1 * F.1 - y1 * H, y1))) (iO y (mO s q m (x2 * F.1 - y2 * H, y2))) := by
        obtain ⟨l1, l2⟩ := m
        simp only [mO, iO, aO, Prod.mk.injEq]
        refine ⟨?_, ?_⟩ <;> grind
      rw [t1, t2, e1, e2]
    have := congrArg (nO s q) e3
    rw [nO_mul, nO_mul, n1, n2] at this
    rw [Int.mul_assoc, this, Int.mul_assoc]
theorem sim_led {d : Int} {f F : Fm} (hd : d % 4 = 0 ∨ d % 4 = 1) (d0 : d < 0) (h1 : disc f = d) (h2 : disc F = d) (a0 : 0 < f.1) (A0 : 0 < F.1) (S : SimF d (LF d f) (LF d F)) : ∃ m, det m = 1 ∧ F = ledF f m := by
  have kf := fh_of h1 hd
  have kF := fh_of h2 hd
  obtain ⟨l, m, nl, nm, S1, S2⟩ := S
  have pl := nO_pos hd d0 nl
  have pm := nO_pos hd d0 nm
  obtain ⟨x1, y1, x2, y2, w1, v1⟩ := sim_half kf kF S1
  obtain ⟨x1', y1', x2', y2', w2, v2⟩ := sim_half kF kf S2
  generalize nO (d % 2) (qO d) l = N at *
  generalize nO (d % 2) (qO d) m = M at *
  have n0 : 0 < N * f.1 := Int.mul_pos pl a0
  have m0 : 0 < M * F.1 := Int.mul_pos pm A0
  generalize hD : x1 * y2 - x2 * y1 = D at *
  generalize x1' * y2' - x2' * y1' = D' at *
  generalize N * f.1 = n at *
  generalize M * F.1 = r at *
  have D0 : 0 < D := by
    rcases Int.lt_or_le 0 D with q | q
    · exact q
    · have := Int.mul_nonneg (show 0 ≤ r by omega) (show 0 ≤ -D by omega)
      rw [Int.mul_neg] at this
      omega
  have D0' : 0 < D' := by
    rcases Int.lt_or_le 0 D' with q | q
    · exact q
    · have := Int.mul_nonneg (show 0 ≤ n by omega) (show 0 ≤ -D' by omega)
      rw [Int.mul_neg] at this
      omega
  have D1 : D = 1 := by
    have q1 : n * 1 ≤ n * D' := mulL (by omega) (by omega)
    rcases Int.lt_or_le 1 D with q | q
    · have : r * 2 ≤ r * D := mulL (by omega) (by omega)
      omega
    · omega
  have nr : n = r := by rw [D1] at w1; omega
  subst nr
  have v3 : ∀ x y, val f x (-y) = val F (x * x1 + y * x2) (-(x * y1 + y * y2)) := fun x y => Int.eq_of_mul_eq_mul_left (by omega) (v1 x y)
  have e : f = ledF F (x1, -x2, -y1, y2) := by
    have q1 := v3 1 0
    have q2 := v3 0 1
    have q3 := v3 1 1
    obtain ⟨a, b, c⟩ := f
    obtain ⟨A, B, C⟩ := F
    simp only [val] at q1 q2 q3
    simp only [ledF, Prod.mk.injEq]
    refine ⟨?_, ?_, ?_⟩ <;> grind
  have dM : det (x1, -x2, -y1, y2) = 1 := by simp only [det]; grind
  exact ⟨invM (x1, -x2, -y1, y2), by rw [det_inv]; exact dM, by rw [e, led_mul, mul_inv dM, led_one]⟩
/-! ### the product of two forms -/
theorem comp_key {d : Int} {f1 f2 R : Fm} (hd : d % 4 = 0 ∨ d % 4 = 1) (hf1 : disc f1 = d) (hf2 : disc f2 = d) (p1 : prim f1) {g u1 u2 v m x y e z t : Int} (hg : g ≠ 0) (h1 : f1.1 = g * u1) (h2 : f2.1 = g * u2)
    (hb1 : f1.2.1 = g * v + m) (hb2 : f2.2.1 = g * v - m) (hz : e * (x * u1 + y * u2) + z * v = 1) (hR : disc R = d) (R1 : R.1 = u1 * u2) (R2 : R.2.1 = f2.2.1 + 2 * u2 * (e * y * m - z * f2.2.2) + 2 * (u1 * u2) * t) :
    ∀ w, PrF d (LF d f1) (LF d f2) w ↔ ∃ y, LF d R y ∧ w = iO g y := by
  have kf1 := fh_of hf1 hd
  have kf2 := fh_of hf2 hd
  have kR := fh_of hR hd
  have hdd : f1.2.1 * f1.2.1 - 4 * f1.1 * f1.2.2 = f2.2.1 * f2.2.1 - 4 * f2.1 * f2.2.2 := by
    have := hf1.trans hf2.symm
    exact this
  obtain ⟨q, e1, e2, e3, e4, e5, e6, e7, e8, e9⟩ := cub_of hg h1 h2 hb1 hb2 hz hdd
  have cop := fun w (a : w ∣ q.g) b c d => Cub.cop q (e := w) (by rw [e8]; exact p1) a b c d
  obtain ⟨p0, p1, p2, p3, hp⟩ := bez4 cop
  have s1 : f1.2.1 = g * v - u1 * q.k1 + u2 * q.k2 := by
    have := congrArg (fun f : Fm => f.2.1) e8
    simp only [Cub.f1] at this
    rw [e1, e2, e3, e4] at this
    exact this.symm
  have s2 : f2.2.1 = g * v + u1 * q.k1 - u2 * q.k2 := by
    have := congrArg (fun f : Fm => f.2.1) e9
    simp only [Cub.f2] at this
    rw [e1, e2, e3, e4] at this
    exact this.symm
  have s3 : f1.2.2 = q.k3 * u2 - v * q.k1 := by
    have := congrArg (fun f : Fm => f.2.2) e8
    simp only [Cub.f1] at this
    rw [e3, e4] at this
    exact this.symm
  rw [← e6] at R2
  have h0 : e * x * q.k2 + e * y * q.k1 + z * q.k3 = 0 := by rw [e5, e6, e7]; grind
  rw [e1] at hp
  have b1 := kf1.b; have b2 := kf2.b; have b3 := kR.b
  have n1 := kf1.n
  rw [h1, s3] at n1
  generalize q.k1 = k1 at *
  generalize q.k2 = k2 at *
  generalize q.k3 = k3 at *
  have key := cub_prd (s := d % 2) (q := qO d) (h1 := hF d f1) (h2 := hF d f2) (H := hF d f1 + u1 * k1) (by omega) (by omega) rfl n1 hz h0 hp
  rw [← h1, ← h2] at key
  have eR : hF d R = hF d f1 + u1 * k1 + u1 * u2 * t := by
    have : 2 * u2 * k2 + 2 * (u1 * u2) * t = 2 * (u2 * k2 + u1 * u2 * t) := by grind
    omega
  have LR : ∀ w, LF d R w ↔ Lat (u1 * u2) (hF d f1 + u1 * k1) w := fun w => by
    unfold LF
    rw [R1]
    exact (lat_mod eR w).symm
  intro w
  refine Iff.trans (key w) ?_
  exact ⟨fun ⟨y, h, e⟩ => ⟨y, (LR y).mpr h, e⟩, fun ⟨y, h, e⟩ => ⟨y, (LR y).mp h, e⟩⟩
theorem sim_of_key {s q g : Int} {S T : QO → Prop} (hg : g ≠ 0) (key : ∀ w, S w ↔ ∃ y, T y ∧ w = iO g y) : Sim s q S T := by
  refine ⟨(1, 0), (g, 0), by simp [nO], ?_, ?_, ?_⟩
  · simp [nO, hg]
  · intro w hw
    obtain ⟨y, hy, rfl⟩ := (key w).mp hw
    refine ⟨y, hy, ?_⟩
    simp [mO, iO]
  · intro y hy
    refine ⟨iO g y, (key _).mpr ⟨y, hy, rfl⟩, ?_⟩
    simp [mO, iO]
theorem val_of_key {d g : Int} {f1 f2 R : Fm} (hd : d % 4 = 0 ∨ d % 4 = 1) (hf1 : disc f1 = d) (hf2 : disc f2 = d) (hR : disc R = d) (hg : g ≠ 0) (R0 : R.1 ≠ 0) (ha : f1.1 * f2.1 = g * g * R.1)
    (key : ∀ w, PrF d (LF d f1) (LF d f2) w ↔ ∃ y, LF d R y ∧ w = iO g y) (x1 y1 x2 y2 : Int) : ∃ X Y, val f1 x1 y1 * val f2 x2 y2 = val R X Y := by
  have k1 := fh_of hf1 hd
  have k2 := fh_of hf2 hd
  have kR := fh_of hR hd
  obtain ⟨_, ⟨X, Y, rfl⟩, e⟩ := (key _).mp (Prd.one (s := d % 2) (q := qO d) (show LF d f1 (x1 * f1.1 - (-y1) * hF d f1, -y1) from ⟨_, _, rfl⟩) (show LF d f2 (x2 * f2.1 - (-y2) * hF d f2, -y2) from ⟨_, _, rfl⟩))
  have n := congrArg (nO (d % 2) (qO d)) e
  have sc : ∀ z, nO (d % 2) (qO d) (iO g z) = g * g * nO (d % 2) (qO d) z := fun z => by simp only [nO, iO]; grind
  rw [nO_mul, sc, nO_lat k1, nO_lat k2, nO_lat kR, Int.neg_neg, Int.neg_neg] at n
  refine ⟨X, -Y, ?_⟩
  have e2 : g * g * R.1 * (val f1 x1 y1 * val f2 x2 y2) = g * g * R.1 * val R X (-Y) := by
    rw [← ha]
    rw [show f1.1 * f2.1 * (val f1 x1 y1 * val f2 x2 y2) = f1.1 * val f1 x1 y1 * (f2.1 * val f2 x2 y2) by grind, n, ha]
    grind
  exact Int.eq_of_mul_eq_mul_left (Int.mul_ne_zero (Int.mul_ne_zero hg hg) R0) e2
end Pv
end

section
/-! PvIh: values coprime to a number; the product of forms has no common divisor. -/
set_option autoImplicit false
namespace Pv
open PySem
theorem dvd_ml {a b : Int} (h : a ∣ b) (c : Int) : a ∣ b * c := Int.dvd_trans h (Int.dvd_mul_right ..)
theorem split_cop : ∀ (n e a : Nat), e ≤ n → 0 < e → ∃ e1 e2 k, e = e1 * e2 ∧ Nat.gcd e1 a = 1 ∧ e2 ∣ a ^ k
  | 0, e, a, h, h0 => by omega
  | n + 1, e, a, h, h0 => by
    by_cases g : Nat.gcd e a = 1
    · exact ⟨e, 1, 0, by omega, g, Nat.one_dvd _⟩
    · obtain ⟨e', he⟩ := Nat.gcd_dvd_left e a
      have gp : 0 < Nat.gcd e a := Nat.gcd_pos_of_pos_left _ h0
      have e0 : 0 < e' := by
        rcases Nat.eq_zero_or_pos e' with z | z
        · rw [z] at he; omega
        · exact z
      have lt : e' < e := by
        have : 2 * e' ≤ Nat.gcd e a * e' := Nat.mul_le_mul_right _ (by omega)
        omega
      obtain ⟨e1, e2, k, h1, h2, h3⟩ := split_cop n e' a (by omega) e0
      refine ⟨e1, Nat.gcd e a * e2, k + 1, ?_, h2, ?_⟩
      · have : e = Nat.gcd e a * (e1 * e2) := by rw [← h1]; exact he
        generalize Nat.gcd e a = G at *
        rw [this, ← Nat.mul_assoc, ← Nat.mul_assoc, Nat.mul_comm e1]
      · rw [Nat.pow_succ, Nat.mul_comm]
        exact Nat.mul_dvd_mul h3 (Nat.gcd_dvd_right ..)
theorem cop_pow_one {p a k : Nat} (h : p ∣ a ^ k) (g : Nat.gcd p a = 1) : p = 1 := Nat.Coprime.eq_one_of_dvd (Nat.Coprime.pow_right k g) h
theorem cop_of_dvd {a b c : Nat} (h : a ∣ b) (g : Nat.gcd b c = 1) : Nat.gcd a c = 1 := Nat.Coprime.coprime_dvd_left h g
theorem one_of_dvd3 {r a x : Nat} (h : r ∣ a * x * x) (h1 : Nat.gcd r a = 1) (h2 : Nat.gcd r x = 1) : r = 1 := by
  have : Nat.gcd r (a * x * x) = 1 := Nat.Coprime.mul_right (Nat.Coprime.mul_right h1 h2) h2
  exact Nat.Coprime.eq_one_of_dvd this h
theorem cop_val {f : Fm} (hf : prim f) {e : Int} (e0 : 0 < e) : ∃ x y : Int, 0 < x ∧ 0 < y ∧ x * y ≤ e ∧ Int.gcd x y = 1 ∧ Int.gcd (val f x y) e = 1 := by
  obtain ⟨y0, e2, k, hy, gy, hk⟩ := split_cop e.toNat e.toNat f.1.natAbs (Nat.le_refl _) (by omega)
  have e20 : 0 < e2 := by
    rcases Nat.eq_zero_or_pos e2 with z | z
    · rw [z] at hy; omega
    · exact z
  have y00 : 0 < y0 := by
    rcases Nat.eq_zero_or_pos y0 with z | z
    · rw [z] at hy; omega
    · exact z
  obtain ⟨x0, c2, j, hx, gx, hj⟩ := split_cop e2 e2 f.2.2.natAbs (Nat.le_refl _) e20
  have x00 : 0 < x0 := by
    rcases Nat.eq_zero_or_pos x0 with z | z
    · rw [z] at hx; omega
    · exact z
  have c20 : 0 < c2 := by
    rcases Nat.eq_zero_or_pos c2 with z | z
    · rw [z] at hx; omega
    · exact z
  have xA : x0 ∣ f.1.natAbs ^ k := Nat.dvd_trans ⟨c2, hx⟩ hk
  have gyx : Nat.gcd y0 x0 = 1 := by
    have : Nat.gcd y0 (f.1.natAbs ^ k) = 1 := Nat.Coprime.pow_right k gy
    exact Nat.Coprime.coprime_dvd_right xA this
  refine ⟨x0, y0, by omega, by omega, ?_, ?_, ?_⟩
  · have : x0 * y0 * 1 ≤ x0 * y0 * c2 := Nat.mul_le_mul_left _ c20
    have e3 : e.toNat = x0 * y0 * c2 := by rw [hy, hx, ← Nat.mul_assoc, Nat.mul_comm y0]
    have : ((x0 * y0 : Nat) : Int) ≤ e := by omega
    simpa using this
  · rw [Int.gcd_comm]; exact gyx
  · generalize hr : Int.gcd (val f x0 y0) e = r
    have rV : (r : Int) ∣ val f x0 y0 := by rw [← hr]; exact Int.gcd_dvd_left ..
    have re : r ∣ e.toNat := by
      have : (r : Int) ∣ e := by rw [← hr]; exact Int.gcd_dvd_right ..
      have h := Int.natAbs_dvd_natAbs.mpr this
      rw [Int.natAbs_natCast] at h
      rwa [show e.toNat = e.natAbs by omega]
    obtain ⟨A, B, C⟩ := f
    simp only [val] at rV
    simp only at gy gx hk hj
    have nat3 : ∀ (t : Nat) (u : Int) (v : Nat), (t : Int) ∣ u * v * v → t ∣ u.natAbs * v * v := fun t u v h => by
      have h := Int.natAbs_dvd_natAbs.mpr h
      rwa [Int.natAbs_natCast, Int.natAbs_mul, Int.natAbs_mul, Int.natAbs_natCast] at h
    -- with y
    have r1 : Nat.gcd r y0 = 1 := by
      generalize hq : Nat.gcd r y0 = t
      have t1 : t ∣ r := by rw [← hq]; exact Nat.gcd_dvd_left ..
      have t2 : t ∣ y0 := by rw [← hq]; exact Nat.gcd_dvd_right ..
      have t3 : (t : Int) ∣ A * x0 * x0 := by
        have h1 : (t : Int) ∣ A * x0 * x0 + B * x0 * y0 + C * y0 * y0 := Int.dvd_trans (Int.ofNat_dvd.mpr t1) rV
        have h2 : (t : Int) ∣ y0 * (B * x0 + C * y0) := dvd_ml (Int.ofNat_dvd.mpr t2) _
        have := Int.dvd_sub h1 h2
        rwa [show A * x0 * x0 + B * x0 * y0 + C * y0 * y0 - y0 * (B * x0 + C * y0) = A * x0 * x0 by grind] at this
      exact one_of_dvd3 (nat3 _ _ _ t3) (cop_of_dvd t2 gy) (cop_of_dvd t2 gyx)
    have r2 : r ∣ e2 := by
      rw [hy] at re
      exact Nat.Coprime.dvd_of_dvd_mul_left r1 re
    have r3 : Nat.gcd r x0 = 1 := by
      generalize hq : Nat.gcd r x0 = t
      have t1 : t ∣ r := by rw [← hq]; exact Nat.gcd_dvd_left ..
      have t2 : t ∣ x0 := by rw [← hq]; exact Nat.gcd_dvd_right ..
      have t3 : (t : Int) ∣ C * y0 * y0 := by
        have h1 : (t : Int) ∣ A * x0 * x0 + B * x0 * y0 + C * y0 * y0 := Int.dvd_trans (Int.ofNat_dvd.mpr t1) rV
        have h2 : (t : Int) ∣ x0 * (A * x0 + B * y0) := dvd_ml (Int.ofNat_dvd.mpr t2) _
        have := Int.dvd_sub h1 h2
        rwa [show A * x0 * x0 + B * x0 * y0 + C * y0 * y0 - x0 * (A * x0 + B * y0) = C * y0 * y0 by grind] at this
      exact one_of_dvd3 (nat3 _ _ _ t3) (cop_of_dvd t2 gx) (by rw [Nat.gcd_comm]; exact cop_of_dvd (a := y0) (b := y0) (Nat.dvd_refl _) (Nat.Coprime.coprime_dvd_right t2 gyx))
    have r4 : r ∣ c2 := by
      rw [hx] at r2
      exact Nat.Coprime.dvd_of_dvd_mul_left r3 r2
    by_cases r1' : r = 1
    · exact r1'
    exfalso
    have a1 : Nat.gcd r A.natAbs ≠ 1 := fun z => r1' (cop_pow_one (Nat.dvd_trans r2 hk) z)
    have c1 : Nat.gcd (Nat.gcd r A.natAbs) C.natAbs ≠ 1 := fun z => a1 (cop_pow_one (Nat.dvd_trans (Nat.dvd_trans (Nat.gcd_dvd_left ..) r4) hj) z)
    generalize hq : Nat.gcd (Nat.gcd r A.natAbs) C.natAbs = t at c1
    have tr : t ∣ r := by rw [← hq]; exact Nat.dvd_trans (Nat.gcd_dvd_left ..) (Nat.gcd_dvd_left ..)
    have tA : t ∣ A.natAbs := by rw [← hq]; exact Nat.dvd_trans (Nat.gcd_dvd_left ..) (Nat.gcd_dvd_right ..)
    have tC : t ∣ C.natAbs := by rw [← hq]; exact Nat.gcd_dvd_right ..
    have tA' : (t : Int) ∣ A := Int.ofNat_dvd_left.mpr tA
    have tC' : (t : Int) ∣ C := Int.ofNat_dvd_left.mpr tC
    have h1 : (t : Int) ∣ A * x0 * x0 + B * x0 * y0 + C * y0 * y0 := Int.dvd_trans (Int.ofNat_dvd.mpr tr) rV
    have h2 : (t : Int) ∣ B * x0 * y0 := by
      have := Int.dvd_sub (Int.dvd_sub h1 (dvd_ml (dvd_ml tA' x0) x0)) (dvd_ml (dvd_ml tC' y0) y0)
      rwa [show A * x0 * x0 + B * x0 * y0 + C * y0 * y0 - A * x0 * x0 - C * y0 * y0 = B * x0 * y0 by grind] at this
    have h3 : t ∣ B.natAbs * x0 * y0 := by
      have h := Int.natAbs_dvd_natAbs.mpr h2
      rwa [Int.natAbs_natCast, Int.natAbs_mul, Int.natAbs_mul, Int.natAbs_natCast, Int.natAbs_natCast] at h
    have gtx : Nat.gcd t x0 = 1 := by rw [Nat.gcd_comm]; exact Nat.Coprime.coprime_dvd_right tC gx
    have gty : Nat.gcd t y0 = 1 := by rw [Nat.gcd_comm]; exact Nat.Coprime.coprime_dvd_right tA gy
    have tB : t ∣ B.natAbs := Nat.Coprime.dvd_of_dvd_mul_right gtx (Nat.Coprime.dvd_of_dvd_mul_right gty h3)
    have : (t : Int) ∣ Int.gcd (Int.gcd A B) C := Int.dvd_coe_gcd (Int.dvd_coe_gcd tA' (Int.ofNat_dvd_left.mpr tB)) tC'
    unfold prim at hf
    simp only at hf
    rw [hf] at this
    have := Int.ofNat_dvd.mp this
    exact c1 (Nat.dvd_one.mp this)
theorem prim_of_val {f1 f2 R : Fm} (h1 : prim f1) (h2 : prim f2) (R0 : R.1 ≠ 0) (h : ∀ x1 y1 x2 y2 : Int, ∃ X Y, val f1 x1 y1 * val f2 x2 y2 = val R X Y) : prim R := by
  unfold prim
  generalize hg : Int.gcd (Int.gcd R.1 R.2.1) R.2.2 = e
  have d12 : (e : Int) ∣ Int.gcd R.1 R.2.1 := by rw [← hg]; exact Int.gcd_dvd_left ..
  have d1 : (e : Int) ∣ R.1 := Int.dvd_trans d12 (Int.gcd_dvd_left ..)
  have d2 : (e : Int) ∣ R.2.1 := Int.dvd_trans d12 (Int.gcd_dvd_right ..)
  have d3 : (e : Int) ∣ R.2.2 := by rw [← hg]; exact Int.gcd_dvd_right ..
  have e0 : 0 < e := by
    rcases Nat.eq_zero_or_pos e with z | z
    · rw [z] at d1
      exact absurd (Int.zero_dvd.mp d1) R0
    · exact z
  obtain ⟨x1, y1, _, _, _, _, g1⟩ := cop_val h1 (e := e) (by omega)
  obtain ⟨x2, y2, _, _, _, _, g2⟩ := cop_val h2 (e := e) (by omega)
  obtain ⟨X, Y, hv⟩ := h x1 y1 x2 y2
  have dv : (e : Int) ∣ val f1 x1 y1 * val f2 x2 y2 := by
    rw [hv]
    unfold val
    exact Int.dvd_add (Int.dvd_add (dvd_ml (dvd_ml d1 _) _) (dvd_ml (dvd_ml d2 _) _)) (dvd_ml (dvd_ml d3 _) _)
  have dn := Int.natAbs_dvd_natAbs.mpr dv
  rw [Int.natAbs_natCast, Int.natAbs_mul] at dn
  have c1 : Nat.gcd e (val f1 x1 y1).natAbs = 1 := by rw [Nat.gcd_comm]; exact g1
  have c2 : Nat.gcd e (val f2 x2 y2).natAbs = 1 := by rw [Nat.gcd_comm]; exact g2
  exact Nat.Coprime.eq_one_of_dvd (Nat.Coprime.mul_right c1 c2) dn
/-! ### every form has its reduced one -/
theorem red_ex : ∀ (n : Nat) (f : Fm), far f < n → 0 < f.1 → disc f ≤ -3 → ∃ m, det m = 1 ∧ Red (ledF f m)
  | 0, f, h, _, _ => by omega
  | n + 1, f, h, a0, hd => by
    cases e : stepM f with
    | none => exact ⟨oneM, by simp [det, oneM], by rw [led_one]; exact step_none a0 e⟩
    | some m =>
      obtain ⟨l, p⟩ := step_far a0 hd e
      have dd : disc (ledF f m) = disc f := by rw [disc_led, step_det e]; omega
      obtain ⟨m', h1, h2⟩ := red_ex n (ledF f m) (by omega) p (by omega)
      exact ⟨mulM m m', by rw [det_mul, step_det e, h1]; rfl, by rw [← led_mul]; exact h2⟩
end Pv
end

section
/-! PvIi: the classes are a group. -/
set_option autoImplicit false
namespace Pv
open PySem
/-- a form of a discriminant -/
structure Fo (d : Int) (f : Fm) : Prop where
  a0 : 0 < f.1
  disc : disc f = d
  prim : prim f
structure Dd (d : Int) : Prop where
  lo : -20000 ≤ d
  hi : d ≤ -3
  md : d % 4 = 0 ∨ d % 4 = 1
theorem Rf.fo {d : Int} {f : Fm} (h : Rf d f) : Fo d f := ⟨h.red.a0, h.disc, h.prim⟩
theorem Fo.good {d : Int} {f : Fm} (h : Fo d f) (D : Dd d) : GoodF f := ⟨h.a0, by rw [h.disc]; exact D.lo, by rw [h.disc]; exact D.hi⟩
theorem Fo.led {d : Int} {f : Fm} {m : Mx} (h : Fo d f) (D : Dd d) (dm : det m = 1) : Fo d (ledF f m) :=
  ⟨(led_good (h.good D) dm).a0, by rw [disc_led, dm, h.disc]; omega, led_prim h.prim dm⟩
def IsCl (d : Int) (S : QO → Prop) (R : Fm) : Prop := Rf d R ∧ SimF d S (LF d R)
theorem IsCl.uni {d : Int} (D : Dd d) {S T : QO → Prop} {R R' : Fm} (h : IsCl d S R) (k : IsCl d T R') (e : SimF d S T) : R = R' := by
  obtain ⟨m, dm, e⟩ := sim_led D.md (by have := D.hi; omega) h.1.disc k.1.disc h.1.red.a0 k.1.red.a0 ((h.2.symm.trans e).trans k.2)
  exact (gauss h.1.red k.1.red e dm).symm
theorem Fo.led_sim {d : Int} {f : Fm} {m : Mx} (h : Fo d f) (D : Dd d) (dm : det m = 1) : SimF d (LF d (ledF f m)) (LF d f) :=
  Pv.led_sim D.md h.disc dm (by have := h.a0; omega) (by have := (h.led D dm).a0; omega)
theorem cl_of_led {d : Int} {f : Fm} {m : Mx} (h : Fo d f) (D : Dd d) (dm : det m = 1) (r : Red (ledF f m)) : IsCl d (LF d f) (ledF f m) :=
  ⟨⟨r, (h.led D dm).disc, (h.led D dm).prim⟩, (h.led_sim D dm).symm⟩
theorem cl_ex {d : Int} {f : Fm} (h : Fo d f) (D : Dd d) : ∃ R, IsCl d (LF d f) R := by
  obtain ⟨m, dm, r⟩ := red_ex (far f + 1) f (by omega) h.a0 (by rw [h.disc]; exact D.hi)
  exact ⟨_, cl_of_led h D dm r⟩
theorem IsCl.of_sim {d : Int} {S T : QO → Prop} {R : Fm} (h : IsCl d S R) (e : SimF d T S) : IsCl d T R := ⟨h.1, e.trans h.2⟩
noncomputable def clF (d : Int) (f : Fm) : Fm := Classical.epsilon (IsCl d (LF d f))
noncomputable def prC (d : Int) (f1 f2 : Fm) : Fm := Classical.epsilon (IsCl d (PrF d (LF d f1) (LF d f2)))
theorem clF_spec {d : Int} {f : Fm} (h : Fo d f) (D : Dd d) : IsCl d (LF d f) (clF d f) := Classical.epsilon_spec (cl_ex h D)
theorem clF_eq {d : Int} {f R : Fm} (D : Dd d) (h : IsCl d (LF d f) R) : clF d f = R := (Classical.epsilon_spec ⟨R, h⟩ : IsCl d (LF d f) (clF d f)).uni D h (Sim.refl _)
theorem clF_led {d : Int} {f : Fm} {m : Mx} (h : Fo d f) (D : Dd d) (dm : det m = 1) (r : Red (ledF f m)) : clF d f = ledF f m := clF_eq D (cl_of_led h D dm r)
theorem clF_red {d : Int} {f : Fm} (D : Dd d) (h : Rf d f) : clF d f = f := clF_eq D ⟨h, Sim.refl _⟩
theorem clF_of {d : Int} {f : Fm} {m : Mx} (h : Fo d f) (D : Dd d) (dm : det m = 1) : clF d (ledF f m) = clF d f := clF_eq D ((clF_spec h D).of_sim (h.led_sim D dm))
theorem clF_rf {d : Int} {f : Fm} (h : Fo d f) (D : Dd d) : Rf d (clF d f) := (clF_spec h D).1
/-! ### products -/
theorem bezI (u v : Int) : ∃ x y : Int, x * u + y * v = Int.gcd u v := by
  by_cases z : Int.gcd u v = 0
  · refine ⟨0, 0, by rw [z]; simp⟩
  · have hu : (Int.gcd u v : Int) ∣ u := Int.gcd_dvd_left ..
    have hv : (Int.gcd u v : Int) ∣ v := Int.gcd_dvd_right ..
    obtain ⟨u', eu⟩ := hu
    obtain ⟨v', ev⟩ := hv
    have g1 : Int.gcd u' v' = 1 := by
      have e : Int.gcd (Int.gcd u v * u') (Int.gcd u v * v') = (Int.gcd u v : Int).natAbs * Int.gcd u' v' := Int.gcd_mul_left ..
      rw [← eu, ← ev, Int.natAbs_natCast] at e
      have : Int.gcd u v * 1 = Int.gcd u v * Int.gcd u' v' := by omega
      exact (Nat.eq_of_mul_eq_mul_left (by omega) this).symm
    obtain ⟨p, r, hpr⟩ := bez g1
    refine ⟨r, -p, ?_⟩
    generalize (Int.gcd u v : Int) = G at *
    have : r * u + -p * v = G * (u' * r - v' * p) := by rw [eu, ev]; grind
    rw [this, hpr, Int.mul_one]
/-- the numbers behind a product -/
structure Bz (f1 f2 : Fm) (g u1 u2 v m x y e z : Int) : Prop where
  g0 : 0 < g
  h1 : f1.1 = g * u1
  h2 : f2.1 = g * u2
  b1 : f1.2.1 = g * v + m
  b2 : f2.2.1 = g * v - m
  z1 : e * (x * u1 + y * u2) + z * v = 1
theorem Bz.ex {d : Int} {f1 f2 : Fm} (h1 : Fo d f1) (h2 : Fo d f2) (D : Dd d) : ∃ g u1 u2 v m x y e z, Bz f1 f2 g u1 u2 v m x y e z := by
  have p1 := par_b h1.disc D.md
  have p2 := par_b h2.disc D.md
  obtain ⟨x, y, e1⟩ := bezI f1.1 f2.1
  obtain ⟨e, z, e2⟩ := bezI (Int.gcd f1.1 f2.1) ((f1.2.1 + f2.2.1) / 2)
  have d0 : (Int.gcd (Int.gcd f1.1 f2.1) ((f1.2.1 + f2.2.1) / 2) : Int) ∣ Int.gcd f1.1 f2.1 := Int.gcd_dvd_left ..
  have d3 : (Int.gcd (Int.gcd f1.1 f2.1) ((f1.2.1 + f2.2.1) / 2) : Int) ∣ (f1.2.1 + f2.2.1) / 2 := Int.gcd_dvd_right ..
  obtain ⟨u1, q1⟩ := Int.dvd_trans d0 (Int.gcd_dvd_left ..)
  obtain ⟨u2, q2⟩ := Int.dvd_trans d0 (Int.gcd_dvd_right ..)
  obtain ⟨v, q3⟩ := d3
  have gz : (Int.gcd (Int.gcd f1.1 f2.1) ((f1.2.1 + f2.2.1) / 2) : Int) ≠ 0 := fun z => by
    rw [z, Int.zero_mul] at q1
    have := h1.a0
    omega
  generalize hg : (Int.gcd (Int.gcd f1.1 f2.1) ((f1.2.1 + f2.2.1) / 2) : Int) = g at *
  have g0 : 0 < g := by omega
  refine ⟨g, u1, u2, v, (f1.2.1 - f2.2.1) / 2, x, y, e, z, g0, q1, q2, by omega, by omega, ?_⟩
  have : g * (e * (x * u1 + y * u2) + z * v) = g * 1 := by
    rw [← e1] at e2
    rw [show g * (e * (x * u1 + y * u2) + z * v) = e * (x * (g * u1) + y * (g * u2)) + z * (g * v) by grind, ← q1, ← q2, ← q3, e2, Int.mul_one]
  exact Int.eq_of_mul_eq_mul_left gz this
/-- a form that begins with a number -/
def ofN (d n b : Int) : Fm := (n, b, (b * b - d) / (4 * n))
theorem Bz.comp {d : Int} {f1 f2 : Fm} {g u1 u2 v m x y e z B : Int} (b : Bz f1 f2 g u1 u2 v m x y e z) (h1 : Fo d f1) (h2 : Fo d f2) (D : Dd d) (hB : (B - (f2.2.1 + 2 * u2 * (e * y * m - z * f2.2.2))) % (2 * (u1 * u2)) = 0) :
    Fo d (ofN d (u1 * u2) B) ∧ (B * B - d) % (4 * (u1 * u2)) = 0 ∧ SimF d (PrF d (LF d f1) (LF d f2)) (LF d (ofN d (u1 * u2) B)) := by
  have g0 := b.g0
  have u10 : 0 < u1 := by
    rcases Int.lt_or_le 0 u1 with q | q
    · exact q
    · have := Int.mul_nonneg (show 0 ≤ g by omega) (show 0 ≤ -u1 by omega)
      rw [Int.mul_neg] at this
      have := h1.a0; have := b.h1
      omega
  have u20 : 0 < u2 := by
    rcases Int.lt_or_le 0 u2 with q | q
    · exact q
    · have := Int.mul_nonneg (show 0 ≤ g by omega) (show 0 ≤ -u2 by omega)
      rw [Int.mul_neg] at this
      have := h2.a0; have := b.h2
      omega
  have uu : 0 < u1 * u2 := Int.mul_pos u10 u20
  have hdd : f1.2.1 * f1.2.1 - 4 * f1.1 * f1.2.2 = f2.2.1 * f2.2.1 - 4 * f2.1 * f2.2.2 := h1.disc.trans h2.disc.symm
  obtain ⟨q, e1, e2, e3, e4, e5, e6, e7, e8, e9⟩ := cub_of (by omega) b.h1 b.h2 b.b1 b.b2 b.z1 hdd
  have dq : disc q.ff = d := by rw [← q.disc1, e8]; exact h1.disc
  have s2 : f2.2.1 = g * v + u1 * q.k1 - u2 * q.k2 := by
    have := congrArg (fun f : Fm => f.2.1) e9
    simp only [Cub.f2] at this
    rw [e1, e2, e3, e4] at this
    exact this.symm
  have s3 : q.ff = (u1 * u2, g * v + u1 * q.k1 + u2 * q.k2, g * q.k3 + q.k1 * q.k2) := by
    simp only [Cub.ff]
    rw [e1, e2, e3, e4]
  obtain ⟨t, ht⟩ := Int.dvd_of_emod_eq_zero hB
  rw [← e6] at ht
  rw [s3] at dq
  unfold disc at dq
  simp only at dq
  have eB : B = g * v + u1 * q.k1 + u2 * q.k2 + 2 * (u1 * u2) * t := by
    have : 2 * u2 * q.k2 = 2 * (u2 * q.k2) := by grind
    omega
  have dv : B * B - d = 4 * (u1 * u2) * (g * q.k3 + q.k1 * q.k2 + t * (g * v + u1 * q.k1 + u2 * q.k2) + u1 * u2 * (t * t)) := by
    rw [eB, ← dq]; grind
  have m0 : (B * B - d) % (4 * (u1 * u2)) = 0 := by rw [dv]; exact Int.mul_emod_right ..
  have dR : disc (ofN d (u1 * u2) B) = d := by
    unfold disc ofN
    simp only
    have := Int.mul_ediv_cancel' (Int.dvd_of_emod_eq_zero m0)
    omega
  have key := comp_key D.md h1.disc h2.disc h1.prim (by omega) b.h1 b.h2 b.b1 b.b2 b.z1 (R := ofN d (u1 * u2) B) (t := t) dR rfl (by show B = _; rw [← e6]; omega)
  have pv := val_of_key D.md h1.disc h2.disc dR (by omega) (show (ofN d (u1 * u2) B).1 ≠ 0 by show u1 * u2 ≠ 0; omega) (by show f1.1 * f2.1 = g * g * (u1 * u2); rw [b.h1, b.h2]; grind) key
  exact ⟨⟨uu, dR, prim_of_val h1.prim h2.prim (show u1 * u2 ≠ 0 by omega) pv⟩, m0, sim_of_key (by omega) key⟩
theorem pr_ex {d : Int} {f1 f2 : Fm} (h1 : Fo d f1) (h2 : Fo d f2) (D : Dd d) : ∃ R, IsCl d (PrF d (LF d f1) (LF d f2)) R := by
  obtain ⟨g, u1, u2, v, m, x, y, e, z, b⟩ := Bz.ex h1 h2 D
  obtain ⟨k1, _, k2⟩ := b.comp h1 h2 D (B := f2.2.1 + 2 * u2 * (e * y * m - z * f2.2.2)) (by rw [Int.sub_self]; rfl)
  obtain ⟨R, hR⟩ := cl_ex k1 D
  exact ⟨R, hR.of_sim k2⟩
theorem prC_spec {d : Int} {f1 f2 : Fm} (h1 : Fo d f1) (h2 : Fo d f2) (D : Dd d) : IsCl d (PrF d (LF d f1) (LF d f2)) (prC d f1 f2) := Classical.epsilon_spec (pr_ex h1 h2 D)
theorem prC_rf {d : Int} {f1 f2 : Fm} (h1 : Fo d f1) (h2 : Fo d f2) (D : Dd d) : Rf d (prC d f1 f2) := (prC_spec h1 h2 D).1
/-- what compose finds -/
theorem Bz.pr {d : Int} {f1 f2 : Fm} {g u1 u2 v m x y e z B : Int} (b : Bz f1 f2 g u1 u2 v m x y e z) (h1 : Fo d f1) (h2 : Fo d f2) (D : Dd d) (hB : (B - (f2.2.1 + 2 * u2 * (e * y * m - z * f2.2.2))) % (2 * (u1 * u2)) = 0) :
    clF d (ofN d (u1 * u2) B) = prC d f1 f2 := by
  obtain ⟨k1, _, k2⟩ := b.comp h1 h2 D hB
  exact clF_eq D ((prC_spec h1 h2 D).of_sim k2.symm)
section
variable {d : Int} {f1 f2 f3 : Fm} (D : Dd d)
include D
theorem prC_comm (h1 : Fo d f1) (h2 : Fo d f2) : prC d f1 f2 = prC d f2 f1 := (prC_spec h1 h2 D).uni D (prC_spec h2 h1 D) Sim.comm
theorem prC_sim {g1 g2 : Fm} (h1 : Fo d f1) (h2 : Fo d f2) (k1 : Fo d g1) (k2 : Fo d g2) (e1 : SimF d (LF d f1) (LF d g1)) (e2 : SimF d (LF d f2) (LF d g2)) : prC d f1 f2 = prC d g1 g2 :=
  (prC_spec h1 h2 D).uni D (prC_spec k1 k2 D) (Sim.prd e1 e2)
theorem prC_clL (h1 : Fo d f1) (h2 : Fo d f2) : prC d (clF d f1) f2 = prC d f1 f2 := prC_sim D (clF_rf h1 D).fo h2 h1 h2 (clF_spec h1 D).2.symm (Sim.refl _)
theorem prC_clR (h1 : Fo d f1) (h2 : Fo d f2) : prC d f1 (clF d f2) = prC d f1 f2 := prC_sim D h1 (clF_rf h2 D).fo h1 h2 (Sim.refl _) (clF_spec h2 D).2.symm
theorem prC_assoc (h1 : Fo d f1) (h2 : Fo d f2) (h3 : Fo d f3) : prC d (prC d f1 f2) f3 = prC d f1 (prC d f2 f3) := by
  refine (prC_spec (prC_rf h1 h2 D).fo h3 D).uni D (prC_spec h1 (prC_rf h2 h3 D).fo D) ?_
  refine (Sim.prd (prC_spec h1 h2 D).2.symm (Sim.refl _)).trans ?_
  exact Sim.assoc.trans (Sim.prd (Sim.refl _) (prC_spec h2 h3 D).2)
theorem fst_fo : Fo d (fstF d) := (fst_rf D.hi D.md).fo
theorem prC_one (h : Fo d f1) : prC d (fstF d) f1 = clF d f1 := by
  have pb := par_b h.disc D.md
  have b : Bz (fstF d) f1 1 1 f1.1 ((d % 2 + f1.2.1) / 2) ((d % 2 - f1.2.1) / 2) 1 0 1 0 := ⟨by omega, by simp [fstF], by omega, by show d % 2 = _; omega, by omega, by omega⟩
  have e := b.pr (fst_fo D) h D (B := f1.2.1) (by simp)
  rw [← e]
  congr 1
  unfold ofN
  rw [Int.one_mul]
  refine Prod.ext rfl (Prod.ext rfl ?_)
  show (f1.2.1 * f1.2.1 - d) / (4 * f1.1) = f1.2.2
  have := h.disc
  unfold disc at this
  rw [show f1.2.1 * f1.2.1 - d = 4 * f1.1 * f1.2.2 by omega]
  exact Int.mul_ediv_cancel_left _ (by have := h.a0; omega)
theorem prC_one' (h : Fo d f1) : prC d f1 (fstF d) = clF d f1 := by rw [prC_comm D h (fst_fo D)]; exact prC_one D h
end
def invF (f : Fm) : Fm := (f.1, -f.2.1, f.2.2)
theorem Fo.inv {d : Int} {f : Fm} (h : Fo d f) : Fo d (invF f) := by
  refine ⟨h.a0, ?_, ?_⟩
  · rw [← h.disc]; unfold Pv.disc invF
    simp only
    rw [Int.neg_mul_neg]
  · have := h.prim
    unfold Pv.prim invF at *
    simpa using this
theorem cl_one {d : Int} (D : Dd d) {f : Fm} (h : Fo d f) (h1 : f.1 = 1) : clF d f = fstF d := by
  refine clF_eq D ⟨fst_rf D.hi D.md, .of_iff fun z => ?_⟩
  unfold LF
  rw [h1, show (fstF d).1 = 1 from rfl]
  exact lat_mod (t := hF d (fstF d) - hF d f) (by omega) z
theorem prC_inv {d : Int} (D : Dd d) {f : Fm} (h : Fo d f) : prC d f (invF f) = fstF d := by
  have b : Bz f (invF f) f.1 1 1 0 f.2.1 1 0 1 0 := ⟨h.a0, by omega, by show f.1 = _; omega, by omega, by show -f.2.1 = _; omega, by omega⟩
  have hB : (-f.2.1 - ((invF f).2.1 + 2 * 1 * (1 * 0 * f.2.1 - 0 * (invF f).2.2))) % (2 * (1 * 1)) = 0 := by show (-f.2.1 - (-f.2.1 + _)) % _ = 0; simp
  obtain ⟨k1, _, k2⟩ := b.comp h h.inv D hB
  rw [← b.pr h h.inv D hB]
  exact cl_one D k1 rfl
end Pv
end

section
/-! PvIj: powers of classes, their order. -/
set_option autoImplicit false
namespace Pv
open PySem
/-! ### steps that go round -/
def itF {α : Type} (φ : α → α) : Nat → α → α
  | 0, x => x
  | n + 1, x => φ (itF φ n x)
theorem itF_add {α : Type} (φ : α → α) (i : Nat) : ∀ (j : Nat) (x : α), itF φ (j + i) x = itF φ j (itF φ i x)
  | 0, x => by rw [Nat.zero_add]; rfl
  | j + 1, x => by rw [Nat.succ_add]; show φ _ = φ _; rw [itF_add φ i j x]
theorem nodup_sub : ∀ {α : Type} [DecidableEq α] {l m : List α}, l.Nodup → (∀ x ∈ l, x ∈ m) → l.length ≤ m.length
  | α, _, [], m, _, _ => Nat.zero_le _
  | α, _, x :: l, m, nd, h => by
    have hx := h x List.mem_cons_self
    have nd' := List.nodup_cons.mp nd
    have := nodup_sub (l := l) (m := m.erase x) nd'.2 fun y hy => by
      have hne : y ≠ x := fun e => nd'.1 (e ▸ hy)
      exact (List.mem_erase_of_ne hne).mpr (h y (List.mem_cons_of_mem _ hy))
    rw [List.length_erase_of_mem hx] at this
    have : 0 < m.length := List.length_pos_of_mem hx
    rw [List.length_cons]
    omega
theorem len_split {α : Type} (p : α → Bool) : ∀ l : List α, l.length = (l.filter p).length + (l.filter fun x => !p x).length
  | [] => rfl
  | x :: l => by
    have := len_split p l
    cases h : p x <;> simp [List.filter_cons, h] <;> omega
theorem orbit_dvd {α : Type} [DecidableEq α] (φ : α → α) (n : Nat) (n0 : 0 < n) : ∀ (k : Nat) (xs : List α), xs.length ≤ k → xs.Nodup → (∀ x ∈ xs, φ x ∈ xs) → (∀ x ∈ xs, itF φ n x = x) →
    (∀ x ∈ xs, ∀ j, 0 < j → j < n → itF φ j x ≠ x) → n ∣ xs.length
  | k, [], _, _, _, _, _ => Nat.dvd_zero _
  | 0, x :: xs, hk, _, _, _, _ => by simp at hk
  | k + 1, x :: xs, hk, nd, h1, h2, h3 => by
    generalize hX : x :: xs = X at *
    have hx : x ∈ X := by rw [← hX]; exact List.mem_cons_self
    have mem : ∀ j, itF φ j x ∈ X := fun j => by
      induction j with
      | zero => exact hx
      | succ j ih => exact h1 _ ih
    let O := (List.range n).map fun j => itF φ j x
    have lO : O.length = n := by simp [O]
    have inj : ∀ i j, i < j → j < n → itF φ i x ≠ itF φ j x := fun i j hij hj e => by
      have e2 := congrArg (itF φ (n - j)) e
      rw [← itF_add, ← itF_add] at e2
      rw [show n - j + j = n by omega, h2 x hx] at e2
      exact h3 x hx (n - j + i) (by omega) (by omega) e2
    have ndO : O.Nodup := by
      refine List.pairwise_map.mpr ?_
      refine (List.pairwise_lt_range (n := n)).imp_of_mem fun {a b} ha hb hab => ?_
      exact inj a b hab (List.mem_range.mp hb)
    have subO : ∀ y ∈ O, y ∈ X := fun y hy => by
      obtain ⟨j, _, rfl⟩ := List.mem_map.mp hy
      exact mem j
    let ys := X.filter fun y => decide (y ∉ O)
    have perm : (X.filter fun y => decide (y ∈ O)).length = n := by
      rw [← lO]
      refine List.Perm.length_eq ?_
      refine (List.perm_ext_iff_of_nodup (nd.filter _) ndO).mpr fun y => ?_
      rw [List.mem_filter]
      exact ⟨fun h => of_decide_eq_true h.2, fun h => ⟨subO y h, decide_eq_true h⟩⟩
    have len : X.length = n + ys.length := by
      have := len_split (fun y => decide (y ∈ O)) X
      rw [perm] at this
      have e : ys = X.filter fun y => !decide (y ∈ O) := by
        show X.filter _ = _
        congr 1
        funext y
        simp
      rw [e]
      exact this
    have ih := orbit_dvd φ n n0 k ys (by omega) (nd.filter _) (fun y hy => by
      obtain ⟨hy1, hy2⟩ := List.mem_filter.mp hy
      have hy2 := of_decide_eq_true hy2
      refine List.mem_filter.mpr ⟨h1 y hy1, decide_eq_true fun hO => hy2 ?_⟩
      obtain ⟨j, hj, e⟩ := List.mem_map.mp hO
      have e2 := congrArg (itF φ (n - 1)) e
      have e3 : itF φ (n - 1) (φ y) = y := by
        have := itF_add φ 1 (n - 1) y
        rw [show n - 1 + 1 = n by omega, h2 y hy1] at this
        exact this.symm
      rw [e3, ← itF_add] at e2
      rw [← e2]
      by_cases z : j = 0
      · subst z
        exact List.mem_map.mpr ⟨n - 1, List.mem_range.mpr (by omega), by rw [Nat.add_zero]⟩
      · have hj := List.mem_range.mp hj
        refine List.mem_map.mpr ⟨j - 1, List.mem_range.mpr (by omega), ?_⟩
        rw [show n - 1 + j = (j - 1) + n by omega, itF_add, h2 x hx])
      (fun y hy => h2 y (List.mem_filter.mp hy).1) (fun y hy => h3 y (List.mem_filter.mp hy).1)
    rw [len]
    exact Nat.dvd_add (Nat.dvd_refl n) ih
/-! ### powers -/
noncomputable def pwF (d : Int) (f : Fm) : Nat → Fm
  | 0 => fstF d
  | n + 1 => prC d (pwF d f n) f
section
variable {d : Int} {f f' : Fm} (D : Dd d)
include D
theorem pw_rf (h : Fo d f) : ∀ n, Rf d (pwF d f n)
  | 0 => fst_rf D.hi D.md
  | n + 1 => prC_rf (pw_rf h n).fo h D
theorem pw_fo (h : Fo d f) (n : Nat) : Fo d (pwF d f n) := (pw_rf D h n).fo
theorem pw_one (h : Fo d f) : pwF d f 1 = clF d f := prC_one D h
theorem pw_add (h : Fo d f) (m : Nat) : ∀ n, pwF d f (m + n) = prC d (pwF d f m) (pwF d f n)
  | 0 => by
    show pwF d f m = prC d (pwF d f m) (fstF d)
    rw [prC_one' D (pw_fo D h m), clF_red D (pw_rf D h m)]
  | n + 1 => by
    show prC d (pwF d f (m + n)) f = prC d (pwF d f m) (prC d (pwF d f n) f)
    rw [pw_add h m n, prC_assoc D (pw_fo D h m) (pw_fo D h n) h]
theorem pw_cl (h : Fo d f) : ∀ n, pwF d (clF d f) n = pwF d f n
  | 0 => rfl
  | n + 1 => by
    show prC d (pwF d (clF d f) n) (clF d f) = prC d (pwF d f n) f
    rw [pw_cl h n, prC_clR D (pw_fo D h n) h]
theorem pw_sq (h : Fo d f) : ∀ n, pwF d (prC d f f) n = pwF d f (2 * n)
  | 0 => rfl
  | n + 1 => by
    show prC d (pwF d (prC d f f) n) (prC d f f) = pwF d f (2 * n + 2)
    rw [pw_sq h n, ← prC_assoc D (pw_fo D h _) h h]
    rfl
theorem prC_cancel (h : Fo d f) {a b : Fm} (ha : Rf d a) (hb : Rf d b) (e : prC d a f = prC d b f) : a = b := by
  have q : prC d (prC d a f) (invF f) = prC d (prC d b f) (invF f) := by rw [e]
  rw [prC_assoc D ha.fo h h.inv, prC_assoc D hb.fo h h.inv, prC_inv D h, prC_one' D ha.fo, prC_one' D hb.fo, clF_red D ha, clF_red D hb] at q
  exact q
theorem pw_cancel (h : Fo d f) : ∀ (i : Nat) {a b : Fm}, Rf d a → Rf d b → prC d a (pwF d f i) = prC d b (pwF d f i) → a = b := fun i a b ha hb e => prC_cancel D (pw_fo D h i) ha hb e
/-- some power is the first class -/
theorem pw_ex (h : Fo d f) : ∃ n, 0 < n ∧ n ≤ (PL d).length ∧ pwF d f n = fstF d := by
  have key : ∃ i j, i < j ∧ j ≤ (PL d).length ∧ pwF d f i = pwF d f j := by
    refine Classical.byContradiction fun no => ?_
    have nd : ((List.range ((PL d).length + 1)).map (pwF d f)).Nodup := by
      refine List.pairwise_map.mpr ?_
      refine (List.pairwise_lt_range (n := (PL d).length + 1)).imp_of_mem fun {a b} ha hb hab e => no ⟨a, b, hab, ?_, e⟩
      have := List.mem_range.mp hb
      omega
    have := nodup_sub nd (m := PL d) fun x hx => by
      obtain ⟨i, _, rfl⟩ := List.mem_map.mp hx
      exact (mem_PL D.lo).mpr (pw_rf D h i)
    rw [List.length_map, List.length_range] at this
    omega
  obtain ⟨i, j, hij, hj, e⟩ := key
  refine ⟨j - i, by omega, by omega, ?_⟩
  refine pw_cancel D h i (pw_rf D h _) (fst_rf D.hi D.md) ?_
  rw [← pw_add D h, show j - i + i = j by omega, ← e, prC_one D (pw_fo D h i), clF_red D (pw_rf D h i)]
end
/-- the order -/
def IsOrd (d : Int) (f : Fm) (n : Nat) : Prop := 0 < n ∧ pwF d f n = fstF d ∧ ∀ k, 0 < k → k < n → pwF d f k ≠ fstF d
theorem ord_ex {d : Int} {f : Fm} (D : Dd d) (h : Fo d f) : ∃ n, IsOrd d f n ∧ n ≤ (PL d).length := by
  obtain ⟨n, h0, h1, h2⟩ := pw_ex D h
  have : ∀ n, 0 < n → pwF d f n = fstF d → ∃ m, IsOrd d f m ∧ m ≤ n := fun n => by
    induction n using Nat.strongRecOn with
    | ind n ih =>
      intro n0 e
      by_cases q : ∃ k, 0 < k ∧ k < n ∧ pwF d f k = fstF d
      · obtain ⟨k, k0, kn, ek⟩ := q
        obtain ⟨m, hm, l⟩ := ih k kn k0 ek
        exact ⟨m, hm, by omega⟩
      · exact ⟨n, ⟨n0, e, fun k k0 kn ek => q ⟨k, k0, kn, ek⟩⟩, Nat.le_refl _⟩
  obtain ⟨m, hm, l⟩ := this n h0 h2
  exact ⟨m, hm, by omega⟩
theorem ord_dvd {d : Int} {f : Fm} {n : Nat} (D : Dd d) (h : Fo d f) (o : IsOrd d f n) : n ∣ (PL d).length := by
  have it : ∀ j x, Rf d x → itF (fun y => prC d y f) j x = prC d x (pwF d f j) := fun j x hx => by
    induction j with
    | zero => show x = prC d x (fstF d); rw [prC_one' D hx.fo, clF_red D hx]
    | succ j ih =>
      show prC d (itF _ j x) f = prC d x (prC d (pwF d f j) f)
      rw [ih, prC_assoc D hx.fo (pw_fo D h j) h]
  refine orbit_dvd (fun y => prC d y f) n o.1 _ (PL d) (Nat.le_refl _) PL_sorted.nodup (fun x hx => ?_) (fun x hx => ?_) (fun x hx j j0 jn e => ?_)
  · exact (mem_PL D.lo).mpr (prC_rf ((mem_PL D.lo).mp hx).fo h D)
  · have hx := (mem_PL D.lo).mp hx
    rw [it n x hx, o.2.1, prC_one' D hx.fo, clF_red D hx]
  · have hx := (mem_PL D.lo).mp hx
    rw [it j x hx] at e
    refine o.2.2 j j0 jn (prC_cancel D hx.fo (pw_rf D h j) (fst_rf D.hi D.md) ?_)
    rw [prC_comm D (pw_fo D h j) hx.fo, e, prC_one D hx.fo, clF_red D hx]
theorem pw_mod {d : Int} {f : Fm} {n : Nat} (D : Dd d) (h : Fo d f) (o : IsOrd d f n) (k : Nat) : pwF d f k = pwF d f (k % n) := by
  have mulz : ∀ j, pwF d f (n * j) = fstF d := fun j => by
    induction j with
    | zero => rfl
    | succ j ih => rw [Nat.mul_succ, pw_add D h, ih, o.2.1, prC_one D (fst_fo D), clF_red D (fst_rf D.hi D.md)]
  have e : k = n * (k / n) + k % n := (Nat.div_add_mod k n).symm
  have : pwF d f k = pwF d f (n * (k / n) + k % n) := congrArg _ e
  rw [this, pw_add D h, mulz, prC_one D (pw_fo D h _), clF_red D (pw_rf D h _)]
/-- powers by any integer -/
noncomputable def zpF (d : Int) (f : Fm) (e : Int) : Fm := if 0 ≤ e then pwF d f e.toNat else pwF d (invF f) (-e).toNat
theorem pw_inv {d : Int} {f : Fm} (D : Dd d) (h : Fo d f) : ∀ k, prC d (pwF d (invF f) k) (pwF d f k) = fstF d
  | 0 => by show prC d (fstF d) (fstF d) = _; rw [prC_one D (fst_fo D), clF_red D (fst_rf D.hi D.md)]
  | k + 1 => by
    show prC d (prC d (pwF d (invF f) k) (invF f)) (prC d (pwF d f k) f) = _
    have a := pw_fo D h.inv k
    have b := pw_fo D h k
    rw [prC_assoc D a h.inv (prC_rf b h D).fo, prC_comm D b h, ← prC_assoc D h.inv h b, prC_comm D h.inv h, prC_inv D h, prC_one D b, clF_red D (pw_rf D h k)]
    exact pw_inv D h k
theorem zp_mod {d : Int} {f : Fm} {n : Nat} (D : Dd d) (h : Fo d f) (o : IsOrd d f n) (e : Int) : zpF d f e = pwF d f (e % n).toNat := by
  have n0 := o.1
  unfold zpF
  split
  · rename_i e0
    rw [pw_mod D h o]
    congr 1
    have : ((e.toNat % n : Nat) : Int) = e % n := by rw [Int.natCast_emod]; congr 1; omega
    omega
  · rename_i e0
    refine pw_cancel D h (-e).toNat (pw_rf D h.inv _) (pw_rf D h _) ?_
    rw [pw_inv D h, ← pw_add D h, pw_mod D h o]
    have r0 := Int.emod_nonneg e (show (n : Int) ≠ 0 by omega)
    have ee := Int.emod_add_mul_ediv e n
    have : ((e % n).toNat + (-e).toNat) % n = 0 := by
      have q : (((e % n).toNat + (-e).toNat : Nat) : Int) = n * (-(e / n)) := by
        rw [Int.natCast_add, show (((e % n).toNat : Nat) : Int) = e % n by omega, show (((-e).toNat : Nat) : Int) = -e by omega, Int.mul_neg]
        omega
      have q2 := congrArg (· % (n : Int)) q
      simp only [Int.mul_emod_right] at q2
      rw [← Int.natCast_emod] at q2
      omega
    rw [this]
    rfl
/-! ### values of a product -/
theorem pr_way {d : Int} {f1 f2 : Fm} {n1 n2 : Int} (D : Dd d) (h1 : Fo d f1) (h2 : Fo d f2) (p1 : 0 < n1) (p2 : 0 < n2) (w1 : ∃ p, IsWay f1 n1 p) (w2 : ∃ p, IsWay f2 n2 p) (hg : Int.gcd n1 n2 = 1) : ∃ p, IsWay (prC d f1 f2) (n1 * n2) p := by
  obtain ⟨b1, _, _, e1, c1, m1, dm1, l1⟩ := (begins_iff h1.prim h1.disc p1).mp w1
  obtain ⟨b2, _, _, e2, c2, m2, dm2, l2⟩ := (begins_iff h2.prim h2.disc p2).mp w2
  have fo : ∀ {n b : Int}, 0 < n → (b * b - d) % (4 * n) = 0 → Int.gcd (Int.gcd n b) ((b * b - d) / (4 * n)) = 1 → Fo d (ofN d n b) := fun {n b} n0 e c => by
    refine ⟨n0, ?_, c⟩
    have := Int.mul_ediv_cancel' (Int.dvd_of_emod_eq_zero e)
    unfold disc ofN
    simp only
    omega
  have k1 := fo p1 e1 c1
  have k2 := fo p2 e2 c2
  obtain ⟨x, y, exy⟩ := bezI n1 n2
  rw [hg] at exy
  have pa1 := par_b k1.disc D.md
  have pa2 := par_b k2.disc D.md
  have b : Bz (ofN d n1 b1) (ofN d n2 b2) 1 n1 n2 (((ofN d n1 b1).2.1 + (ofN d n2 b2).2.1) / 2) (((ofN d n1 b1).2.1 - (ofN d n2 b2).2.1) / 2) x y 1 0 :=
    ⟨by omega, by show n1 = _; omega, by show n2 = _; omega, by omega, by omega, by omega⟩
  have key := b.comp k1 k2 D (B := (ofN d n2 b2).2.1 + 2 * n2 * (1 * y * (((ofN d n1 b1).2.1 - (ofN d n2 b2).2.1) / 2) - 0 * (ofN d n2 b2).2.2)) (by rw [Int.sub_self]; rfl)
  have keyp := b.pr k1 k2 D (B := (ofN d n2 b2).2.1 + 2 * n2 * (1 * y * (((ofN d n1 b1).2.1 - (ofN d n2 b2).2.1) / 2) - 0 * (ofN d n2 b2).2.2)) (by rw [Int.sub_self]; rfl)
  generalize (ofN d n2 b2).2.1 + 2 * n2 * (1 * y * (((ofN d n1 b1).2.1 - (ofN d n2 b2).2.1) / 2) - 0 * (ofN d n2 b2).2.2) = B at *
  have e12 : prC d f1 f2 = clF d (ofN d (n1 * n2) B) := by
    rw [keyp]
    refine prC_sim D h1 h2 k1 k2 ?_ ?_
    · rw [l1]; exact k1.led_sim D dm1
    · rw [l2]; exact k2.led_sim D dm2
  obtain ⟨m, dm, r⟩ := red_ex (far (ofN d (n1 * n2) B) + 1) _ (by omega) key.1.a0 (by rw [key.1.disc]; exact D.hi)
  rw [e12, clF_led key.1 D dm r]
  -- the value at the first column of the inverse
  refine ⟨((invM m).1, (invM m).2.2.1), ?_, ?_⟩
  · have v := val_led (ledF (ofN d (n1 * n2) B) m) (invM m) 1 0
    rw [led_mul, mul_inv dm, led_one] at v
    have v1 : val (ofN d (n1 * n2) B) 1 0 = n1 * n2 := by simp [val, ofN]
    rw [v1, Int.mul_one, Int.mul_zero, Int.add_zero, Int.mul_one, Int.mul_zero, Int.add_zero] at v
    exact v.symm
  · have := dm
    rw [← det_inv] at this
    obtain ⟨g, h, i, j⟩ := m
    exact cop_of (a := j) (b := -h) (c := -i) (d := g) (by simp only [det, invM] at this ⊢; exact this)
end Pv
end

section
/-! PvIk: Bezout's numbers by steps; classes turned about. -/
set_option autoImplicit false
namespace Pv
open PySem
theorem fdv {a b : Int} (hb : b ≠ 0) : (0 < b ∧ 0 ≤ a - a.fdiv b * b ∧ a - a.fdiv b * b < b) ∨ (b < 0 ∧ a - a.fdiv b * b ≤ 0 ∧ b < a - a.fdiv b * b) := by
  have e := Int.fmod_add_mul_fdiv a b
  rw [Int.mul_comm] at e
  have r : a - a.fdiv b * b = a.fmod b := by omega
  rw [r]
  rcases Int.lt_or_gt_of_ne hb with h | h
  · right
    have n : (-a).fmod (-b) = -(a.fmod b) := Int.neg_fmod_neg a b
    have h1 := Int.fmod_nonneg_of_pos (-a) (show 0 < -b by omega)
    have h2 := Int.fmod_lt_of_pos (-a) (show 0 < -b by omega)
    exact ⟨h, by omega, by omega⟩
  · left
    exact ⟨h, Int.fmod_nonneg_of_pos a h, Int.fmod_lt_of_pos a h⟩
theorem fdv_sz {a b : Int} {k : Nat} (hb : b ≠ 0) (h : Sz k a) : Sz k (a.fdiv b) := by
  have key : (a.fdiv b).natAbs ≤ a.natAbs := by
    rcases Nat.lt_or_ge a.natAbs (a.fdiv b).natAbs with q | q
    · exfalso
      have m : (a.fdiv b * b).natAbs = (a.fdiv b).natAbs * b.natAbs := Int.natAbs_mul ..
      have l : (a.natAbs + 1) * b.natAbs ≤ (a.fdiv b).natAbs * b.natAbs := Nat.mul_le_mul_right _ q
      rw [Nat.add_mul, Nat.one_mul] at l
      have l2 : a.natAbs * 1 ≤ a.natAbs * b.natAbs := Nat.mul_le_mul_left _ (by omega)
      have := fdv (a := a) hb
      generalize a.fdiv b * b = P at *
      omega
    · exact q
  exact Nat.lt_of_le_of_lt key h
/-- a step of Bezout's loop -/
structure BzS (a b : Int) (k m j : Nat) (one other x y nx ny : Int) : Prop where
  e1 : x * a + y * b = one
  e2 : nx * a + ny * b = other
  gc : Int.gcd one other = Int.gcd a b
  s1 : Sz k one
  s2 : Sz k other
  sx : Sz ((k + 2) * j + 2) x
  sy : Sz ((k + 2) * j + 2) y
  snx : Sz ((k + 2) * j + 2) nx
  sny : Sz ((k + 2) * j + 2) ny
  ms : (euOk m one.natAbs other.natAbs ∧ (0 ≤ one ∧ 0 ≤ other ∨ one ≤ 0 ∧ other ≤ 0)) ∨ m = 2 * k + 1
  mj : m + j ≤ 2 * k + 1
theorem BzS.start {a b : Int} {k : Nat} (sa : Sz k a) (sb : Sz k b) : BzS a b k (2 * k + 1) 0 a b 1 0 0 1 := by
  have s0 : Sz 2 0 := by unfold Sz; decide
  have s1 : Sz 2 1 := by unfold Sz; decide
  exact ⟨by omega, by omega, rfl, sa, sb, s1, s0, s0, s1, .inr rfl, by omega⟩
theorem BzS.step {a b : Int} {k m j : Nat} {one other x y nx ny : Int} (h : BzS a b k m j one other x y nx ny) (ho : other ≠ 0) :
    ∃ m', m' < m ∧ BzS a b k m' (j + 1) other (one - one.fdiv other * other) nx ny (x - one.fdiv other * nx) (y - one.fdiv other * ny) := by
  have sq := fdv_sz ho h.s1
  have hf := fdv (a := one) ho
  have grow : ∀ {u v : Int}, Sz ((k + 2) * j + 2) u → Sz ((k + 2) * j + 2) v → Sz ((k + 2) * (j + 1) + 2) (u - one.fdiv other * v) := fun su sv => by
    refine (su.sub (sq.mul sv)).mono ?_
    rw [Nat.mul_succ]
    omega
  have r1 : Sz k (one - one.fdiv other * other) := by
    have := h.s2
    unfold Sz at *
    omega
  have gc : Int.gcd other (one - one.fdiv other * other) = Int.gcd a b := by
    rw [← h.gc, Int.gcd_comm one other, show one - one.fdiv other * other = one + other * (-one.fdiv other) by grind, Int.gcd_add_mul_left_right]
  have e2 : (x - one.fdiv other * nx) * a + (y - one.fdiv other * ny) * b = one - one.fdiv other * other := by
    have := h.e1; have := h.e2
    grind
  have nat : ((one - one.fdiv other * other).natAbs : Int) ≤ other.natAbs := by omega
  have fin : ∀ m', m' < m → euOk m' other.natAbs (one - one.fdiv other * other).natAbs → BzS a b k m' (j + 1) other (one - one.fdiv other * other) nx ny (x - one.fdiv other * nx) (y - one.fdiv other * ny) := fun m' hm he =>
    ⟨h.e2, e2, gc, h.s2, r1, h.snx.mono (by rw [Nat.mul_succ]; omega), h.sny.mono (by rw [Nat.mul_succ]; omega), grow h.sx h.snx, grow h.sy h.sny, .inl ⟨he, by omega⟩, by have := h.mj; omega⟩
  rcases h.ms with ⟨he, hs⟩ | he
  · obtain ⟨m', rfl, h'⟩ := he.next (by omega)
    refine ⟨m', by omega, fin m' (by omega) ?_⟩
    have em : ((one - one.fdiv other * other).natAbs : Int) = (one.natAbs : Int) % (other.natAbs : Int) := by
      have e := Int.fmod_add_mul_fdiv one other
      rw [Int.mul_comm other] at e
      have r : one - one.fdiv other * other = one.fmod other := by omega
      rw [r]
      rcases hs with ⟨p1, p2⟩ | ⟨p1, p2⟩
      · rw [Int.fmod_eq_emod_of_nonneg one p2, show (one.natAbs : Int) = one by omega, show (other.natAbs : Int) = other by omega]
        have := Int.emod_nonneg one ho
        omega
      · have n : (-one).fmod (-other) = -(one.fmod other) := Int.neg_fmod_neg one other
        rw [Int.fmod_eq_emod_of_nonneg (-one) (by omega)] at n
        rw [show (one.natAbs : Int) = -one by omega, show (other.natAbs : Int) = -other by omega, n]
        have := Int.emod_nonneg (-one) (show -other ≠ 0 by omega)
        omega
    rw [em]
    exact h'
  · refine ⟨2 * k, by omega, fin (2 * k) (by omega) ?_⟩
    have s2 : Sz k (other.natAbs : Int) := by have := h.s2; unfold Sz at *; omega
    have s3 : Sz k ((one - one.fdiv other * other).natAbs : Int) := by unfold Sz at *; omega
    have := euOk.start (by omega) (by omega) s2 s3 nat
    rwa [show k + k = 2 * k by omega] at this
section
variable {d : Int} {f f1 f2 : Fm} (D : Dd d)
include D
theorem prC_cancelL (h : Fo d f) (h1 : Fo d f1) (h2 : Fo d f2) (e : prC d f f1 = prC d f f2) : clF d f1 = clF d f2 := by
  refine prC_cancel D h (clF_rf h1 D) (clF_rf h2 D) ?_
  rw [prC_clL D h1 h, prC_clL D h2 h, prC_comm D h1 h, prC_comm D h2 h, e]
theorem cl_inv (h : Fo d f) : clF d (invF (clF d f)) = clF d (invF f) := by
  have c := (clF_rf h D).fo
  refine prC_cancelL D h c.inv h.inv ?_
  rw [prC_inv D h, ← prC_clL D h c.inv, prC_inv D c]
/-- one turn of powers by squaring -/
theorem pw_turn {R B : Fm} (hR : Fo d R) (hB : Fo d B) (l : Nat) : prC d (if l % 2 = 1 then prC d R B else R) (pwF d (prC d B B) (l / 2)) = prC d R (pwF d B l) := by
  have p := pw_fo D hB (2 * (l / 2))
  rw [pw_sq D hB]
  split
  · rename_i h
    have e : pwF d B l = prC d B (pwF d B (2 * (l / 2))) := by
      have q : l = 1 + 2 * (l / 2) := by omega
      have : pwF d B l = pwF d B (1 + 2 * (l / 2)) := congrArg _ q
      rw [this, pw_add D hB, pw_one D hB, prC_clL D hB p]
    rw [e, prC_assoc D hR hB p]
  · rename_i h
    have q : 2 * (l / 2) = l := by omega
    rw [q]
end
end Pv
end

section
/-! PvRd: another reduction, turn by turn: how many turns; the sizes of what leads to a reduced form. -/
set_option autoImplicit false
namespace Pv
open PySem
def mu2 (d a : Int) : Nat := if a * a ≤ -d then a.toNat else 142 + a.natAbs.log2
theorem mu2_lt {d a c : Int} (h1 : -20000 ≤ d) (a0 : 0 < a) (c0 : 0 < c) (h : c < a) (hq : -d < a * a → 2 * c ≤ a) : mu2 d c < mu2 d a := by
  have cc : c * c ≤ a * a := Int.mul_le_mul (by omega) (by omega) (by omega) (by omega)
  unfold mu2
  by_cases w : a * a ≤ -d
  · rw [if_pos w, if_pos (by omega)]; omega
  · rw [if_neg w]
    have q := hq (by omega)
    have la : 1 ≤ a.natAbs.log2 := (Nat.le_log2 (by omega)).mpr (by omega)
    by_cases w2 : c * c ≤ -d
    · rw [if_pos w2]
      have : c < 142 := sq_lt (by omega) (by omega)
      omega
    · rw [if_neg w2]
      have l1 : 2 ^ c.natAbs.log2 ≤ c.natAbs := Nat.log2_self_le (by omega)
      have : c.natAbs.log2 + 1 ≤ a.natAbs.log2 := (Nat.le_log2 (by omega)).mpr (by rw [Nat.pow_succ]; omega)
      omega
theorem mu2_pos {d a : Int} (a0 : 0 < a) : 1 ≤ mu2 d a := by
  unfold mu2
  split <;> omega
theorem mu2_le {d a : Int} {k : Nat} (h1 : -20000 ≤ d) (a0 : 0 < a) (s : Sz k a) : mu2 d a ≤ 142 + k := by
  have := s.log
  unfold mu2
  split
  · rename_i w
    have : a < 142 := sq_lt (by omega) (by omega)
    omega
  · omega
def shM (f : Fm) : Mx := (1, shiftF f, 0, 1)
def shF (f : Fm) : Fm := ledF f (shM f)
def swM : Mx := (0, -1, 1, 0)
def stopF (f : Fm) : Prop := f.1 < f.2.2 ∨ (f.1 = f.2.2 ∧ 0 ≤ f.2.1)
instance (f : Fm) : Decidable (stopF f) := by unfold stopF; infer_instance
def T2 (f : Fm) : Nat := if stopF (shF f) then 0 else if (shF f).2.2 < f.1 then 1 + mu2 (disc f) f.1 else 1
theorem sh_eq (f : Fm) : shF f = (f.1, f.2.1 + 2 * f.1 * shiftF f, f.1 * shiftF f * shiftF f + f.2.1 * shiftF f + f.2.2) := by
  obtain ⟨a, b, c⟩ := f
  simp only [shF, shM, ledF, Prod.mk.injEq]
  refine ⟨?_, ?_, ?_⟩ <;> grind
theorem sh_lo {f : Fm} (a0 : 0 < f.1) : -f.1 < (shF f).2.1 ∧ (shF f).2.1 ≤ f.1 := by
  rw [sh_eq]
  unfold shiftF
  have q := Int.emod_add_mul_ediv (f.1 - f.2.1) (2 * f.1)
  have r0 := Int.emod_nonneg (f.1 - f.2.1) (show 2 * f.1 ≠ 0 by omega)
  have r1 := Int.emod_lt_of_pos (f.1 - f.2.1) (show 0 < 2 * f.1 by omega)
  simp only
  omega
theorem sh_red {f : Fm} (a0 : 0 < f.1) (h : stopF (shF f)) : Red (shF f) := by
  have h1 := sh_lo a0
  have e : (shF f).1 = f.1 := by rw [sh_eq]
  unfold stopF at h
  exact ⟨by omega, by omega, by omega, by omega, fun q => by omega⟩
theorem sw_eq (f : Fm) : ledF f swM = (f.2.2, -f.2.1, f.1) := by
  obtain ⟨a, b, c⟩ := f
  simp only [ledF, swM, Prod.mk.injEq]
  refine ⟨?_, ?_, ?_⟩ <;> grind
theorem sh_step {f : Fm} (a0 : 0 < f.1) (h : ¬ stopF (shF f)) : stepM (shF f) = some swM := by
  have h1 := sh_lo a0
  have e : (shF f).1 = f.1 := by rw [sh_eq]
  have z := (shift_zero (f := shF f) (by omega)).mpr (by omega)
  unfold stepM
  rw [if_neg (by simpa using z), if_pos]
  · rfl
  · unfold stopF at h
    omega
theorem t2_next {f : Fm} (g : GoodF f) (h : ¬ stopF (shF f)) : T2 (ledF (shF f) swM) < T2 f := by
  have a0 := g.a0; have d1 := g.d1
  have h1 := sh_lo a0
  have dd : disc (shF f) = disc f := by unfold shF; rw [disc_led]; simp [det, shM]
  have dn : disc (ledF (shF f) swM) = disc f := by rw [disc_led, dd]; simp [det, swM]
  have gs : GoodF (shF f) := ⟨by rw [sh_eq]; exact a0, by rw [dd]; exact g.d1, by rw [dd]; exact g.d2⟩
  have c0 := gs.c0
  have e : (shF f).1 = f.1 := by rw [sh_eq]
  have en := sw_eq (shF f)
  have hstop := h
  unfold stopF at h
  have tf : T2 f = if (shF f).2.2 < f.1 then 1 + mu2 (disc f) f.1 else 1 := by unfold T2; rw [if_neg hstop]
  rw [tf]
  have n1 : (ledF (shF f) swM).1 = (shF f).2.2 := by rw [en]
  by_cases hc : (shF f).2.2 < f.1
  · rw [if_pos hc]
    have hm : mu2 (disc f) (shF f).2.2 < mu2 (disc f) f.1 := by
      refine mu2_lt d1 a0 c0 hc fun q => ?_
      rw [← dd] at q
      unfold disc at q
      rw [e] at q
      generalize (shF f).2.1 = b at *
      generalize (shF f).2.2 = c at *
      generalize f.1 = a at *
      have s1 : 0 ≤ (a - b) * (a + b) := Int.mul_nonneg (by omega) (by omega)
      have s2 : (a - b) * (a + b) = a * a - b * b := by grind
      have s3 : 4 * a * c = 2 * (a * (2 * c)) := by grind
      by_cases w : 2 * c ≤ a
      · exact w
      · have := mulL (show a ≤ 2 * c by omega) (show 0 ≤ a by omega)
        omega
    have p := mu2_pos (d := disc f) a0
    unfold T2
    rw [dn, n1]
    split
    · omega
    · split <;> omega
  · rw [if_neg hc]
    have he : f.1 = (shF f).2.2 ∧ (shF f).2.1 < 0 := by omega
    have z : shiftF (ledF (shF f) swM) = 0 := by
      refine (shift_zero ?_).mpr ?_
      · rw [en]; exact c0
      · rw [en]; simp only; omega
    have s2 : shF (ledF (shF f) swM) = ledF (shF f) swM := by
      generalize ledF (shF f) swM = n at z
      unfold shF
      rw [show shM n = oneM by unfold shM; rw [z]; rfl, led_one]
    unfold T2
    rw [s2, if_pos]
    · omega
    · unfold stopF
      rw [en]
      simp only
      omega
theorem t2_le {f : Fm} {k : Nat} (g : GoodF f) (s : Sz k f.1) : T2 f ≤ 143 + k := by
  have := mu2_le g.d1 g.a0 s
  unfold T2
  split
  · omega
  · split <;> omega
/-- the way with a turn's first step, that may change nothing -/
theorem Way.shift {f0 f : Fm} {m : Mx} (h : Way f0 f m) (s0 : SzK k0 f0) : Way f0 (shF f) (mulM m (shM f)) ∧ SzM kb (shM f) := by
  by_cases z : shiftF f = 0
  · have e : shM f = oneM := by unfold shM; rw [z]; rfl
    have sM : SzM kb oneM := by
      have : SzM 1 oneM := ⟨by unfold Sz oneM; decide, by unfold Sz oneM; decide, by unfold Sz oneM; decide, by unfold Sz oneM; decide⟩
      exact this.mono (by unfold kb; omega)
    unfold shF
    rw [e, led_one, mul_one']
    exact ⟨h, sM⟩
  · have e : stepM f = some (shM f) := by unfold stepM; rw [if_pos z]; rfl
    obtain ⟨w, _, sn⟩ := h.next s0 e
    exact ⟨w, sn⟩
theorem Way.swap {f0 f : Fm} {m : Mx} (h : Way f0 f m) (s0 : SzK k0 f0) (hs : ¬ stopF (shF f)) : Way f0 (ledF (shF f) swM) (mulM (mulM m (shM f)) swM) := by
  obtain ⟨w, _⟩ := h.shift s0
  exact (w.next s0 (sh_step h.good.a0 hs)).1
/-- what leads to a small form is small -/
theorem sz_mat {f f' : Fm} {m : Mx} {k l : Nat} (g : GoodF f) (d : det m = 1) (e : f' = ledF f m) (s : SzK k f) (s' : SzK l f') : SzM (k + l + k + 6) m := by
  have g' : GoodF f' := by rw [e]; exact led_good g d
  have v1 : val f m.1 m.2.2.1 = f'.1 := by rw [e]; rfl
  have v2 : val f m.2.1 m.2.2.2 = f'.2.2 := by rw [e]; rfl
  have a0 := g'.a0
  have c0 := g'.c0
  obtain ⟨p1, p2⟩ := val_bound g s (x := m.1) (y := m.2.2.1) (by rw [v1]; exact s'.a) (by omega)
  obtain ⟨p3, p4⟩ := val_bound g s (x := m.2.1) (y := m.2.2.2) (by rw [v2]; exact s'.c) (by omega)
  exact ⟨p1, p3, p2, p4⟩
instance (f : Fm) : Decidable (Red f) := decidable_of_iff (0 < f.1 ∧ -f.1 < f.2.1 ∧ f.2.1 ≤ f.1 ∧ f.1 ≤ f.2.2 ∧ (f.1 = f.2.2 → 0 ≤ f.2.1)) ⟨fun ⟨a, b, c, d, e⟩ => ⟨a, b, c, d, e⟩, fun ⟨a, b, c, d, e⟩ => ⟨a, b, c, d, e⟩⟩
/-! ### what may be held right: values of many kinds -/
def mxV : D → Option Mx
  | .tuple [.int g, .int h, .int i, .int j] => if g * j - h * i = 1 then some (g, h, i, j) else none
  | _ => none
theorem mxV_some {v : D} {m : Mx} (h : mxV v = some m) : v = mD m ∧ det m = 1 := by
  unfold mxV at h
  split at h
  · split at h
    · cases h; exact ⟨rfl, by assumption⟩
    · cases h
  · cases h
theorem mxV_mD {m : Mx} (h : det m = 1) : mxV (mD m) = some m := by
  obtain ⟨g, h', i, j⟩ := m
  unfold det at h
  show (if g * j - h' * i = 1 then some (g, h', i, j) else none) = _
  rw [if_pos h]
def isMx (v : D) : Bool := (mxV v).isSome
def heldB (f h : Fm) (t : D) : Bool := match t with
  | .tuple [.str s, v] => decide (s = "same") && (match mxV v with | some m => decide (ledF f m = h) | none => false)
  | .tuple [.str s, v, w] => decide (s = "apart") && (match mxV v, mxV w with | some m, some n => decide (Red (ledF f m)) && (decide (Red (ledF h n)) && !decide (ledF f m = ledF h n)) | _, _ => false)
  | _ => false
structure FitM (v : D) : Prop where
  nd : isDk v = false
  len : ∀ xs, v = .tuple xs → xs.length ≤ 10
  it : ∀ xs, v = .tuple xs → ∀ x ∈ xs, isDk x = false
  sz : ∀ xs, v = .tuple xs → ∀ i : Int, PyData.int i ∈ xs → Sz 700 i
structure FitT (t : D) : Prop where
  nd : isDk t = false
  len : ∀ xs, t = .tuple xs → xs.length ≤ 10
  it : ∀ xs, t = .tuple xs → ∀ x ∈ xs, FitM x
  hd : ∀ x xs, t = .tuple (x :: xs) → shp x = true
theorem FitM.mx {v : D} {m : Mx} (h : FitM v) (e : mxV v = some m) : SzM 700 m := by
  obtain ⟨rfl, _⟩ := mxV_some e
  have := h.sz _ rfl
  exact ⟨this _ (by simp), this _ (by simp), this _ (by simp), this _ (by simp)⟩
theorem FitM.flat {v : D} (h : isDk v = false) (n : ∀ xs, v ≠ .tuple xs) : FitM v := ⟨h, fun xs e => absurd e (n xs), fun xs e => absurd e (n xs), fun xs e => absurd e (n xs)⟩
theorem FitM.of {m : Mx} {k : Nat} (h : SzM k m) (hk : k ≤ 700) : FitM (mD m) := by
  refine ⟨rfl, fun xs e => ?_, fun xs e => ?_, fun xs e => ?_⟩
  · cases e; simp
  · cases e
    intro x hx
    simp only [List.mem_cons, List.not_mem_nil, or_false] at hx
    rcases hx with rfl | rfl | rfl | rfl <;> rfl
  · cases e
    intro i hx
    simp only [List.mem_cons, List.not_mem_nil, or_false, PyData.int.injEq] at hx
    rcases hx with rfl | rfl | rfl | rfl
    · exact h.g.mono hk
    · exact h.h.mono hk
    · exact h.i.mono hk
    · exact h.j.mono hk
end Pv
end

section
/-! PvX: decks, by steps. -/
set_option autoImplicit false
namespace Pv
open PySem
section
variable {Φ : Fns} {fu : Nat} {σ : Sl} {g : G} {Q : D → G → Prop} {a b c e : Ex} {as : Exs}
@[simp] theorem Ok_dkGet {t : Bool} : Ok (ev Φ (.dkGet t a) σ g) Q = Ok (ev Φ a σ g) fun x g => ∃ z, dkGetV t x g = some z ∧ Q z g := by
  conv => lhs; unfold ev
  simp only [Ok_bind, Ok_lift]
@[simp] theorem Ok_dkHas : Ok (ev Φ (.dkHas a) σ g) Q = Ok (ev Φ a σ g) fun x g => ∃ z, dkHasV x g = some z ∧ Q z g := by
  conv => lhs; unfold ev
  simp only [Ok_bind, Ok_lift]
@[simp] theorem Ok_dkPop : Ok (ev Φ (.dkPop a) σ g) Q = Ok (ev Φ a σ g) fun x g => Ok (dkPopV x g) Q := by
  conv => lhs; unfold ev
  simp only [Ok_bind]
@[simp] theorem Ok_dkPush : Ok (ev Φ (.dkPush a e) σ g) Q = Ok (ev Φ a σ g) fun x g => ∃ st, g = some st ∧ Ok (ev Φ e σ g) fun v g => Ok (dkPushV x v g) Q := by
  conv => lhs; unfold ev
  simp only [Ok_bind]
  congr; funext x g
  cases g <;> simp
@[simp] theorem Ok_dkNew : Ok (ev Φ (.dkNew a b c) σ g) Q = Ok (ev Φ a σ g) fun x g => Ok (ev Φ b σ g) fun y g => Ok (ev Φ c σ g) fun z g => Ok (dkNewV x y z g) Q := by
  conv => lhs; unfold ev
  simp only [Ok_bind]
@[simp] theorem Ok_dkNew2 : Ok (ev Φ (.dkNew2 a b) σ g) Q = Ok (ev Φ a σ g) fun x g => Ok (ev Φ b σ g) fun y g => Ok (dkNewV x y (.int 0) g) Q := by
  conv => lhs; unfold ev
  simp only [Ok_bind]
@[simp] theorem Ok_scr {ns : List Int} {n : Nat} : Ok (ev Φ (.scr a ns n) σ g) Q = Ok (ev Φ a σ g) fun x g => isTok 1 x = true ∧ Q (.list ((ns.take n).map .int)) g := by
  conv => lhs; unfold ev
  simp only [Ok_bind]
  congr; funext x g
  by_cases h : isTok 1 x = true <;> simp [h]
@[simp] theorem Ok_dkSet {t : Bool} {Q : Fl → G → Prop} : Ok (Pv.run Φ fu (.dkSet t a e) σ g) Q = Ok (ev Φ e σ g) fun v g => Ok (ev Φ a σ g) fun x g => ∃ g', dkSetV t x v g = some g' ∧ Q (.nx σ) g' := by
  conv => lhs; unfold Pv.run
  simp only [Ok_bind, Ok_lift, Ok_ok]
end
section
variable {st : Dk} {n : Int} {Q : D → G → Prop}
@[simp] theorem dkGet_t : dkGetV true (tokD 0) (some st) = some (.int st.turn) := rfl
@[simp] theorem dkGet_f : dkGetV false (tokD 0) (some st) = some (.int st.mixed) := rfl
@[simp] theorem dkHas_e : dkHasV (tokD 0) (some st) = some (.bool (!st.cells.isEmpty)) := rfl
@[simp] theorem dkSet_t {c : Int} : dkSetV true (tokD 0) (.int c) (some st) = some (some { st with turn := c }) := rfl
@[simp] theorem dkSet_f {c : Int} : dkSetV false (tokD 0) (.int c) (some st) = some (some { st with mixed := c }) := rfl
theorem dkPop_c {xs : List Int} {c m t : Int} : Ok (dkPopV (tokD 0) (some ⟨xs ++ [c], m, t⟩)) Q = Q (.int c) (some ⟨xs, m, t⟩) := by
  unfold dkPopV
  simp
theorem dkPush_c {c : Int} (h : st.cells.length < lineN) : Ok (dkPushV (tokD 0) (.int c) (some st)) Q = Q .none (some { st with cells := st.cells ++ [c] }) := by
  unfold dkPushV
  simp [h]
theorem dkNew_c {xs : List D} {ns : List Int} {m t : Int} (h : intsOf xs = some ns) : Ok (dkNewV (.list xs) (.int m) (.int t) none) Q = Q (tokD 0) (some ⟨ns, m, t⟩) := by
  unfold dkNewV
  simp [h]
end
@[simp] theorem lg2 : Nat.log2 2 < 9000 := by decide
@[simp] theorem lg4 : Nat.log2 4 < 9000 := by decide
@[simp] theorem lg64 : Nat.log2 64 < 9000 := by decide
/-- a function's value from its body's -/
theorem Ok_F {T : List Fn} {d f np nl : Nat} {body : Sm} {as : List D} {σ : Sl} {g : G} {Q : D → G → Prop} (hb : Ok (Pv.run (FT T (fun _ => none) d) fuel body σ g) (retF Q))
    (h : T[f]? = some ⟨np, nl, body⟩ := by rfl) (hl : as.length = np := by rfl) (hσ : as.map some ++ List.replicate (nl - np) none = σ := by rfl) : Ok (FT T (fun _ => none) (d + 1) f as g) Q := by
  subst hσ
  exact Ok_FT h hl hb
/-- a deck after at most so many draws -/
def DkOk (n : Nat) (g : G) : Prop := ∃ st : Dk, g = some st ∧ st.cells.length ≤ 63 ∧ 0 ≤ st.turn ∧ st.turn ≤ n
theorem DkOk.mono {n m : Nat} {g : G} (h : DkOk n g) (l : n ≤ m) : DkOk m g := by
  obtain ⟨st, e, h1, h2, h3⟩ := h
  exact ⟨st, e, h1, h2, by omega⟩
theorem snoc_of {α : Type} : ∀ {xs : List α}, xs ≠ [] → ∃ ys y, xs = ys ++ [y]
  | [], h => absurd rfl h
  | [x], _ => ⟨[], x, rfl⟩
  | x :: y :: xs, _ => by
    obtain ⟨ys, z, e⟩ := snoc_of (xs := y :: xs) (List.cons_ne_nil _ _)
    exact ⟨x :: ys, z, by rw [e]; rfl⟩
end Pv
end

section
/-! FoA: the forms' functions, first part: divisors, discriminants, forms. -/
set_option autoImplicit false
namespace Xk40
open PySem Pv
variable {Φ : Fns} {g : G}
def isI : D → Bool
  | .int _ => true
  | _ => false
theorem is_integer_run {v : D} (h : isDk v = false) : Ok (Pv.run Φ fuel m_is_integer [some v] g) (retF fun r g' => r = .bool (isI v) ∧ g' = g) := by
  unfold m_is_integer
  cases v <;> simp [biV, isI, h] <;> simp [isDk]
theorem are_integers_run {i0 : Nat} {f : Fm} (h0 : ∀ v g, isDk v = false → Φ i0 [v] g = .ok (.bool (isI v)) g) : Ok (Pv.run Φ fuel (m_are_integers i0) [some (fD f), some (.int 3), none] g) (retF fun r g' => r = .bool true ∧ g' = g) := by
  unfold m_are_integers
  rw [Ok_seq]
  have n1 : ∀ i : Int, isDk (.int i) = false := fun i => rfl
  have n2 : isDk (.tuple [.int f.1, .int f.2.1, .int f.2.2]) = false := rfl
  simp [biV, fD, lenV, isDk]
  refine ⟨_, rfl, (by unfold lineN; simp), ?_⟩
  simp [compL, itemF, h0, n1, isI, ev, boolsOf, evs, wipeS]
/-- how long ints may be -/
def bg : Nat := 200000
theorem _root_.Pv.Sz.abs {k : Nat} {a : Int} (h : Sz k a) : Sz k (a.natAbs : Int) := by
  unfold Sz at *
  rw [Int.natAbs_natCast]; exact h
theorem sz_gcd {k : Nat} {a b : Int} (h : Sz k a) (h2 : Sz k b) : Sz k (Int.gcd a b : Int) := by
  unfold Sz at *
  rw [Int.natAbs_natCast]
  by_cases z : a = 0
  · subst z; rw [Int.gcd_zero_left]; exact h2
  · have := Int.gcd_le_natAbs_left b z
    omega
/-- Euclid in a loop -/
theorem eu_loop {t : Ex} {bd : Sm} {a b : Int} {Q : Fl → G → Prop} (n : Nat) (ha : 0 ≤ a) (hb : 0 ≤ b) (ho : euOk n a b ∨ euOk n b a) (hn : n + 1 < fuel)
    (ht : ∀ x y : Int, 0 ≤ x → 0 ≤ y → Ok (ev Φ t [some (.int x), some (.int y)] g) fun v g' => v = .bool (decide (0 < y)) ∧ g' = g)
    (hs : ∀ x y : Int, 0 ≤ x → 0 < y → Ok (Pv.run Φ fuel bd [some (.int x), some (.int y)] g) fun fl g' => fl = .nx [some (.int y), some (.int (x % y))] ∧ g' = g)
    (q : Q (.nx [some (.int (Int.gcd a b)), some (.int 0)]) g) : Ok (whileL (fun σ g => ev Φ t σ g) (fun σ g => Pv.run Φ fuel bd σ g) fuel [some (.int a), some (.int b)] g) Q := by
  refine ok_whileL (fun m σ g' => g' = g ∧ ∃ x y : Int, σ = [some (.int x), some (.int y)] ∧ 0 ≤ x ∧ 0 ≤ y ∧ Int.gcd x y = Int.gcd a b ∧ (euOk m x y ∨ ∃ k, m = k + 1 ∧ euOk k y x)) ?_ fuel (n + 1) hn ⟨rfl, a, b, rfl, ha, hb, rfl, ?_⟩
  · rintro m σ g' ⟨rfl, x, y, rfl, hx, hy, hg, hm⟩
    refine (ht x y hx hy).mono ?_
    rintro _ _ ⟨rfl, rfl⟩
    refine ⟨_, rfl, ?_⟩
    by_cases z : 0 < y
    · rw [decide_eq_true z, if_pos rfl]
      refine (hs x y hx z).mono ?_
      rintro _ _ ⟨rfl, rfl⟩
      have r0 := Int.emod_nonneg x (show y ≠ 0 by omega)
      rcases hm with hm | ⟨k, rfl, hm⟩
      · obtain ⟨k, rfl, h2⟩ := hm.next (by omega)
        exact ⟨k, by omega, rfl, _, _, rfl, hy, r0, by rw [gcd_step hy, hg], .inl h2⟩
      · by_cases w : x < y
        · rw [Int.emod_eq_of_lt hx w]
          exact ⟨k, by omega, rfl, _, _, rfl, hy, hx, by rw [Int.gcd_comm, hg], .inl hm⟩
        · have e : x = y := by have := hm.2.1; omega
          subst e
          obtain ⟨k', rfl, h2⟩ := hm.next (by omega)
          exact ⟨k', by omega, rfl, _, _, rfl, hy, r0, by rw [gcd_step hy, hg], .inl h2⟩
    · have e : y = 0 := by omega
      subst e
      rw [decide_eq_false z, if_neg Bool.false_ne_true]
      have e2 : x = (Int.gcd a b : Int) := by
        rw [← hg, Int.gcd_zero_right]; omega
      rw [e2]; exact q
  · rcases ho with h | h
    · left
      have e2 : (2 : Int) ^ (n + 1) = 2 ^ n * 2 := Int.pow_succ ..
      have e3 : (0 : Int) < 2 ^ n := Int.pow_pos (by omega)
      have := h.2.2
      exact ⟨h.1, h.2.1, by omega⟩
    · exact .inr ⟨n, rfl, h⟩
theorem common_divisor_run {a b : Int} (ha : Sz bg a) (hb : Sz bg b) : Ok (Pv.run Φ fuel m_common_divisor [some (.int a), some (.int b)] g) (retF fun r g' => r = .int (Int.gcd a b) ∧ g' = g) := by
  unfold m_common_divisor
  rw [Ok_seq]; simp [abs_ite]
  rw [Ok_seq]; simp [abs_ite]
  rw [Ok_seq, Ok_while]
  have sa := ha.abs
  have sb := hb.abs
  refine eu_loop (n := bg + bg) (by omega) (by omega) ?_ (by unfold fuel bg; omega) (fun x y hx hy => ?_) (fun x y hx hy => ?_) ?_
  · by_cases h : (b.natAbs : Int) ≤ a.natAbs
    · exact .inl (euOk.start (by omega) (by omega) sa sb h)
    · exact .inr (euOk.start (by omega) (by omega) sb sa (by omega))
  · simp; omega
  · simp [hy]
  · simp [Int.gcd]
end Xk40
end

section
/-! FoB: discriminants, forms, reduction. -/
set_option autoImplicit false
namespace Xk40
open PySem Pv
variable {Φ : Fns} {g : G}
theorem in01 (x : Int) : cmpV .isin (.int x) (.tuple [.int 0, .int 1]) = some (decide (x = 0 ∨ x = 1)) := by
  have s : shp (.tuple [.int 0, .int 1]) = true := by decide
  have s2 : shp (.int x) = true := rfl
  show (if shp (.int x) && shp (.tuple [.int 0, .int 1]) then some ([PyData.int 0, .int 1].any fun z => PyData.eqv z (.int x)) else none) = _
  rw [s, s2]
  show some ((0 == x) || ((1 == x) || false)) = _
  by_cases h : x = 0
  · subst h; rfl
  · by_cases h2 : x = 1
    · subst h2; rfl
    · have e1 : ((0 : Int) == x) = false := beq_eq_false_iff_ne.mpr (Ne.symm h)
      have e2 : ((1 : Int) == x) = false := beq_eq_false_iff_ne.mpr (Ne.symm h2)
      rw [e1, e2, decide_eq_false (by omega)]; rfl
def isDisc (d : Int) : Prop := -20000 ≤ d ∧ d ≤ -3 ∧ (d % 4 = 0 ∨ d % 4 = 1)
instance (d : Int) : Decidable (isDisc d) := by unfold isDisc; infer_instance
theorem is_discriminant_run {i0 : Nat} {d : Int} (h0 : ∀ v g, isDk v = false → Φ i0 [v] g = .ok (.bool (isI v)) g) : Ok (Pv.run Φ fuel (m_is_discriminant i0) [some (.int d)] g) (retF fun r g' => r = .bool (decide (isDisc d)) ∧ g' = g) := by
  unfold m_is_discriminant isDisc
  have n : isDk (.int d) = false := rfl
  by_cases h1 : -20000 ≤ d <;> by_cases h2 : d ≤ -3 <;> simp [h0, n, isI, in01, h1, h2] <;> omega
def isForm (f : Fm) : Prop := 0 < f.1 ∧ isDisc (disc f) ∧ Int.gcd (Int.gcd f.1 f.2.1) f.2.2 = 1
instance (f : Fm) : Decidable (isForm f) := by unfold isForm; infer_instance
structure SzF (f : Fm) : Prop where
  a : Sz bg f.1
  b : Sz bg f.2.1
  c : Sz bg f.2.2
theorem is_form_run {i0 i1 i2 : Nat} {f : Fm} (hs : SzF f) (h0 : ∀ (f : Fm) g, Φ i0 [fD f, .int 3] g = .ok (.bool true) g) (h1 : ∀ a b g, Sz bg a → Sz bg b → Φ i1 [.int a, .int b] g = .ok (.int (Int.gcd a b)) g) (h2 : ∀ d g, Φ i2 [.int d] g = .ok (.bool (decide (isDisc d))) g) :
    Ok (Pv.run Φ fuel (m_is_form i0 i1 i2) [some (fD f), none, none, none] g) (retF fun r g' => r = .bool (decide (isForm f)) ∧ g' = g) := by
  unfold m_is_form
  rw [Ok_seq]; simp [h0]
  rw [Ok_seq]; simp [fD]
  obtain ⟨a, b, c⟩ := f
  obtain ⟨sa, sb, sc⟩ := hs
  simp only at sa sb sc
  have m1 : mulOk b b = true := mulOk_sz sb sb (by unfold bg; omega)
  have s4 : Sz (3 + bg) (4 * a) := Sz.mul (show Sz 3 4 by unfold Sz; decide) sa
  have m2 : mulOk (4 * a) c = true := mulOk_sz s4 sc (by unfold bg; omega)
  rw [Ok_seq]
  simp [m1, m2, h2]
  by_cases a0 : a ≤ 0
  · simp [a0, isForm, show ¬ 0 < a by omega]
  · by_cases hd : isDisc (b * b - 4 * a * c)
    · have g1 := sz_gcd sa sb
      simp [a0, hd, h1 a b, sa, sb, h1 _ _ _ g1 sc, isForm, disc, show 0 < a by omega]
      omega
    · simp [a0, hd, isForm, disc, show 0 < a by omega]
theorem lead_run {f : Fm} {m : Mx} {k l : Nat} (hf : Sz k f.1 ∧ Sz k f.2.1 ∧ Sz k f.2.2) (hm : Sz l m.1 ∧ Sz l m.2.1 ∧ Sz l m.2.2.1 ∧ Sz l m.2.2.2) (hk : k + l + l + 20 < 1000000) :
    Ok (Pv.run Φ fuel m_lead [some (fD f), some (mD m), none, none, none, none, none, none, none, none, none, none] g) (retF fun r g' => r = fD (ledF f m) ∧ g' = g) := by
  obtain ⟨a, b, c⟩ := f
  obtain ⟨x, h, i, j⟩ := m
  obtain ⟨sa, sb, sc⟩ := hf
  obtain ⟨sg, sh, si, sj⟩ := hm
  simp only at sa sb sc sg sh si sj
  have s2 : Sz 2 2 := by unfold Sz; decide
  have M : ∀ {k l : Nat} {i j : Int}, Sz k i → Sz l j → k + l < 1000000 → mulOk i j = true := mulOk_sz
  unfold m_lead
  rw [Ok_seq]; simp [fD]
  rw [Ok_seq]; simp [mD]
  rw [Ok_seq]; simp [M sa sg (by omega), M (sa.mul sg) sg (by omega), M sb sg (by omega), M (sb.mul sg) si (by omega), M sc si (by omega), M (sc.mul si) si (by omega)]
  have ss : Sz (max (l + l) (l + l) + 1) (x * j + h * i) := (sg.mul sj).add (sh.mul si)
  rw [Nat.max_self] at ss
  rw [Ok_seq]; simp [M (s2.mul sa) sg (by omega), M ((s2.mul sa).mul sg) sh (by omega), M sg sj (by omega), M sh si (by omega), M sb ss (by omega), M (s2.mul sc) si (by omega), M ((s2.mul sc).mul si) sj (by omega)]
  rw [Ok_seq]; simp [M sa sh (by omega), M (sa.mul sh) sh (by omega), M sb sh (by omega), M (sb.mul sh) sj (by omega), M sc sj (by omega), M (sc.mul sj) sj (by omega)]
  simp [ledF]
theorem matrix_times_run {m n : Mx} {k l : Nat} (hm : Sz k m.1 ∧ Sz k m.2.1 ∧ Sz k m.2.2.1 ∧ Sz k m.2.2.2) (hn : Sz l n.1 ∧ Sz l n.2.1 ∧ Sz l n.2.2.1 ∧ Sz l n.2.2.2) (hk : k + l < 1000000) :
    Ok (Pv.run Φ fuel m_matrix_times [some (mD m), some (mD n), none, none, none, none, none, none, none, none] g) (retF fun r g' => r = mD (mulM m n) ∧ g' = g) := by
  obtain ⟨a, b, c, d⟩ := m
  obtain ⟨x, h, i, j⟩ := n
  obtain ⟨sa, sb, sc, sd⟩ := hm
  obtain ⟨sg, sh, si, sj⟩ := hn
  simp only at sa sb sc sd sg sh si sj
  have M : ∀ {i j : Int}, Sz k i → Sz l j → mulOk i j = true := fun h1 h2 => mulOk_sz h1 h2 hk
  unfold m_matrix_times
  rw [Ok_seq]; simp [mD]
  rw [Ok_seq]; simp
  simp [M sa sg, M sb si, M sa sh, M sb sj, M sc sg, M sd si, M sc sh, M sd sj, mulM]
end Xk40
end

section
/-! FoC: the reduced form. -/
set_option autoImplicit false
namespace Xk40
open PySem Pv
variable {Φ : Fns} {g : G}
/-- what reduction answers -/
def RedOf (f f' : Fm) (m : Mx) : Prop := Red f' ∧ f' = ledF f m ∧ det m = 1 ∧ SzK kb f' ∧ SzM kb m
theorem red_unique {f f1 f2 : Fm} {m1 m2 : Mx} (h1 : RedOf f f1 m1) (h2 : RedOf f f2 m2) : f1 = f2 := by
  obtain ⟨r1, e1, d1, _⟩ := h1
  obtain ⟨r2, e2, d2, _⟩ := h2
  refine (gauss r1 r2 (m := mulM (invM m1) m2) ?_ ?_).symm
  · rw [e2, e1, led_mul, ← mul_assoc', mul_inv d1, one_mul']
  · rw [det_mul, det_inv, d1, d2]; rfl
theorem reduction_run {i0 i1 : Nat} {f : Fm} (hg : GoodF f) (hs : SzK k0 f) (h0 : ∀ f m g, SzK kb f → SzM kb m → Φ i0 [fD f, mD m] g = .ok (fD (ledF f m)) g) (h1 : ∀ m n g, SzM kb m → SzM kb n → Φ i1 [mD m, mD n] g = .ok (mD (mulM m n)) g) :
    Ok (Pv.run Φ fuel (m_reduction i0 i1) [some (fD f), none, none, none, none, none, none] g) (retF fun r g' => (∃ f' m, r = .tuple [fD f', mD m] ∧ RedOf f f' m) ∧ g' = g) := by
  unfold m_reduction
  rw [Ok_seq]; simp
  rw [Ok_while]
  refine ok_whileL (fun k σ g' => g' = g ∧ ∃ f1 m y2 y3 y4 y5 y6, σ = [some (fD f1), some (mD m), y2, y3, y4, y5, y6] ∧ Way f f1 m ∧ far f1 = k) ?_ fuel (far f) ?_ ⟨rfl, f, oneM, none, none, none, none, none, rfl, Way.start hg hs, rfl⟩
  · rintro k σ g' ⟨rfl, f1, m, y2, y3, y4, y5, y6, rfl, w, rfl⟩
    generalize hQ : loopF _ _ = QQ
    simp
    have a0 := w.good.a0
    have sK := w.szK hs
    have sM := w.szM hg hs
    have key : ∀ n : Mx, stepM f1 = some n → Φ i0 [fD f1, mD n] g' = .ok (fD (ledF f1 n)) g' ∧ Φ i1 [mD m, mD n] g' = .ok (mD (mulM m n)) g' ∧ Way f (ledF f1 n) (mulM m n) ∧ far (ledF f1 n) < far f1 := fun n e => by
      obtain ⟨w2, l, sn⟩ := w.next hs e
      exact ⟨h0 _ _ _ sK sn, h1 _ _ _ sM sn, w2, l⟩
    have fin : stepM f1 = none → RedOf f f1 m := fun e => ⟨step_none a0 e, w.led, w.det, sK, sM⟩
    obtain ⟨a, b, c⟩ := f1
    have sa : Sz k0 a := sz_le hs.a (by have := w.sa; simp only at this a0; omega) w.sa
    have l9 : (2 * a).natAbs.log2 < 9000 := by
      have := ((show Sz 2 2 by unfold Sz; decide).mul sa).log
      unfold k0 at this
      omega
    simp only at a0
    rw [Ok_seq]; simp [fD]
    have p2 : 0 < 2 * a := by omega
    rw [Ok_seq]; simp [p2, l9]
    rw [show (a - b) / (2 * a) = shiftF (a, b, c) from rfl]
    rw [Ok_seq]
    by_cases s0 : shiftF (a, b, c) = 0
    · by_cases q : c < a ∨ (a = c ∧ b < 0)
      · have e : stepM (a, b, c) = some (0, -1, 1, 0) := by
          unfold stepM
          rw [if_neg (by simpa using s0), if_pos q]
        obtain ⟨k1, k2, k3, k4⟩ := key _ e
        simp only [fD, mD] at k1 k2
        rcases q with q | ⟨q1, q2⟩
        · simp [s0, q]
          rw [Ok_seq]; simp [k1, mD]
          simp [k2]
          subst hQ
          exact ⟨_, k4, rfl, _, _, _, _, _, _, _, rfl, k3, rfl⟩
        · subst q1
          simp [s0, q2]
          rw [Ok_seq]; simp [k1, mD]
          simp [k2]
          subst hQ
          exact ⟨_, k4, rfl, _, _, _, _, _, _, _, rfl, k3, rfl⟩
      · have e : stepM (a, b, c) = none := by
          unfold stepM
          rw [if_neg (by simpa using s0), if_neg q]
        have r := fin e
        have q1 : ¬ c < a := fun z => q (.inl z)
        by_cases q2 : a = c
        · subst q2
          have q3 : ¬ b < 0 := fun z => q (.inr ⟨rfl, z⟩)
          simp [s0, q3]
          subst hQ
          exact ⟨⟨_, _, _, _, _, _, _, rfl, r⟩, rfl⟩
        · simp [s0, q1, q2]
          subst hQ
          exact ⟨⟨_, _, _, _, _, _, _, rfl, r⟩, rfl⟩
    · have e : stepM (a, b, c) = some (1, shiftF (a, b, c), 0, 1) := by
        unfold stepM
        rw [if_pos s0]
      obtain ⟨k1, k2, k3, k4⟩ := key _ e
      simp only [fD, mD] at k1 k2
      simp [s0]
      rw [Ok_seq]; simp [k1, mD]
      simp [k2]
      subst hQ
      exact ⟨_, k4, rfl, _, _, _, _, _, _, _, rfl, k3, rfl⟩
  · have := far_le hs.a hg.d1
    unfold k0 at this
    unfold fuel
    omega
end Xk40
end

section
/-! FoD: the law's deck, draws, picks, divisors. -/
set_option autoImplicit false
namespace Xk40
open PySem Pv
variable {Φ : Fns} {g : G}
theorem draw_run {n : Nat} {below : Int} (hd : DkOk n g) (h0 : 0 < below) (hl : below.natAbs.log2 < 8999) (hn : n < 1000000) :
    Ok (Pv.run Φ fuel m__law_draw [some (tokD 0), some (.int below), none, none] g) (retF fun r g' => DkOk (n + 1) g' ∧ ∃ i, r = .int i ∧ 0 ≤ i ∧ i < below) := by
  obtain ⟨st, rfl, c1, c2, c3⟩ := hd
  obtain ⟨cells, mixed, turn⟩ := st
  simp only at c1 c2 c3
  unfold m__law_draw
  generalize hQ : retF _ = QQ
  rw [Ok_seq]; simp
  rw [Ok_seq]
  have fin : ∀ (x : Int) (cs : List Int) (m : Int), cs.length ≤ 63 → QQ (.rt (.int (x % below))) (some ⟨cs, m, turn + 1⟩) := fun x cs m hc => by
    subst hQ
    exact ⟨⟨_, rfl, hc, by simp only; omega, by simp only; omega⟩, _, rfl, Int.emod_nonneg _ (by omega), Int.emod_lt_of_pos _ h0⟩
  by_cases he : cells = []
  · subst he
    simp
    have m1 : mulOk (40692 * (turn + 1)) (turn + 1) = true := mulOk_2 (by omega) (by omega)
    rw [Ok_seq]; simp [m1]
    generalize hA : (mixed + 40692 * (turn + 1) * (turn + 1)) % 2147483399 = A
    have a1 : 0 ≤ A := by omega
    have a2 : A < 2147483399 := by omega
    have m2 : mulOk A A = true := mulOk_2 (by omega) (by omega)
    rw [Ok_seq]; simp [m2]
    simp [h0]
    exact fin _ _ _ (by simp)
  · obtain ⟨ys, c, rfl⟩ := snoc_of he
    have hl2 : ys.length + 1 ≤ 63 := by simpa using c1
    have e1 : (ys ++ [c]).isEmpty = false := by simp
    have p1 : powOk 10 6 = true := by decide
    have ml : (if 2 < below then below else 2).natAbs.log2 < 9000 := by
      split
      · omega
      · decide
    have mp : 0 < (if 2 < below then below else 2) := by split <;> omega
    have ll : ys.length < lineN := by unfold lineN; omega
    simp [e1]
    rw [Ok_seq]; simp [dkPop_c]
    rw [Ok_seq]
    by_cases hb : 1000000 ≤ c
    · simp [p1, hb, mp, ml]
      rw [dkPush_c ll]
      simp [h0]
      exact fin _ _ _ (by simp; omega)
    · simp [p1, hb, h0]
      exact fin _ _ _ (by omega)
theorem deck_run {ns : List Int} : Ok (Pv.run Φ fuel (m__law_deck ns) [some (tokD 1), none, none, none] none) (retF fun r g' => r = tokD 0 ∧ DkOk 0 g') := by
  unfold m__law_deck
  generalize hQ : retF _ = QQ
  rw [Ok_seq]
  have p1 : powOk 10 24 = true := by decide
  have ln : (ns.take 63).length ≤ lineN := by rw [List.length_take]; unfold lineN; omega
  simp [itV]
  refine ⟨by rw [List.length_take] at ln; exact ln, ?_⟩
  rw [← List.map_take]
  refine ok_compM (em := .int) (eo := .int) (u := fun i : Int => some (i % (10 ^ 24 + 7))) (xs := ns.take 63) (fun x hx => ?_) ?_
  · rw [Ok_itemF]
    simp [wipeS, p1]
  rw [show (fun i : Int => some (i % (10 ^ 24 + 7))) = some ∘ (fun i : Int => i % (10 ^ 24 + 7)) from rfl, List.filterMap_eq_map]
  generalize hL : (ns.take 63).map (fun i : Int => i % (10 ^ 24 + 7)) = L
  have hlen : L.length ≤ 63 := by rw [← hL, List.length_map, List.length_take]; omega
  rw [Ok_seq, Ok_for]; simp [itV]
  refine ok_forL (fun k σ g' => g' = none ∧ ∃ m : Int, ∃ y, σ = [some (tokD 1), y, some (.list (L.map .int)), some (.int m)]) ⟨rfl, _, _, rfl⟩ ?_ ?_
  · rintro k x σ g' hx ⟨rfl, m, y, rfl⟩
    rw [List.getElem?_map] at hx
    obtain ⟨c, hc, rfl⟩ := Option.map_eq_some_iff.mp hx
    simp
  · rintro σ g' ⟨rfl, m, y, rfl⟩
    have e : intsOf (L.map .int).reverse = some L.reverse := by rw [← List.map_reverse, ints_map]
    simp
    rw [dkNew_c e]
    subst hQ
    exact ⟨rfl, _, rfl, by rw [List.length_reverse]; exact hlen, by simp⟩
theorem pickT_run {i0 n : Nat} {xs : List D} (hd : DkOk n g) (hn : n < 1000000) (hx : xs ≠ []) (hl : xs.length < 100000) (h0 : ∀ (n : Nat) (below : Int) g, DkOk n g → 0 < below → below.natAbs.log2 < 8999 → n < 1000000 → Ok (Φ i0 [tokD 0, .int below] g) (fun r g' => DkOk (n + 1) g' ∧ ∃ i, r = .int i ∧ 0 ≤ i ∧ i < below)) :
    Ok (Pv.run Φ fuel (m__law_pick i0) [some (tokD 0), some (.tuple xs)] g) (retF fun r g' => DkOk (n + 1) g' ∧ r ∈ xs) := by
  have lp : 0 < xs.length := List.length_pos_iff.mpr hx
  unfold m__law_pick
  simp
  refine (h0 n xs.length g hd (by omega) ?_ hn).mono ?_
  · rw [Int.natAbs_natCast]
    exact Nat.lt_of_lt_of_le (Nat.log2_lt (by omega) |>.mpr (show xs.length < 2 ^ 20 by omega)) (by omega)
  · rintro _ g' ⟨h1, i, rfl, h2, h3⟩
    obtain ⟨x, hx, e⟩ := idx_t h2 h3
    exact ⟨x, e, h1, hx⟩
theorem pickL_run {i0 n : Nat} {xs : List D} (hd : DkOk n g) (hn : n < 1000000) (hx : xs ≠ []) (hl : xs.length < 100000) (h0 : ∀ (n : Nat) (below : Int) g, DkOk n g → 0 < below → below.natAbs.log2 < 8999 → n < 1000000 → Ok (Φ i0 [tokD 0, .int below] g) (fun r g' => DkOk (n + 1) g' ∧ ∃ i, r = .int i ∧ 0 ≤ i ∧ i < below)) :
    Ok (Pv.run Φ fuel (m__law_pick i0) [some (tokD 0), some (.list xs)] g) (retF fun r g' => DkOk (n + 1) g' ∧ r ∈ xs) := by
  have lp : 0 < xs.length := List.length_pos_iff.mpr hx
  unfold m__law_pick
  simp
  refine (h0 n xs.length g hd (by omega) ?_ hn).mono ?_
  · rw [Int.natAbs_natCast]
    exact Nat.lt_of_lt_of_le (Nat.log2_lt (by omega) |>.mpr (show xs.length < 2 ^ 20 by omega)) (by omega)
  · rintro _ g' ⟨h1, i, rfl, h2, h3⟩
    obtain ⟨x, hx, e⟩ := idx_l h2 h3
    exact ⟨x, e, h1, hx⟩
theorem lawgcd_run {a b : Int} (ha : Sz bg a) (hb : Sz bg b) : Ok (Pv.run Φ fuel m__law_gcd [some (.int a), some (.int b)] g) (retF fun r g' => r = .int (Int.gcd a b) ∧ g' = g) := by
  unfold m__law_gcd
  rw [Ok_seq]; simp [abs_ite]
  rw [Ok_seq, Ok_while]
  have sa := ha.abs
  have sb := hb.abs
  refine eu_loop (n := bg + bg) (by omega) (by omega) ?_ (by unfold fuel bg; omega) (fun x y hx hy => ?_) (fun x y hx hy => ?_) ?_
  · by_cases h : (b.natAbs : Int) ≤ a.natAbs
    · exact .inl (euOk.start (by omega) (by omega) sa sb h)
    · exact .inr (euOk.start (by omega) (by omega) sb sa (by omega))
  · simp; omega
  · simp [hy]
  · simp [Int.gcd]
end Xk40
end

section
/-! FoE: the classes, by the program and by the law. -/
set_option autoImplicit false
namespace Xk40
open PySem Pv
variable {Φ : Fns} {g : G}
theorem szb {x : Int} (h1 : -18446744073709551616 < x) (h2 : x < 18446744073709551616) : Sz bg x := by
  have : Sz 64 x := by
    unfold Sz
    have : (2 : Nat) ^ 64 = 18446744073709551616 := by decide
    omega
  exact this.mono (by unfold bg; omega)
def rowPk (d a : Int) (n : Nat) : List Fm := (List.range n).filterMap fun k : Nat => if keepP d a (1 - a + k) then some (a, 1 - a + k, ((1 - a + k) * (1 - a + k) - d) / (4 * a)) else none
theorem rowPk_succ (d a : Int) (n : Nat) : rowPk d a (n + 1) = rowPk d a n ++ (if keepP d a (1 - a + n) then [(a, 1 - a + n, ((1 - a + n) * (1 - a + n) - d) / (4 * a))] else []) := by
  unfold rowPk
  rw [List.range_succ, List.filterMap_append]
  congr 1
  simp only [List.filterMap_cons, List.filterMap_nil]
  split <;> rename_i h <;> split at h <;> simp_all
theorem rowPk_len (d a : Int) (n : Nat) : (rowPk d a n).length ≤ n := by
  unfold rowPk
  refine Nat.le_trans (List.length_filterMap_le _ _) ?_
  rw [List.length_range]; omega
theorem rowsP_len (d : Int) : ∀ n : Nat, n ≤ 81 → (rowsP d n).length ≤ n * 200
  | 0, _ => Nat.le_refl _
  | n + 1, h => by
    rw [rows_succ, List.length_append]
    have h1 := rowsP_len d n (by omega)
    have h2 : (rowP d (n + 1)).length ≤ (2 * ((n : Int) + 1)).toNat := rowPk_len d (n + 1) (2 * ((n : Int) + 1)).toNat
    omega
theorem rng_at {lo : Int} {n k : Nat} {x : D} (h : (rangeD lo n)[k]? = some x) : k < n ∧ x = .int (lo + k) := by
  unfold rangeD at h
  rw [List.getElem?_map] at h
  obtain ⟨j, hj, rfl⟩ := Option.map_eq_some_iff.mp h
  have hk : k < n := by
    have := (List.getElem?_eq_some_iff.mp hj).1
    rwa [List.length_range] at this
  rw [List.getElem?_range hk] at hj
  cases hj
  exact ⟨hk, rfl⟩
theorem rng_len (lo : Int) (n : Nat) : (rangeD lo n).length = n := by unfold rangeD; rw [List.length_map, List.length_range]
theorem itV_r2 {i j : Int} (h1 : -4611686018427387904 ≤ i) (h2 : i < 4611686018427387904) (h3 : -4611686018427387904 ≤ j) (h4 : j < 4611686018427387904) : itV .rng2 [.int i, .int j] = some (rangeD i (j - i).toNat) := by
  simp [itV, h1, h2, h3, h4]
theorem itV_r1 {j : Int} (h3 : -4611686018427387904 ≤ j) (h4 : j < 4611686018427387904) : itV .rng1 [.int j] = some (rangeD 0 j.toNat) := by
  simp [itV, h3, h4]
theorem app_l {xs : List D} {v : D} (h : xs.length < lineN) : appV (.list xs) v = some (.list (xs ++ [v])) := by
  simp [appV, h]
theorem classes_run {i0 : Nat} {d : Int} (h1 : -20000 ≤ d) (h2 : d ≤ -3) (h0 : ∀ a b g, Sz bg a → Sz bg b → Φ i0 [.int a, .int b] g = .ok (.int (Int.gcd a b)) g) :
    Ok (Pv.run Φ fuel (m_classes i0) [some (.int d), none, none, none, none] g) (retF fun r g' => r = .tuple ((PL d).map fD) ∧ g' = g) := by
  unfold m_classes
  generalize hQ : retF _ = QQ
  rw [Ok_seq]; simp
  rw [Ok_seq]; simp
  rw [Ok_seq, Ok_while]
  refine ok_whileL (fun m σ g' => g' = g ∧ ∃ (n : Nat) (y3 y4 : Option D), σ = [some (.int d), some (.list ((rowsP d n).map fD)), some (.int ((n : Int) + 1)), y3, y4] ∧ n ≤ 81 ∧ m = 82 - n) ?_ fuel 82 (by unfold fuel; omega) ⟨rfl, 0, none, none, rfl, by omega, rfl⟩
  rintro m σ g' ⟨rfl, n, y3, y4, rfl, hn, rfl⟩
  have m1 : mulOk (3 * ((n : Int) + 1)) ((n : Int) + 1) = true := mulOk_2 (by omega) (by omega)
  generalize hA : (n : Int) + 1 = a at m1 ⊢
  have a0 : 0 < a := by omega
  generalize hL : loopF _ _ = LL
  by_cases hw : 3 * a * a ≤ -d
  rotate_left
  · -- out
    have e : PL d = rowsP d n := by
      refine sorted_eq PL_sorted rows_sorted fun f => ?_
      rw [mem_PL h1, mem_rows]
      refine ⟨fun h => ⟨h, ?_⟩, fun h => h.1⟩
      have z := h.a3
      have s5 : 3 * f.1 * f.1 = 3 * (f.1 * f.1) := by grind
      have s6 : 3 * a * a = 3 * (a * a) := by grind
      have := sq_lt (x := f.1) (y := a) (by omega) (by omega)
      omega
    subst hQ
    simp [m1, hw, e]
  · -- one row
    simp [m1, hw]
    have s6 : 3 * a * a = 3 * (a * a) := by grind
    have a2 : a < 82 := sq_lt (by omega) (by omega)
    rw [Ok_seq, Ok_for]
    simp [itV_r2 (show -4611686018427387904 ≤ 1 - a by omega) (by omega) (show -4611686018427387904 ≤ a + 1 by omega) (by omega)]
    have er : (a + 1 - (1 - a)).toNat = (2 * a).toNat := by omega
    rw [er]
    refine ok_forL (fun k σ g2 => g2 = g' ∧ k ≤ (2 * a).toNat ∧ ∃ (y3 y4 : Option D), σ = [some (.int d), some (.list ((rowsP d n ++ rowPk d a k).map fD)), some (.int a), y3, y4]) ⟨rfl, by omega, y3, y4, by simp [rowPk]⟩ ?_ ?_
    · rintro k x σ g2 hx ⟨rfl, hk2, y3, y4, rfl⟩
      obtain ⟨hk, rfl⟩ := rng_at hx
      have len : ((rowsP d n ++ rowPk d a k).map fD).length < lineN := by
        have := rowsP_len d n (by omega)
        have := rowPk_len d a k
        rw [List.length_map, List.length_append]
        unfold lineN; omega
      have es := rowPk_succ d a k
      generalize hLs : rowsP d n ++ rowPk d a k = Ls at len ⊢
      have es2 : rowsP d n ++ rowPk d a (k + 1) = Ls ++ (if keepP d a (1 - a + k) then [(a, 1 - a + (k : Int), ((1 - a + k) * (1 - a + k) - d) / (4 * a))] else []) := by rw [es, ← hLs, List.append_assoc]
      generalize hb : 1 - a + (k : Int) = b at es2 ⊢
      generalize hI : loopF _ _ = II
      have nx : ∀ (y3 y4 : Option D), II (.nx [some (.int d), some (.list ((Ls ++ (if keepP d a b then [(a, b, (b * b - d) / (4 * a))] else [])).map fD)), some (.int a), y3, y4]) g2 ∧ II (.ct [some (.int d), some (.list ((Ls ++ (if keepP d a b then [(a, b, (b * b - d) / (4 * a))] else [])).map fD)), some (.int a), y3, y4]) g2 := fun y3 y4 => by
        subst hI
        rw [← es2]
        exact ⟨⟨rfl, by omega, _, _, rfl⟩, rfl, by omega, _, _, rfl⟩
      have b1 : 1 - a ≤ b := by omega
      have b2 : b ≤ a := by omega
      have mb : mulOk b b = true := mulOk_2 (by omega) (by omega)
      have p4 : 0 < 4 * a := by omega
      have l4 : (4 * a).natAbs.log2 < 9000 := Nat.lt_of_le_of_lt (Nat.log2_le_self _) (by omega)
      rw [Ok_turnF]; simp
      rw [Ok_seq]; simp [mb, p4]
      unfold keepP at nx
      by_cases q1 : (b * b - d) % (4 * a) = 0
      · simp [q1]
        rw [Ok_seq]; simp [mb, p4, l4]
        generalize hc : (b * b - d) / (4 * a) = c at nx ⊢
        rw [Ok_seq]
        by_cases q2 : c < a ∨ (c = a ∧ b < 0)
        · have nx := (nx (some (.int b)) (some (.int c))).2
          simp [q1, q2] at nx
          rcases q2 with q2 | ⟨q2, q3⟩
          · simp [q2]; exact nx
          · subst q2; simp [q3]; exact nx
        · have q3 : ¬ c < a := fun z => q2 (.inl z)
          have c1 : c ≤ 100000 := by
            have e := Int.emod_add_mul_ediv (b * b - d) (4 * a)
            rw [q1, hc] at e
            have := mulL (show b ≤ a by omega) (show 0 ≤ a by omega)
            have s1 : 0 ≤ (a - b) * (a + b) := Int.mul_nonneg (by omega) (by omega)
            have s3 : (a - b) * (a + b) = a * a - b * b := by grind
            have t1 : 4 * a * c = 4 * (a * c) := by grind
            by_cases h : c ≤ 100000
            · exact h
            · have := mulL (show 100000 ≤ c by omega) (show 0 ≤ a by omega)
              have := mulL (show a ≤ 82 by omega) (show 0 ≤ a by omega)
              omega
          have sa : Sz bg a := szb (by omega) (by omega)
          have sb : Sz bg b := szb (by omega) (by omega)
          have sc : Sz bg c := szb (by omega) (by omega)
          have g1 := h0 a b g2 sa sb
          have g2' := h0 _ c g2 (sz_gcd sa sb) sc
          have nx := (nx (some (.int b)) (some (.int c))).1
          by_cases q4 : prim (a, b, c)
          · have q5 : Int.gcd (Int.gcd a b) c = 1 := q4
            simp [q1, q2, q4] at nx
            by_cases q6 : c = a
            · have q7 : ¬ b < 0 := fun z => q2 (.inr ⟨q6, z⟩)
              subst q6
              simp [q7, g1, g2', q5, app_l len]
              simpa [fD] using nx
            · simp [q3, q6, g1, g2', q5, app_l len]
              simpa [fD] using nx
          · have q5 : ¬ ((Int.gcd (Int.gcd a b) c : Nat) : Int) = 1 := fun z => q4 (by show Int.gcd (Int.gcd a b) c = 1; omega)
            simp [q1, q2, q4] at nx
            by_cases q6 : c = a
            · have q7 : ¬ b < 0 := fun z => q2 (.inr ⟨q6, z⟩)
              subst q6
              have q8 := q5
              simp at q8
              simp [q7, g1, g2', q5, q8]
              exact nx
            · simp [q3, q6, g1, g2', q5]
              exact nx
      · simp [q1]
        have nx := (nx (some (.int b)) y4).2
        simp [q1] at nx
        exact nx
    · rintro σ g2 ⟨rfl, hk, y3, y4, rfl⟩
      rw [rng_len]
      have e2 : rowsP d n ++ rowPk d a (2 * a).toNat = rowsP d (n + 1) := by
        rw [rows_succ, hA]; rfl
      rw [e2]
      subst hL
      simp
      exact ⟨81 - n, by omega, n + 1, ⟨rfl, by omega⟩, by omega, by omega⟩
end Xk40
end

section
/-! FoF: the law's own classes. -/
set_option autoImplicit false
namespace Xk40
open PySem Pv
variable {Φ : Fns} {g : G}
theorem lawclasses_run {i0 : Nat} {d : Int} (h1 : -20000 ≤ d) (h2 : d ≤ -3) (hd : d % 4 = 0 ∨ d % 4 = 1) (h0 : ∀ a b g, Sz bg a → Sz bg b → Φ i0 [.int a, .int b] g = .ok (.int (Int.gcd a b)) g) :
    Ok (Pv.run Φ fuel (m__law_classes i0) [some (.int d), none, none, none, none] g) (retF fun r g' => r = .list ((PL d).map fD) ∧ g' = g) := by
  unfold m__law_classes
  generalize hQ : retF _ = QQ
  rw [Ok_seq]; simp
  rw [Ok_seq, Ok_while]
  refine ok_whileL (fun m σ g' => g' = g ∧ ∃ (b : Int) (l : List Fm) (y3 y4 : Option D), σ = [some (.int d), some (.list (l.map fD)), some (.int b), y3, y4] ∧ 0 ≤ b ∧ b ≤ 84 ∧ b % 2 = d % 2 ∧ Jf d b 0 l ∧ l.length ≤ 200 * b.toNat ∧ m = (84 - b).toNat) ?_ fuel (84 - d % 2).toNat (by unfold fuel; omega) ⟨rfl, d % 2, [], none, none, rfl, by omega, by omega, by omega, Jf.start rfl, Nat.zero_le _, rfl⟩
  rintro m σ g' ⟨rfl, b, l, y3, y4, rfl, b0, b84, bp, hj, hl, rfl⟩
  have m1 : mulOk (3 * b) b = true := mulOk_2 (by omega) (by omega)
  have m2 : mulOk b b = true := mulOk_2 (by omega) (by omega)
  have s6 : 3 * b * b = 3 * (b * b) := by grind
  generalize hL : loopF _ _ = LL
  by_cases hw : 3 * b * b ≤ -d
  rotate_left
  · have sv : sortV (l.map fD) = some (.list ((PL d).map fD)) := sortV_f hj.nd PL_sorted fun f => by rw [hj.all b0 (by omega), mem_PL h1]
    have bv : biV .sorted [.list (l.map fD)] = some (.list ((PL d).map fD)) := sv
    subst hQ
    simp [m1, hw, bv]
  · have b82 : b < 82 := sq_lt (by omega) (by omega)
    have bb : b * b ≤ 6561 := by
      have := mulL (show b ≤ 81 by omega) b0
      omega
    simp [m1, hw]
    rw [Ok_seq]; simp [m2]
    generalize hp : (b * b - d) / 4 = p
    have p1 : p ≤ 6641 := by omega
    have p0 : 0 ≤ p := by have := sq_nn b; omega
    rw [Ok_seq]; simp
    rw [Ok_seq, Ok_while]
    have ha : ∃ a : Int, (if 1 < b then b else 1) = a := ⟨_, rfl⟩
    obtain ⟨a, ha⟩ := ha
    have hj2 := hj.open_
    rw [ha] at hj2 ⊢
    refine ok_whileL (fun m σ g2 => g2 = g' ∧ ∃ (a : Int) (l : List Fm), σ = [some (.int d), some (.list (l.map fD)), some (.int b), some (.int p), some (.int a)] ∧ 0 < a ∧ b ≤ a ∧ a ≤ 84 ∧ Jf d b a l ∧ l.length ≤ 200 * b.toNat + 2 * a.toNat ∧ m = (84 - a).toNat) ?_ fuel (84 - a).toNat (by unfold fuel; omega) ⟨rfl, a, l, rfl, by split at ha <;> omega, by split at ha <;> omega, by split at ha <;> omega, hj2, by omega, rfl⟩
    clear ha hj2 a
    rintro m σ g2 ⟨rfl, a, l2, rfl, a0, ba, a84, hj2, hl2, rfl⟩
    generalize hI : loopF _ _ = II
    have m3 : mulOk a a = true := mulOk_2 (by omega) (by omega)
    by_cases hw2 : a * a ≤ p
    rotate_left
    · have hc := hj2.close a0 b0 hd bp (by omega)
      simp [m3, hw2]
      subst hL
      exact ⟨(84 - (b + 2)).toNat, by omega, rfl, b + 2, l2, _, _, rfl, by omega, by omega, by omega, hc, by omega, rfl⟩
    · have a82 : a < 82 := sq_lt (by omega) (by omega)
      have st := hj2.step a0 b0 ba hd bp (by omega)
      have sl := addL_len d b a l2
      have nx : II (.nx [some (.int d), some (.list ((addL d b a l2).map fD)), some (.int b), some (.int p), some (.int (a + 1))]) g2 := by
        subst hI
        exact ⟨(84 - (a + 1)).toNat, by omega, rfl, a + 1, _, rfl, by omega, by omega, by omega, st, by omega, rfl⟩
      have ln : (l2.map fD).length < lineN := by
        rw [List.length_map]
        unfold lineN; omega
      have ln2 : ∀ x : D, (l2.map fD ++ [x]).length < lineN := fun x => by
        rw [List.length_append, List.length_map, List.length_singleton]
        unfold lineN; omega
      have la : a.natAbs.log2 < 9000 := Nat.lt_of_le_of_lt (Nat.log2_le_self _) (by omega)
      have pa : p / a ≤ 6641 := by
        have q := Int.emod_add_mul_ediv p a
        have r0 := Int.emod_nonneg p (show a ≠ 0 by omega)
        have := mulL (show 1 ≤ a by omega) (show 0 ≤ p / a from Int.ediv_nonneg (by omega) (by omega))
        rw [Int.mul_comm (p / a) a] at this
        omega
      have pa0 : 0 ≤ p / a := Int.ediv_nonneg (by omega) (by omega)
      have sa : Sz bg a := szb (by omega) (by omega)
      have sb : Sz bg b := szb (by omega) (by omega)
      have sc : Sz bg (p / a) := szb (by omega) (by omega)
      have g1 := h0 a b g2 sa sb
      have g3 := h0 _ (p / a) g2 (sz_gcd sa sb) sc
      simp [m3, hw2]
      rw [Ok_seq]
      unfold addL keepL twoL at nx
      simp only [hp] at nx
      generalize hc : p / a = c at nx g3
      by_cases q1 : p % a = 0
      · by_cases q2 : Int.gcd (Int.gcd a b) c = 1
        · by_cases q3 : 0 < b ∧ b < a ∧ a < c
          · simp [q1, q2, q3] at nx
            simp [a0, la, hc, q1, g1, g3, q2]
            rw [Ok_seq]; simp [a0, la, hc, q3, app_l ln, app_l (ln2 _)]
            simpa [fD] using nx
          · simp [q1, q2, q3] at nx
            simp [a0, la, hc, q1, g1, g3, q2]
            rw [Ok_seq]
            by_cases w1 : 0 < b
            · by_cases w2 : b < a
              · have w3 : ¬ a < c := fun z => q3 ⟨w1, w2, z⟩
                simp [a0, la, hc, app_l ln, w1, w2, w3]
                simpa [fD] using nx
              · simp [a0, la, hc, app_l ln, w1, w2]
                simpa [fD] using nx
            · simp [a0, la, hc, app_l ln, w1]
              simpa [fD] using nx
        · have q5 : ¬ ((Int.gcd (Int.gcd a b) c : Nat) : Int) = 1 := by omega
          simp [q1, q2] at nx
          simp [a0, la, hc, q1, g1, g3, q5]
          exact nx
      · simp [q1] at nx
        simp [a0, q1]
        exact nx
end Xk40
end

section
/-! FoR: reduced. -/
set_option autoImplicit false
namespace Xk40
open PySem Pv
variable {Φ : Fns} {g : G}
theorem isForm.good {f : Fm} (h : isForm f) : GoodF f := ⟨h.1, h.2.1.1, h.2.1.2.1⟩
end Xk40
end

section
/-! FoL: matrices and led forms, by the program and by the law. -/
set_option autoImplicit false
namespace Xk40
open PySem Pv
variable {Φ : Fns} {g : G}
theorem isForm.led {f : Fm} {m : Mx} (h : isForm f) (d : det m = 1) : isForm (ledF f m) := by
  have g := led_good h.good d
  have e : disc (ledF f m) = disc f := by rw [disc_led, d]; omega
  exact ⟨g.a0, by rw [e]; exact h.2.1, led_prim h.2.2 d⟩
theorem Rf_form {d : Int} {f : Fm} (h : Rf d f) (hd : isDisc d) : isForm f := ⟨h.red.a0, by rw [h.disc]; exact hd, h.prim⟩
theorem are_integers4_run {i0 : Nat} {m : Mx} (h0 : ∀ v g, isDk v = false → Φ i0 [v] g = .ok (.bool (isI v)) g) : Ok (Pv.run Φ fuel (m_are_integers i0) [some (mD m), some (.int 4), none] g) (retF fun r g' => r = .bool true ∧ g' = g) := by
  unfold m_are_integers
  rw [Ok_seq]
  have n1 : ∀ i : Int, isDk (.int i) = false := fun i => rfl
  simp [biV, mD, lenV, isDk]
  refine ⟨_, rfl, (by unfold lineN; simp), ?_⟩
  simp [compL, itemF, h0, n1, isI, ev, boolsOf, evs, wipeS]
theorem discriminant_at_run {f : Fm} {k : Nat} (hf : SzK k f) (hk : k + k + 3 < 1000000) : Ok (Pv.run Φ fuel m_discriminant_at [some (fD f), none, none, none] g) (retF fun r g' => r = .int (disc f) ∧ g' = g) := by
  unfold m_discriminant_at
  obtain ⟨a, b, c⟩ := f
  obtain ⟨sa, sb, sc⟩ := hf
  simp only at sa sb sc
  have s4 : Sz (3 + k) (4 * a) := Sz.mul (show Sz 3 4 by unfold Sz; decide) sa
  rw [Ok_seq]; simp [fD]
  simp [mulOk_sz sb sb (by omega), mulOk_sz s4 sc (by omega), disc]
theorem lawled_run {f : Fm} {m : Mx} {k l : Nat} (hf : SzK k f) (hm : SzM l m) (hk : k + l + l + 20 < 1000000) :
    Ok (Pv.run Φ fuel m__law_led [some (fD f), some (mD m), none, none, none, none, none, none, none, none, none] g) (retF fun r g' => r = fD (ledF f m) ∧ g' = g) := by
  obtain ⟨a, b, c⟩ := f
  obtain ⟨x, h, i, j⟩ := m
  obtain ⟨sa, sb, sc⟩ := hf
  obtain ⟨sg, sh, si, sj⟩ := hm
  simp only at sa sb sc sg sh si sj
  have s2 : Sz 2 2 := by unfold Sz; decide
  have M : ∀ {k l : Nat} {i j : Int}, Sz k i → Sz l j → k + l < 1000000 → mulOk i j = true := mulOk_sz
  have ss : Sz (max (l + l) (l + l) + 1) (x * j + h * i) := (sg.mul sj).add (sh.mul si)
  rw [Nat.max_self] at ss
  unfold m__law_led
  rw [Ok_seq]; simp [fD, mD, setG, setGs]
  rw [Ok_seq]; simp [M sa sg (by omega), M (sa.mul sg) sg (by omega), M sb sg (by omega), M (sb.mul sg) si (by omega), M sc si (by omega), M (sc.mul si) si (by omega), M sa sh (by omega), M (sa.mul sh) sh (by omega), M sb sh (by omega), M (sb.mul sh) sj (by omega), M sc sj (by omega), M (sc.mul sj) sj (by omega)]
  simp [M (s2.mul sa) sg (by omega), M ((s2.mul sa).mul sg) sh (by omega), M sg sj (by omega), M sh si (by omega), M sb ss (by omega), M (s2.mul sc) si (by omega), M ((s2.mul sc).mul si) sj (by omega), ledF]
theorem lawtimes_run {m n : Mx} {k l : Nat} (hm : SzM k m) (hn : SzM l n) (hk : k + l < 1000000) :
    Ok (Pv.run Φ fuel m__law_times [some (mD m), some (mD n), none, none, none, none, none, none, none, none] g) (retF fun r g' => r = mD (mulM m n) ∧ g' = g) := by
  obtain ⟨a, b, c, d⟩ := m
  obtain ⟨x, h, i, j⟩ := n
  obtain ⟨sa, sb, sc, sd⟩ := hm
  obtain ⟨sg, sh, si, sj⟩ := hn
  simp only at sa sb sc sd sg sh si sj
  have M : ∀ {i j : Int}, Sz k i → Sz l j → mulOk i j = true := fun h1 h2 => mulOk_sz h1 h2 hk
  unfold m__law_times
  rw [Ok_seq]; simp [mD, setG, setGs]
  simp [M sa sg, M sb si, M sa sh, M sb sj, M sc sg, M sd si, M sc sh, M sd sj, mulM]
theorem sz_one : SzM 1 oneM := ⟨by unfold Sz oneM; decide, by unfold Sz oneM; decide, by unfold Sz oneM; decide, by unfold Sz oneM; decide⟩
/-- a drawn matrix: at most many simple ones -/
theorem lawmatrix_run {i0 i1 n : Nat} {many great : Int} (hd : DkOk n g) (hn : n < 900000) (m0 : 0 ≤ many) (m1 : many ≤ 6) (g0 : 1 ≤ great) (g1 : great ≤ 10000000)
    (h0 : ∀ (n : Nat) (below : Int) g, DkOk n g → 0 < below → below.natAbs.log2 < 8999 → n < 1000000 → Ok (Φ i0 [tokD 0, .int below] g) (fun r g' => DkOk (n + 1) g' ∧ ∃ i, r = .int i ∧ 0 ≤ i ∧ i < below))
    (h1 : ∀ (m n : Mx) g, SzM 400 m → SzM 400 n → Φ i1 [mD m, mD n] g = .ok (mD (mulM m n)) g) :
    Ok (Pv.run Φ fuel (m__law_matrix i0 i1) [some (tokD 0), some (.int many), some (.int great), none, none, none, none] g) (retF fun r g' => DkOk (n + 20) g' ∧ ∃ m, r = mD m ∧ det m = 1 ∧ SzM 200 m) := by
  unfold m__law_matrix
  generalize hQ : retF _ = QQ
  have lg : ∀ x : Int, 0 ≤ x → x < 100000000 → x.natAbs.log2 < 8999 := fun x h1 h2 => by
    by_cases z : x.natAbs = 0
    · rw [z]; decide
    · exact Nat.lt_of_lt_of_le ((Nat.log2_lt z).mpr (show x.natAbs < 2 ^ 30 by omega)) (by omega)
  rw [Ok_seq]; simp
  rw [Ok_seq, Ok_for]
  simp
  refine (h0 n (many + 1) g hd (by omega) (lg _ (by omega) (by omega)) (by omega)).mono ?_
  rintro _ g1 ⟨hg1, t, rfl, t0, t1⟩
  simp [itV_r1 (show -4611686018427387904 ≤ t by omega) (by omega)]
  refine ok_forL (fun k σ g' => k ≤ 6 ∧ DkOk (n + 1 + 2 * k) g' ∧ ∃ (m : Mx) (y4 y5 y6 : Option D), σ = [some (tokD 0), some (.int many), some (.int great), some (mD m), y4, y5, y6] ∧ det m = 1 ∧ SzM (1 + 30 * k) m) ⟨by omega, hg1, oneM, none, none, none, rfl, rfl, sz_one⟩ ?_ ?_
  · rintro k x σ g' hx ⟨hk6, hg, m, y4, y5, y6, rfl, hdm, hsm⟩
    obtain ⟨hk, rfl⟩ := rng_at hx
    have hk5 : k ≤ 5 := by omega
    generalize hL : loopF _ _ = LL
    rw [Ok_turnF]; simp
    rw [Ok_seq]; simp
    refine (h0 _ 3 g' hg (by omega) (by decide) (by omega)).mono ?_
    rintro _ g2 ⟨hg2, w, rfl, w0, w1⟩
    try simp
    refine (h0 _ (2 * great + 1) g2 hg2 (by omega) (lg _ (by omega) (by omega)) (by omega)).mono ?_
    rintro _ g3 ⟨hg3, v, rfl, v0, v1⟩
    try simp
    have fin : ∀ s : Mx, det s = 1 → SzM 25 s → Φ i1 [mD m, mD s] g3 = .ok (mD (mulM m s)) g3 ∧ ∀ y4 y5 y6, LL (.nx [some (tokD 0), some (.int many), some (.int great), some (mD (mulM m s)), y4, y5, y6]) g3 := fun s hs1 hs2 => by
      refine ⟨h1 _ _ g3 (hsm.mono (by omega)) (hs2.mono (by omega)), fun y4 y5 y6 => ?_⟩
      subst hL
      refine ⟨by omega, hg3.mono (by omega), _, _, _, _, rfl, by rw [det_mul, hdm, hs1]; rfl, (sz_mulM hsm hs2).mono (by omega)⟩
    have sv : Sz 25 (v - great) := sz_of (n := 20000000) (by omega) (by decide)
    have s0 : Sz 25 0 := by unfold Sz; decide
    have s1 : Sz 25 1 := by unfold Sz; decide
    have s1' : Sz 25 (-1) := by unfold Sz; decide
    have e0 : ∀ a b c : D, idxV (.tuple [a, b, c]) (.int 0) = some a := fun a b c => idx_tuple (n := 0) rfl
    have e1 : ∀ a b c : D, idxV (.tuple [a, b, c]) (.int 1) = some b := fun a b c => idx_tuple (n := 1) rfl
    have e2 : ∀ a b c : D, idxV (.tuple [a, b, c]) (.int 2) = some c := fun a b c => idx_tuple (n := 2) rfl
    have hw : w = 0 ∨ w = 1 ∨ w = 2 := by omega
    rcases hw with rfl | rfl | rfl
    · obtain ⟨a1, a2⟩ := fin (1, v - great, 0, 1) (by simp [det]) ⟨s1, sv, s0, s1⟩
      simp only [mD] at a1 a2
      simp [e0, mD, a1]
      exact a2 _ _ _
    · obtain ⟨a1, a2⟩ := fin (1, 0, v - great, 1) (by simp [det]) ⟨s1, s0, sv, s1⟩
      simp only [mD] at a1 a2
      simp [e1, mD, a1]
      exact a2 _ _ _
    · obtain ⟨a1, a2⟩ := fin (0, -1, 1, 0) (by simp [det]) ⟨s0, s1', s1, s0⟩
      simp only [mD] at a1 a2
      simp [e2, mD, a1]
      exact a2 _ _ _
  · rintro σ g' ⟨hk6, hg, m, y4, y5, y6, rfl, hdm, hsm⟩
    rw [rng_len] at hk6 hg hsm
    simp
    subst hQ
    exact ⟨hg.mono (by omega), m, rfl, hdm, hsm.mono (by omega)⟩
end Xk40
end

section
/-! FoS: values of many kinds looked at: matrices, reduced forms, certificates. -/
set_option autoImplicit false
namespace Xk40
open PySem Pv
variable {Φ : Fns} {g : G}
def areI (v : D) (n : Nat) : Bool := match v with
  | .tuple xs => decide (xs.length = n) && xs.all isI
  | _ => false
theorem areI_4 {v : D} (h : areI v 4 = true) : ∃ m : Mx, v = mD m := by
  unfold areI at h
  split at h
  · rename_i xs
    simp only [Bool.and_eq_true, decide_eq_true_eq] at h
    obtain ⟨h1, h2⟩ := h
    match xs, h1, h2 with
    | [a, b, c, d], _, h2 =>
      simp only [List.all_cons, List.all_nil, Bool.and_true, Bool.and_eq_true] at h2
      obtain ⟨h3, h4, h5, h6⟩ := h2
      cases a <;> simp [isI] at h3
      cases b <;> simp [isI] at h4
      cases c <;> simp [isI] at h5
      cases d <;> simp [isI] at h6
      exact ⟨(_, _, _, _), rfl⟩
  · cases h
theorem areI_mD (m : Mx) : areI (mD m) 4 = true := rfl
theorem isMx_of {v : D} (h : areI v 4 = false) : isMx v = false := by
  unfold isMx
  cases e : mxV v with
  | none => rfl
  | some m =>
    obtain ⟨rfl, _⟩ := mxV_some e
    rw [areI_mD] at h
    cases h
theorem isMx_mD (m : Mx) : isMx (mD m) = decide (det m = 1) := by
  obtain ⟨a, b, c, d⟩ := m
  unfold isMx
  show (if a * d - b * c = 1 then some (a, b, c, d) else none).isSome = _
  unfold det
  by_cases h : a * d - b * c = 1 <;> simp [h]
theorem all_b {α : Type} (f : α → Bool) : ∀ xs : List α, boolsOf (xs.map fun x => .bool (f x)) = some (xs.map f)
  | [] => rfl
  | x :: xs => by
    rw [List.map_cons]
    unfold boolsOf
    rw [all_b f xs]
    rfl
theorem bi_all {α : Type} (f : α → Bool) (xs : List α) : biV .all [.list (xs.map fun x => .bool (f x))] = some (.bool (xs.all f)) := by
  show (boolsOf (xs.map fun x => .bool (f x))).map (fun bs => PyData.bool (bs.all id)) = _
  rw [all_b]
  simp [List.all_map]
/-- [f(x) for x in xs] where f leaves the deck alone -/
theorem comp_all {σ : Sl} {t i0 : Nat} {p : D → Bool} {xs : List D} {Q : List D → G → Prop} (ht : t < σ.length) (h : ∀ x ∈ xs, Φ i0 [x] g = .ok (.bool (p x)) g) (q : Q (xs.map fun x => .bool (p x)) g) :
    Ok (compL (itemF Φ [t] σ (.c (.bool true)) (.call i0 (.cons (.var t) .nil))) xs [] g) Q := by
  have e : xs = xs.map id := by simp
  rw [e]
  refine ok_compM (em := id) (eo := id) (u := fun x => some (.bool (p x))) (fun x hx => ?_) ?_
  · rw [Ok_itemF]
    have l : ((wipeS σ [t]).set t (some x))[t]? = some (some x) := by
      rw [List.getElem?_set_self]
      simp [wipeS, ht]
    refine ⟨_, rfl, ?_⟩
    simp [l, h x hx]
  · simpa [List.filterMap_eq_map'] using q
/-- [x for x in xs if not f(x)] -/
theorem comp_not {σ : Sl} {t i0 : Nat} {p : D → Bool} {xs : List D} {Q : List D → G → Prop} (ht : t < σ.length) (h : ∀ x ∈ xs, Φ i0 [x] g = .ok (.bool (p x)) g) (q : Q (xs.filter fun x => !p x) g) :
    Ok (compL (itemF Φ [t] σ (.not (.truth (.call i0 (.cons (.var t) .nil)))) (.var t)) xs [] g) Q := by
  have e : xs = xs.map id := by simp
  rw [e]
  refine ok_compM (em := id) (eo := id) (u := fun x => if !p x then some x else none) (fun x hx => ?_) ?_
  · rw [Ok_itemF]
    have l : ((wipeS σ [t]).set t (some x))[t]? = some (some x) := by
      rw [List.getElem?_set_self]
      simp [wipeS, ht]
    refine ⟨_, rfl, ?_⟩
    cases hp : p x <;> simp [l, h x hx, hp]
  · have : (xs.filterMap fun x => if !p x then some x else none) = xs.filter fun x => !p x := by
      rw [← List.filterMap_eq_filter]; rfl
    rw [this]
    simpa using q
theorem ne_nil_l (p : D → Bool) (xs : List D) : cmpV .ne (.list (xs.filter fun x => !p x)) (.list []) = some (!xs.all p) ∧ cmpV .eq (.list (xs.filter fun x => !p x)) (.list []) = some (xs.all p) := by
  have key : eqD (.list (xs.filter fun x => !p x)) (.list []) = some (xs.all p) := by
    cases e : xs.filter fun x => !p x with
    | nil =>
      have : xs.all p = true := by
        rw [List.all_eq_true]
        intro x hx
        have := List.filter_eq_nil_iff.mp e x hx
        simpa using this
      rw [this]; rfl
    | cons y ys =>
      have : xs.all p = false := by
        have hy : y ∈ xs.filter fun x => !p x := by rw [e]; exact List.mem_cons_self
        obtain ⟨h1, h2⟩ := List.mem_filter.mp hy
        rw [List.all_eq_false]
        exact ⟨y, h1, by simpa using h2⟩
      rw [this]
      show (if shp (.list (y :: ys)) && shp (.list []) then some (PyData.eqv (.list (y :: ys)) (.list [])) else lensV (.list (y :: ys)) (.list [])) = _
      split
      · simp [PyData.eqv, PyData.eqvAll]
      · rfl
  refine ⟨?_, key⟩
  show (eqD (.list (xs.filter fun x => !p x)) (.list [])).map (!·) = _
  rw [key]; rfl
theorem are_integersV_run {i0 : Nat} {v : D} {n : Nat} (h : FitM v) (h0 : ∀ v g, isDk v = false → Φ i0 [v] g = .ok (.bool (isI v)) g) : Ok (Pv.run Φ fuel (m_are_integers i0) [some v, some (.int n), none] g) (retF fun r g' => r = .bool (areI v n) ∧ g' = g) := by
  unfold m_are_integers
  rw [Ok_seq]
  have nd := h.nd
  cases v with
  | tuple xs =>
    have hl := h.len xs rfl
    by_cases q : xs.length = n
    · have e : biV .all [.list (xs.map fun x => .bool (isI x))] = some (.bool (xs.all isI)) := bi_all isI xs
      simp [biV, isDk, lenV, q]
      refine ⟨_, rfl, by unfold lineN; omega, ?_⟩
      refine comp_all (by simp) (fun x hx => h0 x g (h.it xs rfl x hx)) ?_
      refine ⟨_, ⟨_, all_b isI xs, rfl⟩, ?_⟩
      simp [areI, q, List.all_map]
    · have q2 : ¬ ((xs.length : Int) = n) := by omega
      simp [biV, isDk, lenV, q, q2, areI]
  | dict kvs =>
    have nd2 : isDeck kvs = false := nd
    simp [biV, isDk, nd2, areI]
  | _ => simp [biV, isDk, areI]
theorem is_reduced_run {i0 : Nat} {f : Fm} (hf : isForm f) (h0 : Φ i0 [fD f] g = .ok (.bool (decide (isForm f))) g) :
    Ok (Pv.run Φ fuel (m_is_reduced i0) [some (fD f), none, none, none] g) (retF fun r g' => r = .bool (decide (Red f)) ∧ g' = g) := by
  unfold m_is_reduced
  generalize hQ : retF _ = QQ
  rw [Ok_seq]; simp [h0, hf]
  have a0 := hf.1
  obtain ⟨a, b, c⟩ := f
  simp only at a0
  rw [Ok_seq]; simp [fD]
  have key : Red (a, b, c) ↔ -a < b ∧ b ≤ a ∧ a ≤ c ∧ (a = c → 0 ≤ b) := ⟨fun h => ⟨h.lo, h.hi, h.ac, h.eq⟩, fun ⟨h1, h2, h3, h4⟩ => ⟨a0, h1, h2, h3, h4⟩⟩
  by_cases q1 : -a < b
  · by_cases q2 : b ≤ a
    · by_cases q3 : a ≤ c
      · by_cases q4 : a = c
        · by_cases q5 : b < 0
          · have n : ¬ Red (a, b, c) := fun z => by have := (key.mp z).2.2.2 q4; omega
            simp [q1, q2, q3, q4, q5]
            subst q4; subst hQ
            simp [n]
            omega
          · have y : Red (a, b, c) := key.mpr ⟨q1, q2, q3, fun _ => by omega⟩
            simp [q1, q2, q3, q4, q5]
            subst q4; subst hQ
            simp [y]
            omega
        · have y : Red (a, b, c) := key.mpr ⟨q1, q2, q3, fun z => absurd z q4⟩
          simp [q1, q2, q3, q4]
          subst hQ
          simp [y]
      · have n : ¬ Red (a, b, c) := fun z => q3 (key.mp z).2.2.1
        simp [q1, q2, q3]
        subst hQ
        simp [n]
        omega
    · have n : ¬ Red (a, b, c) := fun z => q2 (key.mp z).2.1
      simp [q1, q2]
      subst hQ
      simp [n]
      omega
  · have n : ¬ Red (a, b, c) := fun z => q1 (key.mp z).1
    simp [q1]
    subst hQ
    simp [n]
    omega
theorem RedOf.sz {f f' : Fm} {m : Mx} (h : RedOf f f' m) (hf : isForm f) (s : SzK 150 f) : SzK 20 f' ∧ SzM 330 m ∧ isForm f' := by
  obtain ⟨r, e, d, _, _⟩ := h
  have ff : isForm f' := by rw [e]; exact hf.led d
  have rf : Rf (disc f') f' := ⟨r, rfl, ff.2.2⟩
  have s2 := rf.sz ff.2.1.1 ff.2.1.2.1
  exact ⟨s2, (sz_mat hf.good d e s s2).mono (by omega), ff⟩
theorem fD_inj {f h : Fm} : fD f = fD h ↔ f = h := by
  obtain ⟨a, b, c⟩ := f
  obtain ⟨x, y, z⟩ := h
  simp [fD]
theorem eqv_f (f h : Fm) : PyData.eqv (fD f) (fD h) = decide (f = h) := by
  obtain ⟨a, b, c⟩ := f
  obtain ⟨x, y, z⟩ := h
  by_cases h1 : a = x <;> by_cases h2 : b = y <;> by_cases h3 : c = z <;> simp [fD, PyData.eqv, PyData.eqvAll, h1, h2, h3]
theorem eq_f (f h : Fm) : cmpV .eq (fD f) (fD h) = some (decide (f = h)) := by
  show (if shp (fD f) && shp (fD h) then some (PyData.eqv (fD f) (fD h)) else lensV (fD f) (fD h)) = _
  rw [shp_form, shp_form, eqv_f]; rfl
theorem ne_f (f h : Fm) : cmpV .ne (fD f) (fD h) = some (!decide (f = h)) := by
  have e := eq_f f h
  show (eqD (fD f) (fD h)).map (!·) = _
  rw [show eqD (fD f) (fD h) = some (decide (f = h)) from e]; rfl
end Xk40
end

section
/-! FoT: the same, by the law's own look; certificates. -/
set_option autoImplicit false
namespace Xk40
open PySem Pv
variable {Φ : Fns} {g : G}
theorem law_reduced_run {i0 i1 : Nat} {f : Fm} (hg : GoodF f) (hs : SzK 150 f) (h0 : ∀ f m g, SzK kb f → SzM kb m → Φ i0 [fD f, mD m] g = .ok (fD (ledF f m)) g) (h1 : ∀ m n g, SzM kb m → SzM kb n → Φ i1 [mD m, mD n] g = .ok (mD (mulM m n)) g) :
    Ok (Pv.run Φ fuel (m__law_reduced i0 i1) [some (fD f), none, none, none] g) (retF fun r g' => (∃ f' m, r = .tuple [fD f', mD m] ∧ RedOf f f' m) ∧ g' = g) := by
  unfold m__law_reduced
  generalize hQ : retF _ = QQ
  have hs0 : SzK k0 f := hs.mono (by unfold k0; omega)
  rw [Ok_seq]; simp
  rw [Ok_seq, Ok_for]
  simp [itV_r1 (show -4611686018427387904 ≤ (400 : Int) by omega) (by omega)]
  refine ok_forL (fun k σ g' => g' = g ∧ ∃ f1 m y2 y3, σ = [some (fD f1), some (mD m), y2, y3] ∧ Way f f1 m ∧ T2 f1 + k ≤ 399) ⟨rfl, f, oneM, none, none, rfl, Way.start hg hs0, by have := t2_le hg hs.a; omega⟩ ?_ ?_
  · rintro k x σ g' hx ⟨rfl, f1, m, y2, y3, rfl, w, ht⟩
    obtain ⟨hk, rfl⟩ := rng_at hx
    generalize hL : loopF _ _ = LL
    have a0 := w.good.a0
    have sK := w.szK hs0
    have sM := w.szM hg hs0
    obtain ⟨w1, s1⟩ := w.shift hs0
    have sK1 := w1.szK hs0
    have sM1 := w1.szM hg hs0
    have c1 := h0 f1 (shM f1) g' sK s1
    have c2 := h1 m (shM f1) g' sM s1
    have e0 : idxV (fD f1) (.int 0) = some (.int f1.1) := idx_tuple (n := 0) rfl
    have e1 : idxV (fD f1) (.int 1) = some (.int f1.2.1) := idx_tuple (n := 1) rfl
    have sa : Sz k0 f1.1 := sz_le hs0.a (by have := w.sa; omega) w.sa
    have l9 : (2 * f1.1).natAbs.log2 < 9000 := by
      have := ((show Sz 2 2 by unfold Sz; decide).mul sa).log
      unfold k0 at this
      omega
    have es : PyData.tuple [.int 1, .int ((f1.1 - f1.2.1) / (2 * f1.1)), .int 0, .int 1] = mD (shM f1) := rfl
    rw [Ok_turnF]; simp
    rw [Ok_seq]; simp [e0, e1, show 0 < 2 * f1.1 by omega, l9]
    rw [es]
    rw [Ok_seq]; simp [c1, c2]
    rw [show ledF f1 (shM f1) = shF f1 from rfl]
    have d0 : idxV (fD (shF f1)) (.int 0) = some (.int (shF f1).1) := idx_tuple (n := 0) rfl
    have d1 : idxV (fD (shF f1)) (.int 1) = some (.int (shF f1).2.1) := idx_tuple (n := 1) rfl
    have d2 : idxV (fD (shF f1)) (.int 2) = some (.int (shF f1).2.2) := idx_tuple (n := 2) rfl
    rw [Ok_seq]
    by_cases hst : stopF (shF f1)
    · have fin : LL (.bk [some (fD (shF f1)), some (mD (mulM m (shM f1))), some (.int (0 + (k : Int))), some (mD (shM f1))]) g' := by
        subst hL
        simp
        subst hQ
        exact ⟨⟨_, _, rfl, sh_red a0 hst, w1.led, w1.det, sK1, sM1⟩, rfl⟩
      simp only [Int.zero_add] at fin
      have hst2 := hst
      unfold stopF at hst2
      by_cases q1 : (shF f1).1 < (shF f1).2.2
      · simp [d0, d1, d2, q1]
        exact fin
      · have q2 : (shF f1).1 = (shF f1).2.2 ∧ 0 ≤ (shF f1).2.1 := hst2.resolve_left q1
        simp [d0, d1, d2, q2.1, q2.2]
        exact fin
    · have w2 := w.swap hs0 hst
      have sK2 := w2.szK hs0
      have sw : SzM kb swM := by
        have : SzM 1 swM := ⟨by unfold Sz swM; decide, by unfold Sz swM; decide, by unfold Sz swM; decide, by unfold Sz swM; decide⟩
        exact this.mono (by unfold kb; omega)
      have c3 := h0 (shF f1) swM g' sK1 sw
      have c4 := h1 (mulM m (shM f1)) swM g' sM1 sw
      have ew : PyData.tuple [.int 0, .int (-1), .int 1, .int 0] = mD swM := rfl
      have lt := t2_next w.good hst
      have nx : LL (.nx [some (fD (ledF (shF f1) swM)), some (mD (mulM (mulM m (shM f1)) swM)), some (.int k), some (mD (shM f1))]) g' := by
        subst hL
        exact ⟨rfl, _, _, _, _, rfl, w2, by omega⟩
      have hst2 := hst
      unfold stopF at hst2
      have q1 : ¬ (shF f1).1 < (shF f1).2.2 := fun z => hst2 (.inl z)
      by_cases q2 : (shF f1).1 = (shF f1).2.2
      · have q3 : ¬ 0 ≤ (shF f1).2.1 := fun z => hst2 (.inr ⟨q2, z⟩)
        simp [d0, d1, d2, q2, q3, ew, c3, c4]
        exact nx
      · simp [d0, d1, d2, q1, q2, ew, c3, c4]
        exact nx
  · rintro σ g' ⟨rfl, f1, m, y2, y3, rfl, w, ht⟩
    rw [rng_len] at ht
    have : (400 : Int).toNat = 400 := rfl
    omega
end Xk40
end

section
/-! FoLm: drawn matrices; the forms looked at. -/
set_option autoImplicit false
namespace Xk40
open PySem Pv
variable {Φ : Fns} {g : G}
theorem lawmatrix2_run {i0 i1 n l : Nat} {many great : Int} (hd : DkOk n g) (hn : n < 900000) (m0 : 0 ≤ many) (m1 : many ≤ 6) (g0 : 1 ≤ great) (g1 : great ≤ 10000000) (hl : great.natAbs < 2 ^ l) (l1 : 1 ≤ l) (l2 : l ≤ 30)
    (h0 : ∀ (n : Nat) (below : Int) g, DkOk n g → 0 < below → below.natAbs.log2 < 8999 → n < 1000000 → Ok (Φ i0 [tokD 0, .int below] g) (fun r g' => DkOk (n + 1) g' ∧ ∃ i, r = .int i ∧ 0 ≤ i ∧ i < below))
    (h1 : ∀ (m n : Mx) g, SzM 400 m → SzM 400 n → Φ i1 [mD m, mD n] g = .ok (mD (mulM m n)) g) :
    Ok (Pv.run Φ fuel (m__law_matrix i0 i1) [some (tokD 0), some (.int many), some (.int great), none, none, none, none] g) (retF fun r g' => DkOk (n + 20) g' ∧ ∃ m, r = mD m ∧ det m = 1 ∧ SzM (1 + (l + 1) * many.toNat) m) := by
  unfold m__law_matrix
  generalize hQ : retF _ = QQ
  have lg : ∀ x : Int, 0 ≤ x → x < 100000000 → x.natAbs.log2 < 8999 := fun x h1 h2 => by
    by_cases z : x.natAbs = 0
    · rw [z]; decide
    · exact Nat.lt_of_lt_of_le ((Nat.log2_lt z).mpr (show x.natAbs < 2 ^ 30 by omega)) (by omega)
  have one : SzM 1 oneM := sz_one
  rw [Ok_seq]; simp
  rw [Ok_seq, Ok_for]
  simp
  refine (h0 n (many + 1) g hd (by omega) (lg _ (by omega) (by omega)) (by omega)).mono ?_
  rintro _ g1 ⟨hg1, t, rfl, t0, t1⟩
  simp [itV_r1 (show -4611686018427387904 ≤ t by omega) (by omega)]
  refine ok_forL (fun k σ g' => k ≤ t.toNat ∧ DkOk (n + 1 + 2 * k) g' ∧ ∃ (m : Mx) (y4 y5 y6 : Option D), σ = [some (tokD 0), some (.int many), some (.int great), some (mD m), y4, y5, y6] ∧ det m = 1 ∧ SzM (1 + (l + 1) * k) m) ⟨by omega, hg1, oneM, none, none, none, rfl, rfl, one⟩ ?_ ?_
  · rintro k x σ g' hx ⟨hk6, hg, m, y4, y5, y6, rfl, hdm, hsm⟩
    obtain ⟨hk, rfl⟩ := rng_at hx
    have hk5 : k ≤ 5 := by omega
    have kl : (l + 1) * k ≤ 31 * 5 := Nat.mul_le_mul (by omega) hk5
    generalize hL : loopF _ _ = LL
    rw [Ok_turnF]; simp
    rw [Ok_seq]; simp
    refine (h0 _ 3 g' hg (by omega) (by decide) (by omega)).mono ?_
    rintro _ g2 ⟨hg2, w, rfl, w0, w1⟩
    try simp
    refine (h0 _ (2 * great + 1) g2 hg2 (by omega) (lg _ (by omega) (by omega)) (by omega)).mono ?_
    rintro _ g3 ⟨hg3, v, rfl, v0, v1⟩
    try simp
    have fin : ∀ s : Mx, det s = 1 → SzM l s → Φ i1 [mD m, mD s] g3 = .ok (mD (mulM m s)) g3 ∧ ∀ y4 y5 y6, LL (.nx [some (tokD 0), some (.int many), some (.int great), some (mD (mulM m s)), y4, y5, y6]) g3 := fun s hs1 hs2 => by
      refine ⟨h1 _ _ g3 (hsm.mono (by omega)) (hs2.mono (by omega)), fun y4 y5 y6 => ?_⟩
      subst hL
      refine ⟨by omega, hg3.mono (by omega), _, _, _, _, rfl, by rw [det_mul, hdm, hs1]; rfl, (sz_mulM hsm hs2).mono (by rw [Nat.mul_succ]; omega)⟩
    have sv : Sz l (v - great) := by unfold Sz; omega
    have s0 : Sz l 0 := (show Sz 1 0 by unfold Sz; decide).mono l1
    have s1 : Sz l 1 := (show Sz 1 1 by unfold Sz; decide).mono l1
    have s1' : Sz l (-1) := (show Sz 1 (-1) by unfold Sz; decide).mono l1
    have e0 : ∀ a b c : D, idxV (.tuple [a, b, c]) (.int 0) = some a := fun a b c => idx_tuple (n := 0) rfl
    have e1 : ∀ a b c : D, idxV (.tuple [a, b, c]) (.int 1) = some b := fun a b c => idx_tuple (n := 1) rfl
    have e2 : ∀ a b c : D, idxV (.tuple [a, b, c]) (.int 2) = some c := fun a b c => idx_tuple (n := 2) rfl
    have hw : w = 0 ∨ w = 1 ∨ w = 2 := by omega
    rcases hw with rfl | rfl | rfl
    · obtain ⟨a1, a2⟩ := fin (1, v - great, 0, 1) (by simp [det]) ⟨s1, sv, s0, s1⟩
      simp only [mD] at a1 a2
      simp [e0, mD, a1]
      exact a2 _ _ _
    · obtain ⟨a1, a2⟩ := fin (1, 0, v - great, 1) (by simp [det]) ⟨s1, s0, sv, s1⟩
      simp only [mD] at a1 a2
      simp [e1, mD, a1]
      exact a2 _ _ _
    · obtain ⟨a1, a2⟩ := fin (0, -1, 1, 0) (by simp [det]) ⟨s0, s1', s1, s0⟩
      simp only [mD] at a1 a2
      simp [e2, mD, a1]
      exact a2 _ _ _
  · rintro σ g' ⟨hk6, hg, m, y4, y5, y6, rfl, hdm, hsm⟩
    rw [rng_len] at hk6 hg hsm
    simp
    subst hQ
    exact ⟨hg.mono (by omega), m, rfl, hdm, hsm.mono (Nat.add_le_add_left (Nat.mul_le_mul_left _ (by omega)) _)⟩
theorem rev_form {d : Int} {f : Fm} (h : Rf d f) (hd : isDisc d) : isForm (f.1, 0 - f.2.1, f.2.2) ∧ disc (f.1, 0 - f.2.1, f.2.2) = d := by
  obtain ⟨a, b, c⟩ := f
  have ff := Rf_form h hd
  have e : disc (a, 0 - b, c) = d := by
    have := h.disc
    unfold disc at *
    simp only at *
    have e0 : 0 - b = -b := by omega
    rw [e0, Int.neg_mul_neg]
    exact this
  refine ⟨⟨ff.1, by rw [e]; exact hd, ?_⟩, e⟩
  have p := ff.2.2
  have e0 : 0 - b = -b := by omega
  simp only [e0, Int.gcd_neg] at p ⊢
  exact p
theorem pw13 : powOk 10 13 = true := by decide
/-- one of the forms looked at -/
def Lk (d : Int) (f : Fm) : Prop := isForm f ∧ SzK 150 f ∧ disc f = d
theorem rf_lk {d : Int} {f : Fm} (h : Rf d f) (hd : isDisc d) : Lk d f := ⟨Rf_form h hd, (h.sz hd.1 hd.2.1).mono (by omega), h.disc⟩
theorem lk_led {d : Int} {f : Fm} {m : Mx} {k l : Nat} (h : isForm f) (e : disc f = d) (s : SzK k f) (dm : det m = 1) (sm : SzM l m) (hk : k + l + l + 6 ≤ 150) : Lk d (ledF f m) := ⟨h.led dm, (sz_led s sm).mono hk, by rw [disc_led, dm, e]; omega⟩
end Xk40
end

section
/-! FoZa: products of classes, by the program. -/
set_option autoImplicit false
namespace Xk40
open PySem Pv
variable {Φ : Fns} {g : G}
theorem fo_of {d : Int} {f : Fm} (h : isForm f) (e : disc f = d) : Fo d f := ⟨h.1, e, h.2.2⟩
theorem _root_.Pv.Fo.form {d : Int} {f : Fm} (h : Fo d f) (D : Dd d) : isForm f := ⟨h.a0, by rw [h.disc]; exact ⟨D.lo, D.hi, D.md⟩, h.prim⟩
theorem dd_of {d : Int} (h : isDisc d) : Dd d := ⟨h.1, h.2.1, h.2.2⟩
theorem RedOf.cl {d : Int} {f f' : Fm} {m : Mx} (h : RedOf f f' m) (hf : Fo d f) (D : Dd d) : f' = clF d f := by
  rw [h.2.1]
  exact (clF_led hf D h.2.2.1 (h.2.1 ▸ h.1)).symm
/-- what a call that reduces answers -/
def RedC (Φ : Fns) (i : Nat) (d : Int) (k : Nat) : Prop := ∀ (f : Fm) g, Fo d f → SzK k f → Ok (Φ i [fD f] g) fun r g' => (∃ m, r = .tuple [fD (clF d f), mD m]) ∧ g' = g
theorem fdv_v {i j : Int} (hj : j ≠ 0) (hl : j.natAbs.log2 < 9000) : binV .fdiv (.int i) (.int j) = some (.int (i.fdiv j)) := by
  rw [binV_fdiv]
  rcases Int.lt_or_gt_of_ne hj with h | h
  · rw [if_neg (by omega), if_pos ⟨h, hl⟩]
  · rw [if_pos ⟨h, hl⟩, Int.fdiv_eq_ediv_of_nonneg i (by omega)]
theorem bezout_run {a b : Int} {k : Nat} (sa : Sz k a) (sb : Sz k b) (hk : k ≤ 160) : Ok (Pv.run Φ fuel m_bezout [some (.int a), some (.int b), none, none, none, none, none] g)
    (retF fun r g' => (∃ x y : Int, r = .tuple [.int (Int.gcd a b), .int x, .int y] ∧ x * a + y * b = Int.gcd a b ∧ Sz 60000 x ∧ Sz 60000 y) ∧ g' = g) := by
  unfold m_bezout
  generalize hQ : retF _ = QQ
  rw [Ok_seq]; simp
  rw [Ok_seq, Ok_while]
  refine ok_whileL (fun m σ g' => g' = g ∧ ∃ (j : Nat) (one other x y nx ny : Int) (y6 : Option D), σ = [some (.int one), some (.int other), some (.int x), some (.int y), some (.int nx), some (.int ny), y6] ∧ BzS a b k m j one other x y nx ny) ?_ fuel (2 * k + 1) (by unfold fuel; omega) ⟨rfl, 0, a, b, 1, 0, 0, 1, none, rfl, .start sa sb⟩
  rintro m σ g' ⟨rfl, j, one, other, x, y, nx, ny, y6, rfl, h⟩
  have jl : j ≤ 2 * k + 1 := by have := h.mj; omega
  have kj : (k + 2) * j ≤ 162 * 321 := Nat.mul_le_mul (by omega) (by omega)
  generalize hL : loopF _ _ = LL
  simp
  by_cases ho : other = 0
  · subst ho
    have e1 := h.e1
    have gc := h.gc
    rw [Int.gcd_zero_right] at gc
    have sx := h.sx.mono (show _ ≤ 60000 by omega)
    have sy := h.sy.mono (show _ ≤ 60000 by omega)
    simp
    subst hL
    rw [Ok_seq]
    by_cases q : one < 0
    · simp [q]
      subst hQ
      have e : (Int.gcd a b : Int) = -one := by omega
      exact ⟨⟨-x, -y, by rw [e], by rw [e]; grind, sx.neg, sy.neg⟩, rfl⟩
    · simp [q]
      subst hQ
      have e : (Int.gcd a b : Int) = one := by omega
      exact ⟨⟨x, y, by rw [e], by rw [e]; exact e1, sx, sy⟩, rfl⟩
  · obtain ⟨m', lt, h'⟩ := h.step ho
    have lo : other.natAbs.log2 < 9000 := by have := h.s2.log; omega
    have sq := fdv_sz ho h.s1
    have m1 : mulOk (one.fdiv other) other = true := mulOk_sz sq h.s2 (by omega)
    have m2 : mulOk (one.fdiv other) nx = true := mulOk_sz sq h.snx (by omega)
    have m3 : mulOk (one.fdiv other) ny = true := mulOk_sz sq h.sny (by omega)
    simp [ho]
    rw [Ok_seq]; simp [-binV_fdiv, fdv_v ho lo]
    rw [Ok_seq]; simp [m1]
    rw [Ok_seq]; simp [m2]
    simp [m3]
    subst hL
    exact ⟨m', lt, rfl, j + 1, _, _, _, _, _, _, _, rfl, h'⟩
theorem sz_ediv {i j : Int} {k : Nat} (hj : 0 < j) (h : Sz k i) : Sz k (i / j) := by
  have := fdv_sz (show j ≠ 0 by omega) h
  rwa [Int.fdiv_eq_ediv_of_nonneg i (by omega)] at this
theorem sz_disc {d : Int} (D : Dd d) : Sz 15 d := by have := D.lo; have := D.hi; unfold Sz; omega
theorem sz_last {d n b : Int} {k : Nat} (D : Dd d) (n0 : 0 < n) (hn : Sz k n) (hk : 16 ≤ k) (b0 : 0 ≤ b) (b1 : b < 2 * n) : SzK (k + 2) (ofN d n b) := by
  have d1 := D.lo
  have d2 := D.hi
  have bb : b * b ≤ (2 * n) * (2 * n) := Int.mul_le_mul (by omega) (by omega) b0 (by omega)
  have b2 := sq_nn b
  have c0 : 0 ≤ (b * b - d) / (4 * n) := Int.ediv_nonneg (by omega) (by omega)
  have c1 : (b * b - d) / (4 * n) < n + 20000 := Int.ediv_lt_of_lt_mul (by omega) (by
    have : 20000 * 4 ≤ 20000 * (4 * n) := mulL (by omega) (by omega)
    grind)
  have p : (2 : Nat) ^ 16 ≤ 2 ^ k := Nat.pow_le_pow_right (by omega) hk
  have e2 : (2 : Nat) ^ (k + 2) = 2 ^ k * 4 := by rw [Nat.pow_add]
  unfold Sz at hn
  refine ⟨Nat.lt_of_lt_of_le hn (by omega), ?_, ?_⟩
  · show b.natAbs < 2 ^ (k + 2)
    omega
  · show ((b * b - d) / (4 * n)).natAbs < 2 ^ (k + 2)
    generalize (b * b - d) / (4 * n) = c at *
    omega
theorem compose_run {i0 i1 i2 : Nat} {d : Int} {f1 f2 : Fm} (D : Dd d) (h1 : Fo d f1) (h2 : Fo d f2) (s1 : SzK 150 f1) (s2 : SzK 150 f2)
    (hb : ∀ (a b : Int) g, Sz 160 a → Sz 160 b → Ok (Φ i0 [.int a, .int b] g) fun r g' => (∃ x y : Int, r = .tuple [.int (Int.gcd a b), .int x, .int y] ∧ x * a + y * b = Int.gcd a b ∧ Sz 60000 x ∧ Sz 60000 y) ∧ g' = g)
    (hd : Φ i1 [fD f1] g = .ok (.int d) g) (hr : RedC Φ i2 d 400) :
    Ok (Pv.run Φ fuel (m_compose i0 i1 i2) [some (fD f1), some (fD f2), none, none, none, none, none, none, none, none, none, none, none, none, none, none, none, none] g) (retF fun r g' => r = fD (prC d f1 f2) ∧ g' = g) := by
  unfold m_compose
  generalize hQ : retF _ = QQ
  have p1 := par_b h1.disc D.md
  have p2 := par_b h2.disc D.md
  have a1 := h1.a0
  have a2 := h2.a0
  have hdd := h2.disc
  rw [Ok_seq]; simp [show setT [2, 3, 4] (fD f1) [some (fD f1), some (fD f2), none, none, none, none, none, none, none, none, none, none, none, none, none, none, none, none] = some [some (fD f1), some (fD f2), some (.int f1.1), some (.int f1.2.1), some (.int f1.2.2), none, none, none, none, none, none, none, none, none, none, none, none, none] from rfl]
  rw [Ok_seq]; simp [show setT [5, 6, 4] (fD f2) [some (fD f1), some (fD f2), some (.int f1.1), some (.int f1.2.1), some (.int f1.2.2), none, none, none, none, none, none, none, none, none, none, none, none, none] = some [some (fD f1), some (fD f2), some (.int f1.1), some (.int f1.2.1), some (.int f2.2.2), some (.int f2.1), some (.int f2.2.1), none, none, none, none, none, none, none, none, none, none, none] from rfl]
  rw [Ok_seq]; simp [hd]
  rw [Ok_seq]; simp
  rw [Ok_seq]; simp
  refine (hb f1.1 f2.1 g (s1.a.mono (by omega)) (s2.a.mono (by omega))).mono ?_
  rintro _ g1 ⟨⟨x, y, rfl, e1, sx, sy⟩, rfl⟩
  simp
  have sh : Sz 151 ((f1.2.1 + f2.2.1) / 2) := sz_ediv (by omega) (s1.b.add s2.b)
  rw [Ok_seq]; simp
  refine (hb (Int.gcd f1.1 f2.1) ((f1.2.1 + f2.2.1) / 2) g1 ((sz_gcd s1.a s2.a).mono (by omega)) (sh.mono (by omega))).mono ?_
  rintro _ g2 ⟨⟨e, z, rfl, e2, se, sz⟩, rfl⟩
  simp
  have d0 : (Int.gcd (Int.gcd f1.1 f2.1) ((f1.2.1 + f2.2.1) / 2) : Int) ∣ Int.gcd f1.1 f2.1 := Int.gcd_dvd_left ..
  have d3 : (Int.gcd (Int.gcd f1.1 f2.1) ((f1.2.1 + f2.2.1) / 2) : Int) ∣ (f1.2.1 + f2.2.1) / 2 := Int.gcd_dvd_right ..
  have sg : Sz 151 (Int.gcd (Int.gcd f1.1 f2.1) ((f1.2.1 + f2.2.1) / 2) : Int) := sz_gcd ((sz_gcd s1.a s2.a).mono (by omega)) sh
  obtain ⟨u1, q1⟩ := Int.dvd_trans d0 (Int.gcd_dvd_left ..)
  obtain ⟨u2, q2⟩ := Int.dvd_trans d0 (Int.gcd_dvd_right ..)
  obtain ⟨v, q3⟩ := d3
  generalize hg : (Int.gcd (Int.gcd f1.1 f2.1) ((f1.2.1 + f2.2.1) / 2) : Int) = G0 at *
  rw [← e1] at e2
  have gz : G0 ≠ 0 := fun z => by
    rw [z, Int.zero_mul] at q1
    omega
  have g0 : 0 < G0 := by omega
  have bz : Bz f1 f2 G0 u1 u2 v ((f1.2.1 - f2.2.1) / 2) x y e z := by
    refine ⟨g0, q1, q2, by omega, by omega, ?_⟩
    have : G0 * (e * (x * u1 + y * u2) + z * v) = G0 * 1 := by
      rw [show G0 * (e * (x * u1 + y * u2) + z * v) = e * (x * (G0 * u1) + y * (G0 * u2)) + z * (G0 * v) by grind, ← q1, ← q2, ← q3, e2, Int.mul_one]
    exact Int.eq_of_mul_eq_mul_left gz this
  have lg : G0.natAbs.log2 < 9000 := by have := sg.log; omega
  have k1 : mulOk x f1.1 = true := mulOk_sz sx s1.a (by omega)
  have k2 : mulOk (x * f1.1) f2.2.1 = true := mulOk_sz (sx.mul s1.a) s2.b (by omega)
  have k3 : mulOk y f2.1 = true := mulOk_sz sy s2.a (by omega)
  have k4 : mulOk (y * f2.1) f1.2.1 = true := mulOk_sz (sy.mul s2.a) s1.b (by omega)
  have k5 : mulOk e (x * f1.1 * f2.2.1 + y * f2.1 * f1.2.1) = true := mulOk_sz se (((sx.mul s1.a).mul s2.b).add ((sy.mul s2.a).mul s1.b)) (by omega)
  have k6 : mulOk f1.2.1 f2.2.1 = true := mulOk_sz s1.b s2.b (by omega)
  have k7 : mulOk z ((f1.2.1 * f2.2.1 + d) / 2) = true := mulOk_sz sz (sz_ediv (by omega) ((s1.b.mul s2.b).add (sz_disc D))) (by omega)
  rw [Ok_seq]; simp [k1, k2, k3, k4, k5, k6, k7]
  -- the top
  have top : e * (x * f1.1 * f2.2.1 + y * f2.1 * f1.2.1) + z * ((f1.2.1 * f2.2.1 + d) / 2) = G0 * (f2.2.1 + 2 * u2 * (e * y * ((f1.2.1 - f2.2.1) / 2) - z * f2.2.2)) := by
    have hh : (f1.2.1 * f2.2.1 + d) / 2 = f2.2.1 * (G0 * v) - 2 * f2.1 * f2.2.2 := by
      have : f1.2.1 * f2.2.1 + d = 2 * (f2.2.1 * (G0 * v) - 2 * f2.1 * f2.2.2) := by
        rw [← hdd]
        unfold disc
        have := bz.b1; have := bz.b2
        grind
      rw [this]
      exact Int.mul_ediv_cancel_left _ (by omega)
    rw [hh, q2]
    have b1 := bz.b1
    have b2 := bz.b2
    have z1 := bz.z1
    generalize (f1.2.1 - f2.2.1) / 2 = M at *
    rw [q1, b1, b2]
    have : e * (x * (G0 * u1) * (G0 * v - M) + y * (G0 * u2) * (G0 * v + M)) + z * ((G0 * v - M) * (G0 * v) - 2 * (G0 * u2) * f2.2.2)
        = G0 * ((e * (x * u1 + y * u2) + z * v) * (G0 * v - M) + 2 * u2 * (e * y * M - z * f2.2.2)) := by grind
    rw [this, z1, Int.one_mul]
  rw [top]
  generalize hB0 : f2.2.1 + 2 * u2 * (e * y * ((f1.2.1 - f2.2.1) / 2) - z * f2.2.2) = B0 at *
  have u1e : f1.1 / G0 = u1 := by rw [q1]; exact Int.mul_ediv_cancel_left _ gz
  have u2e : f2.1 / G0 = u2 := by rw [q2]; exact Int.mul_ediv_cancel_left _ gz
  have su1 : Sz 150 u1 := by rw [← u1e]; exact sz_ediv g0 s1.a
  have su2 : Sz 150 u2 := by rw [← u2e]; exact sz_ediv g0 s2.a
  have k8 : mulOk u1 u2 = true := mulOk_sz su1 su2 (by omega)
  have tB : G0 * B0 / G0 = B0 := Int.mul_ediv_cancel_left _ gz
  have su : Sz 300 (u1 * u2) := su1.mul su2
  have u10 : 0 < u1 := by
    rcases Int.lt_or_le 0 u1 with q | q
    · exact q
    · have := Int.mul_nonneg (show 0 ≤ G0 by omega) (show 0 ≤ -u1 by omega)
      rw [Int.mul_neg] at this
      omega
  have u20 : 0 < u2 := by
    rcases Int.lt_or_le 0 u2 with q | q
    · exact q
    · have := Int.mul_nonneg (show 0 ≤ G0 by omega) (show 0 ≤ -u2 by omega)
      rw [Int.mul_neg] at this
      omega
  have uu : 0 < u1 * u2 := Int.mul_pos u10 u20
  rw [Ok_seq]; simp [g0, lg, u1e, u2e, k8]
  have s2' : Sz 2 2 := by unfold Sz; decide
  have s4' : Sz 3 4 := by unfold Sz; decide
  have k9 : mulOk 2 (u1 * u2) = true := mulOk_sz s2' su (by omega)
  have u2p : 0 < 2 * (u1 * u2) := by omega
  rw [Ok_seq]; simp [g0, lg, tB, k9, u2p]
  have r0 := Int.emod_nonneg B0 (show 2 * (u1 * u2) ≠ 0 by omega)
  have r1 := Int.emod_lt_of_pos B0 u2p
  have hBm : (B0 % (2 * (u1 * u2)) - B0) % (2 * (u1 * u2)) = 0 := by
    have e := Int.emod_add_mul_ediv B0 (2 * (u1 * u2))
    rw [show B0 % (2 * (u1 * u2)) - B0 = 2 * (u1 * u2) * (-(B0 / (2 * (u1 * u2)))) by rw [Int.mul_neg]; omega]
    exact Int.mul_emod_right ..
  generalize B0 % (2 * (u1 * u2)) = B at *
  have szR := sz_last D uu su (by omega) r0 r1
  have k10 : mulOk B B = true := mulOk_sz szR.b szR.b (by omega)
  have k11 : mulOk 4 (u1 * u2) = true := mulOk_sz s4' su (by omega)
  have l4 : (4 * (u1 * u2)).natAbs.log2 < 9000 := by have := (s4'.mul su).log; omega
  rw [Ok_seq]; simp [k10, k11, show 0 < 4 * (u1 * u2) by omega, l4]
  subst hB0
  obtain ⟨fr, _, _⟩ := bz.comp h1 h2 D hBm
  have pr := bz.pr h1 h2 D hBm
  rw [show PyData.tuple [.int (u1 * u2), .int B, .int ((B * B - d) / (4 * (u1 * u2)))] = fD (ofN d (u1 * u2) B) from rfl]
  refine (hr _ g2 fr (szR.mono (by omega))).mono ?_
  rintro _ g3 ⟨⟨m, rfl⟩, rfl⟩
  have ix : idxV (.tuple [fD (clF d (ofN d (u1 * u2) B)), mD m]) (.int 0) = some (fD (clF d (ofN d (u1 * u2) B))) := idx_tuple (n := 0) rfl
  simp [ix]
  rw [pr]
  subst hQ
  exact ⟨rfl, rfl⟩
theorem turned_about_run {i1 : Nat} {d : Int} {f : Fm} (hf : Fo d f) (hs : SzK 150 f) (hr : RedC Φ i1 d 400) :
    Ok (Pv.run Φ fuel (m_turned_about i1) [some (fD f), none, none, none] g) (retF fun r g' => r = fD (clF d (invF f)) ∧ g' = g) := by
  unfold m_turned_about
  generalize hQ : retF _ = QQ
  have s : SzK 400 (invF f) := ⟨hs.a.mono (by omega), hs.b.neg.mono (by omega), hs.c.mono (by omega)⟩
  rw [Ok_seq]; simp [show setT [1, 2, 3] (fD f) [some (fD f), none, none, none] = some [some (fD f), some (.int f.1), some (.int f.2.1), some (.int f.2.2)] from rfl]
  rw [show PyData.tuple [.int f.1, .int (-f.2.1), .int f.2.2] = fD (invF f) from rfl]
  refine (hr _ g hf.inv s).mono ?_
  rintro _ g' ⟨⟨m, rfl⟩, rfl⟩
  have e : idxV (.tuple [fD (clF d (invF f)), mD m]) (.int 0) = some (fD (clF d (invF f))) := idx_tuple (n := 0) rfl
  simp [e]
  subst hQ
  exact ⟨rfl, rfl⟩
theorem cl_sz {d : Int} {f : Fm} (D : Dd d) (h : Fo d f) : SzK 150 (clF d f) := ((clF_rf h D).sz D.lo D.hi).mono (by omega)
/-- what a call that multiplies answers -/
def CmpC (Φ : Fns) (i : Nat) (d : Int) : Prop := ∀ (f h : Fm) g, Fo d f → Fo d h → SzK 150 f → SzK 150 h → Φ i [fD f, fD h] g = .ok (fD (prC d f h)) g
theorem rf150 {d : Int} {f : Fm} (D : Dd d) (h : Rf d f) : SzK 150 f := (h.sz D.lo D.hi).mono (by omega)
theorem power_of_run {i0 i1 i2 i3 i4 : Nat} {d e : Int} {f : Fm} (D : Dd d) (hf : Fo d f) (hs : SzK 150 f) (he : Sz 1000 e) (hc : CmpC Φ i0 d) (hd : Φ i1 [fD f] g = .ok (.int d) g)
    (h1 : Φ i2 [.int d] g = .ok (fD (fstF d)) g) (hr : RedC Φ i3 d 400) (ht : ∀ f g, Fo d f → SzK 150 f → Φ i4 [fD f] g = .ok (fD (clF d (invF f))) g) :
    Ok (Pv.run Φ fuel (m_power_of i0 i1 i2 i3 i4) [some (fD f), some (.int e), none, none] g) (retF fun r g' => r = fD (zpF d f e) ∧ g' = g) := by
  unfold m_power_of
  generalize hQ : retF _ = QQ
  rw [Ok_seq]; simp
  refine (hr f g hf (hs.mono (by omega))).mono ?_
  rintro _ g' ⟨⟨m, rfl⟩, rfl⟩
  have ix : idxV (.tuple [fD (clF d f), mD m]) (.int 0) = some (fD (clF d f)) := idx_tuple (n := 0) rfl
  simp [ix]
  have c := clF_rf hf D
  have hP : ∃ P : Fl → G → Prop, P = fun fl g2 => g2 = g' ∧ ∃ (B : Fm) (l : Nat), fl = .nx [some (fD f), some (.int (l : Int)), some (fD B), none] ∧ Rf d B ∧ pwF d B l = zpF d f e ∧ Sz 1000 (l : Int) := ⟨_, rfl⟩
  obtain ⟨P, hP⟩ := hP
  rw [Ok_seq]
  refine Ok.mono (P := P) ?_ ?_
  · by_cases q : e < 0
    · simp [q]
      rw [Ok_seq]; simp [ht _ g' c.fo (rf150 D c)]
      subst hP
      refine ⟨rfl, clF d (invF f), (-e).toNat, by rw [cl_inv D hf, show (((-e).toNat : Nat) : Int) = -e by omega], clF_rf hf.inv D, ?_, ?_⟩
      · rw [pw_cl D hf.inv]
        unfold zpF
        rw [if_neg (by omega)]
      · unfold Sz at *; omega
    · simp [q]
      subst hP
      refine ⟨rfl, clF d f, e.toNat, by rw [show ((e.toNat : Nat) : Int) = e by omega], c, ?_, ?_⟩
      · rw [pw_cl D hf]
        unfold zpF
        rw [if_pos (by omega)]
      · unfold Sz at *; omega
  subst hP
  rintro _ g2 ⟨rfl, B, l, rfl, hB, ep, sl⟩
  simp
  rw [Ok_seq]; simp [hd, h1]
  rw [Ok_seq, Ok_while]
  have ff := fst_rf D.hi D.md
  refine ok_whileL (fun m σ g3 => g3 = g2 ∧ ∃ (R B : Fm) (l : Nat), σ = [some (fD f), some (.int (l : Int)), some (fD B), some (fD R)] ∧ Rf d B ∧ Rf d R ∧ prC d R (pwF d B l) = zpF d f e ∧ l < 2 ^ m) ?_ fuel 1000 (by unfold fuel; omega) ⟨rfl, fstF d, B, l, rfl, hB, ff, ?_, ?_⟩
  · rintro m σ g3 ⟨rfl, R, B, l, rfl, hB, hR, ep, lt⟩
    generalize hL : loopF _ _ = LL
    simp
    by_cases q : l = 0
    · subst q
      simp
      subst hL
      subst hQ
      refine ⟨?_, rfl⟩
      rw [← ep]
      show fD R = fD (prC d R (fstF d))
      rw [prC_one' D hR.fo, clF_red D hR]
    · simp [q]
      have c1 := hc R B g3 hR.fo hB.fo (rf150 D hR) (rf150 D hB)
      have c2 := hc B B g3 hB.fo hB.fo (rf150 D hB) (rf150 D hB)
      have tu := pw_turn D hR.fo hB.fo l
      have hB2 := prC_rf hB.fo hB.fo D
      have hR2 := prC_rf hR.fo hB.fo D
      cases m with
      | zero => simp at lt; omega
      | succ m =>
        have l2 : l / 2 < 2 ^ m := by
          rw [Nat.pow_succ] at lt
          omega
        have nx : ∀ R' : Fm, Rf d R' → prC d R' (pwF d (prC d B B) (l / 2)) = prC d R (pwF d B l) → LL (.nx [some (fD f), some (.int ((l : Int) / 2)), some (fD (prC d B B)), some (fD R')]) g3 := fun R' hR' e' => by
          subst hL
          exact ⟨m, by omega, rfl, R', _, l / 2, by rw [Int.natCast_ediv]; rfl, hB2, hR', e'.trans ep, l2⟩
        have au : augV .fdiv (.int (l : Int)) (.int 2) = some (.int ((l : Int) / 2)) := rfl
        rw [Ok_seq]
        by_cases w : l % 2 = 1
        · have w2 : (l : Int) % 2 = 1 := by omega
          rw [if_pos w] at tu
          simp [w2, c1]
          rw [Ok_seq]; simp [c2]
          simp [au]
          exact nx _ hR2 tu
        · have w2 : (l : Int) % 2 = 0 := by omega
          rw [if_neg w] at tu
          simp [w2]
          rw [Ok_seq]; simp [c2]
          simp [au]
          exact nx _ hR tu
  · rw [prC_one D (pw_fo D hB.fo l), clF_red D (pw_rf D hB.fo l), ep]
  · unfold Sz at sl; omega
theorem composed_run {i0 i1 i2 : Nat} {d : Int} {f h : Fm} (D : Dd d) (hf : Fo d f) (hh : Fo d h) (sf : SzK 150 f) (sh : SzK 150 h) (hc : CmpC Φ i0 d) (hd : ∀ f g, Fo d f → SzK 150 f → Φ i1 [fD f] g = .ok (.int d) g)
    (hi : ∀ f g, Fo d f → SzK 150 f → Φ i2 [fD f] g = .ok (.bool true) g) :
    Ok (Pv.run Φ fuel (m_composed i0 i1 i2) [some (fD f), some (fD h)] g) (retF fun r g' => r = fD (prC d f h) ∧ g' = g) := by
  unfold m_composed
  rw [Ok_seq]; simp [hi f g hf sf]
  rw [Ok_seq]; simp [hi h g hh sh]
  rw [Ok_seq]; simp [hd f g hf sf, hd h g hh sh]
  simp [hc f h g hf hh sf sh]
theorem inverse_class_run {i0 i1 : Nat} {d : Int} {f : Fm} (hf : Fo d f) (sf : SzK 150 f) (hi : Φ i0 [fD f] g = .ok (.bool true) g) (ht : Φ i1 [fD f] g = .ok (fD (clF d (invF f))) g) :
    Ok (Pv.run Φ fuel (m_inverse_class i0 i1) [some (fD f)] g) (retF fun r g' => r = fD (clF d (invF f)) ∧ g' = g) := by
  unfold m_inverse_class
  rw [Ok_seq]; simp [hi]
  simp [ht]
theorem power_run {i0 i1 : Nat} {d e : Int} {f : Fm} (hi : Φ i0 [fD f] g = .ok (.bool true) g) (ht : Φ i1 [fD f, .int e] g = .ok (fD (zpF d f e)) g) :
    Ok (Pv.run Φ fuel (m_power i0 i1) [some (fD f), some (.int e)] g) (retF fun r g' => r = fD (zpF d f e) ∧ g' = g) := by
  unfold m_power
  rw [Ok_seq]; simp [hi]
  simp [ht]
theorem order_of_class_run {i0 i1 i2 i3 i4 : Nat} {d : Int} {f : Fm} {n : Nat} (D : Dd d) (hf : Fo d f) (hs : SzK 150 f) (ho : IsOrd d f n) (nl : n ≤ 100000) (hc : CmpC Φ i0 d) (hd : Φ i1 [fD f] g = .ok (.int d) g)
    (h1 : Φ i2 [.int d] g = .ok (fD (fstF d)) g) (hi : Φ i3 [fD f] g = .ok (.bool true) g) (hr : RedC Φ i4 d 400) :
    Ok (Pv.run Φ fuel (m_order_of_class i0 i1 i2 i3 i4) [some (fD f), none, none, none] g) (retF fun r g' => r = .int n ∧ g' = g) := by
  unfold m_order_of_class
  generalize hQ : retF _ = QQ
  rw [Ok_seq]; simp [hi]
  rw [Ok_seq]; simp [hd, h1]
  rw [Ok_seq]; simp
  refine (hr f g hf (hs.mono (by omega))).mono ?_
  rintro _ g' ⟨⟨m, rfl⟩, rfl⟩
  have ix : idxV (.tuple [fD (clF d f), mD m]) (.int 0) = some (fD (clF d f)) := idx_tuple (n := 0) rfl
  simp [ix]
  rw [Ok_seq]; simp
  rw [Ok_seq, Ok_while]
  refine ok_whileL (fun m σ g3 => g3 = g' ∧ ∃ k : Nat, σ = [some (fD f), some (fD (fstF d)), some (fD (pwF d f k)), some (.int (k : Int))] ∧ 0 < k ∧ k ≤ n ∧ m = n - k) ?_ fuel (n - 1) (by unfold fuel; omega) ⟨rfl, 1, by rw [pw_one D hf]; rfl, by omega, ho.1, rfl⟩
  rintro m σ g3 ⟨rfl, k, rfl, k0, kn, rfl⟩
  generalize hL : loopF _ _ = LL
  simp [ne_f]
  by_cases q : pwF d f k = fstF d
  · have e : k = n := by
      rcases Nat.lt_or_ge k n with w | w
      · exact absurd q (ho.2.2 k k0 w)
      · omega
    subst e
    simp [q]
    subst hL
    subst hQ
    exact ⟨rfl, rfl⟩
  · have lt : k < n := by
      rcases Nat.lt_or_ge k n with w | w
      · exact w
      · exact absurd (show pwF d f k = fstF d by rw [show k = n by omega]; exact ho.2.1) q
    simp [q]
    rw [Ok_seq]; simp [hc _ f g3 (pw_fo D hf k) hf (rf150 D (pw_rf D hf k)) hs]
    subst hL
    exact ⟨n - (k + 1), by omega, rfl, k + 1, by rw [show ((k + 1 : Nat) : Int) = (k : Int) + 1 by omega]; rfl, by omega, lt, rfl⟩
theorem first_class_run {d : Int} (h : d % 4 = 0 ∨ d % 4 = 1) : Ok (Pv.run Φ fuel m_first_class [some (.int d)] g) (retF fun r g' => r = fD (fstF d) ∧ g' = g) := by
  unfold m_first_class
  have l4 : (4 : Int).natAbs.log2 < 9000 := by decide
  rw [Ok_seq]
  by_cases q : d % 2 = 0
  · simp [q, fD, fstF]
  · have q1 : d % 2 = 1 := by omega
    simp [q1, fD, fstF]
theorem class_number_run {i0 : Nat} {d : Int} (h0 : Φ i0 [.int d] g = .ok (.tuple ((PL d).map fD)) g) : Ok (Pv.run Φ fuel (m_class_number i0) [some (.int d)] g) (retF fun r g' => r = .int ((PL d).length : Int) ∧ g' = g) := by
  unfold m_class_number
  simp [h0]
end Xk40
end

section
/-! FoZb: products of classes, by the law. -/
set_option autoImplicit false
namespace Xk40
open PySem Pv
variable {Φ : Fns} {g : G}
theorem mates_run {x y : Int} {k : Nat} (x0 : 0 ≤ x) (y0 : 0 ≤ y) (sx : Sz k x) (sy : Sz k y) (hk : k ≤ 160) : Ok (Pv.run Φ fuel m__law_mates [some (.int x), some (.int y), none, none, none, none, none] g)
    (retF fun r g' => (∃ u w : Int, r = .tuple [.int u, .int w] ∧ u * x + w * y = Int.gcd x y ∧ Sz ((k + 2) * (2 * k + 1) + 2) u ∧ Sz ((k + 2) * (2 * k + 1) + 2) w) ∧ g' = g) := by
  unfold m__law_mates
  generalize hQ : retF _ = QQ
  rw [Ok_seq]; simp
  rw [Ok_seq, Ok_while]
  refine ok_whileL (fun m σ g' => g' = g ∧ ∃ (j : Nat) (one other u w nu nw : Int) (y6 : Option Pv.D), σ = [some (.int x), some (.int y), some (.int one), some (.int other), some (.tuple [.int u, .int w]), some (.tuple [.int nu, .int nw]), y6] ∧ 0 ≤ one ∧ 0 ≤ other ∧ BzS x y k m j one other u w nu nw) ?_ fuel (2 * k + 1) (by unfold fuel; omega) ⟨rfl, 0, x, y, 1, 0, 0, 1, none, rfl, x0, y0, .start sx sy⟩
  rintro m σ g' ⟨rfl, j, one, other, u, w, nu, nw, y6, rfl, o0, p0, h⟩
  have jl : j ≤ 2 * k + 1 := by have := h.mj; omega
  have kl : (k + 2) * j ≤ (k + 2) * (2 * k + 1) := Nat.mul_le_mul_left _ jl
  have kj : (k + 2) * j ≤ 162 * 321 := Nat.mul_le_mul (by omega) (by omega)
  have i0 : ∀ a b : Pv.D, idxV (.tuple [a, b]) (.int 0) = some a := fun a b => idx_tuple (n := 0) rfl
  have i1 : ∀ a b : Pv.D, idxV (.tuple [a, b]) (.int 1) = some b := fun a b => idx_tuple (n := 1) rfl
  generalize hL : loopF _ _ = LL
  by_cases ho : 0 < other
  rotate_left
  · have : other = 0 := by omega
    subst this
    have e1 := h.e1
    have gc := h.gc
    rw [Int.gcd_zero_right] at gc
    simp
    subst hQ
    exact ⟨⟨u, w, rfl, by rw [← gc, e1]; omega, h.sx.mono (by omega), h.sy.mono (by omega)⟩, rfl⟩
  · obtain ⟨m', lt, h'⟩ := h.step (by omega)
    have hf := fdv (a := one) (b := other) (by omega)
    have ed : one.fdiv other = one / other := Int.fdiv_eq_ediv_of_nonneg one (by omega)
    have lo : other.natAbs.log2 < 9000 := by have := h.s2.log; omega
    have sq := fdv_sz (b := other) (by omega) h.s1
    have r0 : 0 ≤ one - one.fdiv other * other := by omega
    rw [ed] at h' sq r0
    have m1 : mulOk (one / other) other = true := mulOk_sz sq h.s2 (by omega)
    have m2 : mulOk (one / other) nu = true := mulOk_sz sq h.snx (by omega)
    have m3 : mulOk (one / other) nw = true := mulOk_sz sq h.sny (by omega)
    simp [ho]
    rw [Ok_seq]; simp [ho, lo]
    simp [m1, m2, m3, i0, i1]
    subst hL
    exact ⟨m', lt, rfl, j + 1, _, _, _, _, _, _, _, rfl, by omega, r0, h'⟩
/-- a coprime pair with a value coprime to a -/
def CpP (f : Fm) (a x y : Int) : Prop := Int.gcd x y = 1 ∧ Int.gcd (val f x y) a = 1
theorem coprime_pair_run {i0 : Nat} {d a : Int} {f : Fm} (D : Dd d) (hf : Rf d f) (a0 : 0 < a) (a1 : a ≤ 81) (h0 : ∀ a b g, Sz bg a → Sz bg b → Φ i0 [.int a, .int b] g = .ok (.int (Int.gcd a b)) g) :
    Ok (Pv.run Φ fuel (m__law_coprime_pair i0) [some (fD f), some (.int a), none, none, none, none] g) (retF fun r g' => (∃ x y : Int, r = .tuple [.int x, .int y] ∧ 0 ≤ x ∧ 0 ≤ y ∧ x ≤ 163 ∧ y ≤ 163 ∧ CpP f a x y) ∧ g' = g) := by
  unfold m__law_coprime_pair
  generalize hQ : retF _ = QQ
  have e0 : idxV (fD f) (.int 0) = some (.int f.1) := idx_tuple (n := 0) rfl
  have e1 : idxV (fD f) (.int 1) = some (.int f.2.1) := idx_tuple (n := 1) rfl
  have e2 : idxV (fD f) (.int 2) = some (.int f.2.2) := idx_tuple (n := 2) rfl
  have sf := hf.sz D.lo D.hi
  rw [Ok_seq, Ok_for]; simp [itV_r2 (show -4611686018427387904 ≤ (1 : Int) by omega) (by omega) (show -4611686018427387904 ≤ 2 * a + 2 by omega) (by omega)]
  refine ok_forL (fun k σ g' => g' = g ∧ (∀ x y : Int, 0 ≤ x → 0 ≤ y → 1 ≤ x + y → x + y < 1 + k → ¬ CpP f a x y) ∧ ∃ (y2 y3 y4 y5 : Option Pv.D), σ = [some (fD f), some (.int a), y2, y3, y4, y5]) ⟨rfl, fun x y _ _ _ _ => by omega, _, _, _, _, rfl⟩ ?_ ?_
  · rintro k x σ g' hx ⟨rfl, hno, y2, y3, y4, y5, rfl⟩
    obtain ⟨hk, rfl⟩ := rng_at hx
    generalize hT : (1 + k : Int) = t at *
    generalize hL : loopF _ _ = LL
    rw [Ok_turnF]; simp
    rw [Ok_for]; simp [itV_r1 (show -4611686018427387904 ≤ t + 1 by omega) (by omega)]
    refine ok_forL (fun j σ g2 => g2 = g' ∧ (∀ x y : Int, 0 ≤ x → x < j → x + y = t → ¬ CpP f a x y) ∧ ∃ (y3 y4 y5 : Option Pv.D), σ = [some (fD f), some (.int a), some (.int t), y3, y4, y5]) ⟨rfl, fun x y _ _ _ => by omega, _, _, _, rfl⟩ ?_ ?_
    · rintro j x σ g2 hx ⟨rfl, hnj, y3, y4, y5, rfl⟩
      obtain ⟨hj, rfl⟩ := rng_at hx
      simp only [Int.zero_add]
      have sx : Sz 8 (j : Int) := by unfold Sz; omega
      have sy : Sz 8 (t - (j : Int)) := by unfold Sz; omega
      have st : Sz 8 t := by unfold Sz; omega
      have k1 : mulOk f.1 (j : Int) = true := mulOk_sz sf.a sx (by omega)
      have k2 : mulOk (f.1 * j) (j : Int) = true := mulOk_sz (sf.a.mul sx) sx (by omega)
      have k3 : mulOk f.2.1 (j : Int) = true := mulOk_sz sf.b sx (by omega)
      have k4 : mulOk (f.2.1 * j) (t - (j : Int)) = true := mulOk_sz (sf.b.mul sx) sy (by omega)
      have k5 : mulOk f.2.2 (t - (j : Int)) = true := mulOk_sz sf.c sy (by omega)
      have k6 : mulOk (f.2.2 * (t - (j : Int))) (t - (j : Int)) = true := mulOk_sz (sf.c.mul sy) sy (by omega)
      have sv : Sz bg (f.1 * (j : Int) * (j : Int) + f.2.1 * (j : Int) * (t - (j : Int)) + f.2.2 * (t - (j : Int)) * (t - (j : Int))) := (sz_val sf sx sy).mono (by unfold bg; omega)
      have c1 := h0 (j : Int) (t - (j : Int)) g2 (sx.mono (by unfold bg; omega)) (sy.mono (by unfold bg; omega))
      have c2 := h0 _ a g2 sv (show Sz bg a from (show Sz 8 a by unfold Sz; omega).mono (by unfold bg; omega))
      generalize hI : loopF _ _ = II
      rw [Ok_turnF]; simp
      rw [Ok_seq]; simp
      rw [Ok_seq]; simp [e0, e1, e2, k1, k2, k3, k4, k5, k6]
      have nx : ∀ y3 y4 y5, ¬ CpP f a j (t - (j : Int)) → II (.nx [some (fD f), some (.int a), some (.int t), y3, y4, y5]) g2 := fun y3 y4 y5 hn => by
        subst hI
        refine ⟨rfl, fun x y x0 x1 xy => ?_, _, _, _, rfl⟩
        by_cases q : x = j
        · subst q
          rw [show y = t - (j : Int) by omega]
          exact hn
        · exact hnj x y x0 (by omega) xy
      have hcp : CpP f a j (t - (j : Int)) ↔ Int.gcd (j : Int) (t - (j : Int)) = 1 ∧ Int.gcd (f.1 * (j : Int) * (j : Int) + f.2.1 * (j : Int) * (t - (j : Int)) + f.2.2 * (t - (j : Int)) * (t - (j : Int))) a = 1 := Iff.rfl
      generalize Int.gcd (j : Int) (t - (j : Int)) = G1 at *
      generalize Int.gcd (f.1 * (j : Int) * (j : Int) + f.2.1 * (j : Int) * (t - (j : Int)) + f.2.2 * (t - (j : Int)) * (t - (j : Int))) a = G2 at *
      by_cases q1 : G1 = 1
      · by_cases q2 : G2 = 1
        · simp [c1, q1, c2, q2]
          subst hI
          simp
          subst hL
          simp
          subst hQ
          exact ⟨⟨_, _, rfl, by omega, by omega, by omega, by omega, hcp.mpr ⟨q1, q2⟩⟩, rfl⟩
        · have q3 : ¬ (G2 : Int) = 1 := by omega
          simp [c1, q1, c2, q3]
          exact nx _ _ _ fun h => q2 (hcp.mp h).2
      · have q3 : ¬ (G1 : Int) = 1 := by omega
        simp [c1, q3]
        exact nx _ _ _ fun h => q1 (hcp.mp h).1
    · rintro σ g2 ⟨rfl, hnj, y3, y4, y5, rfl⟩
      rw [rng_len] at hnj
      subst hL
      refine ⟨rfl, fun x y x0 y0 l0 l1 => ?_, _, _, _, _, rfl⟩
      by_cases q : x + y = t
      · exact hnj x y x0 (by omega) q
      · exact hno x y x0 y0 l0 (by omega)
  · rintro σ g' ⟨rfl, hno, y2, y3, y4, y5, rfl⟩
    exfalso
    rw [rng_len] at hno
    obtain ⟨x, y, x0, y0, xy, g1, g2⟩ := cop_val hf.prim a0
    refine hno x y (by omega) (by omega) (by omega) ?_ ⟨g1, g2⟩
    have : (x - 1) * (y - 1) = x * y - x - y + 1 := by grind
    have := Int.mul_nonneg (show 0 ≤ x - 1 by omega) (show 0 ≤ y - 1 by omega)
    omega
/-- the law's product -/
theorem law_comp_val {d a b c n mid last k t s : Int} {F1 F2 : Fm} {M : Mx} (D : Dd d) (h1 : Rf d F1) (h2 : Rf d F2) (dm : det M = 1) (e1 : F1 = (a, b, c)) (e2 : ledF F2 M = (n, mid, last)) (hg : Int.gcd n a = 1)
    (ht : t * (a % n) + s * n = 1) (hk : k = ((mid - b) / 2 * t) % n) :
    clF d (ofN d (a * n) (b + 2 * a * k)) = prC d F1 F2 ∧ Fo d (ofN d (a * n) (b + 2 * a * k)) ∧ (b + 2 * a * k) * (b + 2 * a * k) - b * b + 4 * a * c = (b + 2 * a * k) * (b + 2 * a * k) - d ∧ 0 < n ∧ 0 < a ∧ 0 ≤ k ∧ k < n := by
  have f2 := h2.fo.led D dm
  rw [e2] at f2
  have f1 := h1.fo
  rw [e1] at f1
  have n0 : 0 < n := f2.a0
  have a0 : 0 < a := f1.a0
  have pa := par_b f1.disc D.md
  have pb := par_b f2.disc D.md
  simp only at pa pb
  have dd := f1.disc
  unfold disc at dd
  simp only at dd
  obtain ⟨X, Y, hXY⟩ := bezI a n
  rw [Int.gcd_comm, hg] at hXY
  have k0 : 0 ≤ k := by rw [hk]; exact Int.emod_nonneg _ (by omega)
  have k1 : k < n := by rw [hk]; exact Int.emod_lt_of_pos _ n0
  have b' : Bz (a, b, c) (n, mid, last) 1 a n ((b + mid) / 2) ((b - mid) / 2) X Y 1 0 := ⟨by omega, by show a = _; omega, by show n = _; omega, by show b = _; omega, by show mid = _; omega, by omega⟩
  -- a k is (mid - b) / 2 by n
  obtain ⟨w, hw⟩ : ∃ w, a * k = (mid - b) / 2 + n * w := by
    have em := Int.emod_add_mul_ediv ((mid - b) / 2 * t) n
    have ea := Int.emod_add_mul_ediv a n
    rw [← hk] at em
    generalize (mid - b) / 2 = M at *
    refine ⟨a / n * (M * t) - M * s - a * (M * t / n), ?_⟩
    have : a * k = (a % n + n * (a / n)) * (M * t) - a * (n * (M * t / n)) := by rw [ea, ← em]; grind
    rw [this]
    have : M * (t * (a % n) + s * n) = M := by rw [ht, Int.mul_one]
    grind
  have hB : (b + 2 * a * k - ((n, mid, last) : Fm).2.1 - (2 * n * (1 * Y * ((b - mid) / 2) - 0 * last))) % (2 * (a * n)) = 0 := by
    show (b + 2 * a * k - mid - (2 * n * (1 * Y * ((b - mid) / 2) - 0 * last))) % (2 * (a * n)) = 0
    have e3 : b - mid = 2 * ((b - mid) / 2) := by omega
    have e4 : (mid - b) / 2 = -((b - mid) / 2) := by omega
    rw [e4] at hw
    generalize (b - mid) / 2 = M at *
    have e5 : b + 2 * a * k - mid - (2 * n * (1 * Y * M - 0 * last)) = 2 * (n * (w - Y * M)) := by grind
    -- n (w - Y M) is divisible by a
    have hXY : X * a + Y * n = 1 := by omega
    have e6 : n * (w - Y * M) = a * k + M - n * Y * M := by grind
    have e7 : a * k + M - n * Y * M = a * (k + X * M) := by
      have : M * (X * a + Y * n) = M := by rw [hXY, Int.mul_one]
      grind
    have q : a ∣ n * (w - Y * M) := ⟨_, e6.trans e7⟩
    have q2 : a ∣ w - Y * M := by
      have e8 : w - Y * M = a * (X * (w - Y * M)) + Y * (n * (w - Y * M)) := by
        have : (w - Y * M) * (X * a + Y * n) = w - Y * M := by rw [hXY, Int.mul_one]
        grind
      rw [e8]
      exact Int.dvd_add (Int.dvd_mul_right ..) (Int.dvd_trans q (Int.dvd_mul_left ..))
    obtain ⟨z, hz⟩ := q2
    rw [e5, hz]
    rw [show 2 * (n * (a * z)) = 2 * (a * n) * z by grind]
    exact Int.mul_emod_right ..
  have hB' : (b + 2 * a * k - (((n, mid, last) : Fm).2.1 + 2 * n * (1 * Y * ((b - mid) / 2) - 0 * ((n, mid, last) : Fm).2.2))) % (2 * (a * n)) = 0 := by
    refine Eq.trans (congrArg (fun z => z % (2 * (a * n))) ?_) hB
    simp only
    omega
  refine ⟨?_, (b'.comp f1 f2 D hB').1, by omega, n0, a0, k0, k1⟩
  rw [b'.pr f1 f2 D hB']
  refine prC_sim D f1 f2 h1.fo h2.fo ?_ ?_
  · rw [e1]; exact Sim.refl _
  · rw [← e2]; exact h2.fo.led_sim D dm
theorem law_composed_run {i0 i1 i2 i3 : Nat} {d : Int} {f1 f2 : Fm} (D : Dd d) (h1 : Fo d f1) (h2 : Fo d f2) (s1 : SzK 150 f1) (s2 : SzK 150 f2)
    (hp : ∀ (f : Fm) (a : Int) g, Rf d f → 0 < a → a ≤ 81 → Ok (Φ i0 [fD f, .int a] g) fun r g' => (∃ x y : Int, r = .tuple [.int x, .int y] ∧ 0 ≤ x ∧ 0 ≤ y ∧ x ≤ 163 ∧ y ≤ 163 ∧ CpP f a x y) ∧ g' = g)
    (hL : ∀ f m g, SzK 150 f → SzM 700 m → Φ i1 [fD f, mD m] g = .ok (fD (ledF f m)) g)
    (hm : ∀ (x y : Int) (k : Nat) g, 0 ≤ x → 0 ≤ y → Sz k x → Sz k y → k ≤ 160 → Ok (Φ i2 [.int x, .int y] g) fun r g' => (∃ u w : Int, r = .tuple [.int u, .int w] ∧ u * x + w * y = Int.gcd x y ∧ Sz ((k + 2) * (2 * k + 1) + 2) u ∧ Sz ((k + 2) * (2 * k + 1) + 2) w) ∧ g' = g)
    (hr : RedC Φ i3 d 150) :
    Ok (Pv.run Φ fuel (m__law_composed i0 i1 i2 i3) [some (fD f1), some (fD f2), none, none, none, none, none, none, none, none, none, none, none] g) (retF fun r g' => r = fD (prC d f1 f2) ∧ g' = g) := by
  unfold m__law_composed
  generalize hQ : retF _ = QQ
  rw [Ok_seq]; simp
  refine (hr f1 g h1 s1).mono ?_
  rintro _ g1 ⟨⟨M1, rfl⟩, rfl⟩
  have ix : ∀ x y : Pv.D, idxV (.tuple [x, y]) (.int 0) = some x := fun x y => idx_tuple (n := 0) rfl
  simp [ix]
  refine (hr f2 g1 h2 s2).mono ?_
  rintro _ g2 ⟨⟨M2, rfl⟩, rfl⟩
  simp [ix]
  have r1 := clF_rf h1 D
  have r2 := clF_rf h2 D
  have e12 : prC d f1 f2 = prC d (clF d f1) (clF d f2) := (prC_clL D h1 h2).symm.trans (prC_clR D r1.fo h2).symm
  rw [e12] at hQ
  generalize clF d f1 = F1 at *
  generalize clF d f2 = F2 at *
  have aa := r1.red.a0
  have a8 := r1.a_le D.lo
  have z1 := r1.sz D.lo D.hi
  have z2 := r2.sz D.lo D.hi
  obtain ⟨a, b, c⟩ := F1
  simp only at aa a8
  have sg : setG [[2, 3, 4], [1]] (.tuple [fD (a, b, c), fD F2]) [some (fD f1), some (fD f2), none, none, none, none, none, none, none, none, none, none, none] = some [some (fD f1), some (fD F2), some (.int a), some (.int b), some (.int c), none, none, none, none, none, none, none, none] := rfl
  simp [sg]
  rw [Ok_seq]; simp
  refine (hp F2 a g2 r2 aa a8).mono ?_
  rintro _ g3 ⟨⟨x, y, rfl, x0, y0, x1, y1, cp⟩, rfl⟩
  simp
  have sx : Sz 8 x := by unfold Sz; omega
  have sy : Sz 8 y := by unfold Sz; omega
  rw [Ok_seq]; simp
  refine (hm x y 8 g3 x0 y0 sx sy (by omega)).mono ?_
  rintro _ g4 ⟨⟨u, w, rfl, euw, su, sw⟩, rfl⟩
  rw [cp.1] at euw
  simp
  have dM : det (x, -w, y, u) = 1 := by simp only [det]; grind
  have sM : SzM 200 (x, -w, y, u) := ⟨sx.mono (by omega), sw.neg.mono (by omega), sy.mono (by omega), su.mono (by omega)⟩
  rw [Ok_seq]; simp
  have c1 := hL F2 (x, -w, y, u) g4 (z2.mono (by omega)) (sM.mono (by omega))
  rw [show mD (x, -w, y, u) = .tuple [.int x, .int (-w), .int y, .int u] from rfl] at c1
  have zl := sz_led z2 sM
  have vn : (ledF F2 (x, -w, y, u)).1 = val F2 x y := rfl
  simp [c1]
  have hN : ∃ n mid last, ledF F2 (x, -w, y, u) = (n, mid, last) := ⟨_, _, _, rfl⟩
  obtain ⟨n, mid, last, hN⟩ := hN
  have gn : Int.gcd n a = 1 := by
    have := cp.2
    rw [← vn, hN] at this
    exact this
  rw [hN] at zl vn
  have szn : Sz 60 n := by
    have := sz_val z2 sx sy
    rw [← vn] at this
    exact this.mono (by omega)
  have n0 : 0 < n := by
    have := (r2.fo.led D dM).a0
    rwa [hN] at this
  rw [hN]
  simp [fD]
  have an0 := Int.emod_nonneg a (show n ≠ 0 by omega)
  have an1 := Int.emod_lt_of_pos a n0
  have san : Sz 60 (a % n) := by unfold Sz at *; omega
  rw [Ok_seq]; simp [n0]
  refine (hm (a % n) n 60 g4 an0 (by omega) san szn (by omega)).mono ?_
  rintro _ g5 ⟨⟨t, s, rfl, ets, st, ss⟩, rfl⟩
  have gan : Int.gcd (a % n) n = 1 := by rw [← gn, Int.gcd_comm, gcd_mod]
  rw [gan] at ets
  simp [ix]
  have k1 : mulOk ((mid - b) / 2) t = true := mulOk_sz (sz_ediv (by omega) ((show Sz 500 mid from zl.b.mono (by omega)).sub (show Sz 500 b from z1.b.mono (by omega)))) st (by omega)
  simp [k1, n0]
  obtain ⟨ec, fo, ed, n0', a0', k0, kn⟩ := law_comp_val D r1 r2 dM rfl hN gn ets rfl
  generalize hk : ((mid - b) / 2 * t) % n = k at *
  have sk : Sz 60 k := by unfold Sz at *; omega
  have sa : Sz 7 a := by unfold Sz; omega
  have s2 : Sz 2 2 := by unfold Sz; decide
  have s4 : Sz 3 4 := by unfold Sz; decide
  have k2 : mulOk 2 a = true := mulOk_sz s2 sa (by omega)
  have k3 : mulOk (2 * a) k = true := mulOk_sz (s2.mul sa) sk (by omega)
  rw [Ok_seq]; simp [k2, k3]
  have sB : Sz 71 (b + 2 * a * k) := ((show Sz 20 b from z1.b).add ((s2.mul sa).mul sk)).mono (by omega)
  have k4 : mulOk a n = true := mulOk_sz sa szn (by omega)
  have k5 : mulOk (b + 2 * a * k) (b + 2 * a * k) = true := mulOk_sz sB sB (by omega)
  have k6 : mulOk b b = true := mulOk_sz z1.b z1.b (by omega)
  have k7 : mulOk 4 a = true := mulOk_sz s4 sa (by omega)
  have k8 : mulOk (4 * a) c = true := mulOk_sz (s4.mul sa) z1.c (by omega)
  have k9 : mulOk (4 * a) n = true := mulOk_sz (s4.mul sa) szn (by omega)
  have p4 : 0 < 4 * a * n := Int.mul_pos (by omega) n0
  have l4 : (4 * a * n).natAbs.log2 < 9000 := by have := ((s4.mul sa).mul szn).log; omega
  simp [k4, k5, k6, k7, k8, k9, p4, l4]
  rw [ed]
  have e4 : 4 * a * n = 4 * (a * n) := by grind
  rw [e4]
  rw [show PyData.tuple [.int (a * n), .int (b + 2 * a * k), .int (((b + 2 * a * k) * (b + 2 * a * k) - d) / (4 * (a * n)))] = fD (ofN d (a * n) (b + 2 * a * k)) from rfl]
  have szl : SzK 150 (ofN d (a * n) (b + 2 * a * k)) := by
    refine ⟨(sa.mul szn).mono (by omega), sB.mono (by omega), ?_⟩
    refine (sz_ediv ?_ ((sB.mul sB).sub (sz_disc D))).mono (by omega)
    rw [← e4]; exact p4
  refine (hr _ g5 fo szl).mono ?_
  rintro _ g6 ⟨⟨M, rfl⟩, rfl⟩
  simp [ix]
  rw [ec]
  subst hQ
  exact ⟨rfl, rfl⟩
theorem law_first_run {d : Int} : Ok (Pv.run Φ fuel m__law_first [some (.int d)] g) (retF fun r g' => r = fD (fstF d) ∧ g' = g) := by
  unfold m__law_first
  simp [fD, fstF]
theorem law_order_run {i0 i1 i2 : Nat} {d : Int} {f : Fm} {n : Nat} (D : Dd d) (hf : Fo d f) (hs : SzK 150 f) (ho : IsOrd d f n) (nl : n ≤ 100000) (hc : CmpC Φ i0 d) (h1 : ∀ g, Φ i1 [.int d] g = .ok (fD (fstF d)) g) (hr : RedC Φ i2 d 150) :
    Ok (Pv.run Φ fuel (m__law_order i0 i1 i2) [some (fD f), some (.int d), none, none, none, none] g) (retF fun r g' => r = .int n ∧ g' = g) := by
  unfold m__law_order
  generalize hQ : retF _ = QQ
  have ix : ∀ x y : Pv.D, idxV (.tuple [x, y]) (.int 0) = some x := fun x y => idx_tuple (n := 0) rfl
  rw [Ok_seq]; simp [h1]
  refine (hr f g hf hs).mono ?_
  rintro _ g' ⟨⟨m, rfl⟩, rfl⟩
  simp [ix]
  rw [Ok_seq]; simp
  rw [Ok_seq, Ok_while]
  have c := clF_rf hf D
  refine ok_whileL (fun m σ g3 => g3 = g' ∧ ∃ k : Nat, σ = [some (fD f), some (.int d), some (fD (fstF d)), some (fD (pwF d f k)), some (.int (k : Int)), some (fD (clF d f))] ∧ 0 < k ∧ k ≤ n ∧ m = n - k) ?_ fuel (n - 1) (by unfold fuel; omega) ⟨rfl, 1, by rw [pw_one D hf]; rfl, by omega, ho.1, rfl⟩
  rintro m σ g3 ⟨rfl, k, rfl, k0, kn, rfl⟩
  generalize hL : loopF _ _ = LL
  simp [ne_f]
  by_cases q : pwF d f k = fstF d
  · have e : k = n := by
      rcases Nat.lt_or_ge k n with w | w
      · exact absurd q (ho.2.2 k k0 w)
      · omega
    subst e
    simp [q]
    subst hQ
    exact ⟨rfl, rfl⟩
  · have lt : k < n := by
      rcases Nat.lt_or_ge k n with w | w
      · exact w
      · exact absurd (show pwF d f k = fstF d by rw [show k = n by omega]; exact ho.2.1) q
    simp [q, hc _ _ g3 (pw_fo D hf k) c.fo (rf150 D (pw_rf D hf k)) (rf150 D c), prC_clR D (pw_fo D hf k) hf]
    subst hL
    exact ⟨n - (k + 1), by omega, rfl, k + 1, by rw [show ((k + 1 : Nat) : Int) = (k : Int) + 1 by omega]; rfl, by omega, lt, rfl⟩
theorem law_power_run {i0 i1 i2 : Nat} {d : Int} {f : Fm} {n : Nat} (D : Dd d) (hf : Fo d f) (hs : SzK 150 f) (nl : n < 2 ^ 1000) (hc : CmpC Φ i0 d) (h1 : ∀ g, Φ i1 [.int d] g = .ok (fD (fstF d)) g) (hr : RedC Φ i2 d 150) :
    Ok (Pv.run Φ fuel (m__law_power i0 i1 i2) [some (fD f), some (.int (n : Int)), some (.int d), none, none, none] g) (retF fun r g' => r = fD (pwF d f n) ∧ g' = g) := by
  unfold m__law_power
  generalize hQ : retF _ = QQ
  have ix : ∀ x y : Pv.D, idxV (.tuple [x, y]) (.int 0) = some x := fun x y => idx_tuple (n := 0) rfl
  rw [Ok_seq]; simp [h1]
  refine (hr f g hf hs).mono ?_
  rintro _ g' ⟨⟨m, rfl⟩, rfl⟩
  simp [ix]
  rw [Ok_seq]; simp
  rw [if_neg (by omega)]
  rw [Ok_seq, Ok_while]
  have c := clF_rf hf D
  have ff := fst_rf D.hi D.md
  refine ok_whileL (fun m σ g3 => g3 = g' ∧ ∃ (R B : Fm) (l : Nat), σ = [some (fD f), some (.int (n : Int)), some (.int d), some (fD R), some (fD B), some (.int (l : Int))] ∧ Rf d B ∧ Rf d R ∧ prC d R (pwF d B l) = pwF d f n ∧ l < 2 ^ m) ?_ fuel 1000 (by unfold fuel; omega) ⟨rfl, fstF d, clF d f, n, rfl, c, ff, ?_, nl⟩
  · rintro m σ g3 ⟨rfl, R, B, l, rfl, hB, hR, ep, lt⟩
    generalize hL : loopF _ _ = LL
    by_cases q : l = 0
    · subst q
      simp
      subst hQ
      refine ⟨?_, rfl⟩
      rw [← ep]
      show fD R = fD (prC d R (fstF d))
      rw [prC_one' D hR.fo, clF_red D hR]
    · have q' : 0 < (l : Int) := by omega
      simp [show 0 < l by omega]
      have c1 := hc R B g3 hR.fo hB.fo (rf150 D hR) (rf150 D hB)
      have c2 := hc B B g3 hB.fo hB.fo (rf150 D hB) (rf150 D hB)
      have tu := pw_turn D hR.fo hB.fo l
      have hB2 := prC_rf hB.fo hB.fo D
      have hR2 := prC_rf hR.fo hB.fo D
      cases m with
      | zero => simp at lt; omega
      | succ m =>
        have l2 : l / 2 < 2 ^ m := by
          rw [Nat.pow_succ] at lt
          omega
        have nx : ∀ R' : Fm, Rf d R' → prC d R' (pwF d (prC d B B) (l / 2)) = prC d R (pwF d B l) → LL (.nx [some (fD f), some (.int (n : Int)), some (.int d), some (fD R'), some (fD (prC d B B)), some (.int ((l : Int) / 2))]) g3 := fun R' hR' e' => by
          subst hL
          exact ⟨m, by omega, rfl, R', _, l / 2, by rw [Int.natCast_ediv]; rfl, hB2, hR', e'.trans ep, l2⟩
        rw [Ok_seq]
        by_cases w : l % 2 = 1
        · have w2 : (l : Int) % 2 = 1 := by omega
          rw [if_pos w] at tu
          simp [w2, c1]
          simp [c2]
          exact nx _ hR2 tu
        · have w2 : (l : Int) % 2 = 0 := by omega
          rw [if_neg w] at tu
          simp [w2]
          simp [c2]
          exact nx _ hR tu
  · rw [pw_cl D hf, prC_one D (pw_fo D hf n), clF_red D (pw_rf D hf n)]
end Xk40
end

section
/-! FoG: roots, conductors, symbols, prime forms. -/
set_option autoImplicit false
namespace Xk40
open PySem Pv
variable {Φ : Fns} {g : G}
theorem whole_root_run {n : Int} (h1 : 0 ≤ n) (h2 : n < 1099511627776) : Ok (Pv.run Φ fuel m_whole_root [some (.int n), none, none, none] g) (retF fun r g' => (∃ x, r = .int x ∧ 0 ≤ x ∧ x * x ≤ n ∧ n < (x + 1) * (x + 1)) ∧ g' = g) := by
  unfold m_whole_root
  generalize hQ : retF _ = QQ
  rw [Ok_seq]; simp
  rw [Ok_seq]; simp
  rw [Ok_seq, Ok_while]
  refine ok_whileL (fun m σ g' => g' = g ∧ ∃ h : Int, σ = [some (.int n), some (.int 0), some (.int h), none] ∧ 1 ≤ h ∧ h ≤ 2 * n + 1 ∧ m = (2 * n + 2 - h).toNat) ?_ fuel (2 * n + 1).toNat (by unfold fuel; omega) ⟨rfl, 1, rfl, by omega, by omega, by omega⟩
  rintro m σ g' ⟨rfl, h, rfl, a1, a2, rfl⟩
  have m1 : mulOk h h = true := mulOk_2 (by omega) (by omega)
  generalize hL : loopF _ _ = LL
  by_cases hw : h * h ≤ n
  · have : h ≤ n := by
      have := mulL (show 1 ≤ h by omega) (show 0 ≤ h by omega)
      omega
    simp [m1, hw]
    subst hL
    exact ⟨_, by omega, rfl, 2 * h, rfl, by omega, by omega, rfl⟩
  · simp [m1, hw]
    rw [Ok_seq, Ok_while]
    refine ok_whileL (fun m σ g2 => g2 = g' ∧ ∃ (lo hi : Int) (y : Option D), σ = [some (.int n), some (.int lo), some (.int hi), y] ∧ 0 ≤ lo ∧ lo < hi ∧ hi ≤ h ∧ lo * lo ≤ n ∧ n < hi * hi ∧ m = (hi - lo).toNat) ?_ fuel h.toNat (by unfold fuel; omega) ⟨rfl, 0, h, none, rfl, by omega, by omega, by omega, by omega, by omega, by omega⟩
    rintro m σ g2 ⟨rfl, lo, hi, y, rfl, b1, b2, b3, b4, b5, rfl⟩
    generalize hL2 : loopF _ _ = LL2
    by_cases hw2 : 1 < hi - lo
    · simp [hw2]
      generalize hk : (lo + hi) / 2 = k
      have k1 : lo < k := by omega
      have k2 : k < hi := by omega
      have m2 : mulOk k k = true := mulOk_2 (by omega) (by omega)
      rw [Ok_seq]; simp [hk]
      by_cases hw3 : k * k ≤ n
      · simp [m2, hw3]
        subst hL2
        exact ⟨_, by omega, rfl, k, hi, _, rfl, by omega, by omega, by omega, by omega, by omega, rfl⟩
      · simp [m2, hw3]
        subst hL2
        exact ⟨_, by omega, rfl, lo, k, _, rfl, by omega, by omega, by omega, by omega, by omega, rfl⟩
    · simp [hw2]
      have e : hi = lo + 1 := by omega
      subst hQ
      exact ⟨⟨lo, rfl, b1, b4, by rw [← e]; exact b5⟩, rfl⟩
/-- a list of ints beside the empty one -/
theorem ne_nil (xs : List Int) : cmpV .ne (.list (xs.map .int)) (.list []) = some (!xs.isEmpty) := by
  show (eqD (.list (xs.map .int)) (.list [])).map (!·) = _
  have s1 : shp (.list (xs.map .int)) = true := shp_ints xs
  have s2 : shp (.list []) = true := rfl
  have e : eqD (.list (xs.map .int)) (.list []) = some (PyData.eqv (.list (xs.map .int)) (.list [])) := by
    show (if shp (.list (xs.map .int)) && shp (.list []) then some (PyData.eqv (.list (xs.map .int)) (.list [])) else lensV (.list (xs.map .int)) (.list [])) = _
    rw [s1, s2]; rfl
  rw [e]
  cases xs <;> rfl
end Xk40
end

section
/-! FoYa: ways to a number, by the program and by the law. -/
set_option autoImplicit false
namespace Xk40
open PySem Pv
variable {Φ : Fns} {g : G}
theorem take_fm {α β : Type} {f : α → Option β} {l : List α} {k : Nat} {x : α} (h : l[k]? = some x) : (l.take (k + 1)).filterMap f = (l.take k).filterMap f ++ (f x).toList := by
  rw [List.take_add_one, h, List.filterMap_append]
  cases e : f x <;> simp [e]
theorem pD_append (l : List Pr2) (p : Pr2) : (l ++ [p]).map pD = l.map pD ++ [.tuple [.int p.1, .int p.2]] := by rw [List.map_append]; rfl
/-- sizes for ways to a number -/
structure WyOk (f : Fm) (d n : Int) : Prop where
  rf : Rf d f
  d1 : -20000 ≤ d
  d2 : d ≤ -3
  n0 : 0 ≤ n
  n1 : n ≤ 10000
theorem WyOk.sz {f : Fm} {d n : Int} (h : WyOk f d n) : 0 < f.1 ∧ f.1 ≤ 81 ∧ -81 ≤ f.2.1 ∧ f.2.1 ≤ 81 ∧ 0 ≤ 4 * f.1 * n ∧ 4 * f.1 * n ≤ 3240000 ∧ 4 * f.1 * n / -d ≤ 1080000 ∧ 0 ≤ 4 * f.1 * n / -d ∧ 0 ≤ mostW f d n ∧ mostW f d n ≤ 1039 := by
  have a0 := h.rf.red.a0
  have a1 := h.rf.a_le h.d1
  have b1 := h.rf.red.lo
  have b2 := h.rf.red.hi
  have n0 := h.n0; have n1 := h.n1; have d2 := h.d2
  have e1 : 0 ≤ 4 * f.1 * n := Int.mul_nonneg (by omega) n0
  have e2 : 4 * f.1 * n ≤ 324 * 10000 := Int.mul_le_mul (by omega) n1 n0 (by omega)
  have e3 : 4 * f.1 * n / -d ≤ 1080000 := by
    have : 4 * f.1 * n / -d < 1080001 := Int.ediv_lt_of_lt_mul (by omega) (by
      have := mulL (show 3 ≤ -d by omega) (show (0 : Int) ≤ 1080001 by omega)
      omega)
    omega
  have e4 : 0 ≤ 4 * f.1 * n / -d := Int.ediv_nonneg e1 (by omega)
  obtain ⟨m0, m1, m2⟩ := most_of a0 d2 n0
  have m3 : mostW f d n < 1040 := sq_lt (by omega) (by omega)
  exact ⟨a0, a1, by omega, by omega, e1, by omega, e3, e4, m0, by omega⟩
theorem WyOk.row {f : Fm} {d n y : Int} (h : WyOk f d n) (h1 : -mostW f d n ≤ y) (h2 : y ≤ mostW f d n) : 0 ≤ sqW f d n y ∧ sqW f d n y ≤ 3240000 ∧ 0 ≤ rt (sqW f d n y) ∧ rt (sqW f d n y) ≤ 1800 := by
  obtain ⟨a0, a1, b1, b2, e1, e2, e3, e4, m0, m1⟩ := h.sz
  have q := sq_nonneg_in a0 h.d2 h.n0 h1 h2
  have q2 : sqW f d n y ≤ 3240000 := by
    unfold sqW
    have yy := sq_nn y
    have : 0 ≤ -d * (y * y) := Int.mul_nonneg (by have := h.d2; omega) yy
    have e : d * y * y = -(-d * (y * y)) := by grind
    omega
  obtain ⟨r0, r1, r2⟩ := rt_of q
  have r3 : rt (sqW f d n y) < 1801 := sq_lt (by omega) (by omega)
  exact ⟨q, q2, r0, by omega⟩
theorem WyOk.len {f : Fm} {d n : Int} (h : WyOk f d n) (k : Nat) (hk : k ≤ (2 * mostW f d n + 1).toNat) : (rowsW f d n (-mostW f d n) k).length ≤ 4158 := by
  obtain ⟨a0, a1, b1, b2, e1, e2, e3, e4, m0, m1⟩ := h.sz
  have := rowsW_len f d n (-mostW f d n) k
  omega
theorem bi_srt (l : List Pr2) : biV .sorted [.list (l.map pD)] = some (.list ((srtP l).map pD)) := sortV_p l
theorem lam {a : Int} (h0 : 0 < a) (h1 : a ≤ 81) : (2 * a).natAbs.log2 < 9000 := Nat.lt_of_le_of_lt (Nat.log2_le_self _) (by omega)
theorem ways_to_run {i0 i1 i2 i3 : Nat} {f : Fm} {d n : Int} (w : WyOk f d n)
    (hg : ∀ a b g, Sz bg a → Sz bg b → Φ i0 [.int a, .int b] g = .ok (.int (Int.gcd a b)) g) (hd : Φ i1 [fD f] g = .ok (.int d) g)
    (hr : Φ i2 [fD f] g = .ok (.bool true) g) (hW : ∀ n g, 0 ≤ n → n < 1099511627776 → Φ i3 [.int n] g = .ok (.int (rt n)) g) :
    Ok (Pv.run Φ fuel (m_ways_to i0 i1 i2 i3) [some (fD f), some (.int n), none, none, none, none, none, none, none, none, none, none, none, none] g) (retF fun r g' => r = .tuple ((srtP (WL f d n)).map pD) ∧ g' = g) := by
  obtain ⟨a0, a1, b1, b2, e1, e2, e3, e4, m0, mm⟩ := w.sz
  have d1 := w.d1; have d2 := w.d2; have n0 := w.n0; have n1 := w.n1
  unfold m_ways_to
  generalize hQ : retF _ = QQ
  rw [Ok_seq]; simp [hr]
  rw [Ok_seq]; simp [show setT [2, 3, 4] (fD f) [some (fD f), some (.int n), none, none, none, none, none, none, none, none, none, none, none, none] = some [some (fD f), some (.int n), some (.int f.1), some (.int f.2.1), some (.int f.2.2), none, none, none, none, none, none, none, none, none] from rfl]
  rw [Ok_seq]; simp [hd]
  rw [Ok_seq]; simp
  have k1 : mulOk 4 f.1 = true := mulOk_2 (by omega) (by omega)
  have k2 : mulOk (4 * f.1) n = true := mulOk_2 (by omega) (by omega)
  have ld : (-d).natAbs.log2 < 9000 := by
    have : (-d).natAbs.log2 < 15 := by
      by_cases z : (-d).natAbs = 0
      · rw [z]; decide
      · exact (Nat.log2_lt z).mpr (by omega)
    omega
  have p0 : 0 < -d := by omega
  rw [Ok_seq]; simp [k2, show d < 0 by omega, hW _ g e4 (by omega), show d.natAbs.log2 < 9000 by rw [← Int.natAbs_neg]; exact ld, -Int.ediv_neg]
  rw [show rt (4 * f.1 * n / -d) = mostW f d n from rfl]
  have hM : ∃ M, mostW f d n = M := ⟨_, rfl⟩
  obtain ⟨M, hM⟩ := hM
  have hrow := fun y => w.row (y := y)
  have hlen := w.len
  have hWL : WL f d n = rowsW f d n (-M) (2 * M + 1).toNat := by unfold WL; rw [hM]
  rw [hM] at m0 mm hrow hlen ⊢
  rw [Ok_seq, Ok_for]; simp [itV_r2 (show -4611686018427387904 ≤ -M by omega) (by omega) (show -4611686018427387904 ≤ M + 1 by omega) (by omega)]
  rw [show (M + 1 + M).toNat = (2 * M + 1).toNat by omega]
  refine ok_forL (fun k σ g' => g' = g ∧ k ≤ (2 * M + 1).toNat ∧ ∃ (y8 y9 y10 y11 y12 y13 : Option D), σ = [some (fD f), some (.int n), some (.int f.1), some (.int f.2.1), some (.int f.2.2), some (.int d), some (.list ((rowsW f d n (-M) k).map pD)), some (.int M), y8, y9, y10, y11, y12, y13]) ⟨rfl, by omega, _, _, _, _, _, _, rfl⟩ ?_ ?_
  · rintro k x σ g' hx ⟨rfl, hk, y8, y9, y10, y11, y12, y13, rfl⟩
    obtain ⟨hk2, rfl⟩ := rng_at hx
    have es := rowsW_succ f d n (-M) k
    have hl := hlen k hk
    generalize hB : rowsW f d n (-M) k = B at *
    generalize hy : -M + (k : Int) = y at *
    obtain ⟨q0, q1, r0, r1⟩ := hrow y (by omega) (by omega)
    have hsq : 4 * f.1 * n + d * y * y = sqW f d n y := rfl
    have kd : mulOk d y = true := mulOk_2 (by omega) (by omega)
    have kd2 : mulOk (d * y) y = true := mulOk_2 (by omega) (by omega)
    have kb : mulOk f.2.1 y = true := mulOk_2 (by omega) (by omega)
    generalize hR : rowW f d n y = R at es
    unfold rowW at hR
    generalize hr2 : rt (sqW f d n y) = r at *
    generalize hL : loopF _ _ = LL
    have kr : mulOk r r = true := mulOk_2 (by omega) (by omega)
    rw [Ok_turnF]; simp
    rw [Ok_seq]; simp [k2, kd, kd2]
    rw [hsq]
    rw [Ok_seq]; simp [hW _ g' q0 (by omega), hr2]
    rw [Ok_seq]
    by_cases s : r * r = sqW f d n y
    · rw [if_pos s] at hR
      simp [kr, s]
      have nx : ∀ y8 y9 y10 y11 y12 y13, LL (.nx [some (fD f), some (.int n), some (.int f.1), some (.int f.2.1), some (.int f.2.2), some (.int d), some (.list ((B ++ R).map pD)), some (.int M), y8, y9, y10, y11, y12, y13]) g' := fun z8 z9 z10 z11 z12 z13 => by
        rw [← es]
        subst hL
        exact ⟨rfl, by omega, _, _, _, _, _, _, rfl⟩
      rw [Ok_seq]
      refine Ok.mono (P := fun fl g2 => g2 = g' ∧ fl = .nx [some (fD f), some (.int n), some (.int f.1), some (.int f.2.1), some (.int f.2.2), some (.int d), some (.list (B.map pD)), some (.int M), some (.int y), some (.int (sqW f d n y)), some (.int r), some (.list ((tops r).map .int)), y12, y13]) ?_ ?_
      · by_cases z : r = 0
        · simp [z, tops]
        · simp [z, tops]
      rintro _ g2 ⟨rfl, rfl⟩
      simp
      rw [Ok_for]; simp [itV]
      refine ok_forL (fun j σ g3 => g3 = g2 ∧ ∃ (y12 y13 : Option D), σ = [some (fD f), some (.int n), some (.int f.1), some (.int f.2.1), some (.int f.2.2), some (.int d), some (.list ((B ++ ((tops r).take j).filterMap (keepT f.1 (f.2.1 * y) y)).map pD)), some (.int M), some (.int y), some (.int (sqW f d n y)), some (.int r), some (.list ((tops r).map .int)), y12, y13]) ⟨rfl, y12, y13, by simp⟩ ?_ ?_
      · rintro j v σ g3 hv ⟨rfl, y12, y13, rfl⟩
        rw [List.getElem?_map] at hv
        obtain ⟨t, ht, rfl⟩ := Option.map_eq_some_iff.mp hv
        have tb : -1800 ≤ t ∧ t ≤ 1800 := by
          have := mem_tops.mp (List.mem_of_getElem? ht)
          omega
        have et := take_fm (f := keepT f.1 (f.2.1 * y) y) ht
        have ln : ((B ++ ((tops r).take j).filterMap (keepT f.1 (f.2.1 * y) y)).map pD).length < lineN := by
          rw [List.length_map, List.length_append]
          have := List.length_filterMap_le (keepT f.1 (f.2.1 * y) y) ((tops r).take j)
          have := tops_len r
          rw [List.length_take] at *
          unfold lineN
          omega
        generalize hI : loopF _ _ = II
        have nxI : ∀ y12 y13, II (.nx [some (fD f), some (.int n), some (.int f.1), some (.int f.2.1), some (.int f.2.2), some (.int d), some (.list ((B ++ (((tops r).take j).filterMap (keepT f.1 (f.2.1 * y) y) ++ (keepT f.1 (f.2.1 * y) y t).toList)).map pD)), some (.int M), some (.int y), some (.int (sqW f d n y)), some (.int r), some (.list ((tops r).map .int)), y12, y13]) g3 := fun z12 z13 => by
          rw [← et]
          subst hI
          exact ⟨rfl, _, _, rfl⟩
        generalize ((tops r).take j).filterMap (keepT f.1 (f.2.1 * y) y) = C at *
        rw [← List.append_assoc] at nxI
        generalize B ++ C = E at *
        unfold keepT at nxI
        have by1 : -85000 ≤ f.2.1 * y ∧ f.2.1 * y ≤ 85000 := by
          have h1 : (f.2.1 * y).natAbs ≤ 81 * 1039 := by rw [Int.natAbs_mul]; exact Nat.mul_le_mul (by omega) (by omega)
          omega
        generalize hc : f.2.1 * y = c at *
        have p2 : 0 < 2 * f.1 := by omega
        have l9 := lam a0 a1
        have xb : -100000 ≤ (t - c) / (2 * f.1) ∧ (t - c) / (2 * f.1) ≤ 100000 := by
          have q := Int.emod_add_mul_ediv (t - c) (2 * f.1)
          have z0 := Int.emod_nonneg (t - c) (show 2 * f.1 ≠ 0 by omega)
          have z1 := Int.emod_lt_of_pos (t - c) p2
          generalize (t - c) / (2 * f.1) = X at *
          generalize (t - c) % (2 * f.1) = Z at *
          constructor
          · by_cases h : -100000 ≤ X
            · exact h
            · have := mulL (show X ≤ -100001 by omega) (show 0 ≤ 2 * f.1 by omega)
              omega
          · by_cases h : X ≤ 100000
            · exact h
            · have := mulL (show 100001 ≤ X by omega) (show 0 ≤ 2 * f.1 by omega)
              omega
        have sx : Sz bg ((t - c) / (2 * f.1)) := szb (by omega) (by omega)
        have sy : Sz bg y := szb (by omega) (by omega)
        have gc := hg _ _ g3 sx sy
        rw [Ok_turnF]; simp
        by_cases w1 : (t - c) % (2 * f.1) = 0
        · simp [kb, p2, w1, hc]
          rw [Ok_seq]; simp [kb, p2, l9, hc]
          by_cases w2 : Int.gcd ((t - c) / (2 * f.1)) y = 1
          · simp [gc, w2, app_l ln]
            have := nxI (some (.int t)) (some (.int ((t - c) / (2 * f.1))))
            simp [w1, w2] at this
            simpa [pD] using this
          · have w3 : ¬ ((Int.gcd ((t - c) / (2 * f.1)) y : Nat) : Int) = 1 := by omega
            simp [gc, w2, w3]
            have := nxI (some (.int t)) (some (.int ((t - c) / (2 * f.1))))
            simp [w1, w2] at this
            exact this
        · simp [kb, p2, w1, hc]
          have := nxI (some (.int t)) y13
          simp [w1] at this
          exact this
      · rintro σ g3 ⟨rfl, y12, y13, rfl⟩
        rw [List.length_map, List.take_of_length_le (Nat.le_refl _), hR]
        exact nx _ _ _ _ _ _
    · rw [if_neg s] at hR
      simp [kr, s]
      rw [← hR, List.append_nil] at es
      subst hL
      refine ⟨rfl, by omega, some (.int y), some (.int (sqW f d n y)), some (.int r), y11, y12, y13, ?_⟩
      rw [es]
  · rintro σ g' ⟨rfl, hk, y8, y9, y10, y11, y12, y13, rfl⟩
    rw [rng_len, ← hWL]
    simp [bi_srt]
    subst hQ
    exact ⟨rfl, rfl⟩
end Xk40
end

section
/-! FoN: drawn discriminants. -/
set_option autoImplicit false
namespace Xk40
open PySem Pv
variable {Φ : Fns} {g : G}
def intIn (lo hi : Int) : D → Bool
  | .int i => decide (lo ≤ i) && decide (i ≤ hi)
  | _ => false
theorem of_intIn {lo hi : Int} {d : D} (h : intIn lo hi d = true) : ∃ i, d = .int i ∧ lo ≤ i ∧ i ≤ hi := by
  cases d with
  | int i => simp [intIn] at h; exact ⟨i, rfl, h⟩
  | _ => simp [intIn] at h
theorem discriminant_run {i0 i1 n : Nat} (hd : DkOk n g) (hn : n < 900000) (h0 : ∀ (n : Nat) (below : Int) g, DkOk n g → 0 < below → below.natAbs.log2 < 8999 → n < 1000000 → Ok (Φ i0 [tokD 0, .int below] g) (fun r g' => DkOk (n + 1) g' ∧ ∃ i, r = .int i ∧ 0 ≤ i ∧ i < below))
    (h1 : ∀ (n : Nat) (xs : List D) g, DkOk n g → n < 1000000 → xs ≠ [] → xs.length < 100000 → Ok (Φ i1 [tokD 0, .tuple xs] g) (fun r g' => DkOk (n + 1) g' ∧ r ∈ xs)) :
    Ok (Pv.run Φ fuel (m__law_discriminant i0 i1) [some (tokD 0), none, none, none, none] g) (retF fun r g' => DkOk (n + 3) g' ∧ ∃ d, r = .int d ∧ isDisc d) := by
  unfold m__law_discriminant
  generalize hQ : retF _ = QQ
  have dv : dispV [.int 0, .int 0, .int 1, .int 0, .int 2, .int 1, .int 3, .int 2] [] = some [(.int 0, .int 0), (.int 1, .int 0), (.int 2, .int 1), (.int 3, .int 2)] := rfl
  have last : ∀ (x : Int) g', DkOk (n + 3) g' → -20000 ≤ x → x ≤ -3 → ∃ t : Int, dixV (.dict [(.int 0, .int 0), (.int 1, .int 0), (.int 2, .int 1), (.int 3, .int 2)]) (.int (x % 4)) = some (.int t) ∧ QQ (.rt (.int (x - t))) g' := fun x g' hg x1 x2 => by
    have fin : ∀ t : Int, (x % 4 = 0 ∧ t = 0) ∨ (x % 4 = 1 ∧ t = 0) ∨ (x % 4 = 2 ∧ t = 1) ∨ (x % 4 = 3 ∧ t = 2) → QQ (.rt (.int (x - t))) g' := fun t ht => by
      subst hQ
      refine ⟨hg, _, rfl, ?_⟩
      unfold isDisc
      omega
    have h : x % 4 = 0 ∨ x % 4 = 1 ∨ x % 4 = 2 ∨ x % 4 = 3 := by omega
    rcases h with h | h | h | h
    · exact ⟨0, by rw [h]; rfl, fin 0 (by omega)⟩
    · exact ⟨0, by rw [h]; rfl, fin 0 (by omega)⟩
    · exact ⟨1, by rw [h]; rfl, fin 1 (by omega)⟩
    · exact ⟨2, by rw [h]; rfl, fin 2 (by omega)⟩
  rw [Ok_seq]; simp
  refine (h0 n 4 g hd (by omega) (by decide) (by omega)).mono ?_
  rintro _ g1 ⟨hg1, w, rfl, w0, w1⟩
  rw [Ok_seq]
  by_cases q0 : w = 0
  · subst q0
    simp
    refine (h0 _ 120 g1 hg1 (by omega) (by decide) (by omega)).mono ?_
    rintro _ g2 ⟨hg2, x, rfl, x0, x1⟩
    obtain ⟨t, e, q⟩ := last (-3 - x) g2 (hg2.mono (by omega)) (by omega) (by omega)
    simp [dv, e]
    exact q
  · by_cases q1 : w = 1
    · subst q1
      simp
      refine (h0 _ 19998 g1 hg1 (by omega) (by decide) (by omega)).mono ?_
      rintro _ g2 ⟨hg2, x, rfl, x0, x1⟩
      obtain ⟨t, e, q⟩ := last (-3 - x) g2 (hg2.mono (by omega)) (by omega) (by omega)
      simp [dv, e]
      exact q
    · simp [q0, q1]
      rw [Ok_seq]; simp
      rw [Ok_seq]; simp
      refine (h1 _ _ g1 hg1 (by omega) (by simp) (by simp)).mono ?_
      rintro r g2 ⟨hg2, hr⟩
      obtain ⟨f, rfl, f0, f1⟩ := of_intIn (lo := 1) (hi := 30) (List.all_eq_true.mp (by decide) r hr)
      refine (h1 _ _ g2 hg2 (by omega) (by simp) (by simp)).mono ?_
      rintro r g3 ⟨hg3, hr⟩
      obtain ⟨s, rfl, s0, s1⟩ := of_intIn (lo := -300) (hi := -3) (List.all_eq_true.mp (by decide) r hr)
      have m1 : mulOk s f = true := mulOk_2 (by omega) (by omega)
      have m2 : mulOk (s * f) f = true := mulOk_2 (by omega) (by omega)
      have p1 : s * f ≤ -3 := by
        have := mulL (show 1 ≤ f by omega) (show 0 ≤ -s by omega)
        have t : -s * f = -(s * f) := Int.neg_mul ..
        omega
      have p2 : s * f * f ≤ -3 := by
        have := mulL (show 1 ≤ f by omega) (show 0 ≤ -(s * f) by omega)
        have t : -(s * f) * f = -(s * f * f) := Int.neg_mul ..
        omega
      obtain ⟨t, e, q⟩ := last (if -20000 < s * f * f then s * f * f else -20000) g3 (hg3.mono (by omega)) (by split <;> omega) (by split <;> omega)
      simp [m1, m2, dv, e]
      exact q
end Xk40
end

section
/-! PvShB: long lists of short tuples of small ints, shown. -/
set_option autoImplicit false
namespace Pv
open PySem
def tnI (i : Int) : Prop := i.natAbs < 2 ^ 20
theorem p20 : (2 : Nat) ^ 20 ≤ 10 ^ 12 := by decide
theorem tn_one {i : Int} (h : tnI i) : fine (.int i) = true ∧ (PyData.int i).intsShort 13 = true ∧ (PyData.int i).weight ≤ 20 := by
  have h2 : i.natAbs < 10 ^ 12 := Nat.lt_of_lt_of_le h p20
  refine ⟨decide_eq_true (Nat.lt_of_lt_of_le h2 (by decide +kernel)), ?_, ?_⟩
  · have e := int_text_length_le10 (k := 12) (by decide) h2
    have e2 : (PyData.shown (.int i)).length ≤ 13 := by
      show (Str.ofString (toString i)).length ≤ 13
      rw [ofString_length]; exact e
    exact decide_eq_true e2
  · unfold PyData.weight
    split
    · omega
    · rename_i z
      have : i.natAbs ≠ 0 := by
        intro q
        apply z
        have : i = 0 := by omega
        rw [this]; rfl
      have := (Nat.log2_lt this).mpr h
      omega
theorem tn_row : ∀ {is : List Int}, (∀ i ∈ is, tnI i) → fineAll (is.map .int) = true ∧ PyData.intsShortAll 13 (is.map .int) = true ∧ PyData.depthAll (is.map .int) = 0 ∧ PyData.weightAll (is.map .int) ≤ 21 * is.length
  | [], _ => ⟨rfl, rfl, by simp [PyData.depthAll], by simp [PyData.weightAll]⟩
  | i :: is, h => by
    obtain ⟨h1, h2, h3⟩ := tn_one (h i List.mem_cons_self)
    obtain ⟨i1, i2, i3, i4⟩ := tn_row (is := is) fun x hx => h x (List.mem_cons_of_mem _ hx)
    rw [List.map_cons]
    refine ⟨?_, ?_, ?_, ?_⟩
    · unfold fineAll; rw [h1, i1]; rfl
    · unfold PyData.intsShortAll; rw [h2, i2]; rfl
    · unfold PyData.depthAll; rw [i3]; rfl
    · unfold PyData.weightAll
      rw [List.length_cons]
      omega
theorem tn_rows : ∀ {rs : List (List Int)}, (∀ r ∈ rs, r.length ≤ 3 ∧ ∀ i ∈ r, tnI i) → fineAll (rs.map tupD) = true ∧ PyData.intsShortAll 13 (rs.map tupD) = true ∧ PyData.depthAll (rs.map tupD) ≤ 1 ∧ PyData.weightAll (rs.map tupD) ≤ 70 * rs.length
  | [], _ => ⟨rfl, rfl, by simp [PyData.depthAll], by simp [PyData.weightAll]⟩
  | r :: rs, h => by
    obtain ⟨l, hr⟩ := h r List.mem_cons_self
    obtain ⟨h1, h2, h3, h4⟩ := tn_row hr
    obtain ⟨i1, i2, i3, i4⟩ := tn_rows (rs := rs) fun x hx => h x (List.mem_cons_of_mem _ hx)
    rw [List.map_cons]
    unfold tupD at *
    refine ⟨?_, ?_, ?_, ?_⟩
    · unfold fineAll fine; rw [h1, i1]; rfl
    · unfold PyData.intsShortAll PyData.intsShort; rw [h2, i2]; rfl
    · unfold PyData.depthAll PyData.depth; rw [h3]; omega
    · unfold PyData.weightAll PyData.weight
      rw [List.length_cons]
      omega
theorem show_rows {rs : List (List Int)} (h : ∀ r ∈ rs, r.length ≤ 3 ∧ ∀ i ∈ r, tnI i) (hl : rs.length ≤ 7000) : showOk (.list [.tuple (rs.map tupD), .tuple (rs.map tupD)]) = true := by
  obtain ⟨h1, h2, h3, h4⟩ := tn_rows h
  generalize rs.map tupD = xs at *
  have f : fine (.list [.tuple xs, .tuple xs]) = true := by simp [fine, fineAll, h1]
  have lay := fine_lay _ f
  have sh : (PyData.list [.tuple xs, .tuple xs]).showable = true := (fine_short _ f).2
  have dp : (PyData.list [.tuple xs, .tuple xs]).depth ≤ 64 := by
    simp only [PyData.depth, PyData.depthAll]; omega
  have wt : (PyData.list [.tuple xs, .tuple xs]).weight ≤ 2 ^ 20 := by
    simp only [PyData.weight, PyData.weightAll]
    have : (2 : Nat) ^ 20 = 1048576 := by decide
    omega
  have is : (PyData.list [.tuple xs, .tuple xs]).intsShort 13 = true := by
    simp [PyData.intsShort, PyData.intsShortAll, h2]
  have ly : PyData.layable0 (.list [.tuple xs, .tuple xs]) = true := by
    unfold PyData.layable0
    rw [lay, decide_eq_true dp, decide_eq_true wt]; rfl
  have ln := PyData.shown_le_of_layable0 ly is
  have s : shp (.list [.tuple xs, .tuple xs]) = true := by
    show (PyData.canLay0 (.list [.tuple xs, .tuple xs]) && decide (PyData.depth (.list [.tuple xs, .tuple xs]) ≤ 64)) = true
    rw [lay, decide_eq_true dp]; rfl
  unfold showOk
  rw [s, sh, Bool.true_or, Bool.true_and, Bool.true_and]
  refine decide_eq_true ?_
  unfold lineN
  omega
theorem PL_len2 (d : Int) : (PL d).length ≤ 6642 := by
  have : ∀ n : Nat, n ≤ 81 → (rowsP d n).length ≤ n * (n + 1) := by
    intro n
    induction n with
    | zero => intro _; exact Nat.le_refl _
    | succ n ih =>
      intro h
      rw [rows_succ, List.length_append]
      have h1 := ih (by omega)
      have h2 : (rowP d (n + 1)).length ≤ (2 * ((n : Int) + 1)).toNat := by
        unfold rowP
        refine Nat.le_trans (List.length_filterMap_le _ _) ?_
        rw [List.length_range]; omega
      have e : (n + 1) * (n + 1 + 1) = n * (n + 1) + 2 * (n + 1) := by grind
      omega
  have := this 81 (by omega)
  unfold PL
  omega
theorem shp_rows {rs : List (List Int)} (h : ∀ r ∈ rs, r.length ≤ 3 ∧ ∀ i ∈ r, tnI i) : shp (.tuple (rs.map tupD)) = true := by
  obtain ⟨h1, h2, h3, h4⟩ := tn_rows h
  generalize rs.map tupD = xs at *
  have f : fine (.tuple xs) = true := by simp [fine, h1]
  show (PyData.canLay0 (.tuple xs) && decide (PyData.depth (.tuple xs) ≤ 64)) = true
  rw [fine_lay _ f, decide_eq_true (show (PyData.tuple xs).depth ≤ 64 by simp only [PyData.depth]; omega)]; rfl
end Pv
end

section
/-! FoZc: k40: values, products and powers looked at, the law. -/
set_option autoImplicit false
namespace Xk40
open PySem Pv
variable {Φ : Fns} {g : G}
abbrev DrawC (Φ : Fns) (i : Nat) : Prop := ∀ (n : Nat) (below : Int) g, DkOk n g → 0 < below → below.natAbs.log2 < 8999 → n < 1000000 → Ok (Φ i [tokD 0, .int below] g) (fun r g' => DkOk (n + 1) g' ∧ ∃ i, r = .int i ∧ 0 ≤ i ∧ i < below)
/-- a value at a coprime pair -/
def ValC (f : Fm) (v : Int) : Prop := 1 ≤ v ∧ Sz 40 v ∧ ∃ p, IsWay f v p
theorem law_value_run {i0 i1 n : Nat} {d : Int} {f : Fm} (D : Dd d) (hf : Rf d f) (hg : DkOk n g) (hn : n < 900000) (h0 : DrawC Φ i0)
    (h1 : ∀ a b g, Sz bg a → Sz bg b → Φ i1 [.int a, .int b] g = .ok (.int (Int.gcd a b)) g) :
    Ok (Pv.run Φ fuel (m__law_value i0 i1) [some (tokD 0), some (fD f), none, none, none] g) (retF fun r g' => DkOk (n + 2) g' ∧ ∃ v, r = .int v ∧ ValC f v) := by
  unfold m__law_value
  generalize hQ : retF _ = QQ
  have e0 : idxV (fD f) (.int 0) = some (.int f.1) := idx_tuple (n := 0) rfl
  have e1 : idxV (fD f) (.int 1) = some (.int f.2.1) := idx_tuple (n := 1) rfl
  have e2 : idxV (fD f) (.int 2) = some (.int f.2.2) := idx_tuple (n := 2) rfl
  have sf := hf.sz D.lo D.hi
  rw [Ok_seq]; simp
  refine (h0 n 5 g hg (by omega) (by decide) (by omega)).mono ?_
  rintro _ g1 ⟨hg1, a, rfl, a0, a1⟩
  try simp
  refine (h0 _ 9 g1 hg1 (by omega) (by decide) (by omega)).mono ?_
  rintro _ g2 ⟨hg2, b, rfl, b0, b1⟩
  try simp
  generalize hx : 1 + a = x at *
  generalize hy : b - 4 = y at *
  have sx : Sz 4 x := by unfold Sz; omega
  have sy : Sz 4 y := by unfold Sz; omega
  have hG := h1 x y g2 (sx.mono (by unfold bg; omega)) (sy.mono (by unfold bg; omega))
  rw [Ok_seq]; simp [hG]
  have du : (Int.gcd x y : Int) ∣ x := Int.gcd_dvd_left ..
  have dv : (Int.gcd x y : Int) ∣ y := Int.gcd_dvd_right ..
  obtain ⟨u, hu⟩ := du
  obtain ⟨v, hv⟩ := dv
  have gl : Int.gcd x y ≤ x.natAbs := Int.gcd_le_natAbs_left y (by omega)
  have gp : 0 < Int.gcd x y := Int.gcd_pos_of_ne_zero_left y (by omega)
  have guv : Int.gcd u v = 1 := by
    have e : Int.gcd (Int.gcd x y * u) (Int.gcd x y * v) = (Int.gcd x y : Int).natAbs * Int.gcd u v := Int.gcd_mul_left ..
    rw [← hu, ← hv, Int.natAbs_natCast] at e
    have : Int.gcd x y * 1 = Int.gcd x y * Int.gcd u v := by omega
    exact (Nat.eq_of_mul_eq_mul_left gp this).symm
  generalize Int.gcd x y = G0 at *
  have g0 : 0 < (G0 : Int) := by omega
  have lg : (G0 : Int).natAbs.log2 < 9000 := by
    rw [Int.natAbs_natCast]
    exact Nat.lt_of_le_of_lt (Nat.log2_le_self _) (by omega)
  have xu : x / G0 = u := by rw [hu]; exact Int.mul_ediv_cancel_left _ (by omega)
  have yv : y / G0 = v := by rw [hv]; exact Int.mul_ediv_cancel_left _ (by omega)
  have su : Sz 4 u := by rw [← xu]; exact sz_ediv g0 sx
  have sv : Sz 4 v := by rw [← yv]; exact sz_ediv g0 sy
  have lg' : G0.log2 < 9000 := by simpa using lg
  rw [Ok_seq]; simp [show 0 < G0 by omega, lg', xu, yv]
  have k1 : mulOk f.1 u = true := mulOk_sz sf.a su (by omega)
  have k2 : mulOk (f.1 * u) u = true := mulOk_sz (sf.a.mul su) su (by omega)
  have k3 : mulOk f.2.1 u = true := mulOk_sz sf.b su (by omega)
  have k4 : mulOk (f.2.1 * u) v = true := mulOk_sz (sf.b.mul su) sv (by omega)
  have k5 : mulOk f.2.2 v = true := mulOk_sz sf.c sv (by omega)
  have k6 : mulOk (f.2.2 * v) v = true := mulOk_sz (sf.c.mul sv) sv (by omega)
  have un : u ≠ 0 := fun z => by rw [z, Int.mul_zero] at hu; omega
  have vp := val_pos (hf.good D.lo D.hi) (x := u) (y := v) (fun h => un h.1)
  simp [e0, e1, e2, k1, k2, k3, k4, k5, k6]
  subst hQ
  exact ⟨hg2.mono (by omega), val f u v, rfl, by omega, (sz_val sf su sv).mono (by omega), (u, v), rfl, guv⟩
theorem show_three {x : Pv.D} (h1 : fine x = true) (h2 : x.depth ≤ 60) (h3 : x.weight ≤ 5000) : showOk (.list [x, x, x]) = true := by
  refine show_fine ?_ ?_ ?_
  · simp [fine, fineAll, h1]
  · simp only [PyData.depth, PyData.depthAll]
    omega
  · simp only [PyData.weight, PyData.weightAll]
    omega
theorem rf_smf {d : Int} {f : Fm} (D : Dd d) (h : Rf d f) : SmF f := by
  have s := h.sz D.lo D.hi
  have p : ∀ {x : Int}, Sz 20 x → smI x := fun h => h.mono (by omega)
  exact ⟨p s.a, p s.b, p s.c⟩
theorem rep3 (x : Pv.D) : binV .mul (.list [x]) (.int 3) = some (.list [x, x, x]) := rfl
theorem rep2 (x : Pv.D) : binV .mul (.list [x]) (.int 2) = some (.list [x, x]) := rfl
theorem is_product_right_run {i0 i1 i2 : Nat} {d : Int} {f h : Fm} (D : Dd d) (hf : Fo d f) (hh : Fo d h) (sf : SzK 150 f) (sh : SzK 150 h) (hl : CmpC Φ i0 d) (hc : CmpC Φ i1 d) (hr : ∀ f g, Rf d f → Φ i2 [fD f] g = .ok (.bool true) g) :
    Ok (Pv.run Φ fuel (m__law_is_product_right i0 i1 i2) [some (fD f), some (fD h), none, none] g) (retF fun r g' => r = .bool true ∧ g' = g) := by
  unfold m__law_is_product_right
  have pr := prC_rf hf hh D
  have isT : cmpV .isN (.bool true) (.bool true) = some true := rfl
  have c1 := hl f h g hf hh sf sh
  have c2 := hc f h g hf hh sf sh
  have c3 := hc h f g hh hf sh sf
  rw [prC_comm D hh hf] at c3
  have rr := hr (prC d f h) g pr
  obtain ⟨w1, w2, w3⟩ := (rf_smf D pr).fine
  have sho := bi_repr (show_three w1 (by omega) (by omega))
  rw [Ok_seq]; simp [c1]
  rw [Ok_seq]; simp [c2, c3, pm]
  simp [rep3, sho, rr, isT, eq_same]
theorem are_powers_right_run {i0 i1 i2 i3 i4 i5 n : Nat} {d : Int} {f : Fm} (D : Dd d) (hf : Fo d f) (hs : SzK 150 f) (hg : DkOk n g) (hn : n < 900000) (h0 : DrawC Φ i0) (h1 : ∀ g, Φ i1 [.int d] g = .ok (fD (fstF d)) g)
    (h2 : ∀ (m : Nat) g, IsOrd d f m → m ≤ 100000 → Φ i2 [fD f, .int d] g = .ok (.int m) g)
    (h3 : ∀ (m : Nat) g, m < 2 ^ 1000 → Φ i3 [fD f, .int m, .int d] g = .ok (fD (pwF d f m)) g)
    (h4 : ∀ (m : Nat) g, IsOrd d f m → m ≤ 100000 → Φ i4 [fD f] g = .ok (.int m) g)
    (h5 : ∀ (e : Int) g, Sz 1000 e → Φ i5 [fD f, .int e] g = .ok (fD (zpF d f e)) g) :
    Ok (Pv.run Φ fuel (m__law_are_powers_right i0 i1 i2 i3 i4 i5) [some (tokD 0), some (fD f), some (.int d), some (.int ((PL d).length : Int)), none, none, none, none, none] g) (retF fun r g' => r = .bool true ∧ DkOk (n + 3) g') := by
  unfold m__law_are_powers_right
  generalize hQ : retF _ = QQ
  obtain ⟨m, ho, hm⟩ := ord_ex D hf
  have pl := PL_len d
  have m0 := ho.1
  have hl2 := h2 m g ho (by omega)
  have hl4 := h4 m g ho (by omega)
  rw [Ok_seq]; simp [h1, hl2]
  have dv : ((PL d).length : Int) % (m : Int) = 0 := by
    have := ord_dvd D hf ho
    exact Int.emod_eq_zero_of_dvd (Int.ofNat_dvd.mpr this)
  have sh1 := bi_repr (show_ints (i := (m : Int)) (sm_of (by omega) (by omega)))
  rw [Ok_seq]; simp [hl4, pm, rep2, sh1, ne_same, dv, show 0 < m by omega]
  have pw6 : powOk 10 6 = true := by decide
  have pw24 : powOk 10 24 = true := by decide
  rw [Ok_seq]; simp [pw6, pw24]
  refine (h0 n 1000000 g hg (by omega) (by decide) (by omega)).mono ?_
  rintro _ g1 ⟨hg1, a, rfl, a0, a1⟩
  have ka : mulOk a 999999999999999999999997 = true := mulOk_1 (by omega) (by omega)
  try simp
  simp [ka, pw6]
  refine (h0 _ 1000000 g1 hg1 (by omega) (by decide) (by omega)).mono ?_
  rintro _ g2 ⟨hg2, b, rfl, b0, b1⟩
  try simp
  generalize hE : a * 999999999999999999999997 + b = E at *
  have sE : Sz 1000 E := by
    have : Sz 130 E := by unfold Sz; omega
    exact this.mono (by omega)
  rw [Ok_seq, Ok_for]; simp
  refine (h0 _ 19 g2 hg2 (by omega) (by decide) (by omega)).mono ?_
  rintro _ g3 ⟨hg3, c, rfl, c0, c1⟩
  simp [itV]
  rw [show [PyData.int (c - 9), .int E, .int (-E), .int (m : Int), .int 0, .int ((m : Int) - 1), .int (-1)] = [c - 9, E, -E, (m : Int), 0, (m : Int) - 1, -1].map .int from rfl]
  have s11 : ∀ x : Int, x.natAbs < 1000000 → Sz 1000 x := fun x hx => by
    have : Sz 20 x := by unfold Sz; omega
    exact this.mono (by omega)
  have hs7 : ∀ e ∈ [c - 9, E, -E, (m : Int), 0, (m : Int) - 1, -1], Sz 1000 e := fun e he => by
    simp only [List.mem_cons, List.not_mem_nil, or_false] at he
    rcases he with rfl | rfl | rfl | rfl | rfl | rfl | rfl
    · exact s11 _ (by omega)
    · exact sE
    · exact sE.neg
    · exact s11 _ (by omega)
    · exact s11 _ (by omega)
    · exact s11 _ (by omega)
    · exact s11 _ (by omega)
  refine ok_forL (fun k σ g' => g' = g3 ∧ ∃ y7 y8, σ = [some (tokD 0), some (fD f), some (.int d), some (.int ((PL d).length : Int)), some (fD (fstF d)), some (.int (m : Int)), some (.int E), y7, y8]) ⟨rfl, _, _, rfl⟩ ?_ ?_
  · rintro k x σ g' hx ⟨rfl, y7, y8, rfl⟩
    rw [List.getElem?_map] at hx
    obtain ⟨e, he, rfl⟩ := Option.map_eq_some_iff.mp hx
    have se := hs7 e (List.mem_of_getElem? he)
    have r0 := Int.emod_nonneg e (show (m : Int) ≠ 0 by omega)
    have r1 := Int.emod_lt_of_pos e (show 0 < (m : Int) by omega)
    have c3 := h3 (e % (m : Int)).toNat g' (by
      have : (e % (m : Int)).toNat < 2 ^ 20 := by omega
      exact Nat.lt_of_lt_of_le this (Nat.pow_le_pow_right (by omega) (by omega)))
    rw [show (((e % (m : Int)).toNat : Nat) : Int) = e % (m : Int) by omega] at c3
    have c5 := h5 e g' se
    rw [zp_mod D hf ho] at c5
    generalize hP : pwF d f (e % (m : Int)).toNat = P at *
    have rp : Rf d P := by rw [← hP]; exact pw_rf D hf _
    have sh := bi_repr (show_fm (rp.sz D.lo D.hi) (by omega))
    generalize hL : loopF _ _ = LL
    rw [Ok_turnF]; simp
    rw [Ok_seq]; simp [show 0 < m by omega, c3]
    simp [c5, pm, sh, ne_same]
    subst hL
    exact ⟨rfl, _, _, rfl⟩
  · rintro σ g' ⟨rfl, y7, y8, rfl⟩
    have z1 := h5 (m : Int) g' (s11 _ (by omega))
    have z2 := h5 ((m : Int) - 1) g' (s11 _ (by omega))
    have e1 : zpF d f (m : Int) = fstF d := by rw [zp_mod D hf ho, Int.emod_self]; rfl
    rw [e1] at z1
    simp [z1, eq_f]
    by_cases q : m = 1
    · subst q
      simp
      subst hQ
      exact ⟨rfl, hg3⟩
    · have e2 : zpF d f ((m : Int) - 1) = pwF d f (m - 1) := by
        unfold zpF
        rw [if_pos (by omega)]
        congr 1
        omega
      have e3 := ho.2.2 (m - 1) (by omega) (by omega)
      rw [e2] at z2
      have q2 : ¬ (m : Int) = 1 := by omega
      simp [q2, q, z2, ne_f, e3]
      subst hQ
      exact ⟨rfl, hg3⟩
end Xk40
end

section
/-! FoYw: ways to a number, as rows. -/
set_option autoImplicit false
namespace Xk40
open PySem Pv
variable {Φ : Fns} {g : G}
theorem WyOk.mem {f : Fm} {d n : Int} (w : WyOk f d n) {p : Pr2} (h : IsWay f n p) : p.1.natAbs < 2 ^ 18 ∧ p.2.natAbs < 2 ^ 18 := by
  obtain ⟨a0, a1, b1, b2, e1, e2, e3, e4, m0, mm⟩ := w.sz
  have yb := way_in a0 w.rf.disc w.d2 w.n0 h
  have e := val_id f p.1 p.2
  rw [h.1, w.rf.disc] at e
  have yy := sq_nn p.2
  have d2 := w.d2
  have dd : 0 ≤ -d * (p.2 * p.2) := Int.mul_nonneg (by omega) yy
  have e5 : d * p.2 * p.2 = -(-d * (p.2 * p.2)) := by grind
  have h1 : (f.2.1 * p.2).natAbs ≤ 81 * 1039 := by rw [Int.natAbs_mul]; exact Nat.mul_le_mul (by omega) (by omega)
  generalize f.2.1 * p.2 = c at *
  have ea : 2 * f.1 * p.1 = 2 * (f.1 * p.1) := by grind
  generalize hT : 2 * f.1 * p.1 + c = T at e
  have t1 : T < 1801 := sq_lt (by omega) (by omega)
  have t2 : -T < 1801 := sq_lt (by omega) (by rw [Int.neg_mul_neg]; omega)
  have h2 : (f.1 * p.1).natAbs ≤ 44000 := by omega
  rw [Int.natAbs_mul] at h2
  have h3 : p.1.natAbs ≤ f.1.natAbs * p.1.natAbs := Nat.le_mul_of_pos_left _ (by omega)
  omega
theorem WyOk.rows {f : Fm} {d n : Int} (w : WyOk f d n) : ∀ r ∈ (srtP (WL f d n)).map pL, r.length ≤ 3 ∧ ∀ i ∈ r, tnI i := by
  intro r hr
  obtain ⟨p, hp, rfl⟩ := List.mem_map.mp hr
  have hw := (mem_WL w.sz.1 w.rf.disc w.d2 w.n0).mp (mem_srtP.mp hp)
  obtain ⟨h1, h2⟩ := w.mem hw
  refine ⟨by simp [pL], fun i hi => ?_⟩
  unfold tnI
  simp only [pL, List.mem_cons, List.not_mem_nil, or_false] at hi
  rcases hi with rfl | rfl <;> omega
theorem pD_rows (l : List Pr2) : l.map pD = (l.map pL).map tupD := by rw [List.map_map]; rfl
theorem fD_rows (l : List Fm) : l.map fD = (l.map fL).map tupD := by rw [List.map_map]; rfl
theorem WyOk.wlen {f : Fm} {d n : Int} (w : WyOk f d n) : (srtP (WL f d n)).length ≤ 4158 := by
  rw [srtP_len]
  exact w.len _ (Nat.le_refl _)
theorem way_neg {f : Fm} {n : Int} {p : Pr2} (h : IsWay f n p) : IsWay f n (-p.1, -p.2) := by
  refine ⟨?_, ?_⟩
  · rw [← h.1]; unfold val; simp only; grind
  · simp only [Int.gcd_neg, Int.neg_gcd]; exact h.2
theorem in_rows {rs : List (List Int)} {r : List Int} (h : ∀ r ∈ rs, r.length ≤ 3 ∧ ∀ i ∈ r, tnI i) (hr : r ∈ rs) : cmpV .notin (tupD r) (.tuple (rs.map tupD)) = some false := by
  have s1 := shp_rows h
  have f1 := (tn_row (h r hr).2)
  have s2 : shp (tupD r) = true := by
    have f : fine (tupD r) = true := by unfold tupD; simp only [fine]; exact f1.1
    show (PyData.canLay0 (tupD r) && decide (PyData.depth (tupD r) ≤ 64)) = true
    rw [fine_lay _ f, decide_eq_true (show (tupD r).depth ≤ 64 by unfold tupD; simp only [PyData.depth]; have := f1.2.2.1; omega)]; rfl
  have c2 : (tupD r).canLay0 = true := by
    unfold shp SeqAt.shaped at s2
    simp only [Bool.and_eq_true] at s2
    exact s2.1
  have e : ((rs.map tupD).any fun z => PyData.eqv z (tupD r)) = true := List.any_eq_true.mpr ⟨tupD r, List.mem_map_of_mem hr, SeqAt.eqv_refl _ c2⟩
  show (if shp (tupD r) && shp (.tuple (rs.map tupD)) then some ((rs.map tupD).any fun z => PyData.eqv z (tupD r)) else none).map (!·) = _
  rw [s1, s2, e]; rfl
end Xk40
end

section
/-! FoZd: k40: the law. -/
set_option autoImplicit false
namespace Xk40
open PySem Pv
variable {Φ : Fns} {g : G}
/-- a form of the discriminant, not too long -/
structure Lf (d : Int) (f : Fm) : Prop where
  fo : Fo d f
  sz : SzK 150 f
theorem Lf.rf {d : Int} {f : Fm} (D : Dd d) (h : Rf d f) : Lf d f := ⟨h.fo, rf150 D h⟩
theorem idx_list {xs : List Pv.D} {n : Nat} {x : Pv.D} (h : xs[n]? = some x) : idxV (.list xs) (.int n) = some x := L2.atI_nat h
theorem way_self (f : Fm) : IsWay f f.1 (1, 0) := ⟨by unfold val; simp, by simp⟩
theorem way_last (f : Fm) : IsWay f f.2.2 (0, 1) := ⟨by unfold val; simp, by simp⟩
theorem rf_vals {d : Int} {f : Fm} (D : Dd d) (h : Rf d f) : ValC f f.1 ∧ ValC f f.2.2 := by
  have s := h.sz D.lo D.hi
  have a0 := h.red.a0
  have ac := h.red.ac
  exact ⟨⟨by omega, s.a.mono (by omega), _, way_self f⟩, ⟨by omega, s.c.mono (by omega), _, way_last f⟩⟩
def NearI (d : Int) (k : Nat) (ys : List Pv.D) (g : G) : Prop := k ≤ 3 ∧ DkOk (3 + k) g ∧ ∃ fs : List Fm, ys = fs.map fD ∧ fs.length = k ∧ ∀ f ∈ fs, Rf d f
def LedI (d : Int) (es : List Fm) (k : Nat) (ys : List Pv.D) (g : G) : Prop := k ≤ 3 ∧ DkOk (6 + 20 * k) g ∧ ∃ fs : List Fm, ys = fs.map fD ∧ fs.length = k ∧ ∀ (i : Nat) (f e : Fm), fs[i]? = some f → es[i]? = some e → Lf d f ∧ clF d f = e
theorem law_run {i0 i1 i2 i3 i4 i5 i6 i7 i8 i9 i10 i11 i12 i13 i14 i15 i16 i17 : Nat}
    (hpr : ∀ (d : Int) (f : Fm) (n : Nat) g, Dd d → Lf d f → DkOk n g → n < 900000 → Ok (Φ i0 [tokD 0, fD f, .int d, .int ((PL d).length : Int)] g) fun r g' => r = .bool true ∧ DkOk (n + 3) g')
    (hcl : ∀ d g, isDisc d → Φ i1 [.int d] g = .ok (.list ((PL d).map fD)) g)
    (hdeck : Ok (Φ i2 [tokD 1] none) fun r g' => r = tokD 0 ∧ DkOk 0 g')
    (hdis : ∀ n g, DkOk n g → n < 900000 → Ok (Φ i3 [tokD 0] g) fun r g' => DkOk (n + 3) g' ∧ ∃ d, r = .int d ∧ isDisc d)
    (h0 : DrawC Φ i4) (hlf : ∀ d g, Dd d → Φ i5 [.int d] g = .ok (fD (fstF d)) g)
    (hgc : ∀ a b g, Sz bg a → Sz bg b → Φ i6 [.int a, .int b] g = .ok (.int (Int.gcd a b)) g)
    (hip : ∀ (d : Int) (f h : Fm) g, Dd d → Lf d f → Lf d h → Φ i7 [fD f, fD h] g = .ok (.bool true) g)
    (hL : ∀ f m g, SzK 150 f → SzM 700 m → Φ i8 [fD f, mD m] g = .ok (fD (ledF f m)) g)
    (hm1 : ∀ (n : Nat) g, DkOk n g → n < 900000 → Ok (Φ i9 [tokD 0, .int 5, .int 4] g) (fun r g' => DkOk (n + 20) g' ∧ ∃ m, r = mD m ∧ det m = 1 ∧ SzM 25 m))
    (hpT : ∀ (n : Nat) (xs : List D) g, DkOk n g → n < 1000000 → xs ≠ [] → xs.length < 100000 → Ok (Φ i10 [tokD 0, .tuple xs] g) (fun r g' => DkOk (n + 1) g' ∧ r ∈ xs))
    (hpL : ∀ (n : Nat) (xs : List D) g, DkOk n g → n < 1000000 → xs ≠ [] → xs.length < 100000 → Ok (Φ i10 [tokD 0, .list xs] g) (fun r g' => DkOk (n + 1) g' ∧ r ∈ xs))
    (hr : ∀ d, Dd d → RedC Φ i11 d 150)
    (hv : ∀ (d : Int) (f : Fm) (n : Nat) g, Dd d → Rf d f → DkOk n g → n < 900000 → Ok (Φ i12 [tokD 0, fD f] g) fun r g' => DkOk (n + 2) g' ∧ ∃ v, r = .int v ∧ ValC f v)
    (hcn : ∀ d g, isDisc d → Φ i13 [.int d] g = .ok (.int ((PL d).length : Int)) g)
    (hc : ∀ d, Dd d → CmpC Φ i14 d)
    (hfc : ∀ d g, Dd d → Φ i15 [.int d] g = .ok (fD (fstF d)) g)
    (hic : ∀ (d : Int) (f : Fm) g, Dd d → Lf d f → Φ i16 [fD f] g = .ok (fD (clF d (invF f))) g)
    (hw : ∀ f x n g, isDisc x → WyOk f x n → Φ i17 [fD f, .int n] g = .ok (.tuple ((srtP (WL f x n)).map pD)) g) :
    Ok (Pv.run Φ fuel (m_law i0 i1 i2 i3 i4 i5 i6 i7 i8 i9 i10 i11 i12 i13 i14 i15 i16 i17) [some (tokD 1), none, none, none, none, none, none, none, none, none, none, none, none, none, none, none, none] none) (retF fun r g' => r = .bool true) := by
  unfold m_law
  generalize hQ : retF _ = QQ
  have fin : ∀ g, QQ (.rt (.bool true)) g := fun g => by subst hQ; rfl
  rw [Ok_seq]; simp
  refine hdeck.mono ?_
  rintro _ g1 ⟨rfl, hg1⟩
  rw [Ok_seq]; simp
  refine (hdis 0 g1 hg1 (by omega)).mono ?_
  rintro _ g2 ⟨hg2, d, rfl, hd⟩
  have D := dd_of hd
  have d1 := hd.1; have d2 := hd.2.1
  have pn : (PL d).map fD ≠ [] := by simp [PL_ne d1 d2 hd.2.2]
  have pll := PL_len d
  have pl : ((PL d).map fD).length < 100000 := by rw [List.length_map]; omega
  rw [Ok_seq]; simp [hcl d _ hd]
  -- three forms
  rw [Ok_seq]; simp [itV_r1 (show -4611686018427387904 ≤ (3 : Int) by omega) (by omega)]
  refine ⟨by rw [rng_len]; decide, ?_⟩
  refine ok_compL (NearI d) ⟨by omega, hg2, [], rfl, rfl, fun f hf => by simp at hf⟩ ?_ ?_
  · rintro k x ys g' hx ⟨hk, hgk, fs, rfl, hl, hrf⟩
    obtain ⟨hk3, rfl⟩ := rng_at hx
    have hk3 : k < 3 := hk3
    rw [Ok_itemF]
    refine ⟨_, rfl, ?_⟩
    simp [wipeS]
    refine (hpL _ _ g' hgk (by omega) pn pl).mono ?_
    rintro r g3 ⟨hg3, hr1⟩
    obtain ⟨a, ha, rfl⟩ := List.mem_map.mp hr1
    have ha := (mem_PL d1).mp ha
    try simp
    exact ⟨by omega, hg3, fs ++ [a], by rw [List.map_append]; rfl, by rw [List.length_append, hl]; rfl, fun f hf => by
      rcases List.mem_append.mp hf with q | q
      · exact hrf f q
      · rw [List.mem_singleton.mp q]; exact ha⟩
  rintro ys g3 ⟨_, hg3, fs, rfl, hl, hrf⟩
  rw [rng_len] at hl hg3
  have hl3 : fs.length = 3 := hl
  obtain ⟨a, b, c, rfl⟩ : ∃ a b c, fs = [a, b, c] := by
    match fs, hl3 with
    | [a, b, c], _ => exact ⟨a, b, c, rfl⟩
  have ra := hrf a (by simp)
  have rb := hrf b (by simp)
  have rc := hrf c (by simp)
  clear hrf hl hl3
  simp
  -- led
  have ledk : ∀ {f : Fm} {m : Mx} {k l : Nat}, Fo d f → SzK k f → det m = 1 → SzM l m → k + l + l + 6 ≤ 150 → Lf d (ledF f m) ∧ clF d (ledF f m) = clF d f := fun hf s dm sm hk => ⟨⟨hf.led D dm, (sz_led s sm).mono hk⟩, clF_of hf D dm⟩
  rw [Ok_seq]; simp [itV]
  refine ⟨by decide, ?_⟩
  refine ok_compL (LedI d [a, b, c]) ⟨by omega, hg3, [], rfl, rfl, fun i f e h _ => by simp at h⟩ ?_ ?_
  · rintro k x ys g' hx ⟨hk, hgk, fs, rfl, hl, hrf⟩
    change ([a, b, c].map fD)[k]? = some x at hx
    rw [List.getElem?_map] at hx
    obtain ⟨e, he, rfl⟩ := Option.map_eq_some_iff.mp hx
    have hk3 : k < 3 := by
      have := (List.getElem?_eq_some_iff.mp he).1
      simpa using this
    have re : Rf d e := by
      have := List.mem_of_getElem? he
      simp only [List.mem_cons, List.not_mem_nil, or_false] at this
      rcases this with rfl | rfl | rfl
      · exact ra
      · exact rb
      · exact rc
    rw [Ok_itemF]
    refine ⟨_, rfl, ?_⟩
    simp [wipeS]
    refine (hm1 _ g' hgk (by omega)).mono ?_
    rintro _ g4 ⟨hg4, m, rfl, dm, sm⟩
    have se := re.sz d1 d2
    simp [hL e m g4 (se.mono (by omega)) (sm.mono (by omega))]
    obtain ⟨lf, cl⟩ := ledk re.fo se dm sm (by omega)
    rw [clF_red D re] at cl
    refine ⟨by omega, hg4.mono (by omega), fs ++ [ledF e m], by rw [List.map_append]; rfl, by rw [List.length_append, hl]; rfl, fun i f e' hf he' => ?_⟩
    by_cases q : i < fs.length
    · rw [List.getElem?_append_left q] at hf
      exact hrf i f e' hf he'
    · rw [List.getElem?_append_right (by omega)] at hf
      have i0 : i - fs.length = 0 := by
        have := (List.getElem?_eq_some_iff.mp hf).1
        simp at this
        omega
      rw [i0] at hf
      simp at hf
      subst hf
      have ik : i = k := by omega
      subst ik
      rw [he] at he'
      cases he'
      exact ⟨lf, cl⟩
  rintro ys g4 ⟨_, hg4, fs, rfl, hl, hrf⟩
  have hl3 : fs.length = 3 := by simpa using hl
  obtain ⟨one0, other, third, rfl⟩ : ∃ a b c, fs = [a, b, c] := by
    match fs, hl3 with
    | [a, b, c], _ => exact ⟨a, b, c, rfl⟩
  obtain ⟨l1', e1'⟩ := hrf 0 one0 a rfl rfl
  obtain ⟨l2, e2⟩ := hrf 1 other b rfl rfl
  obtain ⟨l3, e3⟩ := hrf 2 third c rfl rfl
  clear hrf hl hl3
  have hg4 : DkOk 66 g4 := hg4
  simp
  -- a form far away
  have na : idxV (.list [fD a, fD b, fD c]) (.int 0) = some (fD a) := idx_list (n := 0) rfl
  have nb : idxV (.list [fD a, fD b, fD c]) (.int 1) = some (fD b) := idx_list (n := 1) rfl
  have nc : idxV (.list [fD a, fD b, fD c]) (.int 2) = some (fD c) := idx_list (n := 2) rfl
  rw [Ok_seq]
  have hP : ∃ P : Fl → G → Prop, P = fun fl g' => ∃ f1, Lf d f1 ∧ clF d f1 = a ∧ DkOk 69 g' ∧ fl = .nx [some (tokD 1), some (tokD 0), some (.int d), some (.list ((PL d).map fD)), some (.list [fD a, fD b, fD c]), some (fD f1), some (fD other), some (fD third), none, none, none, none, none, none, none, none, none] := ⟨_, rfl⟩
  obtain ⟨P, hP⟩ := hP
  refine Ok.mono (P := P) ?_ ?_
  · simp
    refine (h0 _ 4 g4 hg4 (by omega) (by decide) (by omega)).mono ?_
    rintro _ g5 ⟨hg5, w, rfl, w0, w1⟩
    by_cases q : w = 3
    · subst q
      simp
      rw [Ok_seq]; simp [pw13, na]
      refine (hpT _ _ g5 hg5 (by omega) (by simp) (by simp)).mono ?_
      rintro r g6 ⟨hg6, hr4⟩
      have hk : ∃ k : Int, r = .int k ∧ Sz 45 k := by
        simp only [List.mem_cons, List.not_mem_nil, or_false] at hr4
        rcases hr4 with rfl | rfl
        · exact ⟨_, rfl, by unfold Sz; decide⟩
        · exact ⟨_, rfl, by unfold Sz; decide⟩
      obtain ⟨k, rfl, sk⟩ := hk
      have z0 : Sz 45 0 := by unfold Sz; decide
      have z1 : Sz 45 1 := by unfold Sz; decide
      have sK : SzM 45 (1, k, 0, 1) := ⟨z1, sk, z0, z1⟩
      have dK : det (1, k, 0, 1) = 1 := by simp [det]
      have sa := ra.sz d1 d2
      have c1 := hL a (1, k, 0, 1) g6 (sa.mono (by omega)) (sK.mono (by omega))
      rw [show mD (1, k, 0, 1) = .tuple [.int 1, .int k, .int 0, .int 1] from rfl] at c1
      have s1 : SzK 116 (ledF a (1, k, 0, 1)) := (sz_led sa sK).mono (by omega)
      try simp [c1]
      refine (hpT _ _ g6 hg6 (by omega) (by simp) (by simp)).mono ?_
      rintro r g7 ⟨hg7, hr5⟩
      have hm : ∃ m, r = mD m ∧ det m = 1 ∧ SzM 2 m := by
        have y0 : Sz 2 0 := by unfold Sz; decide
        have y1 : Sz 2 1 := by unfold Sz; decide
        have y2 : Sz 2 (-1) := by unfold Sz; decide
        simp only [List.mem_cons, List.not_mem_nil, or_false] at hr5
        rcases hr5 with rfl | rfl | rfl
        · exact ⟨(1, 0, 0, 1), rfl, rfl, y1, y0, y0, y1⟩
        · exact ⟨(0, -1, 1, 0), rfl, rfl, y0, y2, y1, y0⟩
        · exact ⟨(1, 0, 1, 1), rfl, rfl, y1, y0, y1, y1⟩
      obtain ⟨m, rfl, dm, sm⟩ := hm
      have c2 := hL (ledF a (1, k, 0, 1)) m g7 (s1.mono (by omega)) (sm.mono (by omega))
      simp [c2]
      subst hP
      have f1 := ra.fo.led D dK
      obtain ⟨lf, cl⟩ := ledk f1 s1 dm sm (by omega)
      refine ⟨_, lf, ?_, hg7.mono (by omega), rfl⟩
      rw [cl, clF_of ra.fo D dK, clF_red D ra]
    · simp [q]
      subst hP
      exact ⟨_, l1', e1', hg5.mono (by omega), rfl⟩
  subst hP
  rintro _ g5 ⟨one, l1, e1, hg5, rfl⟩
  clear l1' e1' one0
  simp
  have lb := Lf.rf D rb
  have la := Lf.rf D ra
  have i1 := hip d one other g5 D l1 l2
  have i2 := hip d b third g5 D lb l3
  have i3 := hip d one one g5 D l1 l1
  rw [Ok_seq]; simp [i1, i2, nb]
  have pab : prC d one other = prC d a b := by
    have q1 := prC_clL D l1.fo l2.fo
    rw [e1] at q1
    rw [← q1]
    have q2 := prC_clR D ra.fo l2.fo
    rw [e2] at q2
    exact q2.symm
  have c1 := hc d D a b g5 ra.fo rb.fo la.sz lb.sz
  have c2 := hc d D one other g5 l1.fo l2.fo l1.sz l2.sz
  rw [pab] at c2
  rw [Ok_seq]; simp [na, nb, c1, c2, ne_fm, i3]
  have rab := prC_rf ra.fo rb.fo D
  have r23 := prC_rf l2.fo l3.fo D
  have c3 := hc d D (prC d a b) third g5 rab.fo l3.fo (rf150 D rab) l3.sz
  have c4 := hc d D other third g5 l2.fo l3.fo l2.sz l3.sz
  have c5 := hc d D one (prC d other third) g5 l1.fo r23.fo l1.sz (rf150 D r23)
  rw [← prC_assoc D l1.fo l2.fo l3.fo, pab] at c5
  rw [Ok_seq]; simp [c2, c3, c4, c5, ne_fm]
  -- the first class, the inverse
  have x0 : idxV (fD one) (.int 0) = some (.int one.1) := idx_tuple (n := 0) rfl
  have x1 : idxV (fD one) (.int 1) = some (.int one.2.1) := idx_tuple (n := 1) rfl
  have x2 : idxV (fD one) (.int 2) = some (.int one.2.2) := idx_tuple (n := 2) rfl
  have sinv : SzK 150 (invF one) := ⟨l1.sz.a, l1.sz.b.neg, l1.sz.c⟩
  rw [Ok_seq]; simp [hfc d _ D, x0, x1, x2]
  rw [show PyData.tuple [.int one.1, .int (-one.2.1), .int one.2.2] = fD (invF one) from rfl]
  refine (hr d D (invF one) g5 l1.fo.inv sinv).mono ?_
  rintro _ g6 ⟨⟨m, rfl⟩, rfl⟩
  have ix : idxV (.tuple [fD (clF d (invF one)), mD m]) (.int 0) = some (fD (clF d (invF one))) := idx_tuple (n := 0) rfl
  simp [ix]
  have ff := fst_rf D.hi D.md
  have lff := Lf.rf D ff
  have c6 := hc d D one (fstF d) g6 l1.fo ff.fo l1.sz lff.sz
  rw [prC_one' D l1.fo, e1] at c6
  have c7 := hc d D (fstF d) other g6 ff.fo l2.fo lff.sz l2.sz
  rw [prC_one D l2.fo, e2] at c7
  rw [Ok_seq]; simp [na, nb, c6, c7, ne_fm, hlf d _ D]
  have rinv := clF_rf l1.fo.inv D
  have c8 := hc d D (clF d (invF one)) one g6 rinv.fo l1.fo (rf150 D rinv) l1.sz
  rw [prC_clL D l1.fo.inv l1.fo, prC_comm D l1.fo.inv l1.fo, prC_inv D l1.fo] at c8
  have sh := bi_repr (show_fm (rinv.sz d1 d2) (by omega))
  rw [Ok_seq]; simp [hic d one _ D l1, pm, sh, ne_same, c8, ne_fm]
  rw [Ok_seq]; simp [hcn d _ hd]
  refine (hpr d one _ g6 D l1 hg5 (by omega)).mono ?_
  rintro _ g7 ⟨rfl, hg7⟩
  simp
  -- values
  have a0i : idxV (fD a) (.int 0) = some (.int a.1) := idx_tuple (n := 0) rfl
  have a2i : idxV (fD a) (.int 2) = some (.int a.2.2) := idx_tuple (n := 2) rfl
  have c0i : idxV (fD c) (.int 0) = some (.int c.1) := idx_tuple (n := 0) rfl
  have c2i : idxV (fD c) (.int 2) = some (.int c.2.2) := idx_tuple (n := 2) rfl
  rw [Ok_seq]; simp [na, nc, a0i, a2i, c0i, c2i]
  rw [Ok_seq]; simp [na, nc]
  refine (hv d a _ g7 D ra hg7 (by omega)).mono ?_
  rintro _ g8 ⟨hg8, u, rfl, hu⟩
  have cat : ∀ x y z : Int, binV .add (.list [.int x, .int y]) (.list [.int z]) = some (.list [.int x, .int y, .int z]) := fun x y z => rfl
  simp [cat]
  refine (hv d c _ g8 D rc hg8 (by omega)).mono ?_
  rintro _ g9 ⟨hg9, v, rfl, hv'⟩
  simp [cat]
  have lc := Lf.rf D rc
  have rac := prC_rf ra.fo rc.fo D
  rw [Ok_seq]; simp [na, nc, hc d D a c g9 ra.fo rc.fo la.sz lc.sz]
  have va : ∀ x ∈ [a.1, a.2.2, u], ValC a x := fun x hx => by
    simp only [List.mem_cons, List.not_mem_nil, or_false] at hx
    rcases hx with rfl | rfl | rfl
    · exact (rf_vals D ra).1
    · exact (rf_vals D ra).2
    · exact hu
  have vc : ∀ x ∈ [c.1, c.2.2, v], ValC c x := fun x hx => by
    simp only [List.mem_cons, List.not_mem_nil, or_false] at hx
    rcases hx with rfl | rfl | rfl
    · exact (rf_vals D rc).1
    · exact (rf_vals D rc).2
    · exact hv'
  rw [show [PyData.int a.1, .int a.2.2, .int u] = [a.1, a.2.2, u].map .int from rfl, show [PyData.int c.1, .int c.2.2, .int v] = [c.1, c.2.2, v].map .int from rfl]
  have lc3 : [c.1, c.2.2, v].length = 3 := rfl
  generalize [a.1, a.2.2, u] = va' at *
  generalize [c.1, c.2.2, v] = vc' at *
  obtain ⟨R, hRe⟩ : ∃ R, prC d a c = R := ⟨_, rfl⟩
  have hRw : ∀ x y : Int, ValC a x → ValC c y → Int.gcd x y = 1 → (prC d a c = R) → ∃ p, IsWay R (x * y) p := fun x y hx hy hg e => by
    rw [← e]
    exact pr_way D ra.fo rc.fo (by have := hx.1; omega) (by have := hy.1; omega) hx.2.2 hy.2.2 hg
  rw [hRe]
  have hRw := fun x y hx hy hg => hRw x y hx hy hg hRe
  have eR : Rf d R := hRe ▸ prC_rf ra.fo rc.fo D
  rw [Ok_seq, Ok_for]; simp [itV]
  refine ok_forL (fun k σ g' => g' = g9 ∧ ∃ y13 y14, σ = [some (tokD 1), some (tokD 0), some (.int d), some (.list ((PL d).map fD)), some (.list [fD a, fD b, fD c]), some (fD one), some (fD other), some (fD third), some (fD (fstF d)), some (fD (clF d (invF one))), some (.list (va'.map .int)), some (.list (vc'.map .int)), some (fD R), y13, y14, none, none]) ⟨rfl, _, _, rfl⟩ ?_ ?_
  · rintro k x σ g' hx ⟨rfl, y13, y14, rfl⟩
    rw [List.getElem?_map] at hx
    obtain ⟨x, hxx, rfl⟩ := Option.map_eq_some_iff.mp hx
    have hx := va x (List.mem_of_getElem? hxx)
    generalize hL : loopF _ _ = LL
    rw [Ok_turnF]; simp
    rw [Ok_for]; simp [itV]
    refine ⟨by rw [lc3]; decide, ?_⟩
    refine ok_compM (em := PyData.int) (eo := PyData.int) (u := fun y : Int => if Int.gcd x y = 1 ∧ x * y ≤ 10000 then some y else none) (fun y hy => ?_) ?_
    · have hy := vc y hy
      rw [Ok_itemF]
      refine ⟨_, rfl, ?_⟩
      have k1 : mulOk x y = true := mulOk_sz hx.2.1 hy.2.1 (by omega)
      have gg := hgc x y g' (hx.2.1.mono (by unfold bg; omega)) (hy.2.1.mono (by unfold bg; omega))
      generalize Int.gcd x y = G0 at *
      simp [wipeS, gg]
      by_cases q1 : G0 = 1
      · by_cases q2 : x * y ≤ 10000
        · simp [q1, k1, q2]
        · simp [q1, k1, q2]
          omega
      · have q3 : ¬ (G0 : Int) = 1 := by omega
        simp [q1, q3]
    · refine ok_forL (fun k σ g2 => g2 = g' ∧ ∃ y14, σ = [some (tokD 1), some (tokD 0), some (.int d), some (.list ((PL d).map fD)), some (.list [fD a, fD b, fD c]), some (fD one), some (fD other), some (fD third), some (fD (fstF d)), some (fD (clF d (invF one))), some (.list (va'.map .int)), some (.list (vc'.map .int)), some (fD R), some (.int x), y14, none, none]) ⟨rfl, _, rfl⟩ ?_ ?_
      · rintro j y σ g2 hy ⟨rfl, y14, rfl⟩
        rw [List.getElem?_map] at hy
        obtain ⟨y, hyy, rfl⟩ := Option.map_eq_some_iff.mp hy
        obtain ⟨y', hy', e⟩ := List.mem_filterMap.mp (List.mem_of_getElem? hyy)
        have hcnd : Int.gcd x y = 1 ∧ x * y ≤ 10000 ∧ y = y' := by
          split at e
          · rename_i q
            cases e
            exact ⟨q.1, q.2, rfl⟩
          · cases e
        obtain ⟨g1', l1', rfl⟩ := hcnd
        have hy := vc y hy'
        have k1 : mulOk x y = true := mulOk_sz hx.2.1 hy.2.1 (by omega)
        have wok : WyOk R d (x * y) := ⟨eR, d1, d2, Int.mul_nonneg (by have := hx.1; omega) (by have := hy.1; omega), l1'⟩
        have ww := hw R d (x * y) g2 hd wok
        obtain ⟨p, hp⟩ := hRw x y hx hy g1'
        have pm' : p ∈ srtP (WL R d (x * y)) := mem_srtP.mpr ((mem_WL eR.red.a0 eR.disc d2 wok.n0).mpr hp)
        have shr := shp_rows wok.rows
        rw [← pD_rows] at shr
        have ne : cmpV .eq (.tuple ((srtP (WL R d (x * y))).map pD)) (.tuple []) = some false := by
          show (if shp (.tuple ((srtP (WL R d (x * y))).map pD)) && shp (.tuple []) then some (PyData.eqv (.tuple ((srtP (WL R d (x * y))).map pD)) (.tuple [])) else lensV _ _) = _
          rw [shr, show shp (.tuple []) = true from rfl]
          cases hS : srtP (WL R d (x * y)) with
          | nil => rw [hS] at pm'; cases pm'
          | cons q qs => rfl
        generalize hI : loopF _ _ = II
        rw [Ok_turnF]; simp [k1, ww, ne]
        subst hI
        exact ⟨rfl, _, rfl⟩
      · rintro σ g2 ⟨rfl, y14, rfl⟩
        subst hL
        exact ⟨rfl, _, _, rfl⟩
  · rintro σ g' ⟨rfl, y13, y14, rfl⟩
    simp
    exact fin g'
end Xk40
end

section
/-! Pk40: the functions of k40 at their heights; the law's value. -/
set_option autoImplicit false
namespace Xk40
open PySem Pv
variable {ns : List Int} {g : G}
theorem q0 {d : Nat} (v : D) (g : G) (h : isDk v = false) : PH ns (d + 1) 0 [v] g = .ok (.bool (isI v)) g := (Ok_F (is_integer_run h)).eq
theorem q1 {d : Nat} (f : Fm) (g : G) : PH ns (d + 2) 1 [fD f, .int 3] g = .ok (.bool true) g := (Ok_F (are_integers_run (q0 (d := d)))).eq
theorem q2 {d : Nat} (a b : Int) (g : G) (ha : Sz bg a) (hb : Sz bg b) : PH ns (d + 1) 2 [.int a, .int b] g = .ok (.int (Int.gcd a b)) g := (Ok_F (common_divisor_run ha hb)).eq
theorem q3 {d : Nat} (a b : Int) (g : G) (ha : Sz 160 a) (hb : Sz 160 b) : Ok (PH ns (d + 1) 3 [.int a, .int b] g) fun r g' => (∃ x y : Int, r = .tuple [.int (Int.gcd a b), .int x, .int y] ∧ x * a + y * b = Int.gcd a b ∧ Sz 60000 x ∧ Sz 60000 y) ∧ g' = g := Ok_F (bezout_run ha hb (by omega))
theorem q4 {d : Nat} (n : Int) (g : G) (h1 : 0 ≤ n) (h2 : n < 1099511627776) : PH ns (d + 1) 4 [.int n] g = .ok (.int (rt n)) g :=
  (Ok.mono (Q := fun r g' => r = .int (rt n) ∧ g' = g) (Ok_F (whole_root_run h1 h2)) fun r g' ⟨⟨x, e, a, b, c⟩, e2⟩ => ⟨by rw [e, rt_eq ⟨a, b, c⟩], e2⟩).eq
theorem q5 {d : Nat} (x : Int) (g : G) : PH ns (d + 2) 5 [.int x] g = .ok (.bool (decide (isDisc x))) g := (Ok_F (is_discriminant_run (q0 (d := d)))).eq
theorem q6 {d : Nat} (f : Fm) (g : G) (hf : SzK 150 f) : PH ns (d + 1) 6 [fD f] g = .ok (.int (disc f)) g := (Ok_F (discriminant_at_run hf (by omega))).eq
theorem q6d {d : Nat} {x : Int} (f : Fm) (g : G) (h : Fo x f) (hf : SzK 150 f) : PH ns (d + 1) 6 [fD f] g = .ok (.int x) g := by rw [q6 f g hf, h.disc]
theorem s_bg {f : Fm} {k : Nat} (h : SzK k f) (hk : k ≤ 8000) : SzF f := ⟨h.a.mono (by unfold bg; omega), h.b.mono (by unfold bg; omega), h.c.mono (by unfold bg; omega)⟩
theorem s_k0 {f : Fm} {k : Nat} (h : SzK k f) (hk : k ≤ 8000) : SzK k0 f := h.mono (by unfold k0; omega)
theorem q7 {d : Nat} (f : Fm) (g : G) (hs : SzF f) : PH ns (d + 3) 7 [fD f] g = .ok (.bool (decide (isForm f))) g := (Ok_F (is_form_run hs (q1 (d := d)) (q2 (d := d + 1)) (q5 (d := d)))).eq
theorem q7t {d : Nat} {x : Int} (D : Dd x) (f : Fm) (g : G) (h : Fo x f) (hs : SzK 150 f) : PH ns (d + 3) 7 [fD f] g = .ok (.bool true) g := by rw [q7 f g (s_bg hs (by omega)), decide_eq_true (h.form D)]
theorem q8t {d : Nat} {x : Int} (D : Dd x) (f : Fm) (g : G) (h : Rf x f) : PH ns (d + 4) 8 [fD f] g = .ok (.bool true) g := by
  have e : PH ns (d + 4) 8 [fD f] g = .ok (.bool (decide (Red f))) g := (Ok_F (is_reduced_run (h.fo.form D) (q7 (d := d) f g (s_bg (rf150 D h) (by omega))))).eq
  rw [decide_eq_true h.red] at e
  exact e
theorem q9 {d : Nat} (f : Fm) (m : Mx) (g : G) (hf : SzK kb f) (hm : SzM kb m) : PH ns (d + 1) 9 [fD f, mD m] g = .ok (fD (ledF f m)) g := (Ok_F (lead_run ⟨hf.a, hf.b, hf.c⟩ ⟨hm.g, hm.h, hm.i, hm.j⟩ (by unfold kb; omega))).eq
theorem q10 {d : Nat} (m n : Mx) (g : G) (hm : SzM kb m) (hn : SzM kb n) : PH ns (d + 1) 10 [mD m, mD n] g = .ok (mD (mulM m n)) g := (Ok_F (matrix_times_run ⟨hm.g, hm.h, hm.i, hm.j⟩ ⟨hn.g, hn.h, hn.i, hn.j⟩ (by unfold kb; omega))).eq
theorem q11 {d : Nat} {x : Int} (D : Dd x) : RedC (PH ns (d + 2)) 11 x 400 := fun f g hf hs => by
  have h : Ok (PH ns (d + 2) 11 [fD f] g) fun r g' => (∃ f' m, r = .tuple [fD f', mD m] ∧ RedOf f f' m) ∧ g' = g := Ok_F (reduction_run (hf.good D) (s_k0 hs (by omega)) (q9 (d := d)) (q10 (d := d)))
  refine h.mono ?_
  rintro _ g' ⟨⟨f', m, rfl, hr⟩, rfl⟩
  exact ⟨⟨m, by rw [hr.cl hf D]⟩, rfl⟩
theorem q12 {d : Nat} (f : Fm) (x n : Int) (g : G) (hd : isDisc x) (w : WyOk f x n) : PH ns (d + 5) 12 [fD f, .int n] g = .ok (.tuple ((srtP (WL f x n)).map pD)) g :=
  (Ok_F (ways_to_run w (q2 (d := d + 3)) (q6d (d := d + 3) f g w.rf.fo ((w.rf.sz w.d1 w.d2).mono (by omega))) (q8t (d := d) (dd_of hd) f g w.rf) (q4 (d := d + 3)))).eq
theorem q13 {d : Nat} (x : Int) (g : G) (D : Dd x) : PH ns (d + 1) 13 [.int x] g = .ok (fD (fstF x)) g := (Ok_F (first_class_run D.md)).eq
theorem q14 {d : Nat} (x : Int) (g : G) (hd : isDisc x) : PH ns (d + 2) 14 [.int x] g = .ok (.tuple ((PL x).map fD)) g := (Ok_F (classes_run hd.1 hd.2.1 (q2 (d := d)))).eq
theorem q15 {d : Nat} (x : Int) (g : G) (hd : isDisc x) : PH ns (d + 3) 15 [.int x] g = .ok (.int ((PL x).length : Int)) g := (Ok_F (class_number_run (q14 (d := d) x g hd))).eq
theorem q16 {d : Nat} (x : Int) (D : Dd x) : CmpC (PH ns (d + 3)) 16 x := fun f h g hf hh sf sh =>
  (Ok_F (compose_run D hf hh sf sh (q3 (d := d + 1)) (q6d (d := d + 1) f g hf sf) (q11 (d := d) D))).eq
theorem q17 {d : Nat} (x : Int) (D : Dd x) (f : Fm) (g : G) (hf : Fo x f) (hs : SzK 150 f) : PH ns (d + 3) 17 [fD f] g = .ok (fD (clF x (invF f))) g := (Ok_F (turned_about_run hf hs (q11 (d := d) D))).eq
theorem q18 {d : Nat} (x : Int) (D : Dd x) (f : Fm) (e : Int) (g : G) (h : Lf x f) (he : Sz 1000 e) : PH ns (d + 4) 18 [fD f, .int e] g = .ok (fD (zpF x f e)) g :=
  (Ok_F (power_of_run D h.fo h.sz he (q16 (d := d) x D) (q6d (d := d + 2) f g h.fo h.sz) (q13 (d := d + 2) x g D) (q11 (d := d + 1) D) (q17 (d := d) x D))).eq
theorem q19 {d : Nat} (x : Int) (D : Dd x) : CmpC (PH ns (d + 4)) 19 x := fun f h g hf hh sf sh =>
  (Ok_F (composed_run D hf hh sf sh (q16 (d := d) x D) (q6d (d := d + 2)) (q7t (d := d) D))).eq
theorem q20 {d : Nat} (x : Int) (f : Fm) (g : G) (D : Dd x) (h : Lf x f) : PH ns (d + 4) 20 [fD f] g = .ok (fD (clF x (invF f))) g := (Ok_F (inverse_class_run h.fo h.sz (q7t (d := d) D f g h.fo h.sz) (q17 (d := d) x D f g h.fo h.sz))).eq
theorem q21 {d : Nat} (x : Int) (D : Dd x) (f : Fm) (h : Lf x f) (e : Int) (g : G) (he : Sz 1000 e) : PH ns (d + 5) 21 [fD f, .int e] g = .ok (fD (zpF x f e)) g := (Ok_F (power_run (q7t (d := d + 1) D f g h.fo h.sz) (q18 (d := d) x D f e g h he))).eq
theorem q22 {d : Nat} (x : Int) (D : Dd x) (f : Fm) (h : Lf x f) (m : Nat) (g : G) (ho : IsOrd x f m) (hm : m ≤ 100000) : PH ns (d + 4) 22 [fD f] g = .ok (.int m) g :=
  (Ok_F (order_of_class_run D h.fo h.sz ho hm (q16 (d := d) x D) (q6d (d := d + 2) f g h.fo h.sz) (q13 (d := d + 2) x g D) (q7t (d := d) D f g h.fo h.sz) (q11 (d := d + 1) D))).eq
theorem q23 {d : Nat} : Ok (PH ns (d + 1) 23 [tokD 1] none) fun r g' => r = tokD 0 ∧ DkOk 0 g' := Ok_F deck_run
theorem q24 {d : Nat} : DrawC (PH ns (d + 1)) 24 := fun n below g hd h0 hl hn => Ok_F (draw_run hd h0 hl hn)
theorem q25T {d : Nat} (n : Nat) (xs : List D) (g : G) (hd : DkOk n g) (hn : n < 1000000) (hx : xs ≠ []) (hl : xs.length < 100000) : Ok (PH ns (d + 2) 25 [tokD 0, .tuple xs] g) fun r g' => DkOk (n + 1) g' ∧ r ∈ xs := Ok_F (pickT_run hd hn hx hl (q24 (d := d)))
theorem q25L {d : Nat} (n : Nat) (xs : List D) (g : G) (hd : DkOk n g) (hn : n < 1000000) (hx : xs ≠ []) (hl : xs.length < 100000) : Ok (PH ns (d + 2) 25 [tokD 0, .list xs] g) fun r g' => DkOk (n + 1) g' ∧ r ∈ xs := Ok_F (pickL_run hd hn hx hl (q24 (d := d)))
theorem q26 {d : Nat} (a b : Int) (g : G) (ha : Sz bg a) (hb : Sz bg b) : PH ns (d + 1) 26 [.int a, .int b] g = .ok (.int (Int.gcd a b)) g := (Ok_F (lawgcd_run ha hb)).eq
theorem q27 {d : Nat} (n : Nat) (g : G) (hd : DkOk n g) (hn : n < 900000) : Ok (PH ns (d + 3) 27 [tokD 0] g) fun r g' => DkOk (n + 3) g' ∧ ∃ d, r = .int d ∧ isDisc d := Ok_F (discriminant_run hd hn (q24 (d := d + 1)) (q25T (d := d)))
theorem q28 {d : Nat} (x : Int) (g : G) (hd : isDisc x) : PH ns (d + 2) 28 [.int x] g = .ok (.list ((PL x).map fD)) g := (Ok_F (lawclasses_run hd.1 hd.2.1 hd.2.2 (q26 (d := d)))).eq
theorem q29 {d : Nat} (f : Fm) (m : Mx) (g : G) (hf : SzK kb f) (hm : SzM kb m) : PH ns (d + 1) 29 [fD f, mD m] g = .ok (fD (ledF f m)) g := (Ok_F (lawled_run hf hm (by unfold kb; omega))).eq
theorem q29' {d : Nat} (f : Fm) (m : Mx) (g : G) (hf : SzK 150 f) (hm : SzM 700 m) : PH ns (d + 1) 29 [fD f, mD m] g = .ok (fD (ledF f m)) g := q29 f m g (hf.mono (by unfold kb; omega)) (hm.mono (by unfold kb; omega))
theorem q30 {d : Nat} (m n : Mx) (g : G) (hm : SzM kb m) (hn : SzM kb n) : PH ns (d + 1) 30 [mD m, mD n] g = .ok (mD (mulM m n)) g := (Ok_F (lawtimes_run hm hn (by unfold kb; omega))).eq
theorem q30s {d : Nat} (m n : Mx) (g : G) (hm : SzM 400 m) (hn : SzM 400 n) : PH ns (d + 1) 30 [mD m, mD n] g = .ok (mD (mulM m n)) g := q30 m n g (hm.mono (by unfold kb; omega)) (hn.mono (by unfold kb; omega))
theorem q31 {d : Nat} (n : Nat) (g : G) (hd : DkOk n g) (hn : n < 900000) : Ok (PH ns (d + 2) 31 [tokD 0, .int 5, .int 4] g) fun r g' => DkOk (n + 20) g' ∧ ∃ m, r = mD m ∧ det m = 1 ∧ SzM 25 m :=
  (Ok_F (lawmatrix2_run (l := 3) (many := 5) (great := 4) hd hn (by omega) (by omega) (by omega) (by omega) (by decide) (by omega) (by omega) (q24 (d := d)) (q30s (d := d)))).mono fun r g' ⟨h1, m, h2, h3, h4⟩ => ⟨h1, m, h2, h3, h4.mono (by decide)⟩
theorem q32 {d : Nat} (x : Int) (D : Dd x) : RedC (PH ns (d + 2)) 32 x 150 := fun f g hf hs => by
  have h : Ok (PH ns (d + 2) 32 [fD f] g) fun r g' => (∃ f' m, r = .tuple [fD f', mD m] ∧ RedOf f f' m) ∧ g' = g := Ok_F (law_reduced_run (hf.good D) hs (q29 (d := d)) (q30 (d := d)))
  refine h.mono ?_
  rintro _ g' ⟨⟨f', m, rfl, hr⟩, rfl⟩
  exact ⟨⟨m, by rw [hr.cl hf D]⟩, rfl⟩
theorem q33 {d : Nat} (x y : Int) (k : Nat) (g : G) (x0 : 0 ≤ x) (y0 : 0 ≤ y) (sx : Sz k x) (sy : Sz k y) (hk : k ≤ 160) : Ok (PH ns (d + 1) 33 [.int x, .int y] g) fun r g' => (∃ u w : Int, r = .tuple [.int u, .int w] ∧ u * x + w * y = Int.gcd x y ∧ Sz ((k + 2) * (2 * k + 1) + 2) u ∧ Sz ((k + 2) * (2 * k + 1) + 2) w) ∧ g' = g := Ok_F (mates_run x0 y0 sx sy hk)
theorem q34 {d : Nat} {x : Int} (D : Dd x) (f : Fm) (a : Int) (g : G) (hf : Rf x f) (a0 : 0 < a) (a1 : a ≤ 81) : Ok (PH ns (d + 2) 34 [fD f, .int a] g) fun r g' => (∃ x y : Int, r = .tuple [.int x, .int y] ∧ 0 ≤ x ∧ 0 ≤ y ∧ x ≤ 163 ∧ y ≤ 163 ∧ CpP f a x y) ∧ g' = g := Ok_F (coprime_pair_run D hf a0 a1 (q26 (d := d)))
theorem q35 {d : Nat} (x : Int) (D : Dd x) : CmpC (PH ns (d + 3)) 35 x := fun f h g hf hh sf sh =>
  (Ok_F (law_composed_run D hf hh sf sh (q34 (d := d) D) (q29' (d := d + 1)) (q33 (d := d + 1)) (q32 (d := d) x D))).eq
theorem q36 {d : Nat} (x : Int) (g : G) (_ : Dd x) : PH ns (d + 1) 36 [.int x] g = .ok (fD (fstF x)) g := (Ok_F law_first_run).eq
theorem q37 {d : Nat} (x : Int) (D : Dd x) (f : Fm) (h : Lf x f) (m : Nat) (g : G) (ho : IsOrd x f m) (hm : m ≤ 100000) : PH ns (d + 4) 37 [fD f, .int x] g = .ok (.int m) g :=
  (Ok_F (law_order_run D h.fo h.sz ho hm (q35 (d := d) x D) (fun g => q36 (d := d + 2) x g D) (q32 (d := d + 1) x D))).eq
theorem q38 {d : Nat} (x : Int) (D : Dd x) (f : Fm) (h : Lf x f) (m : Nat) (g : G) (hm : m < 2 ^ 1000) : PH ns (d + 4) 38 [fD f, .int m, .int x] g = .ok (fD (pwF x f m)) g :=
  (Ok_F (law_power_run D h.fo h.sz hm (q35 (d := d) x D) (fun g => q36 (d := d + 2) x g D) (q32 (d := d + 1) x D))).eq
theorem q39 {d : Nat} (x : Int) (f : Fm) (n : Nat) (g : G) (D : Dd x) (hf : Rf x f) (hg : DkOk n g) (hn : n < 900000) : Ok (PH ns (d + 2) 39 [tokD 0, fD f] g) fun r g' => DkOk (n + 2) g' ∧ ∃ v, r = .int v ∧ ValC f v := Ok_F (law_value_run D hf hg hn (q24 (d := d)) (q26 (d := d)))
theorem q40 {d : Nat} (x : Int) (f h : Fm) (g : G) (D : Dd x) (hf : Lf x f) (hh : Lf x h) : PH ns (d + 5) 40 [fD f, fD h] g = .ok (.bool true) g :=
  (Ok_F (is_product_right_run D hf.fo hh.fo hf.sz hh.sz (q35 (d := d + 1) x D) (q19 (d := d) x D) (q8t (d := d) D))).eq
theorem q41 {d : Nat} (x : Int) (f : Fm) (n : Nat) (g : G) (D : Dd x) (h : Lf x f) (hg : DkOk n g) (hn : n < 900000) : Ok (PH ns (d + 6) 41 [tokD 0, fD f, .int x, .int ((PL x).length : Int)] g) fun r g' => r = .bool true ∧ DkOk (n + 3) g' :=
  Ok_F (are_powers_right_run D h.fo h.sz hg hn (q24 (d := d + 4)) (fun g => q36 (d := d + 4) x g D) (q37 (d := d + 1) x D f h) (q38 (d := d + 1) x D f h) (q22 (d := d + 1) x D f h) (q21 (d := d) x D f h))
theorem law_val (ns : List Int) (h : ns.length ≤ 63) : ∃ g', FT (T ns) (fun _ => none) (6 + 1) 42 [tokD 1] none = .ok (.bool true) g' := by
  have z : Ok (PH ns 7 42 [tokD 1] none) fun r g' => r = .bool true := Ok_F
    (law_run (q41 (d := 0)) (q28 (d := 4)) (q23 (d := 5)) (q27 (d := 3)) (q24 (d := 5)) (q36 (d := 5)) (q26 (d := 5)) (q40 (d := 1)) (q29' (d := 5)) (q31 (d := 4)) (q25T (d := 4)) (q25L (d := 4)) (q32 (d := 4)) (q39 (d := 4)) (q15 (d := 3)) (q19 (d := 2)) (q13 (d := 5)) (q20 (d := 2)) (q12 (d := 1)))
  obtain ⟨a, g', e, rfl⟩ := z.ex
  exact ⟨g', e⟩
end Xk40
end

section
/-! the end of k40: printed by gen.py -/
set_option autoImplicit false
namespace Xk40
open PySem PySem.Spec PyProof.Rows L2 Pv
set_option maxHeartbeats 0 in
theorem fin {l : PySem.W.OpenLaw} {w : World} {K : PySem.W.Frag} {h : Heap} {mg : Str → Option Value} {fa : Addr} (X : K.In h) (G : h.Ns mainGlobals mg) (hfa : mg "law" = some (.ref fa))
    {f_is_integer : Addr} {od_is_integer an_is_integer : Option Addr} {sl_is_integer : Array (Option Value)} {oc_is_integer kV_is_integer dc_is_integer pm_is_integer cd_is_integer ct_is_integer : Value}
    (a_is_integer : PySem.W.nsIn K mainGlobals "is_integer" = some (some (.ref f_is_integer))) (l_is_integer : K.lookup f_is_integer = some ⟨oc_is_integer, od_is_integer, .func (PySem.W.fnOf "is_integer" "is_integer" (defArgs s_is_integer) (defBody s_is_integer) (defScope s_is_integer) .none kV_is_integer dc_is_integer pm_is_integer an_is_integer cd_is_integer ct_is_integer), sl_is_integer⟩) (c_is_integer : PySem.W.codeIn K cd_is_integer "is_integer" = true) (k_is_integer : PySem.W.keepIn K (.ref f_is_integer) = true)
    {f_are_integers : Addr} {od_are_integers an_are_integers : Option Addr} {sl_are_integers : Array (Option Value)} {oc_are_integers kV_are_integers dc_are_integers pm_are_integers cd_are_integers ct_are_integers : Value}
    (a_are_integers : PySem.W.nsIn K mainGlobals "are_integers" = some (some (.ref f_are_integers))) (l_are_integers : K.lookup f_are_integers = some ⟨oc_are_integers, od_are_integers, .func (PySem.W.fnOf "are_integers" "are_integers" (defArgs s_are_integers) (defBody s_are_integers) (defScope s_are_integers) .none kV_are_integers dc_are_integers pm_are_integers an_are_integers cd_are_integers ct_are_integers), sl_are_integers⟩) (c_are_integers : PySem.W.codeIn K cd_are_integers "are_integers" = true) (k_are_integers : PySem.W.keepIn K (.ref f_are_integers) = true)
    {f_common_divisor : Addr} {od_common_divisor an_common_divisor : Option Addr} {sl_common_divisor : Array (Option Value)} {oc_common_divisor kV_common_divisor dc_common_divisor pm_common_divisor cd_common_divisor ct_common_divisor : Value}
    (a_common_divisor : PySem.W.nsIn K mainGlobals "common_divisor" = some (some (.ref f_common_divisor))) (l_common_divisor : K.lookup f_common_divisor = some ⟨oc_common_divisor, od_common_divisor, .func (PySem.W.fnOf "common_divisor" "common_divisor" (defArgs s_common_divisor) (defBody s_common_divisor) (defScope s_common_divisor) .none kV_common_divisor dc_common_divisor pm_common_divisor an_common_divisor cd_common_divisor ct_common_divisor), sl_common_divisor⟩) (c_common_divisor : PySem.W.codeIn K cd_common_divisor "common_divisor" = true) (k_common_divisor : PySem.W.keepIn K (.ref f_common_divisor) = true)
    {f_bezout : Addr} {od_bezout an_bezout : Option Addr} {sl_bezout : Array (Option Value)} {oc_bezout kV_bezout dc_bezout pm_bezout cd_bezout ct_bezout : Value}
    (a_bezout : PySem.W.nsIn K mainGlobals "bezout" = some (some (.ref f_bezout))) (l_bezout : K.lookup f_bezout = some ⟨oc_bezout, od_bezout, .func (PySem.W.fnOf "bezout" "bezout" (defArgs s_bezout) (defBody s_bezout) (defScope s_bezout) .none kV_bezout dc_bezout pm_bezout an_bezout cd_bezout ct_bezout), sl_bezout⟩) (c_bezout : PySem.W.codeIn K cd_bezout "bezout" = true) (k_bezout : PySem.W.keepIn K (.ref f_bezout) = true)
    {f_whole_root : Addr} {od_whole_root an_whole_root : Option Addr} {sl_whole_root : Array (Option Value)} {oc_whole_root kV_whole_root dc_whole_root pm_whole_root cd_whole_root ct_whole_root : Value}
    (a_whole_root : PySem.W.nsIn K mainGlobals "whole_root" = some (some (.ref f_whole_root))) (l_whole_root : K.lookup f_whole_root = some ⟨oc_whole_root, od_whole_root, .func (PySem.W.fnOf "whole_root" "whole_root" (defArgs s_whole_root) (defBody s_whole_root) (defScope s_whole_root) .none kV_whole_root dc_whole_root pm_whole_root an_whole_root cd_whole_root ct_whole_root), sl_whole_root⟩) (c_whole_root : PySem.W.codeIn K cd_whole_root "whole_root" = true) (k_whole_root : PySem.W.keepIn K (.ref f_whole_root) = true)
    {f_is_discriminant : Addr} {od_is_discriminant an_is_discriminant : Option Addr} {sl_is_discriminant : Array (Option Value)} {oc_is_discriminant kV_is_discriminant dc_is_discriminant pm_is_discriminant cd_is_discriminant ct_is_discriminant : Value}
    (a_is_discriminant : PySem.W.nsIn K mainGlobals "is_discriminant" = some (some (.ref f_is_discriminant))) (l_is_discriminant : K.lookup f_is_discriminant = some ⟨oc_is_discriminant, od_is_discriminant, .func (PySem.W.fnOf "is_discriminant" "is_discriminant" (defArgs s_is_discriminant) (defBody s_is_discriminant) (defScope s_is_discriminant) .none kV_is_discriminant dc_is_discriminant pm_is_discriminant an_is_discriminant cd_is_discriminant ct_is_discriminant), sl_is_discriminant⟩) (c_is_discriminant : PySem.W.codeIn K cd_is_discriminant "is_discriminant" = true) (k_is_discriminant : PySem.W.keepIn K (.ref f_is_discriminant) = true)
    {f_discriminant_at : Addr} {od_discriminant_at an_discriminant_at : Option Addr} {sl_discriminant_at : Array (Option Value)} {oc_discriminant_at kV_discriminant_at dc_discriminant_at pm_discriminant_at cd_discriminant_at ct_discriminant_at : Value}
    (a_discriminant_at : PySem.W.nsIn K mainGlobals "discriminant_at" = some (some (.ref f_discriminant_at))) (l_discriminant_at : K.lookup f_discriminant_at = some ⟨oc_discriminant_at, od_discriminant_at, .func (PySem.W.fnOf "discriminant_at" "discriminant_at" (defArgs s_discriminant_at) (defBody s_discriminant_at) (defScope s_discriminant_at) .none kV_discriminant_at dc_discriminant_at pm_discriminant_at an_discriminant_at cd_discriminant_at ct_discriminant_at), sl_discriminant_at⟩) (c_discriminant_at : PySem.W.codeIn K cd_discriminant_at "discriminant_at" = true) (k_discriminant_at : PySem.W.keepIn K (.ref f_discriminant_at) = true)
    {f_is_form : Addr} {od_is_form an_is_form : Option Addr} {sl_is_form : Array (Option Value)} {oc_is_form kV_is_form dc_is_form pm_is_form cd_is_form ct_is_form : Value}
    (a_is_form : PySem.W.nsIn K mainGlobals "is_form" = some (some (.ref f_is_form))) (l_is_form : K.lookup f_is_form = some ⟨oc_is_form, od_is_form, .func (PySem.W.fnOf "is_form" "is_form" (defArgs s_is_form) (defBody s_is_form) (defScope s_is_form) .none kV_is_form dc_is_form pm_is_form an_is_form cd_is_form ct_is_form), sl_is_form⟩) (c_is_form : PySem.W.codeIn K cd_is_form "is_form" = true) (k_is_form : PySem.W.keepIn K (.ref f_is_form) = true)
    {f_is_reduced : Addr} {od_is_reduced an_is_reduced : Option Addr} {sl_is_reduced : Array (Option Value)} {oc_is_reduced kV_is_reduced dc_is_reduced pm_is_reduced cd_is_reduced ct_is_reduced : Value}
    (a_is_reduced : PySem.W.nsIn K mainGlobals "is_reduced" = some (some (.ref f_is_reduced))) (l_is_reduced : K.lookup f_is_reduced = some ⟨oc_is_reduced, od_is_reduced, .func (PySem.W.fnOf "is_reduced" "is_reduced" (defArgs s_is_reduced) (defBody s_is_reduced) (defScope s_is_reduced) .none kV_is_reduced dc_is_reduced pm_is_reduced an_is_reduced cd_is_reduced ct_is_reduced), sl_is_reduced⟩) (c_is_reduced : PySem.W.codeIn K cd_is_reduced "is_reduced" = true) (k_is_reduced : PySem.W.keepIn K (.ref f_is_reduced) = true)
    {f_lead : Addr} {od_lead an_lead : Option Addr} {sl_lead : Array (Option Value)} {oc_lead kV_lead dc_lead pm_lead cd_lead ct_lead : Value}
    (a_lead : PySem.W.nsIn K mainGlobals "lead" = some (some (.ref f_lead))) (l_lead : K.lookup f_lead = some ⟨oc_lead, od_lead, .func (PySem.W.fnOf "lead" "lead" (defArgs s_lead) (defBody s_lead) (defScope s_lead) .none kV_lead dc_lead pm_lead an_lead cd_lead ct_lead), sl_lead⟩) (c_lead : PySem.W.codeIn K cd_lead "lead" = true) (k_lead : PySem.W.keepIn K (.ref f_lead) = true)
    {f_matrix_times : Addr} {od_matrix_times an_matrix_times : Option Addr} {sl_matrix_times : Array (Option Value)} {oc_matrix_times kV_matrix_times dc_matrix_times pm_matrix_times cd_matrix_times ct_matrix_times : Value}
    (a_matrix_times : PySem.W.nsIn K mainGlobals "matrix_times" = some (some (.ref f_matrix_times))) (l_matrix_times : K.lookup f_matrix_times = some ⟨oc_matrix_times, od_matrix_times, .func (PySem.W.fnOf "matrix_times" "matrix_times" (defArgs s_matrix_times) (defBody s_matrix_times) (defScope s_matrix_times) .none kV_matrix_times dc_matrix_times pm_matrix_times an_matrix_times cd_matrix_times ct_matrix_times), sl_matrix_times⟩) (c_matrix_times : PySem.W.codeIn K cd_matrix_times "matrix_times" = true) (k_matrix_times : PySem.W.keepIn K (.ref f_matrix_times) = true)
    {f_reduction : Addr} {od_reduction an_reduction : Option Addr} {sl_reduction : Array (Option Value)} {oc_reduction kV_reduction dc_reduction pm_reduction cd_reduction ct_reduction : Value}
    (a_reduction : PySem.W.nsIn K mainGlobals "reduction" = some (some (.ref f_reduction))) (l_reduction : K.lookup f_reduction = some ⟨oc_reduction, od_reduction, .func (PySem.W.fnOf "reduction" "reduction" (defArgs s_reduction) (defBody s_reduction) (defScope s_reduction) .none kV_reduction dc_reduction pm_reduction an_reduction cd_reduction ct_reduction), sl_reduction⟩) (c_reduction : PySem.W.codeIn K cd_reduction "reduction" = true) (k_reduction : PySem.W.keepIn K (.ref f_reduction) = true)
    {f_ways_to : Addr} {od_ways_to an_ways_to : Option Addr} {sl_ways_to : Array (Option Value)} {oc_ways_to kV_ways_to dc_ways_to pm_ways_to cd_ways_to ct_ways_to : Value}
    (a_ways_to : PySem.W.nsIn K mainGlobals "ways_to" = some (some (.ref f_ways_to))) (l_ways_to : K.lookup f_ways_to = some ⟨oc_ways_to, od_ways_to, .func (PySem.W.fnOf "ways_to" "ways_to" (defArgs s_ways_to) (defBody s_ways_to) (defScope s_ways_to) .none kV_ways_to dc_ways_to pm_ways_to an_ways_to cd_ways_to ct_ways_to), sl_ways_to⟩) (c_ways_to : PySem.W.codeIn K cd_ways_to "ways_to" = true) (k_ways_to : PySem.W.keepIn K (.ref f_ways_to) = true)
    {f_first_class : Addr} {od_first_class an_first_class : Option Addr} {sl_first_class : Array (Option Value)} {oc_first_class kV_first_class dc_first_class pm_first_class cd_first_class ct_first_class : Value}
    (a_first_class : PySem.W.nsIn K mainGlobals "first_class" = some (some (.ref f_first_class))) (l_first_class : K.lookup f_first_class = some ⟨oc_first_class, od_first_class, .func (PySem.W.fnOf "first_class" "first_class" (defArgs s_first_class) (defBody s_first_class) (defScope s_first_class) .none kV_first_class dc_first_class pm_first_class an_first_class cd_first_class ct_first_class), sl_first_class⟩) (c_first_class : PySem.W.codeIn K cd_first_class "first_class" = true) (k_first_class : PySem.W.keepIn K (.ref f_first_class) = true)
    {f_classes : Addr} {od_classes an_classes : Option Addr} {sl_classes : Array (Option Value)} {oc_classes kV_classes dc_classes pm_classes cd_classes ct_classes : Value}
    (a_classes : PySem.W.nsIn K mainGlobals "classes" = some (some (.ref f_classes))) (l_classes : K.lookup f_classes = some ⟨oc_classes, od_classes, .func (PySem.W.fnOf "classes" "classes" (defArgs s_classes) (defBody s_classes) (defScope s_classes) .none kV_classes dc_classes pm_classes an_classes cd_classes ct_classes), sl_classes⟩) (c_classes : PySem.W.codeIn K cd_classes "classes" = true) (k_classes : PySem.W.keepIn K (.ref f_classes) = true)
    {f_class_number : Addr} {od_class_number an_class_number : Option Addr} {sl_class_number : Array (Option Value)} {oc_class_number kV_class_number dc_class_number pm_class_number cd_class_number ct_class_number : Value}
    (a_class_number : PySem.W.nsIn K mainGlobals "class_number" = some (some (.ref f_class_number))) (l_class_number : K.lookup f_class_number = some ⟨oc_class_number, od_class_number, .func (PySem.W.fnOf "class_number" "class_number" (defArgs s_class_number) (defBody s_class_number) (defScope s_class_number) .none kV_class_number dc_class_number pm_class_number an_class_number cd_class_number ct_class_number), sl_class_number⟩) (c_class_number : PySem.W.codeIn K cd_class_number "class_number" = true) (k_class_number : PySem.W.keepIn K (.ref f_class_number) = true)
    {f_compose : Addr} {od_compose an_compose : Option Addr} {sl_compose : Array (Option Value)} {oc_compose kV_compose dc_compose pm_compose cd_compose ct_compose : Value}
    (a_compose : PySem.W.nsIn K mainGlobals "compose" = some (some (.ref f_compose))) (l_compose : K.lookup f_compose = some ⟨oc_compose, od_compose, .func (PySem.W.fnOf "compose" "compose" (defArgs s_compose) (defBody s_compose) (defScope s_compose) .none kV_compose dc_compose pm_compose an_compose cd_compose ct_compose), sl_compose⟩) (c_compose : PySem.W.codeIn K cd_compose "compose" = true) (k_compose : PySem.W.keepIn K (.ref f_compose) = true)
    {f_turned_about : Addr} {od_turned_about an_turned_about : Option Addr} {sl_turned_about : Array (Option Value)} {oc_turned_about kV_turned_about dc_turned_about pm_turned_about cd_turned_about ct_turned_about : Value}
    (a_turned_about : PySem.W.nsIn K mainGlobals "turned_about" = some (some (.ref f_turned_about))) (l_turned_about : K.lookup f_turned_about = some ⟨oc_turned_about, od_turned_about, .func (PySem.W.fnOf "turned_about" "turned_about" (defArgs s_turned_about) (defBody s_turned_about) (defScope s_turned_about) .none kV_turned_about dc_turned_about pm_turned_about an_turned_about cd_turned_about ct_turned_about), sl_turned_about⟩) (c_turned_about : PySem.W.codeIn K cd_turned_about "turned_about" = true) (k_turned_about : PySem.W.keepIn K (.ref f_turned_about) = true)
    {f_power_of : Addr} {od_power_of an_power_of : Option Addr} {sl_power_of : Array (Option Value)} {oc_power_of kV_power_of dc_power_of pm_power_of cd_power_of ct_power_of : Value}
    (a_power_of : PySem.W.nsIn K mainGlobals "power_of" = some (some (.ref f_power_of))) (l_power_of : K.lookup f_power_of = some ⟨oc_power_of, od_power_of, .func (PySem.W.fnOf "power_of" "power_of" (defArgs s_power_of) (defBody s_power_of) (defScope s_power_of) .none kV_power_of dc_power_of pm_power_of an_power_of cd_power_of ct_power_of), sl_power_of⟩) (c_power_of : PySem.W.codeIn K cd_power_of "power_of" = true) (k_power_of : PySem.W.keepIn K (.ref f_power_of) = true)
    {f_composed : Addr} {od_composed an_composed : Option Addr} {sl_composed : Array (Option Value)} {oc_composed kV_composed dc_composed pm_composed cd_composed ct_composed : Value}
    (a_composed : PySem.W.nsIn K mainGlobals "composed" = some (some (.ref f_composed))) (l_composed : K.lookup f_composed = some ⟨oc_composed, od_composed, .func (PySem.W.fnOf "composed" "composed" (defArgs s_composed) (defBody s_composed) (defScope s_composed) .none kV_composed dc_composed pm_composed an_composed cd_composed ct_composed), sl_composed⟩) (c_composed : PySem.W.codeIn K cd_composed "composed" = true) (k_composed : PySem.W.keepIn K (.ref f_composed) = true)
    {f_inverse_class : Addr} {od_inverse_class an_inverse_class : Option Addr} {sl_inverse_class : Array (Option Value)} {oc_inverse_class kV_inverse_class dc_inverse_class pm_inverse_class cd_inverse_class ct_inverse_class : Value}
    (a_inverse_class : PySem.W.nsIn K mainGlobals "inverse_class" = some (some (.ref f_inverse_class))) (l_inverse_class : K.lookup f_inverse_class = some ⟨oc_inverse_class, od_inverse_class, .func (PySem.W.fnOf "inverse_class" "inverse_class" (defArgs s_inverse_class) (defBody s_inverse_class) (defScope s_inverse_class) .none kV_inverse_class dc_inverse_class pm_inverse_class an_inverse_class cd_inverse_class ct_inverse_class), sl_inverse_class⟩) (c_inverse_class : PySem.W.codeIn K cd_inverse_class "inverse_class" = true) (k_inverse_class : PySem.W.keepIn K (.ref f_inverse_class) = true)
    {f_power : Addr} {od_power an_power : Option Addr} {sl_power : Array (Option Value)} {oc_power kV_power dc_power pm_power cd_power ct_power : Value}
    (a_power : PySem.W.nsIn K mainGlobals "power" = some (some (.ref f_power))) (l_power : K.lookup f_power = some ⟨oc_power, od_power, .func (PySem.W.fnOf "power" "power" (defArgs s_power) (defBody s_power) (defScope s_power) .none kV_power dc_power pm_power an_power cd_power ct_power), sl_power⟩) (c_power : PySem.W.codeIn K cd_power "power" = true) (k_power : PySem.W.keepIn K (.ref f_power) = true)
    {f_order_of_class : Addr} {od_order_of_class an_order_of_class : Option Addr} {sl_order_of_class : Array (Option Value)} {oc_order_of_class kV_order_of_class dc_order_of_class pm_order_of_class cd_order_of_class ct_order_of_class : Value}
    (a_order_of_class : PySem.W.nsIn K mainGlobals "order_of_class" = some (some (.ref f_order_of_class))) (l_order_of_class : K.lookup f_order_of_class = some ⟨oc_order_of_class, od_order_of_class, .func (PySem.W.fnOf "order_of_class" "order_of_class" (defArgs s_order_of_class) (defBody s_order_of_class) (defScope s_order_of_class) .none kV_order_of_class dc_order_of_class pm_order_of_class an_order_of_class cd_order_of_class ct_order_of_class), sl_order_of_class⟩) (c_order_of_class : PySem.W.codeIn K cd_order_of_class "order_of_class" = true) (k_order_of_class : PySem.W.keepIn K (.ref f_order_of_class) = true)
    {f__law_deck : Addr} {od__law_deck an__law_deck : Option Addr} {sl__law_deck : Array (Option Value)} {oc__law_deck kV__law_deck dc__law_deck pm__law_deck cd__law_deck ct__law_deck : Value}
    (a__law_deck : PySem.W.nsIn K mainGlobals "_law_deck" = some (some (.ref f__law_deck))) (l__law_deck : K.lookup f__law_deck = some ⟨oc__law_deck, od__law_deck, .func (PySem.W.fnOf "_law_deck" "_law_deck" (defArgs s__law_deck) (defBody s__law_deck) (defScope s__law_deck) .none kV__law_deck dc__law_deck pm__law_deck an__law_deck cd__law_deck ct__law_deck), sl__law_deck⟩) (c__law_deck : PySem.W.codeIn K cd__law_deck "_law_deck" = true) (k__law_deck : PySem.W.keepIn K (.ref f__law_deck) = true)
    {f__law_draw : Addr} {od__law_draw an__law_draw : Option Addr} {sl__law_draw : Array (Option Value)} {oc__law_draw kV__law_draw dc__law_draw pm__law_draw cd__law_draw ct__law_draw : Value}
    (a__law_draw : PySem.W.nsIn K mainGlobals "_law_draw" = some (some (.ref f__law_draw))) (l__law_draw : K.lookup f__law_draw = some ⟨oc__law_draw, od__law_draw, .func (PySem.W.fnOf "_law_draw" "_law_draw" (defArgs s__law_draw) (defBody s__law_draw) (defScope s__law_draw) .none kV__law_draw dc__law_draw pm__law_draw an__law_draw cd__law_draw ct__law_draw), sl__law_draw⟩) (c__law_draw : PySem.W.codeIn K cd__law_draw "_law_draw" = true) (k__law_draw : PySem.W.keepIn K (.ref f__law_draw) = true)
    {f__law_pick : Addr} {od__law_pick an__law_pick : Option Addr} {sl__law_pick : Array (Option Value)} {oc__law_pick kV__law_pick dc__law_pick pm__law_pick cd__law_pick ct__law_pick : Value}
    (a__law_pick : PySem.W.nsIn K mainGlobals "_law_pick" = some (some (.ref f__law_pick))) (l__law_pick : K.lookup f__law_pick = some ⟨oc__law_pick, od__law_pick, .func (PySem.W.fnOf "_law_pick" "_law_pick" (defArgs s__law_pick) (defBody s__law_pick) (defScope s__law_pick) .none kV__law_pick dc__law_pick pm__law_pick an__law_pick cd__law_pick ct__law_pick), sl__law_pick⟩) (c__law_pick : PySem.W.codeIn K cd__law_pick "_law_pick" = true) (k__law_pick : PySem.W.keepIn K (.ref f__law_pick) = true)
    {f__law_gcd : Addr} {od__law_gcd an__law_gcd : Option Addr} {sl__law_gcd : Array (Option Value)} {oc__law_gcd kV__law_gcd dc__law_gcd pm__law_gcd cd__law_gcd ct__law_gcd : Value}
    (a__law_gcd : PySem.W.nsIn K mainGlobals "_law_gcd" = some (some (.ref f__law_gcd))) (l__law_gcd : K.lookup f__law_gcd = some ⟨oc__law_gcd, od__law_gcd, .func (PySem.W.fnOf "_law_gcd" "_law_gcd" (defArgs s__law_gcd) (defBody s__law_gcd) (defScope s__law_gcd) .none kV__law_gcd dc__law_gcd pm__law_gcd an__law_gcd cd__law_gcd ct__law_gcd), sl__law_gcd⟩) (c__law_gcd : PySem.W.codeIn K cd__law_gcd "_law_gcd" = true) (k__law_gcd : PySem.W.keepIn K (.ref f__law_gcd) = true)
    {f__law_discriminant : Addr} {od__law_discriminant an__law_discriminant : Option Addr} {sl__law_discriminant : Array (Option Value)} {oc__law_discriminant kV__law_discriminant dc__law_discriminant pm__law_discriminant cd__law_discriminant ct__law_discriminant : Value}
    (a__law_discriminant : PySem.W.nsIn K mainGlobals "_law_discriminant" = some (some (.ref f__law_discriminant))) (l__law_discriminant : K.lookup f__law_discriminant = some ⟨oc__law_discriminant, od__law_discriminant, .func (PySem.W.fnOf "_law_discriminant" "_law_discriminant" (defArgs s__law_discriminant) (defBody s__law_discriminant) (defScope s__law_discriminant) .none kV__law_discriminant dc__law_discriminant pm__law_discriminant an__law_discriminant cd__law_discriminant ct__law_discriminant), sl__law_discriminant⟩) (c__law_discriminant : PySem.W.codeIn K cd__law_discriminant "_law_discriminant" = true) (k__law_discriminant : PySem.W.keepIn K (.ref f__law_discriminant) = true)
    {f__law_classes : Addr} {od__law_classes an__law_classes : Option Addr} {sl__law_classes : Array (Option Value)} {oc__law_classes kV__law_classes dc__law_classes pm__law_classes cd__law_classes ct__law_classes : Value}
    (a__law_classes : PySem.W.nsIn K mainGlobals "_law_classes" = some (some (.ref f__law_classes))) (l__law_classes : K.lookup f__law_classes = some ⟨oc__law_classes, od__law_classes, .func (PySem.W.fnOf "_law_classes" "_law_classes" (defArgs s__law_classes) (defBody s__law_classes) (defScope s__law_classes) .none kV__law_classes dc__law_classes pm__law_classes an__law_classes cd__law_classes ct__law_classes), sl__law_classes⟩) (c__law_classes : PySem.W.codeIn K cd__law_classes "_law_classes" = true) (k__law_classes : PySem.W.keepIn K (.ref f__law_classes) = true)
    {f__law_led : Addr} {od__law_led an__law_led : Option Addr} {sl__law_led : Array (Option Value)} {oc__law_led kV__law_led dc__law_led pm__law_led cd__law_led ct__law_led : Value}
    (a__law_led : PySem.W.nsIn K mainGlobals "_law_led" = some (some (.ref f__law_led))) (l__law_led : K.lookup f__law_led = some ⟨oc__law_led, od__law_led, .func (PySem.W.fnOf "_law_led" "_law_led" (defArgs s__law_led) (defBody s__law_led) (defScope s__law_led) .none kV__law_led dc__law_led pm__law_led an__law_led cd__law_led ct__law_led), sl__law_led⟩) (c__law_led : PySem.W.codeIn K cd__law_led "_law_led" = true) (k__law_led : PySem.W.keepIn K (.ref f__law_led) = true)
    {f__law_times : Addr} {od__law_times an__law_times : Option Addr} {sl__law_times : Array (Option Value)} {oc__law_times kV__law_times dc__law_times pm__law_times cd__law_times ct__law_times : Value}
    (a__law_times : PySem.W.nsIn K mainGlobals "_law_times" = some (some (.ref f__law_times))) (l__law_times : K.lookup f__law_times = some ⟨oc__law_times, od__law_times, .func (PySem.W.fnOf "_law_times" "_law_times" (defArgs s__law_times) (defBody s__law_times) (defScope s__law_times) .none kV__law_times dc__law_times pm__law_times an__law_times cd__law_times ct__law_times), sl__law_times⟩) (c__law_times : PySem.W.codeIn K cd__law_times "_law_times" = true) (k__law_times : PySem.W.keepIn K (.ref f__law_times) = true)
    {f__law_matrix : Addr} {od__law_matrix an__law_matrix : Option Addr} {sl__law_matrix : Array (Option Value)} {oc__law_matrix kV__law_matrix dc__law_matrix pm__law_matrix cd__law_matrix ct__law_matrix : Value}
    (a__law_matrix : PySem.W.nsIn K mainGlobals "_law_matrix" = some (some (.ref f__law_matrix))) (l__law_matrix : K.lookup f__law_matrix = some ⟨oc__law_matrix, od__law_matrix, .func (PySem.W.fnOf "_law_matrix" "_law_matrix" (defArgs s__law_matrix) (defBody s__law_matrix) (defScope s__law_matrix) .none kV__law_matrix dc__law_matrix pm__law_matrix an__law_matrix cd__law_matrix ct__law_matrix), sl__law_matrix⟩) (c__law_matrix : PySem.W.codeIn K cd__law_matrix "_law_matrix" = true) (k__law_matrix : PySem.W.keepIn K (.ref f__law_matrix) = true)
    {f__law_reduced : Addr} {od__law_reduced an__law_reduced : Option Addr} {sl__law_reduced : Array (Option Value)} {oc__law_reduced kV__law_reduced dc__law_reduced pm__law_reduced cd__law_reduced ct__law_reduced : Value}
    (a__law_reduced : PySem.W.nsIn K mainGlobals "_law_reduced" = some (some (.ref f__law_reduced))) (l__law_reduced : K.lookup f__law_reduced = some ⟨oc__law_reduced, od__law_reduced, .func (PySem.W.fnOf "_law_reduced" "_law_reduced" (defArgs s__law_reduced) (defBody s__law_reduced) (defScope s__law_reduced) .none kV__law_reduced dc__law_reduced pm__law_reduced an__law_reduced cd__law_reduced ct__law_reduced), sl__law_reduced⟩) (c__law_reduced : PySem.W.codeIn K cd__law_reduced "_law_reduced" = true) (k__law_reduced : PySem.W.keepIn K (.ref f__law_reduced) = true)
    {f__law_mates : Addr} {od__law_mates an__law_mates : Option Addr} {sl__law_mates : Array (Option Value)} {oc__law_mates kV__law_mates dc__law_mates pm__law_mates cd__law_mates ct__law_mates : Value}
    (a__law_mates : PySem.W.nsIn K mainGlobals "_law_mates" = some (some (.ref f__law_mates))) (l__law_mates : K.lookup f__law_mates = some ⟨oc__law_mates, od__law_mates, .func (PySem.W.fnOf "_law_mates" "_law_mates" (defArgs s__law_mates) (defBody s__law_mates) (defScope s__law_mates) .none kV__law_mates dc__law_mates pm__law_mates an__law_mates cd__law_mates ct__law_mates), sl__law_mates⟩) (c__law_mates : PySem.W.codeIn K cd__law_mates "_law_mates" = true) (k__law_mates : PySem.W.keepIn K (.ref f__law_mates) = true)
    {f__law_coprime_pair : Addr} {od__law_coprime_pair an__law_coprime_pair : Option Addr} {sl__law_coprime_pair : Array (Option Value)} {oc__law_coprime_pair kV__law_coprime_pair dc__law_coprime_pair pm__law_coprime_pair cd__law_coprime_pair ct__law_coprime_pair : Value}
    (a__law_coprime_pair : PySem.W.nsIn K mainGlobals "_law_coprime_pair" = some (some (.ref f__law_coprime_pair))) (l__law_coprime_pair : K.lookup f__law_coprime_pair = some ⟨oc__law_coprime_pair, od__law_coprime_pair, .func (PySem.W.fnOf "_law_coprime_pair" "_law_coprime_pair" (defArgs s__law_coprime_pair) (defBody s__law_coprime_pair) (defScope s__law_coprime_pair) .none kV__law_coprime_pair dc__law_coprime_pair pm__law_coprime_pair an__law_coprime_pair cd__law_coprime_pair ct__law_coprime_pair), sl__law_coprime_pair⟩) (c__law_coprime_pair : PySem.W.codeIn K cd__law_coprime_pair "_law_coprime_pair" = true) (k__law_coprime_pair : PySem.W.keepIn K (.ref f__law_coprime_pair) = true)
    {f__law_composed : Addr} {od__law_composed an__law_composed : Option Addr} {sl__law_composed : Array (Option Value)} {oc__law_composed kV__law_composed dc__law_composed pm__law_composed cd__law_composed ct__law_composed : Value}
    (a__law_composed : PySem.W.nsIn K mainGlobals "_law_composed" = some (some (.ref f__law_composed))) (l__law_composed : K.lookup f__law_composed = some ⟨oc__law_composed, od__law_composed, .func (PySem.W.fnOf "_law_composed" "_law_composed" (defArgs s__law_composed) (defBody s__law_composed) (defScope s__law_composed) .none kV__law_composed dc__law_composed pm__law_composed an__law_composed cd__law_composed ct__law_composed), sl__law_composed⟩) (c__law_composed : PySem.W.codeIn K cd__law_composed "_law_composed" = true) (k__law_composed : PySem.W.keepIn K (.ref f__law_composed) = true)
    {f__law_first : Addr} {od__law_first an__law_first : Option Addr} {sl__law_first : Array (Option Value)} {oc__law_first kV__law_first dc__law_first pm__law_first cd__law_first ct__law_first : Value}
    (a__law_first : PySem.W.nsIn K mainGlobals "_law_first" = some (some (.ref f__law_first))) (l__law_first : K.lookup f__law_first = some ⟨oc__law_first, od__law_first, .func (PySem.W.fnOf "_law_first" "_law_first" (defArgs s__law_first) (defBody s__law_first) (defScope s__law_first) .none kV__law_first dc__law_first pm__law_first an__law_first cd__law_first ct__law_first), sl__law_first⟩) (c__law_first : PySem.W.codeIn K cd__law_first "_law_first" = true) (k__law_first : PySem.W.keepIn K (.ref f__law_first) = true)
    {f__law_order : Addr} {od__law_order an__law_order : Option Addr} {sl__law_order : Array (Option Value)} {oc__law_order kV__law_order dc__law_order pm__law_order cd__law_order ct__law_order : Value}
    (a__law_order : PySem.W.nsIn K mainGlobals "_law_order" = some (some (.ref f__law_order))) (l__law_order : K.lookup f__law_order = some ⟨oc__law_order, od__law_order, .func (PySem.W.fnOf "_law_order" "_law_order" (defArgs s__law_order) (defBody s__law_order) (defScope s__law_order) .none kV__law_order dc__law_order pm__law_order an__law_order cd__law_order ct__law_order), sl__law_order⟩) (c__law_order : PySem.W.codeIn K cd__law_order "_law_order" = true) (k__law_order : PySem.W.keepIn K (.ref f__law_order) = true)
    {f__law_power : Addr} {od__law_power an__law_power : Option Addr} {sl__law_power : Array (Option Value)} {oc__law_power kV__law_power dc__law_power pm__law_power cd__law_power ct__law_power : Value}
    (a__law_power : PySem.W.nsIn K mainGlobals "_law_power" = some (some (.ref f__law_power))) (l__law_power : K.lookup f__law_power = some ⟨oc__law_power, od__law_power, .func (PySem.W.fnOf "_law_power" "_law_power" (defArgs s__law_power) (defBody s__law_power) (defScope s__law_power) .none kV__law_power dc__law_power pm__law_power an__law_power cd__law_power ct__law_power), sl__law_power⟩) (c__law_power : PySem.W.codeIn K cd__law_power "_law_power" = true) (k__law_power : PySem.W.keepIn K (.ref f__law_power) = true)
    {f__law_value : Addr} {od__law_value an__law_value : Option Addr} {sl__law_value : Array (Option Value)} {oc__law_value kV__law_value dc__law_value pm__law_value cd__law_value ct__law_value : Value}
    (a__law_value : PySem.W.nsIn K mainGlobals "_law_value" = some (some (.ref f__law_value))) (l__law_value : K.lookup f__law_value = some ⟨oc__law_value, od__law_value, .func (PySem.W.fnOf "_law_value" "_law_value" (defArgs s__law_value) (defBody s__law_value) (defScope s__law_value) .none kV__law_value dc__law_value pm__law_value an__law_value cd__law_value ct__law_value), sl__law_value⟩) (c__law_value : PySem.W.codeIn K cd__law_value "_law_value" = true) (k__law_value : PySem.W.keepIn K (.ref f__law_value) = true)
    {f__law_is_product_right : Addr} {od__law_is_product_right an__law_is_product_right : Option Addr} {sl__law_is_product_right : Array (Option Value)} {oc__law_is_product_right kV__law_is_product_right dc__law_is_product_right pm__law_is_product_right cd__law_is_product_right ct__law_is_product_right : Value}
    (a__law_is_product_right : PySem.W.nsIn K mainGlobals "_law_is_product_right" = some (some (.ref f__law_is_product_right))) (l__law_is_product_right : K.lookup f__law_is_product_right = some ⟨oc__law_is_product_right, od__law_is_product_right, .func (PySem.W.fnOf "_law_is_product_right" "_law_is_product_right" (defArgs s__law_is_product_right) (defBody s__law_is_product_right) (defScope s__law_is_product_right) .none kV__law_is_product_right dc__law_is_product_right pm__law_is_product_right an__law_is_product_right cd__law_is_product_right ct__law_is_product_right), sl__law_is_product_right⟩) (c__law_is_product_right : PySem.W.codeIn K cd__law_is_product_right "_law_is_product_right" = true) (k__law_is_product_right : PySem.W.keepIn K (.ref f__law_is_product_right) = true)
    {f__law_are_powers_right : Addr} {od__law_are_powers_right an__law_are_powers_right : Option Addr} {sl__law_are_powers_right : Array (Option Value)} {oc__law_are_powers_right kV__law_are_powers_right dc__law_are_powers_right pm__law_are_powers_right cd__law_are_powers_right ct__law_are_powers_right : Value}
    (a__law_are_powers_right : PySem.W.nsIn K mainGlobals "_law_are_powers_right" = some (some (.ref f__law_are_powers_right))) (l__law_are_powers_right : K.lookup f__law_are_powers_right = some ⟨oc__law_are_powers_right, od__law_are_powers_right, .func (PySem.W.fnOf "_law_are_powers_right" "_law_are_powers_right" (defArgs s__law_are_powers_right) (defBody s__law_are_powers_right) (defScope s__law_are_powers_right) .none kV__law_are_powers_right dc__law_are_powers_right pm__law_are_powers_right an__law_are_powers_right cd__law_are_powers_right ct__law_are_powers_right), sl__law_are_powers_right⟩) (c__law_are_powers_right : PySem.W.codeIn K cd__law_are_powers_right "_law_are_powers_right" = true) (k__law_are_powers_right : PySem.W.keepIn K (.ref f__law_are_powers_right) = true)
    {f_law : Addr} {od_law an_law : Option Addr} {sl_law : Array (Option Value)} {oc_law kV_law dc_law pm_law cd_law ct_law : Value}
    (a_law : PySem.W.nsIn K mainGlobals "law" = some (some (.ref f_law))) (l_law : K.lookup f_law = some ⟨oc_law, od_law, .func (PySem.W.fnOf "law" "law" (defArgs s_law) (defBody s_law) (defScope s_law) .none kV_law dc_law pm_law an_law cd_law ct_law), sl_law⟩) (c_law : PySem.W.codeIn K cd_law "law" = true) (k_law : PySem.W.keepIn K (.ref f_law) = true)
    {v_LEAST : Nat} (e_LEAST : PySem.W.nsIn K mainGlobals "LEAST" = some (some (.int (-20000) v_LEAST)))
    (y_abs : PySem.W.nsIn K mainGlobals "abs" = some none)
    (y_all : PySem.W.nsIn K mainGlobals "all" = some none)
    (y_bool : PySem.W.nsIn K mainGlobals "bool" = some none)
    (y_int : PySem.W.nsIn K mainGlobals "int" = some none)
    (y_isinstance : PySem.W.nsIn K mainGlobals "isinstance" = some none)
    (y_len : PySem.W.nsIn K mainGlobals "len" = some none)
    (y_max : PySem.W.nsIn K mainGlobals "max" = some none)
    (y_range : PySem.W.nsIn K mainGlobals "range" = some none)
    (y_repr : PySem.W.nsIn K mainGlobals "repr" = some none)
    (y_sorted : PySem.W.nsIn K mainGlobals "sorted" = some none)
    (y_tuple : PySem.W.nsIn K mainGlobals "tuple" = some none) :
    ∃ fd : FuncData, (∀ (s : Shared) (u : Value), BindsTo s fd ⟨[u], []⟩ [("_law_script", u)]) ∧ ∀ (a : Addr) (ns : List Int), ns.length ≤ 63 → ∃ sp : Sp, (∀ H : Hp, (∀ b, H b = none ∨ ∃ o xs, H b = some (.frz o (.lst xs))) → SqL K H a (ns.map V.int) → sp [.ref a] H (fun v _ => v = .bl true) fun _ _ _ => False) ∧ ∀ base : Heap, K.In base → base.Ns mainGlobals mg → FnG l.prog w K mg base CX0 7 fa fd ["_law_script"] sp := by
  have e := hfa.symm.trans (PySem.W.mg_of X G a_law)
  have A : { A : Fa K mg // A.f_law = f_law ∧ A.d_law = PySem.W.fnOf "law" "law" (defArgs s_law) (defBody s_law) (defScope s_law) .none kV_law dc_law pm_law an_law cd_law ct_law } := ⟨{
    f_is_integer := f_is_integer,
    d_is_integer := _,
    F_is_integer := fun_mk (st := s_is_integer) l_is_integer c_is_integer k_is_integer,
    g_is_integer := PySem.W.mg_of X G a_is_integer,
    b_is_integer := (fun_mk (st := s_is_integer) l_is_integer c_is_integer k_is_integer).binds (ps := p_is_integer) (fun _ _ _ _ _ _ us hl => match us, hl with | [_], _ => rfl),
    f_are_integers := f_are_integers,
    d_are_integers := _,
    F_are_integers := fun_mk (st := s_are_integers) l_are_integers c_are_integers k_are_integers,
    g_are_integers := PySem.W.mg_of X G a_are_integers,
    b_are_integers := (fun_mk (st := s_are_integers) l_are_integers c_are_integers k_are_integers).binds (ps := p_are_integers) (fun _ _ _ _ _ _ us hl => match us, hl with | [_, _], _ => rfl),
    f_common_divisor := f_common_divisor,
    d_common_divisor := _,
    F_common_divisor := fun_mk (st := s_common_divisor) l_common_divisor c_common_divisor k_common_divisor,
    g_common_divisor := PySem.W.mg_of X G a_common_divisor,
    b_common_divisor := (fun_mk (st := s_common_divisor) l_common_divisor c_common_divisor k_common_divisor).binds (ps := p_common_divisor) (fun _ _ _ _ _ _ us hl => match us, hl with | [_, _], _ => rfl),
    f_bezout := f_bezout,
    d_bezout := _,
    F_bezout := fun_mk (st := s_bezout) l_bezout c_bezout k_bezout,
    g_bezout := PySem.W.mg_of X G a_bezout,
    b_bezout := (fun_mk (st := s_bezout) l_bezout c_bezout k_bezout).binds (ps := p_bezout) (fun _ _ _ _ _ _ us hl => match us, hl with | [_, _], _ => rfl),
    f_whole_root := f_whole_root,
    d_whole_root := _,
    F_whole_root := fun_mk (st := s_whole_root) l_whole_root c_whole_root k_whole_root,
    g_whole_root := PySem.W.mg_of X G a_whole_root,
    b_whole_root := (fun_mk (st := s_whole_root) l_whole_root c_whole_root k_whole_root).binds (ps := p_whole_root) (fun _ _ _ _ _ _ us hl => match us, hl with | [_], _ => rfl),
    f_is_discriminant := f_is_discriminant,
    d_is_discriminant := _,
    F_is_discriminant := fun_mk (st := s_is_discriminant) l_is_discriminant c_is_discriminant k_is_discriminant,
    g_is_discriminant := PySem.W.mg_of X G a_is_discriminant,
    b_is_discriminant := (fun_mk (st := s_is_discriminant) l_is_discriminant c_is_discriminant k_is_discriminant).binds (ps := p_is_discriminant) (fun _ _ _ _ _ _ us hl => match us, hl with | [_], _ => rfl),
    f_discriminant_at := f_discriminant_at,
    d_discriminant_at := _,
    F_discriminant_at := fun_mk (st := s_discriminant_at) l_discriminant_at c_discriminant_at k_discriminant_at,
    g_discriminant_at := PySem.W.mg_of X G a_discriminant_at,
    b_discriminant_at := (fun_mk (st := s_discriminant_at) l_discriminant_at c_discriminant_at k_discriminant_at).binds (ps := p_discriminant_at) (fun _ _ _ _ _ _ us hl => match us, hl with | [_], _ => rfl),
    f_is_form := f_is_form,
    d_is_form := _,
    F_is_form := fun_mk (st := s_is_form) l_is_form c_is_form k_is_form,
    g_is_form := PySem.W.mg_of X G a_is_form,
    b_is_form := (fun_mk (st := s_is_form) l_is_form c_is_form k_is_form).binds (ps := p_is_form) (fun _ _ _ _ _ _ us hl => match us, hl with | [_], _ => rfl),
    f_is_reduced := f_is_reduced,
    d_is_reduced := _,
    F_is_reduced := fun_mk (st := s_is_reduced) l_is_reduced c_is_reduced k_is_reduced,
    g_is_reduced := PySem.W.mg_of X G a_is_reduced,
    b_is_reduced := (fun_mk (st := s_is_reduced) l_is_reduced c_is_reduced k_is_reduced).binds (ps := p_is_reduced) (fun _ _ _ _ _ _ us hl => match us, hl with | [_], _ => rfl),
    f_lead := f_lead,
    d_lead := _,
    F_lead := fun_mk (st := s_lead) l_lead c_lead k_lead,
    g_lead := PySem.W.mg_of X G a_lead,
    b_lead := (fun_mk (st := s_lead) l_lead c_lead k_lead).binds (ps := p_lead) (fun _ _ _ _ _ _ us hl => match us, hl with | [_, _], _ => rfl),
    f_matrix_times := f_matrix_times,
    d_matrix_times := _,
    F_matrix_times := fun_mk (st := s_matrix_times) l_matrix_times c_matrix_times k_matrix_times,
    g_matrix_times := PySem.W.mg_of X G a_matrix_times,
    b_matrix_times := (fun_mk (st := s_matrix_times) l_matrix_times c_matrix_times k_matrix_times).binds (ps := p_matrix_times) (fun _ _ _ _ _ _ us hl => match us, hl with | [_, _], _ => rfl),
    f_reduction := f_reduction,
    d_reduction := _,
    F_reduction := fun_mk (st := s_reduction) l_reduction c_reduction k_reduction,
    g_reduction := PySem.W.mg_of X G a_reduction,
    b_reduction := (fun_mk (st := s_reduction) l_reduction c_reduction k_reduction).binds (ps := p_reduction) (fun _ _ _ _ _ _ us hl => match us, hl with | [_], _ => rfl),
    f_ways_to := f_ways_to,
    d_ways_to := _,
    F_ways_to := fun_mk (st := s_ways_to) l_ways_to c_ways_to k_ways_to,
    g_ways_to := PySem.W.mg_of X G a_ways_to,
    b_ways_to := (fun_mk (st := s_ways_to) l_ways_to c_ways_to k_ways_to).binds (ps := p_ways_to) (fun _ _ _ _ _ _ us hl => match us, hl with | [_, _], _ => rfl),
    f_first_class := f_first_class,
    d_first_class := _,
    F_first_class := fun_mk (st := s_first_class) l_first_class c_first_class k_first_class,
    g_first_class := PySem.W.mg_of X G a_first_class,
    b_first_class := (fun_mk (st := s_first_class) l_first_class c_first_class k_first_class).binds (ps := p_first_class) (fun _ _ _ _ _ _ us hl => match us, hl with | [_], _ => rfl),
    f_classes := f_classes,
    d_classes := _,
    F_classes := fun_mk (st := s_classes) l_classes c_classes k_classes,
    g_classes := PySem.W.mg_of X G a_classes,
    b_classes := (fun_mk (st := s_classes) l_classes c_classes k_classes).binds (ps := p_classes) (fun _ _ _ _ _ _ us hl => match us, hl with | [_], _ => rfl),
    f_class_number := f_class_number,
    d_class_number := _,
    F_class_number := fun_mk (st := s_class_number) l_class_number c_class_number k_class_number,
    g_class_number := PySem.W.mg_of X G a_class_number,
    b_class_number := (fun_mk (st := s_class_number) l_class_number c_class_number k_class_number).binds (ps := p_class_number) (fun _ _ _ _ _ _ us hl => match us, hl with | [_], _ => rfl),
    f_compose := f_compose,
    d_compose := _,
    F_compose := fun_mk (st := s_compose) l_compose c_compose k_compose,
    g_compose := PySem.W.mg_of X G a_compose,
    b_compose := (fun_mk (st := s_compose) l_compose c_compose k_compose).binds (ps := p_compose) (fun _ _ _ _ _ _ us hl => match us, hl with | [_, _], _ => rfl),
    f_turned_about := f_turned_about,
    d_turned_about := _,
    F_turned_about := fun_mk (st := s_turned_about) l_turned_about c_turned_about k_turned_about,
    g_turned_about := PySem.W.mg_of X G a_turned_about,
    b_turned_about := (fun_mk (st := s_turned_about) l_turned_about c_turned_about k_turned_about).binds (ps := p_turned_about) (fun _ _ _ _ _ _ us hl => match us, hl with | [_], _ => rfl),
    f_power_of := f_power_of,
    d_power_of := _,
    F_power_of := fun_mk (st := s_power_of) l_power_of c_power_of k_power_of,
    g_power_of := PySem.W.mg_of X G a_power_of,
    b_power_of := (fun_mk (st := s_power_of) l_power_of c_power_of k_power_of).binds (ps := p_power_of) (fun _ _ _ _ _ _ us hl => match us, hl with | [_, _], _ => rfl),
    f_composed := f_composed,
    d_composed := _,
    F_composed := fun_mk (st := s_composed) l_composed c_composed k_composed,
    g_composed := PySem.W.mg_of X G a_composed,
    b_composed := (fun_mk (st := s_composed) l_composed c_composed k_composed).binds (ps := p_composed) (fun _ _ _ _ _ _ us hl => match us, hl with | [_, _], _ => rfl),
    f_inverse_class := f_inverse_class,
    d_inverse_class := _,
    F_inverse_class := fun_mk (st := s_inverse_class) l_inverse_class c_inverse_class k_inverse_class,
    g_inverse_class := PySem.W.mg_of X G a_inverse_class,
    b_inverse_class := (fun_mk (st := s_inverse_class) l_inverse_class c_inverse_class k_inverse_class).binds (ps := p_inverse_class) (fun _ _ _ _ _ _ us hl => match us, hl with | [_], _ => rfl),
    f_power := f_power,
    d_power := _,
    F_power := fun_mk (st := s_power) l_power c_power k_power,
    g_power := PySem.W.mg_of X G a_power,
    b_power := (fun_mk (st := s_power) l_power c_power k_power).binds (ps := p_power) (fun _ _ _ _ _ _ us hl => match us, hl with | [_, _], _ => rfl),
    f_order_of_class := f_order_of_class,
    d_order_of_class := _,
    F_order_of_class := fun_mk (st := s_order_of_class) l_order_of_class c_order_of_class k_order_of_class,
    g_order_of_class := PySem.W.mg_of X G a_order_of_class,
    b_order_of_class := (fun_mk (st := s_order_of_class) l_order_of_class c_order_of_class k_order_of_class).binds (ps := p_order_of_class) (fun _ _ _ _ _ _ us hl => match us, hl with | [_], _ => rfl),
    f__law_deck := f__law_deck,
    d__law_deck := _,
    F__law_deck := fun_mk (st := s__law_deck) l__law_deck c__law_deck k__law_deck,
    g__law_deck := PySem.W.mg_of X G a__law_deck,
    b__law_deck := (fun_mk (st := s__law_deck) l__law_deck c__law_deck k__law_deck).binds (ps := p__law_deck) (fun _ _ _ _ _ _ us hl => match us, hl with | [_], _ => rfl),
    f__law_draw := f__law_draw,
    d__law_draw := _,
    F__law_draw := fun_mk (st := s__law_draw) l__law_draw c__law_draw k__law_draw,
    g__law_draw := PySem.W.mg_of X G a__law_draw,
    b__law_draw := (fun_mk (st := s__law_draw) l__law_draw c__law_draw k__law_draw).binds (ps := p__law_draw) (fun _ _ _ _ _ _ us hl => match us, hl with | [_, _], _ => rfl),
    f__law_pick := f__law_pick,
    d__law_pick := _,
    F__law_pick := fun_mk (st := s__law_pick) l__law_pick c__law_pick k__law_pick,
    g__law_pick := PySem.W.mg_of X G a__law_pick,
    b__law_pick := (fun_mk (st := s__law_pick) l__law_pick c__law_pick k__law_pick).binds (ps := p__law_pick) (fun _ _ _ _ _ _ us hl => match us, hl with | [_, _], _ => rfl),
    f__law_gcd := f__law_gcd,
    d__law_gcd := _,
    F__law_gcd := fun_mk (st := s__law_gcd) l__law_gcd c__law_gcd k__law_gcd,
    g__law_gcd := PySem.W.mg_of X G a__law_gcd,
    b__law_gcd := (fun_mk (st := s__law_gcd) l__law_gcd c__law_gcd k__law_gcd).binds (ps := p__law_gcd) (fun _ _ _ _ _ _ us hl => match us, hl with | [_, _], _ => rfl),
    f__law_discriminant := f__law_discriminant,
    d__law_discriminant := _,
    F__law_discriminant := fun_mk (st := s__law_discriminant) l__law_discriminant c__law_discriminant k__law_discriminant,
    g__law_discriminant := PySem.W.mg_of X G a__law_discriminant,
    b__law_discriminant := (fun_mk (st := s__law_discriminant) l__law_discriminant c__law_discriminant k__law_discriminant).binds (ps := p__law_discriminant) (fun _ _ _ _ _ _ us hl => match us, hl with | [_], _ => rfl),
    f__law_classes := f__law_classes,
    d__law_classes := _,
    F__law_classes := fun_mk (st := s__law_classes) l__law_classes c__law_classes k__law_classes,
    g__law_classes := PySem.W.mg_of X G a__law_classes,
    b__law_classes := (fun_mk (st := s__law_classes) l__law_classes c__law_classes k__law_classes).binds (ps := p__law_classes) (fun _ _ _ _ _ _ us hl => match us, hl with | [_], _ => rfl),
    f__law_led := f__law_led,
    d__law_led := _,
    F__law_led := fun_mk (st := s__law_led) l__law_led c__law_led k__law_led,
    g__law_led := PySem.W.mg_of X G a__law_led,
    b__law_led := (fun_mk (st := s__law_led) l__law_led c__law_led k__law_led).binds (ps := p__law_led) (fun _ _ _ _ _ _ us hl => match us, hl with | [_, _], _ => rfl),
    f__law_times := f__law_times,
    d__law_times := _,
    F__law_times := fun_mk (st := s__law_times) l__law_times c__law_times k__law_times,
    g__law_times := PySem.W.mg_of X G a__law_times,
    b__law_times := (fun_mk (st := s__law_times) l__law_times c__law_times k__law_times).binds (ps := p__law_times) (fun _ _ _ _ _ _ us hl => match us, hl with | [_, _], _ => rfl),
    f__law_matrix := f__law_matrix,
    d__law_matrix := _,
    F__law_matrix := fun_mk (st := s__law_matrix) l__law_matrix c__law_matrix k__law_matrix,
    g__law_matrix := PySem.W.mg_of X G a__law_matrix,
    b__law_matrix := (fun_mk (st := s__law_matrix) l__law_matrix c__law_matrix k__law_matrix).binds (ps := p__law_matrix) (fun _ _ _ _ _ _ us hl => match us, hl with | [_, _, _], _ => rfl),
    f__law_reduced := f__law_reduced,
    d__law_reduced := _,
    F__law_reduced := fun_mk (st := s__law_reduced) l__law_reduced c__law_reduced k__law_reduced,
    g__law_reduced := PySem.W.mg_of X G a__law_reduced,
    b__law_reduced := (fun_mk (st := s__law_reduced) l__law_reduced c__law_reduced k__law_reduced).binds (ps := p__law_reduced) (fun _ _ _ _ _ _ us hl => match us, hl with | [_], _ => rfl),
    f__law_mates := f__law_mates,
    d__law_mates := _,
    F__law_mates := fun_mk (st := s__law_mates) l__law_mates c__law_mates k__law_mates,
    g__law_mates := PySem.W.mg_of X G a__law_mates,
    b__law_mates := (fun_mk (st := s__law_mates) l__law_mates c__law_mates k__law_mates).binds (ps := p__law_mates) (fun _ _ _ _ _ _ us hl => match us, hl with | [_, _], _ => rfl),
    f__law_coprime_pair := f__law_coprime_pair,
    d__law_coprime_pair := _,
    F__law_coprime_pair := fun_mk (st := s__law_coprime_pair) l__law_coprime_pair c__law_coprime_pair k__law_coprime_pair,
    g__law_coprime_pair := PySem.W.mg_of X G a__law_coprime_pair,
    b__law_coprime_pair := (fun_mk (st := s__law_coprime_pair) l__law_coprime_pair c__law_coprime_pair k__law_coprime_pair).binds (ps := p__law_coprime_pair) (fun _ _ _ _ _ _ us hl => match us, hl with | [_, _], _ => rfl),
    f__law_composed := f__law_composed,
    d__law_composed := _,
    F__law_composed := fun_mk (st := s__law_composed) l__law_composed c__law_composed k__law_composed,
    g__law_composed := PySem.W.mg_of X G a__law_composed,
    b__law_composed := (fun_mk (st := s__law_composed) l__law_composed c__law_composed k__law_composed).binds (ps := p__law_composed) (fun _ _ _ _ _ _ us hl => match us, hl with | [_, _], _ => rfl),
    f__law_first := f__law_first,
    d__law_first := _,
    F__law_first := fun_mk (st := s__law_first) l__law_first c__law_first k__law_first,
    g__law_first := PySem.W.mg_of X G a__law_first,
    b__law_first := (fun_mk (st := s__law_first) l__law_first c__law_first k__law_first).binds (ps := p__law_first) (fun _ _ _ _ _ _ us hl => match us, hl with | [_], _ => rfl),
    f__law_order := f__law_order,
    d__law_order := _,
    F__law_order := fun_mk (st := s__law_order) l__law_order c__law_order k__law_order,
    g__law_order := PySem.W.mg_of X G a__law_order,
    b__law_order := (fun_mk (st := s__law_order) l__law_order c__law_order k__law_order).binds (ps := p__law_order) (fun _ _ _ _ _ _ us hl => match us, hl with | [_, _], _ => rfl),
    f__law_power := f__law_power,
    d__law_power := _,
    F__law_power := fun_mk (st := s__law_power) l__law_power c__law_power k__law_power,
    g__law_power := PySem.W.mg_of X G a__law_power,
    b__law_power := (fun_mk (st := s__law_power) l__law_power c__law_power k__law_power).binds (ps := p__law_power) (fun _ _ _ _ _ _ us hl => match us, hl with | [_, _, _], _ => rfl),
    f__law_value := f__law_value,
    d__law_value := _,
    F__law_value := fun_mk (st := s__law_value) l__law_value c__law_value k__law_value,
    g__law_value := PySem.W.mg_of X G a__law_value,
    b__law_value := (fun_mk (st := s__law_value) l__law_value c__law_value k__law_value).binds (ps := p__law_value) (fun _ _ _ _ _ _ us hl => match us, hl with | [_, _], _ => rfl),
    f__law_is_product_right := f__law_is_product_right,
    d__law_is_product_right := _,
    F__law_is_product_right := fun_mk (st := s__law_is_product_right) l__law_is_product_right c__law_is_product_right k__law_is_product_right,
    g__law_is_product_right := PySem.W.mg_of X G a__law_is_product_right,
    b__law_is_product_right := (fun_mk (st := s__law_is_product_right) l__law_is_product_right c__law_is_product_right k__law_is_product_right).binds (ps := p__law_is_product_right) (fun _ _ _ _ _ _ us hl => match us, hl with | [_, _], _ => rfl),
    f__law_are_powers_right := f__law_are_powers_right,
    d__law_are_powers_right := _,
    F__law_are_powers_right := fun_mk (st := s__law_are_powers_right) l__law_are_powers_right c__law_are_powers_right k__law_are_powers_right,
    g__law_are_powers_right := PySem.W.mg_of X G a__law_are_powers_right,
    b__law_are_powers_right := (fun_mk (st := s__law_are_powers_right) l__law_are_powers_right c__law_are_powers_right k__law_are_powers_right).binds (ps := p__law_are_powers_right) (fun _ _ _ _ _ _ us hl => match us, hl with | [_, _, _, _], _ => rfl),
    f_law := f_law,
    d_law := _,
    F_law := fun_mk (st := s_law) l_law c_law k_law,
    g_law := PySem.W.mg_of X G a_law,
    b_law := (fun_mk (st := s_law) l_law c_law k_law).binds (ps := p_law) (fun _ _ _ _ _ _ us hl => match us, hl with | [_], _ => rfl),
    kb_composed_0 := kb_of (fun_mk (st := s_composed) l_composed c_composed k_composed) (fun _ _ _ _ _ _ us ws h1 h2 => match us, ws, h1, h2 with | [], [_, _], _, _ => rfl),
    kb_order_of_class_0 := kb_of (fun_mk (st := s_order_of_class) l_order_of_class c_order_of_class k_order_of_class) (fun _ _ _ _ _ _ us ws h1 h2 => match us, ws, h1, h2 with | [], [_], _, _ => rfl),
    kb_power_0 := kb_of (fun_mk (st := s_power) l_power c_power k_power) (fun _ _ _ _ _ _ us ws h1 h2 => match us, ws, h1, h2 with | [], [_, _], _, _ => rfl),
    kb_inverse_class_0 := kb_of (fun_mk (st := s_inverse_class) l_inverse_class c_inverse_class k_inverse_class) (fun _ _ _ _ _ _ us ws h1 h2 => match us, ws, h1, h2 with | [], [_], _, _ => rfl),
    v_LEAST := v_LEAST,
    g_LEAST := PySem.W.mg_of X G e_LEAST,
    z_abs := PySem.W.mg_none_of X G y_abs,
    z_all := PySem.W.mg_none_of X G y_all,
    z_bool := PySem.W.mg_none_of X G y_bool,
    z_int := PySem.W.mg_none_of X G y_int,
    z_isinstance := PySem.W.mg_none_of X G y_isinstance,
    z_len := PySem.W.mg_none_of X G y_len,
    z_max := PySem.W.mg_none_of X G y_max,
    z_range := PySem.W.mg_none_of X G y_range,
    z_repr := PySem.W.mg_none_of X G y_repr,
    z_sorted := PySem.W.mg_none_of X G y_sorted,
    z_tuple := PySem.W.mg_none_of X G y_tuple }, rfl, rfl⟩
  obtain ⟨A, h1, h2⟩ := A
  have h3 : fa = A.f_law := by
    rw [h1]
    exact Value.ref.inj (Option.some.inj e)
  subst h3
  refine ⟨A.d_law, fun s u => by rw [h2]; exact .of_eq rfl, fun a ns hl => ?_⟩
  let C0 : Ct := { K := K, n1 := n_1, n2 := n_2, n3 := n_3, sc := some (a, ns), H0 := fun _ => none, F0 := ⟨fun _ => none, none, none⟩, Φ := fun _ _ _ => .no, fu := 0 }
  exact ⟨spS C0 (FT (T ns) (fun _ => none) (6 + 1) 42) 1, fun H _ hS => law_sp (C := C0) rfl hS (law_val ns hl), fun base _ _ => ok_law (C := C0) A a ns ⟨rfl, rfl, rfl, rfl⟩ 0⟩
end Xk40
open PySem PySem.W PyProof.Rows
set_option maxHeartbeats 0 in
theorem PySem.Challenge.cw_craterhouse_k40_whole_products_of_classe_holds : PySem.Challenge.rw_craterhouse_k40_whole_products_of_classe.Holds := by
  w_on; o_law; k_head; (case hw => w_witness2)
  k_fill
  refine Pv.walkEnd (l := PySem.Challenge.rw_craterhouse_k40_whole_products_of_classe) (n := 63) (k := 7) (x := "_law_script") rfl (by decide) rfl ⟨rfl, by decide, by decide⟩ (fun w h Y => PySem.W.kIn_of Y) ?F
  case F =>
    intro w mg fa h KX G hmg
    refine' Xk40.fin KX G hmg ?a_is_integer ?l_is_integer ?c_is_integer ?k_is_integer ?a_are_integers ?l_are_integers ?c_are_integers ?k_are_integers ?a_common_divisor ?l_common_divisor ?c_common_divisor ?k_common_divisor ?a_bezout ?l_bezout ?c_bezout ?k_bezout ?a_whole_root ?l_whole_root ?c_whole_root ?k_whole_root ?a_is_discriminant ?l_is_discriminant ?c_is_discriminant ?k_is_discriminant ?a_discriminant_at ?l_discriminant_at ?c_discriminant_at ?k_discriminant_at ?a_is_form ?l_is_form ?c_is_form ?k_is_form ?a_is_reduced ?l_is_reduced ?c_is_reduced ?k_is_reduced ?a_lead ?l_lead ?c_lead ?k_lead ?a_matrix_times ?l_matrix_times ?c_matrix_times ?k_matrix_times ?a_reduction ?l_reduction ?c_reduction ?k_reduction ?a_ways_to ?l_ways_to ?c_ways_to ?k_ways_to ?a_first_class ?l_first_class ?c_first_class ?k_first_class ?a_classes ?l_classes ?c_classes ?k_classes ?a_class_number ?l_class_number ?c_class_number ?k_class_number ?a_compose ?l_compose ?c_compose ?k_compose ?a_turned_about ?l_turned_about ?c_turned_about ?k_turned_about ?a_power_of ?l_power_of ?c_power_of ?k_power_of ?a_composed ?l_composed ?c_composed ?k_composed ?a_inverse_class ?l_inverse_class ?c_inverse_class ?k_inverse_class ?a_power ?l_power ?c_power ?k_power ?a_order_of_class ?l_order_of_class ?c_order_of_class ?k_order_of_class ?a__law_deck ?l__law_deck ?c__law_deck ?k__law_deck ?a__law_draw ?l__law_draw ?c__law_draw ?k__law_draw ?a__law_pick ?l__law_pick ?c__law_pick ?k__law_pick ?a__law_gcd ?l__law_gcd ?c__law_gcd ?k__law_gcd ?a__law_discriminant ?l__law_discriminant ?c__law_discriminant ?k__law_discriminant ?a__law_classes ?l__law_classes ?c__law_classes ?k__law_classes ?a__law_led ?l__law_led ?c__law_led ?k__law_led ?a__law_times ?l__law_times ?c__law_times ?k__law_times ?a__law_matrix ?l__law_matrix ?c__law_matrix ?k__law_matrix ?a__law_reduced ?l__law_reduced ?c__law_reduced ?k__law_reduced ?a__law_mates ?l__law_mates ?c__law_mates ?k__law_mates ?a__law_coprime_pair ?l__law_coprime_pair ?c__law_coprime_pair ?k__law_coprime_pair ?a__law_composed ?l__law_composed ?c__law_composed ?k__law_composed ?a__law_first ?l__law_first ?c__law_first ?k__law_first ?a__law_order ?l__law_order ?c__law_order ?k__law_order ?a__law_power ?l__law_power ?c__law_power ?k__law_power ?a__law_value ?l__law_value ?c__law_value ?k__law_value ?a__law_is_product_right ?l__law_is_product_right ?c__law_is_product_right ?k__law_is_product_right ?a__law_are_powers_right ?l__law_are_powers_right ?c__law_are_powers_right ?k__law_are_powers_right ?a_law ?l_law ?c_law ?k_law ?e_LEAST ?y_abs ?y_all ?y_bool ?y_int ?y_isinstance ?y_len ?y_max ?y_range ?y_repr ?y_sorted ?y_tuple
    (case a_is_integer => k_is)
    (case l_is_integer => k_is)
    (case c_is_integer => k_is)
    (case k_is_integer => k_is)
    (case a_are_integers => k_is)
    (case l_are_integers => k_is)
    (case c_are_integers => k_is)
    (case k_are_integers => k_is)
    (case a_common_divisor => k_is)
    (case l_common_divisor => k_is)
    (case c_common_divisor => k_is)
    (case k_common_divisor => k_is)
    (case a_bezout => k_is)
    (case l_bezout => k_is)
    (case c_bezout => k_is)
    (case k_bezout => k_is)
    (case a_whole_root => k_is)
    (case l_whole_root => k_is)
    (case c_whole_root => k_is)
    (case k_whole_root => k_is)
    (case a_is_discriminant => k_is)
    (case l_is_discriminant => k_is)
    (case c_is_discriminant => k_is)
    (case k_is_discriminant => k_is)
    (case a_discriminant_at => k_is)
    (case l_discriminant_at => k_is)
    (case c_discriminant_at => k_is)
    (case k_discriminant_at => k_is)
    (case a_is_form => k_is)
    (case l_is_form => k_is)
    (case c_is_form => k_is)
    (case k_is_form => k_is)
    (case a_is_reduced => k_is)
    (case l_is_reduced => k_is)
    (case c_is_reduced => k_is)
    (case k_is_reduced => k_is)
    (case a_lead => k_is)
    (case l_lead => k_is)
    (case c_lead => k_is)
    (case k_lead => k_is)
    (case a_matrix_times => k_is)
    (case l_matrix_times => k_is)
    (case c_matrix_times => k_is)
    (case k_matrix_times => k_is)
    (case a_reduction => k_is)
    (case l_reduction => k_is)
    (case c_reduction => k_is)
    (case k_reduction => k_is)
    (case a_ways_to => k_is)
    (case l_ways_to => k_is)
    (case c_ways_to => k_is)
    (case k_ways_to => k_is)
    (case a_first_class => k_is)
    (case l_first_class => k_is)
    (case c_first_class => k_is)
    (case k_first_class => k_is)
    (case a_classes => k_is)
    (case l_classes => k_is)
    (case c_classes => k_is)
    (case k_classes => k_is)
    (case a_class_number => k_is)
    (case l_class_number => k_is)
    (case c_class_number => k_is)
    (case k_class_number => k_is)
    (case a_compose => k_is)
    (case l_compose => k_is)
    (case c_compose => k_is)
    (case k_compose => k_is)
    (case a_turned_about => k_is)
    (case l_turned_about => k_is)
    (case c_turned_about => k_is)
    (case k_turned_about => k_is)
    (case a_power_of => k_is)
    (case l_power_of => k_is)
    (case c_power_of => k_is)
    (case k_power_of => k_is)
    (case a_composed => k_is)
    (case l_composed => k_is)
    (case c_composed => k_is)
    (case k_composed => k_is)
    (case a_inverse_class => k_is)
    (case l_inverse_class => k_is)
    (case c_inverse_class => k_is)
    (case k_inverse_class => k_is)
    (case a_power => k_is)
    (case l_power => k_is)
    (case c_power => k_is)
    (case k_power => k_is)
    (case a_order_of_class => k_is)
    (case l_order_of_class => k_is)
    (case c_order_of_class => k_is)
    (case k_order_of_class => k_is)
    (case a__law_deck => k_is)
    (case l__law_deck => k_is)
    (case c__law_deck => k_is)
    (case k__law_deck => k_is)
    (case a__law_draw => k_is)
    (case l__law_draw => k_is)
    (case c__law_draw => k_is)
    (case k__law_draw => k_is)
    (case a__law_pick => k_is)
    (case l__law_pick => k_is)
    (case c__law_pick => k_is)
    (case k__law_pick => k_is)
    (case a__law_gcd => k_is)
    (case l__law_gcd => k_is)
    (case c__law_gcd => k_is)
    (case k__law_gcd => k_is)
    (case a__law_discriminant => k_is)
    (case l__law_discriminant => k_is)
    (case c__law_discriminant => k_is)
    (case k__law_discriminant => k_is)
    (case a__law_classes => k_is)
    (case l__law_classes => k_is)
    (case c__law_classes => k_is)
    (case k__law_classes => k_is)
    (case a__law_led => k_is)
    (case l__law_led => k_is)
    (case c__law_led => k_is)
    (case k__law_led => k_is)
    (case a__law_times => k_is)
    (case l__law_times => k_is)
    (case c__law_times => k_is)
    (case k__law_times => k_is)
    (case a__law_matrix => k_is)
    (case l__law_matrix => k_is)
    (case c__law_matrix => k_is)
    (case k__law_matrix => k_is)
    (case a__law_reduced => k_is)
    (case l__law_reduced => k_is)
    (case c__law_reduced => k_is)
    (case k__law_reduced => k_is)
    (case a__law_mates => k_is)
    (case l__law_mates => k_is)
    (case c__law_mates => k_is)
    (case k__law_mates => k_is)
    (case a__law_coprime_pair => k_is)
    (case l__law_coprime_pair => k_is)
    (case c__law_coprime_pair => k_is)
    (case k__law_coprime_pair => k_is)
    (case a__law_composed => k_is)
    (case l__law_composed => k_is)
    (case c__law_composed => k_is)
    (case k__law_composed => k_is)
    (case a__law_first => k_is)
    (case l__law_first => k_is)
    (case c__law_first => k_is)
    (case k__law_first => k_is)
    (case a__law_order => k_is)
    (case l__law_order => k_is)
    (case c__law_order => k_is)
    (case k__law_order => k_is)
    (case a__law_power => k_is)
    (case l__law_power => k_is)
    (case c__law_power => k_is)
    (case k__law_power => k_is)
    (case a__law_value => k_is)
    (case l__law_value => k_is)
    (case c__law_value => k_is)
    (case k__law_value => k_is)
    (case a__law_is_product_right => k_is)
    (case l__law_is_product_right => k_is)
    (case c__law_is_product_right => k_is)
    (case k__law_is_product_right => k_is)
    (case a__law_are_powers_right => k_is)
    (case l__law_are_powers_right => k_is)
    (case c__law_are_powers_right => k_is)
    (case k__law_are_powers_right => k_is)
    (case a_law => k_is)
    (case l_law => k_is)
    (case c_law => k_is)
    (case k_law => k_is)
    (case e_LEAST => k_is)
    (case y_abs => k_is)
    (case y_all => k_is)
    (case y_bool => k_is)
    (case y_int => k_is)
    (case y_isinstance => k_is)
    (case y_len => k_is)
    (case y_max => k_is)
    (case y_range => k_is)
    (case y_repr => k_is)
    (case y_sorted => k_is)
    (case y_tuple => k_is)
end
