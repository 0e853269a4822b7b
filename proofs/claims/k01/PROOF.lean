import PyProof.Rows.All
import Wide.All
import OpenK.AllK
import Wide.FinOn
import HandS.ForMost
import HandS.Deep
import HandS.IsInst
import HandS.Wide
import HandS.SortInts
import HandS.SetKeys
import HandS.TupAny
import HandS.TupLe
import HandS.Style
import HandS.Conv
import PySem.Challenge.RW_craterhouse_k01_primes_and_numbers
set_option Elab.async false
set_option linter.all false
set_option maxRecDepth 100000
section
/-! PvA: a small language of values (no heap): its terms, its reckoning. -/
set_option autoImplicit false
namespace Pv
open PySem

abbrev D := PyData
/-- what a deck of draws holds -/
structure Dk where
  cells : List Int
  mixed : Int
  turn : Int
abbrev G := Option Dk
abbrev Sl := List (Option D)

inductive Res (α : Type) where
  | ok (a : α) (g : G)
  | exc (c : Nat) (vs : List D) (g : G)
  | no
def Res.bind {α β : Type} : Res α → (α → G → Res β) → Res β
  | .ok a g, f => f a g
  | .exc c vs g, _ => .exc c vs g
  | .no, _ => .no
def lift {α : Type} : Option α → G → Res α
  | some a, g => .ok a g
  | none, _ => .no
@[simp] theorem bind_ok {α β : Type} (a : α) (g : G) (f : α → G → Res β) : (Res.ok a g).bind f = f a g := rfl
@[simp] theorem bind_no {α β : Type} (f : α → G → Res β) : (Res.no : Res α).bind f = .no := rfl
@[simp] theorem bind_exc {α β : Type} (c : Nat) (vs : List D) (g : G) (f : α → G → Res β) : (Res.exc c vs g : Res α).bind f = .exc c vs g := rfl
@[simp] theorem lift_some {α : Type} (a : α) (g : G) : lift (some a) g = .ok a g := rfl
@[simp] theorem lift_none {α : Type} (g : G) : lift (none : Option α) g = .no := rfl
theorem bind_eq_ok {α β : Type} {r : Res α} {f : α → G → Res β} {b : β} {g : G} (h : r.bind f = .ok b g) : ∃ a g1, r = .ok a g1 ∧ f a g1 = .ok b g := by
  cases r with
  | ok a g1 => exact ⟨a, g1, rfl, h⟩
  | exc c vs g1 => cases h
  | no => cases h
theorem lift_eq_ok {α : Type} {o : Option α} {g g' : G} {a : α} (h : lift o g = .ok a g') : o = some a ∧ g' = g := by
  cases o with
  | none => cases h
  | some b => cases h; exact ⟨rfl, rfl⟩

/-- marks that stand for things outside as values: 0 the deck, 1 the script -/
def tokD (n : Int) : D := .dict [(.list [], .int n)]
def isDeck : List (D × D) → Bool
  | (.list _, _) :: _ => true
  | _ => false

/-! ### operators -/
inductive Bop where | add | sub | mul | fdiv | mod | pow | shl | shr | band | bor | bxor | lcat | lrep
inductive Cop where | eq | ne | lt | le | gt | ge | isin | notin | isN | notN
def mulOk (i j : Int) : Bool := decide (i.natAbs < 18446744073709551616) || decide (j.natAbs < 18446744073709551616) || decide (i.natAbs.log2 + j.natAbs.log2 < 1000000)
def powOk (i j : Int) : Bool := decide (0 ≤ j) && decide (j ≤ 1000000) && decide (i.natAbs < 18446744073709551616)
def lineN : Nat := 16777216
def binV : Bop → D → D → Option D
  | .add, .int i, .int j => some (.int (i + j))
  | .sub, .int i, .int j => some (.int (i - j))
  | .mul, .int i, .int j => if mulOk i j then some (.int (i * j)) else none
  | .fdiv, .int i, .int j => if decide (0 < j) && decide (j.natAbs.log2 < 9000) then some (.int (i / j)) else none
  | .mod, .int i, .int j => if decide (0 < j) then some (.int (i % j)) else none
  | .pow, .int i, .int j => if powOk i j then some (.int (i ^ j.toNat)) else none
  | .shl, .int i, .int j => if powOk i j then some (.int (i * 2 ^ j.toNat)) else none
  | .shr, .int i, .int j => if decide (0 ≤ j) then some (.int (i / 2 ^ j.toNat)) else none
  | .band, .int i, .int j => some (.int (Builtin.bitAnd i j))
  | .bor, .int i, .int j => some (.int (Builtin.bitOr i j))
  | .bxor, .int i, .int j => some (.int (Builtin.bitXor i j))
  | .add, .str x, .str y => if decide (x.length + y.length ≤ lineN) then some (.str (x ++ y)) else none
  | .add, .list xs, .list ys => if decide (xs.length + ys.length ≤ lineN) then some (.list (xs ++ ys)) else none
  | .add, .tuple xs, .tuple ys => if decide (xs.length + ys.length ≤ lineN) then some (.tuple (xs ++ ys)) else none
  | .mul, .list xs, .int k => if decide (-9223372036854775808 ≤ k) && decide (k < 16777217) && decide (xs.length * k.toNat ≤ lineN) then some (.list (List.replicate k.toNat xs).flatten) else none
  | .lcat, .list xs, .list ys => if decide (xs.length + ys.length ≤ lineN) then some (.list (xs ++ ys)) else none
  | .lrep, .list xs, .int k => if decide (-9223372036854775808 ≤ k) && decide (k < 16777217) && decide (xs.length * k.toNat ≤ lineN) then some (.list (List.replicate k.toNat xs).flatten) else none
  | _, _, _ => none
def isInt : D → Bool
  | .int _ => true
  | _ => false
def shp (d : D) : Bool := SeqAt.shaped d
def eqD : D → D → Option Bool
  | .int i, .int j => some (decide (i = j))
  | .bool i, .bool j => some (i == j)
  | .str x, .str y => some (decide (x = y))
  | .none, .none => some true
  | x, y => if shp x && shp y then some (PyData.eqv x y) else none
def intsOf : List D → Option (List Int)
  | [] => some []
  | .int i :: r => (intsOf r).map (i :: ·)
  | _ :: _ => none
def ltT : D → D → Option Bool
  | .int i, .int j => some (decide (i < j))
  | .tuple xs, .tuple ys => match intsOf xs, intsOf ys with
    | some ns, some ms => some (HT.lexLt ns ms)
    | _, _ => none
  | _, _ => none
def inD (x : D) : D → Option Bool
  | .list ds => if shp x && shp (.list ds) then some (ds.any fun z => PyData.eqv z x) else none
  | _ => none
def keyD : D → Option L2.Key
  | .int i => some (.inl i)
  | .str x => some (.inr x)
  | _ => none
def cmpV : Cop → D → D → Option Bool
  | .eq, x, y => eqD x y
  | .ne, x, y => (eqD x y).map (!·)
  | .lt, x, y => ltT x y
  | .gt, .int i, .int j => some (decide (j < i))
  | .le, .int i, .int j => some (decide (i ≤ j))
  | .ge, .int i, .int j => some (decide (j ≤ i))
  | .isN, x, .none => some (match x with | .none => true | _ => false)
  | .notN, x, .none => some (match x with | .none => false | _ => true)
  | .isin, x, y => inD x y
  | .notin, x, y => (inD x y).map (!·)
  | _, _, _ => none
def truV : D → Option Bool
  | .none => some false
  | .bool b => some b
  | .int i => some (i != 0)
  | .str x => if decide (x.length ≤ lineN) then some (decide (x.length ≠ 0)) else none
  | .list xs => some (!xs.isEmpty)
  | .tuple xs => some (!xs.isEmpty)
  | .dict _ => none

/-! ### subscripts -/
def ixD (xs : List D) (i : Int) : Option D := L2.atI xs i
def idxV : D → D → Option D
  | .list xs, .int i => ixD xs i
  | .tuple xs, .int i => ixD xs i
  | _, _ => none
def optI : D → Option (Option Int)
  | .none => some none
  | .int i => some (some i)
  | _ => none
def cutD (xs : List D) (lo hi : Option Int) : List D := (xs.drop (HT.sIx xs.length 0 lo)).take (HT.sIx xs.length xs.length hi - HT.sIx xs.length 0 lo)
def slcV : D → D → D → Option D
  | .list xs, l, h => match optI l, optI h with
    | some lo, some hi => some (.list (cutD xs lo hi))
    | _, _ => none
  | .tuple xs, l, h => match optI l, optI h with
    | some lo, some hi => some (.tuple (cutD xs lo hi))
    | _, _ => none
  | _, _, _ => none
def revV : D → Option D
  | .list xs => some (.list xs.reverse)
  | .tuple xs => some (.tuple xs.reverse)
  | _ => none

/-! ### built-in functions, by values -/
inductive Bi where | len | abs | min2 | max2 | sum | toInt | toStr | toList | toTuple | isInt | isBool | isStr | isTuple | isList | repr | sorted | listRange1 | listRange2
def lenV : D → Option D
  | .list xs => some (.int xs.length)
  | .tuple xs => some (.int xs.length)
  | .str x => if decide (x.length ≤ lineN) then some (.int x.length) else none
  | _ => none
def isDk : D → Bool
  | .dict kvs => isDeck kvs
  | _ => false
def rangeD (a : Int) (n : Nat) : List D := (List.range n).map fun (k : Nat) => .int (a + k)
def scalD : D → Bool
  | .none | .bool _ | .int _ | .str _ => true
  | _ => false
def flatD : D → Bool
  | .dict kvs => !isDeck kvs && kvs.all fun p => (keyD p.1).isSome && scalD p.2
  | _ => false
def showOk (d : D) : Bool := (shp d || (flatD d && decide (d.depth ≤ 64))) && d.showable && decide (d.shown.length ≤ lineN)
def insI (x : Int) : List Int → List Int
  | [] => [x]
  | y :: r => if x ≤ y then x :: y :: r else y :: insI x r
def sortI (xs : List Int) : List Int := xs.foldr insI []
def biV : Bi → List D → Option D
  | .len, [x] => lenV x
  | .abs, [.int i] => some (.int (if i < 0 then -i else i))
  | .min2, [.int i, .int j] => some (.int (if j < i then j else i))
  | .max2, [.int i, .int j] => some (.int (if j > i then j else i))
  | .sum, [.list xs] => (intsOf xs).map fun ns => .int ns.sum
  | .toInt, [.int i] => some (.int i)
  | .toInt, [.bool b] => some (.int (if b then 1 else 0))
  | .toStr, [.int i] => if decide (i.natAbs.log2 < 1920) then some (.str (toString i)) else none
  | .toList, [.list xs] => some (.list xs)
  | .toList, [.tuple xs] => some (.list xs)
  | .toTuple, [.list xs] => some (.tuple xs)
  | .toTuple, [.tuple xs] => some (.tuple xs)
  | .isInt, [x] => if isDk x then none else some (.bool (match x with | .int _ => true | .bool _ => true | _ => false))
  | .isBool, [x] => if isDk x then none else some (.bool (match x with | .bool _ => true | _ => false))
  | .isStr, [x] => if isDk x then none else some (.bool (match x with | .str _ => true | _ => false))
  | .isTuple, [x] => if isDk x then none else some (.bool (match x with | .tuple _ => true | _ => false))
  | .isList, [x] => if isDk x then none else some (.bool (match x with | .list _ => true | _ => false))
  | .repr, [x] => if showOk x then some (.str x.shown) else none
  | .sorted, [.list xs] => (intsOf xs).map fun ns => .list ((sortI ns).map .int)
  | .listRange1, [.int j] => if decide (-4611686018427387904 ≤ j) && decide (j ≤ 16777216) then some (.list (rangeD 0 j.toNat)) else none
  | .listRange2, [.int i, .int j] => if decide (-4611686018427387904 ≤ i) && decide (i < 4611686018427387904) && decide (-4611686018427387904 ≤ j) && decide (j < 4611686018427387904) && decide ((j - i).toNat ≤ lineN) then some (.list (rangeD i (j - i).toNat)) else none
  | _, _ => none

/-! ### what a loop walks -/
inductive Ik where | seq | rng1 | rng2 | enum | zip
def itV : Ik → List D → Option (List D)
  | .seq, [.list xs] => some xs
  | .seq, [.tuple xs] => some xs
  | .rng1, [.int j] => if decide (j < 4611686018427387904) && decide (-4611686018427387904 ≤ j) then some (rangeD 0 j.toNat) else none
  | .rng2, [.int i, .int j] => if decide (-4611686018427387904 ≤ i) && decide (i < 4611686018427387904) && decide (-4611686018427387904 ≤ j) && decide (j < 4611686018427387904) then some (rangeD i (j - i).toNat) else none
  | .enum, [.list xs] => some (xs.zipIdx.map fun p => .tuple [.int p.2, p.1])
  | .zip, [.list xs, .list ys] => if decide (xs.length ≤ lineN) then some ((xs.zip ys).map fun p => .tuple [p.1, p.2]) else none
  | _, _ => none

/-! ### the terms -/
mutual
inductive Ex where
  | c (v : D)
  | var (i : Nat)
  | bin (op : Bop) (a b : Ex)
  | neg (a : Ex)
  | cmp (op : Cop) (a b : Ex)
  | chain (o1 o2 : Cop) (a b c : Ex)
  | and (a b : Ex)
  | or (a b : Ex)
  | not (a : Ex)
  | truth (a : Ex)
  | ite (t a b : Ex)
  | idx (a i : Ex)
  | slc (a lo hi : Ex)
  | rev (a : Ex)
  | tup (as : Exs)
  | lst (as : Exs)
  | bi (f : Bi) (as : Exs)
  | call (f : Nat) (as : Exs)
  | callK (f : Nat) (as : Exs) (perm : List Nat)
  | comp (t : List Nat) (k : Ik) (as : Exs) (cond elt : Ex)
  | dnew
  | dget (d k x : Ex)
  | dhas (k d : Ex) (neg : Bool)
  | ddisp (kvs : Exs)
  | lrev (a : Ex)
  | scr (a : Ex) (ns : List Int) (n : Nat)
  | dkGet (turn : Bool) (a : Ex)
  | dkHas (a : Ex)
  | dkPop (a : Ex)
  | dkPush (a e : Ex)
  | dkNew (a b c : Ex)
  | dkNew2 (a b : Ex)
  | asI (a : Ex)
inductive Exs where
  | nil
  | cons (a : Ex) (as : Exs)
end
/-- a target: one name, or the names of a tuple -/
def setMany : List Nat → List D → Sl → Option Sl
  | [], [], σ => some σ
  | i :: is, v :: vs, σ => setMany is vs (σ.set i (some v))
  | _, _, _ => none
def setT : List Nat → D → Sl → Option Sl
  | [i], v, σ => some (σ.set i (some v))
  | is, .tuple vs, σ => setMany is vs σ
  | _, _, _ => none
def compL (f : D → G → Res (Option D)) : List D → List D → G → Res (List D)
  | [], acc, g => .ok acc.reverse g
  | x :: r, acc, g => (f x g).bind fun o g => match o with
    | some y => compL f r (y :: acc) g
    | none => compL f r acc g
/-- the slots forgotten -/
def wipeS (σ : Sl) : List Nat → Sl
  | [] => σ
  | v :: vs => (wipeS σ vs).set v none
/-- dicts as pairs of values -/
def keq (a b : D) : Bool := match keyD a, keyD b with
  | some x, some y => decide (x = y)
  | _, _ => false
def dLook (k : D) (kvs : List (D × D)) : Option D := (kvs.find? fun p => keq p.1 k).map (·.2)
def dPut (k v : D) (kvs : List (D × D)) : List (D × D) := if (kvs.any fun p => keq p.1 k) then kvs.map (fun p => if keq p.1 k then (p.1, v) else p) else kvs ++ [(k, v)]
def dgetV : D → D → D → Option D
  | .dict kvs, k, x => if isDeck kvs || (keyD k).isNone then none else some ((dLook k kvs).getD x)
  | _, _, _ => none
def dhasV : D → D → Option Bool
  | k, .dict kvs => if isDeck kvs || (keyD k).isNone then none else some (dLook k kvs).isSome
  | _, _ => none
def dispV : List D → List (D × D) → Option (List (D × D))
  | [], acc => some acc
  | k :: v :: r, acc => if (keyD k).isNone then none else dispV r (dPut k v acc)
  | _, _ => none
/-! ### decks -/
def isTok (n : Int) : D → Bool
  | .dict [(.list [], .int k)] => decide (k = n)
  | _ => false
theorem of_isTok {n : Int} {d : D} (h : isTok n d = true) : d = tokD n := by
  unfold isTok at h
  split at h
  · rw [of_decide_eq_true h]; rfl
  · cases h
@[simp] theorem isTok_tok (n : Int) : isTok n (tokD n) = true := by simp [isTok, tokD]
def dkGetV (t : Bool) (d : D) : G → Option D
  | some st => if isTok 0 d then some (.int (if t then st.turn else st.mixed)) else none
  | none => none
def dkHasV (d : D) : G → Option D
  | some st => if isTok 0 d then some (.bool (!st.cells.isEmpty)) else none
  | none => none
def dkPopV (d : D) : G → Res D
  | some st => if isTok 0 d then match st.cells.getLast? with
      | some c => .ok (.int c) (some { st with cells := st.cells.dropLast })
      | none => .no
    else .no
  | none => .no
def dkPushV (d v : D) : G → Res D
  | some st => if isTok 0 d && decide (st.cells.length < lineN) then match v with
      | .int c => .ok .none (some { st with cells := st.cells ++ [c] })
      | _ => .no
    else .no
  | none => .no
def dkSetV (t : Bool) (d v : D) : G → Option G
  | some st => if isTok 0 d then match v with
      | .int c => some (some (if t then { st with turn := c } else { st with mixed := c }))
      | _ => none
    else none
  | none => none
def dkNewV (l m t : D) : G → Res D
  | none => match l, m, t with
    | .list xs, .int m, .int t => match intsOf xs with
      | some ns => .ok (tokD 0) (some ⟨ns, m, t⟩)
      | none => .no
    | _, _, _ => .no
  | some _ => .no
/-- items by their places -/
def pm {α : Type} (perm : List Nat) (xs : List α) : List α := perm.filterMap fun j => xs[j]?
abbrev Fns := Nat → List D → G → Res D
mutual
def ev (Φ : Fns) : Ex → Sl → G → Res D
  | .c v, _, g => .ok v g
  | .var i, σ, g => match σ[i]? with
    | some (some v) => .ok v g
    | _ => .no
  | .bin op a b, σ, g => (ev Φ a σ g).bind fun x g => (ev Φ b σ g).bind fun y g => lift (binV op x y) g
  | .neg a, σ, g => (ev Φ a σ g).bind fun x g => match x with
    | .int i => .ok (.int (-i)) g
    | _ => .no
  | .cmp op a b, σ, g => (ev Φ a σ g).bind fun x g => (ev Φ b σ g).bind fun y g => lift ((cmpV op x y).map .bool) g
  | .chain o1 o2 a b c, σ, g => (ev Φ a σ g).bind fun x g => (ev Φ b σ g).bind fun y g => (lift (cmpV o1 x y) g).bind fun k g =>
      if k then (ev Φ c σ g).bind fun z g => lift ((cmpV o2 y z).map .bool) g else .ok (.bool false) g
  | .and a b, σ, g => (ev Φ a σ g).bind fun x g => match x with
    | .bool true => ev Φ b σ g
    | .bool false => .ok (.bool false) g
    | _ => .no
  | .or a b, σ, g => (ev Φ a σ g).bind fun x g => match x with
    | .bool true => .ok (.bool true) g
    | .bool false => ev Φ b σ g
    | _ => .no
  | .not a, σ, g => (ev Φ a σ g).bind fun x g => match x with
    | .bool k => .ok (.bool (!k)) g
    | _ => .no
  | .truth a, σ, g => (ev Φ a σ g).bind fun x g => lift ((truV x).map .bool) g
  | .ite t a b, σ, g => (ev Φ t σ g).bind fun x g => match x with
    | .bool true => ev Φ a σ g
    | .bool false => ev Φ b σ g
    | _ => .no
  | .idx a i, σ, g => (ev Φ a σ g).bind fun x g => (ev Φ i σ g).bind fun y g => lift (idxV x y) g
  | .slc a lo hi, σ, g => (ev Φ a σ g).bind fun x g => (ev Φ lo σ g).bind fun l g => (ev Φ hi σ g).bind fun h g => lift (slcV x l h) g
  | .rev a, σ, g => (ev Φ a σ g).bind fun x g => lift (revV x) g
  | .tup as, σ, g => (evs Φ as σ g).bind fun xs g => .ok (.tuple xs) g
  | .lst as, σ, g => (evs Φ as σ g).bind fun xs g => .ok (.list xs) g
  | .bi f as, σ, g => (evs Φ as σ g).bind fun xs g => lift (biV f xs) g
  | .call f as, σ, g => (evs Φ as σ g).bind fun xs g => Φ f xs g
  | .callK f as perm, σ, g => (evs Φ as σ g).bind fun xs g => Φ f (pm perm xs) g
  | .comp t k as cond elt, σ, g => (evs Φ as σ g).bind fun vs g => (lift (itV k vs) g).bind fun xs g =>
      if decide (xs.length ≤ lineN) then (compL (fun x g => (lift (setT t x (wipeS σ t)) g).bind fun σ' g => (ev Φ cond σ' g).bind fun b g => match b with
        | .bool true => (ev Φ elt σ' g).bind fun v g => .ok (some v) g
        | .bool false => .ok none g
        | _ => .no) xs [] g).bind fun ys g => .ok (.list ys) g else .no
  | .dnew, _, g => .ok (.dict []) g
  | .dget d k x, σ, g => (ev Φ d σ g).bind fun dv g => (ev Φ k σ g).bind fun kv g => (ev Φ x σ g).bind fun xv g => lift (dgetV dv kv xv) g
  | .dhas k d n, σ, g => (ev Φ k σ g).bind fun kv g => (ev Φ d σ g).bind fun dv g => lift ((dhasV kv dv).map fun b => .bool (b != n)) g
  | .ddisp kvs, σ, g => (evs Φ kvs σ g).bind fun xs g => lift ((dispV xs []).map .dict) g
  | .lrev a, σ, g => (ev Φ a σ g).bind fun x g => match x with
    | .list xs => .ok (.list xs.reverse) g
    | _ => .no
  | .scr a ns n, σ, g => (ev Φ a σ g).bind fun x g => if isTok 1 x then .ok (.list ((ns.take n).map .int)) g else .no
  | .dkGet t a, σ, g => (ev Φ a σ g).bind fun x g => lift (dkGetV t x g) g
  | .dkHas a, σ, g => (ev Φ a σ g).bind fun x g => lift (dkHasV x g) g
  | .dkPop a, σ, g => (ev Φ a σ g).bind fun x g => dkPopV x g
  | .dkPush a e, σ, g => (ev Φ a σ g).bind fun x g => match g with
    | none => .no
    | some _ => (ev Φ e σ g).bind fun v g => dkPushV x v g
  | .dkNew a b c, σ, g => (ev Φ a σ g).bind fun x g => (ev Φ b σ g).bind fun y g => (ev Φ c σ g).bind fun z g => dkNewV x y z g
  | .asI a, σ, g => (ev Φ a σ g).bind fun x g => match x with
    | .int i => .ok (.int i) g
    | _ => .no
  | .dkNew2 a b, σ, g => (ev Φ a σ g).bind fun x g => (ev Φ b σ g).bind fun y g => dkNewV x y (.int 0) g
def evs (Φ : Fns) : Exs → Sl → G → Res (List D)
  | .nil, _, g => .ok [] g
  | .cons a as, σ, g => (ev Φ a σ g).bind fun x g => (evs Φ as σ g).bind fun xs g => .ok (x :: xs) g
end

def Exs.len : Exs → Nat
  | .nil => 0
  | .cons _ as => as.len + 1
theorem evs_len (Φ : Fns) : ∀ (as : Exs) (σ : Sl) (g g' : G) (vs : List D), evs Φ as σ g = .ok vs g' → vs.length = as.len
  | .nil, σ, g, g', vs, h => by unfold evs at h; cases h; rfl
  | .cons a as, σ, g, g', vs, h => by
    unfold evs at h
    obtain ⟨x, g1, _, h⟩ := bind_eq_ok h
    obtain ⟨xs, g2, h2, h⟩ := bind_eq_ok h
    cases h
    rw [List.length_cons, evs_len Φ as _ _ _ _ h2]; rfl
/-! ### statements -/
inductive Sm where
  | skip
  | seq (a b : Sm)
  | set (t : List Nat) (e : Ex)
  | par (i j : Nat) (a b : Ex)
  | aug (i : Nat) (op : Bop) (e : Ex)
  | setIx (i : Nat) (k e : Ex)
  | setKey (i : Nat) (k e : Ex)
  | app (i : Nat) (e : Ex)
  | ext (i : Nat) (e : Ex)
  | setd (i : Nat) (k e : Ex)
  | ite (t : Ex) (a b : Sm)
  | forr (t : List Nat) (k : Ik) (as : Exs) (b : Sm)
  | whil (t : Ex) (b : Sm)
  | ret (e : Ex)
  | brk
  | cnt
  | ex (e : Ex)
  | dkSet (turn : Bool) (a e : Ex)
  | bad
inductive Fl where
  | nx (σ : Sl)
  | rt (v : D)
  | bk (σ : Sl)
  | ct (σ : Sl)
def forL (f : D → Sl → G → Res Fl) : List D → Sl → G → Res Fl
  | [], σ, g => .ok (.nx σ) g
  | x :: r, σ, g => (f x σ g).bind fun fl g => match fl with
    | .nx σ => forL f r σ g
    | .ct σ => forL f r σ g
    | .bk σ => .ok (.nx σ) g
    | .rt v => .ok (.rt v) g
def whileL (c : Sl → G → Res D) (b : Sl → G → Res Fl) : Nat → Sl → G → Res Fl
  | 0, _, _ => .no
  | n + 1, σ, g => (c σ g).bind fun v g => match v with
    | .bool true => (b σ g).bind fun fl g => match fl with
      | .nx σ => whileL c b n σ g
      | .ct σ => whileL c b n σ g
      | .bk σ => .ok (.nx σ) g
      | .rt v => .ok (.rt v) g
    | .bool false => .ok (.nx σ) g
    | _ => .no
def setIxV : D → D → D → Option D
  | .list xs, .int i, v => (L2.ixN xs.length i).map fun j => .list (xs.set j v)
  | _, _, _ => none
def augV : Bop → D → D → Option D
  | .add, .int i, .int j => some (.int (i + j))
  | .sub, .int i, .int j => some (.int (i - j))
  | .mul, .int i, .int j => if decide (i.natAbs < 18446744073709551616) || decide (j.natAbs < 18446744073709551616) then some (.int (i * j)) else none
  | .fdiv, .int i, .int j => if decide (0 < j) && decide (j < 1073741824) then some (.int (i / j)) else none
  | .add, .str x, .str y => if decide (x.length + y.length ≤ lineN) then some (.str (x ++ y)) else none
  | _, _, _ => none
def setKeyV : D → D → D → Option D
  | .dict kvs, k, v => if isDeck kvs || (keyD k).isNone || !decide (kvs.length < lineN) then none else some (.dict (dPut k v kvs))
  | _, _, _ => none
def appV : D → D → Option D
  | .list xs, v => if decide (xs.length < lineN) then some (.list (xs ++ [v])) else none
  | _, _ => none
def extV : D → D → Option D
  | .list xs, .list ys => if decide (xs.length + ys.length ≤ lineN) then some (.list (xs ++ ys)) else none
  | _, _ => none
def setdV : D → D → D → Option D
  | .dict kvs, k, v => if isDeck kvs || (keyD k).isNone || !decide (kvs.length < lineN) then none else match dLook k kvs with
    | some _ => some (.dict kvs)
    | none => some (.dict (dPut k v kvs))
  | _, _, _ => none
def slot (σ : Sl) (i : Nat) (g : G) : Res D := match σ[i]? with
  | some (some v) => .ok v g
  | _ => .no
def run (Φ : Fns) (fu : Nat) : Sm → Sl → G → Res Fl
  | .skip, σ, g => .ok (.nx σ) g
  | .seq a b, σ, g => (run Φ fu a σ g).bind fun fl g => match fl with
    | .nx σ => run Φ fu b σ g
    | fl => .ok fl g
  | .set t e, σ, g => (ev Φ e σ g).bind fun v g => (lift (setT t v σ) g).bind fun σ g => .ok (.nx σ) g
  | .par i j a b, σ, g => (ev Φ a σ g).bind fun v g => (ev Φ b σ g).bind fun w g => .ok (.nx ((σ.set i (some v)).set j (some w))) g
  | .aug i op e, σ, g => (slot σ i g).bind fun x g => (ev Φ e σ g).bind fun y g => (lift (augV op x y) g).bind fun z g => .ok (.nx (σ.set i (some z))) g
  | .setIx i k e, σ, g => (ev Φ e σ g).bind fun v g => (slot σ i g).bind fun d g => (ev Φ k σ g).bind fun kv g => (lift (setIxV d kv v) g).bind fun d' g => .ok (.nx (σ.set i (some d'))) g
  | .setKey i k e, σ, g => (ev Φ e σ g).bind fun v g => (slot σ i g).bind fun d g => (ev Φ k σ g).bind fun kv g => (lift (setKeyV d kv v) g).bind fun d' g => .ok (.nx (σ.set i (some d'))) g
  | .app i e, σ, g => (slot σ i g).bind fun _ g => (ev Φ e σ g).bind fun v g => (slot σ i g).bind fun d g => (lift (appV d v) g).bind fun d' g => .ok (.nx (σ.set i (some d'))) g
  | .ext i e, σ, g => (slot σ i g).bind fun _ g => (ev Φ e σ g).bind fun v g => (slot σ i g).bind fun d g => (lift (extV d v) g).bind fun d' g => .ok (.nx (σ.set i (some d'))) g
  | .setd i k e, σ, g => (slot σ i g).bind fun d g => (ev Φ k σ g).bind fun kv g => (ev Φ e σ g).bind fun v g => (lift (setdV d kv v) g).bind fun d' g => .ok (.nx (σ.set i (some d'))) g
  | .ite t a b, σ, g => (ev Φ t σ g).bind fun x g => match x with
    | .bool true => run Φ fu a σ g
    | .bool false => run Φ fu b σ g
    | _ => .no
  | .forr t k as b, σ, g => (evs Φ as σ g).bind fun vs g => (lift (itV k vs) g).bind fun xs g =>
      forL (fun x σ g => (lift (setT t x σ) g).bind fun σ g => run Φ fu b σ g) xs σ g
  | .whil t b, σ, g => whileL (fun σ g => ev Φ t σ g) (fun σ g => run Φ fu b σ g) fu σ g
  | .ret e, σ, g => (ev Φ e σ g).bind fun v g => .ok (.rt v) g
  | .brk, σ, g => .ok (.bk σ) g
  | .cnt, σ, g => .ok (.ct σ) g
  | .ex e, σ, g => (ev Φ e σ g).bind fun _ g => .ok (.nx σ) g
  | .dkSet t a e, σ, g => (ev Φ e σ g).bind fun v g => (ev Φ a σ g).bind fun x g => (lift (dkSetV t x v g) g).bind fun g' _ => .ok (.nx σ) g'
  | .bad, _, _ => .no

/-! ### functions -/
structure Fn where
  np : Nat
  nl : Nat
  body : Sm
def fin : Res Fl → Res D
  | .ok (.rt v) g => .ok v g
  | .ok (.nx _) g => .ok .none g
  | .ok _ _ => .no
  | .exc c vs g => .exc c vs g
  | .no => .no
def fuel : Nat := 18446744073709551616
abbrev Prims := Nat → Option (List D → G → Res D)
def FT (T : List Fn) (pr : Prims) : Nat → Fns
  | 0, _, _, _ => .no
  | d + 1, f, as, g => match pr f with
    | some p => p as g
    | none => match T[f]? with
      | some fn => if as.length = fn.np then fin (run (FT T pr d) fuel fn.body (as.map some ++ List.replicate (fn.nl - fn.np) none) g) else .no
      | none => .no
end Pv
end

section
/-! PvB: values of the small language over the hand layer's heap: the relation, the state, the judgements. -/
set_option autoImplicit false
namespace Pv
open PySem PySem.Spec PyProof.Rows L2

/-- the frozen part of the heap; the deck's dict and list; the script -/
structure Fz where
  h : Hp
  dk : Option (Addr × Addr)
  sc : Option (Addr × List Int)
def Fz.isDk (F : Fz) (a : Addr) : Prop := ∃ d l, F.dk = some (d, l) ∧ (a = d ∨ a = l)
def Fz.put (F : Fz) (p : Addr) (o : HO) : Fz := { F with h := upd F.h p o }
structure Fsub (F F' : Fz) : Prop where
  h : Same F.h F'.h
  dk : ∀ p, F.dk = some p → F'.dk = some p
  sc : F'.sc = F.sc
theorem Fsub.refl (F : Fz) : Fsub F F := ⟨Same.refl _, fun _ h => h, rfl⟩
theorem Fsub.trans {F F1 F2 : Fz} (a : Fsub F F1) (b : Fsub F1 F2) : Fsub F F2 := ⟨a.h.trans b.h, fun p h => b.dk p (a.dk p h), b.sc.trans a.sc⟩
theorem Fsub.isDk {F F' : Fz} (s : Fsub F F') {a : Addr} (h : F.isDk a) : F'.isDk a := let ⟨d, l, e, q⟩ := h; ⟨d, l, s.dk _ e, q⟩
theorem same_upd {H : Hp} {p : Addr} {o : HO} (h : H p = none) : Same H (upd H p o) := fun b x e => by
  rw [upd_ne (ne_of_none e h)]
  exact e
theorem Fsub.put {F : Fz} {p : Addr} {o : HO} (h : F.h p = none) : Fsub F (F.put p o) := ⟨same_upd h, fun _ h => h, rfl⟩
theorem sqT_mono {K : PySem.W.Frag} {H H' : Hp} {a : Addr} {xs : List V} (e : Same H H') (h : SqT K H a xs) : SqT K H' a xs := by
  rcases h with (h | ⟨o, h⟩) | h
  · exact .inl (.inl (e _ _ h))
  · exact .inl (.inr ⟨o, e _ _ h⟩)
  · exact .inr h
theorem sqL_mono {K : PySem.W.Frag} {H H' : Hp} {a : Addr} {xs : List V} (e : Same H H') (h : SqL K H a xs) : SqL K H' a xs := e.seq h

section
variable (K : PySem.W.Frag) (F : Fz)
mutual
def Rel : D → V → Prop
  | .none, v => v = .non
  | .bool b, v => v = .bl b
  | .int i, v => v = .int i
  | .str x, v => v = .str x
  | .list xs, v => ∃ a vs, v = .ref a ∧ F.h a = some (.lst vs) ∧ RelL xs vs
  | .tuple xs, v => ∃ a vs, v = .ref a ∧ SqT K F.h a vs ∧ RelL xs vs
  | .dict kvs, v => (isDeck kvs = true ∧ ((∃ d l, F.dk = some (d, l) ∧ v = .ref d ∧ tokD 0 = .dict kvs) ∨ (∃ a ns, F.sc = some (a, ns) ∧ v = .ref a ∧ SqL K F.h a (ns.map V.int) ∧ tokD 1 = .dict kvs))) ∨
      (isDeck kvs = false ∧ ∃ a kk, v = .ref a ∧ F.h a = some (.dK kk) ∧ RelKV kvs kk)
def RelL : List D → List V → Prop
  | [], vs => vs = []
  | d :: ds, vs => ∃ v vr, vs = v :: vr ∧ Rel d v ∧ RelL ds vr
def RelKV : List (D × D) → List (Key × V) → Prop
  | [], kk => kk = []
  | (k, d) :: r, kk => ∃ kv v kr, kk = (kv, v) :: kr ∧ keyD k = some kv ∧ Rel d v ∧ RelKV r kr
end
end

section
variable {K : PySem.W.Frag} {F F' : Fz}
mutual
theorem Rel.mono (s : Fsub F F') : ∀ (d : D) (v : V), Rel K F d v → Rel K F' d v
  | .none, v, h => by unfold Rel at h ⊢; exact h
  | .bool b, v, h => by unfold Rel at h ⊢; exact h
  | .int i, v, h => by unfold Rel at h ⊢; exact h
  | .str x, v, h => by unfold Rel at h ⊢; exact h
  | .list xs, v, h => by
    unfold Rel at h ⊢
    obtain ⟨a, vs, e, q, r⟩ := h
    exact ⟨a, vs, e, s.h _ _ q, RelL.mono s xs vs r⟩
  | .tuple xs, v, h => by
    unfold Rel at h ⊢
    obtain ⟨a, vs, e, q, r⟩ := h
    exact ⟨a, vs, e, sqT_mono s.h q, RelL.mono s xs vs r⟩
  | .dict kvs, v, h => by
    unfold Rel at h ⊢
    rcases h with ⟨m, ⟨d, l, e, q⟩ | ⟨a, ns, e, q, q1, q2⟩⟩ | ⟨m, a, kk, e, q, r⟩
    · exact .inl ⟨m, .inl ⟨d, l, s.dk _ e, q⟩⟩
    · exact .inl ⟨m, .inr ⟨a, ns, s.sc.trans e, q, sqL_mono s.h q1, q2⟩⟩
    · exact .inr ⟨m, a, kk, e, s.h _ _ q, RelKV.mono s kvs kk r⟩
theorem RelL.mono (s : Fsub F F') : ∀ (ds : List D) (vs : List V), RelL K F ds vs → RelL K F' ds vs
  | [], vs, h => by unfold RelL at h ⊢; exact h
  | d :: ds, vs, h => by
    unfold RelL at h ⊢
    obtain ⟨v, vr, e, h1, h2⟩ := h
    exact ⟨v, vr, e, Rel.mono s d v h1, RelL.mono s ds vr h2⟩
theorem RelKV.mono (s : Fsub F F') : ∀ (ds : List (D × D)) (vs : List (Key × V)), RelKV K F ds vs → RelKV K F' ds vs
  | [], vs, h => by unfold RelKV at h ⊢; exact h
  | (k, d) :: ds, vs, h => by
    unfold RelKV at h ⊢
    obtain ⟨kv, v, vr, e, h0, h1, h2⟩ := h
    exact ⟨kv, v, vr, e, h0, Rel.mono s d v h1, RelKV.mono s ds vr h2⟩
end
theorem RelL.nil : RelL K F [] [] := by unfold RelL; rfl
theorem RelL.cons {d : D} {ds : List D} {v : V} {vs : List V} (h : Rel K F d v) (r : RelL K F ds vs) : RelL K F (d :: ds) (v :: vs) := by
  unfold RelL; exact ⟨v, vs, rfl, h, r⟩
theorem RelL.inv {d : D} {ds : List D} {vs : List V} (h : RelL K F (d :: ds) vs) : ∃ v vr, vs = v :: vr ∧ Rel K F d v ∧ RelL K F ds vr := by
  unfold RelL at h; exact h
theorem RelL.inv0 {vs : List V} (h : RelL K F [] vs) : vs = [] := by unfold RelL at h; exact h
theorem RelL.length : ∀ {ds : List D} {vs : List V}, RelL K F ds vs → ds.length = vs.length
  | [], vs, h => by rw [h.inv0]; rfl
  | d :: ds, vs, h => by
    obtain ⟨v, vr, rfl, _, r⟩ := h.inv
    rw [List.length_cons, List.length_cons, r.length]
theorem RelL.get : ∀ {ds : List D} {vs : List V} {i : Nat} {d : D}, RelL K F ds vs → ds[i]? = some d → ∃ v, vs[i]? = some v ∧ Rel K F d v
  | [], vs, i, d, h, e => by simp at e
  | x :: ds, vs, 0, d, h, e => by
    obtain ⟨v, vr, rfl, r1, r⟩ := h.inv
    simp at e; subst e
    exact ⟨v, rfl, r1⟩
  | x :: ds, vs, i + 1, d, h, e => by
    obtain ⟨v, vr, rfl, r1, r⟩ := h.inv
    obtain ⟨u, e1, e2⟩ := r.get (i := i) (d := d) (by simpa using e)
    exact ⟨u, by simpa using e1, e2⟩
theorem RelL.append : ∀ {ds es : List D} {vs us : List V}, RelL K F ds vs → RelL K F es us → RelL K F (ds ++ es) (vs ++ us)
  | [], es, vs, us, h, r => by rw [h.inv0]; exact r
  | d :: ds, es, vs, us, h, r => by
    obtain ⟨v, vr, rfl, h1, h2⟩ := h.inv
    exact .cons h1 (h2.append r)
theorem RelL.take : ∀ {ds : List D} {vs : List V} (n : Nat), RelL K F ds vs → RelL K F (ds.take n) (vs.take n)
  | ds, vs, 0, h => by simp; exact .nil
  | [], vs, n + 1, h => by rw [h.inv0]; simp; exact .nil
  | d :: ds, vs, n + 1, h => by
    obtain ⟨v, vr, rfl, h1, h2⟩ := h.inv
    exact .cons h1 (h2.take n)
theorem RelL.drop : ∀ {ds : List D} {vs : List V} (n : Nat), RelL K F ds vs → RelL K F (ds.drop n) (vs.drop n)
  | ds, vs, 0, h => by simpa using h
  | [], vs, n + 1, h => by rw [h.inv0]; simp; exact .nil
  | d :: ds, vs, n + 1, h => by
    obtain ⟨v, vr, rfl, h1, h2⟩ := h.inv
    simpa using h2.drop n
theorem RelL.set {d : D} {v : V} (r : Rel K F d v) : ∀ {ds : List D} {vs : List V} (i : Nat), RelL K F ds vs → RelL K F (ds.set i d) (vs.set i v)
  | [], vs, i, h => by rw [h.inv0]; simp; exact .nil
  | x :: ds, vs, 0, h => by
    obtain ⟨y, vr, rfl, h1, h2⟩ := h.inv
    exact .cons r h2
  | x :: ds, vs, i + 1, h => by
    obtain ⟨y, vr, rfl, h1, h2⟩ := h.inv
    exact .cons h1 (h2.set r i)
theorem RelL.reverse : ∀ {ds : List D} {vs : List V}, RelL K F ds vs → RelL K F ds.reverse vs.reverse
  | [], vs, h => by rw [h.inv0]; exact .nil
  | d :: ds, vs, h => by
    obtain ⟨v, vr, rfl, h1, h2⟩ := h.inv
    rw [List.reverse_cons, List.reverse_cons]
    exact h2.reverse.append (.cons h1 .nil)
theorem RelL.rep {ds : List D} {vs : List V} (h : RelL K F ds vs) : ∀ k : Nat, RelL K F (List.replicate k ds).flatten (List.replicate k vs).flatten
  | 0 => .nil
  | k + 1 => by
    rw [List.replicate_succ, List.replicate_succ, List.flatten_cons, List.flatten_cons]
    exact h.append (h.rep k)
theorem RelL.ints : ∀ {ds : List D} {vs : List V} {ns : List Int}, RelL K F ds vs → intsOf ds = some ns → vs = ns.map V.int
  | [], vs, ns, h, e => by cases e; rw [h.inv0]; rfl
  | .int i :: ds, vs, ns, h, e => by
    obtain ⟨v, vr, rfl, h1, h2⟩ := h.inv
    unfold intsOf at e
    cases q : intsOf ds with
    | none => rw [q] at e; cases e
    | some ms =>
      rw [q] at e; cases e
      unfold Rel at h1
      rw [h1, h2.ints q]; rfl
  | .none :: ds, vs, ns, h, e => by cases e
  | .bool _ :: ds, vs, ns, h, e => by cases e
  | .str _ :: ds, vs, ns, h, e => by cases e
  | .list _ :: ds, vs, ns, h, e => by cases e
  | .tuple _ :: ds, vs, ns, h, e => by cases e
  | .dict _ :: ds, vs, ns, h, e => by cases e
theorem relL_ints : ∀ (ns : List Int), RelL K F (ns.map .int) (ns.map V.int)
  | [] => .nil
  | n :: ns => .cons (by unfold Rel; rfl) (relL_ints ns)

/-! plain data is data of the hand layer -/
mutual
theorem dp_of {H : Hp} (s : Same F.h H) : ∀ (d : D) (v : V), d.canLay0 = true → Rel K F d v → Dp K H v d
  | .none, v, _, h => by unfold Rel at h; subst h; exact .non
  | .bool b, v, _, h => by unfold Rel at h; subst h; exact .bl b
  | .int i, v, _, h => by unfold Rel at h; subst h; exact .int i
  | .str x, v, _, h => by unfold Rel at h; subst h; exact .str x
  | .list xs, v, c, h => by
    unfold Rel at h
    obtain ⟨a, vs, rfl, q, r⟩ := h
    unfold PyData.canLay0 at c
    exact .lst (SqL.of (s _ _ q)) (dpAll_of s xs vs c r)
  | .tuple xs, v, c, h => by
    unfold Rel at h
    obtain ⟨a, vs, rfl, q, r⟩ := h
    unfold PyData.canLay0 at c
    exact .tup (sqT_mono s q) (dpAll_of s xs vs c r)
  | .dict kvs, v, c, _ => by unfold PyData.canLay0 at c; cases c
theorem dpAll_of {H : Hp} (s : Same F.h H) : ∀ (ds : List D) (vs : List V), PyData.canLayAll0 ds = true → RelL K F ds vs → DpAll K H vs ds
  | [], vs, _, h => by rw [h.inv0]; exact .nil
  | d :: ds, vs, c, h => by
    obtain ⟨v, vr, rfl, h1, h2⟩ := h.inv
    unfold PyData.canLayAll0 at c
    simp only [Bool.and_eq_true] at c
    exact .cons (dp_of s d v c.1 h1) (dpAll_of s ds vr c.2 h2)
end
end

/-! ### the root of a value, read off the heap -/
section
variable (K : PySem.W.Frag) (F : Fz)
def Sh (H : Hp) (d : D) (v : V) : Prop := match d with
  | .none => v = .non
  | .bool b => v = .bl b
  | .int i => v = .int i
  | .str x => v = .str x
  | .list xs => ∃ a vs, v = .ref a ∧ H a = some (.lst vs) ∧ RelL K F xs vs
  | .tuple xs => ∃ a vs, v = .ref a ∧ SqT K F.h a vs ∧ RelL K F xs vs
  | .dict kvs => (isDeck kvs = true ∧ ∃ a, v = .ref a) ∨ (isDeck kvs = false ∧ ∃ a kk, v = .ref a ∧ H a = some (.dK kk) ∧ RelKV K F kvs kk)
/-- what a name holds alone -/
def OwnAt (H : Hp) (d : D) (a : Addr) : Prop := match d with
  | .list xs => ∃ vs, H a = some (.lst vs) ∧ RelL K F xs vs
  | .dict kvs => isDeck kvs = false ∧ ∃ kk, H a = some (.dK kk) ∧ RelKV K F kvs kk
  | _ => False
end
section
variable {K : PySem.W.Frag} {F F' : Fz} {H H' : Hp}
theorem Rel.sh (s : Same F.h H) {d : D} {v : V} (h : Rel K F d v) : Sh K F H d v := by
  cases d with
  | none => unfold Rel at h; exact h
  | bool b => unfold Rel at h; exact h
  | int i => unfold Rel at h; exact h
  | str x => unfold Rel at h; exact h
  | list xs => unfold Rel at h; obtain ⟨a, vs, e, q, r⟩ := h; exact ⟨a, vs, e, s _ _ q, r⟩
  | tuple xs => unfold Rel at h; exact h
  | dict kvs =>
    unfold Rel at h
    rcases h with ⟨m, ⟨d, l, e, q, _⟩ | ⟨a, ns, e, q, _⟩⟩ | ⟨m, a, kk, e, q, r⟩
    · exact .inl ⟨m, d, q⟩
    · exact .inl ⟨m, a, q⟩
    · exact .inr ⟨m, a, kk, e, s _ _ q, r⟩
theorem OwnAt.sh {d : D} {a : Addr} (h : OwnAt K F H d a) : Sh K F H d (.ref a) := by
  cases d with
  | list xs => obtain ⟨vs, q, r⟩ := h; exact ⟨a, vs, rfl, q, r⟩
  | dict kvs => obtain ⟨m, kk, q, r⟩ := h; exact .inr ⟨m, a, kk, rfl, q, r⟩
  | none => exact h.elim
  | bool b => exact h.elim
  | int i => exact h.elim
  | str x => exact h.elim
  | tuple xs => exact h.elim
theorem OwnAt.there {d : D} {a : Addr} (h : OwnAt K F H d a) : ∃ o, H a = some o := by
  cases d with
  | list xs => obtain ⟨vs, q, r⟩ := h; exact ⟨_, q⟩
  | dict kvs => obtain ⟨m, kk, q, r⟩ := h; exact ⟨_, q⟩
  | none => exact h.elim
  | bool b => exact h.elim
  | int i => exact h.elim
  | str x => exact h.elim
  | tuple xs => exact h.elim
theorem OwnAt.move {d : D} {a : Addr} (h : OwnAt K F H d a) (s : Fsub F F') (k : ∀ o, H a = some o → H' a = some o) : OwnAt K F' H' d a := by
  cases d with
  | list xs => obtain ⟨vs, q, r⟩ := h; exact ⟨vs, k _ q, r.mono s _ _⟩
  | dict kvs => obtain ⟨m, kk, q, r⟩ := h; exact ⟨m, kk, k _ q, r.mono s _ _⟩
  | none => exact h.elim
  | bool b => exact h.elim
  | int i => exact h.elim
  | str x => exact h.elim
  | tuple xs => exact h.elim
/-- what a name holds alone, frozen -/
theorem OwnAt.frozen {d : D} {a : Addr} (h : OwnAt K F H d a) (n : F.h a = none) {o : HO} (e : H a = some o) : Rel K (F.put a o) d (.ref a) := by
  have s : Fsub F (F.put a o) := Fsub.put n
  cases d with
  | list xs =>
    obtain ⟨vs, q, r⟩ := h
    rw [q] at e; cases e
    unfold Rel
    exact ⟨a, vs, rfl, upd_same, r.mono s _ _⟩
  | dict kvs =>
    obtain ⟨m, kk, q, r⟩ := h
    rw [q] at e; cases e
    unfold Rel
    exact .inr ⟨m, a, kk, rfl, upd_same, r.mono s _ _⟩
  | none => exact h.elim
  | bool b => exact h.elim
  | int i => exact h.elim
  | str x => exact h.elim
  | tuple xs => exact h.elim
end

/-! ### the state -/
/-- what is fixed through a call: the written part, the deck's names, the heap and the frozen part at the call, the functions' values -/
structure Ct where
  K : PySem.W.Frag
  n1 : Str
  n2 : Str
  n3 : Option Str
  sc : Option (Addr × List Int)
  H0 : Hp
  F0 : Fz
  Φ : Fns
  fu : Nat
def dkL (C : Ct) (l : Addr) (st : Dk) : List (Key × V) := (.inr C.n1, .ref l) :: (.inr C.n2, .int st.mixed) :: (C.n3.map fun n => ((.inr n, .int st.turn) : Key × V)).toList
def DkR (C : Ct) (F : Fz) (g : G) (H : Hp) : Prop := match g with
  | none => F.dk = none
  | some st => ∃ d l, F.dk = some (d, l) ∧ d ≠ l ∧ F.h d = none ∧ F.h l = none ∧ H l = some (.lst (st.cells.map V.int)) ∧
      H d = some (.dK (dkL C l st))
structure R (C : Ct) (Ow : List Nat) (T : Hp) (F : Fz) (σe : Sl) (g : G) (σ : L2.St) (H : Hp) : Prop where
  sub : Same F.h H
  sc : F.sc = C.sc
  grow : Fsub C.F0 F
  new : ∀ a o, F.h a = some o → C.F0.h a = none → C.H0 a = none
  keep : ∀ a o, C.H0 a = some o → F.isDk a ∨ H a = some o
  dnew : ∀ d l, F.dk = some (d, l) → C.F0.dk = some (d, l) ∨ (C.H0 d = none ∧ C.H0 l = none)
  len : σe.length = σ.length
  fz : ∀ i v, σe[i]? = some (some v) → i ∉ Ow → ∃ x, σ[i]? = some (some x) ∧ Rel C.K F v x
  ow : ∀ i v, σe[i]? = some (some v) → i ∈ Ow → ∃ a, σ[i]? = some (some (V.ref a)) ∧ OwnAt C.K F H v a ∧ C.H0 a = none ∧ F.h a = none ∧ ¬ F.isDk a
  inj : ∀ i j a, i ∈ Ow → j ∈ Ow → (∃ v, σe[i]? = some (some v)) → (∃ v, σe[j]? = some (some v)) → σ[i]? = some (some (V.ref a)) → σ[j]? = some (some (V.ref a)) → i = j
  dk : DkR C F g H
  hold : ∀ a o, T a = some o → H a = some o ∧ C.H0 a = none ∧ F.h a = none ∧ ¬ F.isDk a ∧ ∀ i v, i ∈ Ow → σe[i]? = some (some v) → σ[i]? ≠ some (some (V.ref a))
section
variable {C : Ct} {Ow : List Nat} {T : Hp} {F F' : Fz} {σe : Sl} {g g' : G} {σ : L2.St} {H H' : Hp}
theorem DkR.there (h : DkR C F g H) {a : Addr} (q : F.isDk a) : ∃ o, H a = some o := by
  obtain ⟨d, l, e, q⟩ := q
  cases g with
  | none => have h : F.dk = none := h; rw [e] at h; cases h
  | some st =>
    obtain ⟨d', l', e', _, _, _, hl, hd⟩ := h
    rw [e] at e'; cases e'
    rcases q with rfl | rfl
    · exact ⟨_, hd⟩
    · exact ⟨_, hl⟩
theorem R.h0 (r : R C Ow T F σe g σ H) {a : Addr} (h : H a = none) : C.H0 a = none := by
  cases e : C.H0 a with
  | none => rfl
  | some o =>
    rcases r.keep a o e with q | q
    · obtain ⟨o', q⟩ := r.dk.there q
      rw [h] at q; cases q
    · rw [h] at q; cases q
theorem R.fn (r : R C Ow T F σe g σ H) {a : Addr} (h : H a = none) : F.h a = none := r.sub.free h
/-- the heap grows: what stands stays, but the deck; new things may be frozen -/
theorem R.step (r : R C Ow T F σe g σ H) (fs : Fsub F F') (sub : Same F'.h H') (nw : ∀ a o, F'.h a = some o → F.h a = none → H a = none)
    (kp : ∀ a o, H a = some o → F'.isDk a ∨ H' a = some o) (dn : ∀ d l, F'.dk = some (d, l) → F.dk = some (d, l) ∨ (H d = none ∧ H l = none)) (dk : DkR C F' g' H') : R C Ow T F' σe g' σ H' := by
  have nd : ∀ a o, H a = some o → ¬ F.isDk a → ¬ F'.isDk a := fun a o e n q => by
    obtain ⟨d, l, q1, q2⟩ := q
    rcases dn d l q1 with z | ⟨z1, z2⟩
    · exact n ⟨d, l, z, q2⟩
    · rcases q2 with rfl | rfl
      · rw [e] at z1; cases z1
      · rw [e] at z2; cases z2
  refine ⟨sub, fs.sc.trans r.sc, r.grow.trans fs, fun a o e n => ?_, fun a o e => ?_, fun d l e => ?_, r.len, fun i v e n => ?_, fun i v e n => ?_, r.inj, dk, fun a o e => ?_⟩
  · cases q : F.h a with
    | some o' => exact r.new a o' q n
    | none => exact r.h0 (nw a o e q)
  · rcases r.keep a o e with q | q
    · exact .inl (fs.isDk q)
    · exact kp a o q
  · rcases dn d l e with q | ⟨q1, q2⟩
    · exact r.dnew d l q
    · exact .inr ⟨r.h0 q1, r.h0 q2⟩
  · obtain ⟨x, e1, e2⟩ := r.fz i v e n
    exact ⟨x, e1, e2.mono fs _ _⟩
  · obtain ⟨a, e1, e2, e3, e4, e5⟩ := r.ow i v e n
    obtain ⟨o, eo⟩ := e2.there
    have nn := nd a o eo e5
    refine ⟨a, e1, e2.move fs fun o' q => ?_, e3, ?_, nn⟩
    · rcases kp a o' q with z | z
      · exact (nn z).elim
      · exact z
    · cases q : F'.h a with
      | none => rfl
      | some o' =>
        have z := nw a o' q e4
        rw [eo] at z; cases z
  · obtain ⟨e1, e2, e3, e4, e5⟩ := r.hold a o e
    have nn := nd a o e1 e4
    refine ⟨(kp a o e1).resolve_left nn, e2, ?_, nn, e5⟩
    cases q : F'.h a with
    | none => rfl
    | some o' =>
      have z := nw a o' q e3
      rw [e1] at z; cases z
theorem R.tn (r : R C Ow T F σe g σ H) {a : Addr} (h : H a = none) : T a = none := by
  cases q : T a with
  | none => rfl
  | some o =>
    have z := (r.hold a o q).1
    rw [h] at z; cases z
theorem DkR.put {p : Addr} {o : HO} (h : DkR C F g H) (n : H p = none) : DkR C F g (upd H p o) := by
  cases g with
  | none => exact h
  | some st =>
    obtain ⟨d, l, e, ne, f1, f2, hl, hd⟩ := h
    exact ⟨d, l, e, ne, f1, f2, (upd_ne (ne_of_none hl n)).trans hl, (upd_ne (ne_of_none hd n)).trans hd⟩
theorem DkR.putF {p : Addr} {o : HO} (h : DkR C F g H) (n : ¬ F.isDk p) : DkR C (F.put p o) g H := by
  cases g with
  | none => exact h
  | some st =>
    obtain ⟨d, l, e, ne, f1, f2, hl, hd⟩ := h
    have n1 : d ≠ p := fun z => n ⟨d, l, e, .inl z.symm⟩
    have n2 : l ≠ p := fun z => n ⟨d, l, e, .inr z.symm⟩
    exact ⟨d, l, e, ne, (upd_ne n1).trans f1, (upd_ne n2).trans f2, hl, hd⟩
theorem R.ndk (r : R C Ow T F σe g σ H) {p : Addr} (n : H p = none) : ¬ F.isDk p := fun q => by
  obtain ⟨o, q⟩ := r.dk.there q
  rw [n] at q; cases q
/-- a new thing, not frozen -/
theorem R.grown {p : Addr} {o : HO} (r : R C Ow T F σe g σ H) (n : H p = none) : R C Ow T F σe g σ (upd H p o) :=
  r.step (.refl F) (r.sub.trans (same_upd n)) (fun a o e q => by rw [q] at e; cases e) (fun a o e => .inr ((same_upd n) a o e)) (fun d l e => .inl e) (r.dk.put n)
/-- a new thing, frozen -/
theorem R.laid {p : Addr} {o : HO} (r : R C Ow T F σe g σ H) (n : H p = none) : R C Ow T (F.put p o) σe g σ (upd H p o) := by
  refine r.step (Fsub.put (r.fn n)) (fun a u e => ?_) (fun a u e q => ?_) (fun a u e => .inr ((same_upd n) a u e)) (fun d l e => .inl e) ((r.dk.putF (r.ndk n)).put n)
  · by_cases h : a = p
    · subst h
      have e : (upd F.h a o) a = some u := e
      rw [upd_same] at e ⊢; exact e
    · have e : (upd F.h p o) a = some u := e
      rw [upd_ne h] at e ⊢
      exact r.sub _ _ e
  · by_cases h : a = p
    · rw [h]; exact n
    · have e : (upd F.h p o) a = some u := e
      rw [upd_ne h, q] at e; cases e
/-- a thing that no name holds is frozen -/
theorem R.freeze {p : Addr} {o : HO} (r : R C Ow T F σe g σ H) (e : H p = some o) (n0 : C.H0 p = none) (nf : F.h p = none) (nd : ¬ F.isDk p)
    (no : ∀ i v, i ∈ Ow → σe[i]? = some (some v) → σ[i]? ≠ some (some (V.ref p))) (nt : T p = none) : R C Ow T (F.put p o) σe g σ H := by
  have fs : Fsub F (F.put p o) := Fsub.put nf
  refine ⟨fun a u q => ?_, fs.sc.trans r.sc, r.grow.trans fs, fun a u q n => ?_, r.keep, r.dnew, r.len, fun i v q n => ?_, fun i v q n => ?_, r.inj, r.dk.putF nd, fun a u q => ?_⟩
  · by_cases h : a = p
    · subst h
      have q : (upd F.h a o) a = some u := q
      rw [upd_same] at q; cases q; exact e
    · have q : (upd F.h p o) a = some u := q
      rw [upd_ne h] at q
      exact r.sub _ _ q
  · by_cases h : a = p
    · rw [h]; exact n0
    · have q : (upd F.h p o) a = some u := q
      rw [upd_ne h] at q
      exact r.new a u q n
  · obtain ⟨x, e1, e2⟩ := r.fz i v q n
    exact ⟨x, e1, e2.mono fs _ _⟩
  · obtain ⟨a, e1, e2, e3, e4, e5⟩ := r.ow i v q n
    have ne : a ≠ p := fun z => no i v n q (z ▸ e1)
    exact ⟨a, e1, e2.move fs fun _ z => z, e3, (upd_ne ne).trans e4, e5⟩
  · obtain ⟨e1, e2, e3, e4, e5⟩ := r.hold a u q
    have ne : a ≠ p := fun z => by rw [z, nt] at q; cases q
    exact ⟨e1, e2, (upd_ne ne).trans e3, e4, e5⟩
/-- a name is no longer held alone -/
theorem R.drop {i : Nat} (r : R C (i :: Ow) T F σe g σ H) (h : i ∉ Ow) : ∃ F', Fsub F F' ∧ R C Ow T F' σe g σ H := by
  cases q : σe[i]? with
  | none =>
    refine ⟨F, .refl F, r.sub, r.sc, r.grow, r.new, r.keep, r.dnew, r.len, fun j v e n => ?_, fun j v e n => r.ow j v e (List.mem_cons_of_mem _ n), fun j k a hj hk => r.inj j k a (List.mem_cons_of_mem _ hj) (List.mem_cons_of_mem _ hk), r.dk, fun a o e => let ⟨e1, e2, e3, e4, e5⟩ := r.hold a o e; ⟨e1, e2, e3, e4, fun j v hj => e5 j v (List.mem_cons_of_mem _ hj)⟩⟩
    refine r.fz j v e fun m => ?_
    rcases List.mem_cons.mp m with rfl | m
    · rw [q] at e; cases e
    · exact n m
  | some ov =>
    cases ov with
    | none =>
      refine ⟨F, .refl F, r.sub, r.sc, r.grow, r.new, r.keep, r.dnew, r.len, fun j v e n => ?_, fun j v e n => r.ow j v e (List.mem_cons_of_mem _ n), fun j k a hj hk => r.inj j k a (List.mem_cons_of_mem _ hj) (List.mem_cons_of_mem _ hk), r.dk, fun a o e => let ⟨e1, e2, e3, e4, e5⟩ := r.hold a o e; ⟨e1, e2, e3, e4, fun j v hj => e5 j v (List.mem_cons_of_mem _ hj)⟩⟩
      refine r.fz j v e fun m => ?_
      rcases List.mem_cons.mp m with rfl | m
      · rw [q] at e; cases e
      · exact n m
    | some v0 =>
      obtain ⟨p, e1, e2, e3, e4, e5⟩ := r.ow i v0 q List.mem_cons_self
      obtain ⟨o, eo⟩ := e2.there
      have r1 : R C Ow T F (σe.set i none) g σ H := by
        refine ⟨r.sub, r.sc, r.grow, r.new, r.keep, r.dnew, by rw [List.length_set]; exact r.len, fun j v e n => ?_, fun j v e n => ?_, fun j k a hj hk h1 h2 => ?_, r.dk, fun a o e => ?_⟩
        · by_cases hj : j = i
          · subst hj
            rw [List.getElem?_set] at e
            simp at e
          · rw [List.getElem?_set_ne (Ne.symm hj)] at e
            refine r.fz j v e fun m => ?_
            rcases List.mem_cons.mp m with z | m
            · exact hj z
            · exact n m
        · have hj : j ≠ i := fun z => h (z ▸ n)
          rw [List.getElem?_set_ne (Ne.symm hj)] at e
          exact r.ow j v e (List.mem_cons_of_mem _ n)
        · have hj' : j ≠ i := fun z => h (z ▸ hj)
          have hk' : k ≠ i := fun z => h (z ▸ hk)
          rw [List.getElem?_set_ne (Ne.symm hj')] at h1
          rw [List.getElem?_set_ne (Ne.symm hk')] at h2
          exact r.inj j k a (List.mem_cons_of_mem _ hj) (List.mem_cons_of_mem _ hk) h1 h2
        · obtain ⟨e1, e2, e3, e4, e5⟩ := r.hold a o e
          refine ⟨e1, e2, e3, e4, fun j v hj e => ?_⟩
          have hj' : j ≠ i := fun z => h (z ▸ hj)
          rw [List.getElem?_set_ne (Ne.symm hj')] at e
          exact e5 j v (List.mem_cons_of_mem _ hj) e
      have r2 := r1.freeze (o := o) eo e3 e4 e5 (fun j v hj e z => by
        have hj' : j ≠ i := fun z => h (z ▸ hj)
        rw [List.getElem?_set_ne (Ne.symm hj')] at e
        exact hj' (r.inj j i p (List.mem_cons_of_mem _ hj) List.mem_cons_self ⟨v, e⟩ ⟨v0, q⟩ z e1)) (by
        cases qt : T p with
        | none => rfl
        | some o' => exact ((r.hold p o' qt).2.2.2.2 i v0 List.mem_cons_self q e1).elim)
      refine ⟨F.put p o, Fsub.put e4, r2.sub, r2.sc, r2.grow, r2.new, r2.keep, r2.dnew, r.len, fun j v e n => ?_, fun j v e n => ?_, fun j k a hj hk => r.inj j k a (List.mem_cons_of_mem _ hj) (List.mem_cons_of_mem _ hk), r2.dk, fun a o e => let ⟨e1, e2, e3, e4, e5⟩ := r2.hold a o e; ⟨e1, e2, e3, e4, fun j v hj => (r.hold a o e).2.2.2.2 j v (List.mem_cons_of_mem _ hj)⟩⟩
      · by_cases hj : j = i
        · subst hj
          rw [q] at e; cases e
          exact ⟨_, e1, e2.frozen e4 eo⟩
        · refine r2.fz j v ?_ n
          rw [List.getElem?_set_ne (Ne.symm hj)]; exact e
      · have hj : j ≠ i := fun z => h (z ▸ n)
        refine r2.ow j v ?_ n
        rw [List.getElem?_set_ne (Ne.symm hj)]; exact e
end
end Pv
end

section
/-! PvC: the judgements, the operators. -/
set_option autoImplicit false
namespace Pv
open PySem PySem.Spec PyProof.Rows L2

theorem lineN_le {n : Nat} (h : n ≤ lineN) : n ≤ sizeLine := by rw [sizeLine_eq]; exact h
theorem lineN_lt {n : Nat} (h : n < lineN) : n < sizeLine := by rw [sizeLine_eq]; exact h

theorem pe_con {X : Cx} {e : Expr} {t t' : TE} (h : PE X e t) (c : ∀ σ H Q, t' σ H Q → t σ H Q) : PE X e t' := ⟨fun pins s σ H Q I hw => h.run pins s σ H Q I (c σ H Q hw)⟩
theorem pt_con {X : Cx} {e : Expr} {t t' : TT} (h : PT X e t) (c : ∀ σ H Q, t' σ H Q → t σ H Q) : PT X e t' := ⟨fun pins s σ H Q I hw => h.run pins s σ H Q I (c σ H Q hw)⟩
theorem pw_con {X : Cx} {e : Expr} {t t' : TT} (h : PW X e t) (c : ∀ σ H Q, t' σ H Q → t σ H Q) : PW X e t' := ⟨fun wh pins s σ H Q I hw => h.run wh pins s σ H Q I (c σ H Q hw)⟩
theorem pa_con {X : Cx} {es : List Expr} {t t' : TA} (h : PA X es t) (c : ∀ σ H Q, t' σ H Q → t σ H Q) : PA X es t' := ⟨fun pos pins s σ H Q I hw => h.run pos pins s σ H Q I (c σ H Q hw)⟩
theorem ps_con {X : Cx} {st : Stmt} {t t' : TS} (h : PS X st t) (c : ∀ D σ H, t' D σ H → t D σ H) : PS X st t' := ⟨fun pins s σ H D I hw => h.run pins s σ H D I (c D σ H hw)⟩
theorem pss_con {X : Cx} {st : List Stmt} {t t' : TS} (h : PSs X st t) (c : ∀ D σ H, t' D σ H → t D σ H) : PSs X st t' := ⟨fun pins s σ H D I hw => h.run pins s σ H D I (c D σ H hw)⟩

abbrev Mv := Sl → G → Res D
/-- the value is frozen -/
def tS (C : Ct) (Ow : List Nat) (m : Mv) : TE := fun σ H Q => ∃ T F σe g v g', R C Ow T F σe g σ H ∧ m σe g = .ok v g' ∧ ∀ F' H' x, Fsub F F' → R C Ow T F' σe g' σ H' → Rel C.K F' v x → Q x H'
/-- .. or what a name holds alone -/
def Bm (C : Ct) (Ow : List Nat) (F : Fz) (σe : Sl) (σ : L2.St) (v : D) (x : V) : Prop := Rel C.K F v x ∨ ∃ i, i ∈ Ow ∧ σe[i]? = some (some v) ∧ σ[i]? = some (some x)
def tB (C : Ct) (Ow : List Nat) (m : Mv) : TE := fun σ H Q => ∃ T F σe g v g', R C Ow T F σe g σ H ∧ m σe g = .ok v g' ∧ ∀ F' H' x, Fsub F F' → R C Ow T F' σe g' σ H' → Bm C Ow F' σe σ v x → Q x H'
/-- a new thing that nobody holds -/
structure New (C : Ct) (Ow : List Nat) (T : Hp) (F : Fz) (σe : Sl) (σ : L2.St) (H : Hp) (v : D) (a : Addr) : Prop where
  at_ : OwnAt C.K F H v a
  h0 : C.H0 a = none
  fn : F.h a = none
  nd : ¬ F.isDk a
  no : ∀ i v, i ∈ Ow → σe[i]? = some (some v) → σ[i]? ≠ some (some (V.ref a))
  nt : T a = none
def tF (C : Ct) (Ow : List Nat) (m : Mv) : TE := fun σ H Q => ∃ T F σe g v g', R C Ow T F σe g σ H ∧ m σe g = .ok v g' ∧ ∀ F' H' a, Fsub F F' → R C Ow T F' σe g' σ H' → New C Ow T F' σe σ H' v a → Q (.ref a) H'
def tT (C : Ct) (Ow : List Nat) (m : Mv) : TT := fun σ H Q => ∃ T F σe g b g', R C Ow T F σe g σ H ∧ m σe g = .ok (.bool b) g' ∧ ∀ F' H', Fsub F F' → R C Ow T F' σe g' σ H' → Q b H'
def tA (C : Ct) (Ow : List Nat) (m : Sl → G → Res (List D)) : TA := fun σ H Q => ∃ T F σe g vs g', R C Ow T F σe g σ H ∧ m σe g = .ok vs g' ∧ ∀ F' H' xs, Fsub F F' → R C Ow T F' σe g' σ H' → RelL C.K F' vs xs → Q xs H'

structure Es (X : Cx) (C : Ct) (Ow : List Nat) (e : Expr) (i : Ex) : Prop where
  run : PE X e (tS C Ow (ev C.Φ i))
structure Eb (X : Cx) (C : Ct) (Ow : List Nat) (e : Expr) (i : Ex) : Prop where
  run : PE X e (tB C Ow (ev C.Φ i))
structure Ef (X : Cx) (C : Ct) (Ow : List Nat) (e : Expr) (i : Ex) : Prop where
  run : PE X e (tF C Ow (ev C.Φ i))
structure Et (X : Cx) (C : Ct) (Ow : List Nat) (e : Expr) (i : Ex) : Prop where
  run : PT X e (tT C Ow (ev C.Φ i))
structure Ew (X : Cx) (C : Ct) (Ow : List Nat) (e : Expr) (i : Ex) : Prop where
  run : PW X e (tT C Ow (ev C.Φ i))
structure Ea (X : Cx) (C : Ct) (Ow : List Nat) (es : List Expr) (is : Exs) : Prop where
  run : PA X es (tA C Ow (evs C.Φ is))

section
variable {X : Cx} {C : Ct} {Ow : List Nat} {T : Hp} {F F' : Fz} {σe : Sl} {g g' : G} {σ : L2.St} {H H' : Hp} {v : D} {x : V}
theorem Bm.mono (h : Bm C Ow F σe σ v x) (s : Fsub F F') : Bm C Ow F' σe σ v x := by
  rcases h with h | h
  · exact .inl (h.mono s _ _)
  · exact .inr h
theorem R.sh (r : R C Ow T F σe g σ H) (h : Bm C Ow F σe σ v x) : Sh C.K F H v x := by
  rcases h with h | ⟨i, hi, e1, e2⟩
  · exact h.sh r.sub
  · obtain ⟨a, q, o, _⟩ := r.ow i v e1 hi
    rw [q] at e2
    have e2 : V.ref a = x := Option.some.inj (Option.some.inj e2)
    rw [← e2]
    exact o.sh
theorem R.frozen {a : Addr} (r : R C Ow T F σe g σ H) (n : New C Ow T F σe σ H v a) : ∃ F', Fsub F F' ∧ R C Ow T F' σe g σ H ∧ Rel C.K F' v (.ref a) := by
  obtain ⟨o, eo⟩ := n.at_.there
  exact ⟨F.put a o, Fsub.put n.fn, r.freeze eo n.h0 n.fn n.nd n.no n.nt, n.at_.frozen n.fn eo⟩
variable {e : Expr} {i : Ex}
theorem Es.b (h : Es X C Ow e i) : Eb X C Ow e i := ⟨pe_con h.run fun σ H Q ⟨T, F, σe, g, v, g', r, m, q⟩ => ⟨T, F, σe, g, v, g', r, m, fun F' H' x s r' h => q F' H' x s r' (.inl h)⟩⟩
theorem Ef.s (h : Ef X C Ow e i) : Es X C Ow e i := ⟨pe_con h.run fun σ H Q ⟨T, F, σe, g, v, g', r, m, q⟩ => ⟨T, F, σe, g, v, g', r, m, fun F' H' a s r' n => by
  obtain ⟨F2, s2, r2, q2⟩ := r'.frozen n
  exact q F2 H' (.ref a) (s.trans s2) r2 q2⟩⟩
theorem Ef.b (h : Ef X C Ow e i) : Eb X C Ow e i := h.s.b
theorem Ew.t (h : Ew X C Ow e i) : Et X C Ow e i := ⟨h.run.pt⟩

/-! ### results of operators -/
/-- what may come: a value as it stands, or a new thing that is frozen at once -/
def Out (K : PySem.W.Frag) (F : Fz) (H : Hp) (d : D) (Q : V → Hp → Prop) : Prop :=
  (∀ x, Rel K F d x → Q x H) ∧ (∀ p o, H p = none → Rel K (F.put p o) d (.ref p) → Q (.ref p) (upd H p o))
theorem R.out {Q : V → Hp → Prop} (r : R C Ow T F σe g σ H) (h : ∀ F' H' x, Fsub F F' → R C Ow T F' σe g σ H' → Rel C.K F' v x → Q x H') : Out C.K F H v Q :=
  ⟨fun x q => h F H x (.refl F) r q, fun p o n q => h (F.put p o) (upd H p o) (.ref p) (Fsub.put (r.fn n)) (r.laid n) q⟩
theorem rel_int {K : PySem.W.Frag} {i : Int} : Rel K F (.int i) (.int i) := by unfold Rel; rfl
theorem rel_bl {K : PySem.W.Frag} {i : Bool} : Rel K F (.bool i) (.bl i) := by unfold Rel; rfl
theorem rel_str {K : PySem.W.Frag} {i : Str} : Rel K F (.str i) (.str i) := by unfold Rel; rfl
theorem rel_non {K : PySem.W.Frag} : Rel K F .none .non := by unfold Rel; rfl
theorem rel_lst {K : PySem.W.Frag} {xs : List D} {vs : List V} {p : Addr} (n : F.h p = none) (r : RelL K F xs vs) : Rel K (F.put p (.lst vs)) (.list xs) (.ref p) := by
  unfold Rel; exact ⟨p, vs, rfl, upd_same, r.mono (Fsub.put n) _ _⟩
theorem rel_tup {K : PySem.W.Frag} {xs : List D} {vs : List V} {p : Addr} (n : F.h p = none) (r : RelL K F xs vs) : Rel K (F.put p (.tup vs)) (.tuple xs) (.ref p) := by
  unfold Rel; exact ⟨p, vs, rfl, .of upd_same, r.mono (Fsub.put n) _ _⟩

def bop : Bop → Operator
  | .add => .Add | .sub => .Sub | .mul => .Mult | .fdiv => .FloorDiv | .mod => .Mod | .pow => .Pow | .shl => .LShift | .shr => .RShift | .band => .BitAnd | .bor => .BitOr | .bxor => .BitXor | .lcat => .Add | .lrep => .Mult
def cop : Cop → CmpOp
  | .eq => .Eq | .ne => .NotEq | .lt => .Lt | .le => .LtE | .gt => .Gt | .ge => .GtE | .isin => .In | .notin => .NotIn | .isN => .Is | .notN => .IsNot

def rB (K : PySem.W.Frag) (o : Bop) : R2 := fun x y H Q => ∃ F va vb v, Same F.h H ∧ Sh K F H va x ∧ Sh K F H vb y ∧ binV o va vb = some v ∧ Out K F H v Q
theorem op_bin (o : Bop) : OpR X (binaryOp (bop o)) (rB X.K o) := by
  intro pins s σ H x y u w Q I rx ry h
  obtain ⟨F, va, vb, v, sub, ha, hb, hv, q⟩ := h
  unfold binV at hv
  split at hv
  · cases hv; cases ha; cases hb
    exact op_add pins s σ H _ _ u w Q I rx ry ⟨_, _, rfl, rfl, q.1 _ rel_int⟩
  · cases hv; cases ha; cases hb
    exact op_sub pins s σ H _ _ u w Q I rx ry ⟨_, _, rfl, rfl, q.1 _ rel_int⟩
  · rename_i i j
    cases ha; cases hb
    split at hv
    · rename_i hc
      cases hv
      have q := q.1 _ rel_int
      unfold mulOk at hc
      simp only [Bool.or_eq_true, decide_eq_true_eq] at hc
      rcases hc with (hc | hc) | hc
      · exact op_mul pins s σ H _ _ u w Q I rx ry ⟨_, _, rfl, rfl, .inl ⟨by omega, by omega⟩, q⟩
      · exact op_mul pins s σ H _ _ u w Q I rx ry ⟨_, _, rfl, rfl, .inr ⟨by omega, by omega⟩, q⟩
      · exact op_mulW pins s σ H _ _ u w Q I rx ry ⟨_, _, rfl, rfl, hc, q⟩
    · cases hv
  · cases ha; cases hb
    split at hv
    · rename_i hc
      cases hv
      simp only [Bool.and_eq_true, decide_eq_true_eq] at hc
      exact op_fdivW pins s σ H _ _ u w Q I rx ry ⟨_, _, rfl, rfl, hc, q.1 _ rel_int⟩
    · cases hv
  · cases ha; cases hb
    split at hv
    · rename_i hc
      cases hv
      simp only [decide_eq_true_eq] at hc
      exact op_mod pins s σ H _ _ u w Q I rx ry ⟨_, _, rfl, rfl, hc, q.1 _ rel_int⟩
    · cases hv
  · cases ha; cases hb
    split at hv
    · rename_i hc
      cases hv
      unfold powOk at hc
      simp only [Bool.and_eq_true, decide_eq_true_eq] at hc
      exact op_pow pins s σ H _ _ u w Q I rx ry ⟨_, _, rfl, rfl, ⟨hc.1.1, hc.1.2, hc.2⟩, q.1 _ rel_int⟩
    · cases hv
  · cases ha; cases hb
    split at hv
    · rename_i hc
      cases hv
      unfold powOk at hc
      simp only [Bool.and_eq_true, decide_eq_true_eq] at hc
      exact op_shl pins s σ H _ _ u w Q I rx ry ⟨_, _, rfl, rfl, ⟨hc.1.1, hc.1.2, hc.2⟩, q.1 _ rel_int⟩
    · cases hv
  · cases ha; cases hb
    split at hv
    · rename_i hc
      cases hv
      simp only [decide_eq_true_eq] at hc
      exact op_shr pins s σ H _ _ u w Q I rx ry ⟨_, _, rfl, rfl, hc, q.1 _ rel_int⟩
    · cases hv
  · cases hv; cases ha; cases hb
    exact op_and pins s σ H _ _ u w Q I rx ry ⟨_, _, rfl, rfl, q.1 _ rel_int⟩
  · cases hv; cases ha; cases hb
    exact op_or pins s σ H _ _ u w Q I rx ry ⟨_, _, rfl, rfl, q.1 _ rel_int⟩
  · cases hv; cases ha; cases hb
    exact op_xor pins s σ H _ _ u w Q I rx ry ⟨_, _, rfl, rfl, q.1 _ rel_int⟩
  · cases ha; cases hb
    split at hv
    · rename_i hc
      cases hv
      simp only [decide_eq_true_eq] at hc
      exact op_add_str pins s σ H _ _ u w Q I rx ry ⟨_, _, rfl, rfl, lineN_le hc, q.1 _ rel_str⟩
    · cases hv
  · obtain ⟨a, vs, rfl, h1, r1⟩ := ha
    obtain ⟨b, us, rfl, h2, r2⟩ := hb
    split at hv
    · rename_i hc
      cases hv
      simp only [decide_eq_true_eq] at hc
      rw [r1.length, r2.length] at hc
      exact op_cat pins s σ H _ _ u w Q I rx ry ⟨_, _, _, _, rfl, rfl, h1, h2, lineN_le hc, fun p n => q.2 p _ n (rel_lst (sub.free n) (r1.append r2))⟩
    · cases hv
  · obtain ⟨a, vs, rfl, h1, r1⟩ := ha
    obtain ⟨b, us, rfl, h2, r2⟩ := hb
    split at hv
    · rename_i xs ys hc
      cases hv
      simp only [decide_eq_true_eq] at hc
      rw [r1.length, r2.length] at hc
      refine op_catA pins s σ H _ _ u w Q I rx ry ⟨_, _, _, _, rfl, rfl, sqT_mono sub h1, sqT_mono sub h2, lineN_le hc, fun e => ?_, fun e1 e2 => ?_, fun e1 e2 p n => q.2 p _ n (rel_tup (sub.free n) (r1.append r2))⟩
      · subst e
        have e : xs = [] := List.eq_nil_of_length_eq_zero r1.length
        subst e
        exact q.1 _ (by unfold Rel; exact ⟨_, _, rfl, h2, r2⟩)
      · subst e2
        have e : ys = [] := List.eq_nil_of_length_eq_zero r2.length
        subst e
        exact q.1 _ (by unfold Rel; exact ⟨_, _, rfl, h1, by rw [List.append_nil]; exact r1⟩)
    · cases hv
  · obtain ⟨a, vs, rfl, h1, r1⟩ := ha
    cases hb
    split at hv
    · rename_i xs k hc
      cases hv
      simp only [Bool.and_eq_true, decide_eq_true_eq] at hc
      rw [r1.length] at hc
      exact op_rep pins s σ H _ _ u w Q I rx ry ⟨_, _, _, rfl, rfl, h1, by omega, by omega, lineN_le hc.2, fun p n => q.2 p _ n (rel_lst (sub.free n) (r1.rep _))⟩
    · cases hv
  · obtain ⟨a, vs, rfl, h1, r1⟩ := ha
    obtain ⟨b, us, rfl, h2, r2⟩ := hb
    split at hv
    · rename_i hc
      cases hv
      simp only [decide_eq_true_eq] at hc
      rw [r1.length, r2.length] at hc
      exact op_cat pins s σ H _ _ u w Q I rx ry ⟨_, _, _, _, rfl, rfl, h1, h2, lineN_le hc, fun p n => q.2 p _ n (rel_lst (sub.free n) (r1.append r2))⟩
    · cases hv
  · obtain ⟨a, vs, rfl, h1, r1⟩ := ha
    cases hb
    split at hv
    · rename_i xs k hc
      cases hv
      simp only [Bool.and_eq_true, decide_eq_true_eq] at hc
      rw [r1.length] at hc
      exact op_rep pins s σ H _ _ u w Q I rx ry ⟨_, _, _, rfl, rfl, h1, by omega, by omega, lineN_le hc.2, fun p n => q.2 p _ n (rel_lst (sub.free n) (r1.rep _))⟩
    · cases hv
  · cases hv

/-! ### comparisons -/
theorem dp_sh {K : PySem.W.Frag} (s : Same F.h H) {d : D} {x : V} (c : d.canLay0 = true) (h : Sh K F H d x) : Dp K H x d := by
  cases d with
  | none => cases h; exact .non
  | bool b => cases h; exact .bl b
  | int i => cases h; exact .int i
  | str y => cases h; exact .str y
  | list xs =>
    obtain ⟨a, vs, rfl, q, r⟩ := h
    unfold PyData.canLay0 at c
    exact .lst (SqL.of q) (dpAll_of s xs vs c r)
  | tuple xs =>
    obtain ⟨a, vs, rfl, q, r⟩ := h
    unfold PyData.canLay0 at c
    exact .tup (sqT_mono s q) (dpAll_of s xs vs c r)
  | dict kvs => unfold PyData.canLay0 at c; cases c
theorem lay_of_shp {d : D} (h : shp d = true) : d.canLay0 = true := by
  unfold shp SeqAt.shaped at h
  simp only [Bool.and_eq_true] at h
  exact h.1
theorem sh_non {K : PySem.W.Frag} {d : D} {x : V} (h : Sh K F H d x) : decide (x = V.non) = (match d with | .none => true | _ => false) := by
  cases d with
  | none => cases h; rfl
  | bool b => cases h; rfl
  | int i => cases h; rfl
  | str y => cases h; rfl
  | list xs => obtain ⟨a, vs, rfl, q, r⟩ := h; rfl
  | tuple xs => obtain ⟨a, vs, rfl, q, r⟩ := h; rfl
  | dict kvs =>
    rcases h with ⟨_, a, rfl⟩ | ⟨_, a, kk, rfl, _⟩
    · rfl
    · rfl
def rC (K : PySem.W.Frag) (o : Cop) : R2 := fun x y H Q => ∃ F va vb b, Same F.h H ∧ Sh K F H va x ∧ Sh K F H vb y ∧ cmpV o va vb = some b ∧ Q (.bl b) H
theorem dI {i j : Int} : decide (V.int i = V.int j) = decide (i = j) := by
  by_cases h : i = j
  · subst h; simp
  · rw [decide_eq_false h, decide_eq_false fun z => h (V.int.inj z)]
theorem dS {i j : Str} : decide (V.str i = V.str j) = decide (i = j) := by
  by_cases h : i = j
  · subst h; simp
  · rw [decide_eq_false h, decide_eq_false fun z => h (V.str.inj z)]
theorem op_eqV {b : Bool} {va vb : D} {x y : V} {u w : Value} {Q : VK} {pins : List (Addr × Obj)} {s : Shared} (hu : X.A.units + 64 < cLine) (I : Inv X pins σ H s) (rx : RelV x u) (ry : RelV y w)
    (sub : Same F.h H) (ha : Sh X.K F H va x) (hb : Sh X.K F H vb y) (hv : eqD va vb = some b) (q : Q (.bl b) H) : wpAny (model X.prog X.w) X.A (compareOp .Eq u w) (EP X pins σ Q) X.xe s := by
  unfold eqD at hv
  split at hv
  · cases ha; cases hb; cases hv
    refine op_eq pins s σ H _ _ u w Q I rx ry ⟨rfl, ?_⟩
    rw [dI]; exact q
  · cases ha; cases hb; cases hv
    refine op_eq pins s σ H _ _ u w Q I rx ry ⟨rfl, ?_⟩
    rw [dec_bl]; exact q
  · cases ha; cases hb; cases hv
    refine op_eq pins s σ H _ _ u w Q I rx ry ⟨rfl, ?_⟩
    rw [dS]; exact q
  · cases ha; cases hb; cases hv
    exact op_eq pins s σ H _ _ u w Q I rx ry ⟨rfl, q⟩
  · split at hv
    · rename_i hc
      cases hv
      simp only [Bool.and_eq_true] at hc
      exact op_eqD hu pins s σ H _ _ u w Q I rx ry ⟨_, _, dp_sh sub (lay_of_shp hc.1) ha, dp_sh sub (lay_of_shp hc.2) hb, hc.1, hc.2, q⟩
    · cases hv
theorem op_neV {b : Bool} {va vb : D} {x y : V} {u w : Value} {Q : VK} {pins : List (Addr × Obj)} {s : Shared} (hu : X.A.units + 64 < cLine) (I : Inv X pins σ H s) (rx : RelV x u) (ry : RelV y w)
    (sub : Same F.h H) (ha : Sh X.K F H va x) (hb : Sh X.K F H vb y) (hv : eqD va vb = some b) (q : Q (.bl (!b)) H) : wpAny (model X.prog X.w) X.A (compareOp .NotEq u w) (EP X pins σ Q) X.xe s := by
  unfold eqD at hv
  split at hv
  · cases ha; cases hb; cases hv
    refine op_ne pins s σ H _ _ u w Q I rx ry ⟨rfl, ?_⟩
    rw [dI]; exact q
  · cases ha; cases hb; cases hv
    refine op_ne pins s σ H _ _ u w Q I rx ry ⟨rfl, ?_⟩
    rw [dec_bl]; exact q
  · cases ha; cases hb; cases hv
    refine op_ne pins s σ H _ _ u w Q I rx ry ⟨rfl, ?_⟩
    rw [dS]; exact q
  · cases ha; cases hb; cases hv
    exact op_ne pins s σ H _ _ u w Q I rx ry ⟨rfl, q⟩
  · split at hv
    · rename_i hc
      cases hv
      simp only [Bool.and_eq_true] at hc
      exact op_neD hu pins s σ H _ _ u w Q I rx ry ⟨_, _, dp_sh sub (lay_of_shp hc.1) ha, dp_sh sub (lay_of_shp hc.2) hb, hc.1, hc.2, q⟩
    · cases hv
theorem map_some {α β : Type} {o : Option α} {f : α → β} {b : β} (h : o.map f = some b) : ∃ a, o = some a ∧ f a = b := by
  cases o with
  | none => cases h
  | some a => exact ⟨a, rfl, Option.some.inj h⟩
theorem op_cmp (o : Cop) (hu : X.A.units + 65 < cLine) : OpR X (compareOp (cop o)) (rC X.K o) := by
  intro pins s σ H x y u w Q I rx ry h
  obtain ⟨F, va, vb, b, sub, ha, hb, hv, q⟩ := h
  unfold cmpV at hv
  split at hv
  · exact op_eqV (by omega) I rx ry sub ha hb hv q
  · obtain ⟨b', e, rfl⟩ := map_some hv
    exact op_neV (by omega) I rx ry sub ha hb e q
  · unfold ltT at hv
    split at hv
    · cases ha; cases hb; cases hv
      exact op_lt pins s σ H _ _ u w Q I rx ry ⟨_, _, rfl, rfl, q⟩
    · obtain ⟨a, vs, rfl, h1, r1⟩ := ha
      obtain ⟨c, us, rfl, h2, r2⟩ := hb
      split at hv
      · rename_i ns ms e1 e2
        cases hv
        rw [r1.ints e1] at h1
        rw [r2.ints e2] at h2
        exact op_ltT (by omega) pins s σ H _ _ u w Q I rx ry ⟨_, _, _, _, rfl, rfl, sqT_mono sub h1, sqT_mono sub h2, q⟩
      · cases hv
    · cases hv
  · cases ha; cases hb; cases hv
    exact op_gt pins s σ H _ _ u w Q I rx ry ⟨_, _, rfl, rfl, q⟩
  · cases ha; cases hb; cases hv
    exact op_le pins s σ H _ _ u w Q I rx ry ⟨_, _, rfl, rfl, q⟩
  · cases ha; cases hb; cases hv
    exact op_ge pins s σ H _ _ u w Q I rx ry ⟨_, _, rfl, rfl, q⟩
  · cases hb
    have e := sh_non ha
    cases hv
    refine op_isN pins s σ H _ _ u w Q I rx ry ⟨rfl, ?_⟩
    rw [e]
    cases va <;> exact q
  · cases hb
    have e := sh_non ha
    refine op_notN pins s σ H _ _ u w Q I rx ry ⟨rfl, ?_⟩
    rw [e]
    have hv := Option.some.inj hv
    subst hv
    cases va <;> exact q
  · unfold inD at hv
    split at hv
    · split at hv
      · rename_i ds hc
        cases hv
        simp only [Bool.and_eq_true] at hc
        exact op_inD hu pins s σ H _ _ u w Q I rx ry ⟨_, _, dp_sh sub (lay_of_shp hc.1) ha, dp_sh sub (lay_of_shp hc.2) hb, hc.1, hc.2, q⟩
      · cases hv
    · cases hv
  · obtain ⟨b', hz, e0⟩ := map_some hv
    clear hv
    subst e0
    unfold inD at hz
    split at hz
    · split at hz
      · rename_i ds hc
        have hz := Option.some.inj hz
        subst hz
        simp only [Bool.and_eq_true] at hc
        exact op_notInD hu pins s σ H _ _ u w Q I rx ry ⟨_, _, dp_sh sub (lay_of_shp hc.1) ha, dp_sh sub (lay_of_shp hc.2) hb, hc.1, hc.2, q⟩
      · cases hz
    · cases hz
  · cases hv
end
end Pv
end

section
/-! PvD: the rules for expressions. -/
set_option autoImplicit false
namespace Pv
open PySem PySem.Spec PyProof.Rows L2

section
variable {X : Cx} {C : Ct} {Ow : List Nat} {e a b c : Expr} {i ia ib ic : Ex} {pos : Pos}

/-! ### names and constants -/
theorem Es.var (n : Nat) {x : Str} (hi : n ∉ Ow) (hN : X.N[n]? = some x) (hv : Vis X.env.scope x) (hd : (x == ("__debug__" : Str)) = false) (hcd : (x == ("__classdict__" : Str)) = false) : Es X C Ow (.Name x pos) (.var n) :=
  ⟨pe_con (pe_var hN hv hd hcd) fun σ H Q ⟨T, F, σe, g, v, g', r, m, q⟩ => by
    unfold ev at m
    split at m
    · rename_i w e
      cases m
      obtain ⟨y, e1, e2⟩ := r.fz n _ e hi
      exact ⟨y, e1, q F H y (.refl F) r e2⟩
    · cases m⟩
theorem Eb.var (n : Nat) {x : Str} (hN : X.N[n]? = some x) (hv : Vis X.env.scope x) (hd : (x == ("__debug__" : Str)) = false) (hcd : (x == ("__classdict__" : Str)) = false) : Eb X C Ow (.Name x pos) (.var n) :=
  ⟨pe_con (pe_var hN hv hd hcd) fun σ H Q ⟨T, F, σe, g, v, g', r, m, q⟩ => by
    unfold ev at m
    split at m
    · rename_i w e
      cases m
      by_cases hi : n ∈ Ow
      · obtain ⟨p, e1, e2, _⟩ := r.ow n _ e hi
        exact ⟨_, e1, q F H _ (.refl F) r (.inr ⟨n, hi, e, e1⟩)⟩
      · obtain ⟨y, e1, e2⟩ := r.fz n _ e hi
        exact ⟨y, e1, q F H y (.refl F) r (.inl e2)⟩
    · cases m⟩
theorem es_const {d : D} {x : V} (h : PE X e (tC x)) (hr : ∀ F, Rel C.K F d x) : Es X C Ow e (.c d) :=
  ⟨pe_con h fun σ H Q ⟨T, F, σe, g, v, g', r, m, q⟩ => by
    unfold ev at m
    cases m
    exact q F H x (.refl F) r (hr F)⟩
theorem Es.int {n : Int} {j : Nat} : Es X C Ow (.Constant (.int n) j pos) (.c (.int n)) := es_const pe_int fun _ => rel_int
theorem Es.str {n : Str} {j : Nat} : Es X C Ow (.Constant (.str n) j pos) (.c (.str n)) := es_const pe_str fun _ => rel_str
theorem Es.bl {n : Bool} {j : Nat} : Es X C Ow (.Constant (.bool n) j pos) (.c (.bool n)) := es_const pe_bl fun _ => rel_bl
theorem Es.non {j : Nat} : Es X C Ow (.Constant .none j pos) (.c .none) := es_const pe_non fun _ => rel_non
/-- a module's constant -/
theorem Es.glob {x : Str} {u : Value} {d : D} {v : V} (hg : Gl X x) (hm : X.mg x = some u) (rv : RelV v u) (hr : ∀ F, Rel C.K F d v) (hd : (x == ("__debug__" : Str)) = false) : Es X C Ow (.Name x pos) (.c d) :=
  es_const (pe_glob hg hm rv hd) hr

/-! ### operators -/
theorem Es.bin (o : Bop) (hK : X.K = C.K) (ha : Eb X C Ow a ia) (hb : Eb X C Ow b ib) : Es X C Ow (.BinOp a (bop o) b pos) (.bin o ia ib) :=
  ⟨pe_con (pe_op (op_bin o) ha.run hb.run) fun σ H Q ⟨T, F, σe, g, v, g', r, m, q⟩ => by
    unfold ev at m
    obtain ⟨va, g1, m1, m⟩ := bind_eq_ok m
    obtain ⟨vb, g2, m2, m⟩ := bind_eq_ok m
    obtain ⟨m3, e⟩ := lift_eq_ok m
    subst e
    refine ⟨T, F, σe, g, va, g1, r, m1, fun F1 H1 x s1 r1 b1 => ⟨T, F1, σe, g1, vb, _, r1, m2, fun F2 H2 y s2 r2 b2 => ⟨F2, va, vb, v, r2.sub, ?_, ?_, m3, ?_⟩⟩⟩
    · rw [hK]; exact r2.sh (b1.mono s2)
    · rw [hK]; exact r2.sh b2
    · rw [hK]; exact r2.out fun F' H' z s r' => q F' H' z (s1.trans (s2.trans s)) r'⟩
theorem new_of {T : Hp} {F : Fz} {σe : Sl} {g : G} {σ : L2.St} {H : Hp} {v : D} {p : Addr} {o : HO} (r : R C Ow T F σe g σ H) (n : H p = none) (h : OwnAt C.K F (upd H p o) v p) : New C Ow T F σe σ (upd H p o) v p :=
  ⟨h, r.h0 n, r.fn n, r.ndk n, (fun i w hi e z => by
    obtain ⟨a', e1, e2, _⟩ := r.ow i w e hi
    rw [e1] at z
    have z : V.ref a' = V.ref p := Option.some.inj (Option.some.inj z)
    cases z
    obtain ⟨o', eo⟩ := e2.there
    rw [n] at eo; cases eo), r.tn n⟩
theorem lcat_inv {va vb v : D} (h : binV .lcat va vb = some v) : ∃ xs ys, va = .list xs ∧ vb = .list ys ∧ xs.length + ys.length ≤ lineN ∧ v = .list (xs ++ ys) := by
  cases va with
  | list xs =>
    cases vb with
    | list ys =>
      simp only [binV] at h
      split at h
      · rename_i hc
        cases h
        exact ⟨xs, ys, rfl, rfl, of_decide_eq_true hc, rfl⟩
      · cases h
    | _ => simp [binV] at h
  | _ => simp [binV] at h
theorem lrep_inv {va vb v : D} (h : binV .lrep va vb = some v) : ∃ xs k, va = .list xs ∧ vb = .int k ∧ (-9223372036854775808 ≤ k ∧ k < 16777217 ∧ xs.length * k.toNat ≤ lineN) ∧ v = .list (List.replicate k.toNat xs).flatten := by
  cases va with
  | list xs =>
    cases vb with
    | int k =>
      simp only [binV] at h
      split at h
      · rename_i hc
        cases h
        simp only [Bool.and_eq_true, decide_eq_true_eq] at hc
        exact ⟨xs, k, rfl, rfl, ⟨hc.1.1, hc.1.2, hc.2⟩, rfl⟩
      · cases h
    | _ => simp [binV] at h
  | _ => simp [binV] at h
theorem Ef.cat (ha : Eb X C Ow a ia) (hb : Eb X C Ow b ib) : Ef X C Ow (.BinOp a .Add b pos) (.bin .lcat ia ib) :=
  ⟨pe_con (pe_op op_cat ha.run hb.run) fun σ H Q ⟨T, F, σe, g, v, g', r, m, q⟩ => by
    unfold ev at m
    obtain ⟨va, g1, m1, m⟩ := bind_eq_ok m
    obtain ⟨vb, g2, m2, m⟩ := bind_eq_ok m
    obtain ⟨m3, e⟩ := lift_eq_ok m
    subst e
    refine ⟨T, F, σe, g, va, g1, r, m1, fun F1 H1 x s1 r1 b1 => ⟨T, F1, σe, g1, vb, _, r1, m2, fun F2 H2 y s2 r2 b2 => ?_⟩⟩
    have ha := r2.sh (b1.mono s2)
    have hb := r2.sh b2
    obtain ⟨xs, ys, e1, e2, hc, e3⟩ := lcat_inv m3
    subst e1; subst e2; subst e3
    obtain ⟨p, vs, rfl, h1, q1⟩ := ha
    obtain ⟨p', us, rfl, h2, q2⟩ := hb
    rw [q1.length, q2.length] at hc
    exact ⟨_, _, _, _, rfl, rfl, h1, h2, lineN_le hc, fun p n => q F2 _ p (s1.trans s2) (r2.grown n) (new_of r2 n ⟨_, upd_same, q1.append q2⟩)⟩⟩
theorem Ef.rep (ha : Eb X C Ow a ia) (hb : Eb X C Ow b ib) : Ef X C Ow (.BinOp a .Mult b pos) (.bin .lrep ia ib) :=
  ⟨pe_con (pe_op op_rep ha.run hb.run) fun σ H Q ⟨T, F, σe, g, v, g', r, m, q⟩ => by
    unfold ev at m
    obtain ⟨va, g1, m1, m⟩ := bind_eq_ok m
    obtain ⟨vb, g2, m2, m⟩ := bind_eq_ok m
    obtain ⟨m3, e⟩ := lift_eq_ok m
    subst e
    refine ⟨T, F, σe, g, va, g1, r, m1, fun F1 H1 x s1 r1 b1 => ⟨T, F1, σe, g1, vb, _, r1, m2, fun F2 H2 y s2 r2 b2 => ?_⟩⟩
    have ha := r2.sh (b1.mono s2)
    have hb := r2.sh b2
    obtain ⟨xs, k, e1, e2, hc, e3⟩ := lrep_inv m3
    subst e1; subst e2; subst e3
    obtain ⟨p, vs, rfl, h1, q1⟩ := ha
    cases hb
    rw [q1.length] at hc
    exact ⟨_, _, _, rfl, rfl, h1, by omega, by omega, lineN_le hc.2.2, fun p n => q F2 _ p (s1.trans s2) (r2.grown n) (new_of r2 n ⟨_, upd_same, q1.rep _⟩)⟩⟩
theorem Es.neg (hK : X.K = C.K) (ha : Eb X C Ow a ia) : Es X C Ow (.UnaryOp .USub a pos) (.neg ia) :=
  ⟨pe_con (pe_un un_neg ha.run) fun σ H Q ⟨T, F, σe, g, v, g', r, m, q⟩ => by
    unfold ev at m
    obtain ⟨va, g1, m1, m⟩ := bind_eq_ok m
    refine ⟨T, F, σe, g, va, g1, r, m1, fun F1 H1 x s1 r1 b1 => ?_⟩
    have h := r1.sh b1
    split at m
    · cases m; cases h
      exact ⟨_, rfl, q F1 H1 _ s1 r1 rel_int⟩
    · cases m⟩

/-! ### comparisons -/
theorem Es.cmp (o : Cop) (hK : X.K = C.K) (hu : X.A.units + 65 < cLine) (ha : Eb X C Ow a ia) (hb : Eb X C Ow b ib) (hm : behindInMarks (cop o) b = false) : Es X C Ow (.Compare a [cop o] [b] pos) (.cmp o ia ib) :=
  ⟨pe_con (pe_cmpR (op_cmp o hu) ha.run hb.run hm) fun σ H Q ⟨T, F, σe, g, v, g', r, m, q⟩ => by
    unfold ev at m
    obtain ⟨va, g1, m1, m⟩ := bind_eq_ok m
    obtain ⟨vb, g2, m2, m⟩ := bind_eq_ok m
    obtain ⟨m3, e⟩ := lift_eq_ok m
    obtain ⟨k, m4, e2⟩ := map_some m3
    subst e; subst e2
    refine ⟨T, F, σe, g, va, g1, r, m1, fun F1 H1 x s1 r1 b1 => ⟨T, F1, σe, g1, vb, _, r1, m2, fun F2 H2 y s2 r2 b2 => ⟨F2, va, vb, k, r2.sub, ?_, ?_, m4, q F2 H2 _ (s1.trans s2) r2 rel_bl⟩⟩⟩
    · rw [hK]; exact r2.sh (b1.mono s2)
    · rw [hK]; exact r2.sh b2⟩
theorem Et.cmp (o : Cop) (hK : X.K = C.K) (hu : X.A.units + 65 < cLine) (ha : Eb X C Ow a ia) (hb : Eb X C Ow b ib) (hm : behindInMarks (cop o) b = false) : Et X C Ow (.Compare a [cop o] [b] pos) (.cmp o ia ib) :=
  ⟨pt_con (pt_cmpR (op_cmp o hu) ha.run hb.run hm) fun σ H Q ⟨T, F, σe, g, v, g', r, m, q⟩ => by
    unfold ev at m
    obtain ⟨va, g1, m1, m⟩ := bind_eq_ok m
    obtain ⟨vb, g2, m2, m⟩ := bind_eq_ok m
    obtain ⟨m3, e⟩ := lift_eq_ok m
    obtain ⟨k, m4, e2⟩ := map_some m3
    subst e; cases e2
    refine ⟨T, F, σe, g, va, g1, r, m1, fun F1 H1 x s1 r1 b1 => ⟨T, F1, σe, g1, vb, _, r1, m2, fun F2 H2 y s2 r2 b2 => ⟨F2, va, vb, _, r2.sub, ?_, ?_, m4, ⟨_, rfl, q F2 H2 (s1.trans s2) r2⟩⟩⟩⟩
    · rw [hK]; exact r2.sh (b1.mono s2)
    · rw [hK]; exact r2.sh b2⟩
theorem chain_ok {o1 o2 : Cop} (hK : X.K = C.K) {σ : L2.St} {H : Hp} {P : V → Hp → Prop} {T : Hp} {F : Fz} {σe : Sl} {g g' : G} {v : D} (r : R C Ow T F σe g σ H) (m : ev C.Φ (.chain o1 o2 ia ib ic) σe g = .ok v g')
    (q : ∀ (k : Bool) (F' : Fz) (H' : Hp), v = .bool k → Fsub F F' → R C Ow T F' σe g' σ H' → P (.bl k) H') :
    tChain (rC X.K o1) (rC X.K o2) (tB C Ow (ev C.Φ ia)) (tB C Ow (ev C.Φ ib)) (tB C Ow (ev C.Φ ic)) σ H P := by
  unfold ev at m
  obtain ⟨va, g1, m1, m⟩ := bind_eq_ok m
  obtain ⟨vb, g2, m2, m⟩ := bind_eq_ok m
  obtain ⟨k, g3, m30, m⟩ := bind_eq_ok m
  obtain ⟨m3, e⟩ := lift_eq_ok m30
  clear m30
  subst e
  refine ⟨T, F, σe, g, va, g1, r, m1, fun F1 H1 x s1 r1 b1 => ⟨T, F1, σe, g1, vb, _, r1, m2, fun F2 H2 y s2 r2 b2 => ⟨F2, va, vb, k, r2.sub, ?_, ?_, m3, k, rfl, ?_⟩⟩⟩
  · rw [hK]; exact r2.sh (b1.mono s2)
  · rw [hK]; exact r2.sh b2
  · cases k with
    | false =>
      rw [if_neg Bool.false_ne_true] at m ⊢
      cases m
      exact q false F2 H2 rfl (s1.trans s2) r2
    | true =>
      rw [if_pos rfl] at m ⊢
      obtain ⟨vc, g4, m4, m⟩ := bind_eq_ok m
      obtain ⟨m5, e⟩ := lift_eq_ok m
      obtain ⟨k2, m6, e2⟩ := map_some m5
      subst e
      refine ⟨T, F2, σe, _, vc, _, r2, m4, fun F3 H3 z s3 r3 b3 => ⟨F3, vb, vc, k2, r3.sub, ?_, ?_, m6, q k2 F3 H3 e2.symm (s1.trans (s2.trans s3)) r3⟩⟩
      · rw [hK]; exact r3.sh (b2.mono s3)
      · rw [hK]; exact r3.sh b3
theorem Es.chain (o1 o2 : Cop) (hK : X.K = C.K) (hu : X.A.units + 65 < cLine) (ha : Eb X C Ow a ia) (hb : Eb X C Ow b ib) (hc : Eb X C Ow c ic) (hm : lastMarks [cop o1, cop o2] [b, c] = false) :
    Es X C Ow (.Compare a [cop o1, cop o2] [b, c] pos) (.chain o1 o2 ia ib ic) :=
  ⟨pe_con (pe_chain (op_cmp o1 hu) (op_cmp o2 hu) ha.run hb.run hc.run hm) fun σ H Q ⟨T, F, σe, g, v, g', r, m, q⟩ =>
    chain_ok hK r m fun k F' H' e s r' => q F' H' _ s r' (by rw [e]; exact rel_bl)⟩
theorem Et.chain (o1 o2 : Cop) (hK : X.K = C.K) (hu : X.A.units + 65 < cLine) (ha : Eb X C Ow a ia) (hb : Eb X C Ow b ib) (hc : Eb X C Ow c ic) (hm : lastMarks [cop o1, cop o2] [b, c] = false) :
    Et X C Ow (.Compare a [cop o1, cop o2] [b, c] pos) (.chain o1 o2 ia ib ic) :=
  ⟨pt_con (pt_chain (op_cmp o1 hu) (op_cmp o2 hu) ha.run hb.run hc.run hm) fun σ H Q ⟨T, F, σe, g, v, g', r, m, q⟩ =>
    chain_ok hK r m fun k F' H' e s r' => ⟨k, rfl, by cases e; exact q F' H' s r'⟩⟩

/-! ### and, or, not, if -/
theorem Et.not (ha : Et X C Ow a ia) : Et X C Ow (.UnaryOp .Not a pos) (.not ia) :=
  ⟨pt_con (pt_not ha.run) fun σ H Q ⟨T, F, σe, g, v, g', r, m, q⟩ => by
    unfold ev at m
    obtain ⟨va, g1, m1, m⟩ := bind_eq_ok m
    split at m
    · cases m
      exact ⟨T, F, σe, g, _, _, r, m1, fun F1 H1 s1 r1 => q F1 H1 s1 r1⟩
    · cases m⟩
theorem Ew.one {op : BoolOp} (ha : Et X C Ow a ia) : Ew X C Ow (.BoolOp op [a] pos) ia := by
  cases op with
  | And => exact ⟨pw_and1 ha.run⟩
  | Or => exact ⟨pw_or1 ha.run⟩
theorem Ew.and {rest : List Expr} (ha : Et X C Ow a ia) (hb : Ew X C Ow (.BoolOp .And (b :: rest) pos) ib) : Ew X C Ow (.BoolOp .And (a :: b :: rest) pos) (.and ia ib) :=
  ⟨pw_con (pw_and ha.run hb.run) fun σ H Q ⟨T, F, σe, g, v, g', r, m, q⟩ => by
    unfold ev at m
    obtain ⟨va, g1, m1, m⟩ := bind_eq_ok m
    split at m
    · exact ⟨T, F, σe, g, _, _, r, m1, fun F1 H1 s1 r1 => by
        refine iteT ?_
        exact ⟨T, F1, σe, _, v, g', r1, m, fun F2 H2 s2 r2 => q F2 H2 (s1.trans s2) r2⟩⟩
    · cases m
      exact ⟨T, F, σe, g, _, _, r, m1, fun F1 H1 s1 r1 => by
        refine iteF ?_
        exact q F1 H1 s1 r1⟩
    · cases m⟩
theorem Ew.or {rest : List Expr} (ha : Et X C Ow a ia) (hb : Ew X C Ow (.BoolOp .Or (b :: rest) pos) ib) : Ew X C Ow (.BoolOp .Or (a :: b :: rest) pos) (.or ia ib) :=
  ⟨pw_con (pw_or ha.run hb.run) fun σ H Q ⟨T, F, σe, g, v, g', r, m, q⟩ => by
    unfold ev at m
    obtain ⟨va, g1, m1, m⟩ := bind_eq_ok m
    split at m
    · cases m
      exact ⟨T, F, σe, g, _, _, r, m1, fun F1 H1 s1 r1 => by
        refine iteT ?_
        exact q F1 H1 s1 r1⟩
    · exact ⟨T, F, σe, g, _, _, r, m1, fun F1 H1 s1 r1 => by
        refine iteF ?_
        exact ⟨T, F1, σe, _, v, g', r1, m, fun F2 H2 s2 r2 => q F2 H2 (s1.trans s2) r2⟩⟩
    · cases m⟩
theorem Es.not (hK : X.K = C.K) (ha : Eb X C Ow a ia) : Es X C Ow (.UnaryOp .Not a pos) (.not ia) :=
  ⟨pe_con (pe_not ha.run) fun σ H Q ⟨T, F, σe, g, v, g', r, m, q⟩ => by
    unfold ev at m
    obtain ⟨va, g1, m1, m⟩ := bind_eq_ok m
    refine ⟨T, F, σe, g, va, g1, r, m1, fun F1 H1 x s1 r1 b1 => ?_⟩
    have h := r1.sh b1
    split at m
    · cases m; cases h
      exact ⟨_, rfl, q F1 H1 _ s1 r1 rel_bl⟩
    · cases m⟩
theorem Es.one {op : BoolOp} (ha : Es X C Ow a ia) : Es X C Ow (.BoolOp op [a] pos) ia := ⟨pe_one ha.run⟩
theorem Es.and {rest : List Expr} (ha : Eb X C Ow a ia) (hb : Es X C Ow (.BoolOp .And (b :: rest) pos) ib) : Es X C Ow (.BoolOp .And (a :: b :: rest) pos) (.and ia ib) :=
  ⟨pe_con (pe_and ha.run hb.run) fun σ H Q ⟨T, F, σe, g, v, g', r, m, q⟩ => by
    unfold ev at m
    obtain ⟨va, g1, m1, m⟩ := bind_eq_ok m
    refine ⟨T, F, σe, g, va, g1, r, m1, fun F1 H1 x s1 r1 b1 => ?_⟩
    have h := r1.sh b1
    split at m
    · cases h
      refine ⟨_, rfl, ?_⟩
      refine iteT ?_
      exact ⟨T, F1, σe, _, v, g', r1, m, fun F2 H2 y s2 r2 => q F2 H2 y (s1.trans s2) r2⟩
    · cases m; cases h
      refine ⟨_, rfl, ?_⟩
      refine iteF ?_
      exact q F1 H1 _ s1 r1 rel_bl
    · cases m⟩
theorem Es.or {rest : List Expr} (ha : Eb X C Ow a ia) (hb : Es X C Ow (.BoolOp .Or (b :: rest) pos) ib) : Es X C Ow (.BoolOp .Or (a :: b :: rest) pos) (.or ia ib) :=
  ⟨pe_con (pe_or ha.run hb.run) fun σ H Q ⟨T, F, σe, g, v, g', r, m, q⟩ => by
    unfold ev at m
    obtain ⟨va, g1, m1, m⟩ := bind_eq_ok m
    refine ⟨T, F, σe, g, va, g1, r, m1, fun F1 H1 x s1 r1 b1 => ?_⟩
    have h := r1.sh b1
    split at m
    · cases m; cases h
      refine ⟨_, rfl, ?_⟩
      refine iteT ?_
      exact q F1 H1 _ s1 r1 rel_bl
    · cases h
      refine ⟨_, rfl, ?_⟩
      refine iteF ?_
      exact ⟨T, F1, σe, _, v, g', r1, m, fun F2 H2 y s2 r2 => q F2 H2 y (s1.trans s2) r2⟩
    · cases m⟩
theorem Es.ite {t : Expr} {it : Ex} (ht : Et X C Ow t it) (ha : Es X C Ow a ia) (hb : Es X C Ow b ib) : Es X C Ow (.IfExp t a b pos) (.ite it ia ib) :=
  ⟨pe_con (pe_ifExp ht.run ha.run hb.run) fun σ H Q ⟨T, F, σe, g, v, g', r, m, q⟩ => by
    unfold ev at m
    obtain ⟨va, g1, m1, m⟩ := bind_eq_ok m
    split at m
    · refine ⟨T, F, σe, g, _, g1, r, m1, fun F1 H1 s1 r1 => ?_⟩
      refine iteT ?_
      exact ⟨T, F1, σe, _, v, g', r1, m, fun F2 H2 y s2 r2 => q F2 H2 y (s1.trans s2) r2⟩
    · refine ⟨T, F, σe, g, _, g1, r, m1, fun F1 H1 s1 r1 => ?_⟩
      refine iteF ?_
      exact ⟨T, F1, σe, _, v, g', r1, m, fun F2 H2 y s2 r2 => q F2 H2 y (s1.trans s2) r2⟩
    · cases m⟩
theorem tru_sh {K : PySem.W.Frag} {F : Fz} {H : Hp} {d : D} {x : V} {k : Bool} (s : Same F.h H) (h : Sh K F H d x) (t : truV d = some k) : TruV K x H k := by
  cases d with
  | none => cases h; cases t; rfl
  | bool b => cases h; cases t; rfl
  | int i => cases h; cases t; rfl
  | str y =>
    cases h
    have t : (if decide (y.length ≤ lineN) then some (decide (y.length ≠ 0)) else none) = some k := t
    split at t
    · rename_i hz
      cases t
      refine ⟨lineN_le (of_decide_eq_true hz), ?_⟩
      by_cases e : y.length = 0 <;> simp [e]
    · cases t
  | list xs =>
    obtain ⟨p, vs, rfl, q, r⟩ := h
    cases t
    refine .inl ⟨vs, SqL.of q, ?_⟩
    have e := r.length
    cases xs <;> cases vs <;> first | rfl | simp at e
  | tuple xs =>
    obtain ⟨p, vs, rfl, q, r⟩ := h
    cases t
    refine .inr (.inl ⟨vs, sqT_mono s q, ?_⟩)
    have e := r.length
    cases xs <;> cases vs <;> first | rfl | simp at e
  | dict kvs => cases t
/-- a value's truth, as a test -/
theorem Et.truth (hK : X.K = C.K) (ha : Eb X C Ow a ia) (he : ∀ whole, isTrue a X.env whole = (do let v ← whole; standAt a.pos; holding [v] (truthy v))) : Et X C Ow a (.truth ia) :=
  ⟨pt_con (pt_truth ha.run he) fun σ H Q ⟨T, F, σe, g, v, g', r, m, q⟩ => by
    unfold ev at m
    obtain ⟨va, g1, m1, m⟩ := bind_eq_ok m
    obtain ⟨m2, e⟩ := lift_eq_ok m
    obtain ⟨k, m3, e2⟩ := map_some m2
    subst e; cases e2
    refine ⟨T, F, σe, g, va, _, r, m1, fun F1 H1 x s1 r1 b1 => ⟨_, ?_, q F1 H1 s1 r1⟩⟩
    rw [hK]
    exact tru_sh r1.sub (r1.sh b1) m3⟩
/-- a bool, as a test -/
theorem Et.val (ha : Eb X C Ow a ia) (he : ∀ whole, isTrue a X.env whole = (do let v ← whole; standAt a.pos; holding [v] (truthy v))) : Et X C Ow a ia :=
  ⟨pt_con (pt_val ha.run he) fun σ H Q ⟨T, F, σe, g, v, g', r, m, q⟩ =>
    ⟨T, F, σe, g, _, _, r, m, fun F1 H1 x s1 r1 b1 => ⟨v, r1.sh b1, q F1 H1 s1 r1⟩⟩⟩
end
end Pv
end

section
/-! PvE: calls of defs; arguments, displays, subscripts. -/
set_option autoImplicit false
namespace Pv
open PySem PySem.Spec PyProof.Rows L2

/-! ### a def's promise, called where nothing is being shown -/
structure FnG (P : Program) (w : World) (K : PySem.W.Frag) (mg : Str → Option Value) (base : Heap) (CX : CXT) (k : Nat) (f : Addr) (fd : FuncData) (ps : List Str) (sp : Sp) : Prop where
  len : ∀ vs H Q E, sp vs H Q E → vs.length = ps.length
  run : ∀ (A : Around) (outer : List Env) (s : Shared) (H : Hp) (args : Args) (us : List Value) (vs : List V) (Q : VK) (E : XK), A.guards = some [] → Room k A → Env0 P w K mg base A outer s H → BindsTo s fd args (ps.zip us) → Vals vs us → sp vs H Q E →
    codeAny (model P w) A (.call (.ref f) args) (CR CX outer P w H s Q E) s
section
variable {P : Program} {w : World} {K : PySem.W.Frag} {mg : Str → Option Value} {base : Heap} {CX : CXT} {k : Nat} {f : Addr} {fd : FuncData} {ps : List Str} {sp sp' : Sp}
theorem FnG.mono {j : Nat} (F : FnG P w K mg base CX j f fd ps sp) (h : j ≤ k) : FnG P w K mg base CX k f fd ps sp :=
  ⟨F.len, fun A outer s H args us vs Q E hg hr => F.run A outer s H args us vs Q E hg (hr.mono h)⟩
theorem FnG.of (F : FnOk P w K mg base CX k f fd ps sp) : FnG P w K mg base CX k f fd ps sp :=
  ⟨F.len, fun A outer s H args us vs Q E _ hr => F.run A outer s H args us vs Q E hr⟩
theorem FnG.imp (F : FnG P w K mg base CX k f fd ps sp) (h : ∀ vs H Q E, sp' vs H Q E → sp vs H Q E) : FnG P w K mg base CX k f fd ps sp' :=
  ⟨fun vs H Q E q => F.len vs H Q E (h _ _ _ _ q), fun A outer s H args us vs Q E hg hr he hb hv hs => F.run A outer s H args us vs Q E hg hr he hb hv (h _ _ _ _ hs)⟩
end
section
variable {P : Program} {w : World} {K : PySem.W.Frag} {mg : Str → Option Value} {base : Heap} {x qual : Str} {st : Stmt} {f : Addr} {fd : FuncData} {N ps : List Str} {k : Nat} {sp : Sp}
def flV : Flow → Value
  | .ret v => v
  | _ => .none
/-- where a def of this kind may lead: it hands back a value (nothing is raised) -/
theorem sp_end {X : Cx} {s' : Shared} {Q : VK} {E : XK} {fl : Flow} (hx : X.ex = []) (h : SP X [] { nx := fun _ H' => Q .non H', rt := Q } fl s') : CR CX0 X.outer X.prog X.w X.H_0 X.s_0 Q E (.ok (.ret (flV fl))) s' := by
  have out : ∀ {σ' : L2.St} {H' : Hp} {v : V} {u : Value}, Inv X [] σ' H' s' → RelV v u → Q v H' → CR CX0 X.outer X.prog X.w X.H_0 X.s_0 Q E (.ok (.ret u)) s' := fun {σ' H' v u} J rv q =>
    ⟨v, H', J.os, J.bare, by have z := J.base; rw [hx] at z; exact z, J.hok, rv, q⟩
  cases fl with
  | next => obtain ⟨_, H', J, q⟩ := h; exact out (v := .non) J rfl q
  | ret u => obtain ⟨v, _, H', J, rv, q⟩ := h; exact out J rv q
  | brk => obtain ⟨_, _, _, q⟩ := h; exact q.elim
  | cont => obtain ⟨_, _, _, q⟩ := h; exact q.elim
/-- THE RULE for a def that raises nothing, called where nothing is being shown -/
theorem funOk (F : Fun K x qual st f fd) (S : FnScope N ps (defScope st)) (len : ∀ vs H Q E, sp vs H Q E → vs.length = ps.length)
    (body : ∀ (cdv : Value) (A : Around) (outer : List Env) (s : Shared) (H : Hp) (vs : List V) (Q : VK) (E : XK), A.guards = some [] → Room k (A.deeper (envOfC qual (defScope st) s.heap.objs.size f cdv)) → sp vs H Q E →
      ∃ t, PSs (cxOf CX0 P w K mg base N qual (defScope st) f cdv A outer s H E).nox (defBody st) t ∧ t { nx := fun _ H' => Q .non H', rt := Q } (start N vs) H) : FnG P w K mg base CX0 (k + 1) f fd ps sp := by
  obtain ⟨oc, od, kV, doc, pm, an, cdv, ct, osl, rfl, lk, hcd⟩ := F.ex
  refine ⟨len, ?_⟩
  intro A outer s H args us vs Q E hg hr e0 hb r hsp
  have inK : K.In s.heap := e0.mod.kin.keeps fun b o e => (e0.bs b o e).1
  refine codeAny_call_function hr.depth (inK _ _ lk) rfl S.co S.gen rfl (PySem.W.codeRec_of inK hcd) (hb _ _ _ _ ?_)
  refine wpAny_newFunctionEnv_cells S.kind (fun y hy => (S.par y.1 (List.of_mem_zip hy).1).imp id fun q => ⟨q, PySem.W.cellsFrom_some _ _ _ (.inl q)⟩) ?_
  rintro env rfl s1 x1
  refine ⟨(e0.mod.nolimit.keeps fun b o e => (e0.bs b o e).1).keeps x1.toInCall.keep, codeAny_func ?_⟩
  obtain ⟨t, ht, hq⟩ := body cdv A outer s H vs Q E hg (hr.deeper _) hsp
  have I := inv_start (CX := CX0) (E := E) S hr.hd e0 (len _ _ _ _ hsp) r x1
  exact wpAny_mono (ht.nox.run [] s1 _ H _ I hq) (fun fl s' hs => by
    have z := sp_end (E := E) rfl hs
    cases fl <;> exact z) fun e s' hs => hs
end

/-! ### the promise of the small language -/
def spS (C : Ct) (Φ : List D → G → Res D) (n : Nat) : Sp := fun vs H Q E => vs.length = n ∧ ∃ F ds g v g', Same F.h H ∧ F.sc = C.sc ∧ DkR C F g H ∧ RelL C.K F ds vs ∧ Φ ds g = .ok v g' ∧
  ∀ F' H' x, Fsub F F' → Same F'.h H' → (∀ a o, F'.h a = some o → F.h a = none → H a = none) → (∀ a o, H a = some o → F'.isDk a ∨ H' a = some o) →
    (∀ d l, F'.dk = some (d, l) → F.dk = some (d, l) ∨ (H d = none ∧ H l = none)) → DkR C F' g' H' → Rel C.K F' v x → Q x H'
section
variable {X : Cx} {C : Ct} {Ow : List Nat} {e a b c : Expr} {es : List Expr} {i ia ib ic : Ex} {is : Exs} {pos : Pos}
theorem Ea.nil : Ea X C Ow [] .nil := ⟨pa_con pa_nil fun σ H Q ⟨T, F, σe, g, v, g', r, m, q⟩ => by
  unfold evs at m
  cases m
  exact q F H _ (.refl F) r .nil⟩
theorem Ea.cons (ha : Es X C Ow e i) (hs : Ea X C Ow es is) (hst : starEach (e :: es) X.env = (false, eval e X.env) :: starEach es X.env) : Ea X C Ow (e :: es) (.cons i is) :=
  ⟨pa_con (pa_cons ha.run hs.run hst) fun σ H Q ⟨T, F, σe, g, v, g', r, m, q⟩ => by
    unfold evs at m
    obtain ⟨x, g1, m1, m⟩ := bind_eq_ok m
    obtain ⟨xs, g2, m2, m⟩ := bind_eq_ok m
    cases m
    exact ⟨T, F, σe, g, x, g1, r, m1, fun F1 H1 y s1 r1 q1 => ⟨T, F1, σe, g1, xs, _, r1, m2, fun F2 H2 ys s2 r2 q2 => q F2 H2 _ (s1.trans s2) r2 (.cons (q1.mono s2 _ _) q2)⟩⟩⟩
theorem Es.tup {k : Nat} (hs : Ea X C Ow es is) (hl : is.len ≤ 1000) : Es X C Ow (.Tuple es k pos) (.tup is) :=
  ⟨pe_con (pe_tup hs.run) fun σ H Q ⟨T, F, σe, g, v, g', r, m, q⟩ => by
    unfold ev at m
    obtain ⟨xs, g1, m1, m⟩ := bind_eq_ok m
    cases m
    refine ⟨T, F, σe, g, xs, _, r, m1, fun F1 H1 ys s1 r1 q1 => ⟨?_, fun p n => ?_⟩⟩
    · rw [← q1.length, evs_len _ _ _ _ _ _ m1, sizeLine_eq]; omega
    · exact q (F1.put p _) _ _ (s1.trans (Fsub.put (r1.fn n))) (r1.laid n) (rel_tup (r1.fn n) q1)⟩
theorem Ef.lst (hs : Ea X C Ow es is) (hl : is.len ≤ 1000) : Ef X C Ow (.List es pos) (.lst is) :=
  ⟨pe_con (pe_lst hs.run) fun σ H Q ⟨T, F, σe, g, v, g', r, m, q⟩ => by
    unfold ev at m
    obtain ⟨xs, g1, m1, m⟩ := bind_eq_ok m
    cases m
    refine ⟨T, F, σe, g, xs, _, r, m1, fun F1 H1 ys s1 r1 q1 => ⟨?_, fun p n => ?_⟩⟩
    · rw [← q1.length, evs_len _ _ _ _ _ _ m1, sizeLine_eq]; omega
    · exact q F1 _ _ s1 (r1.grown n) (new_of r1 n ⟨_, upd_same, q1⟩)⟩

/-! ### calls -/
variable {CX : CXT} {E : XK} {k n : Nat} {f : Addr} {fd : FuncData} {ps : List Str} {x : Str} {p : Pos} {fi : Nat}
theorem R.call {T : Hp} {F : Fz} {σe : Sl} {g : G} {σ : L2.St} {H : Hp} {vs : List V} {ds : List D} {v : D} {g' : G} {Q : VK} {E : XK} (r : R C Ow T F σe g σ H) (h : RelL C.K F ds vs) (hn : vs.length = n) (hf : C.Φ fi ds g = .ok v g')
    (q : ∀ F' H' x, Fsub F F' → R C Ow T F' σe g' σ H' → Rel C.K F' v x → Q x H') : spS C (C.Φ fi) n vs H Q E :=
  ⟨hn, F, ds, g, v, g', r.sub, r.sc, r.dk, h, hf, fun F' H' x s1 s2 nw kp dn dk rx => q F' H' x s1 (r.step s1 s2 nw kp dn dk) rx⟩
theorem run_fnG {pins : List (Addr × Obj)} {σ : L2.St} {H : Hp} {s : Shared} {Q : VK} {us : List Value} {vs : List V} {sp : Sp} {args : Args} (F : FnG X.prog X.w X.K X.mg X.base CX k f fd ps sp) (hG : X.A.guards = some []) (hr : Room k X.A) (hx : Passes CX X E)
    (I : Inv X pins σ H s) (hb : BindsTo s fd args (ps.zip us)) (r : Vals vs us) (h : sp vs H Q E) : codeAny (model X.prog X.w) X.A (.call (.ref f) args) (fun r s' => match r with
      | .ok (.ret u) => EP X pins σ Q u s'
      | .ok _ => False
      | .error e => X.xe e s') s := by
  refine codeAny_mono (F.run X.A X.stack s H args us vs Q E hG hr I.env0 hb r h) fun r s' hq => ?_
  cases r with
  | error e => exact hx pins σ H s e s' I hq
  | ok fl =>
    cases fl with
    | ret u => exact I.after hq
    | next => exact False.elim hq
    | brk => exact False.elim hq
    | cont => exact False.elim hq
theorem Es.call (fi : Nat) (F : FnG X.prog X.w X.K X.mg X.base CX k f fd ps (spS C (C.Φ fi) ps.length)) (hG : X.A.guards = some []) (hr : Room k X.A) (hg : Gl X x) (hm : X.mg x = some (.ref f)) (hk : PySem.W.keepIn X.K (.ref f) = true) (hb : Binds X.K fd ps []) (hx : Passes CX X E)
    (ha : Ea X C Ow (e :: es) is) (hdb : (x == ("__debug__" : Str)) = false) (he : starEach (e :: es) X.env = (false, eval e X.env) :: starEach es X.env) (hpl : (backTo pos (starEach es X.env)).any (·.1) = false) (hl : is.len = ps.length) :
    Es X C Ow (.Call (.Name x p) (e :: es) [] pos) (.call fi is) := by
  refine ⟨⟨fun pins s σ H Q I h => ?_⟩⟩
  refine wpAny_Call_Name_kw (ld_glob I hg hm ?_ hdb)
  obtain ⟨T, F0, σe, g, v, g', r, m, q⟩ := h
  unfold ev at m
  obtain ⟨ds, g1, m1, m⟩ := bind_eq_ok m
  refine PySem.W.callWith_K (h₀ := X.base) I.ok.mod.kin hk (thn (ha.run.run pos pins s σ H (fun vs H' => vs.length = ps.length ∧ spS C (C.Φ fi) ps.length vs H' Q E) I ⟨T, F0, σe, g, ds, g1, r, m1, fun F1 H1 xs s1 r1 q1 => ?_⟩) fun us s1 ⟨vs, H1, I1, rv, hn, hsp⟩ => ⟨I1.kIn, ?_⟩) he hpl
  · have hn : xs.length = ps.length := by rw [← q1.length, evs_len _ _ _ _ _ _ m1, hl]
    exact ⟨hn, r1.call q1 hn m fun F' H' x s2 r2 q2 => q F' H' x (s1.trans s2) r2 q2⟩
  · have hl : us.length = ps.length := by rw [← rv.length]; exact hn
    have bt := hb s1 us I1.kIn (by rw [List.append_nil]; exact hl)
    rw [List.append_nil] at bt
    refine wpAny_call (codeAny_mono (run_fnG F hG hr hx I1 bt rv hsp) fun r s' hq => ?_)
    cases r with
    | error e => exact hq
    | ok fl =>
      cases fl with
      | ret u => exact hq
      | next => exact False.elim hq
      | brk => exact False.elim hq
      | cont => exact False.elim hq

/-! ### calls with keywords -/
structure KB (K : PySem.W.Frag) (fd : FuncData) (ps ks : List Str) (n : Nat) (perm : List Nat) : Prop where
  to : ∀ (s : Shared) (us ws : List Value), K.In s.heap → us.length = n → ws.length = ks.length → BindsTo s fd ⟨us, ks.zip ws⟩ (ps.zip (pm perm (us ++ ws)))
theorem RelL.pm {K : PySem.W.Frag} {F : Fz} {ds : List D} {vs : List V} (h : RelL K F ds vs) : ∀ perm : List Nat, RelL K F (pm perm ds) (pm perm vs)
  | [] => .nil
  | j :: r => by
    have ih := h.pm r
    unfold Pv.pm at ih ⊢
    rw [List.filterMap_cons, List.filterMap_cons]
    cases e : ds[j]? with
    | none =>
      have e2 : vs[j]? = none := by
        rw [List.getElem?_eq_none_iff] at e ⊢
        rw [← h.length]; exact e
      rw [e2]; exact ih
    | some d =>
      obtain ⟨v, e2, rv⟩ := h.get e
      rw [e2]; exact .cons rv ih
theorem Vals.pm {vs : List V} {us : List Value} (h : Vals vs us) : ∀ perm : List Nat, Vals (Pv.pm perm vs) (Pv.pm perm us)
  | [] => .nil
  | j :: r => by
    have ih := Vals.pm h r
    unfold Pv.pm at ih ⊢
    rw [List.filterMap_cons, List.filterMap_cons]
    cases e : vs[j]? with
    | none =>
      rw [Vals.none_of h e]; exact ih
    | some d =>
      obtain ⟨v, e2, rv⟩ := Vals.get h e
      rw [e2]; exact .cons rv ih
/-- keyword arguments -/
structure Ek (X : Cx) (C : Ct) (Ow : List Nat) (kws : List Keyword) (is : Exs) : Prop where
  run : PK X kws (tA C Ow (evs C.Φ is))
theorem Ek.nil : Ek X C Ow [] .nil := ⟨⟨fun pos pins s σ H Q I h => pk_nil.run pos pins s σ H Q I (by
  obtain ⟨T, F, σe, g, v, g', r, m, q⟩ := h
  unfold evs at m
  cases m
  exact q F H _ (.refl F) r .nil)⟩⟩
theorem Ek.cons {nm : Option Str} {kpos : Pos} {kws : List Keyword} (ha : Es X C Ow e i) (hs : Ek X C Ow kws is) : Ek X C Ow (⟨nm, e, kpos⟩ :: kws) (.cons i is) :=
  ⟨⟨fun pos pins s σ H Q I h => (pk_cons ha.run hs.run).run pos pins s σ H Q I (by
    obtain ⟨T, F, σe, g, v, g', r, m, q⟩ := h
    unfold evs at m
    obtain ⟨x, g1, m1, m⟩ := bind_eq_ok m
    obtain ⟨xs, g2, m2, m⟩ := bind_eq_ok m
    cases m
    exact ⟨T, F, σe, g, x, g1, r, m1, fun F1 H1 y s1 r1 q1 => ⟨T, F1, σe, g1, xs, _, r1, m2, fun F2 H2 ys s2 r2 q2 => q F2 H2 _ (s1.trans s2) r2 (.cons (q1.mono s2 _ _) q2)⟩⟩)⟩⟩
def Exs.app : Exs → Exs → Exs
  | .nil, bs => bs
  | .cons a as, bs => .cons a (as.app bs)
theorem evs_app (Φ : Fns) : ∀ (as bs : Exs) (σ : Sl) (g g' : G) (vs : List D), evs Φ (as.app bs) σ g = .ok vs g' → ∃ xs ys g1, vs = xs ++ ys ∧ evs Φ as σ g = .ok xs g1 ∧ evs Φ bs σ g1 = .ok ys g'
  | .nil, bs, σ, g, g', vs, h => ⟨[], vs, g, rfl, by unfold evs; rfl, h⟩
  | .cons a as, bs, σ, g, g', vs, h => by
    unfold Exs.app evs at h
    obtain ⟨x, g1, h1, h⟩ := bind_eq_ok h
    obtain ⟨xs, g2, h2, h⟩ := bind_eq_ok h
    cases h
    obtain ⟨us, ws, g3, e, q1, q2⟩ := evs_app Φ as bs _ _ _ _ h2
    refine ⟨x :: us, ws, g3, by rw [e]; rfl, ?_, q2⟩
    unfold evs
    rw [h1, bind_ok, q1, bind_ok]
theorem Es.callK {ks : List Str} {kws : List Keyword} {perm : List Nat} {iks : Exs} (fi : Nat) (F : FnG X.prog X.w X.K X.mg X.base CX k f fd ps (spS C (C.Φ fi) ps.length)) (hG : X.A.guards = some []) (hr : Room k X.A) (hg : Gl X x) (hm : X.mg x = some (.ref f)) (hk : PySem.W.keepIn X.K (.ref f) = true) (hb : KB X.K fd ps ks n perm) (hx : Passes CX X E)
    (ha : Ea X C Ow (e :: es) is) (hkw : Ek X C Ow kws iks) (hall : (backToKw pos (keywordEach kws X.env)).all (·.1.isSome) = true) (hks : (backToKw pos (keywordEach kws X.env)).filterMap (·.1) = ks)
    (hdb : (x == ("__debug__" : Str)) = false) (he : starEach (e :: es) X.env = (false, eval e X.env) :: starEach es X.env)
    (hpl : ((backTo pos (starEach (e :: es) X.env)).any (·.1) || (backToKw pos (keywordEach kws X.env)).any (·.1.isNone)) = false) (h1 : is.len = n) (h2 : iks.len = ks.length) (h3 : ∀ {α : Type} (l : List α), l.length = n + ks.length → (pm perm l).length = ps.length) :
    Es X C Ow (.Call (.Name x p) (e :: es) kws pos) (.callK fi (is.app iks) perm) := by
  refine ⟨⟨fun pins s σ H Q I h => ?_⟩⟩
  refine wpAny_Call_Name_kw (ld_glob I hg hm ?_ hdb)
  obtain ⟨T, F0, σe, g, v, g', r, m, q⟩ := h
  unfold ev at m
  obtain ⟨ds, g1, m1, m⟩ := bind_eq_ok m
  obtain ⟨as, bs, g2, e0, ma, mb⟩ := evs_app _ _ _ _ _ _ _ m1
  subst e0
  refine PySem.W.callWith_KW (h₀ := X.base) I.ok.mod.kin hk hall (thn (ha.run.run pos pins s σ H (fun vs H' => vs.length = n ∧ tA C Ow (evs C.Φ iks) σ H' fun zs H2 => zs.length = ks.length ∧ spS C (C.Φ fi) ps.length (Pv.pm perm (vs ++ zs)) H2 Q E) I ⟨T, F0, σe, g, as, g2, r, ma, fun F1 H1 xs s1 r1 q1 =>
      ⟨by rw [← q1.length, evs_len _ _ _ _ _ _ ma, h1], T, F1, σe, g2, bs, g1, r1, mb, fun F2 H2 ys s2 r2 q2 => ?_⟩⟩) fun us s1 ⟨vs, H1, I1, rv, hn, hsp⟩ => ?_) hpl he
  · have e1 : ys.length = ks.length := by rw [← q2.length, evs_len _ _ _ _ _ _ mb, h2]
    have e2 : xs.length = n := by rw [← q1.length, evs_len _ _ _ _ _ _ ma, h1]
    refine ⟨e1, r2.call (((q1.mono s2 _ _).append q2).pm perm) (h3 _ (by rw [List.length_append, e1, e2])) m fun F' H' x s3 r3 q3 => q F' H' x (s1.trans (s2.trans s3)) r3 q3⟩
  · refine thn (hkw.run.run pos pins s1 σ H1 _ I1 hsp) fun ws s2 ⟨zs, H2, I2, rz, hz, hsp⟩ => ⟨I2.kIn, ?_⟩
    rw [hks]
    have bt := hb.to s2 us ws I2.kIn (by rw [← rv.length]; exact hn) (by rw [← rz.length]; exact hz)
    refine wpAny_call (codeAny_mono (run_fnG F hG hr hx I2 bt (Vals.pm (rv.append rz) perm) hsp) fun r s' hq => ?_)
    cases r with
    | error e => exact hq
    | ok fl =>
      cases fl with
      | ret u => exact hq
      | next => exact False.elim hq
      | brk => exact False.elim hq
      | cont => exact False.elim hq
theorem Es.callK0 {ks : List Str} {kws : List Keyword} {perm : List Nat} {iks : Exs} (fi : Nat) (F : FnG X.prog X.w X.K X.mg X.base CX k f fd ps (spS C (C.Φ fi) ps.length)) (hG : X.A.guards = some []) (hr : Room k X.A) (hg : Gl X x) (hm : X.mg x = some (.ref f)) (hk : PySem.W.keepIn X.K (.ref f) = true) (hb : KB X.K fd ps ks 0 perm) (hx : Passes CX X E)
    (hkw : Ek X C Ow kws iks) (hall : (backToKw pos (keywordEach kws X.env)).all (·.1.isSome) = true) (hks : (backToKw pos (keywordEach kws X.env)).filterMap (·.1) = ks)
    (hdb : (x == ("__debug__" : Str)) = false)
    (hpl : ((backTo pos (starEach [] X.env)).any (·.1) || (backToKw pos (keywordEach kws X.env)).any (·.1.isNone)) = false) (h2 : iks.len = ks.length) (h3 : ∀ {α : Type} (l : List α), l.length = ks.length → (pm perm l).length = ps.length) :
    Es X C Ow (.Call (.Name x p) [] kws pos) (.callK fi iks perm) := by
  refine ⟨⟨fun pins s σ H Q I h => ?_⟩⟩
  refine wpAny_Call_Name_kw (ld_glob I hg hm ?_ hdb)
  obtain ⟨T, F0, σe, g, v, g', r, m, q⟩ := h
  unfold ev at m
  obtain ⟨ds, g1, m1, m⟩ := bind_eq_ok m
  refine PySem.W.callWith_KW0 (h₀ := X.base) I.ok.mod.kin hk hall (thn (hkw.run.run pos pins s σ H (fun zs H2 => zs.length = ks.length ∧ spS C (C.Φ fi) ps.length (Pv.pm perm zs) H2 Q E) I ⟨T, F0, σe, g, ds, g1, r, m1, fun F1 H1 xs s1 r1 q1 => ?_⟩) fun ws s2 ⟨zs, H2, I2, rz, hz, hsp⟩ => ⟨I2.kIn, ?_⟩) hpl
  · have e1 : xs.length = ks.length := by rw [← q1.length, evs_len _ _ _ _ _ _ m1, h2]
    exact ⟨e1, r1.call (q1.pm perm) (h3 _ e1) m fun F' H' x s3 r3 q3 => q F' H' x (s1.trans s3) r3 q3⟩
  · rw [hks]
    have bt := hb.to s2 [] ws I2.kIn rfl (by rw [← rz.length]; exact hz)
    refine wpAny_call (codeAny_mono (run_fnG F hG hr hx I2 bt (Vals.pm rz perm) hsp) fun r s' hq => ?_)
    cases r with
    | error e => exact hq
    | ok fl =>
      cases fl with
      | ret u => exact hq
      | next => exact False.elim hq
      | brk => exact False.elim hq
      | cont => exact False.elim hq
end
end Pv
end

section
/-! PvF: targets, what is walked, comprehensions. -/
set_option autoImplicit false
namespace Pv
open PySem PySem.Spec PyProof.Rows L2

section
variable {C : Ct} {Ow : List Nat} {T : Hp} {F F' : Fz} {σe σe' : Sl} {g g' : G} {σ : L2.St} {H H' : Hp} {v : D} {x : V}
/-- a name is given a frozen value -/
theorem R.setS {i : Nat} (r : R C Ow T F σe g σ H) (hi : i ∉ Ow) (h : Rel C.K F v x) : R C Ow T F (σe.set i (some v)) g (σ.set i (some x)) H := by
  refine ⟨r.sub, r.sc, r.grow, r.new, r.keep, r.dnew, by rw [List.length_set, List.length_set]; exact r.len, fun j w e n => ?_, fun j w e n => ?_, fun j k a hj hk h1 h2 q1 q2 => ?_, r.dk, fun a o e => ?_⟩
  · by_cases hj : j = i
    · subst hj
      have hl : j < σe.length := by
        have := (List.getElem?_eq_some_iff.mp e).1
        rwa [List.length_set] at this
      rw [List.getElem?_set_self hl] at e
      cases e
      exact ⟨x, by rw [List.getElem?_set_self (r.len ▸ hl)], h⟩
    · rw [List.getElem?_set_ne (Ne.symm hj)] at e
      obtain ⟨y, e1, e2⟩ := r.fz j w e n
      exact ⟨y, by rw [List.getElem?_set_ne (Ne.symm hj)]; exact e1, e2⟩
  · have hj : j ≠ i := fun z => hi (z ▸ n)
    rw [List.getElem?_set_ne (Ne.symm hj)] at e
    obtain ⟨a, e1, e2⟩ := r.ow j w e n
    exact ⟨a, by rw [List.getElem?_set_ne (Ne.symm hj)]; exact e1, e2⟩
  · have hj' : j ≠ i := fun z => hi (z ▸ hj)
    have hk' : k ≠ i := fun z => hi (z ▸ hk)
    rw [List.getElem?_set_ne (Ne.symm hj')] at h1 q1
    rw [List.getElem?_set_ne (Ne.symm hk')] at h2 q2
    exact r.inj j k a hj hk h1 h2 q1 q2
  · obtain ⟨e1, e2, e3, e4, e5⟩ := r.hold a o e
    refine ⟨e1, e2, e3, e4, fun j w hj q => ?_⟩
    have hj' : j ≠ i := fun z => hi (z ▸ hj)
    rw [List.getElem?_set_ne (Ne.symm hj')] at q ⊢
    exact e5 j w hj q
/-- a name is forgotten -/
theorem R.wipe1 {i : Nat} (r : R C Ow T F σe g σ H) (hi : i ∉ Ow) : R C Ow T F (σe.set i none) g (σ.set i none) H := by
  refine ⟨r.sub, r.sc, r.grow, r.new, r.keep, r.dnew, by rw [List.length_set, List.length_set]; exact r.len, fun j w e n => ?_, fun j w e n => ?_, fun j k a hj hk h1 h2 q1 q2 => ?_, r.dk, fun a o e => ?_⟩
  · by_cases hj : j = i
    · subst hj
      rw [List.getElem?_set] at e
      simp at e
    · rw [List.getElem?_set_ne (Ne.symm hj)] at e
      obtain ⟨y, e1, e2⟩ := r.fz j w e n
      exact ⟨y, by rw [List.getElem?_set_ne (Ne.symm hj)]; exact e1, e2⟩
  · have hj : j ≠ i := fun z => hi (z ▸ n)
    rw [List.getElem?_set_ne (Ne.symm hj)] at e
    obtain ⟨a, e1, e2⟩ := r.ow j w e n
    exact ⟨a, by rw [List.getElem?_set_ne (Ne.symm hj)]; exact e1, e2⟩
  · have hj' : j ≠ i := fun z => hi (z ▸ hj)
    have hk' : k ≠ i := fun z => hi (z ▸ hk)
    rw [List.getElem?_set_ne (Ne.symm hj')] at h1 q1
    rw [List.getElem?_set_ne (Ne.symm hk')] at h2 q2
    exact r.inj j k a hj hk h1 h2 q1 q2
  · obtain ⟨e1, e2, e3, e4, e5⟩ := r.hold a o e
    refine ⟨e1, e2, e3, e4, fun j w hj q => ?_⟩
    have hj' : j ≠ i := fun z => hi (z ▸ hj)
    rw [List.getElem?_set_ne (Ne.symm hj')] at q ⊢
    exact e5 j w hj q
theorem R.wipe (r : R C Ow T F σe g σ H) : ∀ t : List Nat, (∀ i ∈ t, i ∉ Ow) → R C Ow T F (wipeS σe t) g (L2.wipe σ t) H
  | [], _ => r
  | i :: t, h => (r.wipe t fun j hj => h j (List.mem_cons_of_mem _ hj)).wipe1 (h i List.mem_cons_self)
theorem wipe_set {i : Nat} {o : Option V} : ∀ {t : List Nat}, i ∈ t → L2.wipe (σ.set i o) t = L2.wipe σ t
  | j :: t, h => by
    show (L2.wipe (σ.set i o) t).set j none = (L2.wipe σ t).set j none
    by_cases hi : i ∈ t
    · rw [wipe_set hi]
    · have e : i = j := (List.mem_cons.mp h).resolve_right hi
      subst e
      have q : ∀ (t : List Nat) (s : L2.St), i ∉ t → L2.wipe (s.set i o) t = (L2.wipe s t).set i o := by
        intro t
        induction t with
        | nil => intro s _; rfl
        | cons k t ih =>
          intro s hk
          have h1 : i ≠ k := fun z => hk (z ▸ List.mem_cons_self)
          have h2 : i ∉ t := fun z => hk (List.mem_cons_of_mem _ z)
          show (L2.wipe (s.set i o) t).set k none = ((L2.wipe s t).set k none).set i o
          rw [ih s h2, List.set_comm _ _ h1]
      rw [q t σ hi, List.set_set]
theorem wipe_wipe : ∀ (t u : List Nat), (∀ i ∈ t, i ∈ u) → L2.wipe (L2.wipe σ t) u = L2.wipe σ u
  | [], u, _ => rfl
  | i :: t, u, h => by
    show L2.wipe ((L2.wipe σ t).set i none) u = _
    rw [wipe_set (h i List.mem_cons_self)]
    exact wipe_wipe t u fun j hj => h j (List.mem_cons_of_mem _ hj)
/-- the held thing is changed -/
theorem R.held {p : Addr} {o o' : HO} (r : R C Ow T F σe g σ H) (h : T p = some o) : R C Ow (upd T p o') F σe g σ (upd H p o') := by
  obtain ⟨e1, e2, e3, e4, e5⟩ := r.hold p o h
  refine ⟨fun a u q => ?_, r.sc, r.grow, r.new, fun a u q => ?_, r.dnew, r.len, r.fz, fun i w q n => ?_, r.inj, ?_, fun a u q => ?_⟩
  · have ne : a ≠ p := fun z => by rw [z, e3] at q; cases q
    rw [upd_ne ne]; exact r.sub a u q
  · have ne : a ≠ p := fun z => by rw [z, e2] at q; cases q
    rw [upd_ne ne]; exact r.keep a u q
  · obtain ⟨a, q1, q2, q3, q4, q5⟩ := r.ow i w q n
    have ne : a ≠ p := fun z => e5 i w n q (z ▸ q1)
    exact ⟨a, q1, q2.move (.refl F) fun u z => by rw [upd_ne ne]; exact z, q3, q4, q5⟩
  · have dk := r.dk
    cases g with
    | none => exact dk
    | some st =>
      obtain ⟨d, l, z, ne, f1, f2, hl, hd⟩ := dk
      have n1 : d ≠ p := fun y => e4 ⟨d, l, z, .inl y.symm⟩
      have n2 : l ≠ p := fun y => e4 ⟨d, l, z, .inr y.symm⟩
      exact ⟨d, l, z, ne, f1, f2, (upd_ne n2).trans hl, (upd_ne n1).trans hd⟩
  · by_cases ne : a = p
    · subst ne
      rw [upd_same] at q ⊢
      exact ⟨q, e2, e3, e4, e5⟩
    · rw [upd_ne ne] at q
      rw [upd_ne ne]
      exact r.hold a u q
/-- a new thing is held -/
theorem R.take {p : Addr} {o : HO} (r : R C Ow T F σe g σ H) (n : H p = none) : R C Ow (upd T p o) F σe g σ (upd H p o) := by
  have r1 := r.grown (o := o) n
  refine ⟨r1.sub, r1.sc, r1.grow, r1.new, r1.keep, r1.dnew, r1.len, r1.fz, r1.ow, r1.inj, r1.dk, fun a u q => ?_⟩
  by_cases ne : a = p
  · subst ne
    rw [upd_same] at q ⊢
    refine ⟨q, r.h0 n, r.fn n, r.ndk n, fun i w hi e z => ?_⟩
    obtain ⟨b, q1, q2, _⟩ := r.ow i w e hi
    rw [q1] at z
    have z : V.ref b = V.ref a := Option.some.inj (Option.some.inj z)
    cases z
    obtain ⟨o', eo⟩ := q2.there
    rw [n] at eo; cases eo
  · rw [upd_ne ne] at q
    exact r1.hold a u q
/-- .. and let go -/
theorem R.letgo {T' : Hp} (r : R C Ow T' F σe g σ H) (h : ∀ a o, T a = some o → T' a = some o) : R C Ow T F σe g σ H :=
  ⟨r.sub, r.sc, r.grow, r.new, r.keep, r.dnew, r.len, r.fz, r.ow, r.inj, r.dk, fun a o e => r.hold a o (h a o e)⟩
end

/-! ### targets -/
def gS (C : Ct) (Ow : List Nat) (t : List Nat) : TG := fun x σ H Q => ∃ T F σe g v σe', R C Ow T F σe g σ H ∧ Rel C.K F v x ∧ setT t v σe = some σe' ∧ ∀ σ', R C Ow T F σe' g σ' H → L2.wipe σ' t = L2.wipe σ t → Q σ' H
structure Eg (X : Cx) (C : Ct) (Ow : List Nat) (tg : Expr) (t : List Nat) : Prop where
  run : PG X tg (gS C Ow t)
def gSs (C : Ct) (Ow : List Nat) (t : List Nat) : TGs := fun xs σ H Q => ∃ T F σe g vs σe', R C Ow T F σe g σ H ∧ RelL C.K F vs xs ∧ setMany t vs σe = some σe' ∧ ∀ σ', R C Ow T F σe' g σ' H → (∀ u, (∀ i ∈ t, i ∈ u) → L2.wipe σ' u = L2.wipe σ u) → Q σ' H
structure Egs (X : Cx) (C : Ct) (Ow : List Nat) (ts : List Expr) (t : List Nat) : Prop where
  run : PGs X ts (gSs C Ow t)
theorem pg_con {X : Cx} {e : Expr} {t t' : TG} (h : PG X e t) (c : ∀ x σ H Q, t' x σ H Q → t x σ H Q) : PG X e t' := ⟨fun pins s σ H v u Q I r hw => h.run pins s σ H v u Q I r (c v σ H Q hw)⟩
theorem pgs_con {X : Cx} {e : List Expr} {t t' : TGs} (h : PGs X e t) (c : ∀ x σ H Q, t' x σ H Q → t x σ H Q) : PGs X e t' := ⟨fun pins s σ H v u Q I r hw => h.run pins s σ H v u Q I r (c v σ H Q hw)⟩
section
variable {X : Cx} {C : Ct} {Ow : List Nat} {pos : Pos}
theorem Eg.name {x : Str} (i : Nat) (hi : i ∉ Ow) (hN : X.N.Nodup) (hx : X.N[i]? = some x) (hl : Loc X.env.scope x) (hf : X.fn x = true ∨ X.env.scope.names.lookup x = some .local) : Eg X C Ow (.Name x pos) [i] :=
  ⟨pg_con (pg_name hN hx hl hf) fun x σ H Q ⟨T, F, σe, g, v, σe', r, h, e, q⟩ => by
    cases e
    exact q _ (r.setS hi h) (wipe_set List.mem_cons_self)⟩
theorem Egs.nil : Egs X C Ow [] [] := ⟨pgs_con pgs_nil fun xs σ H Q ⟨T, F, σe, g, vs, σe', r, h, e, q⟩ => by
  cases vs with
  | nil => cases e; rw [h.inv0]; exact ⟨rfl, q σ r fun _ _ => rfl⟩
  | cons _ _ => cases e⟩
theorem Egs.cons {e : Expr} {es : List Expr} {i : Nat} {t : List Nat} (h1 : Eg X C Ow e [i]) (h2 : Egs X C Ow es t) (hs : (assignEach (e :: es) X.env).map (·.2) = assign e X.env :: (assignEach es X.env).map (·.2)) : Egs X C Ow (e :: es) (i :: t) :=
  ⟨pgs_con (pgs_cons h1.run h2.run hs) fun xs σ H Q ⟨T, F, σe, g, vs, σe', r, h, em, q⟩ => by
    cases vs with
    | nil => cases em
    | cons v vs =>
      obtain ⟨y, yr, rfl, e1, e2⟩ := h.inv
      exact ⟨y, yr, rfl, T, F, σe, g, v, _, r, e1, rfl, fun σ1 r1 w1 => ⟨T, F, _, g, vs, σe', r1, e2, em, fun σ2 r2 w2 => q σ2 r2 fun u hu => by
        rw [w2 u fun j hj => hu j (List.mem_cons_of_mem _ hj)]
        have w : L2.wipe (L2.wipe σ1 [i]) u = L2.wipe (L2.wipe σ [i]) u := by rw [w1]
        rw [wipe_wipe _ _ (fun j hj => hu j (by rw [List.mem_singleton.mp hj]; exact List.mem_cons_self)), wipe_wipe _ _ (fun j hj => hu j (by rw [List.mem_singleton.mp hj]; exact List.mem_cons_self))] at w
        exact w⟩⟩⟩
theorem Eg.tup {es : List Expr} {k : Nat} {t : List Nat} (hK : X.K = C.K) (hc : X.calm = true) (h : Egs X C Ow es t) (hl : 2 ≤ t.length) (hn : (assignEach es X.env).length = t.length) (hst : (assignEach es X.env).findIdx? (·.1) = none) : Eg X C Ow (.Tuple es k pos) t :=
  ⟨pg_con (pg_tup (n := t.length) hc h.run hn hst) fun x σ H Q ⟨T, F, σe, g, v, σe', r, h, em, q⟩ => by
    have len : ∀ (t : List Nat) (vs : List D) (σe σe' : Sl), setMany t vs σe = some σe' → t.length = vs.length := by
      intro t
      induction t with
      | nil => intro vs σe σe' e; cases vs with
        | nil => rfl
        | cons _ _ => cases e
      | cons i t ih => intro vs σe σe' e; cases vs with
        | nil => cases e
        | cons v vs => rw [List.length_cons, List.length_cons, ih vs _ _ e]
    have two : ∃ vs, v = .tuple vs ∧ setMany t vs σe = some σe' := by
      unfold setT at em
      split at em
      · simp at hl
      · exact ⟨_, rfl, em⟩
      · cases em
    obtain ⟨vs, rfl, em2⟩ := two
    clear em
    unfold Rel at h
    obtain ⟨a, us, rfl, hq, rl⟩ := h
    refine ⟨a, us, rfl, ?_, ?_, T, F, σe, g, vs, σe', r, rl, em2, fun σ' r' w => q σ' r' (w t fun _ h => h)⟩
    · rw [hK]; exact sqT_mono r.sub hq
    · rw [← rl.length]; exact (len t vs σe σe' em2).symm⟩
end

/-! ### what is walked -/
structure Walk (C : Ct) (F : Fz) (xs : List D) (J : It) : Prop where
  go : ∀ i F1 H, i < xs.length → Fsub F F1 → Same F1.h H → J.go i H
  stop : ∀ F1 H, Fsub F F1 → Same F1.h H → J.stop xs.length H
  yld : ∀ i d F1 H x H', xs[i]? = some d → Fsub F F1 → Same F1.h H → J.yld i H x H' → (H' = H ∧ Rel C.K F1 d x) ∨ ∃ p o, x = .ref p ∧ H p = none ∧ H' = upd H p o ∧ (F1.h p = none → Rel C.K (F1.put p o) d x)
theorem Walk.mono {C : Ct} {F F' : Fz} {xs : List D} {J : It} (w : Walk C F xs J) (s : Fsub F F') : Walk C F' xs J :=
  ⟨fun i F1 H h s1 => w.go i F1 H h (s.trans s1), fun F1 H s1 => w.stop F1 H (s.trans s1), fun i d F1 H x H' h s1 => w.yld i d F1 H x H' h (s.trans s1)⟩
abbrev Ms := Sl → G → Res (List D)
def tI (C : Ct) (Ow : List Nat) (m : Ms) : TI := fun σ H Rr => ∃ T F σe g xs g', R C Ow T F σe g σ H ∧ m σe g = .ok xs g' ∧ ∀ F' H' J, Fsub F F' → R C Ow T F' σe g' σ H' → Walk C F' xs J → Rr J H'
def itm (Φ : Fns) (k : Ik) (as : Exs) : Ms := fun σ g => (evs Φ as σ g).bind fun vs g => lift (itV k vs) g
structure Ei (X : Cx) (C : Ct) (Ow : List Nat) (tg iter : Expr) (k : Ik) (as : Exs) : Prop where
  run : PI X tg iter (tI C Ow (itm C.Φ k as))
theorem pi_con {X : Cx} {tg e : Expr} {t t' : TI} (h : PI X tg e t) (c : ∀ σ H Q, t' σ H Q → t σ H Q) : PI X tg e t' := ⟨fun pins s σ H Q I hw => h.run pins s σ H Q I (c σ H Q hw)⟩
theorem walk_list {C : Ct} {F : Fz} {xs : List D} {K : PySem.W.Frag} {a : Addr} {vs : List V} (hK : K = C.K) (h : F.h a = some (.lst vs)) (r : RelL C.K F xs vs) : Walk C F xs (Itl K a) := by
  refine ⟨fun i F1 H hi s sub => ?_, fun F1 H s sub => ?_, fun i d F1 H x H' hd s sub y => ?_⟩
  · obtain ⟨v, e, _⟩ := r.get (i := i) (d := xs[i]) (by simp [hi])
    exact ⟨vs, v, SqL.of (sub _ _ (s.h _ _ h)), e⟩
  · exact ⟨vs, SqL.of (sub _ _ (s.h _ _ h)), by rw [r.length]; exact Nat.le_refl _⟩
  · obtain ⟨e, y⟩ := y
    obtain ⟨v, e2, rv⟩ := r.get hd
    have z := y vs (SqL.of (sub _ _ (s.h _ _ h)))
    rw [e2] at z; cases z
    exact .inl ⟨e, rv.mono s _ _⟩
theorem walk_tup {C : Ct} {F : Fz} {xs : List D} {K : PySem.W.Frag} {a : Addr} {vs : List V} (hK : K = C.K) (h : SqT C.K F.h a vs) (r : RelL C.K F xs vs) : Walk C F xs (Itt K a) := by
  subst hK
  refine ⟨fun i F1 H hi s sub => ?_, fun F1 H s sub => ?_, fun i d F1 H x H' hd s sub y => ?_⟩
  · obtain ⟨v, e, _⟩ := r.get (i := i) (d := xs[i]) (by simp [hi])
    exact ⟨vs, v, sqT_mono sub (sqT_mono s.h h), e⟩
  · exact ⟨vs, sqT_mono sub (sqT_mono s.h h), by rw [r.length]; exact Nat.le_refl _⟩
  · obtain ⟨e, y⟩ := y
    obtain ⟨v, e2, rv⟩ := r.get hd
    have z := y vs (sqT_mono sub (sqT_mono s.h h))
    rw [e2] at z; cases z
    exact .inl ⟨e, rv.mono s _ _⟩
theorem walk_rng {C : Ct} {F : Fz} {lo : Int} {n : Nat} : Walk C F (rangeD lo n) (Itr lo n) := by
  have hl : (rangeD lo n).length = n := by unfold rangeD; rw [List.length_map, List.length_range]
  refine ⟨fun i F1 H hi s sub => ?_, fun F1 H s sub => ?_, fun i d F1 H x H' hd s sub y => ?_⟩
  · rw [hl] at hi; exact hi
  · rw [hl]; exact Nat.le_refl n
  · obtain ⟨e, y⟩ := y
    have hi : i < n := by
      have := (List.getElem?_eq_some_iff.mp hd).1
      rwa [hl] at this
    unfold rangeD at hd
    rw [List.getElem?_map, List.getElem?_range hi] at hd
    cases hd
    exact .inl ⟨e, by rw [y]; exact rel_int⟩
theorem walk_enum {C : Ct} {F : Fz} {xs : List D} {K : PySem.W.Frag} {a : Addr} {vs : List V} (h : F.h a = some (.lst vs)) (r : RelL C.K F xs vs) : Walk C F (xs.zipIdx.map fun p => .tuple [.int p.2, p.1]) (Ite K a) := by
  have hl : (xs.zipIdx.map fun p => (PyData.tuple [.int p.2, p.1] : D)).length = xs.length := by simp
  refine ⟨fun i F1 H hi s sub => ?_, fun F1 H s sub => ?_, fun i d F1 H x H' hd s sub y => ?_⟩
  · rw [hl] at hi
    obtain ⟨v, e, _⟩ := r.get (i := i) (d := xs[i]) (by simp [hi])
    exact ⟨vs, v, SqL.of (sub _ _ (s.h _ _ h)), e⟩
  · exact ⟨vs, SqL.of (sub _ _ (s.h _ _ h)), by rw [hl, r.length]; exact Nat.le_refl _⟩
  · obtain ⟨p, u, rfl, hn, e, y⟩ := y
    rw [List.getElem?_map, List.getElem?_zipIdx] at hd
    cases q : xs[i]? with
    | none => rw [q] at hd; cases hd
    | some d0 =>
      rw [q] at hd
      cases hd
      obtain ⟨v, e2, rv⟩ := r.get q
      have z := y vs (SqL.of (sub _ _ (s.h _ _ h)))
      rw [e2] at z; cases z
      refine .inr ⟨p, _, rfl, hn, e, fun hf => rel_tup hf (.cons ?_ (.cons (rv.mono s _ _) .nil))⟩
      simp only [Nat.zero_add]
      exact rel_int
theorem walk_zip {C : Ct} {F : Fz} {xs ys : List D} {K : PySem.W.Frag} {a b : Addr} {vs us : List V} (h : F.h a = some (.lst vs)) (r : RelL C.K F xs vs) (h2 : F.h b = some (.lst us)) (r2 : RelL C.K F ys us) : Walk C F ((xs.zip ys).map fun p => .tuple [p.1, p.2]) (Itz K a b) := by
  have hl : ((xs.zip ys).map fun p => (PyData.tuple [p.1, p.2] : D)).length = min xs.length ys.length := by simp
  refine ⟨fun i F1 H hi s sub => ?_, fun F1 H s sub => ?_, fun i d F1 H x H' hd s sub y => ?_⟩
  · rw [hl] at hi
    have i1 : i < xs.length := by omega
    have i2 : i < ys.length := by omega
    obtain ⟨v, e, _⟩ := r.get (i := i) (d := xs[i]) (by simp [i1])
    obtain ⟨u, e', _⟩ := r2.get (i := i) (d := ys[i]) (by simp [i2])
    exact ⟨vs, us, v, u, SqL.of (sub _ _ (s.h _ _ h)), SqL.of (sub _ _ (s.h _ _ h2)), e, e'⟩
  · refine ⟨vs, us, SqL.of (sub _ _ (s.h _ _ h)), SqL.of (sub _ _ (s.h _ _ h2)), ?_⟩
    rw [hl, ← r.length, ← r2.length]; omega
  · obtain ⟨p, u, u', rfl, hn, e, y, y'⟩ := y
    rw [List.getElem?_map] at hd
    cases q : (xs.zip ys)[i]? with
    | none => rw [q] at hd; cases hd
    | some d0 =>
      rw [q] at hd
      cases hd
      rw [List.getElem?_zip_eq_some] at q
      obtain ⟨v, e2, rv⟩ := r.get q.1
      obtain ⟨v', e2', rv'⟩ := r2.get q.2
      have z := y vs (SqL.of (sub _ _ (s.h _ _ h)))
      rw [e2] at z; cases z
      have z := y' us (SqL.of (sub _ _ (s.h _ _ h2)))
      rw [e2'] at z; cases z
      exact .inr ⟨p, _, rfl, hn, e, fun hf => rel_tup hf (.cons (rv.mono s _ _) (.cons (rv'.mono s _ _) .nil))⟩

/-! ### sources -/
section
variable {X : Cx} {C : Ct} {Ow : List Nat} {pos p : Pos} {tg e e2 : Expr} {i : Ex} {is : Exs}
/-- a list or a tuple -/
theorem pi_seq {tl : TE} (hl : PE X e tl) : PI X tg e (fun σ H Rr => tl σ H fun x H1 => (∃ a, x = .ref a ∧ (∃ xs, SqL X.K H1 a xs) ∧ Rr (Itl X.K a) H1) ∨ ∃ a, x = .ref a ∧ (∃ xs, SqT X.K H1 a xs) ∧ Rr (Itt X.K a) H1) := by
  refine ⟨fun pins s σ H R I h => ?_⟩
  refine thn (hl.run pins s σ H _ I h) fun v s1 ⟨x, H1, I1, r1, q1⟩ => ?_
  rcases q1 with ⟨a, e, ⟨xs, hq⟩, q⟩ | ⟨a, e, ⟨xs, hq⟩, q⟩
  · subst e
    cases r1
    obtain ⟨its, rv, p, hz⟩ := I1.list hq
    refine wpAny_pyIter_list p.isList ?_
    refine ⟨s1.heap.objs.size, [s1.heap.objs.size], _, _, H1, rfl, I1.kept (t' := s1.toks) fun b o e => Heap.get?_push_of_some _ e, turn_list a _, ⟨_, Heap.get?_push_size _ rfl, rfl, rfl⟩, fun b hb => ?_, q⟩
    have e : b = s1.heap.objs.size := by simpa using hb
    subst e
    exact I1.fpOk (Nat.le_refl _) (I1.hok.fresh (Nat.le_refl _))
  · subst e
    cases r1
    obtain ⟨its, rv, p, hz⟩ := I1.tuple hq
    refine wpAny_pyIter_tuple (show s1.heap.IsTuple a its.toArray from p) ?_
    refine ⟨s1.heap.objs.size, [s1.heap.objs.size], _, _, H1, rfl, I1.kept (t' := s1.toks) fun b o e => Heap.get?_push_of_some _ e, turn_tuple a _, ⟨_, Heap.get?_push_size _ rfl, rfl, rfl⟩, fun b hb => ?_, q⟩
    have e : b = s1.heap.objs.size := by simpa using hb
    subst e
    exact I1.fpOk (Nat.le_refl _) (I1.hok.fresh (Nat.le_refl _))
theorem itm1 {Φ : Fns} {k : Ik} {σe : Sl} {g g' : G} {xs : List D} (m : itm Φ k (.cons i .nil) σe g = .ok xs g') : ∃ v, ev Φ i σe g = .ok v g' ∧ itV k [v] = some xs := by
  unfold itm evs at m
  obtain ⟨vs, g1, m1, m⟩ := bind_eq_ok m
  obtain ⟨v, g2, m2, m1⟩ := bind_eq_ok m1
  obtain ⟨ws, g3, m3, m1⟩ := bind_eq_ok m1
  unfold evs at m3
  cases m3; cases m1
  obtain ⟨m4, e⟩ := lift_eq_ok m
  clear m
  subst e
  exact ⟨v, m2, m4⟩
theorem itm0 {Φ : Fns} {k : Ik} {σe : Sl} {g g' : G} {xs : List D} (m : itm Φ k is σe g = .ok xs g') : ∃ vs, evs Φ is σe g = .ok vs g' ∧ itV k vs = some xs := by
  unfold itm at m
  obtain ⟨vs, g1, m1, m2⟩ := bind_eq_ok m
  obtain ⟨m4, e⟩ := lift_eq_ok m2
  clear m m2
  subst e
  exact ⟨vs, m1, m4⟩
theorem itV_seq {v : D} {xs : List D} (h : itV .seq [v] = some xs) : v = .list xs ∨ v = .tuple xs := by
  cases v <;> simp [itV] at h
  · exact .inl (by rw [h])
  · exact .inr (by rw [h])
theorem itV_rng1 {vs xs : List D} (h : itV .rng1 vs = some xs) : ∃ j : Int, vs = [.int j] ∧ (-4611686018427387904 ≤ j ∧ j < 4611686018427387904) ∧ xs = rangeD 0 j.toNat := by
  rcases vs with _ | ⟨v, _ | ⟨w, r⟩⟩
  · simp [itV] at h
  · cases v <;> simp [itV] at h
    exact ⟨_, rfl, ⟨h.1.2, h.1.1⟩, h.2.symm⟩
  · simp [itV] at h
theorem itV_rng2 {vs xs : List D} (h : itV .rng2 vs = some xs) : ∃ i j : Int, vs = [.int i, .int j] ∧ (-4611686018427387904 ≤ i ∧ i < 4611686018427387904 ∧ -4611686018427387904 ≤ j ∧ j < 4611686018427387904) ∧ xs = rangeD i (j - i).toNat := by
  rcases vs with _ | ⟨v, _ | ⟨w, _ | ⟨u, r⟩⟩⟩
  · simp [itV] at h
  · simp [itV] at h
  · cases v <;> cases w <;> simp [itV] at h
    exact ⟨_, _, rfl, ⟨h.1.1.1.1, h.1.1.1.2, h.1.1.2, h.1.2⟩, h.2.symm⟩
  · simp [itV] at h
theorem itV_enum {vs xs : List D} (h : itV .enum vs = some xs) : ∃ ys, vs = [.list ys] ∧ xs = ys.zipIdx.map fun p => .tuple [.int p.2, p.1] := by
  rcases vs with _ | ⟨v, _ | ⟨w, r⟩⟩
  · simp [itV] at h
  · cases v <;> simp [itV] at h
    exact ⟨_, rfl, h.symm⟩
  · simp [itV] at h
theorem itV_zip {vs xs : List D} (h : itV .zip vs = some xs) : ∃ ys zs, vs = [.list ys, .list zs] ∧ xs = (ys.zip zs).map fun p => .tuple [p.1, p.2] := by
  rcases vs with _ | ⟨v, _ | ⟨w, _ | ⟨u, r⟩⟩⟩
  · simp [itV] at h
  · simp [itV] at h
  · cases v <;> cases w <;> simp [itV] at h
    exact ⟨_, _, rfl, h.2.symm⟩
  · simp [itV] at h
theorem Ei.seq (hK : X.K = C.K) (h : Es X C Ow e i) : Ei X C Ow tg e .seq (.cons i .nil) :=
  ⟨pi_con (pi_seq h.run) fun σ H Q ⟨T, F, σe, g, xs, g', r, m, q⟩ => by
    obtain ⟨v, m1, m2⟩ := itm1 m
    refine ⟨T, F, σe, g, v, g', r, m1, fun F1 H1 x s1 r1 h1 => ?_⟩
    rcases itV_seq m2 with e | e
    · subst e
      unfold Rel at h1
      obtain ⟨a, vs, rfl, ha, rl⟩ := h1
      exact .inl ⟨a, rfl, ⟨vs, SqL.of (r1.sub _ _ ha)⟩, q F1 H1 _ s1 r1 (walk_list hK ha rl)⟩
    · subst e
      unfold Rel at h1
      obtain ⟨a, vs, rfl, ha, rl⟩ := h1
      exact .inr ⟨a, rfl, ⟨vs, by rw [hK]; exact sqT_mono r1.sub ha⟩, q F1 H1 _ s1 r1 (walk_tup hK ha rl)⟩⟩
theorem Ei.rng1 (hg : Gl X "range") (hm : X.mg "range" = none) (ha : Ea X C Ow [e] is) (hs : starEach [e] X.env = [(false, eval e X.env)]) : Ei X C Ow tg (.Call (.Name "range" p) [e] [] pos) .rng1 is :=
  ⟨pi_con (pi_range1 hg hm ha.run hs) fun σ H Q ⟨T, F, σe, g, xs, g', r, m, q⟩ => by
    obtain ⟨vs, m1, m2⟩ := itm0 m
    obtain ⟨j, e1, hc, e2⟩ := itV_rng1 m2
    subst e1; subst e2
    refine ⟨T, F, σe, g, _, g', r, m1, fun F1 H1 ys s1 r1 h1 => ?_⟩
    obtain ⟨y, yr, rfl, e1, e2⟩ := h1.inv
    unfold Rel at e1
    rw [e1, e2.inv0]
    exact ⟨j, rfl, by omega, by omega, q F1 H1 _ s1 r1 walk_rng⟩⟩
theorem Ei.rng2 (hg : Gl X "range") (hm : X.mg "range" = none) (ha : Ea X C Ow [e, e2] is) (hs : starEach [e, e2] X.env = [(false, eval e X.env), (false, eval e2 X.env)]) (hs2 : starEach [e2] X.env = [(false, eval e2 X.env)]) : Ei X C Ow tg (.Call (.Name "range" p) [e, e2] [] pos) .rng2 is :=
  ⟨pi_con (pi_range2 hg hm ha.run hs hs2) fun σ H Q ⟨T, F, σe, g, xs, g', r, m, q⟩ => by
    obtain ⟨vs, m1, m2⟩ := itm0 m
    obtain ⟨j, k, e1, hc, e2⟩ := itV_rng2 m2
    subst e1; subst e2
    refine ⟨T, F, σe, g, _, g', r, m1, fun F1 H1 ys s1 r1 h1 => ?_⟩
    obtain ⟨y, yr, rfl, e1, e2⟩ := h1.inv
    obtain ⟨z, zr, rfl, e3, e4⟩ := e2.inv
    unfold Rel at e1 e3
    rw [e1, e3, e4.inv0]
    exact ⟨j, k, rfl, ⟨by omega, by omega, by omega, by omega⟩, q F1 H1 _ s1 r1 walk_rng⟩⟩
theorem Ei.enum {elts : List Expr} {kk : Nat} {tpos : Pos} (hK : X.K = C.K) (hg : Gl X "enumerate") (hm : X.mg "enumerate" = none) (ha : Ea X C Ow [e] is) (hs : starEach [e] X.env = [(false, eval e X.env)]) : Ei X C Ow (.Tuple elts kk tpos) (.Call (.Name "enumerate" p) [e] [] pos) .enum is :=
  ⟨pi_con (pi_enum hg hm ha.run hs) fun σ H Q ⟨T, F, σe, g, xs, g', r, m, q⟩ => by
    obtain ⟨vs, m1, m2⟩ := itm0 m
    obtain ⟨ds, e1, e2⟩ := itV_enum m2
    subst e1; subst e2
    refine ⟨T, F, σe, g, _, g', r, m1, fun F1 H1 ys s1 r1 h1 => ?_⟩
    obtain ⟨y, yr, rfl, e1, e2⟩ := h1.inv
    unfold Rel at e1
    obtain ⟨a, us, rfl, ha, rl⟩ := e1
    rw [e2.inv0]
    exact ⟨a, us, rfl, SqL.of (r1.sub _ _ ha), q F1 H1 _ s1 r1 (walk_enum ha rl)⟩⟩
theorem Ei.zip {elts : List Expr} {kk : Nat} {tpos : Pos} (hK : X.K = C.K) (hg : Gl X "zip") (hm : X.mg "zip" = none) (ha : Ea X C Ow [e, e2] is) (hs : starEach [e, e2] X.env = (false, eval e X.env) :: starEach [e2] X.env) (hpl : (backTo pos (starEach [e2] X.env)).any (·.1) = false) : Ei X C Ow (.Tuple elts kk tpos) (.Call (.Name "zip" p) [e, e2] [] pos) .zip is :=
  ⟨pi_con (pi_zip hg hm ha.run hs hpl) fun σ H Q ⟨T, F, σe, g, xs, g', r, m, q⟩ => by
    obtain ⟨vs, m1, m2⟩ := itm0 m
    obtain ⟨ds, es, e1, e2⟩ := itV_zip m2
    subst e1; subst e2
    refine ⟨T, F, σe, g, _, g', r, m1, fun F1 H1 ys s1 r1 h1 => ?_⟩
    obtain ⟨y, yr, rfl, e1, e2⟩ := h1.inv
    obtain ⟨z, zr, rfl, e3, e4⟩ := e2.inv
    unfold Rel at e1 e3
    obtain ⟨a, us, rfl, ha, rl⟩ := e1
    obtain ⟨b, ws, rfl, hb, rl2⟩ := e3
    rw [e4.inv0]
    exact ⟨a, b, us, ws, rfl, SqL.of (r1.sub _ _ ha), SqL.of (r1.sub _ _ hb), q F1 H1 _ s1 r1 (walk_zip ha rl hb rl2)⟩⟩

/-! ### comprehensions -/
/-- the tests of a clause: none, or one -/
structure Ec (X : Cx) (C : Ct) (Ow : List Nat) (ifs : List Expr) (i : Ex) : Prop where
  run : PTs X ifs (tT C Ow (ev C.Φ i))
theorem pts_con {X : Cx} {es : List Expr} {t t' : TT} (h : PTs X es t) (c : ∀ σ H Q, t' σ H Q → t σ H Q) : PTs X es t' := ⟨fun pins s σ H Q I hw => h.run pins s σ H Q I (c σ H Q hw)⟩
theorem Ec.none : Ec X C Ow [] (.c (.bool true)) := ⟨pts_con pts_nil fun σ H Q ⟨T, F, σe, g, b, g', r, m, q⟩ => by
  unfold ev at m
  cases m
  exact q F H (.refl F) r⟩
theorem Ec.one (h : Et X C Ow e i) : Ec X C Ow [e] i := ⟨pts_one h.run⟩
/-- what a turn of a comprehension reckons -/
def cturn (Φ : Fns) (t : List Nat) (cond elt : Ex) (σ : Sl) : D → G → Res (Option D) := fun x g => (lift (setT t x (wipeS σ t)) g).bind fun σ' g => (ev Φ cond σ' g).bind fun b g => match b with
  | .bool true => (ev Φ elt σ' g).bind fun v g => .ok (some v) g
  | .bool false => .ok none g
  | _ => .no
theorem comp_eq {Φ : Fns} {t : List Nat} {k : Ik} {as : Exs} {cond elt : Ex} {σ : Sl} {g g' : G} {v : D} (m : ev Φ (.comp t k as cond elt) σ g = .ok v g') :
    ∃ xs ys g1, itm Φ k as σ g = .ok xs g1 ∧ xs.length ≤ lineN ∧ compL (cturn Φ t cond elt σ) xs [] g1 = .ok ys g' ∧ v = .list ys := by
  unfold ev at m
  obtain ⟨vs, g1, m1, m⟩ := bind_eq_ok m
  obtain ⟨xs, g2, m2, m⟩ := bind_eq_ok m
  split at m
  · rename_i hl
    obtain ⟨ys, g3, m3, m⟩ := bind_eq_ok m
    cases m
    refine ⟨xs, ys, g2, ?_, of_decide_eq_true hl, m3, rfl⟩
    unfold itm
    rw [m1]; exact m2
  · cases m
theorem compL_len (f : D → G → Res (Option D)) : ∀ (xs acc : List D) (g g' : G) (ys : List D), compL f xs acc g = .ok ys g' → ys.length ≤ acc.length + xs.length
  | [], acc, g, g', ys, h => by
    unfold compL at h
    cases h
    rw [List.length_reverse]; exact Nat.le_add_right _ _
  | x :: r, acc, g, g', ys, h => by
    unfold compL at h
    obtain ⟨o, g1, h1, h⟩ := bind_eq_ok h
    cases o with
    | none => have := compL_len f r acc _ _ _ h; rw [List.length_cons]; omega
    | some y => have := compL_len f r _ _ _ _ h; rw [List.length_cons] at *; omega
theorem setMany_out : ∀ (t : List Nat) (vs : List D) (σ σ' : Sl) (i : Nat), setMany t vs σ = some σ' → i ∉ t → σ'[i]? = σ[i]?
  | [], [], σ, σ', i, h, _ => by cases h; rfl
  | [], _ :: _, σ, σ', i, h, _ => by cases h
  | _ :: _, [], σ, σ', i, h, _ => by cases h
  | j :: t, v :: vs, σ, σ', i, h, hi => by
    rw [setMany_out t vs _ _ i h fun z => hi (List.mem_cons_of_mem _ z)]
    exact List.getElem?_set_ne (fun z : j = i => hi (by rw [z]; exact List.mem_cons_self))
theorem setT_out {t : List Nat} {v : D} {σ σ' : Sl} {i : Nat} (h : setT t v σ = some σ') (hi : i ∉ t) : σ'[i]? = σ[i]? := by
  unfold setT at h
  split at h
  · cases h
    refine List.getElem?_set_ne fun z => hi ?_
    rw [z]; exact List.mem_cons_self
  · exact setMany_out _ _ _ _ _ h hi
  · cases h
theorem wipeS_out {σ : Sl} {i : Nat} : ∀ {t : List Nat}, i ∉ t → (wipeS σ t)[i]? = σ[i]?
  | [], _ => rfl
  | j :: t, h => by
    show ((wipeS σ t).set j none)[i]? = _
    rw [List.getElem?_set_ne (show j ≠ i from fun z => h (by rw [z]; exact List.mem_cons_self))]
    exact wipeS_out fun z => h (List.mem_cons_of_mem _ z)
theorem wipe_out2 {σ : L2.St} {i : Nat} : ∀ {t : List Nat}, i ∉ t → (L2.wipe σ t)[i]? = σ[i]?
  | [], _ => rfl
  | j :: t, h => by
    show ((L2.wipe σ t).set j none)[i]? = _
    rw [List.getElem?_set_ne (show j ≠ i from fun z => h (by rw [z]; exact List.mem_cons_self))]
    exact wipe_out2 fun z => h (List.mem_cons_of_mem _ z)
/-- back to the slots as they stood, but for those of t -/
theorem R.back {T T' : Hp} {F F5 : Fz} {σe σ' : Sl} {g g5 : G} {σ σ2 : L2.St} {H H5 : Hp} {t : List Nat} (r : R C Ow T F σe g σ H) (r5 : R C Ow T' F5 σ' g5 σ2 H5) (s : Fsub F F5) (out : ∀ i, i ∉ t → σ'[i]? = σe[i]? ∧ σ2[i]? = σ[i]?) (ht : ∀ i ∈ t, i ∉ Ow) : R C Ow T' F5 σe g5 σ H5 := by
  have no : ∀ i, i ∈ Ow → i ∉ t := fun i hi z => ht i z hi
  refine ⟨r5.sub, r5.sc, r5.grow, r5.new, r5.keep, r5.dnew, r.len, fun i v e n => ?_, fun i v e n => ?_, fun i j a hi hj h1 h2 q1 q2 => ?_, r5.dk, fun a o e => ?_⟩
  · obtain ⟨x, e1, e2⟩ := r.fz i v e n
    exact ⟨x, e1, e2.mono s _ _⟩
  · obtain ⟨o1, o2⟩ := out i (no i n)
    obtain ⟨a, e1, e2⟩ := r5.ow i v (o1.trans e) n
    exact ⟨a, o2.symm.trans e1, e2⟩
  · obtain ⟨o1, o2⟩ := out i (no i hi)
    obtain ⟨o3, o4⟩ := out j (no j hj)
    exact r5.inj i j a hi hj (by rw [o1]; exact h1) (by rw [o3]; exact h2) (o2.trans q1) (o4.trans q2)
  · obtain ⟨e1, e2, e3, e4, e5⟩ := r5.hold a o e
    refine ⟨e1, e2, e3, e4, fun j v hj q => ?_⟩
    obtain ⟨o1, o2⟩ := out j (no j hj)
    rw [← o2]
    exact e5 j v hj (o1.trans q)
/-- the reading of a comprehension -/
theorem lc_run {elt cond : Ex} {t : List Nat} {k : Ik} {is : Exs} {σ : L2.St} {H : Hp} {Q : VK} (ht : ∀ i ∈ t, i ∉ Ow) (h : tF C Ow (ev C.Φ (.comp t k is cond elt)) σ H Q) :
    tLc (tI C Ow (itm C.Φ k is)) (gS C Ow t) (tT C Ow (ev C.Φ cond)) (tS C Ow (ev C.Φ elt)) t σ H Q := by
  obtain ⟨T, F, σe, g, v, g', r, m, q⟩ := h
  obtain ⟨xs, ys, g1, m1, hl, m2, rfl⟩ := comp_eq m
  refine ⟨T, F, σe, g, xs, g1, r, m1, fun F1 H1 J s1 r1 w => fun D hD => ?_⟩
  refine ⟨fun i m H => ∃ F2 g2 acc vs, m + i = xs.length ∧ Fsub F1 F2 ∧ R C Ow (upd T D (.lst vs)) F2 σe g2 σ H ∧ RelL C.K F2 acc.reverse vs ∧ acc.length ≤ i ∧ compL (cturn C.Φ t cond elt σe) (xs.drop i) acc g2 = .ok ys g', ⟨xs.length, F1, g1, [], [], rfl, .refl _, r1.take hD, .nil, Nat.le_refl _, by rw [List.drop_zero]; exact m2⟩, ?_⟩
  rintro i m H ⟨F2, g2, acc, vs, hm, s2, r2, ra, hacc, hc⟩
  have holdD : (upd T D (.lst vs)) D = some (.lst vs) := upd_same
  have tD : T D = none := r1.tn hD
  by_cases hi : i < xs.length
  · refine .inr ⟨w.go i F2 H hi s2 r2.sub, fun H => ∃ m', m' < m ∧ (∃ F2 g2 acc vs, m' + (i + 1) = xs.length ∧ Fsub F1 F2 ∧ R C Ow (upd T D (.lst vs)) F2 σe g2 σ H ∧ RelL C.K F2 acc.reverse vs ∧ acc.length ≤ i + 1 ∧ compL (cturn C.Φ t cond elt σe) (xs.drop (i + 1)) acc g2 = .ok ys g'), fun H' h => h, fun x H' hy => ?_⟩
    have hd : xs[i]? = some xs[i] := List.getElem?_eq_getElem hi
    rw [List.drop_eq_getElem_cons hi] at hc
    unfold compL at hc
    obtain ⟨o, g3, hc1, hc2⟩ := bind_eq_ok hc
    unfold cturn at hc1
    obtain ⟨σ', g4, hc3, hc4⟩ := bind_eq_ok hc1
    obtain ⟨hc5, e⟩ := lift_eq_ok hc3
    subst e
    obtain ⟨b, g5, hc6, hc7⟩ := bind_eq_ok hc4
    -- the item
    obtain ⟨F3, s3, r3, rx⟩ : ∃ F3, Fsub F2 F3 ∧ R C Ow (upd T D (.lst vs)) F3 σe g4 σ H' ∧ Rel C.K F3 xs[i] x := by
      rcases w.yld i _ F2 H x H' hd s2 r2.sub hy with ⟨e, rx⟩ | ⟨p, o', rfl, hn, e, rx⟩
      · subst e; exact ⟨F2, .refl _, r2, rx⟩
      · subst e; exact ⟨F2.put p o', Fsub.put (r2.fn hn), r2.laid hn, rx (r2.fn hn)⟩
    refine ⟨_, F3, _, g4, xs[i], σ', r3.wipe t ht, rx, hc5, fun σ2 r4 w2 => ⟨by rw [w2, wipe_wipe t t fun _ h => h], ?_⟩⟩
    have out : ∀ i, i ∉ t → σ'[i]? = σe[i]? ∧ σ2[i]? = σ[i]? := fun i hi => ⟨(setT_out hc5 hi).trans (wipeS_out hi), by
      have z : (L2.wipe σ2 t)[i]? = (L2.wipe (L2.wipe σ t) t)[i]? := by rw [w2]
      rw [wipe_out2 hi, wipe_out2 hi, wipe_out2 hi] at z
      exact z⟩
    split at hc7
    · obtain ⟨y, g6, hc8, hc9⟩ := bind_eq_ok hc7
      injection hc9 with e1 e2
      subst e1; subst e2
      refine ⟨_, F3, σ', _, true, g5, r4, hc6, fun F5 H5 s5 r5 => iteT ⟨_, F5, σ', g5, y, _, r5, hc8, fun F6 H6 yv s6 r6 ry => ?_⟩⟩
      have r7 := r3.back (t := t) r6 (s5.trans s6) out ht
      have hh := r7.hold D _ holdD
      refine ⟨vs, hh.1, ?_, m - 1, by omega, F6, _, y :: acc, vs ++ [yv], by omega, s2.trans (s3.trans (s5.trans s6)), ?_, ?_, by rw [List.length_cons]; omega, hc2⟩
      · have e1 := ra.length
        rw [List.length_reverse] at e1
        rw [← e1]
        exact lineN_lt (by omega)
      · have z := r7.held (o' := .lst (vs ++ [yv])) holdD
        rw [upd_upd] at z
        exact z
      · rw [List.reverse_cons]
        exact (ra.mono (s3.trans (s5.trans s6)) _ _).append (.cons ry .nil)
    · cases hc7
      refine ⟨_, F3, σ', _, false, _, r4, hc6, fun F5 H5 s5 r5 => iteF ?_⟩
      have r7 := r3.back (t := t) r5 s5 out ht
      exact ⟨m - 1, by omega, F5, _, acc, vs, by omega, s2.trans (s3.trans s5), r7, ra.mono (s3.trans s5) _ _, by omega, hc2⟩
    · cases hc7
  · have e : i = xs.length := by omega
    subst e
    rw [List.drop_length] at hc
    unfold compL at hc
    cases hc
    refine .inl ⟨w.stop F2 H s2 r2.sub, ?_⟩
    have hh := r2.hold D _ holdD
    refine q F2 H D (s1.trans s2) (r2.letgo fun a o e => ?_) ⟨⟨vs, hh.1, ra⟩, hh.2.1, hh.2.2.1, hh.2.2.2.1, hh.2.2.2.2, tD⟩
    have ne : a ≠ D := fun z => by rw [z, tD] at e; cases e
    rw [upd_ne ne]; exact e
theorem Ef.comp {elt iter : Expr} {ifs : List Expr} {scope : Scope} {own : List (Str × Nat)} {t : List Nat} {k : Ik} {cond ei : Ex} (hc : X.calm = true) (hN : X.N.Nodup) (hi : Ei X C Ow tg iter k is) (ok : BlkOk X.N X.env.scope scope own) (hown : own.map (·.2) = t)
    (hg : ∀ (s : Shared) (H : Hp) (A : Addr) (cl : List (Str × Addr)) (fp : List Addr), Eg (X.blk s H scope (compEnvC scope cl A X.env) fp) C Ow tg t)
    (ht : ∀ (s : Shared) (H : Hp) (A : Addr) (cl : List (Str × Addr)) (fp : List Addr), Ec (X.blk s H scope (compEnvC scope cl A X.env) fp) C Ow ifs cond)
    (he : ∀ (s : Shared) (H : Hp) (A : Addr) (cl : List (Str × Addr)) (fp : List Addr), Es (X.blk s H scope (compEnvC scope cl A X.env) fp) C Ow elt ei)
    (hs : ∀ x, foldedSetIterable iter X.env x = pure x) (hno : ∀ i ∈ t, i ∉ Ow) : Ef X C Ow (.ListComp elt [⟨tg, iter, ifs, 0⟩] scope pos) (.comp t k is cond ei) :=
  ⟨pe_con (pe_lc hc hN hi.run ok (fun s H A cl fp => (hg s H A cl fp).run) (fun s H A cl fp => (ht s H A cl fp).run) (fun s H A cl fp => (he s H A cl fp).run) hs) fun σ H Q h => by
    rw [hown]
    exact lc_run hno h⟩
end
end Pv
end

section
/-! PvG: the rules for statements. -/
set_option autoImplicit false
namespace Pv
open PySem PySem.Spec PyProof.Rows L2

abbrev Mf := Sl → G → Res Fl
def EndOk (C : Ct) (T : Hp) (Ow' OwL : List Nat) (F : Fz) (g' : G) (D : Ends) : Fl → Prop
  | .nx σe' => ∀ F' σ' H', Fsub F F' → R C Ow' T F' σe' g' σ' H' → D.nx σ' H'
  | .bk σe' => ∀ F' σ' H', Fsub F F' → R C OwL T F' σe' g' σ' H' → D.bk σ' H'
  | .ct σe' => ∀ F' σ' H', Fsub F F' → R C OwL T F' σe' g' σ' H' → D.ct σ' H'
  | .rt v => ∀ F' Ow2 σe2 σ2 H' x, Fsub F F' → R C Ow2 T F' σe2 g' σ2 H' → Rel C.K F' v x → D.rt x H'
def tSt (C : Ct) (Ow Ow' OwL : List Nat) (m : Mf) : TS := fun D σ H => ∃ T F σe g fl g', R C Ow T F σe g σ H ∧ m σe g = .ok fl g' ∧ EndOk C T Ow' OwL F g' D fl
structure Ss (X : Cx) (C : Ct) (Ow Ow' OwL : List Nat) (st : Stmt) (m : Sm) : Prop where
  run : PS X st (tSt C Ow Ow' OwL (run C.Φ C.fu m))
structure Sb (X : Cx) (C : Ct) (Ow Ow' OwL : List Nat) (sts : List Stmt) (m : Sm) : Prop where
  run : PSs X sts (tSt C Ow Ow' OwL (Pv.run C.Φ C.fu m))
theorem EndOk.mono {C : Ct} {T : Hp} {Ow' OwL : List Nat} {F F1 : Fz} {g' : G} {D : Ends} (s : Fsub F F1) : ∀ {fl : Fl}, EndOk C T Ow' OwL F g' D fl → EndOk C T Ow' OwL F1 g' D fl
  | .nx _, h => fun F' σ' H' s' r => h F' σ' H' (s.trans s') r
  | .bk _, h => fun F' σ' H' s' r => h F' σ' H' (s.trans s') r
  | .ct _, h => fun F' σ' H' s' r => h F' σ' H' (s.trans s') r
  | .rt _, h => fun F' Ow2 σe2 σ2 H' x s' r q => h F' Ow2 σe2 σ2 H' x (s.trans s') r q

section
variable {C : Ct} {Ow Ow2 : List Nat} {T : Hp} {F F' : Fz} {σe σe' : Sl} {g g' : G} {σ : L2.St} {H H' : Hp} {v v' : D} {x : V}
theorem R.congr (r : R C Ow T F σe g σ H) (h : ∀ j, j ∈ Ow ↔ j ∈ Ow2) : R C Ow2 T F σe g σ H :=
  ⟨r.sub, r.sc, r.grow, r.new, r.keep, r.dnew, r.len, fun i v e n => r.fz i v e fun z => n ((h i).mp z), fun i v e n => r.ow i v e ((h i).mpr n), fun i j a hi hj => r.inj i j a ((h i).mpr hi) ((h j).mpr hj), r.dk,
    fun a o e => let ⟨e1, e2, e3, e4, e5⟩ := r.hold a o e; ⟨e1, e2, e3, e4, fun i v hi => e5 i v ((h i).mpr hi)⟩⟩
theorem R.dropAll : ∀ (L : List Nat) {F : Fz}, R C (L ++ Ow2) T F σe g σ H → ∃ F', Fsub F F' ∧ R C Ow2 T F' σe g σ H
  | [], F, r => ⟨F, .refl F, r⟩
  | i :: L, F, r => by
    by_cases h : i ∈ L ++ Ow2
    · have r' : R C (L ++ Ow2) T F σe g σ H := R.congr (Ow := i :: (L ++ Ow2)) r fun j => by
        rw [List.mem_cons]
        constructor
        · rintro (rfl | z)
          · exact h
          · exact z
        · exact .inr
      exact r'.dropAll L
    · have r0 : R C (i :: (L ++ Ow2)) T F σe g σ H := r
      obtain ⟨F1, s1, r1⟩ := r0.drop h
      obtain ⟨F2, s2, r2⟩ := r1.dropAll L
      exact ⟨F2, s1.trans s2, r2⟩
theorem R.less (r : R C Ow T F σe g σ H) (h : ∀ j ∈ Ow2, j ∈ Ow) : ∃ F', Fsub F F' ∧ R C Ow2 T F' σe g σ H :=
  R.dropAll Ow (r.congr fun j => by
    rw [List.mem_append]
    exact ⟨.inl, fun z => z.elim id (h j)⟩)
/-- what a name holds alone is changed -/
theorem R.write {i : Nat} {a : Addr} {o' : HO} (r : R C Ow T F σe g σ H) (hi : i ∈ Ow) (e : σe[i]? = some (some v)) (ea : σ[i]? = some (some (V.ref a))) (h : OwnAt C.K F (upd H a o') v' a) : R C Ow T F (σe.set i (some v')) g σ (upd H a o') := by
  obtain ⟨b, e1, e2, e3, e4, e5⟩ := r.ow i v e hi
  rw [ea] at e1
  have e1 : V.ref a = V.ref b := Option.some.inj (Option.some.inj e1)
  cases e1
  have hl : i < σe.length := (List.getElem?_eq_some_iff.mp e).1
  have there : ∀ {j : Nat}, (∃ w, (σe.set i (some v'))[j]? = some (some w)) → ∃ w, σe[j]? = some (some w) := fun {j} ⟨w, q⟩ => by
    by_cases hj : j = i
    · exact ⟨v, hj ▸ e⟩
    · rw [List.getElem?_set_ne (Ne.symm hj)] at q; exact ⟨w, q⟩
  refine ⟨fun c u q => ?_, r.sc, r.grow, r.new, fun c u q => ?_, r.dnew, by rw [List.length_set]; exact r.len, fun j w q n => ?_, fun j w q n => ?_, fun j k c hj hk h1 h2 => r.inj j k c hj hk (there h1) (there h2), ?_, fun c u q => ?_⟩
  · have ne : c ≠ a := fun z => by rw [z, e4] at q; cases q
    rw [upd_ne ne]; exact r.sub c u q
  · have ne : c ≠ a := fun z => by rw [z, e3] at q; cases q
    rw [upd_ne ne]; exact r.keep c u q
  · have hj : j ≠ i := fun z => n (z ▸ hi)
    rw [List.getElem?_set_ne (Ne.symm hj)] at q
    exact r.fz j w q n
  · by_cases hj : j = i
    · subst hj
      rw [List.getElem?_set_self hl] at q
      cases q
      exact ⟨a, ea, h, e3, e4, e5⟩
    · rw [List.getElem?_set_ne (Ne.symm hj)] at q
      obtain ⟨c, q1, q2, q3, q4, q5⟩ := r.ow j w q n
      have ne : c ≠ a := fun z => hj (r.inj j i a n hi ⟨w, q⟩ ⟨v, e⟩ (z ▸ q1) ea)
      exact ⟨c, q1, q2.move (.refl F) fun u z => by rw [upd_ne ne]; exact z, q3, q4, q5⟩
  · have dk := r.dk
    cases g with
    | none => exact dk
    | some st =>
      obtain ⟨d, l, z, ne, f1, f2, hl, hd⟩ := dk
      have n1 : d ≠ a := fun y => e5 ⟨d, l, z, .inl y.symm⟩
      have n2 : l ≠ a := fun y => e5 ⟨d, l, z, .inr y.symm⟩
      exact ⟨d, l, z, ne, f1, f2, (upd_ne n2).trans hl, (upd_ne n1).trans hd⟩
  · obtain ⟨q1, q2, q3, q4, q5⟩ := r.hold c u q
    have ne : c ≠ a := fun z => q5 i v hi e (z ▸ ea)
    refine ⟨(upd_ne ne).trans q1, q2, q3, q4, fun j w hj z => ?_⟩
    obtain ⟨w', z'⟩ := there ⟨w, z⟩
    exact q5 j w' hj z'
/-- a name is given a new thing to hold alone -/
theorem R.own {i : Nat} {a : Addr} (r : R C Ow T F σe g σ H) (n : New C Ow T F σe σ H v a) : R C (i :: Ow) T F (σe.set i (some v)) g (σ.set i (some (V.ref a))) H := by
  obtain ⟨o0, eo⟩ := n.at_.there
  refine ⟨r.sub, r.sc, r.grow, r.new, r.keep, r.dnew, by rw [List.length_set, List.length_set]; exact r.len, fun j w e hj => ?_, fun j w e hj => ?_, fun j k c hj hk h1 h2 q1 q2 => ?_, r.dk, fun c o e => ?_⟩
  · have n1 : j ≠ i := fun z => hj (z ▸ List.mem_cons_self)
    have n2 : j ∉ Ow := fun z => hj (List.mem_cons_of_mem _ z)
    rw [List.getElem?_set_ne (Ne.symm n1)] at e
    obtain ⟨y, e1, e2⟩ := r.fz j w e n2
    exact ⟨y, by rw [List.getElem?_set_ne (Ne.symm n1)]; exact e1, e2⟩
  · by_cases hji : j = i
    · subst hji
      have hl : j < σe.length := by
        have := (List.getElem?_eq_some_iff.mp e).1
        rwa [List.length_set] at this
      rw [List.getElem?_set_self hl] at e
      cases e
      exact ⟨a, by rw [List.getElem?_set_self (r.len ▸ hl)], n.at_, n.h0, n.fn, n.nd⟩
    · rw [List.getElem?_set_ne (Ne.symm hji)] at e
      obtain ⟨c, e1, e2⟩ := r.ow j w e ((List.mem_cons.mp hj).resolve_left hji)
      exact ⟨c, by rw [List.getElem?_set_ne (Ne.symm hji)]; exact e1, e2⟩
  · have one : ∀ j, j ∈ i :: Ow → j ≠ i → (∃ w, (σe.set i (some v))[j]? = some (some w)) → (σ.set i (some (V.ref a)))[j]? = some (some (V.ref c)) → j ∈ Ow ∧ (∃ w, σe[j]? = some (some w)) ∧ σ[j]? = some (some (V.ref c)) := fun j hj hji ⟨w, h⟩ q => by
      rw [List.getElem?_set_ne (Ne.symm hji)] at h q
      exact ⟨(List.mem_cons.mp hj).resolve_left hji, ⟨w, h⟩, q⟩
    have self : (σ.set i (some (V.ref a)))[i]? = some (some (V.ref c)) → c = a := fun q => by
      have hl : i < σ.length := by
        have := (List.getElem?_eq_some_iff.mp q).1
        rwa [List.length_set] at this
      rw [List.getElem?_set_self hl] at q
      cases q; rfl
    by_cases hji : j = i
    · by_cases hki : k = i
      · exact hji.trans hki.symm
      · subst hji
        have z := self q1
        obtain ⟨z1, ⟨w, z2⟩, z3⟩ := one k hk hki h2 q2
        exact (n.no k w z1 z2 (z ▸ z3)).elim
    · obtain ⟨z1, ⟨w, z2⟩, z3⟩ := one j hj hji h1 q1
      by_cases hki : k = i
      · subst hki
        have z := self q2
        exact (n.no j w z1 z2 (z ▸ z3)).elim
      · obtain ⟨y1, y2, y3⟩ := one k hk hki h2 q2
        exact r.inj j k c z1 y1 ⟨w, z2⟩ y2 z3 y3
  · obtain ⟨e1, e2, e3, e4, e5⟩ := r.hold c o e
    refine ⟨e1, e2, e3, e4, fun j w hj q => ?_⟩
    by_cases hji : j = i
    · subst hji
      have hl : j < σe.length := by
        have := (List.getElem?_eq_some_iff.mp q).1
        rwa [List.length_set] at this
      rw [List.getElem?_set_self (r.len ▸ hl)]
      intro z
      cases z
      rw [n.nt] at e; cases e
    · rw [List.getElem?_set_ne (Ne.symm hji)] at q ⊢
      exact e5 j w ((List.mem_cons.mp hj).resolve_left hji) q
end

section
variable {X : Cx} {C : Ct} {Ow Ow' Ow1 Ow2 OwL : List Nat} {st : Stmt} {rest sts : List Stmt} {e : Expr} {i ie : Ex} {m m' : Sm} {pos pos' : Pos}
/-! ### blocks -/
theorem Sb.nil : Sb X C Ow Ow OwL [] .skip := ⟨pss_con pss_nil fun D σ H ⟨T, F, σe, g, fl, g', r, m, q⟩ => by
  unfold Pv.run at m
  cases m
  exact q F σ H (.refl F) r⟩
theorem Sb.one (h : Ss X C Ow Ow' OwL st m) : Sb X C Ow Ow' OwL [st] m := ⟨pss_one h.run⟩
theorem Sb.cons (h : Ss X C Ow Ow1 OwL st m) (h2 : Sb X C Ow1 Ow' OwL rest m') : Sb X C Ow Ow' OwL (st :: rest) (.seq m m') :=
  ⟨pss_con (pss_cons h.run h2.run) fun D σ H ⟨T, F, σe, g, fl, g', r, m, q⟩ => by
    unfold Pv.run at m
    obtain ⟨fl1, g1, m1, m2⟩ := bind_eq_ok m
    cases fl1 with
    | nx σ1 => exact ⟨T, F, σe, g, .nx σ1, g1, r, m1, fun F1 σ' H1 s1 r1 => ⟨T, F1, σ1, g1, fl, g', r1, m2, q.mono s1⟩⟩
    | rt v => cases m2; exact ⟨T, F, σe, g, .rt v, _, r, m1, q⟩
    | bk σ1 => cases m2; exact ⟨T, F, σe, g, .bk σ1, _, r, m1, q⟩
    | ct σ1 => cases m2; exact ⟨T, F, σe, g, .ct σ1, _, r, m1, q⟩⟩
/-- names are no longer held alone ahead of a statement -/
theorem Ss.pre (h : Ss X C Ow2 Ow' OwL st m) (s : ∀ j ∈ Ow2, j ∈ Ow) : Ss X C Ow Ow' OwL st m :=
  ⟨ps_con h.run fun D σ H ⟨T, F, σe, g, fl, g', r, m, q⟩ => by
    obtain ⟨F1, s1, r1⟩ := r.less s
    exact ⟨T, F1, σe, g, fl, g', r1, m, q.mono s1⟩⟩
theorem Sb.pre (h : Sb X C Ow2 Ow' OwL sts m) (s : ∀ j ∈ Ow2, j ∈ Ow) : Sb X C Ow Ow' OwL sts m :=
  ⟨pss_con h.run fun D σ H ⟨T, F, σe, g, fl, g', r, m, q⟩ => by
    obtain ⟨F1, s1, r1⟩ := r.less s
    exact ⟨T, F1, σe, g, fl, g', r1, m, q.mono s1⟩⟩
theorem EndOk.less {T : Hp} {F : Fz} {g' : G} {D : Ends} {OwL1 : List Nat} (s : ∀ j ∈ Ow', j ∈ Ow1) (sl : ∀ j ∈ OwL, j ∈ OwL1) : ∀ {fl : Fl}, EndOk C T Ow' OwL F g' D fl → EndOk C T Ow1 OwL1 F g' D fl
  | .nx _, h => fun F' σ' H' s' r => let ⟨F2, s2, r2⟩ := r.less s; h F2 σ' H' (s'.trans s2) r2
  | .bk _, h => fun F' σ' H' s' r => let ⟨F2, s2, r2⟩ := r.less sl; h F2 σ' H' (s'.trans s2) r2
  | .ct _, h => fun F' σ' H' s' r => let ⟨F2, s2, r2⟩ := r.less sl; h F2 σ' H' (s'.trans s2) r2
  | .rt _, h => fun F' Ow2 σe2 σ2 H' x s' r q => h F' Ow2 σe2 σ2 H' x s' r q
theorem Ss.post (h : Ss X C Ow Ow1 OwL st m) (s : ∀ j ∈ Ow', j ∈ Ow1) : Ss X C Ow Ow' OwL st m :=
  ⟨ps_con h.run fun D σ H ⟨T, F, σe, g, fl, g', r, m, q⟩ => ⟨T, F, σe, g, fl, g', r, m, q.less s fun _ z => z⟩⟩
theorem Sb.post (h : Sb X C Ow Ow1 OwL sts m) (s : ∀ j ∈ Ow', j ∈ Ow1) : Sb X C Ow Ow' OwL sts m :=
  ⟨pss_con h.run fun D σ H ⟨T, F, σe, g, fl, g', r, m, q⟩ => ⟨T, F, σe, g, fl, g', r, m, q.less s fun _ z => z⟩⟩
/-- a block that never runs to its end may promise any names -/
theorem Ss.pass : Ss X C Ow Ow OwL (.Pass pos) .skip := ⟨ps_con ps_pass fun D σ H ⟨T, F, σe, g, fl, g', r, m, q⟩ => by
  unfold Pv.run at m
  cases m
  exact q F σ H (.refl F) r⟩
theorem Ss.brk : Ss X C Ow Ow' Ow (.Break pos) .brk := ⟨ps_con ps_break fun D σ H ⟨T, F, σe, g, fl, g', r, m, q⟩ => by
  unfold Pv.run at m
  cases m
  exact q F σ H (.refl F) r⟩
theorem Ss.cnt : Ss X C Ow Ow' Ow (.Continue pos) .cnt := ⟨ps_con ps_continue fun D σ H ⟨T, F, σe, g, fl, g', r, m, q⟩ => by
  unfold Pv.run at m
  cases m
  exact q F σ H (.refl F) r⟩
theorem Ss.bad : Ss X C Ow Ow' OwL st .bad := ⟨ps_con ps_never fun D σ H ⟨T, F, σe, g, fl, g', r, m, q⟩ => by
  unfold Pv.run at m
  cases m⟩
theorem Ss.ret (h : Es X C Ow e i) : Ss X C Ow Ow' OwL (.Return (some e) pos) (.ret i) := ⟨ps_con (ps_ret h.run) fun D σ H ⟨T, F, σe, g, fl, g', r, m, q⟩ => by
  unfold Pv.run at m
  obtain ⟨v, g1, m1, m2⟩ := bind_eq_ok m
  cases m2
  exact ⟨T, F, σe, g, v, _, r, m1, fun F1 H1 x s1 r1 h1 => q F1 _ σe σ H1 x s1 r1 h1⟩⟩
theorem Ss.retN : Ss X C Ow Ow' OwL (.Return none pos) (.ret (.c .none)) := ⟨ps_con ps_retN fun D σ H ⟨T, F, σe, g, fl, g', r, m, q⟩ => by
  unfold Pv.run ev at m
  cases m
  exact q F _ σe σ H _ (.refl F) r rel_non⟩
theorem Ss.ex (h : Eb X C Ow e i) (hs : swapsWith e none pos.line X.env = pure false) : Ss X C Ow Ow OwL (.Expr e pos) (.ex i) := ⟨ps_con (ps_expr h.run hs) fun D σ H ⟨T, F, σe, g, fl, g', r, m, q⟩ => by
  unfold Pv.run at m
  obtain ⟨v, g1, m1, m2⟩ := bind_eq_ok m
  cases m2
  exact ⟨T, F, σe, g, v, _, r, m1, fun F1 H1 x s1 r1 _ => q F1 σ H1 s1 r1⟩⟩
theorem Ss.doc {x : Str} {j : Nat} : Ss X C Ow Ow OwL (.Expr (.Constant (.str x) j pos) pos') .skip := ⟨ps_con ps_doc fun D σ H ⟨T, F, σe, g, fl, g', r, m, q⟩ => by
  unfold Pv.run at m
  cases m
  exact q F σ H (.refl F) r⟩
theorem Ss.ite {t : Expr} {a b : List Stmt} {it : Ex} {ma mb : Sm} (ht : Et X C Ow t it) (ha : Sb X C Ow Ow' OwL a ma) (hb : Sb X C Ow Ow' OwL b mb) : Ss X C Ow Ow' OwL (.If t a b pos) (.ite it ma mb) :=
  ⟨ps_con (ps_if ht.run ha.run hb.run) fun D σ H ⟨T, F, σe, g, fl, g', r, m, q⟩ => by
    unfold Pv.run at m
    obtain ⟨v, g1, m1, m2⟩ := bind_eq_ok m
    split at m2
    · exact ⟨T, F, σe, g, _, g1, r, m1, fun F1 H1 s1 r1 => iteT ⟨T, F1, σe, g1, fl, g', r1, m2, q.mono s1⟩⟩
    · exact ⟨T, F, σe, g, _, g1, r, m1, fun F1 H1 s1 r1 => iteF ⟨T, F1, σe, g1, fl, g', r1, m2, q.mono s1⟩⟩
    · cases m2⟩

/-! ### stores -/
theorem Ss.set {tg : Expr} {t : List Nat} (h : Es X C Ow e i) (hg : Eg X C Ow tg t) (hs : swapsWithSole [tg] e pos.line X.env = pure false) (hw : swappedStores [tg] e X.env = pure none) (h1 : (assignEach [tg] X.env).map (·.2) = [assign tg X.env]) :
    Ss X C Ow Ow OwL (.Assign [tg] e pos) (.set t i) := ⟨ps_con (ps_asg h.run hg.run hs hw h1) fun D σ H ⟨T, F, σe, g, fl, g', r, m, q⟩ => by
  unfold Pv.run at m
  obtain ⟨v, g1, m1, m2⟩ := bind_eq_ok m
  obtain ⟨σe', g2, m3, m4⟩ := bind_eq_ok m2
  obtain ⟨m5, e5⟩ := lift_eq_ok m3
  subst e5
  cases m4
  exact ⟨T, F, σe, g, v, _, r, m1, fun F1 H1 x s1 r1 h1 => ⟨T, F1, σe, _, v, σe', r1, h1, m5, fun σ' r' _ => q F1 σ' H1 s1 r'⟩⟩⟩
theorem Ss.own {x : Str} (n : Nat) (h : Ef X C Ow e i) (hN : X.N.Nodup) (hi : X.N[n]? = some x) (hx : Loc X.env.scope x) (hf : X.fn x = true ∨ X.env.scope.names.lookup x = some .local) (hs : swapsWith e (some (.Name x pos')) pos.line X.env = pure false) :
    Ss X C Ow (n :: Ow) OwL (.Assign [.Name x pos'] e pos) (.set [n] i) := ⟨ps_con (ps_set hN hi hx h.run hs hf) fun D σ H ⟨T, F, σe, g, fl, g', r, m, q⟩ => by
  unfold Pv.run at m
  obtain ⟨v, g1, m1, m2⟩ := bind_eq_ok m
  cases m2
  exact ⟨T, F, σe, g, v, _, r, m1, fun F1 H1 a s1 r1 h1 => q F1 _ H1 s1 (r1.own h1)⟩⟩
theorem Ss.par {x y : Str} {a b : Expr} {ia ib : Ex} {px py pt : Pos} {kt k2 : Nat} {pt2 : Pos} (n k : Nat) (hc : X.calm = true) (hN : X.N.Nodup) (hi : X.N[n]? = some x) (hj : X.N[k]? = some y) (hij : n ≠ k) (hn : n ∉ Ow) (hk : k ∉ Ow)
    (hx : X.env.scope.names.lookup x = some .local) (hy : X.env.scope.names.lookup y = some .local) (ha : Ea X C Ow [a, b] (.cons ia (.cons ib .nil)))
    (hw : swappedStores [.Tuple [.Name x px, .Name y py] kt pt] (.Tuple [a, b] k2 pt2) X.env = pure (some [x, y]))
    (hs : swapsWithSole [.Tuple [.Name x px, .Name y py] kt pt] (.Tuple [a, b] k2 pt2) pos.line X.env = pure false) :
    Ss X C Ow Ow OwL (.Assign [.Tuple [.Name x px, .Name y py] kt pt] (.Tuple [a, b] k2 pt2) pos) (.par n k ia ib) := ⟨ps_con (ps_par hc hN hi hj hij hx hy ha.run hw hs) fun D σ H ⟨T, F, σe, g, fl, g', r, m, q⟩ => by
  unfold Pv.run at m
  obtain ⟨v, g1, m1, m2⟩ := bind_eq_ok m
  obtain ⟨w, g2, m3, m4⟩ := bind_eq_ok m2
  cases m4
  refine ⟨T, F, σe, g, [v, w], g', r, ?_, fun F1 H1 xs s1 r1 h1 => ?_⟩
  · simp only [evs, m1, m3, bind_ok]
  · obtain ⟨x1, xr, rfl, e1, e2⟩ := h1.inv
    obtain ⟨x2, xr2, rfl, e3, e4⟩ := e2.inv
    rw [e4.inv0]
    exact ⟨x1, x2, rfl, q F1 _ H1 s1 ((r1.setS hn e1).setS hk e3)⟩⟩
theorem op_ip (o : Bop) : PIp X (bop o) (fun x y H Q => ∃ va vb v F K, Sh K F H va x ∧ Sh K F H vb y ∧ augV o va vb = some v ∧ ∀ z, Rel K F v z → Q z H) := by
  intro pins s σ H x y u w Q I rx ry h
  obtain ⟨va, vb, v, F, K, ha, hb, hv, q⟩ := h
  unfold augV at hv
  split at hv
  · cases hv; cases ha; cases hb
    exact iop_add pins s σ H _ _ u w Q I rx ry ⟨_, _, rfl, rfl, q _ rel_int⟩
  · cases hv; cases ha; cases hb
    exact iop_sub pins s σ H _ _ u w Q I rx ry ⟨_, _, rfl, rfl, q _ rel_int⟩
  · cases ha; cases hb
    split at hv
    · rename_i hc
      cases hv
      simp only [Bool.or_eq_true, decide_eq_true_eq] at hc
      refine iop_mul pins s σ H _ _ u w Q I rx ry ⟨_, _, rfl, rfl, ?_, q _ rel_int⟩
      rcases hc with hc | hc
      · exact .inl ⟨by omega, by omega⟩
      · exact .inr ⟨by omega, by omega⟩
    · cases hv
  · cases ha; cases hb
    split at hv
    · rename_i hc
      cases hv
      simp only [Bool.and_eq_true, decide_eq_true_eq] at hc
      exact iop_fdiv pins s σ H _ _ u w Q I rx ry ⟨_, _, rfl, rfl, hc, q _ rel_int⟩
    · cases hv
  · cases ha; cases hb
    split at hv
    · rename_i hc
      cases hv
      simp only [decide_eq_true_eq] at hc
      exact iop_add_str pins s σ H _ _ u w Q I rx ry ⟨_, _, rfl, rfl, lineN_le hc, q _ rel_str⟩
    · cases hv
  · cases hv
theorem slot_ok {σ : Sl} {n : Nat} {g g' : G} {v : D} (h : slot σ n g = .ok v g') : σ[n]? = some (some v) ∧ g' = g := by
  unfold slot at h
  split at h
  · cases h; exact ⟨by assumption, rfl⟩
  · cases h
theorem Ss.aug {x : Str} (n : Nat) (o : Bop) (hn : n ∉ Ow) (h : Eb X C Ow e i) (hN : X.N.Nodup) (hi : X.N[n]? = some x) (hx : Loc X.env.scope x) (hf : X.fn x = true ∨ X.env.scope.names.lookup x = some .local) :
    Ss X C Ow Ow OwL (.AugAssign (.Name x pos') (bop o) e pos) (.aug n o i) := ⟨ps_con (ps_aug hN hi hx h.run (op_ip o) hf) fun D σ H ⟨T, F, σe, g, fl, g', r, m, q⟩ => by
  unfold Pv.run at m
  obtain ⟨v, g1, m1, m2⟩ := bind_eq_ok m
  obtain ⟨e1, e2⟩ := slot_ok m1
  subst e2
  obtain ⟨w, g2, m3, m4⟩ := bind_eq_ok m2
  obtain ⟨z, g3, m5, m6⟩ := bind_eq_ok m4
  obtain ⟨m7, e7⟩ := lift_eq_ok m5
  subst e7
  cases m6
  obtain ⟨x1, q1, q2⟩ := r.fz n v e1 hn
  exact ⟨x1, q1, T, F, σe, _, w, _, r, m3, fun F1 H1 y s1 r1 b1 => ⟨v, w, z, F1, C.K, (q2.mono s1 _ _).sh r1.sub, r1.sh b1, m7, fun z' hz => q F1 _ H1 s1 (r1.setS hn hz)⟩⟩⟩

/-! ### loops -/
theorem Ss.for_ {tg iter : Expr} {body : List Stmt} {t : List Nat} {k : Ik} {is : Exs} (hp : PassesOwn (model X.prog X.w) X.A X.env X.xe) (hc : X.calm = true) (hi : Ei X C Ow tg iter k is) (hg : Eg X C Ow tg t) (hb : Sb X C Ow Ow Ow body m)
    (hs : ∀ x, foldedSetIterable iter X.env x = pure x) : Ss X C Ow Ow OwL (.For tg iter body [] pos) (.forr t k is m) :=
  ⟨ps_con (ps_for hp hc hi.run hg.run hb.run hs) fun D σ H ⟨T, F, σe, g, fl, g', r, mm, q⟩ => by
    unfold Pv.run at mm
    obtain ⟨vs, g1, m1, m2⟩ := bind_eq_ok mm
    obtain ⟨xs, g2, m3, m4⟩ := bind_eq_ok m2
    have mi : itm C.Φ k is σe g = .ok xs g2 := by
      unfold itm
      rw [m1]; exact m3
    refine ⟨T, F, σe, g, xs, g2, r, mi, fun F1 H1 J s1 r1 w => ?_⟩
    refine ⟨fun j n σ H => ∃ F2 σe2 g2, n + j = xs.length ∧ Fsub F1 F2 ∧ R C Ow T F2 σe2 g2 σ H ∧ forL (fun x σ g => (lift (setT t x σ) g).bind fun σ g => Pv.run C.Φ C.fu m σ g) (xs.drop j) σe2 g2 = .ok fl g', ⟨xs.length, F1, σe, _, rfl, .refl _, r1, by rw [List.drop_zero]; exact m4⟩, ?_⟩
    rintro j n σ H ⟨F2, σe2, g3, hn, s2, r2, hl⟩
    by_cases hj : j < xs.length
    · have hd : xs[j]? = some xs[j] := List.getElem?_eq_getElem hj
      rw [List.drop_eq_getElem_cons hj] at hl
      unfold forL at hl
      obtain ⟨fl1, g4, l1, l2⟩ := bind_eq_ok hl
      obtain ⟨σe3, g5, l3, l4⟩ := bind_eq_ok l1
      obtain ⟨l5, e5⟩ := lift_eq_ok l3
      subst e5
      refine .inr ⟨w.go j F2 H hj s2 r2.sub, fun σ H => ∃ m', m' < n ∧ ∃ F2 σe2 g2, m' + (j + 1) = xs.length ∧ Fsub F1 F2 ∧ R C Ow T F2 σe2 g2 σ H ∧ forL (fun x σ g => (lift (setT t x σ) g).bind fun σ g => Pv.run C.Φ C.fu m σ g) (xs.drop (j + 1)) σe2 g2 = .ok fl g', fun σ' H' h => h, fun x H' hy => ?_⟩
      obtain ⟨F3, s3, r3, rx⟩ : ∃ F3, Fsub F2 F3 ∧ R C Ow T F3 σe2 g5 σ H' ∧ Rel C.K F3 xs[j] x := by
        rcases w.yld j _ F2 H x H' hd s2 r2.sub hy with ⟨e, rx⟩ | ⟨p, o', rfl, hf, e, rx⟩
        · subst e; exact ⟨F2, .refl _, r2, rx⟩
        · subst e; exact ⟨F2.put p o', Fsub.put (r2.fn hf), r2.laid hf, rx (r2.fn hf)⟩
      refine ⟨T, F3, σe2, g5, xs[j], σe3, r3, rx, l5, fun σ3 r4 _ => ⟨T, F3, σe3, g5, fl1, g4, r4, l4, ?_⟩⟩
      cases fl1 with
      | nx σe4 => exact fun F5 σ5 H5 s5 r5 => ⟨n - 1, by omega, F5, σe4, g4, by omega, s2.trans (s3.trans s5), r5, l2⟩
      | ct σe4 => exact fun F5 σ5 H5 s5 r5 => ⟨n - 1, by omega, F5, σe4, g4, by omega, s2.trans (s3.trans s5), r5, l2⟩
      | bk σe4 =>
        cases l2
        exact fun F5 σ5 H5 s5 r5 => q F5 σ5 H5 (s1.trans (s2.trans (s3.trans s5))) r5
      | rt v =>
        cases l2
        exact fun F5 Ow5 σe5 σ5 H5 x5 s5 r5 h5 => q F5 Ow5 σe5 σ5 H5 x5 (s1.trans (s2.trans (s3.trans s5))) r5 h5
    · have e : j = xs.length := by omega
      subst e
      rw [List.drop_length] at hl
      unfold forL at hl
      cases hl
      exact .inl ⟨w.stop F2 H s2 r2.sub, q F2 σ H (s1.trans s2) r2⟩⟩
theorem Ss.while_ {t : Expr} {body : List Stmt} {it : Ex} (hp : PassesOwn (model X.prog X.w) X.A X.env X.xe) (ht : Et X C Ow t it) (hb : Sb X C Ow Ow Ow body m) : Ss X C Ow Ow OwL (.While t body [] pos) (.whil it m) :=
  ⟨ps_con (ps_while hp ht.run hb.run) fun D σ H ⟨T, F, σe, g, fl, g', r, mm, q⟩ => by
    unfold Pv.run at mm
    refine ⟨fun n σ H => ∃ F2 σe2 g2, Fsub F F2 ∧ R C Ow T F2 σe2 g2 σ H ∧ whileL (fun σ g => ev C.Φ it σ g) (fun σ g => Pv.run C.Φ C.fu m σ g) n σe2 g2 = .ok fl g', ⟨C.fu, F, σe, g, .refl _, r, mm⟩, ?_⟩
    rintro n σ H ⟨F2, σe2, g2, s2, r2, hl⟩
    cases n with
    | zero => unfold whileL at hl; cases hl
    | succ n =>
      unfold whileL at hl
      obtain ⟨v, g3, l1, l2⟩ := bind_eq_ok hl
      split at l2
      · obtain ⟨fl1, g4, l3, l4⟩ := bind_eq_ok l2
        refine ⟨T, F2, σe2, g2, _, g3, r2, l1, fun F3 H3 s3 r3 => iteT ⟨fun σ H => ∃ m', m' < n + 1 ∧ ∃ F2 σe2 g2, Fsub F F2 ∧ R C Ow T F2 σe2 g2 σ H ∧ whileL (fun σ g => ev C.Φ it σ g) (fun σ g => Pv.run C.Φ C.fu m σ g) m' σe2 g2 = .ok fl g', fun σ' H' h => h, T, F3, σe2, g3, fl1, g4, r3, l3, ?_⟩⟩
        cases fl1 with
        | nx σe4 => exact fun F5 σ5 H5 s5 r5 => ⟨n, Nat.lt_succ_self n, F5, σe4, g4, s2.trans (s3.trans s5), r5, l4⟩
        | ct σe4 => exact fun F5 σ5 H5 s5 r5 => ⟨n, Nat.lt_succ_self n, F5, σe4, g4, s2.trans (s3.trans s5), r5, l4⟩
        | bk σe4 =>
          cases l4
          exact fun F5 σ5 H5 s5 r5 => q F5 σ5 H5 (s2.trans (s3.trans s5)) r5
        | rt v =>
          cases l4
          exact fun F5 Ow5 σe5 σ5 H5 x5 s5 r5 h5 => q F5 Ow5 σe5 σ5 H5 x5 (s2.trans (s3.trans s5)) r5 h5
      · cases l2
        exact ⟨T, F2, σe2, g2, _, _, r2, l1, fun F3 H3 s3 r3 => iteF (q F3 σ H3 (s2.trans s3) r3)⟩
      · cases l2⟩
end
end Pv
end

section
/-! PvH: built-in functions, subscripts, dicts, the methods of lists. -/
set_option autoImplicit false
namespace Pv
open PySem PySem.Spec PyProof.Rows L2

section
variable {X : Cx} {C : Ct} {Ow Ow' OwL : List Nat} {e a b : Expr} {es : List Expr} {i ia ib ic : Ex} {is : Exs} {pos p apos : Pos} {x : Str}

/-! ### a built-in function by values -/
def ShL (K : PySem.W.Frag) (F : Fz) (H : Hp) : List D → List V → Prop
  | [], vs => vs = []
  | d :: ds, vs => ∃ v vr, vs = v :: vr ∧ Sh K F H d v ∧ ShL K F H ds vr
def rBi (K : PySem.W.Frag) (f : Bi) : List V → Hp → VK → Prop := fun xs H Q => ∃ F vas v, Same F.h H ∧ ShL K F H vas xs ∧ biV f vas = some v ∧ Out K F H v Q
/-- args, one or two, that are only looked at -/
structure Eas (X : Cx) (C : Ct) (Ow : List Nat) (es : List Expr) (is : Exs) : Prop where
  run : PA X es (fun σ H Q => ∃ T F σe g vs g', R C Ow T F σe g σ H ∧ evs C.Φ is σe g = .ok vs g' ∧ ∀ F' H' xs, Fsub F F' → R C Ow T F' σe g' σ H' → ShL C.K F' H' vs xs → Q xs H')
theorem Eas.one (h : Eb X C Ow e i) (hs : starEach [e] X.env = (false, eval e X.env) :: starEach [] X.env) : Eas X C Ow [e] (.cons i .nil) :=
  ⟨pa_con (pa_cons h.run pa_nil hs) fun σ H Q ⟨T, F, σe, g, vs, g', r, m, q⟩ => by
    unfold evs at m
    obtain ⟨v, g1, m1, m2⟩ := bind_eq_ok m
    obtain ⟨ws, g2, m3, m4⟩ := bind_eq_ok m2
    unfold evs at m3
    cases m3; cases m4
    exact ⟨T, F, σe, g, v, _, r, m1, fun F1 H1 y s1 r1 b1 => q F1 H1 _ s1 r1 ⟨y, [], rfl, r1.sh b1, rfl⟩⟩⟩
theorem Eas.two (h : Eb X C Ow a ia) (h2 : Eb X C Ow b ib) (hs : starEach [a, b] X.env = (false, eval a X.env) :: starEach [b] X.env) (hs2 : starEach [b] X.env = (false, eval b X.env) :: starEach [] X.env) : Eas X C Ow [a, b] (.cons ia (.cons ib .nil)) :=
  ⟨pa_con (pa_cons h.run (pa_cons h2.run pa_nil hs2) hs) fun σ H Q ⟨T, F, σe, g, vs, g', r, m, q⟩ => by
    unfold evs at m
    obtain ⟨v, g1, m1, m2⟩ := bind_eq_ok m
    obtain ⟨ws, g2, m3, m4⟩ := bind_eq_ok m2
    unfold evs at m3
    obtain ⟨v2, g3, m5, m6⟩ := bind_eq_ok m3
    obtain ⟨ws2, g4, m7, m8⟩ := bind_eq_ok m6
    unfold evs at m7
    cases m7; cases m8; cases m4
    exact ⟨T, F, σe, g, v, _, r, m1, fun F1 H1 y s1 r1 b1 => ⟨T, F1, σe, _, v2, _, r1, m5, fun F2 H2 z s2 r2 b2 => q F2 H2 _ (s1.trans s2) r2 ⟨y, [z], rfl, r2.sh (b1.mono s2), z, [], rfl, r2.sh b2, rfl⟩⟩⟩⟩
theorem Es.biB (f : Bi) {id : String} (hK : X.K = C.K) (hc : CallR X (.builtin id) (rBi X.K f)) (hg : Gl X x) (hm : X.mg x = none) (hv : bootBuiltins x = some (.builtin id)) (ha : Eas X C Ow (e :: es) is) (hn : x ≠ "__name__") (hdb : (x == ("__debug__" : Str)) = false)
    (he : starEach (e :: es) X.env = (false, eval e X.env) :: starEach es X.env) (hpl : (backTo pos (starEach es X.env)).any (·.1) = false) : Es X C Ow (.Call (.Name x p) (e :: es) [] pos) (.bi f is) :=
  ⟨pe_con (pe_callB hc hg hm hv ha.run hn hdb he hpl) fun σ H Q ⟨T, F, σe, g, v, g', r, m, q⟩ => by
    unfold ev at m
    obtain ⟨vs, g1, m1, m2⟩ := bind_eq_ok m
    obtain ⟨m3, e3⟩ := lift_eq_ok m2
    subst e3
    exact ⟨T, F, σe, g, vs, _, r, m1, fun F1 H1 xs s1 r1 h1 => ⟨F1, vs, v, r1.sub, by rw [hK]; exact h1, m3, by rw [hK]; exact r1.out fun F' H' z s r' => q F' H' z (s1.trans s) r'⟩⟩⟩
theorem Es.biT (f : Bi) {id : String} (hK : X.K = C.K) (hc : CallR X (.type id) (rBi X.K f)) (hg : Gl X x) (hm : X.mg x = none) (hv : bootBuiltins x = some (.type id)) (ha : Eas X C Ow (e :: es) is) (hn : x ≠ "__name__") (hdb : (x == ("__debug__" : Str)) = false)
    (he : starEach (e :: es) X.env = (false, eval e X.env) :: starEach es X.env) (hpl : (backTo pos (starEach es X.env)).any (·.1) = false) : Es X C Ow (.Call (.Name x p) (e :: es) [] pos) (.bi f is) :=
  ⟨pe_con (pe_callTy hc hg hm hv ha.run hn hdb he hpl) fun σ H Q ⟨T, F, σe, g, v, g', r, m, q⟩ => by
    unfold ev at m
    obtain ⟨vs, g1, m1, m2⟩ := bind_eq_ok m
    obtain ⟨m3, e3⟩ := lift_eq_ok m2
    subst e3
    exact ⟨T, F, σe, g, vs, _, r, m1, fun F1 H1 xs s1 r1 h1 => ⟨F1, vs, v, r1.sub, by rw [hK]; exact h1, m3, by rw [hK]; exact r1.out fun F' H' z s r' => q F' H' z (s1.trans s) r'⟩⟩⟩
theorem ShL.one {K : PySem.W.Frag} {F : Fz} {H : Hp} {d : D} {xs : List V} (h : ShL K F H [d] xs) : ∃ v, xs = [v] ∧ Sh K F H d v := by
  obtain ⟨v, vr, e, h1, h2⟩ := h
  exact ⟨v, by rw [e, (show vr = [] from h2)], h1⟩
theorem ShL.two {K : PySem.W.Frag} {F : Fz} {H : Hp} {d d2 : D} {xs : List V} (h : ShL K F H [d, d2] xs) : ∃ v w, xs = [v, w] ∧ Sh K F H d v ∧ Sh K F H d2 w := by
  obtain ⟨v, vr, e, h1, h2⟩ := h
  obtain ⟨w, e2, h3⟩ := ShL.one h2
  exact ⟨v, w, by rw [e, e2], h1, h3⟩
theorem cb_len : CallR X (.builtin "len") (rBi X.K .len) := by
  intro pins s σ H xs us Q I rx h
  obtain ⟨F, vas, v, sub, hs, hv, q⟩ := h
  rcases vas with _ | ⟨d, _ | ⟨d2, r⟩⟩
  · simp [biV] at hv
  · obtain ⟨y, rfl, hy⟩ := hs.one
    refine call_len pins s σ H _ us Q I rx ?_
    cases d with
    | list ds =>
      obtain ⟨a, vs, rfl, h1, h2⟩ := hy
      cases hv
      exact ⟨_, _, rfl, .inl ⟨vs, SqL.of h1, h2.length⟩, q.1 _ rel_int⟩
    | tuple ds =>
      obtain ⟨a, vs, rfl, h1, h2⟩ := hy
      cases hv
      exact ⟨_, _, rfl, .inr ⟨vs, sqT_mono sub h1, h2.length⟩, q.1 _ rel_int⟩
    | str z =>
      cases hy
      simp only [biV, lenV] at hv
      split at hv
      · rename_i hc
        cases hv
        exact ⟨_, _, rfl, ⟨lineN_le (of_decide_eq_true hc), rfl⟩, q.1 _ rel_int⟩
      · cases hv
    | _ => simp [biV, lenV] at hv
  · simp [biV] at hv
theorem cb_abs : CallR X (.builtin "abs") (rBi X.K .abs) := by
  intro pins s σ H xs us Q I rx h
  obtain ⟨F, vas, v, sub, hs, hv, q⟩ := h
  rcases vas with _ | ⟨d, _ | ⟨d2, r⟩⟩
  · simp [biV] at hv
  · obtain ⟨y, rfl, hy⟩ := hs.one
    cases d with
    | int j =>
      cases hy; cases hv
      exact call_abs pins s σ H _ us Q I rx ⟨_, rfl, q.1 _ rel_int⟩
    | _ => simp [biV] at hv
  · cases d <;> simp [biV] at hv
theorem cb_min2 (hc : X.calm = true) : CallR X (.builtin "min") (rBi X.K .min2) := by
  intro pins s σ H xs us Q I rx h
  obtain ⟨F, vas, v, sub, hs, hv, q⟩ := h
  rcases vas with _ | ⟨d, _ | ⟨d2, _ | ⟨d3, r⟩⟩⟩
  · simp [biV] at hv
  · simp [biV] at hv
  · obtain ⟨y, z, rfl, hy, hz⟩ := hs.two
    cases d with
    | int j =>
      cases d2 with
      | int k =>
        cases hy; cases hz; cases hv
        exact call_min2 hc pins s σ H _ us Q I rx ⟨_, _, rfl, q.1 _ rel_int⟩
      | _ => simp [biV] at hv
    | _ => simp [biV] at hv
  · cases d <;> cases d2 <;> simp [biV] at hv
theorem cb_max2 (hc : X.calm = true) : CallR X (.builtin "max") (rBi X.K .max2) := by
  intro pins s σ H xs us Q I rx h
  obtain ⟨F, vas, v, sub, hs, hv, q⟩ := h
  rcases vas with _ | ⟨d, _ | ⟨d2, _ | ⟨d3, r⟩⟩⟩
  · simp [biV] at hv
  · simp [biV] at hv
  · obtain ⟨y, z, rfl, hy, hz⟩ := hs.two
    cases d with
    | int j =>
      cases d2 with
      | int k =>
        cases hy; cases hz; cases hv
        exact call_max2 hc pins s σ H _ us Q I rx ⟨_, _, rfl, q.1 _ rel_int⟩
      | _ => simp [biV] at hv
    | _ => simp [biV] at hv
  · cases d <;> cases d2 <;> simp [biV] at hv
theorem cb_sum (hc : X.calm = true) : CallR X (.builtin "sum") (rBi X.K .sum) := by
  intro pins s σ H xs us Q I rx h
  obtain ⟨F, vas, v, sub, hs, hv, q⟩ := h
  rcases vas with _ | ⟨d, _ | ⟨d2, r⟩⟩
  · simp [biV] at hv
  · obtain ⟨y, rfl, hy⟩ := hs.one
    cases d with
    | list ds =>
      obtain ⟨a, vs, rfl, h1, h2⟩ := hy
      obtain ⟨ns, e1, e2⟩ := map_some hv
      subst e2
      rw [h2.ints e1] at h1
      exact cr_sum hc pins s σ H _ us Q I rx ⟨a, ns, rfl, SqL.of h1, q.1 _ rel_int⟩
    | _ => simp [biV] at hv
  · cases d <;> simp [biV] at hv
theorem cb_toInt : CallR X (.type "int") (rBi X.K .toInt) := by
  intro pins s σ H xs us Q I rx h
  obtain ⟨F, vas, v, sub, hs, hv, q⟩ := h
  rcases vas with _ | ⟨d, _ | ⟨d2, r⟩⟩
  · simp [biV] at hv
  · obtain ⟨y, rfl, hy⟩ := hs.one
    cases d with
    | int j =>
      cases hy; cases hv
      exact call_int1 pins s σ H _ us Q I rx (.inl ⟨_, rfl, q.1 _ rel_int⟩)
    | bool j =>
      cases hy; cases hv
      exact call_int1 pins s σ H _ us Q I rx (.inr ⟨_, rfl, q.1 _ rel_int⟩)
    | _ => simp [biV] at hv
  · cases d <;> simp [biV] at hv
theorem cb_toStr : CallR X (.type "str") (rBi X.K .toStr) := by
  intro pins s σ H xs us Q I rx h
  obtain ⟨F, vas, v, sub, hs, hv, q⟩ := h
  rcases vas with _ | ⟨d, _ | ⟨d2, r⟩⟩
  · simp [biV] at hv
  · obtain ⟨y, rfl, hy⟩ := hs.one
    cases d with
    | int j =>
      cases hy
      simp only [biV] at hv
      split at hv
      · rename_i hc
        cases hv
        exact call_str_int pins s σ H _ us Q I rx ⟨_, rfl, of_decide_eq_true hc, q.1 _ rel_str⟩
      · cases hv
    | _ => simp [biV] at hv
  · cases d <;> simp [biV] at hv
theorem cb_toList : CallR X (.type "list") (rBi X.K .toList) := by
  intro pins s σ H xs us Q I rx h
  obtain ⟨F, vas, v, sub, hs, hv, q⟩ := h
  rcases vas with _ | ⟨d, _ | ⟨d2, r⟩⟩
  · simp [biV] at hv
  · obtain ⟨y, rfl, hy⟩ := hs.one
    cases d with
    | list ds =>
      obtain ⟨a, vs, rfl, h1, h2⟩ := hy
      cases hv
      exact call_list_of pins s σ H _ us Q I rx ⟨a, vs, rfl, .inl (SqL.of h1), fun l hl => q.2 l _ hl (rel_lst (sub.free hl) h2)⟩
    | tuple ds =>
      obtain ⟨a, vs, rfl, h1, h2⟩ := hy
      cases hv
      exact call_list_of pins s σ H _ us Q I rx ⟨a, vs, rfl, .inr (sqT_mono sub h1), fun l hl => q.2 l _ hl (rel_lst (sub.free hl) h2)⟩
    | _ => simp [biV] at hv
  · cases d <;> simp [biV] at hv
theorem cb_toTuple : CallR X (.type "tuple") (rBi X.K .toTuple) := by
  intro pins s σ H xs us Q I rx h
  obtain ⟨F, vas, v, sub, hs, hv, q⟩ := h
  rcases vas with _ | ⟨d, _ | ⟨d2, r⟩⟩
  · simp [biV] at hv
  · obtain ⟨y, rfl, hy⟩ := hs.one
    cases d with
    | list ds =>
      obtain ⟨a, vs, rfl, h1, h2⟩ := hy
      cases hv
      exact call_tuple_of pins s σ H _ us Q I rx ⟨a, vs, rfl, .inl ⟨SqL.of h1, fun l hl => q.2 l _ hl (rel_tup (sub.free hl) h2)⟩⟩
    | tuple ds =>
      obtain ⟨a, vs, rfl, h1, h2⟩ := hy
      cases hv
      exact call_tuple_of pins s σ H _ us Q I rx ⟨a, vs, rfl, .inr ⟨sqT_mono sub h1, q.1 _ (by unfold Rel; exact ⟨a, vs, rfl, h1, h2⟩)⟩⟩
    | _ => simp [biV] at hv
  · cases d <;> simp [biV] at hv
/-! ### sorted of ints -/
theorem insI_perm (x : Int) : ∀ ys : List Int, (insI x ys).Perm (x :: ys)
  | [] => .refl _
  | y :: r => by
    unfold insI
    split
    · exact .refl _
    · exact ((insI_perm x r).cons y).trans (.swap x y r)
theorem sortI_perm : ∀ xs : List Int, (sortI xs).Perm xs
  | [] => .refl _
  | x :: r => (insI_perm x _).trans ((sortI_perm r).cons x)
theorem insI_sorted (x : Int) : ∀ {ys : List Int}, ys.Pairwise (· ≤ ·) → (insI x ys).Pairwise (· ≤ ·)
  | [], _ => by unfold insI; exact List.pairwise_singleton _ _
  | y :: r, h => by
    unfold insI
    rw [List.pairwise_cons] at h
    split
    · rename_i hc
      refine List.pairwise_cons.mpr ⟨fun z hz => ?_, List.pairwise_cons.mpr h⟩
      rcases List.mem_cons.mp hz with rfl | hz
      · exact hc
      · exact Int.le_trans hc (h.1 z hz)
    · rename_i hc
      refine List.pairwise_cons.mpr ⟨fun z hz => ?_, insI_sorted x h.2⟩
      rcases List.mem_cons.mp ((insI_perm x r).mem_iff.mp hz) with rfl | hz
      · omega
      · exact h.1 z hz
theorem sortI_sorted : ∀ xs : List Int, (sortI xs).Pairwise (· ≤ ·)
  | [] => .nil
  | x :: r => insI_sorted x (sortI_sorted r)
theorem sorted_unique {xs ys : List Int} (p : xs.Perm ys) (hx : xs.Pairwise (· ≤ ·)) (hy : ys.Pairwise (· ≤ ·)) : xs = ys :=
  p.eq_of_pairwise (fun a b _ _ h1 h2 => Int.le_antisymm h1 h2) hx hy
theorem cb_sorted : CallR X (.builtin "sorted") (rBi X.K .sorted) := by
  intro pins s σ H xs us Q I rx h
  obtain ⟨F, vas, v, sub, hs, hv, q⟩ := h
  rcases vas with _ | ⟨d, _ | ⟨d2, r⟩⟩
  · simp [biV] at hv
  · obtain ⟨y, rfl, hy⟩ := hs.one
    cases d with
    | list ds =>
      obtain ⟨a, vs, rfl, h1, h2⟩ := hy
      obtain ⟨ns, e1, e2⟩ := map_some hv
      subst e2
      rw [h2.ints e1] at h1
      refine cr_sortedI pins s σ H _ us Q I rx ⟨a, ns, rfl, SqL.of h1, fun ns' p hp hs' hn => ?_⟩
      have e : ns' = sortI ns := sorted_unique (hp.trans (sortI_perm ns).symm) hs' (sortI_sorted ns)
      subst e
      exact q.2 p _ hn (rel_lst (sub.free hn) (relL_ints _))
    | _ => simp [biV] at hv
  · cases d <;> simp [biV] at hv
/-! ### repr -/
theorem reads_scal {h : Heap} {K : PySem.W.Frag} {F : Fz} {d : D} {v : V} {u : Value} (hd : scalD d = true) (hr : Rel K F d v) (ru : RelV v u) : Reads h u d [] := by
  cases d with
  | none => unfold Rel at hr; subst hr; cases ru; exact .none
  | bool b => unfold Rel at hr; subst hr; cases ru; exact .bool b
  | int i => unfold Rel at hr; subst hr; obtain ⟨t, rfl⟩ := ru; exact .int i t
  | str y => unfold Rel at hr; subst hr; obtain ⟨t, rfl⟩ := ru; exact .str y t
  | _ => cases hd
theorem reads_flat {h : Heap} {P : Program} {w : World} {K : PySem.W.Frag} {F : Fz} : ∀ {kvs : List (D × D)} {kk : List (Key × V)} {vs : List (Key × Value)} {es : List DictEntry}, (kvs.all fun p => (keyD p.1).isSome && scalD p.2) = true → RelKV K F kvs kk → KV kk vs →
    PySem.Pairs (mixKind P w) es vs → ReadsAll h (es.map (·.key)) (kvs.map (·.1)) [] ∧ ReadsAll h (es.map (·.val)) (kvs.map (·.2)) []
  | [], kk, vs, es, _, hr, hv, hp => by
    unfold RelKV at hr; subst hr; cases hv; cases hp
    exact ⟨.nil, .nil⟩
  | (k, d) :: r, kk, vs, es, hs, hr, hv, hp => by
    unfold RelKV at hr
    obtain ⟨kx, v, kr, rfl, e1, e2, e3⟩ := hr
    cases hv with
    | cons h1 h2 =>
      cases hp with
      | @cons e kv es' vr p1 p2 p3 =>
        simp only [List.all_cons, Bool.and_eq_true] at hs
        obtain ⟨i1, i2⟩ := reads_flat (h := h) (by simpa using hs.2) e3 h2 p3
        have rk : Reads h e.key k [] := by
          have p1 : keyIs _ e.key = true := p1
          rw [← h1.1] at p1
          rcases keyIs_shape (k := kx) p1 with ⟨i, t, z1, z2⟩ | ⟨i, t, z1, z2⟩
          · rw [z2]
            cases k <;> simp [keyD] at e1
            · subst z1
              have e1 := Sum.inl.inj e1
              subst e1; exact .int _ t
            · subst z1; cases e1
          · rw [z2]
            cases k <;> simp [keyD] at e1
            · subst z1; cases e1
            · subst z1
              have e1 := Sum.inr.inj e1
              subst e1; exact .str _ t
        have rv : Reads h e.val d [] := by
          rw [p2]
          exact reads_scal hs.1.2 e2 h1.2
        exact ⟨.cons (as := []) (bs := []) rk i1, .cons (as := []) (bs := []) rv i2⟩
theorem cb_repr (hG : X.A.guards = some []) (hu : X.A.units + 70 < cLine) : CallR X (.builtin "repr") (rBi X.K .repr) := by
  intro pins s σ H xs us Q I rx h
  obtain ⟨F, vas, v, sub, hs, hv, q⟩ := h
  rcases vas with _ | ⟨d, _ | ⟨d2, r⟩⟩
  · simp [biV] at hv
  · obtain ⟨y, rfl, hy⟩ := hs.one
    obtain ⟨u, rfl, ru⟩ := vals1 rx
    simp only [biV] at hv
    split at hv
    · rename_i hc
      cases hv
      unfold showOk at hc
      simp only [Bool.and_eq_true, decide_eq_true_eq, Bool.or_eq_true] at hc
      obtain ⟨⟨hd, hsh⟩, hl⟩ := hc
      have hl := lineN_le hl
      have q := q.1 _ rel_str
      have fin : ∀ h' tk u, (∀ b o, s.heap.get? b = some o → h'.get? b = some o) → EP X pins σ Q (.str d.shown u) { s with heap := h', toks := tk } := fun h' tk u hk => ⟨.str d.shown, H, I.kept hk, ⟨_, rfl⟩, q⟩
      have disp : ∀ a as, u = .ref a → Reads s.heap u d as → (d.hasDict = true → sysModules ∉ as) → d.depth ≤ 64 → wpAny (model X.prog X.w) X.A (PySem.call (.builtin "repr") [u]) (EP X pins σ Q) X.xe s := fun a as e r1 hm hdp => by
        subst e
        exact repr_of_reads' r1 hsh hm hG (by omega) (fun _ _ e => e) (fun h' u tk hk => fin h' tk u hk) hl
      cases d with
      | none => cases hy; cases ru; exact PySem.P.repr_of_none (fin s.heap _ _ fun _ _ z => z)
      | bool b => cases hy; cases ru; exact PySem.P.repr_of_bool (fin s.heap _ _ fun _ _ z => z)
      | int i =>
        cases hy
        obtain ⟨t, rfl⟩ := ru
        unfold PyData.showable at hsh
        exact PySem.P.repr_of_int (of_decide_eq_true hsh) (fin s.heap _ _ fun _ _ z => z)
      | str z =>
        cases hy
        obtain ⟨t, rfl⟩ := ru
        exact PySem.P.repr_of_str (fin s.heap _ _ fun _ _ z => z) hl
      | list ds =>
        have hd : shp (.list ds) = true := hd.resolve_right (by simp [flatD])
        have hd2 := hd
        unfold shp SeqAt.shaped at hd2
        simp only [Bool.and_eq_true, decide_eq_true_eq] at hd2
        obtain ⟨as, r1⟩ := Dp.reads I (.list ds) y u (dp_sh sub hd2.1 hy) ru
        obtain ⟨a, vs, rfl, _⟩ := hy
        exact disp a as ru r1 (PyData.noDict_hsm (PyData.hasDict_of_canLay _ hd2.1)) hd2.2
      | tuple ds =>
        have hd : shp (.tuple ds) = true := hd.resolve_right (by simp [flatD])
        have hd2 := hd
        unfold shp SeqAt.shaped at hd2
        simp only [Bool.and_eq_true, decide_eq_true_eq] at hd2
        obtain ⟨as, r1⟩ := Dp.reads I (.tuple ds) y u (dp_sh sub hd2.1 hy) ru
        obtain ⟨a, vs, rfl, _⟩ := hy
        exact disp a as ru r1 (PyData.noDict_hsm (PyData.hasDict_of_canLay _ hd2.1)) hd2.2
      | dict kvs =>
        have hd := hd.resolve_left fun z => by
          unfold shp SeqAt.shaped PyData.canLay0 at z
          simp at z
        obtain ⟨hd, hdp⟩ := hd
        unfold flatD at hd
        simp only [Bool.and_eq_true, Bool.not_eq_true'] at hd
        rcases hy with ⟨z, _⟩ | ⟨_, a, kk, rfl, h1, h2⟩
        · rw [hd.1] at z; cases z
        · obtain ⟨_, hsys, vs, kv, o, es, ep, e1, e2, e3, e4, e5, e6⟩ := (show ObjOk X.prog X.w H s.heap a (.dK kk) from I.hok a _ h1)
          obtain ⟨r1, r2⟩ := reads_flat (h := s.heap) hd.2 h2 kv e5
          have hne : a ≠ sysModules := fun z => by rw [z] at hsys; simp at hsys
          cases (show u = Value.ref a from ru)
          refine disp a ([a] ++ [] ++ []) rfl (.dict (as := []) (bs := []) e1 e2.1 e3 r1 r2) (fun _ z => hne ?_) ?_
          · simp at z; exact z.symm
          · exact hdp
    · cases hv
  · simp [biV] at hv
end
end Pv
end

section
/-! PvI: isinstance, subscripts, dicts, lists changed; a def; the law. -/
set_option autoImplicit false
namespace Pv
open PySem PySem.Spec PyProof.Rows L2

section
variable {X : Cx} {C : Ct} {Ow Ow' OwL : List Nat} {e a b c : Expr} {es : List Expr} {i ia ib ic : Ex} {is : Exs} {pos p apos np : Pos} {x : Str}

/-! ### isinstance -/
def tyN : D → String
  | .none => "NoneType" | .bool _ => "bool" | .int _ => "int" | .str _ => "str" | .list _ => "list" | .tuple _ => "tuple" | .dict _ => "dict"
theorem ty_sh {F : Fz} {H : Hp} {d : D} {v : V} (s : Same F.h H) (h : Sh X.K F H d v) (n : isDk d = false) : TyX X.K H v (.type (tyN d)) := by
  cases d with
  | none => cases h; exact .base .non
  | bool b => cases h; exact .base (.bl b)
  | int j => cases h; exact .base (.int j)
  | str y => cases h; exact .base (.str y)
  | list xs => obtain ⟨q, vs, rfl, e1, _⟩ := h; exact .base (.lst e1)
  | tuple xs =>
    obtain ⟨q, vs, rfl, e1, _⟩ := h
    rcases e1 with (e1 | ⟨o, e1⟩) | ⟨o, its, n, e1, e2, _⟩
    · exact .base (.tup (s _ _ e1))
    · exact .fTuple (s _ _ e1)
    · exact .kTuple e1 e2
  | dict kvs =>
    rcases h with ⟨z, _⟩ | ⟨_, q, kk, rfl, e1, _⟩
    · have n : isDeck kvs = false := n
      rw [n] at z; cases z
    · exact .base (.dK e1)
def isB : Bi → Option String
  | .isInt => some "int" | .isBool => some "bool" | .isStr => some "str" | .isTuple => some "tuple" | .isList => some "list"
  | _ => none
theorem isi_val {f : Bi} {T : String} (hf : isB f = some T) {d v : D} (h : biV f [d] = some v) : isDk d = false ∧ ∃ k, v = .bool k ∧ kitB (tyN d) T = some k := by
  cases f <;> simp only [isB] at hf <;> cases hf <;> simp only [biV] at h <;> split at h <;> first
    | (cases h; done)
    | (rename_i hc
       have hc : isDk d = false := by simpa using hc
       refine ⟨hc, _, (Option.some.inj h).symm, ?_⟩
       cases d <;> first | (simp only [tyN]; decide +kernel) | rfl)
theorem Es.isi {nx : Str} {T : String} (f : Bi) (hf : isB f = some T) (hK : X.K = C.K) (hg : Gl X "isinstance") (hm : X.mg "isinstance" = none) (hv : bootBuiltins "isinstance" = some (.builtin "isinstance")) (hg2 : Gl X nx) (hm2 : X.mg nx = none) (hv2 : bootBuiltins nx = some (.type T)) (hn2 : nx ≠ "__name__") (hd2 : (nx == ("__debug__" : Str)) = false)
    (ha : Eb X C Ow a ia) (he : starEach [a, .Name nx np] X.env = (false, eval a X.env) :: starEach [.Name nx np] X.env) (he2 : starEach [.Name nx np] X.env = (false, eval (.Name nx np) X.env) :: starEach [] X.env) (hpl : (backTo pos (starEach [.Name nx np] X.env)).any (·.1) = false) :
    Es X C Ow (.Call (.Name "isinstance" p) [a, .Name nx np] [] pos) (.bi f (.cons ia .nil)) :=
  ⟨pe_con (pe_callB call_isi hg hm hv (pa_cons ha.run (pa_cons (pe_bltn hg2 hm2 hv2 (v := .ty T) rfl hn2 hd2) pa_nil he2) he) (by decide) (by decide) he hpl) fun σ H Q ⟨Th, F, σe, g, v, g', r, m, q⟩ => by
    unfold ev evs at m
    obtain ⟨vs, g1, m1, m2⟩ := bind_eq_ok m
    obtain ⟨d, g2, m3, m4⟩ := bind_eq_ok m1
    obtain ⟨ws, g3, m5, m6⟩ := bind_eq_ok m4
    unfold evs at m5
    cases m5; cases m6
    obtain ⟨m7, e7⟩ := lift_eq_ok m2
    subst e7
    obtain ⟨hn, k, e8, hk⟩ := isi_val hf m7
    subst e8
    refine ⟨Th, F, σe, g, d, _, r, m3, fun F1 H1 y s1 r1 b1 => ⟨y, .ty T, _, _, k, rfl, .ty T, ty_sh r1.sub (by rw [hK]; exact r1.sh b1) hn, kit_ty hk, q F1 H1 _ s1 r1 rel_bl⟩⟩⟩

/-! ### list(range(..)) -/
theorem rgV_eq {K : PySem.W.Frag} {F : Fz} (lo hi : Int) : RelL K F (rangeD lo (hi - lo).toNat) (rgV lo hi) := by
  have : ∀ (l : List Nat), RelL K F (l.map fun (k : Nat) => (PyData.int (lo + k) : D)) (l.map fun (k : Nat) => V.int (lo + k)) := by
    intro l
    induction l with
    | nil => exact .nil
    | cons n l ih => exact .cons rel_int ih
  exact this _
theorem Ef.listRange1 {e1 : Expr} (hK : X.K = C.K) (hc : X.calm = true) (hg : Gl X "list") (hm : X.mg "list" = none) (hg2 : Gl X "range") (hm2 : X.mg "range" = none) (ha : Eb X C Ow a ia) (na : starEach [a] X.env = (false, eval a X.env) :: starEach [] X.env)
    (na2 : starEach [Expr.Call (.Name "range" np) [a] [] apos] X.env = (false, eval (.Call (.Name "range" np) [a] [] apos) X.env) :: starEach [] X.env) :
    Ef X C Ow (.Call (.Name "list" p) [.Call (.Name "range" np) [a] [] apos] [] pos) (.bi .listRange1 (.cons ia .nil)) :=
  ⟨pe_con (pe_listRg hc hg hm (prg_1 hg2 hm2 ha.run na) na2) fun σ H Q ⟨Th, F, σe, g, v, g', r, m, q⟩ => by
    unfold ev evs at m
    obtain ⟨vs, g1, m1, m2⟩ := bind_eq_ok m
    obtain ⟨d, g2, m3, m4⟩ := bind_eq_ok m1
    obtain ⟨ws, g3, m5, m6⟩ := bind_eq_ok m4
    unfold evs at m5
    cases m5; cases m6
    obtain ⟨m7, e7⟩ := lift_eq_ok m2
    subst e7
    cases d with
    | int j =>
      simp only [biV] at m7
      split at m7
      · rename_i hc
        cases m7
        simp only [Bool.and_eq_true, decide_eq_true_eq] at hc
        refine ⟨Th, F, σe, g, _, _, r, m3, fun F1 H1 y s1 r1 b1 => ?_⟩
        have hy : y = .int j := r1.sh b1
        subst hy
        have e := rgV_eq (K := C.K) (F := F1) 0 j
        rw [Int.sub_zero] at e
        exact ⟨j, rfl, ⟨by omega, by omega, by omega, by omega, by omega⟩, fun p n => q F1 _ p s1 (r1.grown n) (new_of r1 n ⟨_, upd_same, e⟩)⟩
      · cases m7
    | _ => simp [biV] at m7⟩
theorem Ef.listRange2 (hK : X.K = C.K) (hc : X.calm = true) (hg : Gl X "list") (hm : X.mg "list" = none) (hg2 : Gl X "range") (hm2 : X.mg "range" = none) (ha : Eb X C Ow a ia) (hb : Eb X C Ow b ib) (na : starEach [a, b] X.env = (false, eval a X.env) :: starEach [b] X.env)
    (nb : starEach [b] X.env = (false, eval b X.env) :: starEach [] X.env) (hp : (backTo apos (starEach [b] X.env)).any (·.1) = false)
    (na2 : starEach [Expr.Call (.Name "range" np) [a, b] [] apos] X.env = (false, eval (.Call (.Name "range" np) [a, b] [] apos) X.env) :: starEach [] X.env) :
    Ef X C Ow (.Call (.Name "list" p) [.Call (.Name "range" np) [a, b] [] apos] [] pos) (.bi .listRange2 (.cons ia (.cons ib .nil))) :=
  ⟨pe_con (pe_listRg hc hg hm (prg_2 hg2 hm2 ha.run hb.run na nb hp) na2) fun σ H Q ⟨Th, F, σe, g, v, g', r, m, q⟩ => by
    unfold ev evs at m
    obtain ⟨vs, g1, m1, m2⟩ := bind_eq_ok m
    obtain ⟨d, g2, m3, m4⟩ := bind_eq_ok m1
    obtain ⟨ws, g3, m5, m6⟩ := bind_eq_ok m4
    unfold evs at m5
    obtain ⟨d2, g4, m8, m9⟩ := bind_eq_ok m5
    obtain ⟨ws2, g5, m10, m11⟩ := bind_eq_ok m9
    unfold evs at m10
    cases m10; cases m11; cases m6
    obtain ⟨m7, e7⟩ := lift_eq_ok m2
    subst e7
    cases d with
    | int j =>
      cases d2 with
      | int k =>
        simp only [biV] at m7
        split at m7
        · rename_i hc
          cases m7
          simp only [Bool.and_eq_true, decide_eq_true_eq] at hc
          refine ⟨Th, F, σe, g, _, _, r, m3, fun F1 H1 y s1 r1 b1 => ⟨Th, F1, σe, _, _, _, r1, m8, fun F2 H2 z s2 r2 b2 => ?_⟩⟩
          have hy : y = .int j := r1.sh b1
          have hz : z = .int k := r2.sh b2
          subst hy; subst hz
          refine ⟨j, k, rfl, rfl, ⟨by omega, by omega, by omega, by omega, ?_⟩, fun p n => q F2 _ p (s1.trans s2) (r2.grown n) (new_of r2 n ⟨_, upd_same, rgV_eq _ _⟩)⟩
          have := hc.2
          unfold lineN at this
          omega
        · cases m7
      | _ => simp [biV] at m7
    | _ => cases d2 <;> simp [biV] at m7⟩

/-! ### subscripts -/
theorem RelL.atI {K : PySem.W.Frag} {F : Fz} {ds : List D} {vs : List V} {j : Int} {d : D} (h : RelL K F ds vs) (e : L2.atI ds j = some d) : ∃ v, L2.atI vs j = some v ∧ Rel K F d v := by
  unfold L2.atI at e ⊢
  rw [← h.length]
  cases q : ixN ds.length j with
  | none => rw [q] at e; cases e
  | some n =>
    rw [q] at e
    exact h.get e
theorem Es.idx (hK : X.K = C.K) (ha : Eb X C Ow a ia) (hb : Eb X C Ow b ib) (hs : PlainIx b) : Es X C Ow (.Subscript a b pos) (.idx ia ib) :=
  ⟨pe_con (pe_ix (ix_list.or ix_tup) ha.run hb.run hs) fun σ H Q ⟨T, F, σe, g, v, g', r, m, q⟩ => by
    unfold ev at m
    obtain ⟨va, g1, m1, m2⟩ := bind_eq_ok m
    obtain ⟨vb, g2, m3, m4⟩ := bind_eq_ok m2
    obtain ⟨m5, e5⟩ := lift_eq_ok m4
    subst e5
    refine ⟨T, F, σe, g, va, g1, r, m1, fun F1 H1 y s1 r1 b1 => ⟨T, F1, σe, g1, vb, _, r1, m3, fun F2 H2 z s2 r2 b2 => ?_⟩⟩
    have hy := r2.sh (b1.mono s2)
    have hz := r2.sh b2
    cases va with
    | list ds =>
      cases vb with
      | int j =>
        obtain ⟨p, vs, rfl, h1, h2⟩ := hy
        cases hz
        obtain ⟨w, e1, e2⟩ := h2.atI m5
        exact .inl ⟨p, vs, j, w, rfl, rfl, SqL.of h1, e1, q F2 H2 w (s1.trans s2) r2 e2⟩
      | _ => simp [idxV] at m5
    | tuple ds =>
      cases vb with
      | int j =>
        obtain ⟨p, vs, rfl, h1, h2⟩ := hy
        cases hz
        obtain ⟨w, e1, e2⟩ := h2.atI m5
        exact .inr ⟨p, vs, j, w, rfl, rfl, by rw [hK]; exact sqT_mono r2.sub h1, e1, q F2 H2 w (s1.trans s2) r2 e2⟩
      | _ => simp [idxV] at m5
    | _ => simp [idxV] at m5⟩
/-- a part of a slice -/
structure Eo (X : Cx) (C : Ct) (Ow : List Nat) (o : Option Expr) (i : Ex) : Prop where
  run : PO X o (fun σ H Q => ∃ T F σe g v g' oi, R C Ow T F σe g σ H ∧ ev C.Φ i σe g = .ok v g' ∧ optI v = some oi ∧ ∀ F' H', Fsub F F' → R C Ow T F' σe g' σ H' → Q oi H')
theorem po_con {o : Option Expr} {t t' : TO} (h : PO X o t) (c : ∀ σ H Q, t' σ H Q → t σ H Q) : PO X o t' := ⟨fun pins s σ H Q I hw => h.run pins s σ H Q I (c σ H Q hw)⟩
theorem Eo.none : Eo X C Ow none (.c .none) := ⟨po_con po_none fun σ H Q ⟨T, F, σe, g, v, g', oi, r, m, e, q⟩ => by
  unfold ev at m
  cases m; cases e
  exact q F H (.refl F) r⟩
theorem Eo.some (h : Eb X C Ow e i) (hi : ∀ (σ : Sl) (g g' : G), ev C.Φ i σ g ≠ .ok .none g') : Eo X C Ow (some e) i := ⟨po_con (po_some h.run) fun σ H Q ⟨T, F, σe, g, v, g', oi, r, m, e, q⟩ => by
  refine ⟨T, F, σe, g, v, g', r, m, fun F1 H1 y s1 r1 b1 => ?_⟩
  cases v with
  | int j =>
    cases e
    exact ⟨j, r1.sh b1, q F1 H1 s1 r1⟩
  | none => exact (hi _ _ _ m).elim
  | _ => cases e⟩
theorem cut_rel {K : PySem.W.Frag} {F : Fz} {ds : List D} {vs : List V} (h : RelL K F ds vs) (lo hi : Option Int) : RelL K F (cutD ds lo hi) (cutV vs lo hi) := by
  unfold cutD cutV
  rw [h.length]
  exact (h.drop _).take _
theorem Es.slc {lo hi : Option Expr} {il ih : Ex} {p2 : Pos} (hK : X.K = C.K) (ha : Eb X C Ow a ia) (hl : Eo X C Ow lo il) (hh : Eo X C Ow hi ih) : Es X C Ow (.Subscript a (.Slice lo hi none p2) pos) (.slc ia il ih) :=
  ⟨pe_con (pe_slice (sl_list.or sl_tupA) ha.run hl.run hh.run) fun σ H Q ⟨T, F, σe, g, v, g', r, m, q⟩ => by
    unfold ev at m
    obtain ⟨va, g1, m1, m2⟩ := bind_eq_ok m
    obtain ⟨vl, g2, m3, m4⟩ := bind_eq_ok m2
    obtain ⟨vh, g3, m5, m6⟩ := bind_eq_ok m4
    obtain ⟨m7, e7⟩ := lift_eq_ok m6
    subst e7
    have key : ∀ (ds : List D) (P : List D → D), (match optI vl, optI vh with
        | some l, some h => some (P (cutD ds l h))
        | _, _ => none) = some v → ∃ l h, optI vl = some l ∧ optI vh = some h ∧ v = P (cutD ds l h) := fun ds P z => by
      cases e1 : optI vl with
      | none => rw [e1] at z; cases z
      | some l =>
        cases e2 : optI vh with
        | none => rw [e1, e2] at z; cases z
        | some h => rw [e1, e2] at z; exact ⟨l, h, rfl, rfl, (Option.some.inj z).symm⟩
    cases va with
    | list ds =>
      obtain ⟨l, h, e1, e2, rfl⟩ := key ds .list m7
      refine ⟨T, F, σe, g, _, g1, r, m1, fun F1 H1 y s1 r1 b1 => ⟨T, F1, σe, g1, vl, _, l, r1, m3, e1, fun F2 H2 s2 r2 => ⟨T, F2, σe, _, vh, _, h, r2, m5, e2, fun F3 H3 s3 r3 => .inl ?_⟩⟩⟩
      obtain ⟨p, vs, rfl, h1, h2⟩ := r3.sh ((b1.mono s2).mono s3)
      refine ⟨p, vs, rfl, SqL.of h1, fun p n => ?_⟩
      exact q (F3.put p _) _ _ (s1.trans (s2.trans (s3.trans (Fsub.put (r3.fn n))))) (r3.laid n) (rel_lst (r3.fn n) (cut_rel h2 l h))
    | tuple ds =>
      obtain ⟨l, h, e1, e2, rfl⟩ := key ds .tuple m7
      refine ⟨T, F, σe, g, _, g1, r, m1, fun F1 H1 y s1 r1 b1 => ⟨T, F1, σe, g1, vl, _, l, r1, m3, e1, fun F2 H2 s2 r2 => ⟨T, F2, σe, _, vh, _, h, r2, m5, e2, fun F3 H3 s3 r3 => .inr ?_⟩⟩⟩
      obtain ⟨p, vs, rfl, h1, h2⟩ := r3.sh ((b1.mono s2).mono s3)
      refine ⟨p, vs, rfl, by rw [hK]; exact sqT_mono r3.sub h1, fun z => ?_, fun _ p n => ?_⟩
      · refine q F3 H3 _ (s1.trans (s2.trans s3)) r3 ?_
        unfold Rel
        refine ⟨p, vs, rfl, h1, ?_⟩
        have e : cutV vs l h = vs := by
          unfold cutV
          rw [z.1, z.2]
          simp
        have := cut_rel h2 l h
        rwa [e] at this
      · exact q (F3.put p _) _ _ (s1.trans (s2.trans (s3.trans (Fsub.put (r3.fn n))))) (r3.laid n) (rel_tup (r3.fn n) (cut_rel h2 l h))
    | _ => simp [slcV] at m7⟩
/-- xs[::-1], a list -/
theorem Es.rev {k : Nat} {p1 p2 p3 : Pos} (hK : X.K = C.K) (ha : Eb X C Ow a ia) (hl : ∀ (σ : Sl) (g g' : G) (ds : List D), ev C.Φ ia σ g ≠ .ok (.tuple ds) g') : Es X C Ow (.Subscript a (.Slice none none (some (.UnaryOp .USub (.Constant (.int 1) k p1) p2)) p3) pos) (.rev ia) :=
  ⟨pe_con (pe_revL ha.run) fun σ H Q ⟨T, F, σe, g, v, g', r, m, q⟩ => by
    unfold ev at m
    obtain ⟨va, g1, m1, m2⟩ := bind_eq_ok m
    obtain ⟨m3, e3⟩ := lift_eq_ok m2
    subst e3
    refine ⟨T, F, σe, g, va, _, r, m1, fun F1 H1 y s1 r1 b1 => ?_⟩
    cases va with
    | list ds =>
      cases m3
      obtain ⟨p, vs, rfl, h1, h2⟩ := r1.sh b1
      exact ⟨p, vs, rfl, SqL.of h1, fun p n => q (F1.put p _) _ _ (s1.trans (Fsub.put (r1.fn n))) (r1.laid n) (rel_lst (r1.fn n) h2.reverse)⟩
    | tuple ds => exact (hl _ _ _ _ m1).elim
    | _ => simp [revV] at m3⟩

/-! ### dicts with keys that are ints and texts -/
theorem Ef.dnew : Ef X C Ow (.Dict [] [] pos) .dnew :=
  ⟨pe_con pe_dnewK fun σ H Q ⟨T, F, σe, g, v, g', r, m, q⟩ => by
    unfold ev at m
    cases m
    exact fun p n => q F _ p (.refl F) (r.grown n) (new_of r n ⟨rfl, [], upd_same, by unfold RelKV; rfl⟩)⟩
theorem key_rel {K : PySem.W.Frag} {F : Fz} {H : Hp} {k : D} {kx : Key} {y : V} (e : keyD k = some kx) (h : Sh K F H k y) : y = kV kx := by
  cases k <;> simp [keyD] at e
  · subst e; cases h; rfl
  · subst e; cases h; rfl
theorem keq_of {a k : D} {ka kx : Key} (e1 : keyD a = some ka) (e2 : keyD k = some kx) : keq a k = decide (ka = kx) := by
  unfold keq; rw [e1, e2]
theorem look_rel {K : PySem.W.Frag} {F : Fz} {k : D} {kx : Key} (e : keyD k = some kx) : ∀ {kvs : List (D × D)} {kk : List (Key × V)}, RelKV K F kvs kk → (∀ d, dLook k kvs = some d → ∃ v, valV kk kx = some v ∧ Rel K F d v) ∧ (dLook k kvs = none → valV kk kx = none)
  | [], kk, h => by
    unfold RelKV at h; subst h
    exact ⟨(fun d z => by cases z), fun _ => rfl⟩
  | (a, d) :: r, kk, h => by
    unfold RelKV at h
    obtain ⟨ka, v, kr, rfl, e1, e2, e3⟩ := h
    have ih := look_rel (k := k) e e3
    unfold dLook valV at ih ⊢
    rw [List.find?_cons, List.find?_cons]
    simp only [keq_of e1 e]
    by_cases hc : ka = kx
    · simp only [hc, decide_true]
      exact ⟨fun d' z => ⟨v, rfl, by cases z; exact e2⟩, fun z => by cases z⟩
    · simp only [decide_eq_false hc]
      exact ih
theorem any_rel {K : PySem.W.Frag} {F : Fz} {k : D} {kx : Key} (e : keyD k = some kx) : ∀ {kvs : List (D × D)} {kk : List (Key × V)}, RelKV K F kvs kk → (kvs.any fun p => keq p.1 k) = (kk.any fun kv => decide (kv.1 = kx))
  | [], kk, h => by unfold RelKV at h; subst h; rfl
  | (a, d) :: r, kk, h => by
    unfold RelKV at h
    obtain ⟨ka, v, kr, rfl, e1, e2, e3⟩ := h
    rw [List.any_cons, List.any_cons, any_rel e e3]
    simp only [keq_of e1 e]
theorem RelKV.append {K : PySem.W.Frag} {F : Fz} {k d : D} {kx : Key} {v : V} (e : keyD k = some kx) (h : Rel K F d v) : ∀ {kvs : List (D × D)} {kk : List (Key × V)}, RelKV K F kvs kk → RelKV K F (kvs ++ [(k, d)]) (kk ++ [(kx, v)])
  | [], kk, q => by unfold RelKV at q; subst q; unfold RelKV; exact ⟨kx, v, [], rfl, e, h, by unfold RelKV; rfl⟩
  | (a, d0) :: r, kk, q => by
    unfold RelKV at q
    obtain ⟨ka, w, kr, rfl, e1, e2, e3⟩ := q
    show RelKV K F ((a, d0) :: (r ++ [(k, d)])) _
    unfold RelKV
    exact ⟨ka, w, _, rfl, e1, e2, RelKV.append e h e3⟩
theorem RelKV.upd {K : PySem.W.Frag} {F : Fz} {k d : D} {kx : Key} {v : V} (e : keyD k = some kx) (h : Rel K F d v) : ∀ {kvs : List (D × D)} {kk : List (Key × V)}, RelKV K F kvs kk → RelKV K F (kvs.map fun p => if keq p.1 k then (p.1, d) else p) (kk.map fun kv => if kv.1 = kx then (kv.1, v) else kv)
  | [], kk, q => by unfold RelKV at q; subst q; unfold RelKV; rfl
  | (a, d0) :: r, kk, q => by
    unfold RelKV at q
    obtain ⟨ka, w, kr, rfl, e1, e2, e3⟩ := q
    have ih := RelKV.upd (k := k) e h e3
    rw [List.map_cons, List.map_cons]
    simp only [keq_of e1 e]
    by_cases hc : ka = kx
    · simp only [hc, decide_true, if_true]
      unfold RelKV
      exact ⟨kx, v, _, rfl, hc ▸ e1, h, ih⟩
    · simp only [decide_eq_false hc, if_neg hc, Bool.false_eq_true, if_false]
      unfold RelKV
      exact ⟨ka, w, _, rfl, e1, e2, ih⟩
theorem put_rel {K : PySem.W.Frag} {F : Fz} {k d : D} {kx : Key} {v : V} {kvs : List (D × D)} {kk : List (Key × V)} (e : keyD k = some kx) (h : Rel K F d v) (q : RelKV K F kvs kk) : RelKV K F (dPut k d kvs) (putK kk kx v) := by
  unfold dPut putK
  rw [any_rel e q]
  split
  · exact q.upd e h
  · exact q.append e h
theorem RelKV.length {K : PySem.W.Frag} {F : Fz} : ∀ {kvs : List (D × D)} {kk : List (Key × V)}, RelKV K F kvs kk → kvs.length = kk.length
  | [], kk, q => by unfold RelKV at q; subst q; rfl
  | (a, d0) :: r, kk, q => by
    unfold RelKV at q
    obtain ⟨ka, w, kr, rfl, e1, e2, e3⟩ := q
    rw [List.length_cons, List.length_cons, RelKV.length e3]
theorem dPut_mark {k d : D} {kx : Key} {kvs : List (D × D)} (e : keyD k = some kx) (h : isDeck kvs = false) : isDeck (dPut k d kvs) = false := by
  have hk : isDeck [(k, d)] = false := by cases k <;> simp [keyD] at e <;> rfl
  unfold dPut
  cases kvs with
  | nil => exact hk
  | cons p r =>
    obtain ⟨a, w⟩ := p
    split
    · rw [List.map_cons]
      cases a <;> first | (split <;> rfl) | (unfold isDeck at h; cases h)
    · cases a <;> first | rfl | (unfold isDeck at h; cases h)
theorem isDeckN {kvs : List (D × D)} {b : Bool} (h : ¬ ((isDeck kvs || b) = true)) : isDeck kvs = false ∧ b = false := by
  cases e : isDeck kvs <;> cases b <;> simp_all
theorem Es.dget1 (hK : X.K = C.K) (hu : X.A.units + 1 < cLine) (ha : Eb X C Ow a ia) (hb : Eb X C Ow b ib) (m : M1 X a "get" apos b pos) : Es X C Ow (.Call (.Attribute a "get" apos) [b] [] pos) (.dget ia ib (.c .none)) :=
  ⟨pe_con (pe_dget1 hu ha.run hb.run m) fun σ H Q ⟨T, F, σe, g, v, g', r, m, q⟩ => by
    unfold ev at m
    obtain ⟨dv, g1, m1, m2⟩ := bind_eq_ok m
    obtain ⟨kv, g2, m3, m4⟩ := bind_eq_ok m2
    obtain ⟨xv, g3, m5, m6⟩ := bind_eq_ok m4
    unfold ev at m5
    cases m5
    obtain ⟨m7, e7⟩ := lift_eq_ok m6
    subst e7
    cases dv with
    | dict kvs =>
      simp only [dgetV] at m7
      split at m7
      · cases m7
      · rename_i hc
        obtain ⟨hd, hk⟩ := isDeckN hc
        cases m7
        obtain ⟨kx, ek⟩ : ∃ kx, keyD kv = some kx := by
          cases z : keyD kv with
          | none => rw [z] at hk; cases hk
          | some kx => exact ⟨kx, rfl⟩
        refine ⟨T, F, σe, g, _, g1, r, m1, fun F1 H1 y s1 r1 b1 => ?_⟩
        have hy := r1.sh b1
        rcases hy with ⟨z, _⟩ | ⟨_, p, kk, rfl, h1, h2⟩
        · rw [hd] at z; cases z
        refine ⟨p, rfl, .inl ⟨kk, .inl h1⟩, T, F1, σe, g1, kv, _, r1, m3, fun F2 H2 z s2 r2 b2 => ?_⟩
        have hz := key_rel ek (r2.sh b2)
        subst hz
        rcases r2.sh (b1.mono s2) with ⟨z, _⟩ | ⟨_, p', kk', e', h1, h2⟩
        · rw [hd] at z; cases z
        cases e'
        refine ⟨_, DGet.k h1, ?_⟩
        obtain ⟨l1, l2⟩ := look_rel ek h2
        cases z : dLook kv kvs with
        | none =>
          rw [z] at q
          rw [l2 z]
          exact q F2 H2 _ (s1.trans s2) r2 rel_non
        | some d =>
          rw [z] at q
          obtain ⟨w, e1, e2⟩ := l1 d z
          rw [e1]
          exact q F2 H2 _ (s1.trans s2) r2 e2
    | _ => simp [dgetV] at m7⟩
theorem Et.dhas (hK : X.K = C.K) (hu : X.A.units + 1 < cLine) (ha : Eb X C Ow a ia) (hb : Eb X C Ow b ib) : PC X .In a b (tS C Ow (ev C.Φ (.dhas ia ib false))) := by
  refine ⟨fun pins s σ H Q I h => (pc_din hu ha.run hb.run).run pins s σ H Q I ?_⟩
  obtain ⟨T, F, σe, g, v, g', r, m, q⟩ := h
  unfold ev at m
  obtain ⟨kv, g1, m1, m2⟩ := bind_eq_ok m
  obtain ⟨dv, g2, m3, m4⟩ := bind_eq_ok m2
  obtain ⟨m7, e7⟩ := lift_eq_ok m4
  subst e7
  obtain ⟨k, m8, e8⟩ := map_some m7
  subst e8
  cases dv with
  | dict kvs =>
    simp only [dhasV] at m8
    split at m8
    · cases m8
    · rename_i hc
      obtain ⟨hd, hk⟩ := isDeckN hc
      cases m8
      obtain ⟨kx, ek⟩ : ∃ kx, keyD kv = some kx := by
        cases z : keyD kv with
        | none => rw [z] at hk; cases hk
        | some kx => exact ⟨kx, rfl⟩
      refine ⟨T, F, σe, g, _, g1, r, m1, fun F1 H1 y s1 r1 b1 => ⟨T, F1, σe, g1, _, _, r1, m3, fun F2 H2 z s2 r2 b2 => ?_⟩⟩
      have hz := key_rel ek (r2.sh (b1.mono s2))
      subst hz
      rcases r2.sh b2 with ⟨z, _⟩ | ⟨_, p', kk', e', h1, h2⟩
      · rw [hd] at z; cases z
      subst e'
      refine ⟨p', _, rfl, DGet.k h1, ?_⟩
      obtain ⟨l1, l2⟩ := look_rel ek h2
      refine q F2 H2 _ (s1.trans s2) r2 ?_
      cases z : dLook kv kvs with
      | none => rw [l2 z]; exact rel_bl
      | some d =>
        obtain ⟨w, e1, e2⟩ := l1 d z
        rw [e1]; exact rel_bl
  | _ => simp [dhasV] at m8
theorem Et.dhasN (hK : X.K = C.K) (hu : X.A.units + 1 < cLine) (ha : Eb X C Ow a ia) (hb : Eb X C Ow b ib) : PC X .NotIn a b (tS C Ow (ev C.Φ (.dhas ia ib true))) := by
  refine ⟨fun pins s σ H Q I h => (pc_dnotin hu ha.run hb.run).run pins s σ H Q I ?_⟩
  obtain ⟨T, F, σe, g, v, g', r, m, q⟩ := h
  unfold ev at m
  obtain ⟨kv, g1, m1, m2⟩ := bind_eq_ok m
  obtain ⟨dv, g2, m3, m4⟩ := bind_eq_ok m2
  obtain ⟨m7, e7⟩ := lift_eq_ok m4
  subst e7
  obtain ⟨k, m8, e8⟩ := map_some m7
  subst e8
  cases dv with
  | dict kvs =>
    simp only [dhasV] at m8
    split at m8
    · cases m8
    · rename_i hc
      obtain ⟨hd, hk⟩ := isDeckN hc
      cases m8
      obtain ⟨kx, ek⟩ : ∃ kx, keyD kv = some kx := by
        cases z : keyD kv with
        | none => rw [z] at hk; cases hk
        | some kx => exact ⟨kx, rfl⟩
      refine ⟨T, F, σe, g, _, g1, r, m1, fun F1 H1 y s1 r1 b1 => ⟨T, F1, σe, g1, _, _, r1, m3, fun F2 H2 z s2 r2 b2 => ?_⟩⟩
      have hz := key_rel ek (r2.sh (b1.mono s2))
      subst hz
      rcases r2.sh b2 with ⟨z, _⟩ | ⟨_, p', kk', e', h1, h2⟩
      · rw [hd] at z; cases z
      subst e'
      refine ⟨p', _, rfl, DGet.k h1, ?_⟩
      obtain ⟨l1, l2⟩ := look_rel ek h2
      refine q F2 H2 _ (s1.trans s2) r2 ?_
      cases z : dLook kv kvs with
      | none => rw [l2 z]; exact rel_bl
      | some d =>
        obtain ⟨w, e1, e2⟩ := l1 d z
        rw [e1]; exact rel_bl
  | _ => simp [dhasV] at m8
theorem Es.dhas (hK : X.K = C.K) (hu : X.A.units + 1 < cLine) (ha : Eb X C Ow a ia) (hb : Eb X C Ow b ib) (h1 : behindInMarks .In b = false) : Es X C Ow (.Compare a [.In] [b] pos) (.dhas ia ib false) := ⟨pe_cmp (Et.dhas hK hu ha hb) h1⟩
theorem Es.dhasN (hK : X.K = C.K) (hu : X.A.units + 1 < cLine) (ha : Eb X C Ow a ia) (hb : Eb X C Ow b ib) (h1 : behindInMarks .NotIn b = false) : Es X C Ow (.Compare a [.NotIn] [b] pos) (.dhas ia ib true) := ⟨pe_cmp (Et.dhasN hK hu ha hb) h1⟩
end
end Pv
end

section
/-! PvJ: lists and dicts changed; a def; the law. -/
set_option autoImplicit false
namespace Pv
open PySem PySem.Spec PyProof.Rows L2

section
variable {X : Cx} {C : Ct} {Ow Ow' OwL : List Nat} {e a b c : Expr} {es : List Expr} {i ia ib ic : Ex} {is : Exs} {pos p apos np pos' : Pos} {x : Str} {n : Nat}
theorem own_list {T : Hp} {F : Fz} {σe : Sl} {g : G} {σ : L2.St} {H : Hp} {xs : List D} (r : R C Ow T F σe g σ H) (hn : n ∈ Ow) (e : σe[n]? = some (some (.list xs))) : ∃ a vs, σ[n]? = some (some (V.ref a)) ∧ H a = some (.lst vs) ∧ RelL C.K F xs vs := by
  obtain ⟨a, e1, ⟨vs, e2, e3⟩, _⟩ := r.ow n _ e hn
  exact ⟨a, vs, e1, e2, e3⟩
theorem own_dict {T : Hp} {F : Fz} {σe : Sl} {g : G} {σ : L2.St} {H : Hp} {xs : List (D × D)} (r : R C Ow T F σe g σ H) (hn : n ∈ Ow) (e : σe[n]? = some (some (.dict xs))) : ∃ a vs, σ[n]? = some (some (V.ref a)) ∧ H a = some (.dK vs) ∧ RelKV C.K F xs vs ∧ isDeck xs = false := by
  obtain ⟨a, e1, ⟨e0, vs, e2, e3⟩, _⟩ := r.ow n _ e hn
  exact ⟨a, vs, e1, e2, e3, e0⟩
/-- xs.append(e) -/
theorem Ss.app (n : Nat) (hn : n ∈ Ow) (hN : X.N[n]? = some x) (hv : Vis X.env.scope x) (hd : (x == ("__debug__" : Str)) = false) (hcd : (x == ("__classdict__" : Str)) = false) (h : Es X C Ow e i)
    (hbase : attributeBase (.Name x np) "append" X.env (eval (.Name x np) X.env) = eval (.Name x np) X.env)
    (hfew : ((backTo pos (starEach [e] X.env)).all (fun x => !x.1) && (backToKw pos (keywordEach [] X.env)).all (fun x => x.1.isSome) && decide (([e] : List Expr).length + ([] : List Keyword).length + (if ([] : List Keyword).isEmpty then 0 else 1) < 30)) = true)
    (hline : (apos.endLine == pos.line) = true) (hs : starEach [e] X.env = (false, eval e X.env) :: starEach [] X.env) (hpl : (backTo pos (starEach [] X.env)).any (·.1) = false) (hsw : swapsWith (.Call (.Attribute (.Name x np) "append" apos) [e] [] pos) none pos'.line X.env = pure false) :
    Ss X C Ow Ow OwL (.Expr (.Call (.Attribute (.Name x np) "append" apos) [e] [] pos) pos') (.app n i) :=
  ⟨ps_con (ps_expr (pe_bm PySem.F.plainAttrs_list PySem.F.slot_list_append PySem.F.type_list_append (by exact mt_append) (pe_var hN hv hd hcd) (pa_cons h.run pa_nil hs) hbase hfew hline hs hpl) hsw) fun D σ H ⟨T, F, σe, g, fl, g', r, m, q⟩ => by
    unfold Pv.run at m
    obtain ⟨d0, g0, m0, m1⟩ := bind_eq_ok m
    obtain ⟨e0, e0'⟩ := slot_ok m0
    subst e0'
    obtain ⟨v, g1, m2, m3⟩ := bind_eq_ok m1
    obtain ⟨d1, g2, m4, m5⟩ := bind_eq_ok m3
    obtain ⟨e1, e1'⟩ := slot_ok m4
    subst e1'
    obtain ⟨d2, g3, m6, m7⟩ := bind_eq_ok m5
    obtain ⟨m8, e8⟩ := lift_eq_ok m6
    subst e8
    cases m7
    rw [e0] at e1
    have e1 : d0 = d1 := Option.some.inj (Option.some.inj e1)
    subst e1
    cases d0 with
    | list xs =>
      simp only [appV] at m8
      split at m8
      · rename_i hc
        cases m8
        obtain ⟨p, vs, q1, q2, q3⟩ := own_list r hn e0
        refine ⟨.ref p, q1, .inl ⟨rfl, vs, SqL.of q2⟩, T, F, σe, _, v, _, r, m2, fun F1 H1 y s1 r1 h1 => ?_⟩
        obtain ⟨p', vs', z1, z2, z3⟩ := own_list r1 hn e0
        rw [q1] at z1
        cases z1
        refine ⟨p, vs', y, rfl, rfl, z2, ?_, q F1 _ _ s1 (r1.write hn e0 q1 ⟨_, upd_same, z3.append (.cons h1 .nil)⟩)⟩
        rw [← z3.length]
        exact lineN_lt (of_decide_eq_true hc)
      · cases m8
    | _ => simp [appV] at m8⟩
/-- xs[k] = e, a list -/
theorem Ss.setIx {k : Expr} {ik : Ex} (n : Nat) (hn : n ∈ Ow) (hN : X.N[n]? = some x) (hv : Vis X.env.scope x) (hd : (x == ("__debug__" : Str)) = false) (hcd : (x == ("__classdict__" : Str)) = false) (h : Es X C Ow e i) (hk : Eb X C Ow k ik)
    (ha : ∀ v, assign (.Subscript (.Name x np) k apos) X.env v = (do
      let ov ← holding [v] (eval (.Name x np) X.env)
      let iv ← holding [v, ov] (eval k X.env)
      standAt apos
      holding [v, ov, iv] (setItem ov iv v)
      release [v, ov, iv] [])) (hs : swapsWithSole [.Subscript (.Name x np) k apos] e pos.line X.env = pure false) (hw : swappedStores [.Subscript (.Name x np) k apos] e X.env = pure none) (h1 : (assignEach [.Subscript (.Name x np) k apos] X.env).map (·.2) = [assign (.Subscript (.Name x np) k apos) X.env]) :
    Ss X C Ow Ow OwL (.Assign [.Subscript (.Name x np) k apos] e pos) (.setIx n ik i) :=
  ⟨ps_con (ps_asg h.run (pg_sub (pe_var hN hv hd hcd) hk.run set_list ha) hs hw h1) fun D σ H ⟨T, F, σe, g, fl, g', r, m, q⟩ => by
    unfold Pv.run at m
    obtain ⟨v, g1, m1, m2⟩ := bind_eq_ok m
    obtain ⟨d0, g2, m3, m4⟩ := bind_eq_ok m2
    obtain ⟨e0, e0'⟩ := slot_ok m3
    subst e0'
    obtain ⟨kv, g3, m5, m6⟩ := bind_eq_ok m4
    obtain ⟨d2, g4, m7, m8⟩ := bind_eq_ok m6
    obtain ⟨m9, e9⟩ := lift_eq_ok m7
    subst e9
    cases m8
    cases d0 with
    | list xs =>
      cases kv with
      | int j =>
        obtain ⟨jj, e2, e3⟩ := map_some m9
        subst e3
        refine ⟨T, F, σe, g, v, _, r, m1, fun F1 H1 y s1 r1 h1 => ?_⟩
        obtain ⟨p, vs, q1, q2, q3⟩ := own_list r1 hn e0
        refine ⟨.ref p, q1, T, F1, σe, _, _, _, r1, m5, fun F2 H2 z s2 r2 b2 => ?_⟩
        have hz : z = .int j := r2.sh b2
        subst hz
        obtain ⟨p', vs', z1, z2, z3⟩ := own_list r2 hn e0
        rw [q1] at z1
        cases z1
        exact ⟨p, vs', j, jj, rfl, rfl, z2, by rw [← z3.length]; exact e2, q F2 _ _ (s1.trans s2) (r2.write hn e0 q1 ⟨_, upd_same, z3.set (h1.mono s2 _ _) jj⟩)⟩
      | _ => simp [setIxV] at m9
    | _ => simp [setIxV] at m9⟩
/-- d.setdefault(k, e) -/
theorem Ss.setd {k : Expr} {ik : Ex} (n : Nat) (hn : n ∈ Ow) (hN : X.N[n]? = some x) (hv : Vis X.env.scope x) (hd : (x == ("__debug__" : Str)) = false) (hcd : (x == ("__classdict__" : Str)) = false) (hk : Eb X C Ow k ik) (h : Es X C Ow e i)
    (m2 : M2 X (.Name x np) "setdefault" apos k e pos) (hsw : swapsWith (.Call (.Attribute (.Name x np) "setdefault" apos) [k, e] [] pos) none pos'.line X.env = pure false) :
    Ss X C Ow Ow OwL (.Expr (.Call (.Attribute (.Name x np) "setdefault" apos) [k, e] [] pos) pos') (.setd n ik i) :=
  ⟨ps_con (ps_expr (pe_dsetd (pe_var hN hv hd hcd) hk.run h.run m2) hsw) fun D σ H ⟨T, F, σe, g, fl, g', r, m, q⟩ => by
    unfold Pv.run at m
    obtain ⟨d0, g0, m0, m1⟩ := bind_eq_ok m
    obtain ⟨e0, e0'⟩ := slot_ok m0
    subst e0'
    obtain ⟨kv, g1, m2, m3⟩ := bind_eq_ok m1
    obtain ⟨v, g2, m4, m5⟩ := bind_eq_ok m3
    obtain ⟨d2, g3, m6, m7⟩ := bind_eq_ok m5
    obtain ⟨m8, e8⟩ := lift_eq_ok m6
    subst e8
    cases m7
    cases d0 with
    | dict kvs =>
      simp only [setdV] at m8
      split at m8
      · cases m8
      · rename_i hc
        obtain ⟨p, vs, q1, q2, q3, q4⟩ := own_dict r hn e0
        refine ⟨.ref p, q1, p, rfl, .inl ⟨vs, .inl q2⟩, T, F, σe, _, kv, _, r, m2, fun F1 H1 y s1 r1 b1 => ⟨T, F1, σe, _, v, _, r1, m4, fun F2 H2 z s2 r2 h2 => ?_⟩⟩
        obtain ⟨kx, ek⟩ : ∃ kx, keyD kv = some kx := by
          cases z : keyD kv with
          | none => rw [z] at hc; simp at hc
          | some kx => exact ⟨kx, rfl⟩
        have hz := key_rel ek (r2.sh (b1.mono s2))
        obtain ⟨p', vs', z1, z2, z3, _⟩ := own_dict r2 hn e0
        rw [q1] at z1
        cases z1
        obtain ⟨l1, l2⟩ := look_rel ek z3
        have hl : vs'.length < sizeLine := by
          rw [← z3.length]
          refine lineN_lt ?_
          simp at hc
          exact hc.2
        refine ⟨vs', kx, z2, hz, hl, fun w hw => ?_, fun hw => ?_⟩
        · cases zl : dLook kv kvs with
          | none => rw [l2 zl] at hw; cases hw
          | some d =>
            rw [zl] at m8
            cases m8
            have e1 : σe.set n (some (.dict kvs)) = σe := by
              apply List.ext_getElem?
              intro j
              by_cases hj : n = j
              · subst hj
                rw [List.getElem?_set_self (List.getElem?_eq_some_iff.mp e0).1, e0]
              · rw [List.getElem?_set_ne hj]
            rw [e1] at q
            exact q F2 _ _ (s1.trans s2) r2
        · cases zl : dLook kv kvs with
          | some d =>
            obtain ⟨w, e1, _⟩ := l1 d zl
            rw [hw] at e1; cases e1
          | none =>
            rw [zl] at m8
            cases m8
            exact q F2 _ _ (s1.trans s2) (r2.write hn e0 q1 ⟨dPut_mark ek q4, _, upd_same, put_rel ek h2 z3⟩)
    | _ => simp [setdV] at m8⟩
end

/-! ### a def -/
section
variable {P : Program} {w : World} {K : PySem.W.Frag} {mg : Str → Option Value} {base : Heap} {x qual : Str} {st : Stmt} {f : Addr} {fd : FuncData} {N ps : List Str} {k : Nat}
theorem start_len {vs : List V} (h : vs.length ≤ N.length) : (L2.start N vs).length = N.length := by
  unfold L2.start
  rw [List.length_append, List.length_map, List.length_replicate]
  omega
/-- the state at a def's start -/
theorem R.start {C : Ct} {F : Fz} {ds : List D} {g : G} {H : Hp} {vs : List V} (hH : C.H0 = H) (hF : C.F0 = F) (sub : Same F.h H) (sc : F.sc = C.sc) (dk : DkR C F g H) (h : RelL C.K F ds vs) (hn : vs.length ≤ N.length) :
    R C [] (fun _ => none) F (ds.map some ++ List.replicate (N.length - ds.length) none) g (L2.start N vs) H := by
  subst hH; subst hF
  have hl := h.length
  refine ⟨sub, sc, .refl _, (fun a o e n => by rw [n] at e; cases e), fun a o e => .inr e, fun d l e => .inl e, ?_, fun i v e n => ?_, fun i v e n => absurd n (List.not_mem_nil), fun i j a hi => absurd hi (List.not_mem_nil), dk, (fun a o e => by cases e)⟩
  · rw [start_len hn, List.length_append, List.length_map, List.length_replicate]; omega
  · have hi : i < ds.length := by
      by_cases hi : i < ds.length
      · exact hi
      · rw [List.getElem?_append_right (by rw [List.length_map]; omega), List.getElem?_replicate] at e
        split at e <;> cases e
    rw [List.getElem?_append_left (by rw [List.length_map]; exact hi), List.getElem?_map] at e
    cases q : ds[i]? with
    | none => rw [q] at e; cases e
    | some d =>
      rw [q] at e
      cases e
      obtain ⟨u, e1, e2⟩ := h.get q
      refine ⟨u, ?_, e2⟩
      unfold L2.start
      rw [List.getElem?_append_left (by rw [List.length_map]; rw [← hl]; exact hi), List.getElem?_map, e1]
      rfl
/-- a def's body in the small language gives its promise -/
theorem defOk {C0 : Ct} (F : Fun K x qual st f fd) (S : FnScope N ps (defScope st)) (hK : C0.K = K) (fi : Nat) (m : Sm) (T : List Fn) (pr : Prims) (d : Nat) (hpr : pr fi = none) (hT : T[fi]? = some ⟨ps.length, N.length, m⟩) (hps : ps.length ≤ N.length)
    (body : ∀ (cdv : Value) (A : Around) (outer : List Env) (s : Shared) (H : Hp) (F0 : Fz), A.guards = some [] → Room k (A.deeper (envOfC qual (defScope st) s.heap.objs.size f cdv)) →
      ∃ Ow', Sb (cxOf CX0 P w K mg base N qual (defScope st) f cdv A outer s H E0).nox { C0 with H0 := H, F0 := F0, Φ := FT T pr d, fu := fuel } [] Ow' [] (defBody st) m) :
    FnG P w K mg base CX0 (k + 1) f fd ps (spS C0 (FT T pr (d + 1) fi) ps.length) := by
  refine funOk F S (fun vs H Q E h => h.1) fun cdv A outer s H vs Q E hg hr hsp => ?_
  obtain ⟨hn, F0, ds, g, v, g', sub, sc, dk, rl, hev, q⟩ := hsp
  obtain ⟨Ow', hb⟩ := body cdv A outer s H F0 hg hr
  unfold FT at hev
  rw [hpr] at hev
  simp only [hT] at hev
  split at hev
  · rename_i hl
    refine ⟨_, (show PSs (cxOf CX0 P w K mg base N qual (defScope st) f cdv A outer s H E).nox _ _ from hb.run), ?_⟩
    cases hr0 : Pv.run (FT T pr d) fuel m (ds.map some ++ List.replicate (N.length - ps.length) none) g with
    | no => rw [hr0] at hev; cases hev
    | exc c vs g1 => rw [hr0] at hev; cases hev
    | ok fl g1 =>
      rw [hr0] at hev
      have r := R.start (C := { C0 with H0 := H, F0 := F0, Φ := FT T pr d, fu := fuel }) (N := N) (vs := vs) rfl rfl sub sc (show DkR _ F0 g H from dk) rl (by rw [hn]; exact hps)
      rw [hl] at r
      have endR : ∀ {F' : Fz} {Ow2 : List Nat} {σe2 : Sl} {σ2 : L2.St} {H' : Hp} {y : V} {v2 : D}, Fsub F0 F' → R { C0 with H0 := H, F0 := F0, Φ := FT T pr d, fu := fuel } Ow2 (fun _ => none) F' σe2 g1 σ2 H' → Rel C0.K F' v2 y → v2 = v → g1 = g' → Q y H' := fun {F' Ow2 σe2 σ2 H' y v2} s1 r1 h1 e1 e2 => by
        subst e1; subst e2
        exact q F' H' y s1 r1.sub (fun a o z1 z2 => r1.new a o z1 z2) (fun a o z => r1.keep a o z) (fun d l z => r1.dnew d l z) r1.dk h1
      refine ⟨fun _ => none, F0, _, g, fl, g1, r, hr0, ?_⟩
      cases fl with
      | nx σe' => cases hev; exact fun F' σ' H' s1 r1 => endR s1 r1 rel_non rfl rfl
      | rt v2 => cases hev; exact fun F' Ow2 σe2 σ2 H' y s1 r1 h1 => endR s1 r1 h1 rfl rfl
      | bk σe' => cases hev
      | ct σe' => cases hev
  · cases hev
end
end Pv
end

section
/-! PvK: the law's end; decks. -/
set_option autoImplicit false
namespace Pv
open PySem PySem.Spec PyProof.Rows L2

/-! ### the end -/
/-- what is wanted of the law's call -/
def Good (s₁ : Shared) (r : Result) (s' : Shared) : Prop := r = .ok (.ret (.bool true)) ∧ OldK s₁.heap s'.heap ∧ s'.os = s₁.os ∧ AllBare s'.gens
section
variable {P : Program} {w : World} {K : PySem.W.Frag} {mg mb : Str → Option Value} {k : Nat} {fa a : Addr} {fd : FuncData} {x : Str} {sp : Sp} {s₁ : Shared} {vs : List Value} {ns : List Int}
/-- the heap with nothing tracked but the script, and that as it stands -/
def scriptHp (K : PySem.W.Frag) (a : Addr) (vs : List Value) (ns : List Int) : Hp := fun b => if b = a ∧ K.lookup a = none then some (.frz { cls := .type "list", data := .seq vs.toArray } (.lst (ns.map V.int))) else none
theorem scriptHp_cases (b : Addr) : scriptHp K a vs ns b = none ∨ (b = a ∧ K.lookup a = none ∧ scriptHp K a vs ns b = some (.frz { cls := .type "list", data := .seq vs.toArray } (.lst (ns.map V.int)))) := by
  unfold scriptHp
  by_cases h : b = a ∧ K.lookup a = none
  · exact .inr ⟨h.1, h.2, if_pos h⟩
  · exact .inl (if_neg h)
theorem lawEnd (KX : K.In s₁.heap) (hns : s₁.heap.Ns mainGlobals mg) (hb : s₁.heap.Ns builtinsNs mb) (hbb : ∀ x : Str, x ≠ "__name__" → mb x = bootBuiltins x) (hlim : s₁.heap.NoLimit) (hg : s₁.gens = #[])
    (ha : s₁.heap.get? a = some { cls := .type "list", data := .seq vs.toArray }) (hi : IntsAre vs ns) (hl : ns.length ≤ sizeLine) (hr : Room k callerA)
    (F : ∀ base : Heap, K.In base → base.Ns mainGlobals mg → FnG P w K mg base CX0 k fa fd [x] sp) (hbind : ∀ (s : Shared) (u : Value), BindsTo s fd ⟨[u], []⟩ [(x, u)])
    (hsp : ∀ H : Hp, (∀ b, H b = none ∨ ∃ o xs, H b = some (.frz o (.lst xs))) → SqL K H a (ns.map V.int) → sp [.ref a] H (fun v _ => v = .bl true) fun _ _ _ => False) : codeAny (model P w) callerA (.call (.ref fa) ⟨[.ref a], []⟩) (Good s₁) s₁ := by
  have rv := vals_ints hi
  have cs := scriptHp_cases (K := K) (a := a) (vs := vs) (ns := ns)
  let H := scriptHp K a vs ns
  have only : ∀ b, H b = none ∨ ∃ o xs, H b = some (.frz o (.lst xs)) := fun b => (cs b).imp id fun z => ⟨_, _, z.2.2⟩
  have isSeq : SqL K H a (ns.map V.int) := by
    cases hk : K.lookup a with
    | none => exact .inl (.inr ⟨_, if_pos ⟨rfl, hk⟩⟩)
    | some o =>
      have e := KX a o hk
      rw [ha] at e
      cases e
      exact .inr ⟨_, vs.toArray, _, hk, rfl, rfl, rfl, by rw [List.size_toArray, hi.length]; exact hl, by simpa using rv⟩
  have hok : HOk P w H s₁.heap := fun b u z => by
    rcases cs b with q | ⟨rfl, _, q⟩
    · rw [show H b = none from q] at z; cases z
    · rw [show H b = _ from q] at z; cases z
      exact ⟨ha, by rw [List.length_map]; exact hl, vs, _, rv, ha⟩
  have keep : ∀ {b : Addr} {o : Obj}, s₁.heap.get? b = some o → (b = a → o.data ≠ .seq vs.toArray 0) → (hidT s₁.heap H).get? b = some o := fun {b o} e n => hidT_get e (by
    rcases cs b with q | ⟨rfl, _, q⟩
    · exact q
    · rw [ha] at e; cases e
      exact (n rfl rfl).elim)
  have ns2 : ∀ {b : Addr} {m : Str → Option Value}, s₁.heap.Ns b m → (hidT s₁.heap H).Ns b m := fun {b m} ⟨o, es, ep, e, d, r⟩ => ⟨o, es, ep, keep e fun _ z => (by rw [d] at z; cases z), d, r⟩
  have inB : K.In (hidT s₁.heap H) := fun b o e => hidT_get (KX b o e) (by
    rcases cs b with q | ⟨rfl, z, _⟩
    · exact q
    · rw [z] at e; cases e)
  have md : Mod K mg (hidT s₁.heap H) := ⟨inB, ns2 hns, ⟨mb, ns2 hb, hbb⟩, hlim.imp fun mc z => ⟨ns2 z.1, z.2⟩⟩
  have e0 : Env0 P w K mg (hidT s₁.heap H) callerA [] s₁ H := ⟨rfl, md, fun b o e => of_hidT e, Nat.le_of_eq (hidT_size _ _), trivial, (fun b hb => nomatch hb), hok, .of_eq hg⟩
  refine codeAny_mono ((F _ inB (ns2 hns)).run callerA [] s₁ H ⟨[.ref a], []⟩ [.ref a] [.ref a] _ _ rfl hr e0 (hbind s₁ (.ref a)) (.cons rfl .nil) (hsp H only isSeq)) fun r s' h => ?_
  match r, h with
  | .error e, h => exact False.elim h
  | .ok .next, h => exact False.elim h
  | .ok .brk, h => exact False.elim h
  | .ok .cont, h => exact False.elim h
  | .ok (.ret u), ⟨v, H', os, bare, un, hok', r', q⟩ =>
    subst q
    cases r'
    refine ⟨rfl, OldK.of_keep fun b o e => ?_, os, bare⟩
    rcases cs b with z | ⟨_, _, z⟩
    · exact un.keep b o e z (fun y => nomatch y) (fun y => nomatch y)
    · have e1 := (hok b _ z).1
      rw [e] at e1; cases e1
      exact (hok' b _ (un.frzs b _ _ z)).1
end
/-- the goal that k_head leaves -/
theorem walkEnd {l : PySem.W.OpenLaw} {n k : Nat} {q : Program} {loose : List Str} {XP : (Str → Option Value) → Heap → Prop} {YP : World → Heap → Prop} {d : DefRec} {K : Params → PySem.W.Frag} {x : Str}
    (hn : l.most = some n) (hn2 : n ≤ sizeLine) (hdf : d.params.defaults = []) (hr : Room k callerA)
    (hY : ∀ (w : World) (h : Heap), YP w h → (K w.params).In h)
    (F : ∀ (w : World) (mg : Str → Option Value) (fa : Addr) (h : Heap), (K w.params).In h → h.Ns mainGlobals mg → mg d.name = some (.ref fa) →
      ∃ fd : FuncData, (∀ (s : Shared) (u : Value), BindsTo s fd ⟨[u], []⟩ [(x, u)]) ∧
        ∀ (a : Addr) (ns : List Int), ns.length ≤ n → ∃ sp : Sp, (∀ H : Hp, (∀ b, H b = none ∨ ∃ o xs, H b = some (.frz o (.lst xs))) → SqL (K w.params) H a (ns.map V.int) → sp [.ref a] H (fun v _ => v = .bl true) fun _ _ _ => False) ∧
          ∀ base : Heap, (K w.params).In base → base.Ns mainGlobals mg → FnG l.prog w (K w.params) mg base CX0 k fa fd [x] sp) :
    PySem.W.WalkO q loose XP YP l.row.toRowW d [] (fun f vs => PySem.call f vs) := by
  refine Att.attach_call hn hdf fun w s₀ s₁ mg mb fa o pm cd doc a vs ns G Y ho hd hcd hmg hobj hints hlen hg => ?_
  have KX := hY w _ Y
  obtain ⟨fd, hb, hF⟩ := F w mg fa _ KX G.T.g hmg
  obtain ⟨sp, h1, h2⟩ := hF a ns hlen
  exact lawEnd KX G.T.g G.T.b G.T.builtins G.T.nolimit hg hobj hints (Nat.le_trans hlen hn2) hr h2 hb fun H hO hS => h1 H hO hS

/-! ### the law's promise: from its value in the small language -/
theorem law_sp {C : Ct} {H : Hp} {a : Addr} {ns : List Int} {Φ : List D → G → Res D} (hc : C.sc = some (a, ns)) (hS : SqL C.K H a (ns.map V.int)) (hs : ∃ g', Φ [tokD 1] none = .ok (.bool true) g') :
    spS C Φ 1 [.ref a] H (fun v _ => v = .bl true) fun _ _ _ => False := by
  obtain ⟨g', h⟩ := hs
  refine ⟨rfl, ⟨H, none, some (a, ns)⟩, [tokD 1], none, .bool true, g', Same.refl _, hc.symm, rfl, .cons ?_ .nil, h, fun F' H' x s1 s2 nw kp dn dk rx => ?_⟩
  · unfold tokD Rel
    exact .inl ⟨rfl, .inr ⟨a, ns, rfl, rfl, hS, rfl⟩⟩
  · unfold Rel at rx; exact rx

/-! ### decks -/
/-- what a primitive of the deck does -/
abbrev Prim := List D → G → Res D
theorem rel_tok0 {K : PySem.W.Frag} {F : Fz} {x : V} (h : Rel K F (tokD 0) x) : ∃ d l, F.dk = some (d, l) ∧ x = .ref d := by
  unfold tokD Rel at h
  rcases h with ⟨_, ⟨d, l, e1, e2, _⟩ | ⟨a, ns, _, _, _, e⟩⟩ | ⟨z, _⟩
  · exact ⟨d, l, e1, e2⟩
  · unfold tokD at e
    simp at e
  · cases z
theorem rel_tok1 {K : PySem.W.Frag} {F : Fz} {x : V} (h : Rel K F (tokD 1) x) : ∃ a ns, F.sc = some (a, ns) ∧ x = .ref a ∧ SqL K F.h a (ns.map V.int) := by
  unfold tokD Rel at h
  rcases h with ⟨_, ⟨d, l, e1, e2, e⟩ | ⟨a, ns, e1, e2, e3, _⟩⟩ | ⟨z, _⟩
  · unfold tokD at e
    simp at e
  · exact ⟨a, ns, e1, e2, e3⟩
  · cases z
end Pv
end

section
/-! PvL: the rules for decks of draws. -/
set_option autoImplicit false
namespace Pv
open PySem PySem.Spec PyProof.Rows L2

structure DkN (C : Ct) : Prop where
  a : C.n1 ≠ C.n2
  b : ∀ n, C.n3 = some n → n ≠ C.n1 ∧ n ≠ C.n2
section
variable {X : Cx} {C : Ct} {Ow Ow' OwL : List Nat} {e a b c : Expr} {i ia ib ic : Ex} {pos pos' apos kp : Pos}
theorem dk_of_tok {T : Hp} {F : Fz} {σe : Sl} {st : Dk} {σ : L2.St} {H : Hp} {d : D} {x : V} (r : R C Ow T F σe (some st) σ H) (h : Bm C Ow F σe σ d x) (t : isTok 0 d = true) : ∃ d l, F.dk = some (d, l) ∧ x = .ref d ∧ d ≠ l ∧ F.h d = none ∧ F.h l = none ∧ H l = some (.lst (st.cells.map V.int)) ∧ H d = some (.dK (dkL C l st)) := by
  have e := of_isTok t
  subst e
  rcases h with h | ⟨i, hi, e1, e2⟩
  · obtain ⟨d, l, e1, e2⟩ := rel_tok0 h
    obtain ⟨d', l', e3, q⟩ := r.dk
    rw [e1] at e3; cases e3
    exact ⟨d, l, e1, e2, q⟩
  · obtain ⟨a, _, o, _⟩ := r.ow i _ e1 hi
    obtain ⟨z, _⟩ := o
    cases z
theorem val_1 {l : Addr} {st : Dk} : valV (dkL C l st) (.inr C.n1) = some (.ref l) := by
  unfold valV dkL
  rw [List.find?_cons_of_pos (by simp)]; rfl
theorem val_2 {l : Addr} {st : Dk} (n : DkN C) : valV (dkL C l st) (.inr C.n2) = some (.int st.mixed) := by
  unfold valV dkL
  rw [List.find?_cons_of_neg (by simpa using n.a), List.find?_cons_of_pos (by simp)]; rfl
theorem val_3 {l : Addr} {st : Dk} {x : Str} (n : DkN C) (h : C.n3 = some x) : valV (dkL C l st) (.inr x) = some (.int st.turn) := by
  obtain ⟨h1, h2⟩ := n.b x h
  unfold valV dkL
  rw [h, List.find?_cons_of_neg (by simpa using Ne.symm h1), List.find?_cons_of_neg (by simpa using Ne.symm h2)]
  simp
theorem put_2 {l : Addr} {st : Dk} {c : Int} (n : DkN C) : putK (dkL C l st) (.inr C.n2) (.int c) = dkL C l { st with mixed := c } := by
  have h : ∀ x, C.n3 = some x → x ≠ C.n2 := fun x e => (n.b x e).2
  unfold putK dkL
  cases e : C.n3 with
  | none => simp [n.a]
  | some x => simp [n.a, h x e]
theorem put_3 {l : Addr} {st : Dk} {c : Int} {x : Str} (n : DkN C) (h : C.n3 = some x) : putK (dkL C l st) (.inr x) (.int c) = dkL C l { st with turn := c } := by
  obtain ⟨h1, h2⟩ := n.b x h
  unfold putK dkL
  rw [h]
  simp [Ne.symm h1, Ne.symm h2]
theorem dkL_len {l : Addr} {st : Dk} : (dkL C l st).length ≤ 3 := by
  unfold dkL
  cases C.n3 <;> simp
/-- the deck changes -/
theorem R.deck {T : Hp} {F : Fz} {σe : Sl} {st st' : Dk} {σ : L2.St} {H H' : Hp} {d l : Addr} (r : R C Ow T F σe (some st) σ H) (e : F.dk = some (d, l)) (ne : d ≠ l) (f1 : F.h d = none) (f2 : F.h l = none)
    (out : ∀ a, a ≠ d → a ≠ l → H' a = H a) (h1 : H' l = some (.lst (st'.cells.map V.int))) (h2 : H' d = some (.dK (dkL C l st'))) : R C Ow T F σe (some st') σ H' := by
  refine r.step (.refl F) (fun a o z => ?_) (fun a o z n => by rw [z] at n; cases n) (fun a o z => ?_) (fun _ _ z => .inl z) ⟨d, l, e, ne, f1, f2, h1, h2⟩
  · rw [out a (fun q => by rw [q, f1] at z; cases z) (fun q => by rw [q, f2] at z; cases z)]
    exact r.sub a o z
  · by_cases q1 : a = d
    · exact .inl ⟨d, l, e, .inl q1⟩
    · by_cases q2 : a = l
      · exact .inl ⟨d, l, e, .inr q2⟩
      · exact .inr (by rw [out a q1 q2]; exact z)

/-- d["mixed"] -/
theorem Es.dkGet {x : Str} {j : Nat} (t : Bool) (hu : X.A.units + 1 < cLine) (n : DkN C) (hx : (if t then C.n3 else some C.n2) = some x) (ha : Eb X C Ow a ia) (hs : NoSl (.Constant (.str x) j kp)) : Es X C Ow (.Subscript a (.Constant (.str x) j kp) pos) (.dkGet t ia) :=
  ⟨pe_con (pe_dget hu ha.run pe_str hs) fun σ H Q ⟨T, F, σe, g, v, g', r, m, q⟩ => by
    unfold ev at m
    obtain ⟨d0, g1, m1, m2⟩ := bind_eq_ok m
    obtain ⟨m3, e3⟩ := lift_eq_ok m2
    subst e3
    refine ⟨T, F, σe, g, d0, _, r, m1, fun F1 H1 y s1 r1 b1 => ?_⟩
    show ∃ a v, y = .ref a ∧ DGet H1 a (.str x) (some v) ∧ Q v H1
    cases g' with
    | none => cases m3
    | some st =>
      simp only [dkGetV] at m3
      split at m3
      · rename_i ht
        cases m3
        obtain ⟨d, l, e1, e2, e3, e4, e5, e6, e7⟩ := dk_of_tok r1 b1 ht
        cases t with
        | true =>
          have z := DGet.k (k := .inr x) e7
          rw [val_3 n hx] at z
          exact ⟨d, _, e2, z, q F1 H1 _ s1 r1 rel_int⟩
        | false =>
          have hx : C.n2 = x := Option.some.inj hx
          subst hx
          have z := DGet.k (k := .inr C.n2) e7
          rw [val_2 n] at z
          exact ⟨d, _, e2, z, q F1 H1 _ s1 r1 rel_int⟩
      · cases m3⟩
/-- the deck's list -/
def tDkl (C : Ct) (Ow : List Nat) (m : Mv) : TE := fun σ H Q => ∃ T F σe g v st, R C Ow T F σe g σ H ∧ m σe g = .ok v (some st) ∧ isTok 0 v = true ∧
  ∀ F' H' d l, Fsub F F' → R C Ow T F' σe (some st) σ H' → F'.dk = some (d, l) → d ≠ l → F'.h d = none → F'.h l = none → H' l = some (.lst (st.cells.map V.int)) → H' d = some (.dK (dkL C l st)) → Q (.ref l) H'
theorem pe_dkl {x : Str} {j : Nat} (hu : X.A.units + 1 < cLine) (hx : C.n1 = x) (ha : Eb X C Ow a ia) (hs : NoSl (.Constant (.str x) j kp)) :
    PE X (.Subscript a (.Constant (.str x) j kp) pos) (tDkl C Ow (ev C.Φ ia)) :=
  pe_con (pe_dget hu ha.run pe_str hs) fun σ H Q ⟨T, F, σe, g, v, st, r, m, ht, q⟩ => ⟨T, F, σe, g, v, _, r, m, fun F1 H1 y s1 r1 b1 => by
    obtain ⟨d, l, e1, e2, e3, e4, e5, e6, e7⟩ := dk_of_tok r1 b1 ht
    have z := DGet.k (k := .inr C.n1) e7
    rw [val_1] at z
    rw [hx] at z
    exact ⟨d, _, e2, z, q F1 H1 d l s1 r1 e1 e3 e4 e5 e6 e7⟩⟩
theorem lay_ints : ∀ ns : List Int, PyData.canLayAll0 (ns.map .int) = true
  | [] => rfl
  | n :: ns => by
    rw [List.map_cons]
    unfold PyData.canLayAll0
    rw [lay_ints ns]; rfl
theorem depth_ints : ∀ ns : List Int, PyData.depthAll (ns.map .int) ≤ 1
  | [] => by rw [List.map_nil]; unfold PyData.depthAll; omega
  | n :: ns => by
    have := depth_ints ns
    rw [List.map_cons]
    unfold PyData.depthAll PyData.depth
    omega
theorem shp_ints (ns : List Int) : SeqAt.shaped (.list (ns.map .int)) = true := by
  have := depth_ints ns
  unfold SeqAt.shaped PyData.canLay0 PyData.depth
  rw [lay_ints ns, Bool.true_and]
  exact decide_eq_true (by omega)
/-- d["left"] != [] -/
theorem neq_nil {K : PySem.W.Frag} {H : Hp} {a : Addr} {p : Addr} {ns : List Int} {Q : V → Hp → Prop} (h : H a = some (.lst (ns.map V.int))) (h2 : H p = some (.lst [])) (q : Q (.bl (!ns.isEmpty)) H) : rNeD K (.ref a) (.ref p) H Q := by
  refine ⟨.list (ns.map .int), .list [], .lst (SqL.of h) ?_, .lst (SqL.of h2) .nil, ?_, rfl, ?_⟩
  · exact dpAll_of (F := ⟨H, none, none⟩) (Same.refl _) _ _ (lay_ints ns) (relL_ints ns)
  · exact shp_ints ns
  · have e : PyData.eqv (.list (ns.map .int)) (.list []) = ns.isEmpty := by
      cases ns with
      | nil => rfl
      | cons n ns => rfl
    rw [e]; exact q
theorem Et.dkHas {x : Str} {j : Nat} {p1 p2 : Pos} (hu : X.A.units + 65 < cLine) (hx : C.n1 = x) (ha : Eb X C Ow a ia) (hs : NoSl (.Constant (.str x) j kp)) : Et X C Ow (.Compare (.Subscript a (.Constant (.str x) j kp) p1) [.NotEq] [.List [] p2] pos) (.dkHas ia) :=
  ⟨pt_con (pt_cmpR (op_neD (by omega)) (pe_dkl (by omega) hx ha hs) (pe_lst pa_nil) rfl) fun σ H Q ⟨T, F, σe, g, b, g', r, m, q⟩ => by
    unfold ev at m
    obtain ⟨d0, g1, m1, m2⟩ := bind_eq_ok m
    obtain ⟨m3, e3⟩ := lift_eq_ok m2
    subst e3
    cases g' with
    | none => cases m3
    | some st =>
      simp only [dkHasV] at m3
      split at m3
      · rename_i ht
        cases m3
        refine ⟨T, F, σe, g, d0, st, r, m1, ht, fun F1 H1 d l s1 r1 e1 e3 e4 e5 e6 e7 => ⟨by rw [sizeLine_eq]; exact Nat.zero_le _, fun p n => neq_nil ((upd_ne (ne_of_none e6 n)).trans e6) upd_same ?_⟩⟩
        exact ⟨_, rfl, q F1 _ s1 (r1.grown n)⟩
      · cases m3⟩
/-- d["left"].pop() -/
theorem Es.dkPop {x : Str} {j : Nat} {p1 : Pos} (hu : X.A.units + 1 < cLine) (n : DkN C) (hx : C.n1 = x) (ha : Eb X C Ow a ia) (hs : NoSl (.Constant (.str x) j kp))
    (hbase : attributeBase (.Subscript a (.Constant (.str x) j kp) p1) "pop" X.env (eval (.Subscript a (.Constant (.str x) j kp) p1) X.env) = eval (.Subscript a (.Constant (.str x) j kp) p1) X.env)
    (hline : (apos.endLine == pos.line) = true) :
    Es X C Ow (.Call (.Attribute (.Subscript a (.Constant (.str x) j kp) p1) "pop" apos) [] [] pos) (.dkPop ia) :=
  ⟨pe_con (pe_bm0 PySem.F.plainAttrs_list PySem.F.slot_list_pop PySem.F.type_list_pop (by exact mt_pop) (pe_dkl (by omega) hx ha hs) hbase hline) fun σ H Q ⟨T, F, σe, g, v, g', r, m, q⟩ => by
    unfold ev at m
    obtain ⟨d0, g1, m1, m2⟩ := bind_eq_ok m
    cases g1 with
    | none => cases m2
    | some st =>
      simp only [dkPopV] at m2
      split at m2
      · rename_i ht
        split at m2
        · rename_i c hc
          cases m2
          refine ⟨T, F, σe, g, d0, st, r, m1, ht, fun F1 H1 d l s1 r1 e1 e3 e4 e5 e6 e7 => ⟨.inl ⟨rfl, _, SqL.of e6⟩, l, _, .int c, rfl, rfl, e6, ?_, ?_⟩⟩
          · rw [List.length_map, List.getElem?_map, ← List.getLast?_eq_getElem?, hc]; rfl
          · refine q F1 _ _ s1 (r1.deck (st' := { st with cells := st.cells.dropLast }) e1 e3 e4 e5 (fun b h1 h2 => upd_ne h2) (by rw [upd_same, List.map_dropLast]) ((upd_ne e3).trans e7)) rel_int
        · cases m2
      · cases m2⟩
/-- d["left"].append(e) -/
theorem Es.dkPush {x : Str} {j : Nat} {p1 : Pos} (hu : X.A.units + 1 < cLine) (n : DkN C) (hx : C.n1 = x) (ha : Eb X C Ow a ia) (he : Es X C Ow e i) (hs : NoSl (.Constant (.str x) j kp)) (hX : X.K = C.K)
    (hbase : attributeBase (.Subscript a (.Constant (.str x) j kp) p1) "append" X.env (eval (.Subscript a (.Constant (.str x) j kp) p1) X.env) = eval (.Subscript a (.Constant (.str x) j kp) p1) X.env)
    (hfew : ((backTo pos (starEach [e] X.env)).all (fun x => !x.1) && (backToKw pos (keywordEach [] X.env)).all (fun x => x.1.isSome) && decide (([e] : List Expr).length + ([] : List Keyword).length + (if ([] : List Keyword).isEmpty then 0 else 1) < 30)) = true)
    (hline : (apos.endLine == pos.line) = true) (hst : starEach [e] X.env = (false, eval e X.env) :: starEach [] X.env) (hpl : (backTo pos (starEach [] X.env)).any (·.1) = false) :
    Es X C Ow (.Call (.Attribute (.Subscript a (.Constant (.str x) j kp) p1) "append" apos) [e] [] pos) (.dkPush ia i) :=
  ⟨pe_con (pe_bm PySem.F.plainAttrs_list PySem.F.slot_list_append PySem.F.type_list_append (by exact mt_append) (pe_dkl (by omega) hx ha hs) (pa_cons he.run pa_nil hst) hbase hfew hline hst hpl) fun σ H Q ⟨T, F, σe, g, v, g', r, m, q⟩ => by
    unfold ev at m
    obtain ⟨d0, g1, m1, m2⟩ := bind_eq_ok m
    cases g1 with
    | none => cases m2
    | some st1 =>
    obtain ⟨v1, g2, m3, m4⟩ := bind_eq_ok m2
    cases g2 with
    | none => cases m4
    | some st =>
      simp only [dkPushV] at m4
      split at m4
      · rename_i ht
        simp only [Bool.and_eq_true, decide_eq_true_eq] at ht
        split at m4
        · rename_i v0 c
          cases m4
          refine ⟨T, F, σe, g, d0, st1, r, m1, ht.1, fun F1 H1 d l s1 r1 e1 e3 e4 e5 e6 e7 => ⟨.inl ⟨rfl, _, SqL.of e6⟩, T, F1, σe, _, _, _, r1, m3, fun F2 H2 y s2 r2 h2 => ?_⟩⟩
          obtain ⟨d', l', z1, z2, z3, z4, z5, z6⟩ := r2.dk
          rw [s2.dk _ e1] at z1
          cases z1
          have hy : y = .int c := by unfold Rel at h2; exact h2
          subst hy
          refine ⟨l, _, _, rfl, rfl, z5, ?_, ?_⟩
          · rw [List.length_map]; exact lineN_lt ht.2
          · refine q F2 _ _ (s1.trans s2) (r2.deck (st' := { st with cells := st.cells ++ [c] }) (s2.dk _ e1) e3 z3 z4 (fun b h1 h2 => upd_ne h2) (by rw [upd_same, List.map_append]; rfl) ((upd_ne e3).trans z6)) rel_non
        · cases m4
      · cases m4⟩
/-- d["mixed"] = e -/
theorem Ss.dkSet {x : Str} {j : Nat} {p1 : Pos} (t : Bool) (hu : X.A.units + 1 < cLine) (n : DkN C) (hx : (if t then C.n3 else some C.n2) = some x) (ha : Eb X C Ow a ia) (he : Es X C Ow e i)
    (hs : swapsWith e (some (.Subscript a (.Constant (.str x) j kp) p1)) pos.line X.env = pure false) :
    Ss X C Ow Ow OwL (.Assign [.Subscript a (.Constant (.str x) j kp) p1] e pos) (.dkSet t ia i) :=
  ⟨ps_con (ps_dput hu ha.run pe_str he.run hs) fun D σ H ⟨T, F, σe, g, fl, g', r, m, q⟩ => by
    unfold Pv.run at m
    obtain ⟨v, g1, m1, m2⟩ := bind_eq_ok m
    obtain ⟨d0, g2, m3, m4⟩ := bind_eq_ok m2
    obtain ⟨g4, g5, m6, m7⟩ := bind_eq_ok m4
    obtain ⟨m8, e8⟩ := lift_eq_ok m6
    cases m7
    refine ⟨T, F, σe, g, v, g1, r, m1, fun F1 H1 y s1 r1 h1 => ⟨T, F1, σe, g1, d0, _, r1, m3, fun F2 H2 z s2 r2 b2 => ?_⟩⟩
    cases g2 with
    | none => cases m8
    | some st =>
      simp only [dkSetV] at m8
      split at m8
      · rename_i ht
        split at m8
        · rename_i c
          cases m8
          obtain ⟨d, l, e1, e2, e3, e4, e5, e6, e7⟩ := dk_of_tok r2 b2 ht
          have hy : y = .int c := by unfold Rel at h1; exact h1
          subst hy
          subst e2
          have hl := dkL_len (C := C) (l := l) (st := st)
          show ∃ a H4, V.ref d = .ref a ∧ DPut H2 a (.str x) (.int c) H4 ∧ D.nx σ H4
          refine ⟨d, _, rfl, DPut.k (k := .inr x) e7 (by rw [sizeLine_eq]; omega), ?_⟩
          cases t with
          | true =>
            rw [put_3 n hx]
            exact q F2 _ _ (s1.trans s2) (r2.deck (st' := { st with turn := c }) e1 e3 e4 e5 (fun b h1 h2 => upd_ne h1) ((upd_ne (Ne.symm e3)).trans e6) upd_same)
          | false =>
            have hx : C.n2 = x := Option.some.inj hx
            subst hx
            rw [put_2 n]
            exact q F2 _ _ (s1.trans s2) (r2.deck (st' := { st with mixed := c }) e1 e3 e4 e5 (fun b h1 h2 => upd_ne h1) ((upd_ne (Ne.symm e3)).trans e6) upd_same)
        · cases m8
      · cases m8⟩
/-- xs[::-1] of a list, a new one -/
theorem Ef.lrev {k : Nat} {p1 p2 p3 : Pos} (hK : X.K = C.K) (ha : Eb X C Ow a ia) : Ef X C Ow (.Subscript a (.Slice none none (some (.UnaryOp .USub (.Constant (.int 1) k p1) p2)) p3) pos) (.lrev ia) :=
  ⟨pe_con (pe_revL ha.run) fun σ H Q ⟨T, F, σe, g, v, g', r, m, q⟩ => by
    unfold ev at m
    obtain ⟨va, g1, m1, m2⟩ := bind_eq_ok m
    cases va with
    | list ds =>
      cases m2
      refine ⟨T, F, σe, g, _, _, r, m1, fun F1 H1 y s1 r1 b1 => ?_⟩
      obtain ⟨p, vs, rfl, h1, h2⟩ := r1.sh b1
      exact ⟨p, vs, rfl, SqL.of h1, fun p n => q F1 _ _ s1 (r1.grown n) (new_of r1 n ⟨_, upd_same, h2.reverse⟩)⟩
    | _ => cases m2⟩
/-- script[:n] -/
theorem Es.scr {p1 p2 : Pos} {j : Nat} {a0 : Addr} {ns : List Int} (n : Nat) (hK : X.K = C.K) (hc : C.sc = some (a0, ns)) (ha : Es X C Ow a ia) : Es X C Ow (.Subscript a (.Slice none (some (.Constant (.int n) j p1)) none p2) pos) (.scr ia ns n) :=
  ⟨pe_con (pe_slice sl_list ha.run po_none (po_some (pe_int (i := n)))) fun σ H Q ⟨T, F, σe, g, v, g', r, m, q⟩ => by
    unfold ev at m
    obtain ⟨va, g1, m1, m2⟩ := bind_eq_ok m
    split at m2
    · rename_i ht
      have e := of_isTok ht
      subst e
      cases m2
      refine ⟨T, F, σe, g, _, _, r, m1, fun F1 H1 y s1 r1 b1 => ?_⟩
      obtain ⟨a2, ns2, z1, z2, z3⟩ := rel_tok1 b1
      rw [r1.sc, hc] at z1
      cases z1
      refine ⟨n, rfl, _, _, z2, hK ▸ sqL_mono r1.sub z3, fun p hn => ?_⟩
      refine q (F1.put p _) _ _ (s1.trans (Fsub.put (r1.fn hn))) (r1.laid hn) (rel_lst (r1.fn hn) ?_)
      have h := cut_rel (relL_ints (K := C.K) (F := F1) ns) none (some (n : Int))
      have e : cutD (ns.map .int) none (some (n : Int)) = (ns.take n).map .int := by
        unfold cutD
        rw [HT.sIx_none, HT.sIx_nat, List.drop_zero, List.length_map, Nat.sub_zero, List.map_take]
        by_cases z : n ≤ ns.length
        · rw [Nat.min_eq_left z]
        · rw [Nat.min_eq_right (by omega), List.take_of_length_le (by rw [List.length_map]; omega), List.take_of_length_le (by rw [List.length_map]; omega)]
      rw [e] at h
      exact h
    · cases m2⟩
theorem R.holdN {T : Hp} {F : Fz} {σe : Sl} {g : G} {σ : L2.St} {H : Hp} {v : D} {p : Addr} {o : HO} (r : R C Ow T F σe g σ H) (n : New C Ow T F σe σ H v p) (e : H p = some o) : R C Ow (upd T p o) F σe g σ H :=
  ⟨r.sub, r.sc, r.grow, r.new, r.keep, r.dnew, r.len, r.fz, r.ow, r.inj, r.dk, fun a u q => by
    by_cases z : a = p
    · subst z
      rw [upd_same] at q
      cases q
      exact ⟨e, n.h0, n.fn, n.nd, n.no⟩
    · rw [upd_ne z] at q
      exact r.hold a u q⟩
/-- the deck is made: {"left": xs, "mixed": m, "draws": 0} -/
theorem R.newDeck {T : Hp} {F : Fz} {σe : Sl} {σ : L2.St} {H : Hp} {d l : Addr} {st : Dk} {o : HO} (r : R C Ow (upd (upd T d o) l (.lst (st.cells.map V.int))) F σe none σ H) (rT : T d = none) (rl : T l = none) (ne : d ≠ l) :
    R C Ow T { F with dk := some (d, l) } σe (some st) σ (upd H d (.dK (dkL C l st))) ∧ Fsub F { F with dk := some (d, l) } := by
  have dk0 : F.dk = none := r.dk
  obtain ⟨e1, e2, e3, e4, e5⟩ := r.hold d o ((upd_ne ne).trans upd_same)
  obtain ⟨f1, f2, f3, f4, f5⟩ := r.hold l _ upd_same
  have fs : Fsub F { F with dk := some (d, l) } := ⟨Same.refl _, (fun p h => by rw [dk0] at h; cases h), rfl⟩
  have nd : ∀ {a}, ¬ F.isDk a := fun {a} z => by
    obtain ⟨x, y, z, _⟩ := z
    rw [dk0] at z
    cases z
  have isd : ∀ {a}, a ≠ d → a ≠ l → ¬ Fz.isDk { F with dk := some (d, l) } a := fun {a} z1 z2 z => by
    obtain ⟨x, y, q, q2⟩ := z
    cases q
    rcases q2 with q2 | q2
    · exact z1 q2
    · exact z2 q2
  refine ⟨⟨fun a u q => ?_, r.sc, r.grow.trans fs, r.new, fun a u q => ?_, fun a b q => ?_, r.len, fun i v q n => ?_, fun i v q hi => ?_, r.inj, ⟨d, l, rfl, ne, e3, f3, (upd_ne (Ne.symm ne)).trans f1, upd_same⟩, fun a u q => ?_⟩, fs⟩
  · have z : a ≠ d := fun z => by
      rw [z] at q
      rw [show F.h d = none from e3] at q
      cases q
    rw [upd_ne z]
    exact r.sub a u q
  · rcases r.keep a u q with z | z
    · exact (nd z).elim
    · have z1 : a ≠ d := fun y => by
        rw [y, e2] at q
        cases q
      exact .inr ((upd_ne z1).trans z)
  · cases q
    exact .inr ⟨e2, f2⟩
  · obtain ⟨x, z1, z2⟩ := r.fz i v q n
    exact ⟨x, z1, z2.mono fs _ _⟩
  · obtain ⟨a, z1, z2, z3, z4, z5⟩ := r.ow i v q hi
    have q1 : a ≠ d := fun y => e5 i v hi q (y ▸ z1)
    have q2 : a ≠ l := fun y => f5 i v hi q (y ▸ z1)
    exact ⟨a, z1, z2.move fs fun u z => (upd_ne q1).trans z, z3, z4, isd q1 q2⟩
  · have q1 : a ≠ d := fun y => by
      rw [y, rT] at q
      cases q
    have q2 : a ≠ l := fun y => by
      rw [y, rl] at q
      cases q
    obtain ⟨y1, y2, y3, y4, y5⟩ := r.hold a u ((upd_ne q2).trans ((upd_ne q1).trans q))
    exact ⟨(upd_ne q1).trans y1, y2, y3, isd q1 q2, y5⟩
theorem ints_of_some : ∀ {xs : List D} {ns : List Int}, intsOf xs = some ns → xs = ns.map .int
  | [], ns, h => by cases h; rfl
  | .int i :: xs, ns, h => by
    unfold intsOf at h
    obtain ⟨ms, h1, h2⟩ := map_some h
    subst h2
    rw [ints_of_some h1]; rfl
  | .none :: ds, ns, e => by cases e
  | .bool _ :: ds, ns, e => by cases e
  | .str _ :: ds, ns, e => by cases e
  | .list _ :: ds, ns, e => by cases e
  | .tuple _ :: ds, ns, e => by cases e
  | .dict _ :: ds, ns, e => by cases e
theorem Es.dkNew {x1 x2 x3 : Str} {j1 j2 j3 : Nat} {p1 p2 p3 : Pos} (n : DkN C) (h1 : C.n1 = x1) (h2' : C.n2 = x2) (h3' : C.n3 = some x3) (ha : Ef X C Ow a ia) (hb : Es X C Ow b ib) (hc : Es X C Ow c ic) :
    Es X C Ow (.Dict [some (.Constant (.str x1) j1 p1), some (.Constant (.str x2) j2 p2), some (.Constant (.str x3) j3 p3)] [a, b, c] pos) (.dkNew ia ib ic) :=
  ⟨pe_con (pe_disp (pps_cons pe_str ha.run (pps_cons pe_str hb.run (pps_cons pe_str hc.run pps_nil))) rfl rfl (by simp) (Nat.le_of_ble_eq_true rfl)) fun σ H Q ⟨T, F, σe, g, v, g', r, m, q⟩ => by
    unfold ev at m
    obtain ⟨va, g1, m1, m2⟩ := bind_eq_ok m
    obtain ⟨vb, g2, m3, m4⟩ := bind_eq_ok m2
    obtain ⟨vc, g3, m5, m6⟩ := bind_eq_ok m4
    unfold dkNewV at m6
    split at m6
    · split at m6
      · rename_i xs mx tn
        split at m6
        · rename_i ns hi
          cases m6
          have e := ints_of_some hi
          subst e
          intro p hp
          have rT := r.tn hp
          refine ⟨upd T p (.dK []), F, σe, g, _, _, r.take hp, m1, fun F1 H1 y s1 r1 n1 => ?_⟩
          obtain ⟨vs, l1, l2⟩ := n1.at_
          have l3 := l2.ints hi
          subst l3
          have nt := n1.nt
          have ne : p ≠ y := fun z => by
            rw [z, upd_same] at nt
            cases nt
          have rl : T y = none := by
            rw [upd_ne (Ne.symm ne)] at nt
            exact nt
          refine ⟨_, F1, σe, g1, _, _, r1.holdN n1 l1, m3, fun F2 H2 y2 s2 r2 h2 => ⟨_, F2, σe, _, _, _, r2, m5, fun F3 H3 y3 s3 r3 h3 => ?_⟩⟩
          have e2 : y2 = .int mx := by unfold Rel at h2; exact h2
          have e3 : y3 = .int tn := by unfold Rel at h3; exact h3
          subst e2; subst e3
          obtain ⟨z1, z2⟩ := R.newDeck (st := ⟨ns, mx, tn⟩) r3 rT rl ne
          refine ⟨(r3.hold p _ ((upd_ne ne).trans upd_same)).1, [(.inr x1, .ref y), (.inr x2, .int mx), (.inr x3, .int tn)], rfl, Nat.le_of_ble_eq_true rfl, ?_⟩
          have em : mergeK [] [(.inr x1, V.ref y), (.inr x2, .int mx), (.inr x3, .int tn)] = dkL C y ⟨ns, mx, tn⟩ := by
            subst h1; subst h2'
            obtain ⟨b1, b2⟩ := n.b x3 h3'
            unfold mergeK dkL
            rw [h3']
            simp [putK, n.a, Ne.symm n.a, b1, b2, Ne.symm b1, Ne.symm b2]
          rw [em]
          exact q _ _ _ (s1.trans (s2.trans (s3.trans z2))) z1 (by unfold tokD Rel; exact .inl ⟨rfl, .inl ⟨p, y, rfl, rfl, rfl⟩⟩)
        · cases m6
      · cases m6
    · cases m6⟩
theorem Es.dkNew2 {x1 x2 : Str} {j1 j2 : Nat} {p1 p2 : Pos} (n : DkN C) (h1 : C.n1 = x1) (h2' : C.n2 = x2) (h3' : C.n3 = none) (ha : Ef X C Ow a ia) (hb : Es X C Ow b ib) :
    Es X C Ow (.Dict [some (.Constant (.str x1) j1 p1), some (.Constant (.str x2) j2 p2)] [a, b] pos) (.dkNew2 ia ib) :=
  ⟨pe_con (pe_disp (pps_cons pe_str ha.run (pps_cons pe_str hb.run pps_nil)) rfl rfl (by simp) (Nat.le_of_ble_eq_true rfl)) fun σ H Q ⟨T, F, σe, g, v, g', r, m, q⟩ => by
    unfold ev at m
    obtain ⟨va, g1, m1, m2⟩ := bind_eq_ok m
    obtain ⟨vb, g2, m3, m4⟩ := bind_eq_ok m2
    have m6 := m4
    unfold dkNewV at m6
    split at m6
    · split at m6
      · rename_i xs mx tn he
        cases he
        split at m6
        · rename_i ns hi
          cases m6
          have e := ints_of_some hi
          subst e
          intro p hp
          have rT := r.tn hp
          refine ⟨upd T p (.dK []), F, σe, g, _, _, r.take hp, m1, fun F1 H1 y s1 r1 n1 => ?_⟩
          obtain ⟨vs, l1, l2⟩ := n1.at_
          have l3 := l2.ints hi
          subst l3
          have nt := n1.nt
          have ne : p ≠ y := fun z => by
            rw [z, upd_same] at nt
            cases nt
          have rl : T y = none := by
            rw [upd_ne (Ne.symm ne)] at nt
            exact nt
          refine ⟨_, F1, σe, g1, _, _, r1.holdN n1 l1, m3, fun F3 H3 y2 s2 r3 h2 => ?_⟩
          have e2 : y2 = .int mx := by unfold Rel at h2; exact h2
          subst e2
          obtain ⟨z1, z2⟩ := R.newDeck (st := ⟨ns, mx, 0⟩) r3 rT rl ne
          refine ⟨(r3.hold p _ ((upd_ne ne).trans upd_same)).1, [(.inr x1, .ref y), (.inr x2, .int mx)], rfl, Nat.le_of_ble_eq_true rfl, ?_⟩
          have em : mergeK [] [(.inr x1, V.ref y), (.inr x2, .int mx)] = dkL C y ⟨ns, mx, 0⟩ := by
            subst h1; subst h2'
            unfold mergeK dkL
            rw [h3']
            simp [putK, n.a, Ne.symm n.a]
          rw [em]
          exact q _ _ _ (s1.trans (s2.trans z2)) z1 (by unfold tokD Rel; exact .inl ⟨rfl, .inl ⟨p, y, rfl, rfl, rfl⟩⟩)
        · cases m6
      · cases m6
    · cases m6⟩
end
end Pv
end

section
/-! PvM: comprehensions bound to names, displays of dicts, keywords; what a law's texts share. -/
set_option autoImplicit false
namespace Pv
open PySem PySem.Spec PyProof.Rows L2

section
variable {X : Cx} {C : Ct} {Ow Ow' OwL : List Nat} {tg e a b : Expr} {i ia ib : Ex} {is : Exs} {pos : Pos}
/-- x = [elt for .. in ..] on one line -/
theorem Ss.ownLc {elt iter : Expr} {ifs : List Expr} {scope : Scope} {own : List (Str × Nat)} {t : List Nat} {k : Ik} {cond ei : Ex} {y : Str} {py spos : Pos} (n : Nat) (hc : X.calm = true) (hN : X.N.Nodup) (hy : X.N[n]? = some y) (hyl : X.env.scope.names.lookup y = some .local)
    (hsw : swapsWith (.ListComp elt [⟨tg, iter, ifs, 0⟩] scope pos) (some (.Name y py)) spos.line X.env = pure true) (hi : Ei X C Ow tg iter k is) (ok : BlkOk X.N X.env.scope scope own) (hown : own.map (·.2) = t)
    (hg : ∀ (s : Shared) (H : Hp) (A : Addr) (cl : List (Str × Addr)) (fp : List Addr), Eg (X.blk s H scope (compEnvC scope cl A X.env) fp) C Ow tg t)
    (ht : ∀ (s : Shared) (H : Hp) (A : Addr) (cl : List (Str × Addr)) (fp : List Addr), Ec (X.blk s H scope (compEnvC scope cl A X.env) fp) C Ow ifs cond)
    (he : ∀ (s : Shared) (H : Hp) (A : Addr) (cl : List (Str × Addr)) (fp : List Addr), Es (X.blk s H scope (compEnvC scope cl A X.env) fp) C Ow elt ei)
    (hs : ∀ x, foldedSetIterable iter X.env x = pure x) (hno : ∀ i ∈ t, i ∉ Ow) :
    Ss X C Ow (n :: Ow) OwL (.Assign [.Name y py] (.ListComp elt [⟨tg, iter, ifs, 0⟩] scope pos) spos) (.set [n] (.comp t k is cond ei)) :=
  ⟨ps_con (ps_setLc hc hN hy hyl hsw hi.run ok (fun s H A cl fp => (hg s H A cl fp).run) (fun s H A cl fp => (ht s H A cl fp).run) (fun s H A cl fp => (he s H A cl fp).run) hs) fun D σ H ⟨T, F, σe, g, fl, g', r, m, q⟩ => by
    unfold Pv.run at m
    obtain ⟨v, g1, m1, m2⟩ := bind_eq_ok m
    cases m2
    rw [hown]
    exact lc_run hno ⟨T, F, σe, g, v, _, r, m1, fun F1 H1 a s1 r1 h1 => q F1 _ H1 s1 (r1.own h1)⟩⟩

/-- `in` of a dict, as a test -/
theorem Et.has (hK : X.K = C.K) (hu : X.A.units + 1 < cLine) (ha : Eb X C Ow a ia) (hb : Eb X C Ow b ib) (h1 : behindInMarks .In b = false) : Et X C Ow (.Compare a [.In] [b] pos) (.dhas ia ib false) :=
  ⟨pt_con (pt_cmp (Et.dhas hK hu ha hb) h1) fun σ H Q ⟨T, F, σe, g, v, g', r, m, q⟩ => ⟨T, F, σe, g, _, _, r, m, fun F1 H1 x s1 r1 hx => ⟨v, by unfold Rel at hx; exact hx, q F1 H1 s1 r1⟩⟩⟩
theorem Et.hasN (hK : X.K = C.K) (hu : X.A.units + 1 < cLine) (ha : Eb X C Ow a ia) (hb : Eb X C Ow b ib) (h1 : behindInMarks .NotIn b = false) : Et X C Ow (.Compare a [.NotIn] [b] pos) (.dhas ia ib true) :=
  ⟨pt_con (pt_cmp (Et.dhasN hK hu ha hb) h1) fun σ H Q ⟨T, F, σe, g, v, g', r, m, q⟩ => ⟨T, F, σe, g, _, _, r, m, fun F1 H1 x s1 r1 hx => ⟨v, by unfold Rel at hx; exact hx, q F1 H1 s1 r1⟩⟩⟩
/-- a bound of a slice -/
theorem Eo.int (h : Eb X C Ow e i) : Eo X C Ow (Option.some e) (.asI i) := ⟨po_con (po_some h.run) fun σ H Q ⟨T, F, σe, g, v, g', oi, r, m, eo, q⟩ => by
  unfold ev at m
  obtain ⟨x, g1, m1, m2⟩ := bind_eq_ok m
  cases x with
  | int j =>
    cases m2
    cases eo
    exact ⟨T, F, σe, g, _, _, r, m1, fun F1 H1 y s1 r1 b1 => ⟨j, r1.sh b1, q F1 H1 s1 r1⟩⟩
  | _ => cases m2⟩
/-! ### displays of dicts -/
inductive RelP (K : PySem.W.Frag) (F : Fz) : List D → List (V × V) → Prop
  | nil : RelP K F [] []
  | cons {k d : D} {ds : List D} {x y : V} {ps : List (V × V)} (hk : Rel K F k x) (hd : Rel K F d y) (h : RelP K F ds ps) : RelP K F (k :: d :: ds) ((x, y) :: ps)
structure Ep (X : Cx) (C : Ct) (Ow : List Nat) (pos : Pos) (keys : List (Option Expr)) (vals : List Expr) (is : Exs) : Prop where
  run : ∃ trs, PPs X pos keys vals trs ∧ ∀ (σ : L2.St) (H : Hp) (Q : List (V × V) → Hp → Prop), (∃ T F σe g vs g', R C Ow T F σe g σ H ∧ evs C.Φ is σe g = .ok vs g' ∧ ∀ F' H' ps, Fsub F F' → R C Ow T F' σe g' σ H' → RelP C.K F' vs ps → Q ps H') → tPairs trs σ H Q
theorem Ep.nil : Ep X C Ow pos [] [] .nil := ⟨[], pps_nil, fun σ H Q ⟨T, F, σe, g, vs, g', r, m, q⟩ => by
  unfold evs at m
  cases m
  exact q F H [] (.refl F) r .nil⟩
theorem Ep.cons {keys : List (Option Expr)} {vals : List Expr} (ha : Es X C Ow a ia) (hb : Es X C Ow b ib) (h : Ep X C Ow pos keys vals is) : Ep X C Ow pos (some a :: keys) (b :: vals) (.cons ia (.cons ib is)) := by
  obtain ⟨trs, h1, h2⟩ := h
  refine ⟨_, pps_cons ha.run hb.run h1, fun σ H Q ⟨T, F, σe, g, vs, g', r, m, q⟩ => ?_⟩
  unfold evs at m
  obtain ⟨x, g1, m1, m2⟩ := bind_eq_ok m
  obtain ⟨xs, g2, m3, m4⟩ := bind_eq_ok m2
  cases m4
  unfold evs at m3
  obtain ⟨y, g3, m5, m6⟩ := bind_eq_ok m3
  obtain ⟨ys, g4, m7, m8⟩ := bind_eq_ok m6
  cases m8
  exact ⟨T, F, σe, g, x, g1, r, m1, fun F1 H1 vx s1 r1 hx => ⟨T, F1, σe, g1, y, g3, r1, m5, fun F2 H2 vy s2 r2 hy => h2 σ H2 _ ⟨T, F2, σe, g3, ys, _, r2, m7, fun F3 H3 ps s3 r3 hp => q F3 H3 _ (s1.trans (s2.trans s3)) r3 (.cons (hx.mono (s2.trans s3) _ _) (hy.mono s3 _ _) hp)⟩⟩⟩
theorem disp_rel {K : PySem.W.Frag} {F : Fz} : ∀ {vs : List D} {ps : List (V × V)} {acc out : List (D × D)} {kk : List (Key × V)}, RelP K F vs ps → dispV vs acc = some out → RelKV K F acc kk → ∃ kvs : List (Key × V), ps = kvs.map (fun kv => (kV kv.1, kv.2)) ∧ RelKV K F out (mergeK kk kvs)
  | _, _, acc, out, kk, .nil, h, r => by
    unfold dispV at h
    cases h
    exact ⟨[], rfl, r⟩
  | _, _, acc, out, kk, .cons (k := k) (d := d) (x := x) (y := y) hk hd hp, h, r => by
    unfold dispV at h
    cases e : keyD k with
    | none => rw [e] at h; cases h
    | some kx =>
      rw [e] at h
      have h := h
      simp only [Option.isNone_some, Bool.false_eq_true, if_false] at h
      obtain ⟨kvs, e1, e2⟩ := disp_rel hp h (put_rel e hd r)
      refine ⟨(kx, y) :: kvs, ?_, e2⟩
      rw [List.map_cons, ← e1]
      have z : x = kV kx := key_rel (H := F.h) e (hk.sh (Same.refl _))
      rw [z]
theorem isDeck_put {k v : D} {kvs : List (D × D)} {kx : Key} (e : keyD k = some kx) (h : isDeck kvs = false) : isDeck (dPut k v kvs) = false := dPut_mark e h
theorem disp_mark : ∀ {vs : List D} {acc out : List (D × D)}, dispV vs acc = some out → isDeck acc = false → isDeck out = false
  | [], acc, out, h, n => by
    unfold dispV at h
    cases h
    exact n
  | [k], acc, out, h, n => by
    unfold dispV at h
    cases h
  | k :: d :: vs, acc, out, h, n => by
    unfold dispV at h
    cases e : keyD k with
    | none => rw [e] at h; cases h
    | some kx =>
      rw [e] at h
      simp only [Option.isNone_some, Bool.false_eq_true, if_false] at h
      exact disp_mark h (dPut_mark e n)
theorem RelP.len {K : PySem.W.Frag} {F : Fz} : ∀ {vs : List D} {ps : List (V × V)}, RelP K F vs ps → vs.length = 2 * ps.length
  | _, _, .nil => rfl
  | _, _, .cons _ _ h => by
    have := h.len
    simp only [List.length_cons]
    omega
theorem Ef.ddisp {keys : List (Option Expr)} {vals : List Expr} (h : Ep X C Ow pos keys vals is) (hall : keys.all (·.isSome) = true) (hl : keys.length = vals.length) (h0 : keys ≠ []) (h15 : keys.length ≤ 15) (h30 : is.len ≤ 30) : Ef X C Ow (.Dict keys vals pos) (.ddisp is) := by
  obtain ⟨trs, h1, h2⟩ := h
  refine ⟨pe_con (pe_disp h1 hall hl h0 h15) fun σ H Q ⟨T, F, σe, g, v, g', r, m, q⟩ => ?_⟩
  unfold ev at m
  obtain ⟨xs, g1, m1, m2⟩ := bind_eq_ok m
  obtain ⟨m3, e3⟩ := lift_eq_ok m2
  subst e3
  obtain ⟨kvs, m4, e4⟩ := map_some m3
  subst e4
  intro p hp
  refine h2 σ _ _ ⟨upd T p (.dK []), F, σe, g, xs, _, r.take hp, m1, fun F1 H1 ps s1 r1 hps => ?_⟩
  obtain ⟨kk, e1, e2⟩ := disp_rel hps m4 (kk := []) (by unfold RelKV; rfl)
  have hk := hps.len
  rw [e1, List.length_map, evs_len _ _ _ _ _ _ m1] at hk
  refine ⟨(r1.hold p _ upd_same).1, kk, e1, by omega, ?_⟩
  obtain ⟨w1, w2, w3, w4, w5⟩ := r1.hold p _ upd_same
  have rT := r.tn hp
  have r2 := (r1.held (o' := .dK (mergeK [] kk)) upd_same).letgo (T := T) (fun a o z => by
    have ne : a ≠ p := fun y => by
      rw [y, rT] at z
      cases z
    rw [upd_ne ne, upd_ne ne]
    exact z)
  exact q F1 _ p s1 r2 ⟨⟨disp_mark m4 rfl, _, upd_same, e2⟩, w2, w3, w4, w5, rT⟩

/-! ### small facts that the printed texts use -/
theorem Room.u65 {k : Nat} {A : Around} (r : Room k A) : A.units + 65 < cLine := by
  have := r.un
  have e : cLine = 9900 := rfl
  omega
theorem Room.u70 {k : Nat} {A : Around} (r : Room k A) : A.units + 70 < cLine := by
  have := r.un
  have e : cLine = 9900 := rfl
  omega
theorem Room.u1 {k : Nat} {A : Around} (r : Room k A) : A.units + 1 < cLine := by
  have := r.un
  have e : cLine = 9900 := rfl
  omega
theorem kb_of {K : PySem.W.Frag} {x qual : Str} {st : Stmt} {f : Addr} {fd : FuncData} {ps ks : List Str} {n : Nat} {perm : List Nat} (F : Fun K x qual st f fd)
    (h : ∀ (kV doc pm : Value) (an : Option Addr) (cdv ct : Value) (us ws : List Value), us.length = n → ws.length = ks.length → bindArgs (PySem.W.fnOf x qual (defArgs st) (defBody st) (defScope st) .none kV doc pm an cdv ct) ⟨us, ks.zip ws⟩ = pure (ps.zip (Pv.pm perm (us ++ ws)))) : KB K fd ps ks n perm := by
  obtain ⟨oc, od, kV, doc, pm, an, cdv, ct, osl, rfl, lk, hcd⟩ := F.ex
  exact ⟨fun s us ws _ h1 h2 => .of_eq (h kV doc pm an cdv ct us ws h1 h2)⟩
/-- at a call -/
abbrev Ct.at (C : Ct) (H : Hp) (F0 : Fz) (Φ : Fns) : Ct := { C with H0 := H, F0 := F0, Φ := Φ, fu := fuel }
/-- what is fixed through a law's run -/
structure Dc (C : Ct) (n1 n2 : Str) (n3 : Option Str) (a : Addr) (ns : List Int) : Prop where
  n1 : C.n1 = n1
  n2 : C.n2 = n2
  n3 : C.n3 = n3
  sc : C.sc = some (a, ns)
end
end Pv
end

section
/-! PvN: plain laws of the small language: loops, texts, decks. -/
set_option autoImplicit false
namespace Pv
open PySem

theorem FT_at {T : List Fn} {d f : Nat} {as : List D} {g : G} {fn : Fn} (h : T[f]? = some fn) (hl : as.length = fn.np) :
    FT T (fun _ => none) (d + 1) f as g = fin (run (FT T (fun _ => none) d) fuel fn.body (as.map some ++ List.replicate (fn.nl - fn.np) none) g) := by
  show (match (fun _ => none : Prims) f with
    | some p => p as g
    | none => match T[f]? with
      | some fn => if as.length = fn.np then fin (run (FT T (fun _ => none) d) fuel fn.body (as.map some ++ List.replicate (fn.nl - fn.np) none) g) else .no
      | none => .no) = _
  simp only [h, if_pos hl]

/-! ### steps -/
section
variable {Φ : Fns} {fu : Nat} {a b : Sm} {σ σ' : Sl} {g g' : G} {v : D} {t e : Ex} {i : Nat}
theorem run_seq_nx (h : Pv.run Φ fu a σ g = .ok (.nx σ') g') : Pv.run Φ fu (.seq a b) σ g = Pv.run Φ fu b σ' g' := by
  conv => lhs; unfold Pv.run
  rw [h]; rfl
theorem run_seq_rt (h : Pv.run Φ fu a σ g = .ok (.rt v) g') : Pv.run Φ fu (.seq a b) σ g = .ok (.rt v) g' := by
  conv => lhs; unfold Pv.run
  rw [h]; rfl
theorem run_ite {k : Bool} (h : ev Φ t σ g = .ok (.bool k) g') : Pv.run Φ fu (.ite t a b) σ g = if k then Pv.run Φ fu a σ g' else Pv.run Φ fu b σ g' := by
  conv => lhs; unfold Pv.run
  rw [h]; cases k <;> rfl
theorem run_set (h : ev Φ e σ g = .ok v g') : Pv.run Φ fu (.set [i] e) σ g = .ok (.nx (σ.set i (some v))) g' := by
  conv => lhs; unfold Pv.run
  rw [h]; rfl
theorem run_ret (h : ev Φ e σ g = .ok v g') : Pv.run Φ fu (.ret e) σ g = .ok (.rt v) g' := by
  conv => lhs; unfold Pv.run
  rw [h]; rfl
theorem run_skip : Pv.run Φ fu .skip σ g = .ok (.nx σ) g := rfl
theorem run_for {ts : List Nat} {k : Ik} {as : Exs} {vs xs : List D} (h : evs Φ as σ g = .ok vs g') (hx : itV k vs = some xs) :
    Pv.run Φ fu (.forr ts k as b) σ g = forL (fun x σ g => (lift (setT ts x σ) g).bind fun σ g => Pv.run Φ fu b σ g) xs σ g' := by
  conv => lhs; unfold Pv.run
  rw [h]
  show (lift (itV k vs) g').bind _ = _
  rw [hx]; rfl
theorem ev_comp {ts : List Nat} {k : Ik} {as : Exs} {cond elt : Ex} {vs xs : List D} (h : evs Φ as σ g = .ok vs g') (hx : itV k vs = some xs) (hl : xs.length ≤ lineN) {ys : List D} {g2 : G}
    (hc : compL (fun x g => (lift (setT ts x (wipeS σ ts)) g).bind fun σ' g => (ev Φ cond σ' g).bind fun b g => match b with
        | .bool true => (ev Φ elt σ' g).bind fun v g => .ok (some v) g
        | .bool false => .ok none g
        | _ => .no) xs [] g' = .ok ys g2) : ev Φ (.comp ts k as cond elt) σ g = .ok (.list ys) g2 := by
  conv => lhs; unfold ev
  rw [h]
  show (lift (itV k vs) g').bind _ = _
  rw [hx]
  show (if decide (xs.length ≤ lineN) = true then _ else Res.no) = _
  rw [if_pos (decide_eq_true hl)]
  exact (congrArg (fun r => r.bind fun ys g => Res.ok (PyData.list ys) g) hc).trans rfl
/-- a loop with a test: one turn -/
theorem whileL_step {c : Sl → G → Res D} {bd : Sl → G → Res Fl} {n : Nat} {g2 : G} (h1 : c σ g = .ok (.bool true) g') (h2 : bd σ g' = .ok (.nx σ') g2) : whileL c bd (n + 1) σ g = whileL c bd n σ' g2 := by
  show (c σ g).bind _ = _
  rw [h1]
  show (bd σ g').bind _ = _
  rw [h2]; rfl
theorem whileL_end {c : Sl → G → Res D} {bd : Sl → G → Res Fl} {n : Nat} (h1 : c σ g = .ok (.bool false) g') : whileL c bd (n + 1) σ g = .ok (.nx σ) g' := by
  show (c σ g).bind _ = _
  rw [h1]; rfl
end
/-! ### loops -/
/-- a loop that ends by a return at the first item that is found -/
theorem forL_find {α : Type} {em : α → D} {f : D → Sl → G → Res Fl} {c : α → Bool} {r : α → D} {S : Option D → Sl} {g : G} : ∀ {xs : List α}, (∀ x ∈ xs, ∀ y, f (em x) (S y) g = if c x then .ok (.rt (r x)) g else .ok (.nx (S (some (em x)))) g) → ∀ y,
    ∃ y', forL f (xs.map em) (S y) g = match xs.find? c with
      | some x => .ok (.rt (r x)) g
      | none => .ok (.nx (S y')) g
  | [], _, y => ⟨y, rfl⟩
  | x :: xs, h, y => by
    obtain ⟨y', e⟩ := forL_find (xs := xs) (fun z hz y => h z (List.mem_cons_of_mem _ hz) y) (some (em x))
    refine ⟨y', ?_⟩
    show (f (em x) (S y) g).bind _ = _
    rw [h x List.mem_cons_self y, List.find?_cons]
    cases c x with
    | true => rfl
    | false => exact e
/-- a loop that never leaves: the state by a fold -/
theorem forL_fold {α β : Type} {em : β → D} {f : D → Sl → G → Res Fl} {S : α → Sl} {g : G} {st : α → β → α} {xs : List β} (P : α → Prop) (h : ∀ x ∈ xs, ∀ a, P a → f (em x) (S a) g = .ok (.nx (S (st a x))) g ∧ P (st a x)) : ∀ a, P a → forL f (xs.map em) (S a) g = .ok (.nx (S (xs.foldl st a))) g ∧ P (xs.foldl st a) := by
  induction xs with
  | nil => exact fun a ha => ⟨rfl, ha⟩
  | cons x xs ih =>
    intro a ha
    obtain ⟨h1, h2⟩ := h x List.mem_cons_self a ha
    obtain ⟨h3, h4⟩ := ih (fun z hz a ha => h z (List.mem_cons_of_mem _ hz) a ha) (st a x) h2
    refine ⟨?_, h4⟩
    show (f (em x) (S a) g).bind _ = _
    rw [h1]
    exact h3
/-- .. with the number of turns -/
theorem forL_foldI {α β : Type} {em : β → D} {f : D → Sl → G → Res Fl} {S : α → Sl} {g : G} {st : α → β → α} : ∀ {xs : List β} (P : Nat → α → Prop), (∀ x ∈ xs, ∀ k a, k < xs.length → P k a → f (em x) (S a) g = .ok (.nx (S (st a x))) g ∧ P (k + 1) (st a x)) → ∀ a, P 0 a → forL f (xs.map em) (S a) g = .ok (.nx (S (xs.foldl st a))) g ∧ P xs.length (xs.foldl st a)
  | [], P, _, a, ha => ⟨rfl, ha⟩
  | x :: xs, P, h, a, ha => by
    obtain ⟨h1, h2⟩ := h x List.mem_cons_self 0 a (Nat.succ_pos _) ha
    obtain ⟨h3, h4⟩ := forL_foldI (xs := xs) (fun k => P (k + 1)) (fun z hz k b hk hb => h z (List.mem_cons_of_mem _ hz) (k + 1) b (Nat.succ_lt_succ hk) hb) (st a x) h2
    refine ⟨?_, h4⟩
    show (f (em x) (S a) g).bind _ = _
    rw [h1]
    exact h3
/-- a loop by an invariant of the state and of the deck -/
theorem forL_inv {f : D → Sl → G → Res Fl} {I : Sl → G → Prop} : ∀ {xs : List D}, (∀ x ∈ xs, ∀ σ g, I σ g → ∃ σ' g', f x σ g = .ok (.nx σ') g' ∧ I σ' g') → ∀ σ g, I σ g → ∃ σ' g', forL f xs σ g = .ok (.nx σ') g' ∧ I σ' g'
  | [], _, σ, g, h => ⟨σ, g, rfl, h⟩
  | x :: xs, h, σ, g, hI => by
    obtain ⟨σ1, g1, e1, h1⟩ := h x List.mem_cons_self σ g hI
    obtain ⟨σ2, g2, e2, h2⟩ := forL_inv (xs := xs) (fun z hz => h z (List.mem_cons_of_mem _ hz)) σ1 g1 h1
    refine ⟨σ2, g2, ?_, h2⟩
    show (f x σ g).bind _ = _
    rw [e1]
    exact e2
/-- a comprehension over items -/
theorem compL_eq {α β : Type} {em : α → D} {eo : β → D} {f : D → G → Res (Option D)} {u : α → Option β} {g : G} : ∀ {xs : List α} {acc : List D}, (∀ x ∈ xs, f (em x) g = .ok ((u x).map eo) g) → compL f (xs.map em) acc g = .ok (acc.reverse ++ (xs.filterMap u).map eo) g
  | [], acc, _ => by
    show Res.ok acc.reverse g = _
    rw [List.filterMap_nil, List.map_nil, List.append_nil]
  | x :: xs, acc, h => by
    show (f (em x) g).bind _ = _
    rw [h x List.mem_cons_self]
    cases e : u x with
    | none =>
      show compL f (xs.map em) acc g = _
      rw [compL_eq fun z hz => h z (List.mem_cons_of_mem _ hz), List.filterMap_cons, e]
    | some y =>
      show compL f (xs.map em) (eo y :: acc) g = _
      rw [compL_eq fun z hz => h z (List.mem_cons_of_mem _ hz), List.filterMap_cons, e, List.reverse_cons, List.append_assoc]
      rfl

/-! ### texts -/
mutual
def fine : D → Bool
  | .none | .bool _ => true
  | .int i => decide (i.natAbs < 10 ^ 250)
  | .str x => PyData.strOk x
  | .list xs | .tuple xs => fineAll xs
  | .dict _ => false
def fineAll : List D → Bool
  | [] => true
  | x :: xs => fine x && fineAll xs
end
theorem short_int {i : Int} (h : i.natAbs < 10 ^ 250) : (PyData.shown (.int i)).length ≤ 251 := by
  have e := int_text_length_le10 (k := 250) (by decide) h
  show (Str.ofString (toString i)).length ≤ 251
  rw [ofString_length]; exact e
theorem log_int {i : Int} (h : i.natAbs < 10 ^ 250) : i.natAbs.log2 < 1920 := by
  by_cases z : i.natAbs = 0
  · rw [z]; decide
  · rw [Nat.log2_lt z]
    exact Nat.lt_of_lt_of_le h (by decide +kernel)
mutual
theorem fine_lay : ∀ d : D, fine d = true → d.canLay0 = true
  | .none, _ => rfl
  | .bool _, _ => rfl
  | .int _, _ => rfl
  | .str x, h => h
  | .list xs, h => fineAll_lay xs h
  | .tuple xs, h => fineAll_lay xs h
  | .dict _, h => by cases h
theorem fineAll_lay : ∀ xs : List D, fineAll xs = true → PyData.canLayAll0 xs = true
  | [], _ => rfl
  | x :: xs, h => by
    unfold fineAll at h
    simp only [Bool.and_eq_true] at h
    unfold PyData.canLayAll0
    rw [fine_lay x h.1, fineAll_lay xs h.2]; rfl
end
mutual
theorem fine_short : ∀ d : D, fine d = true → d.intsShort 251 = true ∧ d.showable = true
  | .none, _ => ⟨rfl, rfl⟩
  | .bool _, _ => ⟨rfl, rfl⟩
  | .int i, h => ⟨decide_eq_true (short_int (of_decide_eq_true h)), decide_eq_true (log_int (of_decide_eq_true h))⟩
  | .str x, h => ⟨rfl, rfl⟩
  | .list xs, h => fineAll_short xs h
  | .tuple xs, h => fineAll_short xs h
  | .dict _, h => by cases h
theorem fineAll_short : ∀ xs : List D, fineAll xs = true → PyData.intsShortAll 251 xs = true ∧ PyData.showableAll xs = true
  | [], _ => ⟨rfl, rfl⟩
  | x :: xs, h => by
    unfold fineAll at h
    simp only [Bool.and_eq_true] at h
    obtain ⟨h1, h2⟩ := fine_short x h.1
    obtain ⟨h3, h4⟩ := fineAll_short xs h.2
    unfold PyData.intsShortAll PyData.showableAll
    rw [h1, h2, h3, h4]; exact ⟨rfl, rfl⟩
end
theorem show_fine {d : D} (h : fine d = true) (hd : d.depth ≤ 64) (hw : d.weight ≤ 20000) : showOk d = true := by
  obtain ⟨h1, h2⟩ := fine_short d h
  have h3 := PyData.shown_le 251 (by decide) d (PyData.leavesShort_of_canLay0 251 d (fine_lay d h) h1)
  have h4 : 253 * d.weight ≤ 253 * 20000 := Nat.mul_le_mul_left _ hw
  have s : shp d = true := by
    show (d.canLay0 && decide (d.depth ≤ 64)) = true
    rw [fine_lay d h, decide_eq_true hd]; rfl
  unfold showOk
  rw [s, h2, Bool.true_or, Bool.true_and, Bool.true_and]
  refine decide_eq_true ?_
  unfold lineN
  omega
/-- few plain items -/
def scal : D → Bool
  | .none | .bool _ => true
  | .int i => decide (i.natAbs < 10 ^ 250)
  | _ => false
theorem scal_all : ∀ xs : List D, xs.all scal = true → fineAll xs = true ∧ PyData.depthAll xs = 0 ∧ PyData.weightAll xs ≤ 1922 * xs.length
  | [], _ => ⟨rfl, rfl, Nat.le_refl _⟩
  | x :: xs, h => by
    rw [List.all_cons, Bool.and_eq_true] at h
    obtain ⟨h1, h2, h3⟩ := scal_all xs h.2
    have key : fine x = true ∧ x.depth = 0 ∧ x.weight ≤ 1921 := by
      cases x with
      | none => exact ⟨rfl, rfl, Nat.zero_le _⟩
      | bool b => exact ⟨rfl, rfl, Nat.zero_le _⟩
      | int i =>
        have q := of_decide_eq_true h.1
        refine ⟨h.1, rfl, ?_⟩
        have := log_int q
        show (if i == 0 then 0 else i.natAbs.log2 + 1) ≤ 1921
        split <;> omega
      | str y => cases h.1
      | list y => cases h.1
      | tuple y => cases h.1
      | dict y => cases h.1
    obtain ⟨k1, k2, k3⟩ := key
    refine ⟨?_, ?_, ?_⟩
    · unfold fineAll
      rw [k1, h1]; rfl
    · unfold PyData.depthAll
      rw [k2, h2]; rfl
    · unfold PyData.weightAll
      rw [List.length_cons]
      omega
theorem show_list {xs : List D} (h : xs.all scal = true) (hl : xs.length ≤ 10) : showOk (.list xs) = true := by
  obtain ⟨h1, h2, h3⟩ := scal_all xs h
  exact show_fine h1 (by unfold PyData.depth; omega) (by unfold PyData.weight; omega)
theorem show_tuple {xs : List D} (h : xs.all scal = true) (hl : xs.length ≤ 10) : showOk (.tuple xs) = true := by
  obtain ⟨h1, h2, h3⟩ := scal_all xs h
  exact show_fine h1 (by unfold PyData.depth; omega) (by unfold PyData.weight; omega)
theorem show_one {x : D} (h : scal x = true) : showOk x = true := by
  obtain ⟨h1, h2, h3⟩ := scal_all [x] (by simpa using h)
  refine show_fine (by unfold fineAll at h1; simpa [fineAll] using h1) ?_ ?_
  · unfold PyData.depthAll at h2
    omega
  · unfold PyData.weightAll at h3
    rw [List.length_singleton] at h3
    omega
theorem bi_repr {x : D} (h : showOk x = true) : biV .repr [x] = some (.str x.shown) := by
  show (if showOk x = true then some (PyData.str x.shown) else none) = _
  rw [if_pos h]
theorem ne_same (x : Str) : cmpV .ne (.str x) (.str x) = some false := by
  show ((some (decide (x = x))).map fun b => !b) = _
  rw [decide_eq_true (rfl : x = x)]; rfl
theorem eq_same (x : Str) : cmpV .eq (.str x) (.str x) = some true := by
  show some (decide (x = x)) = _
  rw [decide_eq_true (rfl : x = x)]
end Pv
end

section
/-! PvO: decks, what they answer. -/
set_option autoImplicit false
namespace Pv
open PySem

/-- the draws of the first family -/
def drawA (k1 k2 k3 : Int) : Sm :=
  (.seq (.dkSet true (.var 0) (.bin .add (.dkGet true (.var 0)) (.c (.int 1))))
    (.seq (.set [2] (.bin .add (.dkGet false (.var 0)) (.bin .mul (.c (.int k1)) (.dkGet true (.var 0)))))
    (.seq (.ite (.dkHas (.var 0)) (.seq (.set [3] (.dkPop (.var 0)))
      (.seq (.ite (.cmp .ge (.var 3) (.bin .pow (.c (.int 10)) (.c (.int 18)))) (.seq (.ex (.dkPush (.var 0) (.bin .fdiv (.var 3) (.var 1))))
        (.ret (.bin .mod (.bi .toInt (.cons (.var 3) .nil)) (.var 1)))) .skip)
      (.set [2] (.bin .add (.var 2) (.bin .mod (.bi .toInt (.cons (.var 3) .nil)) (.c (.int 2147483629))))))) .skip)
    (.seq (.set [2] (.bin .mod (.bi .toInt (.cons (.bin .add (.bin .mul (.var 2) (.c (.int 39373))) (.c (.int k2))) .nil)) (.c (.int 2147483647))))
    (.seq (.set [2] (.bin .mod (.bi .toInt (.cons (.bin .add (.bin .add (.bin .mul (.var 2) (.var 2)) (.bin .mul (.c (.int 52711)) (.dkGet true (.var 0)))) (.c (.int k3))) .nil)) (.c (.int 2147483587))))
    (.ret (.bin .mod (.bin .fdiv (.bin .mod (.bi .toInt (.cons (.bin .mul (.var 2) (.c (.int 40692))) .nil)) (.c (.int 2147483563))) (.c (.int 64))) (.var 1))))))))
theorem mulOk_r {i j : Int} (h : j.natAbs < 18446744073709551616) : mulOk i j = true := by
  unfold mulOk
  rw [decide_eq_true h, Bool.or_true, Bool.true_or]
theorem mulOk_l {i j : Int} (h : i.natAbs < 18446744073709551616) : mulOk i j = true := by
  unfold mulOk
  rw [decide_eq_true h, Bool.true_or, Bool.true_or]
theorem getLast_some {α : Type} {xs : List α} (h : xs ≠ []) : ∃ x, xs.getLast? = some x := ⟨xs.getLast h, List.getLast?_eq_some_getLast h⟩
/-- what a draw answers -/
structure Drawn (Φd : Res D) (many : Int) (st : Dk) (r : Int) (st' : Dk) : Prop where
  eq : Φd = .ok (.int r) (some st')
  lo : 0 ≤ r
  hi : r < many
  len : st'.cells.length ≤ st.cells.length
theorem tail_A {Φ : Fns} {fu : Nat} {k2 k3 : Int} {st : Dk} {many f : Int} {x3 : Option D} (h0 : 0 < many) :
    Pv.run Φ fu (.seq (.set [2] (.bin .mod (.bi .toInt (.cons (.bin .add (.bin .mul (.var 2) (.c (.int 39373))) (.c (.int k2))) .nil)) (.c (.int 2147483647))))
    (.seq (.set [2] (.bin .mod (.bi .toInt (.cons (.bin .add (.bin .add (.bin .mul (.var 2) (.var 2)) (.bin .mul (.c (.int 52711)) (.dkGet true (.var 0)))) (.c (.int k3))) .nil)) (.c (.int 2147483587))))
    (.ret (.bin .mod (.bin .fdiv (.bin .mod (.bi .toInt (.cons (.bin .mul (.var 2) (.c (.int 40692))) .nil)) (.c (.int 2147483563))) (.c (.int 64))) (.var 1))))) [some (tokD 0), some (.int many), some (.int f), x3] (some st) =
    .ok (.rt (.int (((((f * 39373 + k2) % 2147483647) * ((f * 39373 + k2) % 2147483647) + 52711 * st.turn + k3) % 2147483587 * 40692) % 2147483563 / 64 % many))) (some st) := by
  have a1 : 0 ≤ (f * 39373 + k2) % 2147483647 := Int.emod_nonneg _ (by decide)
  have a2 : (f * 39373 + k2) % 2147483647 < 2147483647 := Int.emod_lt_of_pos _ (by decide)
  have m1 : mulOk f 39373 = true := mulOk_r (by decide)
  have m2 : mulOk ((f * 39373 + k2) % 2147483647) ((f * 39373 + k2) % 2147483647) = true := mulOk_r (by omega)
  have m3 : mulOk 52711 st.turn = true := mulOk_l (by decide)
  have m4 : mulOk (((f * 39373 + k2) % 2147483647 * ((f * 39373 + k2) % 2147483647) + 52711 * st.turn + k3) % 2147483587) 40692 = true := mulOk_r (by decide)
  have l1 : Nat.log2 64 < 9000 := by decide
  simp [Pv.run, ev, evs, biV, binV, m1, m2, m3, m4, setT, h0, dkGetV, l1]
theorem draw_A {Φ : Fns} {fu : Nat} {k1 k2 k3 : Int} {st : Dk} {many : Int} (h0 : 0 < many) (hl : many.natAbs.log2 < 9000) (hk : k1.natAbs < 18446744073709551616) (hc : st.cells.length ≤ 63) :
    ∃ r st', Drawn (fin (Pv.run Φ fu (drawA k1 k2 k3) [some (tokD 0), some (.int many), none, none] (some st))) many st r st' := by
  unfold drawA
  have m1 : mulOk k1 (st.turn + 1) = true := mulOk_l hk
  rw [run_seq_nx (σ' := [some (tokD 0), some (.int many), none, none]) (g' := some { st with turn := st.turn + 1 }) (by simp [Pv.run, ev, evs, binV, dkGetV, dkSetV])]
  rw [run_seq_nx (σ' := [some (tokD 0), some (.int many), some (.int (st.mixed + k1 * (st.turn + 1))), none]) (g' := some { st with turn := st.turn + 1 }) (by simp [Pv.run, ev, evs, binV, dkGetV, setT, m1])]
  by_cases he : st.cells = []
  · rw [run_seq_nx (σ' := [some (tokD 0), some (.int many), some (.int (st.mixed + k1 * (st.turn + 1))), none]) (g' := some { st with turn := st.turn + 1 }) (by simp [Pv.run, ev, evs, dkHasV, he])]
    rw [tail_A h0]
    exact ⟨_, _, rfl, Int.emod_nonneg _ (by omega), Int.emod_lt_of_pos _ h0, Nat.le_refl _⟩
  · obtain ⟨c, hcl⟩ := getLast_some he
    have hlen : st.cells.dropLast.length < 63 := by
      have : 0 < st.cells.length := List.length_pos_iff.mpr he
      rw [List.length_dropLast]; omega
    have hne : st.cells.isEmpty = false := by simpa using he
    have p1 : powOk 10 18 = true := by decide
    by_cases hb : 1000000000000000000 ≤ c
    · rw [run_seq_rt (v := .int (c % many)) (g' := some ⟨st.cells.dropLast ++ [c / many], st.mixed, st.turn + 1⟩) (by
        have l1 : st.cells.length - 1 < lineN := by
          unfold lineN; omega
        simp [Pv.run, ev, evs, dkHasV, hne, dkPopV, hcl, setT, cmpV, binV, p1, hb, dkPushV, h0, hl, biV, l1])]
      refine ⟨_, _, rfl, Int.emod_nonneg _ (by omega), Int.emod_lt_of_pos _ h0, ?_⟩
      show (st.cells.dropLast ++ [c / many]).length ≤ _
      rw [List.length_append, List.length_dropLast, List.length_singleton]
      have : 0 < st.cells.length := List.length_pos_iff.mpr he
      omega
    · rw [run_seq_nx (σ' := [some (tokD 0), some (.int many), some (.int (st.mixed + k1 * (st.turn + 1) + c % 2147483629)), some (.int c)]) (g' := some ⟨st.cells.dropLast, st.mixed, st.turn + 1⟩) (by
        simp [Pv.run, ev, evs, dkHasV, hne, dkPopV, hcl, setT, cmpV, binV, p1, hb, biV])]
      rw [tail_A h0]
      refine ⟨_, _, rfl, Int.emod_nonneg _ (by omega), Int.emod_lt_of_pos _ h0, ?_⟩
      show st.cells.dropLast.length ≤ _
      rw [List.length_dropLast]
      omega
/-- the deck of the first family -/
def deckA (ns : List Int) (seed k : Int) : Sm :=
  (.seq (.set [1] (.c (.int seed)))
    (.seq (.forr [2] .seq (.cons (.scr (.var 0) ns 63) .nil) (.set [1] (.bin .mod (.bi .toInt (.cons (.bin .add (.bin .add (.bin .mul (.var 1) (.c (.int 48271))) (.bin .mod (.bi .toInt (.cons (.var 2) .nil)) (.c (.int 2147483629)))) (.c (.int k))) .nil)) (.c (.int 2147483587)))))
    (.ret (.dkNew (.lrev (.bi .toList (.cons (.scr (.var 0) ns 63) .nil))) (.var 1) (.c (.int 0))))))
theorem ints_map : ∀ ns : List Int, intsOf (ns.map .int) = some ns
  | [] => rfl
  | n :: ns => by
    rw [List.map_cons]
    unfold intsOf
    rw [ints_map ns]; rfl
theorem deck_A {Φ : Fns} {fu : Nat} {ns : List Int} {seed k : Int} : ∃ st, fin (Pv.run Φ fu (deckA ns seed k) [some (tokD 1), none, none] none) = .ok (tokD 0) (some st) ∧ st.cells.length ≤ 63 := by
  unfold deckA
  rw [run_seq_nx (σ' := [some (tokD 1), some (.int seed), none]) (g' := none) (by simp [Pv.run, ev, setT])]
  have e2 := run_for (Φ := Φ) (fu := fu) (ts := [2]) (k := .seq) (σ := [some (tokD 1), some (.int seed), none]) (g := none) (vs := [.list ((ns.take 63).map .int)]) (xs := (ns.take 63).map .int) (g' := none) (as := .cons (.scr (.var 0) ns 63) .nil)
    (b := .set [1] (.bin .mod (.bi .toInt (.cons (.bin .add (.bin .add (.bin .mul (.var 1) (.c (.int 48271))) (.bin .mod (.bi .toInt (.cons (.var 2) .nil)) (.c (.int 2147483629)))) (.c (.int k))) .nil)) (.c (.int 2147483587)))) (by simp [evs, ev]) rfl
  obtain ⟨σ', g', e3, m, y, e4, e5⟩ := forL_inv (f := fun x σ g => (lift (setT [2] x σ) g).bind fun σ g => Pv.run Φ fu (.set [1] (.bin .mod (.bi .toInt (.cons (.bin .add (.bin .add (.bin .mul (.var 1) (.c (.int 48271))) (.bin .mod (.bi .toInt (.cons (.var 2) .nil)) (.c (.int 2147483629)))) (.c (.int k))) .nil)) (.c (.int 2147483587)))) σ g)
    (I := fun σ g => ∃ (m : Int) (y : Option D), σ = [some (tokD 1), some (.int m), y] ∧ g = none) (xs := (ns.take 63).map .int) (by
      rintro x hx σ g ⟨m, y, rfl, rfl⟩
      obtain ⟨n, hn, rfl⟩ := List.mem_map.mp hx
      have m1 : mulOk m 48271 = true := mulOk_r (by decide)
      exact ⟨_, _, by simp [setT, Pv.run, ev, evs, binV, biV, m1]; exact ⟨rfl, rfl⟩, _, _, rfl, rfl⟩) [some (tokD 1), some (.int seed), none] none ⟨_, _, rfl, rfl⟩
  subst e4; subst e5
  rw [run_seq_nx (e2.trans e3)]
  refine ⟨⟨(ns.take 63).reverse, m, 0⟩, ?_, ?_⟩
  · have e : (List.take 63 (List.map PyData.int ns)).reverse = ((ns.take 63).reverse).map PyData.int := by rw [← List.map_take, List.map_reverse]
    have e2 : intsOf (List.take 63 (List.map PyData.int ns)).reverse = some (ns.take 63).reverse := by rw [e, ints_map]
    simp [Pv.run, ev, evs, biV, dkNewV, e2, fin]
  · rw [List.length_reverse, List.length_take]
    omega
end Pv
end

section
/-! PvP: the program's functions of numbers, what they answer. -/
set_option autoImplicit false
namespace Pv
open PySem

theorem pow_emod' (a p : Int) : ∀ n : Nat, (a % p) ^ n % p = a ^ n % p
  | 0 => by rw [Int.pow_zero, Int.pow_zero]
  | n + 1 => by
    rw [Int.pow_succ, Int.pow_succ, Int.mul_emod, pow_emod' a p n, Int.emod_emod_of_dvd _ (Int.dvd_refl p), ← Int.mul_emod]
theorem pow_two_mul (b : Int) : ∀ k : Nat, (b * b) ^ k = b ^ (2 * k)
  | 0 => by rw [Nat.mul_zero, Int.pow_zero, Int.pow_zero]
  | k + 1 => by
    rw [Int.pow_succ, pow_two_mul b k, show 2 * (k + 1) = 2 * k + 1 + 1 from rfl, Int.pow_succ, Int.pow_succ, Int.mul_assoc]
theorem mulmod_l (a b p : Int) : a % p * b % p = a * b % p := by
  rw [Int.mul_emod, Int.emod_emod_of_dvd _ (Int.dvd_refl p), ← Int.mul_emod]
theorem mulmod_r (a b p : Int) : a * (b % p) % p = a * b % p := by
  rw [Int.mul_comm, mulmod_l, Int.mul_comm]
theorem mulpow_r (a b p : Int) (k : Nat) : a * (b % p) ^ k % p = a * b ^ k % p := by
  rw [← mulmod_r a ((b % p) ^ k), pow_emod', mulmod_r]
theorem sq_step (r b p : Int) (k : Nat) : (if k % 2 = 1 then r * b % p else r) * (b * b % p) ^ (k / 2) % p = r * b ^ k % p := by
  rw [mulpow_r, pow_two_mul]
  by_cases h : k % 2 = 1
  · rw [if_pos h, mulmod_l, Int.mul_assoc, Int.mul_comm b, ← Int.pow_succ]
    congr 2
    congr 1
    omega
  · rw [if_neg h]
    congr 2
    congr 1
    omega
/-- base ** exponent % prime by squares -/
def npowS : Sm :=
  (.seq (.set [3] (.c (.int 1)))
    (.seq (.set [4] (.bin .mod (.var 1) (.var 0)))
    (.seq (.set [5] (.var 2))
    (.seq (.whil (.cmp .gt (.var 5) (.c (.int 0))) (.seq (.ite (.truth (.bin .band (.var 5) (.c (.int 1)))) (.set [3] (.bin .mod (.bin .mul (.var 3) (.var 4)) (.var 0))) .skip)
      (.seq (.set [4] (.bin .mod (.bin .mul (.var 4) (.var 4)) (.var 0)))
      (.set [5] (.bin .shr (.var 5) (.c (.int 1)))))))
    (.ret (.var 3))))))
theorem band_one {k : Nat} : Builtin.bitAnd (k : Int) 1 = ((k % 2 : Nat) : Int) := by
  have h1 : decide ((0 : Int) ≤ (k : Int)) = true := decide_eq_true (by omega)
  have h2 : decide ((0 : Int) ≤ 1) = true := rfl
  unfold Builtin.bitAnd
  simp only [h1, h2, Int.toNat_natCast, show (1 : Int).toNat = 1 from rfl, Nat.and_one_is_mod]
theorem natAbs_lt {i p : Int} (h0 : 0 ≤ i) (h1 : i < p) (h2 : p < 18446744073709551616) : i.natAbs < 18446744073709551616 := by omega
section
variable {Φ : Fns} {g : G}
theorem npow_loop {p n e : Int} (hp : 0 < p) (hp2 : p < 18446744073709551616) : ∀ (k fu : Nat), k < fu → ∀ r b : Int, 0 ≤ r → r < p → 0 ≤ b → b < p → ∃ b' : Int,
    whileL (fun σ g => ev Φ (.cmp .gt (.var 5) (.c (.int 0))) σ g) (fun σ g => Pv.run Φ fuel (.seq (.ite (.truth (.bin .band (.var 5) (.c (.int 1)))) (.set [3] (.bin .mod (.bin .mul (.var 3) (.var 4)) (.var 0))) .skip)
      (.seq (.set [4] (.bin .mod (.bin .mul (.var 4) (.var 4)) (.var 0)))
      (.set [5] (.bin .shr (.var 5) (.c (.int 1)))))) σ g) fu [some (.int p), some (.int n), some (.int e), some (.int r), some (.int b), some (.int k)] g =
    .ok (.nx [some (.int p), some (.int n), some (.int e), some (.int (r * b ^ k % p)), some (.int b'), some (.int 0)]) g := by
  intro k
  induction k using Nat.strongRecOn with
  | _ k ih =>
    intro fu hf r b r0 r1 b0 b1
    obtain ⟨fu, rfl⟩ : ∃ m, fu = m + 1 := ⟨fu - 1, by omega⟩
    by_cases hk : k = 0
    · subst hk
      refine ⟨b, ?_⟩
      rw [whileL_end (by simp [ev, cmpV] : ev Φ (.cmp .gt (.var 5) (.c (.int 0))) [some (.int p), some (.int n), some (.int e), some (.int r), some (.int b), some (.int (0 : Nat))] g = .ok (.bool false) g)]
      rw [Int.pow_zero, Int.mul_one, Int.emod_eq_of_lt r0 r1]; rfl
    · have k0 : 0 < k := by omega
      have mrb : mulOk r b = true := mulOk_r (natAbs_lt b0 b1 hp2)
      have mbb : mulOk b b = true := mulOk_r (natAbs_lt b0 b1 hp2)
      obtain ⟨b', e⟩ := ih (k / 2) (by omega) fu (by omega) (if k % 2 = 1 then r * b % p else r) (b * b % p) (by split; exact Int.emod_nonneg _ (by omega); exact r0) (by split; exact Int.emod_lt_of_pos _ hp; exact r1) (Int.emod_nonneg _ (by omega)) (Int.emod_lt_of_pos _ hp)
      refine ⟨b', ?_⟩
      rw [whileL_step (g' := g) (σ' := [some (.int p), some (.int n), some (.int _), some (.int (if k % 2 = 1 then r * b % p else r)), some (.int (b * b % p)), some (.int ((k / 2 : Nat) : Int))]) (g2 := g)
        (by simp [ev, cmpV]; omega) ?_, e, sq_step]
      by_cases h2 : k % 2 = 1
      · have t : truV (.int (Builtin.bitAnd (k : Int) 1)) = some true := by rw [band_one, h2]; rfl
        simp [Pv.run, ev, binV, t, hp, mrb, mbb, setT, h2]
      · have h3 : k % 2 = 0 := by omega
        have t : truV (.int (Builtin.bitAnd (k : Int) 1)) = some false := by rw [band_one, h3]; rfl
        simp [Pv.run, ev, binV, t, hp, mrb, mbb, setT, h2]
theorem npow {p n e : Int} (hp : 1 < p) (hp2 : p < 18446744073709551616) (he : 0 ≤ e) (he2 : e < 18446744073709551616) : fin (Pv.run Φ fuel npowS [some (.int p), some (.int n), some (.int e), none, none, none] g) = .ok (.int (n ^ e.toNat % p)) g := by
  have hp0 : 0 < p := by omega
  unfold npowS
  rw [run_seq_nx (σ' := [some (.int p), some (.int n), some (.int e), some (.int 1), none, none]) (g' := g) rfl]
  rw [run_seq_nx (σ' := [some (.int p), some (.int n), some (.int e), some (.int 1), some (.int (n % p)), none]) (g' := g) (by simp [Pv.run, ev, binV, hp0, setT])]
  rw [run_seq_nx (σ' := [some (.int p), some (.int n), some (.int e), some (.int 1), some (.int (n % p)), some (.int (e.toNat : Nat))]) (g' := g) (by rw [Int.toNat_of_nonneg he]; rfl)]
  obtain ⟨b', h⟩ := npow_loop (Φ := Φ) (g := g) (n := n) (e := e) hp0 hp2 e.toNat fuel (by unfold fuel; omega) 1 (n % p) (by omega) hp (Int.emod_nonneg _ (by omega)) (Int.emod_lt_of_pos _ hp0)
  have h2 : Pv.run Φ fuel (.whil (.cmp .gt (.var 5) (.c (.int 0))) (.seq (.ite (.truth (.bin .band (.var 5) (.c (.int 1)))) (.set [3] (.bin .mod (.bin .mul (.var 3) (.var 4)) (.var 0))) .skip)
      (.seq (.set [4] (.bin .mod (.bin .mul (.var 4) (.var 4)) (.var 0)))
      (.set [5] (.bin .shr (.var 5) (.c (.int 1))))))) [some (.int p), some (.int n), some (.int e), some (.int 1), some (.int (n % p)), some (.int (e.toNat : Nat))] g = .ok (.nx [some (.int p), some (.int n), some (.int e), some (.int (1 * (n % p) ^ e.toNat % p)), some (.int b'), some (.int 0)]) g := h
  rw [run_seq_nx h2, Int.one_mul, pow_emod']
  rfl
end
end Pv
end

section
/-! the terms of k01: printed by gen.py -/
set_option autoImplicit false
namespace Xk01
open PySem Pv

def m_is_integer : Sm :=
  (.ret (.and (.bi .isInt (.cons (.var 0) .nil)) (.not (.bi .isBool (.cons (.var 0) .nil)))))

def m_is_prime : Sm :=
  (.seq (.ite (.or (.not (.truth (.call 0 (.cons (.var 0) .nil)))) (.or (.cmp .lt (.var 0) (.c (.int 7))) (.cmp .gt (.var 0) (.c (.int 199))))) (.ret (.c (.bool false))) .skip)
    (.seq (.forr [1] .seq (.cons (.tup (.cons (.c (.int 2)) (.cons (.c (.int 3)) (.cons (.c (.int 5)) (.cons (.c (.int 7)) (.cons (.c (.int 11)) (.cons (.c (.int 13)) .nil))))))) .nil) (.ite (.and (.cmp .eq (.bin .mod (.var 0) (.var 1)) (.c (.int 0))) (.cmp .ne (.var 0) (.var 1))) (.ret (.c (.bool false))) .skip))
    (.ret (.c (.bool true)))))

def m_number_power : Sm :=
  (.seq (.set [3] (.c (.int 1)))
    (.seq (.set [4] (.bin .mod (.var 1) (.var 0)))
    (.seq (.set [5] (.var 2))
    (.seq (.whil (.cmp .gt (.var 5) (.c (.int 0))) (.seq (.ite (.truth (.bin .band (.var 5) (.c (.int 1)))) (.set [3] (.bin .mod (.bin .mul (.var 3) (.var 4)) (.var 0))) .skip)
      (.seq (.set [4] (.bin .mod (.bin .mul (.var 4) (.var 4)) (.var 0)))
      (.set [5] (.bin .shr (.var 5) (.c (.int 1)))))))
    (.ret (.var 3))))))

def m_inverse : Sm :=
  (.ret (.call 2 (.cons (.var 0) (.cons (.var 1) (.cons (.bin .sub (.var 0) (.c (.int 2))) .nil)))))

def m_is_square : Sm :=
  (.ret (.or (.cmp .eq (.var 1) (.c (.int 0))) (.cmp .eq (.call 2 (.cons (.var 0) (.cons (.var 1) (.cons (.bin .fdiv (.bin .sub (.var 0) (.c (.int 1))) (.c (.int 2))) .nil)))) (.c (.int 1)))))

def m_root_of : Sm :=
  (.seq (.forr [2] .rng1 (.cons (.bin .fdiv (.bin .add (.var 0) (.c (.int 1))) (.c (.int 2))) .nil) (.ite (.cmp .eq (.bin .mod (.bin .mul (.var 2) (.var 2)) (.var 0)) (.var 1)) (.ret (.var 2)) .skip))
    (.ret (.c .none)))

def m_spare : Sm :=
  (.seq (.set [1] (.c (.int 2)))
    (.seq (.whil (.truth (.call 4 (.cons (.var 0) (.cons (.var 1) .nil)))) (.aug 1 .add (.c (.int 1))))
    (.ret (.var 1))))

def m__law_deck (ns : List Int) : Sm :=
  (.seq (.set [1] (.c (.int 10876101)))
    (.seq (.forr [2] .seq (.cons (.scr (.var 0) ns 63) .nil) (.set [1] (.bin .mod (.bi .toInt (.cons (.bin .add (.bin .add (.bin .mul (.var 1) (.c (.int 48271))) (.bin .mod (.bi .toInt (.cons (.var 2) .nil)) (.c (.int 2147483629)))) (.c (.int 67))) .nil)) (.c (.int 2147483587)))))
    (.ret (.dkNew (.lrev (.bi .toList (.cons (.scr (.var 0) ns 63) .nil))) (.var 1) (.c (.int 0))))))

def m__law_draw : Sm :=
  (.seq (.dkSet true (.var 0) (.bin .add (.dkGet true (.var 0)) (.c (.int 1))))
    (.seq (.set [2] (.bin .add (.dkGet false (.var 0)) (.bin .mul (.c (.int 61561)) (.dkGet true (.var 0)))))
    (.seq (.ite (.dkHas (.var 0)) (.seq (.set [3] (.dkPop (.var 0)))
      (.seq (.ite (.cmp .ge (.var 3) (.bin .pow (.c (.int 10)) (.c (.int 18)))) (.seq (.ex (.dkPush (.var 0) (.bin .fdiv (.var 3) (.var 1))))
        (.ret (.bin .mod (.bi .toInt (.cons (.var 3) .nil)) (.var 1)))) .skip)
      (.set [2] (.bin .add (.var 2) (.bin .mod (.bi .toInt (.cons (.var 3) .nil)) (.c (.int 2147483629))))))) .skip)
    (.seq (.set [2] (.bin .mod (.bi .toInt (.cons (.bin .add (.bin .mul (.var 2) (.c (.int 39373))) (.c (.int 283))) .nil)) (.c (.int 2147483647))))
    (.seq (.set [2] (.bin .mod (.bi .toInt (.cons (.bin .add (.bin .add (.bin .mul (.var 2) (.var 2)) (.bin .mul (.c (.int 52711)) (.dkGet true (.var 0)))) (.c (.int 67))) .nil)) (.c (.int 2147483587))))
    (.ret (.bin .mod (.bin .fdiv (.bin .mod (.bi .toInt (.cons (.bin .mul (.var 2) (.c (.int 40692))) .nil)) (.c (.int 2147483563))) (.c (.int 64))) (.var 1))))))))

def m__law_primes : Sm :=
  (.ret (.comp [1] .rng2 (.cons (.c (.int 7)) (.cons (.bin .add (.var 0) (.c (.int 1))) .nil)) (.cmp .eq (.comp [2] .rng2 (.cons (.c (.int 2)) (.cons (.c (.int 15)) .nil)) (.and (.cmp .lt (.var 2) (.var 1)) (.cmp .eq (.bin .mod (.bi .toInt (.cons (.var 1) .nil)) (.var 2)) (.c (.int 0)))) (.var 2)) (.lst .nil)) (.var 1)))

def m__law_pick : Sm :=
  (.ret (.idx (.var 1) (.call 8 (.cons (.var 0) (.cons (.bi .len (.cons (.var 1) .nil)) .nil)))))

def m__law_is_prime : Sm :=
  (.ret (.and (.bi .isInt (.cons (.var 1) .nil)) (.and (.not (.bi .isBool (.cons (.var 1) .nil))) (.cmp .isin (.var 1) (.var 0)))))

def m__law_odd : Sm :=
  (.seq (.set [2] (.lst (.cons (.c .none) (.cons (.c (.bool true)) (.cons (.c (.bool false)) (.cons (.c (.str "")) (.cons (.c (.str "7")) (.cons (.c (.str "11")) (.cons (.tup .nil) (.cons (.tup (.cons (.c (.int 7)) .nil)) (.cons (.lst (.cons (.c (.int 7)) .nil)) (.cons .dnew (.cons (.ddisp (.cons (.c (.int 7)) (.cons (.c (.int 7)) .nil))) (.cons (.lst .nil) (.cons (.tup (.cons (.tup (.cons (.c (.int 7)) .nil)) .nil)) (.cons (.c (.str "seven")) (.cons (.neg (.c (.int 7))) (.cons (.neg (.c (.int 11))) (.cons (.c (.int 211)) (.cons (.bin .pow (.c (.int 10)) (.c (.int 39))) .nil))))))))))))))))))))
    (.seq (.set [3] (.bin .add (.bin .add (.bin .mul (.call 8 (.cons (.var 0) (.cons (.bin .pow (.c (.int 10)) (.c (.int 6))) .nil))) (.bin .pow (.c (.int 10)) (.c (.int 12)))) (.bin .mul (.call 8 (.cons (.var 0) (.cons (.bin .pow (.c (.int 10)) (.c (.int 6))) .nil))) (.bin .pow (.c (.int 10)) (.c (.int 6))))) (.call 8 (.cons (.var 0) (.cons (.bin .pow (.c (.int 10)) (.c (.int 6))) .nil)))))
    (.ret (.bin .add (.var 2) (.lst (.cons (.var 1) (.cons (.bi .toStr (.cons (.var 1) .nil)) (.cons (.tup (.cons (.var 1) .nil)) (.cons (.lst (.cons (.var 1) .nil)) (.cons (.neg (.var 1)) (.cons (.bin .mul (.var 1) (.var 1)) (.cons (.bin .add (.var 1) (.c (.int 1))) (.cons (.var 3) (.cons (.neg (.var 3)) (.cons (.bin .add (.bin .mul (.var 3) (.c (.int 7))) (.var 1)) .nil)))))))))))))))

def m__law_field_right : Sm :=
  (.seq (.set [1] .dnew)
    (.seq (.forr [2] .rng1 (.cons (.var 0) .nil) (.setd 1 (.bin .mod (.bi .toInt (.cons (.bin .mul (.var 2) (.var 2)) .nil)) (.var 0)) (.var 2)))
    (.seq (.forr [3] .rng1 (.cons (.var 0) .nil) (.seq (.set [4] (.lst (.cons (.call 4 (.cons (.var 0) (.cons (.var 3) .nil))) (.cons (.callK 4 (.cons (.var 3) (.cons (.var 0) .nil)) [1, 0]) (.cons (.call 5 (.cons (.var 0) (.cons (.var 3) .nil))) (.cons (.callK 5 (.cons (.var 3) (.cons (.var 0) .nil)) [1, 0]) .nil))))))
      (.seq (.set [5] (.lst (.cons (.dhas (.var 3) (.var 1) false) (.cons (.dhas (.var 3) (.var 1) false) (.cons (.dget (.var 1) (.var 3) (.c .none)) (.cons (.dget (.var 1) (.var 3) (.c .none)) .nil))))))
      (.seq (.ite (.cmp .ne (.bi .repr (.cons (.var 4) .nil)) (.bi .repr (.cons (.var 5) .nil))) (.ret (.c (.bool false))) .skip)
      (.ite (.cmp .gt (.var 3) (.c (.int 0))) (.seq (.set [6] (.call 3 (.cons (.var 0) (.cons (.var 3) .nil))))
        (.seq (.ite (.or (.not (.truth (.bi .isInt (.cons (.var 6) .nil)))) (.or (.truth (.bi .isBool (.cons (.var 6) .nil))) (.not (.chain .le .lt (.c (.int 0)) (.var 6) (.var 0))))) (.ret (.c (.bool false))) .skip)
        (.ite (.or (.cmp .ne (.bin .mod (.bi .toInt (.cons (.bin .mul (.var 6) (.var 3)) .nil)) (.var 0)) (.c (.int 1))) (.cmp .ne (.callK 3 (.cons (.var 3) (.cons (.var 0) .nil)) [1, 0]) (.var 6))) (.ret (.c (.bool false))) .skip))) .skip)))))
    (.seq (.set [7] (.comp [3] .rng1 (.cons (.var 0) .nil) (.dhas (.var 3) (.var 1) true) (.var 3)))
    (.ret (.cmp .eq (.bi .repr (.cons (.lst (.cons (.call 6 (.cons (.var 0) .nil)) (.cons (.callK 6 (.cons (.var 0) .nil) [0]) .nil))) .nil)) (.bi .repr (.cons (.lst (.cons (.idx (.var 7) (.c (.int 0))) (.cons (.idx (.var 7) (.c (.int 0))) .nil))) .nil))))))))

def m_law : Sm :=
  (.seq (.set [1] (.call 7 (.cons (.var 0) .nil)))
    (.seq (.par 2 3 (.call 9 (.cons (.c (.int 59)) .nil)) (.call 9 (.cons (.c (.int 199)) .nil)))
    (.seq (.forr [4] .seq (.cons (.bin .add (.bi .listRange2 (.cons (.neg (.c (.int 9))) (.cons (.c (.int 232)) .nil))) (.call 12 (.cons (.var 1) (.cons (.call 10 (.cons (.var 1) (.cons (.var 3) .nil))) .nil)))) .nil) (.seq (.par 5 6 (.bi .repr (.cons (.var 4) .nil)) (.call 11 (.cons (.var 3) (.cons (.var 4) .nil))))
      (.ite (.or (.cmp .ne (.bi .repr (.cons (.lst (.cons (.call 1 (.cons (.var 4) .nil)) (.cons (.callK 1 (.cons (.var 4) .nil) [0]) .nil))) .nil)) (.bi .repr (.cons (.lst (.cons (.var 6) (.cons (.var 6) .nil))) .nil))) (.cmp .ne (.bi .repr (.cons (.var 4) .nil)) (.var 5))) (.ret (.c (.bool false))) .skip)))
    (.seq (.set [7] (.ite (.cmp .gt (.call 8 (.cons (.var 1) (.cons (.c (.int 5)) .nil))) (.c (.int 0))) (.call 10 (.cons (.var 1) (.cons (.var 2) .nil))) (.call 10 (.cons (.var 1) (.cons (.var 3) .nil)))))
    (.ret (.and (.call 13 (.cons (.var 7) .nil)) (.call 13 (.cons (.call 10 (.cons (.var 1) (.cons (.var 3) .nil))) .nil))))))))

def T (ns : List Int) : List Fn := [⟨1, 1, m_is_integer⟩, ⟨1, 2, m_is_prime⟩, ⟨3, 6, m_number_power⟩, ⟨2, 2, m_inverse⟩, ⟨2, 2, m_is_square⟩, ⟨2, 3, m_root_of⟩, ⟨1, 2, m_spare⟩, ⟨1, 3, m__law_deck ns⟩, ⟨2, 4, m__law_draw⟩, ⟨1, 3, m__law_primes⟩, ⟨2, 2, m__law_pick⟩, ⟨2, 2, m__law_is_prime⟩, ⟨2, 4, m__law_odd⟩, ⟨1, 8, m__law_field_right⟩, ⟨1, 8, m_law⟩]

/-- the functions at a height -/
abbrev PH (ns : List Int) (d : Nat) : Fns := FT (T ns) (fun _ => none) d

end Xk01
end

section
set_option autoImplicit false
namespace Xk01
open PySem Pv
variable {ns : List Int} {d : Nat} {g : G}
def isI : D → Bool
  | .int _ => true
  | _ => false
theorem c0 {v : D} (h : isDk v = false) : PH ns (d + 1) 0 [v] g = .ok (.bool (isI v)) g := by
  show FT (T ns) _ (d + 1) 0 [v] g = _
  rw [FT_at (fn := ⟨1, 1, m_is_integer⟩) rfl rfl]
  cases v <;> simp [m_is_integer, Pv.run, ev, evs, biV, isI, fin, h] <;> simp [isDk]
def divs : List Int := [2, 3, 5, 7, 11, 13]
def bad (v k : Int) : Bool := decide (v % k = 0) && !decide (v = k)
def primeB (v : Int) : Bool := !(decide (v < 7)) && !(decide (199 < v)) && !(divs.any (bad v))
theorem c1 {v : Int} : PH ns (d + 2) 1 [.int v] g = .ok (.bool (primeB v)) g := by
  show FT (T ns) _ (d + 1 + 1) 1 [.int v] g = _
  rw [FT_at (fn := ⟨1, 2, m_is_prime⟩) rfl rfl]
  have h := c0 (ns := ns) (d := d) (g := g) (v := .int v) rfl
  simp only [PH] at h
  show fin (Pv.run (PH ns (d + 1)) fuel m_is_prime [some (.int v), none] g) = _
  unfold m_is_prime
  by_cases a : v < 7
  · rw [run_seq_rt (v := .bool false) (g' := g) (by simp [Pv.run, ev, evs, h, isI, truV, cmpV, ltT, a])]
    simp [fin, primeB, a]
  by_cases b : 199 < v
  · rw [run_seq_rt (v := .bool false) (g' := g) (by simp [Pv.run, ev, evs, h, isI, truV, cmpV, ltT, a, b])]
    simp [fin, primeB, b]
  rw [run_seq_nx (σ' := [some (.int v), none]) (g' := g) (by simp [Pv.run, ev, evs, h, isI, truV, cmpV, ltT, a, b])]
  obtain ⟨y, e⟩ := forL_find (em := .int) (f := fun x σ g => (lift (setT [1] x σ) g).bind fun σ g => Pv.run (PH ns (d + 1)) fuel (.ite (.and (.cmp .eq (.bin .mod (.var 0) (.var 1)) (.c (.int 0))) (.cmp .ne (.var 0) (.var 1))) (.ret (.c (.bool false))) .skip) σ g)
    (c := bad v) (r := fun _ => .bool false) (S := fun y => [some (.int v), y]) (g := g) (xs := divs) (by
      intro k hk y
      have k0 : 0 < k := (by decide : ∀ k ∈ divs, 0 < k) k hk
      by_cases c1 : v % k = 0 <;> by_cases c2 : v = k <;> simp [setT, Pv.run, ev, evs, cmpV, binV, eqD, k0, c1, c2, bad]) none
  have e2 := (run_for (Φ := PH ns (d + 1)) (fu := fuel) (ts := [1]) (k := .seq) (σ := [some (.int v), none]) (g := g) (vs := [.tuple (divs.map .int)]) (xs := divs.map .int) (g' := g) (as := (.cons (.tup (.cons (.c (.int 2)) (.cons (.c (.int 3)) (.cons (.c (.int 5)) (.cons (.c (.int 7)) (.cons (.c (.int 11)) (.cons (.c (.int 13)) .nil))))))) .nil)) rfl rfl).trans e
  unfold primeB
  simp only [a, b, decide_false, Bool.not_false, Bool.true_and]
  cases q : divs.find? (bad v) with
  | some x =>
    rw [q] at e2
    rw [run_seq_rt e2, List.any_eq_true.mpr ⟨x, List.mem_of_find?_eq_some q, List.find?_some q⟩]; rfl
  | none =>
    rw [q] at e2
    rw [run_seq_nx e2]
    have q1 : divs.any (bad v) = false := by
      rw [List.find?_eq_none] at q
      rw [List.any_eq_false]
      exact q
    rw [q1]
    rfl
end Xk01
end

section
set_option autoImplicit false
namespace Xk01
open PySem Pv
variable {ns : List Int} {d : Nat} {g : G}
theorem castpow (n k p : Nat) : ((n : Int) ^ k % (p : Int)) = ((n ^ k % p : Nat) : Int) := by
  rw [Int.natCast_emod, Int.natCast_pow]
theorem c2 {p n e : Nat} (hp : 1 < p) (hp2 : p < 18446744073709551616) (he : e < 18446744073709551616) : PH ns (d + 1) 2 [.int p, .int n, .int e] g = .ok (.int ((n ^ e % p : Nat) : Int)) g := by
  show FT (T ns) _ (d + 1) 2 _ g = _
  rw [FT_at (fn := ⟨3, 6, m_number_power⟩) rfl rfl]
  have h := npow (Φ := PH ns d) (g := g) (p := (p : Int)) (n := (n : Int)) (e := (e : Int)) (by omega) (by omega) (by omega) (by omega)
  rw [Int.toNat_natCast, castpow] at h
  exact h
def invN (p n : Nat) : Nat := n ^ (p - 2) % p
def isSq (p n : Nat) : Bool := n == 0 || n ^ ((p - 1) / 2) % p == 1
def rootN (p n : Nat) : Option Nat := (List.range ((p + 1) / 2)).find? fun k => k * k % p == n
theorem c3 {p n : Nat} (hp : 1 < p) (hp2 : p < 18446744073709551616) : PH ns (d + 2) 3 [.int p, .int n] g = .ok (.int (invN p n : Nat)) g := by
  show FT (T ns) _ (d + 1 + 1) 3 _ g = _
  rw [FT_at (fn := ⟨2, 2, m_inverse⟩) rfl rfl]
  have h := c2 (ns := ns) (d := d) (g := g) (n := n) (e := p - 2) hp hp2 (by omega)
  have e : ((p : Int) - 2) = ((p - 2 : Nat) : Int) := by omega
  simp only [PH] at h
  simp [m_inverse, Pv.run, ev, evs, binV, fin, e, h, invN]
theorem c4 {p n : Nat} (hp : 1 < p) (hp2 : p < 18446744073709551616) : PH ns (d + 2) 4 [.int p, .int n] g = .ok (.bool (isSq p n)) g := by
  show FT (T ns) _ (d + 1 + 1) 4 _ g = _
  rw [FT_at (fn := ⟨2, 2, m_is_square⟩) rfl rfl]
  have h := c2 (ns := ns) (d := d) (g := g) (n := n) (e := (p - 1) / 2) hp hp2 (by omega)
  have e : ((p : Int) - 1) / 2 = (((p - 1) / 2 : Nat) : Int) := by omega
  have l : Nat.log2 2 < 9000 := by decide
  rw [← e] at h
  simp only [PH] at h
  by_cases z : n = 0
  · subst z
    simp [m_is_square, Pv.run, ev, evs, binV, fin, cmpV, eqD, isSq]
  · have z2 : ¬ ((n : Int) = 0) := by omega
    have q : decide (((n ^ ((p - 1) / 2) % p : Nat) : Int) = 1) = (n ^ ((p - 1) / 2) % p == 1) := by
      by_cases w : n ^ ((p - 1) / 2) % p = 1
      · rw [w]; rfl
      · rw [decide_eq_false (by omega), beq_eq_false_iff_ne.mpr w]
    have z3 : (n == 0) = false := beq_eq_false_iff_ne.mpr z
    show fin (Pv.run (PH ns (d + 1)) fuel m_is_square [some (.int p), some (.int n)] g) = _
    rw [show m_is_square = .ret (.or (.cmp .eq (.var 1) (.c (.int 0))) (.cmp .eq (.call 2 (.cons (.var 0) (.cons (.var 1) (.cons (.bin .fdiv (.bin .sub (.var 0) (.c (.int 1))) (.c (.int 2))) .nil)))) (.c (.int 1)))) from rfl]
    have e1 : ev (PH ns (d + 1)) (.cmp .eq (.var 1) (.c (.int 0))) [some (.int p), some (.int n)] g = .ok (.bool false) g := by simp [ev, cmpV, eqD, z]
    have e2 : ev (PH ns (d + 1)) (.call 2 (.cons (.var 0) (.cons (.var 1) (.cons (.bin .fdiv (.bin .sub (.var 0) (.c (.int 1))) (.c (.int 2))) .nil)))) [some (.int p), some (.int n)] g = .ok (.int ((n ^ ((p - 1) / 2) % p : Nat) : Int)) g := by
      simp only [ev, evs, binV, bind_ok, lift_some, l, List.getElem?_cons_succ, List.getElem?_cons_zero]
      simp only [show (decide ((0 : Int) < 2) && decide ((2 : Int).natAbs.log2 < 9000)) = true from rfl, if_true, lift_some, bind_ok]
      exact h
    have e3 : ev (PH ns (d + 1)) (.or (.cmp .eq (.var 1) (.c (.int 0))) (.cmp .eq (.call 2 (.cons (.var 0) (.cons (.var 1) (.cons (.bin .fdiv (.bin .sub (.var 0) (.c (.int 1))) (.c (.int 2))) .nil)))) (.c (.int 1)))) [some (.int p), some (.int n)] g = .ok (.bool (isSq p n)) g := by
      conv => lhs; unfold ev
      rw [e1, bind_ok]
      show ev _ (.cmp .eq _ _) _ _ = _
      conv => lhs; unfold ev
      rw [e2, bind_ok]
      show (Res.ok (PyData.bool (decide (((n ^ ((p - 1) / 2) % p : Nat) : Int) = 1))) g) = _
      rw [q]
      unfold isSq
      rw [z3]; rfl
    rw [run_ret e3]; rfl
def oD : Option Nat → D
  | some k => .int k
  | none => .none
theorem c5 {p n : Nat} (hp : 1 < p) (hp2 : p < 4611686018427387) : PH ns (d + 1) 5 [.int p, .int n] g = .ok (oD (rootN p n)) g := by
  show FT (T ns) _ (d + 1) 5 _ g = _
  rw [FT_at (fn := ⟨2, 3, m_root_of⟩) rfl rfl]
  have e : ((p : Int) + 1) / 2 = (((p + 1) / 2 : Nat) : Int) := by omega
  have l : Nat.log2 2 < 9000 := by decide
  obtain ⟨y, hf⟩ := forL_find (em := fun k : Nat => PyData.int (0 + (k : Int))) (f := fun x σ g => (lift (setT [2] x σ) g).bind fun σ g => Pv.run (PH ns d) fuel (.ite (.cmp .eq (.bin .mod (.bin .mul (.var 2) (.var 2)) (.var 0)) (.var 1)) (.ret (.var 2)) .skip) σ g)
    (c := fun k => k * k % p == n) (r := fun k => .int (0 + (k : Int))) (S := fun y => [some (.int p), some (.int n), y]) (g := g) (xs := List.range ((p + 1) / 2)) (by
      intro k hk y
      have k0 := List.mem_range.mp hk
      have mo : mulOk (k : Int) (k : Int) = true := mulOk_r (by omega)
      have hp0 : 0 < p := by omega
      have q : ((k : Int) * (k : Int) % (p : Int)) = ((k * k % p : Nat) : Int) := by rw [Int.natCast_emod, Int.natCast_mul]
      by_cases c1 : k * k % p = n
      · have c2 : ((k : Int) * (k : Int) % (p : Int)) = (n : Int) := by rw [q, c1]
        simp [setT, Pv.run, ev, evs, cmpV, binV, eqD, hp0, mo, c1, c2]
      · have c2 : ¬ ((k : Int) * (k : Int) % (p : Int)) = (n : Int) := by rw [q]; omega
        simp [setT, Pv.run, ev, evs, cmpV, binV, eqD, hp0, mo, c1, c2]) none
  have e2 := (run_for (Φ := PH ns d) (fu := fuel) (ts := [2]) (k := .rng1) (σ := [some (.int p), some (.int n), none]) (g := g) (vs := [.int (((p : Int) + 1) / 2)]) (xs := (List.range ((p + 1) / 2)).map fun k : Nat => PyData.int (0 + (k : Int))) (g' := g)
    (as := (.cons (.bin .fdiv (.bin .add (.var 0) (.c (.int 1))) (.c (.int 2))) .nil)) (by simp [evs, ev, binV, l]) (by
      simp only [itV]
      rw [if_pos (by simp only [Bool.and_eq_true, decide_eq_true_eq]; omega), e]
      rfl)).trans hf
  show fin (Pv.run (PH ns d) fuel m_root_of [some (.int p), some (.int n), none] g) = _
  unfold m_root_of rootN
  cases q : (List.range ((p + 1) / 2)).find? fun k => k * k % p == n with
  | some x =>
    rw [q] at e2
    rw [run_seq_rt e2]
    simp [fin, oD]
  | none =>
    rw [q] at e2
    rw [run_seq_nx e2]
    rfl
end Xk01
end

section
set_option autoImplicit false
namespace Xk01
open PySem Pv
variable {ns : List Int} {d : Nat} {g : G}
/-- the first number from m on that is no square -/
theorem c6_loop {p : Nat} (hp : 1 < p) (hp2 : p < 18446744073709551616) : ∀ (j fu m : Nat), j < fu → (∀ i < j, isSq p (m + i) = true) → isSq p (m + j) = false →
    whileL (fun σ g => ev (PH ns (d + 2)) (.truth (.call 4 (.cons (.var 0) (.cons (.var 1) .nil)))) σ g) (fun σ g => Pv.run (PH ns (d + 2)) fuel (.aug 1 .add (.c (.int 1))) σ g) fu [some (.int p), some (.int m)] g = .ok (.nx [some (.int p), some (.int ((m + j : Nat) : Int))]) g := by
  intro j
  induction j with
  | zero =>
    intro fu m hf _ h2
    obtain ⟨fu, rfl⟩ : ∃ k, fu = k + 1 := ⟨fu - 1, by omega⟩
    have h := c4 (ns := ns) (d := d) (g := g) (n := m) hp hp2
    rw [show m + 0 = m from rfl] at h2
    rw [h2] at h
    rw [whileL_end (g' := g) (by simp only [PH] at h; simp [ev, evs, h, truV])]
    rfl
  | succ j ih =>
    intro fu m hf h1 h2
    obtain ⟨fu, rfl⟩ : ∃ k, fu = k + 1 := ⟨fu - 1, by omega⟩
    have h := c4 (ns := ns) (d := d) (g := g) (n := m) hp hp2
    have h10 : isSq p m = true := h1 0 (by omega)
    rw [h10] at h
    rw [whileL_step (g' := g) (g2 := g) (σ' := [some (.int p), some (.int ((m + 1 : Nat) : Int))]) (by simp only [PH] at h; simp [ev, evs, h, truV]) (by simp [Pv.run, ev, slot, augV])]
    rw [ih fu (m + 1) (by omega) (fun i hi => by rw [show m + 1 + i = m + (i + 1) from by omega]; exact h1 (i + 1) (by omega)) (by rw [show m + 1 + j = m + (j + 1) from by omega]; exact h2)]
    rw [show m + 1 + j = m + (j + 1) from by omega]
theorem c6 {p j : Nat} (hp : 1 < p) (hp2 : p < 18446744073709551616) (hj : j < 1000) (h1 : ∀ i < j, isSq p (2 + i) = true) (h2 : isSq p (2 + j) = false) : PH ns (d + 3) 6 [.int p] g = .ok (.int ((2 + j : Nat) : Int)) g := by
  show FT (T ns) _ (d + 2 + 1) 6 _ g = _
  rw [FT_at (fn := ⟨1, 2, m_spare⟩) rfl rfl]
  show fin (Pv.run (PH ns (d + 2)) fuel m_spare [some (.int p), none] g) = _
  unfold m_spare
  rw [run_seq_nx (σ' := [some (.int p), some (.int 2)]) (g' := g) rfl]
  have h := c6_loop (ns := ns) (d := d) (g := g) hp hp2 j fuel 2 (by unfold fuel; omega) h1 h2
  have e : Pv.run (PH ns (d + 2)) fuel (.whil (.truth (.call 4 (.cons (.var 0) (.cons (.var 1) .nil)))) (.aug 1 .add (.c (.int 1)))) [some (.int p), some (.int 2)] g = .ok (.nx [some (.int p), some (.int ((2 + j : Nat) : Int))]) g := h
  rw [run_seq_nx e]
  rfl
/-! the law's own table of squares -/
def sqs (p : Nat) : List (Nat × Nat) := (List.range p).foldl (fun acc y => if acc.any (fun q => q.1 == y * y % p) then acc else acc ++ [(y * y % p, y)]) []
def look (n : Nat) (l : List (Nat × Nat)) : Option Nat := (l.find? fun q => q.1 == n).map (·.2)
def toKv (l : List (Nat × Nat)) : List (D × D) := l.map fun q => (.int q.1, .int q.2)
theorem keq_nat (a n : Nat) : keq (.int a) (.int n) = (a == n) := by
  unfold keq keyD
  by_cases h : a = n
  · subst h; simp
  · have h2 : ¬ ((a : Int) = n) := by omega
    simp [h, h2]
theorem dLook_kv (n : Nat) : ∀ l : List (Nat × Nat), dLook (.int n) (toKv l) = (look n l).map fun k : Nat => PyData.int k
  | [] => rfl
  | q :: l => by
    have ih := dLook_kv n l
    unfold dLook look toKv at ih ⊢
    rw [List.map_cons, List.find?_cons, List.find?_cons, keq_nat]
    cases h : (q.1 == n)
    · exact ih
    · rfl
theorem isDeck_kv : ∀ l : List (Nat × Nat), isDeck (toKv l) = false
  | [] => rfl
  | _ :: _ => rfl
theorem any_kv (n : Nat) (l : List (Nat × Nat)) : ((toKv l).any fun q => keq q.1 (.int n)) = l.any fun q => q.1 == n := by
  unfold toKv
  rw [List.any_map]
  congr 1
  funext q
  exact keq_nat _ _
theorem look_none {n : Nat} {l : List (Nat × Nat)} (h : l.any (fun q => q.1 == n) = false) : look n l = none := by
  unfold look
  rw [List.any_eq_false] at h
  rw [List.find?_eq_none.mpr fun q hq => h q hq]; rfl
theorem look_some {n : Nat} {l : List (Nat × Nat)} (h : l.any (fun q => q.1 == n) = true) : ∃ k, look n l = some k := by
  unfold look
  cases e : l.find? fun q => q.1 == n with
  | some q => exact ⟨q.2, rfl⟩
  | none =>
    rw [List.find?_eq_none] at e
    obtain ⟨q, h1, h2⟩ := List.any_eq_true.mp h
    exact absurd h2 (e q h1)
theorem setd_kv {l : List (Nat × Nat)} {k y : Nat} (hl : l.length < lineN) : setdV (.dict (toKv l)) (.int k) (.int y) = some (.dict (toKv (if l.any (fun q => q.1 == k) then l else l ++ [(k, y)]))) := by
  have hl2 : (toKv l).length < lineN := by unfold toKv; rw [List.length_map]; exact hl
  have e0 : (isDeck (toKv l) || (keyD (.int k)).isNone || !decide ((toKv l).length < lineN)) = false := by rw [isDeck_kv, decide_eq_true hl2]; rfl
  simp only [setdV, e0, dLook_kv, Bool.false_eq_true, if_false]
  cases h : l.any (fun q => q.1 == k)
  · rw [look_none h]
    simp only [Option.map_none, dPut, any_kv, h, Bool.false_eq_true, if_false]
    unfold toKv
    rw [List.map_append]; rfl
  · obtain ⟨z, e⟩ := look_some h
    rw [e]
    simp
theorem dhas_ev {Φ : Fns} {σ : Sl} {g : G} {KV : List (D × D)} {LK : Option D} {n : Nat} {i j : Nat} (h1 : σ[i]? = some (some (.int n))) (h2 : σ[j]? = some (some (.dict KV))) (dk : isDeck KV = false) (dl : dLook (.int n) KV = LK) : ev Φ (.dhas (.var i) (.var j) false) σ g = .ok (.bool LK.isSome) g := by
  have e : dhasV (.int n) (.dict KV) = some LK.isSome := by
    show (if (isDeck KV || (keyD (.int n)).isNone) = true then none else some (dLook (.int n) KV).isSome) = _
    rw [dk, dl]; rfl
  simp only [ev, h1, h2, bind_ok, e, Option.map_some, lift_some, Bool.bne_false]
theorem dget_ev {Φ : Fns} {σ : Sl} {g : G} {KV : List (D × D)} {LK : Option D} {n : Nat} {i j : Nat} (h1 : σ[i]? = some (some (.int n))) (h2 : σ[j]? = some (some (.dict KV))) (dk : isDeck KV = false) (dl : dLook (.int n) KV = LK) : ev Φ (.dget (.var j) (.var i) (.c .none)) σ g = .ok (LK.getD .none) g := by
  have e : dgetV (.dict KV) (.int n) .none = some (LK.getD .none) := by
    show (if (isDeck KV || (keyD (.int n)).isNone) = true then none else some ((dLook (.int n) KV).getD .none)) = _
    rw [dk, dl]; rfl
  simp only [ev, h1, h2, bind_ok, e, lift_some]
theorem set5 {Φ : Fns} {g : G} {KV : List (D × D)} {LK : Option D} {p n : Nat} {y2 y5 y6 : Option D} {x4 : D} (dk : isDeck KV = false) (dl : dLook (.int n) KV = LK) :
    Pv.run Φ fuel (.set [5] (.lst (.cons (.dhas (.var 3) (.var 1) false) (.cons (.dhas (.var 3) (.var 1) false) (.cons (.dget (.var 1) (.var 3) (.c .none)) (.cons (.dget (.var 1) (.var 3) (.c .none)) .nil)))))) [some (.int p), some (.dict KV), y2, some (.int n), some x4, y5, y6, none] g =
    .ok (.nx [some (.int p), some (.dict KV), y2, some (.int n), some x4, some (.list [.bool LK.isSome, .bool LK.isSome, LK.getD .none, LK.getD .none]), y6, none]) g := by
  refine (run_set (v := .list [.bool LK.isSome, .bool LK.isSome, LK.getD .none, LK.getD .none]) (g' := g) ?_).trans rfl
  have a := dhas_ev (Φ := Φ) (g := g) (σ := [some (.int p), some (.dict KV), y2, some (.int n), some x4, y5, y6, none]) (i := 3) (j := 1) rfl rfl dk dl
  have b := dget_ev (Φ := Φ) (g := g) (σ := [some (.int p), some (.dict KV), y2, some (.int n), some x4, y5, y6, none]) (i := 3) (j := 1) rfl rfl dk dl
  conv => lhs; unfold ev
  simp only [evs, a, b, bind_ok]
theorem repr_ne {Φ : Fns} {σ : Sl} {g : G} {x : D} {i j : Nat} (h1 : σ[i]? = some (some x)) (h2 : σ[j]? = some (some x)) (sh : showOk x = true) : ev Φ (.cmp .ne (.bi .repr (.cons (.var i) .nil)) (.bi .repr (.cons (.var j) .nil))) σ g = .ok (.bool false) g := by
  simp only [ev, evs, h1, h2, bind_ok, bi_repr sh, lift_some, ne_same, Option.map_some]
end Xk01
end

section
set_option autoImplicit false
namespace Xk01
open PySem Pv
variable {ns : List Int} {d : Nat} {g : G}
theorem sqs_loop {Φ : Fns} {p : Nat} (hp : 1 < p) (hp2 : p < 1000) : ∃ y, Pv.run Φ fuel (.forr [2] .rng1 (.cons (.var 0) .nil) (.setd 1 (.bin .mod (.bi .toInt (.cons (.bin .mul (.var 2) (.var 2)) .nil)) (.var 0)) (.var 2))) [some (.int p), some (.dict []), none, none, none, none, none, none] g =
    .ok (.nx [some (.int p), some (.dict (toKv (sqs p))), y, none, none, none, none, none]) g := by
  have h := forL_foldI (em := fun k : Nat => PyData.int (0 + (k : Int))) (g := g) (f := fun x σ g => (lift (setT [2] x σ) g).bind fun σ g => Pv.run Φ fuel (.setd 1 (.bin .mod (.bi .toInt (.cons (.bin .mul (.var 2) (.var 2)) .nil)) (.var 0)) (.var 2)) σ g)
    (S := fun a : List (Nat × Nat) × Option D => [some (.int p), some (.dict (toKv a.1)), a.2, none, none, none, none, none])
    (st := fun a y => (if a.1.any (fun q => q.1 == y * y % p) then a.1 else a.1 ++ [(y * y % p, y)], some (.int (0 + (y : Int))))) (xs := List.range p) (fun k a => a.1.length ≤ k) (by
      intro y hy k a hk ha
      have y0 := List.mem_range.mp hy
      rw [List.length_range] at hk
      have mo : mulOk (y : Int) (y : Int) = true := mulOk_r (by omega)
      have hp0 : 0 < p := by omega
      have q : ((y : Int) * (y : Int) % (p : Int)) = ((y * y % p : Nat) : Int) := by rw [Int.natCast_emod, Int.natCast_mul]
      have s := setd_kv (l := a.1) (k := y * y % p) (y := y) (by unfold lineN; omega)
      rw [← q] at s
      refine ⟨by simp [setT, Pv.run, ev, evs, binV, biV, hp0, mo, slot, s], ?_⟩
      show (if a.1.any (fun q => q.1 == y * y % p) = true then a.1 else a.1 ++ [(y * y % p, y)]).length ≤ k + 1
      split
      · omega
      · rw [List.length_append, List.length_singleton]; omega) ([], none) (Nat.zero_le _)
  have e := (run_for (Φ := Φ) (fu := fuel) (ts := [2]) (k := .rng1) (σ := [some (.int p), some (.dict []), none, none, none, none, none, none]) (g := g) (vs := [.int p]) (xs := (List.range p).map fun k : Nat => PyData.int (0 + (k : Int))) (g' := g)
    (as := (.cons (.var 0) .nil)) (by simp [evs, ev]) (by
      simp only [itV]
      rw [if_pos (by simp only [Bool.and_eq_true, decide_eq_true_eq]; omega)]
      rfl)).trans h.1
  have e3 : ∀ (xs : List Nat) (acc : List (Nat × Nat)) (o : Option D), (xs.foldl (fun (a : List (Nat × Nat) × Option D) y => (if a.1.any (fun q => q.1 == y * y % p) then a.1 else a.1 ++ [(y * y % p, y)], some (PyData.int (0 + (y : Int))))) (acc, o)).1 = xs.foldl (fun acc y => if acc.any (fun q => q.1 == y * y % p) then acc else acc ++ [(y * y % p, y)]) acc := by
    intro xs
    induction xs with
    | nil => intros; rfl
    | cons x xs ih => intro acc o; exact ih _ _
  have e4 := e3 (List.range p) [] none
  rw [e]
  refine ⟨(List.foldl (fun (a : List (Nat × Nat) × Option D) y => (if a.1.any (fun q => q.1 == y * y % p) then a.1 else a.1 ++ [(y * y % p, y)], some (PyData.int (0 + (y : Int))))) ([], none) (List.range p)).2, ?_⟩
  rw [e4]; rfl
def fieldB (p : Nat) : Bool := ((List.range p).all fun n => isSq p n == (look n (sqs p)).isSome && rootN p n == look n (sqs p) && (n == 0 || invN p n * n % p == 1))
def spareJ (p j : Nat) : Bool := ((List.range j).all fun i => isSq p (2 + i)) && !isSq p (2 + j) && ((List.range p).filter fun n => (look n (sqs p)).isNone).head? == some (2 + j)
theorem getD_look (n : Nat) (l : List (Nat × Nat)) : ((look n l).map fun k : Nat => PyData.int k).getD .none = oD (look n l) := by
  cases look n l <;> rfl
theorem sd_root {p n : Nat} (hp2 : p < 1000) : scal (oD (rootN p n)) = true := by
  unfold rootN
  cases q : (List.range ((p + 1) / 2)).find? fun k => k * k % p == n with
  | none => rfl
  | some k =>
    have h1 := List.mem_range.mp (List.mem_of_find?_eq_some q)
    have h2 : (k : Int).natAbs < 10 ^ 3 := by omega
    have h3 : (10 : Nat) ^ 3 ≤ 10 ^ 250 := Nat.pow_le_pow_right (by omega) (by omega)
    exact decide_eq_true (Nat.lt_of_lt_of_le h2 h3)
theorem sh_four {b : Bool} {x : D} (sd : scal x = true) : showOk (.list [.bool b, .bool b, x, x]) = true := by
  refine show_list ?_ (Nat.le_of_ble_eq_true rfl)
  show (true && (true && (scal x && (scal x && true)))) = true
  rw [sd]; rfl
def b13 : Sm :=
  (.seq (.set [4] (.lst (.cons (.call 4 (.cons (.var 0) (.cons (.var 3) .nil))) (.cons (.callK 4 (.cons (.var 3) (.cons (.var 0) .nil)) [1, 0]) (.cons (.call 5 (.cons (.var 0) (.cons (.var 3) .nil))) (.cons (.callK 5 (.cons (.var 3) (.cons (.var 0) .nil)) [1, 0]) .nil))))))
      (.seq (.set [5] (.lst (.cons (.dhas (.var 3) (.var 1) false) (.cons (.dhas (.var 3) (.var 1) false) (.cons (.dget (.var 1) (.var 3) (.c .none)) (.cons (.dget (.var 1) (.var 3) (.c .none)) .nil))))))
      (.seq (.ite (.cmp .ne (.bi .repr (.cons (.var 4) .nil)) (.bi .repr (.cons (.var 5) .nil))) (.ret (.c (.bool false))) .skip)
      (.ite (.cmp .gt (.var 3) (.c (.int 0))) (.seq (.set [6] (.call 3 (.cons (.var 0) (.cons (.var 3) .nil))))
        (.seq (.ite (.or (.not (.truth (.bi .isInt (.cons (.var 6) .nil)))) (.or (.truth (.bi .isBool (.cons (.var 6) .nil))) (.not (.chain .le .lt (.c (.int 0)) (.var 6) (.var 0))))) (.ret (.c (.bool false))) .skip)
        (.ite (.or (.cmp .ne (.bin .mod (.bi .toInt (.cons (.bin .mul (.var 6) (.var 3)) .nil)) (.var 0)) (.c (.int 1))) (.cmp .ne (.callK 3 (.cons (.var 3) (.cons (.var 0) .nil)) [1, 0]) (.var 6))) (.ret (.c (.bool false))) .skip))) .skip))))
theorem body13 {Φ : Fns} {p n : Nat} {y3 y4 y5 y6 : Option D} {y2 : Option D} (e4 : Φ 4 [.int p, .int n] g = .ok (.bool (isSq p n)) g) (e5 : Φ 5 [.int p, .int n] g = .ok (oD (rootN p n)) g) (e3 : Φ 3 [.int p, .int n] g = .ok (.int (invN p n : Nat)) g)
    (hp : 1 < p) (hp2 : p < 1000) (hn : n < p) (h1 : isSq p n = (look n (sqs p)).isSome) (h2 : rootN p n = look n (sqs p)) (h3 : n = 0 ∨ invN p n * n % p = 1) :
    ∃ z4 z5 z6, (lift (setT [3] (.int (0 + (n : Int))) [some (.int p), some (.dict (toKv (sqs p))), y2, y3, y4, y5, y6, none]) g).bind (fun σ g => Pv.run Φ fuel b13 σ g) =
      .ok (.nx [some (.int p), some (.dict (toKv (sqs p))), y2, some (.int n), z4, z5, z6, none]) g := by
  rw [h2] at e5
  rw [h1] at e4
  have gl := getD_look n (sqs p)
  have bl : ((look n (sqs p)).map fun k : Nat => PyData.int k).isSome = (look n (sqs p)).isSome := by cases look n (sqs p) <;> rfl
  have sd : scal (oD (look n (sqs p))) = true := by
    rw [← h2]
    exact sd_root hp2
  have sh : showOk (.list [.bool (look n (sqs p)).isSome, .bool (look n (sqs p)).isSome, oD (look n (sqs p)), oD (look n (sqs p))]) = true := sh_four sd
  generalize oD (look n (sqs p)) = O at *
  generalize (look n (sqs p)).isSome = B at *
  have z0 : ((0 : Int) + (n : Int)) = (n : Int) := by omega
  have dk := isDeck_kv (sqs p)
  have dl := dLook_kv n (sqs p)
  generalize toKv (sqs p) = KV at dk dl ⊢
  generalize (look n (sqs p)).map (fun k : Nat => PyData.int k) = LK at dl gl bl
  rw [z0]
  refine ⟨some (.list [.bool B, .bool B, O, O]), some (.list [.bool B, .bool B, O, O]), if n = 0 then y6 else some (.int (invN p n)), ?_⟩
  show (Pv.run Φ fuel b13 [some (.int p), some (.dict KV), y2, some (.int n), y4, y5, y6, none] g) = _
  unfold b13
  rw [run_seq_nx (g' := g) (σ' := [some (.int p), some (.dict KV), y2, some (.int n), some (.list [.bool B, .bool B, O, O]), y5, y6, none])
    (by simp [Pv.run, ev, evs, e4, e5, pm, setT])]
  have s5 := set5 (Φ := Φ) (g := g) (p := p) (n := n) (y2 := y2) (y5 := y5) (y6 := y6) (x4 := .list [.bool B, .bool B, O, O]) dk dl
  rw [bl, gl] at s5
  rw [run_seq_nx s5]
  have t := repr_ne (Φ := Φ) (g := g) (σ := [some (.int p), some (.dict KV), y2, some (.int n), some (.list [.bool B, .bool B, O, O]), some (.list [.bool B, .bool B, O, O]), y6, none]) (i := 4) (j := 5) rfl rfl sh
  rw [run_seq_nx ((run_ite t).trans (by rw [if_neg Bool.false_ne_true]; exact run_skip))]
  by_cases hz : n = 0
  · subst hz
    simp [Pv.run, ev, evs, cmpV]
  · have h3 := h3.resolve_left hz
    have n0 : (0 : Int) < (n : Int) := by omega
    have hp0 : 0 < p := by omega
    have il : invN p n < p := Nat.mod_lt _ hp0
    have mo : mulOk (invN p n : Int) (n : Int) = true := mulOk_r (by omega)
    have q : ((invN p n : Int) * (n : Int) % (p : Int)) = 1 := by
      rw [← Int.natCast_mul, ← Int.natCast_emod, h3]; rfl
    rw [run_ite (k := true) (g' := g) (by simp [ev, evs, cmpV, Nat.pos_of_ne_zero hz])]
    simp only [if_true]
    rw [run_seq_nx (g' := g) (σ' := [some (.int p), some (.dict KV), y2, some (.int n), some (.list [.bool B, .bool B, O, O]), some (.list [.bool B, .bool B, O, O]), some (.int (invN p n)), none])
      (by simp [Pv.run, ev, evs, e3, setT])]
    rw [run_seq_nx (g' := g) (σ' := [some (.int p), some (.dict KV), y2, some (.int n), some (.list [.bool B, .bool B, O, O]), some (.list [.bool B, .bool B, O, O]), some (.int (invN p n)), none])
      (by simp [Pv.run, ev, evs, biV, isDk, truV, cmpV, ltT, il])]
    simp [Pv.run, ev, evs, biV, binV, mo, hp0, q, cmpV, eqD, e3, pm, hz]
end Xk01
end

section
set_option autoImplicit false
namespace Xk01
open PySem Pv
variable {ns : List Int} {d : Nat} {g : G}
theorem dhasN_ev {Φ : Fns} {σ : Sl} {g : G} {KV : List (D × D)} {LK : Option D} {n : Nat} {i j : Nat} (h1 : σ[i]? = some (some (.int n))) (h2 : σ[j]? = some (some (.dict KV))) (dk : isDeck KV = false) (dl : dLook (.int n) KV = LK) : ev Φ (.dhas (.var i) (.var j) true) σ g = .ok (.bool (!LK.isSome)) g := by
  have e : dhasV (.int n) (.dict KV) = some LK.isSome := by
    show (if (isDeck KV || (keyD (.int n)).isNone) = true then none else some (dLook (.int n) KV).isSome) = _
    rw [dk, dl]; rfl
  simp only [ev, h1, h2, bind_ok, e, Option.map_some, lift_some, Bool.bne_true]
def rest (p : Nat) : List Nat := (List.range p).filterMap fun n => if (look n (sqs p)).isSome then none else some n
theorem others_ev {Φ : Fns} {p : Nat} {σ : Sl} {y : Option D} {x4 x5 x6 : Option D} {y2 : Option D} (hp2 : p < 1000) :
    ev Φ (.comp [3] .rng1 (.cons (.var 0) .nil) (.dhas (.var 3) (.var 1) true) (.var 3)) [some (.int p), some (.dict (toKv (sqs p))), y2, y, x4, x5, x6, none] g = .ok (.list ((rest p).map fun k : Nat => .int k)) g := by
  refine ev_comp (vs := [.int p]) (xs := (List.range p).map fun k : Nat => PyData.int (0 + (k : Int))) (g' := g) (by simp only [evs, ev, List.getElem?_cons_zero, bind_ok]) (by
      simp only [itV]
      rw [if_pos (by simp only [Bool.and_eq_true, decide_eq_true_eq]; omega)]
      rfl) (by rw [List.length_map, List.length_range]; unfold lineN; omega) ?_
  have h := compL_eq (em := fun k : Nat => PyData.int (0 + (k : Int))) (eo := fun k : Nat => PyData.int k) (g := g) (xs := List.range p) (acc := []) (u := fun n => if (look n (sqs p)).isSome then none else some n)
    (f := fun x g => (lift (setT [3] x (wipeS [some (.int p), some (.dict (toKv (sqs p))), y2, y, x4, x5, x6, none] [3])) g).bind fun σ' g => (ev Φ (.dhas (.var 3) (.var 1) true) σ' g).bind fun b g => match b with
        | .bool true => (ev Φ (.var 3) σ' g).bind fun v g => .ok (some v) g
        | .bool false => .ok none g
        | _ => .no) (by
      intro n hn
      have z0 : ((0 : Int) + (n : Int)) = (n : Int) := by omega
      show ((ev Φ (.dhas (.var 3) (.var 1) true) [some (.int p), some (.dict (toKv (sqs p))), y2, some (.int (0 + (n : Int))), x4, x5, x6, none] g).bind _) = _
      rw [z0, dhasN_ev (i := 3) (j := 1) (KV := toKv (sqs p)) (LK := (look n (sqs p)).map fun k : Nat => PyData.int k) (n := n) rfl rfl (isDeck_kv _) (dLook_kv _ _)]
      rw [Option.isSome_map]
      cases q : (look n (sqs p)).isSome
      · rfl
      · rfl)
  exact h
theorem c13A {Φ : Fns} {p j : Nat} (hp : 1 < p) (hp2 : p < 1000) (e4 : ∀ n : Nat, Φ 4 [.int p, .int n] g = .ok (.bool (isSq p n)) g) (e5 : ∀ n : Nat, Φ 5 [.int p, .int n] g = .ok (oD (rootN p n)) g) (e3 : ∀ n : Nat, Φ 3 [.int p, .int n] g = .ok (.int (invN p n : Nat)) g)
    (e6 : Φ 6 [.int p] g = .ok (.int ((2 + j : Nat) : Int)) g) (hf : fieldB p = true) (hj : (rest p).head? = some (2 + j)) (hj2 : j < 1000) :
    fin (Pv.run Φ fuel m__law_field_right [some (.int p), none, none, none, none, none, none, none] g) = .ok (.bool true) g := by
  unfold m__law_field_right
  rw [run_seq_nx (g' := g) (σ' := [some (.int p), some (.dict []), none, none, none, none, none, none]) rfl]
  obtain ⟨y2, s2⟩ := sqs_loop (Φ := Φ) (g := g) hp hp2
  rw [run_seq_nx s2]
  have hall : ∀ n < p, (isSq p n = (look n (sqs p)).isSome) ∧ rootN p n = look n (sqs p) ∧ (n = 0 ∨ invN p n * n % p = 1) := by
    intro n hn
    have h := List.all_eq_true.mp hf n (List.mem_range.mpr hn)
    simp only [Bool.and_eq_true, beq_iff_eq, Bool.or_eq_true] at h
    exact ⟨h.1.1, h.1.2, h.2⟩
  obtain ⟨σ', g', e7, ⟨x3, x4, x5, x6, e8, e9⟩⟩ := forL_inv (f := fun x σ g => (lift (setT [3] x σ) g).bind fun σ g => Pv.run Φ fuel b13 σ g) (I := fun σ g' => ∃ x3 x4 x5 x6 : Option D, σ = [some (.int p), some (.dict (toKv (sqs p))), y2, x3, x4, x5, x6, none] ∧ g' = g) (xs := (List.range p).map fun k : Nat => PyData.int (0 + (k : Int))) (by
      rintro x hx σ g1 ⟨x3, x4, x5, x6, rfl, eg⟩
      rw [eg]
      obtain ⟨n, hn, rfl⟩ := List.mem_map.mp hx
      have hn := List.mem_range.mp hn
      obtain ⟨h1, h2, h3⟩ := hall n hn
      obtain ⟨z4, z5, z6, e⟩ := body13 (y3 := x3) (y4 := x4) (y5 := x5) (y6 := x6) (y2 := y2) (e4 n) (e5 n) (e3 n) hp hp2 hn h1 h2 h3
      exact ⟨_, _, e, some (.int n), z4, z5, z6, rfl, rfl⟩) [some (.int p), some (.dict (toKv (sqs p))), y2, none, none, none, none, none] g ⟨none, none, none, none, rfl, rfl⟩
  have e10 := (run_for (Φ := Φ) (fu := fuel) (ts := [3]) (k := .rng1) (σ := [some (.int p), some (.dict (toKv (sqs p))), y2, none, none, none, none, none]) (g := g) (vs := [.int p]) (xs := (List.range p).map fun k : Nat => PyData.int (0 + (k : Int))) (g' := g)
    (as := (.cons (.var 0) .nil)) (by simp only [evs, ev, List.getElem?_cons_zero, bind_ok]) (by
      simp only [itV]
      rw [if_pos (by simp only [Bool.and_eq_true, decide_eq_true_eq]; omega)]
      rfl)).trans e7
  subst e8; subst e9
  unfold b13 at e10
  rw [run_seq_nx e10]
  rw [run_seq_nx (run_set (others_ev (Φ := Φ) (g := g') (y := x3) (x4 := x4) (x5 := x5) (x6 := x6) (y2 := y2) (σ := []) hp2))]
  have sh : showOk (.list [.int ((2 + j : Nat) : Int), .int ((2 + j : Nat) : Int)]) = true := by
    refine show_list ?_ (Nat.le_of_ble_eq_true rfl)
    have h2 : ((2 + j : Nat) : Int).natAbs < 10 ^ 4 := by omega
    have h3 : (10 : Nat) ^ 4 ≤ 10 ^ 250 := Nat.pow_le_pow_right (by omega) (by omega)
    have h4 : scal (.int ((2 + j : Nat) : Int)) = true := decide_eq_true (Nat.lt_of_lt_of_le h2 h3)
    simp only [List.all_cons, h4, List.all_nil, Bool.and_self]
  obtain ⟨r, hr⟩ : ∃ r, rest p = (2 + j) :: r := by
    cases h : rest p with
    | nil => rw [h] at hj; cases hj
    | cons a r =>
      rw [h] at hj
      exact ⟨r, by rw [show a = 2 + j from Option.some.inj hj]⟩
  have hix : idxV (.list ((rest p).map fun k : Nat => .int k)) (.int 0) = some (.int ((2 + j : Nat) : Int)) := by
    rw [hr]
    exact L2.atI_nat (j := 0) rfl
  have fe : ev Φ (.cmp .eq (.bi .repr (.cons (.lst (.cons (.call 6 (.cons (.var 0) .nil)) (.cons (.callK 6 (.cons (.var 0) .nil) [0]) .nil))) .nil)) (.bi .repr (.cons (.lst (.cons (.idx (.var 7) (.c (.int 0))) (.cons (.idx (.var 7) (.c (.int 0))) .nil))) .nil)))
      [some (.int p), some (.dict (toKv (sqs p))), y2, x3, x4, x5, x6, some (.list ((rest p).map fun k : Nat => .int k))] g' = .ok (.bool true) g' := by
    have e6k : Φ 6 (pm [0] [PyData.int p]) g' = .ok (.int ((2 + j : Nat) : Int)) g' := e6
    simp only [ev, evs, List.getElem?_cons_zero, List.getElem?_cons_succ, bind_ok, e6, e6k, hix, lift_some, bi_repr sh, eq_same, Option.map_some]
  rw [show ([some (.int p), some (.dict (toKv (sqs p))), y2, x3, x4, x5, x6, none] : Sl).set 7 (some (.list ((rest p).map fun k : Nat => .int k))) = [some (.int p), some (.dict (toKv (sqs p))), y2, x3, x4, x5, x6, some (.list ((rest p).map fun k : Nat => .int k))] from rfl, run_ret fe]
  rfl
end Xk01
end

section
set_option autoImplicit false
namespace Xk01
open PySem Pv
def small : List Nat := [7, 11, 13, 17, 19, 23, 29, 31, 37, 41, 43, 47, 53, 59]
def great : List Nat := [61, 67, 71, 73, 79, 83, 89, 97, 101, 103, 107, 109, 113, 127, 131, 137, 139, 149, 151, 157, 163, 167, 173, 179, 181, 191, 193, 197, 199]
def primesL : List Nat := small ++ great
def spareN (p : Nat) : Nat := ((rest p).head?.getD 2) - 2
def fullB (p : Nat) : Bool := fieldB p && decide (spareN p < 1000) && decide ((rest p).head? = some (2 + spareN p)) && ((List.range (spareN p)).all fun i => isSq p (2 + i)) && !isSq p (2 + spareN p)
theorem full_7 : fullB 7 = true := by decide +kernel
theorem full_11 : fullB 11 = true := by decide +kernel
theorem full_13 : fullB 13 = true := by decide +kernel
theorem full_17 : fullB 17 = true := by decide +kernel
theorem full_19 : fullB 19 = true := by decide +kernel
theorem full_23 : fullB 23 = true := by decide +kernel
theorem full_29 : fullB 29 = true := by decide +kernel
theorem full_31 : fullB 31 = true := by decide +kernel
theorem full_37 : fullB 37 = true := by decide +kernel
theorem full_41 : fullB 41 = true := by decide +kernel
theorem full_43 : fullB 43 = true := by decide +kernel
theorem full_47 : fullB 47 = true := by decide +kernel
theorem full_53 : fullB 53 = true := by decide +kernel
theorem full_59 : fullB 59 = true := by decide +kernel
theorem full_61 : fullB 61 = true := by decide +kernel
theorem full_67 : fullB 67 = true := by decide +kernel
theorem full_71 : fullB 71 = true := by decide +kernel
theorem full_73 : fullB 73 = true := by decide +kernel
theorem full_79 : fullB 79 = true := by decide +kernel
theorem full_83 : fullB 83 = true := by decide +kernel
theorem full_89 : fullB 89 = true := by decide +kernel
theorem full_97 : fullB 97 = true := by decide +kernel
theorem full_101 : fullB 101 = true := by decide +kernel
theorem full_103 : fullB 103 = true := by decide +kernel
theorem full_107 : fullB 107 = true := by decide +kernel
theorem full_109 : fullB 109 = true := by decide +kernel
theorem full_113 : fullB 113 = true := by decide +kernel
theorem full_127 : fullB 127 = true := by decide +kernel
theorem full_131 : fullB 131 = true := by decide +kernel
theorem full_137 : fullB 137 = true := by decide +kernel
theorem full_139 : fullB 139 = true := by decide +kernel
theorem full_149 : fullB 149 = true := by decide +kernel
theorem full_151 : fullB 151 = true := by decide +kernel
theorem full_157 : fullB 157 = true := by decide +kernel
theorem full_163 : fullB 163 = true := by decide +kernel
theorem full_167 : fullB 167 = true := by decide +kernel
theorem full_173 : fullB 173 = true := by decide +kernel
theorem full_179 : fullB 179 = true := by decide +kernel
theorem full_181 : fullB 181 = true := by decide +kernel
theorem full_191 : fullB 191 = true := by decide +kernel
theorem full_193 : fullB 193 = true := by decide +kernel
theorem full_197 : fullB 197 = true := by decide +kernel
theorem full_199 : fullB 199 = true := by decide +kernel
theorem full_all : primesL.all fullB = true := by
  simp only [primesL, small, great, List.cons_append, List.nil_append, List.all_cons, List.all_nil, Bool.and_true, full_7, full_11, full_13, full_17, full_19, full_23, full_29, full_31, full_37, full_41, full_43, full_47, full_53, full_59, full_61, full_67, full_71, full_73, full_79, full_83, full_89, full_97, full_101, full_103, full_107, full_109, full_113, full_127, full_131, full_137, full_139, full_149, full_151, full_157, full_163, full_167, full_173, full_179, full_181, full_191, full_193, full_197, full_199]
end Xk01
end

section
set_option autoImplicit false
namespace Xk01
open PySem Pv
variable {ns : List Int} {d : Nat} {g : G}
theorem range_p : ∀ p ∈ primesL, 1 < p ∧ p < 1000 := by decide +kernel
theorem c13 {p : Nat} (h : p ∈ primesL) : PH ns (d + 4) 13 [.int p] g = .ok (.bool true) g := by
  obtain ⟨hp, hp2⟩ := range_p p h
  have f := List.all_eq_true.mp full_all p h
  unfold fullB at f
  simp only [Bool.and_eq_true, decide_eq_true_eq, Bool.not_eq_true', List.all_eq_true, List.mem_range] at f
  obtain ⟨⟨⟨⟨f1, f2⟩, f3⟩, f4⟩, f5⟩ := f
  have e4 : ∀ n : Nat, PH ns (d + 3) 4 [.int p, .int n] g = .ok (.bool (isSq p n)) g := fun n => c4 (d := d + 1) hp (by omega)
  have e5 : ∀ n : Nat, PH ns (d + 3) 5 [.int p, .int n] g = .ok (oD (rootN p n)) g := fun n => c5 (d := d + 2) hp (by omega)
  have e3 : ∀ n : Nat, PH ns (d + 3) 3 [.int p, .int n] g = .ok (.int (invN p n : Nat)) g := fun n => c3 (d := d + 1) hp (by omega)
  have e6 : PH ns (d + 3) 6 [.int p] g = .ok (.int ((2 + spareN p : Nat) : Int)) g := c6 (d := d) hp (by omega) f2 f4 f5
  show FT (T ns) _ (d + 3 + 1) 13 _ g = _
  rw [FT_at (fn := ⟨1, 8, m__law_field_right⟩) rfl rfl]
  exact c13A (Φ := PH ns (d + 3)) hp hp2 e4 e5 e3 e6 f1 f3 f2
end Xk01
end

section
set_option autoImplicit false
namespace Xk01
open PySem Pv
variable {ns : List Int} {d : Nat} {g : G}
def divN (n : Nat) : List Nat := (List.range 13).filterMap fun k => if decide (k + 2 < n) && n % (k + 2) == 0 then some (k + 2) else none
def prN (m : Nat) : List Nat := (List.range (m - 6)).filterMap fun k => if (divN (k + 7)).isEmpty then some (k + 7) else none
theorem pr59 : prN 59 = small := by decide +kernel
theorem pr199 : prN 199 = primesL := by decide +kernel
theorem inner_ev {Φ : Fns} {m n : Nat} {x2 : Option D} :
    ev Φ (.comp [2] .rng2 (.cons (.c (.int 2)) (.cons (.c (.int 15)) .nil)) (.and (.cmp .lt (.var 2) (.var 1)) (.cmp .eq (.bin .mod (.bi .toInt (.cons (.var 1) .nil)) (.var 2)) (.c (.int 0)))) (.var 2)) [some (.int m), some (.int n), x2] g = .ok (.list ((divN n).map fun k : Nat => .int k)) g := by
  refine ev_comp (vs := [.int 2, .int 15]) (xs := (List.range 13).map fun k : Nat => PyData.int (2 + (k : Int))) (g' := g) (by simp only [evs, ev, bind_ok]) (by rfl) (by rw [List.length_map, List.length_range]; unfold lineN; omega) ?_
  have h := compL_eq (em := fun k : Nat => PyData.int (2 + (k : Int))) (eo := fun k : Nat => PyData.int k) (g := g) (xs := List.range 13) (acc := []) (u := fun k => if decide (k + 2 < n) && n % (k + 2) == 0 then some (k + 2) else none)
    (f := fun x g => (lift (setT [2] x (wipeS [some (.int m), some (.int n), x2] [2])) g).bind fun σ' g => (ev Φ (.and (.cmp .lt (.var 2) (.var 1)) (.cmp .eq (.bin .mod (.bi .toInt (.cons (.var 1) .nil)) (.var 2)) (.c (.int 0)))) σ' g).bind fun b g => match b with
        | .bool true => (ev Φ (.var 2) σ' g).bind fun v g => .ok (some v) g
        | .bool false => .ok none g
        | _ => .no) (by
      intro k hk
      have z0 : ((2 : Int) + (k : Int)) = ((k + 2 : Nat) : Int) := by omega
      show ((ev Φ _ [some (.int m), some (.int n), some (.int (2 + (k : Int)))] g).bind _) = _
      rw [z0]
      have e : ev Φ (.and (.cmp .lt (.var 2) (.var 1)) (.cmp .eq (.bin .mod (.bi .toInt (.cons (.var 1) .nil)) (.var 2)) (.c (.int 0)))) [some (.int m), some (.int n), some (.int ((k + 2 : Nat) : Int))] g = .ok (.bool (decide (k + 2 < n) && n % (k + 2) == 0)) g := by
        have p0 : (0 : Int) < ((k + 2 : Nat) : Int) := by omega
        have q1 : decide (((k + 2 : Nat) : Int) < (n : Int)) = decide (k + 2 < n) := by
          by_cases w : k + 2 < n
          · rw [decide_eq_true w, decide_eq_true (by omega)]
          · rw [decide_eq_false w, decide_eq_false (by omega)]
        have q2 : decide ((n : Int) % ((k + 2 : Nat) : Int) = 0) = (n % (k + 2) == 0) := by
          rw [← Int.natCast_emod]
          by_cases w : n % (k + 2) = 0
          · rw [w]; rfl
          · rw [decide_eq_false (by omega), beq_eq_false_iff_ne.mpr w]
        simp only [ev, evs, cmpV, ltT, binV, biV, eqD, bind_ok, lift_some, Option.map_some, List.getElem?_cons_zero, List.getElem?_cons_succ, decide_eq_true p0, if_true, q1, q2]
        cases decide (k + 2 < n) <;> rfl
      rw [e]
      cases decide (k + 2 < n) && n % (k + 2) == 0
      · rfl
      · rfl)
  exact h
end Xk01
end

section
set_option autoImplicit false
namespace Xk01
open PySem Pv
variable {ns : List Int} {d : Nat} {g : G}
theorem eq_nil_ev (xs : List Nat) : cmpV .eq (.list (xs.map fun k : Nat => .int k)) (.list []) = some xs.isEmpty := by
  have s1 : shp (.list (xs.map fun k : Nat => PyData.int k)) = true := by
    have h : ∀ ys : List Nat, PyData.canLayAll0 (ys.map fun k : Nat => PyData.int k) = true ∧ PyData.depthAll (ys.map fun k : Nat => PyData.int k) ≤ 1 := by
      intro ys
      induction ys with
      | nil => exact ⟨rfl, by rw [List.map_nil]; unfold PyData.depthAll; omega⟩
      | cons y ys ih =>
        rw [List.map_cons]
        unfold PyData.canLayAll0 PyData.depthAll
        refine ⟨by rw [ih.1]; rfl, ?_⟩
        have := ih.2
        unfold PyData.depth
        omega
    obtain ⟨h1, h2⟩ := h xs
    show (PyData.canLayAll0 _ && decide (PyData.depthAll _ + 1 ≤ 64)) = true
    rw [h1, Bool.true_and]
    exact decide_eq_true (by omega)
  show (if (shp (.list (xs.map fun k : Nat => PyData.int k)) && shp (.list [])) = true then some (PyData.eqv (.list (xs.map fun k : Nat => PyData.int k)) (.list [])) else none) = _
  rw [s1, show shp (.list []) = true from rfl, Bool.and_self, if_pos rfl]
  cases xs <;> rfl
theorem c9 {m : Nat} (hm : m < 1000) (h6 : 6 ≤ m) : PH ns (d + 1) 9 [.int m] g = .ok (.list ((prN m).map fun k : Nat => .int k)) g := by
  show FT (T ns) _ (d + 1) 9 _ g = _
  rw [FT_at (fn := ⟨1, 3, m__law_primes⟩) rfl rfl]
  show fin (Pv.run (PH ns d) fuel m__law_primes [some (.int m), none, none] g) = _
  generalize PH ns d = Φ
  unfold m__law_primes
  refine (congrArg fin (run_ret (v := .list ((prN m).map fun k : Nat => .int k)) (g' := g) ?_)).trans rfl
  have e0 : ((m : Int) + 1 - 7).toNat = m - 6 := by omega
  refine ev_comp (vs := [.int 7, .int ((m : Int) + 1)]) (xs := (List.range (m - 6)).map fun k : Nat => PyData.int (7 + (k : Int))) (g' := g) (by simp only [evs, ev, bind_ok, List.getElem?_cons_zero, binV, lift_some]) (by
      simp only [itV]
      rw [if_pos (by simp only [Bool.and_eq_true, decide_eq_true_eq]; omega), e0]
      rfl) (by rw [List.length_map, List.length_range]; unfold lineN; omega) ?_
  have h := compL_eq (em := fun k : Nat => PyData.int (7 + (k : Int))) (eo := fun k : Nat => PyData.int k) (g := g) (xs := List.range (m - 6)) (acc := []) (u := fun k => if (divN (k + 7)).isEmpty then some (k + 7) else none)
    (f := fun x g => (lift (setT [1] x (wipeS [some (.int m), none, none] [1])) g).bind fun σ' g => (ev Φ (.cmp .eq (.comp [2] .rng2 (.cons (.c (.int 2)) (.cons (.c (.int 15)) .nil)) (.and (.cmp .lt (.var 2) (.var 1)) (.cmp .eq (.bin .mod (.bi .toInt (.cons (.var 1) .nil)) (.var 2)) (.c (.int 0)))) (.var 2)) (.lst .nil)) σ' g).bind fun b g => match b with
        | .bool true => (ev Φ (.var 1) σ' g).bind fun v g => .ok (some v) g
        | .bool false => .ok none g
        | _ => .no) (by
      intro k hk
      have z0 : ((7 : Int) + (k : Int)) = ((k + 7 : Nat) : Int) := by omega
      show ((ev Φ _ [some (.int m), some (.int (7 + (k : Int))), none] g).bind _) = _
      rw [z0]
      have e : ev Φ (.cmp .eq (.comp [2] .rng2 (.cons (.c (.int 2)) (.cons (.c (.int 15)) .nil)) (.and (.cmp .lt (.var 2) (.var 1)) (.cmp .eq (.bin .mod (.bi .toInt (.cons (.var 1) .nil)) (.var 2)) (.c (.int 0)))) (.var 2)) (.lst .nil)) [some (.int m), some (.int ((k + 7 : Nat) : Int)), none] g = .ok (.bool (divN (k + 7)).isEmpty) g := by
        have i := inner_ev (Φ := Φ) (g := g) (m := m) (n := k + 7) (x2 := none)
        conv => lhs; unfold ev
        rw [i, bind_ok]
        show (Res.bind (Res.ok (PyData.list []) g) _) = _
        rw [bind_ok, eq_nil_ev]; rfl
      rw [e]
      cases (divN (k + 7)).isEmpty
      · rfl
      · rfl)
  exact h
end Xk01
end

section
set_option autoImplicit false
namespace Xk01
open PySem Pv
variable {ns : List Int} {d : Nat} {g : G}
def numsD (l : List Nat) : D := .list (l.map fun k : Nat => .int k)
theorem c8 {st : Dk} {many : Int} (h0 : 0 < many) (hl : many.natAbs.log2 < 9000) (hc : st.cells.length ≤ 63) : ∃ r st', PH ns (d + 1) 8 [tokD 0, .int many] (some st) = .ok (.int r) (some st') ∧ 0 ≤ r ∧ r < many ∧ st'.cells.length ≤ 63 := by
  obtain ⟨r, st', h⟩ := draw_A (Φ := PH ns d) (fu := fuel) (k1 := 61561) (k2 := 283) (k3 := 67) h0 hl (by decide) hc
  refine ⟨r, st', ?_, h.lo, h.hi, Nat.le_trans h.len hc⟩
  show FT (T ns) _ (d + 1) 8 _ (some st) = _
  rw [FT_at (fn := ⟨2, 4, m__law_draw⟩) rfl rfl]
  exact h.eq
theorem c7 : ∃ st, PH ns (d + 1) 7 [tokD 1] none = .ok (tokD 0) (some st) ∧ st.cells.length ≤ 63 := by
  obtain ⟨st, h1, h2⟩ := deck_A (Φ := PH ns d) (fu := fuel) (ns := ns) (seed := 10876101) (k := 67)
  refine ⟨st, ?_, h2⟩
  show FT (T ns) _ (d + 1) 7 _ none = _
  rw [FT_at (fn := ⟨1, 3, m__law_deck ns⟩) rfl rfl]
  exact h1
theorem log_small {i : Int} (h : i.natAbs < 10 ^ 250) : i.natAbs.log2 < 9000 := by
  have := log_int h
  omega
theorem c10 {st : Dk} {l : List Nat} (h0 : l ≠ []) (hl : l.length < 1000) (hc : st.cells.length ≤ 63) : ∃ p st', PH ns (d + 2) 10 [tokD 0, numsD l] (some st) = .ok (.int (p : Nat)) (some st') ∧ p ∈ l ∧ st'.cells.length ≤ 63 := by
  have hlen : 0 < l.length := List.length_pos_iff.mpr h0
  have h3 : (10 : Nat) ^ 3 ≤ 10 ^ 250 := Nat.pow_le_pow_right (by omega) (by omega)
  obtain ⟨r, st', h1, r0, r1, h2⟩ := c8 (ns := ns) (d := d) (st := st) (many := (l.length : Int)) (by omega) (log_small (Nat.lt_of_lt_of_le (show _ < 10 ^ 3 by omega) h3)) hc
  obtain ⟨k, rfl⟩ := Int.eq_ofNat_of_zero_le r0
  have hk : k < l.length := by omega
  refine ⟨l[k], st', ?_, List.getElem_mem hk, h2⟩
  show FT (T ns) _ (d + 1 + 1) 10 _ (some st) = _
  rw [FT_at (fn := ⟨2, 2, m__law_pick⟩) rfl rfl]
  show fin (Pv.run (PH ns (d + 1)) fuel m__law_pick [some (tokD 0), some (numsD l)] (some st)) = _
  generalize PH ns (d + 1) = Φ at h1 ⊢
  unfold m__law_pick
  have hi : idxV (numsD l) (.int (k : Int)) = some (.int (l[k] : Nat)) := L2.atI_nat (j := k) (by rw [List.getElem?_map, List.getElem?_eq_getElem hk]; rfl)
  have hn : biV .len [numsD l] = some (.int (l.length : Int)) := by
    show some (PyData.int ((l.map fun k : Nat => PyData.int k).length : Int)) = _
    rw [List.length_map]
  refine (congrArg fin (run_ret (v := .int (l[k] : Nat)) (g' := some st') ?_)).trans rfl
  simp only [ev, evs, List.getElem?_cons_zero, List.getElem?_cons_succ, bind_ok, hn, lift_some, h1, hi]
end Xk01
end

section
set_option autoImplicit false
namespace Xk01
open PySem Pv
variable {ns : List Int} {d : Nat} {g : G}
/-- what is_prime answers of any plain value -/
def pB : D → Bool
  | .int v => primeB v
  | _ => false
theorem c1' {v : D} (h : isDk v = false) : PH ns (d + 2) 1 [v] g = .ok (.bool (pB v)) g := by
  have key : isI v = false → PH ns (d + 2) 1 [v] g = .ok (.bool false) g := by
    intro hi
    have h0 := c0 (ns := ns) (d := d) (g := g) h
    rw [hi] at h0
    show FT (T ns) _ (d + 1 + 1) 1 [v] g = _
    rw [FT_at (fn := ⟨1, 2, m_is_prime⟩) rfl rfl]
    show fin (Pv.run (PH ns (d + 1)) fuel m_is_prime [some v, none] g) = _
    generalize PH ns (d + 1) = Φ at h0 ⊢
    unfold m_is_prime
    rw [run_seq_rt (v := .bool false) (g' := g) (by simp [Pv.run, ev, evs, h0, truV])]
    rfl
  cases v with
  | int i => exact c1
  | _ => exact key rfl
theorem mem_range : ∀ p ∈ primesL, 7 ≤ p ∧ p ≤ 199 := by decide +kernel
theorem mid : (List.range 193).all (fun k => primeB ((k + 7 : Nat) : Int) == primesL.any fun p => ((p : Nat) : Int) == ((k + 7 : Nat) : Int)) = true := by decide +kernel
theorem prime_mem (v : Int) : (primesL.any fun p => ((p : Nat) : Int) == v) = primeB v := by
  by_cases h : 7 ≤ v ∧ v ≤ 199
  · obtain ⟨k, rfl⟩ : ∃ k : Nat, v = ((k + 7 : Nat) : Int) := ⟨(v - 7).toNat, by omega⟩
    have := List.all_eq_true.mp mid k (List.mem_range.mpr (by omega))
    exact (eq_of_beq this).symm
  · have e1 : primeB v = false := by
      unfold primeB
      by_cases a : v < 7
      · rw [decide_eq_true a]; rfl
      · have b : 199 < v := by omega
        rw [decide_eq_true b, decide_eq_false a]; rfl
    rw [e1, List.any_eq_false]
    intro p hp
    obtain ⟨h1, h2⟩ := mem_range p hp
    simp only [beq_iff_eq]
    omega
theorem shp_nums (l : List Nat) : shp (numsD l) = true := by
  have h : ∀ ys : List Nat, PyData.canLayAll0 (ys.map fun k : Nat => PyData.int k) = true ∧ PyData.depthAll (ys.map fun k : Nat => PyData.int k) ≤ 1 := by
    intro ys
    induction ys with
    | nil => exact ⟨rfl, by rw [List.map_nil]; unfold PyData.depthAll; omega⟩
    | cons y ys ih =>
      rw [List.map_cons]
      unfold PyData.canLayAll0 PyData.depthAll
      refine ⟨by rw [ih.1]; rfl, ?_⟩
      have := ih.2
      unfold PyData.depth
      omega
  obtain ⟨h1, h2⟩ := h l
  show (PyData.canLayAll0 _ && decide (PyData.depthAll _ + 1 ≤ 64)) = true
  rw [h1, Bool.true_and]
  exact decide_eq_true (by omega)
theorem inD_nums (v : Int) (l : List Nat) : inD (.int v) (numsD l) = some (l.any fun p => ((p : Nat) : Int) == v) := by
  show (if (shp (.int v) && shp (numsD l)) = true then some ((l.map fun k : Nat => PyData.int k).any fun z => PyData.eqv z (.int v)) else none) = _
  rw [shp_nums, show shp (.int v) = true from rfl, Bool.and_self, if_pos rfl, List.any_map]
  rfl
theorem c11 {v : D} (h : isDk v = false) : PH ns (d + 1) 11 [numsD primesL, v] g = .ok (.bool (pB v)) g := by
  show FT (T ns) _ (d + 1) 11 _ g = _
  rw [FT_at (fn := ⟨2, 2, m__law_is_prime⟩) rfl rfl]
  show fin (Pv.run (PH ns d) fuel m__law_is_prime [some (numsD primesL), some v] g) = _
  generalize PH ns d = Φ
  unfold m__law_is_prime
  cases v with
  | int i =>
    have e := inD_nums i primesL
    rw [prime_mem] at e
    generalize numsD primesL = L at e ⊢
    simp [Pv.run, ev, evs, biV, isDk, cmpV, e, fin, pB]
  | dict kvs => simp [Pv.run, ev, evs, biV, h, fin, pB]
  | _ => simp [Pv.run, ev, evs, biV, isDk, fin, pB]
end Xk01
end

section
set_option autoImplicit false
namespace Xk01
open PySem Pv
variable {ns : List Int} {d : Nat} {g : G}
def goodB (x : D) : Bool := showOk x && !isDk x
def fixedL : List D := [.none, .bool true, .bool false, .str "", .str "7", .str "11", .tuple [], .tuple [.int 7], .list [.int 7], .dict [], .dict [(.int 7, .int 7)], .list [], .tuple [.tuple [.int 7]], .str "seven", .int (-7), .int (-11), .int 211, .int (10 ^ 39)]
theorem fixed_good : fixedL.all goodB = true := by decide +kernel
theorem str_good : primesL.all (fun p => goodB (.str (toString ((p : Nat) : Int)))) = true := by decide +kernel
theorem int_good {i : Int} (h : i.natAbs < 10 ^ 250) : goodB (.int i) = true := by
  unfold goodB
  rw [show_one (x := .int i) (decide_eq_true h)]; rfl
theorem small_lt {k : Nat} (h : k < 10 ^ 30) : k < 10 ^ 250 := Nat.lt_of_lt_of_le h (Nat.pow_le_pow_right (by omega) (by omega))
theorem c12 {st : Dk} {p : Nat} (hp : p ∈ primesL) (hc : st.cells.length ≤ 63) : ∃ xs st', PH ns (d + 2) 12 [tokD 0, .int p] (some st) = .ok (.list xs) (some st') ∧ xs.all goodB = true ∧ xs.length ≤ 100 ∧ st'.cells.length ≤ 63 := by
  obtain ⟨p1, p2⟩ := mem_range p hp
  have hl : (10 ^ 6 : Int).natAbs.log2 < 9000 := by decide +kernel
  obtain ⟨r1, s1, e1, a1, b1, l1⟩ := c8 (ns := ns) (d := d) (st := st) (many := 10 ^ 6) (by decide) hl hc
  obtain ⟨r2, s2, e2, a2, b2, l2⟩ := c8 (ns := ns) (d := d) (st := s1) (many := 10 ^ 6) (by decide) hl l1
  obtain ⟨r3, s3, e3, a3, b3, l3⟩ := c8 (ns := ns) (d := d) (st := s2) (many := 10 ^ 6) (by decide) hl l2
  have m6 : ((10 : Int) ^ 6) = 1000000 := by decide
  have m12 : ((10 : Int) ^ 12) = 1000000000000 := by decide
  rw [m6] at b1 b2 b3
  obtain ⟨G0, hG⟩ : ∃ G0 : Int, G0 = r1 * 1000000000000 + r2 * 1000000 + r3 := ⟨_, rfl⟩
  have g0 : 0 ≤ G0 := by omega
  have g1 : G0 < 1000000000000000000 := by omega
  refine ⟨fixedL ++ [.int p, .str (toString ((p : Nat) : Int)), .tuple [.int p], .list [.int p], .int (-(p : Int)), .int ((p : Int) * p), .int ((p : Int) + 1), .int G0, .int (-G0), .int (G0 * 7 + p)], s3, ?_, ?_, ?_, l3⟩
  · show FT (T ns) _ (d + 1 + 1) 12 _ (some st) = _
    rw [FT_at (fn := ⟨2, 4, m__law_odd⟩) rfl rfl]
    show fin (Pv.run (PH ns (d + 1)) fuel m__law_odd [some (tokD 0), some (.int p), none, none] (some st)) = _
    generalize PH ns (d + 1) = Φ at e1 e2 e3 ⊢
    have w1 : powOk 10 6 = true := by decide
    have w2 : powOk 10 12 = true := by decide
    have w3 : powOk 10 39 = true := by decide
    have x1 : mulOk r1 (10 ^ 12) = true := mulOk_l (by omega)
    have x2 : mulOk r2 (10 ^ 6) = true := mulOk_l (by omega)
    have x3 : mulOk (p : Int) (p : Int) = true := mulOk_l (by omega)
    have x4 : mulOk G0 7 = true := mulOk_r (by decide)
    have x5 : decide ((p : Int).natAbs.log2 < 1920) = true := decide_eq_true (log_int (small_lt (by omega)))
    unfold m__law_odd
    rw [run_seq_nx (g' := some st) (σ' := [some (tokD 0), some (.int p), some (.list fixedL), none]) (by
      refine (run_set (v := .list fixedL) (g' := some st) ?_).trans rfl
      simp only [ev, evs, bind_ok, lift_some, binV, w3, if_true, dispV, keyD, Option.isNone_some, Bool.false_eq_true, if_false, Option.map_some]
      rfl)]
    rw [run_seq_nx (g' := some s3) (σ' := [some (tokD 0), some (.int p), some (.list fixedL), some (.int G0)]) (by
      refine (run_set (v := .int G0) (g' := some s3) ?_).trans rfl
      have q1 : (10 : Int).toNat = 10 := rfl
      simp only [ev, evs, bind_ok, lift_some, binV, w1, w2, if_true, List.getElem?_cons_zero, show (6 : Int).toNat = 6 from rfl, show (12 : Int).toNat = 12 from rfl, e1, e2, e3, x1, x2]
      rw [m12, m6, hG])]
    refine (congrArg fin (run_ret (v := .list (fixedL ++ [.int p, .str (toString ((p : Nat) : Int)), .tuple [.int p], .list [.int p], .int (-(p : Int)), .int ((p : Int) * p), .int ((p : Int) + 1), .int G0, .int (-G0), .int (G0 * 7 + p)])) (g' := some s3) ?_)).trans rfl
    have x6 : biV .toStr [.int p] = some (.str (toString ((p : Nat) : Int))) := by
      show (if decide ((p : Int).natAbs.log2 < 1920) = true then some (PyData.str (toString ((p : Nat) : Int))) else none) = _
      rw [x5]; rfl
    simp only [ev, evs, bind_ok, lift_some, List.getElem?_cons_zero, List.getElem?_cons_succ, x6]
    simp only [binV, x3, x4, if_true, lift_some, bind_ok]
    rfl
  · have hs := List.all_eq_true.mp str_good p hp
    have hz : scal (.int p) = true := decide_eq_true (small_lt (by omega))
    rw [List.all_append, fixed_good, Bool.true_and]
    have t1 : goodB (.tuple [.int p]) = true := by
      unfold goodB
      rw [show_tuple (by rw [List.all_cons, hz]; rfl) (Nat.le_of_ble_eq_true rfl)]; rfl
    have t2 : goodB (.list [.int p]) = true := by
      unfold goodB
      rw [show_list (by rw [List.all_cons, hz]; rfl) (Nat.le_of_ble_eq_true rfl)]; rfl
    have pp : (p : Int) * (p : Int) < 1000000 := by
      have := Nat.mul_le_mul p2 p2
      omega
    have pp0 : 0 ≤ (p : Int) * (p : Int) := Int.mul_nonneg (by omega) (by omega)
    simp only [List.all_cons, List.all_nil, hs, t1, t2, int_good (small_lt (show (p : Int).natAbs < 10 ^ 30 by omega)), int_good (small_lt (show (-(p : Int)).natAbs < 10 ^ 30 by omega)), int_good (small_lt (show ((p : Int) * p).natAbs < 10 ^ 30 by omega)), int_good (small_lt (show ((p : Int) + 1).natAbs < 10 ^ 30 by omega)), int_good (small_lt (show G0.natAbs < 10 ^ 30 by omega)), int_good (small_lt (show (-G0).natAbs < 10 ^ 30 by omega)), int_good (small_lt (show (G0 * 7 + p).natAbs < 10 ^ 30 by omega)), Bool.and_self]
  · rw [List.length_append]
    exact Nat.le_of_ble_eq_true rfl
end Xk01
end

section
set_option autoImplicit false
namespace Xk01
open PySem Pv
variable {ns : List Int} {d : Nat} {g : G}
def bL : Sm :=
  (.seq (.par 5 6 (.bi .repr (.cons (.var 4) .nil)) (.call 11 (.cons (.var 3) (.cons (.var 4) .nil))))
      (.ite (.or (.cmp .ne (.bi .repr (.cons (.lst (.cons (.call 1 (.cons (.var 4) .nil)) (.cons (.callK 1 (.cons (.var 4) .nil) [0]) .nil))) .nil)) (.bi .repr (.cons (.lst (.cons (.var 6) (.cons (.var 6) .nil))) .nil))) (.cmp .ne (.bi .repr (.cons (.var 4) .nil)) (.var 5))) (.ret (.c (.bool false))) .skip))
theorem show_bb (b : Bool) : showOk (.list [.bool b, .bool b]) = true := show_list (by cases b <;> rfl) (Nat.le_of_ble_eq_true rfl)
theorem turn_law {Φ : Fns} {x v0 v1 v2 L : D} {o4 o5 o6 o7 : Option D} (hx : goodB x = true) (e1 : Φ 1 [x] g = .ok (.bool (pB x)) g) (e11 : Φ 11 [L, x] g = .ok (.bool (pB x)) g) :
    (lift (setT [4] x [some v0, some v1, some v2, some L, o4, o5, o6, o7]) g).bind (fun σ g => Pv.run Φ fuel bL σ g) = .ok (.nx [some v0, some v1, some v2, some L, some x, some (.str x.shown), some (.bool (pB x)), o7]) g := by
  have hs : showOk x = true := by
    unfold goodB at hx
    simp only [Bool.and_eq_true] at hx
    exact hx.1
  show Pv.run Φ fuel bL [some v0, some v1, some v2, some L, some x, o5, o6, o7] g = _
  unfold bL
  have p : Pv.run Φ fuel (.par 5 6 (.bi .repr (.cons (.var 4) .nil)) (.call 11 (.cons (.var 3) (.cons (.var 4) .nil)))) [some v0, some v1, some v2, some L, some x, o5, o6, o7] g = .ok (.nx [some v0, some v1, some v2, some L, some x, some (.str x.shown), some (.bool (pB x)), o7]) g := by
    simp only [Pv.run, ev, evs, bind_ok, List.getElem?_cons_zero, List.getElem?_cons_succ, bi_repr hs, lift_some, e11]
    rfl
  rw [run_seq_nx p]
  have t : ev Φ (.or (.cmp .ne (.bi .repr (.cons (.lst (.cons (.call 1 (.cons (.var 4) .nil)) (.cons (.callK 1 (.cons (.var 4) .nil) [0]) .nil))) .nil)) (.bi .repr (.cons (.lst (.cons (.var 6) (.cons (.var 6) .nil))) .nil))) (.cmp .ne (.bi .repr (.cons (.var 4) .nil)) (.var 5)))
      [some v0, some v1, some v2, some L, some x, some (.str x.shown), some (.bool (pB x)), o7] g = .ok (.bool false) g := by
    have e1k : Φ 1 (pm [0] [x]) g = .ok (.bool (pB x)) g := e1
    simp only [ev, evs, bind_ok, List.getElem?_cons_zero, List.getElem?_cons_succ, e1, e1k, bi_repr (show_bb _), bi_repr hs, lift_some, ne_same, Option.map_some]
  rw [run_ite t, if_neg Bool.false_ne_true]
  exact run_skip
def base : List D := (List.range 241).map fun k : Nat => .int (-9 + (k : Int))
theorem base_good : base.all goodB = true := by
  rw [List.all_eq_true]
  intro x hx
  obtain ⟨k, hk, rfl⟩ := List.mem_map.mp hx
  have := List.mem_range.mp hk
  exact int_good (small_lt (by omega))
theorem c14A {Φ : Fns} {st0 : Dk} (hc : st0.cells.length ≤ 63) (e7 : Φ 7 [tokD 1] none = .ok (tokD 0) (some st0)) (e9a : ∀ g, Φ 9 [.int (59 : Int)] g = .ok (numsD small) g) (e9b : ∀ g, Φ 9 [.int (199 : Int)] g = .ok (numsD primesL) g)
    (e10 : ∀ (st : Dk) (l : List Nat), l ≠ [] → l.length < 1000 → st.cells.length ≤ 63 → ∃ p st', Φ 10 [tokD 0, numsD l] (some st) = .ok (.int (p : Nat)) (some st') ∧ p ∈ l ∧ st'.cells.length ≤ 63)
    (e12 : ∀ (st : Dk) (p : Nat), p ∈ primesL → st.cells.length ≤ 63 → ∃ xs st', Φ 12 [tokD 0, .int p] (some st) = .ok (.list xs) (some st') ∧ xs.all goodB = true ∧ xs.length ≤ 100 ∧ st'.cells.length ≤ 63)
    (e8 : ∀ (st : Dk), st.cells.length ≤ 63 → ∃ (r : Int) (st' : Dk), Φ 8 [tokD 0, .int 5] (some st) = .ok (.int r) (some st') ∧ st'.cells.length ≤ 63)
    (e1 : ∀ x g, isDk x = false → Φ 1 [x] g = .ok (.bool (pB x)) g) (e11 : ∀ x g, isDk x = false → Φ 11 [numsD primesL, x] g = .ok (.bool (pB x)) g) (e13 : ∀ (p : Nat) g, p ∈ primesL → Φ 13 [.int p] g = .ok (.bool true) g) :
    ∃ g', fin (Pv.run Φ fuel m_law [some (tokD 1), none, none, none, none, none, none, none] none) = .ok (.bool true) g' := by
  obtain ⟨p1, st1, a1, a2, a3⟩ := e10 st0 primesL (by decide) (by decide) hc
  obtain ⟨xs, st2, b1, b2, b2', b3⟩ := e12 st1 p1 a2 a3
  obtain ⟨r, st3, d1, d2⟩ := e8 st2 b3
  obtain ⟨p2, st4, f1, f2, f3⟩ : ∃ p2 st4, Φ 10 [tokD 0, if 0 < r then numsD small else numsD primesL] (some st3) = .ok (.int (p2 : Nat)) (some st4) ∧ p2 ∈ primesL ∧ st4.cells.length ≤ 63 := by
    by_cases h : 0 < r
    · obtain ⟨p2, st4, q1, q2, q3⟩ := e10 st3 small (by decide) (by decide) d2
      rw [if_pos h]
      exact ⟨p2, st4, q1, List.mem_append_left _ q2, q3⟩
    · obtain ⟨p2, st4, q1, q2, q3⟩ := e10 st3 primesL (by decide) (by decide) d2
      rw [if_neg h]
      exact ⟨p2, st4, q1, q2, q3⟩
  obtain ⟨p3, st5, k1, k2, k3⟩ := e10 st4 primesL (by decide) (by decide) f3
  have goods : ∀ x ∈ base ++ xs, goodB x = true := List.all_eq_true.mp (by rw [List.all_append, base_good, b2]; rfl)
  have nd : ∀ x, goodB x = true → isDk x = false := fun x h => by
    unfold goodB at h
    simp only [Bool.and_eq_true, Bool.not_eq_true'] at h
    exact h.2
  refine ⟨some st5, ?_⟩
  unfold m_law
  rw [run_seq_nx (g' := some st0) (σ' := [some (tokD 1), some (tokD 0), none, none, none, none, none, none]) (by simp only [Pv.run, ev, evs, bind_ok, List.getElem?_cons_zero, e7]; rfl)]
  rw [run_seq_nx (g' := some st0) (σ' := [some (tokD 1), some (tokD 0), some (numsD small), some (numsD primesL), none, none, none, none]) (by simp only [Pv.run, ev, evs, bind_ok, e9a, e9b]; rfl)]
  obtain ⟨σ', g', h1, o4, o5, o6, h2, h3⟩ := forL_inv (f := fun x σ g => (lift (setT [4] x σ) g).bind fun σ g => Pv.run Φ fuel bL σ g) (I := fun σ g' => ∃ o4 o5 o6, σ = [some (tokD 1), some (tokD 0), some (numsD small), some (numsD primesL), o4, o5, o6, none] ∧ g' = some st2) (xs := base ++ xs) (by
    rintro x hx σ g1 ⟨o4, o5, o6, rfl, eg⟩
    rw [eg]
    have hg := goods x hx
    exact ⟨_, _, turn_law hg (e1 x _ (nd x hg)) (e11 x _ (nd x hg)), _, _, _, rfl, rfl⟩) [some (tokD 1), some (tokD 0), some (numsD small), some (numsD primesL), none, none, none, none] (some st2) ⟨none, none, none, rfl, rfl⟩
  subst h2; subst h3
  have lr : biV .listRange2 [.int (-9), .int 232] = some (.list base) := rfl
  have ad : binV .add (.list base) (.list xs) = some (.list (base ++ xs)) := by
    have hb : base.length = 241 := by unfold base; rw [List.length_map, List.length_range]
    show (if decide (base.length + xs.length ≤ lineN) = true then some (PyData.list (base ++ xs)) else none) = _
    rw [if_pos (decide_eq_true (by rw [hb]; unfold lineN; omega))]
  have sr : evs Φ (.cons (.bin .add (.bi .listRange2 (.cons (.neg (.c (.int 9))) (.cons (.c (.int 232)) .nil))) (.call 12 (.cons (.var 1) (.cons (.call 10 (.cons (.var 1) (.cons (.var 3) .nil))) .nil)))) .nil)
      [some (tokD 1), some (tokD 0), some (numsD small), some (numsD primesL), none, none, none, none] (some st0) = .ok [.list (base ++ xs)] (some st2) := by
    simp only [ev, evs, bind_ok, List.getElem?_cons_zero, List.getElem?_cons_succ, lr, a1, b1, ad, lift_some]
  have h4 := (run_for (Φ := Φ) (fu := fuel) (ts := [4]) (k := .seq) (b := bL) sr (xs := base ++ xs) rfl).trans h1
  unfold bL at h4
  rw [run_seq_nx h4]
  have t1 : ev Φ (.cmp .gt (.call 8 (.cons (.var 1) (.cons (.c (.int 5)) .nil))) (.c (.int 0))) [some (tokD 1), some (tokD 0), some (numsD small), some (numsD primesL), o4, o5, o6, none] (some st2) = .ok (.bool (decide (0 < r))) (some st3) := by
    simp only [ev, evs, bind_ok, List.getElem?_cons_zero, List.getElem?_cons_succ, d1, cmpV, Option.map_some, lift_some]
  have s7 : ev Φ (.ite (.cmp .gt (.call 8 (.cons (.var 1) (.cons (.c (.int 5)) .nil))) (.c (.int 0))) (.call 10 (.cons (.var 1) (.cons (.var 2) .nil))) (.call 10 (.cons (.var 1) (.cons (.var 3) .nil)))) [some (tokD 1), some (tokD 0), some (numsD small), some (numsD primesL), o4, o5, o6, none] (some st2) = .ok (.int (p2 : Nat)) (some st4) := by
    conv => lhs; unfold ev
    rw [t1, bind_ok]
    by_cases h : 0 < r
    · rw [if_pos h] at f1
      rw [decide_eq_true h]
      simp only [ev, evs, bind_ok, List.getElem?_cons_zero, List.getElem?_cons_succ, f1]
    · rw [if_neg h] at f1
      rw [decide_eq_false h]
      simp only [ev, evs, bind_ok, List.getElem?_cons_zero, List.getElem?_cons_succ, f1]
  rw [run_seq_nx ((run_set s7).trans rfl)]
  have e13a := e13 p2 (some st4) f2
  have e13b := e13 p3 (some st5) k2
  have fe : ev Φ (.and (.call 13 (.cons (.var 7) .nil)) (.call 13 (.cons (.call 10 (.cons (.var 1) (.cons (.var 3) .nil))) .nil))) ([some (tokD 1), some (tokD 0), some (numsD small), some (numsD primesL), o4, o5, o6, some (.int (p2 : Nat))]) (some st4) = .ok (.bool true) (some st5) := by
    simp only [ev, evs, bind_ok, List.getElem?_cons_zero, List.getElem?_cons_succ, e13a, k1, e13b]
  exact (congrArg fin (run_ret fe)).trans rfl
theorem law_val (ns : List Int) (h : ns.length ≤ 63) : ∃ g', FT (T ns) (fun _ => none) (4 + 1) 14 [tokD 1] none = .ok (.bool true) g' := by
  obtain ⟨st0, e7, hc⟩ := c7 (ns := ns) (d := 3)
  rw [FT_at (fn := ⟨1, 8, m_law⟩) rfl rfl]
  refine c14A (Φ := PH ns 4) (st0 := st0) hc e7 (fun g => ?_) (fun g => ?_) (fun st l a b c => c10 (d := 2) a b c) (fun st p a b => c12 (d := 2) a b) (fun st a => ?_) (fun x g a => c1' (d := 2) a) (fun x g a => c11 (d := 3) a) (fun p g a => c13 (d := 0) a)
  · have z := c9 (ns := ns) (d := 3) (g := g) (m := 59) (by decide) (by decide)
    rw [pr59] at z
    exact z
  · have z := c9 (ns := ns) (d := 3) (g := g) (m := 199) (by decide) (by decide)
    rw [pr199] at z
    exact z
  · obtain ⟨r, st', q1, _, _, q2⟩ := c8 (ns := ns) (d := 3) (st := st) (many := 5) (by decide) (by decide) a
    exact ⟨r, st', q1, q2⟩
end Xk01
end

section
/-! the walk of k01: printed by gen.py -/
set_option autoImplicit false
namespace Xk01
open PySem PySem.Spec PyProof.Rows L2 Pv

def topS (i : Nat) : Stmt := PySem.Challenge.pw_craterhouse_k01_primes_and_numbers.main.body.getD i (.Pass ⟨0, 0, 0, 0⟩)

abbrev n_1 : Str := "left"
abbrev n_2 : Str := "mixed"
abbrev n_3 : Option Str := some ("draws" : Str)

theorem dkn_of {C : Ct} {a : Addr} {ns : List Int} (D : Dc C n_1 n_2 n_3 a ns) : DkN C := ⟨by rw [D.n1, D.n2]; decide, fun n h => by
  rw [D.n3] at h
  rw [D.n1, D.n2]
  cases h
  decide⟩

theorem hn3_of {C : Ct} {a : Addr} {ns : List Int} (D : Dc C n_1 n_2 n_3 a ns) : (if true then C.n3 else some C.n2) = some ("draws" : Str) := by rw [D.n3]; rfl

theorem hn2_of {C : Ct} {a : Addr} {ns : List Int} (D : Dc C n_1 n_2 n_3 a ns) : (if false then C.n3 else some C.n2) = some ("mixed" : Str) := by rw [D.n2]; rfl

abbrev s_is_integer : Stmt := topS 3
abbrev p_is_integer : List Str := ["thing"]
theorem sc_is_integer : FnScope ["thing"] p_is_integer (defScope s_is_integer) := ⟨rfl, rfl, rfl, by decide +kernel, rfl, by decide +kernel, by decide +kernel⟩

abbrev s_is_prime : Stmt := topS 4
abbrev p_is_prime : List Str := ["thing"]
theorem sc_is_prime : FnScope ["thing", "divisor"] p_is_prime (defScope s_is_prime) := ⟨rfl, rfl, rfl, by decide +kernel, rfl, by decide +kernel, by decide +kernel⟩

abbrev s_number_power : Stmt := topS 5
abbrev p_number_power : List Str := ["prime", "number", "exponent"]
theorem sc_number_power : FnScope ["prime", "number", "exponent", "result", "base", "left"] p_number_power (defScope s_number_power) := ⟨rfl, rfl, rfl, by decide +kernel, rfl, by decide +kernel, by decide +kernel⟩

abbrev s_inverse : Stmt := topS 6
abbrev p_inverse : List Str := ["prime", "number"]
theorem sc_inverse : FnScope ["prime", "number"] p_inverse (defScope s_inverse) := ⟨rfl, rfl, rfl, by decide +kernel, rfl, by decide +kernel, by decide +kernel⟩

abbrev s_is_square : Stmt := topS 7
abbrev p_is_square : List Str := ["prime", "number"]
theorem sc_is_square : FnScope ["prime", "number"] p_is_square (defScope s_is_square) := ⟨rfl, rfl, rfl, by decide +kernel, rfl, by decide +kernel, by decide +kernel⟩

abbrev s_root_of : Stmt := topS 8
abbrev p_root_of : List Str := ["prime", "number"]
theorem sc_root_of : FnScope ["prime", "number", "root"] p_root_of (defScope s_root_of) := ⟨rfl, rfl, rfl, by decide +kernel, rfl, by decide +kernel, by decide +kernel⟩

abbrev s_spare : Stmt := topS 9
abbrev p_spare : List Str := ["prime"]
theorem sc_spare : FnScope ["prime", "number"] p_spare (defScope s_spare) := ⟨rfl, rfl, rfl, by decide +kernel, rfl, by decide +kernel, by decide +kernel⟩

abbrev s__law_deck : Stmt := topS 11
abbrev p__law_deck : List Str := ["_law_script"]
theorem sc__law_deck : FnScope ["_law_script", "_law_mixed", "_law_cell"] p__law_deck (defScope s__law_deck) := ⟨rfl, rfl, rfl, by decide +kernel, rfl, by decide +kernel, by decide +kernel⟩

abbrev s__law_draw : Stmt := topS 12
abbrev p__law_draw : List Str := ["_law_deck_here", "_law_many"]
theorem sc__law_draw : FnScope ["_law_deck_here", "_law_many", "_law_figure", "_law_cell"] p__law_draw (defScope s__law_draw) := ⟨rfl, rfl, rfl, by decide +kernel, rfl, by decide +kernel, by decide +kernel⟩

abbrev s__law_primes : Stmt := topS 13
abbrev p__law_primes : List Str := ["_law_most"]
theorem sc__law_primes : FnScope ["_law_most", "_law_n", "_law_d"] p__law_primes (defScope s__law_primes) := ⟨rfl, rfl, rfl, by decide +kernel, rfl, by decide +kernel, by decide +kernel⟩

abbrev s__law_pick : Stmt := topS 14
abbrev p__law_pick : List Str := ["_law_deck_here", "_law_some"]
theorem sc__law_pick : FnScope ["_law_deck_here", "_law_some"] p__law_pick (defScope s__law_pick) := ⟨rfl, rfl, rfl, by decide +kernel, rfl, by decide +kernel, by decide +kernel⟩

abbrev s__law_is_prime : Stmt := topS 15
abbrev p__law_is_prime : List Str := ["_law_all_primes", "_law_it"]
theorem sc__law_is_prime : FnScope ["_law_all_primes", "_law_it"] p__law_is_prime (defScope s__law_is_prime) := ⟨rfl, rfl, rfl, by decide +kernel, rfl, by decide +kernel, by decide +kernel⟩

abbrev s__law_odd : Stmt := topS 16
abbrev p__law_odd : List Str := ["_law_deck_here", "_law_prime"]
theorem sc__law_odd : FnScope ["_law_deck_here", "_law_prime", "_law_some", "_law_great"] p__law_odd (defScope s__law_odd) := ⟨rfl, rfl, rfl, by decide +kernel, rfl, by decide +kernel, by decide +kernel⟩

abbrev s__law_field_right : Stmt := topS 17
abbrev p__law_field_right : List Str := ["_law_prime"]
theorem sc__law_field_right : FnScope ["_law_prime", "_law_least", "_law_y", "_law_n", "_law_told", "_law_due", "_law_found", "_law_others"] p__law_field_right (defScope s__law_field_right) := ⟨rfl, rfl, rfl, by decide +kernel, rfl, by decide +kernel, by decide +kernel⟩

abbrev s_law : Stmt := topS 18
abbrev p_law : List Str := ["_law_script"]
theorem sc_law : FnScope ["_law_script", "_law_deck_here", "_law_small", "_law_all_primes", "_law_it", "_law_was", "_law_due", "_law_first"] p_law (defScope s_law) := ⟨rfl, rfl, rfl, by decide +kernel, rfl, by decide +kernel, by decide +kernel⟩

/-- what the top has written -/
structure Fa (K : PySem.W.Frag) (mg : Str → Option Value) where

  f_is_integer : Addr
  d_is_integer : FuncData
  F_is_integer : Fun K "is_integer" "is_integer" s_is_integer f_is_integer d_is_integer
  g_is_integer : mg "is_integer" = some (.ref f_is_integer)
  b_is_integer : Binds K d_is_integer p_is_integer []

  f_is_prime : Addr
  d_is_prime : FuncData
  F_is_prime : Fun K "is_prime" "is_prime" s_is_prime f_is_prime d_is_prime
  g_is_prime : mg "is_prime" = some (.ref f_is_prime)
  b_is_prime : Binds K d_is_prime p_is_prime []

  f_number_power : Addr
  d_number_power : FuncData
  F_number_power : Fun K "number_power" "number_power" s_number_power f_number_power d_number_power
  g_number_power : mg "number_power" = some (.ref f_number_power)
  b_number_power : Binds K d_number_power p_number_power []

  f_inverse : Addr
  d_inverse : FuncData
  F_inverse : Fun K "inverse" "inverse" s_inverse f_inverse d_inverse
  g_inverse : mg "inverse" = some (.ref f_inverse)
  b_inverse : Binds K d_inverse p_inverse []

  f_is_square : Addr
  d_is_square : FuncData
  F_is_square : Fun K "is_square" "is_square" s_is_square f_is_square d_is_square
  g_is_square : mg "is_square" = some (.ref f_is_square)
  b_is_square : Binds K d_is_square p_is_square []

  f_root_of : Addr
  d_root_of : FuncData
  F_root_of : Fun K "root_of" "root_of" s_root_of f_root_of d_root_of
  g_root_of : mg "root_of" = some (.ref f_root_of)
  b_root_of : Binds K d_root_of p_root_of []

  f_spare : Addr
  d_spare : FuncData
  F_spare : Fun K "spare" "spare" s_spare f_spare d_spare
  g_spare : mg "spare" = some (.ref f_spare)
  b_spare : Binds K d_spare p_spare []

  f__law_deck : Addr
  d__law_deck : FuncData
  F__law_deck : Fun K "_law_deck" "_law_deck" s__law_deck f__law_deck d__law_deck
  g__law_deck : mg "_law_deck" = some (.ref f__law_deck)
  b__law_deck : Binds K d__law_deck p__law_deck []

  f__law_draw : Addr
  d__law_draw : FuncData
  F__law_draw : Fun K "_law_draw" "_law_draw" s__law_draw f__law_draw d__law_draw
  g__law_draw : mg "_law_draw" = some (.ref f__law_draw)
  b__law_draw : Binds K d__law_draw p__law_draw []

  f__law_primes : Addr
  d__law_primes : FuncData
  F__law_primes : Fun K "_law_primes" "_law_primes" s__law_primes f__law_primes d__law_primes
  g__law_primes : mg "_law_primes" = some (.ref f__law_primes)
  b__law_primes : Binds K d__law_primes p__law_primes []

  f__law_pick : Addr
  d__law_pick : FuncData
  F__law_pick : Fun K "_law_pick" "_law_pick" s__law_pick f__law_pick d__law_pick
  g__law_pick : mg "_law_pick" = some (.ref f__law_pick)
  b__law_pick : Binds K d__law_pick p__law_pick []

  f__law_is_prime : Addr
  d__law_is_prime : FuncData
  F__law_is_prime : Fun K "_law_is_prime" "_law_is_prime" s__law_is_prime f__law_is_prime d__law_is_prime
  g__law_is_prime : mg "_law_is_prime" = some (.ref f__law_is_prime)
  b__law_is_prime : Binds K d__law_is_prime p__law_is_prime []

  f__law_odd : Addr
  d__law_odd : FuncData
  F__law_odd : Fun K "_law_odd" "_law_odd" s__law_odd f__law_odd d__law_odd
  g__law_odd : mg "_law_odd" = some (.ref f__law_odd)
  b__law_odd : Binds K d__law_odd p__law_odd []

  f__law_field_right : Addr
  d__law_field_right : FuncData
  F__law_field_right : Fun K "_law_field_right" "_law_field_right" s__law_field_right f__law_field_right d__law_field_right
  g__law_field_right : mg "_law_field_right" = some (.ref f__law_field_right)
  b__law_field_right : Binds K d__law_field_right p__law_field_right []

  f_law : Addr
  d_law : FuncData
  F_law : Fun K "law" "law" s_law f_law d_law
  g_law : mg "law" = some (.ref f_law)
  b_law : Binds K d_law p_law []

  kb_root_of_0 : KB K d_root_of p_root_of ["number", "prime"] 0 [1, 0]

  kb_is_square_0 : KB K d_is_square p_is_square ["number", "prime"] 0 [1, 0]

  kb_inverse_0 : KB K d_inverse p_inverse ["number", "prime"] 0 [1, 0]

  kb_spare_0 : KB K d_spare p_spare ["prime"] 0 [0]

  kb_is_prime_0 : KB K d_is_prime p_is_prime ["thing"] 0 [0]

  v_GREATEST_PRIME : Nat
  g_GREATEST_PRIME : mg "GREATEST_PRIME" = some (.int 199 v_GREATEST_PRIME)

  v_LEAST_PRIME : Nat
  g_LEAST_PRIME : mg "LEAST_PRIME" = some (.int 7 v_LEAST_PRIME)

  z_bool : mg "bool" = none

  z_int : mg "int" = none

  z_isinstance : mg "isinstance" = none

  z_len : mg "len" = none

  z_list : mg "list" = none

  z_range : mg "range" = none

  z_repr : mg "repr" = none

  z_str : mg "str" = none










def sn__law_primes_0 : Scope := { kind := .function, names := [(".0", .local), ("_law_n", .cell), ("range", .globalImplicit)], isGenerator := false, isCoroutine := false, more := [] }
def sn__law_primes_0r : Scope := { kind := .function, names := [(".0", .local), ("_law_n", .cell), ("range", .globalImplicit)], isGenerator := false, isCoroutine := false, more := [] }
theorem bk__law_primes_0 : BlkOk ["_law_most", "_law_n", "_law_d"] (defScope s__law_primes) sn__law_primes_0 [("_law_n", 1)] := ⟨rfl, by decide +kernel, by decide +kernel, by decide +kernel, by decide +kernel⟩
def sn__law_primes_1 : Scope := { kind := .function, names := [(".0", .local), ("_law_d", .local), ("int", .globalImplicit), ("_law_n", .free)], isGenerator := false, isCoroutine := false, more := [] }
def sn__law_primes_1r : Scope := { kind := .function, names := [(".0", .local), ("_law_d", .local), ("int", .globalImplicit), ("_law_n", .cell)], isGenerator := false, isCoroutine := false, more := [] }
theorem bk__law_primes_1 : BlkOk ["_law_most", "_law_n", "_law_d"] sn__law_primes_0r sn__law_primes_1 [("_law_d", 2)] := ⟨rfl, by decide +kernel, by decide +kernel, by decide +kernel, by decide +kernel⟩




def sn__law_field_right_0 : Scope := { kind := .function, names := [(".0", .local), ("_law_n", .local), ("_law_least", .free)], isGenerator := false, isCoroutine := false, more := [] }
def sn__law_field_right_0r : Scope := { kind := .function, names := [(".0", .local), ("_law_n", .local), ("_law_least", .cell)], isGenerator := false, isCoroutine := false, more := [] }
theorem bk__law_field_right_0 : BlkOk ["_law_prime", "_law_least", "_law_y", "_law_n", "_law_told", "_law_due", "_law_found", "_law_others"] (defScope s__law_field_right) sn__law_field_right_0 [("_law_n", 3)] := ⟨rfl, by decide +kernel, by decide +kernel, by decide +kernel, by decide +kernel⟩


theorem ok_is_integer {P : Program} {w : World} {mg : Str → Option Value} {base : Heap} (C : Ct) (A : Fa C.K mg) (a : Addr) (ns : List Int) (D : Dc C n_1 n_2 n_3 a ns) (j : Nat) : FnG P w C.K mg base CX0 (j + 0 + 1) A.f_is_integer A.d_is_integer p_is_integer (spS C (FT (T ns) (fun _ => none) (j + 0 + 1) 0) 1) := by
  refine defOk A.F_is_integer sc_is_integer rfl 0 (m_is_integer) (T ns) (fun _ => none) (j + 0) rfl rfl (by decide) (fun cdv A0 outer s H F0 hG hr => ?_)
  have D' : Dc (C.at H F0 (FT (T ns) (fun _ => none) (j + 0))) n_1 n_2 n_3 a ns := ⟨D.n1, D.n2, D.n3, D.sc⟩
  have hu := Pv.Room.u70 hr
  have hu65 := Pv.Room.u65 hr
  have hu1 := Pv.Room.u1 hr
  have hdk := dkn_of D'
  have hn3 := hn3_of D'
  have hn2 := hn2_of D'
  exact ⟨[],
    (Sb.one (Ss.ret (Es.and (Es.b (Es.isi .isInt rfl rfl rfl A.z_isinstance rfl rfl A.z_int rfl (by decide) rfl (Eb.var 0 rfl (.inl rfl) rfl rfl) rfl rfl rfl)) (Es.one (Es.not rfl (Es.b (Es.isi .isBool rfl rfl rfl A.z_isinstance rfl rfl A.z_bool rfl (by decide) rfl (Eb.var 0 rfl (.inl rfl) rfl rfl) rfl rfl rfl)))))))⟩

theorem ok_number_power {P : Program} {w : World} {mg : Str → Option Value} {base : Heap} (C : Ct) (A : Fa C.K mg) (a : Addr) (ns : List Int) (D : Dc C n_1 n_2 n_3 a ns) (j : Nat) : FnG P w C.K mg base CX0 (j + 0 + 1) A.f_number_power A.d_number_power p_number_power (spS C (FT (T ns) (fun _ => none) (j + 0 + 1) 2) 3) := by
  refine defOk A.F_number_power sc_number_power rfl 2 (m_number_power) (T ns) (fun _ => none) (j + 0) rfl rfl (by decide) (fun cdv A0 outer s H F0 hG hr => ?_)
  have D' : Dc (C.at H F0 (FT (T ns) (fun _ => none) (j + 0))) n_1 n_2 n_3 a ns := ⟨D.n1, D.n2, D.n3, D.sc⟩
  have hu := Pv.Room.u70 hr
  have hu65 := Pv.Room.u65 hr
  have hu1 := Pv.Room.u1 hr
  have hdk := dkn_of D'
  have hn3 := hn3_of D'
  have hn2 := hn2_of D'
  exact ⟨[],
    (Sb.cons (Ss.set Es.int (Eg.name 3 (by decide) sc_number_power.nd rfl (.inl rfl) (.inr rfl)) rfl rfl rfl)
    (Sb.cons (Ss.set (Es.bin .mod rfl (Eb.var 1 rfl (.inl rfl) rfl rfl) (Eb.var 0 rfl (.inl rfl) rfl rfl)) (Eg.name 4 (by decide) sc_number_power.nd rfl (.inl rfl) (.inr rfl)) rfl rfl rfl)
    (Sb.cons (Ss.set (Es.var 2 (by decide) rfl (.inl rfl) rfl rfl) (Eg.name 5 (by decide) sc_number_power.nd rfl (.inl rfl) (.inr rfl)) rfl rfl rfl)
    (Sb.cons (Ss.while_ PassesOwn.never (Et.cmp .gt rfl hu65 (Eb.var 5 rfl (.inl rfl) rfl rfl) (Es.b Es.int) rfl) (Sb.cons (Ss.ite (Et.truth rfl (Es.b (Es.bin .band rfl (Eb.var 5 rfl (.inl rfl) rfl rfl) (Es.b Es.int))) (fun _ => rfl)) (Sb.one (Ss.set (Es.bin .mod rfl (Es.b (Es.bin .mul rfl (Eb.var 3 rfl (.inl rfl) rfl rfl) (Eb.var 4 rfl (.inl rfl) rfl rfl))) (Eb.var 0 rfl (.inl rfl) rfl rfl)) (Eg.name 3 (by decide) sc_number_power.nd rfl (.inl rfl) (.inr rfl)) rfl rfl rfl)) Sb.nil)
      (Sb.cons (Ss.set (Es.bin .mod rfl (Es.b (Es.bin .mul rfl (Eb.var 4 rfl (.inl rfl) rfl rfl) (Eb.var 4 rfl (.inl rfl) rfl rfl))) (Eb.var 0 rfl (.inl rfl) rfl rfl)) (Eg.name 4 (by decide) sc_number_power.nd rfl (.inl rfl) (.inr rfl)) rfl rfl rfl)
      (Sb.one (Ss.set (Es.bin .shr rfl (Eb.var 5 rfl (.inl rfl) rfl rfl) (Es.b Es.int)) (Eg.name 5 (by decide) sc_number_power.nd rfl (.inl rfl) (.inr rfl)) rfl rfl rfl)))))
    (Sb.one (Ss.ret (Es.var 3 (by decide) rfl (.inl rfl) rfl rfl)))))))⟩

theorem ok_root_of {P : Program} {w : World} {mg : Str → Option Value} {base : Heap} (C : Ct) (A : Fa C.K mg) (a : Addr) (ns : List Int) (D : Dc C n_1 n_2 n_3 a ns) (j : Nat) : FnG P w C.K mg base CX0 (j + 0 + 1) A.f_root_of A.d_root_of p_root_of (spS C (FT (T ns) (fun _ => none) (j + 0 + 1) 5) 2) := by
  refine defOk A.F_root_of sc_root_of rfl 5 (m_root_of) (T ns) (fun _ => none) (j + 0) rfl rfl (by decide) (fun cdv A0 outer s H F0 hG hr => ?_)
  have D' : Dc (C.at H F0 (FT (T ns) (fun _ => none) (j + 0))) n_1 n_2 n_3 a ns := ⟨D.n1, D.n2, D.n3, D.sc⟩
  have hu := Pv.Room.u70 hr
  have hu65 := Pv.Room.u65 hr
  have hu1 := Pv.Room.u1 hr
  have hdk := dkn_of D'
  have hn3 := hn3_of D'
  have hn2 := hn2_of D'
  exact ⟨[],
    (Sb.cons (Ss.for_ PassesOwn.never rfl (Ei.rng1 rfl A.z_range (Ea.cons (Es.bin .fdiv rfl (Es.b (Es.bin .add rfl (Eb.var 0 rfl (.inl rfl) rfl rfl) (Es.b Es.int))) (Es.b Es.int)) Ea.nil rfl) rfl) (Eg.name 2 (by decide) sc_root_of.nd rfl (.inl rfl) (.inr rfl)) (Sb.one (Ss.ite (Et.cmp .eq rfl hu65 (Es.b (Es.bin .mod rfl (Es.b (Es.bin .mul rfl (Eb.var 2 rfl (.inl rfl) rfl rfl) (Eb.var 2 rfl (.inl rfl) rfl rfl))) (Eb.var 0 rfl (.inl rfl) rfl rfl))) (Eb.var 1 rfl (.inl rfl) rfl rfl) rfl) (Sb.one (Ss.ret (Es.var 2 (by decide) rfl (.inl rfl) rfl rfl))) Sb.nil)) (fun _ => rfl))
    (Sb.one (Ss.ret Es.non)))⟩

theorem ok__law_deck {P : Program} {w : World} {mg : Str → Option Value} {base : Heap} (C : Ct) (A : Fa C.K mg) (a : Addr) (ns : List Int) (D : Dc C n_1 n_2 n_3 a ns) (j : Nat) : FnG P w C.K mg base CX0 (j + 0 + 1) A.f__law_deck A.d__law_deck p__law_deck (spS C (FT (T ns) (fun _ => none) (j + 0 + 1) 7) 1) := by
  refine defOk A.F__law_deck sc__law_deck rfl 7 (m__law_deck ns) (T ns) (fun _ => none) (j + 0) rfl rfl (by decide) (fun cdv A0 outer s H F0 hG hr => ?_)
  have D' : Dc (C.at H F0 (FT (T ns) (fun _ => none) (j + 0))) n_1 n_2 n_3 a ns := ⟨D.n1, D.n2, D.n3, D.sc⟩
  have hu := Pv.Room.u70 hr
  have hu65 := Pv.Room.u65 hr
  have hu1 := Pv.Room.u1 hr
  have hdk := dkn_of D'
  have hn3 := hn3_of D'
  have hn2 := hn2_of D'
  exact ⟨[],
    (Sb.cons (Ss.set Es.int (Eg.name 1 (by decide) sc__law_deck.nd rfl (.inl rfl) (.inr rfl)) rfl rfl rfl)
    (Sb.cons (Ss.for_ PassesOwn.never rfl (Ei.seq rfl (Es.scr 63 rfl D'.sc (Es.var 0 (by decide) rfl (.inl rfl) rfl rfl))) (Eg.name 2 (by decide) sc__law_deck.nd rfl (.inl rfl) (.inr rfl)) (Sb.one (Ss.set (Es.bin .mod rfl (Es.b (Es.biT .toInt rfl cb_toInt rfl A.z_int rfl (Eas.one (Es.b (Es.bin .add rfl (Es.b (Es.bin .add rfl (Es.b (Es.bin .mul rfl (Eb.var 1 rfl (.inl rfl) rfl rfl) (Es.b Es.int))) (Es.b (Es.bin .mod rfl (Es.b (Es.biT .toInt rfl cb_toInt rfl A.z_int rfl (Eas.one (Eb.var 2 rfl (.inl rfl) rfl rfl) rfl) (by decide) rfl rfl rfl)) (Es.b Es.int))))) (Es.b Es.int))) rfl) (by decide) rfl rfl rfl)) (Es.b Es.int)) (Eg.name 1 (by decide) sc__law_deck.nd rfl (.inl rfl) (.inr rfl)) rfl rfl rfl)) (fun _ => rfl))
    (Sb.one (Ss.ret (Es.dkNew hdk D'.n1 D'.n2 D'.n3 (Ef.lrev rfl (Es.b (Es.biT .toList rfl cb_toList rfl A.z_list rfl (Eas.one (Es.b (Es.scr 63 rfl D'.sc (Es.var 0 (by decide) rfl (.inl rfl) rfl rfl))) rfl) (by decide) rfl rfl rfl))) (Es.var 1 (by decide) rfl (.inl rfl) rfl rfl) Es.int)))))⟩

theorem ok__law_draw {P : Program} {w : World} {mg : Str → Option Value} {base : Heap} (C : Ct) (A : Fa C.K mg) (a : Addr) (ns : List Int) (D : Dc C n_1 n_2 n_3 a ns) (j : Nat) : FnG P w C.K mg base CX0 (j + 0 + 1) A.f__law_draw A.d__law_draw p__law_draw (spS C (FT (T ns) (fun _ => none) (j + 0 + 1) 8) 2) := by
  refine defOk A.F__law_draw sc__law_draw rfl 8 (m__law_draw) (T ns) (fun _ => none) (j + 0) rfl rfl (by decide) (fun cdv A0 outer s H F0 hG hr => ?_)
  have D' : Dc (C.at H F0 (FT (T ns) (fun _ => none) (j + 0))) n_1 n_2 n_3 a ns := ⟨D.n1, D.n2, D.n3, D.sc⟩
  have hu := Pv.Room.u70 hr
  have hu65 := Pv.Room.u65 hr
  have hu1 := Pv.Room.u1 hr
  have hdk := dkn_of D'
  have hn3 := hn3_of D'
  have hn2 := hn2_of D'
  exact ⟨[],
    (Sb.cons (Ss.dkSet true hu1 hdk hn3 (Eb.var 0 rfl (.inl rfl) rfl rfl) (Es.bin .add rfl (Es.b (Es.dkGet true hu1 hdk hn3 (Eb.var 0 rfl (.inl rfl) rfl rfl) (by intro _ _; rfl))) (Es.b Es.int)) rfl)
    (Sb.cons (Ss.set (Es.bin .add rfl (Es.b (Es.dkGet false hu1 hdk hn2 (Eb.var 0 rfl (.inl rfl) rfl rfl) (by intro _ _; rfl))) (Es.b (Es.bin .mul rfl (Es.b Es.int) (Es.b (Es.dkGet true hu1 hdk hn3 (Eb.var 0 rfl (.inl rfl) rfl rfl) (by intro _ _; rfl)))))) (Eg.name 2 (by decide) sc__law_draw.nd rfl (.inl rfl) (.inr rfl)) rfl rfl rfl)
    (Sb.cons (Ss.ite (Et.dkHas hu65 D'.n1 (Eb.var 0 rfl (.inl rfl) rfl rfl) (by intro _ _; rfl)) (Sb.cons (Ss.set (Es.dkPop hu1 hdk D'.n1 (Eb.var 0 rfl (.inl rfl) rfl rfl) (by intro _ _; rfl) rfl rfl) (Eg.name 3 (by decide) sc__law_draw.nd rfl (.inl rfl) (.inr rfl)) rfl rfl rfl)
      (Sb.cons (Ss.ite (Et.cmp .ge rfl hu65 (Eb.var 3 rfl (.inl rfl) rfl rfl) (Es.b (Es.bin .pow rfl (Es.b Es.int) (Es.b Es.int))) rfl) (Sb.cons (Ss.ex (Es.b (Es.dkPush hu1 hdk D'.n1 (Eb.var 0 rfl (.inl rfl) rfl rfl) (Es.bin .fdiv rfl (Eb.var 3 rfl (.inl rfl) rfl rfl) (Eb.var 1 rfl (.inl rfl) rfl rfl)) (by intro _ _; rfl) rfl rfl rfl rfl rfl rfl)) rfl)
        (Sb.one (Ss.ret (Es.bin .mod rfl (Es.b (Es.biT .toInt rfl cb_toInt rfl A.z_int rfl (Eas.one (Eb.var 3 rfl (.inl rfl) rfl rfl) rfl) (by decide) rfl rfl rfl)) (Eb.var 1 rfl (.inl rfl) rfl rfl))))) Sb.nil)
      (Sb.one (Ss.set (Es.bin .add rfl (Eb.var 2 rfl (.inl rfl) rfl rfl) (Es.b (Es.bin .mod rfl (Es.b (Es.biT .toInt rfl cb_toInt rfl A.z_int rfl (Eas.one (Eb.var 3 rfl (.inl rfl) rfl rfl) rfl) (by decide) rfl rfl rfl)) (Es.b Es.int)))) (Eg.name 2 (by decide) sc__law_draw.nd rfl (.inl rfl) (.inr rfl)) rfl rfl rfl)))) Sb.nil)
    (Sb.cons (Ss.set (Es.bin .mod rfl (Es.b (Es.biT .toInt rfl cb_toInt rfl A.z_int rfl (Eas.one (Es.b (Es.bin .add rfl (Es.b (Es.bin .mul rfl (Eb.var 2 rfl (.inl rfl) rfl rfl) (Es.b Es.int))) (Es.b Es.int))) rfl) (by decide) rfl rfl rfl)) (Es.b Es.int)) (Eg.name 2 (by decide) sc__law_draw.nd rfl (.inl rfl) (.inr rfl)) rfl rfl rfl)
    (Sb.cons (Ss.set (Es.bin .mod rfl (Es.b (Es.biT .toInt rfl cb_toInt rfl A.z_int rfl (Eas.one (Es.b (Es.bin .add rfl (Es.b (Es.bin .add rfl (Es.b (Es.bin .mul rfl (Eb.var 2 rfl (.inl rfl) rfl rfl) (Eb.var 2 rfl (.inl rfl) rfl rfl))) (Es.b (Es.bin .mul rfl (Es.b Es.int) (Es.b (Es.dkGet true hu1 hdk hn3 (Eb.var 0 rfl (.inl rfl) rfl rfl) (by intro _ _; rfl))))))) (Es.b Es.int))) rfl) (by decide) rfl rfl rfl)) (Es.b Es.int)) (Eg.name 2 (by decide) sc__law_draw.nd rfl (.inl rfl) (.inr rfl)) rfl rfl rfl)
    (Sb.one (Ss.ret (Es.bin .mod rfl (Es.b (Es.bin .fdiv rfl (Es.b (Es.bin .mod rfl (Es.b (Es.biT .toInt rfl cb_toInt rfl A.z_int rfl (Eas.one (Es.b (Es.bin .mul rfl (Eb.var 2 rfl (.inl rfl) rfl rfl) (Es.b Es.int))) rfl) (by decide) rfl rfl rfl)) (Es.b Es.int))) (Es.b Es.int))) (Eb.var 1 rfl (.inl rfl) rfl rfl)))))))))⟩

theorem ok__law_primes {P : Program} {w : World} {mg : Str → Option Value} {base : Heap} (C : Ct) (A : Fa C.K mg) (a : Addr) (ns : List Int) (D : Dc C n_1 n_2 n_3 a ns) (j : Nat) : FnG P w C.K mg base CX0 (j + 0 + 1) A.f__law_primes A.d__law_primes p__law_primes (spS C (FT (T ns) (fun _ => none) (j + 0 + 1) 9) 1) := by
  refine defOk A.F__law_primes sc__law_primes rfl 9 (m__law_primes) (T ns) (fun _ => none) (j + 0) rfl rfl (by decide) (fun cdv A0 outer s H F0 hG hr => ?_)
  have D' : Dc (C.at H F0 (FT (T ns) (fun _ => none) (j + 0))) n_1 n_2 n_3 a ns := ⟨D.n1, D.n2, D.n3, D.sc⟩
  have hu := Pv.Room.u70 hr
  have hu65 := Pv.Room.u65 hr
  have hu1 := Pv.Room.u1 hr
  have hdk := dkn_of D'
  have hn3 := hn3_of D'
  have hn2 := hn2_of D'
  exact ⟨[],
    (Sb.one (Ss.ret (Ef.s (Ef.comp rfl sc__law_primes.nd (Ei.rng2 rfl A.z_range (Ea.cons Es.int (Ea.cons (Es.bin .add rfl (Eb.var 0 rfl (.inl rfl) rfl rfl) (Es.b Es.int)) Ea.nil rfl) rfl) rfl rfl) bk__law_primes_0 rfl (fun _ _ _ _ _ => (Eg.name 1 (by decide) sc__law_primes.nd rfl (.inr rfl) (.inl rfl))) (fun _ _ _ _ _ => (Ec.one (Et.cmp .eq rfl hu65 (Ef.b (Ef.comp rfl sc__law_primes.nd (Ei.rng2 rfl A.z_range (Ea.cons Es.int (Ea.cons Es.int Ea.nil rfl) rfl) rfl rfl) bk__law_primes_1 rfl (fun _ _ _ _ _ => (Eg.name 2 (by decide) sc__law_primes.nd rfl (.inl rfl) (.inr rfl))) (fun _ _ _ _ _ => (Ec.one (Ew.t (Ew.and (Et.cmp .lt rfl hu65 (Eb.var 2 rfl (.inl rfl) rfl rfl) (Eb.var 1 rfl (.inr (.inl rfl)) rfl rfl) rfl) (Ew.one (Et.cmp .eq rfl hu65 (Es.b (Es.bin .mod rfl (Es.b (Es.biT .toInt rfl cb_toInt rfl A.z_int rfl (Eas.one (Eb.var 1 rfl (.inr (.inl rfl)) rfl rfl) rfl) (by decide) rfl rfl rfl)) (Eb.var 2 rfl (.inl rfl) rfl rfl))) (Es.b Es.int) rfl)))))) (fun _ _ _ _ _ => (Es.var 2 (by decide) rfl (.inl rfl) rfl rfl)) (fun _ => rfl) (by decide))) (Ef.b (Ef.lst Ea.nil (Nat.le_of_ble_eq_true rfl))) rfl))) (fun _ _ _ _ _ => (Es.var 1 (by decide) rfl (.inr (.inl rfl)) rfl rfl)) (fun _ => rfl) (by decide)))))⟩

theorem ok__law_is_prime {P : Program} {w : World} {mg : Str → Option Value} {base : Heap} (C : Ct) (A : Fa C.K mg) (a : Addr) (ns : List Int) (D : Dc C n_1 n_2 n_3 a ns) (j : Nat) : FnG P w C.K mg base CX0 (j + 0 + 1) A.f__law_is_prime A.d__law_is_prime p__law_is_prime (spS C (FT (T ns) (fun _ => none) (j + 0 + 1) 11) 2) := by
  refine defOk A.F__law_is_prime sc__law_is_prime rfl 11 (m__law_is_prime) (T ns) (fun _ => none) (j + 0) rfl rfl (by decide) (fun cdv A0 outer s H F0 hG hr => ?_)
  have D' : Dc (C.at H F0 (FT (T ns) (fun _ => none) (j + 0))) n_1 n_2 n_3 a ns := ⟨D.n1, D.n2, D.n3, D.sc⟩
  have hu := Pv.Room.u70 hr
  have hu65 := Pv.Room.u65 hr
  have hu1 := Pv.Room.u1 hr
  have hdk := dkn_of D'
  have hn3 := hn3_of D'
  have hn2 := hn2_of D'
  exact ⟨[],
    (Sb.one (Ss.ret (Es.and (Es.b (Es.isi .isInt rfl rfl rfl A.z_isinstance rfl rfl A.z_int rfl (by decide) rfl (Eb.var 1 rfl (.inl rfl) rfl rfl) rfl rfl rfl)) (Es.and (Es.b (Es.not rfl (Es.b (Es.isi .isBool rfl rfl rfl A.z_isinstance rfl rfl A.z_bool rfl (by decide) rfl (Eb.var 1 rfl (.inl rfl) rfl rfl) rfl rfl rfl)))) (Es.one (Es.cmp .isin rfl hu65 (Eb.var 1 rfl (.inl rfl) rfl rfl) (Eb.var 0 rfl (.inl rfl) rfl rfl) rfl))))))⟩

theorem ok_is_prime {P : Program} {w : World} {mg : Str → Option Value} {base : Heap} (C : Ct) (A : Fa C.K mg) (a : Addr) (ns : List Int) (D : Dc C n_1 n_2 n_3 a ns) (j : Nat) : FnG P w C.K mg base CX0 (j + 1 + 1) A.f_is_prime A.d_is_prime p_is_prime (spS C (FT (T ns) (fun _ => none) (j + 1 + 1) 1) 1) := by
  refine defOk A.F_is_prime sc_is_prime rfl 1 (m_is_prime) (T ns) (fun _ => none) (j + 1) rfl rfl (by decide) (fun cdv A0 outer s H F0 hG hr => ?_)
  have D' : Dc (C.at H F0 (FT (T ns) (fun _ => none) (j + 1))) n_1 n_2 n_3 a ns := ⟨D.n1, D.n2, D.n3, D.sc⟩
  have hu := Pv.Room.u70 hr
  have hu65 := Pv.Room.u65 hr
  have hu1 := Pv.Room.u1 hr
  have hdk := dkn_of D'
  have hn3 := hn3_of D'
  have hn2 := hn2_of D'
  have c_is_integer := @ok_is_integer P w mg base (C.at H F0 (FT (T ns) (fun _ => none) (j + 1))) A a ns D' (j + 0)
  exact ⟨[],
    (Sb.cons (Ss.ite (Ew.t (Ew.or (Et.not (Et.truth rfl (Es.b (Es.call 0 (c_is_integer) hG hr rfl A.g_is_integer A.F_is_integer.kp A.b_is_integer pass0 (Ea.cons (Es.var 0 (by decide) rfl (.inl rfl) rfl rfl) Ea.nil rfl) rfl rfl rfl rfl)) (fun _ => rfl))) (Ew.or (Et.cmp .lt rfl hu65 (Eb.var 0 rfl (.inl rfl) rfl rfl) (Es.b (Es.glob (v := .int 7) rfl A.g_LEAST_PRIME ⟨_, rfl⟩ (fun _ => rel_int) rfl)) rfl) (Ew.one (Et.cmp .gt rfl hu65 (Eb.var 0 rfl (.inl rfl) rfl rfl) (Es.b (Es.glob (v := .int 199) rfl A.g_GREATEST_PRIME ⟨_, rfl⟩ (fun _ => rel_int) rfl)) rfl))))) (Sb.one (Ss.ret Es.bl)) Sb.nil)
    (Sb.cons (Ss.for_ PassesOwn.never rfl (Ei.seq rfl (Es.tup (Ea.cons Es.int (Ea.cons Es.int (Ea.cons Es.int (Ea.cons Es.int (Ea.cons Es.int (Ea.cons Es.int Ea.nil rfl) rfl) rfl) rfl) rfl) rfl) (Nat.le_of_ble_eq_true rfl))) (Eg.name 1 (by decide) sc_is_prime.nd rfl (.inl rfl) (.inr rfl)) (Sb.one (Ss.ite (Ew.t (Ew.and (Et.cmp .eq rfl hu65 (Es.b (Es.bin .mod rfl (Eb.var 0 rfl (.inl rfl) rfl rfl) (Eb.var 1 rfl (.inl rfl) rfl rfl))) (Es.b Es.int) rfl) (Ew.one (Et.cmp .ne rfl hu65 (Eb.var 0 rfl (.inl rfl) rfl rfl) (Eb.var 1 rfl (.inl rfl) rfl rfl) rfl)))) (Sb.one (Ss.ret Es.bl)) Sb.nil)) (fun _ => rfl))
    (Sb.one (Ss.ret Es.bl))))⟩

theorem ok_inverse {P : Program} {w : World} {mg : Str → Option Value} {base : Heap} (C : Ct) (A : Fa C.K mg) (a : Addr) (ns : List Int) (D : Dc C n_1 n_2 n_3 a ns) (j : Nat) : FnG P w C.K mg base CX0 (j + 1 + 1) A.f_inverse A.d_inverse p_inverse (spS C (FT (T ns) (fun _ => none) (j + 1 + 1) 3) 2) := by
  refine defOk A.F_inverse sc_inverse rfl 3 (m_inverse) (T ns) (fun _ => none) (j + 1) rfl rfl (by decide) (fun cdv A0 outer s H F0 hG hr => ?_)
  have D' : Dc (C.at H F0 (FT (T ns) (fun _ => none) (j + 1))) n_1 n_2 n_3 a ns := ⟨D.n1, D.n2, D.n3, D.sc⟩
  have hu := Pv.Room.u70 hr
  have hu65 := Pv.Room.u65 hr
  have hu1 := Pv.Room.u1 hr
  have hdk := dkn_of D'
  have hn3 := hn3_of D'
  have hn2 := hn2_of D'
  have c_number_power := @ok_number_power P w mg base (C.at H F0 (FT (T ns) (fun _ => none) (j + 1))) A a ns D' (j + 0)
  exact ⟨[],
    (Sb.one (Ss.ret (Es.call 2 (c_number_power) hG hr rfl A.g_number_power A.F_number_power.kp A.b_number_power pass0 (Ea.cons (Es.var 0 (by decide) rfl (.inl rfl) rfl rfl) (Ea.cons (Es.var 1 (by decide) rfl (.inl rfl) rfl rfl) (Ea.cons (Es.bin .sub rfl (Eb.var 0 rfl (.inl rfl) rfl rfl) (Es.b Es.int)) Ea.nil rfl) rfl) rfl) rfl rfl rfl rfl)))⟩

theorem ok_is_square {P : Program} {w : World} {mg : Str → Option Value} {base : Heap} (C : Ct) (A : Fa C.K mg) (a : Addr) (ns : List Int) (D : Dc C n_1 n_2 n_3 a ns) (j : Nat) : FnG P w C.K mg base CX0 (j + 1 + 1) A.f_is_square A.d_is_square p_is_square (spS C (FT (T ns) (fun _ => none) (j + 1 + 1) 4) 2) := by
  refine defOk A.F_is_square sc_is_square rfl 4 (m_is_square) (T ns) (fun _ => none) (j + 1) rfl rfl (by decide) (fun cdv A0 outer s H F0 hG hr => ?_)
  have D' : Dc (C.at H F0 (FT (T ns) (fun _ => none) (j + 1))) n_1 n_2 n_3 a ns := ⟨D.n1, D.n2, D.n3, D.sc⟩
  have hu := Pv.Room.u70 hr
  have hu65 := Pv.Room.u65 hr
  have hu1 := Pv.Room.u1 hr
  have hdk := dkn_of D'
  have hn3 := hn3_of D'
  have hn2 := hn2_of D'
  have c_number_power := @ok_number_power P w mg base (C.at H F0 (FT (T ns) (fun _ => none) (j + 1))) A a ns D' (j + 0)
  exact ⟨[],
    (Sb.one (Ss.ret (Es.or (Es.b (Es.cmp .eq rfl hu65 (Eb.var 1 rfl (.inl rfl) rfl rfl) (Es.b Es.int) rfl)) (Es.one (Es.cmp .eq rfl hu65 (Es.b (Es.call 2 (c_number_power) hG hr rfl A.g_number_power A.F_number_power.kp A.b_number_power pass0 (Ea.cons (Es.var 0 (by decide) rfl (.inl rfl) rfl rfl) (Ea.cons (Es.var 1 (by decide) rfl (.inl rfl) rfl rfl) (Ea.cons (Es.bin .fdiv rfl (Es.b (Es.bin .sub rfl (Eb.var 0 rfl (.inl rfl) rfl rfl) (Es.b Es.int))) (Es.b Es.int)) Ea.nil rfl) rfl) rfl) rfl rfl rfl rfl)) (Es.b Es.int) rfl)))))⟩

theorem ok__law_pick {P : Program} {w : World} {mg : Str → Option Value} {base : Heap} (C : Ct) (A : Fa C.K mg) (a : Addr) (ns : List Int) (D : Dc C n_1 n_2 n_3 a ns) (j : Nat) : FnG P w C.K mg base CX0 (j + 1 + 1) A.f__law_pick A.d__law_pick p__law_pick (spS C (FT (T ns) (fun _ => none) (j + 1 + 1) 10) 2) := by
  refine defOk A.F__law_pick sc__law_pick rfl 10 (m__law_pick) (T ns) (fun _ => none) (j + 1) rfl rfl (by decide) (fun cdv A0 outer s H F0 hG hr => ?_)
  have D' : Dc (C.at H F0 (FT (T ns) (fun _ => none) (j + 1))) n_1 n_2 n_3 a ns := ⟨D.n1, D.n2, D.n3, D.sc⟩
  have hu := Pv.Room.u70 hr
  have hu65 := Pv.Room.u65 hr
  have hu1 := Pv.Room.u1 hr
  have hdk := dkn_of D'
  have hn3 := hn3_of D'
  have hn2 := hn2_of D'
  have c__law_draw := @ok__law_draw P w mg base (C.at H F0 (FT (T ns) (fun _ => none) (j + 1))) A a ns D' (j + 0)
  exact ⟨[],
    (Sb.one (Ss.ret (Es.idx rfl (Eb.var 1 rfl (.inl rfl) rfl rfl) (Es.b (Es.call 8 (c__law_draw) hG hr rfl A.g__law_draw A.F__law_draw.kp A.b__law_draw pass0 (Ea.cons (Es.var 0 (by decide) rfl (.inl rfl) rfl rfl) (Ea.cons (Es.biB .len rfl cb_len rfl A.z_len rfl (Eas.one (Eb.var 1 rfl (.inl rfl) rfl rfl) rfl) (by decide) rfl rfl rfl) Ea.nil rfl) rfl) rfl rfl rfl rfl)) (by intro _ _; rfl))))⟩

theorem ok__law_odd {P : Program} {w : World} {mg : Str → Option Value} {base : Heap} (C : Ct) (A : Fa C.K mg) (a : Addr) (ns : List Int) (D : Dc C n_1 n_2 n_3 a ns) (j : Nat) : FnG P w C.K mg base CX0 (j + 1 + 1) A.f__law_odd A.d__law_odd p__law_odd (spS C (FT (T ns) (fun _ => none) (j + 1 + 1) 12) 2) := by
  refine defOk A.F__law_odd sc__law_odd rfl 12 (m__law_odd) (T ns) (fun _ => none) (j + 1) rfl rfl (by decide) (fun cdv A0 outer s H F0 hG hr => ?_)
  have D' : Dc (C.at H F0 (FT (T ns) (fun _ => none) (j + 1))) n_1 n_2 n_3 a ns := ⟨D.n1, D.n2, D.n3, D.sc⟩
  have hu := Pv.Room.u70 hr
  have hu65 := Pv.Room.u65 hr
  have hu1 := Pv.Room.u1 hr
  have hdk := dkn_of D'
  have hn3 := hn3_of D'
  have hn2 := hn2_of D'
  have c__law_draw := @ok__law_draw P w mg base (C.at H F0 (FT (T ns) (fun _ => none) (j + 1))) A a ns D' (j + 0)
  exact ⟨[],
    (Sb.cons (Ss.set (Ef.s (Ef.lst (Ea.cons Es.non (Ea.cons Es.bl (Ea.cons Es.bl (Ea.cons Es.str (Ea.cons Es.str (Ea.cons Es.str (Ea.cons (Es.tup Ea.nil (Nat.le_of_ble_eq_true rfl)) (Ea.cons (Es.tup (Ea.cons Es.int Ea.nil rfl) (Nat.le_of_ble_eq_true rfl)) (Ea.cons (Ef.s (Ef.lst (Ea.cons Es.int Ea.nil rfl) (Nat.le_of_ble_eq_true rfl))) (Ea.cons (Ef.s Ef.dnew) (Ea.cons (Ef.s (Ef.ddisp (Ep.cons Es.int Es.int Ep.nil) rfl rfl (List.cons_ne_nil _ _) (Nat.le_of_ble_eq_true rfl) (Nat.le_of_ble_eq_true rfl))) (Ea.cons (Ef.s (Ef.lst Ea.nil (Nat.le_of_ble_eq_true rfl))) (Ea.cons (Es.tup (Ea.cons (Es.tup (Ea.cons Es.int Ea.nil rfl) (Nat.le_of_ble_eq_true rfl)) Ea.nil rfl) (Nat.le_of_ble_eq_true rfl)) (Ea.cons Es.str (Ea.cons (Es.neg rfl (Es.b Es.int)) (Ea.cons (Es.neg rfl (Es.b Es.int)) (Ea.cons Es.int (Ea.cons (Es.bin .pow rfl (Es.b Es.int) (Es.b Es.int)) Ea.nil rfl) rfl) rfl) rfl) rfl) rfl) rfl) rfl) rfl) rfl) rfl) rfl) rfl) rfl) rfl) rfl) rfl) rfl) (Nat.le_of_ble_eq_true rfl))) (Eg.name 2 (by decide) sc__law_odd.nd rfl (.inl rfl) (.inr rfl)) rfl rfl rfl)
    (Sb.cons (Ss.set (Es.bin .add rfl (Es.b (Es.bin .add rfl (Es.b (Es.bin .mul rfl (Es.b (Es.call 8 (c__law_draw) hG hr rfl A.g__law_draw A.F__law_draw.kp A.b__law_draw pass0 (Ea.cons (Es.var 0 (by decide) rfl (.inl rfl) rfl rfl) (Ea.cons (Es.bin .pow rfl (Es.b Es.int) (Es.b Es.int)) Ea.nil rfl) rfl) rfl rfl rfl rfl)) (Es.b (Es.bin .pow rfl (Es.b Es.int) (Es.b Es.int))))) (Es.b (Es.bin .mul rfl (Es.b (Es.call 8 (c__law_draw) hG hr rfl A.g__law_draw A.F__law_draw.kp A.b__law_draw pass0 (Ea.cons (Es.var 0 (by decide) rfl (.inl rfl) rfl rfl) (Ea.cons (Es.bin .pow rfl (Es.b Es.int) (Es.b Es.int)) Ea.nil rfl) rfl) rfl rfl rfl rfl)) (Es.b (Es.bin .pow rfl (Es.b Es.int) (Es.b Es.int))))))) (Es.b (Es.call 8 (c__law_draw) hG hr rfl A.g__law_draw A.F__law_draw.kp A.b__law_draw pass0 (Ea.cons (Es.var 0 (by decide) rfl (.inl rfl) rfl rfl) (Ea.cons (Es.bin .pow rfl (Es.b Es.int) (Es.b Es.int)) Ea.nil rfl) rfl) rfl rfl rfl rfl))) (Eg.name 3 (by decide) sc__law_odd.nd rfl (.inl rfl) (.inr rfl)) rfl rfl rfl)
    (Sb.one (Ss.ret (Es.bin .add rfl (Eb.var 2 rfl (.inl rfl) rfl rfl) (Ef.b (Ef.lst (Ea.cons (Es.var 1 (by decide) rfl (.inl rfl) rfl rfl) (Ea.cons (Es.biT .toStr rfl cb_toStr rfl A.z_str rfl (Eas.one (Eb.var 1 rfl (.inl rfl) rfl rfl) rfl) (by decide) rfl rfl rfl) (Ea.cons (Es.tup (Ea.cons (Es.var 1 (by decide) rfl (.inl rfl) rfl rfl) Ea.nil rfl) (Nat.le_of_ble_eq_true rfl)) (Ea.cons (Ef.s (Ef.lst (Ea.cons (Es.var 1 (by decide) rfl (.inl rfl) rfl rfl) Ea.nil rfl) (Nat.le_of_ble_eq_true rfl))) (Ea.cons (Es.neg rfl (Eb.var 1 rfl (.inl rfl) rfl rfl)) (Ea.cons (Es.bin .mul rfl (Eb.var 1 rfl (.inl rfl) rfl rfl) (Eb.var 1 rfl (.inl rfl) rfl rfl)) (Ea.cons (Es.bin .add rfl (Eb.var 1 rfl (.inl rfl) rfl rfl) (Es.b Es.int)) (Ea.cons (Es.var 3 (by decide) rfl (.inl rfl) rfl rfl) (Ea.cons (Es.neg rfl (Eb.var 3 rfl (.inl rfl) rfl rfl)) (Ea.cons (Es.bin .add rfl (Es.b (Es.bin .mul rfl (Eb.var 3 rfl (.inl rfl) rfl rfl) (Es.b Es.int))) (Eb.var 1 rfl (.inl rfl) rfl rfl)) Ea.nil rfl) rfl) rfl) rfl) rfl) rfl) rfl) rfl) rfl) rfl) (Nat.le_of_ble_eq_true rfl))))))))⟩

theorem ok_spare {P : Program} {w : World} {mg : Str → Option Value} {base : Heap} (C : Ct) (A : Fa C.K mg) (a : Addr) (ns : List Int) (D : Dc C n_1 n_2 n_3 a ns) (j : Nat) : FnG P w C.K mg base CX0 (j + 2 + 1) A.f_spare A.d_spare p_spare (spS C (FT (T ns) (fun _ => none) (j + 2 + 1) 6) 1) := by
  refine defOk A.F_spare sc_spare rfl 6 (m_spare) (T ns) (fun _ => none) (j + 2) rfl rfl (by decide) (fun cdv A0 outer s H F0 hG hr => ?_)
  have D' : Dc (C.at H F0 (FT (T ns) (fun _ => none) (j + 2))) n_1 n_2 n_3 a ns := ⟨D.n1, D.n2, D.n3, D.sc⟩
  have hu := Pv.Room.u70 hr
  have hu65 := Pv.Room.u65 hr
  have hu1 := Pv.Room.u1 hr
  have hdk := dkn_of D'
  have hn3 := hn3_of D'
  have hn2 := hn2_of D'
  have c_is_square := @ok_is_square P w mg base (C.at H F0 (FT (T ns) (fun _ => none) (j + 2))) A a ns D' (j + 0)
  exact ⟨[],
    (Sb.cons (Ss.set Es.int (Eg.name 1 (by decide) sc_spare.nd rfl (.inl rfl) (.inr rfl)) rfl rfl rfl)
    (Sb.cons (Ss.while_ PassesOwn.never (Et.truth rfl (Es.b (Es.call 4 (c_is_square) hG hr rfl A.g_is_square A.F_is_square.kp A.b_is_square pass0 (Ea.cons (Es.var 0 (by decide) rfl (.inl rfl) rfl rfl) (Ea.cons (Es.var 1 (by decide) rfl (.inl rfl) rfl rfl) Ea.nil rfl) rfl) rfl rfl rfl rfl)) (fun _ => rfl)) (Sb.one (Ss.aug 1 .add (by decide) (Es.b Es.int) sc_spare.nd rfl (.inl rfl) (.inr rfl))))
    (Sb.one (Ss.ret (Es.var 1 (by decide) rfl (.inl rfl) rfl rfl)))))⟩

theorem ok__law_field_right {P : Program} {w : World} {mg : Str → Option Value} {base : Heap} (C : Ct) (A : Fa C.K mg) (a : Addr) (ns : List Int) (D : Dc C n_1 n_2 n_3 a ns) (j : Nat) : FnG P w C.K mg base CX0 (j + 3 + 1) A.f__law_field_right A.d__law_field_right p__law_field_right (spS C (FT (T ns) (fun _ => none) (j + 3 + 1) 13) 1) := by
  refine defOk A.F__law_field_right sc__law_field_right rfl 13 (m__law_field_right) (T ns) (fun _ => none) (j + 3) rfl rfl (by decide) (fun cdv A0 outer s H F0 hG hr => ?_)
  have D' : Dc (C.at H F0 (FT (T ns) (fun _ => none) (j + 3))) n_1 n_2 n_3 a ns := ⟨D.n1, D.n2, D.n3, D.sc⟩
  have hu := Pv.Room.u70 hr
  have hu65 := Pv.Room.u65 hr
  have hu1 := Pv.Room.u1 hr
  have hdk := dkn_of D'
  have hn3 := hn3_of D'
  have hn2 := hn2_of D'
  have c_inverse := @ok_inverse P w mg base (C.at H F0 (FT (T ns) (fun _ => none) (j + 3))) A a ns D' (j + 1)
  have c_is_square := @ok_is_square P w mg base (C.at H F0 (FT (T ns) (fun _ => none) (j + 3))) A a ns D' (j + 1)
  have c_root_of := @ok_root_of P w mg base (C.at H F0 (FT (T ns) (fun _ => none) (j + 3))) A a ns D' (j + 2)
  have c_spare := @ok_spare P w mg base (C.at H F0 (FT (T ns) (fun _ => none) (j + 3))) A a ns D' (j + 0)
  exact ⟨[],
    (Sb.cons (Ss.own 1 Ef.dnew sc__law_field_right.nd rfl (.inr rfl) (.inl rfl) rfl)
    (Sb.cons (Ss.for_ PassesOwn.never rfl (Ei.rng1 rfl A.z_range (Ea.cons (Es.var 0 (by decide) rfl (.inl rfl) rfl rfl) Ea.nil rfl) rfl) (Eg.name 2 (by decide) sc__law_field_right.nd rfl (.inl rfl) (.inr rfl)) (Sb.one (Ss.setd 1 (by decide) rfl (.inr (.inl rfl)) rfl rfl (Es.b (Es.bin .mod rfl (Es.b (Es.biT .toInt rfl cb_toInt rfl A.z_int rfl (Eas.one (Es.b (Es.bin .mul rfl (Eb.var 2 rfl (.inl rfl) rfl rfl) (Eb.var 2 rfl (.inl rfl) rfl rfl))) rfl) (by decide) rfl rfl rfl)) (Eb.var 0 rfl (.inl rfl) rfl rfl))) (Es.var 2 (by decide) rfl (.inl rfl) rfl rfl) ⟨rfl, rfl, rfl, rfl⟩ rfl)) (fun _ => rfl))
    (Sb.cons (Ss.for_ PassesOwn.never rfl (Ei.rng1 rfl A.z_range (Ea.cons (Es.var 0 (by decide) rfl (.inl rfl) rfl rfl) Ea.nil rfl) rfl) (Eg.name 3 (by decide) sc__law_field_right.nd rfl (.inl rfl) (.inr rfl)) (Sb.cons (Ss.set (Ef.s (Ef.lst (Ea.cons (Es.call 4 (c_is_square) hG hr rfl A.g_is_square A.F_is_square.kp A.b_is_square pass0 (Ea.cons (Es.var 0 (by decide) rfl (.inl rfl) rfl rfl) (Ea.cons (Es.var 3 (by decide) rfl (.inl rfl) rfl rfl) Ea.nil rfl) rfl) rfl rfl rfl rfl) (Ea.cons (Es.callK0 4 (c_is_square) hG hr rfl A.g_is_square A.F_is_square.kp A.kb_is_square_0 pass0 (Ek.cons (Es.var 3 (by decide) rfl (.inl rfl) rfl rfl) (Ek.cons (Es.var 0 (by decide) rfl (.inl rfl) rfl rfl) Ek.nil)) rfl rfl rfl rfl rfl (fun l h => match l, h with | [_, _], _ => rfl)) (Ea.cons (Es.call 5 (c_root_of) hG hr rfl A.g_root_of A.F_root_of.kp A.b_root_of pass0 (Ea.cons (Es.var 0 (by decide) rfl (.inl rfl) rfl rfl) (Ea.cons (Es.var 3 (by decide) rfl (.inl rfl) rfl rfl) Ea.nil rfl) rfl) rfl rfl rfl rfl) (Ea.cons (Es.callK0 5 (c_root_of) hG hr rfl A.g_root_of A.F_root_of.kp A.kb_root_of_0 pass0 (Ek.cons (Es.var 3 (by decide) rfl (.inl rfl) rfl rfl) (Ek.cons (Es.var 0 (by decide) rfl (.inl rfl) rfl rfl) Ek.nil)) rfl rfl rfl rfl rfl (fun l h => match l, h with | [_, _], _ => rfl)) Ea.nil rfl) rfl) rfl) rfl) (Nat.le_of_ble_eq_true rfl))) (Eg.name 4 (by decide) sc__law_field_right.nd rfl (.inl rfl) (.inr rfl)) rfl rfl rfl)
      (Sb.cons (Ss.set (Ef.s (Ef.lst (Ea.cons (Es.dhas rfl hu1 (Eb.var 3 rfl (.inl rfl) rfl rfl) (Eb.var 1 rfl (.inr (.inl rfl)) rfl rfl) rfl) (Ea.cons (Es.dhas rfl hu1 (Eb.var 3 rfl (.inl rfl) rfl rfl) (Eb.var 1 rfl (.inr (.inl rfl)) rfl rfl) rfl) (Ea.cons (Es.dget1 rfl hu1 (Eb.var 1 rfl (.inr (.inl rfl)) rfl rfl) (Eb.var 3 rfl (.inl rfl) rfl rfl) ⟨rfl, rfl, rfl, rfl⟩) (Ea.cons (Es.dget1 rfl hu1 (Eb.var 1 rfl (.inr (.inl rfl)) rfl rfl) (Eb.var 3 rfl (.inl rfl) rfl rfl) ⟨rfl, rfl, rfl, rfl⟩) Ea.nil rfl) rfl) rfl) rfl) (Nat.le_of_ble_eq_true rfl))) (Eg.name 5 (by decide) sc__law_field_right.nd rfl (.inl rfl) (.inr rfl)) rfl rfl rfl)
      (Sb.cons (Ss.ite (Et.cmp .ne rfl hu65 (Es.b (Es.biB .repr rfl (cb_repr hG hu) rfl A.z_repr rfl (Eas.one (Eb.var 4 rfl (.inl rfl) rfl rfl) rfl) (by decide) rfl rfl rfl)) (Es.b (Es.biB .repr rfl (cb_repr hG hu) rfl A.z_repr rfl (Eas.one (Eb.var 5 rfl (.inl rfl) rfl rfl) rfl) (by decide) rfl rfl rfl)) rfl) (Sb.one (Ss.ret Es.bl)) Sb.nil)
      (Sb.one (Ss.ite (Et.cmp .gt rfl hu65 (Eb.var 3 rfl (.inl rfl) rfl rfl) (Es.b Es.int) rfl) (Sb.cons (Ss.set (Es.call 3 (c_inverse) hG hr rfl A.g_inverse A.F_inverse.kp A.b_inverse pass0 (Ea.cons (Es.var 0 (by decide) rfl (.inl rfl) rfl rfl) (Ea.cons (Es.var 3 (by decide) rfl (.inl rfl) rfl rfl) Ea.nil rfl) rfl) rfl rfl rfl rfl) (Eg.name 6 (by decide) sc__law_field_right.nd rfl (.inl rfl) (.inr rfl)) rfl rfl rfl)
        (Sb.cons (Ss.ite (Ew.t (Ew.or (Et.not (Et.truth rfl (Es.b (Es.isi .isInt rfl rfl rfl A.z_isinstance rfl rfl A.z_int rfl (by decide) rfl (Eb.var 6 rfl (.inl rfl) rfl rfl) rfl rfl rfl)) (fun _ => rfl))) (Ew.or (Et.truth rfl (Es.b (Es.isi .isBool rfl rfl rfl A.z_isinstance rfl rfl A.z_bool rfl (by decide) rfl (Eb.var 6 rfl (.inl rfl) rfl rfl) rfl rfl rfl)) (fun _ => rfl)) (Ew.one (Et.not (Et.chain .le .lt rfl hu65 (Es.b Es.int) (Eb.var 6 rfl (.inl rfl) rfl rfl) (Eb.var 0 rfl (.inl rfl) rfl rfl) rfl)))))) (Sb.one (Ss.ret Es.bl)) Sb.nil)
        (Sb.one (Ss.ite (Ew.t (Ew.or (Et.cmp .ne rfl hu65 (Es.b (Es.bin .mod rfl (Es.b (Es.biT .toInt rfl cb_toInt rfl A.z_int rfl (Eas.one (Es.b (Es.bin .mul rfl (Eb.var 6 rfl (.inl rfl) rfl rfl) (Eb.var 3 rfl (.inl rfl) rfl rfl))) rfl) (by decide) rfl rfl rfl)) (Eb.var 0 rfl (.inl rfl) rfl rfl))) (Es.b Es.int) rfl) (Ew.one (Et.cmp .ne rfl hu65 (Es.b (Es.callK0 3 (c_inverse) hG hr rfl A.g_inverse A.F_inverse.kp A.kb_inverse_0 pass0 (Ek.cons (Es.var 3 (by decide) rfl (.inl rfl) rfl rfl) (Ek.cons (Es.var 0 (by decide) rfl (.inl rfl) rfl rfl) Ek.nil)) rfl rfl rfl rfl rfl (fun l h => match l, h with | [_, _], _ => rfl))) (Eb.var 6 rfl (.inl rfl) rfl rfl) rfl)))) (Sb.one (Ss.ret Es.bl)) Sb.nil)))) Sb.nil))))) (fun _ => rfl))
    (Sb.cons (Ss.post (Ow1 := [7, 1]) (Ow' := [1]) (Ss.ownLc 7 rfl sc__law_field_right.nd rfl rfl rfl (Ei.rng1 rfl A.z_range (Ea.cons (Es.var 0 (by decide) rfl (.inl rfl) rfl rfl) Ea.nil rfl) rfl) bk__law_field_right_0 rfl (fun _ _ _ _ _ => (Eg.name 3 (by decide) sc__law_field_right.nd rfl (.inl rfl) (.inr rfl))) (fun _ _ _ _ _ => (Ec.one (Et.hasN rfl hu1 (Eb.var 3 rfl (.inl rfl) rfl rfl) (Eb.var 1 rfl (.inr (.inl rfl)) rfl rfl) rfl))) (fun _ _ _ _ _ => (Es.var 3 (by decide) rfl (.inl rfl) rfl rfl)) (fun _ => rfl) (by decide)) (by decide))
    (Sb.one (Ss.ret (Es.cmp .eq rfl hu65 (Es.b (Es.biB .repr rfl (cb_repr hG hu) rfl A.z_repr rfl (Eas.one (Ef.b (Ef.lst (Ea.cons (Es.call 6 (c_spare) hG hr rfl A.g_spare A.F_spare.kp A.b_spare pass0 (Ea.cons (Es.var 0 (by decide) rfl (.inl rfl) rfl rfl) Ea.nil rfl) rfl rfl rfl rfl) (Ea.cons (Es.callK0 6 (c_spare) hG hr rfl A.g_spare A.F_spare.kp A.kb_spare_0 pass0 (Ek.cons (Es.var 0 (by decide) rfl (.inl rfl) rfl rfl) Ek.nil) rfl rfl rfl rfl rfl (fun l h => match l, h with | [_], _ => rfl)) Ea.nil rfl) rfl) (Nat.le_of_ble_eq_true rfl))) rfl) (by decide) rfl rfl rfl)) (Es.b (Es.biB .repr rfl (cb_repr hG hu) rfl A.z_repr rfl (Eas.one (Ef.b (Ef.lst (Ea.cons (Es.idx rfl (Eb.var 7 rfl (.inl rfl) rfl rfl) (Es.b Es.int) (by intro _ _; rfl)) (Ea.cons (Es.idx rfl (Eb.var 7 rfl (.inl rfl) rfl rfl) (Es.b Es.int) (by intro _ _; rfl)) Ea.nil rfl) rfl) (Nat.le_of_ble_eq_true rfl))) rfl) (by decide) rfl rfl rfl)) rfl)))))))⟩

theorem ok_law {P : Program} {w : World} {mg : Str → Option Value} {base : Heap} (C : Ct) (A : Fa C.K mg) (a : Addr) (ns : List Int) (D : Dc C n_1 n_2 n_3 a ns) (j : Nat) : FnG P w C.K mg base CX0 (j + 4 + 1) A.f_law A.d_law p_law (spS C (FT (T ns) (fun _ => none) (j + 4 + 1) 14) 1) := by
  refine defOk A.F_law sc_law rfl 14 (m_law) (T ns) (fun _ => none) (j + 4) rfl rfl (by decide) (fun cdv A0 outer s H F0 hG hr => ?_)
  have D' : Dc (C.at H F0 (FT (T ns) (fun _ => none) (j + 4))) n_1 n_2 n_3 a ns := ⟨D.n1, D.n2, D.n3, D.sc⟩
  have hu := Pv.Room.u70 hr
  have hu65 := Pv.Room.u65 hr
  have hu1 := Pv.Room.u1 hr
  have hdk := dkn_of D'
  have hn3 := hn3_of D'
  have hn2 := hn2_of D'
  have c_is_prime := @ok_is_prime P w mg base (C.at H F0 (FT (T ns) (fun _ => none) (j + 4))) A a ns D' (j + 2)
  have c__law_deck := @ok__law_deck P w mg base (C.at H F0 (FT (T ns) (fun _ => none) (j + 4))) A a ns D' (j + 3)
  have c__law_draw := @ok__law_draw P w mg base (C.at H F0 (FT (T ns) (fun _ => none) (j + 4))) A a ns D' (j + 3)
  have c__law_primes := @ok__law_primes P w mg base (C.at H F0 (FT (T ns) (fun _ => none) (j + 4))) A a ns D' (j + 3)
  have c__law_pick := @ok__law_pick P w mg base (C.at H F0 (FT (T ns) (fun _ => none) (j + 4))) A a ns D' (j + 2)
  have c__law_is_prime := @ok__law_is_prime P w mg base (C.at H F0 (FT (T ns) (fun _ => none) (j + 4))) A a ns D' (j + 3)
  have c__law_odd := @ok__law_odd P w mg base (C.at H F0 (FT (T ns) (fun _ => none) (j + 4))) A a ns D' (j + 2)
  have c__law_field_right := @ok__law_field_right P w mg base (C.at H F0 (FT (T ns) (fun _ => none) (j + 4))) A a ns D' (j + 0)
  exact ⟨[],
    (Sb.cons (Ss.set (Es.call 7 (c__law_deck) hG hr rfl A.g__law_deck A.F__law_deck.kp A.b__law_deck pass0 (Ea.cons (Es.var 0 (by decide) rfl (.inl rfl) rfl rfl) Ea.nil rfl) rfl rfl rfl rfl) (Eg.name 1 (by decide) sc_law.nd rfl (.inl rfl) (.inr rfl)) rfl rfl rfl)
    (Sb.cons (Ss.par 2 3 rfl sc_law.nd rfl rfl (by decide) (by decide) (by decide) rfl rfl (Ea.cons (Es.call 9 (c__law_primes) hG hr rfl A.g__law_primes A.F__law_primes.kp A.b__law_primes pass0 (Ea.cons Es.int Ea.nil rfl) rfl rfl rfl rfl) (Ea.cons (Es.call 9 (c__law_primes) hG hr rfl A.g__law_primes A.F__law_primes.kp A.b__law_primes pass0 (Ea.cons Es.int Ea.nil rfl) rfl rfl rfl rfl) Ea.nil rfl) rfl) rfl rfl)
    (Sb.cons (Ss.for_ PassesOwn.never rfl (Ei.seq rfl (Es.bin .add rfl (Ef.b (Ef.listRange2 rfl rfl rfl A.z_list rfl A.z_range (Es.b (Es.neg rfl (Es.b Es.int))) (Es.b Es.int) rfl rfl rfl rfl)) (Es.b (Es.call 12 (c__law_odd) hG hr rfl A.g__law_odd A.F__law_odd.kp A.b__law_odd pass0 (Ea.cons (Es.var 1 (by decide) rfl (.inl rfl) rfl rfl) (Ea.cons (Es.call 10 (c__law_pick) hG hr rfl A.g__law_pick A.F__law_pick.kp A.b__law_pick pass0 (Ea.cons (Es.var 1 (by decide) rfl (.inl rfl) rfl rfl) (Ea.cons (Es.var 3 (by decide) rfl (.inl rfl) rfl rfl) Ea.nil rfl) rfl) rfl rfl rfl rfl) Ea.nil rfl) rfl) rfl rfl rfl rfl)))) (Eg.name 4 (by decide) sc_law.nd rfl (.inl rfl) (.inr rfl)) (Sb.cons (Ss.par 5 6 rfl sc_law.nd rfl rfl (by decide) (by decide) (by decide) rfl rfl (Ea.cons (Es.biB .repr rfl (cb_repr hG hu) rfl A.z_repr rfl (Eas.one (Eb.var 4 rfl (.inl rfl) rfl rfl) rfl) (by decide) rfl rfl rfl) (Ea.cons (Es.call 11 (c__law_is_prime) hG hr rfl A.g__law_is_prime A.F__law_is_prime.kp A.b__law_is_prime pass0 (Ea.cons (Es.var 3 (by decide) rfl (.inl rfl) rfl rfl) (Ea.cons (Es.var 4 (by decide) rfl (.inl rfl) rfl rfl) Ea.nil rfl) rfl) rfl rfl rfl rfl) Ea.nil rfl) rfl) rfl rfl)
      (Sb.one (Ss.ite (Ew.t (Ew.or (Et.cmp .ne rfl hu65 (Es.b (Es.biB .repr rfl (cb_repr hG hu) rfl A.z_repr rfl (Eas.one (Ef.b (Ef.lst (Ea.cons (Es.call 1 (c_is_prime) hG hr rfl A.g_is_prime A.F_is_prime.kp A.b_is_prime pass0 (Ea.cons (Es.var 4 (by decide) rfl (.inl rfl) rfl rfl) Ea.nil rfl) rfl rfl rfl rfl) (Ea.cons (Es.callK0 1 (c_is_prime) hG hr rfl A.g_is_prime A.F_is_prime.kp A.kb_is_prime_0 pass0 (Ek.cons (Es.var 4 (by decide) rfl (.inl rfl) rfl rfl) Ek.nil) rfl rfl rfl rfl rfl (fun l h => match l, h with | [_], _ => rfl)) Ea.nil rfl) rfl) (Nat.le_of_ble_eq_true rfl))) rfl) (by decide) rfl rfl rfl)) (Es.b (Es.biB .repr rfl (cb_repr hG hu) rfl A.z_repr rfl (Eas.one (Ef.b (Ef.lst (Ea.cons (Es.var 6 (by decide) rfl (.inl rfl) rfl rfl) (Ea.cons (Es.var 6 (by decide) rfl (.inl rfl) rfl rfl) Ea.nil rfl) rfl) (Nat.le_of_ble_eq_true rfl))) rfl) (by decide) rfl rfl rfl)) rfl) (Ew.one (Et.cmp .ne rfl hu65 (Es.b (Es.biB .repr rfl (cb_repr hG hu) rfl A.z_repr rfl (Eas.one (Eb.var 4 rfl (.inl rfl) rfl rfl) rfl) (by decide) rfl rfl rfl)) (Eb.var 5 rfl (.inl rfl) rfl rfl) rfl)))) (Sb.one (Ss.ret Es.bl)) Sb.nil))) (fun _ => rfl))
    (Sb.cons (Ss.set (Es.ite (Et.cmp .gt rfl hu65 (Es.b (Es.call 8 (c__law_draw) hG hr rfl A.g__law_draw A.F__law_draw.kp A.b__law_draw pass0 (Ea.cons (Es.var 1 (by decide) rfl (.inl rfl) rfl rfl) (Ea.cons Es.int Ea.nil rfl) rfl) rfl rfl rfl rfl)) (Es.b Es.int) rfl) (Es.call 10 (c__law_pick) hG hr rfl A.g__law_pick A.F__law_pick.kp A.b__law_pick pass0 (Ea.cons (Es.var 1 (by decide) rfl (.inl rfl) rfl rfl) (Ea.cons (Es.var 2 (by decide) rfl (.inl rfl) rfl rfl) Ea.nil rfl) rfl) rfl rfl rfl rfl) (Es.call 10 (c__law_pick) hG hr rfl A.g__law_pick A.F__law_pick.kp A.b__law_pick pass0 (Ea.cons (Es.var 1 (by decide) rfl (.inl rfl) rfl rfl) (Ea.cons (Es.var 3 (by decide) rfl (.inl rfl) rfl rfl) Ea.nil rfl) rfl) rfl rfl rfl rfl)) (Eg.name 7 (by decide) sc_law.nd rfl (.inl rfl) (.inr rfl)) rfl rfl rfl)
    (Sb.one (Ss.ret (Es.and (Es.b (Es.call 13 (c__law_field_right) hG hr rfl A.g__law_field_right A.F__law_field_right.kp A.b__law_field_right pass0 (Ea.cons (Es.var 7 (by decide) rfl (.inl rfl) rfl rfl) Ea.nil rfl) rfl rfl rfl rfl)) (Es.one (Es.call 13 (c__law_field_right) hG hr rfl A.g__law_field_right A.F__law_field_right.kp A.b__law_field_right pass0 (Ea.cons (Es.call 10 (c__law_pick) hG hr rfl A.g__law_pick A.F__law_pick.kp A.b__law_pick pass0 (Ea.cons (Es.var 1 (by decide) rfl (.inl rfl) rfl rfl) (Ea.cons (Es.var 3 (by decide) rfl (.inl rfl) rfl rfl) Ea.nil rfl) rfl) rfl rfl rfl rfl) Ea.nil rfl) rfl rfl rfl rfl)))))))))⟩

end Xk01
end

section
/-! the end of k01: printed by gen.py -/
set_option autoImplicit false
namespace Xk01
open PySem PySem.Spec PyProof.Rows L2 Pv
theorem fin {l : PySem.W.OpenLaw} {w : World} {K : PySem.W.Frag} {h : Heap} {mg : Str → Option Value} {fa : Addr} (X : K.In h) (G : h.Ns mainGlobals mg) (hfa : mg "law" = some (.ref fa))
    {f_is_integer : Addr} {od_is_integer an_is_integer : Option Addr} {sl_is_integer : Array (Option Value)} {oc_is_integer kV_is_integer dc_is_integer pm_is_integer cd_is_integer ct_is_integer : Value}
    (a_is_integer : PySem.W.nsIn K mainGlobals "is_integer" = some (some (.ref f_is_integer))) (l_is_integer : K.lookup f_is_integer = some ⟨oc_is_integer, od_is_integer, .func (PySem.W.fnOf "is_integer" "is_integer" (defArgs s_is_integer) (defBody s_is_integer) (defScope s_is_integer) .none kV_is_integer dc_is_integer pm_is_integer an_is_integer cd_is_integer ct_is_integer), sl_is_integer⟩) (c_is_integer : PySem.W.codeIn K cd_is_integer "is_integer" = true) (k_is_integer : PySem.W.keepIn K (.ref f_is_integer) = true)
    {f_is_prime : Addr} {od_is_prime an_is_prime : Option Addr} {sl_is_prime : Array (Option Value)} {oc_is_prime kV_is_prime dc_is_prime pm_is_prime cd_is_prime ct_is_prime : Value}
    (a_is_prime : PySem.W.nsIn K mainGlobals "is_prime" = some (some (.ref f_is_prime))) (l_is_prime : K.lookup f_is_prime = some ⟨oc_is_prime, od_is_prime, .func (PySem.W.fnOf "is_prime" "is_prime" (defArgs s_is_prime) (defBody s_is_prime) (defScope s_is_prime) .none kV_is_prime dc_is_prime pm_is_prime an_is_prime cd_is_prime ct_is_prime), sl_is_prime⟩) (c_is_prime : PySem.W.codeIn K cd_is_prime "is_prime" = true) (k_is_prime : PySem.W.keepIn K (.ref f_is_prime) = true)
    {f_number_power : Addr} {od_number_power an_number_power : Option Addr} {sl_number_power : Array (Option Value)} {oc_number_power kV_number_power dc_number_power pm_number_power cd_number_power ct_number_power : Value}
    (a_number_power : PySem.W.nsIn K mainGlobals "number_power" = some (some (.ref f_number_power))) (l_number_power : K.lookup f_number_power = some ⟨oc_number_power, od_number_power, .func (PySem.W.fnOf "number_power" "number_power" (defArgs s_number_power) (defBody s_number_power) (defScope s_number_power) .none kV_number_power dc_number_power pm_number_power an_number_power cd_number_power ct_number_power), sl_number_power⟩) (c_number_power : PySem.W.codeIn K cd_number_power "number_power" = true) (k_number_power : PySem.W.keepIn K (.ref f_number_power) = true)
    {f_inverse : Addr} {od_inverse an_inverse : Option Addr} {sl_inverse : Array (Option Value)} {oc_inverse kV_inverse dc_inverse pm_inverse cd_inverse ct_inverse : Value}
    (a_inverse : PySem.W.nsIn K mainGlobals "inverse" = some (some (.ref f_inverse))) (l_inverse : K.lookup f_inverse = some ⟨oc_inverse, od_inverse, .func (PySem.W.fnOf "inverse" "inverse" (defArgs s_inverse) (defBody s_inverse) (defScope s_inverse) .none kV_inverse dc_inverse pm_inverse an_inverse cd_inverse ct_inverse), sl_inverse⟩) (c_inverse : PySem.W.codeIn K cd_inverse "inverse" = true) (k_inverse : PySem.W.keepIn K (.ref f_inverse) = true)
    {f_is_square : Addr} {od_is_square an_is_square : Option Addr} {sl_is_square : Array (Option Value)} {oc_is_square kV_is_square dc_is_square pm_is_square cd_is_square ct_is_square : Value}
    (a_is_square : PySem.W.nsIn K mainGlobals "is_square" = some (some (.ref f_is_square))) (l_is_square : K.lookup f_is_square = some ⟨oc_is_square, od_is_square, .func (PySem.W.fnOf "is_square" "is_square" (defArgs s_is_square) (defBody s_is_square) (defScope s_is_square) .none kV_is_square dc_is_square pm_is_square an_is_square cd_is_square ct_is_square), sl_is_square⟩) (c_is_square : PySem.W.codeIn K cd_is_square "is_square" = true) (k_is_square : PySem.W.keepIn K (.ref f_is_square) = true)
    {f_root_of : Addr} {od_root_of an_root_of : Option Addr} {sl_root_of : Array (Option Value)} {oc_root_of kV_root_of dc_root_of pm_root_of cd_root_of ct_root_of : Value}
    (a_root_of : PySem.W.nsIn K mainGlobals "root_of" = some (some (.ref f_root_of))) (l_root_of : K.lookup f_root_of = some ⟨oc_root_of, od_root_of, .func (PySem.W.fnOf "root_of" "root_of" (defArgs s_root_of) (defBody s_root_of) (defScope s_root_of) .none kV_root_of dc_root_of pm_root_of an_root_of cd_root_of ct_root_of), sl_root_of⟩) (c_root_of : PySem.W.codeIn K cd_root_of "root_of" = true) (k_root_of : PySem.W.keepIn K (.ref f_root_of) = true)
    {f_spare : Addr} {od_spare an_spare : Option Addr} {sl_spare : Array (Option Value)} {oc_spare kV_spare dc_spare pm_spare cd_spare ct_spare : Value}
    (a_spare : PySem.W.nsIn K mainGlobals "spare" = some (some (.ref f_spare))) (l_spare : K.lookup f_spare = some ⟨oc_spare, od_spare, .func (PySem.W.fnOf "spare" "spare" (defArgs s_spare) (defBody s_spare) (defScope s_spare) .none kV_spare dc_spare pm_spare an_spare cd_spare ct_spare), sl_spare⟩) (c_spare : PySem.W.codeIn K cd_spare "spare" = true) (k_spare : PySem.W.keepIn K (.ref f_spare) = true)
    {f__law_deck : Addr} {od__law_deck an__law_deck : Option Addr} {sl__law_deck : Array (Option Value)} {oc__law_deck kV__law_deck dc__law_deck pm__law_deck cd__law_deck ct__law_deck : Value}
    (a__law_deck : PySem.W.nsIn K mainGlobals "_law_deck" = some (some (.ref f__law_deck))) (l__law_deck : K.lookup f__law_deck = some ⟨oc__law_deck, od__law_deck, .func (PySem.W.fnOf "_law_deck" "_law_deck" (defArgs s__law_deck) (defBody s__law_deck) (defScope s__law_deck) .none kV__law_deck dc__law_deck pm__law_deck an__law_deck cd__law_deck ct__law_deck), sl__law_deck⟩) (c__law_deck : PySem.W.codeIn K cd__law_deck "_law_deck" = true) (k__law_deck : PySem.W.keepIn K (.ref f__law_deck) = true)
    {f__law_draw : Addr} {od__law_draw an__law_draw : Option Addr} {sl__law_draw : Array (Option Value)} {oc__law_draw kV__law_draw dc__law_draw pm__law_draw cd__law_draw ct__law_draw : Value}
    (a__law_draw : PySem.W.nsIn K mainGlobals "_law_draw" = some (some (.ref f__law_draw))) (l__law_draw : K.lookup f__law_draw = some ⟨oc__law_draw, od__law_draw, .func (PySem.W.fnOf "_law_draw" "_law_draw" (defArgs s__law_draw) (defBody s__law_draw) (defScope s__law_draw) .none kV__law_draw dc__law_draw pm__law_draw an__law_draw cd__law_draw ct__law_draw), sl__law_draw⟩) (c__law_draw : PySem.W.codeIn K cd__law_draw "_law_draw" = true) (k__law_draw : PySem.W.keepIn K (.ref f__law_draw) = true)
    {f__law_primes : Addr} {od__law_primes an__law_primes : Option Addr} {sl__law_primes : Array (Option Value)} {oc__law_primes kV__law_primes dc__law_primes pm__law_primes cd__law_primes ct__law_primes : Value}
    (a__law_primes : PySem.W.nsIn K mainGlobals "_law_primes" = some (some (.ref f__law_primes))) (l__law_primes : K.lookup f__law_primes = some ⟨oc__law_primes, od__law_primes, .func (PySem.W.fnOf "_law_primes" "_law_primes" (defArgs s__law_primes) (defBody s__law_primes) (defScope s__law_primes) .none kV__law_primes dc__law_primes pm__law_primes an__law_primes cd__law_primes ct__law_primes), sl__law_primes⟩) (c__law_primes : PySem.W.codeIn K cd__law_primes "_law_primes" = true) (k__law_primes : PySem.W.keepIn K (.ref f__law_primes) = true)
    {f__law_pick : Addr} {od__law_pick an__law_pick : Option Addr} {sl__law_pick : Array (Option Value)} {oc__law_pick kV__law_pick dc__law_pick pm__law_pick cd__law_pick ct__law_pick : Value}
    (a__law_pick : PySem.W.nsIn K mainGlobals "_law_pick" = some (some (.ref f__law_pick))) (l__law_pick : K.lookup f__law_pick = some ⟨oc__law_pick, od__law_pick, .func (PySem.W.fnOf "_law_pick" "_law_pick" (defArgs s__law_pick) (defBody s__law_pick) (defScope s__law_pick) .none kV__law_pick dc__law_pick pm__law_pick an__law_pick cd__law_pick ct__law_pick), sl__law_pick⟩) (c__law_pick : PySem.W.codeIn K cd__law_pick "_law_pick" = true) (k__law_pick : PySem.W.keepIn K (.ref f__law_pick) = true)
    {f__law_is_prime : Addr} {od__law_is_prime an__law_is_prime : Option Addr} {sl__law_is_prime : Array (Option Value)} {oc__law_is_prime kV__law_is_prime dc__law_is_prime pm__law_is_prime cd__law_is_prime ct__law_is_prime : Value}
    (a__law_is_prime : PySem.W.nsIn K mainGlobals "_law_is_prime" = some (some (.ref f__law_is_prime))) (l__law_is_prime : K.lookup f__law_is_prime = some ⟨oc__law_is_prime, od__law_is_prime, .func (PySem.W.fnOf "_law_is_prime" "_law_is_prime" (defArgs s__law_is_prime) (defBody s__law_is_prime) (defScope s__law_is_prime) .none kV__law_is_prime dc__law_is_prime pm__law_is_prime an__law_is_prime cd__law_is_prime ct__law_is_prime), sl__law_is_prime⟩) (c__law_is_prime : PySem.W.codeIn K cd__law_is_prime "_law_is_prime" = true) (k__law_is_prime : PySem.W.keepIn K (.ref f__law_is_prime) = true)
    {f__law_odd : Addr} {od__law_odd an__law_odd : Option Addr} {sl__law_odd : Array (Option Value)} {oc__law_odd kV__law_odd dc__law_odd pm__law_odd cd__law_odd ct__law_odd : Value}
    (a__law_odd : PySem.W.nsIn K mainGlobals "_law_odd" = some (some (.ref f__law_odd))) (l__law_odd : K.lookup f__law_odd = some ⟨oc__law_odd, od__law_odd, .func (PySem.W.fnOf "_law_odd" "_law_odd" (defArgs s__law_odd) (defBody s__law_odd) (defScope s__law_odd) .none kV__law_odd dc__law_odd pm__law_odd an__law_odd cd__law_odd ct__law_odd), sl__law_odd⟩) (c__law_odd : PySem.W.codeIn K cd__law_odd "_law_odd" = true) (k__law_odd : PySem.W.keepIn K (.ref f__law_odd) = true)
    {f__law_field_right : Addr} {od__law_field_right an__law_field_right : Option Addr} {sl__law_field_right : Array (Option Value)} {oc__law_field_right kV__law_field_right dc__law_field_right pm__law_field_right cd__law_field_right ct__law_field_right : Value}
    (a__law_field_right : PySem.W.nsIn K mainGlobals "_law_field_right" = some (some (.ref f__law_field_right))) (l__law_field_right : K.lookup f__law_field_right = some ⟨oc__law_field_right, od__law_field_right, .func (PySem.W.fnOf "_law_field_right" "_law_field_right" (defArgs s__law_field_right) (defBody s__law_field_right) (defScope s__law_field_right) .none kV__law_field_right dc__law_field_right pm__law_field_right an__law_field_right cd__law_field_right ct__law_field_right), sl__law_field_right⟩) (c__law_field_right : PySem.W.codeIn K cd__law_field_right "_law_field_right" = true) (k__law_field_right : PySem.W.keepIn K (.ref f__law_field_right) = true)
    {f_law : Addr} {od_law an_law : Option Addr} {sl_law : Array (Option Value)} {oc_law kV_law dc_law pm_law cd_law ct_law : Value}
    (a_law : PySem.W.nsIn K mainGlobals "law" = some (some (.ref f_law))) (l_law : K.lookup f_law = some ⟨oc_law, od_law, .func (PySem.W.fnOf "law" "law" (defArgs s_law) (defBody s_law) (defScope s_law) .none kV_law dc_law pm_law an_law cd_law ct_law), sl_law⟩) (c_law : PySem.W.codeIn K cd_law "law" = true) (k_law : PySem.W.keepIn K (.ref f_law) = true)
    {v_GREATEST_PRIME : Nat} (e_GREATEST_PRIME : PySem.W.nsIn K mainGlobals "GREATEST_PRIME" = some (some (.int 199 v_GREATEST_PRIME)))
    {v_LEAST_PRIME : Nat} (e_LEAST_PRIME : PySem.W.nsIn K mainGlobals "LEAST_PRIME" = some (some (.int 7 v_LEAST_PRIME)))
    (y_bool : PySem.W.nsIn K mainGlobals "bool" = some none)
    (y_int : PySem.W.nsIn K mainGlobals "int" = some none)
    (y_isinstance : PySem.W.nsIn K mainGlobals "isinstance" = some none)
    (y_len : PySem.W.nsIn K mainGlobals "len" = some none)
    (y_list : PySem.W.nsIn K mainGlobals "list" = some none)
    (y_range : PySem.W.nsIn K mainGlobals "range" = some none)
    (y_repr : PySem.W.nsIn K mainGlobals "repr" = some none)
    (y_str : PySem.W.nsIn K mainGlobals "str" = some none) :
    ∃ fd : FuncData, (∀ (s : Shared) (u : Value), BindsTo s fd ⟨[u], []⟩ [("_law_script", u)]) ∧ ∀ (a : Addr) (ns : List Int), ns.length ≤ 63 → ∃ sp : Sp, (∀ H : Hp, (∀ b, H b = none ∨ ∃ o xs, H b = some (.frz o (.lst xs))) → SqL K H a (ns.map V.int) → sp [.ref a] H (fun v _ => v = .bl true) fun _ _ _ => False) ∧ ∀ base : Heap, K.In base → base.Ns mainGlobals mg → FnG l.prog w K mg base CX0 5 fa fd ["_law_script"] sp := by
  have e := hfa.symm.trans (PySem.W.mg_of X G a_law)
  have A : { A : Fa K mg // A.f_law = f_law ∧ A.d_law = PySem.W.fnOf "law" "law" (defArgs s_law) (defBody s_law) (defScope s_law) .none kV_law dc_law pm_law an_law cd_law ct_law } := ⟨{
    f_is_integer := f_is_integer,
    d_is_integer := _,
    F_is_integer := fun_mk (st := s_is_integer) l_is_integer c_is_integer k_is_integer,
    g_is_integer := PySem.W.mg_of X G a_is_integer,
    b_is_integer := (fun_mk (st := s_is_integer) l_is_integer c_is_integer k_is_integer).binds (ps := p_is_integer) (fun _ _ _ _ _ _ us hl => match us, hl with | [_], _ => rfl),
    f_is_prime := f_is_prime,
    d_is_prime := _,
    F_is_prime := fun_mk (st := s_is_prime) l_is_prime c_is_prime k_is_prime,
    g_is_prime := PySem.W.mg_of X G a_is_prime,
    b_is_prime := (fun_mk (st := s_is_prime) l_is_prime c_is_prime k_is_prime).binds (ps := p_is_prime) (fun _ _ _ _ _ _ us hl => match us, hl with | [_], _ => rfl),
    f_number_power := f_number_power,
    d_number_power := _,
    F_number_power := fun_mk (st := s_number_power) l_number_power c_number_power k_number_power,
    g_number_power := PySem.W.mg_of X G a_number_power,
    b_number_power := (fun_mk (st := s_number_power) l_number_power c_number_power k_number_power).binds (ps := p_number_power) (fun _ _ _ _ _ _ us hl => match us, hl with | [_, _, _], _ => rfl),
    f_inverse := f_inverse,
    d_inverse := _,
    F_inverse := fun_mk (st := s_inverse) l_inverse c_inverse k_inverse,
    g_inverse := PySem.W.mg_of X G a_inverse,
    b_inverse := (fun_mk (st := s_inverse) l_inverse c_inverse k_inverse).binds (ps := p_inverse) (fun _ _ _ _ _ _ us hl => match us, hl with | [_, _], _ => rfl),
    f_is_square := f_is_square,
    d_is_square := _,
    F_is_square := fun_mk (st := s_is_square) l_is_square c_is_square k_is_square,
    g_is_square := PySem.W.mg_of X G a_is_square,
    b_is_square := (fun_mk (st := s_is_square) l_is_square c_is_square k_is_square).binds (ps := p_is_square) (fun _ _ _ _ _ _ us hl => match us, hl with | [_, _], _ => rfl),
    f_root_of := f_root_of,
    d_root_of := _,
    F_root_of := fun_mk (st := s_root_of) l_root_of c_root_of k_root_of,
    g_root_of := PySem.W.mg_of X G a_root_of,
    b_root_of := (fun_mk (st := s_root_of) l_root_of c_root_of k_root_of).binds (ps := p_root_of) (fun _ _ _ _ _ _ us hl => match us, hl with | [_, _], _ => rfl),
    f_spare := f_spare,
    d_spare := _,
    F_spare := fun_mk (st := s_spare) l_spare c_spare k_spare,
    g_spare := PySem.W.mg_of X G a_spare,
    b_spare := (fun_mk (st := s_spare) l_spare c_spare k_spare).binds (ps := p_spare) (fun _ _ _ _ _ _ us hl => match us, hl with | [_], _ => rfl),
    f__law_deck := f__law_deck,
    d__law_deck := _,
    F__law_deck := fun_mk (st := s__law_deck) l__law_deck c__law_deck k__law_deck,
    g__law_deck := PySem.W.mg_of X G a__law_deck,
    b__law_deck := (fun_mk (st := s__law_deck) l__law_deck c__law_deck k__law_deck).binds (ps := p__law_deck) (fun _ _ _ _ _ _ us hl => match us, hl with | [_], _ => rfl),
    f__law_draw := f__law_draw,
    d__law_draw := _,
    F__law_draw := fun_mk (st := s__law_draw) l__law_draw c__law_draw k__law_draw,
    g__law_draw := PySem.W.mg_of X G a__law_draw,
    b__law_draw := (fun_mk (st := s__law_draw) l__law_draw c__law_draw k__law_draw).binds (ps := p__law_draw) (fun _ _ _ _ _ _ us hl => match us, hl with | [_, _], _ => rfl),
    f__law_primes := f__law_primes,
    d__law_primes := _,
    F__law_primes := fun_mk (st := s__law_primes) l__law_primes c__law_primes k__law_primes,
    g__law_primes := PySem.W.mg_of X G a__law_primes,
    b__law_primes := (fun_mk (st := s__law_primes) l__law_primes c__law_primes k__law_primes).binds (ps := p__law_primes) (fun _ _ _ _ _ _ us hl => match us, hl with | [_], _ => rfl),
    f__law_pick := f__law_pick,
    d__law_pick := _,
    F__law_pick := fun_mk (st := s__law_pick) l__law_pick c__law_pick k__law_pick,
    g__law_pick := PySem.W.mg_of X G a__law_pick,
    b__law_pick := (fun_mk (st := s__law_pick) l__law_pick c__law_pick k__law_pick).binds (ps := p__law_pick) (fun _ _ _ _ _ _ us hl => match us, hl with | [_, _], _ => rfl),
    f__law_is_prime := f__law_is_prime,
    d__law_is_prime := _,
    F__law_is_prime := fun_mk (st := s__law_is_prime) l__law_is_prime c__law_is_prime k__law_is_prime,
    g__law_is_prime := PySem.W.mg_of X G a__law_is_prime,
    b__law_is_prime := (fun_mk (st := s__law_is_prime) l__law_is_prime c__law_is_prime k__law_is_prime).binds (ps := p__law_is_prime) (fun _ _ _ _ _ _ us hl => match us, hl with | [_, _], _ => rfl),
    f__law_odd := f__law_odd,
    d__law_odd := _,
    F__law_odd := fun_mk (st := s__law_odd) l__law_odd c__law_odd k__law_odd,
    g__law_odd := PySem.W.mg_of X G a__law_odd,
    b__law_odd := (fun_mk (st := s__law_odd) l__law_odd c__law_odd k__law_odd).binds (ps := p__law_odd) (fun _ _ _ _ _ _ us hl => match us, hl with | [_, _], _ => rfl),
    f__law_field_right := f__law_field_right,
    d__law_field_right := _,
    F__law_field_right := fun_mk (st := s__law_field_right) l__law_field_right c__law_field_right k__law_field_right,
    g__law_field_right := PySem.W.mg_of X G a__law_field_right,
    b__law_field_right := (fun_mk (st := s__law_field_right) l__law_field_right c__law_field_right k__law_field_right).binds (ps := p__law_field_right) (fun _ _ _ _ _ _ us hl => match us, hl with | [_], _ => rfl),
    f_law := f_law,
    d_law := _,
    F_law := fun_mk (st := s_law) l_law c_law k_law,
    g_law := PySem.W.mg_of X G a_law,
    b_law := (fun_mk (st := s_law) l_law c_law k_law).binds (ps := p_law) (fun _ _ _ _ _ _ us hl => match us, hl with | [_], _ => rfl),
    kb_root_of_0 := kb_of (fun_mk (st := s_root_of) l_root_of c_root_of k_root_of) (fun _ _ _ _ _ _ us ws h1 h2 => match us, ws, h1, h2 with | [], [_, _], _, _ => rfl),
    kb_is_square_0 := kb_of (fun_mk (st := s_is_square) l_is_square c_is_square k_is_square) (fun _ _ _ _ _ _ us ws h1 h2 => match us, ws, h1, h2 with | [], [_, _], _, _ => rfl),
    kb_inverse_0 := kb_of (fun_mk (st := s_inverse) l_inverse c_inverse k_inverse) (fun _ _ _ _ _ _ us ws h1 h2 => match us, ws, h1, h2 with | [], [_, _], _, _ => rfl),
    kb_spare_0 := kb_of (fun_mk (st := s_spare) l_spare c_spare k_spare) (fun _ _ _ _ _ _ us ws h1 h2 => match us, ws, h1, h2 with | [], [_], _, _ => rfl),
    kb_is_prime_0 := kb_of (fun_mk (st := s_is_prime) l_is_prime c_is_prime k_is_prime) (fun _ _ _ _ _ _ us ws h1 h2 => match us, ws, h1, h2 with | [], [_], _, _ => rfl),
    v_GREATEST_PRIME := v_GREATEST_PRIME,
    g_GREATEST_PRIME := PySem.W.mg_of X G e_GREATEST_PRIME,
    v_LEAST_PRIME := v_LEAST_PRIME,
    g_LEAST_PRIME := PySem.W.mg_of X G e_LEAST_PRIME,
    z_bool := PySem.W.mg_none_of X G y_bool,
    z_int := PySem.W.mg_none_of X G y_int,
    z_isinstance := PySem.W.mg_none_of X G y_isinstance,
    z_len := PySem.W.mg_none_of X G y_len,
    z_list := PySem.W.mg_none_of X G y_list,
    z_range := PySem.W.mg_none_of X G y_range,
    z_repr := PySem.W.mg_none_of X G y_repr,
    z_str := PySem.W.mg_none_of X G y_str }, rfl, rfl⟩
  obtain ⟨A, h1, h2⟩ := A
  have h3 : fa = A.f_law := by
    rw [h1]
    exact Value.ref.inj (Option.some.inj e)
  subst h3
  refine ⟨A.d_law, fun s u => by rw [h2]; exact .of_eq rfl, fun a ns hl => ?_⟩
  let C0 : Ct := { K := K, n1 := n_1, n2 := n_2, n3 := n_3, sc := some (a, ns), H0 := fun _ => none, F0 := ⟨fun _ => none, none, none⟩, Φ := fun _ _ _ => .no, fu := 0 }
  exact ⟨spS C0 (FT (T ns) (fun _ => none) (4 + 1) 14) 1, fun H _ hS => law_sp (C := C0) rfl hS (law_val ns hl), fun base _ _ => ok_law (C := C0) A a ns ⟨rfl, rfl, rfl, rfl⟩ 0⟩
end Xk01
open PySem PySem.W PyProof.Rows
set_option maxHeartbeats 0 in
theorem PySem.Challenge.cw_craterhouse_k01_primes_and_numbers_holds : PySem.Challenge.rw_craterhouse_k01_primes_and_numbers.Holds := by
  w_on; o_law; k_head; (case hw => w_witness2)
  k_fill
  refine Pv.walkEnd (l := PySem.Challenge.rw_craterhouse_k01_primes_and_numbers) (n := 63) (k := 5) (x := "_law_script") rfl (by decide) rfl ⟨rfl, by decide, by decide⟩ (fun w h Y => PySem.W.kIn_of Y) ?F
  case F =>
    intro w mg fa h KX G hmg
    refine' Xk01.fin KX G hmg ?a_is_integer ?l_is_integer ?c_is_integer ?k_is_integer ?a_is_prime ?l_is_prime ?c_is_prime ?k_is_prime ?a_number_power ?l_number_power ?c_number_power ?k_number_power ?a_inverse ?l_inverse ?c_inverse ?k_inverse ?a_is_square ?l_is_square ?c_is_square ?k_is_square ?a_root_of ?l_root_of ?c_root_of ?k_root_of ?a_spare ?l_spare ?c_spare ?k_spare ?a__law_deck ?l__law_deck ?c__law_deck ?k__law_deck ?a__law_draw ?l__law_draw ?c__law_draw ?k__law_draw ?a__law_primes ?l__law_primes ?c__law_primes ?k__law_primes ?a__law_pick ?l__law_pick ?c__law_pick ?k__law_pick ?a__law_is_prime ?l__law_is_prime ?c__law_is_prime ?k__law_is_prime ?a__law_odd ?l__law_odd ?c__law_odd ?k__law_odd ?a__law_field_right ?l__law_field_right ?c__law_field_right ?k__law_field_right ?a_law ?l_law ?c_law ?k_law ?e_GREATEST_PRIME ?e_LEAST_PRIME ?y_bool ?y_int ?y_isinstance ?y_len ?y_list ?y_range ?y_repr ?y_str
    (case a_is_integer => k_is)
    (case l_is_integer => k_is)
    (case c_is_integer => k_is)
    (case k_is_integer => k_is)
    (case a_is_prime => k_is)
    (case l_is_prime => k_is)
    (case c_is_prime => k_is)
    (case k_is_prime => k_is)
    (case a_number_power => k_is)
    (case l_number_power => k_is)
    (case c_number_power => k_is)
    (case k_number_power => k_is)
    (case a_inverse => k_is)
    (case l_inverse => k_is)
    (case c_inverse => k_is)
    (case k_inverse => k_is)
    (case a_is_square => k_is)
    (case l_is_square => k_is)
    (case c_is_square => k_is)
    (case k_is_square => k_is)
    (case a_root_of => k_is)
    (case l_root_of => k_is)
    (case c_root_of => k_is)
    (case k_root_of => k_is)
    (case a_spare => k_is)
    (case l_spare => k_is)
    (case c_spare => k_is)
    (case k_spare => k_is)
    (case a__law_deck => k_is)
    (case l__law_deck => k_is)
    (case c__law_deck => k_is)
    (case k__law_deck => k_is)
    (case a__law_draw => k_is)
    (case l__law_draw => k_is)
    (case c__law_draw => k_is)
    (case k__law_draw => k_is)
    (case a__law_primes => k_is)
    (case l__law_primes => k_is)
    (case c__law_primes => k_is)
    (case k__law_primes => k_is)
    (case a__law_pick => k_is)
    (case l__law_pick => k_is)
    (case c__law_pick => k_is)
    (case k__law_pick => k_is)
    (case a__law_is_prime => k_is)
    (case l__law_is_prime => k_is)
    (case c__law_is_prime => k_is)
    (case k__law_is_prime => k_is)
    (case a__law_odd => k_is)
    (case l__law_odd => k_is)
    (case c__law_odd => k_is)
    (case k__law_odd => k_is)
    (case a__law_field_right => k_is)
    (case l__law_field_right => k_is)
    (case c__law_field_right => k_is)
    (case k__law_field_right => k_is)
    (case a_law => k_is)
    (case l_law => k_is)
    (case c_law => k_is)
    (case k_law => k_is)
    (case e_GREATEST_PRIME => k_is)
    (case e_LEAST_PRIME => k_is)
    (case y_bool => k_is)
    (case y_int => k_is)
    (case y_isinstance => k_is)
    (case y_len => k_is)
    (case y_list => k_is)
    (case y_range => k_is)
    (case y_repr => k_is)
    (case y_str => k_is)
end
