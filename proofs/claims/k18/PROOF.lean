import PyProof.Rows.All
import Wide.All
import OpenK.AllK
import Wide.FinOn
import HandS.ForMost
import HandS.Deep
import HandS.IsInst
import HandS.Wide
import HandS.SortInts
import HandS.SetKeys
import HandS.TupAny
import HandS.TupLe
import HandS.Style
import HandS.Conv
import HandS.NoneIn
import KE.GoesEnum
import HandS.ForExc
import HandS.CallSlots
import HandS.ExcField
import HandS.ExcIs
import HandS.TryMany
import KE.KExcInit
import HandS.Lambda
import HandS.TupMul
import HandS.Zip
import HandS.NamedTupSort
import KE.DatumOrd
import KE.KDictCopyH
import HandS.More
import KE.KNest
import HandS.Small
import KE.KIsAll
import KE.KExcIs
import PyProof.InstNe
import KE.KDictList
import HandS.DictSubView
import KE.KDictWalk
import KE.KDictItemsList
import HandS.ListItems
import KE.KDictSum
import PySem.Challenge.RW_craterhouse_k18_curves_and_pairs_of_a_tr
set_option Elab.async false
set_option linter.all false
set_option maxRecDepth 100000
section
set_option autoImplicit false
namespace Pv
open PySem

abbrev D := PyData
structure Dk where
  cells : List Int
  mixed : Int
  turn : Int
abbrev G := Option Dk
abbrev Sl := List (Option D)

inductive Res (α : Type) where
  | ok (a : α) (g : G)
  | exc (c : Nat) (vs : List D) (g : G)
  | no
def Res.bind {α β : Type} : Res α → (α → G → Res β) → Res β
  | .ok a g, f => f a g
  | .exc c vs g, _ => .exc c vs g
  | .no, _ => .no
def lift {α : Type} : Option α → G → Res α
  | some a, g => .ok a g
  | none, _ => .no
@[simp] theorem bind_ok {α β : Type} (a : α) (g : G) (f : α → G → Res β) : (Res.ok a g).bind f = f a g := rfl
@[simp] theorem bind_no {α β : Type} (f : α → G → Res β) : (Res.no : Res α).bind f = .no := rfl
@[simp] theorem bind_exc {α β : Type} (c : Nat) (vs : List D) (g : G) (f : α → G → Res β) : (Res.exc c vs g : Res α).bind f = .exc c vs g := rfl
@[simp] theorem lift_some {α : Type} (a : α) (g : G) : lift (some a) g = .ok a g := rfl
@[simp] theorem lift_none {α : Type} (g : G) : lift (none : Option α) g = .no := rfl
theorem bind_eq_ok {α β : Type} {r : Res α} {f : α → G → Res β} {b : β} {g : G} (h : r.bind f = .ok b g) : ∃ a g1, r = .ok a g1 ∧ f a g1 = .ok b g := by
  cases r with
  | ok a g1 => exact ⟨a, g1, rfl, h⟩
  | exc c vs g1 => cases h
  | no => cases h
theorem lift_eq_ok {α : Type} {o : Option α} {g g' : G} {a : α} (h : lift o g = .ok a g') : o = some a ∧ g' = g := by
  cases o with
  | none => cases h
  | some b => cases h; exact ⟨rfl, rfl⟩

def tokD (n : Int) : D := .dict [(.list [], .int n)]
def isDeck : List (D × D) → Bool
  | (.list _, _) :: _ => true
  | (.none, _) :: _ => true
  | _ => false
def objD (c : Nat) (kvs : List (D × D)) : D := .dict ((.list [.int c], .none) :: kvs)
def tdD (kvs : List (D × D)) : D := .dict ((.none, .none) :: kvs)
def isOb (c : Nat) : D → Bool
  | .dict ((.list [.int i], .none) :: _) => decide (i = c)
  | _ => false
def tdOf : List (D × D) → Option (List (D × D))
  | (.none, .none) :: r => some r
  | _ => none

def ndD (kvs : List (D × D)) : D := .dict ((.none, .bool true) :: kvs)
def ndOf : List (D × D) → Option (List (D × D))
  | (.none, .bool true) :: r => some r
  | _ => none
abbrev NI := Option (List Int)

inductive Bop where | add | sub | mul | fdiv | mod | pow | shl | shr | band | bor | bxor | lcat | lrep
inductive Cop where | eq | ne | lt | le | gt | ge | isin | notin | isN | notN
def mulOk (i j : Int) : Bool := decide (i.natAbs < 18446744073709551616) || decide (j.natAbs < 18446744073709551616) || decide (i.natAbs.log2 + j.natAbs.log2 < 1000000)
def powOk (i j : Int) : Bool := decide (0 ≤ j) && decide (j ≤ 1000000) && decide (i.natAbs < 18446744073709551616)
def lineN : Nat := 16777216
def binV : Bop → D → D → Option D
  | .add, .int i, .int j => some (.int (i + j))
  | .sub, .int i, .int j => some (.int (i - j))
  | .mul, .int i, .int j => if mulOk i j then some (.int (i * j)) else none
  | .fdiv, .int i, .int j => if decide (0 < j) && decide (j.natAbs.log2 < 9000) then some (.int (i / j)) else if decide (j < 0) && decide (j.natAbs.log2 < 9000) then some (.int (i.fdiv j)) else none
  | .mod, .int i, .int j => if decide (0 < j) then some (.int (i % j)) else none
  | .pow, .int i, .int j => if powOk i j then some (.int (i ^ j.toNat)) else none
  | .shl, .int i, .int j => if powOk i j then some (.int (i * 2 ^ j.toNat)) else none
  | .shr, .int i, .int j => if decide (0 ≤ j) then some (.int (i / 2 ^ j.toNat)) else none
  | .band, .int i, .int j => some (.int (Builtin.bitAnd i j))
  | .bor, .int i, .int j => some (.int (Builtin.bitOr i j))
  | .bxor, .int i, .int j => some (.int (Builtin.bitXor i j))
  | .add, .str x, .str y => if decide (x.length + y.length ≤ lineN) then some (.str (x ++ y)) else none
  | .add, .list xs, .list ys => if decide (xs.length + ys.length ≤ lineN) then some (.list (xs ++ ys)) else none
  | .add, .tuple xs, .tuple ys => if decide (xs.length + ys.length ≤ lineN) then some (.tuple (xs ++ ys)) else none
  | .mul, .list xs, .int k => if decide (k.natAbs < 16777217) && decide (xs.length * k.toNat ≤ lineN) then some (.list (List.replicate k.toNat xs).flatten) else none
  | .mul, .tuple xs, .int k => if decide (1 ≤ k) && decide (k ≤ 1000) && decide (1 ≤ xs.length) && decide (xs.length ≤ 1000) then some (.tuple (List.replicate k.toNat xs).flatten) else none
  | .lcat, .list xs, .list ys => if decide (xs.length + ys.length ≤ lineN) then some (.list (xs ++ ys)) else none
  | .lrep, .list xs, .int k => if decide (k.natAbs < 16777217) && decide (xs.length * k.toNat ≤ lineN) then some (.list (List.replicate k.toNat xs).flatten) else none
  | _, _, _ => none
def isInt : D → Bool
  | .int _ => true
  | _ => false
def shp (d : D) : Bool := SeqAt.shaped d
def lensV : D → D → Option Bool
  | .list xs, .list ys => if decide (xs.length = ys.length) then none else some false
  | _, _ => none
def eqD : D → D → Option Bool
  | .int i, .int j => some (decide (i = j))
  | .bool i, .bool j => some (i == j)
  | .str x, .str y => some (decide (x = y))
  | .none, .none => some true
  | x, y => if shp x && shp y then some (PyData.eqv x y) else lensV x y
def intsOf : List D → Option (List Int)
  | [] => some []
  | .int i :: r => (intsOf r).map (i :: ·)
  | _ :: _ => none
def ltT : D → D → Option Bool
  | .int i, .int j => some (decide (i < j))
  | .tuple xs, .tuple ys => match intsOf xs, intsOf ys with
    | some ns, some ms => some (HT.lexLt ns ms)
    | _, _ => none
  | _, _ => none
def inD (x : D) : D → Option Bool
  | .list ds => if shp x && shp (.list ds) then some (ds.any fun z => PyData.eqv z x) else none
  | .tuple ds => if shp x && shp (.tuple ds) then some (ds.any fun z => PyData.eqv z x) else none
  | _ => none
def tupsOf : List D → Option (List (List Int))
  | [] => some []
  | .tuple ds :: r => match intsOf ds, tupsOf r with
    | some (n :: ns), some ts => some ((n :: ns) :: ts)
    | _, _ => none
  | _ :: _ => none
def boolsOf : List D → Option (List Bool)
  | [] => some []
  | .bool b :: r => (boolsOf r).map (b :: ·)
  | _ :: _ => none
def tupD (ns : List Int) : D := .tuple (ns.map .int)
def keyD : D → Option L2.Key
  | .int i => some (.inl i)
  | .str x => some (.inr x)
  | _ => none
def keysOf : List D → Option (List L2.Key)
  | [] => some []
  | d :: ds => match keyD d, keysOf ds with
    | some k, some ks => some (k :: ks)
    | _, _ => none
def keyT : D → Option (List L2.Key)
  | .tuple ds => keysOf ds
  | _ => none
def keyN : D → Option NI
  | .none => some none
  | .tuple ds => (intsOf ds).map some
  | _ => none
def cmpV : Cop → D → D → Option Bool
  | .eq, x, y => eqD x y
  | .ne, x, y => (eqD x y).map (!·)
  | .lt, x, y => ltT x y
  | .gt, .int i, .int j => some (decide (j < i))
  | .le, .int i, .int j => some (decide (i ≤ j))
  | .ge, .int i, .int j => some (decide (j ≤ i))
  | .isN, x, .none => some (match x with | .none => true | _ => false)
  | .notN, x, .none => some (match x with | .none => false | _ => true)
  | .isN, .bool a, .bool b => some (decide (a = b))
  | .notN, .bool a, .bool b => some (!decide (a = b))
  | .isin, x, y => inD x y
  | .notin, x, y => (inD x y).map (!·)
  | _, _, _ => none
def truV : D → Option Bool
  | .none => some false
  | .bool b => some b
  | .int i => some (i != 0)
  | .str x => if decide (x.length ≤ lineN) then some (decide (x.length ≠ 0)) else none
  | .list xs => some (!xs.isEmpty)
  | .tuple xs => some (!xs.isEmpty)
  | .dict _ => none

def ixD (xs : List D) (i : Int) : Option D := L2.atI xs i
def idxV : D → D → Option D
  | .list xs, .int i => ixD xs i
  | .tuple xs, .int i => ixD xs i
  | _, _ => none
def optI : D → Option (Option Int)
  | .none => some none
  | .int i => some (some i)
  | _ => none
def cutD (xs : List D) (lo hi : Option Int) : List D := (xs.drop (HT.sIx xs.length 0 lo)).take (HT.sIx xs.length xs.length hi - HT.sIx xs.length 0 lo)
def slcV : D → D → D → Option D
  | .list xs, l, h => match optI l, optI h with
    | some lo, some hi => some (.list (cutD xs lo hi))
    | _, _ => none
  | .tuple xs, l, h => match optI l, optI h with
    | some lo, some hi => some (.tuple (cutD xs lo hi))
    | _, _ => none
  | _, _, _ => none
def revV : D → Option D
  | .list xs => some (.list xs.reverse)
  | .tuple xs => some (.tuple xs.reverse)
  | _ => none

inductive Bi where | all | len | abs | min2 | max2 | sum | toInt | toStr | toList | toTuple | isInt | isBool | isStr | isTuple | isList | repr | sorted | listRange1 | listRange2 | divmod | sortSet | maxL | minL | any | anyI | upper | isdigit | lcnt
def maxI : Int → List Int → Int
  | n, [] => n
  | n, x :: r => maxI (if n < x then x else n) r
def minI : Int → List Int → Int
  | n, [] => n
  | n, x :: r => minI (if x < n then x else n) r
def lenV : D → Option D
  | .list xs => some (.int xs.length)
  | .tuple xs => some (.int xs.length)
  | .str x => if decide (x.length ≤ lineN) then some (.int x.length) else none
  | _ => none
def isDk : D → Bool
  | .dict kvs => isDeck kvs
  | _ => false
def isObj : D → Bool
  | .dict ((.list [.int _], .none) :: _) => true
  | _ => false
def rangeD (a : Int) (n : Nat) : List D := (List.range n).map fun (k : Nat) => .int (a + k)
def downD (a : Int) (n : Nat) : List D := (List.range n).map fun (k : Nat) => .int (a - k)
def scalD : D → Bool
  | .none | .bool _ | .int _ | .str _ => true
  | _ => false
mutual
def flatD : D → Bool
  | .none | .bool _ | .int _ | .str _ => true
  | .list xs | .tuple xs => flatL xs
  | .dict kvs => !isDeck kvs && flatK kvs
def flatL : List D → Bool
  | [] => true
  | x :: xs => flatD x && flatL xs
def flatK : List (D × D) → Bool
  | [] => true
  | (k, v) :: r => (keyD k).isSome && flatD v && flatK r
end
def showOk (d : D) : Bool := (shp d || (flatD d && decide (d.depth ≤ 64))) && d.showable && decide (d.shown.length ≤ lineN)
def insI (x : Int) : List Int → List Int
  | [] => [x]
  | y :: r => if x ≤ y then x :: y :: r else y :: insI x r
def sortI (xs : List Int) : List Int := xs.foldr insI []
def insT (x : List Int) : List (List Int) → List (List Int)
  | [] => [x]
  | y :: r => if HT.lexLt y x then y :: insT x r else x :: y :: r
def sortT (xs : List (List Int)) : List (List Int) := xs.foldr insT []
def sortV (xs : List D) : Option D := match intsOf xs with
  | some ns => some (.list ((sortI ns).map .int))
  | none => (tupsOf xs).map fun ts => .list ((sortT ts).map tupD)
def insS (x : Int) : List Int → List Int
  | [] => [x]
  | y :: r => if x < y then x :: y :: r else if x = y then y :: r else y :: insS x r
def setI (xs : List Int) : List Int := xs.foldr insS []
def minT : List Int → List (List Int) → List Int
  | t, [] => t
  | t, x :: r => minT (if HT.lexLt x t then x else t) r
def biV : Bi → List D → Option D
  | .divmod, [.int i, .int j] => if decide (j ≠ 0) && decide (j.natAbs < 1073741824) then some (.tuple [.int (i.fdiv j), .int (i.fmod j)]) else none
  | .sortSet, [.list xs] => match intsOf xs with
    | some ns => if decide (ns.length ≤ 60) then some (.list ((setI ns).map .int)) else none
    | none => none
  | .all, [.list xs] => (boolsOf xs).map fun bs => .bool (bs.all id)
  | .len, [x] => lenV x
  | .abs, [.int i] => some (.int (if i < 0 then -i else i))
  | .min2, [.int i, .int j] => some (.int (if j < i then j else i))
  | .max2, [.int i, .int j] => some (.int (if j > i then j else i))
  | .sum, [.list xs] => (intsOf xs).map fun ns => .int ns.sum
  | .toInt, [.int i] => some (.int i)
  | .toInt, [.bool b] => some (.int (if b then 1 else 0))
  | .maxL, [.list xs] => match intsOf xs with
    | some (n :: ns) => some (.int (maxI n ns))
    | _ => none
  | .minL, [.list xs] => match intsOf xs with
    | some (n :: ns) => some (.int (minI n ns))
    | some [] => none
    | none => match tupsOf xs with
      | some (t :: ts) => some (tupD (minT t ts))
      | _ => none
  | .upper, [.str x] => if decide (x.length ≤ 5592405) then some (.str (Txt.upper x)) else none
  | .isdigit, [.str x] => some (.bool (Txt.isdigit x))
  | .lcnt, [.list xs, .int k] => (intsOf xs).map fun ns => .int (ns.count k : Nat)
  | .any, [.list xs] => (boolsOf xs).map fun bs => .bool (bs.any id)
  | .anyI, [.list xs] => (intsOf xs).map fun ns => .bool (ns.any (· != 0))
  | .toStr, [.str x] => some (.str x)
  | .toStr, [.list xs] => if showOk (.list xs) && shp (.list xs) then some (.str (PyData.shown (.list xs))) else none
  | .toStr, [.tuple xs] => if showOk (.tuple xs) && shp (.tuple xs) then some (.str (PyData.shown (.tuple xs))) else none
  | .toStr, [.int i] => if decide (i.natAbs.log2 < 1920) then some (.str (toString i)) else none
  | .toList, [.list xs] => some (.list xs)
  | .toList, [.tuple xs] => some (.list xs)
  | .toTuple, [.list xs] => some (.tuple xs)
  | .toTuple, [.tuple xs] => some (.tuple xs)
  | .isInt, [x] => if isDk x && !isObj x then none else some (.bool (match x with | .int _ => true | .bool _ => true | _ => false))
  | .isBool, [x] => if isDk x && !isObj x then none else some (.bool (match x with | .bool _ => true | _ => false))
  | .isStr, [x] => if isDk x && !isObj x then none else some (.bool (match x with | .str _ => true | _ => false))
  | .isTuple, [x] => if isDk x && !isObj x then none else some (.bool (match x with | .tuple _ => true | _ => false))
  | .isList, [x] => if isDk x && !isObj x then none else some (.bool (match x with | .list _ => true | _ => false))
  | .repr, [x] => if showOk x then some (.str x.shown) else none
  | .sorted, [.list xs] => sortV xs
  | .sorted, [.tuple xs] => (tupsOf xs).map fun ts => .list ((sortT ts).map tupD)
  | .sorted, [.dict kvs] => match tdOf kvs with
    | some r => (tupsOf (r.map (·.1))).map fun ts => .list ((sortT ts).map tupD)
    | none => none
  | .listRange1, [.int j] => if decide (j.natAbs ≤ 16777216) then some (.list (rangeD 0 j.toNat)) else none
  | .listRange2, [.int i, .int j] => if decide (i.natAbs < 4611686018427387904) && decide (j.natAbs < 4611686018427387904) && decide ((j - i).toNat ≤ lineN) then some (.list (rangeD i (j - i).toNat)) else none
  | _, _ => none

inductive Ik where | seq | rng1 | rng2 | rngd | enum | zip | zipM | nd
def itV : Ik → List D → Option (List D)
  | .seq, [.list xs] => some xs
  | .seq, [.tuple xs] => some xs
  | .rng1, [.int j] => if decide (j.natAbs < 4611686018427387904) then some (rangeD 0 j.toNat) else none
  | .rng2, [.int i, .int j] => if decide (i.natAbs < 4611686018427387904) && decide (j.natAbs < 4611686018427387904) then some (rangeD i (j - i).toNat) else none
  | .rngd, [.int i, .int j, .int c] => if decide (i.natAbs < 4611686018427387904) && decide (j.natAbs < 4611686018427387904) && decide (c = -1) then some (downD i (i - j).toNat) else none
  | .enum, [.list xs] => some (xs.zipIdx.map fun p => .tuple [.int p.2, p.1])
  | .enum, [.tuple xs] => some (xs.zipIdx.map fun p => .tuple [.int p.2, p.1])
  | .zip, [.list xs, .list ys] => if decide (xs.length ≤ lineN) then some ((xs.zip ys).map fun p => .tuple [p.1, p.2]) else none
  | .zipM, [.tuple xs, .list ys] => if decide (xs.length ≤ lineN) then some ((xs.zip ys).map fun p => .tuple [p.1, p.2]) else none
  | .zip, [.tuple xs, .tuple ys] => if decide (xs.length ≤ lineN) then some ((xs.zip ys).map fun p => .tuple [p.1, p.2]) else none
  | .nd, [.dict ((.none, .bool true) :: r)] => some (r.map fun p => p.1)
  | _, _ => none

mutual
inductive Ex where
  | c (v : D)
  | var (i : Nat)
  | bin (op : Bop) (a b : Ex)
  | neg (a : Ex)
  | cmp (op : Cop) (a b : Ex)
  | chain (o1 o2 : Cop) (a b c : Ex)
  | chain3 (o1 o2 o3 : Cop) (a b c d : Ex)
  | and (a b : Ex)
  | or (a b : Ex)
  | not (a : Ex)
  | truth (a : Ex)
  | ite (t a b : Ex)
  | idx (a i : Ex)
  | slc (a lo hi : Ex)
  | rev (a : Ex)
  | tup (as : Exs)
  | lst (as : Exs)
  | bi (f : Bi) (as : Exs)
  | call (f : Nat) (as : Exs)
  | callK (f : Nat) (as : Exs) (perm : List Nat)
  | comp (t : List Nat) (k : Ik) (as : Exs) (cond elt : Ex)
  | dnew
  | dget (d k x : Ex)
  | dix (d k : Ex)
  | dhas (k d : Ex) (neg : Bool)
  | ddisp (kvs : Exs)
  | lrev (a : Ex)
  | scr (a : Ex) (ns : List Int) (n : Nat)
  | dkGet (turn : Bool) (a : Ex)
  | dkHas (a : Ex)
  | dkPop (a : Ex)
  | dkPush (a e : Ex)
  | dkNew (a b c : Ex)
  | dkNew2 (a b : Ex)
  | asI (a : Ex)
  | fld (a : Ex) (f : Str)
  | meth (c fi : Nat) (o : Ex) (as : Exs)
  | mk (c fi : Nat) (as : Exs)
  | tnew
  | own (c fi : Nat) (neg : Bool) (a b : Ex)
  | dct (a : Ex)
  | isO (c : Nat) (a : Ex)
  | nix (d k : Ex)
  | nhas (k d : Ex) (neg : Bool)
  | nlen (d : Ex)
  | nvals (d : Ex)
  | nkeys (d : Ex)
  | dks (d : Ex)
  | nitems (d : Ex)
  | ndct (a : Ex)
  | ndsp (a : Ex)
  | tdsp (a b : Ex)
  | comp2 (t : List Nat) (k : Ik) (as : Exs) (cond : Ex) (t2 : List Nat) (k2 : Ik) (as2 : Exs) (cond2 elt : Ex)
  | lslc (a lo hi : Ex)
  | lamc (ko : D → D) (sel : Nat → Bool) (h : Nat → List D → Ex) (ow : List Nat) (f : Nat) (as : Exs) (perm : Option (List Nat))
inductive Exs where
  | nil
  | cons (a : Ex) (as : Exs)
end
def setMany : List Nat → List D → Sl → Option Sl
  | [], [], σ => some σ
  | i :: is, v :: vs, σ => setMany is vs (σ.set i (some v))
  | _, _, _ => none
def setT : List Nat → D → Sl → Option Sl
  | [i], v, σ => some (σ.set i (some v))
  | is, .tuple vs, σ => setMany is vs σ
  | is, .list vs, σ => setMany is vs σ
  | _, _, _ => none
def setGs : List (List Nat) → List D → Sl → Option Sl
  | [], [], σ => some σ
  | t :: ts, v :: vs, σ => (setT t v σ).bind (setGs ts vs)
  | _, _, _ => none
def setG : List (List Nat) → D → Sl → Option Sl
  | ts, .tuple vs, σ => setGs ts vs σ
  | _, _, _ => none
def compL (f : D → G → Res (Option D)) : List D → List D → G → Res (List D)
  | [], acc, g => .ok acc.reverse g
  | x :: r, acc, g => (f x g).bind fun o g => match o with
    | some y => compL f r (y :: acc) g
    | none => compL f r acc g
def compR (f : D → G → Res (Option D)) : List D → List D → G → Res (List D)
  | [], acc, g => .ok acc g
  | x :: r, acc, g => (f x g).bind fun o g => match o with
    | some y => compR f r (y :: acc) g
    | none => compR f r acc g
def compA (f : D → List D → G → Res (List D)) : List D → List D → G → Res (List D)
  | [], acc, g => .ok acc g
  | x :: r, acc, g => (f x acc g).bind fun acc g => compA f r acc g
def wipeS (σ : Sl) : List Nat → Sl
  | [] => σ
  | v :: vs => (wipeS σ vs).set v none
def keq (a b : D) : Bool := match keyD a, keyD b with
  | some x, some y => decide (x = y)
  | _, _ => false
def dLook (k : D) (kvs : List (D × D)) : Option D := (kvs.find? fun p => keq p.1 k).map (·.2)
def dPut (k v : D) (kvs : List (D × D)) : List (D × D) := if (kvs.any fun p => keq p.1 k) then kvs.map (fun p => if keq p.1 k then (p.1, v) else p) else kvs ++ [(k, v)]
def teq (a b : D) : Bool := match keyT a, keyT b with
  | some x, some y => decide (x = y)
  | _, _ => false
def tLook (k : D) (kvs : List (D × D)) : Option D := (kvs.find? fun p => teq p.1 k).map (·.2)
def tPut (k v : D) (kvs : List (D × D)) : List (D × D) := if (kvs.any fun p => teq p.1 k) then kvs.map (fun p => if teq p.1 k then (p.1, v) else p) else kvs ++ [(k, v)]
def neq (a b : D) : Bool := match keyN a, keyN b with
  | some x, some y => decide (x = y)
  | _, _ => false
def nLook (k : D) (kvs : List (D × D)) : Option D := (kvs.find? fun p => neq p.1 k).map (·.2)
def nSet (k v : D) (kvs : List (D × D)) : List (D × D) := if (kvs.any fun p => neq p.1 k) then kvs.map (fun p => if neq p.1 k then (p.1, v) else p) else kvs ++ [(k, v)]
def nlkV : D → D → Option (Option D)
  | .dict kvs, k => match ndOf kvs with
    | some r => if (keyN k).isNone then none else some (nLook k r)
    | none => none
  | _, _ => none
def nlenV : D → Option D
  | .dict kvs => (ndOf kvs).map fun r => .int r.length
  | _ => none
def nvalsV : D → Option D
  | .dict kvs => (ndOf kvs).map fun r => .list (r.map fun p => p.2)
  | _ => none
def intKs : List (D × D) → Option (List Int)
  | [] => some []
  | (.int i, _) :: r => (intKs r).map (i :: ·)
  | _ :: _ => none
def dksV : D → Option D
  | .dict kvs => if isDeck kvs then none else match intKs kvs with
    | some ns => if decide (ns.length < 64) then some (.list ((sortI ns).map .int)) else none
    | none => none
  | _ => none
def nkeysV : D → Option D
  | .dict kvs => (ndOf kvs).map fun r => .list (r.map fun p => p.1)
  | _ => none
def nitemsV : D → Option D
  | .dict kvs => (ndOf kvs).map fun r => .list (r.map fun p => .tuple [p.1, p.2])
  | _ => none
def npairV : List D → List (D × D) → Option (List (D × D))
  | [], acc => some acc
  | .tuple [k, v] :: r, acc => if (keyN k).isNone then none else npairV r (nSet k v acc)
  | _, _ => none
def ndctV : D → Option D
  | .list xs => if decide (xs.length < lineN) then (npairV xs []).map ndD else none
  | _ => none
def nsetV : D → D → D → Option D
  | .dict kvs, k, v => match ndOf kvs with
    | some r => if (keyN k).isNone || !decide (r.length < lineN) then none else some (ndD (nSet k v r))
    | none => none
  | _, _, _ => none
def dlkV (kvs : List (D × D)) (k : D) : Option (Option D) := match tdOf kvs with
  | some r => if (keyT k).isNone then none else some (tLook k r)
  | none => if isDeck kvs || (keyD k).isNone then none else some (dLook k kvs)
def dgetV : D → D → D → Option D
  | .dict kvs, k, x => (dlkV kvs k).map fun o => o.getD x
  | _, _, _ => none
def dixV : D → D → Option D
  | .dict kvs, k => (dlkV kvs k).bind id
  | _, _ => none
def dhasV : D → D → Option Bool
  | k, .dict kvs => (dlkV kvs k).map fun o => o.isSome
  | _, _ => none
def fldV : D → Str → Option D
  | .dict ((.list [.int _], .none) :: r), f => dLook (.str f) r
  | _, _ => none
def fPut (f : Str) (v : D) : List (D × D) → List (D × D)
  | [] => [(.str f, v)]
  | (k, d) :: r => if keq k (.str f) then (k, v) :: r else (k, d) :: fPut f v r
def setFV (c : Nat) (f : Str) (v : D) : D → Option D
  | .dict ((.list [.int i], .none) :: r) => if decide (i = c) && decide (r.length < 900) then some (.dict ((.list [.int i], .none) :: fPut f v r)) else none
  | _ => none
def setFV2 (c : Nat) (f h : Str) : D → D → Option D
  | .tuple [a, b], d => (setFV c f a d).bind fun d => setFV c h b d
  | _, _ => none
def dispV : List D → List (D × D) → Option (List (D × D))
  | [], acc => some acc
  | k :: v :: r, acc => if (keyD k).isNone then none else dispV r (dPut k v acc)
  | _, _ => none
def pairV : List D → List (D × D) → Option (List (D × D))
  | [], acc => some acc
  | .tuple [k, v] :: r, acc => if (keyD k).isNone then none else pairV r (dPut k v acc)
  | _, _ => none
def buckL (k v : D) : List (D × D) → Option (List (D × D))
  | [] => some [(k, .list [v])]
  | (a, d) :: r => if keq a k then (match d with
    | .list l => if decide (l.length < lineN) then some ((a, .list (l ++ [v])) :: r) else none
    | _ => none) else (buckL k v r).map ((a, d) :: ·)
def buckV (acc : List (D × D)) (k v : D) : Option (List (D × D)) := if (keyD k).isNone || !decide (acc.length < lineN) then none else buckL k v acc
def grpL (f : D → G → Res (D × D)) : List D → List (D × D) → G → Res (List (D × D))
  | [], acc, g => .ok acc g
  | y :: r, acc, g => (f y g).bind fun kv g => (lift (buckV acc kv.1 kv.2) g).bind fun acc g => grpL f r acc g
def putLs (acc : List (List D)) (i v : D) : Option (List (List D)) := match i with
  | .int j => if decide (0 ≤ j) then (match acc[j.toNat]? with
    | some l => if decide (l.length < lineN) then some (acc.set j.toNat (l ++ [v])) else none
    | none => none) else none
  | _ => none
def grlL (f : D → G → Res (D × D)) : List D → List (List D) → G → Res (List (List D))
  | [], acc, g => .ok acc g
  | y :: r, acc, g => (f y g).bind fun kv g => (lift (putLs acc kv.1 kv.2) g).bind fun acc g => grlL f r acc g
def noneAt (σ : Sl) (i : Nat) : Bool := match σ[i]? with
  | some (some (.dict [])) => true
  | _ => false
def isTok (n : Int) : D → Bool
  | .dict [(.list [], .int k)] => decide (k = n)
  | _ => false
theorem of_isTok {n : Int} {d : D} (h : isTok n d = true) : d = tokD n := by
  unfold isTok at h
  split at h
  · rw [of_decide_eq_true h]; rfl
  · cases h
@[simp] theorem isTok_tok (n : Int) : isTok n (tokD n) = true := by simp [isTok, tokD]
def dkGetV (t : Bool) (d : D) : G → Option D
  | some st => if isTok 0 d then some (.int (if t then st.turn else st.mixed)) else none
  | none => none
def dkHasV (d : D) : G → Option D
  | some st => if isTok 0 d then some (.bool (!st.cells.isEmpty)) else none
  | none => none
def dkPopV (d : D) : G → Res D
  | some st => if isTok 0 d then match st.cells.getLast? with
      | some c => .ok (.int c) (some { st with cells := st.cells.dropLast })
      | none => .no
    else .no
  | none => .no
def dkPushV (d v : D) : G → Res D
  | some st => if isTok 0 d && decide (st.cells.length < lineN) then match v with
      | .int c => .ok .none (some { st with cells := st.cells ++ [c] })
      | _ => .no
    else .no
  | none => .no
def dkSetV (t : Bool) (d v : D) : G → Option G
  | some st => if isTok 0 d then match v with
      | .int c => some (some (if t then { st with turn := c } else { st with mixed := c }))
      | _ => none
    else none
  | none => none
def dkNewV (l m t : D) : G → Res D
  | none => match l, m, t with
    | .list xs, .int m, .int t => match intsOf xs with
      | some ns => .ok (tokD 0) (some ⟨ns, m, t⟩)
      | none => .no
    | _, _, _ => .no
  | some _ => .no
def pm {α : Type} (perm : List Nat) (xs : List α) : List α := perm.filterMap fun j => xs[j]?
abbrev Fns := Nat → List D → G → Res D
def clrs : List Nat → Sl → Sl
  | [], σ => σ
  | i :: r, σ => clrs r (σ.set i none)
mutual
def ev (Φ : Fns) : Ex → Sl → G → Res D
  | .c v, _, g => .ok v g
  | .var i, σ, g => match σ[i]? with
    | some (some v) => .ok v g
    | _ => .no
  | .bin op a b, σ, g => (ev Φ a σ g).bind fun x g => (ev Φ b σ g).bind fun y g => lift (binV op x y) g
  | .neg a, σ, g => (ev Φ a σ g).bind fun x g => match x with
    | .int i => .ok (.int (-i)) g
    | _ => .no
  | .cmp op a b, σ, g => (ev Φ a σ g).bind fun x g => (ev Φ b σ g).bind fun y g => lift ((cmpV op x y).map .bool) g
  | .chain o1 o2 a b c, σ, g => (ev Φ a σ g).bind fun x g => (ev Φ b σ g).bind fun y g => (lift (cmpV o1 x y) g).bind fun k g =>
      if k then (ev Φ c σ g).bind fun z g => lift ((cmpV o2 y z).map .bool) g else .ok (.bool false) g
  | .chain3 o1 o2 o3 a b c d, σ, g => (ev Φ a σ g).bind fun x g => (ev Φ b σ g).bind fun y g => (lift (cmpV o1 x y) g).bind fun k g =>
      if k then (ev Φ c σ g).bind fun z g => (lift (cmpV o2 y z) g).bind fun k g => if k then (ev Φ d σ g).bind fun w g => lift ((cmpV o3 z w).map .bool) g else .ok (.bool false) g else .ok (.bool false) g
  | .and a b, σ, g => (ev Φ a σ g).bind fun x g => match x with
    | .bool true => ev Φ b σ g
    | .bool false => .ok (.bool false) g
    | _ => .no
  | .or a b, σ, g => (ev Φ a σ g).bind fun x g => match x with
    | .bool true => .ok (.bool true) g
    | .bool false => ev Φ b σ g
    | _ => .no
  | .not a, σ, g => (ev Φ a σ g).bind fun x g => match x with
    | .bool k => .ok (.bool (!k)) g
    | _ => .no
  | .truth a, σ, g => (ev Φ a σ g).bind fun x g => lift ((truV x).map .bool) g
  | .ite t a b, σ, g => (ev Φ t σ g).bind fun x g => match x with
    | .bool true => ev Φ a σ g
    | .bool false => ev Φ b σ g
    | _ => .no
  | .idx a i, σ, g => (ev Φ a σ g).bind fun x g => (ev Φ i σ g).bind fun y g => lift (idxV x y) g
  | .slc a lo hi, σ, g => (ev Φ a σ g).bind fun x g => (ev Φ lo σ g).bind fun l g => (ev Φ hi σ g).bind fun h g => lift (slcV x l h) g
  | .rev a, σ, g => (ev Φ a σ g).bind fun x g => lift (revV x) g
  | .tup as, σ, g => (evs Φ as σ g).bind fun xs g => .ok (.tuple xs) g
  | .lst as, σ, g => (evs Φ as σ g).bind fun xs g => .ok (.list xs) g
  | .bi f as, σ, g => (evs Φ as σ g).bind fun xs g => lift (biV f xs) g
  | .call f as, σ, g => (evs Φ as σ g).bind fun xs g => Φ f xs g
  | .callK f as perm, σ, g => (evs Φ as σ g).bind fun xs g => Φ f (pm perm xs) g
  | .comp t k as cond elt, σ, g => (evs Φ as σ g).bind fun vs g => (lift (itV k vs) g).bind fun xs g =>
      if decide (xs.length ≤ lineN) then (compL (fun x g => (lift (setT t x (wipeS σ t)) g).bind fun σ' g => (ev Φ cond σ' g).bind fun b g => match b with
        | .bool true => (ev Φ elt σ' g).bind fun v g => .ok (some v) g
        | .bool false => .ok none g
        | _ => .no) xs [] g).bind fun ys g => .ok (.list ys) g else .no
  | .comp2 t k as cond t2 k2 as2 cond2 elt, σ, g => (evs Φ as σ g).bind fun vs g => (lift (itV k vs) g).bind fun xs g =>
      if decide (xs.length ≤ 4000) then (compA (fun x acc g => (lift (setT t x (wipeS σ (t ++ t2))) g).bind fun σ' g => (ev Φ cond σ' g).bind fun b g => match b with
        | .bool true => (evs Φ as2 σ' g).bind fun vs g => (lift (itV k2 vs) g).bind fun ys g =>
          if decide (ys.length ≤ 4000) then compR (fun y g => (lift (setT t2 y (wipeS σ' t2)) g).bind fun σ2 g => (ev Φ cond2 σ2 g).bind fun b g => match b with
            | .bool true => (ev Φ elt σ2 g).bind fun v g => .ok (some v) g
            | .bool false => .ok none g
            | _ => .no) ys acc g else .no
        | .bool false => .ok acc g
        | _ => .no) xs [] g).bind fun ys g => .ok (.list ys.reverse) g else .no
  | .lslc a lo hi, σ, g => (ev Φ a σ g).bind fun x g => (ev Φ lo σ g).bind fun l g => (ev Φ hi σ g).bind fun h g => match x with
    | .list _ => lift (slcV x l h) g
    | _ => .no
  | .lamc ko sel h ow f as perm, σ, g => (evs Φ as (clrs ow σ) g).bind fun vs g => match Φ f (match perm with | some p => pm p vs | none => vs) g with
    | .ok v g => .ok (ko v) g
    | .exc c ws g => if sel c then ev Φ (h c ws) [] g else .no
    | .no => .no
  | .dnew, _, g => .ok (.dict []) g
  | .dget d k x, σ, g => (ev Φ d σ g).bind fun dv g => (ev Φ k σ g).bind fun kv g => (ev Φ x σ g).bind fun xv g => lift (dgetV dv kv xv) g
  | .dix d k, σ, g => (ev Φ d σ g).bind fun dv g => (ev Φ k σ g).bind fun kv g => lift (dixV dv kv) g
  | .nix d k, σ, g => (ev Φ d σ g).bind fun dv g => (ev Φ k σ g).bind fun kv g => lift ((nlkV dv kv).bind id) g
  | .nlen d, σ, g => (ev Φ d σ g).bind fun dv g => lift (nlenV dv) g
  | .nvals d, σ, g => (ev Φ d σ g).bind fun dv g => lift (nvalsV dv) g
  | .nkeys d, σ, g => (ev Φ d σ g).bind fun dv g => lift (nkeysV dv) g
  | .dks d, σ, g => (ev Φ d σ g).bind fun dv g => lift (dksV dv) g
  | .nitems d, σ, g => (ev Φ d σ g).bind fun dv g => lift (nitemsV dv) g
  | .ndct a, σ, g => (ev Φ a σ g).bind fun v g => lift (ndctV v) g
  | .nhas k d n, σ, g => (ev Φ k σ g).bind fun kv g => (ev Φ d σ g).bind fun dv g => lift ((nlkV dv kv).map fun o => .bool (o.isSome != n)) g
  | .ndsp a, σ, g => (ev Φ a σ g).bind fun v g => .ok (ndD [(.none, v)]) g
  | .tdsp a b, σ, g => (ev Φ a σ g).bind fun k g => (ev Φ b σ g).bind fun v g => lift (if (keyT k).isNone then none else some (tdD [(k, v)])) g
  | .dhas k d n, σ, g => (ev Φ k σ g).bind fun kv g => (ev Φ d σ g).bind fun dv g => lift ((dhasV kv dv).map fun b => .bool (b != n)) g
  | .ddisp kvs, σ, g => (evs Φ kvs σ g).bind fun xs g => lift ((dispV xs []).map .dict) g
  | .lrev a, σ, g => (ev Φ a σ g).bind fun x g => match x with
    | .list xs => .ok (.list xs.reverse) g
    | _ => .no
  | .scr a ns n, σ, g => (ev Φ a σ g).bind fun x g => if isTok 1 x then .ok (.list ((ns.take n).map .int)) g else .no
  | .dkGet t a, σ, g => (ev Φ a σ g).bind fun x g => lift (dkGetV t x g) g
  | .dkHas a, σ, g => (ev Φ a σ g).bind fun x g => lift (dkHasV x g) g
  | .dkPop a, σ, g => (ev Φ a σ g).bind fun x g => dkPopV x g
  | .dkPush a e, σ, g => (ev Φ a σ g).bind fun x g => match g with
    | none => .no
    | some _ => (ev Φ e σ g).bind fun v g => dkPushV x v g
  | .dkNew a b c, σ, g => (ev Φ a σ g).bind fun x g => (ev Φ b σ g).bind fun y g => (ev Φ c σ g).bind fun z g => dkNewV x y z g
  | .asI a, σ, g => (ev Φ a σ g).bind fun x g => match x with
    | .int i => .ok (.int i) g
    | _ => .no
  | .dkNew2 a b, σ, g => (ev Φ a σ g).bind fun x g => (ev Φ b σ g).bind fun y g => dkNewV x y (.int 0) g
  | .fld a f, σ, g => (ev Φ a σ g).bind fun x g => lift (fldV x f) g
  | .meth c fi o as, σ, g => (ev Φ o σ g).bind fun x g => if isOb c x then (evs Φ as σ g).bind fun xs g => Φ fi (x :: xs) g else .no
  | .mk c fi as, σ, g => (evs Φ as σ g).bind fun xs g => Φ fi (objD c [] :: xs) g
  | .tnew, _, g => .ok (tdD []) g
  | .own c fi n a b, σ, g => (ev Φ a σ g).bind fun x g => (ev Φ b σ g).bind fun y g => if isOb c x && isOb c y then (Φ fi [x, y] g).bind fun r g => match r with
    | .bool z => .ok (.bool (z != n)) g
    | _ => .no else .no
  | .dct a, σ, g => (ev Φ a σ g).bind fun x g => match x with
    | .list xs => (lift (pairV xs []) g).bind fun kvs g => .ok (.dict kvs) g
    | _ => .no
  | .isO c a, σ, g => (ev Φ a σ g).bind fun x g => if isObj x then .ok (.bool (isOb c x)) g else if isDk x then .no else .ok (.bool false) g
def evs (Φ : Fns) : Exs → Sl → G → Res (List D)
  | .nil, _, g => .ok [] g
  | .cons a as, σ, g => (ev Φ a σ g).bind fun x g => (evs Φ as σ g).bind fun xs g => .ok (x :: xs) g
end

def Exs.len : Exs → Nat
  | .nil => 0
  | .cons _ as => as.len + 1
theorem evs_len (Φ : Fns) : ∀ (as : Exs) (σ : Sl) (g g' : G) (vs : List D), evs Φ as σ g = .ok vs g' → vs.length = as.len
  | .nil, σ, g, g', vs, h => by unfold evs at h; cases h; rfl
  | .cons a as, σ, g, g', vs, h => by
    unfold evs at h
    obtain ⟨x, g1, _, h⟩ := bind_eq_ok h
    obtain ⟨xs, g2, h2, h⟩ := bind_eq_ok h
    cases h
    rw [List.length_cons, evs_len Φ as _ _ _ _ h2]; rfl
inductive Kx where
  | ret
  | ex
  | set (t : List Nat)
  | tup (c : Str) (k : Kx)
  | rep (k : Kx)
inductive Sm where
  | skip
  | seq (a b : Sm)
  | set (t : List Nat) (e : Ex)
  | setG (ts : List (List Nat)) (e : Ex)
  | par (i j : Nat) (a b : Ex)
  | par3 (i j k : Nat) (a b c : Ex)
  | parN (ns : List Nat) (as : Exs)
  | aug (i : Nat) (op : Bop) (e : Ex)
  | setIx (i : Nat) (k e : Ex)
  | setKey (i : Nat) (k e : Ex)
  | nset (i : Nat) (k e : Ex)
  | augIx (i : Nat) (op : Bop) (k e : Ex)
  | popS (i : Nat)
  | app (i : Nat) (e : Ex)
  | ext (i : Nat) (e : Ex)
  | setd (i : Nat) (k e : Ex)
  | ins (i : Nat) (k e : Ex)
  | ite (t : Ex) (a b : Sm)
  | forr (t : List Nat) (k : Ik) (as : Exs) (b : Sm)
  | whil (t : Ex) (b : Sm)
  | ret (e : Ex)
  | brk
  | cnt
  | ex (e : Ex)
  | dkSet (turn : Bool) (a e : Ex)
  | setF (i c : Nat) (f : Str) (e : Ex)
  | setF2 (i c : Nat) (f h : Str) (e : Ex)
  | popX (j i : Nat)
  | popI (j i : Nat) (e : Ex)
  | thX (k : Kx) (o : G → Res D)
  | rais (c : Nat) (as : Exs)
  | callX (k : Kx) (f : Nat) (as : Exs) (perm : Option (List Nat))
  | methX (k : Kx) (c f : Nat) (o : Ex) (as : Exs)
  | mkX (k : Kx) (c f : Nat) (as : Exs)
  | try_ (b : Sm) (sel : Nat → Bool) (h : Nat → List D → Sm) (i : Option Nat)
  | grp (t n x : Nat) (k : Ik) (as : Exs) (ik ie : Ex)
  | grl (t n : Nat) (k0 : Ik) (as0 : Exs) (k : Ik) (as : Exs) (ik ie : Ex)
  | grv (t n f r : Nat) (k0 : Ik) (as0 : Exs) (fe : Ex) (k : Ik) (as : Exs) (ik ie : Ex)
  | pki (s x a b k fd : Nat) (e : Ex)
  | bad
inductive Fl where
  | nx (σ : Sl)
  | rt (v : D)
  | bk (σ : Sl)
  | ct (σ : Sl)
  | ex (σ : Sl) (c : Nat) (vs : List D)
def endV (σ : Sl) (g : G) : Kx → D → Res Fl
  | .ret, v => .ok (.rt v) g
  | .ex, _ => .ok (.nx σ) g
  | .set t, v => (lift (setT t v σ) g).bind fun σ g => .ok (.nx σ) g
  | .tup c k, v => endV σ g k (.tuple [.str c, v])
  | .rep k, v => (lift (biV .repr [v]) g).bind fun r g => endV σ g k r
def endX (k : Kx) (σ : Sl) : Res D → Res Fl
  | .ok v g => endV σ g k v
  | .exc c ws g => .ok (.ex σ c ws) g
  | .no => .no
def clr : Option Nat → Sl → Sl
  | none, σ => σ
  | some i, σ => σ.set i none
def okI : Option Nat → Sl → Bool
  | none, _ => true
  | some i, σ => decide (i < σ.length)
def clrF (i : Option Nat) : Fl → G → Res Fl
  | .nx σ, g => .ok (.nx (clr i σ)) g
  | .bk σ, g => .ok (.bk (clr i σ)) g
  | .ct σ, g => .ok (.ct (clr i σ)) g
  | .rt v, g => .ok (.rt v) g
  | .ex _ _ _, _ => .no
def forL (f : D → Sl → G → Res Fl) : List D → Sl → G → Res Fl
  | [], σ, g => .ok (.nx σ) g
  | x :: r, σ, g => (f x σ g).bind fun fl g => match fl with
    | .nx σ => forL f r σ g
    | .ct σ => forL f r σ g
    | .bk σ => .ok (.nx σ) g
    | .rt v => .ok (.rt v) g
    | .ex σ c vs => .ok (.ex σ c vs) g
def whileL (c : Sl → G → Res D) (b : Sl → G → Res Fl) : Nat → Sl → G → Res Fl
  | 0, _, _ => .no
  | n + 1, σ, g => (c σ g).bind fun v g => match v with
    | .bool true => (b σ g).bind fun fl g => match fl with
      | .nx σ => whileL c b n σ g
      | .ct σ => whileL c b n σ g
      | .bk σ => .ok (.nx σ) g
      | .rt v => .ok (.rt v) g
      | .ex σ c vs => .ok (.ex σ c vs) g
    | .bool false => .ok (.nx σ) g
    | _ => .no
def setIxV : D → D → D → Option D
  | .list xs, .int i, v => (L2.ixN xs.length i).map fun j => .list (xs.set j v)
  | _, _, _ => none
def augV : Bop → D → D → Option D
  | .add, .int i, .int j => some (.int (i + j))
  | .sub, .int i, .int j => some (.int (i - j))
  | .mul, .int i, .int j => if decide (i.natAbs < 18446744073709551616) || decide (j.natAbs < 18446744073709551616) then some (.int (i * j)) else none
  | .fdiv, .int i, .int j => if decide (0 < j) && decide (j < 1073741824) then some (.int (i / j)) else none
  | .add, .str x, .str y => if decide (x.length + y.length ≤ lineN) then some (.str (x ++ y)) else none
  | _, _, _ => none
def setKeyV : D → D → D → Option D
  | .dict kvs, k, v => match tdOf kvs with
    | some r => if (keyT k).isNone || !decide (r.length < lineN) then none else some (tdD (tPut k v r))
    | none => if isDeck kvs || (keyD k).isNone || !decide (kvs.length < lineN) then none else some (.dict (dPut k v kvs))
  | _, _, _ => none
def popV : D → Option D
  | .list xs => if xs.isEmpty then none else some (.list xs.dropLast)
  | _ => none
def appV : D → D → Option D
  | .list xs, v => if decide (xs.length < lineN) then some (.list (xs ++ [v])) else none
  | _, _ => none
def extV : D → D → Option D
  | .list xs, .list ys => if decide (xs.length + ys.length ≤ lineN) then some (.list (xs ++ ys)) else none
  | _, _ => none
def setdV : D → D → D → Option D
  | .dict kvs, k, v => if isDeck kvs || (keyD k).isNone || !decide (kvs.length < lineN) then none else match dLook k kvs with
    | some _ => some (.dict kvs)
    | none => some (.dict (dPut k v kvs))
  | _, _, _ => none
def popD : D → Option (D × D)
  | .list xs => xs.getLast?.map fun v => (v, .list xs.dropLast)
  | _ => none
def popAtD : D → D → Option (D × D)
  | .list xs, .int i => if decide (0 ≤ i) && decide (xs.length ≤ lineN) then xs[i.toNat]?.map fun v => (v, .list (xs.eraseIdx i.toNat)) else none
  | _, _ => none
def pkT (a b : Nat) : D → Option Nat
  | .int i => if i = 0 then some a else if i = 1 then some b else none
  | _ => none
def insV : D → D → D → Option D
  | .list xs, .int i, v => if decide (xs.length < lineN) && decide (0 ≤ i) && decide (i < 4611686018427387904) then some (.list (xs.take i.toNat ++ [v] ++ xs.drop i.toNat)) else none
  | _, _, _ => none
def lenL : D → Option Int
  | .list xs => some xs.length
  | _ => none
def slot (σ : Sl) (i : Nat) (g : G) : Res D := match σ[i]? with
  | some (some v) => .ok v g
  | _ => .no
def run (Φ : Fns) (fu : Nat) : Sm → Sl → G → Res Fl
  | .skip, σ, g => .ok (.nx σ) g
  | .seq a b, σ, g => (run Φ fu a σ g).bind fun fl g => match fl with
    | .nx σ => run Φ fu b σ g
    | fl => .ok fl g
  | .set t e, σ, g => (ev Φ e σ g).bind fun v g => (lift (setT t v σ) g).bind fun σ g => .ok (.nx σ) g
  | .setG ts e, σ, g => (ev Φ e σ g).bind fun v g => (lift (setG ts v σ) g).bind fun σ g => .ok (.nx σ) g
  | .par i j a b, σ, g => (ev Φ a σ g).bind fun v g => (ev Φ b σ g).bind fun w g => .ok (.nx ((σ.set i (some v)).set j (some w))) g
  | .parN ns as, σ, g => (evs Φ as σ g).bind fun vs g => (lift (setMany ns vs σ) g).bind fun σ' g => .ok (.nx σ') g
  | .par3 i j k a b c, σ, g => (ev Φ a σ g).bind fun u g => (ev Φ b σ g).bind fun v g => (ev Φ c σ g).bind fun w g => .ok (.nx (((σ.set i (some u)).set j (some v)).set k (some w))) g
  | .aug i op e, σ, g => (slot σ i g).bind fun x g => (ev Φ e σ g).bind fun y g => (lift (augV op x y) g).bind fun z g => .ok (.nx (σ.set i (some z))) g
  | .setIx i k e, σ, g => (ev Φ e σ g).bind fun v g => (slot σ i g).bind fun d g => (ev Φ k σ g).bind fun kv g => (lift (setIxV d kv v) g).bind fun d' g => .ok (.nx (σ.set i (some d'))) g
  | .nset i k e, σ, g => (ev Φ e σ g).bind fun v g => (slot σ i g).bind fun d g => (ev Φ k σ g).bind fun kv g => (lift (nsetV d kv v) g).bind fun d' g => .ok (.nx (σ.set i (some d'))) g
  | .setKey i k e, σ, g => (ev Φ e σ g).bind fun v g => (slot σ i g).bind fun d g => (ev Φ k σ g).bind fun kv g => (lift (setKeyV d kv v) g).bind fun d' g => .ok (.nx (σ.set i (some d'))) g
  | .augIx i op k e, σ, g => (slot σ i g).bind fun d g => (ev Φ k σ g).bind fun kv g => (lift (idxV d kv) g).bind fun old g => (ev Φ e σ g).bind fun y g => (lift (augV op old y) g).bind fun z g => (lift (setIxV d kv z) g).bind fun d' g => .ok (.nx (σ.set i (some d'))) g
  | .popS i, σ, g => (slot σ i g).bind fun d g => (lift (popV d) g).bind fun d' g => .ok (.nx (σ.set i (some d'))) g
  | .app i e, σ, g => (slot σ i g).bind fun _ g => (ev Φ e σ g).bind fun v g => (slot σ i g).bind fun d g => (lift (appV d v) g).bind fun d' g => .ok (.nx (σ.set i (some d'))) g
  | .ext i e, σ, g => (slot σ i g).bind fun _ g => (ev Φ e σ g).bind fun v g => (slot σ i g).bind fun d g => (lift (extV d v) g).bind fun d' g => .ok (.nx (σ.set i (some d'))) g
  | .setd i k e, σ, g => (slot σ i g).bind fun d g => (ev Φ k σ g).bind fun kv g => (ev Φ e σ g).bind fun v g => (lift (setdV d kv v) g).bind fun d' g => .ok (.nx (σ.set i (some d'))) g
  | .ins i k e, σ, g => (slot σ i g).bind fun _ g => (ev Φ k σ g).bind fun kv g => (ev Φ e σ g).bind fun v g => (slot σ i g).bind fun d g => (lift (insV d kv v) g).bind fun d' g => .ok (.nx (σ.set i (some d'))) g
  | .ite t a b, σ, g => (ev Φ t σ g).bind fun x g => match x with
    | .bool true => run Φ fu a σ g
    | .bool false => run Φ fu b σ g
    | _ => .no
  | .forr t k as b, σ, g => (evs Φ as σ g).bind fun vs g => (lift (itV k vs) g).bind fun xs g =>
      forL (fun x σ g => (lift (setT t x σ) g).bind fun σ g => run Φ fu b σ g) xs σ g
  | .whil t b, σ, g => whileL (fun σ g => ev Φ t σ g) (fun σ g => run Φ fu b σ g) fu σ g
  | .ret e, σ, g => (ev Φ e σ g).bind fun v g => .ok (.rt v) g
  | .brk, σ, g => .ok (.bk σ) g
  | .cnt, σ, g => .ok (.ct σ) g
  | .ex e, σ, g => (ev Φ e σ g).bind fun _ g => .ok (.nx σ) g
  | .dkSet t a e, σ, g => (ev Φ e σ g).bind fun v g => (ev Φ a σ g).bind fun x g => (lift (dkSetV t x v g) g).bind fun g' _ => .ok (.nx σ) g'
  | .setF i c f e, σ, g => (ev Φ e σ g).bind fun v g => (slot σ i g).bind fun d g => (lift (setFV c f v d) g).bind fun d' g => .ok (.nx (σ.set i (some d'))) g
  | .setF2 i c f h e, σ, g => (ev Φ e σ g).bind fun v g => (slot σ i g).bind fun d g => (lift (setFV2 c f h v d) g).bind fun d' g => .ok (.nx (σ.set i (some d'))) g
  | .popX j i, σ, g => (slot σ i g).bind fun d g => (lift (popD d) g).bind fun p g => .ok (.nx ((σ.set i (some p.2)).set j (some p.1))) g
  | .popI j i e, σ, g => (slot σ i g).bind fun _ g => (ev Φ e σ g).bind fun k g => (slot σ i g).bind fun d g => (lift (popAtD d k) g).bind fun p g => .ok (.nx ((σ.set i (some p.2)).set j (some p.1))) g
  | .thX k o, σ, g => endX k σ (o g)
  | .rais c as, σ, g => (evs Φ as σ g).bind fun vs g => .ok (.ex σ c vs) g
  | .callX k f as perm, σ, g => (evs Φ as σ g).bind fun vs g => endX k σ (Φ f (match perm with | some p => pm p vs | none => vs) g)
  | .methX k c fi o as, σ, g => (ev Φ o σ g).bind fun x g => if isOb c x then (evs Φ as σ g).bind fun vs g => endX k σ (Φ fi (x :: vs) g) else .no
  | .mkX k c fi as, σ, g => (evs Φ as σ g).bind fun vs g => match g with
    | none => .no
    | some st => endX k σ (Φ fi (objD c [] :: vs) (some st))
  | .try_ b sel h i, σ, g => (run Φ fu b σ g).bind fun fl g => match fl with
    | .ex σ c vs => if sel c then if okI i σ then (run Φ fu (h c vs) (clr i σ) g).bind (clrF i) else .no else .ok (.ex σ c vs) g
    | fl => .ok fl g
  | .grp t n x k as ik ie, σ, g => (evs Φ as σ g).bind fun vs g => (lift (itV k vs) g).bind fun xs g => if noneAt σ n && decide (x < σ.length) then
      (grpL (fun y g => (ev Φ ik (((σ.set n none).set x none).set t (some y)) g).bind fun kv g => (ev Φ ie (((σ.set n none).set x none).set t (some y)) g).bind fun v g => .ok (kv, v) g) xs [] g).bind fun kvs g =>
        .ok (.nx ((((σ.set n none).set x none).set t none).set n (some (.dict kvs)))) g else .no
  | .grl t n k0 as0 k as ik ie, σ, g => (evs Φ as0 σ g).bind fun vs g => (lift (itV k0 vs) g).bind fun xs0 g => if decide (xs0.length ≤ lineN) && decide (n < σ.length) then
      (evs Φ as (σ.set n none) g).bind fun vs g => (lift (itV k vs) g).bind fun xs g =>
      (grlL (fun y g => (ev Φ ik ((σ.set n none).set t (some y)) g).bind fun kv g => (ev Φ ie ((σ.set n none).set t (some y)) g).bind fun v g => .ok (kv, v) g) xs (List.replicate xs0.length []) g).bind fun acc g =>
        .ok (.nx (((σ.set n none).set t none).set n (some (.list (acc.map .list))))) g else .no
  | .grv t n f r k0 as0 fe k as ik ie, σ, g => (evs Φ as0 σ g).bind fun vs g => (lift (itV k0 vs) g).bind fun xs0 g => if decide (xs0.length ≤ lineN) && decide (n < σ.length ∧ r < σ.length) then
      (ev Φ fe σ g).bind fun v g => (evs Φ as (((σ.set n none).set r none).set f (some v)) g).bind fun vs g => (lift (itV k vs) g).bind fun xs g =>
      (grlL (fun y g => (ev Φ ik ((((σ.set n none).set r none).set f (some v)).set t (some y)) g).bind fun kv g => (ev Φ ie ((((σ.set n none).set r none).set f (some v)).set t (some y)) g).bind fun w g => .ok (kv, w) g) xs (List.replicate xs0.length []) g).bind fun acc g =>
        .ok (.nx (((((σ.set n none).set r none).set f (some v)).set t none).set n (some (.list (acc.map .list))))) g else .no
  | .pki s x a b k fd e, σ, g => (slot σ k g).bind fun dv g => (slot σ a g).bind fun _ g => (slot σ b g).bind fun _ g => (Φ fd [dv, .int 2] g).bind fun jv g => (ev Φ e σ g).bind fun v g => (lift (pkT a b jv) g).bind fun t g =>
      (slot σ t g).bind fun d g => (lift (lenL d) g).bind fun n g => (Φ fd [dv, .int (n + 1)] g).bind fun iv g => (lift (insV d iv v) g).bind fun d' g =>
        if decide (s < σ.length) && decide (x < σ.length) then .ok (.nx (((σ.set s none).set x (some v)).set t (some d'))) g else .no
  | .bad, _, _ => .no
def noRet : Sm → Bool
  | .ret _ => false
  | .seq a b => noRet a && noRet b
  | .ite _ a b => noRet a && noRet b
  | .forr _ _ _ b => noRet b
  | .whil _ b => noRet b
  | .callX _ _ _ _ => false
  | .thX _ _ => false
  | .methX _ _ _ _ _ => false
  | .mkX _ _ _ _ => false
  | .try_ _ _ _ _ => false
  | .grp _ _ _ _ _ _ _ => false
  | .grl _ _ _ _ _ _ _ _ => false
  | .grv _ _ _ _ _ _ _ _ _ _ _ => false
  | .pki _ _ _ _ _ _ _ => false
  | _ => true

def xfE (xt : List (Option Str)) (c : Nat) (vs : List D) (f : Str) : Ex := if xt[c]? = some (some f) then .c (vs.getD 0 .none) else .idx (.c .none) (.c .none)
def xiE (bt : List Bool) (c : Nat) : Ex := .c (.bool (bt.getD c false))
structure Fn where
  np : Nat
  nl : Nat
  body : Sm
def fin : Res Fl → Res D
  | .ok (.rt v) g => .ok v g
  | .ok (.nx _) g => .ok .none g
  | .ok (.ex _ c vs) g => .exc c vs g
  | .ok _ _ => .no
  | .exc _ _ _ => .no
  | .no => .no
def fuel : Nat := 18446744073709551616
abbrev Prims := Nat → Option (List D → G → Res D)
def FT (T : List Fn) (pr : Prims) : Nat → Fns
  | 0, _, _, _ => .no
  | d + 1, f, as, g => match pr f with
    | some p => p as g
    | none => match T[f]? with
      | some fn => if as.length = fn.np then fin (run (FT T pr d) fuel fn.body (as.map some ++ List.replicate (fn.nl - fn.np) none) g) else .no
      | none => .no
end Pv
end

section
set_option autoImplicit false
namespace Pv
open PySem PySem.Spec PyProof.Rows L2

abbrev NK := Option (List L2.Key)
section
variable (P : Program) (w : World)
def nIs (h : Heap) : NK → Value → Prop
  | none, u => u = .none
  | some ks, u => ∃ a, u = .ref a ∧ (tupleKind (mixKind P w)).is h ks a
def nHash : NK → Int
  | none => (noneKind P w).hash none
  | some ks => (tupleKind (mixKind P w)).hash ks
def nDraw : NK → Nat
  | none => 1
  | some ks => (tupleKind (mixKind P w)).draws ks
abbrev NE := NK × Value × Value
def nEnt (x : NE) : DictEntry := ⟨nHash P w x.1, x.2.1, x.2.2⟩
def DictN (h : Heap) (d : Addr) (xs : List NE) : Prop :=
  ∃ o es ep, h.get? d = some o ∧ o.ExactDict ∧ o.data = .dict es ep ∧ es.toList = xs.map (nEnt P w) ∧ (∀ x ∈ xs, nIs P w h x.1 x.2.1) ∧ (xs.map fun x => x.1).Nodup
end
def nAt (xs : List NE) (k : NK) : Option (Value × Value) := (xs.find? fun x => decide (x.1 = k)).map fun x => x.2
def nPut (xs : List NE) (k : NK) (u v : Value) : List NE := if (nAt xs k).isSome = true then xs.map (fun x => if x.1 = k then (x.1, x.2.1, v) else x) else xs ++ [(k, u, v)]
section
variable {P : Program} {w : World} {A : Around} {E : Value → Shared → Prop} {s : Shared} {h h' : Heap} {k x y : NK} {u v : Value} {d : Addr} {xs : List NE}
abbrev nPl (es : Array DictEntry) (hh : Int) : List Nat := placesWithHash es.size (fun i => es[i]?.map (·.hash)) hh
end
abbrev NEI := NI × Value × Value
def nHashI : NI → Int
  | none => reduceHash 0xFCA86420
  | some ns => reduceHash (Builtin.Tuple.tupleHashOf (ns.map hashInt))
def nEntI (x : NEI) : DictEntry := ⟨nHashI x.1, x.2.1, x.2.2⟩
def upI (x : NI) : NK := x.map fun ns => ns.map Sum.inl
def upE (x : NEI) : NE := (upI x.1, x.2.1, x.2.2)
def nO (d : Addr) (xs : List NEI) (ep : Nat) : HO := .ext fun h => ∃ o es, h.get? d = some o ∧ o.ExactDict ∧ o.data = .dict es ep ∧ es.toList = xs.map nEntI
def NKey (H : Hp) : NI → Value → Prop
  | none, u => u = .none
  | some ns, u => ∃ t, u = .ref t ∧ H t = some (.tup (ns.map V.int))
structure NdOk (a : Addr) (xs : List NEI) : Prop where
  sys : (a == sysModules) = false
  len : xs.length ≤ sizeLine
  nd : (xs.map fun x => x.1).Nodup
theorem NKey.mono {H H' : Hp} {x : NI} {u : Value} (h : NKey H x u) (s : ∀ b xs, H b = some (.tup xs) → H' b = some (.tup xs)) : NKey H' x u := by
  cases x with
  | none => exact h
  | some ns => obtain ⟨t, e, q⟩ := h; exact ⟨t, e, s _ _ q⟩
section
variable {X : Cx} {pins : List (Addr × Obj)} {σ : L2.St} {H : Hp} {s : Shared} {a : Addr} {xs : List NEI} {x : NI} {u v : Value}
def nAtI (xs : List NEI) (x : NI) : Option (Value × Value) := (xs.find? fun y => decide (y.1 = x)).map fun y => y.2
def nPutI (xs : List NEI) (x : NI) (u v : Value) : List NEI := if (nAtI xs x).isSome = true then xs.map (fun y => if y.1 = x then (y.1, y.2.1, v) else y) else xs ++ [(x, u, v)]
end
end Pv
end

section
set_option autoImplicit false
namespace Pv
open PySem PySem.Spec PyProof.Rows L2

structure Fz where
  h : Hp
  dk : Option (Addr × Addr)
  sc : Option (Addr × List Int) × List (Addr × List Str) × Bool × List (Addr × Str)
def Fz.isDk (F : Fz) (a : Addr) : Prop := (∃ d l, F.dk = some (d, l) ∧ (a = d ∨ a = l)) ∨ ∃ q, (a, q) ∈ F.sc.2.2.2
def Fz.put (F : Fz) (p : Addr) (o : HO) : Fz := { F with h := upd F.h p o }
structure Fsub (F F' : Fz) : Prop where
  h : Same F.h F'.h
  dk : ∀ p, F.dk = some p → F'.dk = some p
  sc : F'.sc = F.sc
theorem Fsub.refl (F : Fz) : Fsub F F := ⟨Same.refl _, fun _ h => h, rfl⟩
theorem Fsub.trans {F F1 F2 : Fz} (a : Fsub F F1) (b : Fsub F1 F2) : Fsub F F2 := ⟨a.h.trans b.h, fun p h => b.dk p (a.dk p h), b.sc.trans a.sc⟩
theorem Fsub.isDk {F F' : Fz} (s : Fsub F F') {a : Addr} (h : F.isDk a) : F'.isDk a := by
  rcases h with ⟨d, l, e, q⟩ | ⟨q, h⟩
  · exact .inl ⟨d, l, s.dk _ e, q⟩
  · exact .inr ⟨q, by rw [s.sc]; exact h⟩
theorem same_upd {H : Hp} {p : Addr} {o : HO} (h : H p = none) : Same H (upd H p o) := fun b x e => by
  rw [upd_ne (ne_of_none e h)]
  exact e
theorem Fsub.put {F : Fz} {p : Addr} {o : HO} (h : F.h p = none) : Fsub F (F.put p o) := ⟨same_upd h, fun _ h => h, rfl⟩
theorem sqL_mono {K : PySem.W.Frag} {H H' : Hp} {a : Addr} {xs : List V} (e : Same H H') (h : SqL K H a xs) : SqL K H' a xs := e.seq h

def KTup (K : PySem.W.Frag) (a : Addr) (vs : List V) : Prop := ∃ (o : Obj) (its : Array Value) (n : Nat), K.lookup a = some o ∧ o.cls = .type "tuple" ∧ o.data = .seq its n ∧ its.size ≤ sizeLine ∧ Vals vs its.toList
def TupAt (K : PySem.W.Frag) (F : Fz) (a : Addr) (vs : List V) : Prop := F.h a = some (.tup vs) ∨ (F.sc.2.2.1 = true ∧ KTup K a vs)
theorem TupAt.mono {K : PySem.W.Frag} {F F' : Fz} {a : Addr} {vs : List V} (s : Fsub F F') (h : TupAt K F a vs) : TupAt K F' a vs := by
  rcases h with h | ⟨h, k⟩
  · exact .inl (s.h _ _ h)
  · exact .inr ⟨by rw [s.sc]; exact h, k⟩
theorem TupAt.sqT {K : PySem.W.Frag} {F : Fz} {H : Hp} {a : Addr} {vs : List V} (h : TupAt K F a vs) (s : Same F.h H) : SqT K H a vs := by
  rcases h with h | ⟨h, k⟩
  · exact .of (s _ _ h)
  · exact .inr k
theorem sqT_mono {K : PySem.W.Frag} {F : Fz} {H : Hp} {a : Addr} {xs : List V} (e : Same F.h H) (h : TupAt K F a xs) : SqT K H a xs := h.sqT e
theorem TupAt.no {K : PySem.W.Frag} {F : Fz} {a : Addr} {vs : List V} (z : F.sc.2.2.1 = false) (h : TupAt K F a vs) : F.h a = some (.tup vs) := by
  rcases h with h | ⟨h, k⟩
  · exact h
  · rw [z] at h; cases h
section
variable (K : PySem.W.Frag) (F : Fz)
mutual
def Rel : D → V → Prop
  | .none, v => v = .non
  | .bool b, v => v = .bl b
  | .int i, v => v = .int i
  | .str x, v => v = .str x
  | .list xs, v => ∃ a vs, v = .ref a ∧ F.h a = some (.lst vs) ∧ RelL xs vs
  | .tuple xs, v => ∃ a vs, v = .ref a ∧ TupAt K F a vs ∧ RelL xs vs
  | .dict kvs, v => (isDeck kvs = true ∧ ((∃ d l, F.dk = some (d, l) ∧ v = .ref d ∧ tokD 0 = .dict kvs) ∨ (∃ a ns, F.sc.1 = some (a, ns) ∧ v = .ref a ∧ SqL K F.h a (ns.map V.int) ∧ tokD 1 = .dict kvs) ∨ RelO kvs v ∨ RelTd kvs v)) ∨
      (isDeck kvs = false ∧ ∃ a kk, v = .ref a ∧ F.h a = some (.dK kk) ∧ RelKV kvs kk)
def RelL : List D → List V → Prop
  | [], vs => vs = []
  | d :: ds, vs => ∃ v vr, vs = v :: vr ∧ Rel d v ∧ RelL ds vr
def RelKV : List (D × D) → List (Key × V) → Prop
  | [], kk => kk = []
  | (k, d) :: r, kk => ∃ kv v kr, kk = (kv, v) :: kr ∧ keyD k = some kv ∧ Rel d v ∧ RelKV r kr
def RelKT : List (D × D) → List (List Key × V) → Prop
  | [], kk => kk = []
  | (k, d) :: r, kk => ∃ kv v kr, kk = (kv, v) :: kr ∧ keyT k = some kv ∧ Rel d v ∧ RelKT r kr
def RelO : List (D × D) → V → Prop
  | [], _ => False
  | (k, m) :: r, v => m = .none ∧ ∃ (c : Nat) (Cn : Addr × List Str) (a dx : Addr) (fs : List (Str × V)), k = .list [.int c] ∧ F.sc.2.1[c]? = some Cn ∧ v = .ref a ∧ F.h a = some (.ins Cn.1 dx fs) ∧ (∀ p ∈ fs, p.1 ∈ Cn.2) ∧ RelKV r (fs.map fun p => ((.inr p.1, p.2) : Key × V))
def RelTd : List (D × D) → V → Prop
  | [], _ => False
  | (k, m) :: r, v => k = .none ∧ ((m = .none ∧ ∃ a kk, v = .ref a ∧ F.h a = some (.dT kk) ∧ RelKT r kk) ∨ (m = .bool true ∧ ∃ a xs, v = .ref a ∧ (∃ ep, F.h a = some (nO a xs ep)) ∧ NdOk a xs ∧ RelN r xs))
def RelN : List (D × D) → List NEI → Prop
  | [], xs => xs = []
  | (k, d) :: r, xs => ∃ kk u v y xr, xs = (kk, u, v) :: xr ∧ keyN k = some kk ∧ NKey F.h kk u ∧ RelV y v ∧ Rel d y ∧ RelN r xr
end
end

section
variable {K : PySem.W.Frag} {F F' : Fz}
mutual
theorem Rel.mono (s : Fsub F F') : ∀ (d : D) (v : V), Rel K F d v → Rel K F' d v
  | .none, v, h => by unfold Rel at h ⊢; exact h
  | .bool b, v, h => by unfold Rel at h ⊢; exact h
  | .int i, v, h => by unfold Rel at h ⊢; exact h
  | .str x, v, h => by unfold Rel at h ⊢; exact h
  | .list xs, v, h => by
    unfold Rel at h ⊢
    obtain ⟨a, vs, e, q, r⟩ := h
    exact ⟨a, vs, e, s.h _ _ q, RelL.mono s xs vs r⟩
  | .tuple xs, v, h => by
    unfold Rel at h ⊢
    obtain ⟨a, vs, e, q, r⟩ := h
    exact ⟨a, vs, e, q.mono s, RelL.mono s xs vs r⟩
  | .dict kvs, v, h => by
    unfold Rel at h ⊢
    rcases h with ⟨m, ⟨d, l, e, q⟩ | ⟨a, ns, e, q, q1, q2⟩ | q | q⟩ | ⟨m, a, kk, e, q, r⟩
    · exact .inl ⟨m, .inl ⟨d, l, s.dk _ e, q⟩⟩
    · exact .inl ⟨m, .inr (.inl ⟨a, ns, by rw [s.sc]; exact e, q, sqL_mono s.h q1, q2⟩)⟩
    · exact .inl ⟨m, .inr (.inr (.inl (RelO.mono s kvs v q)))⟩
    · exact .inl ⟨m, .inr (.inr (.inr (RelTd.mono s kvs v q)))⟩
    · exact .inr ⟨m, a, kk, e, s.h _ _ q, RelKV.mono s kvs kk r⟩
theorem RelL.mono (s : Fsub F F') : ∀ (ds : List D) (vs : List V), RelL K F ds vs → RelL K F' ds vs
  | [], vs, h => by unfold RelL at h ⊢; exact h
  | d :: ds, vs, h => by
    unfold RelL at h ⊢
    obtain ⟨v, vr, e, h1, h2⟩ := h
    exact ⟨v, vr, e, Rel.mono s d v h1, RelL.mono s ds vr h2⟩
theorem RelKV.mono (s : Fsub F F') : ∀ (ds : List (D × D)) (vs : List (Key × V)), RelKV K F ds vs → RelKV K F' ds vs
  | [], vs, h => by unfold RelKV at h ⊢; exact h
  | (k, d) :: ds, vs, h => by
    unfold RelKV at h ⊢
    obtain ⟨kv, v, vr, e, h0, h1, h2⟩ := h
    exact ⟨kv, v, vr, e, h0, Rel.mono s d v h1, RelKV.mono s ds vr h2⟩
theorem RelKT.mono (s : Fsub F F') : ∀ (ds : List (D × D)) (vs : List (List Key × V)), RelKT K F ds vs → RelKT K F' ds vs
  | [], vs, h => by unfold RelKT at h ⊢; exact h
  | (k, d) :: ds, vs, h => by
    unfold RelKT at h ⊢
    obtain ⟨kv, v, vr, e, h0, h1, h2⟩ := h
    exact ⟨kv, v, vr, e, h0, Rel.mono s d v h1, RelKT.mono s ds vr h2⟩
theorem RelO.mono (s : Fsub F F') : ∀ (ds : List (D × D)) (v : V), RelO K F ds v → RelO K F' ds v
  | [], v, h => by unfold RelO at h; exact h.elim
  | (k, m) :: ds, v, h => by
    unfold RelO at h ⊢
    obtain ⟨hm, c, Cn, a, dx, fs, e1, e2, e3, e4, e5, e6⟩ := h
    exact ⟨hm, c, Cn, a, dx, fs, e1, by rw [s.sc]; exact e2, e3, s.h _ _ e4, e5, RelKV.mono s ds _ e6⟩
theorem RelTd.mono (s : Fsub F F') : ∀ (ds : List (D × D)) (v : V), RelTd K F ds v → RelTd K F' ds v
  | [], v, h => by unfold RelTd at h; exact h.elim
  | (k, m) :: ds, v, h => by
    unfold RelTd at h ⊢
    obtain ⟨hk, ⟨hm, a, kk, e1, e2, e3⟩ | ⟨hm, a, xs, e1, e2, e3, e4⟩⟩ := h
    · exact ⟨hk, .inl ⟨hm, a, kk, e1, s.h _ _ e2, RelKT.mono s ds _ e3⟩⟩
    · exact ⟨hk, .inr ⟨hm, a, xs, e1, e2.imp fun _ z => s.h _ _ z, e3, RelN.mono s ds _ e4⟩⟩
theorem RelN.mono (s : Fsub F F') : ∀ (ds : List (D × D)) (vs : List NEI), RelN K F ds vs → RelN K F' ds vs
  | [], vs, h => by unfold RelN at h ⊢; exact h
  | (k, d) :: ds, vs, h => by
    unfold RelN at h ⊢
    obtain ⟨kk, u, v, y, xr, e, h0, h1, h2, h3, h4⟩ := h
    exact ⟨kk, u, v, y, xr, e, h0, h1.mono fun b xs q => s.h _ _ q, h2, Rel.mono s d y h3, RelN.mono s ds xr h4⟩
end
theorem RelL.nil : RelL K F [] [] := by unfold RelL; rfl
theorem RelL.cons {d : D} {ds : List D} {v : V} {vs : List V} (h : Rel K F d v) (r : RelL K F ds vs) : RelL K F (d :: ds) (v :: vs) := by
  unfold RelL; exact ⟨v, vs, rfl, h, r⟩
theorem RelL.inv {d : D} {ds : List D} {vs : List V} (h : RelL K F (d :: ds) vs) : ∃ v vr, vs = v :: vr ∧ Rel K F d v ∧ RelL K F ds vr := by
  unfold RelL at h; exact h
theorem RelL.inv0 {vs : List V} (h : RelL K F [] vs) : vs = [] := by unfold RelL at h; exact h
theorem RelL.length : ∀ {ds : List D} {vs : List V}, RelL K F ds vs → ds.length = vs.length
  | [], vs, h => by rw [h.inv0]; rfl
  | d :: ds, vs, h => by
    obtain ⟨v, vr, rfl, _, r⟩ := h.inv
    rw [List.length_cons, List.length_cons, r.length]
theorem RelL.get : ∀ {ds : List D} {vs : List V} {i : Nat} {d : D}, RelL K F ds vs → ds[i]? = some d → ∃ v, vs[i]? = some v ∧ Rel K F d v
  | [], vs, i, d, h, e => by simp at e
  | x :: ds, vs, 0, d, h, e => by
    obtain ⟨v, vr, rfl, r1, r⟩ := h.inv
    simp at e; subst e
    exact ⟨v, rfl, r1⟩
  | x :: ds, vs, i + 1, d, h, e => by
    obtain ⟨v, vr, rfl, r1, r⟩ := h.inv
    obtain ⟨u, e1, e2⟩ := r.get (i := i) (d := d) (by simpa using e)
    exact ⟨u, by simpa using e1, e2⟩
theorem RelL.append : ∀ {ds es : List D} {vs us : List V}, RelL K F ds vs → RelL K F es us → RelL K F (ds ++ es) (vs ++ us)
  | [], es, vs, us, h, r => by rw [h.inv0]; exact r
  | d :: ds, es, vs, us, h, r => by
    obtain ⟨v, vr, rfl, h1, h2⟩ := h.inv
    exact .cons h1 (h2.append r)
theorem RelL.take : ∀ {ds : List D} {vs : List V} (n : Nat), RelL K F ds vs → RelL K F (ds.take n) (vs.take n)
  | ds, vs, 0, h => by simp; exact .nil
  | [], vs, n + 1, h => by rw [h.inv0]; simp; exact .nil
  | d :: ds, vs, n + 1, h => by
    obtain ⟨v, vr, rfl, h1, h2⟩ := h.inv
    exact .cons h1 (h2.take n)
theorem RelL.drop : ∀ {ds : List D} {vs : List V} (n : Nat), RelL K F ds vs → RelL K F (ds.drop n) (vs.drop n)
  | ds, vs, 0, h => by simpa using h
  | [], vs, n + 1, h => by rw [h.inv0]; simp; exact .nil
  | d :: ds, vs, n + 1, h => by
    obtain ⟨v, vr, rfl, h1, h2⟩ := h.inv
    simpa using h2.drop n
theorem RelL.set {d : D} {v : V} (r : Rel K F d v) : ∀ {ds : List D} {vs : List V} (i : Nat), RelL K F ds vs → RelL K F (ds.set i d) (vs.set i v)
  | [], vs, i, h => by rw [h.inv0]; simp; exact .nil
  | x :: ds, vs, 0, h => by
    obtain ⟨y, vr, rfl, h1, h2⟩ := h.inv
    exact .cons r h2
  | x :: ds, vs, i + 1, h => by
    obtain ⟨y, vr, rfl, h1, h2⟩ := h.inv
    exact .cons h1 (h2.set r i)
theorem RelL.reverse : ∀ {ds : List D} {vs : List V}, RelL K F ds vs → RelL K F ds.reverse vs.reverse
  | [], vs, h => by rw [h.inv0]; exact .nil
  | d :: ds, vs, h => by
    obtain ⟨v, vr, rfl, h1, h2⟩ := h.inv
    rw [List.reverse_cons, List.reverse_cons]
    exact h2.reverse.append (.cons h1 .nil)
theorem RelL.rep {ds : List D} {vs : List V} (h : RelL K F ds vs) : ∀ k : Nat, RelL K F (List.replicate k ds).flatten (List.replicate k vs).flatten
  | 0 => .nil
  | k + 1 => by
    rw [List.replicate_succ, List.replicate_succ, List.flatten_cons, List.flatten_cons]
    exact h.append (h.rep k)
theorem RelL.ints : ∀ {ds : List D} {vs : List V} {ns : List Int}, RelL K F ds vs → intsOf ds = some ns → vs = ns.map V.int
  | [], vs, ns, h, e => by cases e; rw [h.inv0]; rfl
  | .int i :: ds, vs, ns, h, e => by
    obtain ⟨v, vr, rfl, h1, h2⟩ := h.inv
    unfold intsOf at e
    cases q : intsOf ds with
    | none => rw [q] at e; cases e
    | some ms =>
      rw [q] at e; cases e
      unfold Rel at h1
      rw [h1, h2.ints q]; rfl
  | .none :: ds, vs, ns, h, e => by cases e
  | .bool _ :: ds, vs, ns, h, e => by cases e
  | .str _ :: ds, vs, ns, h, e => by cases e
  | .list _ :: ds, vs, ns, h, e => by cases e
  | .tuple _ :: ds, vs, ns, h, e => by cases e
  | .dict _ :: ds, vs, ns, h, e => by cases e
theorem relL_ints : ∀ (ns : List Int), RelL K F (ns.map .int) (ns.map V.int)
  | [] => .nil
  | n :: ns => .cons (by unfold Rel; rfl) (relL_ints ns)

mutual
theorem dp_of {H : Hp} (s : Same F.h H) : ∀ (d : D) (v : V), d.canLay0 = true → Rel K F d v → Dp K H v d
  | .none, v, _, h => by unfold Rel at h; subst h; exact .non
  | .bool b, v, _, h => by unfold Rel at h; subst h; exact .bl b
  | .int i, v, _, h => by unfold Rel at h; subst h; exact .int i
  | .str x, v, _, h => by unfold Rel at h; subst h; exact .str x
  | .list xs, v, c, h => by
    unfold Rel at h
    obtain ⟨a, vs, rfl, q, r⟩ := h
    unfold PyData.canLay0 at c
    exact .lst (SqL.of (s _ _ q)) (dpAll_of s xs vs c r)
  | .tuple xs, v, c, h => by
    unfold Rel at h
    obtain ⟨a, vs, rfl, q, r⟩ := h
    unfold PyData.canLay0 at c
    exact .tup (q.sqT s) (dpAll_of s xs vs c r)
  | .dict kvs, v, c, _ => by unfold PyData.canLay0 at c; cases c
theorem dpAll_of {H : Hp} (s : Same F.h H) : ∀ (ds : List D) (vs : List V), PyData.canLayAll0 ds = true → RelL K F ds vs → DpAll K H vs ds
  | [], vs, _, h => by rw [h.inv0]; exact .nil
  | d :: ds, vs, c, h => by
    obtain ⟨v, vr, rfl, h1, h2⟩ := h.inv
    unfold PyData.canLayAll0 at c
    simp only [Bool.and_eq_true] at c
    exact .cons (dp_of s d v c.1 h1) (dpAll_of s ds vr c.2 h2)
end
end

section
variable (K : PySem.W.Frag) (F : Fz)
def ShO (H : Hp) (kvs : List (D × D)) (a : Addr) : Prop := ∃ (c : Nat) (r : List (D × D)) (Cn : Addr × List Str) (dx : Addr) (fs : List (Str × V)), kvs = (.list [.int c], .none) :: r ∧ F.sc.2.1[c]? = some Cn ∧ H a = some (.ins Cn.1 dx fs) ∧ (∀ p ∈ fs, p.1 ∈ Cn.2) ∧ RelKV K F r (fs.map fun p => ((.inr p.1, p.2) : Key × V))
def ShT (H : Hp) (kvs : List (D × D)) (a : Addr) : Prop := (∃ r kk, kvs = (.none, .none) :: r ∧ H a = some (.dT kk) ∧ RelKT K F r kk) ∨ ∃ r xs, kvs = (.none, .bool true) :: r ∧ (∃ ep, H a = some (nO a xs ep)) ∧ NdOk a xs ∧ RelN K F r xs
def Sh (H : Hp) (d : D) (v : V) : Prop := match d with
  | .none => v = .non
  | .bool b => v = .bl b
  | .int i => v = .int i
  | .str x => v = .str x
  | .list xs => ∃ a vs, v = .ref a ∧ H a = some (.lst vs) ∧ RelL K F xs vs
  | .tuple xs => ∃ a vs, v = .ref a ∧ TupAt K F a vs ∧ RelL K F xs vs
  | .dict kvs => (isDeck kvs = true ∧ ∃ a, v = .ref a ∧ ((∃ n, tokD n = .dict kvs) ∨ ShO K F H kvs a ∨ ShT K F H kvs a)) ∨ (isDeck kvs = false ∧ ∃ a kk, v = .ref a ∧ H a = some (.dK kk) ∧ RelKV K F kvs kk)
def OwnAt (H : Hp) (d : D) (a : Addr) : Prop := match d with
  | .list xs => ∃ vs, H a = some (.lst vs) ∧ RelL K F xs vs
  | .dict kvs => (isDeck kvs = false ∧ ∃ kk, H a = some (.dK kk) ∧ RelKV K F kvs kk) ∨ ShO K F H kvs a ∨ ShT K F H kvs a
  | _ => False
end
section
variable {K : PySem.W.Frag} {F F' : Fz} {H H' : Hp}
theorem RelO.sh {kvs : List (D × D)} {v : V} (s : Same F.h H) (h : RelO K F kvs v) : ∃ a, v = .ref a ∧ ShO K F H kvs a := by
  cases kvs with
  | nil => unfold RelO at h; exact h.elim
  | cons p r =>
    obtain ⟨k, m⟩ := p
    unfold RelO at h
    obtain ⟨rfl, c, Cn, a, dx, fs, rfl, e2, e3, e4, e5, e6⟩ := h
    exact ⟨a, e3, c, r, Cn, dx, fs, rfl, e2, s _ _ e4, e5, e6⟩
theorem RelTd.sh {kvs : List (D × D)} {v : V} (s : Same F.h H) (h : RelTd K F kvs v) : ∃ a, v = .ref a ∧ ShT K F H kvs a := by
  cases kvs with
  | nil => unfold RelTd at h; exact h.elim
  | cons p r =>
    obtain ⟨k, m⟩ := p
    unfold RelTd at h
    obtain ⟨rfl, ⟨rfl, a, kk, e1, e2, e3⟩ | ⟨rfl, a, xs, e1, e2, e3, e4⟩⟩ := h
    · exact ⟨a, e1, .inl ⟨r, kk, rfl, s _ _ e2, e3⟩⟩
    · exact ⟨a, e1, .inr ⟨r, xs, rfl, e2.imp fun _ z => s _ _ z, e3, e4⟩⟩
theorem ShO.mark {kvs : List (D × D)} {a : Addr} (h : ShO K F H kvs a) : isDeck kvs = true := by
  obtain ⟨c, r, Cn, dx, fs, rfl, _⟩ := h; rfl
theorem ShT.mark {kvs : List (D × D)} {a : Addr} (h : ShT K F H kvs a) : isDeck kvs = true := by
  obtain ⟨r, kk, rfl, _⟩ | ⟨r, xs, rfl, _⟩ := h <;> rfl
theorem ShO.move {kvs : List (D × D)} {a : Addr} (h : ShO K F H kvs a) (s : Fsub F F') (k : ∀ o, H a = some o → H' a = some o) : ShO K F' H' kvs a := by
  obtain ⟨c, r, Cn, dx, fs, e1, e2, e3, e4, e5⟩ := h
  exact ⟨c, r, Cn, dx, fs, e1, by rw [s.sc]; exact e2, k _ e3, e4, e5.mono s _ _⟩
theorem ShT.move {kvs : List (D × D)} {a : Addr} (h : ShT K F H kvs a) (s : Fsub F F') (k : ∀ o, H a = some o → H' a = some o) : ShT K F' H' kvs a := by
  obtain ⟨r, kk, e1, e3, e5⟩ | ⟨r, xs, e1, e3, e4, e5⟩ := h
  · exact .inl ⟨r, kk, e1, k _ e3, e5.mono s _ _⟩
  · exact .inr ⟨r, xs, e1, e3.imp fun _ z => k _ z, e4, e5.mono s _ _⟩
theorem Rel.sh (s : Same F.h H) {d : D} {v : V} (h : Rel K F d v) : Sh K F H d v := by
  cases d with
  | none => unfold Rel at h; exact h
  | bool b => unfold Rel at h; exact h
  | int i => unfold Rel at h; exact h
  | str x => unfold Rel at h; exact h
  | list xs => unfold Rel at h; obtain ⟨a, vs, e, q, r⟩ := h; exact ⟨a, vs, e, s _ _ q, r⟩
  | tuple xs => unfold Rel at h; exact h
  | dict kvs =>
    unfold Rel at h
    rcases h with ⟨m, ⟨d, l, e, q, z⟩ | ⟨a, ns, e, q, _, z⟩ | q | q⟩ | ⟨m, a, kk, e, q, r⟩
    · exact .inl ⟨m, d, q, .inl ⟨_, z⟩⟩
    · exact .inl ⟨m, a, q, .inl ⟨_, z⟩⟩
    · obtain ⟨a, e, z⟩ := RelO.sh s q
      exact .inl ⟨m, a, e, .inr (.inl z)⟩
    · obtain ⟨a, e, z⟩ := RelTd.sh s q
      exact .inl ⟨m, a, e, .inr (.inr z)⟩
    · exact .inr ⟨m, a, kk, e, s _ _ q, r⟩
theorem OwnAt.sh {d : D} {a : Addr} (h : OwnAt K F H d a) : Sh K F H d (.ref a) := by
  cases d with
  | list xs => obtain ⟨vs, q, r⟩ := h; exact ⟨a, vs, rfl, q, r⟩
  | dict kvs =>
    rcases h with ⟨m, kk, q, r⟩ | q | q
    · exact .inr ⟨m, a, kk, rfl, q, r⟩
    · exact .inl ⟨q.mark, a, rfl, .inr (.inl q)⟩
    · exact .inl ⟨q.mark, a, rfl, .inr (.inr q)⟩
  | none => exact h.elim
  | bool b => exact h.elim
  | int i => exact h.elim
  | str x => exact h.elim
  | tuple xs => exact h.elim
theorem OwnAt.there {d : D} {a : Addr} (h : OwnAt K F H d a) : ∃ o, H a = some o := by
  cases d with
  | list xs => obtain ⟨vs, q, r⟩ := h; exact ⟨_, q⟩
  | dict kvs =>
    rcases h with ⟨m, kk, q, r⟩ | ⟨_, _, _, _, _, _, _, q, _⟩ | ⟨_, _, _, q, _⟩ | ⟨_, _, _, ⟨_, q⟩, _⟩
    · exact ⟨_, q⟩
    · exact ⟨_, q⟩
    · exact ⟨_, q⟩
    · exact ⟨_, q⟩
  | none => exact h.elim
  | bool b => exact h.elim
  | int i => exact h.elim
  | str x => exact h.elim
  | tuple xs => exact h.elim
theorem OwnAt.notTup {d : D} {a : Addr} (h : OwnAt K F H d a) : ∀ xs, H a ≠ some (.tup xs) := fun ys z => by
  cases d with
  | list xs => obtain ⟨vs, q, r⟩ := h; rw [q] at z; cases z
  | dict kvs =>
    rcases h with ⟨m, kk, q, r⟩ | ⟨_, _, _, _, _, _, _, q, _⟩ | ⟨_, _, _, q, _⟩ | ⟨_, _, _, ⟨_, q⟩, _⟩
    · rw [q] at z; cases z
    · rw [q] at z; cases z
    · rw [q] at z; cases z
    · rw [q] at z; cases z
  | none => exact h.elim
  | bool b => exact h.elim
  | int i => exact h.elim
  | str x => exact h.elim
  | tuple xs => exact h.elim
theorem OwnAt.move {d : D} {a : Addr} (h : OwnAt K F H d a) (s : Fsub F F') (k : ∀ o, H a = some o → H' a = some o) : OwnAt K F' H' d a := by
  cases d with
  | list xs => obtain ⟨vs, q, r⟩ := h; exact ⟨vs, k _ q, r.mono s _ _⟩
  | dict kvs =>
    rcases h with ⟨m, kk, q, r⟩ | q | q
    · exact .inl ⟨m, kk, k _ q, r.mono s _ _⟩
    · exact .inr (.inl (q.move s k))
    · exact .inr (.inr (q.move s k))
  | none => exact h.elim
  | bool b => exact h.elim
  | int i => exact h.elim
  | str x => exact h.elim
  | tuple xs => exact h.elim
theorem OwnAt.frozen {d : D} {a : Addr} (h : OwnAt K F H d a) (n : F.h a = none) {o : HO} (e : H a = some o) : Rel K (F.put a o) d (.ref a) := by
  have s : Fsub F (F.put a o) := Fsub.put n
  cases d with
  | list xs =>
    obtain ⟨vs, q, r⟩ := h
    rw [q] at e; cases e
    unfold Rel
    exact ⟨a, vs, rfl, upd_same, r.mono s _ _⟩
  | dict kvs =>
    rcases h with ⟨m, kk, q, r⟩ | ⟨c, r, Cn, dx, fs, rfl, e2, e3, e4, e5⟩ | ⟨r, kk, rfl, q, e5⟩ | ⟨r, xs, rfl, ⟨ep, q⟩, e4, e5⟩
    · rw [q] at e; cases e
      unfold Rel
      exact .inr ⟨m, a, kk, rfl, upd_same, r.mono s _ _⟩
    · rw [e3] at e; cases e
      unfold Rel
      refine .inl ⟨rfl, .inr (.inr (.inl ?_))⟩
      unfold RelO
      exact ⟨rfl, c, Cn, a, dx, fs, rfl, e2, rfl, upd_same, e4, e5.mono s _ _⟩
    · rw [q] at e; cases e
      unfold Rel
      refine .inl ⟨rfl, .inr (.inr (.inr ?_))⟩
      unfold RelTd
      exact ⟨rfl, .inl ⟨rfl, a, kk, rfl, upd_same, e5.mono s _ _⟩⟩
    · rw [q] at e; cases e
      unfold Rel
      refine .inl ⟨rfl, .inr (.inr (.inr ?_))⟩
      unfold RelTd
      exact ⟨rfl, .inr ⟨rfl, a, xs, rfl, ⟨_, upd_same⟩, e4, e5.mono s _ _⟩⟩
  | none => exact h.elim
  | bool b => exact h.elim
  | int i => exact h.elim
  | str x => exact h.elim
  | tuple xs => exact h.elim
end

structure Ct where
  K : PySem.W.Frag
  n1 : Str
  n2 : Str
  n3 : Option Str
  sc : Option (Addr × List Int) × List (Addr × List Str) × Bool × List (Addr × Str)
  H0 : Hp
  F0 : Fz
  Φ : Fns
  fu : Nat
  xc : List (Addr × Option Str) := []
  slf : Option (Nat × Addr) := none
  xf : Option (Addr × Str × D) := none
class KtOff (C : Ct) : Prop where
  off : C.sc.2.2.1 = false
def dkL (C : Ct) (l : Addr) (st : Dk) : List (Key × V) := (.inr C.n1, .ref l) :: (.inr C.n2, .int st.mixed) :: (C.n3.map fun n => ((.inr n, .int st.turn) : Key × V)).toList
def DkD (C : Ct) (F : Fz) (g : G) (H : Hp) : Prop := match g with
  | none => F.dk = none
  | some st => ∃ d l, F.dk = some (d, l) ∧ d ≠ l ∧ F.h d = none ∧ F.h l = none ∧ H l = some (.lst (st.cells.map V.int)) ∧
      H d = some (.dK (dkL C l st))
def TabR (F : Fz) (H : Hp) : Prop := ∀ P q, (P, q) ∈ F.sc.2.2.2 → F.h P = none ∧ ∃ ps : Array Value, H P = some (.tbl ps) ∧ TriplesOk ps.toList ∧ ∀ (pos : Pos) (cv : Value), codeAmong pos ps.toList = some cv → ∃ c, cv = .ref c ∧ F.h c = some (LamX.CodeO c q)
abbrev DkR (C : Ct) (F : Fz) (g : G) (H : Hp) : Prop := DkD C F g H ∧ TabR F H
theorem DkR.dd {C : Ct} {F : Fz} {g : G} {H : Hp} (h : DkR C F g H) : DkD C F g H := h.1
theorem DkR.tb {C : Ct} {F : Fz} {g : G} {H : Hp} (h : DkR C F g H) : TabR F H := h.2
theorem TabR.move {F F' : Fz} {H H' : Hp} (h : TabR F H) (fs : Fsub F F') (k : ∀ P q, (P, q) ∈ F.sc.2.2.2 → H' P = H P) (n : ∀ P q, (P, q) ∈ F.sc.2.2.2 → F'.h P = none) : TabR F' H' := fun P q m => by
  have m' : (P, q) ∈ F.sc.2.2.2 := by rw [← fs.sc]; exact m
  obtain ⟨_, ps, e, t, c⟩ := h P q m'
  refine ⟨n P q m', ps, (k P q m').trans e, t, fun pos cv z => ?_⟩
  obtain ⟨c0, e1, e2⟩ := c pos cv z
  exact ⟨c0, e1, fs.h _ _ e2⟩
def XR (C : Ct) (F : Fz) (c : Nat) (vs : List D) (cls : Value) (d : Option Addr) : Prop := ∃ Ca fo, C.xc[c]? = some (Ca, fo) ∧ cls = .ref Ca ∧ match fo with
  | none => d = none ∧ vs = []
  | some f => ∃ dd v x, d = some dd ∧ vs = [v] ∧ F.h dd = some (.xd [(f, x)]) ∧ Rel C.K F v x
def TupF (F : Fz) (H : Hp) : Prop := ∀ a xs, H a = some (.tup xs) → F.h a = some (.tup xs)
structure R (C : Ct) (Ow : List Nat) (T : Hp) (F : Fz) (σe : Sl) (g : G) (σ : L2.St) (H : Hp) : Prop where
  sub : Same F.h H
  sc : F.sc = C.sc
  grow : Fsub C.F0 F
  new : ∀ a o, F.h a = some o → C.F0.h a = none → C.H0 a = none
  keep : ∀ a o, C.H0 a = some o → F.isDk a ∨ H a = some o
  dnew : ∀ d l, F.dk = some (d, l) → C.F0.dk = some (d, l) ∨ (C.H0 d = none ∧ C.H0 l = none)
  len : σe.length = σ.length
  fz : ∀ i v, σe[i]? = some (some v) → i ∉ Ow → ∃ x, σ[i]? = some (some x) ∧ Rel C.K F v x
  ow : ∀ i v, σe[i]? = some (some v) → i ∈ Ow → ∃ a, σ[i]? = some (some (V.ref a)) ∧ OwnAt C.K F H v a ∧ C.H0 a = none ∧ F.h a = none ∧ ¬ F.isDk a
  inj : ∀ i j a, i ∈ Ow → j ∈ Ow → (∃ v, σe[i]? = some (some v)) → (∃ v, σe[j]? = some (some v)) → σ[i]? = some (some (V.ref a)) → σ[j]? = some (some (V.ref a)) → i = j
  dk : DkR C F g H
  hold : ∀ a o, T a = some o → H a = some o ∧ C.H0 a = none ∧ F.h a = none ∧ ¬ F.isDk a ∧ ∀ i v, i ∈ Ow → σe[i]? = some (some v) → σ[i]? ≠ some (some (V.ref a))
  slf : ∀ j a, C.slf = some (j, a) → j ∈ Ow → σ[j]? = some (some (V.ref a))
  xf : ∀ dd f v, C.xf = some (dd, f, v) → ∃ x, F.h dd = some (.xd [(f, x)]) ∧ Rel C.K F v x
  tups : TupF F H
section
variable {C : Ct} {Ow : List Nat} {T : Hp} {F F' : Fz} {σe : Sl} {g g' : G} {σ : L2.St} {H H' : Hp}
theorem R.xfm (r : R C Ow T F σe g σ H) (fs : Fsub F F') : ∀ dd f v, C.xf = some (dd, f, v) → ∃ x, F'.h dd = some (.xd [(f, x)]) ∧ Rel C.K F' v x := fun dd f v z => let ⟨x, e1, e2⟩ := r.xf dd f v z; ⟨x, fs.h _ _ e1, e2.mono fs _ _⟩
theorem DkR.there (h : DkR C F g H) {a : Addr} (q : F.isDk a) : ∃ o, H a = some o := by
  rcases q with ⟨d, l, e, q⟩ | ⟨q, m⟩
  case inr =>
    obtain ⟨_, ps, e, _⟩ := h.tb a q m
    exact ⟨_, e⟩
  cases g with
  | none => have h : F.dk = none := h.dd; rw [e] at h; cases h
  | some st =>
    obtain ⟨d', l', e', _, _, _, hl, hd⟩ := h.dd
    rw [e] at e'; cases e'
    rcases q with rfl | rfl
    · exact ⟨_, hd⟩
    · exact ⟨_, hl⟩
theorem R.h0 (r : R C Ow T F σe g σ H) {a : Addr} (h : H a = none) : C.H0 a = none := by
  cases e : C.H0 a with
  | none => rfl
  | some o =>
    rcases r.keep a o e with q | q
    · obtain ⟨o', q⟩ := r.dk.there q
      rw [h] at q; cases q
    · rw [h] at q; cases q
theorem R.fn (r : R C Ow T F σe g σ H) {a : Addr} (h : H a = none) : F.h a = none := r.sub.free h
theorem R.step (r : R C Ow T F σe g σ H) (fs : Fsub F F') (sub : Same F'.h H') (nw : ∀ a o, F'.h a = some o → F.h a = none → H a = none)
    (kp : ∀ a o, H a = some o → F'.isDk a ∨ H' a = some o) (dn : ∀ d l, F'.dk = some (d, l) → F.dk = some (d, l) ∨ (H d = none ∧ H l = none)) (dk : DkR C F' g' H') (tp : TupF F' H') : R C Ow T F' σe g' σ H' := by
  have nd : ∀ a o, H a = some o → ¬ F.isDk a → ¬ F'.isDk a := fun a o e n q => by
    rcases q with ⟨d, l, q1, q2⟩ | ⟨q, m⟩
    case inr => exact n (.inr ⟨q, by rw [← fs.sc]; exact m⟩)
    rcases dn d l q1 with z | ⟨z1, z2⟩
    · exact n (.inl ⟨d, l, z, q2⟩)
    · rcases q2 with rfl | rfl
      · rw [e] at z1; cases z1
      · rw [e] at z2; cases z2
  refine ⟨sub, fs.sc.trans r.sc, r.grow.trans fs, fun a o e n => ?_, fun a o e => ?_, fun d l e => ?_, r.len, fun i v e n => ?_, fun i v e n => ?_, r.inj, dk, fun a o e => ?_, r.slf, r.xfm fs, tp⟩
  · cases q : F.h a with
    | some o' => exact r.new a o' q n
    | none => exact r.h0 (nw a o e q)
  · rcases r.keep a o e with q | q
    · exact .inl (fs.isDk q)
    · exact kp a o q
  · rcases dn d l e with q | ⟨q1, q2⟩
    · exact r.dnew d l q
    · exact .inr ⟨r.h0 q1, r.h0 q2⟩
  · obtain ⟨x, e1, e2⟩ := r.fz i v e n
    exact ⟨x, e1, e2.mono fs _ _⟩
  · obtain ⟨a, e1, e2, e3, e4, e5⟩ := r.ow i v e n
    obtain ⟨o, eo⟩ := e2.there
    have nn := nd a o eo e5
    refine ⟨a, e1, e2.move fs fun o' q => ?_, e3, ?_, nn⟩
    · rcases kp a o' q with z | z
      · exact (nn z).elim
      · exact z
    · cases q : F'.h a with
      | none => rfl
      | some o' =>
        have z := nw a o' q e4
        rw [eo] at z; cases z
  · obtain ⟨e1, e2, e3, e4, e5⟩ := r.hold a o e
    have nn := nd a o e1 e4
    refine ⟨(kp a o e1).resolve_left nn, e2, ?_, nn, e5⟩
    cases q : F'.h a with
    | none => rfl
    | some o' =>
      have z := nw a o' q e3
      rw [e1] at z; cases z
theorem R.tn (r : R C Ow T F σe g σ H) {a : Addr} (h : H a = none) : T a = none := by
  cases q : T a with
  | none => rfl
  | some o =>
    have z := (r.hold a o q).1
    rw [h] at z; cases z
theorem TabR.put {p : Addr} {o : HO} (h : TabR F H) (n : H p = none) : TabR F (upd H p o) := h.move (.refl F) (fun P q m => by
  obtain ⟨_, ps, e, _⟩ := h P q m
  exact upd_ne (ne_of_none e n)) fun P q m => (h P q m).1
theorem TabR.putF {p : Addr} {o : HO} (h : TabR F H) (nf : F.h p = none) (n : ¬ F.isDk p) : TabR (F.put p o) H := h.move (Fsub.put nf) (fun P q m => rfl) fun P q m => (upd_ne fun z => n (.inr ⟨q, by rw [← z]; exact m⟩)).trans (h P q m).1
theorem DkR.put {p : Addr} {o : HO} (h : DkR C F g H) (n : H p = none) : DkR C F g (upd H p o) := by
  refine ⟨?_, h.tb.put n⟩
  have h := h.dd
  cases g with
  | none => exact h
  | some st =>
    obtain ⟨d, l, e, ne, f1, f2, hl, hd⟩ := h
    exact ⟨d, l, e, ne, f1, f2, (upd_ne (ne_of_none hl n)).trans hl, (upd_ne (ne_of_none hd n)).trans hd⟩
theorem DkR.putF {p : Addr} {o : HO} (h : DkR C F g H) (n : ¬ F.isDk p) (nf : F.h p = none) : DkR C (F.put p o) g H := by
  refine ⟨?_, h.tb.putF nf n⟩
  have h := h.dd
  cases g with
  | none => exact h
  | some st =>
    obtain ⟨d, l, e, ne, f1, f2, hl, hd⟩ := h
    have n1 : d ≠ p := fun z => n (.inl ⟨d, l, e, .inl z.symm⟩)
    have n2 : l ≠ p := fun z => n (.inl ⟨d, l, e, .inr z.symm⟩)
    exact ⟨d, l, e, ne, (upd_ne n1).trans f1, (upd_ne n2).trans f2, hl, hd⟩
theorem DkR.upd {p : Addr} {o : HO} (h : DkR C F g H) (n : ¬ F.isDk p) : DkR C F g (L2.upd H p o) := by
  refine ⟨?_, h.tb.move (.refl F) (fun P q m => upd_ne fun z => n (.inr ⟨q, by rw [← z]; exact m⟩)) fun P q m => (h.tb P q m).1⟩
  have h := h.dd
  cases g with
  | none => exact h
  | some st =>
    obtain ⟨d, l, e, ne, f1, f2, hl, hd⟩ := h
    have n1 : d ≠ p := fun z => n (.inl ⟨d, l, e, .inl z.symm⟩)
    have n2 : l ≠ p := fun z => n (.inl ⟨d, l, e, .inr z.symm⟩)
    exact ⟨d, l, e, ne, f1, f2, (upd_ne n2).trans hl, (upd_ne n1).trans hd⟩
theorem R.ndk (r : R C Ow T F σe g σ H) {p : Addr} (n : H p = none) : ¬ F.isDk p := fun q => by
  obtain ⟨o, q⟩ := r.dk.there q
  rw [n] at q; cases q
theorem TupF.putN {p : Addr} {o : HO} (h : TupF F H) (ho : ∀ xs, o ≠ .tup xs) : TupF F (upd H p o) := fun a xs e => by
  by_cases z : a = p
  · subst z
    rw [upd_same] at e
    cases e
    exact (ho _ rfl).elim
  · rw [upd_ne z] at e; exact h a xs e
theorem TupF.putF {p : Addr} {o : HO} (h : TupF F H) : TupF (F.put p o) (upd H p o) := fun a xs e => by
  show (upd F.h p o) a = _
  by_cases z : a = p
  · subst z
    rw [upd_same] at e ⊢; exact e
  · rw [upd_ne z] at e ⊢; exact h a xs e
theorem TupF.mono (h : TupF F H) (s : Fsub F F') : TupF F' H := fun a xs e => s.h _ _ (h a xs e)
theorem R.grown {p : Addr} {o : HO} (r : R C Ow T F σe g σ H) (n : H p = none) (ho : ∀ xs, o ≠ .tup xs := by (intro _ z; cases z)) : R C Ow T F σe g σ (upd H p o) :=
  r.step (.refl F) (r.sub.trans (same_upd n)) (fun a o e q => by rw [q] at e; cases e) (fun a o e => .inr ((same_upd n) a o e)) (fun d l e => .inl e) (r.dk.put n) (r.tups.putN ho)
theorem R.laid {p : Addr} {o : HO} (r : R C Ow T F σe g σ H) (n : H p = none) : R C Ow T (F.put p o) σe g σ (upd H p o) := by
  refine r.step (Fsub.put (r.fn n)) (fun a u e => ?_) (fun a u e q => ?_) (fun a u e => .inr ((same_upd n) a u e)) (fun d l e => .inl e) ((r.dk.putF (r.ndk n) (r.fn n)).put n) r.tups.putF
  · by_cases h : a = p
    · subst h
      have e : (upd F.h a o) a = some u := e
      rw [upd_same] at e ⊢; exact e
    · have e : (upd F.h p o) a = some u := e
      rw [upd_ne h] at e ⊢
      exact r.sub _ _ e
  · by_cases h : a = p
    · rw [h]; exact n
    · have e : (upd F.h p o) a = some u := e
      rw [upd_ne h, q] at e; cases e
theorem R.freeze {p : Addr} {o : HO} (r : R C Ow T F σe g σ H) (e : H p = some o) (n0 : C.H0 p = none) (nf : F.h p = none) (nd : ¬ F.isDk p)
    (no : ∀ i v, i ∈ Ow → σe[i]? = some (some v) → σ[i]? ≠ some (some (V.ref p))) (nt : T p = none) : R C Ow T (F.put p o) σe g σ H := by
  have fs : Fsub F (F.put p o) := Fsub.put nf
  refine ⟨fun a u q => ?_, fs.sc.trans r.sc, r.grow.trans fs, fun a u q n => ?_, r.keep, r.dnew, r.len, fun i v q n => ?_, fun i v q n => ?_, r.inj, r.dk.putF nd nf, fun a u q => ?_, r.slf, r.xfm fs, r.tups.mono fs⟩
  · by_cases h : a = p
    · subst h
      have q : (upd F.h a o) a = some u := q
      rw [upd_same] at q; cases q; exact e
    · have q : (upd F.h p o) a = some u := q
      rw [upd_ne h] at q
      exact r.sub _ _ q
  · by_cases h : a = p
    · rw [h]; exact n0
    · have q : (upd F.h p o) a = some u := q
      rw [upd_ne h] at q
      exact r.new a u q n
  · obtain ⟨x, e1, e2⟩ := r.fz i v q n
    exact ⟨x, e1, e2.mono fs _ _⟩
  · obtain ⟨a, e1, e2, e3, e4, e5⟩ := r.ow i v q n
    have ne : a ≠ p := fun z => no i v n q (z ▸ e1)
    exact ⟨a, e1, e2.move fs fun _ z => z, e3, (upd_ne ne).trans e4, e5⟩
  · obtain ⟨e1, e2, e3, e4, e5⟩ := r.hold a u q
    have ne : a ≠ p := fun z => by rw [z, nt] at q; cases q
    exact ⟨e1, e2, (upd_ne ne).trans e3, e4, e5⟩
theorem R.drop {i : Nat} (r : R C (i :: Ow) T F σe g σ H) (h : i ∉ Ow) : ∃ F', Fsub F F' ∧ R C Ow T F' σe g σ H := by
  cases q : σe[i]? with
  | none =>
    refine ⟨F, .refl F, r.sub, r.sc, r.grow, r.new, r.keep, r.dnew, r.len, fun j v e n => ?_, fun j v e n => r.ow j v e (List.mem_cons_of_mem _ n), fun j k a hj hk => r.inj j k a (List.mem_cons_of_mem _ hj) (List.mem_cons_of_mem _ hk), r.dk, fun a o e => let ⟨e1, e2, e3, e4, e5⟩ := r.hold a o e; ⟨e1, e2, e3, e4, fun j v hj => e5 j v (List.mem_cons_of_mem _ hj)⟩, fun i a e z => r.slf i a e (List.mem_cons_of_mem _ z), r.xf, r.tups⟩
    refine r.fz j v e fun m => ?_
    rcases List.mem_cons.mp m with rfl | m
    · rw [q] at e; cases e
    · exact n m
  | some ov =>
    cases ov with
    | none =>
      refine ⟨F, .refl F, r.sub, r.sc, r.grow, r.new, r.keep, r.dnew, r.len, fun j v e n => ?_, fun j v e n => r.ow j v e (List.mem_cons_of_mem _ n), fun j k a hj hk => r.inj j k a (List.mem_cons_of_mem _ hj) (List.mem_cons_of_mem _ hk), r.dk, fun a o e => let ⟨e1, e2, e3, e4, e5⟩ := r.hold a o e; ⟨e1, e2, e3, e4, fun j v hj => e5 j v (List.mem_cons_of_mem _ hj)⟩, fun i a e z => r.slf i a e (List.mem_cons_of_mem _ z), r.xf, r.tups⟩
      refine r.fz j v e fun m => ?_
      rcases List.mem_cons.mp m with rfl | m
      · rw [q] at e; cases e
      · exact n m
    | some v0 =>
      obtain ⟨p, e1, e2, e3, e4, e5⟩ := r.ow i v0 q List.mem_cons_self
      obtain ⟨o, eo⟩ := e2.there
      have r1 : R C Ow T F (σe.set i none) g σ H := by
        refine ⟨r.sub, r.sc, r.grow, r.new, r.keep, r.dnew, by rw [List.length_set]; exact r.len, fun j v e n => ?_, fun j v e n => ?_, fun j k a hj hk h1 h2 => ?_, r.dk, fun a o e => ?_, fun i a e z => r.slf i a e (List.mem_cons_of_mem _ z), r.xf, r.tups⟩
        · by_cases hj : j = i
          · subst hj
            rw [List.getElem?_set] at e
            simp at e
          · rw [List.getElem?_set_ne (Ne.symm hj)] at e
            refine r.fz j v e fun m => ?_
            rcases List.mem_cons.mp m with z | m
            · exact hj z
            · exact n m
        · have hj : j ≠ i := fun z => h (z ▸ n)
          rw [List.getElem?_set_ne (Ne.symm hj)] at e
          exact r.ow j v e (List.mem_cons_of_mem _ n)
        · have hj' : j ≠ i := fun z => h (z ▸ hj)
          have hk' : k ≠ i := fun z => h (z ▸ hk)
          rw [List.getElem?_set_ne (Ne.symm hj')] at h1
          rw [List.getElem?_set_ne (Ne.symm hk')] at h2
          exact r.inj j k a (List.mem_cons_of_mem _ hj) (List.mem_cons_of_mem _ hk) h1 h2
        · obtain ⟨e1, e2, e3, e4, e5⟩ := r.hold a o e
          refine ⟨e1, e2, e3, e4, fun j v hj e => ?_⟩
          have hj' : j ≠ i := fun z => h (z ▸ hj)
          rw [List.getElem?_set_ne (Ne.symm hj')] at e
          exact e5 j v (List.mem_cons_of_mem _ hj) e
      have r2 := r1.freeze (o := o) eo e3 e4 e5 (fun j v hj e z => by
        have hj' : j ≠ i := fun z => h (z ▸ hj)
        rw [List.getElem?_set_ne (Ne.symm hj')] at e
        exact hj' (r.inj j i p (List.mem_cons_of_mem _ hj) List.mem_cons_self ⟨v, e⟩ ⟨v0, q⟩ z e1)) (by
        cases qt : T p with
        | none => rfl
        | some o' => exact ((r.hold p o' qt).2.2.2.2 i v0 List.mem_cons_self q e1).elim)
      refine ⟨F.put p o, Fsub.put e4, r2.sub, r2.sc, r2.grow, r2.new, r2.keep, r2.dnew, r.len, fun j v e n => ?_, fun j v e n => ?_, fun j k a hj hk => r.inj j k a (List.mem_cons_of_mem _ hj) (List.mem_cons_of_mem _ hk), r2.dk, fun a o e => let ⟨e1, e2, e3, e4, e5⟩ := r2.hold a o e; ⟨e1, e2, e3, e4, fun j v hj => (r.hold a o e).2.2.2.2 j v (List.mem_cons_of_mem _ hj)⟩, fun i a e z => r.slf i a e (List.mem_cons_of_mem _ z), r2.xf, r2.tups⟩
      · by_cases hj : j = i
        · subst hj
          rw [q] at e; cases e
          exact ⟨_, e1, e2.frozen e4 eo⟩
        · refine r2.fz j v ?_ n
          rw [List.getElem?_set_ne (Ne.symm hj)]; exact e
      · have hj : j ≠ i := fun z => h (z ▸ n)
        refine r2.ow j v ?_ n
        rw [List.getElem?_set_ne (Ne.symm hj)]; exact e
end
end Pv
end

section
set_option autoImplicit false
namespace Pv
open PySem PySem.Spec PyProof.Rows L2

theorem lineN_le {n : Nat} (h : n ≤ lineN) : n ≤ sizeLine := by rw [sizeLine_eq]; exact h
theorem lineN_lt {n : Nat} (h : n < lineN) : n < sizeLine := by rw [sizeLine_eq]; exact h

theorem pe_con {X : Cx} {e : Expr} {t t' : TE} (h : PE X e t) (c : ∀ σ H Q, t' σ H Q → t σ H Q) : PE X e t' := ⟨fun pins s σ H Q I hw => h.run pins s σ H Q I (c σ H Q hw)⟩
theorem pt_con {X : Cx} {e : Expr} {t t' : TT} (h : PT X e t) (c : ∀ σ H Q, t' σ H Q → t σ H Q) : PT X e t' := ⟨fun pins s σ H Q I hw => h.run pins s σ H Q I (c σ H Q hw)⟩
theorem pw_con {X : Cx} {e : Expr} {t t' : TT} (h : PW X e t) (c : ∀ σ H Q, t' σ H Q → t σ H Q) : PW X e t' := ⟨fun wh pins s σ H Q I hw => h.run wh pins s σ H Q I (c σ H Q hw)⟩
theorem pa_con {X : Cx} {es : List Expr} {t t' : TA} (h : PA X es t) (c : ∀ σ H Q, t' σ H Q → t σ H Q) : PA X es t' := ⟨fun pos pins s σ H Q I hw => h.run pos pins s σ H Q I (c σ H Q hw)⟩
theorem ps_con {X : Cx} {st : Stmt} {t t' : TS} (h : PS X st t) (c : ∀ D σ H, t' D σ H → t D σ H) : PS X st t' := ⟨fun pins s σ H D I hw => h.run pins s σ H D I (c D σ H hw)⟩
theorem pss_con {X : Cx} {st : List Stmt} {t t' : TS} (h : PSs X st t) (c : ∀ D σ H, t' D σ H → t D σ H) : PSs X st t' := ⟨fun pins s σ H D I hw => h.run pins s σ H D I (c D σ H hw)⟩

abbrev Mv := Sl → G → Res D
def tS (C : Ct) (Ow : List Nat) (m : Mv) : TE := fun σ H Q => ∃ T F σe g v g', R C Ow T F σe g σ H ∧ m σe g = .ok v g' ∧ ∀ F' H' x, Fsub F F' → R C Ow T F' σe g' σ H' → Rel C.K F' v x → Q x H'
def Bm (C : Ct) (Ow : List Nat) (F : Fz) (σe : Sl) (σ : L2.St) (v : D) (x : V) : Prop := Rel C.K F v x ∨ ∃ i, i ∈ Ow ∧ σe[i]? = some (some v) ∧ σ[i]? = some (some x)
def tB (C : Ct) (Ow : List Nat) (m : Mv) : TE := fun σ H Q => ∃ T F σe g v g', R C Ow T F σe g σ H ∧ m σe g = .ok v g' ∧ ∀ F' H' x, Fsub F F' → R C Ow T F' σe g' σ H' → Bm C Ow F' σe σ v x → Q x H'
structure New (C : Ct) (Ow : List Nat) (T : Hp) (F : Fz) (σe : Sl) (σ : L2.St) (H : Hp) (v : D) (a : Addr) : Prop where
  at_ : OwnAt C.K F H v a
  h0 : C.H0 a = none
  fn : F.h a = none
  nd : ¬ F.isDk a
  no : ∀ i v, i ∈ Ow → σe[i]? = some (some v) → σ[i]? ≠ some (some (V.ref a))
  nt : T a = none
def tF (C : Ct) (Ow : List Nat) (m : Mv) : TE := fun σ H Q => ∃ T F σe g v g', R C Ow T F σe g σ H ∧ m σe g = .ok v g' ∧ ∀ F' H' a, Fsub F F' → R C Ow T F' σe g' σ H' → New C Ow T F' σe σ H' v a → Q (.ref a) H'
def tT (C : Ct) (Ow : List Nat) (m : Mv) : TT := fun σ H Q => ∃ T F σe g b g', R C Ow T F σe g σ H ∧ m σe g = .ok (.bool b) g' ∧ ∀ F' H', Fsub F F' → R C Ow T F' σe g' σ H' → Q b H'
def tA (C : Ct) (Ow : List Nat) (m : Sl → G → Res (List D)) : TA := fun σ H Q => ∃ T F σe g vs g', R C Ow T F σe g σ H ∧ m σe g = .ok vs g' ∧ ∀ F' H' xs, Fsub F F' → R C Ow T F' σe g' σ H' → RelL C.K F' vs xs → Q xs H'

structure Es (X : Cx) (C : Ct) (Ow : List Nat) (e : Expr) (i : Ex) : Prop where
  run : PE X e (tS C Ow (ev C.Φ i))
structure Eb (X : Cx) (C : Ct) (Ow : List Nat) (e : Expr) (i : Ex) : Prop where
  run : PE X e (tB C Ow (ev C.Φ i))
structure Ef (X : Cx) (C : Ct) (Ow : List Nat) (e : Expr) (i : Ex) : Prop where
  run : PE X e (tF C Ow (ev C.Φ i))
structure Et (X : Cx) (C : Ct) (Ow : List Nat) (e : Expr) (i : Ex) : Prop where
  run : PT X e (tT C Ow (ev C.Φ i))
structure Ew (X : Cx) (C : Ct) (Ow : List Nat) (e : Expr) (i : Ex) : Prop where
  run : PW X e (tT C Ow (ev C.Φ i))
structure Ea (X : Cx) (C : Ct) (Ow : List Nat) (es : List Expr) (is : Exs) : Prop where
  run : PA X es (tA C Ow (evs C.Φ is))

section
variable {X : Cx} {C : Ct} {Ow : List Nat} {T : Hp} {F F' : Fz} {σe : Sl} {g g' : G} {σ : L2.St} {H H' : Hp} {v : D} {x : V}
theorem Bm.mono (h : Bm C Ow F σe σ v x) (s : Fsub F F') : Bm C Ow F' σe σ v x := by
  rcases h with h | h
  · exact .inl (h.mono s _ _)
  · exact .inr h
theorem R.sh (r : R C Ow T F σe g σ H) (h : Bm C Ow F σe σ v x) : Sh C.K F H v x := by
  rcases h with h | ⟨i, hi, e1, e2⟩
  · exact h.sh r.sub
  · obtain ⟨a, q, o, _⟩ := r.ow i v e1 hi
    rw [q] at e2
    have e2 : V.ref a = x := Option.some.inj (Option.some.inj e2)
    rw [← e2]
    exact o.sh
theorem R.frozen {a : Addr} (r : R C Ow T F σe g σ H) (n : New C Ow T F σe σ H v a) : ∃ F', Fsub F F' ∧ R C Ow T F' σe g σ H ∧ Rel C.K F' v (.ref a) := by
  obtain ⟨o, eo⟩ := n.at_.there
  exact ⟨F.put a o, Fsub.put n.fn, r.freeze eo n.h0 n.fn n.nd n.no n.nt, n.at_.frozen n.fn eo⟩
variable {e : Expr} {i : Ex}
theorem Es.b (h : Es X C Ow e i) : Eb X C Ow e i := ⟨pe_con h.run fun σ H Q ⟨T, F, σe, g, v, g', r, m, q⟩ => ⟨T, F, σe, g, v, g', r, m, fun F' H' x s r' h => q F' H' x s r' (.inl h)⟩⟩
theorem Ef.s (h : Ef X C Ow e i) : Es X C Ow e i := ⟨pe_con h.run fun σ H Q ⟨T, F, σe, g, v, g', r, m, q⟩ => ⟨T, F, σe, g, v, g', r, m, fun F' H' a s r' n => by
  obtain ⟨F2, s2, r2, q2⟩ := r'.frozen n
  exact q F2 H' (.ref a) (s.trans s2) r2 q2⟩⟩
theorem Ef.b (h : Ef X C Ow e i) : Eb X C Ow e i := h.s.b
theorem Ew.t (h : Ew X C Ow e i) : Et X C Ow e i := ⟨h.run.pt⟩

def Out (K : PySem.W.Frag) (F : Fz) (H : Hp) (d : D) (Q : V → Hp → Prop) : Prop :=
  (∀ x, Rel K F d x → Q x H) ∧ (∀ p o, H p = none → Rel K (F.put p o) d (.ref p) → Q (.ref p) (upd H p o))
theorem R.out {Q : V → Hp → Prop} (r : R C Ow T F σe g σ H) (h : ∀ F' H' x, Fsub F F' → R C Ow T F' σe g σ H' → Rel C.K F' v x → Q x H') : Out C.K F H v Q :=
  ⟨fun x q => h F H x (.refl F) r q, fun p o n q => h (F.put p o) (upd H p o) (.ref p) (Fsub.put (r.fn n)) (r.laid n) q⟩
theorem rel_int {K : PySem.W.Frag} {i : Int} : Rel K F (.int i) (.int i) := by unfold Rel; rfl
theorem rel_bl {K : PySem.W.Frag} {i : Bool} : Rel K F (.bool i) (.bl i) := by unfold Rel; rfl
theorem rel_str {K : PySem.W.Frag} {i : Str} : Rel K F (.str i) (.str i) := by unfold Rel; rfl
theorem rel_non {K : PySem.W.Frag} : Rel K F .none .non := by unfold Rel; rfl
theorem rel_lst {K : PySem.W.Frag} {xs : List D} {vs : List V} {p : Addr} (n : F.h p = none) (r : RelL K F xs vs) : Rel K (F.put p (.lst vs)) (.list xs) (.ref p) := by
  unfold Rel; exact ⟨p, vs, rfl, upd_same, r.mono (Fsub.put n) _ _⟩
theorem rel_tup {K : PySem.W.Frag} {xs : List D} {vs : List V} {p : Addr} (n : F.h p = none) (r : RelL K F xs vs) : Rel K (F.put p (.tup vs)) (.tuple xs) (.ref p) := by
  unfold Rel; exact ⟨p, vs, rfl, .inl upd_same, r.mono (Fsub.put n) _ _⟩

def bop : Bop → Operator
  | .add => .Add | .sub => .Sub | .mul => .Mult | .fdiv => .FloorDiv | .mod => .Mod | .pow => .Pow | .shl => .LShift | .shr => .RShift | .band => .BitAnd | .bor => .BitOr | .bxor => .BitXor | .lcat => .Add | .lrep => .Mult
def cop : Cop → CmpOp
  | .eq => .Eq | .ne => .NotEq | .lt => .Lt | .le => .LtE | .gt => .Gt | .ge => .GtE | .isin => .In | .notin => .NotIn | .isN => .Is | .notN => .IsNot

def CDivNW (_ j : Int) : Prop := j < 0 ∧ j.natAbs.log2 < 9000
theorem op_fdivNW : OpR X (binaryOp .FloorDiv) (rI CDivNW fun i j => .int (i.fdiv j)) := opI fun i j _ _ _ _ _ hc q => by
  have h1 : j < 0 := hc.1
  exact floordiv_int (by omega) q (.inl (PyProof.noPylong_of_log2 hc.2))
theorem tuple_mul1 (l : Addr) (items : Array Value) (n : Nat) (dd : Option Addr) (sl : Array (Option Value)) (u : Tok) :
    Meets (Builtin.«tuple.__mul__» ⟨[.ref l, .int 1 u], []⟩) (fun _ R s => s.heap.get? l = some { cls := .type "tuple", dict := dd, data := .seq items n, slots := sl } ∧ R (.ok (.ret (.ref l))) s) :=
  .of_wp fun prog w A R s h => by
    obtain ⟨hp, g, d, tk, os⟩ := s
    obtain ⟨hl, h⟩ := h
    have f1 := AutoSeq1.idx_int
    have c1 : (items.isEmpty || (1 : Int) == 1) = true := by simp
    wp_walk using wpAny_loadPart' hl
    repeat (first
      | (refine wpAny_ite_true (decide_eq_true (by rw [c1])) ?_; wp_walk using wpAny_loadPart' hl)
      | (refine wpAny_ite_false (by decide) ?_; wp_walk using wpAny_loadPart' hl))
    exact ⟨_, rfl, h⟩
theorem op_rep1 : OpR X (binaryOp .Mult) (fun x y H Q => ∃ l xs, x = .ref l ∧ y = .int 1 ∧ SqT X.K H l xs ∧ Q (.ref l) H) := by
  intro pins s σ H x y v u Q I rx ry h
  obtain ⟨l, xs, rfl, rfl, hT, q⟩ := h
  cases rx
  obtain ⟨t, rfl⟩ := ry
  obtain ⟨its, r, ⟨⟨cls, dd, data, sl⟩, ho, hc, n, hd⟩, hs⟩ := I.tuple hT
  simp only at hc hd
  subst hc hd
  exact wpAny_binaryOp_repeat_ref (T := "tuple") (U := "int") (by decide) ⟨_, ho, rfl⟩ (fun s' => typeIs_int s' 1 t) noFill_tuple_mul F.fills_int_mul F.slot_int_rmul repeat_tuple F.slot_int_index.lookup
    (call_meets F.slot_int_rmul (typeIs_int s 1 t) F.entry_int_rmul (F.args_int_rmul_2 _ _) (int_rmul_tuple 1 t l its.toArray n dd sl)
      ⟨ho, rfl, ⟨_, ho, rfl⟩, call_meets F.slot_tuple_mul ⟨_, ho, rfl⟩ F.entry_tuple_mul (F.args_tuple_mul_2 _ _) (tuple_mul1 l its.toArray n dd sl t) ⟨ho, ⟨.ref l, H, I, rfl, q⟩⟩⟩)
def rB (K : PySem.W.Frag) (o : Bop) : R2 := fun x y H Q => ∃ F va vb v, Same F.h H ∧ Sh K F H va x ∧ Sh K F H vb y ∧ binV o va vb = some v ∧ Out K F H v Q
theorem op_bin (o : Bop) : OpR X (binaryOp (bop o)) (rB X.K o) := by
  intro pins s σ H x y u w Q I rx ry h
  obtain ⟨F, va, vb, v, sub, ha, hb, hv, q⟩ := h
  unfold binV at hv
  split at hv
  · cases hv; cases ha; cases hb
    exact op_add pins s σ H _ _ u w Q I rx ry ⟨_, _, rfl, rfl, q.1 _ rel_int⟩
  · cases hv; cases ha; cases hb
    exact op_sub pins s σ H _ _ u w Q I rx ry ⟨_, _, rfl, rfl, q.1 _ rel_int⟩
  · rename_i i j
    cases ha; cases hb
    split at hv
    · rename_i hc
      cases hv
      have q := q.1 _ rel_int
      unfold mulOk at hc
      simp only [Bool.or_eq_true, decide_eq_true_eq] at hc
      rcases hc with (hc | hc) | hc
      · exact op_mul pins s σ H _ _ u w Q I rx ry ⟨_, _, rfl, rfl, .inl ⟨by omega, by omega⟩, q⟩
      · exact op_mul pins s σ H _ _ u w Q I rx ry ⟨_, _, rfl, rfl, .inr ⟨by omega, by omega⟩, q⟩
      · exact op_mulW pins s σ H _ _ u w Q I rx ry ⟨_, _, rfl, rfl, hc, q⟩
    · cases hv
  · cases ha; cases hb
    split at hv
    · rename_i hc
      cases hv
      simp only [Bool.and_eq_true, decide_eq_true_eq] at hc
      exact op_fdivW pins s σ H _ _ u w Q I rx ry ⟨_, _, rfl, rfl, hc, q.1 _ rel_int⟩
    · split at hv
      · rename_i hc
        cases hv
        simp only [Bool.and_eq_true, decide_eq_true_eq] at hc
        exact op_fdivNW pins s σ H _ _ u w Q I rx ry ⟨_, _, rfl, rfl, hc, q.1 _ rel_int⟩
      · cases hv
  · cases ha; cases hb
    split at hv
    · rename_i hc
      cases hv
      simp only [decide_eq_true_eq] at hc
      exact op_mod pins s σ H _ _ u w Q I rx ry ⟨_, _, rfl, rfl, hc, q.1 _ rel_int⟩
    · cases hv
  · cases ha; cases hb
    split at hv
    · rename_i hc
      cases hv
      unfold powOk at hc
      simp only [Bool.and_eq_true, decide_eq_true_eq] at hc
      exact op_pow pins s σ H _ _ u w Q I rx ry ⟨_, _, rfl, rfl, ⟨hc.1.1, hc.1.2, hc.2⟩, q.1 _ rel_int⟩
    · cases hv
  · cases ha; cases hb
    split at hv
    · rename_i hc
      cases hv
      unfold powOk at hc
      simp only [Bool.and_eq_true, decide_eq_true_eq] at hc
      exact op_shl pins s σ H _ _ u w Q I rx ry ⟨_, _, rfl, rfl, ⟨hc.1.1, hc.1.2, hc.2⟩, q.1 _ rel_int⟩
    · cases hv
  · cases ha; cases hb
    split at hv
    · rename_i hc
      cases hv
      simp only [decide_eq_true_eq] at hc
      exact op_shr pins s σ H _ _ u w Q I rx ry ⟨_, _, rfl, rfl, hc, q.1 _ rel_int⟩
    · cases hv
  · cases hv; cases ha; cases hb
    exact op_and pins s σ H _ _ u w Q I rx ry ⟨_, _, rfl, rfl, q.1 _ rel_int⟩
  · cases hv; cases ha; cases hb
    exact op_or pins s σ H _ _ u w Q I rx ry ⟨_, _, rfl, rfl, q.1 _ rel_int⟩
  · cases hv; cases ha; cases hb
    exact op_xor pins s σ H _ _ u w Q I rx ry ⟨_, _, rfl, rfl, q.1 _ rel_int⟩
  · cases ha; cases hb
    split at hv
    · rename_i hc
      cases hv
      simp only [decide_eq_true_eq] at hc
      exact op_add_str pins s σ H _ _ u w Q I rx ry ⟨_, _, rfl, rfl, lineN_le hc, q.1 _ rel_str⟩
    · cases hv
  · obtain ⟨a, vs, rfl, h1, r1⟩ := ha
    obtain ⟨b, us, rfl, h2, r2⟩ := hb
    split at hv
    · rename_i hc
      cases hv
      simp only [decide_eq_true_eq] at hc
      rw [r1.length, r2.length] at hc
      exact op_cat pins s σ H _ _ u w Q I rx ry ⟨_, _, _, _, rfl, rfl, h1, h2, lineN_le hc, fun p n => q.2 p _ n (rel_lst (sub.free n) (r1.append r2))⟩
    · cases hv
  · obtain ⟨a, vs, rfl, h1, r1⟩ := ha
    obtain ⟨b, us, rfl, h2, r2⟩ := hb
    split at hv
    · rename_i xs ys hc
      cases hv
      simp only [decide_eq_true_eq] at hc
      rw [r1.length, r2.length] at hc
      refine op_catA pins s σ H _ _ u w Q I rx ry ⟨_, _, _, _, rfl, rfl, sqT_mono sub h1, sqT_mono sub h2, lineN_le hc, fun e => ?_, fun e1 e2 => ?_, fun e1 e2 p n => q.2 p _ n (rel_tup (sub.free n) (r1.append r2))⟩
      · subst e
        have e : xs = [] := List.eq_nil_of_length_eq_zero r1.length
        subst e
        exact q.1 _ (by unfold Rel; exact ⟨_, _, rfl, h2, r2⟩)
      · subst e2
        have e : ys = [] := List.eq_nil_of_length_eq_zero r2.length
        subst e
        exact q.1 _ (by unfold Rel; exact ⟨_, _, rfl, h1, by rw [List.append_nil]; exact r1⟩)
    · cases hv
  · obtain ⟨a, vs, rfl, h1, r1⟩ := ha
    cases hb
    split at hv
    · rename_i xs k hc
      cases hv
      simp only [Bool.and_eq_true, decide_eq_true_eq] at hc
      rw [r1.length] at hc
      exact op_rep pins s σ H _ _ u w Q I rx ry ⟨_, _, _, rfl, rfl, h1, by omega, by omega, lineN_le hc.2, fun p n => q.2 p _ n (rel_lst (sub.free n) (r1.rep _))⟩
    · cases hv
  · obtain ⟨a, vs, rfl, h1, r1⟩ := ha
    cases hb
    split at hv
    · rename_i xs k hc
      cases hv
      simp only [Bool.and_eq_true, decide_eq_true_eq] at hc
      rw [r1.length] at hc
      by_cases k1 : k = 1
      · subst k1
        refine op_rep1 pins s σ H _ _ u w Q I rx ry ⟨_, _, rfl, rfl, sqT_mono sub h1, q.1 _ ?_⟩
        unfold Rel
        refine ⟨_, _, rfl, h1, ?_⟩
        show RelL _ _ (xs ++ []) vs
        rw [List.append_nil]; exact r1
      · exact op_repT pins s σ H _ _ u w Q I rx ry ⟨_, _, _, rfl, rfl, sqT_mono sub h1, (fun e => by rw [e] at hc; simp at hc), by omega, hc.1.1.2, hc.2, fun p n => q.2 p _ n (rel_tup (sub.free n) (r1.rep _))⟩
    · cases hv
  · obtain ⟨a, vs, rfl, h1, r1⟩ := ha
    obtain ⟨b, us, rfl, h2, r2⟩ := hb
    split at hv
    · rename_i hc
      cases hv
      simp only [decide_eq_true_eq] at hc
      rw [r1.length, r2.length] at hc
      exact op_cat pins s σ H _ _ u w Q I rx ry ⟨_, _, _, _, rfl, rfl, h1, h2, lineN_le hc, fun p n => q.2 p _ n (rel_lst (sub.free n) (r1.append r2))⟩
    · cases hv
  · obtain ⟨a, vs, rfl, h1, r1⟩ := ha
    cases hb
    split at hv
    · rename_i xs k hc
      cases hv
      simp only [Bool.and_eq_true, decide_eq_true_eq] at hc
      rw [r1.length] at hc
      exact op_rep pins s σ H _ _ u w Q I rx ry ⟨_, _, _, rfl, rfl, h1, by omega, by omega, lineN_le hc.2, fun p n => q.2 p _ n (rel_lst (sub.free n) (r1.rep _))⟩
    · cases hv
  · cases hv

theorem op_inT (hu : X.A.units + 65 < cLine) : OpR X (compareOp .In) (fun x y H Q => ∃ d ds, Dp X.K H x d ∧ Dp X.K H y (.tuple ds) ∧ SeqAt.shaped d = true ∧ SeqAt.shaped (.tuple ds) = true ∧ Q (.bl (ds.any fun z => PyData.eqv z d)) H) := by
  intro pins s σ H x y v u Q I rx ry h
  obtain ⟨d, ds, hd, he, sd, se, q⟩ := h
  obtain ⟨as, r1⟩ := Dp.reads I d x v hd rx
  obtain ⟨bs, r2⟩ := Dp.reads I (.tuple ds) y u he ry
  exact SeqAt.in_tuple_reads r2 r1 (SeqAt.canLay_of_shaped se) (SeqAt.canLay_of_shaped sd) (room_in_shaped sd hu) ⟨.bl _, H, I, rfl, q⟩
theorem op_notInT (hu : X.A.units + 65 < cLine) : OpR X (compareOp .NotIn) (fun x y H Q => ∃ d ds, Dp X.K H x d ∧ Dp X.K H y (.tuple ds) ∧ SeqAt.shaped d = true ∧ SeqAt.shaped (.tuple ds) = true ∧ Q (.bl (!ds.any fun z => PyData.eqv z d)) H) := by
  intro pins s σ H x y v u Q I rx ry h
  obtain ⟨d, ds, hd, he, sd, se, q⟩ := h
  obtain ⟨as, r1⟩ := Dp.reads I d x v hd rx
  obtain ⟨bs, r2⟩ := Dp.reads I (.tuple ds) y u he ry
  exact SeqAt.notIn_tuple_reads r2 r1 (SeqAt.canLay_of_shaped se) (SeqAt.canLay_of_shaped sd) (room_in_shaped sd hu) ⟨.bl _, H, I, rfl, q⟩
theorem dp_sh {K : PySem.W.Frag} (s : Same F.h H) {d : D} {x : V} (c : d.canLay0 = true) (h : Sh K F H d x) : Dp K H x d := by
  cases d with
  | none => cases h; exact .non
  | bool b => cases h; exact .bl b
  | int i => cases h; exact .int i
  | str y => cases h; exact .str y
  | list xs =>
    obtain ⟨a, vs, rfl, q, r⟩ := h
    unfold PyData.canLay0 at c
    exact .lst (SqL.of q) (dpAll_of s xs vs c r)
  | tuple xs =>
    obtain ⟨a, vs, rfl, q, r⟩ := h
    unfold PyData.canLay0 at c
    exact .tup (sqT_mono s q) (dpAll_of s xs vs c r)
  | dict kvs => unfold PyData.canLay0 at c; cases c
theorem lay_of_shp {d : D} (h : shp d = true) : d.canLay0 = true := by
  unfold shp SeqAt.shaped at h
  simp only [Bool.and_eq_true] at h
  exact h.1
theorem sh_non {K : PySem.W.Frag} {d : D} {x : V} (h : Sh K F H d x) : decide (x = V.non) = (match d with | .none => true | _ => false) := by
  cases d with
  | none => cases h; rfl
  | bool b => cases h; rfl
  | int i => cases h; rfl
  | str y => cases h; rfl
  | list xs => obtain ⟨a, vs, rfl, q, r⟩ := h; rfl
  | tuple xs => obtain ⟨a, vs, rfl, q, r⟩ := h; rfl
  | dict kvs =>
    rcases h with ⟨_, a, rfl, _⟩ | ⟨_, a, kk, rfl, _⟩
    · rfl
    · rfl
def rC (K : PySem.W.Frag) (o : Cop) : R2 := fun x y H Q => ∃ F va vb b, Same F.h H ∧ Sh K F H va x ∧ Sh K F H vb y ∧ cmpV o va vb = some b ∧ Q (.bl b) H
theorem dI {i j : Int} : decide (V.int i = V.int j) = decide (i = j) := by
  by_cases h : i = j
  · subst h; simp
  · rw [decide_eq_false h, decide_eq_false fun z => h (V.int.inj z)]
theorem dS {i j : Str} : decide (V.str i = V.str j) = decide (i = j) := by
  by_cases h : i = j
  · subst h; simp
  · rw [decide_eq_false h, decide_eq_false fun z => h (V.str.inj z)]
theorem lensV_some {va vb : D} {b : Bool} (h : lensV va vb = some b) : b = false ∧ ∃ xs ys, va = .list xs ∧ vb = .list ys ∧ xs.length ≠ ys.length := by
  unfold lensV at h
  split at h
  · split at h
    · cases h
    · rename_i z
      cases h
      exact ⟨rfl, _, _, rfl, rfl, by simpa using z⟩
  · cases h
theorem lists_lens {va vb : List D} {x y : V} {u w : Value} {pins : List (Addr × Obj)} {s : Shared} (I : Inv X pins σ H s) (rx : RelV x u) (ry : RelV y w)
    (ha : Sh X.K F H (.list va) x) (hb : Sh X.K F H (.list vb) y) (hl : va.length ≠ vb.length) : ∃ l b items items2, u = .ref l ∧ w = .ref b ∧ s.heap.IsList l items ∧ s.heap.IsList b items2 ∧ (items.size != items2.size) = true := by
  obtain ⟨p, vs, rfl, e1, r1⟩ := ha
  obtain ⟨p2, vs2, rfl, e2, r2⟩ := hb
  cases rx
  cases ry
  obtain ⟨its, v1, pl1, _⟩ := I.list (SqL.of e1)
  obtain ⟨its2, v2, pl2, _⟩ := I.list (SqL.of e2)
  refine ⟨p, p2, _, _, rfl, rfl, pl1.isList, pl2.isList, ?_⟩
  have k1 := v1.length; have k2 := v2.length; have k3 := r1.length; have k4 := r2.length
  simp only [List.size_toArray, bne_iff_ne]
  omega
theorem op_eqV {b : Bool} {va vb : D} {x y : V} {u w : Value} {Q : VK} {pins : List (Addr × Obj)} {s : Shared} (hu : X.A.units + 64 < cLine) (I : Inv X pins σ H s) (rx : RelV x u) (ry : RelV y w)
    (sub : Same F.h H) (ha : Sh X.K F H va x) (hb : Sh X.K F H vb y) (hv : eqD va vb = some b) (q : Q (.bl b) H) : wpAny (model X.prog X.w) X.A (compareOp .Eq u w) (EP X pins σ Q) X.xe s := by
  unfold eqD at hv
  split at hv
  · cases ha; cases hb; cases hv
    refine op_eq pins s σ H _ _ u w Q I rx ry ⟨rfl, ?_⟩
    rw [dI]; exact q
  · cases ha; cases hb; cases hv
    refine op_eq pins s σ H _ _ u w Q I rx ry ⟨rfl, ?_⟩
    rw [dec_bl]; exact q
  · cases ha; cases hb; cases hv
    refine op_eq pins s σ H _ _ u w Q I rx ry ⟨rfl, ?_⟩
    rw [dS]; exact q
  · cases ha; cases hb; cases hv
    exact op_eq pins s σ H _ _ u w Q I rx ry ⟨rfl, q⟩
  · split at hv
    · rename_i hc
      cases hv
      simp only [Bool.and_eq_true] at hc
      exact op_eqD hu pins s σ H _ _ u w Q I rx ry ⟨_, _, dp_sh sub (lay_of_shp hc.1) ha, dp_sh sub (lay_of_shp hc.2) hb, hc.1, hc.2, q⟩
    · obtain ⟨rfl, xs, ys, rfl, rfl, hl⟩ := lensV_some hv
      obtain ⟨l, b, i1, i2, rfl, rfl, l1, l2, hn⟩ := lists_lens I rx ry ha hb hl
      exact SeqAt.RcAt.lists_lengths l1 l2 hn (by omega) _ _ _ _ ⟨.bl false, H, I, rfl, q⟩
theorem op_neV {b : Bool} {va vb : D} {x y : V} {u w : Value} {Q : VK} {pins : List (Addr × Obj)} {s : Shared} (hu : X.A.units + 64 < cLine) (I : Inv X pins σ H s) (rx : RelV x u) (ry : RelV y w)
    (sub : Same F.h H) (ha : Sh X.K F H va x) (hb : Sh X.K F H vb y) (hv : eqD va vb = some b) (q : Q (.bl (!b)) H) : wpAny (model X.prog X.w) X.A (compareOp .NotEq u w) (EP X pins σ Q) X.xe s := by
  unfold eqD at hv
  split at hv
  · cases ha; cases hb; cases hv
    refine op_ne pins s σ H _ _ u w Q I rx ry ⟨rfl, ?_⟩
    rw [dI]; exact q
  · cases ha; cases hb; cases hv
    refine op_ne pins s σ H _ _ u w Q I rx ry ⟨rfl, ?_⟩
    rw [dec_bl]; exact q
  · cases ha; cases hb; cases hv
    refine op_ne pins s σ H _ _ u w Q I rx ry ⟨rfl, ?_⟩
    rw [dS]; exact q
  · cases ha; cases hb; cases hv
    exact op_ne pins s σ H _ _ u w Q I rx ry ⟨rfl, q⟩
  · split at hv
    · rename_i hc
      cases hv
      simp only [Bool.and_eq_true] at hc
      exact op_neD hu pins s σ H _ _ u w Q I rx ry ⟨_, _, dp_sh sub (lay_of_shp hc.1) ha, dp_sh sub (lay_of_shp hc.2) hb, hc.1, hc.2, q⟩
    · obtain ⟨rfl, xs, ys, rfl, rfl, hl⟩ := lensV_some hv
      obtain ⟨l, b, i1, i2, rfl, rfl, l1, l2, hn⟩ := lists_lens I rx ry ha hb hl
      exact SeqAt.RcNeAt.lists_lengths l1 l2 hn (by omega) _ _ _ _ ⟨.bl true, H, I, rfl, q⟩
theorem map_some {α β : Type} {o : Option α} {f : α → β} {b : β} (h : o.map f = some b) : ∃ a, o = some a ∧ f a = b := by
  cases o with
  | none => cases h
  | some a => exact ⟨a, rfl, Option.some.inj h⟩
theorem op_cmp (o : Cop) (hu : X.A.units + 65 < cLine) : OpR X (compareOp (cop o)) (rC X.K o) := by
  intro pins s σ H x y u w Q I rx ry h
  obtain ⟨F, va, vb, b, sub, ha, hb, hv, q⟩ := h
  unfold cmpV at hv
  split at hv
  · exact op_eqV (by omega) I rx ry sub ha hb hv q
  · obtain ⟨b', e, rfl⟩ := map_some hv
    exact op_neV (by omega) I rx ry sub ha hb e q
  · unfold ltT at hv
    split at hv
    · cases ha; cases hb; cases hv
      exact op_lt pins s σ H _ _ u w Q I rx ry ⟨_, _, rfl, rfl, q⟩
    · obtain ⟨a, vs, rfl, h1, r1⟩ := ha
      obtain ⟨c, us, rfl, h2, r2⟩ := hb
      split at hv
      · rename_i ns ms e1 e2
        cases hv
        rw [r1.ints e1] at h1
        rw [r2.ints e2] at h2
        exact op_ltT (by omega) pins s σ H _ _ u w Q I rx ry ⟨_, _, _, _, rfl, rfl, sqT_mono sub h1, sqT_mono sub h2, q⟩
      · cases hv
    · cases hv
  · cases ha; cases hb; cases hv
    exact op_gt pins s σ H _ _ u w Q I rx ry ⟨_, _, rfl, rfl, q⟩
  · cases ha; cases hb; cases hv
    exact op_le pins s σ H _ _ u w Q I rx ry ⟨_, _, rfl, rfl, q⟩
  · cases ha; cases hb; cases hv
    exact op_ge pins s σ H _ _ u w Q I rx ry ⟨_, _, rfl, rfl, q⟩
  · cases hb
    have e := sh_non ha
    cases hv
    refine op_isN pins s σ H _ _ u w Q I rx ry ⟨rfl, ?_⟩
    rw [e]
    cases va <;> exact q
  · cases hb
    have e := sh_non ha
    refine op_notN pins s σ H _ _ u w Q I rx ry ⟨rfl, ?_⟩
    rw [e]
    have hv := Option.some.inj hv
    subst hv
    cases va <;> exact q
  · cases ha; cases hb; cases hv
    exact op_is_bl pins s σ H _ _ u w Q I rx ry ⟨_, _, rfl, rfl, q⟩
  · cases ha; cases hb; cases hv
    exact op_isnot_bl pins s σ H _ _ u w Q I rx ry ⟨_, _, rfl, rfl, q⟩
  · unfold inD at hv
    split at hv
    · split at hv
      · rename_i ds hc
        cases hv
        simp only [Bool.and_eq_true] at hc
        exact op_inD hu pins s σ H _ _ u w Q I rx ry ⟨_, _, dp_sh sub (lay_of_shp hc.1) ha, dp_sh sub (lay_of_shp hc.2) hb, hc.1, hc.2, q⟩
      · cases hv
    · split at hv
      · rename_i ds hc
        cases hv
        simp only [Bool.and_eq_true] at hc
        exact op_inT hu pins s σ H _ _ u w Q I rx ry ⟨_, _, dp_sh sub (lay_of_shp hc.1) ha, dp_sh sub (lay_of_shp hc.2) hb, hc.1, hc.2, q⟩
      · cases hv
    · cases hv
  · obtain ⟨b', hz, e0⟩ := map_some hv
    clear hv
    subst e0
    unfold inD at hz
    split at hz
    · split at hz
      · rename_i ds hc
        have hz := Option.some.inj hz
        subst hz
        simp only [Bool.and_eq_true] at hc
        exact op_notInD hu pins s σ H _ _ u w Q I rx ry ⟨_, _, dp_sh sub (lay_of_shp hc.1) ha, dp_sh sub (lay_of_shp hc.2) hb, hc.1, hc.2, q⟩
      · cases hz
    · split at hz
      · rename_i ds hc
        have hz := Option.some.inj hz
        subst hz
        simp only [Bool.and_eq_true] at hc
        exact op_notInT hu pins s σ H _ _ u w Q I rx ry ⟨_, _, dp_sh sub (lay_of_shp hc.1) ha, dp_sh sub (lay_of_shp hc.2) hb, hc.1, hc.2, q⟩
      · cases hz
    · cases hz
  · cases hv
end
end Pv
end

section
set_option autoImplicit false
namespace Pv
open PySem PySem.Spec PyProof.Rows L2

section
variable {X : Cx} {C : Ct} {Ow : List Nat} {e a b c : Expr} {i ia ib ic : Ex} {pos : Pos}

theorem Es.var (n : Nat) {x : Str} (hi : n ∉ Ow) (hN : X.N[n]? = some x) (hv : Vis X.env.scope x) (hd : (x == ("__debug__" : Str)) = false) (hcd : (x == ("__classdict__" : Str)) = false) : Es X C Ow (.Name x pos) (.var n) :=
  ⟨pe_con (pe_var hN hv hd hcd) fun σ H Q ⟨T, F, σe, g, v, g', r, m, q⟩ => by
    unfold ev at m
    split at m
    · rename_i w e
      cases m
      obtain ⟨y, e1, e2⟩ := r.fz n _ e hi
      exact ⟨y, e1, q F H y (.refl F) r e2⟩
    · cases m⟩
theorem Eb.var (n : Nat) {x : Str} (hN : X.N[n]? = some x) (hv : Vis X.env.scope x) (hd : (x == ("__debug__" : Str)) = false) (hcd : (x == ("__classdict__" : Str)) = false) : Eb X C Ow (.Name x pos) (.var n) :=
  ⟨pe_con (pe_var hN hv hd hcd) fun σ H Q ⟨T, F, σe, g, v, g', r, m, q⟩ => by
    unfold ev at m
    split at m
    · rename_i w e
      cases m
      by_cases hi : n ∈ Ow
      · obtain ⟨p, e1, e2, _⟩ := r.ow n _ e hi
        exact ⟨_, e1, q F H _ (.refl F) r (.inr ⟨n, hi, e, e1⟩)⟩
      · obtain ⟨y, e1, e2⟩ := r.fz n _ e hi
        exact ⟨y, e1, q F H y (.refl F) r (.inl e2)⟩
    · cases m⟩
theorem es_const {d : D} {x : V} (h : PE X e (tC x)) (hr : ∀ F, Rel C.K F d x) : Es X C Ow e (.c d) :=
  ⟨pe_con h fun σ H Q ⟨T, F, σe, g, v, g', r, m, q⟩ => by
    unfold ev at m
    cases m
    exact q F H x (.refl F) r (hr F)⟩
theorem Es.int {n : Int} {j : Nat} : Es X C Ow (.Constant (.int n) j pos) (.c (.int n)) := es_const pe_int fun _ => rel_int
theorem Es.str {n : Str} {j : Nat} : Es X C Ow (.Constant (.str n) j pos) (.c (.str n)) := es_const pe_str fun _ => rel_str
theorem Es.bl {n : Bool} {j : Nat} : Es X C Ow (.Constant (.bool n) j pos) (.c (.bool n)) := es_const pe_bl fun _ => rel_bl
theorem Es.non {j : Nat} : Es X C Ow (.Constant .none j pos) (.c .none) := es_const pe_non fun _ => rel_non
theorem Es.glob {x : Str} {u : Value} {d : D} {v : V} (hg : Gl X x) (hm : X.mg x = some u) (rv : RelV v u) (hr : ∀ F, Rel C.K F d v) (hd : (x == ("__debug__" : Str)) = false) : Es X C Ow (.Name x pos) (.c d) :=
  es_const (pe_glob hg hm rv hd) hr

theorem Es.bin (o : Bop) (hK : X.K = C.K) (ha : Eb X C Ow a ia) (hb : Eb X C Ow b ib) : Es X C Ow (.BinOp a (bop o) b pos) (.bin o ia ib) :=
  ⟨pe_con (pe_op (op_bin o) ha.run hb.run) fun σ H Q ⟨T, F, σe, g, v, g', r, m, q⟩ => by
    unfold ev at m
    obtain ⟨va, g1, m1, m⟩ := bind_eq_ok m
    obtain ⟨vb, g2, m2, m⟩ := bind_eq_ok m
    obtain ⟨m3, e⟩ := lift_eq_ok m
    subst e
    refine ⟨T, F, σe, g, va, g1, r, m1, fun F1 H1 x s1 r1 b1 => ⟨T, F1, σe, g1, vb, _, r1, m2, fun F2 H2 y s2 r2 b2 => ⟨F2, va, vb, v, r2.sub, ?_, ?_, m3, ?_⟩⟩⟩
    · rw [hK]; exact r2.sh (b1.mono s2)
    · rw [hK]; exact r2.sh b2
    · rw [hK]; exact r2.out fun F' H' z s r' => q F' H' z (s1.trans (s2.trans s)) r'⟩
theorem new_of {T : Hp} {F : Fz} {σe : Sl} {g : G} {σ : L2.St} {H : Hp} {v : D} {p : Addr} {o : HO} (r : R C Ow T F σe g σ H) (n : H p = none) (h : OwnAt C.K F (upd H p o) v p) : New C Ow T F σe σ (upd H p o) v p :=
  ⟨h, r.h0 n, r.fn n, r.ndk n, (fun i w hi e z => by
    obtain ⟨a', e1, e2, _⟩ := r.ow i w e hi
    rw [e1] at z
    have z : V.ref a' = V.ref p := Option.some.inj (Option.some.inj z)
    cases z
    obtain ⟨o', eo⟩ := e2.there
    rw [n] at eo; cases eo), r.tn n⟩
theorem lcat_inv {va vb v : D} (h : binV .lcat va vb = some v) : ∃ xs ys, va = .list xs ∧ vb = .list ys ∧ xs.length + ys.length ≤ lineN ∧ v = .list (xs ++ ys) := by
  cases va with
  | list xs =>
    cases vb with
    | list ys =>
      simp only [binV] at h
      split at h
      · rename_i hc
        cases h
        exact ⟨xs, ys, rfl, rfl, of_decide_eq_true hc, rfl⟩
      · cases h
    | _ => simp [binV] at h
  | _ => simp [binV] at h
theorem lrep_inv {va vb v : D} (h : binV .lrep va vb = some v) : ∃ xs k, va = .list xs ∧ vb = .int k ∧ (-9223372036854775808 ≤ k ∧ k < 16777217 ∧ xs.length * k.toNat ≤ lineN) ∧ v = .list (List.replicate k.toNat xs).flatten := by
  cases va with
  | list xs =>
    cases vb with
    | int k =>
      simp only [binV] at h
      split at h
      · rename_i hc
        cases h
        simp only [Bool.and_eq_true, decide_eq_true_eq] at hc
        exact ⟨xs, k, rfl, rfl, ⟨by omega, by omega, hc.2⟩, rfl⟩
      · cases h
    | _ => simp [binV] at h
  | _ => simp [binV] at h
theorem Ef.cat (ha : Eb X C Ow a ia) (hb : Eb X C Ow b ib) : Ef X C Ow (.BinOp a .Add b pos) (.bin .lcat ia ib) :=
  ⟨pe_con (pe_op op_cat ha.run hb.run) fun σ H Q ⟨T, F, σe, g, v, g', r, m, q⟩ => by
    unfold ev at m
    obtain ⟨va, g1, m1, m⟩ := bind_eq_ok m
    obtain ⟨vb, g2, m2, m⟩ := bind_eq_ok m
    obtain ⟨m3, e⟩ := lift_eq_ok m
    subst e
    refine ⟨T, F, σe, g, va, g1, r, m1, fun F1 H1 x s1 r1 b1 => ⟨T, F1, σe, g1, vb, _, r1, m2, fun F2 H2 y s2 r2 b2 => ?_⟩⟩
    have ha := r2.sh (b1.mono s2)
    have hb := r2.sh b2
    obtain ⟨xs, ys, e1, e2, hc, e3⟩ := lcat_inv m3
    subst e1; subst e2; subst e3
    obtain ⟨p, vs, rfl, h1, q1⟩ := ha
    obtain ⟨p', us, rfl, h2, q2⟩ := hb
    rw [q1.length, q2.length] at hc
    exact ⟨_, _, _, _, rfl, rfl, h1, h2, lineN_le hc, fun p n => q F2 _ p (s1.trans s2) (r2.grown n) (new_of r2 n ⟨_, upd_same, q1.append q2⟩)⟩⟩
theorem Ef.rep (ha : Eb X C Ow a ia) (hb : Eb X C Ow b ib) : Ef X C Ow (.BinOp a .Mult b pos) (.bin .lrep ia ib) :=
  ⟨pe_con (pe_op op_rep ha.run hb.run) fun σ H Q ⟨T, F, σe, g, v, g', r, m, q⟩ => by
    unfold ev at m
    obtain ⟨va, g1, m1, m⟩ := bind_eq_ok m
    obtain ⟨vb, g2, m2, m⟩ := bind_eq_ok m
    obtain ⟨m3, e⟩ := lift_eq_ok m
    subst e
    refine ⟨T, F, σe, g, va, g1, r, m1, fun F1 H1 x s1 r1 b1 => ⟨T, F1, σe, g1, vb, _, r1, m2, fun F2 H2 y s2 r2 b2 => ?_⟩⟩
    have ha := r2.sh (b1.mono s2)
    have hb := r2.sh b2
    obtain ⟨xs, k, e1, e2, hc, e3⟩ := lrep_inv m3
    subst e1; subst e2; subst e3
    obtain ⟨p, vs, rfl, h1, q1⟩ := ha
    cases hb
    rw [q1.length] at hc
    exact ⟨_, _, _, rfl, rfl, h1, by omega, by omega, lineN_le hc.2.2, fun p n => q F2 _ p (s1.trans s2) (r2.grown n) (new_of r2 n ⟨_, upd_same, q1.rep _⟩)⟩⟩
theorem Es.neg (hK : X.K = C.K) (ha : Eb X C Ow a ia) : Es X C Ow (.UnaryOp .USub a pos) (.neg ia) :=
  ⟨pe_con (pe_un un_neg ha.run) fun σ H Q ⟨T, F, σe, g, v, g', r, m, q⟩ => by
    unfold ev at m
    obtain ⟨va, g1, m1, m⟩ := bind_eq_ok m
    refine ⟨T, F, σe, g, va, g1, r, m1, fun F1 H1 x s1 r1 b1 => ?_⟩
    have h := r1.sh b1
    split at m
    · cases m; cases h
      exact ⟨_, rfl, q F1 H1 _ s1 r1 rel_int⟩
    · cases m⟩

theorem Es.cmp (o : Cop) (hK : X.K = C.K) (hu : X.A.units + 65 < cLine) (ha : Eb X C Ow a ia) (hb : Eb X C Ow b ib) (hm : behindInMarks (cop o) b = false) : Es X C Ow (.Compare a [cop o] [b] pos) (.cmp o ia ib) :=
  ⟨pe_con (pe_cmpR (op_cmp o hu) ha.run hb.run hm) fun σ H Q ⟨T, F, σe, g, v, g', r, m, q⟩ => by
    unfold ev at m
    obtain ⟨va, g1, m1, m⟩ := bind_eq_ok m
    obtain ⟨vb, g2, m2, m⟩ := bind_eq_ok m
    obtain ⟨m3, e⟩ := lift_eq_ok m
    obtain ⟨k, m4, e2⟩ := map_some m3
    subst e; subst e2
    refine ⟨T, F, σe, g, va, g1, r, m1, fun F1 H1 x s1 r1 b1 => ⟨T, F1, σe, g1, vb, _, r1, m2, fun F2 H2 y s2 r2 b2 => ⟨F2, va, vb, k, r2.sub, ?_, ?_, m4, q F2 H2 _ (s1.trans s2) r2 rel_bl⟩⟩⟩
    · rw [hK]; exact r2.sh (b1.mono s2)
    · rw [hK]; exact r2.sh b2⟩
theorem Et.cmp (o : Cop) (hK : X.K = C.K) (hu : X.A.units + 65 < cLine) (ha : Eb X C Ow a ia) (hb : Eb X C Ow b ib) (hm : behindInMarks (cop o) b = false) : Et X C Ow (.Compare a [cop o] [b] pos) (.cmp o ia ib) :=
  ⟨pt_con (pt_cmpR (op_cmp o hu) ha.run hb.run hm) fun σ H Q ⟨T, F, σe, g, v, g', r, m, q⟩ => by
    unfold ev at m
    obtain ⟨va, g1, m1, m⟩ := bind_eq_ok m
    obtain ⟨vb, g2, m2, m⟩ := bind_eq_ok m
    obtain ⟨m3, e⟩ := lift_eq_ok m
    obtain ⟨k, m4, e2⟩ := map_some m3
    subst e; cases e2
    refine ⟨T, F, σe, g, va, g1, r, m1, fun F1 H1 x s1 r1 b1 => ⟨T, F1, σe, g1, vb, _, r1, m2, fun F2 H2 y s2 r2 b2 => ⟨F2, va, vb, _, r2.sub, ?_, ?_, m4, ⟨_, rfl, q F2 H2 (s1.trans s2) r2⟩⟩⟩⟩
    · rw [hK]; exact r2.sh (b1.mono s2)
    · rw [hK]; exact r2.sh b2⟩
theorem chain_ok {o1 o2 : Cop} (hK : X.K = C.K) {σ : L2.St} {H : Hp} {P : V → Hp → Prop} {T : Hp} {F : Fz} {σe : Sl} {g g' : G} {v : D} (r : R C Ow T F σe g σ H) (m : ev C.Φ (.chain o1 o2 ia ib ic) σe g = .ok v g')
    (q : ∀ (k : Bool) (F' : Fz) (H' : Hp), v = .bool k → Fsub F F' → R C Ow T F' σe g' σ H' → P (.bl k) H') :
    tChain (rC X.K o1) (rC X.K o2) (tB C Ow (ev C.Φ ia)) (tB C Ow (ev C.Φ ib)) (tB C Ow (ev C.Φ ic)) σ H P := by
  unfold ev at m
  obtain ⟨va, g1, m1, m⟩ := bind_eq_ok m
  obtain ⟨vb, g2, m2, m⟩ := bind_eq_ok m
  obtain ⟨k, g3, m30, m⟩ := bind_eq_ok m
  obtain ⟨m3, e⟩ := lift_eq_ok m30
  clear m30
  subst e
  refine ⟨T, F, σe, g, va, g1, r, m1, fun F1 H1 x s1 r1 b1 => ⟨T, F1, σe, g1, vb, _, r1, m2, fun F2 H2 y s2 r2 b2 => ⟨F2, va, vb, k, r2.sub, ?_, ?_, m3, k, rfl, ?_⟩⟩⟩
  · rw [hK]; exact r2.sh (b1.mono s2)
  · rw [hK]; exact r2.sh b2
  · cases k with
    | false =>
      rw [if_neg Bool.false_ne_true] at m ⊢
      cases m
      exact q false F2 H2 rfl (s1.trans s2) r2
    | true =>
      rw [if_pos rfl] at m ⊢
      obtain ⟨vc, g4, m4, m⟩ := bind_eq_ok m
      obtain ⟨m5, e⟩ := lift_eq_ok m
      obtain ⟨k2, m6, e2⟩ := map_some m5
      subst e
      refine ⟨T, F2, σe, _, vc, _, r2, m4, fun F3 H3 z s3 r3 b3 => ⟨F3, vb, vc, k2, r3.sub, ?_, ?_, m6, q k2 F3 H3 e2.symm (s1.trans (s2.trans s3)) r3⟩⟩
      · rw [hK]; exact r3.sh (b2.mono s3)
      · rw [hK]; exact r3.sh b3
theorem Es.chain (o1 o2 : Cop) (hK : X.K = C.K) (hu : X.A.units + 65 < cLine) (ha : Eb X C Ow a ia) (hb : Eb X C Ow b ib) (hc : Eb X C Ow c ic) (hm : lastMarks [cop o1, cop o2] [b, c] = false) :
    Es X C Ow (.Compare a [cop o1, cop o2] [b, c] pos) (.chain o1 o2 ia ib ic) :=
  ⟨pe_con (pe_chain (op_cmp o1 hu) (op_cmp o2 hu) ha.run hb.run hc.run hm) fun σ H Q ⟨T, F, σe, g, v, g', r, m, q⟩ =>
    chain_ok hK r m fun k F' H' e s r' => q F' H' _ s r' (by rw [e]; exact rel_bl)⟩
def tChain3 (r r' r'' : R2) (ta tb tc td : TE) : TE := fun σ H Q => ta σ H fun x H1 => tb σ H1 fun y H2 => r x y H2 fun z H3 => ∃ k, z = .bl k ∧
  (if k = true then tc σ H3 fun w' H4 => r' y w' H4 fun z2 H5 => ∃ k2, z2 = .bl k2 ∧ (if k2 = true then td σ H5 fun w2 H6 => r'' w' w2 H6 Q else Q (.bl false) H5) else Q (.bl false) H3)
theorem Et.not (ha : Et X C Ow a ia) : Et X C Ow (.UnaryOp .Not a pos) (.not ia) :=
  ⟨pt_con (pt_not ha.run) fun σ H Q ⟨T, F, σe, g, v, g', r, m, q⟩ => by
    unfold ev at m
    obtain ⟨va, g1, m1, m⟩ := bind_eq_ok m
    split at m
    · cases m
      exact ⟨T, F, σe, g, _, _, r, m1, fun F1 H1 s1 r1 => q F1 H1 s1 r1⟩
    · cases m⟩
theorem Ew.one {op : BoolOp} (ha : Et X C Ow a ia) : Ew X C Ow (.BoolOp op [a] pos) ia := by
  cases op with
  | And => exact ⟨pw_and1 ha.run⟩
  | Or => exact ⟨pw_or1 ha.run⟩
theorem Ew.and {rest : List Expr} (ha : Et X C Ow a ia) (hb : Ew X C Ow (.BoolOp .And (b :: rest) pos) ib) : Ew X C Ow (.BoolOp .And (a :: b :: rest) pos) (.and ia ib) :=
  ⟨pw_con (pw_and ha.run hb.run) fun σ H Q ⟨T, F, σe, g, v, g', r, m, q⟩ => by
    unfold ev at m
    obtain ⟨va, g1, m1, m⟩ := bind_eq_ok m
    split at m
    · exact ⟨T, F, σe, g, _, _, r, m1, fun F1 H1 s1 r1 => by
        refine iteT ?_
        exact ⟨T, F1, σe, _, v, g', r1, m, fun F2 H2 s2 r2 => q F2 H2 (s1.trans s2) r2⟩⟩
    · cases m
      exact ⟨T, F, σe, g, _, _, r, m1, fun F1 H1 s1 r1 => by
        refine iteF ?_
        exact q F1 H1 s1 r1⟩
    · cases m⟩
theorem Ew.or {rest : List Expr} (ha : Et X C Ow a ia) (hb : Ew X C Ow (.BoolOp .Or (b :: rest) pos) ib) : Ew X C Ow (.BoolOp .Or (a :: b :: rest) pos) (.or ia ib) :=
  ⟨pw_con (pw_or ha.run hb.run) fun σ H Q ⟨T, F, σe, g, v, g', r, m, q⟩ => by
    unfold ev at m
    obtain ⟨va, g1, m1, m⟩ := bind_eq_ok m
    split at m
    · cases m
      exact ⟨T, F, σe, g, _, _, r, m1, fun F1 H1 s1 r1 => by
        refine iteT ?_
        exact q F1 H1 s1 r1⟩
    · exact ⟨T, F, σe, g, _, _, r, m1, fun F1 H1 s1 r1 => by
        refine iteF ?_
        exact ⟨T, F1, σe, _, v, g', r1, m, fun F2 H2 s2 r2 => q F2 H2 (s1.trans s2) r2⟩⟩
    · cases m⟩
theorem Es.not (hK : X.K = C.K) (ha : Eb X C Ow a ia) : Es X C Ow (.UnaryOp .Not a pos) (.not ia) :=
  ⟨pe_con (pe_not ha.run) fun σ H Q ⟨T, F, σe, g, v, g', r, m, q⟩ => by
    unfold ev at m
    obtain ⟨va, g1, m1, m⟩ := bind_eq_ok m
    refine ⟨T, F, σe, g, va, g1, r, m1, fun F1 H1 x s1 r1 b1 => ?_⟩
    have h := r1.sh b1
    split at m
    · cases m; cases h
      exact ⟨_, rfl, q F1 H1 _ s1 r1 rel_bl⟩
    · cases m⟩
theorem Es.one {op : BoolOp} (ha : Es X C Ow a ia) : Es X C Ow (.BoolOp op [a] pos) ia := ⟨pe_one ha.run⟩
theorem Es.and {rest : List Expr} (ha : Eb X C Ow a ia) (hb : Es X C Ow (.BoolOp .And (b :: rest) pos) ib) : Es X C Ow (.BoolOp .And (a :: b :: rest) pos) (.and ia ib) :=
  ⟨pe_con (pe_and ha.run hb.run) fun σ H Q ⟨T, F, σe, g, v, g', r, m, q⟩ => by
    unfold ev at m
    obtain ⟨va, g1, m1, m⟩ := bind_eq_ok m
    refine ⟨T, F, σe, g, va, g1, r, m1, fun F1 H1 x s1 r1 b1 => ?_⟩
    have h := r1.sh b1
    split at m
    · cases h
      refine ⟨_, rfl, ?_⟩
      refine iteT ?_
      exact ⟨T, F1, σe, _, v, g', r1, m, fun F2 H2 y s2 r2 => q F2 H2 y (s1.trans s2) r2⟩
    · cases m; cases h
      refine ⟨_, rfl, ?_⟩
      refine iteF ?_
      exact q F1 H1 _ s1 r1 rel_bl
    · cases m⟩
theorem Es.or {rest : List Expr} (ha : Eb X C Ow a ia) (hb : Es X C Ow (.BoolOp .Or (b :: rest) pos) ib) : Es X C Ow (.BoolOp .Or (a :: b :: rest) pos) (.or ia ib) :=
  ⟨pe_con (pe_or ha.run hb.run) fun σ H Q ⟨T, F, σe, g, v, g', r, m, q⟩ => by
    unfold ev at m
    obtain ⟨va, g1, m1, m⟩ := bind_eq_ok m
    refine ⟨T, F, σe, g, va, g1, r, m1, fun F1 H1 x s1 r1 b1 => ?_⟩
    have h := r1.sh b1
    split at m
    · cases m; cases h
      refine ⟨_, rfl, ?_⟩
      refine iteT ?_
      exact q F1 H1 _ s1 r1 rel_bl
    · cases h
      refine ⟨_, rfl, ?_⟩
      refine iteF ?_
      exact ⟨T, F1, σe, _, v, g', r1, m, fun F2 H2 y s2 r2 => q F2 H2 y (s1.trans s2) r2⟩
    · cases m⟩
theorem Es.ite {t : Expr} {it : Ex} (ht : Et X C Ow t it) (ha : Es X C Ow a ia) (hb : Es X C Ow b ib) : Es X C Ow (.IfExp t a b pos) (.ite it ia ib) :=
  ⟨pe_con (pe_ifExp ht.run ha.run hb.run) fun σ H Q ⟨T, F, σe, g, v, g', r, m, q⟩ => by
    unfold ev at m
    obtain ⟨va, g1, m1, m⟩ := bind_eq_ok m
    split at m
    · refine ⟨T, F, σe, g, _, g1, r, m1, fun F1 H1 s1 r1 => ?_⟩
      refine iteT ?_
      exact ⟨T, F1, σe, _, v, g', r1, m, fun F2 H2 y s2 r2 => q F2 H2 y (s1.trans s2) r2⟩
    · refine ⟨T, F, σe, g, _, g1, r, m1, fun F1 H1 s1 r1 => ?_⟩
      refine iteF ?_
      exact ⟨T, F1, σe, _, v, g', r1, m, fun F2 H2 y s2 r2 => q F2 H2 y (s1.trans s2) r2⟩
    · cases m⟩
theorem tru_sh {K : PySem.W.Frag} {F : Fz} {H : Hp} {d : D} {x : V} {k : Bool} (s : Same F.h H) (h : Sh K F H d x) (t : truV d = some k) : TruV K x H k := by
  cases d with
  | none => cases h; cases t; rfl
  | bool b => cases h; cases t; rfl
  | int i => cases h; cases t; rfl
  | str y =>
    cases h
    have t : (if decide (y.length ≤ lineN) then some (decide (y.length ≠ 0)) else none) = some k := t
    split at t
    · rename_i hz
      cases t
      refine ⟨lineN_le (of_decide_eq_true hz), ?_⟩
      by_cases e : y.length = 0 <;> simp [e]
    · cases t
  | list xs =>
    obtain ⟨p, vs, rfl, q, r⟩ := h
    cases t
    refine .inl ⟨vs, SqL.of q, ?_⟩
    have e := r.length
    cases xs <;> cases vs <;> first | rfl | simp at e
  | tuple xs =>
    obtain ⟨p, vs, rfl, q, r⟩ := h
    cases t
    refine .inr (.inl ⟨vs, sqT_mono s q, ?_⟩)
    have e := r.length
    cases xs <;> cases vs <;> first | rfl | simp at e
  | dict kvs => cases t
theorem Et.truth (hK : X.K = C.K) (ha : Eb X C Ow a ia) (he : ∀ whole, isTrue a X.env whole = (do let v ← whole; standAt a.pos; holding [v] (truthy v))) : Et X C Ow a (.truth ia) :=
  ⟨pt_con (pt_truth ha.run he) fun σ H Q ⟨T, F, σe, g, v, g', r, m, q⟩ => by
    unfold ev at m
    obtain ⟨va, g1, m1, m⟩ := bind_eq_ok m
    obtain ⟨m2, e⟩ := lift_eq_ok m
    obtain ⟨k, m3, e2⟩ := map_some m2
    subst e; cases e2
    refine ⟨T, F, σe, g, va, _, r, m1, fun F1 H1 x s1 r1 b1 => ⟨_, ?_, q F1 H1 s1 r1⟩⟩
    rw [hK]
    exact tru_sh r1.sub (r1.sh b1) m3⟩
end
end Pv
end

section
set_option autoImplicit false
namespace Pv
open PySem PySem.Spec PyProof.Rows L2

structure FnG (P : Program) (w : World) (K : PySem.W.Frag) (mg : Str → Option Value) (base : Heap) (CX : CXT) (k : Nat) (f : Addr) (fd : FuncData) (ps : List Str) (sp : Sp) : Prop where
  len : ∀ vs H Q E, sp vs H Q E → vs.length = ps.length
  run : ∀ (A : Around) (outer : List Env) (s : Shared) (H : Hp) (args : Args) (us : List Value) (vs : List V) (Q : VK) (E : XK), A.guards = some [] → Room k A → Env0 P w K mg base A outer s H → BindsTo s fd args (ps.zip us) → Vals vs us → sp vs H Q E →
    codeAny (model P w) A (.call (.ref f) args) (CR CX outer P w H s Q E) s
section
variable {P : Program} {w : World} {K : PySem.W.Frag} {mg : Str → Option Value} {base : Heap} {CX : CXT} {k : Nat} {f : Addr} {fd : FuncData} {ps : List Str} {sp sp' : Sp}
end
section
variable {P : Program} {w : World} {K : PySem.W.Frag} {mg : Str → Option Value} {base : Heap} {x qual : Str} {st : Stmt} {f : Addr} {fd : FuncData} {N ps : List Str} {k : Nat} {sp : Sp}
def flV : Flow → Value
  | .ret v => v
  | _ => .none
theorem sp_end {X : Cx} {CX : CXT} {s' : Shared} {Q : VK} {E : XK} {fl : Flow} (hx : X.ex = []) (h : SP X [] { nx := fun _ H' => Q .non H', rt := Q } fl s') : CR CX X.outer X.prog X.w X.H_0 X.s_0 Q E (.ok (.ret (flV fl))) s' := by
  have out : ∀ {σ' : L2.St} {H' : Hp} {v : V} {u : Value}, Inv X [] σ' H' s' → RelV v u → Q v H' → CR CX X.outer X.prog X.w X.H_0 X.s_0 Q E (.ok (.ret u)) s' := fun {σ' H' v u} J rv q =>
    ⟨v, H', J.os, J.bare, by have z := J.base; rw [hx] at z; exact z, J.hok, rv, q⟩
  cases fl with
  | next => obtain ⟨_, H', J, q⟩ := h; exact out (v := .non) J rfl q
  | ret u => obtain ⟨v, _, H', J, rv, q⟩ := h; exact out J rv q
  | brk => obtain ⟨_, _, _, q⟩ := h; exact q.elim
  | cont => obtain ⟨_, _, _, q⟩ := h; exact q.elim
theorem funOkC (F : Fun K x qual st f fd) (S : FnScope N ps (defScope st)) (len : ∀ vs H Q E, sp vs H Q E → vs.length = ps.length)
    (body : ∀ (cdv : Value) (hcv : fd.code = cdv) (A : Around) (outer : List Env) (s : Shared) (H : Hp) (vs : List V) (Q : VK) (E : XK), A.guards = some [] → Room k (A.deeper (envOfC qual (defScope st) s.heap.objs.size f cdv)) → sp vs H Q E →
      ∃ t, PSs (cxOf (L2.CX P w) P w K mg base N qual (defScope st) f cdv A outer s H E) (defBody st) t ∧ t { nx := fun _ H' => Q .non H', rt := Q } (start N vs) H) : FnG P w K mg base (L2.CX P w) (k + 1) f fd ps sp := by
  obtain ⟨oc, od, kV, doc, pm, an, cdv, ct, osl, rfl, lk, hcd⟩ := F.ex
  refine ⟨len, ?_⟩
  intro A outer s H args us vs Q E hg hr e0 hb r hsp
  have inK : K.In s.heap := e0.mod.kin.keeps fun b o e => (e0.bs b o e).1
  refine codeAny_call_function hr.depth (inK _ _ lk) rfl S.co S.gen rfl (PySem.W.codeRec_of inK hcd) (hb _ _ _ _ ?_)
  refine wpAny_newFunctionEnv_cells S.kind (fun y hy => (S.par y.1 (List.of_mem_zip hy).1).imp id fun q => ⟨q, PySem.W.cellsFrom_some _ _ _ (.inl q)⟩) ?_
  rintro env rfl s1 x1
  refine ⟨(e0.mod.nolimit.keeps fun b o e => (e0.bs b o e).1).keeps x1.toInCall.keep, codeAny_func ?_⟩
  obtain ⟨t, ht, hq⟩ := body cdv rfl A outer s H vs Q E hg (hr.deeper _) hsp
  have I := inv_start (CX := L2.CX P w) (E := E) S hr.hd e0 (len _ _ _ _ hsp) r x1
  exact wpAny_mono (ht.run [] s1 _ H _ I hq) (fun fl s' hs => by
    have z := sp_end (CX := L2.CX P w) (E := E) rfl hs
    cases fl <;> exact z) fun e s' hs => hs
theorem funOk (F : Fun K x qual st f fd) (S : FnScope N ps (defScope st)) (len : ∀ vs H Q E, sp vs H Q E → vs.length = ps.length)
    (body : ∀ (cdv : Value) (A : Around) (outer : List Env) (s : Shared) (H : Hp) (vs : List V) (Q : VK) (E : XK), A.guards = some [] → Room k (A.deeper (envOfC qual (defScope st) s.heap.objs.size f cdv)) → sp vs H Q E →
      ∃ t, PSs (cxOf (L2.CX P w) P w K mg base N qual (defScope st) f cdv A outer s H E) (defBody st) t ∧ t { nx := fun _ H' => Q .non H', rt := Q } (start N vs) H) : FnG P w K mg base (L2.CX P w) (k + 1) f fd ps sp :=
  funOkC F S len fun cdv _ => body cdv
end

structure Goes (C : Ct) (F : Fz) (H : Hp) (g' : G) (F' : Fz) (H' : Hp) : Prop where
  fs : Fsub F F'
  sub : Same F'.h H'
  nw : ∀ a o, F'.h a = some o → F.h a = none → H a = none
  kp : ∀ a o, H a = some o → F'.isDk a ∨ H' a = some o
  dn : ∀ d l, F'.dk = some (d, l) → F.dk = some (d, l) ∨ (H d = none ∧ H l = none)
  dk : DkR C F' g' H'
  tp : TupF F' H'
def spS (C : Ct) (Φ : List D → G → Res D) (n : Nat) : Sp := fun vs H Q E => vs.length = n ∧ ∃ F ds g, (Same F.h H ∧ TupF F H) ∧ F.sc = C.sc ∧ DkR C F g H ∧ RelL C.K F ds vs ∧
  ((∃ v g', Φ ds g = .ok v g' ∧ ∀ F' H' x, Goes C F H g' F' H' → Rel C.K F' v x → Q x H') ∨
   (∃ c ws g', Φ ds g = .exc c ws g' ∧ ∀ F' H' cls d, Goes C F H g' F' H' → XR C F' c ws cls d → E cls d H'))
section
variable {X : Cx} {C : Ct} {Ow : List Nat} {e a b c : Expr} {es : List Expr} {i ia ib ic : Ex} {is : Exs} {pos : Pos}
theorem Ea.nil : Ea X C Ow [] .nil := ⟨pa_con pa_nil fun σ H Q ⟨T, F, σe, g, v, g', r, m, q⟩ => by
  unfold evs at m
  cases m
  exact q F H _ (.refl F) r .nil⟩
theorem Ea.cons (ha : Es X C Ow e i) (hs : Ea X C Ow es is) (hst : starEach (e :: es) X.env = (false, eval e X.env) :: starEach es X.env) : Ea X C Ow (e :: es) (.cons i is) :=
  ⟨pa_con (pa_cons ha.run hs.run hst) fun σ H Q ⟨T, F, σe, g, v, g', r, m, q⟩ => by
    unfold evs at m
    obtain ⟨x, g1, m1, m⟩ := bind_eq_ok m
    obtain ⟨xs, g2, m2, m⟩ := bind_eq_ok m
    cases m
    exact ⟨T, F, σe, g, x, g1, r, m1, fun F1 H1 y s1 r1 q1 => ⟨T, F1, σe, g1, xs, _, r1, m2, fun F2 H2 ys s2 r2 q2 => q F2 H2 _ (s1.trans s2) r2 (.cons (q1.mono s2 _ _) q2)⟩⟩⟩
theorem Es.tup {k : Nat} (hs : Ea X C Ow es is) (hl : is.len ≤ 1000) : Es X C Ow (.Tuple es k pos) (.tup is) :=
  ⟨pe_con (pe_tup hs.run) fun σ H Q ⟨T, F, σe, g, v, g', r, m, q⟩ => by
    unfold ev at m
    obtain ⟨xs, g1, m1, m⟩ := bind_eq_ok m
    cases m
    refine ⟨T, F, σe, g, xs, _, r, m1, fun F1 H1 ys s1 r1 q1 => ⟨?_, fun p n => ?_⟩⟩
    · rw [← q1.length, evs_len _ _ _ _ _ _ m1, sizeLine_eq]; omega
    · exact q (F1.put p _) _ _ (s1.trans (Fsub.put (r1.fn n))) (r1.laid n) (rel_tup (r1.fn n) q1)⟩
theorem Ef.lst (hs : Ea X C Ow es is) (hl : is.len ≤ 1000) : Ef X C Ow (.List es pos) (.lst is) :=
  ⟨pe_con (pe_lst hs.run) fun σ H Q ⟨T, F, σe, g, v, g', r, m, q⟩ => by
    unfold ev at m
    obtain ⟨xs, g1, m1, m⟩ := bind_eq_ok m
    cases m
    refine ⟨T, F, σe, g, xs, _, r, m1, fun F1 H1 ys s1 r1 q1 => ⟨?_, fun p n => ?_⟩⟩
    · rw [← q1.length, evs_len _ _ _ _ _ _ m1, sizeLine_eq]; omega
    · exact q F1 _ _ s1 (r1.grown n) (new_of r1 n ⟨_, upd_same, q1⟩)⟩

variable {CX : CXT} {E : XK} {k n : Nat} {f : Addr} {fd : FuncData} {ps : List Str} {x : Str} {p : Pos} {fi : Nat}
theorem R.goes {T : Hp} {F F' : Fz} {σe : Sl} {g g' : G} {σ : L2.St} {H H' : Hp} (r : R C Ow T F σe g σ H) (h : Goes C F H g' F' H') : R C Ow T F' σe g' σ H' := r.step h.fs h.sub h.nw h.kp h.dn h.dk h.tp
theorem R.call {T : Hp} {F : Fz} {σe : Sl} {g : G} {σ : L2.St} {H : Hp} {vs : List V} {ds : List D} {v : D} {g' : G} {Q : VK} {E : XK} (r : R C Ow T F σe g σ H) (h : RelL C.K F ds vs) (hn : vs.length = n) (hf : C.Φ fi ds g = .ok v g')
    (q : ∀ F' H' x, Fsub F F' → R C Ow T F' σe g' σ H' → Rel C.K F' v x → Q x H') : spS C (C.Φ fi) n vs H Q E :=
  ⟨hn, F, ds, g, ⟨r.sub, r.tups⟩, r.sc, r.dk, h, .inl ⟨v, g', hf, fun F' H' x s rx => q F' H' x s.fs (r.goes s) rx⟩⟩
theorem R.callE {T : Hp} {F : Fz} {σe : Sl} {g : G} {σ : L2.St} {H : Hp} {vs : List V} {ds : List D} {c : Nat} {ws : List D} {g' : G} {Q : VK} {E : XK} (r : R C Ow T F σe g σ H) (h : RelL C.K F ds vs) (hn : vs.length = n) (hf : C.Φ fi ds g = .exc c ws g')
    (q : ∀ F' H' cls d, Fsub F F' → R C Ow T F' σe g' σ H' → XR C F' c ws cls d → E cls d H') : spS C (C.Φ fi) n vs H Q E :=
  ⟨hn, F, ds, g, ⟨r.sub, r.tups⟩, r.sc, r.dk, h, .inr ⟨c, ws, g', hf, fun F' H' cls d s rx => q F' H' cls d s.fs (r.goes s) rx⟩⟩
theorem passAtOf {X : Cx} {CX : CXT} {E : XK} {σ : L2.St} (h : Passes CX X E) : PassesAt CX X σ E := fun pins H s e s' I q => h pins σ H s e s' I q
theorem passF {X : Cx} {P : Program} {w : World} : Passes (L2.CX P w) X (fun _ _ _ => False) := fun pins σ H s e s' I ⟨_, _, _, _, _, _, _, _, _, _, _, _, z⟩ => z.elim
theorem run_fnG {pins : List (Addr × Obj)} {σ : L2.St} {H : Hp} {s : Shared} {Q : VK} {us : List Value} {vs : List V} {sp : Sp} {args : Args} (F : FnG X.prog X.w X.K X.mg X.base CX k f fd ps sp) (hG : X.A.guards = some []) (hr : Room k X.A) (hx : PassesAt CX X σ E)
    (I : Inv X pins σ H s) (hb : BindsTo s fd args (ps.zip us)) (r : Vals vs us) (h : sp vs H Q E) : codeAny (model X.prog X.w) X.A (.call (.ref f) args) (fun r s' => match r with
      | .ok (.ret u) => EP X pins σ Q u s'
      | .ok _ => False
      | .error e => X.xe e s') s := by
  refine codeAny_mono (F.run X.A X.stack s H args us vs Q E hG hr I.env0 hb r h) fun r s' hq => ?_
  cases r with
  | error e => exact hx pins H s e s' I hq
  | ok fl =>
    cases fl with
    | ret u => exact I.after hq
    | next => exact False.elim hq
    | brk => exact False.elim hq
    | cont => exact False.elim hq
theorem Es.call (fi : Nat) (F : FnG X.prog X.w X.K X.mg X.base CX k f fd ps (spS C (C.Φ fi) ps.length)) (hG : X.A.guards = some []) (hr : Room k X.A) (hg : Gl X x) (hm : X.mg x = some (.ref f)) (hk : PySem.W.keepIn X.K (.ref f) = true) (hb : Binds X.K fd ps []) (hx : Passes CX X E)
    (ha : Ea X C Ow (e :: es) is) (hdb : (x == ("__debug__" : Str)) = false) (he : starEach (e :: es) X.env = (false, eval e X.env) :: starEach es X.env) (hpl : (backTo pos (starEach es X.env)).any (·.1) = false) (hl : is.len = ps.length) :
    Es X C Ow (.Call (.Name x p) (e :: es) [] pos) (.call fi is) := by
  refine ⟨⟨fun pins s σ H Q I h => ?_⟩⟩
  refine wpAny_Call_Name_kw (ld_glob I hg hm ?_ hdb)
  obtain ⟨T, F0, σe, g, v, g', r, m, q⟩ := h
  unfold ev at m
  obtain ⟨ds, g1, m1, m⟩ := bind_eq_ok m
  refine PySem.W.callWith_K (h₀ := X.base) I.ok.mod.kin hk (thn (ha.run.run pos pins s σ H (fun vs H' => vs.length = ps.length ∧ spS C (C.Φ fi) ps.length vs H' Q E) I ⟨T, F0, σe, g, ds, g1, r, m1, fun F1 H1 xs s1 r1 q1 => ?_⟩) fun us s1 ⟨vs, H1, I1, rv, hn, hsp⟩ => ⟨I1.kIn, ?_⟩) he hpl
  · have hn : xs.length = ps.length := by rw [← q1.length, evs_len _ _ _ _ _ _ m1, hl]
    exact ⟨hn, r1.call q1 hn m fun F' H' x s2 r2 q2 => q F' H' x (s1.trans s2) r2 q2⟩
  · have hl : us.length = ps.length := by rw [← rv.length]; exact hn
    have bt := hb s1 us I1.kIn (by rw [List.append_nil]; exact hl)
    rw [List.append_nil] at bt
    refine wpAny_call (codeAny_mono (run_fnG F hG hr (passAtOf hx) I1 bt rv hsp) fun r s' hq => ?_)
    cases r with
    | error e => exact hq
    | ok fl =>
      cases fl with
      | ret u => exact hq
      | next => exact False.elim hq
      | brk => exact False.elim hq
      | cont => exact False.elim hq

structure KB (K : PySem.W.Frag) (fd : FuncData) (ps ks : List Str) (n : Nat) (perm : List Nat) : Prop where
  to : ∀ (s : Shared) (us ws : List Value), K.In s.heap → us.length = n → ws.length = ks.length → BindsTo s fd ⟨us, ks.zip ws⟩ (ps.zip (pm perm (us ++ ws)))
theorem RelL.pm {K : PySem.W.Frag} {F : Fz} {ds : List D} {vs : List V} (h : RelL K F ds vs) : ∀ perm : List Nat, RelL K F (pm perm ds) (pm perm vs)
  | [] => .nil
  | j :: r => by
    have ih := h.pm r
    unfold Pv.pm at ih ⊢
    rw [List.filterMap_cons, List.filterMap_cons]
    cases e : ds[j]? with
    | none =>
      have e2 : vs[j]? = none := by
        rw [List.getElem?_eq_none_iff] at e ⊢
        rw [← h.length]; exact e
      rw [e2]; exact ih
    | some d =>
      obtain ⟨v, e2, rv⟩ := h.get e
      rw [e2]; exact .cons rv ih
theorem Vals.pm {vs : List V} {us : List Value} (h : Vals vs us) : ∀ perm : List Nat, Vals (Pv.pm perm vs) (Pv.pm perm us)
  | [] => .nil
  | j :: r => by
    have ih := Vals.pm h r
    unfold Pv.pm at ih ⊢
    rw [List.filterMap_cons, List.filterMap_cons]
    cases e : vs[j]? with
    | none =>
      rw [Vals.none_of h e]; exact ih
    | some d =>
      obtain ⟨v, e2, rv⟩ := Vals.get h e
      rw [e2]; exact .cons rv ih
structure Ek (X : Cx) (C : Ct) (Ow : List Nat) (kws : List Keyword) (is : Exs) : Prop where
  run : PK X kws (tA C Ow (evs C.Φ is))
theorem Ek.nil : Ek X C Ow [] .nil := ⟨⟨fun pos pins s σ H Q I h => pk_nil.run pos pins s σ H Q I (by
  obtain ⟨T, F, σe, g, v, g', r, m, q⟩ := h
  unfold evs at m
  cases m
  exact q F H _ (.refl F) r .nil)⟩⟩
theorem Ek.cons {nm : Option Str} {kpos : Pos} {kws : List Keyword} (ha : Es X C Ow e i) (hs : Ek X C Ow kws is) : Ek X C Ow (⟨nm, e, kpos⟩ :: kws) (.cons i is) :=
  ⟨⟨fun pos pins s σ H Q I h => (pk_cons ha.run hs.run).run pos pins s σ H Q I (by
    obtain ⟨T, F, σe, g, v, g', r, m, q⟩ := h
    unfold evs at m
    obtain ⟨x, g1, m1, m⟩ := bind_eq_ok m
    obtain ⟨xs, g2, m2, m⟩ := bind_eq_ok m
    cases m
    exact ⟨T, F, σe, g, x, g1, r, m1, fun F1 H1 y s1 r1 q1 => ⟨T, F1, σe, g1, xs, _, r1, m2, fun F2 H2 ys s2 r2 q2 => q F2 H2 _ (s1.trans s2) r2 (.cons (q1.mono s2 _ _) q2)⟩⟩)⟩⟩
def Exs.app : Exs → Exs → Exs
  | .nil, bs => bs
  | .cons a as, bs => .cons a (as.app bs)
theorem Es.callK0 {ks : List Str} {kws : List Keyword} {perm : List Nat} {iks : Exs} (fi : Nat) (F : FnG X.prog X.w X.K X.mg X.base CX k f fd ps (spS C (C.Φ fi) ps.length)) (hG : X.A.guards = some []) (hr : Room k X.A) (hg : Gl X x) (hm : X.mg x = some (.ref f)) (hk : PySem.W.keepIn X.K (.ref f) = true) (hb : KB X.K fd ps ks 0 perm) (hx : Passes CX X E)
    (hkw : Ek X C Ow kws iks) (hall : (backToKw pos (keywordEach kws X.env)).all (·.1.isSome) = true) (hks : (backToKw pos (keywordEach kws X.env)).filterMap (·.1) = ks)
    (hdb : (x == ("__debug__" : Str)) = false)
    (hpl : ((backTo pos (starEach [] X.env)).any (·.1) || (backToKw pos (keywordEach kws X.env)).any (·.1.isNone)) = false) (h2 : iks.len = ks.length) (h3 : ∀ {α : Type} (l : List α), l.length = ks.length → (pm perm l).length = ps.length) :
    Es X C Ow (.Call (.Name x p) [] kws pos) (.callK fi iks perm) := by
  refine ⟨⟨fun pins s σ H Q I h => ?_⟩⟩
  refine wpAny_Call_Name_kw (ld_glob I hg hm ?_ hdb)
  obtain ⟨T, F0, σe, g, v, g', r, m, q⟩ := h
  unfold ev at m
  obtain ⟨ds, g1, m1, m⟩ := bind_eq_ok m
  refine PySem.W.callWith_KW0 (h₀ := X.base) I.ok.mod.kin hk hall (thn (hkw.run.run pos pins s σ H (fun zs H2 => zs.length = ks.length ∧ spS C (C.Φ fi) ps.length (Pv.pm perm zs) H2 Q E) I ⟨T, F0, σe, g, ds, g1, r, m1, fun F1 H1 xs s1 r1 q1 => ?_⟩) fun ws s2 ⟨zs, H2, I2, rz, hz, hsp⟩ => ⟨I2.kIn, ?_⟩) hpl
  · have e1 : xs.length = ks.length := by rw [← q1.length, evs_len _ _ _ _ _ _ m1, h2]
    exact ⟨e1, r1.call (q1.pm perm) (h3 _ e1) m fun F' H' x s3 r3 q3 => q F' H' x (s1.trans s3) r3 q3⟩
  · rw [hks]
    have bt := hb.to s2 [] ws I2.kIn rfl (by rw [← rz.length]; exact hz)
    refine wpAny_call (codeAny_mono (run_fnG F hG hr (passAtOf hx) I2 bt (Vals.pm rz perm) hsp) fun r s' hq => ?_)
    cases r with
    | error e => exact hq
    | ok fl =>
      cases fl with
      | ret u => exact hq
      | next => exact False.elim hq
      | brk => exact False.elim hq
      | cont => exact False.elim hq
end
end Pv
end

section
set_option autoImplicit false
namespace Pv
open PySem PySem.Spec PyProof.Rows L2
def IteT (K : PySem.W.Frag) (a : Addr) : It :=
  ⟨fun n H => ∃ (vs : List V) (y : V), SqT K H a vs ∧ vs[n]? = some y, fun n H v H' => ∃ p y, v = .ref p ∧ H p = none ∧ H' = upd H p (.tup [.int (n : Nat), y]) ∧ ∀ vs, SqT K H a vs → vs[n]? = some y, fun n H => ∃ vs : List V, SqT K H a vs ∧ vs.length ≤ n⟩
def iEn (K : PySem.W.Frag) (ta : TA) : TI := fun σ H R => ta σ H fun vs H1 => ∃ a xs, vs = [.ref a] ∧ (SqL K H1 a xs ∧ R (Ite K a) H1 ∨ SqT K H1 a xs ∧ R (IteT K a) H1)
end Pv
end

section
set_option autoImplicit false
namespace Pv
open PySem PySem.Spec PyProof.Rows L2

section
variable {C : Ct} {Ow : List Nat} {T : Hp} {F F' : Fz} {σe σe' : Sl} {g g' : G} {σ : L2.St} {H H' : Hp} {v : D} {x : V}
theorem R.setS {i : Nat} (r : R C Ow T F σe g σ H) (hi : i ∉ Ow) (h : Rel C.K F v x) : R C Ow T F (σe.set i (some v)) g (σ.set i (some x)) H := by
  refine ⟨r.sub, r.sc, r.grow, r.new, r.keep, r.dnew, by rw [List.length_set, List.length_set]; exact r.len, fun j w e n => ?_, fun j w e n => ?_, fun j k a hj hk h1 h2 q1 q2 => ?_, r.dk, fun a o e => ?_, fun k a e z => by
    have ne : i ≠ k := fun y => hi (by rw [y]; exact z)
    rw [List.getElem?_set_ne ne]; exact r.slf k a e z, r.xf, r.tups⟩
  · by_cases hj : j = i
    · subst hj
      have hl : j < σe.length := by
        have := (List.getElem?_eq_some_iff.mp e).1
        rwa [List.length_set] at this
      rw [List.getElem?_set_self hl] at e
      cases e
      exact ⟨x, by rw [List.getElem?_set_self (r.len ▸ hl)], h⟩
    · rw [List.getElem?_set_ne (Ne.symm hj)] at e
      obtain ⟨y, e1, e2⟩ := r.fz j w e n
      exact ⟨y, by rw [List.getElem?_set_ne (Ne.symm hj)]; exact e1, e2⟩
  · have hj : j ≠ i := fun z => hi (z ▸ n)
    rw [List.getElem?_set_ne (Ne.symm hj)] at e
    obtain ⟨a, e1, e2⟩ := r.ow j w e n
    exact ⟨a, by rw [List.getElem?_set_ne (Ne.symm hj)]; exact e1, e2⟩
  · have hj' : j ≠ i := fun z => hi (z ▸ hj)
    have hk' : k ≠ i := fun z => hi (z ▸ hk)
    rw [List.getElem?_set_ne (Ne.symm hj')] at h1 q1
    rw [List.getElem?_set_ne (Ne.symm hk')] at h2 q2
    exact r.inj j k a hj hk h1 h2 q1 q2
  · obtain ⟨e1, e2, e3, e4, e5⟩ := r.hold a o e
    refine ⟨e1, e2, e3, e4, fun j w hj q => ?_⟩
    have hj' : j ≠ i := fun z => hi (z ▸ hj)
    rw [List.getElem?_set_ne (Ne.symm hj')] at q ⊢
    exact e5 j w hj q
theorem R.wipe1 {i : Nat} (r : R C Ow T F σe g σ H) (hi : i ∉ Ow) : R C Ow T F (σe.set i none) g (σ.set i none) H := by
  refine ⟨r.sub, r.sc, r.grow, r.new, r.keep, r.dnew, by rw [List.length_set, List.length_set]; exact r.len, fun j w e n => ?_, fun j w e n => ?_, fun j k a hj hk h1 h2 q1 q2 => ?_, r.dk, fun a o e => ?_, fun k a e z => by
    have ne : i ≠ k := fun y => hi (by rw [y]; exact z)
    rw [List.getElem?_set_ne ne]; exact r.slf k a e z, r.xf, r.tups⟩
  · by_cases hj : j = i
    · subst hj
      rw [List.getElem?_set] at e
      simp at e
    · rw [List.getElem?_set_ne (Ne.symm hj)] at e
      obtain ⟨y, e1, e2⟩ := r.fz j w e n
      exact ⟨y, by rw [List.getElem?_set_ne (Ne.symm hj)]; exact e1, e2⟩
  · have hj : j ≠ i := fun z => hi (z ▸ n)
    rw [List.getElem?_set_ne (Ne.symm hj)] at e
    obtain ⟨a, e1, e2⟩ := r.ow j w e n
    exact ⟨a, by rw [List.getElem?_set_ne (Ne.symm hj)]; exact e1, e2⟩
  · have hj' : j ≠ i := fun z => hi (z ▸ hj)
    have hk' : k ≠ i := fun z => hi (z ▸ hk)
    rw [List.getElem?_set_ne (Ne.symm hj')] at h1 q1
    rw [List.getElem?_set_ne (Ne.symm hk')] at h2 q2
    exact r.inj j k a hj hk h1 h2 q1 q2
  · obtain ⟨e1, e2, e3, e4, e5⟩ := r.hold a o e
    refine ⟨e1, e2, e3, e4, fun j w hj q => ?_⟩
    have hj' : j ≠ i := fun z => hi (z ▸ hj)
    rw [List.getElem?_set_ne (Ne.symm hj')] at q ⊢
    exact e5 j w hj q
theorem R.wipe (r : R C Ow T F σe g σ H) : ∀ t : List Nat, (∀ i ∈ t, i ∉ Ow) → R C Ow T F (wipeS σe t) g (L2.wipe σ t) H
  | [], _ => r
  | i :: t, h => (r.wipe t fun j hj => h j (List.mem_cons_of_mem _ hj)).wipe1 (h i List.mem_cons_self)
theorem wipe_set {i : Nat} {o : Option V} : ∀ {t : List Nat}, i ∈ t → L2.wipe (σ.set i o) t = L2.wipe σ t
  | j :: t, h => by
    show (L2.wipe (σ.set i o) t).set j none = (L2.wipe σ t).set j none
    by_cases hi : i ∈ t
    · rw [wipe_set hi]
    · have e : i = j := (List.mem_cons.mp h).resolve_right hi
      subst e
      have q : ∀ (t : List Nat) (s : L2.St), i ∉ t → L2.wipe (s.set i o) t = (L2.wipe s t).set i o := by
        intro t
        induction t with
        | nil => intro s _; rfl
        | cons k t ih =>
          intro s hk
          have h1 : i ≠ k := fun z => hk (z ▸ List.mem_cons_self)
          have h2 : i ∉ t := fun z => hk (List.mem_cons_of_mem _ z)
          show (L2.wipe (s.set i o) t).set k none = ((L2.wipe s t).set k none).set i o
          rw [ih s h2, List.set_comm _ _ h1]
      rw [q t σ hi, List.set_set]
theorem wipe_wipe : ∀ (t u : List Nat), (∀ i ∈ t, i ∈ u) → L2.wipe (L2.wipe σ t) u = L2.wipe σ u
  | [], u, _ => rfl
  | i :: t, u, h => by
    show L2.wipe ((L2.wipe σ t).set i none) u = _
    rw [wipe_set (h i List.mem_cons_self)]
    exact wipe_wipe t u fun j hj => h j (List.mem_cons_of_mem _ hj)
theorem R.held {p : Addr} {o o' : HO} (r : R C Ow T F σe g σ H) (h : T p = some o) (ho : ∀ xs, o' ≠ .tup xs := by (intro _ z; cases z)) : R C Ow (upd T p o') F σe g σ (upd H p o') := by
  obtain ⟨e1, e2, e3, e4, e5⟩ := r.hold p o h
  refine ⟨fun a u q => ?_, r.sc, r.grow, r.new, fun a u q => ?_, r.dnew, r.len, r.fz, fun i w q n => ?_, r.inj, ?_, fun a u q => ?_, r.slf, r.xf, r.tups.putN ho⟩
  · have ne : a ≠ p := fun z => by rw [z, e3] at q; cases q
    rw [upd_ne ne]; exact r.sub a u q
  · have ne : a ≠ p := fun z => by rw [z, e2] at q; cases q
    rw [upd_ne ne]; exact r.keep a u q
  · obtain ⟨a, q1, q2, q3, q4, q5⟩ := r.ow i w q n
    have ne : a ≠ p := fun z => e5 i w n q (z ▸ q1)
    exact ⟨a, q1, q2.move (.refl F) fun u z => by rw [upd_ne ne]; exact z, q3, q4, q5⟩
  · exact r.dk.upd e4
  · by_cases ne : a = p
    · subst ne
      rw [upd_same] at q ⊢
      exact ⟨q, e2, e3, e4, e5⟩
    · rw [upd_ne ne] at q
      rw [upd_ne ne]
      exact r.hold a u q
theorem R.take {p : Addr} {o : HO} (r : R C Ow T F σe g σ H) (n : H p = none) (ho : ∀ xs, o ≠ .tup xs := by (intro _ z; cases z)) : R C Ow (upd T p o) F σe g σ (upd H p o) := by
  have r1 := r.grown (o := o) n ho
  refine ⟨r1.sub, r1.sc, r1.grow, r1.new, r1.keep, r1.dnew, r1.len, r1.fz, r1.ow, r1.inj, r1.dk, fun a u q => ?_, r1.slf, r1.xf, r1.tups⟩
  by_cases ne : a = p
  · subst ne
    rw [upd_same] at q ⊢
    refine ⟨q, r.h0 n, r.fn n, r.ndk n, fun i w hi e z => ?_⟩
    obtain ⟨b, q1, q2, _⟩ := r.ow i w e hi
    rw [q1] at z
    have z : V.ref b = V.ref a := Option.some.inj (Option.some.inj z)
    cases z
    obtain ⟨o', eo⟩ := q2.there
    rw [n] at eo; cases eo
  · rw [upd_ne ne] at q
    exact r1.hold a u q
theorem R.letgo {T' : Hp} (r : R C Ow T' F σe g σ H) (h : ∀ a o, T a = some o → T' a = some o) : R C Ow T F σe g σ H :=
  ⟨r.sub, r.sc, r.grow, r.new, r.keep, r.dnew, r.len, r.fz, r.ow, r.inj, r.dk, fun a o e => r.hold a o (h a o e), r.slf, r.xf, r.tups⟩
end

def gS (C : Ct) (Ow : List Nat) (t : List Nat) : TG := fun x σ H Q => ∃ T F σe g v σe', R C Ow T F σe g σ H ∧ Rel C.K F v x ∧ setT t v σe = some σe' ∧ ∀ σ', R C Ow T F σe' g σ' H → L2.wipe σ' t = L2.wipe σ t → Q σ' H
structure Eg (X : Cx) (C : Ct) (Ow : List Nat) (tg : Expr) (t : List Nat) : Prop where
  run : PG X tg (gS C Ow t)
def gSs (C : Ct) (Ow : List Nat) (t : List Nat) : TGs := fun xs σ H Q => ∃ T F σe g vs σe', R C Ow T F σe g σ H ∧ RelL C.K F vs xs ∧ setMany t vs σe = some σe' ∧ ∀ σ', R C Ow T F σe' g σ' H → (∀ u, (∀ i ∈ t, i ∈ u) → L2.wipe σ' u = L2.wipe σ u) → Q σ' H
structure Egs (X : Cx) (C : Ct) (Ow : List Nat) (ts : List Expr) (t : List Nat) : Prop where
  run : PGs X ts (gSs C Ow t)
theorem pg_con {X : Cx} {e : Expr} {t t' : TG} (h : PG X e t) (c : ∀ x σ H Q, t' x σ H Q → t x σ H Q) : PG X e t' := ⟨fun pins s σ H v u Q I r hw => h.run pins s σ H v u Q I r (c v σ H Q hw)⟩
theorem pgs_con {X : Cx} {e : List Expr} {t t' : TGs} (h : PGs X e t) (c : ∀ x σ H Q, t' x σ H Q → t x σ H Q) : PGs X e t' := ⟨fun pins s σ H v u Q I r hw => h.run pins s σ H v u Q I r (c v σ H Q hw)⟩
section
variable {X : Cx} {C : Ct} {Ow : List Nat} {pos : Pos}
theorem Eg.name {x : Str} (i : Nat) (hi : i ∉ Ow) (hN : X.N.Nodup) (hx : X.N[i]? = some x) (hl : Loc X.env.scope x) (hf : X.fn x = true ∨ X.env.scope.names.lookup x = some .local) : Eg X C Ow (.Name x pos) [i] :=
  ⟨pg_con (pg_name hN hx hl hf) fun x σ H Q ⟨T, F, σe, g, v, σe', r, h, e, q⟩ => by
    cases e
    exact q _ (r.setS hi h) (wipe_set List.mem_cons_self)⟩
theorem Egs.nil : Egs X C Ow [] [] := ⟨pgs_con pgs_nil fun xs σ H Q ⟨T, F, σe, g, vs, σe', r, h, e, q⟩ => by
  cases vs with
  | nil => cases e; rw [h.inv0]; exact ⟨rfl, q σ r fun _ _ => rfl⟩
  | cons _ _ => cases e⟩
theorem Egs.cons {e : Expr} {es : List Expr} {i : Nat} {t : List Nat} (h1 : Eg X C Ow e [i]) (h2 : Egs X C Ow es t) (hs : (assignEach (e :: es) X.env).map (·.2) = assign e X.env :: (assignEach es X.env).map (·.2)) : Egs X C Ow (e :: es) (i :: t) :=
  ⟨pgs_con (pgs_cons h1.run h2.run hs) fun xs σ H Q ⟨T, F, σe, g, vs, σe', r, h, em, q⟩ => by
    cases vs with
    | nil => cases em
    | cons v vs =>
      obtain ⟨y, yr, rfl, e1, e2⟩ := h.inv
      exact ⟨y, yr, rfl, T, F, σe, g, v, _, r, e1, rfl, fun σ1 r1 w1 => ⟨T, F, _, g, vs, σe', r1, e2, em, fun σ2 r2 w2 => q σ2 r2 fun u hu => by
        rw [w2 u fun j hj => hu j (List.mem_cons_of_mem _ hj)]
        have w : L2.wipe (L2.wipe σ1 [i]) u = L2.wipe (L2.wipe σ [i]) u := by rw [w1]
        rw [wipe_wipe _ _ (fun j hj => hu j (by rw [List.mem_singleton.mp hj]; exact List.mem_cons_self)), wipe_wipe _ _ (fun j hj => hu j (by rw [List.mem_singleton.mp hj]; exact List.mem_cons_self))] at w
        exact w⟩⟩⟩
theorem pg_seq {es : List Expr} {k : Nat} {t : TGs} {n : Nat} (hc : X.calm = true) (h : PGs X es t)
    (hn : (assignEach es X.env).length = n) (hst : (assignEach es X.env).findIdx? (·.1) = none) : PG X (.Tuple es k pos) (fun v σ H Q => gTup X.K n t v σ H Q ∨ gUnl X.K n t v σ H Q) :=
  ⟨fun pins s σ H v u Q I r hw => hw.elim ((pg_tup hc h hn hst).run pins s σ H v u Q I r) ((pg_unl hc h hn hst).run pins s σ H v u Q I r)⟩
theorem Eg.tup {es : List Expr} {k : Nat} {t : List Nat} (hK : X.K = C.K) (hc : X.calm = true) (h : Egs X C Ow es t) (hl : 2 ≤ t.length) (hn : (assignEach es X.env).length = t.length) (hst : (assignEach es X.env).findIdx? (·.1) = none) : Eg X C Ow (.Tuple es k pos) t :=
  ⟨pg_con (pg_seq (n := t.length) hc h.run hn hst) fun x σ H Q ⟨T, F, σe, g, v, σe', r, h, em, q⟩ => by
    have len : ∀ (t : List Nat) (vs : List D) (σe σe' : Sl), setMany t vs σe = some σe' → t.length = vs.length := by
      intro t
      induction t with
      | nil => intro vs σe σe' e; cases vs with
        | nil => rfl
        | cons _ _ => cases e
      | cons i t ih => intro vs σe σe' e; cases vs with
        | nil => cases e
        | cons v vs => rw [List.length_cons, List.length_cons, ih vs _ _ e]
    have two : (∃ vs, v = .tuple vs ∧ setMany t vs σe = some σe') ∨ ∃ vs, v = .list vs ∧ setMany t vs σe = some σe' := by
      unfold setT at em
      split at em
      · simp at hl
      · exact .inl ⟨_, rfl, em⟩
      · exact .inr ⟨_, rfl, em⟩
      · cases em
    clear em
    rcases two with ⟨vs, rfl, em2⟩ | ⟨vs, rfl, em2⟩
    · left
      unfold Rel at h
      obtain ⟨a, us, rfl, hq, rl⟩ := h
      refine ⟨a, us, rfl, ?_, ?_, T, F, σe, g, vs, σe', r, rl, em2, fun σ' r' w => q σ' r' (w t fun _ h => h)⟩
      · rw [hK]; exact sqT_mono r.sub hq
      · rw [← rl.length]; exact (len t vs σe σe' em2).symm
    · right
      unfold Rel at h
      obtain ⟨a, us, rfl, hq, rl⟩ := h
      refine ⟨a, us, rfl, .of (r.sub _ _ hq), ?_, T, F, σe, g, vs, σe', r, rl, em2, fun σ' r' w => q σ' r' (w t fun _ h => h)⟩
      rw [← rl.length]; exact (len t vs σe σe' em2).symm⟩
end

section
variable {X : Cx} {C : Ct} {Ow : List Nat} {pos : Pos}
def gSg (C : Ct) (Ow : List Nat) (ts : List (List Nat)) : TGs := fun xs σ H Q => ∃ T F σe g vs σe', R C Ow T F σe g σ H ∧ RelL C.K F vs xs ∧ setGs ts vs σe = some σe' ∧ ∀ σ', R C Ow T F σe' g σ' H → Q σ' H
structure Egg (X : Cx) (C : Ct) (Ow : List Nat) (es : List Expr) (ts : List (List Nat)) : Prop where
  run : PGs X es (gSg C Ow ts)
def gG (C : Ct) (Ow : List Nat) (ts : List (List Nat)) : TG := fun x σ H Q => ∃ T F σe g v σe', R C Ow T F σe g σ H ∧ Rel C.K F v x ∧ setG ts v σe = some σe' ∧ ∀ σ', R C Ow T F σe' g σ' H → Q σ' H
structure EgG (X : Cx) (C : Ct) (Ow : List Nat) (tg : Expr) (ts : List (List Nat)) : Prop where
  run : PG X tg (gG C Ow ts)
theorem Egg.nil : Egg X C Ow [] [] := ⟨pgs_con pgs_nil fun xs σ H Q ⟨T, F, σe, g, vs, σe', r, h, e, q⟩ => by
  cases vs with
  | nil => cases e; rw [h.inv0]; exact ⟨rfl, q σ r⟩
  | cons _ _ => cases e⟩
theorem Egg.cons {e : Expr} {es : List Expr} {t : List Nat} {ts : List (List Nat)} (h1 : Eg X C Ow e t) (h2 : Egg X C Ow es ts) (hs : (assignEach (e :: es) X.env).map (·.2) = assign e X.env :: (assignEach es X.env).map (·.2)) : Egg X C Ow (e :: es) (t :: ts) :=
  ⟨pgs_con (pgs_cons h1.run h2.run hs) fun xs σ H Q ⟨T, F, σe, g, vs, σe', r, h, em, q⟩ => by
    cases vs with
    | nil => cases em
    | cons v vs =>
      obtain ⟨y, yr, rfl, e1, e2⟩ := h.inv
      unfold setGs at em
      cases e3 : setT t v σe with
      | none => rw [e3] at em; cases em
      | some σ1 =>
        rw [e3] at em
        exact ⟨y, yr, rfl, T, F, σe, g, v, _, r, e1, e3, fun σ1' r1 w1 => ⟨T, F, _, g, vs, σe', r1, e2, em, fun σ2 r2 => q σ2 r2⟩⟩⟩
theorem EgG.tup {es : List Expr} {k : Nat} {ts : List (List Nat)} (hK : X.K = C.K) (hc : X.calm = true) (h : Egg X C Ow es ts) (hn : (assignEach es X.env).length = ts.length) (hst : (assignEach es X.env).findIdx? (·.1) = none) : EgG X C Ow (.Tuple es k pos) ts :=
  ⟨pg_con (pg_tup (n := ts.length) hc h.run hn hst) fun x σ H Q ⟨T, F, σe, g, v, σe', r, h, em, q⟩ => by
    have len : ∀ (ts : List (List Nat)) (vs : List D) (σe σe' : Sl), setGs ts vs σe = some σe' → ts.length = vs.length := by
      intro ts
      induction ts with
      | nil => intro vs σe σe' e; cases vs with
        | nil => rfl
        | cons _ _ => cases e
      | cons i t ih => intro vs σe σe' e; cases vs with
        | nil => cases e
        | cons v vs =>
          unfold setGs at e
          cases e3 : setT i v σe with
          | none => rw [e3] at e; cases e
          | some σ1 => rw [e3] at e; rw [List.length_cons, List.length_cons, ih vs _ _ e]
    have two : ∃ vs, v = .tuple vs ∧ setGs ts vs σe = some σe' := by
      unfold setG at em
      split at em
      · exact ⟨_, rfl, em⟩
      · cases em
    obtain ⟨vs, rfl, em2⟩ := two
    clear em
    unfold Rel at h
    obtain ⟨a, us, rfl, hq, rl⟩ := h
    refine ⟨a, us, rfl, ?_, ?_, T, F, σe, g, vs, σe', r, rl, em2, fun σ' r' => q σ' r'⟩
    · rw [hK]; exact sqT_mono r.sub hq
    · rw [← rl.length]; exact (len ts vs σe σe' em2).symm⟩
end
structure Walk (C : Ct) (F : Fz) (xs : List D) (J : It) : Prop where
  go : ∀ i F1 H, i < xs.length → Fsub F F1 → Same F1.h H → J.go i H
  stop : ∀ F1 H, Fsub F F1 → Same F1.h H → J.stop xs.length H
  yld : ∀ i d F1 H x H', xs[i]? = some d → Fsub F F1 → Same F1.h H → J.yld i H x H' → (H' = H ∧ Rel C.K F1 d x) ∨ ∃ p o, x = .ref p ∧ H p = none ∧ H' = upd H p o ∧ (F1.h p = none → Rel C.K (F1.put p o) d x)
abbrev Ms := Sl → G → Res (List D)
def tI (C : Ct) (Ow : List Nat) (m : Ms) : TI := fun σ H Rr => ∃ T F σe g xs g', R C Ow T F σe g σ H ∧ m σe g = .ok xs g' ∧ ∀ F' H' J, Fsub F F' → R C Ow T F' σe g' σ H' → Walk C F' xs J → Rr J H'
def itm (Φ : Fns) (k : Ik) (as : Exs) : Ms := fun σ g => (evs Φ as σ g).bind fun vs g => lift (itV k vs) g
structure Ei (X : Cx) (C : Ct) (Ow : List Nat) (tg iter : Expr) (k : Ik) (as : Exs) : Prop where
  run : PI X tg iter (tI C Ow (itm C.Φ k as))
theorem pi_con {X : Cx} {tg e : Expr} {t t' : TI} (h : PI X tg e t) (c : ∀ σ H Q, t' σ H Q → t σ H Q) : PI X tg e t' := ⟨fun pins s σ H Q I hw => h.run pins s σ H Q I (c σ H Q hw)⟩
theorem walk_list {C : Ct} {F : Fz} {xs : List D} {K : PySem.W.Frag} {a : Addr} {vs : List V} (hK : K = C.K) (h : F.h a = some (.lst vs)) (r : RelL C.K F xs vs) : Walk C F xs (Itl K a) := by
  refine ⟨fun i F1 H hi s sub => ?_, fun F1 H s sub => ?_, fun i d F1 H x H' hd s sub y => ?_⟩
  · obtain ⟨v, e, _⟩ := r.get (i := i) (d := xs[i]) (by simp [hi])
    exact ⟨vs, v, SqL.of (sub _ _ (s.h _ _ h)), e⟩
  · exact ⟨vs, SqL.of (sub _ _ (s.h _ _ h)), by rw [r.length]; exact Nat.le_refl _⟩
  · obtain ⟨e, y⟩ := y
    obtain ⟨v, e2, rv⟩ := r.get hd
    have z := y vs (SqL.of (sub _ _ (s.h _ _ h)))
    rw [e2] at z; cases z
    exact .inl ⟨e, rv.mono s _ _⟩
theorem walk_tup {C : Ct} {F : Fz} {xs : List D} {K : PySem.W.Frag} {a : Addr} {vs : List V} (hK : K = C.K) (h : TupAt C.K F a vs) (r : RelL C.K F xs vs) : Walk C F xs (Itt K a) := by
  subst hK
  refine ⟨fun i F1 H hi s sub => ?_, fun F1 H s sub => ?_, fun i d F1 H x H' hd s sub y => ?_⟩
  · obtain ⟨v, e, _⟩ := r.get (i := i) (d := xs[i]) (by simp [hi])
    exact ⟨vs, v, sqT_mono sub (h.mono s), e⟩
  · exact ⟨vs, sqT_mono sub (h.mono s), by rw [r.length]; exact Nat.le_refl _⟩
  · obtain ⟨e, y⟩ := y
    obtain ⟨v, e2, rv⟩ := r.get hd
    have z := y vs (sqT_mono sub (h.mono s))
    rw [e2] at z; cases z
    exact .inl ⟨e, rv.mono s _ _⟩
theorem walk_rng {C : Ct} {F : Fz} {lo : Int} {n : Nat} : Walk C F (rangeD lo n) (Itr lo n) := by
  have hl : (rangeD lo n).length = n := by unfold rangeD; rw [List.length_map, List.length_range]
  refine ⟨fun i F1 H hi s sub => ?_, fun F1 H s sub => ?_, fun i d F1 H x H' hd s sub y => ?_⟩
  · rw [hl] at hi; exact hi
  · rw [hl]; exact Nat.le_refl n
  · obtain ⟨e, y⟩ := y
    have hi : i < n := by
      have := (List.getElem?_eq_some_iff.mp hd).1
      rwa [hl] at this
    unfold rangeD at hd
    rw [List.getElem?_map, List.getElem?_range hi] at hd
    cases hd
    exact .inl ⟨e, by rw [y]; exact rel_int⟩
section
variable {X : Cx} {C : Ct} {Ow : List Nat} {pos p : Pos} {tg e e2 : Expr} {i : Ex} {is : Exs}
theorem pi_seq {tl : TE} (hl : PE X e tl) : PI X tg e (fun σ H Rr => tl σ H fun x H1 => (∃ a, x = .ref a ∧ (∃ xs, SqL X.K H1 a xs) ∧ Rr (Itl X.K a) H1) ∨ ∃ a, x = .ref a ∧ (∃ xs, SqT X.K H1 a xs) ∧ Rr (Itt X.K a) H1) := by
  refine ⟨fun pins s σ H R I h => ?_⟩
  refine thn (hl.run pins s σ H _ I h) fun v s1 ⟨x, H1, I1, r1, q1⟩ => ?_
  rcases q1 with ⟨a, e, ⟨xs, hq⟩, q⟩ | ⟨a, e, ⟨xs, hq⟩, q⟩
  · subst e
    cases r1
    obtain ⟨its, rv, p, hz⟩ := I1.list hq
    refine wpAny_pyIter_list p.isList ?_
    refine ⟨s1.heap.objs.size, [s1.heap.objs.size], _, _, H1, rfl, I1.kept (t' := s1.toks) fun b o e => Heap.get?_push_of_some _ e, turn_list a _, ⟨_, Heap.get?_push_size _ rfl, rfl, rfl⟩, fun b hb => ?_, q⟩
    have e : b = s1.heap.objs.size := by simpa using hb
    subst e
    exact I1.fpOk (Nat.le_refl _) (I1.hok.fresh (Nat.le_refl _))
  · subst e
    cases r1
    obtain ⟨its, rv, p, hz⟩ := I1.tuple hq
    refine wpAny_pyIter_tuple (show s1.heap.IsTuple a its.toArray from p) ?_
    refine ⟨s1.heap.objs.size, [s1.heap.objs.size], _, _, H1, rfl, I1.kept (t' := s1.toks) fun b o e => Heap.get?_push_of_some _ e, turn_tuple a _, ⟨_, Heap.get?_push_size _ rfl, rfl, rfl⟩, fun b hb => ?_, q⟩
    have e : b = s1.heap.objs.size := by simpa using hb
    subst e
    exact I1.fpOk (Nat.le_refl _) (I1.hok.fresh (Nat.le_refl _))
theorem itm1 {Φ : Fns} {k : Ik} {σe : Sl} {g g' : G} {xs : List D} (m : itm Φ k (.cons i .nil) σe g = .ok xs g') : ∃ v, ev Φ i σe g = .ok v g' ∧ itV k [v] = some xs := by
  unfold itm evs at m
  obtain ⟨vs, g1, m1, m⟩ := bind_eq_ok m
  obtain ⟨v, g2, m2, m1⟩ := bind_eq_ok m1
  obtain ⟨ws, g3, m3, m1⟩ := bind_eq_ok m1
  unfold evs at m3
  cases m3; cases m1
  obtain ⟨m4, e⟩ := lift_eq_ok m
  clear m
  subst e
  exact ⟨v, m2, m4⟩
theorem itm0 {Φ : Fns} {k : Ik} {σe : Sl} {g g' : G} {xs : List D} (m : itm Φ k is σe g = .ok xs g') : ∃ vs, evs Φ is σe g = .ok vs g' ∧ itV k vs = some xs := by
  unfold itm at m
  obtain ⟨vs, g1, m1, m2⟩ := bind_eq_ok m
  obtain ⟨m4, e⟩ := lift_eq_ok m2
  clear m m2
  subst e
  exact ⟨vs, m1, m4⟩
theorem itV_seq {v : D} {xs : List D} (h : itV .seq [v] = some xs) : v = .list xs ∨ v = .tuple xs := by
  cases v <;> simp [itV] at h
  · exact .inl (by rw [h])
  · exact .inr (by rw [h])
theorem itV_rng1 {vs xs : List D} (h : itV .rng1 vs = some xs) : ∃ j : Int, vs = [.int j] ∧ (-4611686018427387904 ≤ j ∧ j < 4611686018427387904) ∧ xs = rangeD 0 j.toNat := by
  rcases vs with _ | ⟨v, _ | ⟨w, r⟩⟩
  · simp [itV] at h
  · cases v <;> simp [itV] at h
    exact ⟨_, rfl, ⟨by omega, by omega⟩, h.2.symm⟩
  · simp [itV] at h
theorem itV_rng2 {vs xs : List D} (h : itV .rng2 vs = some xs) : ∃ i j : Int, vs = [.int i, .int j] ∧ (-4611686018427387904 ≤ i ∧ i < 4611686018427387904 ∧ -4611686018427387904 ≤ j ∧ j < 4611686018427387904) ∧ xs = rangeD i (j - i).toNat := by
  rcases vs with _ | ⟨v, _ | ⟨w, _ | ⟨u, r⟩⟩⟩
  · simp [itV] at h
  · simp [itV] at h
  · cases v <;> cases w <;> simp [itV] at h
    exact ⟨_, _, rfl, ⟨by omega, by omega, by omega, by omega⟩, h.2.symm⟩
  · simp [itV] at h
theorem Ei.seq (hK : X.K = C.K) (h : Es X C Ow e i) : Ei X C Ow tg e .seq (.cons i .nil) :=
  ⟨pi_con (pi_seq h.run) fun σ H Q ⟨T, F, σe, g, xs, g', r, m, q⟩ => by
    obtain ⟨v, m1, m2⟩ := itm1 m
    refine ⟨T, F, σe, g, v, g', r, m1, fun F1 H1 x s1 r1 h1 => ?_⟩
    rcases itV_seq m2 with e | e
    · subst e
      unfold Rel at h1
      obtain ⟨a, vs, rfl, ha, rl⟩ := h1
      exact .inl ⟨a, rfl, ⟨vs, SqL.of (r1.sub _ _ ha)⟩, q F1 H1 _ s1 r1 (walk_list hK ha rl)⟩
    · subst e
      unfold Rel at h1
      obtain ⟨a, vs, rfl, ha, rl⟩ := h1
      exact .inr ⟨a, rfl, ⟨vs, by rw [hK]; exact sqT_mono r1.sub ha⟩, q F1 H1 _ s1 r1 (walk_tup hK ha rl)⟩⟩
theorem Ei.rng1 (hg : Gl X "range") (hm : X.mg "range" = none) (ha : Ea X C Ow [e] is) (hs : starEach [e] X.env = [(false, eval e X.env)]) : Ei X C Ow tg (.Call (.Name "range" p) [e] [] pos) .rng1 is :=
  ⟨pi_con (pi_range1 hg hm ha.run hs) fun σ H Q ⟨T, F, σe, g, xs, g', r, m, q⟩ => by
    obtain ⟨vs, m1, m2⟩ := itm0 m
    obtain ⟨j, e1, hc, e2⟩ := itV_rng1 m2
    subst e1; subst e2
    refine ⟨T, F, σe, g, _, g', r, m1, fun F1 H1 ys s1 r1 h1 => ?_⟩
    obtain ⟨y, yr, rfl, e1, e2⟩ := h1.inv
    unfold Rel at e1
    rw [e1, e2.inv0]
    exact ⟨j, rfl, by omega, by omega, q F1 H1 _ s1 r1 walk_rng⟩⟩
theorem Ei.rng2 (hg : Gl X "range") (hm : X.mg "range" = none) (ha : Ea X C Ow [e, e2] is) (hs : starEach [e, e2] X.env = [(false, eval e X.env), (false, eval e2 X.env)]) (hs2 : starEach [e2] X.env = [(false, eval e2 X.env)]) : Ei X C Ow tg (.Call (.Name "range" p) [e, e2] [] pos) .rng2 is :=
  ⟨pi_con (pi_range2 hg hm ha.run hs hs2) fun σ H Q ⟨T, F, σe, g, xs, g', r, m, q⟩ => by
    obtain ⟨vs, m1, m2⟩ := itm0 m
    obtain ⟨j, k, e1, hc, e2⟩ := itV_rng2 m2
    subst e1; subst e2
    refine ⟨T, F, σe, g, _, g', r, m1, fun F1 H1 ys s1 r1 h1 => ?_⟩
    obtain ⟨y, yr, rfl, e1, e2⟩ := h1.inv
    obtain ⟨z, zr, rfl, e3, e4⟩ := e2.inv
    unfold Rel at e1 e3
    rw [e1, e3, e4.inv0]
    exact ⟨j, k, rfl, ⟨by omega, by omega, by omega, by omega⟩, q F1 H1 _ s1 r1 walk_rng⟩⟩
structure Ec (X : Cx) (C : Ct) (Ow : List Nat) (ifs : List Expr) (i : Ex) : Prop where
  run : PTs X ifs (tT C Ow (ev C.Φ i))
theorem pts_con {X : Cx} {es : List Expr} {t t' : TT} (h : PTs X es t) (c : ∀ σ H Q, t' σ H Q → t σ H Q) : PTs X es t' := ⟨fun pins s σ H Q I hw => h.run pins s σ H Q I (c σ H Q hw)⟩
theorem Ec.none : Ec X C Ow [] (.c (.bool true)) := ⟨pts_con pts_nil fun σ H Q ⟨T, F, σe, g, b, g', r, m, q⟩ => by
  unfold ev at m
  cases m
  exact q F H (.refl F) r⟩
theorem Ec.one (h : Et X C Ow e i) : Ec X C Ow [e] i := ⟨pts_one h.run⟩
def cturn (Φ : Fns) (t : List Nat) (cond elt : Ex) (σ : Sl) : D → G → Res (Option D) := fun x g => (lift (setT t x (wipeS σ t)) g).bind fun σ' g => (ev Φ cond σ' g).bind fun b g => match b with
  | .bool true => (ev Φ elt σ' g).bind fun v g => .ok (some v) g
  | .bool false => .ok none g
  | _ => .no
theorem comp_eq {Φ : Fns} {t : List Nat} {k : Ik} {as : Exs} {cond elt : Ex} {σ : Sl} {g g' : G} {v : D} (m : ev Φ (.comp t k as cond elt) σ g = .ok v g') :
    ∃ xs ys g1, itm Φ k as σ g = .ok xs g1 ∧ xs.length ≤ lineN ∧ compL (cturn Φ t cond elt σ) xs [] g1 = .ok ys g' ∧ v = .list ys := by
  unfold ev at m
  obtain ⟨vs, g1, m1, m⟩ := bind_eq_ok m
  obtain ⟨xs, g2, m2, m⟩ := bind_eq_ok m
  split at m
  · rename_i hl
    obtain ⟨ys, g3, m3, m⟩ := bind_eq_ok m
    cases m
    refine ⟨xs, ys, g2, ?_, of_decide_eq_true hl, m3, rfl⟩
    unfold itm
    rw [m1]; exact m2
  · cases m
theorem setMany_out : ∀ (t : List Nat) (vs : List D) (σ σ' : Sl) (i : Nat), setMany t vs σ = some σ' → i ∉ t → σ'[i]? = σ[i]?
  | [], [], σ, σ', i, h, _ => by cases h; rfl
  | [], _ :: _, σ, σ', i, h, _ => by cases h
  | _ :: _, [], σ, σ', i, h, _ => by cases h
  | j :: t, v :: vs, σ, σ', i, h, hi => by
    rw [setMany_out t vs _ _ i h fun z => hi (List.mem_cons_of_mem _ z)]
    exact List.getElem?_set_ne (fun z : j = i => hi (by rw [z]; exact List.mem_cons_self))
theorem setT_out {t : List Nat} {v : D} {σ σ' : Sl} {i : Nat} (h : setT t v σ = some σ') (hi : i ∉ t) : σ'[i]? = σ[i]? := by
  unfold setT at h
  split at h
  · cases h
    refine List.getElem?_set_ne fun z => hi ?_
    rw [z]; exact List.mem_cons_self
  · exact setMany_out _ _ _ _ _ h hi
  · exact setMany_out _ _ _ _ _ h hi
  · cases h
theorem wipeS_out {σ : Sl} {i : Nat} : ∀ {t : List Nat}, i ∉ t → (wipeS σ t)[i]? = σ[i]?
  | [], _ => rfl
  | j :: t, h => by
    show ((wipeS σ t).set j none)[i]? = _
    rw [List.getElem?_set_ne (show j ≠ i from fun z => h (by rw [z]; exact List.mem_cons_self))]
    exact wipeS_out fun z => h (List.mem_cons_of_mem _ z)
theorem wipe_out2 {σ : L2.St} {i : Nat} : ∀ {t : List Nat}, i ∉ t → (L2.wipe σ t)[i]? = σ[i]?
  | [], _ => rfl
  | j :: t, h => by
    show ((L2.wipe σ t).set j none)[i]? = _
    rw [List.getElem?_set_ne (show j ≠ i from fun z => h (by rw [z]; exact List.mem_cons_self))]
    exact wipe_out2 fun z => h (List.mem_cons_of_mem _ z)
theorem R.back {T T' : Hp} {F F5 : Fz} {σe σ' : Sl} {g g5 : G} {σ σ2 : L2.St} {H H5 : Hp} {t : List Nat} (r : R C Ow T F σe g σ H) (r5 : R C Ow T' F5 σ' g5 σ2 H5) (s : Fsub F F5) (out : ∀ i, i ∉ t → σ'[i]? = σe[i]? ∧ σ2[i]? = σ[i]?) (ht : ∀ i ∈ t, i ∉ Ow) : R C Ow T' F5 σe g5 σ H5 := by
  have no : ∀ i, i ∈ Ow → i ∉ t := fun i hi z => ht i z hi
  refine ⟨r5.sub, r5.sc, r5.grow, r5.new, r5.keep, r5.dnew, r.len, fun i v e n => ?_, fun i v e n => ?_, fun i j a hi hj h1 h2 q1 q2 => ?_, r5.dk, fun a o e => ?_, r.slf, r5.xf, r5.tups⟩
  · obtain ⟨x, e1, e2⟩ := r.fz i v e n
    exact ⟨x, e1, e2.mono s _ _⟩
  · obtain ⟨o1, o2⟩ := out i (no i n)
    obtain ⟨a, e1, e2⟩ := r5.ow i v (o1.trans e) n
    exact ⟨a, o2.symm.trans e1, e2⟩
  · obtain ⟨o1, o2⟩ := out i (no i hi)
    obtain ⟨o3, o4⟩ := out j (no j hj)
    exact r5.inj i j a hi hj (by rw [o1]; exact h1) (by rw [o3]; exact h2) (o2.trans q1) (o4.trans q2)
  · obtain ⟨e1, e2, e3, e4, e5⟩ := r5.hold a o e
    refine ⟨e1, e2, e3, e4, fun j v hj q => ?_⟩
    obtain ⟨o1, o2⟩ := out j (no j hj)
    rw [← o2]
    exact e5 j v hj (o1.trans q)
theorem lc_run {elt cond : Ex} {t : List Nat} {k : Ik} {is : Exs} {σ : L2.St} {H : Hp} {Q : VK} (ht : ∀ i ∈ t, i ∉ Ow) (h : tF C Ow (ev C.Φ (.comp t k is cond elt)) σ H Q) :
    tLc (tI C Ow (itm C.Φ k is)) (gS C Ow t) (tT C Ow (ev C.Φ cond)) (tS C Ow (ev C.Φ elt)) t σ H Q := by
  obtain ⟨T, F, σe, g, v, g', r, m, q⟩ := h
  obtain ⟨xs, ys, g1, m1, hl, m2, rfl⟩ := comp_eq m
  refine ⟨T, F, σe, g, xs, g1, r, m1, fun F1 H1 J s1 r1 w => fun D hD => ?_⟩
  refine ⟨fun i m H => ∃ F2 g2 acc vs, m + i = xs.length ∧ Fsub F1 F2 ∧ R C Ow (upd T D (.lst vs)) F2 σe g2 σ H ∧ RelL C.K F2 acc.reverse vs ∧ acc.length ≤ i ∧ compL (cturn C.Φ t cond elt σe) (xs.drop i) acc g2 = .ok ys g', ⟨xs.length, F1, g1, [], [], rfl, .refl _, r1.take hD, .nil, Nat.le_refl _, by rw [List.drop_zero]; exact m2⟩, ?_⟩
  rintro i m H ⟨F2, g2, acc, vs, hm, s2, r2, ra, hacc, hc⟩
  have holdD : (upd T D (.lst vs)) D = some (.lst vs) := upd_same
  have tD : T D = none := r1.tn hD
  by_cases hi : i < xs.length
  · refine .inr ⟨w.go i F2 H hi s2 r2.sub, fun H => ∃ m', m' < m ∧ (∃ F2 g2 acc vs, m' + (i + 1) = xs.length ∧ Fsub F1 F2 ∧ R C Ow (upd T D (.lst vs)) F2 σe g2 σ H ∧ RelL C.K F2 acc.reverse vs ∧ acc.length ≤ i + 1 ∧ compL (cturn C.Φ t cond elt σe) (xs.drop (i + 1)) acc g2 = .ok ys g'), fun H' h => h, fun x H' hy => ?_⟩
    have hd : xs[i]? = some xs[i] := List.getElem?_eq_getElem hi
    rw [List.drop_eq_getElem_cons hi] at hc
    unfold compL at hc
    obtain ⟨o, g3, hc1, hc2⟩ := bind_eq_ok hc
    unfold cturn at hc1
    obtain ⟨σ', g4, hc3, hc4⟩ := bind_eq_ok hc1
    obtain ⟨hc5, e⟩ := lift_eq_ok hc3
    subst e
    obtain ⟨b, g5, hc6, hc7⟩ := bind_eq_ok hc4
    -- the item
    obtain ⟨F3, s3, r3, rx⟩ : ∃ F3, Fsub F2 F3 ∧ R C Ow (upd T D (.lst vs)) F3 σe g4 σ H' ∧ Rel C.K F3 xs[i] x := by
      rcases w.yld i _ F2 H x H' hd s2 r2.sub hy with ⟨e, rx⟩ | ⟨p, o', rfl, hn, e, rx⟩
      · subst e; exact ⟨F2, .refl _, r2, rx⟩
      · subst e; exact ⟨F2.put p o', Fsub.put (r2.fn hn), r2.laid hn, rx (r2.fn hn)⟩
    refine ⟨_, F3, _, g4, xs[i], σ', r3.wipe t ht, rx, hc5, fun σ2 r4 w2 => ⟨by rw [w2, wipe_wipe t t fun _ h => h], ?_⟩⟩
    have out : ∀ i, i ∉ t → σ'[i]? = σe[i]? ∧ σ2[i]? = σ[i]? := fun i hi => ⟨(setT_out hc5 hi).trans (wipeS_out hi), by
      have z : (L2.wipe σ2 t)[i]? = (L2.wipe (L2.wipe σ t) t)[i]? := by rw [w2]
      rw [wipe_out2 hi, wipe_out2 hi, wipe_out2 hi] at z
      exact z⟩
    split at hc7
    · obtain ⟨y, g6, hc8, hc9⟩ := bind_eq_ok hc7
      injection hc9 with e1 e2
      subst e1; subst e2
      refine ⟨_, F3, σ', _, true, g5, r4, hc6, fun F5 H5 s5 r5 => iteT ⟨_, F5, σ', g5, y, _, r5, hc8, fun F6 H6 yv s6 r6 ry => ?_⟩⟩
      have r7 := r3.back (t := t) r6 (s5.trans s6) out ht
      have hh := r7.hold D _ holdD
      refine ⟨vs, hh.1, ?_, m - 1, by omega, F6, _, y :: acc, vs ++ [yv], by omega, s2.trans (s3.trans (s5.trans s6)), ?_, ?_, by rw [List.length_cons]; omega, hc2⟩
      · have e1 := ra.length
        rw [List.length_reverse] at e1
        rw [← e1]
        exact lineN_lt (by omega)
      · have z := r7.held (o' := .lst (vs ++ [yv])) holdD
        rw [upd_upd] at z
        exact z
      · rw [List.reverse_cons]
        exact (ra.mono (s3.trans (s5.trans s6)) _ _).append (.cons ry .nil)
    · cases hc7
      refine ⟨_, F3, σ', _, false, _, r4, hc6, fun F5 H5 s5 r5 => iteF ?_⟩
      have r7 := r3.back (t := t) r5 s5 out ht
      exact ⟨m - 1, by omega, F5, _, acc, vs, by omega, s2.trans (s3.trans s5), r7, ra.mono (s3.trans s5) _ _, by omega, hc2⟩
    · cases hc7
  · have e : i = xs.length := by omega
    subst e
    rw [List.drop_length] at hc
    unfold compL at hc
    cases hc
    refine .inl ⟨w.stop F2 H s2 r2.sub, ?_⟩
    have hh := r2.hold D _ holdD
    refine q F2 H D (s1.trans s2) (r2.letgo fun a o e => ?_) ⟨⟨vs, hh.1, ra⟩, hh.2.1, hh.2.2.1, hh.2.2.2.1, hh.2.2.2.2, tD⟩
    have ne : a ≠ D := fun z => by rw [z, tD] at e; cases e
    rw [upd_ne ne]; exact e
theorem Ef.comp {elt iter : Expr} {ifs : List Expr} {scope : Scope} {own : List (Str × Nat)} {t : List Nat} {k : Ik} {cond ei : Ex} (hc : X.calm = true) (hN : X.N.Nodup) (hi : Ei X C Ow tg iter k is) (ok : BlkOk X.N X.env.scope scope own) (hown : own.map (·.2) = t)
    (hg : ∀ (s : Shared) (H : Hp) (A : Addr) (cl : List (Str × Addr)) (fp : List Addr), Eg (X.blk s H scope (compEnvC scope cl A X.env) fp) C Ow tg t)
    (ht : ∀ (s : Shared) (H : Hp) (A : Addr) (cl : List (Str × Addr)) (fp : List Addr), Ec (X.blk s H scope (compEnvC scope cl A X.env) fp) C Ow ifs cond)
    (he : ∀ (s : Shared) (H : Hp) (A : Addr) (cl : List (Str × Addr)) (fp : List Addr), Es (X.blk s H scope (compEnvC scope cl A X.env) fp) C Ow elt ei)
    (hs : ∀ x, foldedSetIterable iter X.env x = pure x) (hno : ∀ i ∈ t, i ∉ Ow) : Ef X C Ow (.ListComp elt [⟨tg, iter, ifs, 0⟩] scope pos) (.comp t k is cond ei) :=
  ⟨pe_con (pe_lc hc hN hi.run ok (fun s H A cl fp => (hg s H A cl fp).run) (fun s H A cl fp => (ht s H A cl fp).run) (fun s H A cl fp => (he s H A cl fp).run) hs) fun σ H Q h => by
    rw [hown]
    exact lc_run hno h⟩
end
end Pv
end

section
set_option autoImplicit false
namespace Pv
open PySem PySem.Spec PyProof.Rows L2

abbrev Mf := Sl → G → Res Fl
def EndOk (C : Ct) (W : WX) (T : Hp) (Ow' OwL : List Nat) (F : Fz) (g' : G) (D : Ends) : Fl → Prop
  | .nx σe' => ∀ F' σ' H', Fsub F F' → R C Ow' T F' σe' g' σ' H' → D.nx σ' H'
  | .bk σe' => ∀ F' σ' H', Fsub F F' → R C OwL T F' σe' g' σ' H' → D.bk σ' H'
  | .ct σe' => ∀ F' σ' H', Fsub F F' → R C OwL T F' σe' g' σ' H' → D.ct σ' H'
  | .rt v => ∀ F' Ow2 σe2 σ2 H' x, Fsub F F' → R C Ow2 T F' σe2 g' σ2 H' → Rel C.K F' v x → D.rt x H'
  | .ex σe' c vs => ∀ F' Ow2 σ' H' cls d, Fsub F F' → R C Ow2 T F' σe' g' σ' H' → XR C F' c vs cls d → W cls d σ' H'
def tSt (C : Ct) (W : WX) (Ow Ow' OwL : List Nat) (m : Mf) : TS := fun D σ H => ∃ T F σe g fl g', R C Ow T F σe g σ H ∧ m σe g = .ok fl g' ∧ EndOk C W T Ow' OwL F g' D fl
structure Ss (X : Cx) (C : Ct) (W : WX) (Ow Ow' OwL : List Nat) (st : Stmt) (m : Sm) : Prop where
  run : PS X st (tSt C W Ow Ow' OwL (run C.Φ C.fu m))
structure Sb (X : Cx) (C : Ct) (W : WX) (Ow Ow' OwL : List Nat) (sts : List Stmt) (m : Sm) : Prop where
  run : PSs X sts (tSt C W Ow Ow' OwL (Pv.run C.Φ C.fu m))
theorem EndOk.mono {C : Ct} {W : WX} {T : Hp} {Ow' OwL : List Nat} {F F1 : Fz} {g' : G} {D : Ends} (s : Fsub F F1) : ∀ {fl : Fl}, EndOk C W T Ow' OwL F g' D fl → EndOk C W T Ow' OwL F1 g' D fl
  | .nx _, h => fun F' σ' H' s' r => h F' σ' H' (s.trans s') r
  | .bk _, h => fun F' σ' H' s' r => h F' σ' H' (s.trans s') r
  | .ct _, h => fun F' σ' H' s' r => h F' σ' H' (s.trans s') r
  | .rt _, h => fun F' Ow2 σe2 σ2 H' x s' r q => h F' Ow2 σe2 σ2 H' x (s.trans s') r q
  | .ex _ _ _, h => fun F' Ow2 σ' H' cls d s' r q => h F' Ow2 σ' H' cls d (s.trans s') r q

section
variable {C : Ct} {Ow Ow2 : List Nat} {T : Hp} {F F' : Fz} {σe σe' : Sl} {g g' : G} {σ : L2.St} {H H' : Hp} {v v' : D} {x : V}
theorem R.congr (r : R C Ow T F σe g σ H) (h : ∀ j, j ∈ Ow ↔ j ∈ Ow2) : R C Ow2 T F σe g σ H :=
  ⟨r.sub, r.sc, r.grow, r.new, r.keep, r.dnew, r.len, fun i v e n => r.fz i v e fun z => n ((h i).mp z), fun i v e n => r.ow i v e ((h i).mpr n), fun i j a hi hj => r.inj i j a ((h i).mpr hi) ((h j).mpr hj), r.dk,
    fun a o e => let ⟨e1, e2, e3, e4, e5⟩ := r.hold a o e; ⟨e1, e2, e3, e4, fun i v hi => e5 i v ((h i).mpr hi)⟩, fun i a e z => r.slf i a e ((h i).mpr z), r.xf, r.tups⟩
theorem R.dropAll : ∀ (L : List Nat) {F : Fz}, R C (L ++ Ow2) T F σe g σ H → ∃ F', Fsub F F' ∧ R C Ow2 T F' σe g σ H
  | [], F, r => ⟨F, .refl F, r⟩
  | i :: L, F, r => by
    by_cases h : i ∈ L ++ Ow2
    · have r' : R C (L ++ Ow2) T F σe g σ H := R.congr (Ow := i :: (L ++ Ow2)) r fun j => by
        rw [List.mem_cons]
        constructor
        · rintro (rfl | z)
          · exact h
          · exact z
        · exact .inr
      exact r'.dropAll L
    · have r0 : R C (i :: (L ++ Ow2)) T F σe g σ H := r
      obtain ⟨F1, s1, r1⟩ := r0.drop h
      obtain ⟨F2, s2, r2⟩ := r1.dropAll L
      exact ⟨F2, s1.trans s2, r2⟩
theorem R.less (r : R C Ow T F σe g σ H) (h : ∀ j ∈ Ow2, j ∈ Ow) : ∃ F', Fsub F F' ∧ R C Ow2 T F' σe g σ H :=
  R.dropAll Ow (r.congr fun j => by
    rw [List.mem_append]
    exact ⟨.inl, fun z => z.elim id (h j)⟩)
theorem R.write {i : Nat} {a : Addr} {o' : HO} (r : R C Ow T F σe g σ H) (hi : i ∈ Ow) (e : σe[i]? = some (some v)) (ea : σ[i]? = some (some (V.ref a))) (h : OwnAt C.K F (upd H a o') v' a) : R C Ow T F (σe.set i (some v')) g σ (upd H a o') := by
  obtain ⟨b, e1, e2, e3, e4, e5⟩ := r.ow i v e hi
  rw [ea] at e1
  have e1 : V.ref a = V.ref b := Option.some.inj (Option.some.inj e1)
  cases e1
  have hl : i < σe.length := (List.getElem?_eq_some_iff.mp e).1
  have there : ∀ {j : Nat}, (∃ w, (σe.set i (some v'))[j]? = some (some w)) → ∃ w, σe[j]? = some (some w) := fun {j} ⟨w, q⟩ => by
    by_cases hj : j = i
    · exact ⟨v, hj ▸ e⟩
    · rw [List.getElem?_set_ne (Ne.symm hj)] at q; exact ⟨w, q⟩
  refine ⟨fun c u q => ?_, r.sc, r.grow, r.new, fun c u q => ?_, r.dnew, by rw [List.length_set]; exact r.len, fun j w q n => ?_, fun j w q n => ?_, fun j k c hj hk h1 h2 => r.inj j k c hj hk (there h1) (there h2), ?_, fun c u q => ?_, r.slf, r.xf, r.tups.putN fun xs z => h.notTup xs (by rw [upd_same, z])⟩
  · have ne : c ≠ a := fun z => by rw [z, e4] at q; cases q
    rw [upd_ne ne]; exact r.sub c u q
  · have ne : c ≠ a := fun z => by rw [z, e3] at q; cases q
    rw [upd_ne ne]; exact r.keep c u q
  · have hj : j ≠ i := fun z => n (z ▸ hi)
    rw [List.getElem?_set_ne (Ne.symm hj)] at q
    exact r.fz j w q n
  · by_cases hj : j = i
    · subst hj
      rw [List.getElem?_set_self hl] at q
      cases q
      exact ⟨a, ea, h, e3, e4, e5⟩
    · rw [List.getElem?_set_ne (Ne.symm hj)] at q
      obtain ⟨c, q1, q2, q3, q4, q5⟩ := r.ow j w q n
      have ne : c ≠ a := fun z => hj (r.inj j i a n hi ⟨w, q⟩ ⟨v, e⟩ (z ▸ q1) ea)
      exact ⟨c, q1, q2.move (.refl F) fun u z => by rw [upd_ne ne]; exact z, q3, q4, q5⟩
  · exact r.dk.upd e5
  · obtain ⟨q1, q2, q3, q4, q5⟩ := r.hold c u q
    have ne : c ≠ a := fun z => q5 i v hi e (z ▸ ea)
    refine ⟨(upd_ne ne).trans q1, q2, q3, q4, fun j w hj z => ?_⟩
    obtain ⟨w', z'⟩ := there ⟨w, z⟩
    exact q5 j w' hj z'
def SlfOk (C : Ct) (i : Nat) : Prop := C.slf = none ∨ ∃ j a, C.slf = some (j, a) ∧ i ≠ j
theorem R.own {i : Nat} {a : Addr} (hs : SlfOk C i) (r : R C Ow T F σe g σ H) (n : New C Ow T F σe σ H v a) : R C (i :: Ow) T F (σe.set i (some v)) g (σ.set i (some (V.ref a))) H := by
  obtain ⟨o0, eo⟩ := n.at_.there
  refine ⟨r.sub, r.sc, r.grow, r.new, r.keep, r.dnew, by rw [List.length_set, List.length_set]; exact r.len, fun j w e hj => ?_, fun j w e hj => ?_, fun j k c hj hk h1 h2 q1 q2 => ?_, r.dk, fun c o e => ?_, fun k c e z => ?_, r.xf, r.tups⟩
  · have n1 : j ≠ i := fun z => hj (z ▸ List.mem_cons_self)
    have n2 : j ∉ Ow := fun z => hj (List.mem_cons_of_mem _ z)
    rw [List.getElem?_set_ne (Ne.symm n1)] at e
    obtain ⟨y, e1, e2⟩ := r.fz j w e n2
    exact ⟨y, by rw [List.getElem?_set_ne (Ne.symm n1)]; exact e1, e2⟩
  · by_cases hji : j = i
    · subst hji
      have hl : j < σe.length := by
        have := (List.getElem?_eq_some_iff.mp e).1
        rwa [List.length_set] at this
      rw [List.getElem?_set_self hl] at e
      cases e
      exact ⟨a, by rw [List.getElem?_set_self (r.len ▸ hl)], n.at_, n.h0, n.fn, n.nd⟩
    · rw [List.getElem?_set_ne (Ne.symm hji)] at e
      obtain ⟨c, e1, e2⟩ := r.ow j w e ((List.mem_cons.mp hj).resolve_left hji)
      exact ⟨c, by rw [List.getElem?_set_ne (Ne.symm hji)]; exact e1, e2⟩
  · have one : ∀ j, j ∈ i :: Ow → j ≠ i → (∃ w, (σe.set i (some v))[j]? = some (some w)) → (σ.set i (some (V.ref a)))[j]? = some (some (V.ref c)) → j ∈ Ow ∧ (∃ w, σe[j]? = some (some w)) ∧ σ[j]? = some (some (V.ref c)) := fun j hj hji ⟨w, h⟩ q => by
      rw [List.getElem?_set_ne (Ne.symm hji)] at h q
      exact ⟨(List.mem_cons.mp hj).resolve_left hji, ⟨w, h⟩, q⟩
    have self : (σ.set i (some (V.ref a)))[i]? = some (some (V.ref c)) → c = a := fun q => by
      have hl : i < σ.length := by
        have := (List.getElem?_eq_some_iff.mp q).1
        rwa [List.length_set] at this
      rw [List.getElem?_set_self hl] at q
      cases q; rfl
    by_cases hji : j = i
    · by_cases hki : k = i
      · exact hji.trans hki.symm
      · subst hji
        have z := self q1
        obtain ⟨z1, ⟨w, z2⟩, z3⟩ := one k hk hki h2 q2
        exact (n.no k w z1 z2 (z ▸ z3)).elim
    · obtain ⟨z1, ⟨w, z2⟩, z3⟩ := one j hj hji h1 q1
      by_cases hki : k = i
      · subst hki
        have z := self q2
        exact (n.no j w z1 z2 (z ▸ z3)).elim
      · obtain ⟨y1, y2, y3⟩ := one k hk hki h2 q2
        exact r.inj j k c z1 y1 ⟨w, z2⟩ y2 z3 y3
  · obtain ⟨e1, e2, e3, e4, e5⟩ := r.hold c o e
    refine ⟨e1, e2, e3, e4, fun j w hj q => ?_⟩
    by_cases hji : j = i
    · subst hji
      have hl : j < σe.length := by
        have := (List.getElem?_eq_some_iff.mp q).1
        rwa [List.length_set] at this
      rw [List.getElem?_set_self (r.len ▸ hl)]
      intro z
      cases z
      rw [n.nt] at e; cases e
    · rw [List.getElem?_set_ne (Ne.symm hji)] at q ⊢
      exact e5 j w ((List.mem_cons.mp hj).resolve_left hji) q
  · rcases hs with hs | ⟨j, a', hs, hn⟩
    · rw [hs] at e; cases e
    · rw [hs] at e
      cases e
      rw [List.getElem?_set_ne hn]
      exact r.slf _ _ hs ((List.mem_cons.mp z).resolve_left (Ne.symm hn))
end

section
variable {X : Cx} {C : Ct} {W : WX} {Ow Ow' Ow1 Ow2 OwL : List Nat} {st : Stmt} {rest sts : List Stmt} {e : Expr} {i ie : Ex} {m m' : Sm} {pos pos' : Pos}
theorem Sb.nil : Sb X C W Ow Ow OwL [] .skip := ⟨pss_con pss_nil fun D σ H ⟨T, F, σe, g, fl, g', r, m, q⟩ => by
  unfold Pv.run at m
  cases m
  exact q F σ H (.refl F) r⟩
theorem Sb.one (h : Ss X C W Ow Ow' OwL st m) : Sb X C W Ow Ow' OwL [st] m := ⟨pss_one h.run⟩
theorem Sb.cons (h : Ss X C W Ow Ow1 OwL st m) (h2 : Sb X C W Ow1 Ow' OwL rest m') : Sb X C W Ow Ow' OwL (st :: rest) (.seq m m') :=
  ⟨pss_con (pss_cons h.run h2.run) fun D σ H ⟨T, F, σe, g, fl, g', r, m, q⟩ => by
    unfold Pv.run at m
    obtain ⟨fl1, g1, m1, m2⟩ := bind_eq_ok m
    cases fl1 with
    | nx σ1 => exact ⟨T, F, σe, g, .nx σ1, g1, r, m1, fun F1 σ' H1 s1 r1 => ⟨T, F1, σ1, g1, fl, g', r1, m2, q.mono s1⟩⟩
    | rt v => cases m2; exact ⟨T, F, σe, g, .rt v, _, r, m1, q⟩
    | bk σ1 => cases m2; exact ⟨T, F, σe, g, .bk σ1, _, r, m1, q⟩
    | ct σ1 => cases m2; exact ⟨T, F, σe, g, .ct σ1, _, r, m1, q⟩
    | ex σ1 c vs => cases m2; exact ⟨T, F, σe, g, .ex σ1 c vs, _, r, m1, q⟩⟩
theorem Ss.pre (h : Ss X C W Ow2 Ow' OwL st m) (s : ∀ j ∈ Ow2, j ∈ Ow) : Ss X C W Ow Ow' OwL st m :=
  ⟨ps_con h.run fun D σ H ⟨T, F, σe, g, fl, g', r, m, q⟩ => by
    obtain ⟨F1, s1, r1⟩ := r.less s
    exact ⟨T, F1, σe, g, fl, g', r1, m, q.mono s1⟩⟩
theorem EndOk.less {T : Hp} {F : Fz} {g' : G} {D : Ends} {OwL1 : List Nat} (s : ∀ j ∈ Ow', j ∈ Ow1) (sl : ∀ j ∈ OwL, j ∈ OwL1) : ∀ {fl : Fl}, EndOk C W T Ow' OwL F g' D fl → EndOk C W T Ow1 OwL1 F g' D fl
  | .nx _, h => fun F' σ' H' s' r => let ⟨F2, s2, r2⟩ := r.less s; h F2 σ' H' (s'.trans s2) r2
  | .bk _, h => fun F' σ' H' s' r => let ⟨F2, s2, r2⟩ := r.less sl; h F2 σ' H' (s'.trans s2) r2
  | .ct _, h => fun F' σ' H' s' r => let ⟨F2, s2, r2⟩ := r.less sl; h F2 σ' H' (s'.trans s2) r2
  | .rt _, h => fun F' Ow2 σe2 σ2 H' x s' r q => h F' Ow2 σe2 σ2 H' x s' r q
  | .ex _ _ _, h => fun F' Ow2 σ' H' cls d s' r q => h F' Ow2 σ' H' cls d s' r q
theorem Ss.post (h : Ss X C W Ow Ow1 OwL st m) (s : ∀ j ∈ Ow', j ∈ Ow1) : Ss X C W Ow Ow' OwL st m :=
  ⟨ps_con h.run fun D σ H ⟨T, F, σe, g, fl, g', r, m, q⟩ => ⟨T, F, σe, g, fl, g', r, m, q.less s fun _ z => z⟩⟩
theorem Sb.post (h : Sb X C W Ow Ow1 OwL sts m) (s : ∀ j ∈ Ow', j ∈ Ow1) : Sb X C W Ow Ow' OwL sts m :=
  ⟨pss_con h.run fun D σ H ⟨T, F, σe, g, fl, g', r, m, q⟩ => ⟨T, F, σe, g, fl, g', r, m, q.less s fun _ z => z⟩⟩
theorem Ss.ret (h : Es X C Ow e i) : Ss X C W Ow Ow' OwL (.Return (some e) pos) (.ret i) := ⟨ps_con (ps_ret h.run) fun D σ H ⟨T, F, σe, g, fl, g', r, m, q⟩ => by
  unfold Pv.run at m
  obtain ⟨v, g1, m1, m2⟩ := bind_eq_ok m
  cases m2
  exact ⟨T, F, σe, g, v, _, r, m1, fun F1 H1 x s1 r1 h1 => q F1 _ σe σ H1 x s1 r1 h1⟩⟩
theorem Ss.ex (h : Eb X C Ow e i) (hs : swapsWith e none pos.line X.env = pure false) : Ss X C W Ow Ow OwL (.Expr e pos) (.ex i) := ⟨ps_con (ps_expr h.run hs) fun D σ H ⟨T, F, σe, g, fl, g', r, m, q⟩ => by
  unfold Pv.run at m
  obtain ⟨v, g1, m1, m2⟩ := bind_eq_ok m
  cases m2
  exact ⟨T, F, σe, g, v, _, r, m1, fun F1 H1 x s1 r1 _ => q F1 σ H1 s1 r1⟩⟩
theorem Ss.ite {t : Expr} {a b : List Stmt} {it : Ex} {ma mb : Sm} (ht : Et X C Ow t it) (ha : Sb X C W Ow Ow' OwL a ma) (hb : Sb X C W Ow Ow' OwL b mb) : Ss X C W Ow Ow' OwL (.If t a b pos) (.ite it ma mb) :=
  ⟨ps_con (ps_if ht.run ha.run hb.run) fun D σ H ⟨T, F, σe, g, fl, g', r, m, q⟩ => by
    unfold Pv.run at m
    obtain ⟨v, g1, m1, m2⟩ := bind_eq_ok m
    split at m2
    · exact ⟨T, F, σe, g, _, g1, r, m1, fun F1 H1 s1 r1 => iteT ⟨T, F1, σe, g1, fl, g', r1, m2, q.mono s1⟩⟩
    · exact ⟨T, F, σe, g, _, g1, r, m1, fun F1 H1 s1 r1 => iteF ⟨T, F1, σe, g1, fl, g', r1, m2, q.mono s1⟩⟩
    · cases m2⟩

theorem Ss.set {tg : Expr} {t : List Nat} (h : Es X C Ow e i) (hg : Eg X C Ow tg t) (hs : swapsWithSole [tg] e pos.line X.env = pure false) (hw : swappedStores [tg] e X.env = pure none) (h1 : (assignEach [tg] X.env).map (·.2) = [assign tg X.env]) :
    Ss X C W Ow Ow OwL (.Assign [tg] e pos) (.set t i) := ⟨ps_con (ps_asg h.run hg.run hs hw h1) fun D σ H ⟨T, F, σe, g, fl, g', r, m, q⟩ => by
  unfold Pv.run at m
  obtain ⟨v, g1, m1, m2⟩ := bind_eq_ok m
  obtain ⟨σe', g2, m3, m4⟩ := bind_eq_ok m2
  obtain ⟨m5, e5⟩ := lift_eq_ok m3
  subst e5
  cases m4
  exact ⟨T, F, σe, g, v, _, r, m1, fun F1 H1 x s1 r1 h1 => ⟨T, F1, σe, _, v, σe', r1, h1, m5, fun σ' r' _ => q F1 σ' H1 s1 r'⟩⟩⟩
theorem Ss.setG {tg : Expr} {ts : List (List Nat)} (h : Es X C Ow e i) (hg : EgG X C Ow tg ts) (hs : swapsWithSole [tg] e pos.line X.env = pure false) (hw : swappedStores [tg] e X.env = pure none) (h1 : (assignEach [tg] X.env).map (·.2) = [assign tg X.env]) :
    Ss X C W Ow Ow OwL (.Assign [tg] e pos) (.setG ts i) := ⟨ps_con (ps_asg h.run hg.run hs hw h1) fun D σ H ⟨T, F, σe, g, fl, g', r, m, q⟩ => by
  unfold Pv.run at m
  obtain ⟨v, g1, m1, m2⟩ := bind_eq_ok m
  obtain ⟨σe', g2, m3, m4⟩ := bind_eq_ok m2
  obtain ⟨m5, e5⟩ := lift_eq_ok m3
  subst e5
  cases m4
  exact ⟨T, F, σe, g, v, _, r, m1, fun F1 H1 x s1 r1 h1 => ⟨T, F1, σe, _, v, σe', r1, h1, m5, fun σ' r' => q F1 σ' H1 s1 r'⟩⟩⟩
theorem Ss.own {x : Str} (n : Nat) (h : Ef X C Ow e i) (hN : X.N.Nodup) (hi : X.N[n]? = some x) (hx : Loc X.env.scope x) (hf : X.fn x = true ∨ X.env.scope.names.lookup x = some .local) (hs : swapsWith e (some (.Name x pos')) pos.line X.env = pure false) (hsl : SlfOk C n) :
    Ss X C W Ow (n :: Ow) OwL (.Assign [.Name x pos'] e pos) (.set [n] i) := ⟨ps_con (ps_set hN hi hx h.run hs hf) fun D σ H ⟨T, F, σe, g, fl, g', r, m, q⟩ => by
  unfold Pv.run at m
  obtain ⟨v, g1, m1, m2⟩ := bind_eq_ok m
  cases m2
  exact ⟨T, F, σe, g, v, _, r, m1, fun F1 H1 a s1 r1 h1 => q F1 _ H1 s1 (r1.own hsl h1)⟩⟩
theorem Ss.par {x y : Str} {a b : Expr} {ia ib : Ex} {px py pt : Pos} {kt k2 : Nat} {pt2 : Pos} (n k : Nat) (hc : X.calm = true) (hN : X.N.Nodup) (hi : X.N[n]? = some x) (hj : X.N[k]? = some y) (hij : n ≠ k) (hn : n ∉ Ow) (hk : k ∉ Ow)
    (hx : X.env.scope.names.lookup x = some .local) (hy : X.env.scope.names.lookup y = some .local) (ha : Ea X C Ow [a, b] (.cons ia (.cons ib .nil)))
    (hw : swappedStores [.Tuple [.Name x px, .Name y py] kt pt] (.Tuple [a, b] k2 pt2) X.env = pure (some [x, y]))
    (hs : swapsWithSole [.Tuple [.Name x px, .Name y py] kt pt] (.Tuple [a, b] k2 pt2) pos.line X.env = pure false) :
    Ss X C W Ow Ow OwL (.Assign [.Tuple [.Name x px, .Name y py] kt pt] (.Tuple [a, b] k2 pt2) pos) (.par n k ia ib) := ⟨ps_con (ps_par hc hN hi hj hij hx hy ha.run hw hs) fun D σ H ⟨T, F, σe, g, fl, g', r, m, q⟩ => by
  unfold Pv.run at m
  obtain ⟨v, g1, m1, m2⟩ := bind_eq_ok m
  obtain ⟨w, g2, m3, m4⟩ := bind_eq_ok m2
  cases m4
  refine ⟨T, F, σe, g, [v, w], g', r, ?_, fun F1 H1 xs s1 r1 h1 => ?_⟩
  · simp only [evs, m1, m3, bind_ok]
  · obtain ⟨x1, xr, rfl, e1, e2⟩ := h1.inv
    obtain ⟨x2, xr2, rfl, e3, e4⟩ := e2.inv
    rw [e4.inv0]
    exact ⟨x1, x2, rfl, q F1 _ H1 s1 ((r1.setS hn e1).setS hk e3)⟩⟩
theorem op_ip (o : Bop) : PIp X (bop o) (fun x y H Q => ∃ va vb v F K, Sh K F H va x ∧ Sh K F H vb y ∧ augV o va vb = some v ∧ ∀ z, Rel K F v z → Q z H) := by
  intro pins s σ H x y u w Q I rx ry h
  obtain ⟨va, vb, v, F, K, ha, hb, hv, q⟩ := h
  unfold augV at hv
  split at hv
  · cases hv; cases ha; cases hb
    exact iop_add pins s σ H _ _ u w Q I rx ry ⟨_, _, rfl, rfl, q _ rel_int⟩
  · cases hv; cases ha; cases hb
    exact iop_sub pins s σ H _ _ u w Q I rx ry ⟨_, _, rfl, rfl, q _ rel_int⟩
  · cases ha; cases hb
    split at hv
    · rename_i hc
      cases hv
      simp only [Bool.or_eq_true, decide_eq_true_eq] at hc
      refine iop_mul pins s σ H _ _ u w Q I rx ry ⟨_, _, rfl, rfl, ?_, q _ rel_int⟩
      rcases hc with hc | hc
      · exact .inl ⟨by omega, by omega⟩
      · exact .inr ⟨by omega, by omega⟩
    · cases hv
  · cases ha; cases hb
    split at hv
    · rename_i hc
      cases hv
      simp only [Bool.and_eq_true, decide_eq_true_eq] at hc
      exact iop_fdiv pins s σ H _ _ u w Q I rx ry ⟨_, _, rfl, rfl, hc, q _ rel_int⟩
    · cases hv
  · cases ha; cases hb
    split at hv
    · rename_i hc
      cases hv
      simp only [decide_eq_true_eq] at hc
      exact iop_add_str pins s σ H _ _ u w Q I rx ry ⟨_, _, rfl, rfl, lineN_le hc, q _ rel_str⟩
    · cases hv
  · cases hv
theorem slot_ok {σ : Sl} {n : Nat} {g g' : G} {v : D} (h : slot σ n g = .ok v g') : σ[n]? = some (some v) ∧ g' = g := by
  unfold slot at h
  split at h
  · cases h; exact ⟨by assumption, rfl⟩
  · cases h
theorem Ss.aug {x : Str} (n : Nat) (o : Bop) (hn : n ∉ Ow) (h : Eb X C Ow e i) (hN : X.N.Nodup) (hi : X.N[n]? = some x) (hx : Loc X.env.scope x) (hf : X.fn x = true ∨ X.env.scope.names.lookup x = some .local) :
    Ss X C W Ow Ow OwL (.AugAssign (.Name x pos') (bop o) e pos) (.aug n o i) := ⟨ps_con (ps_aug hN hi hx h.run (op_ip o) hf) fun D σ H ⟨T, F, σe, g, fl, g', r, m, q⟩ => by
  unfold Pv.run at m
  obtain ⟨v, g1, m1, m2⟩ := bind_eq_ok m
  obtain ⟨e1, e2⟩ := slot_ok m1
  subst e2
  obtain ⟨w, g2, m3, m4⟩ := bind_eq_ok m2
  obtain ⟨z, g3, m5, m6⟩ := bind_eq_ok m4
  obtain ⟨m7, e7⟩ := lift_eq_ok m5
  subst e7
  cases m6
  obtain ⟨x1, q1, q2⟩ := r.fz n v e1 hn
  exact ⟨x1, q1, T, F, σe, _, w, _, r, m3, fun F1 H1 y s1 r1 b1 => ⟨v, w, z, F1, C.K, (q2.mono s1 _ _).sh r1.sub, r1.sh b1, m7, fun z' hz => q F1 _ H1 s1 (r1.setS hn hz)⟩⟩⟩

theorem Ss.for_ {tg iter : Expr} {body : List Stmt} {t : List Nat} {k : Ik} {is : Exs} (hp : PassesOwn (model X.prog X.w) X.A X.env X.xe) (hc : X.calm = true) (hi : Ei X C Ow tg iter k is) (hg : Eg X C Ow tg t) (hb : Sb X C W Ow Ow Ow body m)
    (hs : ∀ x, foldedSetIterable iter X.env x = pure x) : Ss X C W Ow Ow OwL (.For tg iter body [] pos) (.forr t k is m) :=
  ⟨ps_con (ps_for hp hc hi.run hg.run hb.run hs) fun D σ H ⟨T, F, σe, g, fl, g', r, mm, q⟩ => by
    unfold Pv.run at mm
    obtain ⟨vs, g1, m1, m2⟩ := bind_eq_ok mm
    obtain ⟨xs, g2, m3, m4⟩ := bind_eq_ok m2
    have mi : itm C.Φ k is σe g = .ok xs g2 := by
      unfold itm
      rw [m1]; exact m3
    refine ⟨T, F, σe, g, xs, g2, r, mi, fun F1 H1 J s1 r1 w => ?_⟩
    refine ⟨fun j n σ H => ∃ F2 σe2 g2, n + j = xs.length ∧ Fsub F1 F2 ∧ R C Ow T F2 σe2 g2 σ H ∧ forL (fun x σ g => (lift (setT t x σ) g).bind fun σ g => Pv.run C.Φ C.fu m σ g) (xs.drop j) σe2 g2 = .ok fl g', ⟨xs.length, F1, σe, _, rfl, .refl _, r1, by rw [List.drop_zero]; exact m4⟩, ?_⟩
    rintro j n σ H ⟨F2, σe2, g3, hn, s2, r2, hl⟩
    by_cases hj : j < xs.length
    · have hd : xs[j]? = some xs[j] := List.getElem?_eq_getElem hj
      rw [List.drop_eq_getElem_cons hj] at hl
      unfold forL at hl
      obtain ⟨fl1, g4, l1, l2⟩ := bind_eq_ok hl
      obtain ⟨σe3, g5, l3, l4⟩ := bind_eq_ok l1
      obtain ⟨l5, e5⟩ := lift_eq_ok l3
      subst e5
      refine .inr ⟨w.go j F2 H hj s2 r2.sub, fun σ H => ∃ m', m' < n ∧ ∃ F2 σe2 g2, m' + (j + 1) = xs.length ∧ Fsub F1 F2 ∧ R C Ow T F2 σe2 g2 σ H ∧ forL (fun x σ g => (lift (setT t x σ) g).bind fun σ g => Pv.run C.Φ C.fu m σ g) (xs.drop (j + 1)) σe2 g2 = .ok fl g', fun σ' H' h => h, fun x H' hy => ?_⟩
      obtain ⟨F3, s3, r3, rx⟩ : ∃ F3, Fsub F2 F3 ∧ R C Ow T F3 σe2 g5 σ H' ∧ Rel C.K F3 xs[j] x := by
        rcases w.yld j _ F2 H x H' hd s2 r2.sub hy with ⟨e, rx⟩ | ⟨p, o', rfl, hf, e, rx⟩
        · subst e; exact ⟨F2, .refl _, r2, rx⟩
        · subst e; exact ⟨F2.put p o', Fsub.put (r2.fn hf), r2.laid hf, rx (r2.fn hf)⟩
      refine ⟨T, F3, σe2, g5, xs[j], σe3, r3, rx, l5, fun σ3 r4 _ => ⟨T, F3, σe3, g5, fl1, g4, r4, l4, ?_⟩⟩
      cases fl1 with
      | nx σe4 => exact fun F5 σ5 H5 s5 r5 => ⟨n - 1, by omega, F5, σe4, g4, by omega, s2.trans (s3.trans s5), r5, l2⟩
      | ct σe4 => exact fun F5 σ5 H5 s5 r5 => ⟨n - 1, by omega, F5, σe4, g4, by omega, s2.trans (s3.trans s5), r5, l2⟩
      | bk σe4 =>
        cases l2
        exact fun F5 σ5 H5 s5 r5 => q F5 σ5 H5 (s1.trans (s2.trans (s3.trans s5))) r5
      | rt v =>
        cases l2
        exact fun F5 Ow5 σe5 σ5 H5 x5 s5 r5 h5 => q F5 Ow5 σe5 σ5 H5 x5 (s1.trans (s2.trans (s3.trans s5))) r5 h5
      | ex σe4 c vs =>
        cases l2
        exact fun F5 Ow5 σ5 H5 cls d s5 r5 h5 => q F5 Ow5 σ5 H5 cls d (s1.trans (s2.trans (s3.trans s5))) r5 h5
    · have e : j = xs.length := by omega
      subst e
      rw [List.drop_length] at hl
      unfold forL at hl
      cases hl
      exact .inl ⟨w.stop F2 H s2 r2.sub, q F2 σ H (s1.trans s2) r2⟩⟩
theorem Ss.while_ {t : Expr} {body : List Stmt} {it : Ex} (hp : PassesOwn (model X.prog X.w) X.A X.env X.xe) (ht : Et X C Ow t it) (hb : Sb X C W Ow Ow Ow body m) : Ss X C W Ow Ow OwL (.While t body [] pos) (.whil it m) :=
  ⟨ps_con (ps_while hp ht.run hb.run) fun D σ H ⟨T, F, σe, g, fl, g', r, mm, q⟩ => by
    unfold Pv.run at mm
    refine ⟨fun n σ H => ∃ F2 σe2 g2, Fsub F F2 ∧ R C Ow T F2 σe2 g2 σ H ∧ whileL (fun σ g => ev C.Φ it σ g) (fun σ g => Pv.run C.Φ C.fu m σ g) n σe2 g2 = .ok fl g', ⟨C.fu, F, σe, g, .refl _, r, mm⟩, ?_⟩
    rintro n σ H ⟨F2, σe2, g2, s2, r2, hl⟩
    cases n with
    | zero => unfold whileL at hl; cases hl
    | succ n =>
      unfold whileL at hl
      obtain ⟨v, g3, l1, l2⟩ := bind_eq_ok hl
      split at l2
      · obtain ⟨fl1, g4, l3, l4⟩ := bind_eq_ok l2
        refine ⟨T, F2, σe2, g2, _, g3, r2, l1, fun F3 H3 s3 r3 => iteT ⟨fun σ H => ∃ m', m' < n + 1 ∧ ∃ F2 σe2 g2, Fsub F F2 ∧ R C Ow T F2 σe2 g2 σ H ∧ whileL (fun σ g => ev C.Φ it σ g) (fun σ g => Pv.run C.Φ C.fu m σ g) m' σe2 g2 = .ok fl g', fun σ' H' h => h, T, F3, σe2, g3, fl1, g4, r3, l3, ?_⟩⟩
        cases fl1 with
        | nx σe4 => exact fun F5 σ5 H5 s5 r5 => ⟨n, Nat.lt_succ_self n, F5, σe4, g4, s2.trans (s3.trans s5), r5, l4⟩
        | ct σe4 => exact fun F5 σ5 H5 s5 r5 => ⟨n, Nat.lt_succ_self n, F5, σe4, g4, s2.trans (s3.trans s5), r5, l4⟩
        | bk σe4 =>
          cases l4
          exact fun F5 σ5 H5 s5 r5 => q F5 σ5 H5 (s2.trans (s3.trans s5)) r5
        | rt v =>
          cases l4
          exact fun F5 Ow5 σe5 σ5 H5 x5 s5 r5 h5 => q F5 Ow5 σe5 σ5 H5 x5 (s2.trans (s3.trans s5)) r5 h5
        | ex σe4 c vs =>
          cases l4
          exact fun F5 Ow5 σ5 H5 cls d s5 r5 h5 => q F5 Ow5 σ5 H5 cls d (s2.trans (s3.trans s5)) r5 h5
      · cases l2
        exact ⟨T, F2, σe2, g2, _, _, r2, l1, fun F3 H3 s3 r3 => iteF (q F3 σ H3 (s2.trans s3) r3)⟩
      · cases l2⟩
end
end Pv
end

section
set_option autoImplicit false
namespace Pv
open PySem PySem.Spec PyProof.Rows L2 Srt

def IsIt (h : Heap) (v : Value) (ns : List Int) : Prop := ∃ a o items n, v = .ref a ∧ h.get? a = some o ∧ o.cls = .type "tuple" ∧ o.data = .seq items n ∧ IntsAre items.toList ns
section
variable {prog : Program} {w : World} {A : Around} {s : Shared}
def readIt (h : Heap) : Value → List Int
  | .ref a => match h.get? a with
    | some o => match o.data with
      | .seq its _ => its.toList.map SrtO.iv
      | _ => []
    | none => []
  | _ => []
end
inductive TupsAre (K : PySem.W.Frag) (H : Hp) : List V → List (List Int) → Prop
  | nil : TupsAre K H [] []
  | cons {t : Addr} {n : Int} {ns : List Int} {xs : List V} {ts : List (List Int)} (h : SqT K H t ((n :: ns).map V.int)) (r : TupsAre K H xs ts) : TupsAre K H (.ref t :: xs) ((n :: ns) :: ts)
def rSortedIt (K : PySem.W.Frag) : List V → Hp → VK → Prop := fun vs H Q => ∃ (a : Addr) (xs : List V) (ts : List (List Int)), vs = [V.ref a] ∧ SqL K H a xs ∧ TupsAre K H xs ts ∧
  ∀ ys us p, ys.length = us.length → (ys.zip us).Perm (xs.zip ts) → us.Pairwise (fun x y => HT.lexLt y x = false) → H p = none → Q (.ref p) (upd H p (.lst ys))
end Pv
end

section
set_option autoImplicit false
namespace Pv
open PySem PySem.Spec PyProof.Rows L2

def rSortedTd : List V → Hp → VK → Prop := fun vs H Q => ∃ (a : Addr) (kvs : List (List Key × V)) (ts : List (List Int)), vs = [.ref a] ∧ H a = some (.dT kvs) ∧ kvs.map (·.1) = ts.map (fun t => t.map Sum.inl) ∧ (∀ t ∈ ts, t ≠ []) ∧
  ∀ (bs : List Addr) (us : List (List Int)) (p : Addr), bs.length = us.length → us.Perm ts → us.Pairwise (fun x y => HT.lexLt y x = false) → (∀ z ∈ bs.zip us, H z.1 = some (.tup (z.2.map V.int))) → H p = none → Q (.ref p) (upd H p (.lst (bs.map V.ref)))
def refA : Value → Addr
  | .ref a => a
  | _ => 0
def rSortedTt (K : PySem.W.Frag) : List V → Hp → VK → Prop := fun vs H Q => ∃ (a : Addr) (xs : List V) (ts : List (List Int)), vs = [V.ref a] ∧ SqT K H a xs ∧ TupsAre K H xs ts ∧
  ∀ ys us p, ys.length = us.length → (ys.zip us).Perm (xs.zip ts) → us.Pairwise (fun x y => HT.lexLt y x = false) → H p = none → Q (.ref p) (upd H p (.lst ys))
theorem lexLt_list : ∀ xs ys : List Int, PySem.W.listLt xs ys = HT.lexLt xs ys
  | [], [] => rfl
  | [], _ :: _ => rfl
  | _ :: _, [] => rfl
  | x :: xs, y :: ys => by
    unfold PySem.W.listLt HT.lexLt
    rw [lexLt_list xs ys]; rfl
theorem dataLt_tup (a b : List Int) : PySem.W.dataLt (tupD a) (tupD b) = HT.lexLt a b := (PySem.W.DatumOrd.lt_eq (α := PySem.W.Tup Int) ⟨a⟩ ⟨b⟩).trans (lexLt_list a b)
theorem minD_tups : ∀ (ts : List (List Int)) (t : List Int), PySem.W.minD (tupD t) (ts.map tupD) = tupD (minT t ts)
  | [], t => rfl
  | x :: r, t => by
    unfold minT
    rw [← minD_tups r]
    unfold PySem.W.minD
    rw [List.map_cons, List.foldl_cons, dataLt_tup]
    split <;> rfl
theorem tups_map : ∀ {ds : List D} {ts : List (List Int)}, tupsOf ds = some ts → ds = ts.map tupD
  | [], ts, e => by cases e; rfl
  | .tuple ds :: r, ts, e => by
    unfold tupsOf at e
    split at e
    · rename_i n ns ts' e1 e2
      cases e
      rw [List.map_cons, ← tups_map e2]
      congr 1
      unfold tupD
      congr 1
      have hi : ∀ {ds : List D} {ns : List Int}, intsOf ds = some ns → ds = ns.map .int := by
        intro ds
        induction ds with
        | nil => intro ns a; cases a; rfl
        | cons d ds ih =>
          intro ns a
          cases d with
          | int i =>
            unfold intsOf at a
            obtain ⟨m, m1, rfl⟩ := map_some a
            rw [ih m1]; rfl
          | _ => cases a
      exact hi e1
    · cases e
  | .none :: r, ts, e => by cases e
  | .bool _ :: r, ts, e => by cases e
  | .int _ :: r, ts, e => by cases e
  | .str _ :: r, ts, e => by cases e
  | .list _ :: r, ts, e => by cases e
  | .dict _ :: r, ts, e => by cases e
theorem lay_intsT : ∀ f : List Int, PyData.canLayAll0 (f.map .int) = true
  | [] => rfl
  | a :: f => by
    rw [List.map_cons]
    unfold PyData.canLayAll0 PyData.canLay0
    rw [lay_intsT f]; rfl
theorem lay_tups : ∀ ts : List (List Int), PyData.canLayAll0 (ts.map tupD) = true
  | [] => rfl
  | a :: f => by
    rw [List.map_cons]
    unfold PyData.canLayAll0
    rw [lay_tups f, show PyData.canLay0 (tupD a) = PyData.canLayAll0 (a.map .int) by unfold tupD PyData.canLay0; rfl, lay_intsT]; rfl
theorem dep_intsT : ∀ f : List Int, PyData.depthAll (f.map .int) = 0
  | [] => rfl
  | a :: f => by
    rw [List.map_cons]
    simp only [PyData.depthAll, PyData.depth, dep_intsT f]; rfl
theorem dep_tups : ∀ ts : List (List Int), PyData.depthAll (ts.map tupD) ≤ 1
  | [] => Nat.zero_le _
  | a :: f => by
    rw [List.map_cons]
    have := dep_tups f
    simp only [PyData.depthAll, tupD, PyData.depth, dep_intsT]
    omega
theorem vals_atT : ∀ {xs : List V} {us : List Value}, Vals xs us → ∀ {i : Nat} {u : Value}, us[i]? = some u → ∃ x, xs[i]? = some x ∧ RelV x u
  | _, _, .nil, i, u, e => by simp at e
  | _, _, .cons r t, 0, u, e => by simp at e; subst e; exact ⟨_, rfl, r⟩
  | _, _, .cons r t, i + 1, u, e => by
    obtain ⟨x, h1, h2⟩ := vals_atT t (i := i) (by simpa using e)
    exact ⟨x, by simpa using h1, h2⟩
theorem cr_minTd {X : Cx} (hc : X.calm = true) (hu : X.A.units + 70 < cLine) {pins : List (Addr × Obj)} {s : Shared} {σ : L2.St} {H : Hp} (I : Inv X pins σ H s) {a : Addr} {vsV : List V} {F : Fz} {t : List Int} {ts : List (List Int)} (sub : Same F.h H) (h1 : H a = some (.lst vsV)) (h2 : RelL X.K F ((t :: ts).map tupD) vsV)
    {Q : VK} (q : ∀ x, Rel X.K F (tupD (minT t ts)) x → Q x H) : wpAny (model X.prog X.w) X.A (PySem.call (.builtin "min") [.ref a]) (EP X pins σ Q) X.xe s := by
  obtain ⟨its, rv, hl, hz⟩ := I.list (SqL.of h1)
  obtain ⟨as, hr⟩ := Dp.readsAll I _ vsV its (dpAll_of sub _ _ (lay_tups _) h2) rv
  have dd := dep_tups (t :: ts)
  rw [List.map_cons] at hr
  refine PySem.W.min_list_data (I.ok.hd hc) hl.isList (by simpa using hr) (PySem.W.alikeAll_datum (α := PySem.W.Tup Int) ((t :: ts).map PySem.W.Tup.mk) |> fun z => by
    rw [List.map_map] at z
    exact z) (by rw [List.map_cons] at dd; omega) fun i v h' tk bs hv hrd hk => ?_
  rw [minD_tups] at hrd
  have hv : its[i]? = some v := by simpa using hv
  obtain ⟨bs2, r2, hlt, _⟩ := PySem.W.readsAll_at hr i v hv
  have r3 := PySem.W.reads_keeps hk r2
  have e := (reads_det (fun _ _ z _ => z) hrd r3).1
  obtain ⟨x, x1, x2⟩ := vals_atT rv hv
  have hd : ((t :: ts).map tupD)[i]? = some (tupD (minT t ts)) := by
    rw [← e, List.getD_eq_getElem?_getD, List.map_cons]
    rw [List.getElem?_eq_getElem hlt]; rfl
  obtain ⟨y, y1, y2⟩ := h2.get hd
  rw [x1] at y1
  cases y1
  exact ⟨x, H, I.kept hk, x2, q x y2⟩
end Pv
end

section
set_option autoImplicit false
namespace Pv
open PySem PySem.Spec PyProof.Rows L2

section
variable {X : Cx} {C : Ct} {Ow Ow' OwL : List Nat} {e a b : Expr} {es : List Expr} {i ia ib ic : Ex} {is : Exs} {pos p apos : Pos} {x : Str}

def ShL (K : PySem.W.Frag) (F : Fz) (H : Hp) : List D → List V → Prop
  | [], vs => vs = []
  | d :: ds, vs => ∃ v vr, vs = v :: vr ∧ Sh K F H d v ∧ ShL K F H ds vr
def rBi (K : PySem.W.Frag) (f : Bi) : List V → Hp → VK → Prop := fun xs H Q => ∃ F vas v, (Same F.h H ∧ TupF F H) ∧ ShL K F H vas xs ∧ biV f vas = some v ∧ Out K F H v Q
structure Eas (X : Cx) (C : Ct) (Ow : List Nat) (es : List Expr) (is : Exs) : Prop where
  run : PA X es (fun σ H Q => ∃ T F σe g vs g', R C Ow T F σe g σ H ∧ evs C.Φ is σe g = .ok vs g' ∧ ∀ F' H' xs, Fsub F F' → R C Ow T F' σe g' σ H' → ShL C.K F' H' vs xs → Q xs H')
theorem Eas.one (h : Eb X C Ow e i) (hs : starEach [e] X.env = (false, eval e X.env) :: starEach [] X.env) : Eas X C Ow [e] (.cons i .nil) :=
  ⟨pa_con (pa_cons h.run pa_nil hs) fun σ H Q ⟨T, F, σe, g, vs, g', r, m, q⟩ => by
    unfold evs at m
    obtain ⟨v, g1, m1, m2⟩ := bind_eq_ok m
    obtain ⟨ws, g2, m3, m4⟩ := bind_eq_ok m2
    unfold evs at m3
    cases m3; cases m4
    exact ⟨T, F, σe, g, v, _, r, m1, fun F1 H1 y s1 r1 b1 => q F1 H1 _ s1 r1 ⟨y, [], rfl, r1.sh b1, rfl⟩⟩⟩
theorem Eas.two (h : Eb X C Ow a ia) (h2 : Eb X C Ow b ib) (hs : starEach [a, b] X.env = (false, eval a X.env) :: starEach [b] X.env) (hs2 : starEach [b] X.env = (false, eval b X.env) :: starEach [] X.env) : Eas X C Ow [a, b] (.cons ia (.cons ib .nil)) :=
  ⟨pa_con (pa_cons h.run (pa_cons h2.run pa_nil hs2) hs) fun σ H Q ⟨T, F, σe, g, vs, g', r, m, q⟩ => by
    unfold evs at m
    obtain ⟨v, g1, m1, m2⟩ := bind_eq_ok m
    obtain ⟨ws, g2, m3, m4⟩ := bind_eq_ok m2
    unfold evs at m3
    obtain ⟨v2, g3, m5, m6⟩ := bind_eq_ok m3
    obtain ⟨ws2, g4, m7, m8⟩ := bind_eq_ok m6
    unfold evs at m7
    cases m7; cases m8; cases m4
    exact ⟨T, F, σe, g, v, _, r, m1, fun F1 H1 y s1 r1 b1 => ⟨T, F1, σe, _, v2, _, r1, m5, fun F2 H2 z s2 r2 b2 => q F2 H2 _ (s1.trans s2) r2 ⟨y, [z], rfl, r2.sh (b1.mono s2), z, [], rfl, r2.sh b2, rfl⟩⟩⟩⟩
theorem Es.biB (f : Bi) {id : String} (hK : X.K = C.K) (hc : CallR X (.builtin id) (rBi X.K f)) (hg : Gl X x) (hm : X.mg x = none) (hv : bootBuiltins x = some (.builtin id)) (ha : Eas X C Ow (e :: es) is) (hn : x ≠ "__name__") (hdb : (x == ("__debug__" : Str)) = false)
    (he : starEach (e :: es) X.env = (false, eval e X.env) :: starEach es X.env) (hpl : (backTo pos (starEach es X.env)).any (·.1) = false) : Es X C Ow (.Call (.Name x p) (e :: es) [] pos) (.bi f is) :=
  ⟨pe_con (pe_callB hc hg hm hv ha.run hn hdb he hpl) fun σ H Q ⟨T, F, σe, g, v, g', r, m, q⟩ => by
    unfold ev at m
    obtain ⟨vs, g1, m1, m2⟩ := bind_eq_ok m
    obtain ⟨m3, e3⟩ := lift_eq_ok m2
    subst e3
    exact ⟨T, F, σe, g, vs, _, r, m1, fun F1 H1 xs s1 r1 h1 => ⟨F1, vs, v, ⟨r1.sub, r1.tups⟩, by rw [hK]; exact h1, m3, by rw [hK]; exact r1.out fun F' H' z s r' => q F' H' z (s1.trans s) r'⟩⟩⟩
theorem Es.biT (f : Bi) {id : String} (hK : X.K = C.K) (hc : CallR X (.type id) (rBi X.K f)) (hg : Gl X x) (hm : X.mg x = none) (hv : bootBuiltins x = some (.type id)) (ha : Eas X C Ow (e :: es) is) (hn : x ≠ "__name__") (hdb : (x == ("__debug__" : Str)) = false)
    (he : starEach (e :: es) X.env = (false, eval e X.env) :: starEach es X.env) (hpl : (backTo pos (starEach es X.env)).any (·.1) = false) : Es X C Ow (.Call (.Name x p) (e :: es) [] pos) (.bi f is) :=
  ⟨pe_con (pe_callTy hc hg hm hv ha.run hn hdb he hpl) fun σ H Q ⟨T, F, σe, g, v, g', r, m, q⟩ => by
    unfold ev at m
    obtain ⟨vs, g1, m1, m2⟩ := bind_eq_ok m
    obtain ⟨m3, e3⟩ := lift_eq_ok m2
    subst e3
    exact ⟨T, F, σe, g, vs, _, r, m1, fun F1 H1 xs s1 r1 h1 => ⟨F1, vs, v, ⟨r1.sub, r1.tups⟩, by rw [hK]; exact h1, m3, by rw [hK]; exact r1.out fun F' H' z s r' => q F' H' z (s1.trans s) r'⟩⟩⟩
theorem ShL.one {K : PySem.W.Frag} {F : Fz} {H : Hp} {d : D} {xs : List V} (h : ShL K F H [d] xs) : ∃ v, xs = [v] ∧ Sh K F H d v := by
  obtain ⟨v, vr, e, h1, h2⟩ := h
  exact ⟨v, by rw [e, (show vr = [] from h2)], h1⟩
theorem ShL.two {K : PySem.W.Frag} {F : Fz} {H : Hp} {d d2 : D} {xs : List V} (h : ShL K F H [d, d2] xs) : ∃ v w, xs = [v, w] ∧ Sh K F H d v ∧ Sh K F H d2 w := by
  obtain ⟨v, vr, e, h1, h2⟩ := h
  obtain ⟨w, e2, h3⟩ := ShL.one h2
  exact ⟨v, w, by rw [e, e2], h1, h3⟩
theorem cb_len : CallR X (.builtin "len") (rBi X.K .len) := by
  intro pins s σ H xs us Q I rx h
  obtain ⟨F, vas, v, ⟨sub, tp⟩, hs, hv, q⟩ := h
  rcases vas with _ | ⟨d, _ | ⟨d2, r⟩⟩
  · simp [biV] at hv
  · obtain ⟨y, rfl, hy⟩ := hs.one
    refine call_len pins s σ H _ us Q I rx ?_
    cases d with
    | list ds =>
      obtain ⟨a, vs, rfl, h1, h2⟩ := hy
      cases hv
      exact ⟨_, _, rfl, .inl ⟨vs, SqL.of h1, h2.length⟩, q.1 _ rel_int⟩
    | tuple ds =>
      obtain ⟨a, vs, rfl, h1, h2⟩ := hy
      cases hv
      exact ⟨_, _, rfl, .inr ⟨vs, sqT_mono sub h1, h2.length⟩, q.1 _ rel_int⟩
    | str z =>
      cases hy
      simp only [biV, lenV] at hv
      split at hv
      · rename_i hc
        cases hv
        exact ⟨_, _, rfl, ⟨lineN_le (of_decide_eq_true hc), rfl⟩, q.1 _ rel_int⟩
      · cases hv
    | _ => simp [biV, lenV] at hv
  · simp [biV] at hv
theorem cb_max2 (hc : X.calm = true) : CallR X (.builtin "max") (rBi X.K .max2) := by
  intro pins s σ H xs us Q I rx h
  obtain ⟨F, vas, v, ⟨sub, tp⟩, hs, hv, q⟩ := h
  rcases vas with _ | ⟨d, _ | ⟨d2, _ | ⟨d3, r⟩⟩⟩
  · simp [biV] at hv
  · simp [biV] at hv
  · obtain ⟨y, z, rfl, hy, hz⟩ := hs.two
    cases d with
    | int j =>
      cases d2 with
      | int k =>
        cases hy; cases hz; cases hv
        exact call_max2 hc pins s σ H _ us Q I rx ⟨_, _, rfl, q.1 _ rel_int⟩
      | _ => simp [biV] at hv
    | _ => simp [biV] at hv
  · cases d <;> cases d2 <;> simp [biV] at hv
theorem cb_sum (hc : X.calm = true) : CallR X (.builtin "sum") (rBi X.K .sum) := by
  intro pins s σ H xs us Q I rx h
  obtain ⟨F, vas, v, ⟨sub, tp⟩, hs, hv, q⟩ := h
  rcases vas with _ | ⟨d, _ | ⟨d2, r⟩⟩
  · simp [biV] at hv
  · obtain ⟨y, rfl, hy⟩ := hs.one
    cases d with
    | list ds =>
      obtain ⟨a, vs, rfl, h1, h2⟩ := hy
      obtain ⟨ns, e1, e2⟩ := map_some hv
      subst e2
      rw [h2.ints e1] at h1
      exact cr_sum hc pins s σ H _ us Q I rx ⟨a, ns, rfl, SqL.of h1, q.1 _ rel_int⟩
    | _ => simp [biV] at hv
  · cases d <;> simp [biV] at hv
theorem cb_toInt : CallR X (.type "int") (rBi X.K .toInt) := by
  intro pins s σ H xs us Q I rx h
  obtain ⟨F, vas, v, ⟨sub, tp⟩, hs, hv, q⟩ := h
  rcases vas with _ | ⟨d, _ | ⟨d2, r⟩⟩
  · simp [biV] at hv
  · obtain ⟨y, rfl, hy⟩ := hs.one
    cases d with
    | int j =>
      cases hy; cases hv
      exact call_int1 pins s σ H _ us Q I rx (.inl ⟨_, rfl, q.1 _ rel_int⟩)
    | bool j =>
      cases hy; cases hv
      exact call_int1 pins s σ H _ us Q I rx (.inr ⟨_, rfl, q.1 _ rel_int⟩)
    | _ => simp [biV] at hv
  · cases d <;> simp [biV] at hv
theorem minI_low : ∀ (n : Int) (ns : List Int), minI n ns ∈ n :: ns ∧ ∀ y, y ∈ n :: ns → minI n ns ≤ y
  | n, [] => ⟨List.mem_cons_self, fun y h => by simp at h; subst h; exact Int.le_refl _⟩
  | n, x :: r => by
    obtain ⟨h1, h2⟩ := minI_low (if x < n then x else n) r
    show minI (if x < n then x else n) r ∈ _ ∧ ∀ y, _ → minI (if x < n then x else n) r ≤ y
    generalize minI (if x < n then x else n) r = m at *
    have hc := h2 _ List.mem_cons_self
    refine ⟨?_, fun y h => ?_⟩
    · rcases List.mem_cons.mp h1 with e | e
      · rw [e]; split <;> simp
      · exact List.mem_cons_of_mem _ (List.mem_cons_of_mem _ e)
    · rcases List.mem_cons.mp h with e | e
      · subst e; split at hc <;> omega
      · rcases List.mem_cons.mp e with e | e
        · subst e; split at hc <;> omega
        · exact h2 y (List.mem_cons_of_mem _ e)
theorem cb_minL (hc : X.calm = true) (hu : X.A.units + 70 < cLine) : CallR X (.builtin "min") (rBi X.K .minL) := by
  intro pins s σ H xs us Q I rx h
  obtain ⟨F, vas, v, ⟨sub, tp⟩, hs, hv, q⟩ := h
  rcases vas with _ | ⟨d, _ | ⟨d2, r⟩⟩
  · simp [biV] at hv
  · obtain ⟨y, rfl, hy⟩ := hs.one
    cases d with
    | list ds =>
      obtain ⟨a, vs, rfl, h1, h2⟩ := hy
      simp only [biV] at hv
      split at hv
      · rename_i n ns e1
        cases hv
        rw [h2.ints e1] at h1
        refine cr_min hc pins s σ H _ us Q I rx ⟨a, n :: ns, rfl, SqL.of h1, Nat.succ_pos _, fun m hm hy => ?_⟩
        obtain ⟨t1, t2⟩ := minI_low n ns
        have := hy _ t1
        have := t2 _ hm
        rw [show m = minI n ns by omega]
        exact q.1 _ rel_int
      · cases hv
      · split at hv
        · rename_i t ts e1 e2
          cases hv
          have e3 := tups_map e2
          subst e3
          obtain ⟨u, rfl, ru⟩ := vals1 rx
          obtain rfl : u = Value.ref a := ru
          exact cr_minTd hc hu I sub h1 h2 fun x hx => q.1 x hx
        · cases hv
    | _ => simp [biV] at hv
  · cases d <;> simp [biV] at hv
theorem insI_perm (x : Int) : ∀ ys : List Int, (insI x ys).Perm (x :: ys)
  | [] => .refl _
  | y :: r => by
    unfold insI
    split
    · exact .refl _
    · exact ((insI_perm x r).cons y).trans (.swap x y r)
theorem sortI_perm : ∀ xs : List Int, (sortI xs).Perm xs
  | [] => .refl _
  | x :: r => (insI_perm x _).trans ((sortI_perm r).cons x)
theorem insI_sorted (x : Int) : ∀ {ys : List Int}, ys.Pairwise (· ≤ ·) → (insI x ys).Pairwise (· ≤ ·)
  | [], _ => by unfold insI; exact List.pairwise_singleton _ _
  | y :: r, h => by
    unfold insI
    rw [List.pairwise_cons] at h
    split
    · rename_i hc
      refine List.pairwise_cons.mpr ⟨fun z hz => ?_, List.pairwise_cons.mpr h⟩
      rcases List.mem_cons.mp hz with rfl | hz
      · exact hc
      · exact Int.le_trans hc (h.1 z hz)
    · rename_i hc
      refine List.pairwise_cons.mpr ⟨fun z hz => ?_, insI_sorted x h.2⟩
      rcases List.mem_cons.mp ((insI_perm x r).mem_iff.mp hz) with rfl | hz
      · omega
      · exact h.1 z hz
theorem sortI_sorted : ∀ xs : List Int, (sortI xs).Pairwise (· ≤ ·)
  | [] => .nil
  | x :: r => insI_sorted x (sortI_sorted r)
theorem sorted_unique {xs ys : List Int} (p : xs.Perm ys) (hx : xs.Pairwise (· ≤ ·)) (hy : ys.Pairwise (· ≤ ·)) : xs = ys :=
  p.eq_of_pairwise (fun a b _ _ h1 h2 => Int.le_antisymm h1 h2) hx hy
theorem reads_key {h : Heap} {k : D} {kx : Key} {v : Value} (e1 : keyD k = some kx) (p1 : keyIs kx v) : Reads h v k [] := by
  rcases keyIs_shape p1 with ⟨i, t, z1, z2⟩ | ⟨i, t, z1, z2⟩
  · rw [z2]
    cases k <;> simp [keyD] at e1
    · subst z1
      have e1 := Sum.inl.inj e1
      subst e1; exact .int _ t
    · subst z1; cases e1
  · rw [z2]
    cases k <;> simp [keyD] at e1
    · subst z1; cases e1
    · subst z1
      have e1 := Sum.inr.inj e1
      subst e1; exact .str _ t
def Ip (P : Program) (w : World) (h : Heap) (u : Value) (d : D) : Prop := ∃ as bs, Reads h u d as ∧ ReadAtMost h d.depth bs ∧ ReprK P w bs h d.depth u d.shown
def IpL (P : Program) (w : World) (h : Heap) (us : List Value) (ds : List D) : Prop :=
  ∃ as bs, ReadsAll h us ds as ∧ ReadAtMost h (PyData.depthAll ds) bs ∧ ReprAllK P w bs h (PyData.depthAll ds) us (PyData.shownAll ds)
section
variable {P : Program} {w : World} {h : Heap} {a : Addr} {o : Obj} {n : Nat} {its : Array Value} {ds : List D}
theorem ipL_nil : IpL P w h [] [] := ⟨[], [], .nil, (fun _ y => nomatch y), by unfold PyData.shownAll; exact .nil⟩
theorem ipL_cons {u : Value} {us : List Value} {d : D} (x : Ip P w h u d) (y : IpL P w h us ds) : IpL P w h (u :: us) (d :: ds) := by
  obtain ⟨a1, b1, r1, m1, k1⟩ := x
  obtain ⟨a2, b2, r2, m2, k2⟩ := y
  have l1 : d.depth ≤ PyData.depthAll (d :: ds) := by unfold PyData.depthAll; exact Nat.le_max_left _ _
  have l2 : PyData.depthAll ds ≤ PyData.depthAll (d :: ds) := by simp only [PyData.depthAll]; exact Nat.le_max_right _ _
  refine ⟨a1 ++ a2, b1 ++ b2, .cons r1 r2, (m1.mono l1).append (m2.mono l2), ?_⟩
  unfold PyData.shownAll
  exact .cons ((k1.more fun z hz => List.mem_append_left b2 hz).level_le l1) (k2.more_le (fun z hz => List.mem_append_right b1 hz) l2)
theorem ip_of (x : IpL P w h its.toList ds) (h1 : h.get? a = some o) (h3 : o.data = .seq its n) : (o.cls = .type "list" → Ip P w h (.ref a) (.list ds)) ∧ (o.cls = .type "tuple" → Ip P w h (.ref a) (.tuple ds)) := by
  obtain ⟨as, bs, r, m, k⟩ := x
  constructor
  · intro h2
    have rr : Reads h (.ref a) (.list ds) (a :: as) := .list h1 h2 h3 r
    have dd : PyData.depth (.list ds) = PyData.depthAll ds + 1 := by unfold PyData.depth; omega
    have na : a ∉ bs := not_mem_of_deeper rr (by omega) m
    refine ⟨_, a :: bs, rr, .cons rr (by omega) m, ?_⟩
    rw [dd]
    unfold PyData.shown
    obtain ⟨l⟩ := its
    cases l with
    | nil =>
      cases r
      unfold PyData.shownAll
      rw [listText_nil]
      exact .listEmpty h1 h2 h3
    | cons y l => exact .list h1 h2 h3 na (by simpa using k.length_eq) fun i v e => k.item i v (by simpa using e)
  · intro h2
    have rr : Reads h (.ref a) (.tuple ds) as := .tuple h1 h2 h3 r
    have dd : PyData.depth (.tuple ds) = PyData.depthAll ds + 1 := by unfold PyData.depth; omega
    have na : a ∉ bs := not_mem_of_deeper rr (by omega) m
    refine ⟨_, a :: bs, rr, .cons rr (by omega) m, ?_⟩
    rw [dd]
    unfold PyData.shown
    exact .tuple h1 h2 h3 na k
theorem ipD_of {es : Array DictEntry} {kvs : List (D × D)} (x : IpL P w h (es.toList.map (·.key)) (kvs.map (·.1))) (y : IpL P w h (es.toList.map (·.val)) (kvs.map (·.2))) (h1 : h.get? a = some o) (h2 : o.cls = .type "dict") (h3 : o.data = .dict es n) (hs : (a == sysModules) = false) :
    Ip P w h (.ref a) (.dict kvs) ∧ ∃ bs, a ∉ bs ∧ ReprEntriesK P w bs h (PyData.depthKv kvs) es.toList (PyData.shownKv kvs) := by
  obtain ⟨a1, b1, r1, m1, k1⟩ := x
  obtain ⟨a2, b2, r2, m2, k2⟩ := y
  have rr : Reads h (.ref a) (.dict kvs) (a :: a1 ++ a2) := .dict h1 h2 h3 r1 r2
  have l1 := PyData.depthAll_keys_le kvs
  have l2 := PyData.depthAll_vals_le kvs
  have mm := (m1.mono l1).append (m2.mono l2)
  have dd : PyData.depth (.dict kvs) = PyData.depthKv kvs + 1 := by unfold PyData.depth; omega
  have na : a ∉ b1 ++ b2 := not_mem_of_deeper rr (by omega) mm
  have en : ReprEntriesK P w (b1 ++ b2) h (PyData.depthKv kvs) es.toList (PyData.shownKv kvs) := by
    rw [PyData.shownKv_eq]
    exact .of_two es.toList _ _ (k1.more_le (fun z hz => List.mem_append_left b2 hz) l1) (k2.more_le (fun z hz => List.mem_append_right b1 hz) l2)
  refine ⟨⟨_, a :: (b1 ++ b2), rr, .cons rr (by omega) mm, ?_⟩, _, na, en⟩
  rw [dd]
  unfold PyData.shown
  exact .dict h1 h2 h3 hs na en
end
section
variable {pins : List (Addr × Obj)} {σ : List (Option V)} {H : Hp} {s : Shared} {F : Fz}
mutual
theorem flat_ip (I : Inv X pins σ H s) (sm : Same F.h H) : ∀ (d : D) (v : V) (u : Value), flatD d = true → d.showable = true → d.shown.length ≤ sizeLine → Rel X.K F d v → RelV v u → Ip X.prog X.w s.heap u d
  | .none, v, u, _, _, _, hr, ru => by unfold Rel at hr; subst hr; cases ru; exact ⟨_, [], .none, (fun _ y => nomatch y), by unfold PyData.shown; exact .of_is .none _ _ _⟩
  | .bool b, v, u, _, _, _, hr, ru => by unfold Rel at hr; subst hr; cases ru; exact ⟨_, [], .bool b, (fun _ y => nomatch y), by unfold PyData.shown; exact .of_is (.bool b) _ _ _⟩
  | .int i, v, u, _, hs, _, hr, ru => by
    unfold Rel at hr; subst hr; obtain ⟨t, rfl⟩ := ru
    unfold PyData.showable at hs
    exact ⟨_, [], .int i t, (fun _ y => nomatch y), by unfold PyData.shown; exact .of_is (.int t (of_decide_eq_true hs)) _ _ _⟩
  | .str y, v, u, _, _, hl, hr, ru => by
    unfold Rel at hr; subst hr; obtain ⟨t, rfl⟩ := ru
    unfold PyData.shown at hl
    exact ⟨_, [], .str y t, (fun _ y => nomatch y), by unfold PyData.shown; exact .of_is (.str y t hl) _ _ _⟩
  | .list xs, v, u, hd, hs, hl, hr, ru => by
    unfold Rel at hr
    obtain ⟨a, vs, rfl, q, r⟩ := hr
    cases (show u = Value.ref a from ru)
    obtain ⟨its, rv, ⟨o, n, ho, hc, _, hdt⟩, _⟩ := I.list (SqL.of (sm _ _ q))
    unfold flatD at hd
    unfold PyData.showable at hs
    unfold PyData.shown at hl
    exact (ip_of (flat_ipL I sm xs vs its hd hs (fun t ht => Nat.le_trans (listText_mem_le ht) hl) r rv) ho hdt).1 hc
  | .tuple xs, v, u, hd, hs, hl, hr, ru => by
    unfold Rel at hr
    obtain ⟨a, vs, rfl, q, r⟩ := hr
    cases (show u = Value.ref a from ru)
    obtain ⟨its, rv, ⟨o, ho, hc, n, hdt⟩, _⟩ := I.tuple (q.sqT sm)
    unfold flatD at hd
    unfold PyData.showable at hs
    unfold PyData.shown at hl
    exact (ip_of (flat_ipL I sm xs vs its hd hs (fun t ht => Nat.le_trans (tupleText_mem_le ht) hl) r rv) ho hdt).2 hc
  | .dict kvs, v, u, hd, hs, hl, hr, ru => by
    unfold flatD at hd
    simp only [Bool.and_eq_true, Bool.not_eq_true'] at hd
    unfold PyData.showable at hs
    unfold PyData.shown at hl
    unfold Rel at hr
    rcases hr with ⟨z, _⟩ | ⟨_, a, kk, rfl, h1, h2⟩
    · rw [hd.1] at z; cases z
    · cases (show u = Value.ref a from ru)
      obtain ⟨_, hsys, vs, kv, o, es, ep, e1, e2, e3, e4, e5, e6⟩ := (show ObjOk X.prog X.w H s.heap a (.dK kk) from I.hok a _ (sm _ _ h1))
      obtain ⟨r1, r2⟩ := flat_ipK I sm kvs kk vs es.toList hd.2 hs (fun t ht => Nat.le_trans (dictText_mem_le ht) hl) h2 kv e5
      exact (ipD_of r1 r2 e1 e2.1 e3 hsys).1
theorem flat_ipL (I : Inv X pins σ H s) (sm : Same F.h H) : ∀ (ds : List D) (vs : List V) (us : List Value), flatL ds = true → PyData.showableAll ds = true → (∀ t ∈ PyData.shownAll ds, t.length ≤ sizeLine) → RelL X.K F ds vs → Vals vs us → IpL X.prog X.w s.heap us ds
  | [], vs, us, _, _, _, hr, rv => by
    unfold RelL at hr; subst hr; cases rv
    exact ipL_nil
  | d :: ds, vs, us, hd, hs, hl, hr, rv => by
    unfold flatL at hd
    unfold PyData.showableAll at hs
    simp only [Bool.and_eq_true] at hd hs
    unfold PyData.shownAll at hl
    unfold RelL at hr
    obtain ⟨v, vr, rfl, h1, h2⟩ := hr
    cases rv with
    | cons r1 r2 => exact ipL_cons (flat_ip I sm d v _ hd.1 hs.1 (hl _ List.mem_cons_self) h1 r1) (flat_ipL I sm ds vr _ hd.2 hs.2 (fun t ht => hl t (List.mem_cons_of_mem _ ht)) h2 r2)
theorem flat_ipK (I : Inv X pins σ H s) (sm : Same F.h H) : ∀ (kvs : List (D × D)) (kk : List (Key × V)) (vs : List (Key × Value)) (es : List DictEntry), flatK kvs = true → PyData.showableKv kvs = true → (∀ t ∈ PyData.shownKv kvs, t.length ≤ sizeLine) → RelKV X.K F kvs kk → KV kk vs →
    PySem.Pairs (mixKind X.prog X.w) es vs → IpL X.prog X.w s.heap (es.map (·.key)) (kvs.map (·.1)) ∧ IpL X.prog X.w s.heap (es.map (·.val)) (kvs.map (·.2))
  | [], kk, vs, es, _, _, _, hr, hv, hp => by
    unfold RelKV at hr; subst hr; cases hv; cases hp
    exact ⟨ipL_nil, ipL_nil⟩
  | (k, d) :: r, kk, vs, es, hd, hs, hl, hr, hv, hp => by
    unfold RelKV at hr
    obtain ⟨kx, v, kr, rfl, e1, e2, e3⟩ := hr
    unfold flatK at hd
    unfold PyData.showableKv at hs
    simp only [Bool.and_eq_true] at hd hs
    unfold PyData.shownKv at hl
    have hl0 := hl _ List.mem_cons_self
    rw [strLen_append, strLen_append] at hl0
    cases hv with
    | cons h1 h2 =>
      cases hp with
      | @cons e kv es' vr p1 p2 p3 =>
        obtain ⟨i1, i2⟩ := flat_ipK I sm r kr _ es' hd.2 hs.2 (fun t ht => hl t (List.mem_cons_of_mem _ ht)) e3 h2 p3
        have rv := flat_ip I sm d v e.val hd.1.2 hs.1.2 (by omega) e2 (by rw [p2]; exact h1.2)
        refine ⟨ipL_cons ?_ i1, ipL_cons rv i2⟩
        have rk : Reads s.heap e.key k [] := reads_key e1 (by
          have p1 : keyIs _ e.key = true := p1
          rw [← h1.1] at p1
          exact p1)
        have kd : k.hasDict = false := by
          cases k <;> simp [keyD] at e1 <;> rfl
        obtain ⟨bs, m, q⟩ := ReprK.of_reads (prog := X.prog) (w := X.w) rk hs.1.1 (PyData.noDict_hsm kd) (by omega)
        exact ⟨_, bs, rk, m, q⟩
end
mutual
theorem lay_flat : ∀ d : D, d.canLay0 = true → flatD d = true
  | .none, _ => by unfold flatD; rfl
  | .bool _, _ => by unfold flatD; rfl
  | .int _, _ => by unfold flatD; rfl
  | .str _, _ => by unfold flatD; rfl
  | .list xs, h => by unfold PyData.canLay0 at h; unfold flatD; exact lay_flatL xs h
  | .tuple xs, h => by unfold PyData.canLay0 at h; unfold flatD; exact lay_flatL xs h
  | .dict _, h => by unfold PyData.canLay0 at h; cases h
theorem lay_flatL : ∀ ds : List D, PyData.canLayAll0 ds = true → flatL ds = true
  | [], _ => by unfold flatL; rfl
  | d :: ds, h => by
    unfold PyData.canLayAll0 at h
    simp only [Bool.and_eq_true] at h
    unfold flatL
    rw [lay_flat d h.1, lay_flatL ds h.2]; rfl
end
theorem show_of {d : D} (h : showOk d = true) : flatD d = true ∧ d.depth ≤ 64 ∧ d.showable = true ∧ d.shown.length ≤ lineN := by
  unfold showOk at h
  simp only [Bool.and_eq_true, decide_eq_true_eq, Bool.or_eq_true] at h
  obtain ⟨⟨hd, hsh⟩, hl⟩ := h
  rcases hd with hd | hd
  · unfold shp SeqAt.shaped at hd
    simp only [Bool.and_eq_true, decide_eq_true_eq] at hd
    exact ⟨lay_flat d hd.1, hd.2, hsh, hl⟩
  · exact ⟨hd.1, hd.2, hsh, hl⟩
theorem flat_repr {Q : Value → Shared → Prop} {E : Value → Shared → Prop} {A : Around} (I : Inv X pins σ H s) (sm : Same F.h H) {d : D} {v : V} {a : Addr} (hd : flatD d = true) (hs : d.showable = true) (hl : d.shown.length ≤ sizeLine) (hr : Sh X.K F H d v) (ru : v = .ref a)
    (hG : A.guards = some []) (hu : A.units + (d.depth + 1) < cLine)
    (fin : ∀ h' tk u, (∀ b o, s.heap.get? b = some o → h'.get? b = some o) → Q (.str d.shown u) { s with heap := h', toks := tk }) :
    wpAny (model X.prog X.w) A (PySem.call (.builtin "repr") [.ref a]) Q E s := by
  subst ru
  have seq : ∀ (xs : List D) (vs : List V) (its : List Value), flatL xs = true → PyData.showableAll xs = true → (∀ t ∈ PyData.shownAll xs, t.length ≤ sizeLine) → RelL X.K F xs vs → Vals vs its → IpL X.prog X.w s.heap its xs := fun xs vs its => flat_ipL I sm xs vs its
  cases d with
  | none => cases hr
  | bool b => cases hr
  | int i => cases hr
  | str y => cases hr
  | list xs =>
    obtain ⟨b, vs, e, q, r⟩ := hr
    cases e
    obtain ⟨its, rv, ⟨o, n, ho, hc, _, hdt⟩, _⟩ := I.list (SqL.of q)
    unfold flatD at hd
    unfold PyData.showable at hs
    unfold PyData.shown at hl fin
    have dd : PyData.depth (.list xs) = PyData.depthAll xs + 1 := by unfold PyData.depth; omega
    have ip := flat_ipL I sm xs vs its hd hs (fun t ht => Nat.le_trans (listText_mem_le ht) hl) r rv
    obtain ⟨as, bs, r1, m, k⟩ := ip
    have na : a ∉ bs := not_mem_of_deeper (.list ho hc hdt (by simpa using r1)) (by omega) m
    refine call_repr_slot (T := "list") (idr := "list.__repr__") (by omega) ⟨o, ho, hc⟩ PySem.F.slot_list_repr.toG ?_
    cases its with
    | nil =>
      cases r1
      unfold PyData.shownAll at fin
      rw [listText_nil] at fin
      exact call_list_repr_empty ⟨o, ho, hc⟩ ho hdt ⟨_, _, rfl, fin s.heap _ _ fun _ _ z => z⟩
    | cons y l => exact call_list_reprK ho hc hdt na (by simpa using k.length_eq) (fun i v e => k.item i v (by simpa using e)) hG (fun b _ => Clear.nil b) (by show A.units + 1 + _ < cLine; omega) (fun _ _ z => z) (fun h' u tk hk => ⟨_, _, rfl, fin h' tk u hk⟩) hl
  | tuple xs =>
    obtain ⟨b, vs, e, q, r⟩ := hr
    cases e
    obtain ⟨its, rv, ⟨o, ho, hc, n, hdt⟩, _⟩ := I.tuple (q.sqT sm)
    unfold flatD at hd
    unfold PyData.showable at hs
    unfold PyData.shown at hl fin
    have dd : PyData.depth (.tuple xs) = PyData.depthAll xs + 1 := by unfold PyData.depth; omega
    have ip := flat_ipL I sm xs vs its hd hs (fun t ht => Nat.le_trans (tupleText_mem_le ht) hl) r rv
    obtain ⟨as, bs, r1, m, k⟩ := ip
    have na : a ∉ bs := not_mem_of_deeper (.tuple ho hc hdt (by simpa using r1)) (by omega) m
    refine call_repr_slot (T := "tuple") (idr := "tuple.__repr__") (by omega) ⟨o, ho, hc⟩ PySem.F.slot_tuple_repr ?_
    exact call_tuple_reprK ho hc hdt na (by simpa using k) hG (fun b _ => Clear.nil b) (by show A.units + 1 + _ < cLine; omega) (fun _ _ z => z) (fun h' u tk hk => ⟨_, _, rfl, fin h' tk u hk⟩) hl
  | dict kvs =>
    unfold flatD at hd
    simp only [Bool.and_eq_true, Bool.not_eq_true'] at hd
    unfold PyData.showable at hs
    unfold PyData.shown at hl fin
    have dd : PyData.depth (.dict kvs) = PyData.depthKv kvs + 1 := by unfold PyData.depth; omega
    rcases hr with ⟨z, _⟩ | ⟨_, b, kk, e, h1, h2⟩
    · rw [hd.1] at z; cases z
    · cases e
      obtain ⟨_, hsys, vs, kv, o, es, ep, e1, e2, e3, e4, e5, e6⟩ := (show ObjOk X.prog X.w H s.heap a (.dK kk) from I.hok a _ h1)
      obtain ⟨r1, r2⟩ := flat_ipK I sm kvs kk vs es.toList hd.2 hs (fun t ht => Nat.le_trans (dictText_mem_le ht) hl) h2 kv e5
      obtain ⟨_, bs, na, en⟩ := ipD_of r1 r2 e1 e2.1 e3 hsys
      refine call_repr_slot (T := "dict") (idr := "dict.__repr__") (by omega) ⟨o, e1, e2.1⟩ PySem.F.slot_dict_repr ?_
      exact call_dict_reprK e1 e2.1 e3 hsys na en hG (fun b _ => Clear.nil b) (by show A.units + 1 + _ < cLine; omega) (fun _ _ z => z) (fun h' u tk hk => ⟨_, _, rfl, fin h' tk u hk⟩) hl
end
theorem cb_repr (hG : X.A.guards = some []) (hu : X.A.units + 70 < cLine) : CallR X (.builtin "repr") (rBi X.K .repr) := by
  intro pins s σ H xs us Q I rx h
  obtain ⟨F, vas, v, ⟨sub, tp⟩, hs, hv, q⟩ := h
  rcases vas with _ | ⟨d, _ | ⟨d2, r⟩⟩
  · simp [biV] at hv
  · obtain ⟨y, rfl, hy⟩ := hs.one
    obtain ⟨u, rfl, ru⟩ := vals1 rx
    simp only [biV] at hv
    split at hv
    · rename_i hc
      cases hv
      obtain ⟨fd, hdp, hsh, hl⟩ := show_of hc
      have hl := lineN_le hl
      have q := q.1 _ rel_str
      have fin : ∀ h' tk u, (∀ b o, s.heap.get? b = some o → h'.get? b = some o) → EP X pins σ Q (.str d.shown u) { s with heap := h', toks := tk } := fun h' tk u hk => ⟨.str d.shown, H, I.kept hk, ⟨_, rfl⟩, q⟩
      have disp : ∀ a, y = .ref a → wpAny (model X.prog X.w) X.A (PySem.call (.builtin "repr") [u]) (EP X pins σ Q) X.xe s := fun a e => by
        have ru2 := ru
        rw [e] at ru2
        rw [show u = Value.ref a from ru2]
        exact flat_repr I sub fd hsh hl hy e hG (by omega) fin
      cases d with
      | none => cases hy; cases ru; exact PySem.P.repr_of_none (fin s.heap _ _ fun _ _ z => z)
      | bool b => cases hy; cases ru; exact PySem.P.repr_of_bool (fin s.heap _ _ fun _ _ z => z)
      | int i =>
        cases hy
        obtain ⟨t, rfl⟩ := ru
        unfold PyData.showable at hsh
        exact PySem.P.repr_of_int (of_decide_eq_true hsh) (fin s.heap _ _ fun _ _ z => z)
      | str z =>
        cases hy
        obtain ⟨t, rfl⟩ := ru
        exact PySem.P.repr_of_str (fin s.heap _ _ fun _ _ z => z) hl
      | list ds => obtain ⟨a, vs, e, _⟩ := id hy; exact disp a e
      | tuple ds => obtain ⟨a, vs, e, _⟩ := id hy; exact disp a e
      | dict kvs =>
        rcases id hy with ⟨_, a, e, _⟩ | ⟨_, a, kk, e, _⟩
        · exact disp a e
        · exact disp a e
    · cases hv
  · simp [biV] at hv
theorem cb_toStr (hG : X.A.guards = some []) (hu : X.A.units + 70 < cLine) : CallR X (.type "str") (rBi X.K .toStr) := by
  intro pins s σ H xs us Q I rx h
  obtain ⟨F, vas, v, ⟨sub, tp⟩, hs, hv, q⟩ := h
  rcases vas with _ | ⟨d, _ | ⟨d2, r⟩⟩
  · simp [biV] at hv
  · obtain ⟨y, rfl, hy⟩ := hs.one
    cases d with
    | int j =>
      cases hy
      simp only [biV] at hv
      split at hv
      · rename_i hc
        cases hv
        exact call_str_int pins s σ H _ us Q I rx ⟨_, rfl, of_decide_eq_true hc, q.1 _ rel_str⟩
      · cases hv
    | str z =>
      obtain ⟨u, rfl, ru⟩ := vals1 rx
      cases hy
      cases hv
      obtain ⟨t, rfl⟩ := ru
      exact PySem.P.str_of_str ⟨.str _, H, I, ⟨_, rfl⟩, q.1 _ rel_str⟩
    | list ds =>
      obtain ⟨u, rfl, ru⟩ := vals1 rx
      simp only [biV] at hv
      split at hv
      · rename_i hc
        cases hv
        simp only [Bool.and_eq_true] at hc
        obtain ⟨hc, lay⟩ := hc
        obtain ⟨fd, hdp, hsh, hl⟩ := show_of hc
        have hl := lineN_le hl
        have lay := lay_of_shp lay
        obtain ⟨as, r1⟩ := Dp.reads I _ y u (dp_sh sub lay hy) ru
        obtain ⟨a, vs, rfl, _⟩ := hy
        cases (show u = Value.ref a from ru)
        exact str_of_reads r1 hsh (PyData.noDict_hsm (PyData.hasDict_of_canLay _ lay)) hG (by omega) (fun _ _ e => e) (fun h' tk u hk => ⟨.str _, H, I.kept hk, ⟨_, rfl⟩, q.1 _ rel_str⟩) hl
      · cases hv
    | tuple ds =>
      obtain ⟨u, rfl, ru⟩ := vals1 rx
      simp only [biV] at hv
      split at hv
      · rename_i hc
        cases hv
        simp only [Bool.and_eq_true] at hc
        obtain ⟨hc, lay⟩ := hc
        obtain ⟨fd, hdp, hsh, hl⟩ := show_of hc
        have hl := lineN_le hl
        have lay := lay_of_shp lay
        obtain ⟨as, r1⟩ := Dp.reads I _ y u (dp_sh sub lay hy) ru
        obtain ⟨a, vs, rfl, _⟩ := hy
        cases (show u = Value.ref a from ru)
        exact str_of_reads r1 hsh (PyData.noDict_hsm (PyData.hasDict_of_canLay _ lay)) hG (by omega) (fun _ _ e => e) (fun h' tk u hk => ⟨.str _, H, I.kept hk, ⟨_, rfl⟩, q.1 _ rel_str⟩) hl
      · cases hv
    | _ => simp [biV] at hv
  · cases d <;> simp [biV] at hv
end
end Pv
end

section
set_option autoImplicit false
namespace Pv
open PySem PyProof.Rows L2 HT
section
variable {prog : Program} {w : World} {A : Around} {E : Value → Shared → Prop} {s : Shared}
end
def rRev (K : PySem.W.Frag) (x : V) (H1 : Hp) (Q : VK) : Prop := (∃ a xs, x = .ref a ∧ SqL K H1 a xs ∧ ∀ p, H1 p = none → Q (.ref p) (upd H1 p (.lst xs.reverse))) ∨ ∃ a xs, x = .ref a ∧ SqT K H1 a xs ∧ ∀ p, H1 p = none → Q (.ref p) (upd H1 p (.tup xs.reverse))
def tRev (K : PySem.W.Frag) (te : TE) : TE := fun σ H Q => te σ H fun x H1 => rRev K x H1 Q
end Pv
end

section
set_option autoImplicit false
namespace Pv
open PySem PySem.Spec PyProof.Rows L2

section
variable {X : Cx} {C : Ct} {Ow Ow' OwL : List Nat} {e a b c : Expr} {es : List Expr} {i ia ib ic : Ex} {is : Exs} {pos p apos np : Pos} {x : Str}

def tyN : D → String
  | .none => "NoneType" | .bool _ => "bool" | .int _ => "int" | .str _ => "str" | .list _ => "list" | .tuple _ => "tuple" | .dict _ => "dict"
theorem ty_sh {F : Fz} {H : Hp} {d : D} {v : V} (s : Same F.h H) (h : Sh X.K F H d v) (n : isDk d = false) : TyX X.K H v (.type (tyN d)) := by
  cases d with
  | none => cases h; exact .base .non
  | bool b => cases h; exact .base (.bl b)
  | int j => cases h; exact .base (.int j)
  | str y => cases h; exact .base (.str y)
  | list xs => obtain ⟨q, vs, rfl, e1, _⟩ := h; exact .base (.lst e1)
  | tuple xs =>
    obtain ⟨q, vs, rfl, e1, _⟩ := h
    rcases e1 with e1 | ⟨_, o, its, n, k1, k2, _⟩
    · exact .base (.tup (s _ _ e1))
    · exact .kTuple k1 k2
  | dict kvs =>
    rcases h with ⟨z, _⟩ | ⟨_, q, kk, rfl, e1, _⟩
    · have n : isDeck kvs = false := n
      rw [n] at z; cases z
    · exact .base (.dK e1)
def isB : Bi → Option String
  | .isInt => some "int" | .isBool => some "bool" | .isStr => some "str" | .isTuple => some "tuple" | .isList => some "list"
  | _ => none
structure InsOk (K : PySem.W.Frag) (Ca : Addr) : Prop where
  cls : Cls K Ca
  ha : PySem.W.findIn K (.ref Ca) "__class__" = some (some (.builtin "object.__class__"))
  hn : PySem.W.specialIn K (.builtin "object.__class__") "__get__" = some (some (.builtin "getset_descriptor.__get__"))
  ht : PySem.W.takesIn K (.builtin "object.__class__") = some true
  hm : PySem.W.mroIn K Ca (.type "object") = some true
  kt : ∀ T ∈ ["int", "bool", "str", "tuple", "list"], PySem.W.kitOne K (.ref Ca) (.type T) = some false
theorem isB_mem {f : Bi} {T : String} (hf : isB f = some T) : T ∈ ["int", "bool", "str", "tuple", "list"] := by
  cases f <;> simp only [isB] at hf <;> cases hf <;> simp
theorem isO_sh {K : PySem.W.Frag} {F : Fz} {H : Hp} {d : D} {y : V} (ho : isObj d = true) (h : Sh K F H d y) : ∃ (Cn : Addr × List Str) (a dx : Addr) (fs : List (Str × V)), y = .ref a ∧ Cn ∈ F.sc.2.1 ∧ H a = some (.ins Cn.1 dx fs) := by
  unfold isObj at ho
  split at ho
  · rcases h with ⟨_, a, rfl, ⟨n, e⟩ | ⟨c, r, Cn, dx, fs, _, e2, e3, _⟩ | ⟨r, kk, e, _⟩ | ⟨_, _, e, _⟩⟩ | ⟨hk, _⟩
    · simp [tokD] at e
    · exact ⟨Cn, a, dx, fs, rfl, List.mem_of_getElem? e2, e3⟩
    · simp at e
    · simp at e
    · simp [isDeck] at hk
  · cases ho
theorem isi_val {f : Bi} {T : String} (hf : isB f = some T) {d v : D} (h : biV f [d] = some v) : (isDk d = false ∧ ∃ k, v = .bool k ∧ kitB (tyN d) T = some k) ∨ isObj d = true ∧ v = .bool false := by
  cases ho : isObj d with
  | true =>
    right
    refine ⟨rfl, ?_⟩
    have hd : ∃ kvs, d = .dict kvs := by
      unfold isObj at ho
      split at ho
      · exact ⟨_, rfl⟩
      · cases ho
    obtain ⟨kvs, rfl⟩ := hd
    cases f <;> simp only [isB] at hf <;> cases hf <;> simp only [biV, ho, Bool.not_true, Bool.and_false, Bool.false_eq_true, if_false] at h <;> exact (Option.some.inj h).symm
  | false =>
    left
    cases f <;> simp only [isB] at hf <;> cases hf <;> simp only [biV, ho, Bool.not_false, Bool.and_true] at h <;> split at h <;> first
      | (cases h; done)
      | (rename_i hc
         have hc : isDk d = false := by simpa using hc
         refine ⟨hc, _, (Option.some.inj h).symm, ?_⟩
         cases d <;> first | (simp only [tyN]; decide +kernel) | rfl)
theorem Es.isi {nx : Str} {T : String} (f : Bi) (hf : isB f = some T) (hK : X.K = C.K) (hin : ∀ Cn ∈ C.sc.2.1, InsOk X.K Cn.1) (hg : Gl X "isinstance") (hm : X.mg "isinstance" = none) (hv : bootBuiltins "isinstance" = some (.builtin "isinstance")) (hg2 : Gl X nx) (hm2 : X.mg nx = none) (hv2 : bootBuiltins nx = some (.type T)) (hn2 : nx ≠ "__name__") (hd2 : (nx == ("__debug__" : Str)) = false)
    (ha : Eb X C Ow a ia) (he : starEach [a, .Name nx np] X.env = (false, eval a X.env) :: starEach [.Name nx np] X.env) (he2 : starEach [.Name nx np] X.env = (false, eval (.Name nx np) X.env) :: starEach [] X.env) (hpl : (backTo pos (starEach [.Name nx np] X.env)).any (·.1) = false) :
    Es X C Ow (.Call (.Name "isinstance" p) [a, .Name nx np] [] pos) (.bi f (.cons ia .nil)) :=
  ⟨pe_con (pe_callB call_isi hg hm hv (pa_cons ha.run (pa_cons (pe_bltn hg2 hm2 hv2 (v := .ty T) rfl hn2 hd2) pa_nil he2) he) (by decide) (by decide) he hpl) fun σ H Q ⟨Th, F, σe, g, v, g', r, m, q⟩ => by
    unfold ev evs at m
    obtain ⟨vs, g1, m1, m2⟩ := bind_eq_ok m
    obtain ⟨d, g2, m3, m4⟩ := bind_eq_ok m1
    obtain ⟨ws, g3, m5, m6⟩ := bind_eq_ok m4
    unfold evs at m5
    cases m5; cases m6
    obtain ⟨m7, e7⟩ := lift_eq_ok m2
    subst e7
    rcases isi_val hf m7 with ⟨hn, k, e8, hk⟩ | ⟨ho, e8⟩
    · subst e8
      refine ⟨Th, F, σe, g, d, _, r, m3, fun F1 H1 y s1 r1 b1 => ⟨y, .ty T, _, _, k, rfl, .ty T, ty_sh r1.sub (by rw [hK]; exact r1.sh b1) hn, kit_ty hk, q F1 H1 _ s1 r1 rel_bl⟩⟩
    · subst e8
      refine ⟨Th, F, σe, g, d, _, r, m3, fun F1 H1 y s1 r1 b1 => ?_⟩
      obtain ⟨Cn, p, dx, fs, rfl, z1, z2⟩ := isO_sh ho (r1.sh b1)
      rw [r1.sc] at z1
      have I := hin Cn z1
      exact ⟨.ref p, .ty T, .ref Cn.1, .type T, false, rfl, .ty T, .base (.ins z2 I.cls I.ha I.hn I.ht I.hm), I.kt T (isB_mem hf), q F1 H1 _ s1 r1 rel_bl⟩⟩

theorem RelL.atI {K : PySem.W.Frag} {F : Fz} {ds : List D} {vs : List V} {j : Int} {d : D} (h : RelL K F ds vs) (e : L2.atI ds j = some d) : ∃ v, L2.atI vs j = some v ∧ Rel K F d v := by
  unfold L2.atI at e ⊢
  rw [← h.length]
  cases q : ixN ds.length j with
  | none => rw [q] at e; cases e
  | some n =>
    rw [q] at e
    exact h.get e
theorem Es.idx (hK : X.K = C.K) (ha : Eb X C Ow a ia) (hb : Eb X C Ow b ib) (hs : PlainIx b) : Es X C Ow (.Subscript a b pos) (.idx ia ib) :=
  ⟨pe_con (pe_ix (ix_list.or ix_tup) ha.run hb.run hs) fun σ H Q ⟨T, F, σe, g, v, g', r, m, q⟩ => by
    unfold ev at m
    obtain ⟨va, g1, m1, m2⟩ := bind_eq_ok m
    obtain ⟨vb, g2, m3, m4⟩ := bind_eq_ok m2
    obtain ⟨m5, e5⟩ := lift_eq_ok m4
    subst e5
    refine ⟨T, F, σe, g, va, g1, r, m1, fun F1 H1 y s1 r1 b1 => ⟨T, F1, σe, g1, vb, _, r1, m3, fun F2 H2 z s2 r2 b2 => ?_⟩⟩
    have hy := r2.sh (b1.mono s2)
    have hz := r2.sh b2
    cases va with
    | list ds =>
      cases vb with
      | int j =>
        obtain ⟨p, vs, rfl, h1, h2⟩ := hy
        cases hz
        obtain ⟨w, e1, e2⟩ := h2.atI m5
        exact .inl ⟨p, vs, j, w, rfl, rfl, SqL.of h1, e1, q F2 H2 w (s1.trans s2) r2 e2⟩
      | _ => simp [idxV] at m5
    | tuple ds =>
      cases vb with
      | int j =>
        obtain ⟨p, vs, rfl, h1, h2⟩ := hy
        cases hz
        obtain ⟨w, e1, e2⟩ := h2.atI m5
        exact .inr ⟨p, vs, j, w, rfl, rfl, by rw [hK]; exact sqT_mono r2.sub h1, e1, q F2 H2 w (s1.trans s2) r2 e2⟩
      | _ => simp [idxV] at m5
    | _ => simp [idxV] at m5⟩
structure Eo (X : Cx) (C : Ct) (Ow : List Nat) (o : Option Expr) (i : Ex) : Prop where
  run : PO X o (fun σ H Q => ∃ T F σe g v g' oi, R C Ow T F σe g σ H ∧ ev C.Φ i σe g = .ok v g' ∧ optI v = some oi ∧ ∀ F' H', Fsub F F' → R C Ow T F' σe g' σ H' → Q oi H')
theorem po_con {o : Option Expr} {t t' : TO} (h : PO X o t) (c : ∀ σ H Q, t' σ H Q → t σ H Q) : PO X o t' := ⟨fun pins s σ H Q I hw => h.run pins s σ H Q I (c σ H Q hw)⟩
theorem Eo.none : Eo X C Ow none (.c .none) := ⟨po_con po_none fun σ H Q ⟨T, F, σe, g, v, g', oi, r, m, e, q⟩ => by
  unfold ev at m
  cases m; cases e
  exact q F H (.refl F) r⟩
theorem cut_rel {K : PySem.W.Frag} {F : Fz} {ds : List D} {vs : List V} (h : RelL K F ds vs) (lo hi : Option Int) : RelL K F (cutD ds lo hi) (cutV vs lo hi) := by
  unfold cutD cutV
  rw [h.length]
  exact (h.drop _).take _
theorem Es.slc {lo hi : Option Expr} {il ih : Ex} {p2 : Pos} (hK : X.K = C.K) (ha : Eb X C Ow a ia) (hl : Eo X C Ow lo il) (hh : Eo X C Ow hi ih) : Es X C Ow (.Subscript a (.Slice lo hi none p2) pos) (.slc ia il ih) :=
  ⟨pe_con (pe_slice (sl_list.or sl_tupA) ha.run hl.run hh.run) fun σ H Q ⟨T, F, σe, g, v, g', r, m, q⟩ => by
    unfold ev at m
    obtain ⟨va, g1, m1, m2⟩ := bind_eq_ok m
    obtain ⟨vl, g2, m3, m4⟩ := bind_eq_ok m2
    obtain ⟨vh, g3, m5, m6⟩ := bind_eq_ok m4
    obtain ⟨m7, e7⟩ := lift_eq_ok m6
    subst e7
    have key : ∀ (ds : List D) (P : List D → D), (match optI vl, optI vh with
        | some l, some h => some (P (cutD ds l h))
        | _, _ => none) = some v → ∃ l h, optI vl = some l ∧ optI vh = some h ∧ v = P (cutD ds l h) := fun ds P z => by
      cases e1 : optI vl with
      | none => rw [e1] at z; cases z
      | some l =>
        cases e2 : optI vh with
        | none => rw [e1, e2] at z; cases z
        | some h => rw [e1, e2] at z; exact ⟨l, h, rfl, rfl, (Option.some.inj z).symm⟩
    cases va with
    | list ds =>
      obtain ⟨l, h, e1, e2, rfl⟩ := key ds .list m7
      refine ⟨T, F, σe, g, _, g1, r, m1, fun F1 H1 y s1 r1 b1 => ⟨T, F1, σe, g1, vl, _, l, r1, m3, e1, fun F2 H2 s2 r2 => ⟨T, F2, σe, _, vh, _, h, r2, m5, e2, fun F3 H3 s3 r3 => .inl ?_⟩⟩⟩
      obtain ⟨p, vs, rfl, h1, h2⟩ := r3.sh ((b1.mono s2).mono s3)
      refine ⟨p, vs, rfl, SqL.of h1, fun p n => ?_⟩
      exact q (F3.put p _) _ _ (s1.trans (s2.trans (s3.trans (Fsub.put (r3.fn n))))) (r3.laid n) (rel_lst (r3.fn n) (cut_rel h2 l h))
    | tuple ds =>
      obtain ⟨l, h, e1, e2, rfl⟩ := key ds .tuple m7
      refine ⟨T, F, σe, g, _, g1, r, m1, fun F1 H1 y s1 r1 b1 => ⟨T, F1, σe, g1, vl, _, l, r1, m3, e1, fun F2 H2 s2 r2 => ⟨T, F2, σe, _, vh, _, h, r2, m5, e2, fun F3 H3 s3 r3 => .inr ?_⟩⟩⟩
      obtain ⟨p, vs, rfl, h1, h2⟩ := r3.sh ((b1.mono s2).mono s3)
      refine ⟨p, vs, rfl, by rw [hK]; exact sqT_mono r3.sub h1, fun z => ?_, fun _ p n => ?_⟩
      · refine q F3 H3 _ (s1.trans (s2.trans s3)) r3 ?_
        unfold Rel
        refine ⟨p, vs, rfl, h1, ?_⟩
        have e : cutV vs l h = vs := by
          unfold cutV
          rw [z.1, z.2]
          simp
        have := cut_rel h2 l h
        rwa [e] at this
      · exact q (F3.put p _) _ _ (s1.trans (s2.trans (s3.trans (Fsub.put (r3.fn n))))) (r3.laid n) (rel_tup (r3.fn n) (cut_rel h2 l h))
    | _ => simp [slcV] at m7⟩
theorem Ef.dnew : Ef X C Ow (.Dict [] [] pos) .dnew :=
  ⟨pe_con pe_dnewK fun σ H Q ⟨T, F, σe, g, v, g', r, m, q⟩ => by
    unfold ev at m
    cases m
    exact fun p n => q F _ p (.refl F) (r.grown n) (new_of r n (.inl ⟨rfl, [], upd_same, by unfold RelKV; rfl⟩))⟩
theorem key_rel {K : PySem.W.Frag} {F : Fz} {H : Hp} {k : D} {kx : Key} {y : V} (e : keyD k = some kx) (h : Sh K F H k y) : y = kV kx := by
  cases k <;> simp [keyD] at e
  · subst e; cases h; rfl
  · subst e; cases h; rfl
theorem keq_of {a k : D} {ka kx : Key} (e1 : keyD a = some ka) (e2 : keyD k = some kx) : keq a k = decide (ka = kx) := by
  unfold keq; rw [e1, e2]
theorem look_rel {K : PySem.W.Frag} {F : Fz} {k : D} {kx : Key} (e : keyD k = some kx) : ∀ {kvs : List (D × D)} {kk : List (Key × V)}, RelKV K F kvs kk → (∀ d, dLook k kvs = some d → ∃ v, valV kk kx = some v ∧ Rel K F d v) ∧ (dLook k kvs = none → valV kk kx = none)
  | [], kk, h => by
    unfold RelKV at h; subst h
    exact ⟨(fun d z => by cases z), fun _ => rfl⟩
  | (a, d) :: r, kk, h => by
    unfold RelKV at h
    obtain ⟨ka, v, kr, rfl, e1, e2, e3⟩ := h
    have ih := look_rel (k := k) e e3
    unfold dLook valV at ih ⊢
    rw [List.find?_cons, List.find?_cons]
    simp only [keq_of e1 e]
    by_cases hc : ka = kx
    · simp only [hc, decide_true]
      exact ⟨fun d' z => ⟨v, rfl, by cases z; exact e2⟩, fun z => by cases z⟩
    · simp only [decide_eq_false hc]
      exact ih
theorem any_rel {K : PySem.W.Frag} {F : Fz} {k : D} {kx : Key} (e : keyD k = some kx) : ∀ {kvs : List (D × D)} {kk : List (Key × V)}, RelKV K F kvs kk → (kvs.any fun p => keq p.1 k) = (kk.any fun kv => decide (kv.1 = kx))
  | [], kk, h => by unfold RelKV at h; subst h; rfl
  | (a, d) :: r, kk, h => by
    unfold RelKV at h
    obtain ⟨ka, v, kr, rfl, e1, e2, e3⟩ := h
    rw [List.any_cons, List.any_cons, any_rel e e3]
    simp only [keq_of e1 e]
theorem RelKV.append {K : PySem.W.Frag} {F : Fz} {k d : D} {kx : Key} {v : V} (e : keyD k = some kx) (h : Rel K F d v) : ∀ {kvs : List (D × D)} {kk : List (Key × V)}, RelKV K F kvs kk → RelKV K F (kvs ++ [(k, d)]) (kk ++ [(kx, v)])
  | [], kk, q => by unfold RelKV at q; subst q; unfold RelKV; exact ⟨kx, v, [], rfl, e, h, by unfold RelKV; rfl⟩
  | (a, d0) :: r, kk, q => by
    unfold RelKV at q
    obtain ⟨ka, w, kr, rfl, e1, e2, e3⟩ := q
    show RelKV K F ((a, d0) :: (r ++ [(k, d)])) _
    unfold RelKV
    exact ⟨ka, w, _, rfl, e1, e2, RelKV.append e h e3⟩
theorem RelKV.upd {K : PySem.W.Frag} {F : Fz} {k d : D} {kx : Key} {v : V} (e : keyD k = some kx) (h : Rel K F d v) : ∀ {kvs : List (D × D)} {kk : List (Key × V)}, RelKV K F kvs kk → RelKV K F (kvs.map fun p => if keq p.1 k then (p.1, d) else p) (kk.map fun kv => if kv.1 = kx then (kv.1, v) else kv)
  | [], kk, q => by unfold RelKV at q; subst q; unfold RelKV; rfl
  | (a, d0) :: r, kk, q => by
    unfold RelKV at q
    obtain ⟨ka, w, kr, rfl, e1, e2, e3⟩ := q
    have ih := RelKV.upd (k := k) e h e3
    rw [List.map_cons, List.map_cons]
    simp only [keq_of e1 e]
    by_cases hc : ka = kx
    · simp only [hc, decide_true, if_true]
      unfold RelKV
      exact ⟨kx, v, _, rfl, hc ▸ e1, h, ih⟩
    · simp only [decide_eq_false hc, if_neg hc, Bool.false_eq_true, if_false]
      unfold RelKV
      exact ⟨ka, w, _, rfl, e1, e2, ih⟩
theorem put_rel {K : PySem.W.Frag} {F : Fz} {k d : D} {kx : Key} {v : V} {kvs : List (D × D)} {kk : List (Key × V)} (e : keyD k = some kx) (h : Rel K F d v) (q : RelKV K F kvs kk) : RelKV K F (dPut k d kvs) (putK kk kx v) := by
  unfold dPut putK
  rw [any_rel e q]
  split
  · exact q.upd e h
  · exact q.append e h
theorem RelKV.length {K : PySem.W.Frag} {F : Fz} : ∀ {kvs : List (D × D)} {kk : List (Key × V)}, RelKV K F kvs kk → kvs.length = kk.length
  | [], kk, q => by unfold RelKV at q; subst q; rfl
  | (a, d0) :: r, kk, q => by
    unfold RelKV at q
    obtain ⟨ka, w, kr, rfl, e1, e2, e3⟩ := q
    rw [List.length_cons, List.length_cons, RelKV.length e3]
theorem dPut_mark {k d : D} {kx : Key} {kvs : List (D × D)} (e : keyD k = some kx) (h : isDeck kvs = false) : isDeck (dPut k d kvs) = false := by
  have hk : isDeck [(k, d)] = false := by cases k <;> simp [keyD] at e <;> rfl
  unfold dPut
  cases kvs with
  | nil => exact hk
  | cons p r =>
    obtain ⟨a, w⟩ := p
    split
    · rw [List.map_cons]
      cases a <;> first | (split <;> rfl) | (unfold isDeck at h; cases h)
    · cases a <;> first | rfl | (unfold isDeck at h; cases h)
theorem isDeckN {kvs : List (D × D)} {b : Bool} (h : ¬ ((isDeck kvs || b) = true)) : isDeck kvs = false ∧ b = false := by
  cases e : isDeck kvs <;> cases b <;> simp_all
theorem keys_rel {K : PySem.W.Frag} {F : Fz} : ∀ {ds : List D} {vs : List V} {kl : List Key}, RelL K F ds vs → keysOf ds = some kl → vs = kl.map kV
  | [], vs, kl, h, e => by cases e; rw [h.inv0]; rfl
  | d :: ds, vs, kl, h, e => by
    obtain ⟨v, vr, rfl, h1, h2⟩ := h.inv
    unfold keysOf at e
    cases e1 : keyD d with
    | none => rw [e1] at e; cases e
    | some k =>
      cases e2 : keysOf ds with
      | none => rw [e1, e2] at e; cases e
      | some ks =>
        rw [e1, e2] at e; cases e
        rw [keys_rel h2 e2, key_rel (H := F.h) e1 (h1.sh (Same.refl _))]; rfl
theorem keyT_rel {K : PySem.W.Frag} {F : Fz} {H : Hp} {k : D} {kl : List Key} {y : V} (nk : F.sc.2.2.1 = false) (sub : Same F.h H) (e : keyT k = some kl) (h : Sh K F H k y) : ∃ b, y = .ref b ∧ H b = some (.tup (kl.map kV)) := by
  cases k with
  | tuple ds =>
    obtain ⟨a, vs, rfl, h1, h2⟩ := h
    have := keys_rel h2 e
    subst this
    exact ⟨a, rfl, sub _ _ (h1.no nk)⟩
  | _ => cases e
theorem teq_of {a k : D} {ka kx : List Key} (e1 : keyT a = some ka) (e2 : keyT k = some kx) : teq a k = decide (ka = kx) := by
  unfold teq; rw [e1, e2]
theorem lookT_rel {K : PySem.W.Frag} {F : Fz} {k : D} {kx : List Key} (e : keyT k = some kx) : ∀ {kvs : List (D × D)} {kk : List (List Key × V)}, RelKT K F kvs kk → (∀ d, tLook k kvs = some d → ∃ v, valV kk kx = some v ∧ Rel K F d v) ∧ (tLook k kvs = none → valV kk kx = none)
  | [], kk, h => by
    unfold RelKT at h; subst h
    exact ⟨(fun d z => by cases z), fun _ => rfl⟩
  | (a, d) :: r, kk, h => by
    unfold RelKT at h
    obtain ⟨ka, v, kr, rfl, e1, e2, e3⟩ := h
    have ih := lookT_rel (k := k) e e3
    unfold tLook valV at ih ⊢
    rw [List.find?_cons, List.find?_cons]
    simp only [teq_of e1 e]
    by_cases hc : ka = kx
    · simp only [hc, decide_true]
      exact ⟨fun d' z => ⟨v, rfl, by cases z; exact e2⟩, fun z => by cases z⟩
    · simp only [decide_eq_false hc]
      exact ih
theorem anyT_rel {K : PySem.W.Frag} {F : Fz} {k : D} {kx : List Key} (e : keyT k = some kx) : ∀ {kvs : List (D × D)} {kk : List (List Key × V)}, RelKT K F kvs kk → (kvs.any fun p => teq p.1 k) = (kk.any fun kv => decide (kv.1 = kx))
  | [], kk, h => by unfold RelKT at h; subst h; rfl
  | (a, d) :: r, kk, h => by
    unfold RelKT at h
    obtain ⟨ka, v, kr, rfl, e1, e2, e3⟩ := h
    rw [List.any_cons, List.any_cons, anyT_rel e e3]
    simp only [teq_of e1 e]
theorem RelKT.append {K : PySem.W.Frag} {F : Fz} {k d : D} {kx : List Key} {v : V} (e : keyT k = some kx) (h : Rel K F d v) : ∀ {kvs : List (D × D)} {kk : List (List Key × V)}, RelKT K F kvs kk → RelKT K F (kvs ++ [(k, d)]) (kk ++ [(kx, v)])
  | [], kk, q => by unfold RelKT at q; subst q; unfold RelKT; exact ⟨kx, v, [], rfl, e, h, by unfold RelKT; rfl⟩
  | (a, d0) :: r, kk, q => by
    unfold RelKT at q
    obtain ⟨ka, w, kr, rfl, e1, e2, e3⟩ := q
    show RelKT K F ((a, d0) :: (r ++ [(k, d)])) _
    unfold RelKT
    exact ⟨ka, w, _, rfl, e1, e2, RelKT.append e h e3⟩
theorem RelKT.upd {K : PySem.W.Frag} {F : Fz} {k d : D} {kx : List Key} {v : V} (e : keyT k = some kx) (h : Rel K F d v) : ∀ {kvs : List (D × D)} {kk : List (List Key × V)}, RelKT K F kvs kk → RelKT K F (kvs.map fun p => if teq p.1 k then (p.1, d) else p) (kk.map fun kv => if kv.1 = kx then (kv.1, v) else kv)
  | [], kk, q => by unfold RelKT at q; subst q; unfold RelKT; rfl
  | (a, d0) :: r, kk, q => by
    unfold RelKT at q
    obtain ⟨ka, w, kr, rfl, e1, e2, e3⟩ := q
    have ih := RelKT.upd (k := k) e h e3
    rw [List.map_cons, List.map_cons]
    simp only [teq_of e1 e]
    by_cases hc : ka = kx
    · simp only [hc, decide_true, if_true]
      unfold RelKT
      exact ⟨kx, v, _, rfl, hc ▸ e1, h, ih⟩
    · simp only [decide_eq_false hc, if_neg hc, Bool.false_eq_true, if_false]
      unfold RelKT
      exact ⟨ka, w, _, rfl, e1, e2, ih⟩
theorem putT_rel {K : PySem.W.Frag} {F : Fz} {k d : D} {kx : List Key} {v : V} {kvs : List (D × D)} {kk : List (List Key × V)} (e : keyT k = some kx) (h : Rel K F d v) (q : RelKT K F kvs kk) : RelKT K F (tPut k d kvs) (putK kk kx v) := by
  unfold tPut putK
  rw [anyT_rel e q]
  split
  · exact q.upd e h
  · exact q.append e h
theorem RelKT.length {K : PySem.W.Frag} {F : Fz} : ∀ {kvs : List (D × D)} {kk : List (List Key × V)}, RelKT K F kvs kk → kvs.length = kk.length
  | [], kk, q => by unfold RelKT at q; subst q; rfl
  | (a, d0) :: r, kk, q => by
    unfold RelKT at q
    obtain ⟨ka, w, kr, rfl, e1, e2, e3⟩ := q
    rw [List.length_cons, List.length_cons, RelKT.length e3]
theorem tdOf_some {kvs r : List (D × D)} (h : tdOf kvs = some r) : kvs = (.none, .none) :: r := by
  unfold tdOf at h
  split at h
  · cases h; rfl
  · cases h
theorem noneOf {α : Type} {o : Option α} (h : ¬ (o.isNone = true)) : ∃ a, o = some a := by
  cases o with
  | none => exact (h rfl).elim
  | some a => exact ⟨a, rfl⟩
theorem dlk_is {K : PySem.W.Frag} {F : Fz} {H : Hp} {kvs : List (D × D)} {k : D} {o : Option D} {y : V} (h : dlkV kvs k = some o) (hy : Sh K F H (.dict kvs) y) : ∃ p, y = .ref p ∧ IsD H p := by
  unfold dlkV at h
  split at h
  · rename_i r e
    have := tdOf_some e
    subst this
    rcases hy with ⟨_, a, rfl, ⟨n, z⟩ | ⟨c, r', Cn, dx, fs, z, _⟩ | ⟨r', kk, z, z2, _⟩ | ⟨_, _, z, _⟩⟩ | ⟨z, _⟩
    · unfold tokD at z; cases z
    · cases z
    · exact ⟨a, rfl, .inr ⟨kk, .inl z2⟩⟩
    · cases z
    · cases z
  · split at h
    · cases h
    · rename_i hc
      obtain ⟨hd, hk⟩ := isDeckN hc
      rcases hy with ⟨z, _⟩ | ⟨_, p, kk, rfl, h1, h2⟩
      · rw [hd] at z; cases z
      · exact ⟨p, rfl, .inl ⟨kk, .inl h1⟩⟩
theorem dlk_rel {K : PySem.W.Frag} {F : Fz} {H : Hp} {kvs : List (D × D)} {k : D} {o : Option D} {y z : V} (nk : F.sc.2.2.1 = false) (h : dlkV kvs k = some o) (sub : Same F.h H) (hy : Sh K F H (.dict kvs) y) (hz : Sh K F H k z) :
    ∃ p w, y = .ref p ∧ DGet H p z w ∧ (∀ d, o = some d → ∃ u, w = some u ∧ Rel K F d u) ∧ (o = none → w = none) := by
  unfold dlkV at h
  split at h
  · rename_i r e
    have := tdOf_some e
    subst this
    split at h
    · cases h
    · rename_i hc
      cases h
      obtain ⟨kl, ek⟩ := noneOf hc
      obtain ⟨b, rfl, hb⟩ := keyT_rel nk sub ek hz
      rcases hy with ⟨_, a, rfl, ⟨n, z⟩ | ⟨c, r', Cn, dx, fs, z, _⟩ | ⟨r', kk, z, z2, z3⟩ | ⟨_, _, z, _⟩⟩ | ⟨z, _⟩
      · unfold tokD at z; cases z
      · cases z
      · cases z
        obtain ⟨l1, l2⟩ := lookT_rel ek z3
        exact ⟨a, _, rfl, DGet.t z2 hb, fun d hd => l1 d hd, l2⟩
      · cases z
      · cases z
  · split at h
    · cases h
    · rename_i hc
      obtain ⟨hd, hk⟩ := isDeckN hc
      cases h
      obtain ⟨kx, ek⟩ := noneOf (o := keyD k) (by rw [hk]; exact Bool.false_ne_true)
      have := key_rel ek hz
      subst this
      rcases hy with ⟨z, _⟩ | ⟨_, p, kk, rfl, h1, h2⟩
      · rw [hd] at z; cases z
      · obtain ⟨l1, l2⟩ := look_rel ek h2
        exact ⟨p, _, rfl, DGet.k h1, fun d hd => l1 d hd, l2⟩
theorem Es.dget2 [KtOff C] (hK : X.K = C.K) (hu : X.A.units + 1 < cLine) {c : Expr} {ic : Ex} (ha : Eb X C Ow a ia) (hb : Eb X C Ow b ib) (hc : Es X C Ow c ic) (m : M2 X a "get" apos b c pos) : Es X C Ow (.Call (.Attribute a "get" apos) [b, c] [] pos) (.dget ia ib ic) :=
  ⟨pe_con (pe_dget2 hu ha.run hb.run hc.run m) fun σ H Q ⟨T, F, σe, g, v, g', r, m, q⟩ => by
    unfold ev at m
    obtain ⟨dv, g1, m1, m2⟩ := bind_eq_ok m
    obtain ⟨kv, g2, m3, m4⟩ := bind_eq_ok m2
    obtain ⟨xv, g3, m5, m6⟩ := bind_eq_ok m4
    obtain ⟨m7, e7⟩ := lift_eq_ok m6
    subst e7
    cases dv with
    | dict kvs =>
      obtain ⟨o, m8, e8⟩ := map_some m7
      subst e8
      refine ⟨T, F, σe, g, _, g1, r, m1, fun F1 H1 y s1 r1 b1 => ?_⟩
      obtain ⟨p, rfl, hi⟩ := dlk_is m8 (r1.sh b1)
      refine ⟨p, rfl, hi, T, F1, σe, g1, kv, _, r1, m3, fun F2 H2 z s2 r2 b2 => ⟨T, F2, σe, _, xv, _, r2, m5, fun F3 H3 y3 s3 r3 h3 => ?_⟩⟩
      obtain ⟨p', w, e', hg, l1, l2⟩ := dlk_rel (by rw [r3.sc]; exact KtOff.off) m8 r3.sub (r3.sh (b1.mono (s2.trans s3))) (r3.sh (b2.mono s3))
      cases e'
      refine ⟨_, hg, ?_⟩
      cases o with
      | none =>
        rw [l2 rfl]
        exact q F3 H3 _ (s1.trans (s2.trans s3)) r3 h3
      | some d =>
        obtain ⟨u, e1, e2⟩ := l1 d rfl
        rw [e1]
        exact q F3 H3 _ (s1.trans (s2.trans s3)) r3 e2
    | _ => simp [dgetV] at m7⟩
theorem Es.dix [KtOff C] (hK : X.K = C.K) (hu : X.A.units + 1 < cLine) (ha : Eb X C Ow a ia) (hb : Eb X C Ow b ib) (hs : NoSl b) : Es X C Ow (.Subscript a b pos) (.dix ia ib) :=
  ⟨pe_con (pe_dget hu ha.run hb.run hs) fun σ H Q ⟨T, F, σe, g, v, g', r, m, q⟩ => by
    unfold ev at m
    obtain ⟨dv, g1, m1, m2⟩ := bind_eq_ok m
    obtain ⟨kv, g2, m3, m4⟩ := bind_eq_ok m2
    obtain ⟨m7, e7⟩ := lift_eq_ok m4
    subst e7
    cases dv with
    | dict kvs =>
      obtain ⟨o, m8, e8⟩ : ∃ o, dlkV kvs kv = some o ∧ o = some v := by
        simp only [dixV] at m7
        cases z : dlkV kvs kv with
        | none => rw [z] at m7; cases m7
        | some o => rw [z] at m7; exact ⟨o, rfl, m7⟩
      subst e8
      refine ⟨T, F, σe, g, _, g1, r, m1, fun F1 H1 y s1 r1 b1 => ⟨T, F1, σe, g1, kv, _, r1, m3, fun F2 H2 z s2 r2 b2 => ?_⟩⟩
      obtain ⟨p', w, e', hg, l1, l2⟩ := dlk_rel (by rw [r2.sc]; exact KtOff.off) m8 r2.sub (r2.sh (b1.mono s2)) (r2.sh b2)
      subst e'
      obtain ⟨u, e1, e2⟩ := l1 v rfl
      exact ⟨p', u, rfl, by rw [← e1]; exact hg, q F2 H2 _ (s1.trans s2) r2 e2⟩
    | _ => simp [dixV] at m7⟩
theorem Et.dhas0 [KtOff C] {n : Bool} {σ : L2.St} {H : Hp} {Q : VK} (h : tS C Ow (ev C.Φ (.dhas ia ib n)) σ H Q) : tB C Ow (ev C.Φ ia) σ H fun x H1 => tB C Ow (ev C.Φ ib) σ H1 fun y H2 => ∃ d o, y = .ref d ∧ DGet H2 d x o ∧ Q (.bl (o.isSome != n)) H2 := by
  obtain ⟨T, F, σe, g, v, g', r, m, q⟩ := h
  unfold ev at m
  obtain ⟨kv, g1, m1, m2⟩ := bind_eq_ok m
  obtain ⟨dv, g2, m3, m4⟩ := bind_eq_ok m2
  obtain ⟨m7, e7⟩ := lift_eq_ok m4
  subst e7
  obtain ⟨k, m8, e8⟩ := map_some m7
  subst e8
  cases dv with
  | dict kvs =>
    obtain ⟨o, m9, e9⟩ := map_some m8
    subst e9
    refine ⟨T, F, σe, g, _, g1, r, m1, fun F1 H1 y s1 r1 b1 => ⟨T, F1, σe, g1, _, _, r1, m3, fun F2 H2 z s2 r2 b2 => ?_⟩⟩
    obtain ⟨p', w, e', hg, l1, l2⟩ := dlk_rel (by rw [r2.sc]; exact KtOff.off) m9 r2.sub (r2.sh b2) (r2.sh (b1.mono s2))
    subst e'
    refine ⟨p', w, rfl, hg, q F2 H2 _ (s1.trans s2) r2 ?_⟩
    cases o with
    | none => rw [l2 rfl]; exact rel_bl
    | some d =>
      obtain ⟨u, e1, e2⟩ := l1 d rfl
      rw [e1]; exact rel_bl
  | _ => simp [dhasV] at m8
theorem Et.dhasN [KtOff C] (hK : X.K = C.K) (hu : X.A.units + 1 < cLine) (ha : Eb X C Ow a ia) (hb : Eb X C Ow b ib) : PC X .NotIn a b (tS C Ow (ev C.Φ (.dhas ia ib true))) := by
  refine ⟨fun pins s σ H Q I h => (pc_dnotin hu ha.run hb.run).run pins s σ H Q I ?_⟩
  obtain ⟨T, F, σe, g, v, g', r, m, q⟩ := Et.dhas0 h
  refine ⟨T, F, σe, g, v, g', r, m, fun F1 H1 x s1 r1 b1 => ?_⟩
  obtain ⟨T2, F2, σe2, g2, v2, g2', r2, m2, q2⟩ := q F1 H1 x s1 r1 b1
  refine ⟨T2, F2, σe2, g2, v2, g2', r2, m2, fun F3 H3 y s3 r3 b3 => ?_⟩
  obtain ⟨d, o, e1, e2, e3⟩ := q2 F3 H3 y s3 r3 b3
  exact ⟨d, o, e1, e2, by simpa using e3⟩
end
end Pv
end

section
set_option autoImplicit false
namespace Pv
open PySem PySem.Spec PyProof.Rows L2

section
variable {X : Cx} {C : Ct} {W : WX} {Ow Ow' OwL : List Nat} {e a b c : Expr} {es : List Expr} {i ia ib ic : Ex} {is : Exs} {pos p apos np pos' : Pos} {x : Str} {n : Nat}
theorem own_list {T : Hp} {F : Fz} {σe : Sl} {g : G} {σ : L2.St} {H : Hp} {xs : List D} (r : R C Ow T F σe g σ H) (hn : n ∈ Ow) (e : σe[n]? = some (some (.list xs))) : ∃ a vs, σ[n]? = some (some (V.ref a)) ∧ H a = some (.lst vs) ∧ RelL C.K F xs vs := by
  obtain ⟨a, e1, ⟨vs, e2, e3⟩, _⟩ := r.ow n _ e hn
  exact ⟨a, vs, e1, e2, e3⟩
theorem Ss.app (n : Nat) (hn : n ∈ Ow) (hN : X.N[n]? = some x) (hv : Vis X.env.scope x) (hd : (x == ("__debug__" : Str)) = false) (hcd : (x == ("__classdict__" : Str)) = false) (h : Es X C Ow e i)
    (hbase : attributeBase (.Name x np) "append" X.env (eval (.Name x np) X.env) = eval (.Name x np) X.env)
    (hfew : ((backTo pos (starEach [e] X.env)).all (fun x => !x.1) && (backToKw pos (keywordEach [] X.env)).all (fun x => x.1.isSome) && decide (([e] : List Expr).length + ([] : List Keyword).length + (if ([] : List Keyword).isEmpty then 0 else 1) < 30)) = true)
    (hline : (apos.endLine == pos.line) = true) (hs : starEach [e] X.env = (false, eval e X.env) :: starEach [] X.env) (hpl : (backTo pos (starEach [] X.env)).any (·.1) = false) (hsw : swapsWith (.Call (.Attribute (.Name x np) "append" apos) [e] [] pos) none pos'.line X.env = pure false) :
    Ss X C W Ow Ow OwL (.Expr (.Call (.Attribute (.Name x np) "append" apos) [e] [] pos) pos') (.app n i) :=
  ⟨ps_con (ps_expr (pe_bm PySem.F.plainAttrs_list PySem.F.slot_list_append PySem.F.type_list_append (by exact mt_append) (pe_var hN hv hd hcd) (pa_cons h.run pa_nil hs) hbase hfew hline hs hpl) hsw) fun D σ H ⟨T, F, σe, g, fl, g', r, m, q⟩ => by
    unfold Pv.run at m
    obtain ⟨d0, g0, m0, m1⟩ := bind_eq_ok m
    obtain ⟨e0, e0'⟩ := slot_ok m0
    subst e0'
    obtain ⟨v, g1, m2, m3⟩ := bind_eq_ok m1
    obtain ⟨d1, g2, m4, m5⟩ := bind_eq_ok m3
    obtain ⟨e1, e1'⟩ := slot_ok m4
    subst e1'
    obtain ⟨d2, g3, m6, m7⟩ := bind_eq_ok m5
    obtain ⟨m8, e8⟩ := lift_eq_ok m6
    subst e8
    cases m7
    rw [e0] at e1
    have e1 : d0 = d1 := Option.some.inj (Option.some.inj e1)
    subst e1
    cases d0 with
    | list xs =>
      simp only [appV] at m8
      split at m8
      · rename_i hc
        cases m8
        obtain ⟨p, vs, q1, q2, q3⟩ := own_list r hn e0
        refine ⟨.ref p, q1, .inl ⟨rfl, vs, SqL.of q2⟩, T, F, σe, _, v, _, r, m2, fun F1 H1 y s1 r1 h1 => ?_⟩
        obtain ⟨p', vs', z1, z2, z3⟩ := own_list r1 hn e0
        rw [q1] at z1
        cases z1
        refine ⟨p, vs', y, rfl, rfl, z2, ?_, q F1 _ _ s1 (r1.write hn e0 q1 ⟨_, upd_same, z3.append (.cons h1 .nil)⟩)⟩
        rw [← z3.length]
        exact lineN_lt (of_decide_eq_true hc)
      · cases m8
    | _ => simp [appV] at m8⟩
theorem Ss.setIx {k : Expr} {ik : Ex} (n : Nat) (hn : n ∈ Ow) (hN : X.N[n]? = some x) (hv : Vis X.env.scope x) (hd : (x == ("__debug__" : Str)) = false) (hcd : (x == ("__classdict__" : Str)) = false) (h : Es X C Ow e i) (hk : Eb X C Ow k ik)
    (ha : ∀ v, assign (.Subscript (.Name x np) k apos) X.env v = (do
      let ov ← holding [v] (eval (.Name x np) X.env)
      let iv ← holding [v, ov] (eval k X.env)
      standAt apos
      holding [v, ov, iv] (setItem ov iv v)
      release [v, ov, iv] [])) (hs : swapsWithSole [.Subscript (.Name x np) k apos] e pos.line X.env = pure false) (hw : swappedStores [.Subscript (.Name x np) k apos] e X.env = pure none) (h1 : (assignEach [.Subscript (.Name x np) k apos] X.env).map (·.2) = [assign (.Subscript (.Name x np) k apos) X.env]) :
    Ss X C W Ow Ow OwL (.Assign [.Subscript (.Name x np) k apos] e pos) (.setIx n ik i) :=
  ⟨ps_con (ps_asg h.run (pg_sub (pe_var hN hv hd hcd) hk.run set_list ha) hs hw h1) fun D σ H ⟨T, F, σe, g, fl, g', r, m, q⟩ => by
    unfold Pv.run at m
    obtain ⟨v, g1, m1, m2⟩ := bind_eq_ok m
    obtain ⟨d0, g2, m3, m4⟩ := bind_eq_ok m2
    obtain ⟨e0, e0'⟩ := slot_ok m3
    subst e0'
    obtain ⟨kv, g3, m5, m6⟩ := bind_eq_ok m4
    obtain ⟨d2, g4, m7, m8⟩ := bind_eq_ok m6
    obtain ⟨m9, e9⟩ := lift_eq_ok m7
    subst e9
    cases m8
    cases d0 with
    | list xs =>
      cases kv with
      | int j =>
        obtain ⟨jj, e2, e3⟩ := map_some m9
        subst e3
        refine ⟨T, F, σe, g, v, _, r, m1, fun F1 H1 y s1 r1 h1 => ?_⟩
        obtain ⟨p, vs, q1, q2, q3⟩ := own_list r1 hn e0
        refine ⟨.ref p, q1, T, F1, σe, _, _, _, r1, m5, fun F2 H2 z s2 r2 b2 => ?_⟩
        have hz : z = .int j := r2.sh b2
        subst hz
        obtain ⟨p', vs', z1, z2, z3⟩ := own_list r2 hn e0
        rw [q1] at z1
        cases z1
        exact ⟨p, vs', j, jj, rfl, rfl, z2, by rw [← z3.length]; exact e2, q F2 _ _ (s1.trans s2) (r2.write hn e0 q1 ⟨_, upd_same, z3.set (h1.mono s2 _ _) jj⟩)⟩
      | _ => simp [setIxV] at m9
    | _ => simp [setIxV] at m9⟩
end

section
variable {P : Program} {w : World} {K : PySem.W.Frag} {mg : Str → Option Value} {base : Heap} {x qual : Str} {st : Stmt} {f : Addr} {fd : FuncData} {N ps : List Str} {k : Nat}
theorem start_len {vs : List V} (h : vs.length ≤ N.length) : (L2.start N vs).length = N.length := by
  unfold L2.start
  rw [List.length_append, List.length_map, List.length_replicate]
  omega
theorem R.start {C : Ct} {F : Fz} {ds : List D} {g : G} {H : Hp} {vs : List V} (hH : C.H0 = H) (hF : C.F0 = F) (hX : C.xf = none) (sub : Same F.h H ∧ TupF F H) (sc : F.sc = C.sc) (dk : DkR C F g H) (h : RelL C.K F ds vs) (hn : vs.length ≤ N.length) :
    R C [] (fun _ => none) F (ds.map some ++ List.replicate (N.length - ds.length) none) g (L2.start N vs) H := by
  subst hH; subst hF
  have hl := h.length
  refine ⟨sub.1, sc, .refl _, (fun a o e n => by rw [n] at e; cases e), fun a o e => .inr e, fun d l e => .inl e, ?_, fun i v e n => ?_, fun i v e n => absurd n (List.not_mem_nil), fun i j a hi => absurd hi (List.not_mem_nil), dk, (fun a o e => by cases e), (fun i a e z => absurd z (List.not_mem_nil)), (fun dd f v z => by rw [hX] at z; cases z), sub.2⟩
  · rw [start_len hn, List.length_append, List.length_map, List.length_replicate]; omega
  · have hi : i < ds.length := by
      by_cases hi : i < ds.length
      · exact hi
      · rw [List.getElem?_append_right (by rw [List.length_map]; omega), List.getElem?_replicate] at e
        split at e <;> cases e
    rw [List.getElem?_append_left (by rw [List.length_map]; exact hi), List.getElem?_map] at e
    cases q : ds[i]? with
    | none => rw [q] at e; cases e
    | some d =>
      rw [q] at e
      cases e
      obtain ⟨u, e1, e2⟩ := h.get q
      refine ⟨u, ?_, e2⟩
      unfold L2.start
      rw [List.getElem?_append_left (by rw [List.length_map]; rw [← hl]; exact hi), List.getElem?_map, e1]
      rfl
theorem defOkC {C0 : Ct} (F : Fun K x qual st f fd) (S : FnScope N ps (defScope st)) (hK : C0.K = K) (fi : Nat) (m : Sm) (T : List Fn) (pr : Prims) (d : Nat) (hpr : pr fi = none) (hT : T[fi]? = some ⟨ps.length, N.length, m⟩) (hps : ps.length ≤ N.length)
    (body : ∀ (cdv : Value) (hcv : fd.code = cdv) (A : Around) (outer : List Env) (s : Shared) (H : Hp) (F0 : Fz) (E : XK), A.guards = some [] → Room k (A.deeper (envOfC qual (defScope st) s.heap.objs.size f cdv)) →
      ∃ Ow', Sb (cxOf (L2.CX P w) P w K mg base N qual (defScope st) f cdv A outer s H E) { C0 with H0 := H, F0 := F0, Φ := FT T pr d, fu := fuel, slf := none, xf := none } (fun cls d _ H' => E cls d H') [] Ow' [] (defBody st) m) :
    FnG P w K mg base (L2.CX P w) (k + 1) f fd ps (spS C0 (FT T pr (d + 1) fi) ps.length) := by
  refine funOkC F S (fun vs H Q E h => h.1) fun cdv hcv A outer s H vs Q E hg hr hsp => ?_
  obtain ⟨hn, F0, ds, g, sub, sc, dk, rl, hout⟩ := hsp
  obtain ⟨Ow', hb⟩ := body cdv hcv A outer s H F0 E hg hr
  refine ⟨_, (show PSs (cxOf (L2.CX P w) P w K mg base N qual (defScope st) f cdv A outer s H E) _ _ from hb.run), ?_⟩
  have r := R.start (C := { C0 with H0 := H, F0 := F0, Φ := FT T pr d, fu := fuel, slf := none, xf := none }) (N := N) (vs := vs) rfl rfl rfl sub sc (show DkR _ F0 g H from dk) rl (by rw [hn]; exact hps)
  have hl : ds.length = ps.length := by rw [rl.length, hn]
  rw [hl] at r
  have go : ∀ {F' : Fz} {Ow2 : List Nat} {σe2 : Sl} {σ2 : L2.St} {H' : Hp} {g1 : G}, Fsub F0 F' → R { C0 with H0 := H, F0 := F0, Φ := FT T pr d, fu := fuel, slf := none, xf := none } Ow2 (fun _ => none) F' σe2 g1 σ2 H' → Goes C0 F0 H g1 F' H' := fun {F' Ow2 σe2 σ2 H' g1} s1 r1 =>
    ⟨s1, r1.sub, fun a o z1 z2 => r1.new a o z1 z2, fun a o z => r1.keep a o z, fun d l z => r1.dnew d l z, r1.dk, r1.tups⟩
  have hFT : FT T pr (d + 1) fi ds g = fin (Pv.run (FT T pr d) fuel m (ds.map some ++ List.replicate (N.length - ps.length) none) g) := by
    conv => lhs; unfold FT
    rw [hpr]
    simp only [hT]
    exact if_pos hl
  rcases hout with ⟨v, g', hev, q⟩ | ⟨c, ws, g', hev, q⟩
  · rw [hFT] at hev
    cases hr0 : Pv.run (FT T pr d) fuel m (ds.map some ++ List.replicate (N.length - ps.length) none) g with
    | no => rw [hr0] at hev; cases hev
    | exc c vs g1 => rw [hr0] at hev; cases hev
    | ok fl g1 =>
      rw [hr0] at hev
      refine ⟨fun _ => none, F0, _, g, fl, g1, r, hr0, ?_⟩
      cases fl with
      | nx σe' => cases hev; exact fun F' σ' H' s1 r1 => q F' H' _ (go s1 r1) rel_non
      | rt v2 => cases hev; exact fun F' Ow2 σe2 σ2 H' y s1 r1 h1 => q F' H' y (go s1 r1) h1
      | bk σe' => cases hev
      | ct σe' => cases hev
      | ex σe' c vs => cases hev
  · rw [hFT] at hev
    cases hr0 : Pv.run (FT T pr d) fuel m (ds.map some ++ List.replicate (N.length - ps.length) none) g with
    | no => rw [hr0] at hev; cases hev
    | exc c vs g1 => rw [hr0] at hev; cases hev
    | ok fl g1 =>
      rw [hr0] at hev
      refine ⟨fun _ => none, F0, _, g, fl, g1, r, hr0, ?_⟩
      cases fl with
      | nx σe' => cases hev
      | rt v2 => cases hev
      | bk σe' => cases hev
      | ct σe' => cases hev
      | ex σe' c2 vs2 => cases hev; exact fun F' Ow2 σ' H' cls d s1 r1 h1 => q F' H' cls d (go s1 r1) h1
theorem defOk {C0 : Ct} (F : Fun K x qual st f fd) (S : FnScope N ps (defScope st)) (hK : C0.K = K) (fi : Nat) (m : Sm) (T : List Fn) (pr : Prims) (d : Nat) (hpr : pr fi = none) (hT : T[fi]? = some ⟨ps.length, N.length, m⟩) (hps : ps.length ≤ N.length)
    (body : ∀ (cdv : Value) (A : Around) (outer : List Env) (s : Shared) (H : Hp) (F0 : Fz) (E : XK), A.guards = some [] → Room k (A.deeper (envOfC qual (defScope st) s.heap.objs.size f cdv)) →
      ∃ Ow', Sb (cxOf (L2.CX P w) P w K mg base N qual (defScope st) f cdv A outer s H E) { C0 with H0 := H, F0 := F0, Φ := FT T pr d, fu := fuel, slf := none, xf := none } (fun cls d _ H' => E cls d H') [] Ow' [] (defBody st) m) :
    FnG P w K mg base (L2.CX P w) (k + 1) f fd ps (spS C0 (FT T pr (d + 1) fi) ps.length) :=
  defOkC F S hK fi m T pr d hpr hT hps fun cdv _ => body cdv
end
end Pv
end

section
set_option autoImplicit false
namespace Pv
open PySem PySem.Spec PyProof.Rows L2

def Good (s₁ : Shared) (r : Result) (s' : Shared) : Prop := r = .ok (.ret (.bool true)) ∧ OldK s₁.heap s'.heap ∧ s'.os = s₁.os ∧ AllBare s'.gens
section
variable {P : Program} {w : World} {K : PySem.W.Frag} {mg mb : Str → Option Value} {k : Nat} {fa a : Addr} {fd : FuncData} {x : Str} {sp : Sp} {s₁ : Shared} {vs : List Value} {ns : List Int}
def scriptHp (K : PySem.W.Frag) (a : Addr) (vs : List Value) (ns : List Int) : Hp := fun b => if b = a ∧ K.lookup a = none then some (.frz { cls := .type "list", data := .seq vs.toArray } (.lst (ns.map V.int))) else none
theorem scriptHp_cases (b : Addr) : scriptHp K a vs ns b = none ∨ (b = a ∧ K.lookup a = none ∧ scriptHp K a vs ns b = some (.frz { cls := .type "list", data := .seq vs.toArray } (.lst (ns.map V.int)))) := by
  unfold scriptHp
  by_cases h : b = a ∧ K.lookup a = none
  · exact .inr ⟨h.1, h.2, if_pos h⟩
  · exact .inl (if_neg h)
def firstHp (K : PySem.W.Frag) (ts : List Addr) (a : Addr) (vs : List Value) (ns : List Int) : Hp := fun b => if b ∈ ts then some (.tbl #[]) else scriptHp K a vs ns b
structure TabH (h : Heap) (K : PySem.W.Frag) (cs : List (Addr × Addr)) : Prop where
  emp : ∀ p ∈ cs, h.get? p.2 = some (PySem.W.tabObj #[])
  hd : ∀ p ∈ cs, PySem.W.CodeHd h p.1 p.2
  no : ∀ p ∈ cs, K.lookup p.2 = none
theorem lawEnd {cs : List (Addr × Addr)} (KX : K.In s₁.heap) (hns : s₁.heap.Ns mainGlobals mg) (hb : s₁.heap.Ns builtinsNs mb) (hbb : ∀ x : Str, x ≠ "__name__" → mb x = bootBuiltins x) (hlim : s₁.heap.NoLimit) (hg : s₁.gens = #[])
    (tabs : TabH s₁.heap K cs) (hbm : ∃ (bm : Addr) (ob : Obj), mg "__builtins__" = some (.ref bm) ∧ bm ≠ builtinsNs ∧ s₁.heap.get? bm = some ob ∧ ob.cls = .type "module" ∧ ob.dict = some builtinsNs ∧ ob.data = .plain)
    (ha : s₁.heap.get? a = some { cls := .type "list", data := .seq vs.toArray }) (hi : IntsAre vs ns) (hl : ns.length ≤ sizeLine) (hr : Room k callerA)
    (F : ∀ base : Heap, K.In base → base.Ns mainGlobals mg → (∀ p ∈ cs, LamX.TabB base mg p.1 p.2) → FnG P w K mg base (L2.CX P w) k fa fd [x] sp) (hbind : ∀ (s : Shared) (u : Value), BindsTo s fd ⟨[u], []⟩ [(x, u)])
    (hsp : ∀ H Hs : Hp, Same Hs H → (∀ b xs, H b ≠ some (.tup xs)) → (∀ p ∈ cs, Hs p.2 = none ∧ H p.2 = some (.tbl #[])) → SqL K Hs a (ns.map V.int) → sp [.ref a] H (fun v _ => v = .bl true) fun _ _ _ => False) : codeAny (model P w) callerA (.call (.ref fa) ⟨[.ref a], []⟩) (Good s₁) s₁ := by
  have rv := vals_ints hi
  obtain ⟨ts, ets⟩ : ∃ ts, ts = cs.map (·.2) := ⟨_, rfl⟩
  have tmem : ∀ b, b ∈ ts → ∃ p ∈ cs, p.2 = b := fun b z => by
    rw [ets] at z
    exact List.mem_map.mp z
  have pmem : ∀ p ∈ cs, p.2 ∈ ts := fun p z => by
    rw [ets]
    exact List.mem_map_of_mem z
  have tobj : ∀ b, b ∈ ts → s₁.heap.get? b = some (PySem.W.tabObj #[]) := fun b z => by
    obtain ⟨p, hp, e⟩ := tmem b z
    rw [← e]
    exact tabs.emp p hp
  have sc := scriptHp_cases (K := K) (a := a) (vs := vs) (ns := ns)
  let Hs := scriptHp K a vs ns
  let H := firstHp K ts a vs ns
  have cases3 : ∀ b, (b ∈ ts ∧ H b = some (.tbl #[])) ∨ (b ∉ ts ∧ H b = Hs b) := fun b => by
    by_cases z : b ∈ ts
    · exact .inl ⟨z, if_pos z⟩
    · exact .inr ⟨z, if_neg z⟩
  have aT : a ∉ ts := fun z => by
    have q := tobj a z
    rw [ha] at q
    cases q
  have hsT : ∀ b, b ∈ ts → Hs b = none := fun b z => by
    rcases sc b with q | ⟨rfl, _, _⟩
    · exact q
    · exact (aT z).elim
  have same : Same Hs H := fun b o e => by
    rcases cases3 b with ⟨z, q⟩ | ⟨z, q⟩
    · rw [hsT b z] at e; cases e
    · rw [q]; exact e
  have isSeq : SqL K Hs a (ns.map V.int) := by
    cases hk : K.lookup a with
    | none => exact .inl (.inr ⟨_, if_pos ⟨rfl, hk⟩⟩)
    | some o =>
      have e := KX a o hk
      rw [ha] at e
      cases e
      exact .inr ⟨_, vs.toArray, _, hk, rfl, rfl, rfl, by rw [List.size_toArray, hi.length]; exact hl, by simpa using rv⟩
  have hok : HOk P w H s₁.heap := fun b u z => by
    rcases cases3 b with ⟨m, q⟩ | ⟨m, q⟩
    · rw [q] at z; cases z
      exact tobj b m
    · rw [q] at z
      rcases sc b with q | ⟨rfl, _, q⟩
      · rw [show Hs b = none from q] at z; cases z
      · rw [show Hs b = _ from q] at z; cases z
        exact ⟨ha, by rw [List.length_map]; exact hl, vs, _, rv, ha⟩
  have keep : ∀ {b : Addr} {o : Obj}, s₁.heap.get? b = some o → (b = a → o.data ≠ .seq vs.toArray 0) → o ≠ PySem.W.tabObj #[] → (hidT s₁.heap H).get? b = some o := fun {b o} e n n2 => hidT_get e (by
    rcases cases3 b with ⟨m, q⟩ | ⟨m, q⟩
    · rw [tobj b m] at e
      exact (n2 (Option.some.inj e).symm).elim
    · rw [q]
      rcases sc b with q | ⟨rfl, _, q⟩
      · exact q
      · rw [ha] at e; cases e
        exact (n rfl rfl).elim)
  have ns2 : ∀ {b : Addr} {m : Str → Option Value}, s₁.heap.Ns b m → (hidT s₁.heap H).Ns b m := fun {b m} ⟨o, es, ep, e, d, r⟩ => ⟨o, es, ep, keep e (fun _ z => (by rw [d] at z; cases z)) (fun z => by rw [z] at d; cases d), d, r⟩
  have inB : K.In (hidT s₁.heap H) := fun b o e => hidT_get (KX b o e) (by
    rcases cases3 b with ⟨m, q⟩ | ⟨m, q⟩
    · obtain ⟨p, hp, ep⟩ := tmem b m
      rw [← ep, tabs.no p hp] at e; cases e
    · rw [q]
      rcases sc b with q | ⟨rfl, z, _⟩
      · exact q
      · rw [z] at e; cases e)
  have tb : ∀ p ∈ cs, LamX.TabB (hidT s₁.heap H) mg p.1 p.2 := fun p hp => by
    refine ⟨?_, ?_, fun z => ?_⟩
    · obtain ⟨o, us, file, tf, flags, tg, inF, text, tt, e1, r1, r2, rest⟩ := tabs.hd p hp
      exact ⟨o, us, file, tf, flags, tg, inF, text, tt, keep e1 (fun _ z => by rw [r2] at z; cases z) (fun z => by rw [z] at r1; cases r1), r1, r2, rest⟩
    · obtain ⟨bm, ob, b1, b2, b3, b4, b5, b6⟩ := hbm
      refine ⟨bm, ob, b1, b2, fun q => ?_, fun q => ?_, keep b3 (fun _ z => by rw [b6] at z; cases z) (fun z => by rw [z] at b6; cases b6), b4, b5, b6⟩
      · obtain ⟨o, es, ep, e, hd, _⟩ := hns
        rw [← q, b3] at e; cases e
        rw [hd] at b6; cases b6
      · rw [q, tabs.emp p hp] at b3; cases b3
        cases b6
    · obtain ⟨o, es, ep, e, hd, _⟩ := hns
      rw [z, tabs.emp p hp] at e; cases e
      cases hd
  have md : Mod K mg (hidT s₁.heap H) := ⟨inB, ns2 hns, ⟨mb, ns2 hb, hbb⟩, hlim.imp fun mc z => ⟨ns2 z.1, z.2⟩⟩
  have e0 : Env0 P w K mg (hidT s₁.heap H) callerA [] s₁ H := ⟨rfl, md, fun b o e => of_hidT e, Nat.le_of_eq (hidT_size _ _), trivial, (fun b hb => nomatch hb), hok, .of_eq hg⟩
  have noTup : ∀ b xs, H b ≠ some (.tup xs) := fun b xs z => by
    rcases cases3 b with ⟨m, q⟩ | ⟨m, q⟩
    · rw [q] at z; cases z
    · rw [q] at z
      rcases sc b with q | ⟨_, _, q⟩
      · rw [show Hs b = none from q] at z; cases z
      · rw [show Hs b = _ from q] at z; cases z
  refine codeAny_mono ((F _ inB (ns2 hns) tb).run callerA [] s₁ H ⟨[.ref a], []⟩ [.ref a] [.ref a] _ _ rfl hr e0 (hbind s₁ (.ref a)) (.cons rfl .nil) (hsp H Hs same noTup (fun p hp => ⟨hsT _ (pmem p hp), if_pos (pmem p hp)⟩) isSeq)) fun r s' h => ?_
  match r, h with
  | .error e, ⟨_, _, _, _, _, _, _, _, _, _, _, _, z⟩ => exact False.elim z
  | .ok .next, h => exact False.elim h
  | .ok .brk, h => exact False.elim h
  | .ok .cont, h => exact False.elim h
  | .ok (.ret u), ⟨v, H', os, bare, un, hok', r', q⟩ =>
    subst q
    cases r'
    have old : ∀ b o, b ∉ ts → s₁.heap.get? b = some o → s'.heap.get? b = some o := fun b o nb e => by
      rcases cases3 b with ⟨m, _⟩ | ⟨_, q⟩
      · exact (nb m).elim
      · rcases sc b with z | ⟨_, _, z⟩
        · exact un.keep b o e (q.trans z) (fun y => nomatch y) (fun y => nomatch y)
        · have z : H b = _ := q.trans z
          have e1 := (hok b _ z).1
          rw [e] at e1; cases e1
          exact (hok' b _ (un.frzs b _ _ z)).1
    have more : ∀ b, b ∈ ts → ∃ more : Array Value, s'.heap.get? b = some (PySem.W.tabObj more) := fun b m => by
      have e : H b = some (.tbl #[]) := if_pos m
      obtain ⟨mr, z⟩ := un.tbls b #[] e
      exact ⟨_, hok' b _ z⟩
    refine ⟨rfl, ⟨fun b o e => ?_, fun b o e => ?_⟩, os, bare⟩
    · by_cases m : b ∈ ts
      · obtain ⟨mr, hm⟩ := more b m
        obtain ⟨p, hp, ep⟩ := tmem b m
        rw [tobj b m] at e; cases e
        refine .inr (.inl ⟨?_, rfl, #[], mr, rfl, by rw [Array.empty_append]; exact hm⟩)
        rw [← ep]
        exact ((tabs.hd p hp).tab (tabs.emp p hp)).isCodeTable
      · exact .inl (old b o m e)
    · by_cases m : b ∈ ts
      · obtain ⟨mr, hm⟩ := more b m
        exact ⟨_, hm⟩
      · exact ⟨o, old b o m e⟩
theorem walkEnd {l : PySem.W.OpenLaw} {n k : Nat} {q : Program} {loose : List Str} {XP : (Str → Option Value) → Heap → Prop} {YP : World → Heap → Prop} {d : DefRec} {K : Params → PySem.W.Frag} {x : Str}
    (hn : l.most = some n) (hn2 : n ≤ sizeLine) (hdf : d.params.defaults = []) (hr : Room k callerA)
    (hY : ∀ (w : World) (h : Heap), YP w h → (K w.params).In h)
    (F : ∀ (w : World) (mg : Str → Option Value) (fa : Addr) (h : Heap), (K w.params).In h → h.Ns mainGlobals mg → mg d.name = some (.ref fa) →
      (∀ (x : Str) (c P : Addr), ((recsOf q).find? fun e => e.name == x).isSome = true → PySem.W.tabIn (K w.params) x = some (c, P) → PySem.W.CodeHd h c P ∧ h.get? P = some (PySem.W.tabObj #[])) →
      ∃ fd : FuncData, (∀ (s : Shared) (u : Value), BindsTo s fd ⟨[u], []⟩ [(x, u)]) ∧ ∃ cs : List (Addr × Addr), TabH h (K w.params) cs ∧
        ∀ (a : Addr) (ns : List Int), ns.length ≤ n → ∃ sp : Sp, (∀ H Hs : Hp, Same Hs H → (∀ b xs, H b ≠ some (.tup xs)) → (∀ p ∈ cs, Hs p.2 = none ∧ H p.2 = some (.tbl #[])) → SqL (K w.params) Hs a (ns.map V.int) → sp [.ref a] H (fun v _ => v = .bl true) fun _ _ _ => False) ∧
          ∀ base : Heap, (K w.params).In base → base.Ns mainGlobals mg → (∀ p ∈ cs, LamX.TabB base mg p.1 p.2) → FnG l.prog w (K w.params) mg base (L2.CX l.prog w) k fa fd [x] sp) :
    PySem.W.WalkO q loose XP YP l.row.toRowW d [] (fun f vs => PySem.call f vs) := by
  refine Att.attach_call hn hdf fun w s₀ s₁ mg mb fa o pm cd doc a vs ns G Y ho hd hcd hmg hobj hints hlen hg => ?_
  have KX := hY w _ Y
  obtain ⟨fd, hb, cs, tabs, hF⟩ := F w mg fa _ KX G.T.g hmg (fun x c P hr ht => by
    obtain ⟨d, hd⟩ := Option.isSome_iff_exists.mp hr
    exact PySem.W.tab_of G.T KX hd ht)
  obtain ⟨sp, h1, h2⟩ := hF a ns hlen
  exact lawEnd KX G.T.g G.T.b G.T.builtins G.T.nolimit hg tabs G.T.bmain hobj hints (Nat.le_trans hlen hn2) hr h2 hb h1
end
theorem law_sp {C : Ct} {H Hs : Hp} {a : Addr} {ns : List Int} {Φ : List D → G → Res D} (hc : C.sc.1 = some (a, ns)) (same : Same Hs H) (nt : ∀ b xs, H b ≠ some (.tup xs)) (ht : ∀ P q, (P, q) ∈ C.sc.2.2.2 → Hs P = none ∧ H P = some (.tbl #[])) (hS : SqL C.K Hs a (ns.map V.int)) (hs : ∃ g', Φ [tokD 1] none = .ok (.bool true) g') :
    spS C Φ 1 [.ref a] H (fun v _ => v = .bl true) fun _ _ _ => False := by
  obtain ⟨g', h⟩ := hs
  refine ⟨rfl, ⟨Hs, none, C.sc⟩, [tokD 1], none, ⟨same, fun a xs e => (nt a xs e).elim⟩, rfl, ⟨rfl, fun P q m => ?_⟩, .cons ?_ .nil, .inl ⟨.bool true, g', h, fun F' H' x s rx => ?_⟩⟩
  · obtain ⟨h1, h2⟩ := ht P q m
    refine ⟨h1, #[], h2, True.intro, fun pos cv z => ?_⟩
    have z : codeAmong pos [] = some cv := z
    simp [codeAmong] at z
  · unfold tokD Rel
    exact .inl ⟨rfl, .inr (.inl ⟨a, ns, hc, rfl, hS, rfl⟩)⟩
  · unfold Rel at rx; exact rx

abbrev Prim := List D → G → Res D
theorem rel_tok0 {K : PySem.W.Frag} {F : Fz} {x : V} (h : Rel K F (tokD 0) x) : ∃ d l, F.dk = some (d, l) ∧ x = .ref d := by
  unfold tokD Rel at h
  rcases h with ⟨_, ⟨d, l, e1, e2, _⟩ | ⟨a, ns, _, _, _, e⟩ | q | q⟩ | ⟨z, _⟩
  · exact ⟨d, l, e1, e2⟩
  · unfold tokD at e
    simp at e
  · unfold RelO at q
    obtain ⟨z, _⟩ := q
    cases z
  · unfold RelTd at q
    obtain ⟨z, _⟩ := q
    cases z
  · cases z
theorem rel_tok1 {K : PySem.W.Frag} {F : Fz} {x : V} (h : Rel K F (tokD 1) x) : ∃ a ns, F.sc.1 = some (a, ns) ∧ x = .ref a ∧ SqL K F.h a (ns.map V.int) := by
  unfold tokD Rel at h
  rcases h with ⟨_, ⟨d, l, e1, e2, e⟩ | ⟨a, ns, e1, e2, e3, _⟩ | q | q⟩ | ⟨z, _⟩
  · unfold tokD at e
    simp at e
  · exact ⟨a, ns, e1, e2, e3⟩
  · unfold RelO at q
    obtain ⟨z, _⟩ := q
    cases z
  · unfold RelTd at q
    obtain ⟨z, _⟩ := q
    cases z
  · cases z
end Pv
end

section
set_option autoImplicit false
namespace Pv
open PySem PySem.Spec PyProof.Rows L2

structure DkN (C : Ct) : Prop where
  a : C.n1 ≠ C.n2
  b : ∀ n, C.n3 = some n → n ≠ C.n1 ∧ n ≠ C.n2
section
variable {X : Cx} {C : Ct} {W : WX} {Ow Ow' OwL : List Nat} {e a b c : Expr} {i ia ib ic : Ex} {pos pos' apos kp : Pos}
theorem dk_of_tok {T : Hp} {F : Fz} {σe : Sl} {st : Dk} {σ : L2.St} {H : Hp} {d : D} {x : V} (r : R C Ow T F σe (some st) σ H) (h : Bm C Ow F σe σ d x) (t : isTok 0 d = true) : ∃ d l, F.dk = some (d, l) ∧ x = .ref d ∧ d ≠ l ∧ F.h d = none ∧ F.h l = none ∧ H l = some (.lst (st.cells.map V.int)) ∧ H d = some (.dK (dkL C l st)) := by
  have e := of_isTok t
  subst e
  rcases h with h | ⟨i, hi, e1, e2⟩
  · obtain ⟨d, l, e1, e2⟩ := rel_tok0 h
    obtain ⟨d', l', e3, q⟩ := r.dk.dd
    rw [e1] at e3; cases e3
    exact ⟨d, l, e1, e2, q⟩
  · obtain ⟨a, _, o, _⟩ := r.ow i _ e1 hi
    rcases o with ⟨z, _⟩ | ⟨_, _, _, _, _, z, _⟩ | ⟨_, _, z, _⟩ | ⟨_, _, z, _⟩
    · cases z
    · cases z
    · cases z
    · cases z
theorem val_1 {l : Addr} {st : Dk} : valV (dkL C l st) (.inr C.n1) = some (.ref l) := by
  unfold valV dkL
  rw [List.find?_cons_of_pos (by simp)]; rfl
theorem val_2 {l : Addr} {st : Dk} (n : DkN C) : valV (dkL C l st) (.inr C.n2) = some (.int st.mixed) := by
  unfold valV dkL
  rw [List.find?_cons_of_neg (by simpa using n.a), List.find?_cons_of_pos (by simp)]; rfl
theorem val_3 {l : Addr} {st : Dk} {x : Str} (n : DkN C) (h : C.n3 = some x) : valV (dkL C l st) (.inr x) = some (.int st.turn) := by
  obtain ⟨h1, h2⟩ := n.b x h
  unfold valV dkL
  rw [h, List.find?_cons_of_neg (by simpa using Ne.symm h1), List.find?_cons_of_neg (by simpa using Ne.symm h2)]
  simp
theorem put_2 {l : Addr} {st : Dk} {c : Int} (n : DkN C) : putK (dkL C l st) (.inr C.n2) (.int c) = dkL C l { st with mixed := c } := by
  have h : ∀ x, C.n3 = some x → x ≠ C.n2 := fun x e => (n.b x e).2
  unfold putK dkL
  cases e : C.n3 with
  | none => simp [n.a]
  | some x => simp [n.a, h x e]
theorem put_3 {l : Addr} {st : Dk} {c : Int} {x : Str} (n : DkN C) (h : C.n3 = some x) : putK (dkL C l st) (.inr x) (.int c) = dkL C l { st with turn := c } := by
  obtain ⟨h1, h2⟩ := n.b x h
  unfold putK dkL
  rw [h]
  simp [Ne.symm h1, Ne.symm h2]
theorem dkL_len {l : Addr} {st : Dk} : (dkL C l st).length ≤ 3 := by
  unfold dkL
  cases C.n3 <;> simp
theorem R.deck {T : Hp} {F : Fz} {σe : Sl} {st st' : Dk} {σ : L2.St} {H H' : Hp} {d l : Addr} (r : R C Ow T F σe (some st) σ H) (e : F.dk = some (d, l)) (ne : d ≠ l) (f1 : F.h d = none) (f2 : F.h l = none)
    (out : ∀ a, a ≠ d → a ≠ l → H' a = H a) (h1 : H' l = some (.lst (st'.cells.map V.int))) (h2 : H' d = some (.dK (dkL C l st'))) : R C Ow T F σe (some st') σ H' := by
  refine r.step (.refl F) (fun a o z => ?_) (fun a o z n => by rw [z] at n; cases n) (fun a o z => ?_) (fun _ _ z => .inl z) (show DkR C F (some st') H' from ⟨⟨d, l, e, ne, f1, f2, h1, h2⟩, r.dk.tb.move (.refl F) (fun P q m => ?_) fun P q m => (r.dk.tb P q m).1⟩) (fun a xs z => ?_)
  rotate_right
  · by_cases q1 : a = d
    · rw [q1, h2] at z; cases z
    · by_cases q2 : a = l
      · rw [q2, h1] at z; cases z
      · rw [out a q1 q2] at z; exact r.tups a xs z
  rotate_right
  · obtain ⟨d', l', e', _, _, _, hl, hd⟩ := r.dk.dd
    rw [e] at e'; cases e'
    obtain ⟨_, ps, ep, _⟩ := r.dk.tb P q m
    exact out P (fun z => by rw [z, hd] at ep; cases ep) (fun z => by rw [z, hl] at ep; cases ep)
  · rw [out a (fun q => by rw [q, f1] at z; cases z) (fun q => by rw [q, f2] at z; cases z)]
    exact r.sub a o z
  · by_cases q1 : a = d
    · exact .inl (.inl ⟨d, l, e, .inl q1⟩)
    · by_cases q2 : a = l
      · exact .inl (.inl ⟨d, l, e, .inr q2⟩)
      · exact .inr (by rw [out a q1 q2]; exact z)

theorem Es.dkGet {x : Str} {j : Nat} (t : Bool) (hu : X.A.units + 1 < cLine) (n : DkN C) (hx : (if t then C.n3 else some C.n2) = some x) (ha : Eb X C Ow a ia) (hs : NoSl (.Constant (.str x) j kp)) : Es X C Ow (.Subscript a (.Constant (.str x) j kp) pos) (.dkGet t ia) :=
  ⟨pe_con (pe_dget hu ha.run pe_str hs) fun σ H Q ⟨T, F, σe, g, v, g', r, m, q⟩ => by
    unfold ev at m
    obtain ⟨d0, g1, m1, m2⟩ := bind_eq_ok m
    obtain ⟨m3, e3⟩ := lift_eq_ok m2
    subst e3
    refine ⟨T, F, σe, g, d0, _, r, m1, fun F1 H1 y s1 r1 b1 => ?_⟩
    show ∃ a v, y = .ref a ∧ DGet H1 a (.str x) (some v) ∧ Q v H1
    cases g' with
    | none => cases m3
    | some st =>
      simp only [dkGetV] at m3
      split at m3
      · rename_i ht
        cases m3
        obtain ⟨d, l, e1, e2, e3, e4, e5, e6, e7⟩ := dk_of_tok r1 b1 ht
        cases t with
        | true =>
          have z := DGet.k (k := .inr x) e7
          rw [val_3 n hx] at z
          exact ⟨d, _, e2, z, q F1 H1 _ s1 r1 rel_int⟩
        | false =>
          have hx : C.n2 = x := Option.some.inj hx
          subst hx
          have z := DGet.k (k := .inr C.n2) e7
          rw [val_2 n] at z
          exact ⟨d, _, e2, z, q F1 H1 _ s1 r1 rel_int⟩
      · cases m3⟩
def tDkl (C : Ct) (Ow : List Nat) (m : Mv) : TE := fun σ H Q => ∃ T F σe g v st, R C Ow T F σe g σ H ∧ m σe g = .ok v (some st) ∧ isTok 0 v = true ∧
  ∀ F' H' d l, Fsub F F' → R C Ow T F' σe (some st) σ H' → F'.dk = some (d, l) → d ≠ l → F'.h d = none → F'.h l = none → H' l = some (.lst (st.cells.map V.int)) → H' d = some (.dK (dkL C l st)) → Q (.ref l) H'
theorem pe_dkl {x : Str} {j : Nat} (hu : X.A.units + 1 < cLine) (hx : C.n1 = x) (ha : Eb X C Ow a ia) (hs : NoSl (.Constant (.str x) j kp)) :
    PE X (.Subscript a (.Constant (.str x) j kp) pos) (tDkl C Ow (ev C.Φ ia)) :=
  pe_con (pe_dget hu ha.run pe_str hs) fun σ H Q ⟨T, F, σe, g, v, st, r, m, ht, q⟩ => ⟨T, F, σe, g, v, _, r, m, fun F1 H1 y s1 r1 b1 => by
    obtain ⟨d, l, e1, e2, e3, e4, e5, e6, e7⟩ := dk_of_tok r1 b1 ht
    have z := DGet.k (k := .inr C.n1) e7
    rw [val_1] at z
    rw [hx] at z
    exact ⟨d, _, e2, z, q F1 H1 d l s1 r1 e1 e3 e4 e5 e6 e7⟩⟩
theorem lay_ints : ∀ ns : List Int, PyData.canLayAll0 (ns.map .int) = true
  | [] => rfl
  | n :: ns => by
    rw [List.map_cons]
    unfold PyData.canLayAll0
    rw [lay_ints ns]; rfl
theorem depth_ints : ∀ ns : List Int, PyData.depthAll (ns.map .int) ≤ 1
  | [] => by rw [List.map_nil]; unfold PyData.depthAll; omega
  | n :: ns => by
    have := depth_ints ns
    rw [List.map_cons]
    unfold PyData.depthAll PyData.depth
    omega
theorem shp_ints (ns : List Int) : SeqAt.shaped (.list (ns.map .int)) = true := by
  have := depth_ints ns
  unfold SeqAt.shaped PyData.canLay0 PyData.depth
  rw [lay_ints ns, Bool.true_and]
  exact decide_eq_true (by omega)
theorem neq_nil {K : PySem.W.Frag} {H : Hp} {a : Addr} {p : Addr} {ns : List Int} {Q : V → Hp → Prop} (h : H a = some (.lst (ns.map V.int))) (h2 : H p = some (.lst [])) (q : Q (.bl (!ns.isEmpty)) H) : rNeD K (.ref a) (.ref p) H Q := by
  refine ⟨.list (ns.map .int), .list [], .lst (SqL.of h) ?_, .lst (SqL.of h2) .nil, ?_, rfl, ?_⟩
  · exact dpAll_of (F := ⟨H, none, (none, [], false, [])⟩) (Same.refl _) _ _ (lay_ints ns) (relL_ints ns)
  · exact shp_ints ns
  · have e : PyData.eqv (.list (ns.map .int)) (.list []) = ns.isEmpty := by
      cases ns with
      | nil => rfl
      | cons n ns => rfl
    rw [e]; exact q
theorem Et.dkHas {x : Str} {j : Nat} {p1 p2 : Pos} (hu : X.A.units + 65 < cLine) (hx : C.n1 = x) (ha : Eb X C Ow a ia) (hs : NoSl (.Constant (.str x) j kp)) : Et X C Ow (.Compare (.Subscript a (.Constant (.str x) j kp) p1) [.NotEq] [.List [] p2] pos) (.dkHas ia) :=
  ⟨pt_con (pt_cmpR (op_neD (by omega)) (pe_dkl (by omega) hx ha hs) (pe_lst pa_nil) rfl) fun σ H Q ⟨T, F, σe, g, b, g', r, m, q⟩ => by
    unfold ev at m
    obtain ⟨d0, g1, m1, m2⟩ := bind_eq_ok m
    obtain ⟨m3, e3⟩ := lift_eq_ok m2
    subst e3
    cases g' with
    | none => cases m3
    | some st =>
      simp only [dkHasV] at m3
      split at m3
      · rename_i ht
        cases m3
        refine ⟨T, F, σe, g, d0, st, r, m1, ht, fun F1 H1 d l s1 r1 e1 e3 e4 e5 e6 e7 => ⟨by rw [sizeLine_eq]; exact Nat.zero_le _, fun p n => neq_nil ((upd_ne (ne_of_none e6 n)).trans e6) upd_same ?_⟩⟩
        exact ⟨_, rfl, q F1 _ s1 (r1.grown n)⟩
      · cases m3⟩
theorem Es.dkPop {x : Str} {j : Nat} {p1 : Pos} (hu : X.A.units + 1 < cLine) (n : DkN C) (hx : C.n1 = x) (ha : Eb X C Ow a ia) (hs : NoSl (.Constant (.str x) j kp))
    (hbase : attributeBase (.Subscript a (.Constant (.str x) j kp) p1) "pop" X.env (eval (.Subscript a (.Constant (.str x) j kp) p1) X.env) = eval (.Subscript a (.Constant (.str x) j kp) p1) X.env)
    (hline : (apos.endLine == pos.line) = true) :
    Es X C Ow (.Call (.Attribute (.Subscript a (.Constant (.str x) j kp) p1) "pop" apos) [] [] pos) (.dkPop ia) :=
  ⟨pe_con (pe_bm0 PySem.F.plainAttrs_list PySem.F.slot_list_pop PySem.F.type_list_pop (by exact mt_pop) (pe_dkl (by omega) hx ha hs) hbase hline) fun σ H Q ⟨T, F, σe, g, v, g', r, m, q⟩ => by
    unfold ev at m
    obtain ⟨d0, g1, m1, m2⟩ := bind_eq_ok m
    cases g1 with
    | none => cases m2
    | some st =>
      simp only [dkPopV] at m2
      split at m2
      · rename_i ht
        split at m2
        · rename_i c hc
          cases m2
          refine ⟨T, F, σe, g, d0, st, r, m1, ht, fun F1 H1 d l s1 r1 e1 e3 e4 e5 e6 e7 => ⟨.inl ⟨rfl, _, SqL.of e6⟩, l, _, .int c, rfl, rfl, e6, ?_, ?_⟩⟩
          · rw [List.length_map, List.getElem?_map, ← List.getLast?_eq_getElem?, hc]; rfl
          · refine q F1 _ _ s1 (r1.deck (st' := { st with cells := st.cells.dropLast }) e1 e3 e4 e5 (fun b h1 h2 => upd_ne h2) (by rw [upd_same, List.map_dropLast]) ((upd_ne e3).trans e7)) rel_int
        · cases m2
      · cases m2⟩
theorem Es.dkPush {x : Str} {j : Nat} {p1 : Pos} (hu : X.A.units + 1 < cLine) (n : DkN C) (hx : C.n1 = x) (ha : Eb X C Ow a ia) (he : Es X C Ow e i) (hs : NoSl (.Constant (.str x) j kp)) (hX : X.K = C.K)
    (hbase : attributeBase (.Subscript a (.Constant (.str x) j kp) p1) "append" X.env (eval (.Subscript a (.Constant (.str x) j kp) p1) X.env) = eval (.Subscript a (.Constant (.str x) j kp) p1) X.env)
    (hfew : ((backTo pos (starEach [e] X.env)).all (fun x => !x.1) && (backToKw pos (keywordEach [] X.env)).all (fun x => x.1.isSome) && decide (([e] : List Expr).length + ([] : List Keyword).length + (if ([] : List Keyword).isEmpty then 0 else 1) < 30)) = true)
    (hline : (apos.endLine == pos.line) = true) (hst : starEach [e] X.env = (false, eval e X.env) :: starEach [] X.env) (hpl : (backTo pos (starEach [] X.env)).any (·.1) = false) :
    Es X C Ow (.Call (.Attribute (.Subscript a (.Constant (.str x) j kp) p1) "append" apos) [e] [] pos) (.dkPush ia i) :=
  ⟨pe_con (pe_bm PySem.F.plainAttrs_list PySem.F.slot_list_append PySem.F.type_list_append (by exact mt_append) (pe_dkl (by omega) hx ha hs) (pa_cons he.run pa_nil hst) hbase hfew hline hst hpl) fun σ H Q ⟨T, F, σe, g, v, g', r, m, q⟩ => by
    unfold ev at m
    obtain ⟨d0, g1, m1, m2⟩ := bind_eq_ok m
    cases g1 with
    | none => cases m2
    | some st1 =>
    obtain ⟨v1, g2, m3, m4⟩ := bind_eq_ok m2
    cases g2 with
    | none => cases m4
    | some st =>
      simp only [dkPushV] at m4
      split at m4
      · rename_i ht
        simp only [Bool.and_eq_true, decide_eq_true_eq] at ht
        split at m4
        · rename_i v0 c
          cases m4
          refine ⟨T, F, σe, g, d0, st1, r, m1, ht.1, fun F1 H1 d l s1 r1 e1 e3 e4 e5 e6 e7 => ⟨.inl ⟨rfl, _, SqL.of e6⟩, T, F1, σe, _, _, _, r1, m3, fun F2 H2 y s2 r2 h2 => ?_⟩⟩
          obtain ⟨d', l', z1, z2, z3, z4, z5, z6⟩ := r2.dk.dd
          rw [s2.dk _ e1] at z1
          cases z1
          have hy : y = .int c := by unfold Rel at h2; exact h2
          subst hy
          refine ⟨l, _, _, rfl, rfl, z5, ?_, ?_⟩
          · rw [List.length_map]; exact lineN_lt ht.2
          · refine q F2 _ _ (s1.trans s2) (r2.deck (st' := { st with cells := st.cells ++ [c] }) (s2.dk _ e1) e3 z3 z4 (fun b h1 h2 => upd_ne h2) (by rw [upd_same, List.map_append]; rfl) ((upd_ne e3).trans z6)) rel_non
        · cases m4
      · cases m4⟩
theorem Ss.dkSet {x : Str} {j : Nat} {p1 : Pos} (t : Bool) (hu : X.A.units + 1 < cLine) (n : DkN C) (hx : (if t then C.n3 else some C.n2) = some x) (ha : Eb X C Ow a ia) (he : Es X C Ow e i)
    (hs : swapsWith e (some (.Subscript a (.Constant (.str x) j kp) p1)) pos.line X.env = pure false) :
    Ss X C W Ow Ow OwL (.Assign [.Subscript a (.Constant (.str x) j kp) p1] e pos) (.dkSet t ia i) :=
  ⟨ps_con (ps_dput hu ha.run pe_str he.run hs) fun D σ H ⟨T, F, σe, g, fl, g', r, m, q⟩ => by
    unfold Pv.run at m
    obtain ⟨v, g1, m1, m2⟩ := bind_eq_ok m
    obtain ⟨d0, g2, m3, m4⟩ := bind_eq_ok m2
    obtain ⟨g4, g5, m6, m7⟩ := bind_eq_ok m4
    obtain ⟨m8, e8⟩ := lift_eq_ok m6
    cases m7
    refine ⟨T, F, σe, g, v, g1, r, m1, fun F1 H1 y s1 r1 h1 => ⟨T, F1, σe, g1, d0, _, r1, m3, fun F2 H2 z s2 r2 b2 => ?_⟩⟩
    cases g2 with
    | none => cases m8
    | some st =>
      simp only [dkSetV] at m8
      split at m8
      · rename_i ht
        split at m8
        · rename_i c
          cases m8
          obtain ⟨d, l, e1, e2, e3, e4, e5, e6, e7⟩ := dk_of_tok r2 b2 ht
          have hy : y = .int c := by unfold Rel at h1; exact h1
          subst hy
          subst e2
          have hl := dkL_len (C := C) (l := l) (st := st)
          show ∃ a H4, V.ref d = .ref a ∧ DPut H2 a (.str x) (.int c) H4 ∧ D.nx σ H4
          refine ⟨d, _, rfl, DPut.k (k := .inr x) e7 (by rw [sizeLine_eq]; omega), ?_⟩
          cases t with
          | true =>
            rw [put_3 n hx]
            exact q F2 _ _ (s1.trans s2) (r2.deck (st' := { st with turn := c }) e1 e3 e4 e5 (fun b h1 h2 => upd_ne h1) ((upd_ne (Ne.symm e3)).trans e6) upd_same)
          | false =>
            have hx : C.n2 = x := Option.some.inj hx
            subst hx
            rw [put_2 n]
            exact q F2 _ _ (s1.trans s2) (r2.deck (st' := { st with mixed := c }) e1 e3 e4 e5 (fun b h1 h2 => upd_ne h1) ((upd_ne (Ne.symm e3)).trans e6) upd_same)
        · cases m8
      · cases m8⟩
theorem Ef.lrev {k : Nat} {p1 p2 p3 : Pos} (hK : X.K = C.K) (ha : Eb X C Ow a ia) : Ef X C Ow (.Subscript a (.Slice none none (some (.UnaryOp .USub (.Constant (.int 1) k p1) p2)) p3) pos) (.lrev ia) :=
  ⟨pe_con (pe_revL ha.run) fun σ H Q ⟨T, F, σe, g, v, g', r, m, q⟩ => by
    unfold ev at m
    obtain ⟨va, g1, m1, m2⟩ := bind_eq_ok m
    cases va with
    | list ds =>
      cases m2
      refine ⟨T, F, σe, g, _, _, r, m1, fun F1 H1 y s1 r1 b1 => ?_⟩
      obtain ⟨p, vs, rfl, h1, h2⟩ := r1.sh b1
      exact ⟨p, vs, rfl, SqL.of h1, fun p n => q F1 _ _ s1 (r1.grown n) (new_of r1 n ⟨_, upd_same, h2.reverse⟩)⟩
    | _ => cases m2⟩
theorem Es.scr {p1 p2 : Pos} {j : Nat} {a0 : Addr} {ns : List Int} (n : Nat) (hK : X.K = C.K) (hc : C.sc.1 = some (a0, ns)) (ha : Es X C Ow a ia) : Es X C Ow (.Subscript a (.Slice none (some (.Constant (.int n) j p1)) none p2) pos) (.scr ia ns n) :=
  ⟨pe_con (pe_slice sl_list ha.run po_none (po_some (pe_int (i := n)))) fun σ H Q ⟨T, F, σe, g, v, g', r, m, q⟩ => by
    unfold ev at m
    obtain ⟨va, g1, m1, m2⟩ := bind_eq_ok m
    split at m2
    · rename_i ht
      have e := of_isTok ht
      subst e
      cases m2
      refine ⟨T, F, σe, g, _, _, r, m1, fun F1 H1 y s1 r1 b1 => ?_⟩
      obtain ⟨a2, ns2, z1, z2, z3⟩ := rel_tok1 b1
      rw [r1.sc, hc] at z1
      cases z1
      refine ⟨n, rfl, _, _, z2, hK ▸ sqL_mono r1.sub z3, fun p hn => ?_⟩
      refine q (F1.put p _) _ _ (s1.trans (Fsub.put (r1.fn hn))) (r1.laid hn) (rel_lst (r1.fn hn) ?_)
      have h := cut_rel (relL_ints (K := C.K) (F := F1) ns) none (some (n : Int))
      have e : cutD (ns.map .int) none (some (n : Int)) = (ns.take n).map .int := by
        unfold cutD
        rw [HT.sIx_none, HT.sIx_nat, List.drop_zero, List.length_map, Nat.sub_zero, List.map_take]
        by_cases z : n ≤ ns.length
        · rw [Nat.min_eq_left z]
        · rw [Nat.min_eq_right (by omega), List.take_of_length_le (by rw [List.length_map]; omega), List.take_of_length_le (by rw [List.length_map]; omega)]
      rw [e] at h
      exact h
    · cases m2⟩
theorem R.holdN {T : Hp} {F : Fz} {σe : Sl} {g : G} {σ : L2.St} {H : Hp} {v : D} {p : Addr} {o : HO} (r : R C Ow T F σe g σ H) (n : New C Ow T F σe σ H v p) (e : H p = some o) : R C Ow (upd T p o) F σe g σ H :=
  ⟨r.sub, r.sc, r.grow, r.new, r.keep, r.dnew, r.len, r.fz, r.ow, r.inj, r.dk, fun a u q => by
    by_cases z : a = p
    · subst z
      rw [upd_same] at q
      cases q
      exact ⟨e, n.h0, n.fn, n.nd, n.no⟩
    · rw [upd_ne z] at q
      exact r.hold a u q, r.slf, r.xf, r.tups⟩
theorem R.newDeck {T : Hp} {F : Fz} {σe : Sl} {σ : L2.St} {H : Hp} {d l : Addr} {st : Dk} {o : HO} (r : R C Ow (upd (upd T d o) l (.lst (st.cells.map V.int))) F σe none σ H) (rT : T d = none) (rl : T l = none) (ne : d ≠ l) :
    R C Ow T { F with dk := some (d, l) } σe (some st) σ (upd H d (.dK (dkL C l st))) ∧ Fsub F { F with dk := some (d, l) } := by
  have dk0 : F.dk = none := r.dk.dd
  obtain ⟨e1, e2, e3, e4, e5⟩ := r.hold d o ((upd_ne ne).trans upd_same)
  obtain ⟨f1, f2, f3, f4, f5⟩ := r.hold l _ upd_same
  have fs : Fsub F { F with dk := some (d, l) } := ⟨Same.refl _, (fun p h => by rw [dk0] at h; cases h), rfl⟩
  have isd : ∀ {a}, ¬ F.isDk a → a ≠ d → a ≠ l → ¬ Fz.isDk { F with dk := some (d, l) } a := fun {a} z0 z1 z2 z => by
    rcases z with ⟨x, y, q, q2⟩ | ⟨q, m⟩
    case inr => exact z0 (.inr ⟨q, m⟩)
    cases q
    rcases q2 with q2 | q2
    · exact z1 q2
    · exact z2 q2
  refine ⟨⟨fun a u q => ?_, r.sc, r.grow.trans fs, r.new, fun a u q => ?_, fun a b q => ?_, r.len, fun i v q n => ?_, fun i v q hi => ?_, r.inj, ⟨⟨d, l, rfl, ne, e3, f3, (upd_ne (Ne.symm ne)).trans f1, upd_same⟩, r.dk.tb.move fs (fun P q m => upd_ne fun z => e4 (.inr ⟨q, by rw [← z]; exact m⟩)) fun P q m => (r.dk.tb P q m).1⟩, fun a u q => ?_, r.slf, r.xfm fs, (r.tups.putN (by intro _ z; cases z)).mono fs⟩, fs⟩
  · have z : a ≠ d := fun z => by
      rw [z] at q
      rw [show F.h d = none from e3] at q
      cases q
    rw [upd_ne z]
    exact r.sub a u q
  · rcases r.keep a u q with z | z
    · exact .inl (fs.isDk z)
    · have z1 : a ≠ d := fun y => by
        rw [y, e2] at q
        cases q
      exact .inr ((upd_ne z1).trans z)
  · cases q
    exact .inr ⟨e2, f2⟩
  · obtain ⟨x, z1, z2⟩ := r.fz i v q n
    exact ⟨x, z1, z2.mono fs _ _⟩
  · obtain ⟨a, z1, z2, z3, z4, z5⟩ := r.ow i v q hi
    have q1 : a ≠ d := fun y => e5 i v hi q (y ▸ z1)
    have q2 : a ≠ l := fun y => f5 i v hi q (y ▸ z1)
    exact ⟨a, z1, z2.move fs fun u z => (upd_ne q1).trans z, z3, z4, isd z5 q1 q2⟩
  · have q1 : a ≠ d := fun y => by
      rw [y, rT] at q
      cases q
    have q2 : a ≠ l := fun y => by
      rw [y, rl] at q
      cases q
    obtain ⟨y1, y2, y3, y4, y5⟩ := r.hold a u ((upd_ne q2).trans ((upd_ne q1).trans q))
    exact ⟨(upd_ne q1).trans y1, y2, y3, isd y4 q1 q2, y5⟩
theorem ints_of_some : ∀ {xs : List D} {ns : List Int}, intsOf xs = some ns → xs = ns.map .int
  | [], ns, h => by cases h; rfl
  | .int i :: xs, ns, h => by
    unfold intsOf at h
    obtain ⟨ms, h1, h2⟩ := map_some h
    subst h2
    rw [ints_of_some h1]; rfl
  | .none :: ds, ns, e => by cases e
  | .bool _ :: ds, ns, e => by cases e
  | .str _ :: ds, ns, e => by cases e
  | .list _ :: ds, ns, e => by cases e
  | .tuple _ :: ds, ns, e => by cases e
  | .dict _ :: ds, ns, e => by cases e
theorem Es.dkNew {x1 x2 x3 : Str} {j1 j2 j3 : Nat} {p1 p2 p3 : Pos} (n : DkN C) (h1 : C.n1 = x1) (h2' : C.n2 = x2) (h3' : C.n3 = some x3) (ha : Ef X C Ow a ia) (hb : Es X C Ow b ib) (hc : Es X C Ow c ic) :
    Es X C Ow (.Dict [some (.Constant (.str x1) j1 p1), some (.Constant (.str x2) j2 p2), some (.Constant (.str x3) j3 p3)] [a, b, c] pos) (.dkNew ia ib ic) :=
  ⟨pe_con (pe_disp (pps_cons pe_str ha.run (pps_cons pe_str hb.run (pps_cons pe_str hc.run pps_nil))) rfl rfl (by simp) (Nat.le_of_ble_eq_true rfl)) fun σ H Q ⟨T, F, σe, g, v, g', r, m, q⟩ => by
    unfold ev at m
    obtain ⟨va, g1, m1, m2⟩ := bind_eq_ok m
    obtain ⟨vb, g2, m3, m4⟩ := bind_eq_ok m2
    obtain ⟨vc, g3, m5, m6⟩ := bind_eq_ok m4
    unfold dkNewV at m6
    split at m6
    · split at m6
      · rename_i xs mx tn
        split at m6
        · rename_i ns hi
          cases m6
          have e := ints_of_some hi
          subst e
          intro p hp
          have rT := r.tn hp
          refine ⟨upd T p (.dK []), F, σe, g, _, _, r.take hp, m1, fun F1 H1 y s1 r1 n1 => ?_⟩
          obtain ⟨vs, l1, l2⟩ := n1.at_
          have l3 := l2.ints hi
          subst l3
          have nt := n1.nt
          have ne : p ≠ y := fun z => by
            rw [z, upd_same] at nt
            cases nt
          have rl : T y = none := by
            rw [upd_ne (Ne.symm ne)] at nt
            exact nt
          refine ⟨_, F1, σe, g1, _, _, r1.holdN n1 l1, m3, fun F2 H2 y2 s2 r2 h2 => ⟨_, F2, σe, _, _, _, r2, m5, fun F3 H3 y3 s3 r3 h3 => ?_⟩⟩
          have e2 : y2 = .int mx := by unfold Rel at h2; exact h2
          have e3 : y3 = .int tn := by unfold Rel at h3; exact h3
          subst e2; subst e3
          obtain ⟨z1, z2⟩ := R.newDeck (st := ⟨ns, mx, tn⟩) r3 rT rl ne
          refine ⟨(r3.hold p _ ((upd_ne ne).trans upd_same)).1, [(.inr x1, .ref y), (.inr x2, .int mx), (.inr x3, .int tn)], rfl, Nat.le_of_ble_eq_true rfl, ?_⟩
          have em : mergeK [] [(.inr x1, V.ref y), (.inr x2, .int mx), (.inr x3, .int tn)] = dkL C y ⟨ns, mx, tn⟩ := by
            subst h1; subst h2'
            obtain ⟨b1, b2⟩ := n.b x3 h3'
            unfold mergeK dkL
            rw [h3']
            simp [putK, n.a, Ne.symm n.a, b1, b2, Ne.symm b1, Ne.symm b2]
          rw [em]
          exact q _ _ _ (s1.trans (s2.trans (s3.trans z2))) z1 (by unfold tokD Rel; exact .inl ⟨rfl, .inl ⟨p, y, rfl, rfl, rfl⟩⟩)
        · cases m6
      · cases m6
    · cases m6⟩
end
end Pv
end

section
set_option autoImplicit false
namespace Pv
open PySem PySem.Spec PyProof.Rows L2

section
variable {X : Cx} {C : Ct} {W : WX} {Ow Ow' OwL : List Nat} {tg e a b : Expr} {i ia ib : Ex} {is : Exs} {pos : Pos}
theorem Ss.ownLc {elt iter : Expr} {ifs : List Expr} {scope : Scope} {own : List (Str × Nat)} {t : List Nat} {k : Ik} {cond ei : Ex} {y : Str} {py spos : Pos} (n : Nat) (hc : X.calm = true) (hN : X.N.Nodup) (hy : X.N[n]? = some y) (hyl : X.env.scope.names.lookup y = some .local)
    (hsw : swapsWith (.ListComp elt [⟨tg, iter, ifs, 0⟩] scope pos) (some (.Name y py)) spos.line X.env = pure true) (hi : Ei X C Ow tg iter k is) (ok : BlkOk X.N X.env.scope scope own) (hown : own.map (·.2) = t)
    (hg : ∀ (s : Shared) (H : Hp) (A : Addr) (cl : List (Str × Addr)) (fp : List Addr), Eg (X.blk s H scope (compEnvC scope cl A X.env) fp) C Ow tg t)
    (ht : ∀ (s : Shared) (H : Hp) (A : Addr) (cl : List (Str × Addr)) (fp : List Addr), Ec (X.blk s H scope (compEnvC scope cl A X.env) fp) C Ow ifs cond)
    (he : ∀ (s : Shared) (H : Hp) (A : Addr) (cl : List (Str × Addr)) (fp : List Addr), Es (X.blk s H scope (compEnvC scope cl A X.env) fp) C Ow elt ei)
    (hs : ∀ x, foldedSetIterable iter X.env x = pure x) (hno : ∀ i ∈ t, i ∉ Ow) (hsl : SlfOk C n) :
    Ss X C W Ow (n :: Ow) OwL (.Assign [.Name y py] (.ListComp elt [⟨tg, iter, ifs, 0⟩] scope pos) spos) (.set [n] (.comp t k is cond ei)) :=
  ⟨ps_con (ps_setLc hc hN hy hyl hsw hi.run ok (fun s H A cl fp => (hg s H A cl fp).run) (fun s H A cl fp => (ht s H A cl fp).run) (fun s H A cl fp => (he s H A cl fp).run) hs) fun D σ H ⟨T, F, σe, g, fl, g', r, m, q⟩ => by
    unfold Pv.run at m
    obtain ⟨v, g1, m1, m2⟩ := bind_eq_ok m
    cases m2
    rw [hown]
    exact lc_run hno ⟨T, F, σe, g, v, _, r, m1, fun F1 H1 a s1 r1 h1 => q F1 _ H1 s1 (r1.own hsl h1)⟩⟩

theorem Et.hasN [KtOff C] (hK : X.K = C.K) (hu : X.A.units + 1 < cLine) (ha : Eb X C Ow a ia) (hb : Eb X C Ow b ib) (h1 : behindInMarks .NotIn b = false) : Et X C Ow (.Compare a [.NotIn] [b] pos) (.dhas ia ib true) :=
  ⟨pt_con (pt_cmp (Et.dhasN hK hu ha hb) h1) fun σ H Q ⟨T, F, σe, g, v, g', r, m, q⟩ => ⟨T, F, σe, g, _, _, r, m, fun F1 H1 x s1 r1 hx => ⟨v, by unfold Rel at hx; exact hx, q F1 H1 s1 r1⟩⟩⟩
theorem Eo.int (h : Eb X C Ow e i) : Eo X C Ow (Option.some e) (.asI i) := ⟨po_con (po_some h.run) fun σ H Q ⟨T, F, σe, g, v, g', oi, r, m, eo, q⟩ => by
  unfold ev at m
  obtain ⟨x, g1, m1, m2⟩ := bind_eq_ok m
  cases x with
  | int j =>
    cases m2
    cases eo
    exact ⟨T, F, σe, g, _, _, r, m1, fun F1 H1 y s1 r1 b1 => ⟨j, r1.sh b1, q F1 H1 s1 r1⟩⟩
  | _ => cases m2⟩
inductive RelP (K : PySem.W.Frag) (F : Fz) : List D → List (V × V) → Prop
  | nil : RelP K F [] []
  | cons {k d : D} {ds : List D} {x y : V} {ps : List (V × V)} (hk : Rel K F k x) (hd : Rel K F d y) (h : RelP K F ds ps) : RelP K F (k :: d :: ds) ((x, y) :: ps)
structure Ep (X : Cx) (C : Ct) (Ow : List Nat) (pos : Pos) (keys : List (Option Expr)) (vals : List Expr) (is : Exs) : Prop where
  run : ∃ trs, PPs X pos keys vals trs ∧ ∀ (σ : L2.St) (H : Hp) (Q : List (V × V) → Hp → Prop), (∃ T F σe g vs g', R C Ow T F σe g σ H ∧ evs C.Φ is σe g = .ok vs g' ∧ ∀ F' H' ps, Fsub F F' → R C Ow T F' σe g' σ H' → RelP C.K F' vs ps → Q ps H') → tPairs trs σ H Q
theorem Room.u65 {k : Nat} {A : Around} (r : Room k A) : A.units + 65 < cLine := by
  have := r.un
  have e : cLine = 9900 := rfl
  omega
theorem Room.u70 {k : Nat} {A : Around} (r : Room k A) : A.units + 70 < cLine := by
  have := r.un
  have e : cLine = 9900 := rfl
  omega
theorem Room.u1 {k : Nat} {A : Around} (r : Room k A) : A.units + 1 < cLine := by
  have := r.un
  have e : cLine = 9900 := rfl
  omega
theorem kb_of {K : PySem.W.Frag} {x qual : Str} {st : Stmt} {f : Addr} {fd : FuncData} {ps ks : List Str} {n : Nat} {perm : List Nat} (F : Fun K x qual st f fd)
    (h : ∀ (kV doc pm : Value) (an : Option Addr) (cdv ct : Value) (us ws : List Value), us.length = n → ws.length = ks.length → bindArgs (PySem.W.fnOf x qual (defArgs st) (defBody st) (defScope st) .none kV doc pm an cdv ct) ⟨us, ks.zip ws⟩ = pure (ps.zip (Pv.pm perm (us ++ ws)))) : KB K fd ps ks n perm := by
  obtain ⟨oc, od, kV, doc, pm, an, cdv, ct, osl, rfl, lk, hcd⟩ := F.ex
  exact ⟨fun s us ws _ h1 h2 => .of_eq (h kV doc pm an cdv ct us ws h1 h2)⟩
abbrev Ct.at (C : Ct) (H : Hp) (F0 : Fz) (Φ : Fns) : Ct := { C with H0 := H, F0 := F0, Φ := Φ, fu := fuel, slf := none, xf := none }
abbrev Ct.atI (C : Ct) (H : Hp) (F0 : Fz) (Φ : Fns) (x : Addr) : Ct := { C with H0 := H, F0 := F0, Φ := Φ, fu := fuel, slf := some (0, x), xf := none }
structure Dc (C : Ct) (n1 n2 : Str) (n3 : Option Str) (a : Addr) (ns : List Int) (cl : List (Addr × List Str)) (xc : List (Addr × Option Str)) (kt : Bool) (tb : List (Addr × Str)) : Prop where
  n1 : C.n1 = n1
  n2 : C.n2 = n2
  n3 : C.n3 = n3
  sc : C.sc.1 = some (a, ns)
  cl : C.sc.2.1 = cl
  xc : C.xc = xc
  kt : C.sc.2.2.1 = kt
  tb : C.sc.2.2.2 = tb
end
end Pv
end

section
set_option autoImplicit false
namespace Pv
open PySem PySem.Spec PyProof.Rows L2
section
variable {X : Cx} {C : Ct} {W : WX} {Ow Ow' OwL : List Nat} {e a b c : Expr} {es : List Expr} {i ia ib ic : Ex} {is : Exs} {pos p apos np pos' tpos : Pos} {x : Str} {n : Nat}
def rGetL (K : PySem.W.Frag) : V → V → Hp → VK → Prop := fun o i H Q => ∃ p xs j v, o = .ref p ∧ i = .int j ∧ SqL K H p xs ∧ L2.atI xs j = some v ∧ Q v H
end
end Pv
end

section
set_option autoImplicit false
namespace Pv
open PySem PySem.Spec PyProof.Rows L2

structure ClsOk (K : PySem.W.Frag) (cl : List (Addr × List Str)) : Prop where
  cls : ∀ Cn ∈ cl, Cls K Cn.1
  att : ∀ Cn ∈ cl, ∀ f ∈ Cn.2, NoAttr K Cn.1 f
section
variable {K : PySem.W.Frag} {F : Fz} {H : Hp}
theorem val_fs (f : Str) : ∀ fs : List (Str × V), valV (fs.map fun p => ((.inr p.1, p.2) : Key × V)) (.inr f) = fs.lookup f
  | [] => rfl
  | (g, v) :: fs => by
    have ih := val_fs f fs
    unfold valV at ih ⊢
    rw [List.map_cons, List.find?_cons, List.lookup_cons]
    by_cases h : g = f
    · subst h; simp
    · rw [decide_eq_false (fun z => h (Sum.inr.inj z)), show (f == g) = false from by simpa using fun z => h z.symm]
      exact ih
theorem lookup_mem {f : Str} {v : V} : ∀ {fs : List (Str × V)}, fs.lookup f = some v → (f, v) ∈ fs
  | [], h => by cases h
  | (g, u) :: fs, h => by
    rw [List.lookup_cons] at h
    by_cases e : f == g
    · rw [e] at h
      cases h
      have := beq_iff_eq.mp e
      subst this
      exact List.mem_cons_self
    · rw [show (f == g) = false by simpa using e] at h
      exact List.mem_cons_of_mem _ (lookup_mem h)
theorem tok_no {n i : Int} {r : List (D × D)} : tokD n ≠ .dict ((.list [.int i], .none) :: r) := by
  intro z
  unfold tokD at z
  injection z with z
  injection z with z _
  injection z with z _
  injection z with z
  cases z
theorem sh_obj {i : Int} {r : List (D × D)} {y : V} (h : Sh K F H (.dict ((.list [.int i], .none) :: r)) y) : ∃ (c : Nat) (Cn : Addr × List Str) (p dx : Addr) (fs : List (Str × V)), i = c ∧ y = .ref p ∧ F.sc.2.1[c]? = some Cn ∧ H p = some (.ins Cn.1 dx fs) ∧ (∀ q ∈ fs, q.1 ∈ Cn.2) ∧ RelKV K F r (fs.map fun p => ((.inr p.1, p.2) : Key × V)) := by
  rcases h with ⟨_, a, rfl, ⟨n, z⟩ | ⟨c, r', Cn, dx, fs, z, z1, z2, z3, z4⟩ | ⟨_, _, z, _⟩ | ⟨_, _, z, _⟩⟩ | ⟨z, _⟩
  · exact (tok_no z).elim
  · injection z with z5 z6
    injection z5 with z5 _
    injection z5 with z5
    injection z5 with z5 _
    injection z5 with z5
    subst z6
    exact ⟨c, Cn, a, dx, fs, z5, rfl, z1, z2, z3, z4⟩
  · cases z
  · cases z
  · cases z
theorem fld_sh {d v : D} {f : Str} {y : V} (h : fldV d f = some v) (hs : Sh K F H d y) : ∃ (Cn : Addr × List Str) (p dx : Addr) (fs : List (Str × V)) (w : V), y = .ref p ∧ Cn ∈ F.sc.2.1 ∧ H p = some (.ins Cn.1 dx fs) ∧ f ∈ Cn.2 ∧ fs.lookup f = some w ∧ Rel K F v w := by
  unfold fldV at h
  split at h
  · obtain ⟨c, Cn, p, dx, fs, _, rfl, z1, z2, z3, z4⟩ := sh_obj hs
    obtain ⟨l1, l2⟩ := look_rel (k := .str f) (kx := .inr f) rfl z4
    obtain ⟨w, e1, e2⟩ := l1 v h
    rw [val_fs] at e1
    exact ⟨Cn, p, dx, fs, w, rfl, List.mem_of_getElem? z1, z2, z3 _ (lookup_mem e1), e1, e2⟩
  · cases h
theorem isOb_eq {c : Nat} {d : D} (h : isOb c d = true) : ∃ r, d = .dict ((.list [.int c], .none) :: r) := by
  unfold isOb at h
  split at h
  · rw [of_decide_eq_true h]; exact ⟨_, rfl⟩
  · cases h
theorem lookup_no {m : Str} {nm : List Str} {fs : List (Str × V)} (h : ∀ q ∈ fs, q.1 ∈ nm) (n : nm.contains m = false) : fs.lookup m = none := by
  cases e : fs.lookup m with
  | none => rfl
  | some v =>
    have := h _ (lookup_mem e)
    have : nm.contains m = true := by simpa using this
    rw [n] at this; cases this
theorem fput_rel {f : Str} {d : D} {v : V} (h : Rel K F d v) : ∀ {r : List (D × D)} {fs : List (Str × V)}, RelKV K F r (fs.map fun p => ((.inr p.1, p.2) : Key × V)) → RelKV K F (fPut f d r) ((L2.putF f v fs).map fun p => ((.inr p.1, p.2) : Key × V))
  | [], fs, q => by
    unfold RelKV at q
    have : fs = [] := List.map_eq_nil_iff.mp q
    subst this
    unfold fPut L2.putF RelKV
    exact ⟨.inr f, v, [], rfl, rfl, h, by unfold RelKV; rfl⟩
  | (k, d0) :: r, fs, q => by
    unfold RelKV at q
    obtain ⟨kv, w, kr, e, e1, e2, e3⟩ := q
    cases fs with
    | nil => cases e
    | cons p fs =>
      obtain ⟨g, u⟩ := p
      rw [List.map_cons] at e
      injection e with e4 e5
      injection e4 with e4 e6
      subst e4; subst e5; subst e6
      have ke : keq k (.str f) = decide (g = f) := by
        rw [keq_of e1 (kx := .inr f) rfl]
        by_cases z : g = f
        · subst z; simp
        · rw [decide_eq_false z, decide_eq_false fun y => z (Sum.inr.inj y)]
      unfold fPut L2.putF
      rw [ke]
      by_cases z : g = f
      · rw [decide_eq_true z, if_pos rfl, if_pos z, List.map_cons]
        unfold RelKV
        exact ⟨_, v, _, rfl, e1, h, e3⟩
      · rw [decide_eq_false z, if_neg Bool.false_ne_true, if_neg z, List.map_cons]
        unfold RelKV
        exact ⟨_, u, _, rfl, e1, e2, fput_rel h e3⟩
theorem putF_names {f : Str} {v : V} {nm : List Str} (hf : f ∈ nm) : ∀ {fs : List (Str × V)}, (∀ q ∈ fs, q.1 ∈ nm) → ∀ q ∈ L2.putF f v fs, q.1 ∈ nm
  | [], _, q, h => by
    unfold L2.putF at h
    rw [List.mem_singleton] at h
    subst h; exact hf
  | (g, u) :: fs, h0, q, h => by
    unfold L2.putF at h
    split at h
    · rcases List.mem_cons.mp h with rfl | h
      · exact h0 (g, u) List.mem_cons_self
      · exact h0 q (List.mem_cons_of_mem _ h)
    · rcases List.mem_cons.mp h with rfl | h
      · exact h0 _ List.mem_cons_self
      · exact putF_names hf (fun q z => h0 q (List.mem_cons_of_mem _ z)) q h
end
section
variable {X : Cx} {C : Ct} {W : WX} {Ow Ow' OwL : List Nat} {e a b c o : Expr} {es : List Expr} {i ia ib ic io : Ex} {is : Exs} {pos p apos np pos' : Pos} {x : Str} {n : Nat}
theorem Es.fld {f : Str} (hc : ClsOk X.K C.sc.2.1) (ha : Eb X C Ow a ia) (hb : attributeBase a f X.env (eval a X.env) = eval a X.env) : Es X C Ow (.Attribute a f pos) (.fld ia f) :=
  ⟨pe_con (pe_fld ha.run hb) fun σ H Q ⟨T, F, σe, g, v, g', r, m, q⟩ => by
    unfold ev at m
    obtain ⟨d, g1, m1, m2⟩ := bind_eq_ok m
    obtain ⟨m3, e3⟩ := lift_eq_ok m2
    subst e3
    refine ⟨T, F, σe, g, d, _, r, m1, fun F1 H1 y s1 r1 b1 => ?_⟩
    obtain ⟨Cn, p, dx, fs, w, rfl, z1, z2, z3, z4, z5⟩ := fld_sh m3 (r1.sh b1)
    rw [r1.sc] at z1
    exact ⟨p, Cn.1, dx, fs, w, rfl, z2, hc.cls Cn z1, hc.att Cn z1 f z3, z4, q F1 H1 w s1 r1 z5⟩⟩
variable {CX : CXT} {E : XK} {k : Nat} {f Ca : Addr} {nm : List Str} {fd : FuncData} {ps : List Str} {m : Str}
theorem Es.meth0 {pl : Sem Bool} (cn fi : Nat) (hc : C.sc.2.1[cn]? = some (Ca, nm)) (hm0 : nm.contains m = false) (hok : ClsOk X.K C.sc.2.1) (hm : Meth X.K Ca m f) (F : FnG X.prog X.w X.K X.mg X.base CX k f fd ps (spS C (C.Φ fi) ps.length)) (hG : X.A.guards = some []) (hr : Room k X.A) (hb : Binds X.K fd ps []) (hx : Passes CX X E)
    (ho : Es X C Ow o io) (hl : 1 = ps.length)
    (ht : eval (.Call (.Attribute o m apos) [] [] pos) X.env = (do
      let ov ← eval o X.env
      standAt apos.atName
      let (f, first) ← holding [ov] (getMethod ov m pl)
      callWith pos f first (backTo pos (starEach [] X.env)) (backToKw pos (keywordEach [] X.env)))) :
    Es X C Ow (.Call (.Attribute o m apos) [] [] pos) (.meth cn fi io .nil) := by
  have hcl : Cls X.K Ca := hok.cls _ (List.mem_of_getElem? hc)
  refine ⟨⟨fun pins s σ H Q I h => ?_⟩⟩
  obtain ⟨T, F0, σe, g, v, g', r, m0, q⟩ := h
  unfold ev at m0
  obtain ⟨d, g1, m1, m2⟩ := bind_eq_ok m0
  split at m2
  · rename_i hob
    obtain ⟨ds, g2, m3, m4⟩ := bind_eq_ok m2
    unfold evs at m3
    cases m3
    obtain ⟨rr, ed⟩ := isOb_eq hob
    refine PySem.W.methodCall_KW (pl := pl) (thn (ho.run.run pins s σ H (fun x H1 => ∃ a dx fs, x = .ref a ∧ H1 a = some (.ins Ca dx fs) ∧ fs.lookup m = none ∧ spS C (C.Φ fi) ps.length [V.ref a] H1 Q E) I
      ⟨T, F0, σe, g, d, _, r, m1, fun F1 H1 y s1 r1 q1 => ?_⟩) fun u s1 ⟨x, H1, I1, rx, a, dx, fs, ex, ea, l, q⟩ => ?_) ht
    · have q1' := q1
      rw [ed] at q1'
      obtain ⟨c', Cn, p, dx, fs, ec, rfl, z1, z2, z3, z4⟩ := sh_obj (q1'.sh r1.sub)
      have ec : cn = c' := by omega
      subst ec
      rw [r1.sc, hc] at z1
      cases z1
      exact ⟨p, dx, fs, rfl, z2, lookup_no z3 hm0, r1.call (.cons q1 .nil) hl m4 fun F' H' x s3 r3 q3 => q F' H' x (s1.trans s3) r3 q3⟩
    · subst ex
      obtain rfl : u = Value.ref a := rx
      refine getmeth_ok I1 ea hcl hm l ?_
      refine PySem.W.callWith_K0 (first := [.ref a]) I1.kIn hm.kp ?_
      have rv2 : Vals [V.ref a] [Value.ref a] := .cons rfl .nil
      have bt := hb s1 [Value.ref a] I1.kIn hl
      rw [List.append_nil] at bt
      refine wpAny_call (codeAny_mono (run_fnG F hG hr (passAtOf hx) I1 bt rv2 q) fun r s' hq => ?_)
      cases r with
      | error e => exact hq
      | ok fl =>
        cases fl with
        | ret u => exact hq
        | next => exact False.elim hq
        | brk => exact False.elim hq
        | cont => exact False.elim hq
  · cases m2
structure GoesI (C : Ct) (F : Fz) (H : Hp) (x : Addr) (g' : G) (F' : Fz) (H' : Hp) : Prop where
  fs : Fsub F F'
  sub : Same F'.h H'
  nw : ∀ a o, F'.h a = some o → F.h a = none → H a = none ∨ a = x
  kp : ∀ a o, H a = some o → a ≠ x → F'.isDk a ∨ H' a = some o
  dn : ∀ d l, F'.dk = some (d, l) → F.dk = some (d, l) ∨ (H d = none ∧ H l = none)
  dk : DkR C F' g' H'
  tp : TupF F' H'
def spI (C : Ct) (Φ : List D → G → Res D) (cn n : Nat) : Sp := fun vs H Q E => vs.length = n ∧ ∃ x dx us F ds g Cn, vs = .ref x :: us ∧ C.sc.2.1[cn]? = some Cn ∧ H x = some (.ins Cn.1 dx []) ∧ F.h x = none ∧ ¬ F.isDk x ∧ (Same F.h H ∧ TupF F H) ∧ F.sc = C.sc ∧ DkR C F g H ∧ RelL C.K F ds us ∧
  ((∃ v g', Φ (objD cn [] :: ds) g = .ok v g' ∧ ∀ F' H', GoesI C F H x g' F' H' → Rel C.K F' v (.ref x) → Q .non H') ∨
   (∃ c ws g' st, g = some st ∧ Φ (objD cn [] :: ds) g = .exc c ws g' ∧ ∀ F' H' cls d, GoesI C F H x g' F' H' → XR C F' c ws cls d → E cls d H'))
theorem run_makeG {pins : List (Addr × Obj)} {σ : L2.St} {H : Hp} {s : Shared} {Q : VK} {us : List Value} {vs : List V} {sp : Sp} (M : Mk X.K Ca f) (F : FnG X.prog X.w X.K X.mg X.base CX k f fd ps sp) (hG : X.A.guards = some []) (hr : Room (k + 1) X.A) (hb : Binds X.K fd ps []) (hx : PassesAt CX X σ E) (I : Inv X pins σ H s) (r : Vals vs us)
    (h : ∀ x dx, H x = none → H dx = none → dx ≠ x → sp (.ref x :: vs) (upd (upd H dx (.own x)) x (.ins Ca dx [])) (fun v H2 => v = .non ∧ Q (.ref x) H2) E) :
    wpAny (model X.prog X.w) X.A (call (.ref Ca) us) (EP X pins σ Q) X.xe s := by
  have hq := h (s.heap.objs.size + 1) s.heap.objs.size (I.hok.fresh (Nat.le_succ _)) (I.hok.fresh (Nat.le_refl _)) (Nat.ne_of_lt (Nat.lt_succ_self _))
  have I2 := Inv.made (C := Ca) I
  have r2 : Vals (V.ref (s.heap.objs.size + 1) :: vs) (Value.ref (s.heap.objs.size + 1) :: us) := .cons rfl r
  have hl : (Value.ref (s.heap.objs.size + 1) :: us).length = ps.length := by
    have e := r2.length
    rw [F.len _ _ _ _ hq] at e
    exact e.symm
  have bt := hb _ (Value.ref (s.heap.objs.size + 1) :: us) I2.kIn (by rw [List.append_nil]; exact hl)
  rw [List.append_nil] at bt
  have hG2 : (X.A.under (.builtin "type.__call__" ⟨.ref Ca :: us, []⟩)).guards = some [] := by
    unfold Around.under
    first | rfl | (rw [hG]; rfl) | simp [hG]
  refine wpAny_call (make_map (f := f) I.kIn M.makes M.init (beq_iff_eq.mp M.fn) (codeAny_mono (F.run _ X.stack _ _ ⟨Value.ref (s.heap.objs.size + 1) :: us, []⟩ (Value.ref (s.heap.objs.size + 1) :: us) _ _ E hG2 (hr.make Ca us [])
    (I2.env0.make Ca us []) bt r2 hq) fun r s' hq' => ?_))
  cases r with
  | error e => exact hx pins _ _ e s' I2 hq'
  | ok fl =>
    cases fl with
    | ret u =>
      obtain ⟨v, H', I3, rv, ev, q3⟩ := I2.after hq'
      subst ev
      exact ⟨rv, ⟨V.ref (s.heap.objs.size + 1), H', I3, rfl, q3⟩⟩
    | next => exact False.elim hq'
    | brk => exact False.elim hq'
    | cont => exact False.elim hq'
theorem R.goesI {T : Hp} {F F' : Fz} {σe : Sl} {g g' : G} {σ : L2.St} {H H' : Hp} {x dx : Addr} {o : HO} (r : R C Ow T F σe g σ H) (hx : H x = none) (hdx : H dx = none) (ne : dx ≠ x) (h : GoesI C F (upd (upd H dx (.own x)) x o) x g' F' H') : R C Ow T F' σe g' σ H' := by
  have hx2 : (upd H dx (.own x)) x = none := (upd_ne (Ne.symm ne)).trans hx
  have s2 : Same H (upd (upd H dx (.own x)) x o) := (same_upd hdx).trans (same_upd hx2)
  refine r.step h.fs h.sub (fun a o z1 z2 => ?_) (fun a o z => ?_) (fun d l z => ?_) h.dk h.tp
  · rcases h.nw a o z1 z2 with w | w
    · cases e : H a with
      | none => rfl
      | some o' => rw [s2 _ _ e] at w; cases w
    · rw [w]; exact hx
  · exact h.kp a o (s2 _ _ z) fun w => by rw [w, hx] at z; cases z
  · rcases h.dn d l z with w | ⟨w1, w2⟩
    · exact .inl w
    · refine .inr ⟨?_, ?_⟩
      · cases e : H d with
        | none => rfl
        | some o' => rw [s2 _ _ e] at w1; cases w1
      · cases e : H l with
        | none => rfl
        | some o' => rw [s2 _ _ e] at w2; cases w2
theorem R.make {T : Hp} {F : Fz} {σe : Sl} {g : G} {σ : L2.St} {H : Hp} {us : List V} {ds : List D} {Q : VK} {cn : Nat} {x dx : Addr} (r : R C Ow T F σe g σ H) (h : RelL C.K F ds us) (hn : us.length + 1 = n) (hc : C.sc.2.1[cn]? = some (Ca, nm)) (hx : H x = none) (hdx : H dx = none) (ne : dx ≠ x) {fi : Nat}
    (q : (∃ v g', C.Φ fi (objD cn [] :: ds) g = .ok v g' ∧ ∀ F' H', Fsub F F' → R C Ow T F' σe g' σ H' → Rel C.K F' v (.ref x) → Q (.ref x) H') ∨
      (∃ c ws g' st, g = some st ∧ C.Φ fi (objD cn [] :: ds) g = .exc c ws g' ∧ ∀ F' H' cls d, Fsub F F' → R C Ow T F' σe g' σ H' → XR C F' c ws cls d → E cls d H')) :
    spI C (C.Φ fi) cn n (.ref x :: us) (upd (upd H dx (.own x)) x (.ins Ca dx [])) (fun v H2 => v = .non ∧ Q (.ref x) H2) E := by
  have hx2 : (upd H dx (.own x)) x = none := (upd_ne (Ne.symm ne)).trans hx
  have s2 : Same H (upd (upd H dx (.own x)) x (.ins Ca dx [])) := (same_upd hdx).trans (same_upd hx2)
  have dk2 : DkR C F g (upd (upd H dx (.own x)) x (.ins Ca dx [])) := (r.dk.put hdx).put hx2
  refine ⟨hn, x, dx, us, F, ds, g, (Ca, nm), rfl, hc, upd_same, r.fn hx, r.ndk hx, ⟨r.sub.trans s2, (r.tups.putN (by intro _ z; cases z)).putN (by intro _ z; cases z)⟩, r.sc, dk2, h, ?_⟩
  rcases q with ⟨v, g', hf, q⟩ | ⟨c, ws, g', st, hg, hf, q⟩
  · exact .inl ⟨v, g', hf, fun F' H' z rl => ⟨rfl, q F' H' z.fs (r.goesI hx hdx ne z) rl⟩⟩
  · exact .inr ⟨c, ws, g', st, hg, hf, fun F' H' cls d z rl => q F' H' cls d z.fs (r.goesI hx hdx ne z) rl⟩
theorem Es.make (cn fi : Nat) (hc : C.sc.2.1[cn]? = some (Ca, nm)) (M : Mk X.K Ca f) (F : FnG X.prog X.w X.K X.mg X.base CX k f fd ps (spI C (C.Φ fi) cn ps.length)) (hG : X.A.guards = some []) (hr : Room (k + 1) X.A) (hg : Gl X x) (hm : X.mg x = some (.ref Ca)) (hb : Binds X.K fd ps []) (hx : Passes CX X E)
    (ha : Ea X C Ow (e :: es) is) (hdb : (x == ("__debug__" : Str)) = false) (he : starEach (e :: es) X.env = (false, eval e X.env) :: starEach es X.env) (hpl : (backTo pos (starEach es X.env)).any (·.1) = false) (hl : is.len + 1 = ps.length) :
    Es X C Ow (.Call (.Name x p) (e :: es) [] pos) (.mk cn fi is) := by
  refine ⟨⟨fun pins s σ H Q I h => ?_⟩⟩
  refine wpAny_Call_Name_kw (ld_glob I hg hm ?_ hdb)
  obtain ⟨T, F0, σe, g, v, g', r, m0, q⟩ := h
  unfold ev at m0
  obtain ⟨ds, g1, m1, m2⟩ := bind_eq_ok m0
  refine PySem.W.callWith_K (h₀ := X.base) I.ok.mod.kin M.kp (thn (ha.run.run pos pins s σ H (fun vs H1 => ∀ x dx, H1 x = none → H1 dx = none → dx ≠ x → spI C (C.Φ fi) cn ps.length (.ref x :: vs) (upd (upd H1 dx (.own x)) x (.ins Ca dx [])) (fun v H2 => v = .non ∧ Q (.ref x) H2) E) I
    ⟨T, F0, σe, g, ds, g1, r, m1, fun F1 H1 xs s1 r1 q1 x dx n1 n2 n3 => ?_⟩) fun us s1 ⟨vs, H1, I1, rv, hsp⟩ => ⟨I1.kIn, ?_⟩) he hpl
  · have hn : xs.length + 1 = ps.length := by rw [← q1.length, evs_len _ _ _ _ _ _ m1, hl]
    exact r1.make q1 hn hc n1 n2 n3 (.inl ⟨_, _, m2, fun F' H' s2 r2 q2 => q F' H' _ (s1.trans s2) r2 q2⟩)
  · exact run_makeG M F hG hr hb (passAtOf hx) I1 rv hsp
theorem Ss.setF {fl : Str} (n cn : Nat) (hn : n ∈ Ow) (hN : X.N[n]? = some x) (hv : Vis X.env.scope x) (hd : (x == ("__debug__" : Str)) = false) (hcd : (x == ("__classdict__" : Str)) = false) (hc : C.sc.2.1[cn]? = some (Ca, nm)) (hf : nm.contains fl = true) (hok : ClsOk X.K C.sc.2.1) (h : Es X C Ow e i)
    (hs : swapsWith e (some (.Attribute (.Name x np) fl apos)) pos.line X.env = pure false) :
    Ss X C W Ow Ow OwL (.Assign [.Attribute (.Name x np) fl apos] e pos) (.setF n cn fl i) :=
  ⟨ps_con (ps_fld (pe_var hN hv hd hcd) h.run hs) fun D σ H ⟨T, F, σe, g, fw, g', r, m, q⟩ => by
    unfold Pv.run at m
    obtain ⟨v, g1, m1, m2⟩ := bind_eq_ok m
    obtain ⟨d0, g2, m3, m4⟩ := bind_eq_ok m2
    obtain ⟨e0, e0'⟩ := slot_ok m3
    subst e0'
    obtain ⟨d2, g4, m7, m8⟩ := bind_eq_ok m4
    obtain ⟨m9, e9⟩ := lift_eq_ok m7
    subst e9
    cases m8
    have hf : fl ∈ nm := by simpa using hf
    refine ⟨T, F, σe, g, v, _, r, m1, fun F1 H1 y s1 r1 h1 => ?_⟩
    unfold setFV at m9
    split at m9
    · rename_i ii rr
      split at m9
      · rename_i hcc
        simp only [Bool.and_eq_true, decide_eq_true_eq] at hcc
        cases m9
        obtain ⟨p, e1, o1, n0, n1, n2⟩ := r1.ow n _ e0 hn
        rcases o1 with ⟨z, _⟩ | ⟨c', r', Cn, dx, fs, z, z1, z2, z3, z4⟩ | ⟨_, _, z, _⟩ | ⟨_, _, z, _⟩
        · cases z
        · injection z with z5 z6
          injection z5 with z5 _
          injection z5 with z5
          injection z5 with z5 _
          injection z5 with z5
          subst z6
          have ec : cn = c' := by omega
          subst ec
          have z1' := z1
          rw [r1.sc, hc] at z1'
          cases z1'
          have hl : rr.length = fs.length := by rw [z4.length, List.length_map]
          refine ⟨.ref p, e1, p, Ca, dx, fs, rfl, z2, hok.cls _ (List.mem_of_getElem? hc), hok.att _ (List.mem_of_getElem? hc) fl hf, by omega, q F1 _ _ s1 (r1.write hn e0 e1 (.inr (.inl ⟨cn, _, (Ca, nm), dx, _, ?_, z1, upd_same, putF_names hf z3, fput_rel h1 z4⟩)))⟩
          rw [hcc.1]
        · cases z
        · cases z
      · cases m9
    · cases m9⟩
theorem dput_rel {F : Fz} {H : Hp} {kvs : List (D × D)} {k v d' : D} {p0 : Addr} {z w : V} (h : setKeyV (.dict kvs) k v = some d') (sub : Same F.h H) (hp : OwnAt C.K F H (.dict kvs) p0) (hz : Sh C.K F H k z) (hw : Rel C.K F v w) (nk : F.sc.2.2.1 = false ∨ keyT k = none) : ∃ o', DPut H p0 z w (upd H p0 o') ∧ OwnAt C.K F (upd H p0 o') d' p0 := by
  simp only [setKeyV] at h
  split at h
  · rename_i r e
    have := tdOf_some e
    subst this
    split at h
    · cases h
    · rename_i hc
      cases h
      have hk : ¬ ((keyT k).isNone = true) := fun z => hc (by rw [z]; rfl)
      obtain ⟨kl, ek⟩ := noneOf hk
      have hl : r.length < lineN := by
        rcases Nat.lt_or_ge r.length lineN with y | y
        · exact y
        · exact (hc (by rw [decide_eq_false (by omega), Bool.not_false, Bool.or_true])).elim
      have nk := nk.resolve_right fun z => by rw [z] at ek; cases ek
      obtain ⟨b, rfl, hb⟩ := keyT_rel nk sub ek hz
      rcases hp with ⟨y, _⟩ | ⟨_, _, _, _, _, y, _⟩ | ⟨r', kk, y, y2, y3⟩ | ⟨_, _, y, _⟩
      · cases y
      · cases y
      · cases y
        exact ⟨_, DPut.t y2 hb (by rw [← y3.length]; exact lineN_lt hl), .inr (.inr (.inl ⟨_, _, rfl, upd_same, putT_rel ek hw y3⟩))⟩
      · cases y
  · split at h
    · cases h
    · rename_i hc
      cases h
      have hd : isDeck kvs = false := by
        cases y : isDeck kvs with
        | false => rfl
        | true => rw [y] at hc; simp at hc
      have hk : ¬ ((keyD k).isNone = true) := fun z => hc (by rw [z]; simp)
      obtain ⟨kx, ek⟩ := noneOf hk
      have hl : kvs.length < lineN := by
        rcases Nat.lt_or_ge kvs.length lineN with y | y
        · exact y
        · exact (hc (by rw [decide_eq_false (by omega), Bool.not_false, Bool.or_true])).elim
      have := key_rel ek hz
      subst this
      rcases hp with ⟨y, kk, y2, y3⟩ | y | y
      · exact ⟨_, DPut.k y2 (by rw [← y3.length]; exact lineN_lt hl), .inl ⟨dPut_mark ek hd, _, upd_same, put_rel ek hw y3⟩⟩
      · rw [y.mark] at hd; cases hd
      · rw [y.mark] at hd; cases hd
theorem Ss.setKey [KtOff C] {k : Expr} {ik : Ex} (n : Nat) (hn : n ∈ Ow) (hN : X.N[n]? = some x) (hv : Vis X.env.scope x) (hd : (x == ("__debug__" : Str)) = false) (hcd : (x == ("__classdict__" : Str)) = false) (hu : X.A.units + 1 < cLine) (h : Es X C Ow e i) (hk : Eb X C Ow k ik)
    (ha : ∀ v, assign (.Subscript (.Name x np) k apos) X.env v = (do
      let ov ← holding [v] (eval (.Name x np) X.env)
      let iv ← holding [v, ov] (eval k X.env)
      standAt apos
      holding [v, ov, iv] (setItem ov iv v)
      release [v, ov, iv] [])) (hs : swapsWithSole [.Subscript (.Name x np) k apos] e pos.line X.env = pure false) (hw : swappedStores [.Subscript (.Name x np) k apos] e X.env = pure none) (h1 : (assignEach [.Subscript (.Name x np) k apos] X.env).map (·.2) = [assign (.Subscript (.Name x np) k apos) X.env]) :
    Ss X C W Ow Ow OwL (.Assign [.Subscript (.Name x np) k apos] e pos) (.setKey n ik i) :=
  ⟨ps_con (ps_asg h.run (pg_sub (pe_var hN hv hd hcd) hk.run (set_dict hu) ha) hs hw h1) fun D σ H ⟨T, F, σe, g, fl, g', r, m, q⟩ => by
    unfold Pv.run at m
    obtain ⟨v, g1, m1, m2⟩ := bind_eq_ok m
    obtain ⟨d0, g2, m3, m4⟩ := bind_eq_ok m2
    obtain ⟨e0, e0'⟩ := slot_ok m3
    subst e0'
    obtain ⟨kv, g3, m5, m6⟩ := bind_eq_ok m4
    obtain ⟨d2, g4, m7, m8⟩ := bind_eq_ok m6
    obtain ⟨m9, e9⟩ := lift_eq_ok m7
    subst e9
    cases m8
    cases d0 with
    | dict kvs =>
      refine ⟨T, F, σe, g, v, _, r, m1, fun F1 H1 y s1 r1 h1 => ?_⟩
      obtain ⟨p, e1, _⟩ := r1.ow n _ e0 hn
      refine ⟨.ref p, e1, T, F1, σe, _, _, _, r1, m5, fun F2 H2 z s2 r2 b2 => ?_⟩
      obtain ⟨p', e2, o2, _⟩ := r2.ow n _ e0 hn
      rw [e1] at e2
      cases e2
      obtain ⟨o', w1, w2⟩ := dput_rel m9 r2.sub o2 (r2.sh b2) (h1.mono s2 _ _) (.inl (by rw [r2.sc]; exact KtOff.off))
      exact ⟨p, _, rfl, w1, q F2 _ _ (s1.trans s2) (r2.write hn e0 e1 w2)⟩
    | _ => simp [setKeyV] at m9⟩
theorem Ss.ext (n : Nat) (hn : n ∈ Ow) (hN : X.N[n]? = some x) (hv : Vis X.env.scope x) (hd : (x == ("__debug__" : Str)) = false) (hcd : (x == ("__classdict__" : Str)) = false) (h : Es X C Ow e i)
    (hbase : attributeBase (.Name x np) "extend" X.env (eval (.Name x np) X.env) = eval (.Name x np) X.env)
    (hfew : ((backTo pos (starEach [e] X.env)).all (fun x => !x.1) && (backToKw pos (keywordEach [] X.env)).all (fun x => x.1.isSome) && decide (([e] : List Expr).length + ([] : List Keyword).length + (if ([] : List Keyword).isEmpty then 0 else 1) < 30)) = true)
    (hline : (apos.endLine == pos.line) = true) (hs : starEach [e] X.env = (false, eval e X.env) :: starEach [] X.env) (hpl : (backTo pos (starEach [] X.env)).any (·.1) = false) (hsw : swapsWith (.Call (.Attribute (.Name x np) "extend" apos) [e] [] pos) none pos'.line X.env = pure false) :
    Ss X C W Ow Ow OwL (.Expr (.Call (.Attribute (.Name x np) "extend" apos) [e] [] pos) pos') (.ext n i) :=
  ⟨ps_con (ps_expr (pe_bm PySem.F.plainAttrs_list PySem.F.slot_list_extend PySem.F.type_list_extend (by exact mt_extend) (pe_var hN hv hd hcd) (pa_cons h.run pa_nil hs) hbase hfew hline hs hpl) hsw) fun D σ H ⟨T, F, σe, g, fl, g', r, m, q⟩ => by
    unfold Pv.run at m
    obtain ⟨d0, g0, m0, m1⟩ := bind_eq_ok m
    obtain ⟨e0, e0'⟩ := slot_ok m0
    subst e0'
    obtain ⟨v, g1, m2, m3⟩ := bind_eq_ok m1
    obtain ⟨d1, g2, m4, m5⟩ := bind_eq_ok m3
    obtain ⟨e1, e1'⟩ := slot_ok m4
    subst e1'
    obtain ⟨d2, g3, m6, m7⟩ := bind_eq_ok m5
    obtain ⟨m8, e8⟩ := lift_eq_ok m6
    subst e8
    cases m7
    rw [e0] at e1
    have e1 : d0 = d1 := Option.some.inj (Option.some.inj e1)
    subst e1
    cases d0 with
    | list xs =>
      cases v with
      | list ys =>
        simp only [extV] at m8
        split at m8
        · rename_i hc
          cases m8
          obtain ⟨p, vs, q1, q2, q3⟩ := own_list r hn e0
          refine ⟨.ref p, q1, .inl ⟨rfl, vs, SqL.of q2⟩, T, F, σe, _, _, _, r, m2, fun F1 H1 z s1 r1 h1 => ?_⟩
          obtain ⟨p', vs', z1, z2, z3⟩ := own_list r1 hn e0
          rw [q1] at z1
          cases z1
          unfold Rel at h1
          obtain ⟨b, ws, rfl, w1, w2⟩ := h1
          refine ⟨p, b, vs', ws, rfl, rfl, z2, r1.sub _ _ w1, ?_, q F1 _ _ s1 (r1.write hn e0 q1 ⟨_, upd_same, z3.append w2⟩)⟩
          rw [← z3.length, ← w2.length]
          exact lineN_le (of_decide_eq_true hc)
        · cases m8
      | _ => simp [extV] at m8
    | _ => simp [extV] at m8⟩
end
section
variable {P : Program} {w : World} {K : PySem.W.Frag} {mg : Str → Option Value} {base : Heap} {x qual : Str} {st : Stmt} {f : Addr} {fd : FuncData} {N ps : List Str} {k : Nat}
def eraseH (x : Addr) (H : Hp) : Hp := fun b => if b = x then none else H b
theorem R.startI {C : Ct} {F : Fz} {ds : List D} {g : G} {H : Hp} {us : List V} {cn : Nat} {x dx : Addr} {Cn : Addr × List Str} (hH : C.H0 = eraseH x H) (hF : C.F0 = F) (hS : C.slf = some (0, x)) (hX : C.xf = none) (sub : Same F.h H ∧ TupF F H) (sc : F.sc = C.sc) (dk : DkR C F g H) (h : RelL C.K F ds us) (hn : us.length + 1 ≤ N.length)
    (hc : C.sc.2.1[cn]? = some Cn) (hx : H x = some (.ins Cn.1 dx [])) (nf : F.h x = none) (nd : ¬ F.isDk x) :
    R C [0] (fun _ => none) F ((objD cn [] :: ds).map some ++ List.replicate (N.length - (ds.length + 1)) none) g (L2.start N (.ref x :: us)) H := by
  have hl := h.length
  have er : C.H0 x = none := by rw [hH]; unfold eraseH; rw [if_pos rfl]
  refine ⟨sub.1, sc, by rw [hF]; exact .refl _, (fun a o e n => by rw [hF, e] at n; cases n), fun a o e => .inr ?_, fun d l e => .inl (by rw [hF]; exact e), ?_, fun i v e n => ?_, fun i v e n => ?_, fun i j a hi hj => ?_, dk, (fun a o e => by cases e), (fun i a e _ => by rw [hS] at e; cases e; rfl), (fun dd f v z => by rw [hX] at z; cases z), sub.2⟩
  · rw [hH] at e
    unfold eraseH at e
    split at e
    · cases e
    · exact e
  · rw [start_len (by rw [List.length_cons]; omega), List.length_append, List.length_map, List.length_replicate, List.length_cons]; omega
  · cases i with
    | zero => exact (n (List.mem_singleton.mpr rfl)).elim
    | succ i =>
      have hi : i < ds.length := by
        by_cases hi : i < ds.length
        · exact hi
        · rw [List.getElem?_append_right (by rw [List.length_map, List.length_cons]; omega), List.getElem?_replicate] at e
          split at e <;> cases e
      rw [List.getElem?_append_left (by rw [List.length_map, List.length_cons]; omega), List.getElem?_map, List.getElem?_cons_succ] at e
      cases q : ds[i]? with
      | none => rw [q] at e; cases e
      | some d =>
        rw [q] at e
        cases e
        obtain ⟨u, e1, e2⟩ := h.get q
        refine ⟨u, ?_, e2⟩
        unfold L2.start
        rw [List.getElem?_append_left (by rw [List.length_map, List.length_cons]; rw [← hl]; omega), List.getElem?_map, List.getElem?_cons_succ, e1]
        rfl
  · have := List.mem_singleton.mp n
    subst this
    have e : (some (some (objD cn [])) : Option (Option D)) = some (some v) := e
    cases e
    exact ⟨x, rfl, .inr (.inl ⟨cn, [], Cn, dx, [], rfl, by rw [sc]; exact hc, hx, (fun q hq => nomatch hq), by unfold RelKV; rfl⟩), er, nf, nd⟩
  · have h1 := List.mem_singleton.mp hi
    have h2 := List.mem_singleton.mp hj
    subst h1; subst h2
    exact fun _ _ _ _ => rfl
theorem run_noRet (Φ : Fns) (fu : Nat) : ∀ (m : Sm) (σ : Sl) (g g' : G) (v : D), noRet m = true → Pv.run Φ fu m σ g = .ok (.rt v) g' → False := by
  have forN : ∀ (f : D → Sl → G → Res Fl), (∀ x σ g g' v, f x σ g = .ok (.rt v) g' → False) → ∀ (xs : List D) σ g g' v, forL f xs σ g = .ok (.rt v) g' → False := by
    intro f hf xs
    induction xs with
    | nil => intro σ g g' v h; cases h
    | cons x xs ih =>
      intro σ g g' v h
      obtain ⟨fl, g1, h1, h2⟩ := bind_eq_ok (show (f x σ g).bind _ = _ from h)
      cases fl with
      | nx σ1 => exact ih _ _ _ _ h2
      | ct σ1 => exact ih _ _ _ _ h2
      | bk σ1 => cases h2
      | rt v1 => exact hf _ _ _ _ _ h1
      | ex σ1 c vs => cases h2
  have whN : ∀ (c : Sl → G → Res D) (b : Sl → G → Res Fl), (∀ σ g g' v, b σ g = .ok (.rt v) g' → False) → ∀ (n : Nat) σ g g' v, whileL c b n σ g = .ok (.rt v) g' → False := by
    intro c b hb n
    induction n with
    | zero => intro σ g g' v h; cases h
    | succ n ih =>
      intro σ g g' v h
      obtain ⟨cv, g1, h1, h2⟩ := bind_eq_ok (show (c σ g).bind _ = _ from h)
      cases cv with
      | bool k =>
        cases k with
        | false => cases h2
        | true =>
          obtain ⟨fl, g2, h3, h4⟩ := bind_eq_ok (show (b σ g1).bind _ = _ from h2)
          cases fl with
          | nx σ1 => exact ih _ _ _ _ h4
          | ct σ1 => exact ih _ _ _ _ h4
          | bk σ1 => cases h4
          | rt v1 => exact hb _ _ _ _ h3
          | ex σ1 c vs => cases h4
      | _ => cases h2
  intro m
  induction m with
  | ret e => intro σ g g' v n h; cases n
  | seq a b iha ihb =>
    intro σ g g' v n h
    unfold noRet at n
    rw [Bool.and_eq_true] at n
    unfold Pv.run at h
    obtain ⟨fl, g1, h1, h2⟩ := bind_eq_ok h
    cases fl with
    | nx σ1 => exact ihb _ _ _ _ n.2 h2
    | rt v1 => exact iha _ _ _ _ n.1 h1
    | bk σ1 => cases h2
    | ct σ1 => cases h2
    | ex σ1 c vs => cases h2
  | ite t a b iha ihb =>
    intro σ g g' v n h
    unfold noRet at n
    rw [Bool.and_eq_true] at n
    unfold Pv.run at h
    obtain ⟨x, g1, h1, h2⟩ := bind_eq_ok h
    cases x with
    | bool k => cases k with
      | true => exact iha _ _ _ _ n.1 h2
      | false => exact ihb _ _ _ _ n.2 h2
    | _ => cases h2
  | forr t k as b ih =>
    intro σ g g' v n h
    unfold noRet at n
    unfold Pv.run at h
    obtain ⟨vs, g1, h1, h2⟩ := bind_eq_ok h
    obtain ⟨xs, g2, h3, h4⟩ := bind_eq_ok h2
    refine forN _ (fun x σ g g' v hh => ?_) _ _ _ _ _ h4
    obtain ⟨σ1, g3, h5, h6⟩ := bind_eq_ok hh
    exact ih _ _ _ _ n h6
  | whil t b ih =>
    intro σ g g' v n h
    unfold noRet at n
    unfold Pv.run at h
    exact whN _ _ (fun σ g g' v hh => ih _ _ _ _ n hh) _ _ _ _ _ h
  | callX k f as p => intro σ g g' v n h; cases n
  | thX k o => intro σ g g' v n h; cases n
  | methX k c f o as => intro σ g g' v n h; cases n
  | mkX k c f as => intro σ g g' v n h; cases n
  | try_ b sel h i ihb ihh => intro σ g g' v n h; cases n
  | grp t n x k as ik ie => intro σ g g' v n h; cases n
  | grl t n k0 as0 k as ik ie => intro σ g g' v n h; cases n
  | grv t n f r k0 as0 fe k as ik ie => intro σ g g' v n h; cases n
  | pki s x a b k fd e => intro σ g g' v n h; cases n
  | _ =>
    intro σ g g' v n h
    unfold Pv.run at h
    repeat' first
      | (cases h; done)
      | (obtain ⟨_, _, _, h⟩ := bind_eq_ok h)
      | (split at h)
theorem initOk {C0 : Ct} (F : Fun K x qual st f fd) (S : FnScope N ps (defScope st)) (hK : C0.K = K) (fi cn : Nat) (m : Sm) (T : List Fn) (pr : Prims) (d : Nat) (hpr : pr fi = none) (hT : T[fi]? = some ⟨ps.length, N.length, .seq m (.ret (.var 0))⟩) (hps : ps.length ≤ N.length) (hm : noRet m = true)
    (body : ∀ (cdv : Value) (A : Around) (outer : List Env) (s : Shared) (H H' : Hp) (F0 : Fz) (x0 : Addr) (E : XK), A.guards = some [] → Room k (A.deeper (envOfC qual (defScope st) s.heap.objs.size f cdv)) →
      Sb (cxOf (L2.CX P w) P w K mg base N qual (defScope st) f cdv A outer s H E) { C0 with H0 := H', F0 := F0, Φ := FT T pr d, fu := fuel, slf := some (0, x0), xf := none } (fun cls d _ H' => E cls d H') [0] [0] [] (defBody st) m) :
    FnG P w K mg base (L2.CX P w) (k + 1) f fd ps (spI C0 (FT T pr (d + 1) fi) cn ps.length) := by
  refine funOk F S (fun vs H Q E h => h.1) fun cdv A outer s H vs Q E hg hr hsp => ?_
  obtain ⟨hn, x0, dx, us, F0, ds, g, Cn, rfl, hc, hx, nf, nd, sub, sc, dk, rl, hout⟩ := hsp
  have hb := body cdv A outer s H (eraseH x0 H) F0 x0 E hg hr
  refine ⟨_, (show PSs (cxOf (L2.CX P w) P w K mg base N qual (defScope st) f cdv A outer s H E) _ _ from hb.run), ?_⟩
  have hl2 : ds.length + 1 = ps.length := by
    have := rl.length
    rw [List.length_cons] at hn
    omega
  have r := R.startI (C := { C0 with H0 := eraseH x0 H, F0 := F0, Φ := FT T pr d, fu := fuel, slf := some (0, x0), xf := none }) (N := N) (us := us) (cn := cn) (x := x0) (dx := dx) (Cn := Cn) rfl rfl rfl rfl sub sc (show DkR _ F0 g H from dk) rl (by
    have := rl.length
    omega) hc hx nf nd
  rw [hl2] at r
  have hFT : FT T pr (d + 1) fi (objD cn [] :: ds) g = fin (Pv.run (FT T pr d) fuel (.seq m (.ret (.var 0))) ((objD cn [] :: ds).map some ++ List.replicate (N.length - ps.length) none) g) := by
    conv => lhs; unfold FT
    rw [hpr]
    simp only [hT]
    exact if_pos hl2
  rcases hout with ⟨v, g', hev, q⟩ | ⟨c, ws, g', st0, hg0, hev, q⟩
  · rw [hFT] at hev
    cases hr0 : Pv.run (FT T pr d) fuel (.seq m (.ret (.var 0))) ((objD cn [] :: ds).map some ++ List.replicate (N.length - ps.length) none) g with
    | no => rw [hr0] at hev; cases hev
    | exc c vs g1 => rw [hr0] at hev; cases hev
    | ok fl g1 =>
      rw [hr0] at hev
      unfold Pv.run at hr0
      obtain ⟨fl1, g2, h1, h2⟩ := bind_eq_ok hr0
      cases fl1 with
      | nx σe' =>
        unfold Pv.run at h2
        obtain ⟨v2, g3, h3, h4⟩ := bind_eq_ok h2
        cases h4
        cases hev
        unfold ev at h3
        have e0 : σe'[0]? = some (some v) ∧ g2 = g' := by
          split at h3
          · rename_i y
            cases h3
            exact ⟨y, rfl⟩
          · cases h3
        obtain ⟨e0, rfl⟩ := e0
        refine ⟨fun _ => none, F0, _, g, .nx σe', g2, r, h1, fun F' σ' H' s1 r1 => ?_⟩
        obtain ⟨p, e1, o1, n0, n1, n2⟩ := r1.ow 0 v e0 (List.mem_singleton.mpr rfl)
        have hpx : p = x0 := by
          have z := r1.slf 0 x0 rfl (List.mem_singleton.mpr rfl)
          rw [e1] at z
          cases z; rfl
        subst hpx
        obtain ⟨F2, s2, r2⟩ := R.drop (i := 0) (Ow := []) r1 List.not_mem_nil
        have rv : Rel C0.K F2 v (.ref p) := by
          obtain ⟨y, z1, z2⟩ := r2.fz 0 v e0 List.not_mem_nil
          rw [e1] at z1
          cases z1
          exact z2
        refine q F2 H' ⟨s1.trans s2, r2.sub, fun a o z1 z2 => ?_, fun a o z1 z2 => ?_, fun d l z => ?_, r2.dk, r2.tups⟩ rv
        · have := r2.new a o z1 z2
          have this : eraseH p H a = none := this
          unfold eraseH at this
          split at this
          · rename_i y; exact .inr y
          · exact .inl this
        · exact r2.keep a o (show eraseH p H a = some o by unfold eraseH; rw [if_neg z2]; exact z1)
        · have hd2 : F'.dk = some (d, l) := by
            cases y : F'.dk with
            | none =>
              have := r1.dk.dd
              cases g2 with
              | none =>
                have w : F2.dk = none := r2.dk.dd
                rw [w] at z; cases z
              | some st =>
                obtain ⟨d', l', w, _⟩ := this
                rw [y] at w; cases w
            | some dl =>
              have := s2.dk dl y
              rw [z] at this; cases this; rfl
          rcases r2.dnew d l z with w | ⟨w1, w2⟩
          · exact .inl w
          · have nd' : ∀ b, (b = d ∨ b = l) → b ≠ p := fun b hb y => n2 (.inl ⟨d, l, hd2, y ▸ hb⟩)
            refine .inr ⟨?_, ?_⟩
            · have w1 : eraseH p H d = none := w1
              unfold eraseH at w1
              rwa [if_neg (nd' d (.inl rfl))] at w1
            · have w2 : eraseH p H l = none := w2
              unfold eraseH at w2
              rwa [if_neg (nd' l (.inr rfl))] at w2
      | rt v1 => exact (run_noRet _ _ _ _ _ _ _ hm h1).elim
      | bk σ1 => cases h2; cases hev
      | ct σ1 => cases h2; cases hev
      | ex σ1 c vs => cases h2; cases hev
  · rw [hFT] at hev
    cases hr0 : Pv.run (FT T pr d) fuel (.seq m (.ret (.var 0))) ((objD cn [] :: ds).map some ++ List.replicate (N.length - ps.length) none) g with
    | no => rw [hr0] at hev; cases hev
    | exc c vs g1 => rw [hr0] at hev; cases hev
    | ok fl g1 =>
      rw [hr0] at hev
      unfold Pv.run at hr0
      obtain ⟨fl1, g2, h1, h2⟩ := bind_eq_ok hr0
      cases fl1 with
      | nx σe' =>
        unfold Pv.run at h2
        obtain ⟨v2, g3, h3, h4⟩ := bind_eq_ok h2
        cases h4
        cases hev
      | rt v1 => exact (run_noRet _ _ _ _ _ _ _ hm h1).elim
      | bk σ1 => cases h2; cases hev
      | ct σ1 => cases h2; cases hev
      | ex σ1 c2 vs =>
        cases h2
        cases hev
        refine ⟨fun _ => none, F0, _, g, .ex σ1 c ws, _, r, h1, fun F' Ow2 σ' H' cls d s1 r1 xr => ?_⟩
        refine q F' H' cls d ⟨s1, r1.sub, fun a o z1 z2 => ?_, fun a o z1 z2 => ?_, fun d l z => ?_, r1.dk, r1.tups⟩ xr
        · have := r1.new a o z1 z2
          have this : eraseH x0 H a = none := this
          unfold eraseH at this
          split at this
          · rename_i y; exact .inr y
          · exact .inl this
        · exact r1.keep a o (show eraseH x0 H a = some o by unfold eraseH; rw [if_neg z2]; exact z1)
        · subst hg0
          obtain ⟨d0, l0, w, _⟩ := dk.dd
          have := s1.dk _ w
          rw [z] at this
          cases this
          exact .inl w
end
end Pv
end

section
set_option autoImplicit false
namespace Pv
open PySem PySem.Spec PyProof.Rows L2 PySem.W PySem.Calls PySem.HandSPX

abbrev bmE : List Value := [.type "Exception", .type "BaseException", .type "object"]
def iA (f : Str) (p1 p2 : Pos) : Arguments := { posonlyargs := [], args := [{ arg := "self", annotation := none, pos := p1 }, { arg := f, annotation := none, pos := p2 }], vararg := none, kwonlyargs := [], kw_defaults := [], kwarg := none, defaults := [] }
def iB (f : Str) (q1 q2 q3 q4 : Pos) : List Stmt := [.Assign [.Attribute (.Name "self" q1) f q2] (.Name f q3) q4]
def iS (f : Str) : Scope := { kind := .function, names := [(PySem.Str.ofString "self", .local), (f, .local)], isGenerator := false, isCoroutine := false, more := [] }
structure Xc1 (K : Frag) (mg : Str → Option Value) (x f : Str) (C fI : Addr) : Prop where
  gC : mg x = some (.ref C)
  cls : ∃ nm q N bs bm sn sub ab col dd k0 k1 k2 k3 k5, K.lookup C = some (excClassObj nm q C N bs bm true sn sub ab col dd k0 k1 k2 k3 k5 "Exception.__new__") ∧ excTail bmE bm = true
  sa : findIn K (.ref C) "__setattr__" = some (some (.builtin "object.__setattr__"))
  ga : findIn K (.ref C) "__getattribute__" = some (some (.builtin "BaseException.__getattribute__"))
  gg : findIn K (.ref C) "__getattr__" = some none
  noN : findIn K (.ref C) f = some none
  iC : findIn K (.ref C) "__init__" = some (some (.ref fI))
  tC : typeIn K (.ref fI) = some (.type "function")
  kC : keepIn K (.ref C) = true
  exC : subIn K (.ref C) (.type "BaseException") = some true
  tyC : typeIn K (.ref C) = some (.type "type")
  hdC : hasDictIn K C = true
  fs : f ≠ "self"
  fd : (f == ("__debug__" : Str)) = false
  fn : ∃ (oc : Value) (od : Option Addr) (doc pm : Value) (an : Option Addr) (cdv ct kV : Value) (osl : Array (Option Value)) (p1 p2 q1 q2 q3 q4 : Pos) (q : Str),
    K.lookup fI = some ⟨oc, od, .func (fnOf "__init__" q (iA f p1 p2) (iB f q1 q2 q3 q4) (iS f) .none kV doc pm an cdv ct), osl⟩ ∧ codeIn K cdv q = true ∧
      ∀ a b : Value, bindArgs (fnOf "__init__" q (iA f p1 p2) (iB f q1 q2 q3 q4) (iS f) .none kV doc pm an cdv ct) ⟨[a, b], []⟩ = pure [(PySem.Str.ofString "self", a), (f, b)]
theorem one_size (v : Value) : [v].length ≤ sizeLine := by
  rw [sizeLine_eq]
  exact (by decide : 1 ≤ 16777216)
theorem ldC {M : Model} {s : Shared} {name : Str} {scope : Scope} {L a : Addr} {cd : Value} {m : Str → Option Value} {x : Str} {pos : Pos} {v : Value} {Q : Value → Shared → Prop} {A : Around} {E : Value → Shared → Prop} (hn : s.heap.Ns L m) (hv : m x = some v) (h : Q v s)
    (hk : scope.kind = .function) (hl : (envOfC name scope L a cd).kindOf x = some .local) (hd : (x == ("__debug__" : Str)) = false) :
    wpAny M A (eval (.Name x pos) (envOfC name scope L a cd)) Q E s := wpAny_Name (wpAny_loadName_local hk hl hn hv h) hd
structure InitEnd (h₀ h' : Heap) (f : Str) (x C dx t1 : Addr) (v : Value) : Prop where
  keep : ∀ b o, h₀.get? b = some o → h'.get? b = some o
  obj : h'.get? x = some { cls := .ref C, dict := some dx, data := .fields #[.ref t1, .none, .none, .none, .bool false, .none] }
  dbig : x < dx
  ns : h'.Ns1 dx (fun y => if y = f then some v else none)
structure OwnMade (h h' : Heap) (f : Str) (e C d : Addr) (v : Value) : Prop where
  keep : ∀ b o, h.get? b = some o → h'.get? b = some o
  new : h.objs.size ≤ e
  obj : ∃ oe vs, h'.get? e = some oe ∧ oe.cls = .ref C ∧ oe.dict = some d ∧ oe.data = .fields vs ∧ vs[1]? = some .none
  dbig : h.objs.size ≤ d
  dne : d ≠ e
  ns : h'.Ns1 d (fun y => if y = f then some v else none)
section
variable {prog : Program} {w : World} {A : Around} {E : Value → Shared → Prop} {R : Result → Shared → Prop} {s : Shared} {K : Frag} {mg : Str → Option Value} {C fI : Addr} {x f : Str}
theorem Xc1.clsIn (T : Xc1 K mg x f C fI) : ∃ cd bm, PySem.W.clsIn K C = some cd ∧ cd.mro = .ref C :: bm ∧ excTail bmE bm = true := by
  obtain ⟨nm, q, N, bs, bm, sn, sub, ab, col, dd, k0, k1, k2, k3, k5, hC, hbm⟩ := T.cls
  exact ⟨{ name := nm, bases := bs, mro := .ref C :: bm, ns := N, qualname := q, hasDict := true, slotNames := sn, subclasses := sub, abstract := ab, collection := col, hasDel := false }, bm, by unfold PySem.W.clsIn; rw [hC] <;> rfl, rfl, hbm⟩
theorem Xc1.over (T : Xc1 K mg x f C fI) : excOver K C bmE = true := by
  obtain ⟨cd, bm, h1, h2, h3⟩ := T.clsIn
  unfold excOver
  rw [h1]
  show (match cd.mro with
      | Value.ref C' :: bm => C' == C && excTail bmE bm
      | x => false) = true
  rw [h2]
  simp [h3]
theorem Xc1.taker (T : Xc1 K mg x f C fI) : takerIn K C f = some none := by
  unfold takerIn
  rw [T.noN]; rfl
theorem one_ns (f : Str) (hsh : Int) (tok : Tok) (v : Value) (name : Str) : nsFind #[⟨hsh, .str f tok, v⟩] name = if name = f then some v else none := by
  unfold nsFind findBy
  by_cases h : name = f
  · subst h
    simp [Value.isStr]
  · rw [if_neg h]
    simp [Value.isStr, Ne.symm h]
theorem x1_init (T : Xc1 K mg x f C fI) {h₀ : Heap} {e t0 : Addr} {v : Value} (X : K.In s.heap) (k0 : ∀ b o, h₀.get? b = some o → s.heap.get? b = some o) (n0 : h₀.get? e = none) (sz : h₀.objs.size ≤ s.heap.objs.size) (X0 : K.In h₀) (hlim : s.heap.NoLimit) (hx : s.heap.get? e = some (excO C t0)) (hroom : A.depth < recursionLimit)
    (hq : ∀ h' tk dx, InitEnd h₀ h' f e C dx t0 v → R (.ok (.ret .none)) { s with heap := h', toks := tk }) :
    codeAny (model prog w) A (.call (.ref fI) ⟨[.ref e, v], []⟩) R s := by
  obtain ⟨oc, od, doc, pm, an, cdv, ct, kV, osl, p1, p2, q1, q2, q3, q4, qn, ho, hcd, hba⟩ := T.fn
  have ls : List.lookup f (iS f).names = some .local := by
    unfold iS
    rw [List.lookup_cons, show (f == (PySem.Str.ofString "self" : Str)) = false from by simpa using T.fs, List.lookup_cons, beq_self_eq_true]
  have l0 : List.lookup ("self" : Str) (iS f).names = some .local := rfl
  refine Att.call_fn (binds := [("self", .ref e), (f, v)]) X hlim ho hcd hroom (BindsTo.of_eq (hba _ _)) ?_ (fun s₁ IC => ?_) rfl rfl rfl
  · simp [ls, l0]
  obtain ⟨h₁, tk₁, rfl⟩ := IC.toInCall.same
  have k : ∀ b o, s.heap.get? b = some o → h₁.get? b = some o := IC.toInCall.keep
  have hn := IC.toInCall.ns
  have hxL : e ≠ s.heap.objs.size := Nat.ne_of_lt (Heap.lt_size hx)
  have X₁ : K.In h₁ := X.keeps k
  have hx₁ := k _ _ hx
  show wpAny _ _ (execs _ _) _ _ _
  have kf : (envOfC qn (iS f) s.heap.objs.size fI cdv).kindOf f = some .local := by
    first | exact ls | (simp [envOfC, Env.kindOf]; exact ls)
  have mf : bindL (envOfC qn (iS f) s.heap.objs.size fI cdv).kindOf [("self", .ref e), (f, v)] (fun _ => none) f = some v := by
    unfold bindL
    first
      | (simp [kf]; done)
      | (unfold bindL; simp [kf]; done)
      | simp [bindL, kf, T.fs]
  have ms : bindL (envOfC qn (iS f) s.heap.objs.size fI cdv).kindOf [("self", .ref e), (f, v)] (fun _ => none) "self" = some (.ref e) := by
    have k1 : (envOfC qn (iS f) s.heap.objs.size fI cdv).kindOf "self" = some .local := l0
    have fs := Ne.symm T.fs
    simp [bindL, kf, k1, fs]
  refine wpAny_execs_cons (plainObj_wpAny_Assign_Attribute ?_ ?_)
  · refine ldC (v := v) hn mf (ldC (v := .ref e) hn ms ?_ rfl l0 (by decide)) rfl kf T.fd
    refine set_plain X₁ (ox := excO C t0) (od := none) ⟨hx₁, rfl, rfl, trivial⟩ T.sa ?_
    have fr : Fr h₀ s.heap.objs.size h₁ _ := ⟨hn, fun b o q => k b o (k0 b o q), sz⟩
    refine osa_exc0 (pre := []) (post := []) (x := e) (t := t0) (c2 := .none) (es := [⟨_, _, v⟩]) (n := 1) (od' := dictOf [⟨_, _, v⟩] 1) (h₀ := h₀) PySem.F.store_Exception fr ?_ X₁ T.over T.taker T.hdC (fun p hp => nomatch hp) (fun p hp => nomatch hp) rfl rfl (by rw [List.length_singleton]; decide) ?_
    · intro p hp
      have := List.mem_singleton.mp hp
      subst this
      exact ⟨hx₁, hxL, n0⟩
    · intro dx h₃ fr3 nw lt
      show wpAny _ _ (execs _ _) _ _ _
      refine wpAny_execs_nil (hq h₃ _ dx ⟨fr3.keep, (nw _ (List.mem_cons_of_mem _ List.mem_cons_self)).1, lt _ List.mem_cons_self, ?_⟩)
      refine ⟨_, _, _, (nw _ List.mem_cons_self).1, rfl, ?_, ?_, fun name => one_ns _ _ _ _ _⟩
      · intro d hd
        have hd := Array.mem_toList_iff.mpr hd
        have := List.mem_singleton.mp hd
        subst this
        exact ⟨_, _, rfl⟩
      · exact List.pairwise_singleton _ _
  · rfl
theorem x1_made (T : Xc1 K mg x f C fI) {v : Value} (X : K.In s.heap) (hlim : s.heap.NoLimit) (hroom : A.depth + 1 < recursionLimit)
    (hq : ∀ h' tk e d, OwnMade s.heap h' f e C d v → R (.ok (.ret (.ref e))) { s with heap := h', toks := tk }) :
    codeAny (model prog w) A (.call (.ref C) ⟨[v], []⟩) R s := by
  obtain ⟨nm, q, N, bs, bm, sn, sub, ab, col, dd, k0, k1, k2, k3, k5, hC, hbm⟩ := T.cls
  obtain ⟨hp, g, dr, tk, os⟩ := s
  have ka : ∀ b o, hp.get? b = some o → (hp.push (kdv_tup [v])).get? b = some o := fun b o e => Heap.get?_push_of_some _ e
  have kb : ∀ b o, (hp.push (kdv_tup [v])).get? b = some o → ((hp.push (kdv_tup [v])).push (excO C hp.objs.size)).get? b = some o := fun b o e => Heap.get?_push_of_some _ e
  have k : ∀ b o, hp.get? b = some o → ((hp.push (kdv_tup [v])).push (excO C hp.objs.size)).get? b = some o := fun b o e => kb b o (ka b o e)
  have hget : ((hp.push (kdv_tup [v])).push (excO C hp.objs.size)).get? (hp.objs.size + 1) = some (excO C hp.objs.size) := by heap_get
  have sz1 : (hp.push (kdv_tup [v])).objs.size = hp.objs.size + 1 := by first | rfl | simp [Heap.push] | (rw [Heap.size_push])
  have sz2 : ((hp.push (kdv_tup [v])).push (excO C hp.objs.size)).objs.size = hp.objs.size + 2 := by first | rfl | simp [Heap.push] | (rw [Heap.size_push, Heap.size_push])
  have hn0 : (hp.push (kdv_tup [v])).get? (hp.objs.size + 1) = none := by
    cases e : (hp.push (kdv_tup [v])).get? (hp.objs.size + 1) with
    | none => rfl
    | some o =>
      have := Heap.lt_size e
      rw [sz1] at this
      exact absurd this (Nat.lt_irrefl _)
  refine call_own PySem.F.excBase_Exception (fun X => excTail_contains X bm hbm) (X _ _ hC) (looks_findIn X T.iC) (fun self => bind_fn X self T.tC) (one_size v) ?_
  refine x1_init (s := ⟨(hp.push (kdv_tup [v])).push (excO C hp.objs.size), g, dr, tk, os⟩) T (h₀ := hp.push (kdv_tup [v])) (X.keeps k) kb hn0 (by show (hp.push (kdv_tup [v])).objs.size ≤ ((hp.push (kdv_tup [v])).push (excO C hp.objs.size)).objs.size; rw [sz1, sz2]; omega) (X.keeps ka) (hlim.keeps k) hget ?_ fun h' tk' dx ⟨k', hx, dn, hns⟩ => ?_
  · show A.depth + 1 < recursionLimit
    exact hroom
  · exact ⟨rfl, hq h' tk' (hp.objs.size + 1) dx ⟨fun b o e => k' b o (ka b o e), Nat.le_succ _, ⟨_, _, hx, rfl, rfl, rfl, rfl⟩, Nat.le_of_lt (Nat.lt_trans (Nat.lt_succ_self _) dn), Nat.ne_of_gt dn, hns⟩⟩
end
end Pv
end

section
set_option autoImplicit false
namespace Pv
open PySem PySem.Spec PyProof.Rows L2

theorem relO_one {v : V} {v' : Value} (r : RelV v v') (f n : Str) : L2.RelO (List.lookup n [(f, v)]) (if n = f then some v' else none) := by
  by_cases hw : n = f
  · subst hw
    rw [if_pos rfl, List.lookup_cons, beq_self_eq_true]
    exact r
  · rw [if_neg hw, List.lookup_cons, show (n == f) = false from by simpa using hw]
    trivial
section
variable {X : Cx} {x f : Str} {Ca fI : Addr}
def tMk1 (Ca : Addr) (f : Str) (ta : TA) : L2.St → Hp → XK → Prop := fun σ H Q => ta σ H fun vs H1 => ∃ v, vs = [v] ∧ ∀ d, H1 d = none → Q (.ref Ca) (some d) (upd H1 d (.xd [(f, v)]))
open PySem.W PySem.Calls PySem.HandSPX in
theorem pmk1 {a : Expr} {ta : TA} {p pos : Pos} {k : Nat} (T : Xc1 X.K X.mg x f Ca fI) (hr : Room k X.A) (ha : PA X [a] ta) (hg : Gl X x) (hd : (x == ("__debug__" : Str)) = false)
    (he : starEach (a :: []) X.env = (false, eval a X.env) :: starEach [] X.env) (hpl : (backTo pos (starEach [] X.env)).any (·.1) = false) :
    PMk X (.Call (.Name x p) [a] [] pos) (tMk1 Ca f ta) := by
  intro pins s σ H Q I h
  refine wpAny_Call_Name_kw (ld_glob I hg T.gC ?_ hd)
  refine PySem.W.callWith_K (h₀ := X.base) I.ok.mod.kin T.kC (thn (ha.run pos pins s σ H _ I h) fun us s1 hh => ?_) he hpl
  obtain ⟨vs, H1, I1, r1, v, ev, q1⟩ := hh
  subst ev
  refine ⟨I1.kIn, ?_⟩
  cases r1 with
  | cons rv rn =>
    rename_i v' us'
    cases rn
    show wpAny _ _ (call (.ref Ca) [v']) _ _ _
    have hlim := I1.nolimit
    obtain ⟨hp, g, dr, tk, os⟩ := s1
    refine wpAny_call (x1_made T I1.kIn hlim (by have := hr.dp; omega) fun h' tk' e d M => ?_)
    show MkP X pins σ Q (.ref e) ⟨h', g, dr, tk', os⟩
    obtain ⟨oe, fv, hoe, hc, hdd, hdat, h1⟩ := M.obj
    have hns := M.ns
    obtain ⟨G', g1, g2⟩ := restrict h' fun b => decide (b ≠ e)
    have gk : ∀ b, b ≠ e → G'.get? b = h'.get? b := fun b hb => g1 b (decide_eq_true hb)
    have ge : G'.get? e = none := g2 e (by simp)
    have old : ∀ b o, hp.get? b = some o → G'.get? b = some o := fun b o q => (gk b (Nat.ne_of_lt (Nat.lt_of_lt_of_le (Heap.lt_size q) M.new))).trans (M.keep b o q)
    have ob : ObjOk X.prog X.w (upd H1 d (.xd [(f, v)])) G' d (.xd [(f, v)]) :=
      ⟨_, hns.at (fun o q => (gk d M.dne).trans q), fun n => relO_one rv f n⟩
    have J : Inv X pins σ (upd H1 d (.xd [(f, v)])) ⟨G', g, dr, tk', os⟩ := I1.laid (t' := tk') old M.dbig ob
    refine ⟨e, oe, fv, ⟨G', g, dr, tk', os⟩, _, .ref Ca, some d, rfl, J, fun b o q => ?_, ge, hoe, ⟨hc, hdd⟩, hdat, h1, ?_, rfl, I1.bare, raises_own T.exC T.tyC, q1 d (I1.hok.fresh M.dbig)⟩
    · by_cases hb : b = e
      · have q' : G'.get? b = some o := q
        rw [hb, ge] at q'; cases q'
      · exact (gk b hb).symm.trans q
    · rw [upd_ne (Ne.symm M.dne)]
      exact I1.hok.fresh M.new
structure Xc0 (K : PySem.W.Frag) (mg : Str → Option Value) (x : Str) (C : Addr) : Prop where
  gC : mg x = some (.ref C)
  xI : PySem.W.excIn K C bmE "Exception.__new__" = true
  kC : PySem.W.keepIn K (.ref C) = true
  exC : PySem.W.subIn K (.ref C) (.type "BaseException") = some true
  tyC : PySem.W.typeIn K (.ref C) = some (.type "type")
end
section
variable {X : Cx} {C : Ct} {W : WX} {Ow Ow' OwL : List Nat} {a e b : Expr} {es : List Expr} {i ia ib : Ex} {is : Exs} {pos pos' p apos : Pos} {x f : Str} {Ca fI : Addr} {k n : Nat}
theorem Ss.rais1 (c : Nat) (hc : X.calm = true) (tk : Takes X W) (T : Xc1 X.K X.mg x f Ca fI) (hx : C.xc[c]? = some (Ca, some f)) (hr : Room k X.A) (hg : Gl X x) (hd : (x == ("__debug__" : Str)) = false) (ha : Es X C Ow a ia)
    (he : starEach (a :: []) X.env = (false, eval a X.env) :: starEach [] X.env) (hpl : (backTo pos (starEach [] X.env)).any (·.1) = false) :
    Ss X C W Ow Ow' OwL (.Raise (some (.Call (.Name x p) [a] [] pos)) none pos') (.rais c (.cons ia .nil)) :=
  ⟨ps_con (ps_raise hc tk (pmk1 T hr (pa_cons ha.run pa_nil he) hg hd he hpl)) fun D σ H ⟨T, F, σe, g, fl, g', r, m, q⟩ => by
    unfold Pv.run at m
    obtain ⟨vs, g1, m1, m2⟩ := bind_eq_ok m
    cases m2
    unfold evs at m1
    obtain ⟨v, g2, m3, m4⟩ := bind_eq_ok m1
    obtain ⟨ws, g3, m5, m6⟩ := bind_eq_ok m4
    unfold evs at m5
    cases m5
    cases m6
    refine ⟨T, F, σe, g, v, _, r, m3, fun F1 H1 y s1 r1 h1 => ⟨y, rfl, fun d hd => ?_⟩⟩
    exact q (F1.put d _) Ow σ _ (.ref Ca) (some d) (s1.trans (Fsub.put (r1.fn hd))) (r1.laid hd) ⟨Ca, some f, hx, rfl, d, v, y, rfl, rfl, upd_same, h1.mono (Fsub.put (r1.fn hd)) _ _⟩⟩
def pmo : Option (List Nat) → List D → List D
  | some p, vs => pm p vs
  | none, vs => vs
def callM (Φ : Fns) (f : Nat) (as : Exs) (perm : Option (List Nat)) (σ : Sl) (g : G) : Res D := match evs Φ as σ g with
  | .ok vs g => Φ f (pmo perm vs) g
  | _ => .no
def tCx (C : Ct) (W : WX) (Ow : List Nat) (m : Sl → G → Res D) : TE := fun σ H Q => ∃ T F σe g, R C Ow T F σe g σ H ∧
  ((∃ v g', m σe g = .ok v g' ∧ ∀ F' H' x, Fsub F F' → R C Ow T F' σe g' σ H' → Rel C.K F' v x → Q x H') ∨
   (∃ c ws g', m σe g = .exc c ws g' ∧ ∀ F' H' cls d, Fsub F F' → R C Ow T F' σe g' σ H' → XR C F' c ws cls d → W cls d σ H'))
structure Ecx (X : Cx) (C : Ct) (W : WX) (Ow : List Nat) (e : Expr) (m : Sl → G → Res D) : Prop where
  run : PE X e (tCx C W Ow m)
def EndB (C : Ct) (k : Kx) (m : Sl → G → Res D) (s : Sm) : Prop := ∀ σ g fl g', Pv.run C.Φ C.fu s σ g = .ok fl g' → endX k σ (m σ g) = .ok fl g'
theorem Ss.retX {m : Sl → G → Res D} {s : Sm} (h : Ecx X C W Ow e m) (hb : EndB C .ret m s) : Ss X C W Ow Ow' OwL (.Return (some e) pos) s := ⟨ps_con (ps_ret h.run) fun D σ H ⟨T, F, σe, g, fl, g', r, mm, q⟩ => by
  have z := hb _ _ _ _ mm
  refine ⟨T, F, σe, g, r, ?_⟩
  cases hm : m σe g with
  | no => rw [hm] at z; cases z
  | ok v g1 => rw [hm] at z; cases z; exact .inl ⟨v, _, rfl, fun F1 H1 x s1 r1 h1 => q F1 _ σe σ H1 x s1 r1 h1⟩
  | exc c ws g1 => rw [hm] at z; cases z; exact .inr ⟨c, ws, _, rfl, fun F1 H1 cls d s1 r1 h1 => q F1 Ow σ H1 cls d s1 r1 h1⟩⟩
theorem Ss.exX {m : Sl → G → Res D} {s : Sm} (h : Ecx X C W Ow e m) (hb : EndB C .ex m s) (hs : swapsWith e none pos.line X.env = pure false) : Ss X C W Ow Ow OwL (.Expr e pos) s := ⟨ps_con (ps_expr h.run hs) fun D σ H ⟨T, F, σe, g, fl, g', r, mm, q⟩ => by
  have z := hb _ _ _ _ mm
  refine ⟨T, F, σe, g, r, ?_⟩
  cases hm : m σe g with
  | no => rw [hm] at z; cases z
  | ok v g1 => rw [hm] at z; cases z; exact .inl ⟨v, _, rfl, fun F1 H1 x s1 r1 _ => q F1 σ H1 s1 r1⟩
  | exc c ws g1 => rw [hm] at z; cases z; exact .inr ⟨c, ws, _, rfl, fun F1 H1 cls d s1 r1 h1 => q F1 Ow σ H1 cls d s1 r1 h1⟩⟩
theorem Ss.setX {m : Sl → G → Res D} {s : Sm} {tg : Expr} {t : List Nat} (h : Ecx X C W Ow e m) (hb : EndB C (.set t) m s) (hg : Eg X C Ow tg t) (hs : swapsWithSole [tg] e pos.line X.env = pure false) (hw : swappedStores [tg] e X.env = pure none) (h1 : (assignEach [tg] X.env).map (·.2) = [assign tg X.env]) :
    Ss X C W Ow Ow OwL (.Assign [tg] e pos) s := ⟨ps_con (ps_asg h.run hg.run hs hw h1) fun D σ H ⟨T, F, σe, g, fl, g', r, mm, q⟩ => by
  have z := hb _ _ _ _ mm
  refine ⟨T, F, σe, g, r, ?_⟩
  cases hm : m σe g with
  | no => rw [hm] at z; cases z
  | ok v g1 =>
    rw [hm] at z
    obtain ⟨σe', g2, m3, m4⟩ := bind_eq_ok (show (lift (setT t v σe) g1).bind _ = _ from z)
    obtain ⟨m5, e5⟩ := lift_eq_ok m3
    subst e5
    cases m4
    exact .inl ⟨v, _, rfl, fun F1 H1 x s1 r1 h1 => ⟨T, F1, σe, _, v, σe', r1, h1, m5, fun σ' r' _ => q F1 σ' H1 s1 r'⟩⟩
  | exc c ws g1 => rw [hm] at z; cases z; exact .inr ⟨c, ws, _, rfl, fun F1 H1 cls d s1 r1 h1 => q F1 Ow σ H1 cls d s1 r1 h1⟩⟩
def tupR (c : Str) : Res D → Res D
  | .ok v g => .ok (.tuple [.str c, v]) g
  | .exc n ws g => .exc n ws g
  | .no => .no
theorem endB_call {kx : Kx} {f : Nat} {perm : Option (List Nat)} : EndB C kx (callM C.Φ f is perm) (.callX kx f is perm) := fun σ g fl g' h => by
  unfold Pv.run at h
  obtain ⟨vs, g1, m1, m2⟩ := bind_eq_ok h
  unfold callM
  rw [m1]
  cases perm <;> exact m2
def methM (Φ : Fns) (cn f : Nat) (o : Ex) (as : Exs) (σ : Sl) (g : G) : Res D := match ev Φ o σ g with
  | .ok x g => if isOb cn x then match evs Φ as σ g with
    | .ok vs g => Φ f (x :: vs) g
    | _ => .no
    else .no
  | _ => .no
def mkM (Φ : Fns) (cn f : Nat) (as : Exs) (σ : Sl) (g : G) : Res D := match evs Φ as σ g with
  | .ok vs (some st) => Φ f (objD cn [] :: vs) (some st)
  | _ => .no
theorem endB_mk {kx : Kx} {cn f : Nat} : EndB C kx (mkM C.Φ cn f is) (.mkX kx cn f is) := fun σ g fl g' h => by
  unfold Pv.run at h
  obtain ⟨vs, g1, m1, m2⟩ := bind_eq_ok h
  cases g1 with
  | none => cases m2
  | some st =>
    unfold mkM
    rw [m1]
    exact m2
theorem callM_ok {Φ : Fns} {f : Nat} {as : Exs} {perm : Option (List Nat)} {σ : Sl} {g : G} {r : Res D} (h : callM Φ f as perm σ g = r) (hn : r ≠ .no) : ∃ ds g1, evs Φ as σ g = .ok ds g1 ∧ Φ f (pmo perm ds) g1 = r := by
  unfold callM at h
  cases e : evs Φ as σ g with
  | ok ds g1 => rw [e] at h; exact ⟨ds, g1, rfl, h⟩
  | exc c vs g1 => rw [e] at h; exact (hn h.symm).elim
  | no => rw [e] at h; exact (hn h.symm).elim
theorem R.callX {T : Hp} {F : Fz} {σe : Sl} {g : G} {σ : L2.St} {H : Hp} {vs : List V} {ds : List D} {Q : VK} {E : XK} {fi : Nat} (r : R C Ow T F σe g σ H) (h : RelL C.K F ds vs) (hn : vs.length = n)
    (q : (∃ v g', C.Φ fi ds g = .ok v g' ∧ ∀ F' H' x, Fsub F F' → R C Ow T F' σe g' σ H' → Rel C.K F' v x → Q x H') ∨ (∃ c ws g', C.Φ fi ds g = .exc c ws g' ∧ ∀ F' H' cls d, Fsub F F' → R C Ow T F' σe g' σ H' → XR C F' c ws cls d → E cls d H')) : spS C (C.Φ fi) n vs H Q E := by
  rcases q with ⟨v, g', hf, q⟩ | ⟨c, ws, g', hf, q⟩
  · exact r.call h hn hf q
  · exact r.callE h hn hf q
variable {CX : CXT} {fa : Addr} {fd : FuncData} {ps : List Str}
theorem out_tr {T : Hp} {F F1 : Fz} {σe : Sl} {σ : L2.St} {res res' : Res D} {Q : VK} (s1 : Fsub F F1) (e : res' = res)
    (q : (∃ v g', res' = .ok v g' ∧ ∀ F' H' x, Fsub F F' → R C Ow T F' σe g' σ H' → Rel C.K F' v x → Q x H') ∨ (∃ c ws g', res' = .exc c ws g' ∧ ∀ F' H' cls d, Fsub F F' → R C Ow T F' σe g' σ H' → XR C F' c ws cls d → W cls d σ H')) :
    (∃ v g', res = .ok v g' ∧ ∀ F' H' x, Fsub F1 F' → R C Ow T F' σe g' σ H' → Rel C.K F' v x → Q x H') ∨ (∃ c ws g', res = .exc c ws g' ∧ ∀ F' H' cls d, Fsub F1 F' → R C Ow T F' σe g' σ H' → XR C F' c ws cls d → WE W σ cls d H') := by
  subst e
  rcases q with ⟨v, g', hf, q⟩ | ⟨c, ws, g', hf, q⟩
  · exact .inl ⟨v, g', hf, fun F' H' x s r h => q F' H' x (s1.trans s) r h⟩
  · exact .inr ⟨c, ws, g', hf, fun F' H' cls d s r h => q F' H' cls d (s1.trans s) r h⟩
theorem out_ne {T : Hp} {F : Fz} {σe : Sl} {σ : L2.St} {res : Res D} {Q : VK}
    (q : (∃ v g', res = .ok v g' ∧ ∀ F' H' x, Fsub F F' → R C Ow T F' σe g' σ H' → Rel C.K F' v x → Q x H') ∨ (∃ c ws g', res = .exc c ws g' ∧ ∀ F' H' cls d, Fsub F F' → R C Ow T F' σe g' σ H' → XR C F' c ws cls d → W cls d σ H')) : res ≠ .no := by
  rcases q with ⟨v, g', hf, _⟩ | ⟨c, ws, g', hf, _⟩ <;> rw [hf] <;> exact fun z => nomatch z
theorem Ecx.call (fi : Nat) (tk : Takes X W) (F : FnG X.prog X.w X.K X.mg X.base (L2.CX X.prog X.w) k fa fd ps (spS C (C.Φ fi) ps.length)) (hG : X.A.guards = some []) (hr : Room k X.A) (hg : Gl X x) (hm : X.mg x = some (.ref fa)) (hk : PySem.W.keepIn X.K (.ref fa) = true) (hb : Binds X.K fd ps [])
    (ha : Ea X C Ow (e :: es) is) (hdb : (x == ("__debug__" : Str)) = false) (he : starEach (e :: es) X.env = (false, eval e X.env) :: starEach es X.env) (hpl : (backTo pos (starEach es X.env)).any (·.1) = false) (hl : is.len = ps.length) :
    Ecx X C W Ow (.Call (.Name x p) (e :: es) [] pos) (callM C.Φ fi is none) := by
  refine ⟨⟨fun pins s σ H Q I h => ?_⟩⟩
  refine wpAny_Call_Name_kw (ld_glob I hg hm ?_ hdb)
  obtain ⟨T, F0, σe, g, r, hout⟩ := h
  obtain ⟨ds, g1, m1, m⟩ := callM_ok (r := callM C.Φ fi is none σe g) rfl (out_ne hout)
  refine PySem.W.callWith_K (h₀ := X.base) I.ok.mod.kin hk (thn (ha.run.run pos pins s σ H (fun vs H' => vs.length = ps.length ∧ spS C (C.Φ fi) ps.length vs H' Q (WE W σ)) I ⟨T, F0, σe, g, ds, g1, r, m1, fun F1 H1 xs s1 r1 q1 => ?_⟩) fun us s1 ⟨vs, H1, I1, rv, hn, hsp⟩ => ⟨I1.kIn, ?_⟩) he hpl
  · have hn : xs.length = ps.length := by rw [← q1.length, evs_len _ _ _ _ _ _ m1, hl]
    exact ⟨hn, r1.callX q1 hn (out_tr s1 m.symm hout)⟩
  · have hl : us.length = ps.length := by rw [← rv.length]; exact hn
    have bt := hb s1 us I1.kIn (by rw [List.append_nil]; exact hl)
    rw [List.append_nil] at bt
    refine wpAny_call (codeAny_mono (run_fnG F hG hr (passAt tk σ) I1 bt rv hsp) fun r s' hq => ?_)
    cases r with
    | error e => exact hq
    | ok fl =>
      cases fl with
      | ret u => exact hq
      | next => exact False.elim hq
      | brk => exact False.elim hq
      | cont => exact False.elim hq
end
end Pv
end

section
set_option autoImplicit false
namespace Pv
open PySem PySem.Spec PyProof.Rows L2
section
variable {X : Cx} {C : Ct} {W : WX} {Ow Ow' OwL : List Nat} {a e b o : Expr} {es : List Expr} {i ia ib io : Ex} {is : Exs} {pos pos' p apos : Pos} {x : Str} {k n : Nat} {CX : CXT} {fa Ca : Addr} {fd : FuncData} {ps nm : List Str} {m : Str}
theorem mkM_ok {Φ : Fns} {cn f : Nat} {as : Exs} {σ : Sl} {g : G} {r : Res D} (h : mkM Φ cn f as σ g = r) (hn : r ≠ .no) : ∃ ds st, evs Φ as σ g = .ok ds (some st) ∧ Φ f (objD cn [] :: ds) (some st) = r := by
  unfold mkM at h
  cases e : evs Φ as σ g with
  | exc c vs g1 => rw [e] at h; exact (hn h.symm).elim
  | no => rw [e] at h; exact (hn h.symm).elim
  | ok ds g1 =>
    cases g1 with
    | none => rw [e] at h; exact (hn h.symm).elim
    | some st => rw [e] at h; exact ⟨ds, st, rfl, h⟩
theorem out_mk {T : Hp} {F F1 : Fz} {σe : Sl} {σ : L2.St} {fi cn : Nat} {ds : List D} {st : Dk} {res' : Res D} {Q : VK} {x : Addr} (s1 : Fsub F F1) (e : res' = C.Φ fi (objD cn [] :: ds) (some st))
    (q : (∃ v g', res' = .ok v g' ∧ ∀ F' H' x, Fsub F F' → R C Ow T F' σe g' σ H' → Rel C.K F' v x → Q x H') ∨ (∃ c ws g', res' = .exc c ws g' ∧ ∀ F' H' cls d, Fsub F F' → R C Ow T F' σe g' σ H' → XR C F' c ws cls d → W cls d σ H')) :
    (∃ v g', C.Φ fi (objD cn [] :: ds) (some st) = .ok v g' ∧ ∀ F' H', Fsub F1 F' → R C Ow T F' σe g' σ H' → Rel C.K F' v (.ref x) → Q (.ref x) H') ∨
      (∃ c ws g' st', some st = some st' ∧ C.Φ fi (objD cn [] :: ds) (some st) = .exc c ws g' ∧ ∀ F' H' cls d, Fsub F1 F' → R C Ow T F' σe g' σ H' → XR C F' c ws cls d → WE W σ cls d H') := by
  subst e
  rcases q with ⟨v, g', hf, q⟩ | ⟨c, ws, g', hf, q⟩
  · exact .inl ⟨v, g', hf, fun F' H' s r h => q F' H' _ (s1.trans s) r h⟩
  · exact .inr ⟨c, ws, g', st, rfl, hf, fun F' H' cls d s r h => q F' H' cls d (s1.trans s) r h⟩
theorem Ecx.callK0 {ks : List Str} {kws : List Keyword} {perm : List Nat} {iks : Exs} (fi : Nat) (tk : Takes X W) (F : FnG X.prog X.w X.K X.mg X.base (L2.CX X.prog X.w) k fa fd ps (spS C (C.Φ fi) ps.length)) (hG : X.A.guards = some []) (hr : Room k X.A) (hg : Gl X x) (hm : X.mg x = some (.ref fa)) (hk : PySem.W.keepIn X.K (.ref fa) = true) (hb : KB X.K fd ps ks 0 perm)
    (hkw : Ek X C Ow kws iks) (hall : (backToKw pos (keywordEach kws X.env)).all (·.1.isSome) = true) (hks : (backToKw pos (keywordEach kws X.env)).filterMap (·.1) = ks)
    (hdb : (x == ("__debug__" : Str)) = false)
    (hpl : ((backTo pos (starEach [] X.env)).any (·.1) || (backToKw pos (keywordEach kws X.env)).any (·.1.isNone)) = false) (h2 : iks.len = ks.length) (h3 : ∀ {α : Type} (l : List α), l.length = ks.length → (pm perm l).length = ps.length) :
    Ecx X C W Ow (.Call (.Name x p) [] kws pos) (callM C.Φ fi iks (some perm)) := by
  refine ⟨⟨fun pins s σ H Q I h => ?_⟩⟩
  refine wpAny_Call_Name_kw (ld_glob I hg hm ?_ hdb)
  obtain ⟨T, F0, σe, g, r, hout⟩ := h
  obtain ⟨ds, g1, m1, m⟩ := callM_ok (r := callM C.Φ fi iks (some perm) σe g) rfl (out_ne hout)
  refine PySem.W.callWith_KW0 (h₀ := X.base) I.ok.mod.kin hk hall (thn (hkw.run.run pos pins s σ H (fun zs H2 => zs.length = ks.length ∧ spS C (C.Φ fi) ps.length (Pv.pm perm zs) H2 Q (WE W σ)) I ⟨T, F0, σe, g, ds, g1, r, m1, fun F1 H1 xs s1 r1 q1 => ?_⟩) fun ws s2 ⟨zs, H2, I2, rz, hz, hsp⟩ => ⟨I2.kIn, ?_⟩) hpl
  · have e1 : xs.length = ks.length := by rw [← q1.length, evs_len _ _ _ _ _ _ m1, h2]
    exact ⟨e1, r1.callX (q1.pm perm) (h3 _ e1) (out_tr s1 m.symm hout)⟩
  · rw [hks]
    have bt := hb.to s2 [] ws I2.kIn rfl (by rw [← rz.length]; exact hz)
    refine wpAny_call (codeAny_mono (run_fnG F hG hr (passAt tk σ) I2 bt (Vals.pm rz perm) hsp) fun r s' hq => ?_)
    cases r with
    | error e => exact hq
    | ok fl =>
      cases fl with
      | ret u => exact hq
      | next => exact False.elim hq
      | brk => exact False.elim hq
      | cont => exact False.elim hq
theorem Ecx.make (cn fi : Nat) (tk : Takes X W) (hc : C.sc.2.1[cn]? = some (Ca, nm)) (M : Mk X.K Ca fa) (F : FnG X.prog X.w X.K X.mg X.base (L2.CX X.prog X.w) k fa fd ps (spI C (C.Φ fi) cn ps.length)) (hG : X.A.guards = some []) (hr : Room (k + 1) X.A) (hg : Gl X x) (hm : X.mg x = some (.ref Ca)) (hb : Binds X.K fd ps [])
    (ha : Ea X C Ow (e :: es) is) (hdb : (x == ("__debug__" : Str)) = false) (he : starEach (e :: es) X.env = (false, eval e X.env) :: starEach es X.env) (hpl : (backTo pos (starEach es X.env)).any (·.1) = false) (hl : is.len + 1 = ps.length) :
    Ecx X C W Ow (.Call (.Name x p) (e :: es) [] pos) (mkM C.Φ cn fi is) := by
  refine ⟨⟨fun pins s σ H Q I h => ?_⟩⟩
  refine wpAny_Call_Name_kw (ld_glob I hg hm ?_ hdb)
  obtain ⟨T, F0, σe, g, r, hout⟩ := h
  obtain ⟨ds, st, m1, m2⟩ := mkM_ok (r := mkM C.Φ cn fi is σe g) rfl (out_ne hout)
  refine PySem.W.callWith_K (h₀ := X.base) I.ok.mod.kin M.kp (thn (ha.run.run pos pins s σ H (fun vs H1 => ∀ x dx, H1 x = none → H1 dx = none → dx ≠ x → spI C (C.Φ fi) cn ps.length (.ref x :: vs) (upd (upd H1 dx (.own x)) x (.ins Ca dx [])) (fun v H2 => v = .non ∧ Q (.ref x) H2) (WE W σ)) I
    ⟨T, F0, σe, g, ds, some st, r, m1, fun F1 H1 xs s1 r1 q1 x dx n1 n2 n3 => ?_⟩) fun us s1 ⟨vs, H1, I1, rv, hsp⟩ => ⟨I1.kIn, ?_⟩) he hpl
  · have hn : xs.length + 1 = ps.length := by rw [← q1.length, evs_len _ _ _ _ _ _ m1, hl]
    exact r1.make q1 hn hc n1 n2 n3 (out_mk s1 m2.symm hout)
  · exact run_makeG M F hG hr hb (passAt tk σ) I1 rv hsp
end
end Pv
end

section
set_option autoImplicit false
namespace Pv
open PySem PySem.Spec PyProof.Rows L2

def Ct.sui (C : Ct) (i : Nat) (a : Addr) (xf : Option (Addr × Str × D)) : Ct := { C with slf := some (i, a), xf := xf }
def XF (C : Ct) (c : Nat) (vs : List D) (cls : Value) (d : Option Addr) (xf : Option (Addr × Str × D)) : Prop := ∃ Ca fo, C.xc[c]? = some (Ca, fo) ∧ cls = .ref Ca ∧ match fo with
  | none => d = none ∧ vs = [] ∧ xf = none
  | some f => ∃ dd v, d = some dd ∧ vs = [v] ∧ xf = some (dd, f, v)
section
variable {X : Cx} {C : Ct} {W : WX} {Ow Ow1 Ow' OwL : List Nat} {T : Hp} {F F' : Fz} {σe : Sl} {g g' : G} {σ : L2.St} {H H' : Hp} {i : Nat} {a : Addr} {xf : Option (Addr × Str × D)}
theorem R.outS (h1 : C.xf = none) (r : R (C.sui i a xf) [] T F σe g σ H) : R C [] T F σe g σ H :=
  ⟨r.sub, r.sc, r.grow, r.new, r.keep, r.dnew, r.len, r.fz, r.ow, r.inj, r.dk, r.hold, (fun j b e z => absurd z List.not_mem_nil), (fun dd f v e => by rw [h1] at e; cases e), r.tups⟩
theorem R.inS (r : R C [] T F σe g σ H) (hl : i < σ.length) (hx : ∀ dd f v, xf = some (dd, f, v) → ∃ x, F.h dd = some (.xd [(f, x)]) ∧ Rel C.K F v x) : R (C.sui i a xf) [i] T F (σe.set i none) g (σ.set i (some (.ref a))) H := by
  refine ⟨r.sub, r.sc, r.grow, r.new, r.keep, r.dnew, by rw [List.length_set, List.length_set]; exact r.len, fun j w e n => ?_, fun j w e n => ?_, fun j k b hj hk h1 => ?_, r.dk, fun b o e => ?_, fun j b e _ => ?_, hx, r.tups⟩
  · have hj : j ≠ i := fun z => n (z ▸ List.mem_singleton.mpr rfl)
    rw [List.getElem?_set_ne (Ne.symm hj)] at e ⊢
    exact r.fz j w e List.not_mem_nil
  · have := List.mem_singleton.mp n
    subst this
    rw [List.getElem?_set] at e
    simp at e
  · have := List.mem_singleton.mp hj
    subst this
    obtain ⟨w, e⟩ := h1
    rw [List.getElem?_set] at e
    simp at e
  · obtain ⟨e1, e2, e3, e4, e5⟩ := r.hold b o e
    refine ⟨e1, e2, e3, e4, fun j w hj z => ?_⟩
    have := List.mem_singleton.mp hj
    subst this
    rw [List.getElem?_set] at z
    simp at z
  · cases e
    rw [List.getElem?_set_self hl]
def tSui (C : Ct) (i : Nat) (sel : Nat → Bool) (h : Nat → List D → Sm) : Addr → Value → Option Addr → TS := fun a cls d D σ H => ∃ c vs xf, XF C c vs cls d xf ∧ sel c = true ∧ tSt (C.sui i a xf) (fun _ _ _ _ => False) [i] [] [] (Pv.run C.Φ C.fu (h c vs)) D σ H
theorem XR.toXF {c : Nat} {vs : List D} {cls : Value} {d : Option Addr} (h : XR C F c vs cls d) : ∃ xf, XF C c vs cls d xf ∧ ∀ dd f v, xf = some (dd, f, v) → ∃ x, F.h dd = some (.xd [(f, x)]) ∧ Rel C.K F v x := by
  obtain ⟨Ca, fo, h1, h2, h3⟩ := h
  cases fo with
  | none => exact ⟨none, ⟨Ca, none, h1, h2, h3.1, h3.2, rfl⟩, fun dd f v z => nomatch z⟩
  | some f =>
    obtain ⟨dd, v, x, e1, e2, e3, e4⟩ := h3
    exact ⟨some (dd, f, v), ⟨Ca, some f, h1, h2, dd, v, e1, e2, rfl⟩, fun dd' f' v' z => by cases z; exact ⟨x, e3, e4⟩⟩
theorem Ss.try_as {xh n : Str} {hc : Value} {body suite : List Stmt} {b₀ : Stmt} {np pos pos' : Pos} {mb : Sm} {h : Nat → List D → Sm} (sel : Nat → Bool) (i : Nat)
    (hs : X.stack = X.env :: X.outer) (hf : X.env.frame = some X.env.locals) (hN : X.N.Nodup) (hi : X.N[i]? = some n) (hln : X.env.kindOf n = some .local) (hcn : Names X xh hc) (tk : Takes X W) (h0 : C.fu = C.fu) (hx0 : C.xf = none)
    (hsel : ∀ c Ca fo, C.xc[c]? = some (Ca, fo) → PySem.W.exmOne X.K (.ref Ca) hc = some (sel c))
    (hb : ∀ (W' : WX) (pn : List (Addr × Obj)) (xe : Value → Shared → Prop), Takes (X.tr pn xe) W' → PassesOwn (model X.prog X.w) X.A X.env xe → Sb (X.tr pn xe) C W' Ow Ow1 [] body mb)
    (hsu : ∀ (a : Addr) (oe : Obj) (cls : Value) (d : Option Addr) (pn : List (Addr × Obj)) (c : Nat) (vs : List D) (xf : Option (Addr × Str × D)), Zc cls d oe → (∃ vs, oe.data = .fields vs) → XF C c vs cls d xf → Sb (X.suite a ((a, oe) :: pn)) (C.sui i a xf) (fun _ _ _ _ => False) [i] [] [] (b₀ :: suite) (h c vs)) :
    Ss X C W Ow [] [] (.Try body [.ExceptHandler (some (.Name xh np)) (some n) (b₀ :: suite) pos'] [] [] pos) (.try_ mb sel h (some i)) :=
  ⟨ps_con (ps_try_as (i := i) (tb := fun W' => tSt C W' Ow Ow1 [] (Pv.run C.Φ C.fu mb)) (ts := tSui C i sel h) (Wout := W) hs hf hN hi hln hcn tk (fun W' pn xe tk' po => (hb W' pn xe tk' po).run)
    (fun a oe cls d pn hz hdat => ⟨fun pins s σ H D I ⟨c, vs, xf, hx, _, ht⟩ => (hsu a oe cls d pn c vs xf hz hdat hx).run.run pins s σ H D I ht⟩)) fun D σ H ⟨T, F, σe, g, fl, g', r, m, q⟩ => by
    unfold Pv.run at m
    obtain ⟨fl1, g1, m1, m2⟩ := bind_eq_ok m
    refine ⟨T, F, σe, g, fl1, g1, r, m1, ?_⟩
    cases fl1 with
    | nx σ1 => cases m2; exact fun F' σ' H' s r1 => let ⟨F2, s2, r2⟩ := r1.less (Ow2 := []) (fun j hj => nomatch hj); q F2 σ' H' (s.trans s2) r2
    | bk σ1 => cases m2; exact q
    | ct σ1 => cases m2; exact q
    | rt v => cases m2; exact q
    | ex σ1 c vs =>
      intro F1 Ow2 σ1' H1 cls d s1 r1 xr
      obtain ⟨xf, hXF, hxf⟩ := xr.toXF
      have hX := hXF
      obtain ⟨Ca, fo, e1, e2, _⟩ := hX
      refine ⟨sel c, by rw [e2]; exact hsel c Ca fo e1, fun hsc a ha => ?_, fun hsc => ?_⟩
      · have m2 : (if sel c = true then if okI (some i) σ1 = true then (Pv.run C.Φ C.fu (h c vs) (clr (some i) σ1) g1).bind (clrF (some i)) else .no else .ok (.ex σ1 c vs) g1) = .ok fl g' := m2
        rw [if_pos hsc] at m2
        have hok : okI (some i) σ1 = true := by
          cases z : okI (some i) σ1 with
          | true => rfl
          | false => rw [z] at m2; cases m2
        rw [if_pos hok] at m2
        obtain ⟨fl2, g2, m3, m4⟩ := bind_eq_ok m2
        obtain ⟨F2, s2, r2⟩ := r1.less (Ow2 := []) (fun j hj => nomatch hj)
        have hl : i < σ1'.length := by
          rw [← r1.len]
          exact of_decide_eq_true hok
        refine ⟨c, vs, xf, hXF, hsc, T, F2, σ1.set i none, g1, fl2, g2, r2.inS hl (fun dd f v z => let ⟨x, q1, q2⟩ := hxf dd f v z; ⟨x, s2.h _ _ q1, q2.mono s2 _ _⟩), m3, ?_⟩
        cases fl2 with
        | nx σ3 =>
          cases m4
          exact fun F3 σ3' H3 s3 r3 => q F3 _ H3 (s1.trans (s2.trans s3)) ((r3.outS hx0).wipe1 List.not_mem_nil)
        | bk σ3 =>
          cases m4
          exact fun F3 σ3' H3 s3 r3 => q F3 _ H3 (s1.trans (s2.trans s3)) ((r3.outS hx0).wipe1 List.not_mem_nil)
        | ct σ3 =>
          cases m4
          exact fun F3 σ3' H3 s3 r3 => q F3 _ H3 (s1.trans (s2.trans s3)) ((r3.outS hx0).wipe1 List.not_mem_nil)
        | rt v =>
          cases m4
          exact fun F3 Ow3 σe3 σ3 H3 x s3 r3 h3 => let ⟨F4, s4, r4⟩ := r3.less (Ow2 := []) (fun j hj => nomatch hj); q F4 [] σe3 σ3 H3 x (s1.trans (s2.trans (s3.trans s4))) (r4.outS hx0) (h3.mono s4 _ _)
        | ex σ3 c3 vs3 => cases m4
      · have m2 : (if sel c = true then if okI (some i) σ1 = true then (Pv.run C.Φ C.fu (h c vs) (clr (some i) σ1) g1).bind (clrF (some i)) else .no else .ok (.ex σ1 c vs) g1) = .ok fl g' := m2
        rw [if_neg (by rw [hsc]; exact Bool.false_ne_true)] at m2
        cases m2
        exact q F1 Ow2 σ1' H1 cls d s1 r1 xr⟩
theorem es_stuck {e : Expr} {is : Exs} : Es X C Ow e (.idx (.c .none) (.c .none)) := ⟨⟨fun pins s σ H Q I ⟨T, F, σe, g, v, g', r, m, q⟩ => by
  unfold ev at m
  simp [ev, idxV] at m⟩⟩
structure XcR (K : PySem.W.Frag) (Ca : Addr) (f : Str) : Prop where
  t : XfC K Ca
  no : PySem.W.findIn K (.ref Ca) f = some none
theorem Es.xfR {n f : Str} {np pos : Pos} {oe : Obj} {cls : Value} {d : Option Addr} {pn : List (Addr × Obj)} {c : Nat} {vs : List D} (xt : List (Option Str)) (hxt : C.xc.map (·.2) = xt) (hz : Zc cls d oe) (hdat : ∃ vs, oe.data = .fields vs) (hx : XF C c vs cls d xf)
    (hR : ∀ (c : Nat) (Ca : Addr), C.xc[c]? = some (Ca, some f) → XcR X.K Ca f) (hi : i ∈ Ow) (hN : X.N[i]? = some n) (hv : Vis X.env.scope n) (hd : (n == ("__debug__" : Str)) = false) (hcd : (n == ("__classdict__" : Str)) = false)
    (hb : attributeBase (.Name n np) f X.env (eval (.Name n np) X.env) = eval (.Name n np) X.env) :
    Es (X.suite a ((a, oe) :: pn)) (C.sui i a xf) Ow (.Attribute (.Name n np) f pos) (xfE xt c vs f) := by
  subst hxt
  obtain ⟨Ca, fo, e1, e2, e3⟩ := hx
  unfold xfE
  split
  · rename_i hc
    rw [List.getElem?_map, e1] at hc
    cases hc
    obtain ⟨dd, v, z1, z2, z3⟩ := e3
    have z := hR c Ca e1
    have pv : PE (X.suite a ((a, oe) :: pn)) (.Name n np) _ := pe_var (i := i) hN hv hd hcd
    refine ⟨pe_con (pe_xf (n := f) z.t z.no hz hdat pv hb) fun σ H Q ⟨T, F, σe, g, w, g', r, m, q⟩ => ?_⟩
    unfold ev at m
    cases m
    obtain ⟨x, q1, q2⟩ := r.xf dd f v z3
    refine ⟨_, r.slf i a rfl hi, rfl, e2, dd, [(f, x)], x, z1, r.sub _ _ q1, by rw [List.lookup_cons, beq_self_eq_true], q F H x (.refl F) r ?_⟩
    rw [z2]
    exact q2
  · exact es_stuck (is := .nil)
structure XcI (K : PySem.W.Frag) (Ca : Addr) : Prop where
  t : ExcC K Ca
def rIsX (K : PySem.W.Frag) (a : Addr) (cls : Value) (d : Option Addr) : List V → Hp → VK → Prop := fun xs H Q => ∃ Ca c cv b, xs = [V.ref a, c] ∧ cls = .ref Ca ∧ (∀ u, RelV c u → u = cv) ∧ ExcC K Ca ∧ PySem.W.kitOne K (.ref Ca) cv = some b ∧ (d = none ∨ ∃ dd fs, d = some dd ∧ H dd = some (.xd fs)) ∧ Q (.bl b) H
open PySem.W PySem.Calls PySem.HandSPX in
theorem call_isX {oe : Obj} {cls : Value} {d : Option Addr} {pn : List (Addr × Obj)} (hz : Zc cls d oe) (hdat : ∃ vs, oe.data = .fields vs) : CallR (X.suite a ((a, oe) :: pn)) (.builtin "isinstance") (rIsX X.K a cls d) := by
  intro pins s σ H xs us Q I rv h
  obtain ⟨Ca, c, cv, b, e1, e2, e3, E, hk, hd, q⟩ := h
  subst e1; subst e2
  obtain ⟨u1, u2, rfl, r1, r2⟩ : ∃ u1 u2, us = [u1, u2] ∧ RelV (V.ref a) u1 ∧ RelV c u2 := by
    cases rv with
    | cons r1 rest =>
      cases rest with
      | cons r2 rest2 =>
        cases rest2
        exact ⟨_, _, rfl, r1, r2⟩
  obtain rfl : u1 = Value.ref a := r1
  obtain rfl := e3 _ r2
  obtain ⟨ha, _⟩ := I.pin (a, oe) (List.mem_append_left _ List.mem_cons_self)
  obtain ⟨vs, hdv⟩ := hdat
  have hcls : (PySem.W.clsIn X.K Ca).isSome = true := by
    have := E.hm
    unfold PySem.W.mroIn at this
    cases z : PySem.W.clsIn X.K Ca with
    | none => rw [z] at this; cases this
    | some cd => rfl
  obtain ⟨od, inst⟩ : ∃ od, PySem.W.InstAt s.heap a oe Ca od := by
    have no : PySem.W.notCls oe = true := by unfold PySem.W.notCls; rw [hdv] <;> rfl
    rcases hd with hd | ⟨dd, fs, hd, hfs⟩
    · exact ⟨none, ha, hz.1, no, by rw [hz.2, hd]; trivial⟩
    · obtain ⟨mA, hns, _⟩ := (show ObjOk X.prog X.w H s.heap dd (.xd fs) from I.hok dd _ hfs)
      obtain ⟨od, ho, _⟩ := lookIn_ns hns
      exact ⟨some od, ha, hz.1, no, by rw [hz.2, hd]; exact ho⟩
  have kit := kitx_exc (x := a) (ox := oe) (od := od) (gt := none) hcls E.hg E.hk E.hs E.ha E.hn E.ht E.hm
  exact kia_one kit I.kIn inst hk (fun z => nomatch z) fun tk => ⟨.bl b, H, I.tok _, rfl, q⟩
theorem Es.xiR {n tn : Str} {np tp p pos : Pos} {oe : Obj} {cls : Value} {d : Option Addr} {pn : List (Addr × Obj)} {c : Nat} {vs : List D} {Tc : Addr} (bt : List Bool) (hz : Zc cls d oe) (hdat : ∃ vs, oe.data = .fields vs) (hx : XF C c vs cls d xf)
    (hR : ∀ (c : Nat) (Ca : Addr) (fo : Option Str), C.xc[c]? = some (Ca, fo) → ExcC X.K Ca ∧ PySem.W.kitOne X.K (.ref Ca) (.ref Tc) = some (bt.getD c false)) (hi : i ∈ Ow) (hN : X.N[i]? = some n) (hv : Vis X.env.scope n) (hd : (n == ("__debug__" : Str)) = false) (hcd : (n == ("__classdict__" : Str)) = false)
    (hg : Gl X "isinstance") (hm : X.mg "isinstance" = none) (hvi : bootBuiltins "isinstance" = some (.builtin "isinstance")) (hg2 : Gl X tn) (hm2 : X.mg tn = some (.ref Tc)) (hd2 : (tn == ("__debug__" : Str)) = false)
    (he : starEach [.Name n np, .Name tn tp] X.env = (false, eval (.Name n np) X.env) :: starEach [.Name tn tp] X.env) (he2 : starEach [.Name tn tp] X.env = (false, eval (.Name tn tp) X.env) :: starEach [] X.env) (hpl : (backTo pos (starEach [.Name tn tp] X.env)).any (·.1) = false) :
    Es (X.suite a ((a, oe) :: pn)) (C.sui i a xf) Ow (.Call (.Name "isinstance" p) [.Name n np, .Name tn tp] [] pos) (xiE bt c) := by
  obtain ⟨Ca, fo, e1, e2, e3⟩ := hx
  obtain ⟨E, hk⟩ := hR c Ca fo e1
  have pv : PE (X.suite a ((a, oe) :: pn)) (.Name n np) _ := pe_var (i := i) hN hv hd hcd
  have pg : PE (X.suite a ((a, oe) :: pn)) (.Name tn tp) _ := pe_glob (v := .ref Tc) hg2 hm2 rfl hd2
  refine ⟨pe_con (pe_callB (call_isX hz hdat) hg hm hvi (pa_cons pv (pa_cons pg pa_nil he2) he) (by decide) (by decide) he hpl) fun σ H Q ⟨T, F, σe, g, w, g', r, m, q⟩ => ?_⟩
  unfold ev xiE at m
  cases m
  refine ⟨_, r.slf i a rfl hi, Ca, .ref Tc, .ref Tc, _, rfl, e2, fun u hu => hu, E, hk, ?_, q F H _ (.refl F) r rel_bl⟩
  cases fo with
  | none => exact .inl e3.1
  | some f =>
    obtain ⟨dd, v, z1, z2, z3⟩ := e3
    obtain ⟨x, q1, q2⟩ := r.xf dd f v z3
    exact .inr ⟨dd, _, z1, r.sub _ _ q1⟩
theorem kitc_of {K : PySem.W.Frag} {Cb : Addr} {t : Value} {b : Bool} (h2 : PySem.W.isClsIn K Cb = true) (h3 : PySem.W.typeIn K (.ref Cb) = some (.type "type")) (h4 : PySem.W.subIn K t (.ref Cb) = some b) : PySem.W.kitCls K t (.ref Cb) = some b := by
  have e2 : ((PySem.W.clsIn K Cb).isSome && PySem.W.typeIn K (.ref Cb) == some (.type "type")) = true := by
    have h2' : (PySem.W.clsIn K Cb).isSome = true := h2
    rw [h2', h3] <;> rfl
  show (if ((PySem.W.clsIn K Cb).isSome && PySem.W.typeIn K (.ref Cb) == some (.type "type")) = true then PySem.W.subIn K t (.ref Cb) else none) = some b
  rw [if_pos e2]
  exact h4
theorem exm_of2 {K : PySem.W.Frag} {Ca Cb : Addr} {b : Bool} (h1 : PySem.W.subIn K (.ref Cb) (.type "BaseException") = some true) (h2 : PySem.W.isClsIn K Cb = true) (h3 : PySem.W.typeIn K (.ref Cb) = some (.type "type")) (h4 : PySem.W.subIn K (.ref Ca) (.ref Cb) = some b) : PySem.W.exmOne K (.ref Ca) (.ref Cb) = some b := by
  have e1 : (PySem.W.subIn K (.ref Cb) (.type "BaseException") == some true) = true := by rw [h1] <;> rfl
  show (if (PySem.W.subIn K (.ref Cb) (.type "BaseException") == some true) = true then PySem.W.kitCls K (.ref Ca) (.ref Cb) else none) = some b
  rw [if_pos e1]
  exact kitc_of h2 h3 h4
theorem kit_of2 {K : PySem.W.Frag} {Ca Cb : Addr} {b : Bool} (h2 : PySem.W.isClsIn K Cb = true) (h3 : PySem.W.typeIn K (.ref Cb) = some (.type "type")) (hs : PySem.W.subIn K (.ref Cb) (.ref Cb) = some true) (h4 : PySem.W.subIn K (.ref Ca) (.ref Cb) = some b) : PySem.W.kitOne K (.ref Ca) (.ref Cb) = some b := by
  show (if (Value.ref Ca == Value.ref Cb) = true then some true else PySem.W.kitCls K (.ref Ca) (.ref Cb)) = some b
  split
  · rename_i e
    have e := beq_iff_eq.mp e
    cases e
    rw [hs] at h4
    exact h4
  · exact kitc_of h2 h3 h4
end
end Pv
end

section
set_option autoImplicit false
namespace Pv
open PySem PySem.Spec PyProof.Rows L2

section
variable {M : Model} {prog : Program} {w : World} {A : Around} {E : Value → Shared → Prop} {s : Shared} {K : PySem.W.Frag} {x C f : Addr} {y : Value} {ox : Obj} {od : Option Obj}
theorem oe_bound {args : List Value} {Q : Option Value → Shared → Prop} (X : K.In s.heap) (I : PySem.W.InstAt s.heap x ox C od) (hs : PySem.W.findIn K (.ref C) "__ne__" = some (some (.builtin "object.__ne__")))
    (h : wpAny M A (call (.builtin "object.__ne__") (.ref x :: args)) (fun v => Q (some v)) E s) : wpAny M A (callSpecialIfBound? (.ref x) "__ne__" args) Q E s := by
  simp only [callSpecialIfBound?, bindSpecialIfBound?]
  refine wpAny_holding (wpAny_bind (wpAny_bind (wpAny_bind (I.type.here ((PySem.W.looks_findIn X hs).here ?_)))))
  refine wpAny_bind (wpAny_askSetting (wpAny_ite ?_))
  have fin : wpAny M A (call (.builtin "object.__ne__") ([.ref x] ++ args) >>= fun v => pure (some v)) Q E s := wpAny_bind (wpAny_mono h (fun v s' h' => wpAny_pure h') fun _ _ h' => h')
  split
  · exact wpAny_bind (wpAny_of_eq (PySem.F.cmp_object.ne.bind _) (wpAny_pure (by exact fin)))
  · exact wpAny_tryCatch (wpAny_bind (wpAny_of_eq (PySem.F.cmp_object.ne.bind _) (wpAny_pure (by exact fin))))
theorem oe_entry (X : K.In s.heap) (I : PySem.W.InstAt s.heap x ox C od) (he : PySem.W.findIn K (.ref C) "__eq__" = some (some (.ref f))) (hf : PySem.W.isFn K (.ref f) = true) (hu : A.units < cLine) {Q : Fin → Shared → Prop}
    (hcall : wpAny M A (call (.ref f) [.ref x, y]) (fun v s' => ∃ b, v = .bool b ∧ Q (.done (.ret (.bool (!b)))) s') E s) :
    wpAny M A (Builtin.«object.__ne__» ⟨[.ref x, y], []⟩) Q E s := by
  unfold Builtin.«object.__ne__»
  repeat (first
    | with_reducible refine wpAny_cRoomFor hu ?_
    | (refine wpAny_bind (m := callSpecialIfBound? (.ref x) (Str.ofString "__eq__") [y])
        (PySem.W.ifBound_K X I he hf (wpAny_mono hcall (fun r s' hr => by
          obtain ⟨b, rfl, hq⟩ := hr
          repeat (first | exact hq | exact wpAny_pure hq | exact wpAny_truthy_bool hq | (refine wpAny_bind (m := truthy (.bool _)) (wpAny_truthy_bool ?_)) | wp_step)) fun _ _ e => e)))
    | wp_step)
theorem oe_call (X : K.In s.heap) (I : PySem.W.InstAt s.heap x ox C od) (hm : PySem.W.mroIn K C (.type "object") = some true) (he : PySem.W.findIn K (.ref C) "__eq__" = some (some (.ref f))) (hf : PySem.W.isFn K (.ref f) = true) (hu : A.units + 1 < cLine) {Q : Value → Shared → Prop}
    (hcall : wpAny (model prog w) A.in1 (call (.ref f) [.ref x, y]) (fun v s' => ∃ b, v = .bool b ∧ Q (.bool (!b)) s') E s) :
    wpAny (model prog w) A (call (.builtin "object.__ne__") [.ref x, y]) Q E s :=
  wpAny_call (codeAny_call_builtin PySem.F.cmp_object.ne.plain PySem.F.cmpEntry_ne (PySem.W.check_slot PySem.F.cmpKind_ne PySem.F.cmpSplit_ne (I.type.andThen (PySem.W.looks_mroIn X hm)) (PySem.F.cmpArgs_ne _ _)
    (oe_entry (A := A.in1) X I he hf hu (wpAny_mono hcall (fun v s' hv => by
      obtain ⟨b, rfl, hq⟩ := hv
      exact ⟨b, rfl, hq⟩) fun _ _ e => e))))
theorem oe_ne {y : Addr} {oy : Obj} {od' : Option Obj} (X : K.In s.heap) (I : PySem.W.InstAt s.heap x ox C od) (J : PySem.W.InstAt s.heap y oy C od') (hm : PySem.W.mroIn K C (.type "object") = some true) (hs : PySem.W.findIn K (.ref C) "__ne__" = some (some (.builtin "object.__ne__")))
    (he : PySem.W.findIn K (.ref C) "__eq__" = some (some (.ref f))) (hf : PySem.W.isFn K (.ref f) = true) (hu : A.units + 1 < cLine) {Q : Value → Shared → Prop}
    (hcall : wpAny (model prog w) A.in1 (call (.ref f) [.ref x, .ref y]) (fun v s' => ∃ b, v = .bool b ∧ Q (.bool (!b)) s') E s) :
    wpAny (model prog w) A (richCompare .NotEq (.ref x) (.ref y)) Q E s := by
  have one : wpAny (model prog w) A (tryCompare (.ref x) "__ne__" (.ref y)) (fun r s' => ∃ v, r = some v ∧ Q v s') E s := by
    unfold tryCompare
    refine wpAny_bind (oe_bound X I hs (oe_call X I hm he hf hu (wpAny_mono hcall (fun v s' hv => ?_) fun _ _ e => e)))
    obtain ⟨b, rfl, hq⟩ := hv
    exact ⟨b, rfl, wpAny_pure ⟨_, rfl, hq⟩⟩
  unfold richCompare
  simp only [oneThing_ref]
  refine wpAny_holding ?_
  refine wpAny_bind (wpAny_cRoomFor (Nat.lt_of_succ_lt hu) ?_)
  rw [cmpInfo_NotEq]
  dsimp only
  refine wpAny_bind (I.type.here (wpAny_bind (J.type.here ?_)))
  rw [show (Value.ref C != Value.ref C) = false from by simp]
  simp only [Bool.false_eq_true, if_false]
  refine wpAny_bind (wpAny_pure ?_)
  simp only [Bool.false_eq_true, if_false]
  refine wpAny_bind (wpAny_mono one (fun r s' z => ?_) fun _ _ e => e)
  obtain ⟨v, rfl, hq⟩ := z
  first | exact wpAny_pure hq | exact hq
end

section
variable {X : Cx} {C : Ct} {Ow : List Nat} {a b : Expr} {ia ib : Ex} {pos : Pos} {CX : CXT} {E : XK} {k : Nat} {f Ca : Addr} {nm : List Str} {fd : FuncData} {ps : List Str}
theorem run_fnG1 {pins : List (Addr × Obj)} {σ : L2.St} {H : Hp} {s : Shared} {Q : VK} {us : List Value} {vs : List V} {sp : Sp} {args : Args} {A : Around} (F : FnG X.prog X.w X.K X.mg X.base CX k f fd ps sp) (hG : A.guards = some []) (hfr : A.frames = X.A.frames) (hr : Room k A) (hx : PassesAt CX X σ E)
    (I : Inv X pins σ H s) (hb : BindsTo s fd args (ps.zip us)) (r : Vals vs us) (h : sp vs H Q E) : codeAny (model X.prog X.w) A (.call (.ref f) args) (fun r s' => match r with
      | .ok (.ret u) => EP X pins σ Q u s'
      | .ok _ => False
      | .error e => X.xe e s') s := by
  have e0 : Env0 X.prog X.w X.K X.mg X.base A X.stack s H := by
    have e := I.env0
    exact ⟨by rw [hfr]; exact e.frames, e.mod, e.bs, e.bsz, e.funs, e.frf, e.hok, e.bare⟩
  refine codeAny_mono (F.run A X.stack s H args us vs Q E hG hr e0 hb r h) fun r s' hq => ?_
  cases r with
  | error e => exact hx pins H s e s' I hq
  | ok fl =>
    cases fl with
    | ret u => exact I.after hq
    | next => exact False.elim hq
    | brk => exact False.elim hq
    | cont => exact False.elim hq
def rOwn (C : Ct) (fi : Nat) (Ca : Addr) (neg : Bool) (E : XK) : R2 := fun x y H Q => ∃ p q dx dy fs gs, x = .ref p ∧ y = .ref q ∧ H p = some (.ins Ca dx fs) ∧ H q = some (.ins Ca dy gs) ∧ spS C (C.Φ fi) 2 [.ref p, .ref q] H (fun v H' => ∃ z, v = .bl z ∧ Q (.bl (z != neg)) H') E
theorem op_ownNe (fi : Nat) (hps : ps.length = 2) (F : FnG X.prog X.w X.K X.mg X.base CX k f fd ps (spS C (C.Φ fi) ps.length)) (hG : X.A.guards = some []) (hr : Room (k + 1) X.A) (hx : Passes CX X E) (hb : Binds X.K fd ps [])
    (he : PySem.W.findIn X.K (.ref Ca) "__eq__" = some (some (.ref f))) (hf : PySem.W.isFn X.K (.ref f) = true) (hm : PySem.W.mroIn X.K Ca (.type "object") = some true) (hs : PySem.W.findIn X.K (.ref Ca) "__ne__" = some (some (.builtin "object.__ne__"))) :
    OpR X (compareOp .NotEq) (rOwn C fi Ca true E) := by
  intro pins s σ H x y u v Q I rx ry h
  obtain ⟨p, q, dx, dy, fs, gs, rfl, rfl, hp, hq, hsp⟩ := h
  cases rx
  cases ry
  obtain ⟨mA, O, _⟩ := ins_get I.hok hp
  obtain ⟨od, J, _⟩ := O.look
  obtain ⟨mB, O', _⟩ := ins_get I.hok hq
  obtain ⟨od', J', _⟩ := O'.look
  have hu : X.A.units + 1 < cLine := Pv.Room.u1 hr
  show wpAny (model X.prog X.w) X.A (richCompare .NotEq (.ref p) (.ref q)) (EP X pins σ Q) X.xe s
  refine oe_ne I.kIn J J' hm hs he hf hu ?_
  have r2 : Vals [V.ref p, V.ref q] [Value.ref p, Value.ref q] := .cons rfl (.cons rfl .nil)
  have bt := hb s [.ref p, .ref q] I.kIn (by simpa using hps.symm)
  rw [List.append_nil] at bt
  rw [← hps] at hsp
  refine wpAny_call (codeAny_mono (run_fnG1 (A := X.A.in1) F hG rfl hr.in1 (passAtOf hx) I bt r2 hsp) fun r s' hq => ?_)
  cases r with
  | error e => exact hq
  | ok fl =>
    cases fl with
    | ret u =>
      obtain ⟨v, H', I', rv, z, ez, qz⟩ := hq
      subst ez
      cases rv
      exact ⟨z, rfl, .bl (!z), H', I', rfl, by rw [show (!z) = (z != true) by cases z <;> rfl]; exact qz⟩
    | next => exact False.elim hq
    | brk => exact False.elim hq
    | cont => exact False.elim hq
structure OwnOk (K : PySem.W.Frag) (Ca f : Addr) : Prop where
  eq : PySem.W.findIn K (.ref Ca) "__eq__" = some (some (.ref f))
  fn : PySem.W.isFn K (.ref f) = true
  mro : PySem.W.mroIn K Ca (.type "object") = some true
  ne : PySem.W.findIn K (.ref Ca) "__ne__" = some (some (.builtin "object.__ne__"))
theorem own_core {T : Hp} {F : Fz} {σe : Sl} {g g' : G} {v : D} {σ : L2.St} {H : Hp} {P : VK} (cn fi : Nat) (hc : C.sc.2.1[cn]? = some (Ca, nm)) (r : R C Ow T F σe g σ H) (m : ev C.Φ (.own cn fi true ia ib) σe g = .ok v g')
    (q : ∀ (F' : Fz) (H' : Hp) (z : Bool), v = .bool z → Fsub F F' → R C Ow T F' σe g' σ H' → P (.bl z) H') : tOp (rOwn C fi Ca true E) (tS C Ow (ev C.Φ ia)) (tS C Ow (ev C.Φ ib)) σ H P := by
  unfold ev at m
  obtain ⟨d1, g1, m1, m2⟩ := bind_eq_ok m
  obtain ⟨d2, g2, m3, m4⟩ := bind_eq_ok m2
  split at m4
  · rename_i hob
    simp only [Bool.and_eq_true] at hob
    obtain ⟨rr, gr, m5, m6⟩ := bind_eq_ok m4
    cases rr with
    | bool z =>
      cases m6
      obtain ⟨r1, e1⟩ := isOb_eq hob.1
      obtain ⟨r2, e2⟩ := isOb_eq hob.2
      refine ⟨T, F, σe, g, d1, g1, r, m1, fun F1 H1 x s1 ra h1 => ⟨T, F1, σe, g1, d2, g2, ra, m3, fun F2 H2 y s2 rb h2 => ?_⟩⟩
      have h1' := h1.mono s2 _ _
      have h1s := h1'.sh rb.sub
      have h2s := h2.sh rb.sub
      rw [e1] at h1s
      rw [e2] at h2s
      obtain ⟨c', Cn, p, dx, fs, ec, rfl, z1, z2, z3, z4⟩ := sh_obj h1s
      have ec : cn = c' := by omega
      subst ec
      rw [rb.sc, hc] at z1
      cases z1
      obtain ⟨c', Cn, p', dx', fs', ec, rfl, z1, z2', z3', z4'⟩ := sh_obj h2s
      have ec : cn = c' := by omega
      subst ec
      rw [rb.sc, hc] at z1
      cases z1
      refine ⟨p, p', dx, dx', fs, fs', rfl, rfl, z2, z2', rb.call (.cons h1' (.cons h2 .nil)) rfl m5 fun F' H' x s3 r3 q3 => ?_⟩
      unfold Rel at q3
      subst q3
      exact ⟨z, rfl, q F' H' _ rfl (s1.trans (s2.trans s3)) r3⟩
    | _ => cases m6
  · cases m4
theorem Et.ownNe (cn fi : Nat) (hc : C.sc.2.1[cn]? = some (Ca, nm)) (hps : ps.length = 2) (F : FnG X.prog X.w X.K X.mg X.base CX k f fd ps (spS C (C.Φ fi) ps.length)) (hG : X.A.guards = some []) (hr : Room (k + 1) X.A) (hx : Passes CX X E) (hb : Binds X.K fd ps [])
    (hO : OwnOk X.K Ca f) (ha : Es X C Ow a ia) (hb2 : Es X C Ow b ib) (h1 : behindInMarks .NotEq b = false) : Et X C Ow (.Compare a [.NotEq] [b] pos) (.own cn fi true ia ib) :=
  ⟨pt_con (pt_cmpR (op_ownNe (Ca := Ca) fi hps F hG hr hx hb hO.eq hO.fn hO.mro hO.ne) ha.run hb2.run h1) fun σ H Q ⟨T, F0, σe, g, v, g', r, m, q⟩ =>
    own_core cn fi hc r m fun F' H' z e s r' => by
      cases e
      exact ⟨_, rfl, q F' H' s r'⟩⟩

theorem kitT_of {K : PySem.W.Frag} {Cb : Addr} {T : String} (h2 : PySem.W.isClsIn K Cb = true) (h3 : PySem.W.typeIn K (.ref Cb) = some (.type "type")) (hT : T ∈ ["NoneType", "bool", "int", "str", "list", "tuple", "dict"]) : PySem.W.kitOne K (.type T) (.ref Cb) = some false := by
  have sub : PySem.W.subIn K (.type T) (.ref Cb) = some false := by
    show (fastBuiltinMro T).map (·.contains (.ref Cb)) = some false
    simp only [List.mem_cons, List.not_mem_nil, or_false] at hT
    rcases hT with rfl | rfl | rfl | rfl | rfl | rfl | rfl
    · rw [show fastBuiltinMro "NoneType" = some [.type "NoneType", .type "object"] by decide +kernel]; simp
    · rw [show fastBuiltinMro "bool" = some [.type "bool", .type "int", .type "object"] by decide +kernel]; simp
    · rw [show fastBuiltinMro "int" = some [.type "int", .type "object"] by decide +kernel]; simp
    · rw [show fastBuiltinMro "str" = some [.type "str", .type "object"] by decide +kernel]; simp
    · rw [show fastBuiltinMro "list" = some [.type "list", .type "object"] by decide +kernel]; simp
    · rw [show fastBuiltinMro "tuple" = some [.type "tuple", .type "object"] by decide +kernel]; simp
    · rw [show fastBuiltinMro "dict" = some [.type "dict", .type "object"] by decide +kernel]; simp
  show (if (Value.type T == Value.ref Cb) = true then some true else PySem.W.kitCls K (.type T) (.ref Cb)) = some false
  rw [if_neg (by simp)]
  exact kitc_of h2 h3 sub
theorem tyN_mem (d : D) : tyN d ∈ ["NoneType", "bool", "int", "str", "list", "tuple", "dict"] := by
  cases d <;> simp [tyN]
theorem Es.isO {tn : Str} {Tc : Addr} {p np : Pos} (c : Nat) (hK : X.K = C.K) (hin : ∀ Cn ∈ C.sc.2.1, InsOk X.K Cn.1) (hO : ∀ (j : Nat) (Cn : Addr × List Str), C.sc.2.1[j]? = some Cn → PySem.W.kitOne X.K (.ref Cn.1) (.ref Tc) = some (decide (j = c)))
    (hT : ∀ T ∈ ["NoneType", "bool", "int", "str", "list", "tuple", "dict"], PySem.W.kitOne X.K (.type T) (.ref Tc) = some false)
    (hg : Gl X "isinstance") (hm : X.mg "isinstance" = none) (hvi : bootBuiltins "isinstance" = some (.builtin "isinstance")) (hg2 : Gl X tn) (hm2 : X.mg tn = some (.ref Tc)) (hd2 : (tn == ("__debug__" : Str)) = false)
    (ha : Eb X C Ow a ia) (he : starEach [a, .Name tn np] X.env = (false, eval a X.env) :: starEach [.Name tn np] X.env) (he2 : starEach [.Name tn np] X.env = (false, eval (.Name tn np) X.env) :: starEach [] X.env) (hpl : (backTo pos (starEach [.Name tn np] X.env)).any (·.1) = false) :
    Es X C Ow (.Call (.Name "isinstance" p) [a, .Name tn np] [] pos) (.isO c ia) := by
  have pg : PE X (.Name tn np) _ := pe_glob (v := .ref Tc) hg2 hm2 rfl hd2
  refine ⟨pe_con (pe_callB call_isi hg hm hvi (pa_cons ha.run (pa_cons pg pa_nil he2) he) (by decide) (by decide) he hpl) fun σ H Q ⟨Th, F, σe, g, v, g', r, m, q⟩ => ?_⟩
  unfold ev at m
  obtain ⟨d, g1, m1, m2⟩ := bind_eq_ok m
  split at m2
  · rename_i ho
    cases m2
    refine ⟨Th, F, σe, g, d, _, r, m1, fun F1 H1 y s1 r1 b1 => ?_⟩
    have hd : ∃ i rr, d = .dict ((.list [.int i], .none) :: rr) := by
      unfold isObj at ho
      split at ho
      · exact ⟨_, _, rfl⟩
      · cases ho
    obtain ⟨i, rr, rfl⟩ := hd
    obtain ⟨j, Cn, p, dx, fs, rfl, rfl, z1, z2, z3, z4⟩ := sh_obj (r1.sh b1)
    rw [r1.sc] at z1
    have I := hin Cn (List.mem_of_getElem? z1)
    have eo : isOb c (.dict ((.list [.int (j : Int)], .none) :: rr)) = decide (j = c) := decide_eq_decide.mpr Int.ofNat_inj
    rw [eo] at q
    exact ⟨.ref p, .ref Tc, .ref Cn.1, .ref Tc, decide (j = c), rfl, .own Tc, .base (.ins z2 I.cls I.ha I.hn I.ht I.hm), hO j Cn z1, q F1 H1 _ s1 r1 rel_bl⟩
  · split at m2
    · cases m2
    · rename_i ho hn
      cases m2
      refine ⟨Th, F, σe, g, d, _, r, m1, fun F1 H1 y s1 r1 b1 => ⟨y, .ref Tc, _, .ref Tc, false, rfl, .own Tc, ty_sh r1.sub (by rw [hK]; exact r1.sh b1) (by simpa using hn), hT _ (tyN_mem d), q F1 H1 _ s1 r1 rel_bl⟩⟩

end
end Pv
end

section
set_option autoImplicit false
namespace Pv
open PySem PySem.Spec PyProof.Rows L2

section
variable {C : Ct} {Ow : List Nat} {T : Hp} {F F' : Fz} {σe σe2 : Sl} {g : G} {σ : L2.St} {H : Hp}
inductive Bk (K : PySem.W.Frag) (F : Fz) (T : Hp) : List (D × D) → List (Key × V) → List Addr → Prop
  | nil : Bk K F T [] [] []
  | cons {k : D} {kx : Key} {l : List D} {vs : List V} {b : Addr} {acc : List (D × D)} {kk : List (Key × V)} {bs : List Addr} : keyD k = some kx → RelL K F l vs → T b = some (.lst vs) → b ∉ bs → Bk K F T acc kk bs → Bk K F T ((k, .list l) :: acc) ((kx, .ref b) :: kk) (b :: bs)
variable {K : PySem.W.Frag} {T' : Hp} {acc acc' : List (D × D)} {kk : List (Key × V)} {bs : List Addr} {k v : D} {kx : Key}
end

section
variable {X : Cx} {C : Ct} {W : WX} {Ow OwL : List Nat} {tg iter k e : Expr} {ik ie : Ex} {is : Exs} {kI : Ik} {d y : Str} {np np2 lp apos apos2 pos pos1 pos2 pos3 posA posF : Pos}
end
end Pv
namespace Pv
open PySem PySem.Spec PyProof.Rows L2
section
variable {P : Program} {w : World} {K : PySem.W.Frag} {mg : Str → Option Value} {base : Heap} {CX : CXT} {k : Nat} {f : Addr} {fd : FuncData} {ps : List Str} {sp : Sp} {C : Ct} {T : List Fn} {pr : Prims} {fi cn n : Nat} {vs : List V} {H : Hp} {Q : VK} {E : XK}
theorem FnG.no (h : ∀ (vs : List V) (H : Hp) (Q : VK) (E : XK), sp vs H Q E → False) : FnG P w K mg base CX k f fd ps sp :=
  ⟨fun vs H Q E q => (h vs H Q E q).elim, fun A outer s H args us vs Q E _ _ _ _ _ q => (h vs H Q E q).elim⟩
theorem spS0 (h : spS C (FT T pr 0 fi) n vs H Q E) : False := by
  obtain ⟨_, F, ds, g, _, _, _, _, ⟨v, g', e, _⟩ | ⟨c, ws, g', e, _⟩⟩ := h <;> cases e
theorem spI0 (h : spI C (FT T pr 0 fi) cn n vs H Q E) : False := by
  obtain ⟨_, x, dx, us, F, ds, g, Cn, _, _, _, _, _, _, _, _, _, ⟨v, g', e, _⟩ | ⟨c, ws, g', st, _, e, _⟩⟩ := h <;> cases e
end
end Pv
end

section
set_option autoImplicit false
namespace Pv
open PySem PySem.Spec PyProof.Rows L2

section
variable {C : Ct} {Ow : List Nat} {T T' : Hp} {F F' : Fz} {σe σe2 : Sl} {g : G} {σ : L2.St} {H : Hp} {K : PySem.W.Frag} {bs : List Addr} {acc acc' : List (List D)} {v : D} {i : Nat}
inductive Bl (K : PySem.W.Frag) (F : Fz) (T : Hp) : List (List D) → List Addr → Prop
  | nil : Bl K F T [] []
  | cons {l : List D} {vs : List V} {b : Addr} {acc : List (List D)} {bs : List Addr} : RelL K F l vs → T b = some (.lst vs) → b ∉ bs → Bl K F T acc bs → Bl K F T (l :: acc) (b :: bs)
end
section
variable {X : Cx} {C : Ct} {W : WX} {Ow Ow' OwL : List Nat} {tg tg0 iter iter0 k e : Expr} {ik ie : Ex} {is is0 : Exs} {kI kI0 : Ik} {d : Str} {np lp lcp py spos sp apos pos2 pos3 posF : Pos} {rest : List Stmt} {m' : Sm} {scope : Scope} {own : List (Str × Nat)}
end
end Pv
end

section
set_option autoImplicit false
namespace Pv
open PySem PySem.Spec PyProof.Rows L2
def KeyV (H : Hp) : NI → V → Prop
  | none, z => z = .non
  | some ns, z => ∃ t, z = .ref t ∧ H t = some (.tup (ns.map V.int))
structure NGet (H : Hp) (a : Addr) (xs : List NEI) (x : NI) (z : V) : Prop where
  at_ : ∃ ep, H a = some (nO a xs ep)
  ok : NdOk a xs
  ks : ∀ x ∈ xs, NKey H x.1 x.2.1
  key : KeyV H x z
def tNGet (td ty : TE) : TE := fun σ H Q => td σ H fun o H1 => ty σ H1 fun z H2 => ∃ a xs x u v y, o = .ref a ∧ NGet H2 a xs x z ∧ nAtI xs x = some (u, v) ∧ RelV y v ∧ Q y H2
def tNIn (ty td : TE) (n : Bool) : TE := fun σ H Q => ty σ H fun z H1 => td σ H1 fun o H2 => ∃ a xs x, o = .ref a ∧ NGet H2 a xs x z ∧ Q (.bl ((nAtI xs x).isSome != n)) H2
def rSetN : TSet := fun o i v H Q => ∃ a xs x, o = .ref a ∧ NGet H a xs x i ∧ xs.length < sizeLine ∧ ∀ u w ep, NKey H x u → RelV v w → Q (upd H a (nO a (nPutI xs x u w) ep))
def tNDsp (te : TE) : TE := fun σ H Q => ∀ p, H p = none → te σ (upd H p (.dK [])) fun y H2 => V.non = .non ∧ H2 p = some (.dK []) ∧ ∀ w ep, (p == sysModules) = false → RelV y w → Q (.ref p) (upd H2 p (nO p [(none, .none, w)] ep))
section
variable {X : Cx} {o i e : Expr} {pos kp : Pos} {td ty te : TE} {j : Nat}
end
section
variable {K : PySem.W.Frag} {F F' : Fz} {H : Hp} {k d : D} {kk : NI} {r : List (D × D)} {xs : List NEI} {u v : Value} {y : V}
end
section
variable {X : Cx} {C : Ct} {W : WX} {Ow Ow' OwL : List Nat} {e a b : Expr} {i ia ib : Ex} {pos apos np kp : Pos} {x : Str} {j : Nat}
end
end Pv
end

section
set_option autoImplicit false
namespace Pv
open PySem PySem.Spec PyProof.Rows L2
section
variable {P : Program} {w : World} {A : Around} {E : Value → Shared → Prop} {s : Shared} {d : Addr} {xs : List NE}
end
structure NAt (H : Hp) (a : Addr) (xs : List NEI) : Prop where
  at_ : ∃ ep, H a = some (nO a xs ep)
  ok : NdOk a xs
  ks : ∀ x ∈ xs, NKey H x.1 x.2.1
def tNVals (te : TE) : TE := fun σ H Q => te σ H fun x H1 => ∃ a xs, x = .ref a ∧ NAt H1 a xs ∧ ∀ v, H1 v = none → Q (.ref v) (upd H1 v (viewO "dict_values" v a))
def rLV : List V → Hp → VK → Prop := fun us H Q => ∃ v a xs ys, us = [.ref v] ∧ H v = some (viewO "dict_values" v a) ∧ NAt H a xs ∧ Vals ys (xs.map fun x => x.2.2) ∧ ∀ q, H q = none → Q (.ref q) (upd H q (.lst ys))
section
variable {K : PySem.W.Frag} {F : Fz} {H : Hp}
end
section
variable {X : Cx} {C : Ct} {Ow : List Nat} {a : Expr} {ia : Ex} {pos p apos cpos : Pos} {x : Str} {pl : Sem Bool}
end
end Pv
end

section
set_option autoImplicit false
namespace Pv
open PySem PySem.Spec PyProof.Rows L2
section
variable {P : Program} {w : World} {A : Around} {E : Value → Shared → Prop} {s : Shared} {d : Addr} {xs : List NE} {es : Array DictEntry} {ep : Nat}
end
def kOf : Value → V
  | .ref t => .ref t
  | _ => .non
def rLK : List V → Hp → VK → Prop := fun us H Q => ∃ a xs, us = [.ref a] ∧ NAt H a xs ∧ ∀ q, H q = none → Q (.ref q) (upd H q (.lst (xs.map fun x => kOf x.2.1)))
def putPr : Hp → List Addr → List (V × V) → Hp
  | H, a :: as, p :: ps => putPr (upd H a (.tup [p.1, p.2])) as ps
  | H, _, _ => H
abbrev PrsAt (xs : List NEI) (ps : List (V × V)) : Prop := Paired (fun (x : NEI) (p : V × V) => RelV p.1 x.2.1 ∧ RelV p.2 x.2.2) xs ps
def rItemsN : V → Hp → VK → Prop := fun x H Q => ∃ (a : Addr) (xs : List NEI) (ps : List (V × V)), x = .ref a ∧ NAt H a xs ∧ PrsAt xs ps ∧
  ∀ (q : Addr) (ts : List Addr), ts.length = ps.length → ts.Nodup → (∀ t ∈ ts, H t = none) → putPr H ts ps q = none → Q (.ref q) (upd (putPr H ts ps) q (.lst (ts.map V.ref)))
section
variable {X : Cx} {e : Expr} {te : TE} {p apos cpos pos : Pos}
end
section
variable {K : PySem.W.Frag} {F : Fz} {H : Hp}
variable {C : Ct} {Ow : List Nat} {T : Hp} {σe : Sl} {g : G} {σ : L2.St}
end
section
variable {X : Cx} {C : Ct} {Ow : List Nat} {a : Expr} {ia : Ex} {pos p apos cpos : Pos} {x : Str}
end
end Pv
end

section
set_option autoImplicit false
namespace Pv
open PySem PySem.Spec PyProof.Rows L2 PySem.Calls
section
variable {prog : Program} {w : World} {A : Around} {E : Value → Shared → Prop} {s : Shared} {T : String} {r d : Addr} {n : Nat} {P : Nat → Value → Prop} {OK : Heap → Prop} {Q : Value → Shared → Prop}
theorem coll_kdl {R : List Value → Shared → Prop} (K : PySem.W.KdlSrc prog w T r d n P OK) (hh : A.handled = none) (hok : OK s.heap) (hn : n ≤ sizeLine)
    (h : ∀ (h' : Heap) (tk : Nat) (acc : Array Value), (∀ b o, s.heap.get? b = some o → h'.get? b = some o) → s.heap.objs.size ≤ h'.objs.size → ItemsOf P acc n → R acc.toList { s with heap := h', toks := tk }) :
    wpAny (model prog w) A (collect (.ref r)) R E s := by
  have lt := K.there _ hok
  let G : Result → Shared → Prop := fun q s' => q = .ok (.ret (.ref s.heap.objs.size)) ∧ ∃ (h' : Heap) (tk : Nat) (acc : Array Value) (c : Nat), s' = { s with heap := h', toks := tk } ∧ (∀ b o, s.heap.get? b = some o → h'.get? b = some o) ∧ h'.get? s.heap.objs.size = some { cls := .type "list", dict := none, data := .seq acc c, slots := #[] } ∧ ItemsOf P acc n
  unfold collect
  refine wpAny_bind (wpAny_runValue (codeAny_builtin F.entry_proto_collect ?_))
  rw [Around.under_plainId F.plain_proto_collect _]
  refine wpAny_bind (wpAny_newObj_type ?_)
  refine wpAny_pure ⟨plainId_quiet F.plain_list_iadd _, codeAny_builtin F.entry_list_iadd ?_⟩
  rw [Around.under_plainId F.plain_list_iadd _]
  refine wpAny_mono (PySem.W.kdl_extend (A := A) (s := { s with heap := s.heap.push { cls := .type "list", data := .seq ([] : List Value).toArray } }) (R := G) K hh (K.keep _ _ hok fun b _ o e => Heap.get?_push_of_some _ e) s.heap.objs.size (Nat.ne_of_gt lt.1) (Nat.ne_of_gt lt.2) (.ref s.heap.objs.size) 0 (Heap.get?_push_size _ rfl)
    (fun h' tk acc c hk hS hi => ⟨rfl, h', tk, acc, c, rfl, fun b o e => hk b o (Nat.ne_of_lt (Heap.lt_size e)) (Heap.get?_push_of_some _ e), hS, hi⟩) hn) (fun fin s' g => ?_) fun e s' g => ?_
  · cases fin with
    | done f =>
      obtain ⟨e, h', tk, acc, c, rfl, hk, hS, hi⟩ := g
      cases e
      show wpAny _ A (load s.heap.objs.size >>= _) _ _ _
      exact wpAny_bind (wpAny_load hS (wpAny_pure (h h' tk acc hk (Nat.le_of_lt (Heap.lt_size hS)) hi)))
    | again c1 =>
      refine ⟨g.1, codeAny_mono g.2 fun q s2 y => ?_⟩
      obtain ⟨rfl, h', tk, acc, c, rfl, hk, hS, hi⟩ := y
      show wpAny _ A (load s.heap.objs.size >>= _) _ _ _
      exact wpAny_bind (wpAny_load hS (wpAny_pure (h h' tk acc hk (Nat.le_of_lt (Heap.lt_size hS)) hi)))
  · cases g.1
theorem sorted_kdl {ns : List Int} (K : PySem.W.KdlSrc prog w T r d n P OK) (hh : A.handled = none) (hok : OK s.heap) (h64 : n < 64) (hI : ∀ acc : Array Value, ItemsOf P acc n → IntsAre acc.toList ns)
    (h : ∀ (B : Addr) (h' : Heap) (tk : Nat) (out : Array Value) (ns' : List Int) (e : Nat), (∀ b o, s.heap.get? b = some o → h'.get? b = some o) → s.heap.objs.size ≤ B → h'.get? B = some (seqObj "list" out e) → IntsAre out.toList ns' → ns'.Perm ns → ns'.Pairwise (· ≤ ·) → Q (.ref B) { s with heap := h', toks := tk }) :
    wpAny (model prog w) A (call (.builtin "sorted") [.ref r]) Q E s := by
  have hn : n ≤ sizeLine := by rw [sizeLine_eq]; omega
  refine call_function_entry kind_sorted plain_sorted entry_sorted (args_sorted1 _) ?_
  unfold Builtin.«sorted»
  refine wpAny_bind (m := checkCount "sorted" 1 1 _) (wpAny_pure ?_)
  refine wpAny_bind (coll_kdl (A := A.in1) K hh hok hn fun h' tk acc hk up hacc => ?_)
  have hl : acc.toList.length = n := by rw [Array.length_toList]; exact hacc.1
  refine wpAny_bind (wpAny_newList ?_ (by rw [hl]; exact hn))
  have hoL : (h'.push (seqObj "list" acc.toList.toArray 0)).get? h'.objs.size = some (seqObj "list" acc.toList.toArray 0) := Heap.get?_push_size _ rfl
  refine wpAny_bind (wpAny_holding (wpAny_call_entry slot_list_sort ⟨_, hoL, rfl⟩ entry_list_sort (list_sort_tree hoL (hI acc hacc) (by rw [hl]; exact h64) fun out ns' a1 a2 a3 => ⟨_, rfl, ?_⟩) (args_list_sort _)))
  obtain ⟨ep, he'⟩ := sortedHeap_at (vs := acc.toList) (out := out) hoL
  refine wpAny_pure ⟨_, rfl, h h'.objs.size _ tk out ns' ep (fun b o e => ?_) up he' a1 a2 a3⟩
  have e1 := hk b o e
  have e2 : (h'.push (seqObj "list" acc.toList.toArray 0)).get? b = some o := Heap.get?_push_of_some _ e1
  rw [sortedHeap_old (Nat.ne_of_lt (Heap.lt_size e1)) (Heap.lt_size e2)]
  exact e2
end
def tDKeys (te : TE) : TE := fun σ H Q => te σ H fun x H1 => ∃ a kk, x = .ref a ∧ H1 a = some (.dK kk) ∧ ∀ v, H1 v = none → Q (.ref v) (upd H1 v (viewO "dict_keys" v a))
theorem pe_dkeys {X : Cx} {e : Expr} {te : TE} {apos pos : Pos} {pl : Sem Bool} (he : PE X e te)
    (ht : eval (.Call (.Attribute e "keys" apos) [] [] pos) X.env = (do
      let ov ← eval e X.env
      standAt apos.atName
      let (f, first) ← holding [ov] (getMethod ov "keys" pl)
      callWith pos f first (backTo pos (starEach [] X.env)) (backToKw pos (keywordEach [] X.env)))) :
    PE X (.Call (.Attribute e "keys" apos) [] [] pos) (tDKeys te) := by
  refine ⟨fun pins s σ H Q I h => PySem.W.methodCall_KW (pl := pl) (thn (he.run pins s σ H _ I h) fun u s1 ⟨x, H1, I1, rx, a, kk, ex, n, q⟩ => ?_) ht⟩
  subst ex
  obtain rfl : u = Value.ref a := rx
  obtain ⟨_, lo, vs, _, hd⟩ := (show ObjOk X.prog X.w H1 s1.heap a (.dK kk) from I1.hok a _ n)
  refine getMethod_builtin hd.typeIs F.plainAttrs_dict F.slot_dict_keys F.type_dict_keys hd.mapOf.noDict (callWith_method0 (first := [.ref a]) (call_meetsIn F.slot_dict_keys hd.typeIs F.entry_dict_keys (F.args_dict_keys_1 _) (PySem.W.kdl_meets_keys (mixKind X.prog X.w) a lo) ⟨⟨vs, hd⟩, ?_⟩))
  exact ⟨.ref s1.heap.objs.size, _, I1.laid (t' := s1.toks) (fun b o q => Heap.get?_push_of_some _ q) (Nat.le_refl _) (viewO_ok (Heap.get?_push_size _ rfl)), rfl, q _ (I1.hok.fresh (Nat.le_refl _))⟩
theorem ints_of_at : ∀ {us : List Value} {ns : List Int}, us.length = ns.length → (∀ (j : Nat) (u : Value) (i : Int), us[j]? = some u → ns[j]? = some i → ∃ t, u = .int i t) → IntsAre us ns
  | [], [], _, _ => .nil
  | [], _ :: _, h, _ => by simp at h
  | _ :: _, [], h, _ => by simp at h
  | u :: us, i :: ns, h, f => by
    obtain ⟨t, rfl⟩ := f 0 u i rfl rfl
    exact .cons i t (ints_of_at (by simpa using h) fun j y k h1 h2 => f (j + 1) y k (by simpa using h1) (by simpa using h2))
def rSK : List V → Hp → VK → Prop := fun us H Q => ∃ (v a : Addr) (kk : List (Key × V)) (ns : List Int), us = [.ref v] ∧ H v = some (viewO "dict_keys" v a) ∧ H a = some (.dK kk) ∧ kk.map (·.1) = ns.map (Sum.inl : Int → Key) ∧ ns.length < 64 ∧ ∀ (ns' : List Int) (q : Addr), ns'.Perm ns → ns'.Pairwise (· ≤ ·) → H q = none → Q (.ref q) (upd H q (.lst (ns'.map V.int)))
theorem cr_sk {X : Cx} (hc : X.calm = true) : CallR X (.builtin "sorted") rSK := by
  intro pins s σ H xs us Q I r h
  obtain ⟨v, a, kk, ns, rfl, hv, ha, hks, h64, q⟩ := h
  obtain ⟨u, rfl, rx⟩ := vals1 r
  obtain rfl : u = .ref v := rx
  obtain ⟨_, lo, vs, rk, hd⟩ := (show ObjOk X.prog X.w H s.heap a (.dK kk) from I.hok a _ ha)
  obtain ⟨ep, hat⟩ := hd.dictAt
  have hv' : s.heap.get? v = some (DSub.viewOb "dict_keys" a) := (show ObjOk X.prog X.w H s.heap v (viewO "dict_keys" v a) from I.hok v _ hv).1
  have ek : vs.map (·.1) = ns.map (Sum.inl : Int → Key) := by rw [← hks]; exact (KV.keys rk).symm
  have el : vs.length = ns.length := by
    have := congrArg List.length ek
    rwa [List.length_map, List.length_map] at this
  refine sorted_kdl (ns := ns) (PySem.W.kdl_keys (r := v) (d := a) (knd := mixKind X.prog X.w) (kvs := vs) (ep := ep)) (I.ok.hd hc) ⟨⟨_, hv', rfl, rfl⟩, hat⟩ (by rw [el]; exact h64) (fun acc hi => ?_) fun B h' tk out ns' e hk hB hob h1 h2 h3 => ?_
  · refine ints_of_at (by rw [Array.length_toList, hi.1, el]) fun j u i e1 e2 => ?_
    obtain ⟨k, x, hx, hkk⟩ := hi.2 j u (by rw [← Array.getElem?_toList]; exact e1)
    have e3 : (vs.map (·.1))[j]? = some k := by rw [List.getElem?_map, hx]; rfl
    rw [ek, List.getElem?_map, e2] at e3
    cases e3
    rcases keyIs_shape (show keyIs (Sum.inl i : Key) u = true from hkk) with ⟨i', t, z1, z2⟩ | ⟨x', t, z1, z2⟩
    · cases z1; exact ⟨t, z2⟩
    · cases z1
  · have hlen : (ns'.map V.int).length ≤ sizeLine := by rw [List.length_map, h2.length_eq, sizeLine_eq]; omega
    exact ⟨.ref B, upd H B (.lst (ns'.map V.int)), I.laid (t' := tk) hk hB (show ObjOk X.prog X.w _ _ _ (.lst (ns'.map V.int)) from ⟨hlen, out.toList, e, vals_of_ints h1, by rw [Array.toArray_toList]; exact hob⟩), rfl, q ns' _ h2 h3 (I.hok.fresh hB)⟩
theorem intKs_rel {K : PySem.W.Frag} {F : Fz} : ∀ {kvs : List (D × D)} {kk : List (Key × V)} {ns : List Int}, RelKV K F kvs kk → intKs kvs = some ns → kk.map (·.1) = ns.map (Sum.inl : Int → Key)
  | [], kk, ns, h, e => by
    unfold RelKV at h
    cases e; subst h; rfl
  | (k, d) :: r, kk, ns, h, e => by
    unfold RelKV at h
    obtain ⟨kv, v, kr, rfl, hk, _, hr⟩ := h
    cases k with
    | int i =>
      unfold intKs at e
      obtain ⟨ms, e1, rfl⟩ := map_some e
      have ih := intKs_rel hr e1
      have hk : some (Sum.inl i : Key) = some kv := hk
      cases hk
      rw [List.map_cons, List.map_cons, ih]
    | _ => cases e
theorem dks_rel {K : PySem.W.Frag} {F : Fz} {H : Hp} {dv v : D} {q : V} (h : dksV dv = some v) (hy : Sh K F H dv q) : ∃ (a : Addr) (kk : List (Key × V)) (ns : List Int), q = .ref a ∧ H a = some (.dK kk) ∧ kk.map (·.1) = ns.map (Sum.inl : Int → Key) ∧ ns.length < 64 ∧ v = .list ((sortI ns).map .int) := by
  unfold dksV at h
  split at h
  · rename_i kvs
    split at h
    · cases h
    · rename_i nd
      split at h
      · rename_i ns hn
        split at h
        · rename_i hl
          cases h
          rcases hy with ⟨z, _⟩ | ⟨_, a, kk, rfl, ha, hr⟩
          · exact (nd z).elim
          · exact ⟨a, kk, ns, rfl, ha, intKs_rel hr hn, of_decide_eq_true hl, rfl⟩
        · cases h
      · cases h
  · cases h
section
variable {X : Cx} {C : Ct} {Ow : List Nat} {a : Expr} {ia : Ex} {pos p apos cpos : Pos} {pl : Sem Bool}
theorem Ef.dks (hc : X.calm = true) (hg : Gl X "sorted") (hm : X.mg "sorted" = none) (ha : Eb X C Ow a ia)
    (ht : eval (.Call (.Attribute a "keys" apos) [] [] cpos) X.env = (do
      let ov ← eval a X.env
      standAt apos.atName
      let (f, first) ← holding [ov] (getMethod ov "keys" pl)
      callWith cpos f first (backTo cpos (starEach [] X.env)) (backToKw cpos (keywordEach [] X.env))))
    (he : starEach [.Call (.Attribute a "keys" apos) [] [] cpos] X.env = (false, eval (.Call (.Attribute a "keys" apos) [] [] cpos) X.env) :: starEach [] X.env) :
    Ef X C Ow (.Call (.Name "sorted" p) [.Call (.Attribute a "keys" apos) [] [] cpos] [] pos) (.dks ia) :=
  ⟨pe_con (pe_callB (cr_sk hc) hg hm boot_sorted (pa_cons (pe_dkeys ha.run ht) pa_nil he) (he := he)) fun σ H Q ⟨T, F, σe, g, v, g', r, m, q⟩ => by
    unfold ev at m
    obtain ⟨dv, g1, m1, m2⟩ := bind_eq_ok m
    obtain ⟨m3, e3⟩ := lift_eq_ok m2
    subst e3
    refine ⟨T, F, σe, g, dv, _, r, m1, fun F1 H1 y s1 r1 b1 => ?_⟩
    obtain ⟨a, kk, ns, rfl, ha', hks, h64, rfl⟩ := dks_rel m3 (r1.sh b1)
    refine ⟨a, kk, rfl, ha', fun v hv => ?_⟩
    have r2 := r1.grown (o := viewO "dict_keys" v a) hv (by intro _ z; unfold viewO at z; cases z)
    refine ⟨v, a, kk, ns, rfl, upd_same, ?_, hks, h64, fun ns' l hp hs' hl => ?_⟩
    · have ne : a ≠ v := fun z => by rw [z, hv] at ha'; cases ha'
      rw [upd_ne ne]; exact ha'
    · have e : ns' = sortI ns := sorted_unique (hp.trans (sortI_perm ns).symm) hs' (sortI_sorted ns)
      subst e
      exact q F1 _ l s1 (r2.grown hl) (new_of r2 hl ⟨_, upd_same, relL_ints _⟩)⟩
end
end Pv
end

section
set_option autoImplicit false
namespace Pv
open PySem PySem.Spec PyProof.Rows L2
section
variable {X : Cx} {C : Ct} {Ow : List Nat} {tg tg2 : Expr} {is is2 : Exs}
def iturn (Φ : Fns) (t2 : List Nat) (cond2 elt : Ex) (σ' : Sl) : D → G → Res (Option D) := fun y g => (lift (setT t2 y (wipeS σ' t2)) g).bind fun σ2 g => (ev Φ cond2 σ2 g).bind fun b g => match b with
  | .bool true => (ev Φ elt σ2 g).bind fun v g => .ok (some v) g
  | .bool false => .ok none g
  | _ => .no
def oturn (Φ : Fns) (t t2 : List Nat) (cond : Ex) (k2 : Ik) (as2 : Exs) (cond2 elt : Ex) (σ : Sl) : D → List D → G → Res (List D) := fun x acc g => (lift (setT t x (wipeS σ (t ++ t2))) g).bind fun σ' g => (ev Φ cond σ' g).bind fun b g => match b with
  | .bool true => (evs Φ as2 σ' g).bind fun vs g => (lift (itV k2 vs) g).bind fun ys g => if decide (ys.length ≤ 4000) then compR (iturn Φ t2 cond2 elt σ') ys acc g else .no
  | .bool false => .ok acc g
  | _ => .no
end
end Pv
end

section
set_option autoImplicit false
namespace Pv
open PySem PySem.Spec PyProof.Rows L2
def frs : List Bool → List V → List V
  | true :: fl, x :: xs => x :: frs fl xs
  | false :: fl, _ :: xs => frs fl xs
  | _, _ => []
def MixL (C : Ct) (Ow : List Nat) (T : Hp) (F : Fz) (σe : Sl) (σ : L2.St) (H : Hp) : List Bool → List D → List V → Prop
  | [], vs, xs => vs = [] ∧ xs = []
  | b :: fl, vs, xs => ∃ v vr x xr, vs = v :: vr ∧ xs = x :: xr ∧ (if b = true then ∃ p, x = .ref p ∧ New C Ow T F σe σ H v p ∧ V.ref p ∉ frs fl xr else Rel C.K F v x) ∧ MixL C Ow T F σe σ H fl vr xr
def tM (C : Ct) (Ow : List Nat) (fl : List Bool) (m : Sl → G → Res (List D)) : TA := fun σ H Q => ∃ T F σe g vs g', R C Ow T F σe g σ H ∧ m σe g = .ok vs g' ∧ ∀ F' H' xs, Fsub F F' → R C Ow T F' σe g' σ H' → MixL C Ow T F' σe σ H' fl vs xs → Q xs H'
structure Em (X : Cx) (C : Ct) (Ow : List Nat) (es : List Expr) (fl : List Bool) (is : Exs) : Prop where
  run : PA X es (tM C Ow fl (evs C.Φ is))
def owN : List Nat → List Bool → List Nat → List Nat
  | n :: ns, b :: fl, Ow => owN ns fl (if b = true then n :: Ow else Ow)
  | _, _, Ow => Ow
section
variable {X : Cx} {C : Ct} {W : WX} {Ow OwL : List Nat} {T : Hp} {F F' : Fz} {σe : Sl} {g : G} {σ : L2.St} {H H' : Hp} {e : Expr} {es : List Expr} {i : Ex} {is : Exs} {fl : List Bool} {vs : List D} {xs : List V} {v : D} {p : Addr} {o : HO}
theorem MixL.letgo : ∀ {fl : List Bool} {vs : List D} {xs : List V}, MixL C Ow (upd T p o) F σe σ H fl vs xs → MixL C Ow T F σe σ H fl vs xs ∧ V.ref p ∉ frs fl xs
  | [], _, xs, h => ⟨h, by rw [h.2]; simp [frs]⟩
  | b :: fl, vs, xs, h => by
    obtain ⟨v, vr, x, xr, rfl, rfl, h1, h2⟩ := h
    obtain ⟨a1, a2⟩ := MixL.letgo h2
    cases b with
    | false => exact ⟨⟨v, vr, x, xr, rfl, rfl, h1, a1⟩, a2⟩
    | true =>
      obtain ⟨q, rfl, n, ni⟩ := h1
      have ne : q ≠ p := fun z => by
        have := n.nt
        rw [z, upd_same] at this; cases this
      have nt : T q = none := by
        have := n.nt
        rwa [upd_ne ne] at this
      refine ⟨⟨v, vr, _, xr, rfl, rfl, ?_, a1⟩, ?_⟩
      · rw [if_pos rfl]
        exact ⟨q, rfl, ⟨n.at_, n.h0, n.fn, n.nd, n.no, nt⟩, ni⟩
      · show V.ref p ∉ V.ref q :: frs fl xr
        intro z
        rcases List.mem_cons.mp z with z | z
        · cases z; exact ne rfl
        · exact a2 z
theorem Em.nil : Em X C Ow [] [] .nil := ⟨pa_con pa_nil fun σ H Q ⟨T, F, σe, g, vs, g', r, m, q⟩ => by
  unfold evs at m
  cases m
  exact q F H [] (.refl F) r ⟨rfl, rfl⟩⟩
theorem Em.new (h1 : Ef X C Ow e i) (h2 : Em X C Ow es fl is) (hs : starEach (e :: es) X.env = (false, eval e X.env) :: starEach es X.env) : Em X C Ow (e :: es) (true :: fl) (.cons i is) := ⟨pa_con (pa_cons h1.run h2.run hs) fun σ H Q ⟨T, F, σe, g, vs, g', r, m, q⟩ => by
  unfold evs at m
  obtain ⟨v, g1, m1, m2⟩ := bind_eq_ok m
  obtain ⟨ws, g2, m3, m4⟩ := bind_eq_ok m2
  cases m4
  refine ⟨T, F, σe, g, v, g1, r, m1, fun F1 H1 p s1 r1 n1 => ?_⟩
  obtain ⟨o, eo⟩ := n1.at_.there
  refine ⟨upd T p o, F1, σe, g1, ws, _, r1.holdN n1 eo, m3, fun F2 H2 xs s2 r2 q2 => ?_⟩
  obtain ⟨e1, e2, e3, e4, e5⟩ := r2.hold p o upd_same
  have n2 : New C Ow T F2 σe σ H2 v p := ⟨n1.at_.move s2 (fun o' e => by rw [eo] at e; cases e; exact e1), e2, e3, e4, e5, n1.nt⟩
  have r3 : R C Ow T F2 σe _ σ H2 := r2.letgo fun a o' h => by
    have ne : a ≠ p := fun z => by rw [z, n1.nt] at h; cases h
    exact (upd_ne ne).trans h
  obtain ⟨a1, a2⟩ := q2.letgo
  refine q F2 H2 _ (s1.trans s2) r3 ⟨v, ws, .ref p, xs, rfl, rfl, ?_, a1⟩
  rw [if_pos rfl]
  exact ⟨p, rfl, n2, a2⟩⟩
theorem MixL.setS {n : Nat} {z : V} (hn : n ∉ Ow) : ∀ {fl : List Bool} {vs : List D} {xs : List V}, MixL C Ow T F σe σ H fl vs xs → MixL C Ow T F (σe.set n (some v)) (σ.set n (some z)) H fl vs xs
  | [], _, _, h => h
  | b :: fl, vs, xs, h => by
    obtain ⟨w, vr, x, xr, rfl, rfl, h1, h2⟩ := h
    refine ⟨w, vr, x, xr, rfl, rfl, ?_, MixL.setS hn h2⟩
    cases b with
    | false => exact h1
    | true =>
      obtain ⟨q, rfl, m, ni⟩ := h1
      refine ⟨q, rfl, ⟨m.at_, m.h0, m.fn, m.nd, fun i u hi' e => ?_, m.nt⟩, ni⟩
      have ne : n ≠ i := fun y => hn (y ▸ hi')
      rw [List.getElem?_set_ne ne] at e ⊢
      exact m.no i u hi' e
theorem MixL.own {n : Nat} : ∀ {fl : List Bool} {vs : List D} {xs : List V}, MixL C Ow T F σe σ H fl vs xs → V.ref p ∉ frs fl xs → MixL C (n :: Ow) T F (σe.set n (some v)) (σ.set n (some (V.ref p))) H fl vs xs
  | [], _, _, h, _ => h
  | b :: fl, vs, xs, h, np => by
    obtain ⟨w, vr, x, xr, rfl, rfl, h1, h2⟩ := h
    cases b with
    | false => exact ⟨w, vr, x, xr, rfl, rfl, h1, MixL.own h2 np⟩
    | true =>
      obtain ⟨q, rfl, m, ni⟩ := h1
      have np : V.ref p ∉ V.ref q :: frs fl xr := np
      refine ⟨w, vr, _, xr, rfl, rfl, ?_, MixL.own h2 fun z => np (List.mem_cons_of_mem _ z)⟩
      rw [if_pos rfl]
      refine ⟨q, rfl, ⟨m.at_, m.h0, m.fn, m.nd, fun i u hi' e z => ?_, m.nt⟩, ni⟩
      by_cases ne : n = i
      · subst ne
        have hl : n < σ.length := by
          have := (List.getElem?_eq_some_iff.mp z).1
          rwa [List.length_set] at this
        rw [List.getElem?_set_self hl] at z
        cases z
        exact np List.mem_cons_self
      · rw [List.getElem?_set_ne ne] at e z
        exact m.no i u ((List.mem_cons.mp hi').resolve_left (Ne.symm ne)) e z
def setsV : List Nat → List V → L2.St → L2.St
  | n :: ns, x :: xs, σ => setsV ns xs (σ.set n (some x))
  | _, _, σ => σ
theorem R.mix : ∀ {ns : List Nat} {fl : List Bool} {vs : List D} {xs : List V} {Ow : List Nat} {σe σe' : Sl} {σ : L2.St}, R C Ow T F σe g σ H → MixL C Ow T F σe σ H fl vs xs → (∀ n, SlfOk C n) → ns.Nodup → (∀ n ∈ ns, n ∉ Ow) → setMany ns vs σe = some σe' → R C (owN ns fl Ow) T F σe' g (setsV ns xs σ) H
  | [], fl, vs, xs, Ow, σe, σe', σ, r, m, _, _, _, e => by
    cases vs with
    | nil =>
      cases e
      cases fl <;> exact r
    | cons _ _ => cases e
  | n :: ns, [], vs, xs, Ow, σe, σe', σ, r, m, _, _, _, e => by
    obtain ⟨rfl, rfl⟩ := m
    cases e
  | n :: ns, b :: fl, vs, xs, Ow, σe, σe', σ, r, m, hs, nd, no, e => by
    obtain ⟨v, vr, x, xr, rfl, rfl, h1, h2⟩ := m
    have nd' := List.nodup_cons.mp nd
    have e : setMany ns vr (σe.set n (some v)) = some σe' := e
    have hn := no n List.mem_cons_self
    cases b with
    | false =>
      exact R.mix (ns := ns) (fl := fl) (vs := vr) (xs := xr) (r.setS hn h1) (h2.setS hn) hs nd'.2 (fun k hk => no k (List.mem_cons_of_mem _ hk)) e
    | true =>
      obtain ⟨p, rfl, nw, ni⟩ := h1
      refine R.mix (ns := ns) (fl := fl) (vs := vr) (xs := xr) (r.own (hs n) nw) (h2.own ni) hs nd'.2 (fun k hk z => ?_) e
      rcases List.mem_cons.mp z with z | z
      · exact nd'.1 (z ▸ hk)
      · exact no k (List.mem_cons_of_mem _ hk) z
theorem MixL.len : ∀ {fl : List Bool} {vs : List D} {xs : List V}, MixL C Ow T F σe σ H fl vs xs → vs.length = fl.length ∧ xs.length = fl.length
  | [], _, _, h => by rw [h.1, h.2]; exact ⟨rfl, rfl⟩
  | b :: fl, vs, xs, h => by
    obtain ⟨v, vr, x, xr, rfl, rfl, _, h2⟩ := h
    obtain ⟨a, b⟩ := h2.len
    exact ⟨by rw [List.length_cons, List.length_cons, a], by rw [List.length_cons, List.length_cons, b]⟩
theorem setMany_len : ∀ {t : List Nat} {vs : List D} {σe σe' : Sl}, setMany t vs σe = some σe' → t.length = vs.length
  | [], [], _, _, _ => rfl
  | [], _ :: _, _, _, e => by cases e
  | _ :: _, [], _, _, e => by cases e
  | i :: t, v :: vs, _, _, e => by rw [List.length_cons, List.length_cons, setMany_len (t := t) (vs := vs) e]
theorem MixL.grow {T' : Hp} {q : Addr} {u : HO} (n : H q = none) (fq : F.h q = none) : ∀ {fl : List Bool} {vs : List D} {xs : List V}, MixL C Ow T F σe σ H fl vs xs → MixL C Ow T (F.put q u) σe σ (upd H q u) fl vs xs
  | [], _, _, h => h
  | b :: fl, vs, xs, h => by
    obtain ⟨w, vr, x, xr, rfl, rfl, h1, h2⟩ := h
    refine ⟨w, vr, x, xr, rfl, rfl, ?_, MixL.grow (T' := T') n fq h2⟩
    have s : Fsub F (F.put q u) := Fsub.put fq
    cases b with
    | false => rw [if_neg (by decide)] at h1 ⊢; exact h1.mono s _ _
    | true =>
      obtain ⟨a, rfl, m, ni⟩ := h1
      obtain ⟨oa, ea⟩ := m.at_.there
      have ne : a ≠ q := fun z => by rw [z, n] at ea; cases ea
      refine ⟨a, rfl, ⟨m.at_.move s fun o e => by rw [upd_ne ne]; exact e, m.h0, ?_, m.nd, m.no, m.nt⟩, ni⟩
      show upd F.h q u a = none
      rw [upd_ne ne]
      exact m.fn
structure Enm (X : Cx) (es : List Expr) (ns : List Nat) : Prop where
  run : PGs X es (fun xs σ H Q => xs.length = ns.length ∧ Q (setsV ns xs σ) H)
theorem Enm.nil : Enm X [] [] := ⟨pgs_con pgs_nil fun xs σ H Q ⟨hl, q⟩ => by
  cases xs with
  | nil => exact ⟨rfl, q⟩
  | cons _ _ => cases hl⟩
theorem Enm.cons {x : Str} {px : Pos} {ns : List Nat} {n : Nat} (hN : X.N.Nodup) (hi : X.N[n]? = some x) (hx : Loc X.env.scope x) (hf : X.fn x = true ∨ X.env.scope.names.lookup x = some .local) (h : Enm X es ns) (hs : (assignEach (.Name x px :: es) X.env).map (·.2) = assign (.Name x px) X.env :: (assignEach es X.env).map (·.2)) : Enm X (.Name x px :: es) (n :: ns) := ⟨pgs_con (pgs_cons (pg_name hN hi hx hf) h.run hs) fun xs σ H Q ⟨hl, q⟩ => by
  cases xs with
  | nil => cases hl
  | cons z zs => exact ⟨z, zs, rfl, Nat.succ.inj hl, q⟩⟩
theorem Ss.parT {ts : List Expr} {ns : List Nat} {pt pt2 pos : Pos} {kt k2 : Nat} (hK : X.K = C.K) (hc : X.calm = true) (h : Em X C Ow es fl is) (hg : Enm X ts ns) (nd : ns.Nodup) (no : ∀ n ∈ ns, n ∉ Ow) (hsl : ∀ n, SlfOk C n) (hl : is.len ≤ 1000)
    (hn : (assignEach ts X.env).length = ns.length) (hst : (assignEach ts X.env).findIdx? (·.1) = none)
    (hs : swapsWithSole [.Tuple ts kt pt] (.Tuple es k2 pt2) pos.line X.env = pure false) (hw : swappedStores [.Tuple ts kt pt] (.Tuple es k2 pt2) X.env = pure none) (h1 : (assignEach [.Tuple ts kt pt] X.env).map (·.2) = [assign (.Tuple ts kt pt) X.env]) :
    Ss X C W Ow (owN ns fl Ow) OwL (.Assign [.Tuple ts kt pt] (.Tuple es k2 pt2) pos) (.parN ns is) := ⟨ps_con (ps_asg (pe_tup h.run) (pg_tup (n := ns.length) hc hg.run hn hst) hs hw h1) fun D σ H ⟨T, F, σe, g, fl', g', r, m, q⟩ => by
  unfold Pv.run at m
  obtain ⟨vs, g1, m1, m2⟩ := bind_eq_ok m
  obtain ⟨σe', g2, m3, m4⟩ := bind_eq_ok m2
  obtain ⟨m5, e5⟩ := lift_eq_ok m3
  subst e5
  cases m4
  refine ⟨T, F, σe, g, vs, _, r, m1, fun F1 H1 xs s1 r1 mx => ?_⟩
  obtain ⟨l1, l2⟩ := mx.len
  have l3 := setMany_len m5
  refine ⟨by rw [l2, ← l1, evs_len _ _ _ _ _ _ m1, sizeLine_eq]; omega, fun p n => ?_⟩
  have r2 := r1.laid (o := .tup xs) n
  have mx2 := mx.grow (T' := T) (u := .tup xs) n (r1.fn n)
  exact ⟨p, xs, rfl, by rw [hK]; exact .of upd_same, by omega, by omega, q _ _ _ (s1.trans (Fsub.put (r1.fn n))) (r2.mix mx2 hsl nd no m5)⟩⟩
end
end Pv
end

section
set_option autoImplicit false
namespace L2
open PySem PySem.Spec PyProof.Rows
def wAsL (K : PySem.W.Frag) (i : Nat) (Wo : WX) (D : Ends) : List (Value × (Addr → Value → Option Addr → TS)) → WX
  | [] => Wo
  | q :: r => wAs K q.1 i q.2 (wAsL K i Wo D r) D
inductive HdsAs (X : Cx) (n : Str) : List ExceptHandler → List (Value × (Addr → Value → Option Addr → TS)) → Prop
  | nil : HdsAs X n [] []
  | cons {x : Str} {c : Value} {t1 : Addr → Value → Option Addr → TS} {b1 : Stmt} {su : List Stmt} {p1 p2 : Pos} {hds : List ExceptHandler} {l : List (Value × (Addr → Value → Option Addr → TS))} (nm : Names X x c)
      (su_ok : ∀ (e : Addr) (o : Obj) (k : Value) (dd : Option Addr) (pn : List (Addr × Obj)), Zc k dd o → (∃ w, o.data = .fields w) → PSs (X.suite e ((e, o) :: pn)) (b1 :: su) (t1 e k dd)) (r : HdsAs X n hds l) :
      HdsAs X n (.ExceptHandler (some (.Name x p1)) (some n) (b1 :: su) p2 :: hds) ((c, t1) :: l)
section
variable {X : Cx} {n : Str} {i : Nat} {bd : List Stmt} {hd0 : ExceptHandler} {hds : List ExceptHandler} {l : List (Value × (Addr → Value → Option Addr → TS))} {pos : Pos} {tb : WX → TS} {Wo : WX}
end
end L2
namespace Pv
open PySem PySem.Spec PyProof.Rows L2
section
variable {X : Cx} {C : Ct} {W : WX} {Ow Ow1 : List Nat}
end
end Pv
end

section
namespace Pv
open PySem PySem.Spec PyProof.Rows L2
section
variable {X : Cx} {C : Ct} {W : WX} {Ow Ow1 : List Nat}
end
section
variable {X : Cx} {C : Ct} {W : WX} {Ow : List Nat} {e : Expr} {p pos : Pos} {x : Str}
def repR : Res D → Res D
  | .ok v g => lift (biV .repr [v]) g
  | .exc n ws g => .exc n ws g
  | .no => .no
end
section
variable {X : Cx} {C : Ct} {Ow : List Nat} {i : Nat} {a : Addr} {xf : Option (Addr × Str × D)}
def rIsX2 (K : PySem.W.Frag) (a : Addr) (cls : Value) (d : Option Addr) : List V → Hp → VK → Prop := fun xs H Q => ∃ Ca T1 T2 tp b, xs = [V.ref a, .ref tp] ∧ H tp = some (.tup [.ref T1, .ref T2]) ∧ cls = .ref Ca ∧ ExcC K Ca ∧ PySem.W.kitAny K (.ref Ca) [.ref T1, .ref T2] = some b ∧ (d = none ∨ ∃ dd fs, d = some dd ∧ H dd = some (.xd fs)) ∧ Q (.bl b) H
end
end Pv
namespace Pv
open PySem PyProof.Rows L2 HT
def tRev1 (K : PySem.W.Frag) (te : TE) : TE := fun σ H Q => te σ H fun x H1 => ∃ a xs, x = .ref a ∧ SqL K H1 a xs ∧ ∀ p, H1 p = none → Q (.ref p) (upd H1 p (.lst (xs.drop 1).reverse))
section
variable {X : Cx} {C : Ct} {Ow : List Nat} {a : Expr} {ia : Ex} {pos : Pos}
end
end Pv
end

section
set_option autoImplicit false
namespace Pv
open PySem PySem.Spec PyProof.Rows L2

section
variable {X : Cx} {C : Ct} {Ow : List Nat} {T : Hp} {F : Fz} {σe : Sl} {g : G} {σ : L2.St} {H : Hp}
theorem R.table {P c' : Addr} {q : Str} {ps more : Array Value} (r : R C Ow T F σe g σ H) (hm : (P, q) ∈ C.sc.2.2.2) (hu : ∀ q', (P, q') ∈ C.sc.2.2.2 → q' = q) (hP : H P = some (.tbl ps)) (nc : H c' = none)
    (ht : TriplesOk (ps ++ more).toList) (hmore : ∀ (pos : Pos) (cv : Value), codeAmong pos (ps ++ more).toList = some cv → codeAmong pos ps.toList = some cv ∨ cv = .ref c') :
    R C Ow T (F.put c' (LamX.CodeO c' q)) σe g σ (upd (upd H P (.tbl (ps ++ more))) c' (LamX.CodeO c' q)) := by
  have nPc : P ≠ c' := ne_of_none hP nc
  have nF : F.h c' = none := r.fn nc
  have fs : Fsub F (F.put c' (LamX.CodeO c' q)) := Fsub.put nF
  have scF : F.sc = C.sc := r.sc
  have hmF : (P, q) ∈ F.sc.2.2.2 := by rw [scF]; exact hm
  have FP : F.h P = none := (r.dk.tb P q hmF).1
  have out : ∀ {b : Addr}, b ≠ P → b ≠ c' → upd (upd H P (.tbl (ps ++ more))) c' (LamX.CodeO c' q) b = H b := fun h1 h2 => (upd_ne h2).trans (upd_ne h1)
  have atP : upd (upd H P (.tbl (ps ++ more))) c' (LamX.CodeO c' q) P = some (.tbl (ps ++ more)) := (upd_ne nPc).trans upd_same
  have noC : ∀ {b : Addr} {o : HO}, H b = some o → b ≠ c' := fun e => ne_of_none e nc
  refine r.step fs (fun b o e => ?_) (fun b o e n => ?_) (fun b o e => ?_) (fun d l e => .inl e) ⟨?_, fun P' q' m => ?_⟩ (fun b xs e => ?_)
  · by_cases h : b = c'
    · subst h
      rw [show (F.put b (LamX.CodeO b q)).h b = _ from upd_same] at e
      rw [upd_same]; exact e
    · rw [show (F.put c' (LamX.CodeO c' q)).h b = F.h b from upd_ne h] at e
      have nP : b ≠ P := fun z => by rw [z, FP] at e; cases e
      rw [out nP h]
      exact r.sub _ _ e
  · by_cases h : b = c'
    · rw [h]; exact nc
    · rw [show (F.put c' (LamX.CodeO c' q)).h b = F.h b from upd_ne h, n] at e
      cases e
  · by_cases h : b = P
    · subst h
      exact .inl (.inr ⟨q, hmF⟩)
    · exact .inr (by rw [out h (noC e)]; exact e)
  · have dd := r.dk.dd
    cases g with
    | none => exact dd
    | some st =>
      obtain ⟨d, l, e, ne, f1, f2, hl, hd⟩ := dd
      have d1 : d ≠ P := fun z => by rw [z, hP] at hd; cases hd
      have l1 : l ≠ P := fun z => by rw [z, hP] at hl; cases hl
      exact ⟨d, l, e, ne, (upd_ne (noC hd)).trans f1, (upd_ne (noC hl)).trans f2, (out l1 (noC hl)).trans hl, (out d1 (noC hd)).trans hd⟩
  · have m' : (P', q') ∈ F.sc.2.2.2 := m
    obtain ⟨h1, ps', h2, h3, h4⟩ := r.dk.tb P' q' m'
    refine ⟨(upd_ne (noC h2)).trans h1, ?_⟩
    by_cases h : P' = P
    · subst h
      rw [hP] at h2
      cases h2
      refine ⟨_, atP, ht, fun pos cv z => ?_⟩
      have eq : q' = q := hu q' (by rw [← scF]; exact m')
      rcases hmore pos cv z with z | z
      · obtain ⟨c0, e1, e2⟩ := h4 pos cv z
        exact ⟨c0, e1, fs.h _ _ e2⟩
      · exact ⟨c', z, by rw [eq]; exact upd_same⟩
    · refine ⟨ps', (out h (noC h2)).trans h2, h3, fun pos cv z => ?_⟩
      obtain ⟨c0, e1, e2⟩ := h4 pos cv z
      exact ⟨c0, e1, fs.h _ _ e2⟩
  · by_cases h : b = c'
    · subst h
      rw [upd_same] at e
      unfold LamX.CodeO at e
      cases e
    · by_cases h' : b = P
      · subst h'
        rw [atP] at e; cases e
      · rw [out h' h] at e
        exact fs.h _ _ (r.tups _ _ e)

theorem mkLam {c P : Addr} {q : Str} {params : Arguments} {body : Expr} {scope : Scope} {pos : Pos} {pins : List (Addr × Obj)} {s : Shared} {E Q : Value → Shared → Prop} (I : Inv X pins σ H s) (r : R C Ow T F σe g σ H)
    (TB : LamX.TabB X.base X.mg c P) (hcode : X.env.code = .ref c) (hm : (P, q) ∈ C.sc.2.2.2) (hu : ∀ q', (P, q') ∈ C.sc.2.2.2 → q' = q) (hq : q = X.env.qual ++ "<lambda>") (hdef : defaultsOf params X.env = ([], []))
    (hfree : ∀ y ∈ scope.names, y.2 = .free → ∃ c, X.env.cells.lookup y.1 = some c)
    (h : ∀ (f c' : Addr) (pm ctv : Value) (F' : Fz) (H' : Hp) (s' : Shared), Fsub F F' → R C Ow T F' σe g σ H' → Inv X pins σ H' s' →
      s'.heap.get? f = some (PySem.W.kla_obj "<lambda>" q params body scope (cloFrom X.env.cells scope.names []) pm c' ctv) → H' f = none → f ∉ L2.frs X.stack → F'.h c' = some (LamX.CodeO c' q) → Q (.ref f) s') :
    wpAny (model X.prog X.w) X.A (eval (.Lambda params body scope pos) X.env) Q E s := by
  subst hq
  obtain ⟨nF, ps, hP, ht, ha⟩ := r.dk.tb P _ (by rw [r.sc]; exact hm)
  have bP := TB.bm.keeps I.bk
  have oP := I.hok P _ hP
  have far : ∀ f, s.heap.objs.size ≤ f → f ∉ L2.frs X.stack := fun f big z => by
    rcases List.mem_cons.mp (I.stkSub _ z) with e | e
    · subst e
      exact absurd I.lt (Nat.not_lt_of_le big)
    · exact I.nofs big e
  refine PySem.W.kla_eval hdef ?_
  cases hc : codeAmong pos ps.toList with
  | some cv =>
    obtain ⟨c', rfl, hco⟩ := ha pos cv hc
    refine PySem.W.kla_makeFunctionHit (c := c) (P := P) (ps := ps) (mg := X.mg) (closure_ok hfree) I.ok.glob
      (I.mod.glob.keeps I.bk) hcode (TB.code.keeps I.bk) oP ht hc bP fun ctv h' tk hx hsz => ?_
    exact h _ _ _ _ _ _ _ (.refl F) r (I.kept fun b o e => Heap.get?_push_of_some _ (hx b o e)) (Heap.get?_push_size _ rfl) (I.hok.fresh hsz) (far _ hsz) hco
  | none =>
    refine PySem.W.kla_makeFunction (c := c) (P := P) (ps := ps) (mg := X.mg) (closure_ok hfree) I.ok.glob
      (I.mod.glob.keeps I.bk) hcode (TB.code.keeps I.bk) oP ht hc TB.gP bP fun c' ctv h' tk hx hge hlt hrec htb => ?_
    obtain ⟨c2, oc, vs, t, e2, hoc, hd, hv⟩ := hrec
    cases e2
    have big : s.heap.objs.size ≤ h'.objs.size := Nat.le_of_lt (Nat.lt_of_le_of_lt hge hlt)
    have nC : H c' = none := I.hok.fresh hge
    have eL : (ps ++ #[rawInt pos.line, rawInt pos.col, .ref c']).toList = ps.toList ++ [rawInt pos.line, rawInt pos.col, .ref c'] := by simp
    have r1 := r.table (more := #[rawInt pos.line, rawInt pos.col, .ref c']) hm hu hP nC (by rw [eL]; exact PySem.TriplesOk_snoc _ _ _ _ ht) (fun p' cv z => by
      rw [eL] at z
      exact LamX.among_app _ ht z)
    have I1 := LamX.inv_table (t' := tk) (q := X.env.qual ++ "<lambda>") (more := #[rawInt pos.line, rawInt pos.col, .ref c']) (h' := h'.push (PySem.W.kla_obj "<lambda>" (X.env.qual ++ "<lambda>") params body scope (cloFrom X.env.cells scope.names [])
        ((X.mg "__name__").getD .none) c' ctv)) I hP (fun b o hb e => Heap.get?_push_of_some _ (hx b o hb e)) (Heap.get?_push_of_some _ htb) hge ⟨oc, vs, t, Heap.get?_push_of_some _ hoc, hd, hv⟩
    refine h _ _ _ _ _ _ _ (Fsub.put (r.fn nC)) r1 I1 (Heap.get?_push_size _ rfl) ?_ (far _ big) upd_same
    rw [upd_ne (Nat.ne_of_gt hlt), upd_ne (Nat.ne_of_gt (Nat.lt_of_lt_of_le (Heap.lt_size oP) big))]
    exact I.hok.fresh big
end

def Act (P : Program) (w : World) (K : PySem.W.Frag) (mg : Str → Option Value) (base : Heap) (C : Ct) (k : Nat) (outer : List Env) (s : Shared) (H : Hp) (F : Fz) (f : Addr) (o : G → Res D) : Prop :=
  ∀ (A1 : Around) (outer1 : List Env) (s1 : Shared) (H1 : Hp) (F1 : Fz) (g1 : G) (Q1 : VK) (E1 : XK), A1.guards = some [] → Room k A1 → Env0 P w K mg base A1 outer1 s1 H1 → Un (L2.frs outer) [] H H1 s.heap s1.heap → Goes C F H g1 F1 H1 →
    ((∃ v g2, o g1 = .ok v g2 ∧ ∀ F2 H2 x, Goes C F1 H1 g2 F2 H2 → Rel C.K F2 v x → Q1 x H2) ∨ (∃ c ws g2, o g1 = .exc c ws g2 ∧ ∀ F2 H2 cls d, Goes C F1 H1 g2 F2 H2 → XR C F2 c ws cls d → E1 cls d H2)) →
    PySem.W.FnAt f s1.heap ∧ codeAny (model P w) A1 (.call (.ref f) ⟨[], []⟩) (CR (L2.CX P w) outer1 P w H1 s1 Q1 E1) s1
def lamR (Φ : Fns) (ko : D → D) (sel : Nat → Bool) (h : Nat → List D → Ex) : Res D → Res D
  | .ok v g => .ok (ko v) g
  | .exc c ws g => if sel c then ev Φ (h c ws) [] g else .no
  | .no => .no
structure ThG (P : Program) (w : World) (K : PySem.W.Frag) (mg : Str → Option Value) (base : Heap) (k : Nat) (C : Ct) (fa : Addr) (fd : FuncData) (a : Str) (TR : Res D → Res D) : Prop where
  run : ∀ (A : Around) (outer : List Env) (s : Shared) (H : Hp) (F : Fz) (g : G) (f : Addr) (o : G → Res D) (Q : VK), A.guards = some [] → Room (k + 1) A → Env0 P w K mg base A outer s H → BindsTo s fd ⟨[.ref f], []⟩ [(a, .ref f)] →
    (Same F.h H ∧ TupF F H) → F.sc = C.sc → DkR C F g H → Act P w K mg base C k outer s H F f o → (∃ v g', TR (o g) = .ok v g' ∧ ∀ F' H' x, Goes C F H g' F' H' → Rel C.K F' v x → Q x H') →
    codeAny (model P w) A (.call (.ref fa) ⟨[.ref f], []⟩) (CR (L2.CX P w) outer P w H s Q fun _ _ _ => False) s
section
variable {X : Cx} {C : Ct} {Ow : List Nat} {T : Hp} {F : Fz} {σe : Sl} {g : G} {σ : L2.St} {H : Hp} {k n : Nat}
theorem clrs_len : ∀ (ow : List Nat) (σ : Sl), (clrs ow σ).length = σ.length
  | [], _ => rfl
  | i :: r, σ => by
    show (clrs r (σ.set i none)).length = _
    rw [clrs_len r, List.length_set]
theorem clrs_some : ∀ (ow : List Nat) (σ : Sl) {j : Nat} {v : D}, (clrs ow σ)[j]? = some (some v) → j ∉ ow ∧ σ[j]? = some (some v)
  | [], σ, j, v, h => ⟨List.not_mem_nil, h⟩
  | i :: r, σ, j, v, h => by
    obtain ⟨h1, h2⟩ := clrs_some r (σ.set i none) h
    by_cases hj : i = j
    · subst hj
      rw [List.getElem?_set] at h2
      simp at h2
    · rw [List.getElem?_set_ne hj] at h2
      exact ⟨fun z => (List.mem_cons.mp z).elim (fun z => hj z.symm) h1, h2⟩
theorem R.goesTo {C' : Ct} {F0 : Fz} {H0 : Hp} (hc : C' = { C with H0 := H0, F0 := F0, Φ := C'.Φ, fu := C'.fu, slf := C'.slf, xf := C'.xf }) {F1 : Fz} {T1 : Hp} {Ow1 : List Nat} {σe1 : Sl} {σ1 : L2.St} {g1 : G} {H1 : Hp} (r : R C' Ow1 T1 F1 σe1 g1 σ1 H1) : Goes C F0 H0 g1 F1 H1 := by
  rw [hc] at r
  exact ⟨r.grow, r.sub, fun a o z1 z2 => r.new a o z1 z2, fun a o z => r.keep a o z, fun d l z => r.dnew d l z, r.dk, r.tups⟩
theorem Ecx.th {C0 : Ct} {W : WX} {f : Addr} {a : Str} {p1 p2 : Pos} {o : G → Res D} {F0 : Fz} {j : Nat} (hC : C = { C0 with H0 := X.H_0, F0 := F0, Φ := C.Φ, fu := C.fu, slf := some (j, f), xf := none }) (act : Act X.prog X.w X.K X.mg X.base C0 k X.outer X.s_0 X.H_0 F0 f o) (tk : Takes X W)
    (hG : X.A.guards = some []) (hr : Room k X.A) (hex : X.ex = []) (hj : j ∈ Ow) (hN : X.N[j]? = some a) (hv : Vis X.env.scope a) (hd : (a == ("__debug__" : Str)) = false := by decide) (hcd : (a == ("__classdict__" : Str)) = false := by decide) :
    Ecx X C W Ow (.Call (.Name a p1) [] [] p2) (fun _ g => o g) := by
  refine ⟨⟨fun pins s σ H Q I h => ?_⟩⟩
  obtain ⟨T, F, σe, g, r, hout⟩ := h
  have hs : σ[j]? = some (some (V.ref f)) := r.slf j f (by rw [hC]) hj
  refine wpAny_Call_Name_kw (thn ((pe_var (X := X) (pos := p1) (i := j) hN hv hd hcd).run pins s σ H (fun v H1 => v = .ref f ∧ H1 = H) I ⟨.ref f, hs, rfl, rfl⟩) fun u s1 ⟨v, H1, I1, r1, q1⟩ => ?_)
  obtain ⟨ev1, eH⟩ := q1
  subst ev1
  subst eH
  obtain rfl : u = Value.ref f := r1
  have un : Un (L2.frs X.outer) [] X.H_0 H1 X.s_0.heap s1.heap := by
    have z := I1.base
    rw [hex] at z
    exact z
  have go0 : Goes C0 F0 X.H_0 g F H1 := r.goesTo (C := C0) (C' := C) (by rw [hC])
  have back : ∀ {g2 : G} {F2 : Fz} {H2 : Hp}, Goes C0 F H1 g2 F2 H2 → R C Ow T F2 σe g2 σ H2 := fun {g2 F2 H2} gs => by
    refine r.goes ⟨gs.fs, gs.sub, gs.nw, gs.kp, gs.dn, ?_, gs.tp⟩
    rw [hC]
    exact gs.dk
  have eK : C0.K = C.K := by rw [hC]
  have exc : C0.xc = C.xc := by rw [hC]
  have hact := act X.A X.stack s1 H1 F g Q (WE W σ) hG hr I1.env0 un go0 (by
    rcases hout with ⟨v, g2, e, q⟩ | ⟨c, ws, g2, e, q⟩
    · exact .inl ⟨v, g2, e, fun F2 H2 x gs rx => q F2 H2 x gs.fs (back gs) (by rw [← eK]; exact rx)⟩
    · exact .inr ⟨c, ws, g2, e, fun F2 H2 cls d gs rx => q F2 H2 cls d gs.fs (back gs) (by
        unfold XR at rx ⊢
        rw [← exc, ← eK]; exact rx)⟩)
  refine PySem.W.callWith_F0 hact.1 (wpAny_call (codeAny_mono hact.2 fun rr s' hq => ?_))
  cases rr with
  | error e => exact passAt tk σ pins H1 s1 e s' I1 hq
  | ok fl =>
    cases fl with
    | ret u => exact I1.after hq
    | next => exact False.elim hq
    | brk => exact False.elim hq
    | cont => exact False.elim hq
end
section
variable {P : Program} {w : World} {K : PySem.W.Frag} {mg : Str → Option Value} {base : Heap} {x qual a : Str} {st : Stmt} {f : Addr} {fd : FuncData} {N : List Str} {k : Nat}
theorem R.startT {C : Ct} {F : Fz} {g : G} {H : Hp} {fl : Addr} (hH : C.H0 = H) (hF : C.F0 = F) (hX : C.xf = none) (hS : C.slf = some (0, fl)) (sub : Same F.h H ∧ TupF F H) (sc : F.sc = C.sc) (dk : DkR C F g H) (hn : 1 ≤ N.length) :
    R C [0] (fun _ => none) F (List.replicate N.length none) g (L2.start N [V.ref fl]) H := by
  subst hH; subst hF
  have no : ∀ (i : Nat) (v : D), (List.replicate N.length (none : Option D))[i]? ≠ some (some v) := fun i v e => by
    rw [List.getElem?_replicate] at e
    split at e <;> cases e
  refine ⟨sub.1, sc, .refl _, (fun a o e n => by rw [n] at e; cases e), fun a o e => .inr e, fun d l e => .inl e, ?_, fun i v e n => (no i v e).elim, fun i v e n => (no i v e).elim, fun i j a hi hj ⟨v, e⟩ => (no i v e).elim, dk, (fun a o e => by cases e), fun i a e z => ?_, (fun dd f v z => by rw [hX] at z; cases z), sub.2⟩
  · rw [start_len (vs := [V.ref fl]) (by simpa using hn), List.length_replicate]
  · rw [hS] at e
    cases e
    rfl
theorem thOk {C0 : Ct} (Fn : Fun K x qual st f fd) (S : FnScope N [a] (defScope st)) (hN : 1 ≤ N.length) (TR : Res D → Res D) (b : (G → Res D) → Sm) (Φ : Fns)
    (hv : ∀ (o : G → Res D) (g : G) (d : D) (g' : G), TR (o g) = .ok d g' → fin (Pv.run Φ fuel (b o) (List.replicate N.length none) g) = .ok d g')
    (body : ∀ (cdv : Value) (A : Around) (outer : List Env) (s : Shared) (H : Hp) (F0 : Fz) (fl : Addr) (o : G → Res D), A.guards = some [] → Room k (A.deeper (envOfC qual (defScope st) s.heap.objs.size f cdv)) → Act P w K mg base C0 k outer s H F0 fl o →
      ∃ Ow', Sb (cxOf (L2.CX P w) P w K mg base N qual (defScope st) f cdv A outer s H (fun _ _ _ => False)) { C0 with H0 := H, F0 := F0, Φ := Φ, fu := fuel, slf := some (0, fl), xf := none } (fun _ _ _ _ => False) [0] Ow' [] (defBody st) (b o)) :
    ThG P w K mg base k C0 f fd a TR := by
  obtain ⟨oc, od, kV, doc, pm, an, cdv, ct, osl, rfl, lk, hcd⟩ := Fn.ex
  refine ⟨fun A outer s H F g fl o Q hg hr e0 hb sub sc dk act hout => ?_⟩
  have inK : K.In s.heap := e0.mod.kin.keeps fun b o e => (e0.bs b o e).1
  refine codeAny_call_function hr.depth (inK _ _ lk) rfl S.co S.gen rfl (PySem.W.codeRec_of inK hcd) (hb _ _ _ _ ?_)
  have hb1 : [(a, Value.ref fl)] = [a].zip [Value.ref fl] := rfl
  rw [hb1]
  refine wpAny_newFunctionEnv_cells S.kind (fun y hy => (S.par y.1 (List.of_mem_zip hy).1).imp id fun q => ⟨q, PySem.W.cellsFrom_some _ _ _ (.inl q)⟩) ?_
  rintro env rfl s1 x1
  refine ⟨(e0.mod.nolimit.keeps fun b o e => (e0.bs b o e).1).keeps x1.toInCall.keep, codeAny_func ?_⟩
  obtain ⟨Ow', hbd⟩ := body cdv A outer s H F fl o hg (hr.deeper _) act
  have I := inv_start (CX := L2.CX P w) (E := fun _ _ _ => False) (us := [Value.ref fl]) (vs := [V.ref fl]) S hr.hd e0 rfl (.cons rfl .nil) x1
  obtain ⟨v, g', hev, q⟩ := hout
  have r := R.startT (C := { C0 with H0 := H, F0 := F, Φ := Φ, fu := fuel, slf := some (0, fl), xf := none }) (N := N) rfl rfl rfl rfl sub sc dk hN
  have go : ∀ {F' : Fz} {Ow2 : List Nat} {σe2 : Sl} {σ2 : L2.St} {H' : Hp} {g1 : G}, R { C0 with H0 := H, F0 := F, Φ := Φ, fu := fuel, slf := some (0, fl), xf := none } Ow2 (fun _ => none) F' σe2 g1 σ2 H' → Goes C0 F H g1 F' H' := fun {F' Ow2 σe2 σ2 H' g1} r1 =>
    r1.goesTo (C := C0) rfl
  have hfin := hv o g v g' hev
  have main : tSt { C0 with H0 := H, F0 := F, Φ := Φ, fu := fuel, slf := some (0, fl), xf := none } (fun _ _ _ _ => False) [0] Ow' [] (Pv.run Φ fuel (b o)) { nx := fun _ H' => Q .non H', rt := Q } (L2.start N [V.ref fl]) H := by
    cases hr0 : Pv.run Φ fuel (b o) (List.replicate N.length none) g with
    | no => rw [hr0] at hfin; cases hfin
    | exc c vs g1 => rw [hr0] at hfin; cases hfin
    | ok f1 g1 =>
      rw [hr0] at hfin
      refine ⟨fun _ => none, F, _, g, f1, g1, r, hr0, ?_⟩
      cases f1 with
      | nx σe' => cases hfin; exact fun F' σ' H' s1 r1 => q F' H' _ (go r1) rel_non
      | rt v2 => cases hfin; exact fun F' Ow2 σe2 σ2 H' y s1 r1 h1 => q F' H' y (go r1) h1
      | bk σe' => cases hfin
      | ct σe' => cases hfin
      | ex σe' c vs => cases hfin
  exact wpAny_mono (hbd.run.run [] s1 _ H _ I main) (fun fl2 s' hs => by
    have z := sp_end (CX := L2.CX P w) (E := fun _ _ _ => False) rfl hs
    cases fl2 <;> exact z) fun e s' hs => hs
end
section
variable {X : Cx} {C : Ct} {Ow : List Nat} {k : Nat}
theorem lamAct {T : Hp} {F : Fz} {σe : Sl} {g : G} {σ : L2.St} {H : Hp} {pins : List (Addr × Obj)} {s : Shared} {params : Arguments} {body : Expr} {scope : Scope} {f c' : Addr} {pm ctv : Value} {q : Str} {m : Sl → G → Res D} (I : Inv X pins σ H s) (r : R C Ow T F σe g σ H)
    (hf : s.heap.get? f = some (PySem.W.kla_obj "<lambda>" q params body scope (cloFrom X.env.cells scope.names []) pm c' ctv)) (hfn : H f = none) (hfr : f ∉ L2.frs X.stack) (hco : F.h c' = some (LamX.CodeO c' q)) (hq : q = X.env.qual ++ "<lambda>") (L : LamX.LamS X.env.scope scope)
    (hbind : ∀ (q : Str) (cl : List (Str × Addr)) (pm cv ctv : Value), bindArgs (PySem.W.kla_fn "<lambda>" q params body scope cl pm cv ctv) ⟨[], []⟩ = pure [])
    (hbody : ∀ (A : Around) (outer : List Env) (s : Shared) (H : Hp) (F : Fz) (E : XK) (f c' : Addr), A.guards = some [] → Room k (A.deeper (LamX.lamEnv X scope s.heap.objs.size f c')) → Ecx (LamX.lamCx X A outer s H E scope f c') { C with H0 := H, F0 := F, slf := none, xf := none } (fun cls d _ H' => E cls d H') [] body m) :
    Act X.prog X.w X.K X.mg X.base C (k + 1) X.stack s H F f (m (clrs Ow σe)) := by
  subst hq
  intro A1 outer1 s1 H1 F1 g1 Q1 E1 hG1 hr1 e0 un go hout
  have of1 := un.keep f _ hf hfn hfr (fun z => nomatch z)
  have hc1 : H1 c' = some (LamX.CodeO c' (X.env.qual ++ "<lambda>")) := go.sub _ _ (go.fs.h _ _ hco)
  refine ⟨⟨_, _, _, _, of1⟩, ?_⟩
  obtain ⟨⟨oc, us, t, hoc, hdc, hvc⟩, _, _⟩ := e0.hok c' _ hc1
  refine PySem.W.kla_callFunE hr1.depth of1 rfl L.co L.gen rfl ⟨c', oc, us, t, rfl, hoc, hdc, hvc⟩ ?_
  rw [hbind]
  have lim : s1.heap.NoLimit := e0.mod.nolimit.keeps fun b o e => (e0.bs b o e).1
  refine wpAny_pure (wpAny_newFunctionEnv (fun y hy => (L.own y hy).2) (fun y hy => absurd hy List.not_mem_nil) (fun h₁ hns hsb => ⟨lim.fresh _ hsb, ?_⟩) L.kind)
  show codeAny _ _ (.expr body (LamX.lamEnv X scope s1.heap.objs.size f c')) _ _
  have kp : ∀ b o, s1.heap.get? b = some o → h₁.get? b = some o := fun b o e => hsb.extBut b o (Nat.ne_of_lt (Heap.lt_size e)) (Heap.get?_push_of_some _ e)
  have J := LamX.lam_start2 (X := X) (A := A1) (outer := outer1) (E := E1) (f := f) (c' := c') (h₁ := h₁) (tk := s1.toks + ([] : List (Str × Value)).length) I L e0 hr1.hd un hns kp
  have rL : R { C with H0 := H1, F0 := F1, slf := none, xf := none } [] (fun _ => none) F1 (clrs Ow σe) g1 σ H1 := by
    refine ⟨go.sub, go.fs.sc.trans r.sc, .refl _, (fun a o e n => by rw [n] at e; cases e), fun a o e => .inr e, fun d l e => .inl e, (clrs_len _ _).trans r.len, fun i v e _ => ?_, fun i v e n => absurd n List.not_mem_nil, fun i j a hi => absurd hi List.not_mem_nil, go.dk, (fun a o e => by cases e), (fun i a e => by cases e), (fun dd f v e => by cases e), go.tp⟩
    obtain ⟨h1, h2⟩ := clrs_some _ _ e
    obtain ⟨y, e1, e2⟩ := r.fz i v h2 h1
    exact ⟨y, e1, e2.mono go.fs _ _⟩
  have goL : ∀ {F' : Fz} {σe2 : Sl} {H' : Hp} {g2 : G}, R { C with H0 := H1, F0 := F1, slf := none, xf := none } [] (fun _ => none) F' σe2 g2 σ H' → Goes C F1 H1 g2 F' H' := fun {F' σe2 H' g2} r2 => r2.goesTo (C := C) rfl
  refine PySem.W.kla_codeExpr (wpAny_mono ((hbody A1 outer1 s1 H1 F1 E1 f c' hG1 (hr1.deeper _)).run.run [] _ _ H1 Q1 J ⟨fun _ => none, F1, clrs Ow σe, g1, rL, ?_⟩) (fun u s' hq => ?_) fun e s' hq => hq)
  · rcases hout with ⟨v, g2, e, q⟩ | ⟨c, ws, g2, e, q⟩
    · exact .inl ⟨v, g2, e, fun F2 H2 x s2 r2 rx => q F2 H2 x (goL r2) rx⟩
    · exact .inr ⟨c, ws, g2, e, fun F2 H2 cls d s2 r2 rx => q F2 H2 cls d (goL r2) rx⟩
  · obtain ⟨y, H', J', rv, q⟩ := hq
    exact ⟨y, H', J'.os, J'.bare, J'.base, J'.hok, rv, q⟩
theorem lamc_ev {Φ : Fns} {ko : D → D} {sel : Nat → Bool} {h : Nat → List D → Ex} {ow : List Nat} {fi : Nat} {is : Exs} {perm : Option (List Nat)} {σe : Sl} {g g' : G} {v : D} (m : ev Φ (.lamc ko sel h ow fi is perm) σe g = .ok v g') : lamR Φ ko sel h (callM Φ fi is perm (clrs ow σe) g) = .ok v g' := by
  unfold ev at m
  obtain ⟨vs, g1, m1, m2⟩ := bind_eq_ok m
  unfold callM
  rw [m1]
  show lamR Φ ko sel h (Φ fi (pmo perm vs) g1) = _
  unfold lamR
  cases perm <;> exact m2
theorem Es.lamc {fa c P : Addr} {fd : FuncData} {a x q : Str} {params : Arguments} {body : Expr} {scope : Scope} {p lpos pos : Pos} {ko : D → D} {sel : Nat → Bool} {h : Nat → List D → Ex} {fi : Nat} {is : Exs} {perm : Option (List Nat)}
    (TH : ThG X.prog X.w X.K X.mg X.base (k + 1) C fa fd a (lamR C.Φ ko sel h)) (hG : X.A.guards = some []) (hr : Room (k + 2) X.A) (hg : Gl X x) (hm : X.mg x = some (.ref fa)) (hk : PySem.W.keepIn X.K (.ref fa) = true) (hb : Binds X.K fd [a] [])
    (TB : LamX.TabB X.base X.mg c P) (hcode : X.env.code = .ref c) (hmT : (P, q) ∈ C.sc.2.2.2) (hu : ∀ q', (P, q') ∈ C.sc.2.2.2 → q' = q) (hq : q = X.env.qual ++ "<lambda>") (L : LamX.LamS X.env.scope scope) (hdef : defaultsOf params X.env = ([], []))
    (hbind : ∀ (q : Str) (cl : List (Str × Addr)) (pm cv ctv : Value), bindArgs (PySem.W.kla_fn "<lambda>" q params body scope cl pm cv ctv) ⟨[], []⟩ = pure [])
    (hbody : ∀ (A : Around) (outer : List Env) (s : Shared) (H : Hp) (F : Fz) (E : XK) (f c' : Addr), A.guards = some [] → Room k (A.deeper (LamX.lamEnv X scope s.heap.objs.size f c')) → Ecx (LamX.lamCx X A outer s H E scope f c') { C with H0 := H, F0 := F, slf := none, xf := none } (fun cls d _ H' => E cls d H') [] body (callM C.Φ fi is perm))
    (hdb : (x == ("__debug__" : Str)) = false) :
    Es X C Ow (.Call (.Name x p) [.Lambda params body scope lpos] [] pos) (.lamc ko sel h Ow fi is perm) := by
  refine ⟨⟨fun pins s σ H Q I hh => ?_⟩⟩
  obtain ⟨T, F, σe, g, v, g', r, m, qq⟩ := hh
  have m' := lamc_ev m
  refine wpAny_Call_Name_kw (ld_glob I hg hm ?_ hdb)
  refine PySem.W.callWith_K (h₀ := X.base) I.ok.mod.kin hk ?_ (by rfl) (by rfl)
  show wpAny _ _ (spliced ((false, eval (.Lambda params body scope lpos) X.env) :: backTo pos (starEach [] X.env))) _ _ s
  refine Calls.spliced_cons (mkLam I r TB hcode hmT hu hq hdef (L.has I.ok) fun f c' pm ctv F' H' s' fs r' I' hf hfn hfr hco => ?_)
  refine Calls.spliced_nil ⟨I'.kIn, ?_⟩
  have act := lamAct (k := k) (m := callM C.Φ fi is perm) I' r' hf hfn hfr hco hq L hbind hbody
  have bt := hb s' [.ref f] I'.kIn rfl
  refine wpAny_call (codeAny_mono (TH.run X.A X.stack s' H' F' g f _ Q hG hr I'.env0 bt ⟨r'.sub, r'.tups⟩ r'.sc r'.dk act ⟨v, g', m', fun F2 H2 y gs rx => qq F2 H2 y (fs.trans gs.fs) (r'.goes gs) rx⟩) fun rr s2 hq => ?_)
  cases rr with
  | error e =>
    obtain ⟨_, _, _, _, _, _, _, _, _, _, _, _, z⟩ := hq
    exact z.elim
  | ok fl =>
    cases fl with
    | ret u => exact I'.after hq
    | next => exact False.elim hq
    | brk => exact False.elim hq
    | cont => exact False.elim hq
end
section
variable {X : Cx} {C : Ct} {Φ : Fns}
theorem endB_th {kx : Kx} {o : G → Res D} : EndB C kx (fun _ g => o g) (.thX kx o) := fun σ g fl g' h => by
  unfold Pv.run at h
  exact h
theorem lam_takes {A : Around} {outer : List Env} {s : Shared} {H : Hp} {E : XK} {scope : Scope} {f c' : Addr} : Takes (LamX.lamCx X A outer s H E scope f c') (fun cls d _ H' => E cls d H') := takes_of rfl rfl rfl rfl
def Cl (Φ : Fns) (e : Ex) : Prop := ∀ (σ : Sl) (g : G), ev Φ e σ g = ev Φ e [] g
def Cls (Φ : Fns) (es : Exs) : Prop := ∀ (σ : Sl) (g : G), evs Φ es σ g = evs Φ es [] g
theorem Cl.c {v : D} : Cl Φ (.c v) := fun _ _ => by unfold ev; rfl
theorem Cl.xf {xt : List (Option Str)} {c : Nat} {vs : List D} {f : Str} : Cl Φ (xfE xt c vs f) := fun σ g => by
  unfold xfE
  split
  · exact Cl.c σ g
  · unfold ev
    rw [Cl.c σ g]
    have e : ∀ g, ev Φ (.c .none) σ g = ev Φ (.c .none) [] g := Cl.c σ
    simp only [e]
theorem Cls.nil : Cls Φ .nil := fun _ _ => by unfold evs; rfl
theorem Cls.cons {e : Ex} {es : Exs} (h : Cl Φ e) (hs : Cls Φ es) : Cls Φ (.cons e es) := fun σ g => by
  unfold evs
  rw [h σ g]
  congr 1
  funext x g
  rw [hs σ g]
theorem Cl.tup {es : Exs} (h : Cls Φ es) : Cl Φ (.tup es) := fun σ g => by
  unfold ev
  rw [h σ g]
theorem run_refused {fu : Nat} {sel : Nat → Bool} {h : Nat → List D → Ex} {d0 : D} (hc : ∀ c ws, Cl Φ (h c ws)) (o : G → Res D) (g : G) (d : D) (g' : G) (e : lamR Φ (fun _ => d0) sel h (o g) = .ok d g') :
    fin (Pv.run Φ fu (.seq (.set [1] (.c d0)) (.seq (.try_ (.thX .ex o) sel (fun c ws => .set [1] (h c ws)) (some 2)) (.ret (.var 1)))) (List.replicate 3 none) g) = .ok d g' := by
  have e0 : Pv.run Φ fu (.set [1] (.c d0)) (List.replicate 3 none) g = .ok (.nx [none, some d0, none]) g := by
    unfold Pv.run ev
    rfl
  conv => lhs; unfold Pv.run
  rw [e0]
  show fin (Pv.run Φ fu (.seq _ _) [none, some d0, none] g) = _
  cases ho : o g with
  | no => rw [ho] at e; cases e
  | ok v g1 =>
    rw [ho] at e
    cases e
    conv => lhs; unfold Pv.run
    have e1 : Pv.run Φ fu (.try_ (.thX .ex o) sel (fun c ws => .set [1] (h c ws)) (some 2)) [none, some d0, none] g = .ok (.nx [none, some d0, none]) g' := by
      unfold Pv.run
      have e2 : Pv.run Φ fu (.thX .ex o) [none, some d0, none] g = .ok (.nx [none, some d0, none]) g' := by
        unfold Pv.run
        rw [ho]
        rfl
      rw [e2]
      rfl
    rw [e1]
    show fin (Pv.run Φ fu (.ret (.var 1)) [none, some d0, none] g') = _
    unfold Pv.run ev
    rfl
  | exc c ws g1 =>
    rw [ho] at e
    have e : (if sel c then ev Φ (h c ws) [] g1 else .no) = .ok d g' := e
    cases hs : sel c with
    | false => rw [hs] at e; cases e
    | true =>
      rw [hs] at e
      have e : ev Φ (h c ws) [] g1 = .ok d g' := e
      conv => lhs; unfold Pv.run
      have e1 : Pv.run Φ fu (.try_ (.thX .ex o) sel (fun c ws => .set [1] (h c ws)) (some 2)) [none, some d0, none] g = .ok (.nx [none, some d, none]) g' := by
        unfold Pv.run
        have e2 : Pv.run Φ fu (.thX .ex o) [none, some d0, none] g = .ok (.ex [none, some d0, none] c ws) g1 := by
          unfold Pv.run
          rw [ho]
          rfl
        rw [e2]
        show (if sel c = true then if okI (some 2) [none, some d0, none] = true then (Pv.run Φ fu (.set [1] (h c ws)) (clr (some 2) [none, some d0, none]) g1).bind (clrF (some 2)) else .no else .ok (.ex [none, some d0, none] c ws) g1) = _
        rw [if_pos hs, if_pos (show okI (some 2) [none, some d0, none] = true from rfl)]
        have e3 : Pv.run Φ fu (.set [1] (h c ws)) (clr (some 2) [none, some d0, none]) g1 = .ok (.nx [none, some d, none]) g' := by
          unfold Pv.run
          rw [hc c ws, e]
          rfl
        rw [e3]
        rfl
      rw [e1]
      show fin (Pv.run Φ fu (.ret (.var 1)) [none, some d, none] g') = _
      unfold Pv.run ev
      rfl
end
end Pv
end

section
set_option autoImplicit false
namespace Xk18
open PySem Pv

noncomputable def m_is_integer : Sm :=
  (.ret (.and (.bi .isInt (.cons (.var 0) .nil)) (.not (.bi .isBool (.cons (.var 0) .nil)))))

noncomputable def m_is_prime (i_is_integer : Nat) : Sm :=
  (.seq (.ite (.or (.not (.truth (.call i_is_integer (.cons (.var 0) .nil)))) (.or (.cmp .lt (.var 0) (.c (.int 7))) (.cmp .gt (.var 0) (.c (.int 199))))) (.ret (.c (.bool false))) .skip)
    (.seq (.forr [1] .seq (.cons (.tup (.cons (.c (.int 2)) (.cons (.c (.int 3)) (.cons (.c (.int 5)) (.cons (.c (.int 7)) (.cons (.c (.int 11)) (.cons (.c (.int 13)) .nil))))))) .nil) (.ite (.and (.cmp .eq (.bin .mod (.var 0) (.var 1)) (.c (.int 0))) (.cmp .ne (.var 0) (.var 1))) (.ret (.c (.bool false))) .skip))
    (.ret (.c (.bool true)))))

noncomputable def m_is_number (i_is_integer : Nat) : Sm :=
  (.ret (.and (.call i_is_integer (.cons (.var 1) .nil)) (.chain .le .lt (.c (.int 0)) (.var 1) (.var 0))))

noncomputable def m_number_power : Sm :=
  (.seq (.set [3] (.c (.int 1)))
    (.seq (.set [4] (.bin .mod (.var 1) (.var 0)))
    (.seq (.set [5] (.var 2))
    (.seq (.whil (.cmp .gt (.var 5) (.c (.int 0))) (.seq (.ite (.truth (.bin .band (.var 5) (.c (.int 1)))) (.set [3] (.bin .mod (.bin .mul (.var 3) (.var 4)) (.var 0))) .skip)
      (.seq (.set [4] (.bin .mod (.bin .mul (.var 4) (.var 4)) (.var 0)))
      (.set [5] (.bin .shr (.var 5) (.c (.int 1)))))))
    (.ret (.var 3))))))

noncomputable def m_inverse (i_number_power : Nat) : Sm :=
  (.ret (.call i_number_power (.cons (.var 0) (.cons (.var 1) (.cons (.bin .sub (.var 0) (.c (.int 2))) .nil)))))

noncomputable def m_is_square (i_number_power : Nat) : Sm :=
  (.ret (.or (.cmp .eq (.var 1) (.c (.int 0))) (.cmp .eq (.call i_number_power (.cons (.var 0) (.cons (.var 1) (.cons (.bin .fdiv (.bin .sub (.var 0) (.c (.int 1))) (.c (.int 2))) .nil)))) (.c (.int 1)))))

noncomputable def m_spare (i_is_square : Nat) : Sm :=
  (.seq (.set [1] (.c (.int 2)))
    (.seq (.whil (.truth (.call i_is_square (.cons (.var 0) (.cons (.var 1) .nil)))) (.aug 1 .add (.c (.int 1))))
    (.ret (.var 1))))

def n_Curve___init__ (i_is_number i_is_prime : Nat) : Sm :=
  (.seq (.ite (.not (.truth (.call i_is_prime (.cons (.var 1) .nil)))) (.rais 0 (.cons (.c (.str "prime")) .nil)) .skip)
    (.seq (.ite (.not (.truth (.call i_is_number (.cons (.var 1) (.cons (.var 2) .nil))))) (.rais 0 (.cons (.c (.str "a")) .nil)) .skip)
    (.seq (.ite (.not (.truth (.call i_is_number (.cons (.var 1) (.cons (.var 3) .nil))))) (.rais 0 (.cons (.c (.str "b")) .nil)) .skip)
    (.seq (.ite (.cmp .eq (.bin .mod (.bin .add (.bin .mul (.bin .mul (.bin .mul (.c (.int 4)) (.var 2)) (.var 2)) (.var 2)) (.bin .mul (.bin .mul (.c (.int 27)) (.var 3)) (.var 3))) (.var 1)) (.c (.int 0))) (.rais 0 (.cons (.c (.str "flat")) .nil)) .skip)
    (.seq (.setF 0 0 "prime" (.var 1))
    (.seq (.setF 0 0 "a" (.var 2))
    (.setF 0 0 "b" (.var 3))))))))
noncomputable def m_Curve___init__ (i_is_number i_is_prime : Nat) : Sm := .seq (n_Curve___init__ i_is_number i_is_prime) (.ret (.var 0))

noncomputable def m_Curve___eq__ : Sm :=
  (.ret (.and (.isO 0 (.var 1)) (.and (.cmp .eq (.fld (.var 0) "prime") (.fld (.var 1) "prime")) (.and (.cmp .eq (.fld (.var 0) "a") (.fld (.var 1) "a")) (.cmp .eq (.fld (.var 0) "b") (.fld (.var 1) "b"))))))

noncomputable def m_Curve_twist (i_Curve___init__ i_spare : Nat) : Sm :=
  (.seq (.set [1] (.call i_spare (.cons (.fld (.var 0) "prime") .nil)))
    (.seq (.set [2] (.bin .mul (.var 1) (.var 1)))
    (.mkX .ret 0 i_Curve___init__ (.cons (.fld (.var 0) "prime") (.cons (.bin .mod (.bin .mul (.var 2) (.fld (.var 0) "a")) (.fld (.var 0) "prime")) (.cons (.bin .mod (.bin .mul (.bin .mul (.var 2) (.var 1)) (.fld (.var 0) "b")) (.fld (.var 0) "prime")) .nil))))))

noncomputable def m_scaled_pair : Sm :=
  (.seq (.set [2] (.bin .mod (.bin .mul (.var 1) (.var 1)) (.fld (.var 0) "prime")))
    (.seq (.set [3] (.bin .mod (.bin .mul (.var 2) (.var 2)) (.fld (.var 0) "prime")))
    (.ret (.tup (.cons (.bin .mod (.bin .mul (.var 3) (.fld (.var 0) "a")) (.fld (.var 0) "prime")) (.cons (.bin .mod (.bin .mul (.bin .mul (.var 3) (.var 2)) (.fld (.var 0) "b")) (.fld (.var 0) "prime")) .nil))))))

noncomputable def m_first_like (i_Curve___init__ i_scaled_pair : Nat) : Sm :=
  (.seq (.set [1, 2] (.bi .minL (.cons (.comp [3] .rng2 (.cons (.c (.int 1)) (.cons (.fld (.var 0) "prime") .nil)) (.c (.bool true)) (.call i_scaled_pair (.cons (.var 0) (.cons (.var 3) .nil)))) .nil)))
    (.mkX .ret 0 i_Curve___init__ (.cons (.fld (.var 0) "prime") (.cons (.var 1) (.cons (.var 2) .nil)))))

noncomputable def m_curve_of (i_Curve___init__ i_inverse : Nat) : Sm :=
  (.seq (.ite (.cmp .eq (.var 1) (.c (.int 0))) (.mkX .ret 0 i_Curve___init__ (.cons (.var 0) (.cons (.c (.int 0)) (.cons (.c (.int 1)) .nil)))) .skip)
    (.seq (.ite (.cmp .eq (.var 1) (.bin .mod (.c (.int 1728)) (.var 0))) (.mkX .ret 0 i_Curve___init__ (.cons (.var 0) (.cons (.c (.int 1)) (.cons (.c (.int 0)) .nil)))) .skip)
    (.seq (.set [2] (.bin .mod (.bin .mul (.var 1) (.call i_inverse (.cons (.var 0) (.cons (.bin .mod (.bin .sub (.c (.int 1728)) (.var 1)) (.var 0)) .nil)))) (.var 0)))
    (.mkX .ret 0 i_Curve___init__ (.cons (.var 0) (.cons (.bin .mod (.bin .mul (.c (.int 3)) (.var 2)) (.var 0)) (.cons (.bin .mod (.bin .mul (.c (.int 2)) (.var 2)) (.var 0)) .nil)))))))

noncomputable def m_square_table : Sm :=
  (.seq (.set [1] (.comp [3] .rng1 (.cons (.var 0) .nil) (.c (.bool true)) (.neg (.c (.int 1)))))
    (.seq (.forr [2] .rng1 (.cons (.var 0) .nil) (.setIx 1 (.bin .mod (.bin .mul (.var 2) (.var 2)) (.var 0)) (.c (.int 1))))
    (.seq (.setIx 1 (.c (.int 0)) (.c (.int 0)))
    (.ret (.var 1)))))

noncomputable def m_trace_by_table : Sm :=
  (.ret (.neg (.bi .sum (.cons (.comp [4] .rng1 (.cons (.var 0) .nil) (.c (.bool true)) (.idx (.var 3) (.bin .mod (.bin .add (.bin .add (.bin .mul (.bin .mul (.var 4) (.var 4)) (.var 4)) (.bin .mul (.var 1) (.var 4))) (.var 2)) (.var 0)))) .nil))))

noncomputable def m_is_trace (i_is_integer : Nat) : Sm :=
  (.ret (.and (.call i_is_integer (.cons (.var 1) .nil)) (.cmp .lt (.bin .mul (.var 1) (.var 1)) (.bin .mul (.c (.int 4)) (.var 0)))))

noncomputable def m_curves_of_kind (i_Curve_twist i_curve_of i_trace_by_table : Nat) : Sm :=
  (.seq (.callX (.set [4]) i_curve_of (.cons (.var 0) (.cons (.var 1) .nil)) none)
    (.seq (.set [5] (.call i_trace_by_table (.cons (.var 0) (.cons (.fld (.var 4) "a") (.cons (.fld (.var 4) "b") (.cons (.var 3) .nil))))))
    (.seq (.set [6] (.ite (.cmp .eq (.var 5) (.var 2)) (.lst (.cons (.var 4) .nil)) (.lst .nil)))
    (.ret (.ite (.cmp .eq (.var 5) (.neg (.var 2))) (.bin .add (.var 6) (.lst (.cons (.meth 0 i_Curve_twist (.var 4) .nil) .nil))) (.var 6))))))

noncomputable def m_curves_with (i_curves_of_kind : Nat) : Sm :=
  (.seq (.set [3] (.lst .nil))
    (.seq (.forr [4] .rng2 (.cons (.c (.int 1)) (.cons (.var 0) .nil)) (.ite (.cmp .ne (.var 4) (.bin .mod (.c (.int 1728)) (.var 0))) (.ext 3 (.call i_curves_of_kind (.cons (.var 0) (.cons (.var 4) (.cons (.var 1) (.cons (.var 2) .nil)))))) .skip))
    (.ret (.var 3))))

noncomputable def m_edge_pairs (i_trace_by_table : Nat) : Sm :=
  (.seq (.set [3] (.bin .add (.comp [6] .rng2 (.cons (.c (.int 1)) (.cons (.var 0) .nil)) (.c (.bool true)) (.tup (.cons (.c (.int 0)) (.cons (.var 6) .nil)))) (.comp [6] .rng2 (.cons (.c (.int 1)) (.cons (.var 0) .nil)) (.c (.bool true)) (.tup (.cons (.var 6) (.cons (.c (.int 0)) .nil))))))
    (.ret (.comp [4, 5] .seq (.cons (.var 3) .nil) (.cmp .eq (.call i_trace_by_table (.cons (.var 0) (.cons (.var 4) (.cons (.var 5) (.cons (.var 2) .nil))))) (.var 1)) (.tup (.cons (.var 4) (.cons (.var 5) .nil))))))

noncomputable def m_curve_with (i_Curve___init__ i_curves_with i_edge_pairs i_first_like i_is_trace i_square_table : Nat) : Sm :=
  (.seq (.ite (.not (.truth (.call i_is_trace (.cons (.var 0) (.cons (.var 1) .nil))))) (.rais 1 (.cons (.var 1) .nil)) .skip)
    (.seq (.set [2] (.call i_square_table (.cons (.var 0) .nil)))
    (.seq (.set [3] (.comp [6] .seq (.cons (.call i_curves_with (.cons (.var 0) (.cons (.var 1) (.cons (.var 2) .nil)))) .nil) (.c (.bool true)) (.call i_first_like (.cons (.var 6) .nil))))
    (.seq (.set [4, 5] (.bi .minL (.cons (.bin .add (.call i_edge_pairs (.cons (.var 0) (.cons (.var 1) (.cons (.var 2) .nil)))) (.comp [6] .seq (.cons (.var 3) .nil) (.c (.bool true)) (.tup (.cons (.fld (.var 6) "a") (.cons (.fld (.var 6) "b") .nil))))) .nil)))
    (.mkX .ret 0 i_Curve___init__ (.cons (.var 0) (.cons (.var 4) (.cons (.var 5) .nil))))))))

noncomputable def m_many_pairs (i_curves_with i_edge_pairs i_is_trace i_square_table : Nat) : Sm :=
  (.seq (.ite (.not (.truth (.call i_is_trace (.cons (.var 0) (.cons (.var 1) .nil))))) (.rais 1 (.cons (.var 1) .nil)) .skip)
    (.seq (.set [2] (.call i_square_table (.cons (.var 0) .nil)))
    (.ret (.bin .add (.bi .len (.cons (.call i_edge_pairs (.cons (.var 0) (.cons (.var 1) (.cons (.var 2) .nil)))) .nil)) (.bin .fdiv (.bin .mul (.bi .len (.cons (.call i_curves_with (.cons (.var 0) (.cons (.var 1) (.cons (.var 2) .nil)))) .nil)) (.bin .sub (.var 0) (.c (.int 1)))) (.c (.int 2)))))))

noncomputable def m__law_deck (ns : List Int) : Sm :=
  (.seq (.par 2 3 (.comp [1] .seq (.cons (.scr (.var 0) ns 63) .nil) (.c (.bool true)) (.bi .toInt (.cons (.var 1) .nil))) (.c (.int 10876018)))
    (.seq (.forr [1] .seq (.cons (.var 2) .nil) (.set [3] (.bin .mod (.bi .toInt (.cons (.bin .add (.bin .add (.bin .mul (.var 3) (.c (.int 48271))) (.bin .mod (.bi .toInt (.cons (.var 1) .nil)) (.c (.int 2147483563)))) (.c (.int 18))) .nil)) (.c (.int 2147483647)))))
    (.ret (.dkNew (.lrev (.var 2)) (.var 3) (.c (.int 0))))))

noncomputable def m__law_draw : Sm :=
  (.seq (.dkSet true (.var 0) (.bin .add (.dkGet true (.var 0)) (.c (.int 1))))
    (.seq (.ite (.dkHas (.var 0)) (.seq (.set [2] (.dkPop (.var 0)))
      (.seq (.ite (.cmp .ge (.var 2) (.bin .pow (.c (.int 10)) (.c (.int 18)))) (.seq (.ex (.dkPush (.var 0) (.bin .fdiv (.var 2) (.bi .max2 (.cons (.c (.int 2)) (.cons (.var 1) .nil))))))
        (.ret (.bin .mod (.bi .toInt (.cons (.var 2) .nil)) (.var 1)))) .skip)
      (.dkSet false (.var 0) (.bin .mod (.bi .toInt (.cons (.bin .add (.dkGet false (.var 0)) (.var 2)) .nil)) (.c (.int 2147483647)))))) .skip)
    (.seq (.dkSet false (.var 0) (.bin .mod (.bi .toInt (.cons (.bin .add (.bin .add (.bin .mul (.dkGet false (.var 0)) (.c (.int 48271))) (.bin .mul (.dkGet true (.var 0)) (.c (.int 69621)))) (.c (.int 1))) .nil)) (.c (.int 2147483647))))
    (.ret (.bin .mod (.bin .fdiv (.bin .mod (.bi .toInt (.cons (.bin .mul (.dkGet false (.var 0)) (.dkGet false (.var 0))) .nil)) (.c (.int 2147483629))) (.c (.int 64))) (.var 1))))))

noncomputable def m__law_pick (i__law_draw : Nat) : Sm :=
  (.ret (.idx (.var 1) (.call i__law_draw (.cons (.var 0) (.cons (.bi .len (.cons (.var 1) .nil)) .nil)))))

noncomputable def m__law_traces : Sm :=
  (.ret (.comp [1] .rng2 (.cons (.bin .sub (.c (.int 0)) (.var 0)) (.cons (.bin .add (.var 0) (.c (.int 1))) .nil)) (.cmp .lt (.bin .mul (.var 1) (.var 1)) (.bin .mul (.c (.int 4)) (.var 0))) (.var 1)))

noncomputable def m__law_table : Sm :=
  (.seq (.parN [1, 2, 3] (.cons (.bin .lrep (.lst (.cons (.c (.int 0)) .nil)) (.var 0)) (.cons .dnew (.cons .dnew .nil))))
    (.seq (.forr [4] .rng1 (.cons (.var 0) .nil) (.setIx 1 (.bin .mod (.bi .toInt (.cons (.bin .mul (.var 4) (.var 4)) .nil)) (.var 0)) (.bin .add (.idx (.var 1) (.bin .mod (.bi .toInt (.cons (.bin .mul (.var 4) (.var 4)) .nil)) (.var 0))) (.c (.int 1)))))
    (.seq (.set [1] (.bin .lcat (.var 1) (.var 1)))
    (.seq (.forr [5] .rng1 (.cons (.var 0) .nil) (.seq (.set [6] (.comp [9] .rng1 (.cons (.var 0) .nil) (.c (.bool true)) (.bin .mod (.bi .toInt (.cons (.bin .add (.bin .mul (.bin .mul (.var 9) (.var 9)) (.var 9)) (.bin .mul (.var 5) (.var 9))) .nil)) (.var 0))))
      (.forr [7] .rng1 (.cons (.var 0) .nil) (.ite (.cmp .ne (.bin .mod (.bi .toInt (.cons (.bin .add (.bin .mul (.bin .mul (.bin .mul (.c (.int 4)) (.var 5)) (.var 5)) (.var 5)) (.bin .mul (.bin .mul (.c (.int 27)) (.var 7)) (.var 7))) .nil)) (.var 0)) (.c (.int 0))) (.seq (.set [8] (.bin .sub (.var 0) (.bi .sum (.cons (.comp [10] .seq (.cons (.var 6) .nil) (.c (.bool true)) (.idx (.var 1) (.bin .add (.var 10) (.var 7)))) .nil))))
          (.seq (.setKey 2 (.var 8) (.bin .add (.dget (.var 2) (.var 8) (.c (.int 0))) (.c (.int 1))))
          (.ite (.dhas (.var 8) (.var 3) true) (.setKey 3 (.var 8) (.tup (.cons (.var 5) (.cons (.var 7) .nil)))) .skip))) .skip))))
    (.ret (.tup (.cons (.var 2) (.cons (.var 3) .nil))))))))

noncomputable def m__law_is_right (i_Curve___eq__ i_Curve___init__ i_curve_with i_many_pairs : Nat) : Sm :=
  (.seq (.set [4] (.mk 0 i_Curve___init__ (.cons (.var 0) (.cons (.idx (.dix (.var 3) (.var 1)) (.c (.int 0))) (.cons (.idx (.dix (.var 3) (.var 1)) (.c (.int 1))) .nil)))))
    (.seq (.ite (.or (.own 0 i_Curve___eq__ true (.call i_curve_with (.cons (.var 0) (.cons (.var 1) .nil))) (.var 4)) (.and (.cmp .lt (.var 0) (.c (.int 42))) (.own 0 i_Curve___eq__ true (.callK i_curve_with (.cons (.var 1) (.cons (.var 0) .nil)) [1, 0]) (.var 4)))) (.ret (.c (.bool false))) .skip)
    (.ret (.cmp .eq (.bi .repr (.cons (.lst (.cons (.call i_many_pairs (.cons (.var 0) (.cons (.var 1) .nil))) (.cons (.callK i_many_pairs (.cons (.bin .sub (.c (.int 0)) (.var 1)) (.cons (.var 0) .nil)) [1, 0]) .nil))) .nil)) (.bi .repr (.cons (.lst (.cons (.dix (.var 2) (.var 1)) (.cons (.dix (.var 2) (.var 1)) .nil))) .nil))))))

def ko__law_told : D → D := (fun _ =>  .none)
def sel__law_told : Nat → Bool := (fun c => [false, true].getD c false)
def h__law_told : Nat → List D → Ex := fun xc_ xv_ => (.tup (.cons (xfE ([some "part", some "trace"] : List (Option Str)) xc_ xv_ "trace") (.cons (xiE [true, true] xc_) .nil)))
def b__law_told (o_ : G → Res D) : Sm :=
  (.seq (.set [1] (.c .none))
    (.seq (.try_ (.thX .ex o_) (fun c => [false, true].getD c false) (fun xc_ xv_ => (.set [1] (.tup (.cons (xfE ([some "part", some "trace"] : List (Option Str)) xc_ xv_ "trace") (.cons (xiE [true, true] xc_) .nil))))) (some 2))
    (.ret (.var 1))))

noncomputable def m_law (i__law_deck i__law_draw i__law_is_right i__law_pick i__law_table i__law_traces i_curve_with i_many_pairs : Nat) : Sm :=
  (.seq (.set [1] (.call i__law_deck (.cons (.var 0) .nil)))
    (.seq (.set [9] (.call i__law_pick (.cons (.var 1) (.cons (.tup (.cons (.c (.int 7)) (.cons (.c (.int 11)) (.cons (.c (.int 13)) (.cons (.c (.int 17)) (.cons (.c (.int 19)) (.cons (.c (.int 11)) (.cons (.c (.int 13)) (.cons (.c (.int 23)) (.cons (.c (.int 29)) (.cons (.c (.int 31)) (.cons (.c (.int 37)) (.cons (.c (.int 41)) (.cons (.c (.int 43)) (.cons (.c (.int 47)) (.cons (.c (.int 53)) (.cons (.c (.int 59)) .nil))))))))))))))))) .nil))))
    (.seq (.setG [[2], [3, 4]] (.tup (.cons (.call i__law_traces (.cons (.var 9) .nil)) (.cons (.call i__law_table (.cons (.var 9) .nil)) .nil))))
    (.seq (.ite (.cmp .ne (.dks (.var 3)) (.var 2)) (.ret (.c (.bool false))) .skip)
    (.seq (.set [5] (.lst (.cons (.call i__law_pick (.cons (.var 1) (.cons (.lst (.cons (.idx (.var 2) (.c (.int 0))) (.cons (.idx (.var 2) (.neg (.c (.int 1)))) (.cons (.c (.int 0)) (.cons (.call i__law_pick (.cons (.var 1) (.cons (.var 2) .nil))) .nil))))) .nil))) (.cons (.call i__law_pick (.cons (.var 1) (.cons (.var 2) .nil))) .nil))))
    (.seq (.ite (.cmp .gt (.var 9) (.c (.int 23))) (.set [5] (.slc (.var 5) (.c .none) (.asI (.c (.int 1))))) .skip)
    (.seq (.forr [6] .seq (.cons (.var 5) .nil) (.ite (.not (.truth (.call i__law_is_right (.cons (.var 9) (.cons (.var 6) (.cons (.var 3) (.cons (.var 4) .nil))))))) (.ret (.c (.bool false))) .skip))
    (.seq (.ite (.cmp .lt (.var 9) (.c (.int 14))) (.seq (.set [7] (.comp [6] .seq (.cons (.var 2) .nil) (.c (.bool true)) (.call i_many_pairs (.cons (.var 9) (.cons (.var 6) .nil)))))
      (.ite (.or (.cmp .ne (.bi .repr (.cons (.var 7) .nil)) (.bi .repr (.cons (.comp [6] .seq (.cons (.var 2) .nil) (.c (.bool true)) (.dix (.var 3) (.var 6))) .nil))) (.cmp .ne (.bi .sum (.cons (.var 7) .nil)) (.bin .sub (.bin .mul (.var 9) (.var 9)) (.var 9)))) (.ret (.c (.bool false))) .skip)) .skip)
    (.seq (.set [6] (.idx (.var 5) (.c (.int 0))))
    (.seq (.set [8] (.call i__law_pick (.cons (.var 1) (.cons (.lst (.cons (.bin .add (.idx (.var 2) (.neg (.c (.int 1)))) (.c (.int 1))) (.cons (.bin .sub (.idx (.var 2) (.c (.int 0))) (.c (.int 1))) (.cons (.var 9) (.cons (.bin .sub (.c (.int 0)) (.var 9)) (.cons (.c .none) (.cons (.c (.bool true)) (.cons (.c (.bool false)) (.cons (.bi .toStr (.cons (.var 6) .nil)) (.cons (.tup (.cons (.var 6) .nil)) (.cons (.lst (.cons (.var 6) .nil)) (.cons .dnew (.cons (.bin .pow (.c (.int 10)) (.c (.int 39))) (.cons (.bin .add (.bin .add (.idx (.var 2) (.neg (.c (.int 1)))) (.c (.int 1))) (.call i__law_draw (.cons (.var 1) (.cons (.c (.int 100)) .nil)))) (.cons (.c (.str "")) (.cons (.tup (.cons (.var 6) (.cons (.var 6) .nil))) .nil)))))))))))))))) .nil))))
    (.seq (.set [7] (.lst (.cons (.lamc ko__law_told sel__law_told h__law_told [] i_curve_with (.cons (.var 9) (.cons (.var 8) .nil)) none) .nil)))
    (.seq (.app 7 (.lamc ko__law_told sel__law_told h__law_told [7] i_many_pairs (.cons (.var 9) (.cons (.var 8) .nil)) none))
    (.seq (.app 7 (.lamc ko__law_told sel__law_told h__law_told [7] i_many_pairs (.cons (.var 8) (.cons (.var 9) .nil)) (some [1, 0])))
    (.ret (.cmp .eq (.bi .repr (.cons (.var 7) .nil)) (.bi .repr (.cons (.bin .mul (.lst (.cons (.tup (.cons (.var 8) (.cons (.c (.bool true)) .nil))) .nil)) (.c (.int 3))) .nil)))))))))))))))))

noncomputable def T (ns : List Int) : List Fn := [⟨1, 1, m_is_integer⟩, ⟨1, 2, m_is_prime 0⟩, ⟨2, 2, m_is_number 0⟩, ⟨3, 6, m_number_power⟩, ⟨2, 2, m_inverse 3⟩, ⟨2, 2, m_is_square 3⟩, ⟨1, 2, m_spare 5⟩, ⟨4, 4, m_Curve___init__ 2 1⟩, ⟨2, 2, m_Curve___eq__⟩, ⟨1, 3, m_Curve_twist 7 6⟩, ⟨2, 4, m_scaled_pair⟩, ⟨1, 4, m_first_like 7 10⟩, ⟨2, 3, m_curve_of 7 4⟩, ⟨1, 4, m_square_table⟩, ⟨4, 5, m_trace_by_table⟩, ⟨2, 2, m_is_trace 0⟩, ⟨4, 7, m_curves_of_kind 9 12 14⟩, ⟨3, 5, m_curves_with 16⟩, ⟨3, 7, m_edge_pairs 14⟩, ⟨2, 7, m_curve_with 7 17 18 11 15 13⟩, ⟨2, 3, m_many_pairs 17 18 15 13⟩, ⟨1, 4, m__law_deck ns⟩, ⟨2, 3, m__law_draw⟩, ⟨2, 2, m__law_pick 22⟩, ⟨1, 2, m__law_traces⟩, ⟨1, 11, m__law_table⟩, ⟨4, 5, m__law_is_right 8 7 19 20⟩, ⟨1, 3, .bad⟩, ⟨1, 10, m_law 21 22 26 23 25 24 19 20⟩]

noncomputable abbrev PH (ns : List Int) (d : Nat) : Fns := FT (T ns) (fun _ => none) d

end Xk18
end

section
set_option autoImplicit false
namespace Xk18
open PySem PySem.Spec PyProof.Rows L2 Pv

def topS (i : Nat) : Stmt := PySem.Challenge.pw_craterhouse_k18_curves_and_pairs_of_a_tr.main.body.getD i (.Pass ⟨0, 0, 0, 0⟩)

abbrev ktB : Bool := false
abbrev n_1 : Str := "cells"
abbrev n_2 : Str := "mixed"
abbrev n_3 : Option Str := some ("turn" : Str)

theorem dkn_of {C : Ct} {a : Addr} {ns : List Int} {cl : List (Addr × List Str)} {xc : List (Addr × Option Str)} {kt : Bool} {tb : List (Addr × Str)} (D : Dc C n_1 n_2 n_3 a ns cl xc kt tb) : DkN C := ⟨by rw [D.n1, D.n2]; decide, fun n h => by
  rw [D.n3] at h
  rw [D.n1, D.n2]
  cases h
  decide⟩

theorem hn3_of {C : Ct} {a : Addr} {ns : List Int} {cl : List (Addr × List Str)} {xc : List (Addr × Option Str)} {kt : Bool} {tb : List (Addr × Str)} (D : Dc C n_1 n_2 n_3 a ns cl xc kt tb) : (if true then C.n3 else some C.n2) = some ("turn" : Str) := by rw [D.n3]; rfl

theorem hn2_of {C : Ct} {a : Addr} {ns : List Int} {cl : List (Addr × List Str)} {xc : List (Addr × Option Str)} {kt : Bool} {tb : List (Addr × Str)} (D : Dc C n_1 n_2 n_3 a ns cl xc kt tb) : (if false then C.n3 else some C.n2) = some ("mixed" : Str) := by rw [D.n2]; rfl

abbrev s_is_integer : Stmt := topS 8
abbrev p_is_integer : List Str := ["thing"]
theorem sc_is_integer : FnScope ["thing"] p_is_integer (defScope s_is_integer) := ⟨rfl, rfl, rfl, by decide +kernel, rfl, by decide +kernel, by decide +kernel⟩

abbrev s_is_prime : Stmt := topS 9
abbrev p_is_prime : List Str := ["thing"]
theorem sc_is_prime : FnScope ["thing", "divisor"] p_is_prime (defScope s_is_prime) := ⟨rfl, rfl, rfl, by decide +kernel, rfl, by decide +kernel, by decide +kernel⟩

abbrev s_is_number : Stmt := topS 10
abbrev p_is_number : List Str := ["prime", "thing"]
theorem sc_is_number : FnScope ["prime", "thing"] p_is_number (defScope s_is_number) := ⟨rfl, rfl, rfl, by decide +kernel, rfl, by decide +kernel, by decide +kernel⟩

abbrev s_number_power : Stmt := topS 11
abbrev p_number_power : List Str := ["prime", "number", "exponent"]
theorem sc_number_power : FnScope ["prime", "number", "exponent", "result", "base", "left"] p_number_power (defScope s_number_power) := ⟨rfl, rfl, rfl, by decide +kernel, rfl, by decide +kernel, by decide +kernel⟩

abbrev s_inverse : Stmt := topS 12
abbrev p_inverse : List Str := ["prime", "number"]
theorem sc_inverse : FnScope ["prime", "number"] p_inverse (defScope s_inverse) := ⟨rfl, rfl, rfl, by decide +kernel, rfl, by decide +kernel, by decide +kernel⟩

abbrev s_is_square : Stmt := topS 13
abbrev p_is_square : List Str := ["prime", "number"]
theorem sc_is_square : FnScope ["prime", "number"] p_is_square (defScope s_is_square) := ⟨rfl, rfl, rfl, by decide +kernel, rfl, by decide +kernel, by decide +kernel⟩

abbrev s_spare : Stmt := topS 14
abbrev p_spare : List Str := ["prime"]
theorem sc_spare : FnScope ["prime", "number"] p_spare (defScope s_spare) := ⟨rfl, rfl, rfl, by decide +kernel, rfl, by decide +kernel, by decide +kernel⟩

abbrev s_Curve___init__ : Stmt := inClass (topS 16) 0
abbrev p_Curve___init__ : List Str := ["self", "prime", "a", "b"]
theorem sc_Curve___init__ : FnScope ["self", "prime", "a", "b"] p_Curve___init__ (defScope s_Curve___init__) := ⟨rfl, rfl, rfl, by decide +kernel, rfl, by decide +kernel, by decide +kernel⟩

abbrev s_Curve___eq__ : Stmt := inClass (topS 16) 1
abbrev p_Curve___eq__ : List Str := ["self", "other"]
theorem sc_Curve___eq__ : FnScope ["self", "other"] p_Curve___eq__ (defScope s_Curve___eq__) := ⟨rfl, rfl, rfl, by decide +kernel, rfl, by decide +kernel, by decide +kernel⟩

abbrev s_Curve_twist : Stmt := inClass (topS 16) 7
abbrev p_Curve_twist : List Str := ["self"]
theorem sc_Curve_twist : FnScope ["self", "factor", "square"] p_Curve_twist (defScope s_Curve_twist) := ⟨rfl, rfl, rfl, by decide +kernel, rfl, by decide +kernel, by decide +kernel⟩

abbrev s_scaled_pair : Stmt := topS 18
abbrev p_scaled_pair : List Str := ["curve", "u"]
theorem sc_scaled_pair : FnScope ["curve", "u", "square", "fourth"] p_scaled_pair (defScope s_scaled_pair) := ⟨rfl, rfl, rfl, by decide +kernel, rfl, by decide +kernel, by decide +kernel⟩

abbrev s_first_like : Stmt := topS 19
abbrev p_first_like : List Str := ["curve"]
theorem sc_first_like : FnScope ["curve", "a", "b", "u"] p_first_like (defScope s_first_like) := ⟨rfl, rfl, rfl, by decide +kernel, rfl, by decide +kernel, by decide +kernel⟩

abbrev s_curve_of : Stmt := topS 20
abbrev p_curve_of : List Str := ["prime", "kind"]
theorem sc_curve_of : FnScope ["prime", "kind", "factor"] p_curve_of (defScope s_curve_of) := ⟨rfl, rfl, rfl, by decide +kernel, rfl, by decide +kernel, by decide +kernel⟩

abbrev s_square_table : Stmt := topS 22
abbrev p_square_table : List Str := ["prime"]
theorem sc_square_table : FnScope ["prime", "table", "root", "number"] p_square_table (defScope s_square_table) := ⟨rfl, rfl, rfl, by decide +kernel, rfl, by decide +kernel, by decide +kernel⟩

abbrev s_trace_by_table : Stmt := topS 23
abbrev p_trace_by_table : List Str := ["prime", "a", "b", "table"]
theorem sc_trace_by_table : FnScope ["prime", "a", "b", "table", "x"] p_trace_by_table (defScope s_trace_by_table) := ⟨rfl, rfl, rfl, by decide +kernel, rfl, by decide +kernel, by decide +kernel⟩

abbrev s_is_trace : Stmt := topS 24
abbrev p_is_trace : List Str := ["prime", "thing"]
theorem sc_is_trace : FnScope ["prime", "thing"] p_is_trace (defScope s_is_trace) := ⟨rfl, rfl, rfl, by decide +kernel, rfl, by decide +kernel, by decide +kernel⟩

abbrev s_curves_of_kind : Stmt := topS 25
abbrev p_curves_of_kind : List Str := ["prime", "kind", "wanted", "table"]
theorem sc_curves_of_kind : FnScope ["prime", "kind", "wanted", "table", "curve", "found", "curves"] p_curves_of_kind (defScope s_curves_of_kind) := ⟨rfl, rfl, rfl, by decide +kernel, rfl, by decide +kernel, by decide +kernel⟩

abbrev s_curves_with : Stmt := topS 26
abbrev p_curves_with : List Str := ["prime", "wanted", "table"]
theorem sc_curves_with : FnScope ["prime", "wanted", "table", "found", "kind"] p_curves_with (defScope s_curves_with) := ⟨rfl, rfl, rfl, by decide +kernel, rfl, by decide +kernel, by decide +kernel⟩

abbrev s_edge_pairs : Stmt := topS 27
abbrev p_edge_pairs : List Str := ["prime", "wanted", "table"]
theorem sc_edge_pairs : FnScope ["prime", "wanted", "table", "pairs", "a", "b", "number"] p_edge_pairs (defScope s_edge_pairs) := ⟨rfl, rfl, rfl, by decide +kernel, rfl, by decide +kernel, by decide +kernel⟩

abbrev s_curve_with : Stmt := topS 28
abbrev p_curve_with : List Str := ["prime", "trace"]
theorem sc_curve_with : FnScope ["prime", "trace", "table", "firsts", "a", "b", "curve"] p_curve_with (defScope s_curve_with) := ⟨rfl, rfl, rfl, by decide +kernel, rfl, by decide +kernel, by decide +kernel⟩

abbrev s_many_pairs : Stmt := topS 29
abbrev p_many_pairs : List Str := ["prime", "trace"]
theorem sc_many_pairs : FnScope ["prime", "trace", "table"] p_many_pairs (defScope s_many_pairs) := ⟨rfl, rfl, rfl, by decide +kernel, rfl, by decide +kernel, by decide +kernel⟩

abbrev s__law_deck : Stmt := topS 31
abbrev p__law_deck : List Str := ["_law_script"]
theorem sc__law_deck : FnScope ["_law_script", "_law_cell", "_law_cells", "_law_mixed"] p__law_deck (defScope s__law_deck) := ⟨rfl, rfl, rfl, by decide +kernel, rfl, by decide +kernel, by decide +kernel⟩

abbrev s__law_draw : Stmt := topS 32
abbrev p__law_draw : List Str := ["_law_deck_here", "_law_below"]
theorem sc__law_draw : FnScope ["_law_deck_here", "_law_below", "_law_cell"] p__law_draw (defScope s__law_draw) := ⟨rfl, rfl, rfl, by decide +kernel, rfl, by decide +kernel, by decide +kernel⟩

abbrev s__law_pick : Stmt := topS 33
abbrev p__law_pick : List Str := ["_law_deck_here", "_law_some"]
theorem sc__law_pick : FnScope ["_law_deck_here", "_law_some"] p__law_pick (defScope s__law_pick) := ⟨rfl, rfl, rfl, by decide +kernel, rfl, by decide +kernel, by decide +kernel⟩

abbrev s__law_traces : Stmt := topS 34
abbrev p__law_traces : List Str := ["_law_p"]
theorem sc__law_traces : FnScope ["_law_p", "_law_t"] p__law_traces (defScope s__law_traces) := ⟨rfl, rfl, rfl, by decide +kernel, rfl, by decide +kernel, by decide +kernel⟩

abbrev s__law_table : Stmt := topS 35
abbrev p__law_table : List Str := ["_law_p"]
theorem sc__law_table : FnScope ["_law_p", "_law_roots", "_law_many", "_law_first", "_law_y", "_law_a", "_law_base", "_law_b", "_law_t", "_law_x", "_law_one"] p__law_table (defScope s__law_table) := ⟨rfl, rfl, rfl, by decide +kernel, rfl, by decide +kernel, by decide +kernel⟩

abbrev s__law_is_right : Stmt := topS 36
abbrev p__law_is_right : List Str := ["_law_p", "_law_t", "_law_many", "_law_first"]
theorem sc__law_is_right : FnScope ["_law_p", "_law_t", "_law_many", "_law_first", "_law_due"] p__law_is_right (defScope s__law_is_right) := ⟨rfl, rfl, rfl, by decide +kernel, rfl, by decide +kernel, by decide +kernel⟩

abbrev s__law_told : Stmt := topS 37
abbrev p__law_told : List Str := ["_law_call"]
theorem sc__law_told : FnScope ["_law_call", "_law_told_here", "e"] p__law_told (defScope s__law_told) := ⟨rfl, rfl, rfl, by decide +kernel, rfl, by decide +kernel, by decide +kernel⟩

abbrev s_law : Stmt := topS 38
abbrev p_law : List Str := ["_law_script"]
theorem sc_law : FnScope ["_law_script", "_law_deck_here", "_law_traces_here", "_law_many", "_law_first", "_law_some", "_law_t", "_law_told_here", "_law_bad", "_law_p"] p_law (defScope s_law) := ⟨rfl, rfl, rfl, by decide +kernel, rfl, by decide +kernel, by decide +kernel⟩

set_option genInjectivity false in
set_option genSizeOf false in
set_option maxHeartbeats 4000000 in
structure Fa (K : PySem.W.Frag) (mg : Str → Option Value) where

  f_is_integer : Addr
  d_is_integer : FuncData
  F_is_integer : Fun K "is_integer" "is_integer" s_is_integer f_is_integer d_is_integer
  b_is_integer : Binds K d_is_integer p_is_integer []

  g_is_integer : mg "is_integer" = some (.ref f_is_integer)

  f_is_prime : Addr
  d_is_prime : FuncData
  F_is_prime : Fun K "is_prime" "is_prime" s_is_prime f_is_prime d_is_prime
  b_is_prime : Binds K d_is_prime p_is_prime []

  g_is_prime : mg "is_prime" = some (.ref f_is_prime)

  f_is_number : Addr
  d_is_number : FuncData
  F_is_number : Fun K "is_number" "is_number" s_is_number f_is_number d_is_number
  b_is_number : Binds K d_is_number p_is_number []

  g_is_number : mg "is_number" = some (.ref f_is_number)

  f_number_power : Addr
  d_number_power : FuncData
  F_number_power : Fun K "number_power" "number_power" s_number_power f_number_power d_number_power
  b_number_power : Binds K d_number_power p_number_power []

  g_number_power : mg "number_power" = some (.ref f_number_power)

  f_inverse : Addr
  d_inverse : FuncData
  F_inverse : Fun K "inverse" "inverse" s_inverse f_inverse d_inverse
  b_inverse : Binds K d_inverse p_inverse []

  g_inverse : mg "inverse" = some (.ref f_inverse)

  f_is_square : Addr
  d_is_square : FuncData
  F_is_square : Fun K "is_square" "is_square" s_is_square f_is_square d_is_square
  b_is_square : Binds K d_is_square p_is_square []

  g_is_square : mg "is_square" = some (.ref f_is_square)

  f_spare : Addr
  d_spare : FuncData
  F_spare : Fun K "spare" "spare" s_spare f_spare d_spare
  b_spare : Binds K d_spare p_spare []

  g_spare : mg "spare" = some (.ref f_spare)

  f_Curve___init__ : Addr
  d_Curve___init__ : FuncData
  F_Curve___init__ : Fun K "__init__" "Curve.__init__" s_Curve___init__ f_Curve___init__ d_Curve___init__
  b_Curve___init__ : Binds K d_Curve___init__ p_Curve___init__ []

  f_Curve___eq__ : Addr
  d_Curve___eq__ : FuncData
  F_Curve___eq__ : Fun K "__eq__" "Curve.__eq__" s_Curve___eq__ f_Curve___eq__ d_Curve___eq__
  b_Curve___eq__ : Binds K d_Curve___eq__ p_Curve___eq__ []

  f_Curve_twist : Addr
  d_Curve_twist : FuncData
  F_Curve_twist : Fun K "twist" "Curve.twist" s_Curve_twist f_Curve_twist d_Curve_twist
  b_Curve_twist : Binds K d_Curve_twist p_Curve_twist []

  f_scaled_pair : Addr
  d_scaled_pair : FuncData
  F_scaled_pair : Fun K "scaled_pair" "scaled_pair" s_scaled_pair f_scaled_pair d_scaled_pair
  b_scaled_pair : Binds K d_scaled_pair p_scaled_pair []

  g_scaled_pair : mg "scaled_pair" = some (.ref f_scaled_pair)

  f_first_like : Addr
  d_first_like : FuncData
  F_first_like : Fun K "first_like" "first_like" s_first_like f_first_like d_first_like
  b_first_like : Binds K d_first_like p_first_like []

  g_first_like : mg "first_like" = some (.ref f_first_like)

  f_curve_of : Addr
  d_curve_of : FuncData
  F_curve_of : Fun K "curve_of" "curve_of" s_curve_of f_curve_of d_curve_of
  b_curve_of : Binds K d_curve_of p_curve_of []

  g_curve_of : mg "curve_of" = some (.ref f_curve_of)

  f_square_table : Addr
  d_square_table : FuncData
  F_square_table : Fun K "square_table" "square_table" s_square_table f_square_table d_square_table
  b_square_table : Binds K d_square_table p_square_table []

  g_square_table : mg "square_table" = some (.ref f_square_table)

  f_trace_by_table : Addr
  d_trace_by_table : FuncData
  F_trace_by_table : Fun K "trace_by_table" "trace_by_table" s_trace_by_table f_trace_by_table d_trace_by_table
  b_trace_by_table : Binds K d_trace_by_table p_trace_by_table []

  g_trace_by_table : mg "trace_by_table" = some (.ref f_trace_by_table)

  f_is_trace : Addr
  d_is_trace : FuncData
  F_is_trace : Fun K "is_trace" "is_trace" s_is_trace f_is_trace d_is_trace
  b_is_trace : Binds K d_is_trace p_is_trace []

  g_is_trace : mg "is_trace" = some (.ref f_is_trace)

  f_curves_of_kind : Addr
  d_curves_of_kind : FuncData
  F_curves_of_kind : Fun K "curves_of_kind" "curves_of_kind" s_curves_of_kind f_curves_of_kind d_curves_of_kind
  b_curves_of_kind : Binds K d_curves_of_kind p_curves_of_kind []

  g_curves_of_kind : mg "curves_of_kind" = some (.ref f_curves_of_kind)

  f_curves_with : Addr
  d_curves_with : FuncData
  F_curves_with : Fun K "curves_with" "curves_with" s_curves_with f_curves_with d_curves_with
  b_curves_with : Binds K d_curves_with p_curves_with []

  g_curves_with : mg "curves_with" = some (.ref f_curves_with)

  f_edge_pairs : Addr
  d_edge_pairs : FuncData
  F_edge_pairs : Fun K "edge_pairs" "edge_pairs" s_edge_pairs f_edge_pairs d_edge_pairs
  b_edge_pairs : Binds K d_edge_pairs p_edge_pairs []

  g_edge_pairs : mg "edge_pairs" = some (.ref f_edge_pairs)

  f_curve_with : Addr
  d_curve_with : FuncData
  F_curve_with : Fun K "curve_with" "curve_with" s_curve_with f_curve_with d_curve_with
  b_curve_with : Binds K d_curve_with p_curve_with []

  g_curve_with : mg "curve_with" = some (.ref f_curve_with)

  f_many_pairs : Addr
  d_many_pairs : FuncData
  F_many_pairs : Fun K "many_pairs" "many_pairs" s_many_pairs f_many_pairs d_many_pairs
  b_many_pairs : Binds K d_many_pairs p_many_pairs []

  g_many_pairs : mg "many_pairs" = some (.ref f_many_pairs)

  f__law_deck : Addr
  d__law_deck : FuncData
  F__law_deck : Fun K "_law_deck" "_law_deck" s__law_deck f__law_deck d__law_deck
  b__law_deck : Binds K d__law_deck p__law_deck []

  g__law_deck : mg "_law_deck" = some (.ref f__law_deck)

  f__law_draw : Addr
  d__law_draw : FuncData
  F__law_draw : Fun K "_law_draw" "_law_draw" s__law_draw f__law_draw d__law_draw
  b__law_draw : Binds K d__law_draw p__law_draw []

  g__law_draw : mg "_law_draw" = some (.ref f__law_draw)

  f__law_pick : Addr
  d__law_pick : FuncData
  F__law_pick : Fun K "_law_pick" "_law_pick" s__law_pick f__law_pick d__law_pick
  b__law_pick : Binds K d__law_pick p__law_pick []

  g__law_pick : mg "_law_pick" = some (.ref f__law_pick)

  f__law_traces : Addr
  d__law_traces : FuncData
  F__law_traces : Fun K "_law_traces" "_law_traces" s__law_traces f__law_traces d__law_traces
  b__law_traces : Binds K d__law_traces p__law_traces []

  g__law_traces : mg "_law_traces" = some (.ref f__law_traces)

  f__law_table : Addr
  d__law_table : FuncData
  F__law_table : Fun K "_law_table" "_law_table" s__law_table f__law_table d__law_table
  b__law_table : Binds K d__law_table p__law_table []

  g__law_table : mg "_law_table" = some (.ref f__law_table)

  f__law_is_right : Addr
  d__law_is_right : FuncData
  F__law_is_right : Fun K "_law_is_right" "_law_is_right" s__law_is_right f__law_is_right d__law_is_right
  b__law_is_right : Binds K d__law_is_right p__law_is_right []

  g__law_is_right : mg "_law_is_right" = some (.ref f__law_is_right)

  f__law_told : Addr
  d__law_told : FuncData
  F__law_told : Fun K "_law_told" "_law_told" s__law_told f__law_told d__law_told
  b__law_told : Binds K d__law_told p__law_told []

  g__law_told : mg "_law_told" = some (.ref f__law_told)

  f_law : Addr
  d_law : FuncData
  F_law : Fun K "law" "law" s_law f_law d_law
  b_law : Binds K d_law p_law []

  g_law : mg "law" = some (.ref f_law)

  cc_law : Addr
  tp_law : Addr
  cd_law : d_law.code = .ref cc_law

  C_Curve : Addr
  cl_Curve : Cls K C_Curve
  in_Curve : InsOk K C_Curve
  gC_Curve : mg "Curve" = some (.ref C_Curve)
  nA_Curve_prime : NoAttr K C_Curve "prime"
  nA_Curve_a : NoAttr K C_Curve "a"
  nA_Curve_b : NoAttr K C_Curve "b"

  K_Curve : Mk K C_Curve f_Curve___init__

  M_Curve___eq__ : Meth K C_Curve "__eq__" f_Curve___eq__

  O_Curve : OwnOk K C_Curve f_Curve___eq__

  M_Curve_twist : Meth K C_Curve "twist" f_Curve_twist

  kT_Curve : ∀ T ∈ ["NoneType", "bool", "int", "str", "list", "tuple", "dict"], PySem.W.kitOne K (.type T) (.ref C_Curve) = some false
  kO_Curve_Curve : PySem.W.kitOne K (.ref C_Curve) (.ref C_Curve) = some true

  X_BadCurve : Addr
  xg_BadCurve : mg "BadCurve" = some (.ref X_BadCurve)

  X_BadTrace : Addr
  xg_BadTrace : mg "BadTrace" = some (.ref X_BadTrace)

  X_CurveError : Addr
  xg_CurveError : mg "CurveError" = some (.ref X_CurveError)

  XI_BadCurve : Addr
  xF_BadCurve : Xc1 K mg "BadCurve" "part" X_BadCurve XI_BadCurve

  xE_BadCurve : ExcC K X_BadCurve

  XI_BadTrace : Addr
  xF_BadTrace : Xc1 K mg "BadTrace" "trace" X_BadTrace XI_BadTrace

  xE_BadTrace : ExcC K X_BadTrace

  xm_BadCurve_BadTrace : PySem.W.exmOne K (.ref X_BadCurve) (.ref X_BadTrace) = some false
  xk_BadCurve_BadTrace : PySem.W.kitOne K (.ref X_BadCurve) (.ref X_BadTrace) = some false

  xm_BadCurve_CurveError : PySem.W.exmOne K (.ref X_BadCurve) (.ref X_CurveError) = some true
  xk_BadCurve_CurveError : PySem.W.kitOne K (.ref X_BadCurve) (.ref X_CurveError) = some true

  xm_BadTrace_BadTrace : PySem.W.exmOne K (.ref X_BadTrace) (.ref X_BadTrace) = some true
  xk_BadTrace_BadTrace : PySem.W.kitOne K (.ref X_BadTrace) (.ref X_BadTrace) = some true

  xm_BadTrace_CurveError : PySem.W.exmOne K (.ref X_BadTrace) (.ref X_CurveError) = some true
  xk_BadTrace_CurveError : PySem.W.kitOne K (.ref X_BadTrace) (.ref X_CurveError) = some true

  kb_curve_with_0 : KB K d_curve_with p_curve_with ["trace", "prime"] 0 [1, 0]

  kb_many_pairs_0 : KB K d_many_pairs p_many_pairs ["trace", "prime"] 0 [1, 0]

  v_GREATEST_PRIME : Nat
  g_GREATEST_PRIME : mg "GREATEST_PRIME" = some (.int 199 v_GREATEST_PRIME)

  v_LEAST_PRIME : Nat
  g_LEAST_PRIME : mg "LEAST_PRIME" = some (.int 7 v_LEAST_PRIME)

  z_bool : mg "bool" = none

  z_int : mg "int" = none

  z_isinstance : mg "isinstance" = none

  z_len : mg "len" = none

  z_max : mg "max" = none

  z_min : mg "min" = none

  z_range : mg "range" = none

  z_repr : mg "repr" = none

  z_sorted : mg "sorted" = none

  z_str : mg "str" = none

  z_sum : mg "sum" = none

def Fa.tb {K : PySem.W.Frag} {mg : Str → Option Value} (A : Fa K mg) : List (Addr × Str) := [(A.tp_law, "law.<locals>.<lambda>")]

def Fa.cs {K : PySem.W.Frag} {mg : Str → Option Value} (A : Fa K mg) : List (Addr × Addr) := [(A.cc_law, A.tp_law)]

structure Tb {K : PySem.W.Frag} {mg : Str → Option Value} (A : Fa K mg) (base : Heap) : Prop where
  b_law : LamX.TabB base mg A.cc_law A.tp_law

theorem Fa.tc {K : PySem.W.Frag} {mg : Str → Option Value} (A : Fa K mg) : ∀ P q, (P, q) ∈ A.tb → ∃ c, (c, P) ∈ A.cs := fun P q h => by
  simp only [Fa.tb, Fa.cs, List.mem_cons, List.not_mem_nil, or_false, Prod.mk.injEq] at h ⊢
  rcases h with ⟨rfl, rfl⟩
  · exact ⟨A.cc_law, by simp⟩

theorem Fa.tm_law {K : PySem.W.Frag} {mg : Str → Option Value} (A : Fa K mg) : (A.tp_law, ("law.<locals>.<lambda>" : Str)) ∈ A.tb := by
  simp [Fa.tb]

theorem Fa.tu_law {K : PySem.W.Frag} {mg : Str → Option Value} (A : Fa K mg) : ∀ q, (A.tp_law, q) ∈ A.tb → q = ("law.<locals>.<lambda>" : Str) := fun q h => by
  simpa [Fa.tb] using h

abbrev at_Curve : List Str := ["prime", "a", "b"]

def Fa.cl {K : PySem.W.Frag} {mg : Str → Option Value} (A : Fa K mg) : List (Addr × List Str) := [(A.C_Curve, at_Curve)]

def Fa.xc {K : PySem.W.Frag} {mg : Str → Option Value} (A : Fa K mg) : List (Addr × Option Str) := [(A.X_BadCurve, some "part"), (A.X_BadTrace, some "trace")]

theorem Fa.xse_BadTrace {K : PySem.W.Frag} {mg : Str → Option Value} (A : Fa K mg) : ∀ (c : Nat) (Ca : Addr) (fo : Option Str), A.xc[c]? = some (Ca, fo) → PySem.W.exmOne K (.ref Ca) (.ref A.X_BadTrace) = some (([false, true] : List Bool).getD c false) := by
  intro c Ca fo h
  unfold Fa.xc at h
  cases c with
  | zero =>
    cases h
    exact A.xm_BadCurve_BadTrace
  | succ c =>
  cases c with
  | zero =>
    cases h
    exact A.xm_BadTrace_BadTrace
  | succ c =>
  exact nomatch h

theorem Fa.xki_CurveError {K : PySem.W.Frag} {mg : Str → Option Value} (A : Fa K mg) : ∀ (c : Nat) (Ca : Addr) (fo : Option Str), A.xc[c]? = some (Ca, fo) → ExcC K Ca ∧ PySem.W.kitOne K (.ref Ca) (.ref A.X_CurveError) = some (([true, true] : List Bool).getD c false) := by
  intro c Ca fo h
  unfold Fa.xc at h
  cases c with
  | zero =>
    cases h
    exact ⟨A.xE_BadCurve, A.xk_BadCurve_CurveError⟩
  | succ c =>
  cases c with
  | zero =>
    cases h
    exact ⟨A.xE_BadTrace, A.xk_BadTrace_CurveError⟩
  | succ c =>
  exact nomatch h

theorem Fa.xrf_trace {K : PySem.W.Frag} {mg : Str → Option Value} (A : Fa K mg) : ∀ (c : Nat) (Ca : Addr), A.xc[c]? = some (Ca, some ("trace" : Str)) → XcR K Ca "trace" := by
  intro c Ca h
  unfold Fa.xc at h
  cases c with
  | zero =>
    exact absurd (Option.some.inj (Prod.mk.inj (Option.some.inj h)).2) (by decide)
  | succ c =>
  cases c with
  | zero =>
    cases h
    exact ⟨⟨A.xF_BadTrace.ga, A.xF_BadTrace.gg, A.xF_BadTrace.exC, A.xF_BadTrace.hdC⟩, A.xF_BadTrace.noN⟩
  | succ c =>
  exact nomatch h

theorem Fa.clsOk {K : PySem.W.Frag} {mg : Str → Option Value} (A : Fa K mg) : ClsOk K A.cl := ⟨fun Cn h => by
  simp only [Fa.cl, List.mem_cons, List.not_mem_nil, or_false] at h
  rcases h with rfl
  · exact A.cl_Curve
  , fun Cn h f hf => by
  simp only [Fa.cl, List.mem_cons, List.not_mem_nil, or_false] at h
  rcases h with rfl
  · simp only [List.mem_cons, List.not_mem_nil, or_false] at hf
    rcases hf with rfl | rfl | rfl
    · exact A.nA_Curve_prime
    · exact A.nA_Curve_a
    · exact A.nA_Curve_b
  ⟩

theorem Fa.isO_Curve {K : PySem.W.Frag} {mg : Str → Option Value} (A : Fa K mg) : ∀ (j : Nat) (Cn : Addr × List Str), A.cl[j]? = some Cn → PySem.W.kitOne K (.ref Cn.1) (.ref A.C_Curve) = some (decide (j = 0)) := by
  intro j Cn h
  unfold Fa.cl at h
  cases j with
  | zero =>
    cases h
    exact A.kO_Curve_Curve
  | succ j =>
  exact nomatch h

theorem Fa.insOk {K : PySem.W.Frag} {mg : Str → Option Value} (A : Fa K mg) : ∀ Cn ∈ A.cl, InsOk K Cn.1 := fun Cn h => by
  simp only [Fa.cl, List.mem_cons, List.not_mem_nil, or_false] at h
  rcases h with rfl
  · exact A.in_Curve












def sn_first_like_0 : Scope := { kind := .function, names := [(".0", .local), ("u", .local), ("scaled_pair", .globalImplicit), ("curve", .free)], isGenerator := false, isCoroutine := false, more := [] }
def sn_first_like_0r : Scope := { kind := .function, names := [(".0", .local), ("u", .local), ("scaled_pair", .globalImplicit), ("curve", .cell)], isGenerator := false, isCoroutine := false, more := [] }
theorem bk_first_like_0 : BlkOk ["curve", "a", "b", "u"] (defScope s_first_like) sn_first_like_0 [("u", 3)] := ⟨rfl, by decide +kernel, by decide +kernel, by decide +kernel, by decide +kernel⟩


def sn_square_table_0 : Scope := { kind := .function, names := [(".0", .local), ("number", .local)], isGenerator := false, isCoroutine := false, more := [] }
def sn_square_table_0r : Scope := { kind := .function, names := [(".0", .local), ("number", .local)], isGenerator := false, isCoroutine := false, more := [] }
theorem bk_square_table_0 : BlkOk ["prime", "table", "root", "number"] (defScope s_square_table) sn_square_table_0 [("number", 3)] := ⟨rfl, by decide +kernel, by decide +kernel, by decide +kernel, by decide +kernel⟩

def sn_trace_by_table_0 : Scope := { kind := .function, names := [(".0", .local), ("x", .local), ("a", .free), ("b", .free), ("prime", .free), ("table", .free)], isGenerator := false, isCoroutine := false, more := [] }
def sn_trace_by_table_0r : Scope := { kind := .function, names := [(".0", .local), ("x", .local), ("a", .cell), ("b", .cell), ("prime", .cell), ("table", .cell)], isGenerator := false, isCoroutine := false, more := [] }
theorem bk_trace_by_table_0 : BlkOk ["prime", "a", "b", "table", "x"] (defScope s_trace_by_table) sn_trace_by_table_0 [("x", 4)] := ⟨rfl, by decide +kernel, by decide +kernel, by decide +kernel, by decide +kernel⟩




def sn_edge_pairs_0 : Scope := { kind := .function, names := [(".0", .local), ("number", .local)], isGenerator := false, isCoroutine := false, more := [] }
def sn_edge_pairs_0r : Scope := { kind := .function, names := [(".0", .local), ("number", .local)], isGenerator := false, isCoroutine := false, more := [] }
theorem bk_edge_pairs_0 : BlkOk ["prime", "wanted", "table", "pairs", "a", "b", "number"] (defScope s_edge_pairs) sn_edge_pairs_0 [("number", 6)] := ⟨rfl, by decide +kernel, by decide +kernel, by decide +kernel, by decide +kernel⟩
def sn_edge_pairs_1 : Scope := { kind := .function, names := [(".0", .local), ("number", .local)], isGenerator := false, isCoroutine := false, more := [] }
def sn_edge_pairs_1r : Scope := { kind := .function, names := [(".0", .local), ("number", .local)], isGenerator := false, isCoroutine := false, more := [] }
theorem bk_edge_pairs_1 : BlkOk ["prime", "wanted", "table", "pairs", "a", "b", "number"] (defScope s_edge_pairs) sn_edge_pairs_1 [("number", 6)] := ⟨rfl, by decide +kernel, by decide +kernel, by decide +kernel, by decide +kernel⟩
def sn_edge_pairs_2 : Scope := { kind := .function, names := [(".0", .local), ("a", .local), ("b", .local), ("trace_by_table", .globalImplicit), ("prime", .free), ("table", .free), ("wanted", .free)], isGenerator := false, isCoroutine := false, more := [] }
def sn_edge_pairs_2r : Scope := { kind := .function, names := [(".0", .local), ("a", .local), ("b", .local), ("trace_by_table", .globalImplicit), ("prime", .cell), ("table", .cell), ("wanted", .cell)], isGenerator := false, isCoroutine := false, more := [] }
theorem bk_edge_pairs_2 : BlkOk ["prime", "wanted", "table", "pairs", "a", "b", "number"] (defScope s_edge_pairs) sn_edge_pairs_2 [("a", 4), ("b", 5)] := ⟨rfl, by decide +kernel, by decide +kernel, by decide +kernel, by decide +kernel⟩

def sn_curve_with_0 : Scope := { kind := .function, names := [(".0", .local), ("curve", .local), ("first_like", .globalImplicit)], isGenerator := false, isCoroutine := false, more := [] }
def sn_curve_with_0r : Scope := { kind := .function, names := [(".0", .local), ("curve", .local), ("first_like", .globalImplicit)], isGenerator := false, isCoroutine := false, more := [] }
theorem bk_curve_with_0 : BlkOk ["prime", "trace", "table", "firsts", "a", "b", "curve"] (defScope s_curve_with) sn_curve_with_0 [("curve", 6)] := ⟨rfl, by decide +kernel, by decide +kernel, by decide +kernel, by decide +kernel⟩
def sn_curve_with_1 : Scope := { kind := .function, names := [(".0", .local), ("curve", .local)], isGenerator := false, isCoroutine := false, more := [] }
def sn_curve_with_1r : Scope := { kind := .function, names := [(".0", .local), ("curve", .local)], isGenerator := false, isCoroutine := false, more := [] }
theorem bk_curve_with_1 : BlkOk ["prime", "trace", "table", "firsts", "a", "b", "curve"] (defScope s_curve_with) sn_curve_with_1 [("curve", 6)] := ⟨rfl, by decide +kernel, by decide +kernel, by decide +kernel, by decide +kernel⟩


def sn__law_deck_0 : Scope := { kind := .function, names := [(".0", .local), ("_law_cell", .local), ("int", .globalImplicit)], isGenerator := false, isCoroutine := false, more := [] }
def sn__law_deck_0r : Scope := { kind := .function, names := [(".0", .local), ("_law_cell", .local), ("int", .globalImplicit)], isGenerator := false, isCoroutine := false, more := [] }
theorem bk__law_deck_0 : BlkOk ["_law_script", "_law_cell", "_law_cells", "_law_mixed"] (defScope s__law_deck) sn__law_deck_0 [("_law_cell", 1)] := ⟨rfl, by decide +kernel, by decide +kernel, by decide +kernel, by decide +kernel⟩



def sn__law_traces_0 : Scope := { kind := .function, names := [(".0", .local), ("_law_t", .local), ("_law_p", .free)], isGenerator := false, isCoroutine := false, more := [] }
def sn__law_traces_0r : Scope := { kind := .function, names := [(".0", .local), ("_law_t", .local), ("_law_p", .cell)], isGenerator := false, isCoroutine := false, more := [] }
theorem bk__law_traces_0 : BlkOk ["_law_p", "_law_t"] (defScope s__law_traces) sn__law_traces_0 [("_law_t", 1)] := ⟨rfl, by decide +kernel, by decide +kernel, by decide +kernel, by decide +kernel⟩

def sn__law_table_0 : Scope := { kind := .function, names := [(".0", .local), ("_law_x", .local), ("int", .globalImplicit), ("_law_a", .free), ("_law_p", .free)], isGenerator := false, isCoroutine := false, more := [] }
def sn__law_table_0r : Scope := { kind := .function, names := [(".0", .local), ("_law_x", .local), ("int", .globalImplicit), ("_law_a", .cell), ("_law_p", .cell)], isGenerator := false, isCoroutine := false, more := [] }
theorem bk__law_table_0 : BlkOk ["_law_p", "_law_roots", "_law_many", "_law_first", "_law_y", "_law_a", "_law_base", "_law_b", "_law_t", "_law_x", "_law_one"] (defScope s__law_table) sn__law_table_0 [("_law_x", 9)] := ⟨rfl, by decide +kernel, by decide +kernel, by decide +kernel, by decide +kernel⟩
def sn__law_table_1 : Scope := { kind := .function, names := [(".0", .local), ("_law_one", .local), ("_law_b", .free), ("_law_roots", .free)], isGenerator := false, isCoroutine := false, more := [] }
def sn__law_table_1r : Scope := { kind := .function, names := [(".0", .local), ("_law_one", .local), ("_law_b", .cell), ("_law_roots", .cell)], isGenerator := false, isCoroutine := false, more := [] }
theorem bk__law_table_1 : BlkOk ["_law_p", "_law_roots", "_law_many", "_law_first", "_law_y", "_law_a", "_law_base", "_law_b", "_law_t", "_law_x", "_law_one"] (defScope s__law_table) sn__law_table_1 [("_law_one", 10)] := ⟨rfl, by decide +kernel, by decide +kernel, by decide +kernel, by decide +kernel⟩



def sn_law_0 : Scope := { kind := .function, names := [(".0", .local), ("_law_t", .local), ("many_pairs", .globalImplicit), ("_law_p", .free)], isGenerator := false, isCoroutine := false, more := [] }
def sn_law_0r : Scope := { kind := .function, names := [(".0", .local), ("_law_t", .local), ("many_pairs", .globalImplicit), ("_law_p", .cell)], isGenerator := false, isCoroutine := false, more := [] }
theorem bk_law_0 : BlkOk ["_law_script", "_law_deck_here", "_law_traces_here", "_law_many", "_law_first", "_law_some", "_law_t", "_law_told_here", "_law_bad", "_law_p"] (defScope s_law) sn_law_0 [("_law_t", 6)] := ⟨rfl, by decide +kernel, by decide +kernel, by decide +kernel, by decide +kernel⟩
def sn_law_1 : Scope := { kind := .function, names := [(".0", .local), ("_law_t", .local), ("_law_many", .free)], isGenerator := false, isCoroutine := false, more := [] }
def sn_law_1r : Scope := { kind := .function, names := [(".0", .local), ("_law_t", .local), ("_law_many", .cell)], isGenerator := false, isCoroutine := false, more := [] }
theorem bk_law_1 : BlkOk ["_law_script", "_law_deck_here", "_law_traces_here", "_law_many", "_law_first", "_law_some", "_law_t", "_law_told_here", "_law_bad", "_law_p"] (defScope s_law) sn_law_1 [("_law_t", 6)] := ⟨rfl, by decide +kernel, by decide +kernel, by decide +kernel, by decide +kernel⟩

theorem ok_is_integer {P : Program} {w : World} {mg : Str → Option Value} {base : Heap} (C : Ct) (A : Fa C.K mg) (a : Addr) (ns : List Int) (D : Dc C n_1 n_2 n_3 a ns A.cl A.xc ktB A.tb) (TB : Tb A base) (e k : Nat) (hk : 3 * e ≤ k) : FnG P w C.K mg base (L2.CX P w) (k + 1) A.f_is_integer A.d_is_integer p_is_integer (spS C (FT (T ns) (fun _ => none) e 0) 1) := by
  cases e with
  | zero => exact FnG.no fun _ _ _ _ h => spS0 h
  | succ e =>
  obtain ⟨k, rfl⟩ : ∃ k', k = k' + 3 := ⟨k - 3, by omega⟩
  refine defOk A.F_is_integer sc_is_integer rfl 0 (m_is_integer) (T ns) (fun _ => none) e rfl rfl (by decide) (fun cdv A0 outer s H F0 E hG hr => ?_)
  have D' : Dc (C.at H F0 (FT (T ns) (fun _ => none) e)) n_1 n_2 n_3 a ns A.cl A.xc ktB A.tb := ⟨D.n1, D.n2, D.n3, D.sc, D.cl, D.xc, D.kt, D.tb⟩
  haveI : KtOff (C.at H F0 (FT (T ns) (fun _ => none) e)) := ⟨D.kt⟩
  have hu := Pv.Room.u70 hr
  have hu65 := Pv.Room.u65 hr
  have hu1 := Pv.Room.u1 hr
  have hdk := dkn_of D'
  have hn3 := hn3_of D'
  have hn2 := hn2_of D'
  have hok : ClsOk C.K C.sc.2.1 := by rw [D.cl]; exact A.clsOk
  have hin : ∀ Cn ∈ C.sc.2.1, InsOk C.K Cn.1 := by rw [D.cl]; exact A.insOk
  have hcl_Curve : C.sc.2.1[0]? = some (A.C_Curve, at_Curve) := by rw [D.cl]; rfl
  exact ⟨[],
    (Sb.one (Ss.ret (Es.and (Es.b (Es.isi .isInt rfl rfl hin rfl A.z_isinstance rfl rfl A.z_int rfl (by decide) rfl (Eb.var 0 rfl (.inl rfl) rfl rfl) rfl rfl rfl)) (Es.one (Es.not rfl (Es.b (Es.isi .isBool rfl rfl hin rfl A.z_isinstance rfl rfl A.z_bool rfl (by decide) rfl (Eb.var 0 rfl (.inl rfl) rfl rfl) rfl rfl rfl)))))))⟩

theorem ok_number_power {P : Program} {w : World} {mg : Str → Option Value} {base : Heap} (C : Ct) (A : Fa C.K mg) (a : Addr) (ns : List Int) (D : Dc C n_1 n_2 n_3 a ns A.cl A.xc ktB A.tb) (TB : Tb A base) (e k : Nat) (hk : 3 * e ≤ k) : FnG P w C.K mg base (L2.CX P w) (k + 1) A.f_number_power A.d_number_power p_number_power (spS C (FT (T ns) (fun _ => none) e 3) 3) := by
  cases e with
  | zero => exact FnG.no fun _ _ _ _ h => spS0 h
  | succ e =>
  obtain ⟨k, rfl⟩ : ∃ k', k = k' + 3 := ⟨k - 3, by omega⟩
  refine defOk A.F_number_power sc_number_power rfl 3 (m_number_power) (T ns) (fun _ => none) e rfl rfl (by decide) (fun cdv A0 outer s H F0 E hG hr => ?_)
  have D' : Dc (C.at H F0 (FT (T ns) (fun _ => none) e)) n_1 n_2 n_3 a ns A.cl A.xc ktB A.tb := ⟨D.n1, D.n2, D.n3, D.sc, D.cl, D.xc, D.kt, D.tb⟩
  haveI : KtOff (C.at H F0 (FT (T ns) (fun _ => none) e)) := ⟨D.kt⟩
  have hpo := passes_of (X := cxOf (L2.CX P w) P w C.K mg base ["prime", "number", "exponent", "result", "base", "left"] "number_power" (defScope s_number_power) A.f_number_power cdv A0 outer s H E) rfl
  have hu := Pv.Room.u70 hr
  have hu65 := Pv.Room.u65 hr
  have hu1 := Pv.Room.u1 hr
  have hdk := dkn_of D'
  have hn3 := hn3_of D'
  have hn2 := hn2_of D'
  have hok : ClsOk C.K C.sc.2.1 := by rw [D.cl]; exact A.clsOk
  have hin : ∀ Cn ∈ C.sc.2.1, InsOk C.K Cn.1 := by rw [D.cl]; exact A.insOk
  have hcl_Curve : C.sc.2.1[0]? = some (A.C_Curve, at_Curve) := by rw [D.cl]; rfl
  exact ⟨[],
    (Sb.cons (Ss.set Es.int (Eg.name 3 (by decide) sc_number_power.nd rfl (.inl rfl) (.inr rfl)) rfl rfl rfl)
    (Sb.cons (Ss.set (Es.bin .mod rfl (Eb.var 1 rfl (.inl rfl) rfl rfl) (Eb.var 0 rfl (.inl rfl) rfl rfl)) (Eg.name 4 (by decide) sc_number_power.nd rfl (.inl rfl) (.inr rfl)) rfl rfl rfl)
    (Sb.cons (Ss.set (Es.var 2 (by decide) rfl (.inl rfl) rfl rfl) (Eg.name 5 (by decide) sc_number_power.nd rfl (.inl rfl) (.inr rfl)) rfl rfl rfl)
    (Sb.cons (Ss.while_ hpo (Et.cmp .gt rfl hu65 (Eb.var 5 rfl (.inl rfl) rfl rfl) (Es.b Es.int) rfl) (Sb.cons (Ss.ite (Et.truth rfl (Es.b (Es.bin .band rfl (Eb.var 5 rfl (.inl rfl) rfl rfl) (Es.b Es.int))) (fun _ => rfl)) (Sb.one (Ss.set (Es.bin .mod rfl (Es.b (Es.bin .mul rfl (Eb.var 3 rfl (.inl rfl) rfl rfl) (Eb.var 4 rfl (.inl rfl) rfl rfl))) (Eb.var 0 rfl (.inl rfl) rfl rfl)) (Eg.name 3 (by decide) sc_number_power.nd rfl (.inl rfl) (.inr rfl)) rfl rfl rfl)) Sb.nil)
      (Sb.cons (Ss.set (Es.bin .mod rfl (Es.b (Es.bin .mul rfl (Eb.var 4 rfl (.inl rfl) rfl rfl) (Eb.var 4 rfl (.inl rfl) rfl rfl))) (Eb.var 0 rfl (.inl rfl) rfl rfl)) (Eg.name 4 (by decide) sc_number_power.nd rfl (.inl rfl) (.inr rfl)) rfl rfl rfl)
      (Sb.one (Ss.set (Es.bin .shr rfl (Eb.var 5 rfl (.inl rfl) rfl rfl) (Es.b Es.int)) (Eg.name 5 (by decide) sc_number_power.nd rfl (.inl rfl) (.inr rfl)) rfl rfl rfl)))))
    (Sb.one (Ss.ret (Es.var 3 (by decide) rfl (.inl rfl) rfl rfl)))))))⟩

theorem ok_Curve___eq__ {P : Program} {w : World} {mg : Str → Option Value} {base : Heap} (C : Ct) (A : Fa C.K mg) (a : Addr) (ns : List Int) (D : Dc C n_1 n_2 n_3 a ns A.cl A.xc ktB A.tb) (TB : Tb A base) (e k : Nat) (hk : 3 * e ≤ k) : FnG P w C.K mg base (L2.CX P w) (k + 1) A.f_Curve___eq__ A.d_Curve___eq__ p_Curve___eq__ (spS C (FT (T ns) (fun _ => none) e 8) 2) := by
  cases e with
  | zero => exact FnG.no fun _ _ _ _ h => spS0 h
  | succ e =>
  obtain ⟨k, rfl⟩ : ∃ k', k = k' + 3 := ⟨k - 3, by omega⟩
  refine defOk A.F_Curve___eq__ sc_Curve___eq__ rfl 8 (m_Curve___eq__) (T ns) (fun _ => none) e rfl rfl (by decide) (fun cdv A0 outer s H F0 E hG hr => ?_)
  have D' : Dc (C.at H F0 (FT (T ns) (fun _ => none) e)) n_1 n_2 n_3 a ns A.cl A.xc ktB A.tb := ⟨D.n1, D.n2, D.n3, D.sc, D.cl, D.xc, D.kt, D.tb⟩
  haveI : KtOff (C.at H F0 (FT (T ns) (fun _ => none) e)) := ⟨D.kt⟩
  have hu := Pv.Room.u70 hr
  have hu65 := Pv.Room.u65 hr
  have hu1 := Pv.Room.u1 hr
  have hdk := dkn_of D'
  have hn3 := hn3_of D'
  have hn2 := hn2_of D'
  have hok : ClsOk C.K C.sc.2.1 := by rw [D.cl]; exact A.clsOk
  have hin : ∀ Cn ∈ C.sc.2.1, InsOk C.K Cn.1 := by rw [D.cl]; exact A.insOk
  have hcl_Curve : C.sc.2.1[0]? = some (A.C_Curve, at_Curve) := by rw [D.cl]; rfl
  exact ⟨[],
    (Sb.one (Ss.ret (Es.and (Es.b (Es.isO 0 rfl hin (by rw [D.cl]; exact A.isO_Curve) A.kT_Curve rfl A.z_isinstance rfl rfl A.gC_Curve rfl (Eb.var 1 rfl (.inl rfl) rfl rfl) rfl rfl rfl)) (Es.and (Es.b (Es.cmp .eq rfl hu65 (Es.b (Es.fld hok (Eb.var 0 rfl (.inl rfl) rfl rfl) rfl)) (Es.b (Es.fld hok (Eb.var 1 rfl (.inl rfl) rfl rfl) rfl)) rfl)) (Es.and (Es.b (Es.cmp .eq rfl hu65 (Es.b (Es.fld hok (Eb.var 0 rfl (.inl rfl) rfl rfl) rfl)) (Es.b (Es.fld hok (Eb.var 1 rfl (.inl rfl) rfl rfl) rfl)) rfl)) (Es.one (Es.cmp .eq rfl hu65 (Es.b (Es.fld hok (Eb.var 0 rfl (.inl rfl) rfl rfl) rfl)) (Es.b (Es.fld hok (Eb.var 1 rfl (.inl rfl) rfl rfl) rfl)) rfl)))))))⟩

theorem ok_scaled_pair {P : Program} {w : World} {mg : Str → Option Value} {base : Heap} (C : Ct) (A : Fa C.K mg) (a : Addr) (ns : List Int) (D : Dc C n_1 n_2 n_3 a ns A.cl A.xc ktB A.tb) (TB : Tb A base) (e k : Nat) (hk : 3 * e ≤ k) : FnG P w C.K mg base (L2.CX P w) (k + 1) A.f_scaled_pair A.d_scaled_pair p_scaled_pair (spS C (FT (T ns) (fun _ => none) e 10) 2) := by
  cases e with
  | zero => exact FnG.no fun _ _ _ _ h => spS0 h
  | succ e =>
  obtain ⟨k, rfl⟩ : ∃ k', k = k' + 3 := ⟨k - 3, by omega⟩
  refine defOk A.F_scaled_pair sc_scaled_pair rfl 10 (m_scaled_pair) (T ns) (fun _ => none) e rfl rfl (by decide) (fun cdv A0 outer s H F0 E hG hr => ?_)
  have D' : Dc (C.at H F0 (FT (T ns) (fun _ => none) e)) n_1 n_2 n_3 a ns A.cl A.xc ktB A.tb := ⟨D.n1, D.n2, D.n3, D.sc, D.cl, D.xc, D.kt, D.tb⟩
  haveI : KtOff (C.at H F0 (FT (T ns) (fun _ => none) e)) := ⟨D.kt⟩
  have hu := Pv.Room.u70 hr
  have hu65 := Pv.Room.u65 hr
  have hu1 := Pv.Room.u1 hr
  have hdk := dkn_of D'
  have hn3 := hn3_of D'
  have hn2 := hn2_of D'
  have hok : ClsOk C.K C.sc.2.1 := by rw [D.cl]; exact A.clsOk
  have hin : ∀ Cn ∈ C.sc.2.1, InsOk C.K Cn.1 := by rw [D.cl]; exact A.insOk
  have hcl_Curve : C.sc.2.1[0]? = some (A.C_Curve, at_Curve) := by rw [D.cl]; rfl
  exact ⟨[],
    (Sb.cons (Ss.set (Es.bin .mod rfl (Es.b (Es.bin .mul rfl (Eb.var 1 rfl (.inl rfl) rfl rfl) (Eb.var 1 rfl (.inl rfl) rfl rfl))) (Es.b (Es.fld hok (Eb.var 0 rfl (.inl rfl) rfl rfl) rfl))) (Eg.name 2 (by decide) sc_scaled_pair.nd rfl (.inl rfl) (.inr rfl)) rfl rfl rfl)
    (Sb.cons (Ss.set (Es.bin .mod rfl (Es.b (Es.bin .mul rfl (Eb.var 2 rfl (.inl rfl) rfl rfl) (Eb.var 2 rfl (.inl rfl) rfl rfl))) (Es.b (Es.fld hok (Eb.var 0 rfl (.inl rfl) rfl rfl) rfl))) (Eg.name 3 (by decide) sc_scaled_pair.nd rfl (.inl rfl) (.inr rfl)) rfl rfl rfl)
    (Sb.one (Ss.ret (Es.tup (Ea.cons (Es.bin .mod rfl (Es.b (Es.bin .mul rfl (Eb.var 3 rfl (.inl rfl) rfl rfl) (Es.b (Es.fld hok (Eb.var 0 rfl (.inl rfl) rfl rfl) rfl)))) (Es.b (Es.fld hok (Eb.var 0 rfl (.inl rfl) rfl rfl) rfl))) (Ea.cons (Es.bin .mod rfl (Es.b (Es.bin .mul rfl (Es.b (Es.bin .mul rfl (Eb.var 3 rfl (.inl rfl) rfl rfl) (Eb.var 2 rfl (.inl rfl) rfl rfl))) (Es.b (Es.fld hok (Eb.var 0 rfl (.inl rfl) rfl rfl) rfl)))) (Es.b (Es.fld hok (Eb.var 0 rfl (.inl rfl) rfl rfl) rfl))) Ea.nil rfl) rfl) (Nat.le_of_ble_eq_true rfl))))))⟩

theorem ok_square_table {P : Program} {w : World} {mg : Str → Option Value} {base : Heap} (C : Ct) (A : Fa C.K mg) (a : Addr) (ns : List Int) (D : Dc C n_1 n_2 n_3 a ns A.cl A.xc ktB A.tb) (TB : Tb A base) (e k : Nat) (hk : 3 * e ≤ k) : FnG P w C.K mg base (L2.CX P w) (k + 1) A.f_square_table A.d_square_table p_square_table (spS C (FT (T ns) (fun _ => none) e 13) 1) := by
  cases e with
  | zero => exact FnG.no fun _ _ _ _ h => spS0 h
  | succ e =>
  obtain ⟨k, rfl⟩ : ∃ k', k = k' + 3 := ⟨k - 3, by omega⟩
  refine defOk A.F_square_table sc_square_table rfl 13 (m_square_table) (T ns) (fun _ => none) e rfl rfl (by decide) (fun cdv A0 outer s H F0 E hG hr => ?_)
  have D' : Dc (C.at H F0 (FT (T ns) (fun _ => none) e)) n_1 n_2 n_3 a ns A.cl A.xc ktB A.tb := ⟨D.n1, D.n2, D.n3, D.sc, D.cl, D.xc, D.kt, D.tb⟩
  haveI : KtOff (C.at H F0 (FT (T ns) (fun _ => none) e)) := ⟨D.kt⟩
  have hpo := passes_of (X := cxOf (L2.CX P w) P w C.K mg base ["prime", "table", "root", "number"] "square_table" (defScope s_square_table) A.f_square_table cdv A0 outer s H E) rfl
  have hu := Pv.Room.u70 hr
  have hu65 := Pv.Room.u65 hr
  have hu1 := Pv.Room.u1 hr
  have hdk := dkn_of D'
  have hn3 := hn3_of D'
  have hn2 := hn2_of D'
  have hok : ClsOk C.K C.sc.2.1 := by rw [D.cl]; exact A.clsOk
  have hin : ∀ Cn ∈ C.sc.2.1, InsOk C.K Cn.1 := by rw [D.cl]; exact A.insOk
  have hcl_Curve : C.sc.2.1[0]? = some (A.C_Curve, at_Curve) := by rw [D.cl]; rfl
  exact ⟨[],
    (Sb.cons (Ss.ownLc 1 rfl sc_square_table.nd rfl rfl rfl (Ei.rng1 rfl A.z_range (Ea.cons (Es.var 0 (by decide) rfl (.inl rfl) rfl rfl) Ea.nil rfl) rfl) bk_square_table_0 rfl (fun _ _ _ _ _ => (Eg.name 3 (by decide) sc_square_table.nd rfl (.inl rfl) (.inr rfl))) (fun _ _ _ _ _ => Ec.none) (fun _ _ _ _ _ => (Es.neg rfl (Es.b Es.int))) (fun _ => rfl) (by decide) (.inl rfl))
    (Sb.cons (Ss.for_ hpo rfl (Ei.rng1 rfl A.z_range (Ea.cons (Es.var 0 (by decide) rfl (.inl rfl) rfl rfl) Ea.nil rfl) rfl) (Eg.name 2 (by decide) sc_square_table.nd rfl (.inl rfl) (.inr rfl)) (Sb.one (Ss.setIx 1 (by decide) rfl (.inl rfl) rfl rfl Es.int (Es.b (Es.bin .mod rfl (Es.b (Es.bin .mul rfl (Eb.var 2 rfl (.inl rfl) rfl rfl) (Eb.var 2 rfl (.inl rfl) rfl rfl))) (Eb.var 0 rfl (.inl rfl) rfl rfl))) (fun _ => rfl) rfl rfl rfl)) (fun _ => rfl))
    (Sb.cons (Ss.setIx 1 (by decide) rfl (.inl rfl) rfl rfl Es.int (Es.b Es.int) (fun _ => rfl) rfl rfl rfl)
    (Sb.one (Ss.pre (Ow2 := []) (Ss.ret (Es.var 1 (by decide) rfl (.inl rfl) rfl rfl)) (by decide))))))⟩

theorem ok_trace_by_table {P : Program} {w : World} {mg : Str → Option Value} {base : Heap} (C : Ct) (A : Fa C.K mg) (a : Addr) (ns : List Int) (D : Dc C n_1 n_2 n_3 a ns A.cl A.xc ktB A.tb) (TB : Tb A base) (e k : Nat) (hk : 3 * e ≤ k) : FnG P w C.K mg base (L2.CX P w) (k + 1) A.f_trace_by_table A.d_trace_by_table p_trace_by_table (spS C (FT (T ns) (fun _ => none) e 14) 4) := by
  cases e with
  | zero => exact FnG.no fun _ _ _ _ h => spS0 h
  | succ e =>
  obtain ⟨k, rfl⟩ : ∃ k', k = k' + 3 := ⟨k - 3, by omega⟩
  refine defOk A.F_trace_by_table sc_trace_by_table rfl 14 (m_trace_by_table) (T ns) (fun _ => none) e rfl rfl (by decide) (fun cdv A0 outer s H F0 E hG hr => ?_)
  have D' : Dc (C.at H F0 (FT (T ns) (fun _ => none) e)) n_1 n_2 n_3 a ns A.cl A.xc ktB A.tb := ⟨D.n1, D.n2, D.n3, D.sc, D.cl, D.xc, D.kt, D.tb⟩
  haveI : KtOff (C.at H F0 (FT (T ns) (fun _ => none) e)) := ⟨D.kt⟩
  have hu := Pv.Room.u70 hr
  have hu65 := Pv.Room.u65 hr
  have hu1 := Pv.Room.u1 hr
  have hdk := dkn_of D'
  have hn3 := hn3_of D'
  have hn2 := hn2_of D'
  have hok : ClsOk C.K C.sc.2.1 := by rw [D.cl]; exact A.clsOk
  have hin : ∀ Cn ∈ C.sc.2.1, InsOk C.K Cn.1 := by rw [D.cl]; exact A.insOk
  have hcl_Curve : C.sc.2.1[0]? = some (A.C_Curve, at_Curve) := by rw [D.cl]; rfl
  exact ⟨[],
    (Sb.one (Ss.ret (Es.neg rfl (Es.b (Es.biB .sum rfl (cb_sum rfl) rfl A.z_sum rfl (Eas.one (Ef.b (Ef.comp rfl sc_trace_by_table.nd (Ei.rng1 rfl A.z_range (Ea.cons (Es.var 0 (by decide) rfl (.inr (.inl rfl)) rfl rfl) Ea.nil rfl) rfl) bk_trace_by_table_0 rfl (fun _ _ _ _ _ => (Eg.name 4 (by decide) sc_trace_by_table.nd rfl (.inl rfl) (.inr rfl))) (fun _ _ _ _ _ => Ec.none) (fun _ _ _ _ _ => (Es.idx rfl (Eb.var 3 rfl (.inr (.inl rfl)) rfl rfl) (Es.b (Es.bin .mod rfl (Es.b (Es.bin .add rfl (Es.b (Es.bin .add rfl (Es.b (Es.bin .mul rfl (Es.b (Es.bin .mul rfl (Eb.var 4 rfl (.inl rfl) rfl rfl) (Eb.var 4 rfl (.inl rfl) rfl rfl))) (Eb.var 4 rfl (.inl rfl) rfl rfl))) (Es.b (Es.bin .mul rfl (Eb.var 1 rfl (.inr (.inl rfl)) rfl rfl) (Eb.var 4 rfl (.inl rfl) rfl rfl))))) (Eb.var 2 rfl (.inr (.inl rfl)) rfl rfl))) (Eb.var 0 rfl (.inr (.inl rfl)) rfl rfl))) (by intro _ _; rfl))) (fun _ => rfl) (by decide))) rfl) (by decide) rfl rfl rfl)))))⟩

theorem ok__law_deck {P : Program} {w : World} {mg : Str → Option Value} {base : Heap} (C : Ct) (A : Fa C.K mg) (a : Addr) (ns : List Int) (D : Dc C n_1 n_2 n_3 a ns A.cl A.xc ktB A.tb) (TB : Tb A base) (e k : Nat) (hk : 3 * e ≤ k) : FnG P w C.K mg base (L2.CX P w) (k + 1) A.f__law_deck A.d__law_deck p__law_deck (spS C (FT (T ns) (fun _ => none) e 21) 1) := by
  cases e with
  | zero => exact FnG.no fun _ _ _ _ h => spS0 h
  | succ e =>
  obtain ⟨k, rfl⟩ : ∃ k', k = k' + 3 := ⟨k - 3, by omega⟩
  refine defOk A.F__law_deck sc__law_deck rfl 21 (m__law_deck ns) (T ns) (fun _ => none) e rfl rfl (by decide) (fun cdv A0 outer s H F0 E hG hr => ?_)
  have D' : Dc (C.at H F0 (FT (T ns) (fun _ => none) e)) n_1 n_2 n_3 a ns A.cl A.xc ktB A.tb := ⟨D.n1, D.n2, D.n3, D.sc, D.cl, D.xc, D.kt, D.tb⟩
  haveI : KtOff (C.at H F0 (FT (T ns) (fun _ => none) e)) := ⟨D.kt⟩
  have hpo := passes_of (X := cxOf (L2.CX P w) P w C.K mg base ["_law_script", "_law_cell", "_law_cells", "_law_mixed"] "_law_deck" (defScope s__law_deck) A.f__law_deck cdv A0 outer s H E) rfl
  have hu := Pv.Room.u70 hr
  have hu65 := Pv.Room.u65 hr
  have hu1 := Pv.Room.u1 hr
  have hdk := dkn_of D'
  have hn3 := hn3_of D'
  have hn2 := hn2_of D'
  have hok : ClsOk C.K C.sc.2.1 := by rw [D.cl]; exact A.clsOk
  have hin : ∀ Cn ∈ C.sc.2.1, InsOk C.K Cn.1 := by rw [D.cl]; exact A.insOk
  have hcl_Curve : C.sc.2.1[0]? = some (A.C_Curve, at_Curve) := by rw [D.cl]; rfl
  exact ⟨[],
    (Sb.cons (Ss.par 2 3 rfl sc__law_deck.nd rfl rfl (by decide) (by decide) (by decide) rfl rfl (Ea.cons (Ef.s (Ef.comp rfl sc__law_deck.nd (Ei.seq rfl (Es.scr 63 rfl D'.sc (Es.var 0 (by decide) rfl (.inl rfl) rfl rfl))) bk__law_deck_0 rfl (fun _ _ _ _ _ => (Eg.name 1 (by decide) sc__law_deck.nd rfl (.inl rfl) (.inr rfl))) (fun _ _ _ _ _ => Ec.none) (fun _ _ _ _ _ => (Es.biT .toInt rfl cb_toInt rfl A.z_int rfl (Eas.one (Eb.var 1 rfl (.inl rfl) rfl rfl) rfl) (by decide) rfl rfl rfl)) (fun _ => rfl) (by decide))) (Ea.cons Es.int Ea.nil rfl) rfl) rfl rfl)
    (Sb.cons (Ss.for_ hpo rfl (Ei.seq rfl (Es.var 2 (by decide) rfl (.inl rfl) rfl rfl)) (Eg.name 1 (by decide) sc__law_deck.nd rfl (.inl rfl) (.inr rfl)) (Sb.one (Ss.set (Es.bin .mod rfl (Es.b (Es.biT .toInt rfl cb_toInt rfl A.z_int rfl (Eas.one (Es.b (Es.bin .add rfl (Es.b (Es.bin .add rfl (Es.b (Es.bin .mul rfl (Eb.var 3 rfl (.inl rfl) rfl rfl) (Es.b Es.int))) (Es.b (Es.bin .mod rfl (Es.b (Es.biT .toInt rfl cb_toInt rfl A.z_int rfl (Eas.one (Eb.var 1 rfl (.inl rfl) rfl rfl) rfl) (by decide) rfl rfl rfl)) (Es.b Es.int))))) (Es.b Es.int))) rfl) (by decide) rfl rfl rfl)) (Es.b Es.int)) (Eg.name 3 (by decide) sc__law_deck.nd rfl (.inl rfl) (.inr rfl)) rfl rfl rfl)) (fun _ => rfl))
    (Sb.one (Ss.ret (Es.dkNew hdk D'.n1 D'.n2 D'.n3 (Ef.lrev rfl (Eb.var 2 rfl (.inl rfl) rfl rfl)) (Es.var 3 (by decide) rfl (.inl rfl) rfl rfl) Es.int)))))⟩

theorem ok__law_draw {P : Program} {w : World} {mg : Str → Option Value} {base : Heap} (C : Ct) (A : Fa C.K mg) (a : Addr) (ns : List Int) (D : Dc C n_1 n_2 n_3 a ns A.cl A.xc ktB A.tb) (TB : Tb A base) (e k : Nat) (hk : 3 * e ≤ k) : FnG P w C.K mg base (L2.CX P w) (k + 1) A.f__law_draw A.d__law_draw p__law_draw (spS C (FT (T ns) (fun _ => none) e 22) 2) := by
  cases e with
  | zero => exact FnG.no fun _ _ _ _ h => spS0 h
  | succ e =>
  obtain ⟨k, rfl⟩ : ∃ k', k = k' + 3 := ⟨k - 3, by omega⟩
  refine defOk A.F__law_draw sc__law_draw rfl 22 (m__law_draw) (T ns) (fun _ => none) e rfl rfl (by decide) (fun cdv A0 outer s H F0 E hG hr => ?_)
  have D' : Dc (C.at H F0 (FT (T ns) (fun _ => none) e)) n_1 n_2 n_3 a ns A.cl A.xc ktB A.tb := ⟨D.n1, D.n2, D.n3, D.sc, D.cl, D.xc, D.kt, D.tb⟩
  haveI : KtOff (C.at H F0 (FT (T ns) (fun _ => none) e)) := ⟨D.kt⟩
  have hu := Pv.Room.u70 hr
  have hu65 := Pv.Room.u65 hr
  have hu1 := Pv.Room.u1 hr
  have hdk := dkn_of D'
  have hn3 := hn3_of D'
  have hn2 := hn2_of D'
  have hok : ClsOk C.K C.sc.2.1 := by rw [D.cl]; exact A.clsOk
  have hin : ∀ Cn ∈ C.sc.2.1, InsOk C.K Cn.1 := by rw [D.cl]; exact A.insOk
  have hcl_Curve : C.sc.2.1[0]? = some (A.C_Curve, at_Curve) := by rw [D.cl]; rfl
  exact ⟨[],
    (Sb.cons (Ss.dkSet true hu1 hdk hn3 (Eb.var 0 rfl (.inl rfl) rfl rfl) (Es.bin .add rfl (Es.b (Es.dkGet true hu1 hdk hn3 (Eb.var 0 rfl (.inl rfl) rfl rfl) (by intro _ _; rfl))) (Es.b Es.int)) rfl)
    (Sb.cons (Ss.ite (Et.dkHas hu65 D'.n1 (Eb.var 0 rfl (.inl rfl) rfl rfl) (by intro _ _; rfl)) (Sb.cons (Ss.set (Es.dkPop hu1 hdk D'.n1 (Eb.var 0 rfl (.inl rfl) rfl rfl) (by intro _ _; rfl) rfl rfl) (Eg.name 2 (by decide) sc__law_draw.nd rfl (.inl rfl) (.inr rfl)) rfl rfl rfl)
      (Sb.cons (Ss.ite (Et.cmp .ge rfl hu65 (Eb.var 2 rfl (.inl rfl) rfl rfl) (Es.b (Es.bin .pow rfl (Es.b Es.int) (Es.b Es.int))) rfl) (Sb.cons (Ss.ex (Es.b (Es.dkPush hu1 hdk D'.n1 (Eb.var 0 rfl (.inl rfl) rfl rfl) (Es.bin .fdiv rfl (Eb.var 2 rfl (.inl rfl) rfl rfl) (Es.b (Es.biB .max2 rfl (cb_max2 rfl) rfl A.z_max rfl (Eas.two (Es.b Es.int) (Eb.var 1 rfl (.inl rfl) rfl rfl) rfl rfl) (by decide) rfl rfl rfl))) (by intro _ _; rfl) rfl rfl rfl rfl rfl rfl)) rfl)
        (Sb.one (Ss.ret (Es.bin .mod rfl (Es.b (Es.biT .toInt rfl cb_toInt rfl A.z_int rfl (Eas.one (Eb.var 2 rfl (.inl rfl) rfl rfl) rfl) (by decide) rfl rfl rfl)) (Eb.var 1 rfl (.inl rfl) rfl rfl))))) Sb.nil)
      (Sb.one (Ss.dkSet false hu1 hdk hn2 (Eb.var 0 rfl (.inl rfl) rfl rfl) (Es.bin .mod rfl (Es.b (Es.biT .toInt rfl cb_toInt rfl A.z_int rfl (Eas.one (Es.b (Es.bin .add rfl (Es.b (Es.dkGet false hu1 hdk hn2 (Eb.var 0 rfl (.inl rfl) rfl rfl) (by intro _ _; rfl))) (Eb.var 2 rfl (.inl rfl) rfl rfl))) rfl) (by decide) rfl rfl rfl)) (Es.b Es.int)) rfl)))) Sb.nil)
    (Sb.cons (Ss.dkSet false hu1 hdk hn2 (Eb.var 0 rfl (.inl rfl) rfl rfl) (Es.bin .mod rfl (Es.b (Es.biT .toInt rfl cb_toInt rfl A.z_int rfl (Eas.one (Es.b (Es.bin .add rfl (Es.b (Es.bin .add rfl (Es.b (Es.bin .mul rfl (Es.b (Es.dkGet false hu1 hdk hn2 (Eb.var 0 rfl (.inl rfl) rfl rfl) (by intro _ _; rfl))) (Es.b Es.int))) (Es.b (Es.bin .mul rfl (Es.b (Es.dkGet true hu1 hdk hn3 (Eb.var 0 rfl (.inl rfl) rfl rfl) (by intro _ _; rfl))) (Es.b Es.int))))) (Es.b Es.int))) rfl) (by decide) rfl rfl rfl)) (Es.b Es.int)) rfl)
    (Sb.one (Ss.ret (Es.bin .mod rfl (Es.b (Es.bin .fdiv rfl (Es.b (Es.bin .mod rfl (Es.b (Es.biT .toInt rfl cb_toInt rfl A.z_int rfl (Eas.one (Es.b (Es.bin .mul rfl (Es.b (Es.dkGet false hu1 hdk hn2 (Eb.var 0 rfl (.inl rfl) rfl rfl) (by intro _ _; rfl))) (Es.b (Es.dkGet false hu1 hdk hn2 (Eb.var 0 rfl (.inl rfl) rfl rfl) (by intro _ _; rfl))))) rfl) (by decide) rfl rfl rfl)) (Es.b Es.int))) (Es.b Es.int))) (Eb.var 1 rfl (.inl rfl) rfl rfl)))))))⟩

theorem ok__law_traces {P : Program} {w : World} {mg : Str → Option Value} {base : Heap} (C : Ct) (A : Fa C.K mg) (a : Addr) (ns : List Int) (D : Dc C n_1 n_2 n_3 a ns A.cl A.xc ktB A.tb) (TB : Tb A base) (e k : Nat) (hk : 3 * e ≤ k) : FnG P w C.K mg base (L2.CX P w) (k + 1) A.f__law_traces A.d__law_traces p__law_traces (spS C (FT (T ns) (fun _ => none) e 24) 1) := by
  cases e with
  | zero => exact FnG.no fun _ _ _ _ h => spS0 h
  | succ e =>
  obtain ⟨k, rfl⟩ : ∃ k', k = k' + 3 := ⟨k - 3, by omega⟩
  refine defOk A.F__law_traces sc__law_traces rfl 24 (m__law_traces) (T ns) (fun _ => none) e rfl rfl (by decide) (fun cdv A0 outer s H F0 E hG hr => ?_)
  have D' : Dc (C.at H F0 (FT (T ns) (fun _ => none) e)) n_1 n_2 n_3 a ns A.cl A.xc ktB A.tb := ⟨D.n1, D.n2, D.n3, D.sc, D.cl, D.xc, D.kt, D.tb⟩
  haveI : KtOff (C.at H F0 (FT (T ns) (fun _ => none) e)) := ⟨D.kt⟩
  have hu := Pv.Room.u70 hr
  have hu65 := Pv.Room.u65 hr
  have hu1 := Pv.Room.u1 hr
  have hdk := dkn_of D'
  have hn3 := hn3_of D'
  have hn2 := hn2_of D'
  have hok : ClsOk C.K C.sc.2.1 := by rw [D.cl]; exact A.clsOk
  have hin : ∀ Cn ∈ C.sc.2.1, InsOk C.K Cn.1 := by rw [D.cl]; exact A.insOk
  have hcl_Curve : C.sc.2.1[0]? = some (A.C_Curve, at_Curve) := by rw [D.cl]; rfl
  exact ⟨[],
    (Sb.one (Ss.ret (Ef.s (Ef.comp rfl sc__law_traces.nd (Ei.rng2 rfl A.z_range (Ea.cons (Es.bin .sub rfl (Es.b Es.int) (Eb.var 0 rfl (.inr (.inl rfl)) rfl rfl)) (Ea.cons (Es.bin .add rfl (Eb.var 0 rfl (.inr (.inl rfl)) rfl rfl) (Es.b Es.int)) Ea.nil rfl) rfl) rfl rfl) bk__law_traces_0 rfl (fun _ _ _ _ _ => (Eg.name 1 (by decide) sc__law_traces.nd rfl (.inl rfl) (.inr rfl))) (fun _ _ _ _ _ => (Ec.one (Et.cmp .lt rfl hu65 (Es.b (Es.bin .mul rfl (Eb.var 1 rfl (.inl rfl) rfl rfl) (Eb.var 1 rfl (.inl rfl) rfl rfl))) (Es.b (Es.bin .mul rfl (Es.b Es.int) (Eb.var 0 rfl (.inr (.inl rfl)) rfl rfl))) rfl))) (fun _ _ _ _ _ => (Es.var 1 (by decide) rfl (.inl rfl) rfl rfl)) (fun _ => rfl) (by decide)))))⟩

theorem ok__law_table {P : Program} {w : World} {mg : Str → Option Value} {base : Heap} (C : Ct) (A : Fa C.K mg) (a : Addr) (ns : List Int) (D : Dc C n_1 n_2 n_3 a ns A.cl A.xc ktB A.tb) (TB : Tb A base) (e k : Nat) (hk : 3 * e ≤ k) : FnG P w C.K mg base (L2.CX P w) (k + 1) A.f__law_table A.d__law_table p__law_table (spS C (FT (T ns) (fun _ => none) e 25) 1) := by
  cases e with
  | zero => exact FnG.no fun _ _ _ _ h => spS0 h
  | succ e =>
  obtain ⟨k, rfl⟩ : ∃ k', k = k' + 3 := ⟨k - 3, by omega⟩
  refine defOk A.F__law_table sc__law_table rfl 25 (m__law_table) (T ns) (fun _ => none) e rfl rfl (by decide) (fun cdv A0 outer s H F0 E hG hr => ?_)
  have D' : Dc (C.at H F0 (FT (T ns) (fun _ => none) e)) n_1 n_2 n_3 a ns A.cl A.xc ktB A.tb := ⟨D.n1, D.n2, D.n3, D.sc, D.cl, D.xc, D.kt, D.tb⟩
  haveI : KtOff (C.at H F0 (FT (T ns) (fun _ => none) e)) := ⟨D.kt⟩
  have hpo := passes_of (X := cxOf (L2.CX P w) P w C.K mg base ["_law_p", "_law_roots", "_law_many", "_law_first", "_law_y", "_law_a", "_law_base", "_law_b", "_law_t", "_law_x", "_law_one"] "_law_table" (defScope s__law_table) A.f__law_table cdv A0 outer s H E) rfl
  have hu := Pv.Room.u70 hr
  have hu65 := Pv.Room.u65 hr
  have hu1 := Pv.Room.u1 hr
  have hdk := dkn_of D'
  have hn3 := hn3_of D'
  have hn2 := hn2_of D'
  have hok : ClsOk C.K C.sc.2.1 := by rw [D.cl]; exact A.clsOk
  have hin : ∀ Cn ∈ C.sc.2.1, InsOk C.K Cn.1 := by rw [D.cl]; exact A.insOk
  have hcl_Curve : C.sc.2.1[0]? = some (A.C_Curve, at_Curve) := by rw [D.cl]; rfl
  exact ⟨[],
    (Sb.cons (Ss.parT rfl rfl (Em.new (Ef.rep (Ef.b (Ef.lst (Ea.cons Es.int Ea.nil rfl) (Nat.le_of_ble_eq_true rfl))) (Eb.var 0 rfl (.inr (.inl rfl)) rfl rfl)) (Em.new Ef.dnew (Em.new Ef.dnew Em.nil rfl) rfl) rfl) (Enm.cons sc__law_table.nd rfl (.inr rfl) (.inl rfl) (Enm.cons sc__law_table.nd rfl (.inl rfl) (.inr rfl) (Enm.cons sc__law_table.nd rfl (.inl rfl) (.inr rfl) Enm.nil rfl) rfl) rfl) (by decide) (by decide) (fun _ => .inl rfl) (by decide) rfl rfl rfl rfl rfl)
    (Sb.cons (Ss.for_ hpo rfl (Ei.rng1 rfl A.z_range (Ea.cons (Es.var 0 (by decide) rfl (.inr (.inl rfl)) rfl rfl) Ea.nil rfl) rfl) (Eg.name 4 (by decide) sc__law_table.nd rfl (.inl rfl) (.inr rfl)) (Sb.one (Ss.setIx 1 (by decide) rfl (.inr (.inl rfl)) rfl rfl (Es.bin .add rfl (Es.b (Es.idx rfl (Eb.var 1 rfl (.inr (.inl rfl)) rfl rfl) (Es.b (Es.bin .mod rfl (Es.b (Es.biT .toInt rfl cb_toInt rfl A.z_int rfl (Eas.one (Es.b (Es.bin .mul rfl (Eb.var 4 rfl (.inl rfl) rfl rfl) (Eb.var 4 rfl (.inl rfl) rfl rfl))) rfl) (by decide) rfl rfl rfl)) (Eb.var 0 rfl (.inr (.inl rfl)) rfl rfl))) (by intro _ _; rfl))) (Es.b Es.int)) (Es.b (Es.bin .mod rfl (Es.b (Es.biT .toInt rfl cb_toInt rfl A.z_int rfl (Eas.one (Es.b (Es.bin .mul rfl (Eb.var 4 rfl (.inl rfl) rfl rfl) (Eb.var 4 rfl (.inl rfl) rfl rfl))) rfl) (by decide) rfl rfl rfl)) (Eb.var 0 rfl (.inr (.inl rfl)) rfl rfl))) (fun _ => rfl) rfl rfl rfl)) (fun _ => rfl))
    (Sb.cons (Ss.post (Ow1 := [1, 3, 2, 1]) (Ow' := [3, 2, 1]) (Ss.own 1 (Ef.cat (Eb.var 1 rfl (.inr (.inl rfl)) rfl rfl) (Eb.var 1 rfl (.inr (.inl rfl)) rfl rfl)) sc__law_table.nd rfl (.inr rfl) (.inl rfl) rfl (.inl rfl)) (by decide))
    (Sb.cons (Ss.for_ hpo rfl (Ei.rng1 rfl A.z_range (Ea.cons (Es.var 0 (by decide) rfl (.inr (.inl rfl)) rfl rfl) Ea.nil rfl) rfl) (Eg.name 5 (by decide) sc__law_table.nd rfl (.inr rfl) (.inl rfl)) (Sb.cons (Ss.post (Ow1 := [6, 3, 2, 1]) (Ow' := [3, 2, 1]) (Ss.ownLc 6 rfl sc__law_table.nd rfl rfl rfl (Ei.rng1 rfl A.z_range (Ea.cons (Es.var 0 (by decide) rfl (.inr (.inl rfl)) rfl rfl) Ea.nil rfl) rfl) bk__law_table_0 rfl (fun _ _ _ _ _ => (Eg.name 9 (by decide) sc__law_table.nd rfl (.inl rfl) (.inr rfl))) (fun _ _ _ _ _ => Ec.none) (fun _ _ _ _ _ => (Es.bin .mod rfl (Es.b (Es.biT .toInt rfl cb_toInt rfl A.z_int rfl (Eas.one (Es.b (Es.bin .add rfl (Es.b (Es.bin .mul rfl (Es.b (Es.bin .mul rfl (Eb.var 9 rfl (.inl rfl) rfl rfl) (Eb.var 9 rfl (.inl rfl) rfl rfl))) (Eb.var 9 rfl (.inl rfl) rfl rfl))) (Es.b (Es.bin .mul rfl (Eb.var 5 rfl (.inr (.inl rfl)) rfl rfl) (Eb.var 9 rfl (.inl rfl) rfl rfl))))) rfl) (by decide) rfl rfl rfl)) (Eb.var 0 rfl (.inr (.inl rfl)) rfl rfl))) (fun _ => rfl) (by decide) (.inl rfl)) (by decide))
      (Sb.one (Ss.for_ hpo rfl (Ei.rng1 rfl A.z_range (Ea.cons (Es.var 0 (by decide) rfl (.inr (.inl rfl)) rfl rfl) Ea.nil rfl) rfl) (Eg.name 7 (by decide) sc__law_table.nd rfl (.inr rfl) (.inl rfl)) (Sb.one (Ss.ite (Et.cmp .ne rfl hu65 (Es.b (Es.bin .mod rfl (Es.b (Es.biT .toInt rfl cb_toInt rfl A.z_int rfl (Eas.one (Es.b (Es.bin .add rfl (Es.b (Es.bin .mul rfl (Es.b (Es.bin .mul rfl (Es.b (Es.bin .mul rfl (Es.b Es.int) (Eb.var 5 rfl (.inr (.inl rfl)) rfl rfl))) (Eb.var 5 rfl (.inr (.inl rfl)) rfl rfl))) (Eb.var 5 rfl (.inr (.inl rfl)) rfl rfl))) (Es.b (Es.bin .mul rfl (Es.b (Es.bin .mul rfl (Es.b Es.int) (Eb.var 7 rfl (.inr (.inl rfl)) rfl rfl))) (Eb.var 7 rfl (.inr (.inl rfl)) rfl rfl))))) rfl) (by decide) rfl rfl rfl)) (Eb.var 0 rfl (.inr (.inl rfl)) rfl rfl))) (Es.b Es.int) rfl) (Sb.cons (Ss.set (Es.bin .sub rfl (Eb.var 0 rfl (.inr (.inl rfl)) rfl rfl) (Es.b (Es.biB .sum rfl (cb_sum rfl) rfl A.z_sum rfl (Eas.one (Ef.b (Ef.comp rfl sc__law_table.nd (Ei.seq rfl (Es.var 6 (by decide) rfl (.inl rfl) rfl rfl)) bk__law_table_1 rfl (fun _ _ _ _ _ => (Eg.name 10 (by decide) sc__law_table.nd rfl (.inl rfl) (.inr rfl))) (fun _ _ _ _ _ => Ec.none) (fun _ _ _ _ _ => (Es.idx rfl (Eb.var 1 rfl (.inr (.inl rfl)) rfl rfl) (Es.b (Es.bin .add rfl (Eb.var 10 rfl (.inl rfl) rfl rfl) (Eb.var 7 rfl (.inr (.inl rfl)) rfl rfl))) (by intro _ _; rfl))) (fun _ => rfl) (by decide))) rfl) (by decide) rfl rfl rfl))) (Eg.name 8 (by decide) sc__law_table.nd rfl (.inl rfl) (.inr rfl)) rfl rfl rfl)
          (Sb.cons (Ss.setKey 2 (by decide) rfl (.inl rfl) rfl rfl hu1 (Es.bin .add rfl (Es.b (Es.dget2 rfl hu1 (Eb.var 2 rfl (.inl rfl) rfl rfl) (Eb.var 8 rfl (.inl rfl) rfl rfl) Es.int ⟨rfl, rfl, rfl, rfl⟩)) (Es.b Es.int)) (Eb.var 8 rfl (.inl rfl) rfl rfl) (fun _ => rfl) rfl rfl rfl)
          (Sb.one (Ss.ite (Et.hasN rfl hu1 (Eb.var 8 rfl (.inl rfl) rfl rfl) (Eb.var 3 rfl (.inl rfl) rfl rfl) rfl) (Sb.one (Ss.setKey 3 (by decide) rfl (.inl rfl) rfl rfl hu1 (Es.tup (Ea.cons (Es.var 5 (by decide) rfl (.inr (.inl rfl)) rfl rfl) (Ea.cons (Es.var 7 (by decide) rfl (.inr (.inl rfl)) rfl rfl) Ea.nil rfl) rfl) (Nat.le_of_ble_eq_true rfl)) (Eb.var 8 rfl (.inl rfl) rfl rfl) (fun _ => rfl) rfl rfl rfl)) Sb.nil)))) Sb.nil)) (fun _ => rfl)))) (fun _ => rfl))
    (Sb.one (Ss.pre (Ow2 := [1]) (Ss.ret (Es.tup (Ea.cons (Es.var 2 (by decide) rfl (.inl rfl) rfl rfl) (Ea.cons (Es.var 3 (by decide) rfl (.inl rfl) rfl rfl) Ea.nil rfl) rfl) (Nat.le_of_ble_eq_true rfl))) (by decide)))))))⟩

theorem th__law_told {P : Program} {w : World} {mg : Str → Option Value} {base : Heap} (C : Ct) (A : Fa C.K mg) (a : Addr) (ns : List Int) (D : Dc C n_1 n_2 n_3 a ns A.cl A.xc ktB A.tb) (k : Nat) : ThG P w C.K mg base (k + 1) C A.f__law_told A.d__law_told "_law_call" (lamR C.Φ ko__law_told sel__law_told h__law_told) := by
  refine thOk A.F__law_told sc__law_told (by decide) _ b__law_told C.Φ (fun o g d g' e => run_refused (by intro xc_ xv_; repeat' first | exact Cl.c | exact Cl.xf | exact Cl.xi | exact Cls.nil | apply Cl.tup | apply Cls.cons | apply Cl.bi | apply Cl.and | apply Cl.not | apply Cl.truth | apply Cl.ite | apply Cl.if) o g d g' e) (fun cdv A0 outer s H F0 fl o_ hG hr act => ?_)
  have D' : Dc { C with H0 := H, F0 := F0, Φ := C.Φ, fu := fuel, slf := some (0, fl), xf := none } n_1 n_2 n_3 a ns A.cl A.xc ktB A.tb := ⟨D.n1, D.n2, D.n3, D.sc, D.cl, D.xc, D.kt, D.tb⟩
  haveI : KtOff { C with H0 := H, F0 := F0, Φ := C.Φ, fu := fuel, slf := some (0, fl), xf := none } := ⟨D.kt⟩
  have hpo := passes_of (X := cxOf (L2.CX P w) P w C.K mg base ["_law_call", "_law_told_here", "e"] "_law_told" (defScope s__law_told) A.f__law_told cdv A0 outer s H (fun _ _ _ => False)) rfl
  have tk := takes_of (X := cxOf (L2.CX P w) P w C.K mg base ["_law_call", "_law_told_here", "e"] "_law_told" (defScope s__law_told) A.f__law_told cdv A0 outer s H (fun _ _ _ => False)) (E := fun _ _ _ => False) rfl rfl rfl rfl
  have hu := Pv.Room.u70 hr
  have hu65 := Pv.Room.u65 hr
  have hu1 := Pv.Room.u1 hr
  exact ⟨[],
    (Sb.cons (Ss.set Es.non (Eg.name 1 (by decide) sc__law_told.nd rfl (.inl rfl) (.inr rfl)) rfl rfl rfl)
    (Sb.cons (Ss.try_as (Ow1 := [0]) (h := fun xc_ xv_ => (.set [1] (.tup (.cons (xfE ([some "part", some "trace"] : List (Option Str)) xc_ xv_ "trace") (.cons (xiE [true, true] xc_) .nil))))) (fun c => [false, true].getD c false) 2 rfl rfl sc__law_told.nd rfl rfl ⟨rfl, rfl, .inl A.xg_BadTrace⟩ tk rfl rfl (by rw [D.xc]; exact A.xse_BadTrace) (fun W' pn xe tk hpo => (Sb.one (Ss.exX (Ecx.th rfl act tk hG hr rfl (j := 0) (by decide) rfl (.inl rfl)) endB_th rfl))) (fun a_ oe cls_ d_ pn xc_ xv_ xf_ hz hdat hx => (Sb.post (Ow1 := [2]) (Ow' := []) (Sb.one (Ss.set (Es.tup (Ea.cons (Es.xfR (i := 2) ([some "part", some "trace"] : List (Option Str)) (by rw [D.xc]; rfl) hz hdat hx (by rw [D.xc]; exact A.xrf_trace) (by decide) rfl (.inl rfl) rfl rfl rfl) (Ea.cons (Es.xiR (i := 2) (Tc := A.X_CurveError) [true, true] hz hdat hx (by rw [D.xc]; exact A.xki_CurveError) (by decide) rfl (.inl rfl) rfl rfl rfl A.z_isinstance rfl rfl A.xg_CurveError rfl rfl rfl rfl) Ea.nil rfl) rfl) (Nat.le_of_ble_eq_true rfl)) (Eg.name 1 (by decide) sc__law_told.nd rfl (.inl rfl) (.inr rfl)) rfl rfl rfl)) (by decide))))
    (Sb.one (Ss.ret (Es.var 1 (by decide) rfl (.inl rfl) rfl rfl)))))⟩

theorem ok_is_prime {P : Program} {w : World} {mg : Str → Option Value} {base : Heap} (C : Ct) (A : Fa C.K mg) (a : Addr) (ns : List Int) (D : Dc C n_1 n_2 n_3 a ns A.cl A.xc ktB A.tb) (TB : Tb A base) (e k : Nat) (hk : 3 * e ≤ k) : FnG P w C.K mg base (L2.CX P w) (k + 1) A.f_is_prime A.d_is_prime p_is_prime (spS C (FT (T ns) (fun _ => none) e 1) 1) := by
  cases e with
  | zero => exact FnG.no fun _ _ _ _ h => spS0 h
  | succ e =>
  obtain ⟨k, rfl⟩ : ∃ k', k = k' + 3 := ⟨k - 3, by omega⟩
  refine defOk A.F_is_prime sc_is_prime rfl 1 (m_is_prime 0) (T ns) (fun _ => none) e rfl rfl (by decide) (fun cdv A0 outer s H F0 E hG hr => ?_)
  have D' : Dc (C.at H F0 (FT (T ns) (fun _ => none) e)) n_1 n_2 n_3 a ns A.cl A.xc ktB A.tb := ⟨D.n1, D.n2, D.n3, D.sc, D.cl, D.xc, D.kt, D.tb⟩
  haveI : KtOff (C.at H F0 (FT (T ns) (fun _ => none) e)) := ⟨D.kt⟩
  have hpo := passes_of (X := cxOf (L2.CX P w) P w C.K mg base ["thing", "divisor"] "is_prime" (defScope s_is_prime) A.f_is_prime cdv A0 outer s H E) rfl
  have hu := Pv.Room.u70 hr
  have hu65 := Pv.Room.u65 hr
  have hu1 := Pv.Room.u1 hr
  have hdk := dkn_of D'
  have hn3 := hn3_of D'
  have hn2 := hn2_of D'
  have hok : ClsOk C.K C.sc.2.1 := by rw [D.cl]; exact A.clsOk
  have hin : ∀ Cn ∈ C.sc.2.1, InsOk C.K Cn.1 := by rw [D.cl]; exact A.insOk
  have hcl_Curve : C.sc.2.1[0]? = some (A.C_Curve, at_Curve) := by rw [D.cl]; rfl
  have c_is_integer := @ok_is_integer P w mg base (C.at H F0 (FT (T ns) (fun _ => none) e)) A a ns D' TB e (k + 2) (by omega)
  exact ⟨[],
    (Sb.cons (Ss.ite (Ew.t (Ew.or (Et.not (Et.truth rfl (Es.b (Es.call 0 (c_is_integer) hG hr rfl A.g_is_integer A.F_is_integer.kp A.b_is_integer passF (Ea.cons (Es.var 0 (by decide) rfl (.inl rfl) rfl rfl) Ea.nil rfl) rfl rfl rfl rfl)) (fun _ => rfl))) (Ew.or (Et.cmp .lt rfl hu65 (Eb.var 0 rfl (.inl rfl) rfl rfl) (Es.b (Es.glob (v := .int 7) rfl A.g_LEAST_PRIME ⟨_, rfl⟩ (fun _ => rel_int) rfl)) rfl) (Ew.one (Et.cmp .gt rfl hu65 (Eb.var 0 rfl (.inl rfl) rfl rfl) (Es.b (Es.glob (v := .int 199) rfl A.g_GREATEST_PRIME ⟨_, rfl⟩ (fun _ => rel_int) rfl)) rfl))))) (Sb.one (Ss.ret Es.bl)) Sb.nil)
    (Sb.cons (Ss.for_ hpo rfl (Ei.seq rfl (Es.tup (Ea.cons Es.int (Ea.cons Es.int (Ea.cons Es.int (Ea.cons Es.int (Ea.cons Es.int (Ea.cons Es.int Ea.nil rfl) rfl) rfl) rfl) rfl) rfl) (Nat.le_of_ble_eq_true rfl))) (Eg.name 1 (by decide) sc_is_prime.nd rfl (.inl rfl) (.inr rfl)) (Sb.one (Ss.ite (Ew.t (Ew.and (Et.cmp .eq rfl hu65 (Es.b (Es.bin .mod rfl (Eb.var 0 rfl (.inl rfl) rfl rfl) (Eb.var 1 rfl (.inl rfl) rfl rfl))) (Es.b Es.int) rfl) (Ew.one (Et.cmp .ne rfl hu65 (Eb.var 0 rfl (.inl rfl) rfl rfl) (Eb.var 1 rfl (.inl rfl) rfl rfl) rfl)))) (Sb.one (Ss.ret Es.bl)) Sb.nil)) (fun _ => rfl))
    (Sb.one (Ss.ret Es.bl))))⟩

theorem ok_is_number {P : Program} {w : World} {mg : Str → Option Value} {base : Heap} (C : Ct) (A : Fa C.K mg) (a : Addr) (ns : List Int) (D : Dc C n_1 n_2 n_3 a ns A.cl A.xc ktB A.tb) (TB : Tb A base) (e k : Nat) (hk : 3 * e ≤ k) : FnG P w C.K mg base (L2.CX P w) (k + 1) A.f_is_number A.d_is_number p_is_number (spS C (FT (T ns) (fun _ => none) e 2) 2) := by
  cases e with
  | zero => exact FnG.no fun _ _ _ _ h => spS0 h
  | succ e =>
  obtain ⟨k, rfl⟩ : ∃ k', k = k' + 3 := ⟨k - 3, by omega⟩
  refine defOk A.F_is_number sc_is_number rfl 2 (m_is_number 0) (T ns) (fun _ => none) e rfl rfl (by decide) (fun cdv A0 outer s H F0 E hG hr => ?_)
  have D' : Dc (C.at H F0 (FT (T ns) (fun _ => none) e)) n_1 n_2 n_3 a ns A.cl A.xc ktB A.tb := ⟨D.n1, D.n2, D.n3, D.sc, D.cl, D.xc, D.kt, D.tb⟩
  haveI : KtOff (C.at H F0 (FT (T ns) (fun _ => none) e)) := ⟨D.kt⟩
  have hu := Pv.Room.u70 hr
  have hu65 := Pv.Room.u65 hr
  have hu1 := Pv.Room.u1 hr
  have hdk := dkn_of D'
  have hn3 := hn3_of D'
  have hn2 := hn2_of D'
  have hok : ClsOk C.K C.sc.2.1 := by rw [D.cl]; exact A.clsOk
  have hin : ∀ Cn ∈ C.sc.2.1, InsOk C.K Cn.1 := by rw [D.cl]; exact A.insOk
  have hcl_Curve : C.sc.2.1[0]? = some (A.C_Curve, at_Curve) := by rw [D.cl]; rfl
  have c_is_integer := @ok_is_integer P w mg base (C.at H F0 (FT (T ns) (fun _ => none) e)) A a ns D' TB e (k + 2) (by omega)
  exact ⟨[],
    (Sb.one (Ss.ret (Es.and (Es.b (Es.call 0 (c_is_integer) hG hr rfl A.g_is_integer A.F_is_integer.kp A.b_is_integer passF (Ea.cons (Es.var 1 (by decide) rfl (.inl rfl) rfl rfl) Ea.nil rfl) rfl rfl rfl rfl)) (Es.one (Es.chain .le .lt rfl hu65 (Es.b Es.int) (Eb.var 1 rfl (.inl rfl) rfl rfl) (Eb.var 0 rfl (.inl rfl) rfl rfl) rfl)))))⟩

theorem ok_inverse {P : Program} {w : World} {mg : Str → Option Value} {base : Heap} (C : Ct) (A : Fa C.K mg) (a : Addr) (ns : List Int) (D : Dc C n_1 n_2 n_3 a ns A.cl A.xc ktB A.tb) (TB : Tb A base) (e k : Nat) (hk : 3 * e ≤ k) : FnG P w C.K mg base (L2.CX P w) (k + 1) A.f_inverse A.d_inverse p_inverse (spS C (FT (T ns) (fun _ => none) e 4) 2) := by
  cases e with
  | zero => exact FnG.no fun _ _ _ _ h => spS0 h
  | succ e =>
  obtain ⟨k, rfl⟩ : ∃ k', k = k' + 3 := ⟨k - 3, by omega⟩
  refine defOk A.F_inverse sc_inverse rfl 4 (m_inverse 3) (T ns) (fun _ => none) e rfl rfl (by decide) (fun cdv A0 outer s H F0 E hG hr => ?_)
  have D' : Dc (C.at H F0 (FT (T ns) (fun _ => none) e)) n_1 n_2 n_3 a ns A.cl A.xc ktB A.tb := ⟨D.n1, D.n2, D.n3, D.sc, D.cl, D.xc, D.kt, D.tb⟩
  haveI : KtOff (C.at H F0 (FT (T ns) (fun _ => none) e)) := ⟨D.kt⟩
  have hu := Pv.Room.u70 hr
  have hu65 := Pv.Room.u65 hr
  have hu1 := Pv.Room.u1 hr
  have hdk := dkn_of D'
  have hn3 := hn3_of D'
  have hn2 := hn2_of D'
  have hok : ClsOk C.K C.sc.2.1 := by rw [D.cl]; exact A.clsOk
  have hin : ∀ Cn ∈ C.sc.2.1, InsOk C.K Cn.1 := by rw [D.cl]; exact A.insOk
  have hcl_Curve : C.sc.2.1[0]? = some (A.C_Curve, at_Curve) := by rw [D.cl]; rfl
  have c_number_power := @ok_number_power P w mg base (C.at H F0 (FT (T ns) (fun _ => none) e)) A a ns D' TB e (k + 2) (by omega)
  exact ⟨[],
    (Sb.one (Ss.ret (Es.call 3 (c_number_power) hG hr rfl A.g_number_power A.F_number_power.kp A.b_number_power passF (Ea.cons (Es.var 0 (by decide) rfl (.inl rfl) rfl rfl) (Ea.cons (Es.var 1 (by decide) rfl (.inl rfl) rfl rfl) (Ea.cons (Es.bin .sub rfl (Eb.var 0 rfl (.inl rfl) rfl rfl) (Es.b Es.int)) Ea.nil rfl) rfl) rfl) rfl rfl rfl rfl)))⟩

theorem ok_is_square {P : Program} {w : World} {mg : Str → Option Value} {base : Heap} (C : Ct) (A : Fa C.K mg) (a : Addr) (ns : List Int) (D : Dc C n_1 n_2 n_3 a ns A.cl A.xc ktB A.tb) (TB : Tb A base) (e k : Nat) (hk : 3 * e ≤ k) : FnG P w C.K mg base (L2.CX P w) (k + 1) A.f_is_square A.d_is_square p_is_square (spS C (FT (T ns) (fun _ => none) e 5) 2) := by
  cases e with
  | zero => exact FnG.no fun _ _ _ _ h => spS0 h
  | succ e =>
  obtain ⟨k, rfl⟩ : ∃ k', k = k' + 3 := ⟨k - 3, by omega⟩
  refine defOk A.F_is_square sc_is_square rfl 5 (m_is_square 3) (T ns) (fun _ => none) e rfl rfl (by decide) (fun cdv A0 outer s H F0 E hG hr => ?_)
  have D' : Dc (C.at H F0 (FT (T ns) (fun _ => none) e)) n_1 n_2 n_3 a ns A.cl A.xc ktB A.tb := ⟨D.n1, D.n2, D.n3, D.sc, D.cl, D.xc, D.kt, D.tb⟩
  haveI : KtOff (C.at H F0 (FT (T ns) (fun _ => none) e)) := ⟨D.kt⟩
  have hu := Pv.Room.u70 hr
  have hu65 := Pv.Room.u65 hr
  have hu1 := Pv.Room.u1 hr
  have hdk := dkn_of D'
  have hn3 := hn3_of D'
  have hn2 := hn2_of D'
  have hok : ClsOk C.K C.sc.2.1 := by rw [D.cl]; exact A.clsOk
  have hin : ∀ Cn ∈ C.sc.2.1, InsOk C.K Cn.1 := by rw [D.cl]; exact A.insOk
  have hcl_Curve : C.sc.2.1[0]? = some (A.C_Curve, at_Curve) := by rw [D.cl]; rfl
  have c_number_power := @ok_number_power P w mg base (C.at H F0 (FT (T ns) (fun _ => none) e)) A a ns D' TB e (k + 2) (by omega)
  exact ⟨[],
    (Sb.one (Ss.ret (Es.or (Es.b (Es.cmp .eq rfl hu65 (Eb.var 1 rfl (.inl rfl) rfl rfl) (Es.b Es.int) rfl)) (Es.one (Es.cmp .eq rfl hu65 (Es.b (Es.call 3 (c_number_power) hG hr rfl A.g_number_power A.F_number_power.kp A.b_number_power passF (Ea.cons (Es.var 0 (by decide) rfl (.inl rfl) rfl rfl) (Ea.cons (Es.var 1 (by decide) rfl (.inl rfl) rfl rfl) (Ea.cons (Es.bin .fdiv rfl (Es.b (Es.bin .sub rfl (Eb.var 0 rfl (.inl rfl) rfl rfl) (Es.b Es.int))) (Es.b Es.int)) Ea.nil rfl) rfl) rfl) rfl rfl rfl rfl)) (Es.b Es.int) rfl)))))⟩

theorem ok_is_trace {P : Program} {w : World} {mg : Str → Option Value} {base : Heap} (C : Ct) (A : Fa C.K mg) (a : Addr) (ns : List Int) (D : Dc C n_1 n_2 n_3 a ns A.cl A.xc ktB A.tb) (TB : Tb A base) (e k : Nat) (hk : 3 * e ≤ k) : FnG P w C.K mg base (L2.CX P w) (k + 1) A.f_is_trace A.d_is_trace p_is_trace (spS C (FT (T ns) (fun _ => none) e 15) 2) := by
  cases e with
  | zero => exact FnG.no fun _ _ _ _ h => spS0 h
  | succ e =>
  obtain ⟨k, rfl⟩ : ∃ k', k = k' + 3 := ⟨k - 3, by omega⟩
  refine defOk A.F_is_trace sc_is_trace rfl 15 (m_is_trace 0) (T ns) (fun _ => none) e rfl rfl (by decide) (fun cdv A0 outer s H F0 E hG hr => ?_)
  have D' : Dc (C.at H F0 (FT (T ns) (fun _ => none) e)) n_1 n_2 n_3 a ns A.cl A.xc ktB A.tb := ⟨D.n1, D.n2, D.n3, D.sc, D.cl, D.xc, D.kt, D.tb⟩
  haveI : KtOff (C.at H F0 (FT (T ns) (fun _ => none) e)) := ⟨D.kt⟩
  have hu := Pv.Room.u70 hr
  have hu65 := Pv.Room.u65 hr
  have hu1 := Pv.Room.u1 hr
  have hdk := dkn_of D'
  have hn3 := hn3_of D'
  have hn2 := hn2_of D'
  have hok : ClsOk C.K C.sc.2.1 := by rw [D.cl]; exact A.clsOk
  have hin : ∀ Cn ∈ C.sc.2.1, InsOk C.K Cn.1 := by rw [D.cl]; exact A.insOk
  have hcl_Curve : C.sc.2.1[0]? = some (A.C_Curve, at_Curve) := by rw [D.cl]; rfl
  have c_is_integer := @ok_is_integer P w mg base (C.at H F0 (FT (T ns) (fun _ => none) e)) A a ns D' TB e (k + 2) (by omega)
  exact ⟨[],
    (Sb.one (Ss.ret (Es.and (Es.b (Es.call 0 (c_is_integer) hG hr rfl A.g_is_integer A.F_is_integer.kp A.b_is_integer passF (Ea.cons (Es.var 1 (by decide) rfl (.inl rfl) rfl rfl) Ea.nil rfl) rfl rfl rfl rfl)) (Es.one (Es.cmp .lt rfl hu65 (Es.b (Es.bin .mul rfl (Eb.var 1 rfl (.inl rfl) rfl rfl) (Eb.var 1 rfl (.inl rfl) rfl rfl))) (Es.b (Es.bin .mul rfl (Es.b Es.int) (Eb.var 0 rfl (.inl rfl) rfl rfl))) rfl)))))⟩

theorem ok_edge_pairs {P : Program} {w : World} {mg : Str → Option Value} {base : Heap} (C : Ct) (A : Fa C.K mg) (a : Addr) (ns : List Int) (D : Dc C n_1 n_2 n_3 a ns A.cl A.xc ktB A.tb) (TB : Tb A base) (e k : Nat) (hk : 3 * e ≤ k) : FnG P w C.K mg base (L2.CX P w) (k + 1) A.f_edge_pairs A.d_edge_pairs p_edge_pairs (spS C (FT (T ns) (fun _ => none) e 18) 3) := by
  cases e with
  | zero => exact FnG.no fun _ _ _ _ h => spS0 h
  | succ e =>
  obtain ⟨k, rfl⟩ : ∃ k', k = k' + 3 := ⟨k - 3, by omega⟩
  refine defOk A.F_edge_pairs sc_edge_pairs rfl 18 (m_edge_pairs 14) (T ns) (fun _ => none) e rfl rfl (by decide) (fun cdv A0 outer s H F0 E hG hr => ?_)
  have D' : Dc (C.at H F0 (FT (T ns) (fun _ => none) e)) n_1 n_2 n_3 a ns A.cl A.xc ktB A.tb := ⟨D.n1, D.n2, D.n3, D.sc, D.cl, D.xc, D.kt, D.tb⟩
  haveI : KtOff (C.at H F0 (FT (T ns) (fun _ => none) e)) := ⟨D.kt⟩
  have hu := Pv.Room.u70 hr
  have hu65 := Pv.Room.u65 hr
  have hu1 := Pv.Room.u1 hr
  have hdk := dkn_of D'
  have hn3 := hn3_of D'
  have hn2 := hn2_of D'
  have hok : ClsOk C.K C.sc.2.1 := by rw [D.cl]; exact A.clsOk
  have hin : ∀ Cn ∈ C.sc.2.1, InsOk C.K Cn.1 := by rw [D.cl]; exact A.insOk
  have hcl_Curve : C.sc.2.1[0]? = some (A.C_Curve, at_Curve) := by rw [D.cl]; rfl
  have c_trace_by_table := @ok_trace_by_table P w mg base (C.at H F0 (FT (T ns) (fun _ => none) e)) A a ns D' TB e (k + 2) (by omega)
  exact ⟨[],
    (Sb.cons (Ss.set (Es.bin .add rfl (Ef.b (Ef.comp rfl sc_edge_pairs.nd (Ei.rng2 rfl A.z_range (Ea.cons Es.int (Ea.cons (Es.var 0 (by decide) rfl (.inr (.inl rfl)) rfl rfl) Ea.nil rfl) rfl) rfl rfl) bk_edge_pairs_0 rfl (fun _ _ _ _ _ => (Eg.name 6 (by decide) sc_edge_pairs.nd rfl (.inl rfl) (.inr rfl))) (fun _ _ _ _ _ => Ec.none) (fun _ _ _ _ _ => (Es.tup (Ea.cons Es.int (Ea.cons (Es.var 6 (by decide) rfl (.inl rfl) rfl rfl) Ea.nil rfl) rfl) (Nat.le_of_ble_eq_true rfl))) (fun _ => rfl) (by decide))) (Ef.b (Ef.comp rfl sc_edge_pairs.nd (Ei.rng2 rfl A.z_range (Ea.cons Es.int (Ea.cons (Es.var 0 (by decide) rfl (.inr (.inl rfl)) rfl rfl) Ea.nil rfl) rfl) rfl rfl) bk_edge_pairs_1 rfl (fun _ _ _ _ _ => (Eg.name 6 (by decide) sc_edge_pairs.nd rfl (.inl rfl) (.inr rfl))) (fun _ _ _ _ _ => Ec.none) (fun _ _ _ _ _ => (Es.tup (Ea.cons (Es.var 6 (by decide) rfl (.inl rfl) rfl rfl) (Ea.cons Es.int Ea.nil rfl) rfl) (Nat.le_of_ble_eq_true rfl))) (fun _ => rfl) (by decide)))) (Eg.name 3 (by decide) sc_edge_pairs.nd rfl (.inl rfl) (.inr rfl)) rfl rfl rfl)
    (Sb.one (Ss.ret (Ef.s (Ef.comp rfl sc_edge_pairs.nd (Ei.seq rfl (Es.var 3 (by decide) rfl (.inl rfl) rfl rfl)) bk_edge_pairs_2 rfl (fun _ _ _ _ _ => (Eg.tup rfl rfl (Egs.cons (Eg.name 4 (by decide) sc_edge_pairs.nd rfl (.inl rfl) (.inr rfl)) (Egs.cons (Eg.name 5 (by decide) sc_edge_pairs.nd rfl (.inl rfl) (.inr rfl)) Egs.nil rfl) rfl) (by decide) rfl rfl)) (fun _ _ _ _ _ => (Ec.one (Et.cmp .eq rfl hu65 (Es.b (Es.call 14 (c_trace_by_table) hG hr rfl A.g_trace_by_table A.F_trace_by_table.kp A.b_trace_by_table passF (Ea.cons (Es.var 0 (by decide) rfl (.inr (.inl rfl)) rfl rfl) (Ea.cons (Es.var 4 (by decide) rfl (.inl rfl) rfl rfl) (Ea.cons (Es.var 5 (by decide) rfl (.inl rfl) rfl rfl) (Ea.cons (Es.var 2 (by decide) rfl (.inr (.inl rfl)) rfl rfl) Ea.nil rfl) rfl) rfl) rfl) rfl rfl rfl rfl)) (Eb.var 1 rfl (.inr (.inl rfl)) rfl rfl) rfl))) (fun _ _ _ _ _ => (Es.tup (Ea.cons (Es.var 4 (by decide) rfl (.inl rfl) rfl rfl) (Ea.cons (Es.var 5 (by decide) rfl (.inl rfl) rfl rfl) Ea.nil rfl) rfl) (Nat.le_of_ble_eq_true rfl))) (fun _ => rfl) (by decide))))))⟩

theorem ok__law_pick {P : Program} {w : World} {mg : Str → Option Value} {base : Heap} (C : Ct) (A : Fa C.K mg) (a : Addr) (ns : List Int) (D : Dc C n_1 n_2 n_3 a ns A.cl A.xc ktB A.tb) (TB : Tb A base) (e k : Nat) (hk : 3 * e ≤ k) : FnG P w C.K mg base (L2.CX P w) (k + 1) A.f__law_pick A.d__law_pick p__law_pick (spS C (FT (T ns) (fun _ => none) e 23) 2) := by
  cases e with
  | zero => exact FnG.no fun _ _ _ _ h => spS0 h
  | succ e =>
  obtain ⟨k, rfl⟩ : ∃ k', k = k' + 3 := ⟨k - 3, by omega⟩
  refine defOk A.F__law_pick sc__law_pick rfl 23 (m__law_pick 22) (T ns) (fun _ => none) e rfl rfl (by decide) (fun cdv A0 outer s H F0 E hG hr => ?_)
  have D' : Dc (C.at H F0 (FT (T ns) (fun _ => none) e)) n_1 n_2 n_3 a ns A.cl A.xc ktB A.tb := ⟨D.n1, D.n2, D.n3, D.sc, D.cl, D.xc, D.kt, D.tb⟩
  haveI : KtOff (C.at H F0 (FT (T ns) (fun _ => none) e)) := ⟨D.kt⟩
  have hu := Pv.Room.u70 hr
  have hu65 := Pv.Room.u65 hr
  have hu1 := Pv.Room.u1 hr
  have hdk := dkn_of D'
  have hn3 := hn3_of D'
  have hn2 := hn2_of D'
  have hok : ClsOk C.K C.sc.2.1 := by rw [D.cl]; exact A.clsOk
  have hin : ∀ Cn ∈ C.sc.2.1, InsOk C.K Cn.1 := by rw [D.cl]; exact A.insOk
  have hcl_Curve : C.sc.2.1[0]? = some (A.C_Curve, at_Curve) := by rw [D.cl]; rfl
  have c__law_draw := @ok__law_draw P w mg base (C.at H F0 (FT (T ns) (fun _ => none) e)) A a ns D' TB e (k + 2) (by omega)
  exact ⟨[],
    (Sb.one (Ss.ret (Es.idx rfl (Eb.var 1 rfl (.inl rfl) rfl rfl) (Es.b (Es.call 22 (c__law_draw) hG hr rfl A.g__law_draw A.F__law_draw.kp A.b__law_draw passF (Ea.cons (Es.var 0 (by decide) rfl (.inl rfl) rfl rfl) (Ea.cons (Es.biB .len rfl cb_len rfl A.z_len rfl (Eas.one (Eb.var 1 rfl (.inl rfl) rfl rfl) rfl) (by decide) rfl rfl rfl) Ea.nil rfl) rfl) rfl rfl rfl rfl)) (by intro _ _; rfl))))⟩

theorem ok_spare {P : Program} {w : World} {mg : Str → Option Value} {base : Heap} (C : Ct) (A : Fa C.K mg) (a : Addr) (ns : List Int) (D : Dc C n_1 n_2 n_3 a ns A.cl A.xc ktB A.tb) (TB : Tb A base) (e k : Nat) (hk : 3 * e ≤ k) : FnG P w C.K mg base (L2.CX P w) (k + 1) A.f_spare A.d_spare p_spare (spS C (FT (T ns) (fun _ => none) e 6) 1) := by
  cases e with
  | zero => exact FnG.no fun _ _ _ _ h => spS0 h
  | succ e =>
  obtain ⟨k, rfl⟩ : ∃ k', k = k' + 3 := ⟨k - 3, by omega⟩
  refine defOk A.F_spare sc_spare rfl 6 (m_spare 5) (T ns) (fun _ => none) e rfl rfl (by decide) (fun cdv A0 outer s H F0 E hG hr => ?_)
  have D' : Dc (C.at H F0 (FT (T ns) (fun _ => none) e)) n_1 n_2 n_3 a ns A.cl A.xc ktB A.tb := ⟨D.n1, D.n2, D.n3, D.sc, D.cl, D.xc, D.kt, D.tb⟩
  haveI : KtOff (C.at H F0 (FT (T ns) (fun _ => none) e)) := ⟨D.kt⟩
  have hpo := passes_of (X := cxOf (L2.CX P w) P w C.K mg base ["prime", "number"] "spare" (defScope s_spare) A.f_spare cdv A0 outer s H E) rfl
  have hu := Pv.Room.u70 hr
  have hu65 := Pv.Room.u65 hr
  have hu1 := Pv.Room.u1 hr
  have hdk := dkn_of D'
  have hn3 := hn3_of D'
  have hn2 := hn2_of D'
  have hok : ClsOk C.K C.sc.2.1 := by rw [D.cl]; exact A.clsOk
  have hin : ∀ Cn ∈ C.sc.2.1, InsOk C.K Cn.1 := by rw [D.cl]; exact A.insOk
  have hcl_Curve : C.sc.2.1[0]? = some (A.C_Curve, at_Curve) := by rw [D.cl]; rfl
  have c_is_square := @ok_is_square P w mg base (C.at H F0 (FT (T ns) (fun _ => none) e)) A a ns D' TB e (k + 2) (by omega)
  exact ⟨[],
    (Sb.cons (Ss.set Es.int (Eg.name 1 (by decide) sc_spare.nd rfl (.inl rfl) (.inr rfl)) rfl rfl rfl)
    (Sb.cons (Ss.while_ hpo (Et.truth rfl (Es.b (Es.call 5 (c_is_square) hG hr rfl A.g_is_square A.F_is_square.kp A.b_is_square passF (Ea.cons (Es.var 0 (by decide) rfl (.inl rfl) rfl rfl) (Ea.cons (Es.var 1 (by decide) rfl (.inl rfl) rfl rfl) Ea.nil rfl) rfl) rfl rfl rfl rfl)) (fun _ => rfl)) (Sb.one (Ss.aug 1 .add (by decide) (Es.b Es.int) sc_spare.nd rfl (.inl rfl) (.inr rfl))))
    (Sb.one (Ss.ret (Es.var 1 (by decide) rfl (.inl rfl) rfl rfl)))))⟩

theorem ok_Curve___init__ {P : Program} {w : World} {mg : Str → Option Value} {base : Heap} (C : Ct) (A : Fa C.K mg) (a : Addr) (ns : List Int) (D : Dc C n_1 n_2 n_3 a ns A.cl A.xc ktB A.tb) (TB : Tb A base) (e k : Nat) (hk : 3 * e ≤ k) : FnG P w C.K mg base (L2.CX P w) (k + 1) A.f_Curve___init__ A.d_Curve___init__ p_Curve___init__ (spI C (FT (T ns) (fun _ => none) e 7) 0 4) := by
  cases e with
  | zero => exact FnG.no fun _ _ _ _ h => spI0 h
  | succ e =>
  obtain ⟨k, rfl⟩ : ∃ k', k = k' + 3 := ⟨k - 3, by omega⟩
  refine initOk A.F_Curve___init__ sc_Curve___init__ rfl 7 0 (n_Curve___init__ 2 1) (T ns) (fun _ => none) e rfl rfl (by decide) rfl (fun cdv A0 outer s H H1 F0 x1 E hG hr => ?_)
  have D' : Dc (C.atI H1 F0 (FT (T ns) (fun _ => none) e) x1) n_1 n_2 n_3 a ns A.cl A.xc ktB A.tb := ⟨D.n1, D.n2, D.n3, D.sc, D.cl, D.xc, D.kt, D.tb⟩
  haveI : KtOff (C.atI H1 F0 (FT (T ns) (fun _ => none) e) x1) := ⟨D.kt⟩
  have tk := takes_of (X := cxOf (L2.CX P w) P w C.K mg base ["self", "prime", "a", "b"] "Curve.__init__" (defScope s_Curve___init__) A.f_Curve___init__ cdv A0 outer s H E) (E := E) rfl rfl rfl rfl
  have hu := Pv.Room.u70 hr
  have hu65 := Pv.Room.u65 hr
  have hu1 := Pv.Room.u1 hr
  have hdk := dkn_of D'
  have hn3 := hn3_of D'
  have hn2 := hn2_of D'
  have hok : ClsOk C.K C.sc.2.1 := by rw [D.cl]; exact A.clsOk
  have hin : ∀ Cn ∈ C.sc.2.1, InsOk C.K Cn.1 := by rw [D.cl]; exact A.insOk
  have hcl_Curve : C.sc.2.1[0]? = some (A.C_Curve, at_Curve) := by rw [D.cl]; rfl
  have c_is_prime := @ok_is_prime P w mg base (C.atI H1 F0 (FT (T ns) (fun _ => none) e) x1) A a ns D' TB e (k + 2) (by omega)
  have c_is_number := @ok_is_number P w mg base (C.atI H1 F0 (FT (T ns) (fun _ => none) e) x1) A a ns D' TB e (k + 2) (by omega)
  exact (Sb.cons (Ss.ite (Et.not (Et.truth rfl (Es.b (Es.call 1 (c_is_prime) hG hr rfl A.g_is_prime A.F_is_prime.kp A.b_is_prime passF (Ea.cons (Es.var 1 (by decide) rfl (.inl rfl) rfl rfl) Ea.nil rfl) rfl rfl rfl rfl)) (fun _ => rfl))) (Sb.one (Ss.rais1 0 rfl tk A.xF_BadCurve (by rw [D.xc]; rfl) hr rfl rfl Es.str rfl rfl)) Sb.nil)
    (Sb.cons (Ss.ite (Et.not (Et.truth rfl (Es.b (Es.call 2 (c_is_number) hG hr rfl A.g_is_number A.F_is_number.kp A.b_is_number passF (Ea.cons (Es.var 1 (by decide) rfl (.inl rfl) rfl rfl) (Ea.cons (Es.var 2 (by decide) rfl (.inl rfl) rfl rfl) Ea.nil rfl) rfl) rfl rfl rfl rfl)) (fun _ => rfl))) (Sb.one (Ss.rais1 0 rfl tk A.xF_BadCurve (by rw [D.xc]; rfl) hr rfl rfl Es.str rfl rfl)) Sb.nil)
    (Sb.cons (Ss.ite (Et.not (Et.truth rfl (Es.b (Es.call 2 (c_is_number) hG hr rfl A.g_is_number A.F_is_number.kp A.b_is_number passF (Ea.cons (Es.var 1 (by decide) rfl (.inl rfl) rfl rfl) (Ea.cons (Es.var 3 (by decide) rfl (.inl rfl) rfl rfl) Ea.nil rfl) rfl) rfl rfl rfl rfl)) (fun _ => rfl))) (Sb.one (Ss.rais1 0 rfl tk A.xF_BadCurve (by rw [D.xc]; rfl) hr rfl rfl Es.str rfl rfl)) Sb.nil)
    (Sb.cons (Ss.ite (Et.cmp .eq rfl hu65 (Es.b (Es.bin .mod rfl (Es.b (Es.bin .add rfl (Es.b (Es.bin .mul rfl (Es.b (Es.bin .mul rfl (Es.b (Es.bin .mul rfl (Es.b Es.int) (Eb.var 2 rfl (.inl rfl) rfl rfl))) (Eb.var 2 rfl (.inl rfl) rfl rfl))) (Eb.var 2 rfl (.inl rfl) rfl rfl))) (Es.b (Es.bin .mul rfl (Es.b (Es.bin .mul rfl (Es.b Es.int) (Eb.var 3 rfl (.inl rfl) rfl rfl))) (Eb.var 3 rfl (.inl rfl) rfl rfl))))) (Eb.var 1 rfl (.inl rfl) rfl rfl))) (Es.b Es.int) rfl) (Sb.one (Ss.rais1 0 rfl tk A.xF_BadCurve (by rw [D.xc]; rfl) hr rfl rfl Es.str rfl rfl)) Sb.nil)
    (Sb.cons (Ss.setF 0 0 (by decide) rfl (.inl rfl) rfl rfl hcl_Curve (by decide) hok (Es.var 1 (by decide) rfl (.inl rfl) rfl rfl) rfl)
    (Sb.cons (Ss.setF 0 0 (by decide) rfl (.inl rfl) rfl rfl hcl_Curve (by decide) hok (Es.var 2 (by decide) rfl (.inl rfl) rfl rfl) rfl)
    (Sb.one (Ss.setF 0 0 (by decide) rfl (.inl rfl) rfl rfl hcl_Curve (by decide) hok (Es.var 3 (by decide) rfl (.inl rfl) rfl rfl) rfl))))))))

theorem ok_Curve_twist {P : Program} {w : World} {mg : Str → Option Value} {base : Heap} (C : Ct) (A : Fa C.K mg) (a : Addr) (ns : List Int) (D : Dc C n_1 n_2 n_3 a ns A.cl A.xc ktB A.tb) (TB : Tb A base) (e k : Nat) (hk : 3 * e ≤ k) : FnG P w C.K mg base (L2.CX P w) (k + 1) A.f_Curve_twist A.d_Curve_twist p_Curve_twist (spS C (FT (T ns) (fun _ => none) e 9) 1) := by
  cases e with
  | zero => exact FnG.no fun _ _ _ _ h => spS0 h
  | succ e =>
  obtain ⟨k, rfl⟩ : ∃ k', k = k' + 3 := ⟨k - 3, by omega⟩
  refine defOk A.F_Curve_twist sc_Curve_twist rfl 9 (m_Curve_twist 7 6) (T ns) (fun _ => none) e rfl rfl (by decide) (fun cdv A0 outer s H F0 E hG hr => ?_)
  have D' : Dc (C.at H F0 (FT (T ns) (fun _ => none) e)) n_1 n_2 n_3 a ns A.cl A.xc ktB A.tb := ⟨D.n1, D.n2, D.n3, D.sc, D.cl, D.xc, D.kt, D.tb⟩
  haveI : KtOff (C.at H F0 (FT (T ns) (fun _ => none) e)) := ⟨D.kt⟩
  have tk := takes_of (X := cxOf (L2.CX P w) P w C.K mg base ["self", "factor", "square"] "Curve.twist" (defScope s_Curve_twist) A.f_Curve_twist cdv A0 outer s H E) (E := E) rfl rfl rfl rfl
  have hu := Pv.Room.u70 hr
  have hu65 := Pv.Room.u65 hr
  have hu1 := Pv.Room.u1 hr
  have hdk := dkn_of D'
  have hn3 := hn3_of D'
  have hn2 := hn2_of D'
  have hok : ClsOk C.K C.sc.2.1 := by rw [D.cl]; exact A.clsOk
  have hin : ∀ Cn ∈ C.sc.2.1, InsOk C.K Cn.1 := by rw [D.cl]; exact A.insOk
  have hcl_Curve : C.sc.2.1[0]? = some (A.C_Curve, at_Curve) := by rw [D.cl]; rfl
  have c_spare := @ok_spare P w mg base (C.at H F0 (FT (T ns) (fun _ => none) e)) A a ns D' TB e (k + 2) (by omega)
  have c_Curve___init__ := @ok_Curve___init__ P w mg base (C.at H F0 (FT (T ns) (fun _ => none) e)) A a ns D' TB e (k + 1) (by omega)
  exact ⟨[],
    (Sb.cons (Ss.set (Es.call 6 (c_spare) hG hr rfl A.g_spare A.F_spare.kp A.b_spare passF (Ea.cons (Es.fld hok (Eb.var 0 rfl (.inl rfl) rfl rfl) rfl) Ea.nil rfl) rfl rfl rfl rfl) (Eg.name 1 (by decide) sc_Curve_twist.nd rfl (.inl rfl) (.inr rfl)) rfl rfl rfl)
    (Sb.cons (Ss.set (Es.bin .mul rfl (Eb.var 1 rfl (.inl rfl) rfl rfl) (Eb.var 1 rfl (.inl rfl) rfl rfl)) (Eg.name 2 (by decide) sc_Curve_twist.nd rfl (.inl rfl) (.inr rfl)) rfl rfl rfl)
    (Sb.one (Ss.retX (Ecx.make 0 7 tk hcl_Curve A.K_Curve c_Curve___init__ hG hr rfl A.gC_Curve A.b_Curve___init__ (Ea.cons (Es.fld hok (Eb.var 0 rfl (.inl rfl) rfl rfl) rfl) (Ea.cons (Es.bin .mod rfl (Es.b (Es.bin .mul rfl (Eb.var 2 rfl (.inl rfl) rfl rfl) (Es.b (Es.fld hok (Eb.var 0 rfl (.inl rfl) rfl rfl) rfl)))) (Es.b (Es.fld hok (Eb.var 0 rfl (.inl rfl) rfl rfl) rfl))) (Ea.cons (Es.bin .mod rfl (Es.b (Es.bin .mul rfl (Es.b (Es.bin .mul rfl (Eb.var 2 rfl (.inl rfl) rfl rfl) (Eb.var 1 rfl (.inl rfl) rfl rfl))) (Es.b (Es.fld hok (Eb.var 0 rfl (.inl rfl) rfl rfl) rfl)))) (Es.b (Es.fld hok (Eb.var 0 rfl (.inl rfl) rfl rfl) rfl))) Ea.nil rfl) rfl) rfl) rfl rfl rfl rfl) endB_mk))))⟩

theorem ok_first_like {P : Program} {w : World} {mg : Str → Option Value} {base : Heap} (C : Ct) (A : Fa C.K mg) (a : Addr) (ns : List Int) (D : Dc C n_1 n_2 n_3 a ns A.cl A.xc ktB A.tb) (TB : Tb A base) (e k : Nat) (hk : 3 * e ≤ k) : FnG P w C.K mg base (L2.CX P w) (k + 1) A.f_first_like A.d_first_like p_first_like (spS C (FT (T ns) (fun _ => none) e 11) 1) := by
  cases e with
  | zero => exact FnG.no fun _ _ _ _ h => spS0 h
  | succ e =>
  obtain ⟨k, rfl⟩ : ∃ k', k = k' + 3 := ⟨k - 3, by omega⟩
  refine defOk A.F_first_like sc_first_like rfl 11 (m_first_like 7 10) (T ns) (fun _ => none) e rfl rfl (by decide) (fun cdv A0 outer s H F0 E hG hr => ?_)
  have D' : Dc (C.at H F0 (FT (T ns) (fun _ => none) e)) n_1 n_2 n_3 a ns A.cl A.xc ktB A.tb := ⟨D.n1, D.n2, D.n3, D.sc, D.cl, D.xc, D.kt, D.tb⟩
  haveI : KtOff (C.at H F0 (FT (T ns) (fun _ => none) e)) := ⟨D.kt⟩
  have tk := takes_of (X := cxOf (L2.CX P w) P w C.K mg base ["curve", "a", "b", "u"] "first_like" (defScope s_first_like) A.f_first_like cdv A0 outer s H E) (E := E) rfl rfl rfl rfl
  have hu := Pv.Room.u70 hr
  have hu65 := Pv.Room.u65 hr
  have hu1 := Pv.Room.u1 hr
  have hdk := dkn_of D'
  have hn3 := hn3_of D'
  have hn2 := hn2_of D'
  have hok : ClsOk C.K C.sc.2.1 := by rw [D.cl]; exact A.clsOk
  have hin : ∀ Cn ∈ C.sc.2.1, InsOk C.K Cn.1 := by rw [D.cl]; exact A.insOk
  have hcl_Curve : C.sc.2.1[0]? = some (A.C_Curve, at_Curve) := by rw [D.cl]; rfl
  have c_Curve___init__ := @ok_Curve___init__ P w mg base (C.at H F0 (FT (T ns) (fun _ => none) e)) A a ns D' TB e (k + 1) (by omega)
  have c_scaled_pair := @ok_scaled_pair P w mg base (C.at H F0 (FT (T ns) (fun _ => none) e)) A a ns D' TB e (k + 2) (by omega)
  exact ⟨[],
    (Sb.cons (Ss.set (Es.biB .minL rfl (cb_minL rfl hu) rfl A.z_min rfl (Eas.one (Ef.b (Ef.comp rfl sc_first_like.nd (Ei.rng2 rfl A.z_range (Ea.cons Es.int (Ea.cons (Es.fld hok (Eb.var 0 rfl (.inr (.inl rfl)) rfl rfl) rfl) Ea.nil rfl) rfl) rfl rfl) bk_first_like_0 rfl (fun _ _ _ _ _ => (Eg.name 3 (by decide) sc_first_like.nd rfl (.inl rfl) (.inr rfl))) (fun _ _ _ _ _ => Ec.none) (fun _ _ _ _ _ => (Es.call 10 (c_scaled_pair) hG hr rfl A.g_scaled_pair A.F_scaled_pair.kp A.b_scaled_pair passF (Ea.cons (Es.var 0 (by decide) rfl (.inr (.inl rfl)) rfl rfl) (Ea.cons (Es.var 3 (by decide) rfl (.inl rfl) rfl rfl) Ea.nil rfl) rfl) rfl rfl rfl rfl)) (fun _ => rfl) (by decide))) rfl) (by decide) rfl rfl rfl) (Eg.tup rfl rfl (Egs.cons (Eg.name 1 (by decide) sc_first_like.nd rfl (.inl rfl) (.inr rfl)) (Egs.cons (Eg.name 2 (by decide) sc_first_like.nd rfl (.inl rfl) (.inr rfl)) Egs.nil rfl) rfl) (by decide) rfl rfl) rfl rfl rfl)
    (Sb.one (Ss.retX (Ecx.make 0 7 tk hcl_Curve A.K_Curve c_Curve___init__ hG hr rfl A.gC_Curve A.b_Curve___init__ (Ea.cons (Es.fld hok (Eb.var 0 rfl (.inr (.inl rfl)) rfl rfl) rfl) (Ea.cons (Es.var 1 (by decide) rfl (.inl rfl) rfl rfl) (Ea.cons (Es.var 2 (by decide) rfl (.inl rfl) rfl rfl) Ea.nil rfl) rfl) rfl) rfl rfl rfl rfl) endB_mk)))⟩

theorem ok_curve_of {P : Program} {w : World} {mg : Str → Option Value} {base : Heap} (C : Ct) (A : Fa C.K mg) (a : Addr) (ns : List Int) (D : Dc C n_1 n_2 n_3 a ns A.cl A.xc ktB A.tb) (TB : Tb A base) (e k : Nat) (hk : 3 * e ≤ k) : FnG P w C.K mg base (L2.CX P w) (k + 1) A.f_curve_of A.d_curve_of p_curve_of (spS C (FT (T ns) (fun _ => none) e 12) 2) := by
  cases e with
  | zero => exact FnG.no fun _ _ _ _ h => spS0 h
  | succ e =>
  obtain ⟨k, rfl⟩ : ∃ k', k = k' + 3 := ⟨k - 3, by omega⟩
  refine defOk A.F_curve_of sc_curve_of rfl 12 (m_curve_of 7 4) (T ns) (fun _ => none) e rfl rfl (by decide) (fun cdv A0 outer s H F0 E hG hr => ?_)
  have D' : Dc (C.at H F0 (FT (T ns) (fun _ => none) e)) n_1 n_2 n_3 a ns A.cl A.xc ktB A.tb := ⟨D.n1, D.n2, D.n3, D.sc, D.cl, D.xc, D.kt, D.tb⟩
  haveI : KtOff (C.at H F0 (FT (T ns) (fun _ => none) e)) := ⟨D.kt⟩
  have tk := takes_of (X := cxOf (L2.CX P w) P w C.K mg base ["prime", "kind", "factor"] "curve_of" (defScope s_curve_of) A.f_curve_of cdv A0 outer s H E) (E := E) rfl rfl rfl rfl
  have hu := Pv.Room.u70 hr
  have hu65 := Pv.Room.u65 hr
  have hu1 := Pv.Room.u1 hr
  have hdk := dkn_of D'
  have hn3 := hn3_of D'
  have hn2 := hn2_of D'
  have hok : ClsOk C.K C.sc.2.1 := by rw [D.cl]; exact A.clsOk
  have hin : ∀ Cn ∈ C.sc.2.1, InsOk C.K Cn.1 := by rw [D.cl]; exact A.insOk
  have hcl_Curve : C.sc.2.1[0]? = some (A.C_Curve, at_Curve) := by rw [D.cl]; rfl
  have c_inverse := @ok_inverse P w mg base (C.at H F0 (FT (T ns) (fun _ => none) e)) A a ns D' TB e (k + 2) (by omega)
  have c_Curve___init__ := @ok_Curve___init__ P w mg base (C.at H F0 (FT (T ns) (fun _ => none) e)) A a ns D' TB e (k + 1) (by omega)
  exact ⟨[],
    (Sb.cons (Ss.ite (Et.cmp .eq rfl hu65 (Eb.var 1 rfl (.inl rfl) rfl rfl) (Es.b Es.int) rfl) (Sb.one (Ss.retX (Ecx.make 0 7 tk hcl_Curve A.K_Curve c_Curve___init__ hG hr rfl A.gC_Curve A.b_Curve___init__ (Ea.cons (Es.var 0 (by decide) rfl (.inl rfl) rfl rfl) (Ea.cons Es.int (Ea.cons Es.int Ea.nil rfl) rfl) rfl) rfl rfl rfl rfl) endB_mk)) Sb.nil)
    (Sb.cons (Ss.ite (Et.cmp .eq rfl hu65 (Eb.var 1 rfl (.inl rfl) rfl rfl) (Es.b (Es.bin .mod rfl (Es.b Es.int) (Eb.var 0 rfl (.inl rfl) rfl rfl))) rfl) (Sb.one (Ss.retX (Ecx.make 0 7 tk hcl_Curve A.K_Curve c_Curve___init__ hG hr rfl A.gC_Curve A.b_Curve___init__ (Ea.cons (Es.var 0 (by decide) rfl (.inl rfl) rfl rfl) (Ea.cons Es.int (Ea.cons Es.int Ea.nil rfl) rfl) rfl) rfl rfl rfl rfl) endB_mk)) Sb.nil)
    (Sb.cons (Ss.set (Es.bin .mod rfl (Es.b (Es.bin .mul rfl (Eb.var 1 rfl (.inl rfl) rfl rfl) (Es.b (Es.call 4 (c_inverse) hG hr rfl A.g_inverse A.F_inverse.kp A.b_inverse passF (Ea.cons (Es.var 0 (by decide) rfl (.inl rfl) rfl rfl) (Ea.cons (Es.bin .mod rfl (Es.b (Es.bin .sub rfl (Es.b Es.int) (Eb.var 1 rfl (.inl rfl) rfl rfl))) (Eb.var 0 rfl (.inl rfl) rfl rfl)) Ea.nil rfl) rfl) rfl rfl rfl rfl)))) (Eb.var 0 rfl (.inl rfl) rfl rfl)) (Eg.name 2 (by decide) sc_curve_of.nd rfl (.inl rfl) (.inr rfl)) rfl rfl rfl)
    (Sb.one (Ss.retX (Ecx.make 0 7 tk hcl_Curve A.K_Curve c_Curve___init__ hG hr rfl A.gC_Curve A.b_Curve___init__ (Ea.cons (Es.var 0 (by decide) rfl (.inl rfl) rfl rfl) (Ea.cons (Es.bin .mod rfl (Es.b (Es.bin .mul rfl (Es.b Es.int) (Eb.var 2 rfl (.inl rfl) rfl rfl))) (Eb.var 0 rfl (.inl rfl) rfl rfl)) (Ea.cons (Es.bin .mod rfl (Es.b (Es.bin .mul rfl (Es.b Es.int) (Eb.var 2 rfl (.inl rfl) rfl rfl))) (Eb.var 0 rfl (.inl rfl) rfl rfl)) Ea.nil rfl) rfl) rfl) rfl rfl rfl rfl) endB_mk)))))⟩

theorem ok_curves_of_kind {P : Program} {w : World} {mg : Str → Option Value} {base : Heap} (C : Ct) (A : Fa C.K mg) (a : Addr) (ns : List Int) (D : Dc C n_1 n_2 n_3 a ns A.cl A.xc ktB A.tb) (TB : Tb A base) (e k : Nat) (hk : 3 * e ≤ k) : FnG P w C.K mg base (L2.CX P w) (k + 1) A.f_curves_of_kind A.d_curves_of_kind p_curves_of_kind (spS C (FT (T ns) (fun _ => none) e 16) 4) := by
  cases e with
  | zero => exact FnG.no fun _ _ _ _ h => spS0 h
  | succ e =>
  obtain ⟨k, rfl⟩ : ∃ k', k = k' + 3 := ⟨k - 3, by omega⟩
  refine defOk A.F_curves_of_kind sc_curves_of_kind rfl 16 (m_curves_of_kind 9 12 14) (T ns) (fun _ => none) e rfl rfl (by decide) (fun cdv A0 outer s H F0 E hG hr => ?_)
  have D' : Dc (C.at H F0 (FT (T ns) (fun _ => none) e)) n_1 n_2 n_3 a ns A.cl A.xc ktB A.tb := ⟨D.n1, D.n2, D.n3, D.sc, D.cl, D.xc, D.kt, D.tb⟩
  haveI : KtOff (C.at H F0 (FT (T ns) (fun _ => none) e)) := ⟨D.kt⟩
  have tk := takes_of (X := cxOf (L2.CX P w) P w C.K mg base ["prime", "kind", "wanted", "table", "curve", "found", "curves"] "curves_of_kind" (defScope s_curves_of_kind) A.f_curves_of_kind cdv A0 outer s H E) (E := E) rfl rfl rfl rfl
  have hu := Pv.Room.u70 hr
  have hu65 := Pv.Room.u65 hr
  have hu1 := Pv.Room.u1 hr
  have hdk := dkn_of D'
  have hn3 := hn3_of D'
  have hn2 := hn2_of D'
  have hok : ClsOk C.K C.sc.2.1 := by rw [D.cl]; exact A.clsOk
  have hin : ∀ Cn ∈ C.sc.2.1, InsOk C.K Cn.1 := by rw [D.cl]; exact A.insOk
  have hcl_Curve : C.sc.2.1[0]? = some (A.C_Curve, at_Curve) := by rw [D.cl]; rfl
  have c_Curve_twist := @ok_Curve_twist P w mg base (C.at H F0 (FT (T ns) (fun _ => none) e)) A a ns D' TB e (k + 2) (by omega)
  have c_curve_of := @ok_curve_of P w mg base (C.at H F0 (FT (T ns) (fun _ => none) e)) A a ns D' TB e (k + 2) (by omega)
  have c_trace_by_table := @ok_trace_by_table P w mg base (C.at H F0 (FT (T ns) (fun _ => none) e)) A a ns D' TB e (k + 2) (by omega)
  exact ⟨[],
    (Sb.cons (Ss.setX (Ecx.call 12 tk (c_curve_of) hG hr rfl A.g_curve_of A.F_curve_of.kp A.b_curve_of (Ea.cons (Es.var 0 (by decide) rfl (.inl rfl) rfl rfl) (Ea.cons (Es.var 1 (by decide) rfl (.inl rfl) rfl rfl) Ea.nil rfl) rfl) rfl rfl rfl rfl) endB_call (Eg.name 4 (by decide) sc_curves_of_kind.nd rfl (.inl rfl) (.inr rfl)) rfl rfl rfl)
    (Sb.cons (Ss.set (Es.call 14 (c_trace_by_table) hG hr rfl A.g_trace_by_table A.F_trace_by_table.kp A.b_trace_by_table passF (Ea.cons (Es.var 0 (by decide) rfl (.inl rfl) rfl rfl) (Ea.cons (Es.fld hok (Eb.var 4 rfl (.inl rfl) rfl rfl) rfl) (Ea.cons (Es.fld hok (Eb.var 4 rfl (.inl rfl) rfl rfl) rfl) (Ea.cons (Es.var 3 (by decide) rfl (.inl rfl) rfl rfl) Ea.nil rfl) rfl) rfl) rfl) rfl rfl rfl rfl) (Eg.name 5 (by decide) sc_curves_of_kind.nd rfl (.inl rfl) (.inr rfl)) rfl rfl rfl)
    (Sb.cons (Ss.set (Es.ite (Et.cmp .eq rfl hu65 (Eb.var 5 rfl (.inl rfl) rfl rfl) (Eb.var 2 rfl (.inl rfl) rfl rfl) rfl) (Ef.s (Ef.lst (Ea.cons (Es.var 4 (by decide) rfl (.inl rfl) rfl rfl) Ea.nil rfl) (Nat.le_of_ble_eq_true rfl))) (Ef.s (Ef.lst Ea.nil (Nat.le_of_ble_eq_true rfl)))) (Eg.name 6 (by decide) sc_curves_of_kind.nd rfl (.inl rfl) (.inr rfl)) rfl rfl rfl)
    (Sb.one (Ss.ret (Es.ite (Et.cmp .eq rfl hu65 (Eb.var 5 rfl (.inl rfl) rfl rfl) (Es.b (Es.neg rfl (Eb.var 2 rfl (.inl rfl) rfl rfl))) rfl) (Es.bin .add rfl (Eb.var 6 rfl (.inl rfl) rfl rfl) (Ef.b (Ef.lst (Ea.cons (Es.meth0 0 9 hcl_Curve (by decide) hok A.M_Curve_twist c_Curve_twist hG hr A.b_Curve_twist passF (Es.var 4 (by decide) rfl (.inl rfl) rfl rfl) rfl rfl) Ea.nil rfl) (Nat.le_of_ble_eq_true rfl)))) (Es.var 6 (by decide) rfl (.inl rfl) rfl rfl)))))))⟩

theorem ok_curves_with {P : Program} {w : World} {mg : Str → Option Value} {base : Heap} (C : Ct) (A : Fa C.K mg) (a : Addr) (ns : List Int) (D : Dc C n_1 n_2 n_3 a ns A.cl A.xc ktB A.tb) (TB : Tb A base) (e k : Nat) (hk : 3 * e ≤ k) : FnG P w C.K mg base (L2.CX P w) (k + 1) A.f_curves_with A.d_curves_with p_curves_with (spS C (FT (T ns) (fun _ => none) e 17) 3) := by
  cases e with
  | zero => exact FnG.no fun _ _ _ _ h => spS0 h
  | succ e =>
  obtain ⟨k, rfl⟩ : ∃ k', k = k' + 3 := ⟨k - 3, by omega⟩
  refine defOk A.F_curves_with sc_curves_with rfl 17 (m_curves_with 16) (T ns) (fun _ => none) e rfl rfl (by decide) (fun cdv A0 outer s H F0 E hG hr => ?_)
  have D' : Dc (C.at H F0 (FT (T ns) (fun _ => none) e)) n_1 n_2 n_3 a ns A.cl A.xc ktB A.tb := ⟨D.n1, D.n2, D.n3, D.sc, D.cl, D.xc, D.kt, D.tb⟩
  haveI : KtOff (C.at H F0 (FT (T ns) (fun _ => none) e)) := ⟨D.kt⟩
  have hpo := passes_of (X := cxOf (L2.CX P w) P w C.K mg base ["prime", "wanted", "table", "found", "kind"] "curves_with" (defScope s_curves_with) A.f_curves_with cdv A0 outer s H E) rfl
  have hu := Pv.Room.u70 hr
  have hu65 := Pv.Room.u65 hr
  have hu1 := Pv.Room.u1 hr
  have hdk := dkn_of D'
  have hn3 := hn3_of D'
  have hn2 := hn2_of D'
  have hok : ClsOk C.K C.sc.2.1 := by rw [D.cl]; exact A.clsOk
  have hin : ∀ Cn ∈ C.sc.2.1, InsOk C.K Cn.1 := by rw [D.cl]; exact A.insOk
  have hcl_Curve : C.sc.2.1[0]? = some (A.C_Curve, at_Curve) := by rw [D.cl]; rfl
  have c_curves_of_kind := @ok_curves_of_kind P w mg base (C.at H F0 (FT (T ns) (fun _ => none) e)) A a ns D' TB e (k + 2) (by omega)
  exact ⟨[],
    (Sb.cons (Ss.own 3 (Ef.lst Ea.nil (Nat.le_of_ble_eq_true rfl)) sc_curves_with.nd rfl (.inl rfl) (.inr rfl) rfl (.inl rfl))
    (Sb.cons (Ss.for_ hpo rfl (Ei.rng2 rfl A.z_range (Ea.cons Es.int (Ea.cons (Es.var 0 (by decide) rfl (.inl rfl) rfl rfl) Ea.nil rfl) rfl) rfl rfl) (Eg.name 4 (by decide) sc_curves_with.nd rfl (.inl rfl) (.inr rfl)) (Sb.one (Ss.ite (Et.cmp .ne rfl hu65 (Eb.var 4 rfl (.inl rfl) rfl rfl) (Es.b (Es.bin .mod rfl (Es.b Es.int) (Eb.var 0 rfl (.inl rfl) rfl rfl))) rfl) (Sb.one (Ss.ext 3 (by decide) rfl (.inl rfl) rfl rfl (Es.call 16 (c_curves_of_kind) hG hr rfl A.g_curves_of_kind A.F_curves_of_kind.kp A.b_curves_of_kind passF (Ea.cons (Es.var 0 (by decide) rfl (.inl rfl) rfl rfl) (Ea.cons (Es.var 4 (by decide) rfl (.inl rfl) rfl rfl) (Ea.cons (Es.var 1 (by decide) rfl (.inl rfl) rfl rfl) (Ea.cons (Es.var 2 (by decide) rfl (.inl rfl) rfl rfl) Ea.nil rfl) rfl) rfl) rfl) rfl rfl rfl rfl) rfl rfl rfl rfl rfl rfl)) Sb.nil)) (fun _ => rfl))
    (Sb.one (Ss.pre (Ow2 := []) (Ss.ret (Es.var 3 (by decide) rfl (.inl rfl) rfl rfl)) (by decide)))))⟩

theorem ok_curve_with {P : Program} {w : World} {mg : Str → Option Value} {base : Heap} (C : Ct) (A : Fa C.K mg) (a : Addr) (ns : List Int) (D : Dc C n_1 n_2 n_3 a ns A.cl A.xc ktB A.tb) (TB : Tb A base) (e k : Nat) (hk : 3 * e ≤ k) : FnG P w C.K mg base (L2.CX P w) (k + 1) A.f_curve_with A.d_curve_with p_curve_with (spS C (FT (T ns) (fun _ => none) e 19) 2) := by
  cases e with
  | zero => exact FnG.no fun _ _ _ _ h => spS0 h
  | succ e =>
  obtain ⟨k, rfl⟩ : ∃ k', k = k' + 3 := ⟨k - 3, by omega⟩
  refine defOk A.F_curve_with sc_curve_with rfl 19 (m_curve_with 7 17 18 11 15 13) (T ns) (fun _ => none) e rfl rfl (by decide) (fun cdv A0 outer s H F0 E hG hr => ?_)
  have D' : Dc (C.at H F0 (FT (T ns) (fun _ => none) e)) n_1 n_2 n_3 a ns A.cl A.xc ktB A.tb := ⟨D.n1, D.n2, D.n3, D.sc, D.cl, D.xc, D.kt, D.tb⟩
  haveI : KtOff (C.at H F0 (FT (T ns) (fun _ => none) e)) := ⟨D.kt⟩
  have tk := takes_of (X := cxOf (L2.CX P w) P w C.K mg base ["prime", "trace", "table", "firsts", "a", "b", "curve"] "curve_with" (defScope s_curve_with) A.f_curve_with cdv A0 outer s H E) (E := E) rfl rfl rfl rfl
  have hu := Pv.Room.u70 hr
  have hu65 := Pv.Room.u65 hr
  have hu1 := Pv.Room.u1 hr
  have hdk := dkn_of D'
  have hn3 := hn3_of D'
  have hn2 := hn2_of D'
  have hok : ClsOk C.K C.sc.2.1 := by rw [D.cl]; exact A.clsOk
  have hin : ∀ Cn ∈ C.sc.2.1, InsOk C.K Cn.1 := by rw [D.cl]; exact A.insOk
  have hcl_Curve : C.sc.2.1[0]? = some (A.C_Curve, at_Curve) := by rw [D.cl]; rfl
  have c_Curve___init__ := @ok_Curve___init__ P w mg base (C.at H F0 (FT (T ns) (fun _ => none) e)) A a ns D' TB e (k + 1) (by omega)
  have c_first_like := @ok_first_like P w mg base (C.at H F0 (FT (T ns) (fun _ => none) e)) A a ns D' TB e (k + 2) (by omega)
  have c_square_table := @ok_square_table P w mg base (C.at H F0 (FT (T ns) (fun _ => none) e)) A a ns D' TB e (k + 2) (by omega)
  have c_is_trace := @ok_is_trace P w mg base (C.at H F0 (FT (T ns) (fun _ => none) e)) A a ns D' TB e (k + 2) (by omega)
  have c_curves_with := @ok_curves_with P w mg base (C.at H F0 (FT (T ns) (fun _ => none) e)) A a ns D' TB e (k + 2) (by omega)
  have c_edge_pairs := @ok_edge_pairs P w mg base (C.at H F0 (FT (T ns) (fun _ => none) e)) A a ns D' TB e (k + 2) (by omega)
  exact ⟨[],
    (Sb.cons (Ss.ite (Et.not (Et.truth rfl (Es.b (Es.call 15 (c_is_trace) hG hr rfl A.g_is_trace A.F_is_trace.kp A.b_is_trace passF (Ea.cons (Es.var 0 (by decide) rfl (.inl rfl) rfl rfl) (Ea.cons (Es.var 1 (by decide) rfl (.inl rfl) rfl rfl) Ea.nil rfl) rfl) rfl rfl rfl rfl)) (fun _ => rfl))) (Sb.one (Ss.rais1 1 rfl tk A.xF_BadTrace (by rw [D.xc]; rfl) hr rfl rfl (Es.var 1 (by decide) rfl (.inl rfl) rfl rfl) rfl rfl)) Sb.nil)
    (Sb.cons (Ss.set (Es.call 13 (c_square_table) hG hr rfl A.g_square_table A.F_square_table.kp A.b_square_table passF (Ea.cons (Es.var 0 (by decide) rfl (.inl rfl) rfl rfl) Ea.nil rfl) rfl rfl rfl rfl) (Eg.name 2 (by decide) sc_curve_with.nd rfl (.inl rfl) (.inr rfl)) rfl rfl rfl)
    (Sb.cons (Ss.post (Ow1 := [3]) (Ow' := []) (Ss.ownLc 3 rfl sc_curve_with.nd rfl rfl rfl (Ei.seq rfl (Es.call 17 (c_curves_with) hG hr rfl A.g_curves_with A.F_curves_with.kp A.b_curves_with passF (Ea.cons (Es.var 0 (by decide) rfl (.inl rfl) rfl rfl) (Ea.cons (Es.var 1 (by decide) rfl (.inl rfl) rfl rfl) (Ea.cons (Es.var 2 (by decide) rfl (.inl rfl) rfl rfl) Ea.nil rfl) rfl) rfl) rfl rfl rfl rfl)) bk_curve_with_0 rfl (fun _ _ _ _ _ => (Eg.name 6 (by decide) sc_curve_with.nd rfl (.inl rfl) (.inr rfl))) (fun _ _ _ _ _ => Ec.none) (fun _ _ _ _ _ => (Es.call 11 (c_first_like) hG hr rfl A.g_first_like A.F_first_like.kp A.b_first_like passF (Ea.cons (Es.var 6 (by decide) rfl (.inl rfl) rfl rfl) Ea.nil rfl) rfl rfl rfl rfl)) (fun _ => rfl) (by decide) (.inl rfl)) (by decide))
    (Sb.cons (Ss.set (Es.biB .minL rfl (cb_minL rfl hu) rfl A.z_min rfl (Eas.one (Es.b (Es.bin .add rfl (Es.b (Es.call 18 (c_edge_pairs) hG hr rfl A.g_edge_pairs A.F_edge_pairs.kp A.b_edge_pairs passF (Ea.cons (Es.var 0 (by decide) rfl (.inl rfl) rfl rfl) (Ea.cons (Es.var 1 (by decide) rfl (.inl rfl) rfl rfl) (Ea.cons (Es.var 2 (by decide) rfl (.inl rfl) rfl rfl) Ea.nil rfl) rfl) rfl) rfl rfl rfl rfl)) (Ef.b (Ef.comp rfl sc_curve_with.nd (Ei.seq rfl (Es.var 3 (by decide) rfl (.inl rfl) rfl rfl)) bk_curve_with_1 rfl (fun _ _ _ _ _ => (Eg.name 6 (by decide) sc_curve_with.nd rfl (.inl rfl) (.inr rfl))) (fun _ _ _ _ _ => Ec.none) (fun _ _ _ _ _ => (Es.tup (Ea.cons (Es.fld hok (Eb.var 6 rfl (.inl rfl) rfl rfl) rfl) (Ea.cons (Es.fld hok (Eb.var 6 rfl (.inl rfl) rfl rfl) rfl) Ea.nil rfl) rfl) (Nat.le_of_ble_eq_true rfl))) (fun _ => rfl) (by decide))))) rfl) (by decide) rfl rfl rfl) (Eg.tup rfl rfl (Egs.cons (Eg.name 4 (by decide) sc_curve_with.nd rfl (.inl rfl) (.inr rfl)) (Egs.cons (Eg.name 5 (by decide) sc_curve_with.nd rfl (.inl rfl) (.inr rfl)) Egs.nil rfl) rfl) (by decide) rfl rfl) rfl rfl rfl)
    (Sb.one (Ss.retX (Ecx.make 0 7 tk hcl_Curve A.K_Curve c_Curve___init__ hG hr rfl A.gC_Curve A.b_Curve___init__ (Ea.cons (Es.var 0 (by decide) rfl (.inl rfl) rfl rfl) (Ea.cons (Es.var 4 (by decide) rfl (.inl rfl) rfl rfl) (Ea.cons (Es.var 5 (by decide) rfl (.inl rfl) rfl rfl) Ea.nil rfl) rfl) rfl) rfl rfl rfl rfl) endB_mk))))))⟩

theorem ok_many_pairs {P : Program} {w : World} {mg : Str → Option Value} {base : Heap} (C : Ct) (A : Fa C.K mg) (a : Addr) (ns : List Int) (D : Dc C n_1 n_2 n_3 a ns A.cl A.xc ktB A.tb) (TB : Tb A base) (e k : Nat) (hk : 3 * e ≤ k) : FnG P w C.K mg base (L2.CX P w) (k + 1) A.f_many_pairs A.d_many_pairs p_many_pairs (spS C (FT (T ns) (fun _ => none) e 20) 2) := by
  cases e with
  | zero => exact FnG.no fun _ _ _ _ h => spS0 h
  | succ e =>
  obtain ⟨k, rfl⟩ : ∃ k', k = k' + 3 := ⟨k - 3, by omega⟩
  refine defOk A.F_many_pairs sc_many_pairs rfl 20 (m_many_pairs 17 18 15 13) (T ns) (fun _ => none) e rfl rfl (by decide) (fun cdv A0 outer s H F0 E hG hr => ?_)
  have D' : Dc (C.at H F0 (FT (T ns) (fun _ => none) e)) n_1 n_2 n_3 a ns A.cl A.xc ktB A.tb := ⟨D.n1, D.n2, D.n3, D.sc, D.cl, D.xc, D.kt, D.tb⟩
  haveI : KtOff (C.at H F0 (FT (T ns) (fun _ => none) e)) := ⟨D.kt⟩
  have tk := takes_of (X := cxOf (L2.CX P w) P w C.K mg base ["prime", "trace", "table"] "many_pairs" (defScope s_many_pairs) A.f_many_pairs cdv A0 outer s H E) (E := E) rfl rfl rfl rfl
  have hu := Pv.Room.u70 hr
  have hu65 := Pv.Room.u65 hr
  have hu1 := Pv.Room.u1 hr
  have hdk := dkn_of D'
  have hn3 := hn3_of D'
  have hn2 := hn2_of D'
  have hok : ClsOk C.K C.sc.2.1 := by rw [D.cl]; exact A.clsOk
  have hin : ∀ Cn ∈ C.sc.2.1, InsOk C.K Cn.1 := by rw [D.cl]; exact A.insOk
  have hcl_Curve : C.sc.2.1[0]? = some (A.C_Curve, at_Curve) := by rw [D.cl]; rfl
  have c_square_table := @ok_square_table P w mg base (C.at H F0 (FT (T ns) (fun _ => none) e)) A a ns D' TB e (k + 2) (by omega)
  have c_is_trace := @ok_is_trace P w mg base (C.at H F0 (FT (T ns) (fun _ => none) e)) A a ns D' TB e (k + 2) (by omega)
  have c_curves_with := @ok_curves_with P w mg base (C.at H F0 (FT (T ns) (fun _ => none) e)) A a ns D' TB e (k + 2) (by omega)
  have c_edge_pairs := @ok_edge_pairs P w mg base (C.at H F0 (FT (T ns) (fun _ => none) e)) A a ns D' TB e (k + 2) (by omega)
  exact ⟨[],
    (Sb.cons (Ss.ite (Et.not (Et.truth rfl (Es.b (Es.call 15 (c_is_trace) hG hr rfl A.g_is_trace A.F_is_trace.kp A.b_is_trace passF (Ea.cons (Es.var 0 (by decide) rfl (.inl rfl) rfl rfl) (Ea.cons (Es.var 1 (by decide) rfl (.inl rfl) rfl rfl) Ea.nil rfl) rfl) rfl rfl rfl rfl)) (fun _ => rfl))) (Sb.one (Ss.rais1 1 rfl tk A.xF_BadTrace (by rw [D.xc]; rfl) hr rfl rfl (Es.var 1 (by decide) rfl (.inl rfl) rfl rfl) rfl rfl)) Sb.nil)
    (Sb.cons (Ss.set (Es.call 13 (c_square_table) hG hr rfl A.g_square_table A.F_square_table.kp A.b_square_table passF (Ea.cons (Es.var 0 (by decide) rfl (.inl rfl) rfl rfl) Ea.nil rfl) rfl rfl rfl rfl) (Eg.name 2 (by decide) sc_many_pairs.nd rfl (.inl rfl) (.inr rfl)) rfl rfl rfl)
    (Sb.one (Ss.ret (Es.bin .add rfl (Es.b (Es.biB .len rfl cb_len rfl A.z_len rfl (Eas.one (Es.b (Es.call 18 (c_edge_pairs) hG hr rfl A.g_edge_pairs A.F_edge_pairs.kp A.b_edge_pairs passF (Ea.cons (Es.var 0 (by decide) rfl (.inl rfl) rfl rfl) (Ea.cons (Es.var 1 (by decide) rfl (.inl rfl) rfl rfl) (Ea.cons (Es.var 2 (by decide) rfl (.inl rfl) rfl rfl) Ea.nil rfl) rfl) rfl) rfl rfl rfl rfl)) rfl) (by decide) rfl rfl rfl)) (Es.b (Es.bin .fdiv rfl (Es.b (Es.bin .mul rfl (Es.b (Es.biB .len rfl cb_len rfl A.z_len rfl (Eas.one (Es.b (Es.call 17 (c_curves_with) hG hr rfl A.g_curves_with A.F_curves_with.kp A.b_curves_with passF (Ea.cons (Es.var 0 (by decide) rfl (.inl rfl) rfl rfl) (Ea.cons (Es.var 1 (by decide) rfl (.inl rfl) rfl rfl) (Ea.cons (Es.var 2 (by decide) rfl (.inl rfl) rfl rfl) Ea.nil rfl) rfl) rfl) rfl rfl rfl rfl)) rfl) (by decide) rfl rfl rfl)) (Es.b (Es.bin .sub rfl (Eb.var 0 rfl (.inl rfl) rfl rfl) (Es.b Es.int))))) (Es.b Es.int))))))))⟩

theorem ok__law_is_right {P : Program} {w : World} {mg : Str → Option Value} {base : Heap} (C : Ct) (A : Fa C.K mg) (a : Addr) (ns : List Int) (D : Dc C n_1 n_2 n_3 a ns A.cl A.xc ktB A.tb) (TB : Tb A base) (e k : Nat) (hk : 3 * e ≤ k) : FnG P w C.K mg base (L2.CX P w) (k + 1) A.f__law_is_right A.d__law_is_right p__law_is_right (spS C (FT (T ns) (fun _ => none) e 26) 4) := by
  cases e with
  | zero => exact FnG.no fun _ _ _ _ h => spS0 h
  | succ e =>
  obtain ⟨k, rfl⟩ : ∃ k', k = k' + 3 := ⟨k - 3, by omega⟩
  refine defOk A.F__law_is_right sc__law_is_right rfl 26 (m__law_is_right 8 7 19 20) (T ns) (fun _ => none) e rfl rfl (by decide) (fun cdv A0 outer s H F0 E hG hr => ?_)
  have D' : Dc (C.at H F0 (FT (T ns) (fun _ => none) e)) n_1 n_2 n_3 a ns A.cl A.xc ktB A.tb := ⟨D.n1, D.n2, D.n3, D.sc, D.cl, D.xc, D.kt, D.tb⟩
  haveI : KtOff (C.at H F0 (FT (T ns) (fun _ => none) e)) := ⟨D.kt⟩
  have hu := Pv.Room.u70 hr
  have hu65 := Pv.Room.u65 hr
  have hu1 := Pv.Room.u1 hr
  have hdk := dkn_of D'
  have hn3 := hn3_of D'
  have hn2 := hn2_of D'
  have hok : ClsOk C.K C.sc.2.1 := by rw [D.cl]; exact A.clsOk
  have hin : ∀ Cn ∈ C.sc.2.1, InsOk C.K Cn.1 := by rw [D.cl]; exact A.insOk
  have hcl_Curve : C.sc.2.1[0]? = some (A.C_Curve, at_Curve) := by rw [D.cl]; rfl
  have c_Curve___init__ := @ok_Curve___init__ P w mg base (C.at H F0 (FT (T ns) (fun _ => none) e)) A a ns D' TB e (k + 1) (by omega)
  have c_Curve___eq__ := @ok_Curve___eq__ P w mg base (C.at H F0 (FT (T ns) (fun _ => none) e)) A a ns D' TB e (k + 1) (by omega)
  have c_curve_with := @ok_curve_with P w mg base (C.at H F0 (FT (T ns) (fun _ => none) e)) A a ns D' TB e (k + 2) (by omega)
  have c_many_pairs := @ok_many_pairs P w mg base (C.at H F0 (FT (T ns) (fun _ => none) e)) A a ns D' TB e (k + 2) (by omega)
  exact ⟨[],
    (Sb.cons (Ss.set (Es.make 0 7 hcl_Curve A.K_Curve c_Curve___init__ hG hr rfl A.gC_Curve A.b_Curve___init__ passF (Ea.cons (Es.var 0 (by decide) rfl (.inl rfl) rfl rfl) (Ea.cons (Es.idx rfl (Es.b (Es.dix rfl hu1 (Eb.var 3 rfl (.inl rfl) rfl rfl) (Eb.var 1 rfl (.inl rfl) rfl rfl) (by intro _ _; rfl))) (Es.b Es.int) (by intro _ _; rfl)) (Ea.cons (Es.idx rfl (Es.b (Es.dix rfl hu1 (Eb.var 3 rfl (.inl rfl) rfl rfl) (Eb.var 1 rfl (.inl rfl) rfl rfl) (by intro _ _; rfl))) (Es.b Es.int) (by intro _ _; rfl)) Ea.nil rfl) rfl) rfl) rfl rfl rfl rfl) (Eg.name 4 (by decide) sc__law_is_right.nd rfl (.inl rfl) (.inr rfl)) rfl rfl rfl)
    (Sb.cons (Ss.ite (Ew.t (Ew.or (Et.ownNe 0 8 hcl_Curve rfl c_Curve___eq__ hG hr passF A.b_Curve___eq__ A.O_Curve (Es.call 19 (c_curve_with) hG hr rfl A.g_curve_with A.F_curve_with.kp A.b_curve_with passF (Ea.cons (Es.var 0 (by decide) rfl (.inl rfl) rfl rfl) (Ea.cons (Es.var 1 (by decide) rfl (.inl rfl) rfl rfl) Ea.nil rfl) rfl) rfl rfl rfl rfl) (Es.var 4 (by decide) rfl (.inl rfl) rfl rfl) rfl) (Ew.one (Ew.t (Ew.and (Et.cmp .lt rfl hu65 (Eb.var 0 rfl (.inl rfl) rfl rfl) (Es.b Es.int) rfl) (Ew.one (Et.ownNe 0 8 hcl_Curve rfl c_Curve___eq__ hG hr passF A.b_Curve___eq__ A.O_Curve (Es.callK0 19 (c_curve_with) hG hr rfl A.g_curve_with A.F_curve_with.kp A.kb_curve_with_0 passF (Ek.cons (Es.var 1 (by decide) rfl (.inl rfl) rfl rfl) (Ek.cons (Es.var 0 (by decide) rfl (.inl rfl) rfl rfl) Ek.nil)) rfl rfl rfl rfl rfl (fun l h => match l, h with | [_, _], _ => rfl)) (Es.var 4 (by decide) rfl (.inl rfl) rfl rfl) rfl))))))) (Sb.one (Ss.ret Es.bl)) Sb.nil)
    (Sb.one (Ss.ret (Es.cmp .eq rfl hu65 (Es.b (Es.biB .repr rfl (cb_repr hG hu) rfl A.z_repr rfl (Eas.one (Ef.b (Ef.lst (Ea.cons (Es.call 20 (c_many_pairs) hG hr rfl A.g_many_pairs A.F_many_pairs.kp A.b_many_pairs passF (Ea.cons (Es.var 0 (by decide) rfl (.inl rfl) rfl rfl) (Ea.cons (Es.var 1 (by decide) rfl (.inl rfl) rfl rfl) Ea.nil rfl) rfl) rfl rfl rfl rfl) (Ea.cons (Es.callK0 20 (c_many_pairs) hG hr rfl A.g_many_pairs A.F_many_pairs.kp A.kb_many_pairs_0 passF (Ek.cons (Es.bin .sub rfl (Es.b Es.int) (Eb.var 1 rfl (.inl rfl) rfl rfl)) (Ek.cons (Es.var 0 (by decide) rfl (.inl rfl) rfl rfl) Ek.nil)) rfl rfl rfl rfl rfl (fun l h => match l, h with | [_, _], _ => rfl)) Ea.nil rfl) rfl) (Nat.le_of_ble_eq_true rfl))) rfl) (by decide) rfl rfl rfl)) (Es.b (Es.biB .repr rfl (cb_repr hG hu) rfl A.z_repr rfl (Eas.one (Ef.b (Ef.lst (Ea.cons (Es.dix rfl hu1 (Eb.var 2 rfl (.inl rfl) rfl rfl) (Eb.var 1 rfl (.inl rfl) rfl rfl) (by intro _ _; rfl)) (Ea.cons (Es.dix rfl hu1 (Eb.var 2 rfl (.inl rfl) rfl rfl) (Eb.var 1 rfl (.inl rfl) rfl rfl) (by intro _ _; rfl)) Ea.nil rfl) rfl) (Nat.le_of_ble_eq_true rfl))) rfl) (by decide) rfl rfl rfl)) rfl)))))⟩

theorem ok_law {P : Program} {w : World} {mg : Str → Option Value} {base : Heap} (C : Ct) (A : Fa C.K mg) (a : Addr) (ns : List Int) (D : Dc C n_1 n_2 n_3 a ns A.cl A.xc ktB A.tb) (TB : Tb A base) (e k : Nat) (hk : 3 * e ≤ k) : FnG P w C.K mg base (L2.CX P w) (k + 1) A.f_law A.d_law p_law (spS C (FT (T ns) (fun _ => none) e 28) 1) := by
  cases e with
  | zero => exact FnG.no fun _ _ _ _ h => spS0 h
  | succ e =>
  obtain ⟨k, rfl⟩ : ∃ k', k = k' + 3 := ⟨k - 3, by omega⟩
  refine defOkC A.F_law sc_law rfl 28 (m_law 21 22 26 23 25 24 19 20) (T ns) (fun _ => none) e rfl rfl (by decide) (fun cdv hcv A0 outer s H F0 E hG hr => ?_)
  have D' : Dc (C.at H F0 (FT (T ns) (fun _ => none) e)) n_1 n_2 n_3 a ns A.cl A.xc ktB A.tb := ⟨D.n1, D.n2, D.n3, D.sc, D.cl, D.xc, D.kt, D.tb⟩
  haveI : KtOff (C.at H F0 (FT (T ns) (fun _ => none) e)) := ⟨D.kt⟩
  have hpo := passes_of (X := cxOf (L2.CX P w) P w C.K mg base ["_law_script", "_law_deck_here", "_law_traces_here", "_law_many", "_law_first", "_law_some", "_law_t", "_law_told_here", "_law_bad", "_law_p"] "law" (defScope s_law) A.f_law cdv A0 outer s H E) rfl
  have hu := Pv.Room.u70 hr
  have hu65 := Pv.Room.u65 hr
  have hu1 := Pv.Room.u1 hr
  have hdk := dkn_of D'
  have hn3 := hn3_of D'
  have hn2 := hn2_of D'
  have hok : ClsOk C.K C.sc.2.1 := by rw [D.cl]; exact A.clsOk
  have hin : ∀ Cn ∈ C.sc.2.1, InsOk C.K Cn.1 := by rw [D.cl]; exact A.insOk
  have hcl_Curve : C.sc.2.1[0]? = some (A.C_Curve, at_Curve) := by rw [D.cl]; rfl
  have c_curve_with := @ok_curve_with P w mg base (C.at H F0 (FT (T ns) (fun _ => none) e)) A a ns D' TB e (k + 2) (by omega)
  have c_many_pairs := @ok_many_pairs P w mg base (C.at H F0 (FT (T ns) (fun _ => none) e)) A a ns D' TB e (k + 2) (by omega)
  have c__law_deck := @ok__law_deck P w mg base (C.at H F0 (FT (T ns) (fun _ => none) e)) A a ns D' TB e (k + 2) (by omega)
  have c__law_draw := @ok__law_draw P w mg base (C.at H F0 (FT (T ns) (fun _ => none) e)) A a ns D' TB e (k + 2) (by omega)
  have c__law_pick := @ok__law_pick P w mg base (C.at H F0 (FT (T ns) (fun _ => none) e)) A a ns D' TB e (k + 2) (by omega)
  have c__law_traces := @ok__law_traces P w mg base (C.at H F0 (FT (T ns) (fun _ => none) e)) A a ns D' TB e (k + 2) (by omega)
  have c__law_table := @ok__law_table P w mg base (C.at H F0 (FT (T ns) (fun _ => none) e)) A a ns D' TB e (k + 2) (by omega)
  have c__law_is_right := @ok__law_is_right P w mg base (C.at H F0 (FT (T ns) (fun _ => none) e)) A a ns D' TB e (k + 2) (by omega)
  exact ⟨[],
    (Sb.cons (Ss.set (Es.call 21 (c__law_deck) hG hr rfl A.g__law_deck A.F__law_deck.kp A.b__law_deck passF (Ea.cons (Es.var 0 (by decide) rfl (.inl rfl) rfl rfl) Ea.nil rfl) rfl rfl rfl rfl) (Eg.name 1 (by decide) sc_law.nd rfl (.inl rfl) (.inr rfl)) rfl rfl rfl)
    (Sb.cons (Ss.set (Es.call 23 (c__law_pick) hG hr rfl A.g__law_pick A.F__law_pick.kp A.b__law_pick passF (Ea.cons (Es.var 1 (by decide) rfl (.inl rfl) rfl rfl) (Ea.cons (Es.tup (Ea.cons Es.int (Ea.cons Es.int (Ea.cons Es.int (Ea.cons Es.int (Ea.cons Es.int (Ea.cons Es.int (Ea.cons Es.int (Ea.cons Es.int (Ea.cons Es.int (Ea.cons Es.int (Ea.cons Es.int (Ea.cons Es.int (Ea.cons Es.int (Ea.cons Es.int (Ea.cons Es.int (Ea.cons Es.int Ea.nil rfl) rfl) rfl) rfl) rfl) rfl) rfl) rfl) rfl) rfl) rfl) rfl) rfl) rfl) rfl) rfl) (Nat.le_of_ble_eq_true rfl)) Ea.nil rfl) rfl) rfl rfl rfl rfl) (Eg.name 9 (by decide) sc_law.nd rfl (.inr rfl) (.inl rfl)) rfl rfl rfl)
    (Sb.cons (Ss.setG (Es.tup (Ea.cons (Es.call 24 (c__law_traces) hG hr rfl A.g__law_traces A.F__law_traces.kp A.b__law_traces passF (Ea.cons (Es.var 9 (by decide) rfl (.inr (.inl rfl)) rfl rfl) Ea.nil rfl) rfl rfl rfl rfl) (Ea.cons (Es.call 25 (c__law_table) hG hr rfl A.g__law_table A.F__law_table.kp A.b__law_table passF (Ea.cons (Es.var 9 (by decide) rfl (.inr (.inl rfl)) rfl rfl) Ea.nil rfl) rfl rfl rfl rfl) Ea.nil rfl) rfl) (Nat.le_of_ble_eq_true rfl)) (EgG.tup rfl rfl (Egg.cons (Eg.name 2 (by decide) sc_law.nd rfl (.inl rfl) (.inr rfl)) (Egg.cons (Eg.tup rfl rfl (Egs.cons (Eg.name 3 (by decide) sc_law.nd rfl (.inr rfl) (.inl rfl)) (Egs.cons (Eg.name 4 (by decide) sc_law.nd rfl (.inl rfl) (.inr rfl)) Egs.nil rfl) rfl) (by decide) rfl rfl) Egg.nil rfl) rfl) rfl rfl) rfl rfl rfl)
    (Sb.cons (Ss.ite (Et.cmp .ne rfl hu65 (Ef.b (Ef.dks rfl rfl A.z_sorted (Eb.var 3 rfl (.inr (.inl rfl)) rfl rfl) rfl rfl)) (Eb.var 2 rfl (.inl rfl) rfl rfl) rfl) (Sb.one (Ss.ret Es.bl)) Sb.nil)
    (Sb.cons (Ss.set (Ef.s (Ef.lst (Ea.cons (Es.call 23 (c__law_pick) hG hr rfl A.g__law_pick A.F__law_pick.kp A.b__law_pick passF (Ea.cons (Es.var 1 (by decide) rfl (.inl rfl) rfl rfl) (Ea.cons (Ef.s (Ef.lst (Ea.cons (Es.idx rfl (Eb.var 2 rfl (.inl rfl) rfl rfl) (Es.b Es.int) (by intro _ _; rfl)) (Ea.cons (Es.idx rfl (Eb.var 2 rfl (.inl rfl) rfl rfl) (Es.b (Es.neg rfl (Es.b Es.int))) (by intro _ _; rfl)) (Ea.cons Es.int (Ea.cons (Es.call 23 (c__law_pick) hG hr rfl A.g__law_pick A.F__law_pick.kp A.b__law_pick passF (Ea.cons (Es.var 1 (by decide) rfl (.inl rfl) rfl rfl) (Ea.cons (Es.var 2 (by decide) rfl (.inl rfl) rfl rfl) Ea.nil rfl) rfl) rfl rfl rfl rfl) Ea.nil rfl) rfl) rfl) rfl) (Nat.le_of_ble_eq_true rfl))) Ea.nil rfl) rfl) rfl rfl rfl rfl) (Ea.cons (Es.call 23 (c__law_pick) hG hr rfl A.g__law_pick A.F__law_pick.kp A.b__law_pick passF (Ea.cons (Es.var 1 (by decide) rfl (.inl rfl) rfl rfl) (Ea.cons (Es.var 2 (by decide) rfl (.inl rfl) rfl rfl) Ea.nil rfl) rfl) rfl rfl rfl rfl) Ea.nil rfl) rfl) (Nat.le_of_ble_eq_true rfl))) (Eg.name 5 (by decide) sc_law.nd rfl (.inl rfl) (.inr rfl)) rfl rfl rfl)
    (Sb.cons (Ss.ite (Et.cmp .gt rfl hu65 (Eb.var 9 rfl (.inr (.inl rfl)) rfl rfl) (Es.b Es.int) rfl) (Sb.one (Ss.set (Es.slc rfl (Eb.var 5 rfl (.inl rfl) rfl rfl) Eo.none (Eo.int (Es.b Es.int))) (Eg.name 5 (by decide) sc_law.nd rfl (.inl rfl) (.inr rfl)) rfl rfl rfl)) Sb.nil)
    (Sb.cons (Ss.for_ hpo rfl (Ei.seq rfl (Es.var 5 (by decide) rfl (.inl rfl) rfl rfl)) (Eg.name 6 (by decide) sc_law.nd rfl (.inl rfl) (.inr rfl)) (Sb.one (Ss.ite (Et.not (Et.truth rfl (Es.b (Es.call 26 (c__law_is_right) hG hr rfl A.g__law_is_right A.F__law_is_right.kp A.b__law_is_right passF (Ea.cons (Es.var 9 (by decide) rfl (.inr (.inl rfl)) rfl rfl) (Ea.cons (Es.var 6 (by decide) rfl (.inl rfl) rfl rfl) (Ea.cons (Es.var 3 (by decide) rfl (.inr (.inl rfl)) rfl rfl) (Ea.cons (Es.var 4 (by decide) rfl (.inl rfl) rfl rfl) Ea.nil rfl) rfl) rfl) rfl) rfl rfl rfl rfl)) (fun _ => rfl))) (Sb.one (Ss.ret Es.bl)) Sb.nil)) (fun _ => rfl))
    (Sb.cons (Ss.ite (Et.cmp .lt rfl hu65 (Eb.var 9 rfl (.inr (.inl rfl)) rfl rfl) (Es.b Es.int) rfl) (Sb.post (Ow1 := [7]) (Ow' := []) (Sb.cons (Ss.ownLc 7 rfl sc_law.nd rfl rfl rfl (Ei.seq rfl (Es.var 2 (by decide) rfl (.inl rfl) rfl rfl)) bk_law_0 rfl (fun _ _ _ _ _ => (Eg.name 6 (by decide) sc_law.nd rfl (.inl rfl) (.inr rfl))) (fun _ _ _ _ _ => Ec.none) (fun _ _ _ _ _ => (Es.call 20 (c_many_pairs) hG hr rfl A.g_many_pairs A.F_many_pairs.kp A.b_many_pairs passF (Ea.cons (Es.var 9 (by decide) rfl (.inr (.inl rfl)) rfl rfl) (Ea.cons (Es.var 6 (by decide) rfl (.inl rfl) rfl rfl) Ea.nil rfl) rfl) rfl rfl rfl rfl)) (fun _ => rfl) (by decide) (.inl rfl))
      (Sb.one (Ss.ite (Ew.t (Ew.or (Et.cmp .ne rfl hu65 (Es.b (Es.biB .repr rfl (cb_repr hG hu) rfl A.z_repr rfl (Eas.one (Eb.var 7 rfl (.inl rfl) rfl rfl) rfl) (by decide) rfl rfl rfl)) (Es.b (Es.biB .repr rfl (cb_repr hG hu) rfl A.z_repr rfl (Eas.one (Ef.b (Ef.comp rfl sc_law.nd (Ei.seq rfl (Es.var 2 (by decide) rfl (.inl rfl) rfl rfl)) bk_law_1 rfl (fun _ _ _ _ _ => (Eg.name 6 (by decide) sc_law.nd rfl (.inl rfl) (.inr rfl))) (fun _ _ _ _ _ => Ec.none) (fun _ _ _ _ _ => (Es.dix rfl hu1 (Eb.var 3 rfl (.inr (.inl rfl)) rfl rfl) (Eb.var 6 rfl (.inl rfl) rfl rfl) (by intro _ _; rfl))) (fun _ => rfl) (by decide))) rfl) (by decide) rfl rfl rfl)) rfl) (Ew.one (Et.cmp .ne rfl hu65 (Es.b (Es.biB .sum rfl (cb_sum rfl) rfl A.z_sum rfl (Eas.one (Eb.var 7 rfl (.inl rfl) rfl rfl) rfl) (by decide) rfl rfl rfl)) (Es.b (Es.bin .sub rfl (Es.b (Es.bin .mul rfl (Eb.var 9 rfl (.inr (.inl rfl)) rfl rfl) (Eb.var 9 rfl (.inr (.inl rfl)) rfl rfl))) (Eb.var 9 rfl (.inr (.inl rfl)) rfl rfl))) rfl)))) (Sb.one (Ss.ret Es.bl)) Sb.nil))) (by decide)) Sb.nil)
    (Sb.cons (Ss.set (Es.idx rfl (Eb.var 5 rfl (.inl rfl) rfl rfl) (Es.b Es.int) (by intro _ _; rfl)) (Eg.name 6 (by decide) sc_law.nd rfl (.inl rfl) (.inr rfl)) rfl rfl rfl)
    (Sb.cons (Ss.set (Es.call 23 (c__law_pick) hG hr rfl A.g__law_pick A.F__law_pick.kp A.b__law_pick passF (Ea.cons (Es.var 1 (by decide) rfl (.inl rfl) rfl rfl) (Ea.cons (Ef.s (Ef.lst (Ea.cons (Es.bin .add rfl (Es.b (Es.idx rfl (Eb.var 2 rfl (.inl rfl) rfl rfl) (Es.b (Es.neg rfl (Es.b Es.int))) (by intro _ _; rfl))) (Es.b Es.int)) (Ea.cons (Es.bin .sub rfl (Es.b (Es.idx rfl (Eb.var 2 rfl (.inl rfl) rfl rfl) (Es.b Es.int) (by intro _ _; rfl))) (Es.b Es.int)) (Ea.cons (Es.var 9 (by decide) rfl (.inr (.inl rfl)) rfl rfl) (Ea.cons (Es.bin .sub rfl (Es.b Es.int) (Eb.var 9 rfl (.inr (.inl rfl)) rfl rfl)) (Ea.cons Es.non (Ea.cons Es.bl (Ea.cons Es.bl (Ea.cons (Es.biT .toStr rfl (cb_toStr hG hu) rfl A.z_str rfl (Eas.one (Eb.var 6 rfl (.inl rfl) rfl rfl) rfl) (by decide) rfl rfl rfl) (Ea.cons (Es.tup (Ea.cons (Es.var 6 (by decide) rfl (.inl rfl) rfl rfl) Ea.nil rfl) (Nat.le_of_ble_eq_true rfl)) (Ea.cons (Ef.s (Ef.lst (Ea.cons (Es.var 6 (by decide) rfl (.inl rfl) rfl rfl) Ea.nil rfl) (Nat.le_of_ble_eq_true rfl))) (Ea.cons (Ef.s Ef.dnew) (Ea.cons (Es.bin .pow rfl (Es.b Es.int) (Es.b Es.int)) (Ea.cons (Es.bin .add rfl (Es.b (Es.bin .add rfl (Es.b (Es.idx rfl (Eb.var 2 rfl (.inl rfl) rfl rfl) (Es.b (Es.neg rfl (Es.b Es.int))) (by intro _ _; rfl))) (Es.b Es.int))) (Es.b (Es.call 22 (c__law_draw) hG hr rfl A.g__law_draw A.F__law_draw.kp A.b__law_draw passF (Ea.cons (Es.var 1 (by decide) rfl (.inl rfl) rfl rfl) (Ea.cons Es.int Ea.nil rfl) rfl) rfl rfl rfl rfl))) (Ea.cons Es.str (Ea.cons (Es.tup (Ea.cons (Es.var 6 (by decide) rfl (.inl rfl) rfl rfl) (Ea.cons (Es.var 6 (by decide) rfl (.inl rfl) rfl rfl) Ea.nil rfl) rfl) (Nat.le_of_ble_eq_true rfl)) Ea.nil rfl) rfl) rfl) rfl) rfl) rfl) rfl) rfl) rfl) rfl) rfl) rfl) rfl) rfl) rfl) (Nat.le_of_ble_eq_true rfl))) Ea.nil rfl) rfl) rfl rfl rfl rfl) (Eg.name 8 (by decide) sc_law.nd rfl (.inr rfl) (.inl rfl)) rfl rfl rfl)
    (Sb.cons (Ss.own 7 (Ef.lst (Ea.cons (Es.lamc (k := k + 1) (th__law_told (C.at H F0 (FT (T ns) (fun _ => none) e)) A a ns D' (k + 1)) hG hr rfl A.g__law_told A.F__law_told.kp A.b__law_told TB.b_law (hcv.symm.trans A.cd_law) (by rw [D.tb]; exact A.tm_law) (by rw [D.tb]; exact A.tu_law) (q := "law.<locals>.<lambda>") rfl (LamX.lamS_by rfl) rfl (fun _ _ _ _ _ => rfl) (fun A1_ o1_ s1_ H2 F2 E2 f1_ c1_ hG hr => by
      have D2 : Dc { (C.at H F0 (FT (T ns) (fun _ => none) e)) with H0 := H2, F0 := F2, slf := none, xf := none } n_1 n_2 n_3 a ns A.cl A.xc ktB A.tb := ⟨D.n1, D.n2, D.n3, D.sc, D.cl, D.xc, D.kt, D.tb⟩
      haveI : KtOff { (C.at H F0 (FT (T ns) (fun _ => none) e)) with H0 := H2, F0 := F2, slf := none, xf := none } := ⟨D.kt⟩
      have hu := Pv.Room.u70 hr; have hu65 := Pv.Room.u65 hr; have hu1 := Pv.Room.u1 hr
      have c_curve_with := @ok_curve_with P w mg base { (C.at H F0 (FT (T ns) (fun _ => none) e)) with H0 := H2, F0 := F2, slf := none, xf := none } A a ns D2 TB e k (by omega); 
      exact (Ecx.call 19 lam_takes (c_curve_with) hG hr rfl A.g_curve_with A.F_curve_with.kp A.b_curve_with (Ea.cons (Es.var 9 (by decide) rfl (.inr (.inr rfl)) rfl rfl) (Ea.cons (Es.var 8 (by decide) rfl (.inr (.inr rfl)) rfl rfl) Ea.nil rfl) rfl) rfl rfl rfl rfl)) rfl) Ea.nil rfl) (Nat.le_of_ble_eq_true rfl)) sc_law.nd rfl (.inl rfl) (.inr rfl) rfl (.inl rfl))
    (Sb.cons (Ss.app 7 (by decide) rfl (.inl rfl) rfl rfl (Es.lamc (k := k + 1) (th__law_told (C.at H F0 (FT (T ns) (fun _ => none) e)) A a ns D' (k + 1)) hG hr rfl A.g__law_told A.F__law_told.kp A.b__law_told TB.b_law (hcv.symm.trans A.cd_law) (by rw [D.tb]; exact A.tm_law) (by rw [D.tb]; exact A.tu_law) (q := "law.<locals>.<lambda>") rfl (LamX.lamS_by rfl) rfl (fun _ _ _ _ _ => rfl) (fun A1_ o1_ s1_ H2 F2 E2 f1_ c1_ hG hr => by
      have D2 : Dc { (C.at H F0 (FT (T ns) (fun _ => none) e)) with H0 := H2, F0 := F2, slf := none, xf := none } n_1 n_2 n_3 a ns A.cl A.xc ktB A.tb := ⟨D.n1, D.n2, D.n3, D.sc, D.cl, D.xc, D.kt, D.tb⟩
      haveI : KtOff { (C.at H F0 (FT (T ns) (fun _ => none) e)) with H0 := H2, F0 := F2, slf := none, xf := none } := ⟨D.kt⟩
      have hu := Pv.Room.u70 hr; have hu65 := Pv.Room.u65 hr; have hu1 := Pv.Room.u1 hr
      have c_many_pairs := @ok_many_pairs P w mg base { (C.at H F0 (FT (T ns) (fun _ => none) e)) with H0 := H2, F0 := F2, slf := none, xf := none } A a ns D2 TB e k (by omega); 
      exact (Ecx.call 20 lam_takes (c_many_pairs) hG hr rfl A.g_many_pairs A.F_many_pairs.kp A.b_many_pairs (Ea.cons (Es.var 9 (by decide) rfl (.inr (.inr rfl)) rfl rfl) (Ea.cons (Es.var 8 (by decide) rfl (.inr (.inr rfl)) rfl rfl) Ea.nil rfl) rfl) rfl rfl rfl rfl)) rfl) rfl rfl rfl rfl rfl rfl)
    (Sb.cons (Ss.app 7 (by decide) rfl (.inl rfl) rfl rfl (Es.lamc (k := k + 1) (th__law_told (C.at H F0 (FT (T ns) (fun _ => none) e)) A a ns D' (k + 1)) hG hr rfl A.g__law_told A.F__law_told.kp A.b__law_told TB.b_law (hcv.symm.trans A.cd_law) (by rw [D.tb]; exact A.tm_law) (by rw [D.tb]; exact A.tu_law) (q := "law.<locals>.<lambda>") rfl (LamX.lamS_by rfl) rfl (fun _ _ _ _ _ => rfl) (fun A1_ o1_ s1_ H2 F2 E2 f1_ c1_ hG hr => by
      have D2 : Dc { (C.at H F0 (FT (T ns) (fun _ => none) e)) with H0 := H2, F0 := F2, slf := none, xf := none } n_1 n_2 n_3 a ns A.cl A.xc ktB A.tb := ⟨D.n1, D.n2, D.n3, D.sc, D.cl, D.xc, D.kt, D.tb⟩
      haveI : KtOff { (C.at H F0 (FT (T ns) (fun _ => none) e)) with H0 := H2, F0 := F2, slf := none, xf := none } := ⟨D.kt⟩
      have hu := Pv.Room.u70 hr; have hu65 := Pv.Room.u65 hr; have hu1 := Pv.Room.u1 hr
      have c_many_pairs := @ok_many_pairs P w mg base { (C.at H F0 (FT (T ns) (fun _ => none) e)) with H0 := H2, F0 := F2, slf := none, xf := none } A a ns D2 TB e k (by omega); 
      exact (Ecx.callK0 20 lam_takes (c_many_pairs) hG hr rfl A.g_many_pairs A.F_many_pairs.kp A.kb_many_pairs_0 (Ek.cons (Es.var 8 (by decide) rfl (.inr (.inr rfl)) rfl rfl) (Ek.cons (Es.var 9 (by decide) rfl (.inr (.inr rfl)) rfl rfl) Ek.nil)) rfl rfl rfl rfl rfl (fun l h => match l, h with | [_, _], _ => rfl))) rfl) rfl rfl rfl rfl rfl rfl)
    (Sb.one (Ss.ret (Es.cmp .eq rfl hu65 (Es.b (Es.biB .repr rfl (cb_repr hG hu) rfl A.z_repr rfl (Eas.one (Eb.var 7 rfl (.inl rfl) rfl rfl) rfl) (by decide) rfl rfl rfl)) (Es.b (Es.biB .repr rfl (cb_repr hG hu) rfl A.z_repr rfl (Eas.one (Es.b (Es.bin .mul rfl (Ef.b (Ef.lst (Ea.cons (Es.tup (Ea.cons (Es.var 8 (by decide) rfl (.inr (.inl rfl)) rfl rfl) (Ea.cons Es.bl Ea.nil rfl) rfl) (Nat.le_of_ble_eq_true rfl)) Ea.nil rfl) (Nat.le_of_ble_eq_true rfl))) (Es.b Es.int))) rfl) (by decide) rfl rfl rfl)) rfl))))))))))))))))⟩

end Xk18
end

section
set_option autoImplicit false
namespace Pv
open PySem

theorem FT_at {T : List Fn} {d f : Nat} {as : List D} {g : G} {fn : Fn} (h : T[f]? = some fn) (hl : as.length = fn.np) :
    FT T (fun _ => none) (d + 1) f as g = fin (run (FT T (fun _ => none) d) fuel fn.body (as.map some ++ List.replicate (fn.nl - fn.np) none) g) := by
  show (match (fun _ => none : Prims) f with
    | some p => p as g
    | none => match T[f]? with
      | some fn => if as.length = fn.np then fin (run (FT T (fun _ => none) d) fuel fn.body (as.map some ++ List.replicate (fn.nl - fn.np) none) g) else .no
      | none => .no) = _
  simp only [h, if_pos hl]

section
variable {Φ : Fns} {fu : Nat} {a b : Sm} {σ σ' : Sl} {g g' : G} {v : D} {t e : Ex} {i : Nat}
theorem run_seq_nx (h : Pv.run Φ fu a σ g = .ok (.nx σ') g') : Pv.run Φ fu (.seq a b) σ g = Pv.run Φ fu b σ' g' := by
  conv => lhs; unfold Pv.run
  rw [h]; rfl
theorem whileL_step {c : Sl → G → Res D} {bd : Sl → G → Res Fl} {n : Nat} {g2 : G} (h1 : c σ g = .ok (.bool true) g') (h2 : bd σ g' = .ok (.nx σ') g2) : whileL c bd (n + 1) σ g = whileL c bd n σ' g2 := by
  show (c σ g).bind _ = _
  rw [h1]
  show (bd σ g').bind _ = _
  rw [h2]; rfl
theorem whileL_end {c : Sl → G → Res D} {bd : Sl → G → Res Fl} {n : Nat} (h1 : c σ g = .ok (.bool false) g') : whileL c bd (n + 1) σ g = .ok (.nx σ) g' := by
  show (c σ g).bind _ = _
  rw [h1]; rfl
end
theorem compL_eq {α β : Type} {em : α → D} {eo : β → D} {f : D → G → Res (Option D)} {u : α → Option β} {g : G} : ∀ {xs : List α} {acc : List D}, (∀ x ∈ xs, f (em x) g = .ok ((u x).map eo) g) → compL f (xs.map em) acc g = .ok (acc.reverse ++ (xs.filterMap u).map eo) g
  | [], acc, _ => by
    show Res.ok acc.reverse g = _
    rw [List.filterMap_nil, List.map_nil, List.append_nil]
  | x :: xs, acc, h => by
    show (f (em x) g).bind _ = _
    rw [h x List.mem_cons_self]
    cases e : u x with
    | none =>
      show compL f (xs.map em) acc g = _
      rw [compL_eq fun z hz => h z (List.mem_cons_of_mem _ hz), List.filterMap_cons, e]
    | some y =>
      show compL f (xs.map em) (eo y :: acc) g = _
      rw [compL_eq fun z hz => h z (List.mem_cons_of_mem _ hz), List.filterMap_cons, e, List.reverse_cons, List.append_assoc]
      rfl

mutual
def fine : D → Bool
  | .none | .bool _ => true
  | .int i => decide (i.natAbs < 10 ^ 250)
  | .str x => PyData.strOk x
  | .list xs | .tuple xs => fineAll xs
  | .dict _ => false
def fineAll : List D → Bool
  | [] => true
  | x :: xs => fine x && fineAll xs
end
theorem short_int {i : Int} (h : i.natAbs < 10 ^ 250) : (PyData.shown (.int i)).length ≤ 251 := by
  have e := int_text_length_le10 (k := 250) (by decide) h
  show (Str.ofString (toString i)).length ≤ 251
  rw [ofString_length]; exact e
theorem log_int {i : Int} (h : i.natAbs < 10 ^ 250) : i.natAbs.log2 < 1920 := by
  by_cases z : i.natAbs = 0
  · rw [z]; decide
  · rw [Nat.log2_lt z]
    exact Nat.lt_of_lt_of_le h (by decide +kernel)
mutual
theorem fine_lay : ∀ d : D, fine d = true → d.canLay0 = true
  | .none, _ => rfl
  | .bool _, _ => rfl
  | .int _, _ => rfl
  | .str x, h => h
  | .list xs, h => fineAll_lay xs h
  | .tuple xs, h => fineAll_lay xs h
  | .dict _, h => by cases h
theorem fineAll_lay : ∀ xs : List D, fineAll xs = true → PyData.canLayAll0 xs = true
  | [], _ => rfl
  | x :: xs, h => by
    unfold fineAll at h
    simp only [Bool.and_eq_true] at h
    unfold PyData.canLayAll0
    rw [fine_lay x h.1, fineAll_lay xs h.2]; rfl
end
mutual
theorem fine_short : ∀ d : D, fine d = true → d.intsShort 251 = true ∧ d.showable = true
  | .none, _ => ⟨rfl, rfl⟩
  | .bool _, _ => ⟨rfl, rfl⟩
  | .int i, h => ⟨decide_eq_true (short_int (of_decide_eq_true h)), decide_eq_true (log_int (of_decide_eq_true h))⟩
  | .str x, h => ⟨rfl, rfl⟩
  | .list xs, h => fineAll_short xs h
  | .tuple xs, h => fineAll_short xs h
  | .dict _, h => by cases h
theorem fineAll_short : ∀ xs : List D, fineAll xs = true → PyData.intsShortAll 251 xs = true ∧ PyData.showableAll xs = true
  | [], _ => ⟨rfl, rfl⟩
  | x :: xs, h => by
    unfold fineAll at h
    simp only [Bool.and_eq_true] at h
    obtain ⟨h1, h2⟩ := fine_short x h.1
    obtain ⟨h3, h4⟩ := fineAll_short xs h.2
    unfold PyData.intsShortAll PyData.showableAll
    rw [h1, h2, h3, h4]; exact ⟨rfl, rfl⟩
end
def scal : D → Bool
  | .none | .bool _ => true
  | .int i => decide (i.natAbs < 10 ^ 250)
  | _ => false
theorem bi_repr {x : D} (h : showOk x = true) : biV .repr [x] = some (.str x.shown) := by
  show (if showOk x = true then some (PyData.str x.shown) else none) = _
  rw [if_pos h]
end Pv
end

section
set_option autoImplicit false
namespace Pv
open PySem

def drawA (k1 k2 k3 : Int) : Sm :=
  (.seq (.dkSet true (.var 0) (.bin .add (.dkGet true (.var 0)) (.c (.int 1))))
    (.seq (.set [2] (.bin .add (.dkGet false (.var 0)) (.bin .mul (.c (.int k1)) (.dkGet true (.var 0)))))
    (.seq (.ite (.dkHas (.var 0)) (.seq (.set [3] (.dkPop (.var 0)))
      (.seq (.ite (.cmp .ge (.var 3) (.bin .pow (.c (.int 10)) (.c (.int 18)))) (.seq (.ex (.dkPush (.var 0) (.bin .fdiv (.var 3) (.var 1))))
        (.ret (.bin .mod (.bi .toInt (.cons (.var 3) .nil)) (.var 1)))) .skip)
      (.set [2] (.bin .add (.var 2) (.bin .mod (.bi .toInt (.cons (.var 3) .nil)) (.c (.int 2147483629))))))) .skip)
    (.seq (.set [2] (.bin .mod (.bi .toInt (.cons (.bin .add (.bin .mul (.var 2) (.c (.int 39373))) (.c (.int k2))) .nil)) (.c (.int 2147483647))))
    (.seq (.set [2] (.bin .mod (.bi .toInt (.cons (.bin .add (.bin .add (.bin .mul (.var 2) (.var 2)) (.bin .mul (.c (.int 52711)) (.dkGet true (.var 0)))) (.c (.int k3))) .nil)) (.c (.int 2147483587))))
    (.ret (.bin .mod (.bin .fdiv (.bin .mod (.bi .toInt (.cons (.bin .mul (.var 2) (.c (.int 40692))) .nil)) (.c (.int 2147483563))) (.c (.int 64))) (.var 1))))))))
theorem mulOk_r {i j : Int} (h : j.natAbs < 18446744073709551616) : mulOk i j = true := by
  unfold mulOk
  rw [decide_eq_true h, Bool.or_true, Bool.true_or]
theorem getLast_some {α : Type} {xs : List α} (h : xs ≠ []) : ∃ x, xs.getLast? = some x := ⟨xs.getLast h, List.getLast?_eq_some_getLast h⟩
structure Drawn (Φd : Res D) (many : Int) (st : Dk) (r : Int) (st' : Dk) : Prop where
  eq : Φd = .ok (.int r) (some st')
  lo : 0 ≤ r
  hi : r < many
  len : st'.cells.length ≤ st.cells.length
def deckA (ns : List Int) (seed k : Int) : Sm :=
  (.seq (.set [1] (.c (.int seed)))
    (.seq (.forr [2] .seq (.cons (.scr (.var 0) ns 63) .nil) (.set [1] (.bin .mod (.bi .toInt (.cons (.bin .add (.bin .add (.bin .mul (.var 1) (.c (.int 48271))) (.bin .mod (.bi .toInt (.cons (.var 2) .nil)) (.c (.int 2147483629)))) (.c (.int k))) .nil)) (.c (.int 2147483587)))))
    (.ret (.dkNew (.lrev (.bi .toList (.cons (.scr (.var 0) ns 63) .nil))) (.var 1) (.c (.int 0))))))
theorem ints_map : ∀ ns : List Int, intsOf (ns.map .int) = some ns
  | [] => rfl
  | n :: ns => by
    rw [List.map_cons]
    unfold intsOf
    rw [ints_map ns]; rfl
end Pv
end

section
set_option autoImplicit false
namespace Pv
open PySem

theorem pow_emod' (a p : Int) : ∀ n : Nat, (a % p) ^ n % p = a ^ n % p
  | 0 => by rw [Int.pow_zero, Int.pow_zero]
  | n + 1 => by
    rw [Int.pow_succ, Int.pow_succ, Int.mul_emod, pow_emod' a p n, Int.emod_emod_of_dvd _ (Int.dvd_refl p), ← Int.mul_emod]
theorem pow_two_mul (b : Int) : ∀ k : Nat, (b * b) ^ k = b ^ (2 * k)
  | 0 => by rw [Nat.mul_zero, Int.pow_zero, Int.pow_zero]
  | k + 1 => by
    rw [Int.pow_succ, pow_two_mul b k, show 2 * (k + 1) = 2 * k + 1 + 1 from rfl, Int.pow_succ, Int.pow_succ, Int.mul_assoc]
theorem mulmod_l (a b p : Int) : a % p * b % p = a * b % p := by
  rw [Int.mul_emod, Int.emod_emod_of_dvd _ (Int.dvd_refl p), ← Int.mul_emod]
theorem mulmod_r (a b p : Int) : a * (b % p) % p = a * b % p := by
  rw [Int.mul_comm, mulmod_l, Int.mul_comm]
theorem mulpow_r (a b p : Int) (k : Nat) : a * (b % p) ^ k % p = a * b ^ k % p := by
  rw [← mulmod_r a ((b % p) ^ k), pow_emod', mulmod_r]
theorem sq_step (r b p : Int) (k : Nat) : (if k % 2 = 1 then r * b % p else r) * (b * b % p) ^ (k / 2) % p = r * b ^ k % p := by
  rw [mulpow_r, pow_two_mul]
  by_cases h : k % 2 = 1
  · rw [if_pos h, mulmod_l, Int.mul_assoc, Int.mul_comm b, ← Int.pow_succ]
    congr 2
    congr 1
    omega
  · rw [if_neg h]
    congr 2
    congr 1
    omega
def npowS : Sm :=
  (.seq (.set [3] (.c (.int 1)))
    (.seq (.set [4] (.bin .mod (.var 1) (.var 0)))
    (.seq (.set [5] (.var 2))
    (.seq (.whil (.cmp .gt (.var 5) (.c (.int 0))) (.seq (.ite (.truth (.bin .band (.var 5) (.c (.int 1)))) (.set [3] (.bin .mod (.bin .mul (.var 3) (.var 4)) (.var 0))) .skip)
      (.seq (.set [4] (.bin .mod (.bin .mul (.var 4) (.var 4)) (.var 0)))
      (.set [5] (.bin .shr (.var 5) (.c (.int 1)))))))
    (.ret (.var 3))))))
theorem band_one {k : Nat} : Builtin.bitAnd (k : Int) 1 = ((k % 2 : Nat) : Int) := by
  have h1 : decide ((0 : Int) ≤ (k : Int)) = true := decide_eq_true (by omega)
  have h2 : decide ((0 : Int) ≤ 1) = true := rfl
  unfold Builtin.bitAnd
  simp only [h1, h2, Int.toNat_natCast, show (1 : Int).toNat = 1 from rfl, Nat.and_one_is_mod]
theorem natAbs_lt {i p : Int} (h0 : 0 ≤ i) (h1 : i < p) (h2 : p < 18446744073709551616) : i.natAbs < 18446744073709551616 := by omega
section
variable {Φ : Fns} {g : G}
theorem npow_loop {p n e : Int} (hp : 0 < p) (hp2 : p < 18446744073709551616) : ∀ (k fu : Nat), k < fu → ∀ r b : Int, 0 ≤ r → r < p → 0 ≤ b → b < p → ∃ b' : Int,
    whileL (fun σ g => ev Φ (.cmp .gt (.var 5) (.c (.int 0))) σ g) (fun σ g => Pv.run Φ fuel (.seq (.ite (.truth (.bin .band (.var 5) (.c (.int 1)))) (.set [3] (.bin .mod (.bin .mul (.var 3) (.var 4)) (.var 0))) .skip)
      (.seq (.set [4] (.bin .mod (.bin .mul (.var 4) (.var 4)) (.var 0)))
      (.set [5] (.bin .shr (.var 5) (.c (.int 1)))))) σ g) fu [some (.int p), some (.int n), some (.int e), some (.int r), some (.int b), some (.int k)] g =
    .ok (.nx [some (.int p), some (.int n), some (.int e), some (.int (r * b ^ k % p)), some (.int b'), some (.int 0)]) g := by
  intro k
  induction k using Nat.strongRecOn with
  | _ k ih =>
    intro fu hf r b r0 r1 b0 b1
    obtain ⟨fu, rfl⟩ : ∃ m, fu = m + 1 := ⟨fu - 1, by omega⟩
    by_cases hk : k = 0
    · subst hk
      refine ⟨b, ?_⟩
      rw [whileL_end (by simp [ev, cmpV] : ev Φ (.cmp .gt (.var 5) (.c (.int 0))) [some (.int p), some (.int n), some (.int e), some (.int r), some (.int b), some (.int (0 : Nat))] g = .ok (.bool false) g)]
      rw [Int.pow_zero, Int.mul_one, Int.emod_eq_of_lt r0 r1]; rfl
    · have k0 : 0 < k := by omega
      have mrb : mulOk r b = true := mulOk_r (natAbs_lt b0 b1 hp2)
      have mbb : mulOk b b = true := mulOk_r (natAbs_lt b0 b1 hp2)
      obtain ⟨b', e⟩ := ih (k / 2) (by omega) fu (by omega) (if k % 2 = 1 then r * b % p else r) (b * b % p) (by split; exact Int.emod_nonneg _ (by omega); exact r0) (by split; exact Int.emod_lt_of_pos _ hp; exact r1) (Int.emod_nonneg _ (by omega)) (Int.emod_lt_of_pos _ hp)
      refine ⟨b', ?_⟩
      rw [whileL_step (g' := g) (σ' := [some (.int p), some (.int n), some (.int _), some (.int (if k % 2 = 1 then r * b % p else r)), some (.int (b * b % p)), some (.int ((k / 2 : Nat) : Int))]) (g2 := g)
        (by simp [ev, cmpV]; omega) ?_, e, sq_step]
      by_cases h2 : k % 2 = 1
      · have t : truV (.int (Builtin.bitAnd (k : Int) 1)) = some true := by rw [band_one, h2]; rfl
        simp [Pv.run, ev, binV, t, hp, mrb, mbb, setT, h2]
      · have h3 : k % 2 = 0 := by omega
        have t : truV (.int (Builtin.bitAnd (k : Int) 1)) = some false := by rw [band_one, h3]; rfl
        simp [Pv.run, ev, binV, t, hp, mrb, mbb, setT, h2]
theorem npow {p n e : Int} (hp : 1 < p) (hp2 : p < 18446744073709551616) (he : 0 ≤ e) (he2 : e < 18446744073709551616) : fin (Pv.run Φ fuel npowS [some (.int p), some (.int n), some (.int e), none, none, none] g) = .ok (.int (n ^ e.toNat % p)) g := by
  have hp0 : 0 < p := by omega
  unfold npowS
  rw [run_seq_nx (σ' := [some (.int p), some (.int n), some (.int e), some (.int 1), none, none]) (g' := g) rfl]
  rw [run_seq_nx (σ' := [some (.int p), some (.int n), some (.int e), some (.int 1), some (.int (n % p)), none]) (g' := g) (by simp [Pv.run, ev, binV, hp0, setT])]
  rw [run_seq_nx (σ' := [some (.int p), some (.int n), some (.int e), some (.int 1), some (.int (n % p)), some (.int (e.toNat : Nat))]) (g' := g) (by rw [Int.toNat_of_nonneg he]; rfl)]
  obtain ⟨b', h⟩ := npow_loop (Φ := Φ) (g := g) (n := n) (e := e) hp0 hp2 e.toNat fuel (by unfold fuel; omega) 1 (n % p) (by omega) hp (Int.emod_nonneg _ (by omega)) (Int.emod_lt_of_pos _ hp0)
  have h2 : Pv.run Φ fuel (.whil (.cmp .gt (.var 5) (.c (.int 0))) (.seq (.ite (.truth (.bin .band (.var 5) (.c (.int 1)))) (.set [3] (.bin .mod (.bin .mul (.var 3) (.var 4)) (.var 0))) .skip)
      (.seq (.set [4] (.bin .mod (.bin .mul (.var 4) (.var 4)) (.var 0)))
      (.set [5] (.bin .shr (.var 5) (.c (.int 1))))))) [some (.int p), some (.int n), some (.int e), some (.int 1), some (.int (n % p)), some (.int (e.toNat : Nat))] g = .ok (.nx [some (.int p), some (.int n), some (.int e), some (.int (1 * (n % p) ^ e.toNat % p)), some (.int b'), some (.int 0)]) g := h
  rw [run_seq_nx h2, Int.one_mul, pow_emod']
  rfl
end
end Pv
end

section
set_option autoImplicit false
namespace Pv
open PySem

inductive Ok {α : Type} (r : Res α) (Q : α → G → Prop) : Prop where
  | mk (a : α) (g : G) (e : r = .ok a g) (q : Q a g)
def thenF (k : Sl → G → Prop) (Q : Fl → G → Prop) : Fl → G → Prop
  | .nx σ, g => k σ g
  | fl, g => Q fl g
@[simp] theorem thenF_nx {k : Sl → G → Prop} {Q : Fl → G → Prop} {σ : Sl} {g : G} : thenF k Q (.nx σ) g = k σ g := (rfl)
@[simp] theorem thenF_rt {k : Sl → G → Prop} {Q : Fl → G → Prop} {v : D} {g : G} : thenF k Q (.rt v) g = Q (.rt v) g := (rfl)
@[simp] theorem thenF_bk {k : Sl → G → Prop} {Q : Fl → G → Prop} {σ : Sl} {g : G} : thenF k Q (.bk σ) g = Q (.bk σ) g := (rfl)
@[simp] theorem thenF_ex {k : Sl → G → Prop} {Q : Fl → G → Prop} {σ : Sl} {c : Nat} {vs : List D} {g : G} : thenF k Q (.ex σ c vs) g = Q (.ex σ c vs) g := (rfl)
@[simp] theorem thenF_ct {k : Sl → G → Prop} {Q : Fl → G → Prop} {σ : Sl} {g : G} : thenF k Q (.ct σ) g = Q (.ct σ) g := (rfl)
def retF (Q : D → G → Prop) : Fl → G → Prop
  | .rt v, g => Q v g
  | .nx _, g => Q .none g
  | _, _ => False
@[simp] theorem retF_rt {Q : D → G → Prop} {v : D} {g : G} : retF Q (.rt v) g = Q v g := (rfl)
@[simp] theorem retF_nx {Q : D → G → Prop} {σ : Sl} {g : G} : retF Q (.nx σ) g = Q .none g := (rfl)
@[simp] theorem retF_bk {Q : D → G → Prop} {σ : Sl} {g : G} : retF Q (.bk σ) g = False := (rfl)
@[simp] theorem retF_ex {Q : D → G → Prop} {σ : Sl} {c : Nat} {vs : List D} {g : G} : retF Q (.ex σ c vs) g = False := (rfl)
@[simp] theorem retF_ct {Q : D → G → Prop} {σ : Sl} {g : G} : retF Q (.ct σ) g = False := (rfl)
def loopF (I : Sl → G → Prop) (Q : Fl → G → Prop) : Fl → G → Prop
  | .nx σ, g => I σ g
  | .ct σ, g => I σ g
  | .bk σ, g => Q (.nx σ) g
  | .rt v, g => Q (.rt v) g
  | .ex σ c vs, g => Q (.ex σ c vs) g
@[simp] theorem loopF_ex {k : Sl → G → Prop} {Q : Fl → G → Prop} {σ : Sl} {c : Nat} {vs : List D} {g : G} : loopF k Q (.ex σ c vs) g = Q (.ex σ c vs) g := (rfl)
@[simp] theorem loopF_nx {k : Sl → G → Prop} {Q : Fl → G → Prop} {σ : Sl} {g : G} : loopF k Q (.nx σ) g = k σ g := (rfl)
@[simp] theorem loopF_ct {k : Sl → G → Prop} {Q : Fl → G → Prop} {σ : Sl} {g : G} : loopF k Q (.ct σ) g = k σ g := (rfl)
@[simp] theorem loopF_bk {k : Sl → G → Prop} {Q : Fl → G → Prop} {σ : Sl} {g : G} : loopF k Q (.bk σ) g = Q (.nx σ) g := (rfl)
@[simp] theorem loopF_rt {k : Sl → G → Prop} {Q : Fl → G → Prop} {v : D} {g : G} : loopF k Q (.rt v) g = Q (.rt v) g := (rfl)
section
variable {α β : Type} {Q P : α → G → Prop} {g g' : G} {a : α}
@[simp] theorem Ok_ok : Ok (.ok a g) Q = Q a g := propext ⟨fun ⟨_, _, e, q⟩ => (by cases e; exact q), fun q => ⟨_, _, rfl, q⟩⟩
@[simp] theorem Ok_no : Ok (.no : Res α) Q = False := propext ⟨fun ⟨_, _, e, _⟩ => (nomatch e), False.elim⟩
@[simp] theorem Ok_exc {c : Nat} {vs : List D} : Ok (.exc c vs g : Res α) Q = False := propext ⟨fun ⟨_, _, e, _⟩ => (nomatch e), False.elim⟩
@[simp] theorem Ok_bind {r : Res β} {f : β → G → Res α} : Ok (r.bind f) Q = Ok r fun b g => Ok (f b g) Q := by cases r <;> simp
@[simp] theorem Ok_lift {o : Option α} : Ok (lift o g) Q = ∃ a, o = some a ∧ Q a g := by cases o <;> simp
@[simp] theorem Ok_if {c : Prop} [Decidable c] {r s : Res α} : Ok (if c then r else s) Q = if c then Ok r Q else Ok s Q := by split <;> rfl
theorem Ok.ex {r : Res α} (h : Ok r Q) : ∃ a g, r = .ok a g ∧ Q a g := let ⟨a, g, e, q⟩ := h; ⟨a, g, e, q⟩
theorem Ok.mono {r : Res α} (h : Ok r P) (i : ∀ a g, P a g → Q a g) : Ok r Q := let ⟨a, g, e, q⟩ := h; ⟨a, g, e, i a g q⟩
theorem Ok.of_eq {r : Res α} (h : r = .ok a g) (q : Q a g) : Ok r Q := ⟨a, g, h, q⟩
theorem Ok.eq {r : Res α} (h : Ok r fun b g' => b = a ∧ g' = g) : r = .ok a g := by
  obtain ⟨b, g', e, rfl, rfl⟩ := h.ex
  exact e
theorem Ok_fin {r : Res Fl} {Q : D → G → Prop} : Ok (fin r) Q = Ok r (retF Q) := by
  cases r with
  | ok a g => cases a <;> simp [fin, retF]
  | exc c vs g => simp [fin]
  | no => simp [fin]
end
inductive OkX (r : Res D) (Q : D → G → Prop) (E : Nat → List D → G → Prop) : Prop where
  | ok (a : D) (g : G) (e : r = .ok a g) (q : Q a g)
  | ex (c : Nat) (vs : List D) (g : G) (e : r = .exc c vs g) (q : E c vs g)
@[simp] theorem OkX_ok {a : D} {g : G} {Q : D → G → Prop} {E : Nat → List D → G → Prop} : OkX (.ok a g) Q E = Q a g := propext ⟨(fun h => by
  rcases h with ⟨_, _, e, q⟩ | ⟨_, _, _, e, _⟩
  · cases e; exact q
  · cases e), fun q => OkX.ok _ _ rfl q⟩
@[simp] theorem OkX_exc {c : Nat} {vs : List D} {g : G} {Q : D → G → Prop} {E : Nat → List D → G → Prop} : OkX (.exc c vs g) Q E = E c vs g := propext ⟨(fun h => by
  rcases h with ⟨_, _, e, q⟩ | ⟨_, _, _, e, q⟩
  · cases e
  · cases e; exact q), fun q => OkX.ex _ _ _ rfl q⟩
@[simp] theorem OkX_no {Q : D → G → Prop} {E : Nat → List D → G → Prop} : OkX .no Q E = False := propext ⟨(fun h => by
  rcases h with ⟨_, _, e, q⟩ | ⟨_, _, _, e, q⟩ <;> cases e), False.elim⟩
def retX (Q : D → G → Prop) (E : Nat → List D → G → Prop) : Fl → G → Prop
  | .rt v, g => Q v g
  | .nx _, g => Q .none g
  | .ex _ c vs, g => E c vs g
  | _, _ => False
section
variable {Q : D → G → Prop} {E : Nat → List D → G → Prop} {σ : Sl} {g : G} {v : D} {c : Nat} {vs : List D}
@[simp] theorem retX_rt : retX Q E (.rt v) g = Q v g := (rfl)
@[simp] theorem retX_nx : retX Q E (.nx σ) g = Q .none g := (rfl)
@[simp] theorem retX_ex : retX Q E (.ex σ c vs) g = E c vs g := (rfl)
@[simp] theorem retX_bk : retX Q E (.bk σ) g = False := (rfl)
@[simp] theorem retX_ct : retX Q E (.ct σ) g = False := (rfl)
end
theorem OkX_fin {r : Res Fl} {Q : D → G → Prop} {E : Nat → List D → G → Prop} : OkX (fin r) Q E = Ok r (retX Q E) := by
  cases r with
  | ok a g => cases a <;> simp [fin, retX]
  | exc c vs g => simp [fin]
  | no => simp [fin]
theorem OkX_FT {T : List Fn} {d f : Nat} {as : List D} {g : G} {Q : D → G → Prop} {E : Nat → List D → G → Prop} {fn : Fn} (h : T[f]? = some fn) (hl : as.length = fn.np)
    (hb : Ok (Pv.run (FT T (fun _ => none) d) fuel fn.body (as.map some ++ List.replicate (fn.nl - fn.np) none) g) (retX Q E)) : OkX (FT T (fun _ => none) (d + 1) f as g) Q E := by
  rw [FT_at h hl, OkX_fin]; exact hb
theorem Ok_FT {T : List Fn} {d f : Nat} {as : List D} {g : G} {Q : D → G → Prop} {fn : Fn} (h : T[f]? = some fn) (hl : as.length = fn.np)
    (hb : Ok (Pv.run (FT T (fun _ => none) d) fuel fn.body (as.map some ++ List.replicate (fn.nl - fn.np) none) g) (retF Q)) : Ok (FT T (fun _ => none) (d + 1) f as g) Q := by
  rw [FT_at h hl, Ok_fin]; exact hb
section
variable {Φ : Fns} {fu : Nat} {σ : Sl} {g : G} {Q : D → G → Prop} {a b c t e d k x : Ex} {as : Exs}
@[simp] theorem Ok_c {v : D} : Ok (ev Φ (.c v) σ g) Q = Q v g := by unfold ev; exact Ok_ok
@[simp] theorem Ok_var {i : Nat} : Ok (ev Φ (.var i) σ g) Q = ∃ v, σ[i]? = some (some v) ∧ Q v g := by
  unfold ev
  cases e : σ[i]? with
  | none => simp
  | some o => cases o <;> simp
@[simp] theorem Ok_bin {op : Bop} : Ok (ev Φ (.bin op a b) σ g) Q = Ok (ev Φ a σ g) fun x g => Ok (ev Φ b σ g) fun y g => ∃ z, binV op x y = some z ∧ Q z g := by
  conv => lhs; unfold ev
  simp only [Ok_bind, Ok_lift]
@[simp] theorem Ok_neg : Ok (ev Φ (.neg a) σ g) Q = Ok (ev Φ a σ g) fun x g => ∃ i, x = .int i ∧ Q (.int (-i)) g := by
  conv => lhs; unfold ev
  simp only [Ok_bind]
  congr; funext x g
  cases x <;> simp
@[simp] theorem Ok_asI : Ok (ev Φ (.asI a) σ g) Q = Ok (ev Φ a σ g) fun x g => ∃ i, x = .int i ∧ Q (.int i) g := by
  conv => lhs; unfold ev
  simp only [Ok_bind]
  congr; funext x g
  cases x <;> simp
@[simp] theorem Ok_cmp {op : Cop} : Ok (ev Φ (.cmp op a b) σ g) Q = Ok (ev Φ a σ g) fun x g => Ok (ev Φ b σ g) fun y g => ∃ z, cmpV op x y = some z ∧ Q (.bool z) g := by
  conv => lhs; unfold ev
  simp only [Ok_bind, Ok_lift, Option.map_eq_some_iff]
  congr; funext x g; congr; funext y g
  exact propext ⟨fun ⟨_, ⟨z, h, e⟩, q⟩ => ⟨z, h, by rw [e]; exact q⟩, fun ⟨z, h, q⟩ => ⟨_, ⟨z, h, rfl⟩, q⟩⟩
@[simp] theorem Ok_chain {o1 o2 : Cop} : Ok (ev Φ (.chain o1 o2 a b c) σ g) Q = Ok (ev Φ a σ g) fun x g => Ok (ev Φ b σ g) fun y g => ∃ k, cmpV o1 x y = some k ∧
    if k = true then Ok (ev Φ c σ g) fun z g => ∃ w, cmpV o2 y z = some w ∧ Q (.bool w) g else Q (.bool false) g := by
  conv => lhs; unfold ev
  simp only [Ok_bind, Ok_lift, Option.map_eq_some_iff, Ok_if, Ok_ok]
  congr; funext x g; congr; funext y g
  congr; funext k; congr; funext z g
  exact propext ⟨fun ⟨_, ⟨z, h, e⟩, q⟩ => ⟨z, h, by rw [e]; exact q⟩, fun ⟨z, h, q⟩ => ⟨_, ⟨z, h, rfl⟩, q⟩⟩
@[simp] theorem Ok_chain3 {o1 o2 o3 : Cop} : Ok (ev Φ (.chain3 o1 o2 o3 a b c d) σ g) Q = Ok (ev Φ a σ g) fun x g => Ok (ev Φ b σ g) fun y g => ∃ k, cmpV o1 x y = some k ∧
    if k = true then Ok (ev Φ c σ g) fun z g => ∃ k, cmpV o2 y z = some k ∧ if k = true then Ok (ev Φ d σ g) fun w g => ∃ u, cmpV o3 z w = some u ∧ Q (.bool u) g else Q (.bool false) g else Q (.bool false) g := by
  conv => lhs; unfold ev
  simp only [Ok_bind, Ok_lift, Option.map_eq_some_iff, Ok_if, Ok_ok]
  congr; funext x g; congr; funext y g
  congr; funext k; congr; funext z g
  congr; funext k; congr; funext w g
  exact propext ⟨fun ⟨_, ⟨z, h, e⟩, q⟩ => ⟨z, h, by rw [e]; exact q⟩, fun ⟨z, h, q⟩ => ⟨_, ⟨z, h, rfl⟩, q⟩⟩
@[simp] theorem Ok_and : Ok (ev Φ (.and a b) σ g) Q = Ok (ev Φ a σ g) fun x g => ∃ k : Bool, x = .bool k ∧ if k = true then Ok (ev Φ b σ g) Q else Q (.bool false) g := by
  conv => lhs; unfold ev
  simp only [Ok_bind]
  congr; funext x g
  cases x with
  | bool k => cases k <;> simp
  | _ => simp
@[simp] theorem Ok_or : Ok (ev Φ (.or a b) σ g) Q = Ok (ev Φ a σ g) fun x g => ∃ k : Bool, x = .bool k ∧ if k = true then Q (.bool true) g else Ok (ev Φ b σ g) Q := by
  conv => lhs; unfold ev
  simp only [Ok_bind]
  congr; funext x g
  cases x with
  | bool k => cases k <;> simp
  | _ => simp
@[simp] theorem Ok_not : Ok (ev Φ (.not a) σ g) Q = Ok (ev Φ a σ g) fun x g => ∃ k : Bool, x = .bool k ∧ Q (.bool (!k)) g := by
  conv => lhs; unfold ev
  simp only [Ok_bind]
  congr; funext x g
  cases x <;> simp
theorem Ok_lamc {ko : D → D} {sel : Nat → Bool} {h : Nat → List D → Ex} {ow : List Nat} {f : Nat} {as : Exs} {perm : Option (List Nat)} : Ok (ev Φ (.lamc ko sel h ow f as perm) σ g) Q = Ok (evs Φ as (clrs ow σ) g) fun vs g =>
    (∃ v g', Φ f (match perm with | some p => pm p vs | none => vs) g = .ok v g' ∧ Q (ko v) g') ∨ (∃ c ws g', Φ f (match perm with | some p => pm p vs | none => vs) g = .exc c ws g' ∧ sel c = true ∧ Ok (ev Φ (h c ws) [] g') Q) := by
  conv => lhs; unfold ev
  rw [Ok_bind]
  congr 1
  funext vs g1
  generalize Φ f (match perm with | some p => pm p vs | none => vs) g1 = r
  cases r with
  | ok v g2 => exact Ok_ok.trans (propext ⟨fun q => .inl ⟨_, _, rfl, q⟩, fun z => z.elim (fun ⟨_, _, e, q⟩ => (by cases e; exact q)) fun ⟨_, _, _, e, _⟩ => nomatch e⟩)
  | no => exact Ok_no.trans (propext ⟨False.elim, fun z => z.elim (fun ⟨_, _, e, _⟩ => nomatch e) fun ⟨_, _, _, e, _⟩ => nomatch e⟩)
  | exc c ws g2 =>
    show Ok (if sel c = true then ev Φ (h c ws) [] g2 else .no) Q = _
    cases hs : sel c with
    | true =>
      rw [if_pos rfl]
      exact propext ⟨fun q => .inr ⟨_, _, _, rfl, hs, q⟩, fun z => z.elim (fun ⟨_, _, e, _⟩ => nomatch e) fun ⟨_, _, _, e, _, q⟩ => (by cases e; exact q)⟩
    | false =>
      rw [if_neg Bool.false_ne_true, Ok_no]
      exact propext ⟨fun q => q.elim, fun z => z.elim (fun ⟨_, _, e, _⟩ => nomatch e) fun ⟨_, _, _, e, z, _⟩ => (by cases e; rw [hs] at z; cases z)⟩
@[simp] theorem Ok_truth : Ok (ev Φ (.truth a) σ g) Q = Ok (ev Φ a σ g) fun x g => ∃ k, truV x = some k ∧ Q (.bool k) g := by
  conv => lhs; unfold ev
  simp only [Ok_bind, Ok_lift, Option.map_eq_some_iff]
  congr; funext x g
  exact propext ⟨fun ⟨_, ⟨z, h, e⟩, q⟩ => ⟨z, h, by rw [e]; exact q⟩, fun ⟨z, h, q⟩ => ⟨_, ⟨z, h, rfl⟩, q⟩⟩
@[simp] theorem Ok_ite : Ok (ev Φ (.ite t a b) σ g) Q = Ok (ev Φ t σ g) fun x g => ∃ k : Bool, x = .bool k ∧ if k = true then Ok (ev Φ a σ g) Q else Ok (ev Φ b σ g) Q := by
  conv => lhs; unfold ev
  simp only [Ok_bind]
  congr; funext x g
  cases x with
  | bool k => cases k <;> simp
  | _ => simp
@[simp] theorem Ok_idx : Ok (ev Φ (.idx a b) σ g) Q = Ok (ev Φ a σ g) fun x g => Ok (ev Φ b σ g) fun y g => ∃ z, idxV x y = some z ∧ Q z g := by
  conv => lhs; unfold ev
  simp only [Ok_bind, Ok_lift]
@[simp] theorem Ok_slc : Ok (ev Φ (.slc a b c) σ g) Q = Ok (ev Φ a σ g) fun x g => Ok (ev Φ b σ g) fun l g => Ok (ev Φ c σ g) fun h g => ∃ z, slcV x l h = some z ∧ Q z g := by
  conv => lhs; unfold ev
  simp only [Ok_bind, Ok_lift]
@[simp] theorem Ok_lslc : Ok (ev Φ (.lslc a b c) σ g) Q = Ok (ev Φ a σ g) fun x g => Ok (ev Φ b σ g) fun l g => Ok (ev Φ c σ g) fun h g => ∃ xs, x = .list xs ∧ ∃ z, slcV x l h = some z ∧ Q z g := by
  conv => lhs; unfold ev
  simp only [Ok_bind]
  congr 1; funext x g; congr 1; funext l g; congr 1; funext h g
  cases x with
  | list xs => exact propext ⟨fun z => ⟨xs, rfl, by rw [Ok_lift] at z; exact z⟩, fun ⟨_, _, z⟩ => by rw [Ok_lift]; exact z⟩
  | _ => exact propext ⟨fun z => (by rw [Ok_no] at z; exact z.elim), fun ⟨_, z, _⟩ => nomatch z⟩
@[simp] theorem Ok_rev : Ok (ev Φ (.rev a) σ g) Q = Ok (ev Φ a σ g) fun x g => ∃ z, revV x = some z ∧ Q z g := by
  conv => lhs; unfold ev
  simp only [Ok_bind, Ok_lift]
@[simp] theorem Ok_tup : Ok (ev Φ (.tup as) σ g) Q = Ok (evs Φ as σ g) fun xs g => Q (.tuple xs) g := by
  conv => lhs; unfold ev
  simp only [Ok_bind, Ok_ok]
@[simp] theorem Ok_lst : Ok (ev Φ (.lst as) σ g) Q = Ok (evs Φ as σ g) fun xs g => Q (.list xs) g := by
  conv => lhs; unfold ev
  simp only [Ok_bind, Ok_ok]
@[simp] theorem Ok_bi {f : Bi} : Ok (ev Φ (.bi f as) σ g) Q = Ok (evs Φ as σ g) fun xs g => ∃ z, biV f xs = some z ∧ Q z g := by
  conv => lhs; unfold ev
  simp only [Ok_bind, Ok_lift]
@[simp] theorem Ok_call {f : Nat} : Ok (ev Φ (.call f as) σ g) Q = Ok (evs Φ as σ g) fun xs g => Ok (Φ f xs g) Q := by
  conv => lhs; unfold ev
  simp only [Ok_bind]
@[simp] theorem Ok_callK {f : Nat} {perm : List Nat} : Ok (ev Φ (.callK f as perm) σ g) Q = Ok (evs Φ as σ g) fun xs g => Ok (Φ f (pm perm xs) g) Q := by
  conv => lhs; unfold ev
  simp only [Ok_bind]
def itemF (Φ : Fns) (t : List Nat) (σ : Sl) (cond elt : Ex) (x : D) (g : G) : Res (Option D) :=
  (lift (setT t x (wipeS σ t)) g).bind fun σ' g => (ev Φ cond σ' g).bind fun b g => match b with
        | .bool true => (ev Φ elt σ' g).bind fun v g => .ok (some v) g
        | .bool false => .ok none g
        | _ => .no
theorem Ok_itemF {t : List Nat} {cond elt : Ex} {x : D} {Q : Option D → G → Prop} : Ok (itemF Φ t σ cond elt x g) Q = ∃ σ', setT t x (wipeS σ t) = some σ' ∧ Ok (ev Φ cond σ' g) fun b g => ∃ k : Bool, b = .bool k ∧ if k = true then Ok (ev Φ elt σ' g) fun v g => Q (some v) g else Q none g := by
  unfold itemF
  simp only [Ok_bind, Ok_lift]
  congr; funext σ'; congr; funext b g
  cases b with
  | bool k => cases k <;> simp
  | _ => simp
@[simp] theorem Ok_comp {t : List Nat} {k : Ik} {cond elt : Ex} : Ok (ev Φ (.comp t k as cond elt) σ g) Q = Ok (evs Φ as σ g) fun vs g => ∃ xs, itV k vs = some xs ∧ xs.length ≤ lineN ∧ Ok (compL (itemF Φ t σ cond elt) xs [] g) fun ys g => Q (.list ys) g := by
  conv => lhs; unfold ev
  simp only [Ok_bind, Ok_lift]
  congr; funext vs g; congr; funext xs
  by_cases h : xs.length ≤ lineN
  · simp [h]; exact fun _ => Iff.rfl
  · simp [h]
@[simp] theorem Ok_dnew : Ok (ev Φ .dnew σ g) Q = Q (.dict []) g := by unfold ev; exact Ok_ok
@[simp] theorem Ok_dget : Ok (ev Φ (.dget d k x) σ g) Q = Ok (ev Φ d σ g) fun dv g => Ok (ev Φ k σ g) fun kv g => Ok (ev Φ x σ g) fun xv g => ∃ z, dgetV dv kv xv = some z ∧ Q z g := by
  conv => lhs; unfold ev
  simp only [Ok_bind, Ok_lift]
@[simp] theorem Ok_dix : Ok (ev Φ (.dix d k) σ g) Q = Ok (ev Φ d σ g) fun dv g => Ok (ev Φ k σ g) fun kv g => ∃ z, dixV dv kv = some z ∧ Q z g := by
  conv => lhs; unfold ev
  simp only [Ok_bind, Ok_lift]
@[simp] theorem Ok_nix : Ok (ev Φ (.nix d k) σ g) Q = Ok (ev Φ d σ g) fun dv g => Ok (ev Φ k σ g) fun kv g => ∃ z, nlkV dv kv = some (some z) ∧ Q z g := by
  conv => lhs; unfold ev
  simp only [Ok_bind, Ok_lift]
  congr; funext x g
  congr; funext y g
  exact propext ⟨fun ⟨z, h, q⟩ => ⟨z, by cases e : nlkV x y with
    | none => rw [e] at h; cases h
    | some o => rw [e] at h; exact congrArg some h, q⟩, fun ⟨z, h, q⟩ => ⟨z, by rw [h]; rfl, q⟩⟩
@[simp] theorem Ok_nlen : Ok (ev Φ (.nlen d) σ g) Q = Ok (ev Φ d σ g) fun dv g => ∃ z, nlenV dv = some z ∧ Q z g := by
  conv => lhs; unfold ev
  simp only [Ok_bind, Ok_lift]
@[simp] theorem Ok_nvals : Ok (ev Φ (.nvals d) σ g) Q = Ok (ev Φ d σ g) fun dv g => ∃ z, nvalsV dv = some z ∧ Q z g := by
  conv => lhs; unfold ev
  simp only [Ok_bind, Ok_lift]
@[simp] theorem Ok_nkeys : Ok (ev Φ (.nkeys d) σ g) Q = Ok (ev Φ d σ g) fun dv g => ∃ z, nkeysV dv = some z ∧ Q z g := by
  conv => lhs; unfold ev
  simp only [Ok_bind, Ok_lift]
@[simp] theorem Ok_dks : Ok (ev Φ (.dks d) σ g) Q = Ok (ev Φ d σ g) fun dv g => ∃ z, dksV dv = some z ∧ Q z g := by
  conv => lhs; unfold ev
  simp only [Ok_bind, Ok_lift]
@[simp] theorem Ok_nitems : Ok (ev Φ (.nitems d) σ g) Q = Ok (ev Φ d σ g) fun dv g => ∃ z, nitemsV dv = some z ∧ Q z g := by
  conv => lhs; unfold ev
  simp only [Ok_bind, Ok_lift]
@[simp] theorem Ok_ndct : Ok (ev Φ (.ndct a) σ g) Q = Ok (ev Φ a σ g) fun v g => ∃ z, ndctV v = some z ∧ Q z g := by
  conv => lhs; unfold ev
  simp only [Ok_bind, Ok_lift]
@[simp] theorem Ok_nhas {n : Bool} : Ok (ev Φ (.nhas k d n) σ g) Q = Ok (ev Φ k σ g) fun kv g => Ok (ev Φ d σ g) fun dv g => ∃ o, nlkV dv kv = some o ∧ Q (.bool (o.isSome != n)) g := by
  conv => lhs; unfold ev
  simp only [Ok_bind, Ok_lift, Option.map_eq_some_iff]
  congr; funext x g
  congr; funext y g
  exact propext ⟨fun ⟨_, ⟨z, h, e⟩, q⟩ => ⟨z, h, by rw [e]; exact q⟩, fun ⟨z, h, q⟩ => ⟨_, ⟨z, h, rfl⟩, q⟩⟩
@[simp] theorem Ok_ndsp : Ok (ev Φ (.ndsp a) σ g) Q = Ok (ev Φ a σ g) fun v g => Q (ndD [(.none, v)]) g := by
  conv => lhs; unfold ev
  simp only [Ok_bind, Ok_ok]
@[simp] theorem Ok_tdsp : Ok (ev Φ (.tdsp a b) σ g) Q = Ok (ev Φ a σ g) fun k g => Ok (ev Φ b σ g) fun v g => (keyT k).isSome = true ∧ Q (tdD [(k, v)]) g := by
  conv => lhs; unfold ev
  simp only [Ok_bind, Ok_lift]
  congr; funext k g
  congr; funext v g
  cases keyT k <;> simp
@[simp] theorem Ok_dhas {n : Bool} : Ok (ev Φ (.dhas k d n) σ g) Q = Ok (ev Φ k σ g) fun kv g => Ok (ev Φ d σ g) fun dv g => ∃ b, dhasV kv dv = some b ∧ Q (.bool (b != n)) g := by
  conv => lhs; unfold ev
  simp only [Ok_bind, Ok_lift, Option.map_eq_some_iff]
  congr; funext x g; congr; funext y g
  exact propext ⟨fun ⟨_, ⟨z, h, e⟩, q⟩ => ⟨z, h, by rw [e]; exact q⟩, fun ⟨z, h, q⟩ => ⟨_, ⟨z, h, rfl⟩, q⟩⟩
@[simp] theorem Ok_ddisp : Ok (ev Φ (.ddisp as) σ g) Q = Ok (evs Φ as σ g) fun xs g => ∃ z, dispV xs [] = some z ∧ Q (.dict z) g := by
  conv => lhs; unfold ev
  simp only [Ok_bind, Ok_lift, Option.map_eq_some_iff]
  congr; funext x g
  exact propext ⟨fun ⟨_, ⟨z, h, e⟩, q⟩ => ⟨z, h, by rw [e]; exact q⟩, fun ⟨z, h, q⟩ => ⟨_, ⟨z, h, rfl⟩, q⟩⟩
@[simp] theorem Ok_lrev : Ok (ev Φ (.lrev a) σ g) Q = Ok (ev Φ a σ g) fun x g => ∃ xs, x = .list xs ∧ Q (.list xs.reverse) g := by
  conv => lhs; unfold ev
  simp only [Ok_bind]
  congr; funext x g
  cases x <;> simp
@[simp] theorem Ok_fld {f : Str} : Ok (ev Φ (.fld a f) σ g) Q = Ok (ev Φ a σ g) fun x g => ∃ z, fldV x f = some z ∧ Q z g := by
  conv => lhs; unfold ev
  simp only [Ok_bind, Ok_lift]
@[simp] theorem Ok_meth {c fi : Nat} {o : Ex} : Ok (ev Φ (.meth c fi o as) σ g) Q = Ok (ev Φ o σ g) fun x g => isOb c x = true ∧ Ok (evs Φ as σ g) fun xs g => Ok (Φ fi (x :: xs) g) Q := by
  conv => lhs; unfold ev
  simp only [Ok_bind]
  congr; funext x g
  by_cases h : isOb c x = true <;> simp [h]
@[simp] theorem Ok_mk {c fi : Nat} : Ok (ev Φ (.mk c fi as) σ g) Q = Ok (evs Φ as σ g) fun xs g => Ok (Φ fi (objD c [] :: xs) g) Q := by
  conv => lhs; unfold ev
  simp only [Ok_bind]
@[simp] theorem Ok_own {c fi : Nat} {n : Bool} : Ok (ev Φ (.own c fi n a b) σ g) Q = Ok (ev Φ a σ g) fun x g => Ok (ev Φ b σ g) fun y g => (isOb c x = true ∧ isOb c y = true) ∧ Ok (Φ fi [x, y] g) fun r g => ∃ z, r = .bool z ∧ Q (.bool (z != n)) g := by
  conv => lhs; unfold ev
  simp only [Ok_bind]
  congr; funext x g
  congr; funext y g
  by_cases h : (isOb c x && isOb c y) = true
  · rw [if_pos h]
    have h' := h
    simp only [Bool.and_eq_true] at h'
    simp only [Ok_bind, h', and_self, true_and]
    congr; funext r g
    cases r <;> simp
  · rw [if_neg h]
    simp only [Bool.and_eq_true] at h
    simp [h]
@[simp] theorem Ok_isO {c : Nat} : Ok (ev Φ (.isO c a) σ g) Q = Ok (ev Φ a σ g) fun x g => (isObj x = true ∧ Q (.bool (isOb c x)) g) ∨ (isObj x = false ∧ isDk x = false ∧ Q (.bool false) g) := by
  conv => lhs; unfold ev
  simp only [Ok_bind]
  congr; funext x g
  cases isObj x <;> cases isDk x <;> simp
@[simp] theorem Ok_dct : Ok (ev Φ (.dct a) σ g) Q = Ok (ev Φ a σ g) fun x g => ∃ xs kvs, x = .list xs ∧ pairV xs [] = some kvs ∧ Q (.dict kvs) g := by
  conv => lhs; unfold ev
  simp only [Ok_bind]
  congr; funext x g
  cases x <;> simp
@[simp] theorem Ok_tnew : Ok (ev Φ .tnew σ g) Q = Q (tdD []) g := by unfold ev; exact Ok_ok
@[simp] theorem Ok_evs_nil {Q : List D → G → Prop} : Ok (evs Φ .nil σ g) Q = Q [] g := by unfold evs; exact Ok_ok
@[simp] theorem Ok_evs_cons {Q : List D → G → Prop} : Ok (evs Φ (.cons a as) σ g) Q = Ok (ev Φ a σ g) fun x g => Ok (evs Φ as σ g) fun xs g => Q (x :: xs) g := by
  conv => lhs; unfold evs
  simp only [Ok_bind, Ok_ok]
end
section
variable {Φ : Fns} {fu : Nat} {σ : Sl} {g : G} {Q : Fl → G → Prop} {s b : Sm} {t e k : Ex} {as : Exs} {i : Nat}
theorem Ok_seq : Ok (Pv.run Φ fu (.seq s b) σ g) Q = Ok (Pv.run Φ fu s σ g) (thenF (fun σ g => Ok (Pv.run Φ fu b σ g) Q) Q) := by
  conv => lhs; unfold Pv.run
  simp only [Ok_bind]
  congr; funext fl g
  cases fl <;> simp
@[simp] theorem Ok_skip : Ok (Pv.run Φ fu .skip σ g) Q = Q (.nx σ) g := Ok_ok
@[simp] theorem Ok_set1 : Ok (Pv.run Φ fu (.set [i] e) σ g) Q = Ok (ev Φ e σ g) fun v g => Q (.nx (σ.set i (some v))) g := by
  conv => lhs; unfold Pv.run
  simp only [Ok_bind, Ok_lift, Ok_ok, setT, Option.some.injEq, exists_eq_left']
@[simp] theorem Ok_set2 {j : Nat} {ts : List Nat} : Ok (Pv.run Φ fu (.set (i :: j :: ts) e) σ g) Q = Ok (ev Φ e σ g) fun v g => ∃ σ', setT (i :: j :: ts) v σ = some σ' ∧ Q (.nx σ') g := by
  conv => lhs; unfold Pv.run
  simp only [Ok_bind, Ok_lift, Ok_ok]
@[simp] theorem Ok_setG {ts : List (List Nat)} : Ok (Pv.run Φ fu (.setG ts e) σ g) Q = Ok (ev Φ e σ g) fun v g => ∃ σ', setG ts v σ = some σ' ∧ Q (.nx σ') g := by
  conv => lhs; unfold Pv.run
  simp only [Ok_bind, Ok_lift, Ok_ok]
@[simp] theorem Ok_par {j : Nat} {a b : Ex} : Ok (Pv.run Φ fu (.par i j a b) σ g) Q = Ok (ev Φ a σ g) fun v g => Ok (ev Φ b σ g) fun w g => Q (.nx ((σ.set i (some v)).set j (some w))) g := by
  conv => lhs; unfold Pv.run
  simp only [Ok_bind, Ok_ok]
@[simp] theorem Ok_par3 {j l : Nat} {a b c : Ex} : Ok (Pv.run Φ fu (.par3 i j l a b c) σ g) Q = Ok (ev Φ a σ g) fun u g => Ok (ev Φ b σ g) fun v g => Ok (ev Φ c σ g) fun w g => Q (.nx (((σ.set i (some u)).set j (some v)).set l (some w))) g := by
  conv => lhs; unfold Pv.run
  simp only [Ok_bind, Ok_ok]
@[simp] theorem Ok_parN {ns : List Nat} : Ok (Pv.run Φ fu (.parN ns as) σ g) Q = Ok (evs Φ as σ g) fun vs g => ∃ σ', setMany ns vs σ = some σ' ∧ Q (.nx σ') g := by
  conv => lhs; unfold Pv.run
  simp only [Ok_bind, Ok_lift, Ok_ok]
theorem Ok_slot {Q : D → G → Prop} : Ok (slot σ i g) Q = ∃ v, σ[i]? = some (some v) ∧ Q v g := by
  unfold slot
  cases e : σ[i]? with
  | none => simp
  | some o => cases o <;> simp
@[simp] theorem Ok_aug {op : Bop} : Ok (Pv.run Φ fu (.aug i op e) σ g) Q = ∃ x, σ[i]? = some (some x) ∧ Ok (ev Φ e σ g) fun y g => ∃ z, augV op x y = some z ∧ Q (.nx (σ.set i (some z))) g := by
  conv => lhs; unfold Pv.run
  simp only [Ok_bind, Ok_ok, Ok_slot, Ok_lift]
@[simp] theorem Ok_setIx : Ok (Pv.run Φ fu (.setIx i k e) σ g) Q = Ok (ev Φ e σ g) fun v g => ∃ d, σ[i]? = some (some d) ∧ Ok (ev Φ k σ g) fun kv g => ∃ d', setIxV d kv v = some d' ∧ Q (.nx (σ.set i (some d'))) g := by
  conv => lhs; unfold Pv.run
  simp only [Ok_bind, Ok_ok, Ok_slot, Ok_lift]
@[simp] theorem Ok_setKey : Ok (Pv.run Φ fu (.setKey i k e) σ g) Q = Ok (ev Φ e σ g) fun v g => ∃ d, σ[i]? = some (some d) ∧ Ok (ev Φ k σ g) fun kv g => ∃ d', setKeyV d kv v = some d' ∧ Q (.nx (σ.set i (some d'))) g := by
  conv => lhs; unfold Pv.run
  simp only [Ok_bind, Ok_ok, Ok_slot, Ok_lift]
@[simp] theorem Ok_nset : Ok (Pv.run Φ fu (.nset i k e) σ g) Q = Ok (ev Φ e σ g) fun v g => ∃ d, σ[i]? = some (some d) ∧ Ok (ev Φ k σ g) fun kv g => ∃ d', nsetV d kv v = some d' ∧ Q (.nx (σ.set i (some d'))) g := by
  conv => lhs; unfold Pv.run
  simp only [Ok_bind, Ok_ok, Ok_slot, Ok_lift]
@[simp] theorem Ok_app : Ok (Pv.run Φ fu (.app i e) σ g) Q = ∃ x, σ[i]? = some (some x) ∧ Ok (ev Φ e σ g) fun v g => ∃ d, σ[i]? = some (some d) ∧ ∃ d', appV d v = some d' ∧ Q (.nx (σ.set i (some d'))) g := by
  conv => lhs; unfold Pv.run
  simp only [Ok_bind, Ok_ok, Ok_slot, Ok_lift]
@[simp] theorem Ok_ext : Ok (Pv.run Φ fu (.ext i e) σ g) Q = ∃ x, σ[i]? = some (some x) ∧ Ok (ev Φ e σ g) fun v g => ∃ d, σ[i]? = some (some d) ∧ ∃ d', extV d v = some d' ∧ Q (.nx (σ.set i (some d'))) g := by
  conv => lhs; unfold Pv.run
  simp only [Ok_bind, Ok_ok, Ok_slot, Ok_lift]
@[simp] theorem Ok_augIx {op : Bop} : Ok (Pv.run Φ fu (.augIx i op k e) σ g) Q = ∃ d, σ[i]? = some (some d) ∧ Ok (ev Φ k σ g) fun kv g => ∃ old, idxV d kv = some old ∧ Ok (ev Φ e σ g) fun y g => ∃ z, augV op old y = some z ∧ ∃ d', setIxV d kv z = some d' ∧ Q (.nx (σ.set i (some d'))) g := by
  conv => lhs; unfold Pv.run
  simp only [Ok_bind, Ok_lift, Ok_ok, Ok_slot]
@[simp] theorem Ok_popS : Ok (Pv.run Φ fu (.popS i) σ g) Q = ∃ d, σ[i]? = some (some d) ∧ ∃ d', popV d = some d' ∧ Q (.nx (σ.set i (some d'))) g := by
  conv => lhs; unfold Pv.run
  simp only [Ok_bind, Ok_lift, Ok_ok, Ok_slot]
@[simp] theorem Ok_popX {j : Nat} : Ok (Pv.run Φ fu (.popX j i) σ g) Q = ∃ d, σ[i]? = some (some d) ∧ ∃ p, popD d = some p ∧ Q (.nx ((σ.set i (some p.2)).set j (some p.1))) g := by
  conv => lhs; unfold Pv.run
  simp only [Ok_bind, Ok_lift, Ok_ok, Ok_slot]
@[simp] theorem Ok_popI {j : Nat} : Ok (Pv.run Φ fu (.popI j i e) σ g) Q = ∃ x, σ[i]? = some (some x) ∧ Ok (ev Φ e σ g) fun v g => ∃ d, σ[i]? = some (some d) ∧ ∃ p, popAtD d v = some p ∧ Q (.nx ((σ.set i (some p.2)).set j (some p.1))) g := by
  conv => lhs; unfold Pv.run
  simp only [Ok_bind, Ok_lift, Ok_ok, Ok_slot]
@[simp] theorem Ok_setF {c : Nat} {f : Str} : Ok (Pv.run Φ fu (.setF i c f e) σ g) Q = Ok (ev Φ e σ g) fun v g => ∃ d, σ[i]? = some (some d) ∧ ∃ d', setFV c f v d = some d' ∧ Q (.nx (σ.set i (some d'))) g := by
  conv => lhs; unfold Pv.run
  simp only [Ok_bind, Ok_lift, Ok_ok, Ok_slot]
@[simp] theorem Ok_setF2 {c : Nat} {f h : Str} : Ok (Pv.run Φ fu (.setF2 i c f h e) σ g) Q = Ok (ev Φ e σ g) fun v g => ∃ d, σ[i]? = some (some d) ∧ ∃ d', setFV2 c f h v d = some d' ∧ Q (.nx (σ.set i (some d'))) g := by
  conv => lhs; unfold Pv.run
  simp only [Ok_bind, Ok_lift, Ok_ok, Ok_slot]
@[simp] theorem Ok_rais {c : Nat} : Ok (Pv.run Φ fu (.rais c as) σ g) Q = Ok (evs Φ as σ g) fun vs g => Q (.ex σ c vs) g := by
  conv => lhs; unfold Pv.run
  simp only [Ok_bind, Ok_ok]
def endQ (k : Kx) (σ : Sl) (Q : Fl → G → Prop) (v : D) (g : G) : Prop := match k with
  | .ret => Q (.rt v) g
  | .ex => Q (.nx σ) g
  | .set t => ∃ σ', setT t v σ = some σ' ∧ Q (.nx σ') g
  | .tup c k => endQ k σ Q (.tuple [.str c, v]) g
  | .rep k => ∃ r, biV .repr [v] = some r ∧ endQ k σ Q r g
@[simp] theorem endQ_tup {σ : Sl} {Q : Fl → G → Prop} {g : G} {c : Str} {k : Kx} {v : D} : endQ (.tup c k) σ Q v g = endQ k σ Q (.tuple [.str c, v]) g := (rfl)
@[simp] theorem endQ_rep {σ : Sl} {Q : Fl → G → Prop} {g : G} {k : Kx} {v : D} : endQ (.rep k) σ Q v g = ∃ r, biV .repr [v] = some r ∧ endQ k σ Q r g := (rfl)
theorem Ok_endV {σ : Sl} {Q : Fl → G → Prop} {g : G} : ∀ {k : Kx} {v : D}, Ok (endV σ g k v) Q = endQ k σ Q v g
  | .ret, v => by unfold endV endQ; simp
  | .ex, v => by unfold endV endQ; simp
  | .set t, v => by unfold endV endQ; simp
  | .tup c k, v => by unfold endV endQ; exact Ok_endV
  | .rep k, v => by
    unfold endV endQ
    rw [Ok_bind, Ok_lift]
    simp only [Ok_endV]
@[simp] theorem endQ_ret {v : D} : endQ .ret σ Q v g = Q (.rt v) g := (rfl)
@[simp] theorem endQ_ex {v : D} : endQ .ex σ Q v g = Q (.nx σ) g := (rfl)
@[simp] theorem endQ_set {v : D} {t : List Nat} : endQ (.set t) σ Q v g = ∃ σ', setT t v σ = some σ' ∧ Q (.nx σ') g := (rfl)
theorem Ok_endX {k : Kx} {r : Res D} : Ok (endX k σ r) Q = OkX r (endQ k σ Q) fun c vs g => Q (.ex σ c vs) g := by
  cases r with
  | ok v g => simp [endX, Ok_endV]
  | exc c vs g => simp [endX]
  | no => simp [endX]
@[simp] theorem Ok_callX {k : Kx} {f : Nat} : Ok (Pv.run Φ fu (.callX k f as none) σ g) Q = Ok (evs Φ as σ g) fun vs g => OkX (Φ f vs g) (endQ k σ Q) fun c vs g => Q (.ex σ c vs) g := by
  conv => lhs; unfold Pv.run
  simp only [Ok_bind, Ok_endX]
@[simp] theorem Ok_callXK {k : Kx} {f : Nat} {p : List Nat} : Ok (Pv.run Φ fu (.callX k f as (some p)) σ g) Q = Ok (evs Φ as σ g) fun vs g => OkX (Φ f (pm p vs) g) (endQ k σ Q) fun c vs g => Q (.ex σ c vs) g := by
  conv => lhs; unfold Pv.run
  simp only [Ok_bind, Ok_endX]
@[simp] theorem Ok_methX {k : Kx} {c f : Nat} {o : Ex} : Ok (Pv.run Φ fu (.methX k c f o as) σ g) Q = Ok (ev Φ o σ g) fun x g => isOb c x = true ∧ Ok (evs Φ as σ g) fun vs g => OkX (Φ f (x :: vs) g) (endQ k σ Q) fun c vs g => Q (.ex σ c vs) g := by
  conv => lhs; unfold Pv.run
  simp only [Ok_bind]
  congr; funext x g
  by_cases h : isOb c x = true <;> simp [h, Ok_endX]
@[simp] theorem Ok_mkX {k : Kx} {c f : Nat} : Ok (Pv.run Φ fu (.mkX k c f as) σ g) Q = Ok (evs Φ as σ g) fun vs g => g ≠ none ∧ OkX (Φ f (objD c [] :: vs) g) (endQ k σ Q) fun c vs g => Q (.ex σ c vs) g := by
  conv => lhs; unfold Pv.run
  simp only [Ok_bind]
  congr; funext vs g
  cases g <;> simp [Ok_endX]
def suiF (i : Option Nat) (Q : Fl → G → Prop) : Fl → G → Prop
  | .nx σ, g => Q (.nx (clr i σ)) g
  | .bk σ, g => Q (.bk (clr i σ)) g
  | .ct σ, g => Q (.ct (clr i σ)) g
  | .rt v, g => Q (.rt v) g
  | .ex _ _ _, _ => False
section
variable {i : Option Nat} {Q : Fl → G → Prop} {σ : Sl} {g : G}
@[simp] theorem suiF_nx : suiF i Q (.nx σ) g = Q (.nx (clr i σ)) g := (rfl)
@[simp] theorem suiF_bk : suiF i Q (.bk σ) g = Q (.bk (clr i σ)) g := (rfl)
@[simp] theorem suiF_ct : suiF i Q (.ct σ) g = Q (.ct (clr i σ)) g := (rfl)
@[simp] theorem suiF_rt {v : D} : suiF i Q (.rt v) g = Q (.rt v) g := (rfl)
@[simp] theorem suiF_ex {c : Nat} {vs : List D} : suiF i Q (.ex σ c vs) g = False := (rfl)
end
def tryF (Φ : Fns) (fu : Nat) (sel : Nat → Bool) (h : Nat → List D → Sm) (i : Option Nat) (Q : Fl → G → Prop) : Fl → G → Prop
  | .ex σ c vs, g => if sel c = true then okI i σ = true ∧ Ok (Pv.run Φ fu (h c vs) (clr i σ) g) (suiF i Q) else Q (.ex σ c vs) g
  | fl, g => Q fl g
section
variable {Φ : Fns} {fu : Nat} {sel : Nat → Bool} {h : Nat → List D → Sm} {i : Option Nat} {Q : Fl → G → Prop} {σ : Sl} {g : G}
@[simp] theorem tryF_ex {c : Nat} {vs : List D} : tryF Φ fu sel h i Q (.ex σ c vs) g = if sel c = true then okI i σ = true ∧ Ok (Pv.run Φ fu (h c vs) (clr i σ) g) (suiF i Q) else Q (.ex σ c vs) g := (rfl)
@[simp] theorem tryF_nx : tryF Φ fu sel h i Q (.nx σ) g = Q (.nx σ) g := (rfl)
@[simp] theorem tryF_bk : tryF Φ fu sel h i Q (.bk σ) g = Q (.bk σ) g := (rfl)
@[simp] theorem tryF_ct : tryF Φ fu sel h i Q (.ct σ) g = Q (.ct σ) g := (rfl)
@[simp] theorem tryF_rt {v : D} : tryF Φ fu sel h i Q (.rt v) g = Q (.rt v) g := (rfl)
end
@[simp] theorem Ok_xf {xt : List (Option Str)} {c : Nat} {vs : List D} {f : Str} {Q : D → G → Prop} : Ok (ev Φ (xfE xt c vs f) σ g) Q = (xt[c]? = some (some f) ∧ Q (vs.getD 0 .none) g) := by
  unfold xfE
  by_cases h : xt[c]? = some (some f)
  · rw [if_pos h]; simp [h]
  · rw [if_neg h]; simp [h, idxV]
@[simp] theorem Ok_xi {bt : List Bool} {c : Nat} {Q : D → G → Prop} : Ok (ev Φ (xiE bt c) σ g) Q = Q (.bool (bt.getD c false)) g := by
  unfold xiE; simp
@[simp] theorem Ok_bad : Ok (Pv.run Φ fu .bad σ g) Q = False := by
  conv => lhs; unfold Pv.run
  exact Ok_no
@[simp] theorem Ok_setd : Ok (Pv.run Φ fu (.setd i k e) σ g) Q = ∃ d, σ[i]? = some (some d) ∧ Ok (ev Φ k σ g) fun kv g => Ok (ev Φ e σ g) fun v g => ∃ d', setdV d kv v = some d' ∧ Q (.nx (σ.set i (some d'))) g := by
  conv => lhs; unfold Pv.run
  simp only [Ok_bind, Ok_ok, Ok_slot, Ok_lift]
@[simp] theorem Ok_sif {a : Sm} : Ok (Pv.run Φ fu (.ite t a b) σ g) Q = Ok (ev Φ t σ g) fun x g => ∃ k : Bool, x = .bool k ∧ if k = true then Ok (Pv.run Φ fu a σ g) Q else Ok (Pv.run Φ fu b σ g) Q := by
  conv => lhs; unfold Pv.run
  simp only [Ok_bind]
  congr; funext x g
  cases x with
  | bool k => cases k <;> simp
  | _ => simp
@[simp] theorem Ok_ret : Ok (Pv.run Φ fu (.ret e) σ g) Q = Ok (ev Φ e σ g) fun v g => Q (.rt v) g := by
  conv => lhs; unfold Pv.run
  simp only [Ok_bind, Ok_ok]
@[simp] theorem Ok_brk : Ok (Pv.run Φ fu .brk σ g) Q = Q (.bk σ) g := Ok_ok
@[simp] theorem Ok_cnt : Ok (Pv.run Φ fu .cnt σ g) Q = Q (.ct σ) g := Ok_ok
@[simp] theorem Ok_sex : Ok (Pv.run Φ fu (.ex e) σ g) Q = Ok (ev Φ e σ g) fun _ g => Q (.nx σ) g := by
  conv => lhs; unfold Pv.run
  simp only [Ok_bind, Ok_ok]
def turnF (Φ : Fns) (fu : Nat) (t : List Nat) (b : Sm) (x : D) (σ : Sl) (g : G) : Res Fl := (lift (setT t x σ) g).bind fun σ g => Pv.run Φ fu b σ g
@[simp] theorem Ok_turnF {t : List Nat} {x : D} : Ok (turnF Φ fu t b x σ g) Q = ∃ σ', setT t x σ = some σ' ∧ Ok (Pv.run Φ fu b σ' g) Q := by
  unfold turnF
  simp only [Ok_bind, Ok_lift]
theorem Ok_for {t : List Nat} {k : Ik} : Ok (Pv.run Φ fu (.forr t k as b) σ g) Q = Ok (evs Φ as σ g) fun vs g => ∃ xs, itV k vs = some xs ∧ Ok (forL (turnF Φ fu t b) xs σ g) Q := by
  conv => lhs; unfold Pv.run
  simp only [Ok_bind, Ok_lift]; rfl
theorem Ok_while : Ok (Pv.run Φ fu (.whil t b) σ g) Q = Ok (whileL (fun σ g => ev Φ t σ g) (fun σ g => Pv.run Φ fu b σ g) fu σ g) Q := by
  conv => lhs; unfold Pv.run
end
theorem ok_forL {f : D → Sl → G → Res Fl} {Q : Fl → G → Prop} (I : Nat → Sl → G → Prop) : ∀ {xs : List D} {σ : Sl} {g : G}, I 0 σ g → (∀ k x σ g, xs[k]? = some x → I k σ g → Ok (f x σ g) (loopF (I (k + 1)) Q)) → (∀ σ g, I xs.length σ g → Q (.nx σ) g) → Ok (forL f xs σ g) Q := by
  intro xs
  induction xs generalizing I with
  | nil => exact fun h0 _ h2 => ⟨_, _, rfl, h2 _ _ h0⟩
  | cons x xs ih =>
    intro σ g h0 h1 h2
    show Ok ((f x σ g).bind _) Q
    rw [Ok_bind]
    refine (h1 0 x σ g rfl h0).mono fun fl g h => ?_
    cases fl with
    | nx σ => exact ih (fun k => I (k + 1)) h (fun k y σ g hy hi => h1 (k + 1) y σ g (by rw [List.getElem?_cons_succ]; exact hy) hi) h2
    | ct σ => exact ih (fun k => I (k + 1)) h (fun k y σ g hy hi => h1 (k + 1) y σ g (by rw [List.getElem?_cons_succ]; exact hy) hi) h2
    | bk σ => exact ⟨_, _, rfl, h⟩
    | rt v => exact ⟨_, _, rfl, h⟩
    | ex σ c vs => exact ⟨_, _, rfl, h⟩
theorem ok_whileL {c : Sl → G → Res D} {b : Sl → G → Res Fl} {Q : Fl → G → Prop} (I : Nat → Sl → G → Prop)
    (h : ∀ m σ g, I m σ g → Ok (c σ g) fun v g => ∃ k : Bool, v = .bool k ∧ if k = true then Ok (b σ g) (loopF (fun σ g => ∃ m', m' < m ∧ I m' σ g) Q) else Q (.nx σ) g) :
    ∀ (n m : Nat) {σ : Sl} {g : G}, m < n → I m σ g → Ok (whileL c b n σ g) Q := by
  intro n
  induction n with
  | zero => exact fun m _ _ h _ => absurd h (Nat.not_lt_zero _)
  | succ n ih =>
    intro m σ g hm hI
    show Ok ((c σ g).bind _) Q
    rw [Ok_bind]
    refine (h m σ g hI).mono ?_
    rintro _ g1 ⟨k, rfl, h1⟩
    cases k with
    | false => simpa using h1
    | true =>
      rw [if_pos rfl] at h1
      show Ok ((b σ g1).bind _) Q
      rw [Ok_bind]
      refine h1.mono fun fl g2 h2 => ?_
      cases fl with
      | nx σ =>
        obtain ⟨m', h3, h4⟩ := h2
        exact ih m' (by omega) h4
      | ct σ =>
        obtain ⟨m', h3, h4⟩ := h2
        exact ih m' (by omega) h4
      | bk σ => exact ⟨_, _, rfl, h2⟩
      | rt v => exact ⟨_, _, rfl, h2⟩
      | ex σ c vs => exact ⟨_, _, rfl, h2⟩
theorem ok_compM {α β : Type} {em : α → D} {eo : β → D} {f : D → G → Res (Option D)} {u : α → Option β} {xs : List α} {g : G} {Q : List D → G → Prop} (h : ∀ x ∈ xs, Ok (f (em x) g) fun o g' => o = (u x).map eo ∧ g' = g) (q : Q ((xs.filterMap u).map eo) g) : Ok (compL f (xs.map em) [] g) Q := by
  rw [compL_eq (em := em) (eo := eo) (u := u) (acc := []) fun x hx => (h x hx).eq]
  exact ⟨_, _, rfl, q⟩
section
variable {i j : Int}
@[simp] theorem binV_add : binV .add (.int i) (.int j) = some (.int (i + j)) := (rfl)
@[simp] theorem binV_sub : binV .sub (.int i) (.int j) = some (.int (i - j)) := (rfl)
@[simp] theorem binV_mul : binV .mul (.int i) (.int j) = if mulOk i j then some (.int (i * j)) else none := (rfl)
@[simp] theorem binV_mod : binV .mod (.int i) (.int j) = if 0 < j then some (.int (i % j)) else none := by simp [binV]
@[simp] theorem binV_fdiv : binV .fdiv (.int i) (.int j) = if 0 < j ∧ j.natAbs.log2 < 9000 then some (.int (i / j)) else if j < 0 ∧ j.natAbs.log2 < 9000 then some (.int (i.fdiv j)) else none := by simp [binV]
@[simp] theorem binV_pow : binV .pow (.int i) (.int j) = if powOk i j then some (.int (i ^ j.toNat)) else none := (rfl)
@[simp] theorem cmpV_eq : cmpV .eq (.int i) (.int j) = some (decide (i = j)) := (rfl)
@[simp] theorem cmpV_ne : cmpV .ne (.int i) (.int j) = some (!decide (i = j)) := (rfl)
@[simp] theorem cmpV_lt : cmpV .lt (.int i) (.int j) = some (decide (i < j)) := (rfl)
@[simp] theorem cmpV_gt : cmpV .gt (.int i) (.int j) = some (decide (j < i)) := (rfl)
@[simp] theorem cmpV_le : cmpV .le (.int i) (.int j) = some (decide (i ≤ j)) := (rfl)
@[simp] theorem cmpV_ge : cmpV .ge (.int i) (.int j) = some (decide (j ≤ i)) := (rfl)
@[simp] theorem truV_int : truV (.int i) = some (i != 0) := (rfl)
@[simp] theorem truV_bool {b : Bool} : truV (.bool b) = some b := (rfl)
@[simp] theorem truV_none : truV .none = some false := (rfl)
@[simp] theorem augV_add : augV .add (.int i) (.int j) = some (.int (i + j)) := (rfl)
@[simp] theorem augV_sub : augV .sub (.int i) (.int j) = some (.int (i - j)) := (rfl)
@[simp] theorem biV_toInt : biV .toInt [.int i] = some (.int i) := (rfl)
@[simp] theorem biV_abs : biV .abs [.int i] = some (.int (if i < 0 then -i else i)) := (rfl)
@[simp] theorem biV_min : biV .min2 [.int i, .int j] = some (.int (if j < i then j else i)) := (rfl)
@[simp] theorem biV_max : biV .max2 [.int i, .int j] = some (.int (if i < j then j else i)) := (rfl)
@[simp] theorem biV_len {xs : List D} : biV .len [.list xs] = some (.int xs.length) := (rfl)
@[simp] theorem biV_lenT {xs : List D} : biV .len [.tuple xs] = some (.int xs.length) := (rfl)
@[simp] theorem biV_tup {xs : List D} : biV .toTuple [.list xs] = some (.tuple xs) := (rfl)
@[simp] theorem biV_tupT {xs : List D} : biV .toTuple [.tuple xs] = some (.tuple xs) := (rfl)
@[simp] theorem biV_lst {xs : List D} : biV .toList [.list xs] = some (.list xs) := (rfl)
@[simp] theorem biV_lstT {xs : List D} : biV .toList [.tuple xs] = some (.list xs) := (rfl)
@[simp] theorem setT_1 {k : Nat} {v : D} {σ : Sl} : setT [k] v σ = some (σ.set k (some v)) := (rfl)
@[simp] theorem setT_2 {k l : Nat} {v w : D} {σ : Sl} : setT [k, l] (.tuple [v, w]) σ = some ((σ.set k (some v)).set l (some w)) := (rfl)
@[simp] theorem setT_3 {k l m : Nat} {v w x : D} {σ : Sl} : setT [k, l, m] (.tuple [v, w, x]) σ = some (((σ.set k (some v)).set l (some w)).set m (some x)) := (rfl)
@[simp] theorem setT_2l {k l : Nat} {v w : D} {σ : Sl} : setT [k, l] (.list [v, w]) σ = some ((σ.set k (some v)).set l (some w)) := (rfl)
@[simp] theorem setT_3l {k l m : Nat} {v w x : D} {σ : Sl} : setT [k, l, m] (.list [v, w, x]) σ = some (((σ.set k (some v)).set l (some w)).set m (some x)) := (rfl)
@[simp] theorem setT_4 {k l m n : Nat} {v w x y : D} {σ : Sl} : setT [k, l, m, n] (.tuple [v, w, x, y]) σ = some ((((σ.set k (some v)).set l (some w)).set m (some x)).set n (some y)) := (rfl)
@[simp] theorem mulOk_l' (h : i.natAbs < 18446744073709551616) : mulOk i j = true := by
  unfold mulOk
  rw [decide_eq_true h, Bool.true_or, Bool.true_or]
@[simp] theorem mulOk_r' (h : j.natAbs < 18446744073709551616) : mulOk i j = true := by
  unfold mulOk
  rw [decide_eq_true h, Bool.or_true, Bool.true_or]
end
theorem idx_list {xs : List D} {n : Nat} {x : D} (h : xs[n]? = some x) : idxV (.list xs) (.int n) = some x := L2.atI_nat h
end Pv
end

section
set_option autoImplicit false
namespace Pv
open PySem

def Sz (k : Nat) (i : Int) : Prop := i.natAbs < 2 ^ k
def euOk (n : Nat) (a b : Int) : Prop := 0 ≤ b ∧ b ≤ a ∧ a * b < 2 ^ n
abbrev Fm := Int × Int × Int
def fL (f : Fm) : List Int := [f.1, f.2.1, f.2.2]
def fD (f : Fm) : D := .tuple [.int f.1, .int f.2.1, .int f.2.2]
theorem atI_nn {α : Type} {xs : List α} {i : Int} {x : α} (h0 : 0 ≤ i) (h : xs[i.toNat]? = some x) : L2.atI xs i = some x := by
  have e : i = (i.toNat : Int) := by omega
  rw [e]; exact L2.atI_nat h
theorem idx_t {xs : List D} {i : Int} (h0 : 0 ≤ i) (h1 : i < xs.length) : ∃ x, x ∈ xs ∧ idxV (.tuple xs) (.int i) = some x := by
  have h : i.toNat < xs.length := by omega
  exact ⟨xs[i.toNat], List.getElem_mem h, atI_nn h0 (List.getElem?_eq_getElem h)⟩
theorem idx_l {xs : List D} {i : Int} (h0 : 0 ≤ i) (h1 : i < xs.length) : ∃ x, x ∈ xs ∧ idxV (.list xs) (.int i) = some x := by
  have h : i.toNat < xs.length := by omega
  exact ⟨xs[i.toNat], List.getElem_mem h, atI_nn h0 (List.getElem?_eq_getElem h)⟩
end Pv
end

section
set_option autoImplicit false
namespace Pv
open PySem
section
variable {Φ : Fns} {fu : Nat} {σ : Sl} {g : G} {Q : D → G → Prop} {a b c e : Ex} {as : Exs}
@[simp] theorem Ok_dkGet {t : Bool} : Ok (ev Φ (.dkGet t a) σ g) Q = Ok (ev Φ a σ g) fun x g => ∃ z, dkGetV t x g = some z ∧ Q z g := by
  conv => lhs; unfold ev
  simp only [Ok_bind, Ok_lift]
@[simp] theorem Ok_dkHas : Ok (ev Φ (.dkHas a) σ g) Q = Ok (ev Φ a σ g) fun x g => ∃ z, dkHasV x g = some z ∧ Q z g := by
  conv => lhs; unfold ev
  simp only [Ok_bind, Ok_lift]
@[simp] theorem Ok_dkPop : Ok (ev Φ (.dkPop a) σ g) Q = Ok (ev Φ a σ g) fun x g => Ok (dkPopV x g) Q := by
  conv => lhs; unfold ev
  simp only [Ok_bind]
@[simp] theorem Ok_dkPush : Ok (ev Φ (.dkPush a e) σ g) Q = Ok (ev Φ a σ g) fun x g => ∃ st, g = some st ∧ Ok (ev Φ e σ g) fun v g => Ok (dkPushV x v g) Q := by
  conv => lhs; unfold ev
  simp only [Ok_bind]
  congr; funext x g
  cases g <;> simp
@[simp] theorem Ok_dkNew : Ok (ev Φ (.dkNew a b c) σ g) Q = Ok (ev Φ a σ g) fun x g => Ok (ev Φ b σ g) fun y g => Ok (ev Φ c σ g) fun z g => Ok (dkNewV x y z g) Q := by
  conv => lhs; unfold ev
  simp only [Ok_bind]
@[simp] theorem Ok_dkNew2 : Ok (ev Φ (.dkNew2 a b) σ g) Q = Ok (ev Φ a σ g) fun x g => Ok (ev Φ b σ g) fun y g => Ok (dkNewV x y (.int 0) g) Q := by
  conv => lhs; unfold ev
  simp only [Ok_bind]
@[simp] theorem Ok_scr {ns : List Int} {n : Nat} : Ok (ev Φ (.scr a ns n) σ g) Q = Ok (ev Φ a σ g) fun x g => isTok 1 x = true ∧ Q (.list ((ns.take n).map .int)) g := by
  conv => lhs; unfold ev
  simp only [Ok_bind]
  congr; funext x g
  by_cases h : isTok 1 x = true <;> simp [h]
@[simp] theorem Ok_dkSet {t : Bool} {Q : Fl → G → Prop} : Ok (Pv.run Φ fu (.dkSet t a e) σ g) Q = Ok (ev Φ e σ g) fun v g => Ok (ev Φ a σ g) fun x g => ∃ g', dkSetV t x v g = some g' ∧ Q (.nx σ) g' := by
  conv => lhs; unfold Pv.run
  simp only [Ok_bind, Ok_lift, Ok_ok]
end
section
variable {st : Dk} {n : Int} {Q : D → G → Prop}
@[simp] theorem dkGet_t : dkGetV true (tokD 0) (some st) = some (.int st.turn) := (rfl)
@[simp] theorem dkGet_f : dkGetV false (tokD 0) (some st) = some (.int st.mixed) := (rfl)
@[simp] theorem dkHas_e : dkHasV (tokD 0) (some st) = some (.bool (!st.cells.isEmpty)) := (rfl)
@[simp] theorem dkSet_t {c : Int} : dkSetV true (tokD 0) (.int c) (some st) = some (some { st with turn := c }) := (rfl)
@[simp] theorem dkSet_f {c : Int} : dkSetV false (tokD 0) (.int c) (some st) = some (some { st with mixed := c }) := (rfl)
end
@[simp] theorem lg2 : Nat.log2 2 < 9000 := by decide
@[simp] theorem lg4 : Nat.log2 4 < 9000 := by decide
@[simp] theorem lg64 : Nat.log2 64 < 9000 := by decide
theorem Ok_F {T : List Fn} {d f np nl : Nat} {body : Sm} {as : List D} {σ : Sl} {g : G} {Q : D → G → Prop} (hb : Ok (Pv.run (FT T (fun _ => none) d) fuel body σ g) (retF Q))
    (h : T[f]? = some ⟨np, nl, body⟩ := by rfl) (hl : as.length = np := by rfl) (hσ : as.map some ++ List.replicate (nl - np) none = σ := by rfl) : Ok (FT T (fun _ => none) (d + 1) f as g) Q := by
  subst hσ
  exact Ok_FT h hl hb
theorem OkX_F {T : List Fn} {d f np nl : Nat} {body : Sm} {as : List D} {σ : Sl} {g : G} {Q : D → G → Prop} {E : Nat → List D → G → Prop} (hb : Ok (Pv.run (FT T (fun _ => none) d) fuel body σ g) (retX Q E))
    (h : T[f]? = some ⟨np, nl, body⟩ := by rfl) (hl : as.length = np := by rfl) (hσ : as.map some ++ List.replicate (nl - np) none = σ := by rfl) : OkX (FT T (fun _ => none) (d + 1) f as g) Q E := by
  subst hσ
  exact OkX_FT h hl hb
theorem OkX.exc {r : Res D} {c : Nat} {vs : List D} {g : G} (h : OkX r (fun _ _ => False) fun c' vs' g' => c' = c ∧ vs' = vs ∧ g' = g) : r = .exc c vs g := by
  rcases h with ⟨_, _, _, q⟩ | ⟨_, _, _, e, rfl, rfl, rfl⟩
  · exact q.elim
  · exact e
def DkOk (n : Nat) (g : G) : Prop := ∃ st : Dk, g = some st ∧ st.cells.length ≤ 63 ∧ 0 ≤ st.turn ∧ st.turn ≤ n
end Pv
end

section
set_option autoImplicit false
namespace Pv
open PySem
abbrev Po := List Int
def cf (f : Po) (i : Nat) : Int := f.getD i 0
def addL : Po → Po → Po
  | [], g => g
  | f, [] => f
  | a :: f, b :: g => (a + b) :: addL f g
def smulL (a : Int) (f : Po) : Po := f.map fun x => a * x
def mulL : Po → Po → Po
  | [], _ => []
  | a :: f, g => addL (smulL a g) (0 :: mulL f g)
@[simp] theorem cf_nil (i : Nat) : cf [] i = 0 := by simp [cf]
@[simp] theorem cf_zero (a : Int) (f : Po) : cf (a :: f) 0 = a := by simp [cf]
@[simp] theorem cf_succ (a : Int) (f : Po) (i : Nat) : cf (a :: f) (i + 1) = cf f i := by simp [cf]
@[simp] theorem cf_add : ∀ (f g : Po) (i : Nat), cf (addL f g) i = cf f i + cf g i
  | [], g, i => by simp [addL]
  | a :: f, [], i => by simp [addL]
  | a :: f, b :: g, 0 => by simp [addL]
  | a :: f, b :: g, i + 1 => by simp [addL, cf_add f g i]
@[simp] theorem cf_smul (a : Int) : ∀ (f : Po) (i : Nat), cf (smulL a f) i = a * cf f i
  | [], i => by simp [smulL]
  | b :: f, 0 => by simp [smulL]
  | b :: f, i + 1 => by
    have := cf_smul a f i
    unfold smulL at this
    simp [smulL, this]
def sh (u : Nat → Int) : Nat → Int
  | 0 => 0
  | i + 1 => u i
def Mq (p : Int) (f g : Po) : Prop := ∀ i, p ∣ cf f i - cf g i
section
variable {p : Int} {f g h k : Po}
end
def Cg (p : Int) (g a b : Po) : Prop := ∃ q, Mq p a (addL (mulL q g) b)
section
variable {p : Int} {g a b c d : Po}
end
structure Can (p : Int) (f : Po) : Prop where
  in_ : ∀ x ∈ f, 0 ≤ x ∧ x < p
  top : ∀ n, f.length = n + 1 → cf f n ≠ 0
def Lead (p : Int) (g : Po) (m : Nat) : Prop := g.length = m + 1 ∧ ∃ c, p ∣ c * cf g m - 1
structure IsRem (p : Int) (g f r : Po) : Prop where
  can : Can p r
  len : r.length < g.length
  cg : Cg p g f r
end Pv
end

section
set_option autoImplicit false
namespace Pv
open PySem
def lD (f : Po) : D := .list (f.map .int)
theorem cf_lt {f : Po} {i : Nat} (h : i < f.length) : cf f i = f[i] := by unfold cf; simp [h]
theorem get_cf {f : Po} {i : Nat} (h : i < f.length) : f[i]? = some (cf f i) := by
  rw [cf_lt h, List.getElem?_eq_getElem h]
theorem cf_set {f : Po} {i j : Nat} {v : Int} (h : i < f.length) : cf (f.set i v) j = if j = i then v else cf f j := by
  unfold cf
  rw [List.getD_eq_getElem?_getD, List.getD_eq_getElem?_getD, List.getElem?_set]
  by_cases q : i = j
  · subst q; simp [h]
  · rw [if_neg q, if_neg (fun e : j = i => q e.symm)]
def Rg (p : Int) (f : Po) : Prop := ∀ i, 0 ≤ cf f i ∧ cf f i < p
def endN (f : Po) : Nat → Nat
  | 0 => 0
  | n + 1 => if cf f n = 0 then endN f n else n + 1
def trimL (f : Po) : Po := f.take (endN f f.length)
def shN (n : Nat) (f : Po) : Po := List.replicate n 0 ++ f
theorem emod_rg (x : Int) {p : Int} (hp : 0 < p) : 0 ≤ x % p ∧ x % p < p := ⟨Int.emod_nonneg _ (by omega), Int.emod_lt_of_pos _ hp⟩
theorem dvd_emod (x p : Int) : p ∣ x % p - x := ⟨-(x / p), by rw [Int.emod_def]; grind⟩
theorem dvd_emod' (x p : Int) : p ∣ x - x % p := ⟨x / p, by rw [Int.emod_def]; grind⟩
theorem rg_zero {p x : Int} (h0 : 0 ≤ x) (h1 : x < p) (h : p ∣ x) : x = 0 := by rw [← Int.emod_eq_of_lt h0 h1]; exact Int.emod_eq_zero_of_dvd h
theorem rg_eq {p x y : Int} (h0 : 0 ≤ x) (h1 : x < p) (k0 : 0 ≤ y) (k1 : y < p) (h : p ∣ x - y) : x = y := by
  rw [← Int.emod_eq_of_lt h0 h1, ← Int.emod_eq_of_lt k0 k1]
  exact Int.emod_eq_emod_iff_emod_sub_eq_zero.mpr (Int.emod_eq_zero_of_dvd h)
def pmL : List Int := [7, 11, 13, 17, 19, 23, 29, 31, 37, 41, 43, 47, 53, 59, 61, 67, 71, 73, 79, 83, 89, 97, 101, 103, 107, 109, 113, 127, 131, 137, 139, 149, 151, 157, 163, 167, 173, 179, 181, 191, 193, 197, 199]
def ivP (p a : Int) : Int := a ^ (p - 2).toNat % p
theorem fermat_N : ∀ p ∈ pmL.map Int.toNat, ∀ a ∈ List.range p, a = 0 ∨ a * (a ^ (p - 2) % p) % p = 1 := by decide +kernel
structure Pm (p : Int) : Prop where
  in_ : p ∈ pmL
theorem Pm.bd {p : Int} (h : Pm p) : 7 ≤ p ∧ p ≤ 199 := (by decide : ∀ p ∈ pmL, 7 ≤ p ∧ p ≤ 199) p h.in_
theorem Pm.pos {p : Int} (h : Pm p) : 0 < p := by have := h.bd; omega
theorem Pm.one {p : Int} (h : Pm p) : 1 < p := by have := h.bd; omega
theorem Pm.iv_rg {p : Int} (h : Pm p) (a : Int) : 0 ≤ ivP p a ∧ ivP p a < p := emod_rg _ h.pos
theorem Pm.iv0 {p : Int} (h : Pm p) {a : Int} (h0 : 0 < a) (h1 : a < p) : a * ivP p a % p = 1 := by
  have b := h.bd
  have e := fermat_N p.toNat (List.mem_map.mpr ⟨p, h.in_, rfl⟩) a.toNat (List.mem_range.mpr (by omega))
  rcases e with e | e
  · omega
  · have e2 := congrArg (fun n : Nat => (n : Int)) e
    simp only [Int.natCast_emod, Int.natCast_mul, Int.natCast_pow] at e2
    rw [Int.toNat_of_nonneg (by omega), Int.toNat_of_nonneg (by omega)] at e2
    rw [ivP, show (p - 2).toNat = p.toNat - 2 by omega]
    exact e2
theorem Pm.iv {p : Int} (h : Pm p) {a : Int} (ha : ¬ p ∣ a) : p ∣ a * ivP p a - 1 := by
  have hp := h.pos
  have b := emod_rg a hp
  have z : a % p ≠ 0 := fun z => ha (Int.dvd_of_emod_eq_zero z)
  have e := h.iv0 (show 0 < a % p by omega) b.2
  have e2 : ivP p (a % p) = ivP p a := pow_emod' a p _
  rw [e2, mulmod_l] at e
  have := dvd_emod' (a * ivP p a) p
  rwa [e] at this
theorem Pm.dvd {p : Int} (h : Pm p) {a b : Int} (hd : p ∣ a * b) : p ∣ a ∨ p ∣ b := by
  by_cases q : p ∣ a
  · exact .inl q
  · right
    have e := h.iv q
    have := Int.dvd_sub (Int.dvd_trans hd (Int.dvd_mul_right _ (ivP p a))) (Int.dvd_trans e (Int.dvd_mul_right _ b))
    rwa [show a * b * ivP p a - (a * ivP p a - 1) * b = b by grind] at this
def Dv (p : Int) (a b : Po) : Prop := ∃ q, Mq p b (mulL q a)
def Lin (p : Int) (f g a : Po) : Prop := ∃ u v, Mq p a (addL (mulL u f) (mulL v g))
section
variable {p : Int} {f g a b c d : Po}
end
structure DivOk (p : Int) (f g q r : Po) : Prop where
  cq : Can p q
  cr : Can p r
  len : r.length < g.length
  lq : q.length + g.length ≤ f.length + 1 ∨ q = []
  eq : Mq p f (addL (mulL q g) r)
section
variable {p : Int} {f g a b q r : Po}
end
structure Eu (p : Int) (f g a b : Po) : Prop where
  ca : Can p a
  cb : Can p b
  la : Lin p f g a
  lb : Lin p f g b
  lf : Lin p a b f
  lg : Lin p a b g
structure DvI (p : Int) (f g : Po) (m K k : Nat) (xs qs : Po) : Prop where
  lx : xs.length = f.length
  lq : qs.length = K
  rx : Rg p xs
  rq : Rg p qs
  zq : ∀ i, i < K - k → cf qs i = 0
  zx : ∀ i, K - k + m ≤ i → cf xs i = 0
  eq : Mq p f (addL (mulL qs g) xs)
def pwL (f : Po) : Nat → Po
  | 0 => [1]
  | n + 1 => mulL f (pwL f n)
end Pv
end

section
set_option autoImplicit false
namespace Pv
open PySem
theorem idx_lD {f : Po} {i : Int} (h0 : 0 ≤ i) (h1 : i < f.length) : idxV (lD f) (.int i) = some (.int (cf f i.toNat)) := by
  refine atI_nn h0 ?_
  rw [List.getElem?_map, get_cf (by omega)]; rfl
theorem ixN_nn {n : Nat} {i : Int} (h0 : 0 ≤ i) (h1 : i < n) : L2.ixN n i = some i.toNat := by
  unfold L2.ixN
  rw [if_pos h0, if_pos (by omega)]
theorem set_lD {f : Po} {i v : Int} (h0 : 0 ≤ i) (h1 : i < f.length) : setIxV (lD f) (.int i) (.int v) = some (lD (f.set i.toNat v)) := by
  show (L2.ixN (f.map PyData.int).length i).map (fun j => PyData.list ((f.map PyData.int).set j (.int v))) = _
  rw [List.length_map, ixN_nn h0 h1]
  simp [lD, List.map_set]
theorem seq_t (f : Po) : itV .seq [tupD f] = some (f.map .int) := rfl
theorem seq_l (f : Po) : itV .seq [lD f] = some (f.map .int) := rfl
theorem map_at {f : Po} {k : Nat} {x : D} (h : (f.map PyData.int)[k]? = some x) : k < f.length ∧ x = .int (cf f k) := by
  have hk : k < f.length := by
    rcases Nat.lt_or_ge k f.length with q | q
    · exact q
    · rw [List.getElem?_map, List.getElem?_eq_none q] at h; simp at h
  rw [List.getElem?_map, get_cf hk] at h
  simp at h
  exact ⟨hk, h.symm⟩
theorem mulOk_sm {a b : Int} (h0 : -1000000 < b) (h1 : b < 1000000) : mulOk a b = true := mulOk_r (by omega)
end Pv
end

section
set_option autoImplicit false
namespace Pv
open PySem
mutual
def small : D → Bool
  | .none | .bool _ => true
  | .int i => decide (i.natAbs < 2 ^ 20)
  | .str x => PyData.strOk x && decide (x.cps.size ≤ 20)
  | .list xs | .tuple xs => smallAll xs
  | .dict _ => false
def smallAll : List D → Bool
  | [] => true
  | x :: xs => small x && smallAll xs
end
mutual
def cn : D → Nat
  | .list xs | .tuple xs => cnAll xs + 1
  | .none | .bool _ | .int _ | .str _ | .dict _ => 1
def cnAll : List D → Nat
  | [] => 0
  | x :: xs => cn x + cnAll xs
end
theorem p20' : (2 : Nat) ^ 20 ≤ 10 ^ 12 := by decide
theorem small_int {i : Int} (h : i.natAbs < 2 ^ 20) : fine (.int i) = true ∧ (PyData.int i).intsShort 13 = true ∧ (PyData.int i).weight ≤ 20 := by
  have h2 : i.natAbs < 10 ^ 12 := Nat.lt_of_lt_of_le h p20'
  refine ⟨decide_eq_true (Nat.lt_of_lt_of_le h2 (by decide +kernel)), ?_, ?_⟩
  · have e := int_text_length_le10 (k := 12) (by decide) h2
    have e2 : (PyData.shown (.int i)).length ≤ 13 := by
      show (Str.ofString (toString i)).length ≤ 13
      rw [ofString_length]; exact e
    exact decide_eq_true e2
  · unfold PyData.weight
    split
    · omega
    · rename_i z
      have : i.natAbs ≠ 0 := by
        intro q
        apply z
        have : i = 0 := by omega
        rw [this]; rfl
      have := (Nat.log2_lt this).mpr h
      omega
mutual
theorem small_ok : ∀ d : D, small d = true → fine d = true ∧ d.intsShort 13 = true ∧ d.weight + 1 ≤ 22 * cn d
  | .none, _ => ⟨rfl, rfl, by simp [PyData.weight, cn]⟩
  | .bool b, _ => ⟨rfl, rfl, by simp [PyData.weight, cn]⟩
  | .int i, h => by
    obtain ⟨h1, h2, h3⟩ := small_int (of_decide_eq_true h)
    exact ⟨h1, h2, by simp only [cn]; omega⟩
  | .str x, h => by
    unfold small at h
    simp only [Bool.and_eq_true, decide_eq_true_eq] at h
    exact ⟨h.1, rfl, by simp only [PyData.weight, cn]; omega⟩
  | .list xs, h => by
    obtain ⟨h1, h2, h3⟩ := small_all xs h
    exact ⟨h1, h2, by simp only [PyData.weight, cn]; omega⟩
  | .tuple xs, h => by
    obtain ⟨h1, h2, h3⟩ := small_all xs h
    exact ⟨h1, h2, by simp only [PyData.weight, cn]; omega⟩
  | .dict _, h => by cases h
theorem small_all : ∀ xs : List D, smallAll xs = true → fineAll xs = true ∧ PyData.intsShortAll 13 xs = true ∧ PyData.weightAll xs ≤ 22 * cnAll xs
  | [], _ => ⟨rfl, rfl, by simp [PyData.weightAll]⟩
  | x :: xs, h => by
    unfold smallAll at h
    simp only [Bool.and_eq_true] at h
    obtain ⟨h1, h2, h3⟩ := small_ok x h.1
    obtain ⟨k1, k2, k3⟩ := small_all xs h.2
    refine ⟨?_, ?_, ?_⟩
    · unfold fineAll; rw [h1, k1]; rfl
    · unfold PyData.intsShortAll; rw [h2, k2]; rfl
    · simp only [PyData.weightAll, cnAll]; omega
end
theorem itV_r1 {j : Int} (h1 : -4611686018427387904 < j) (h2 : j < 4611686018427387904) : itV .rng1 [.int j] = some (rangeD 0 j.toNat) := by simp [itV, show j.natAbs < 4611686018427387904 by omega]
theorem itV_r2 {i j : Int} (h1 : -4611686018427387904 < i) (h2 : i < 4611686018427387904) (h3 : -4611686018427387904 < j) (h4 : j < 4611686018427387904) : itV .rng2 [.int i, .int j] = some (rangeD i (j - i).toNat) := by simp [itV, show i.natAbs < 4611686018427387904 by omega, show j.natAbs < 4611686018427387904 by omega]
theorem range_at {i : Int} {n k : Nat} {x : D} (h : (rangeD i n)[k]? = some x) : k < n ∧ x = .int (i + k) := by
  unfold rangeD at h
  rw [List.getElem?_map] at h
  obtain ⟨j, hj, rfl⟩ := Option.map_eq_some_iff.mp h
  have hk : k < n := by
    have := (List.getElem?_eq_some_iff.mp hj).1
    rwa [List.length_range] at this
  rw [List.getElem?_range hk] at hj
  cases hj
  exact ⟨hk, rfl⟩
theorem range_len (i : Int) (n : Nat) : (rangeD i n).length = n := by unfold rangeD; rw [List.length_map, List.length_range]
theorem range_em (i : Int) (n : Nat) : rangeD i n = (List.range n).map fun k : Nat => .int (i + k) := rfl
end Pv
end

section
set_option autoImplicit false
namespace Xk18
open PySem Pv
variable {Φ : Fns} {g : G}
def DkB (g : G) : Prop := ∃ st : Dk, g = some st ∧ st.cells.length ≤ 63
abbrev DrawC (Φ : Fns) (i : Nat) : Prop := ∀ (many : Int) (g : G), DkB g → 0 < many → many < 100000000000000000000 → Ok (Φ i [tokD 0, .int many] g) fun r g' => DkB g' ∧ ∃ i, r = .int i ∧ 0 ≤ i ∧ i < many
theorem draw_run {many : Int} (hd : DkB g) (h0 : 0 < many) (hl : many < 100000000000000000000) : Ok (Pv.run Φ fuel m__law_draw [some (tokD 0), some (.int many), none] g) (retF fun r g' => DkB g' ∧ ∃ i, r = .int i ∧ 0 ≤ i ∧ i < many) := by
  obtain ⟨st, rfl, hc⟩ := hd
  have p1 : powOk 10 18 = true := by decide
  have lg : ∀ k : Int, 0 < k → k < 100000000000000000000 → k.natAbs.log2 < 9000 := fun k hk hk2 => by
    have := (Nat.log2_lt (n := k.natAbs) (k := 70) (by omega)).mpr (by omega)
    omega
  unfold m__law_draw
  generalize hQ : retF _ = QQ
  rw [Ok_seq]; simp [dkGetV, dkSetV]
  have fin : ∀ (x2 : Option D) (st : Dk), st.cells.length ≤ 63 → Ok (Pv.run Φ fuel (.seq (.dkSet false (.var 0) (.bin .mod (.bi .toInt (.cons (.bin .add (.bin .add (.bin .mul (.dkGet false (.var 0)) (.c (.int 48271))) (.bin .mul (.dkGet true (.var 0)) (.c (.int 69621)))) (.c (.int 1))) .nil)) (.c (.int 2147483647))))
    (.ret (.bin .mod (.bin .fdiv (.bin .mod (.bi .toInt (.cons (.bin .mul (.dkGet false (.var 0)) (.dkGet false (.var 0))) .nil)) (.c (.int 2147483629))) (.c (.int 64))) (.var 1)))) [some (tokD 0), some (.int many), x2] (some st)) QQ := by
    intro x2 st hc
    have l1 : Nat.log2 64 < 9000 := by decide
    rw [Ok_seq]; simp [dkGetV, dkSetV]
    have a1 := emod_rg (st.mixed * 48271 + st.turn * 69621 + 1) (p := 2147483647) (by omega)
    generalize (st.mixed * 48271 + st.turn * 69621 + 1) % 2147483647 = m at *
    have m1 : mulOk m m = true := mulOk_r (by omega)
    simp [m1, l1, h0]
    subst hQ
    exact ⟨⟨_, rfl, hc⟩, _, rfl, Int.emod_nonneg _ (by omega), Int.emod_lt_of_pos _ h0⟩
  rw [Ok_seq]; simp [dkHasV, -Bool.exists_bool]
  by_cases he : st.cells = []
  · simp [he]
    exact fin _ _ (by simp [he])
  · have hne : st.cells.isEmpty = false := by simpa using he
    obtain ⟨c, hcl⟩ := getLast_some he
    have hlen : st.cells.dropLast.length < 63 := by
      have : 0 < st.cells.length := List.length_pos_iff.mpr he
      rw [List.length_dropLast]; omega
    refine ⟨true, by simpa using he, ?_⟩
    rw [if_pos rfl]
    rw [Ok_seq]; simp [dkPopV, hcl, -Bool.exists_bool]
    rw [Ok_seq]; simp [p1, -Bool.exists_bool]
    by_cases hb : 1000000000000000000 ≤ c
    · have l1 : st.cells.length - 1 < lineN := by unfold lineN; omega
      have mx : 0 < (if (2 : Int) < many then many else 2) ∧ (if (2 : Int) < many then many else 2) < 100000000000000000000 := by split <;> omega
      have l2 := lg _ mx.1 mx.2
      rw [if_pos hb]
      rw [Ok_seq]
      simp [dkPushV, l1]
      generalize (if (2 : Int) < many then many else 2) = d at *
      simp [mx.1, l2, dkPushV, l1, h0]
      subst hQ
      refine ⟨⟨_, rfl, ?_⟩, _, rfl, Int.emod_nonneg _ (by omega), Int.emod_lt_of_pos _ h0⟩
      simp
      omega
    · simp [hb, dkGetV, dkSetV]
      exact fin _ _ (by rw [List.length_dropLast]; simp; omega)
abbrev DeckC (Φ : Fns) (i : Nat) : Prop := Ok (Φ i [tokD 1] none) fun r g' => r = tokD 0 ∧ DkB g'
theorem deck_run {ns : List Int} : Ok (Pv.run Φ fuel (m__law_deck ns) [some (tokD 1), none, none, none] none) (retF fun r g' => r = tokD 0 ∧ DkB g') := by
  unfold m__law_deck
  generalize hQ : retF _ = QQ
  rw [Ok_seq]; simp [← List.map_take]
  refine ⟨_, rfl, by rw [List.length_map]; unfold lineN; have := List.length_take_le 63 ns; omega, ?_⟩
  generalize hN : ns.take 63 = xs
  have hl : xs.length ≤ 63 := by rw [← hN]; exact List.length_take_le _ _
  refine ok_compM (em := .int) (eo := .int) (u := fun x : Int => some x) (xs := xs) (fun x hx => ?_) ?_
  · rw [Ok_itemF]; simp [wipeS]
  · rw [List.filterMap_some]
    rw [Ok_seq, Ok_for]; simp [show PyData.list (xs.map .int) = lD xs from rfl, seq_l]
    refine ok_forL (fun k σ g2 => g2 = none ∧ ∃ (y : Option D) (m : Int), σ = [some (tokD 1), y, some (lD xs), some (.int m)]) ⟨rfl, _, _, rfl⟩ ?_ ?_
    · rintro k x σ g2 hx ⟨rfl, y, m, rfl⟩
      obtain ⟨hk, rfl⟩ := map_at hx
      generalize hI : loopF _ _ = II
      rw [Ok_turnF]; simp
      subst hI
      exact ⟨rfl, _, _, rfl⟩
    · rintro σ g2 ⟨rfl, y, m, rfl⟩
      have e : (xs.map PyData.int).reverse = xs.reverse.map PyData.int := (List.map_reverse ..).symm
      simp [lD]
      rw [e]
      simp [dkNewV, ints_map, -List.map_reverse]
      subst hQ
      exact ⟨rfl, _, rfl, by simp; omega⟩
abbrev PickTC (Φ : Fns) (i : Nat) : Prop := ∀ (xs : List D) (g : G), DkB g → xs ≠ [] → xs.length < 100000 → Ok (Φ i [tokD 0, .tuple xs] g) fun r g' => DkB g' ∧ r ∈ xs
abbrev PickLC (Φ : Fns) (i : Nat) : Prop := ∀ (xs : List D) (g : G), DkB g → xs ≠ [] → xs.length < 100000 → Ok (Φ i [tokD 0, .list xs] g) fun r g' => DkB g' ∧ r ∈ xs
theorem pickT_run {i0 : Nat} {xs : List D} (hd : DkB g) (hx : xs ≠ []) (hl : xs.length < 100000) (h0 : DrawC Φ i0) :
    Ok (Pv.run Φ fuel (m__law_pick i0) [some (tokD 0), some (.tuple xs)] g) (retF fun r g' => DkB g' ∧ r ∈ xs) := by
  have lp : 0 < xs.length := List.length_pos_iff.mpr hx
  unfold m__law_pick
  simp
  refine (h0 xs.length g hd (by omega) (by omega)).mono ?_
  rintro _ g' ⟨h1, i, rfl, h2, h3⟩
  obtain ⟨x, hx, e⟩ := idx_t h2 h3
  exact ⟨x, e, h1, hx⟩
theorem pickL_run {i0 : Nat} {xs : List D} (hd : DkB g) (hx : xs ≠ []) (hl : xs.length < 100000) (h0 : DrawC Φ i0) :
    Ok (Pv.run Φ fuel (m__law_pick i0) [some (tokD 0), some (.list xs)] g) (retF fun r g' => DkB g' ∧ r ∈ xs) := by
  have lp : 0 < xs.length := List.length_pos_iff.mpr hx
  unfold m__law_pick
  simp
  refine (h0 xs.length g hd (by omega) (by omega)).mono ?_
  rintro _ g' ⟨h1, i, rfl, h2, h3⟩
  obtain ⟨x, hx, e⟩ := idx_l h2 h3
  exact ⟨x, e, h1, hx⟩
abbrev PrimeC (Φ : Fns) (i : Nat) : Prop := ∀ (g : G), DkB g → Ok (Φ i [tokD 0] g) fun r g' => (∃ p, r = .int p ∧ Pm p) ∧ DkB g'
end Xk18
end

section
set_option autoImplicit false
namespace Pv
def sumN (p h a b : Nat) : Nat → Nat
  | 0 => 0
  | k + 1 => sumN p h a b k + (((k * k * k + a * k + b) % p) ^ h + 1) % p
def chkN (p : Nat) : Nat → Bool
  | 0 => false
  | s + 1 => Nat.blt ((s + 1) * (s + 1) + p * p) (4 * p + 2 * (s + 1) * p)
def hasB (p k : Nat) : Bool := chkN p (sumN p ((p - 1) / 2) k k p) && (chkN p (sumN p ((p - 1) / 2) 0 k p) && chkN p (sumN p ((p - 1) / 2) k 0 p))
def hasA (p : Nat) : Nat → Bool
  | 0 => true
  | k + 1 => hasB p k && hasA p k
noncomputable def sumBs (p h a b n : Nat) : Nat := Nat.rec (motive := fun _ => Nat) 0 (fun k s => Nat.add s (Nat.mod (Nat.add (Nat.pow (Nat.mod (Nat.add (Nat.add (Nat.mul (Nat.mul k k) k) (Nat.mul a k)) b) p) h) 1) p)) n
theorem sumBs_N (p h a b : Nat) : ∀ n, sumBs p h a b n = sumN p h a b n
  | 0 => rfl
  | n + 1 => by
    unfold sumN
    rw [← sumBs_N p h a b n]; rfl
noncomputable def hasBs (p n : Nat) : Bool := Nat.rec (motive := fun _ => Bool) true (fun k s => and (and (chkN p (sumBs p ((p - 1) / 2) k k p)) (and (chkN p (sumBs p ((p - 1) / 2) 0 k p)) (chkN p (sumBs p ((p - 1) / 2) k 0 p)))) s) n
theorem hasBs_A (p : Nat) : ∀ n, hasBs p n = hasA p n
  | 0 => rfl
  | n + 1 => by
    unfold hasA hasB
    rw [← hasBs_A p n, ← sumBs_N, ← sumBs_N, ← sumBs_N]; rfl
theorem has_of {p n : Nat} (h : hasBs p n = true) : hasA p n = true := (hasBs_A p n).symm.trans h
theorem has_7 : hasA 7 7 = true := has_of (by decide +kernel)
theorem has_11 : hasA 11 11 = true := has_of (by decide +kernel)
theorem has_13 : hasA 13 13 = true := has_of (by decide +kernel)
theorem has_17 : hasA 17 17 = true := has_of (by decide +kernel)
theorem has_19 : hasA 19 19 = true := has_of (by decide +kernel)
theorem has_23 : hasA 23 23 = true := has_of (by decide +kernel)
theorem has_29 : hasA 29 29 = true := has_of (by decide +kernel)
theorem has_31 : hasA 31 31 = true := has_of (by decide +kernel)
theorem has_37 : hasA 37 37 = true := has_of (by decide +kernel)
theorem has_41 : hasA 41 41 = true := has_of (by decide +kernel)
theorem has_43 : hasA 43 43 = true := has_of (by decide +kernel)
theorem has_47 : hasA 47 47 = true := has_of (by decide +kernel)
theorem has_53 : hasA 53 53 = true := has_of (by decide +kernel)
theorem has_59 : hasA 59 59 = true := has_of (by decide +kernel)
theorem has_61 : hasA 61 61 = true := has_of (by decide +kernel)
theorem has_67 : hasA 67 67 = true := has_of (by decide +kernel)
theorem has_71 : hasA 71 71 = true := has_of (by decide +kernel)
theorem has_73 : hasA 73 73 = true := has_of (by decide +kernel)
theorem has_79 : hasA 79 79 = true := has_of (by decide +kernel)
theorem has_83 : hasA 83 83 = true := has_of (by decide +kernel)
theorem has_89 : hasA 89 89 = true := has_of (by decide +kernel)
theorem has_97 : hasA 97 97 = true := has_of (by decide +kernel)
theorem has_101 : hasA 101 101 = true := has_of (by decide +kernel)
theorem has_103 : hasA 103 103 = true := has_of (by decide +kernel)
theorem has_107 : hasA 107 107 = true := has_of (by decide +kernel)
theorem has_109 : hasA 109 109 = true := has_of (by decide +kernel)
theorem has_113 : hasA 113 113 = true := has_of (by decide +kernel)
theorem has_127 : hasA 127 127 = true := has_of (by decide +kernel)
theorem has_131 : hasA 131 131 = true := has_of (by decide +kernel)
theorem has_137 : hasA 137 137 = true := has_of (by decide +kernel)
theorem has_139 : hasA 139 139 = true := has_of (by decide +kernel)
theorem has_149 : hasA 149 149 = true := has_of (by decide +kernel)
theorem has_151 : hasA 151 151 = true := has_of (by decide +kernel)
theorem has_157 : hasA 157 157 = true := has_of (by decide +kernel)
theorem has_163 : hasA 163 163 = true := has_of (by decide +kernel)
theorem has_167 : hasA 167 167 = true := has_of (by decide +kernel)
theorem has_173 : hasA 173 173 = true := has_of (by decide +kernel)
theorem has_179 : hasA 179 179 = true := has_of (by decide +kernel)
theorem has_181 : hasA 181 181 = true := has_of (by decide +kernel)
theorem has_191 : hasA 191 191 = true := has_of (by decide +kernel)
theorem has_193 : hasA 193 193 = true := has_of (by decide +kernel)
theorem has_197 : hasA 197 197 = true := has_of (by decide +kernel)
theorem has_199 : hasA 199 199 = true := has_of (by decide +kernel)
theorem has_all {p : Int} (h : Pm p) : hasA p.toNat p.toNat = true := by
  have q := h.in_
  simp only [pmL, List.mem_cons, List.not_mem_nil, or_false] at q
  rcases q with rfl | rfl | rfl | rfl | rfl | rfl | rfl | rfl | rfl | rfl | rfl | rfl | rfl | rfl | rfl | rfl | rfl | rfl | rfl | rfl | rfl | rfl | rfl | rfl | rfl | rfl | rfl | rfl | rfl | rfl | rfl | rfl | rfl | rfl | rfl | rfl | rfl | rfl | rfl | rfl | rfl | rfl | rfl
  · exact has_7
  · exact has_11
  · exact has_13
  · exact has_17
  · exact has_19
  · exact has_23
  · exact has_29
  · exact has_31
  · exact has_37
  · exact has_41
  · exact has_43
  · exact has_47
  · exact has_53
  · exact has_59
  · exact has_61
  · exact has_67
  · exact has_71
  · exact has_73
  · exact has_79
  · exact has_83
  · exact has_89
  · exact has_97
  · exact has_101
  · exact has_103
  · exact has_107
  · exact has_109
  · exact has_113
  · exact has_127
  · exact has_131
  · exact has_137
  · exact has_139
  · exact has_149
  · exact has_151
  · exact has_157
  · exact has_163
  · exact has_167
  · exact has_173
  · exact has_179
  · exact has_181
  · exact has_191
  · exact has_193
  · exact has_197
  · exact has_199
end Pv
end

section
set_option autoImplicit false
namespace Pv
open PySem
def tsum (u : Nat → Int) : Nat → Int
  | 0 => 0
  | k + 1 => tsum u k + u k
theorem tsum_congr {u v : Nat → Int} : ∀ {n : Nat}, (∀ k, k < n → u k = v k) → tsum u n = tsum v n
  | 0, _ => rfl
  | n + 1, h => by
    show tsum u n + u n = tsum v n + v n
    rw [tsum_congr fun k hk => h k (by omega), h n (by omega)]
theorem tsum_add (u v : Nat → Int) : ∀ n, tsum (fun k => u k + v k) n = tsum u n + tsum v n
  | 0 => rfl
  | n + 1 => by
    show tsum (fun k => u k + v k) n + (u n + v n) = tsum u n + u n + (tsum v n + v n)
    rw [tsum_add u v n]; omega
theorem tsum_mul (c : Int) (u : Nat → Int) : ∀ n, tsum (fun k => c * u k) n = c * tsum u n
  | 0 => by show (0 : Int) = c * 0; omega
  | n + 1 => by
    show tsum (fun k => c * u k) n + c * u n = c * (tsum u n + u n)
    rw [tsum_mul c u n, Int.mul_add]
theorem tsum_zero : ∀ n, tsum (fun _ => 0) n = 0
  | 0 => rfl
  | n + 1 => by show tsum (fun _ => 0) n + 0 = 0; rw [tsum_zero n]; rfl
theorem tsum_swap (u : Nat → Nat → Int) (m : Nat) : ∀ n, tsum (fun i => tsum (fun j => u i j) m) n = tsum (fun j => tsum (fun i => u i j) n) m
  | 0 => (tsum_zero m).symm
  | n + 1 => by
    show tsum (fun i => tsum (fun j => u i j) m) n + tsum (fun j => u n j) m = tsum (fun j => tsum (fun i => u i j) n + u n j) m
    rw [tsum_add, tsum_swap u m n]
theorem tsum_one (a : Nat) (w : Int) : ∀ n, tsum (fun k => if k = a then w else 0) n = if a < n then w else 0
  | 0 => by simp [tsum]
  | n + 1 => by
    show tsum (fun k => if k = a then w else 0) n + (if n = a then w else 0) = _
    rw [tsum_one a w n]
    by_cases h : n = a
    · subst h; simp
    · rw [if_neg h]
      by_cases q : a < n
      · rw [if_pos q, if_pos (by omega)]; omega
      · rw [if_neg q, if_neg (by omega)]; rfl
theorem sum_append (l m : List Int) : (l ++ m).sum = l.sum + m.sum := by
  induction l with
  | nil => simp
  | cons x l ih => rw [List.cons_append, List.sum_cons, List.sum_cons, ih]; omega
theorem sum_range (u : Nat → Int) : ∀ n, ((List.range n).map u).sum = tsum u n
  | 0 => rfl
  | n + 1 => by
    rw [List.range_succ, List.map_append, sum_append, sum_range u n]
    show tsum u n + (u n + 0) = tsum u n + u n
    omega
def hp (p : Int) : Nat := ((p - 1) / 2).toNat
def chi (p v : Int) : Int := (v ^ hp p + 1) % p - 1
theorem pow_mod (v p : Int) (n : Nat) : (v % p) ^ n % p = v ^ n % p := pow_emod' v p n
theorem emod_congr {a b p : Int} (h : p ∣ a - b) : a % p = b % p := Int.emod_eq_emod_iff_emod_sub_eq_zero.mpr (Int.emod_eq_zero_of_dvd h)
theorem dvd_of_emod {a b p : Int} (h : a % p = b % p) : p ∣ a - b := Int.dvd_of_emod_eq_zero (Int.emod_eq_emod_iff_emod_sub_eq_zero.mp h)
theorem chi_mod (p v : Int) : chi p (v % p) = chi p v := by
  unfold chi
  have e := pow_mod v p (hp p)
  have d := dvd_of_emod e
  rw [emod_congr (a := (v % p) ^ hp p + 1) (b := v ^ hp p + 1) (by rwa [show (v % p) ^ hp p + 1 - (v ^ hp p + 1) = (v % p) ^ hp p - v ^ hp p by omega])]
theorem chi_congr {p v w : Int} (h : p ∣ v - w) : chi p v = chi p w := by
  rw [← chi_mod p v, ← chi_mod p w, emod_congr h]
section
variable {p : Int}
theorem Pm.odd (h : Pm p) : p % 2 = 1 := (by decide : ∀ p ∈ pmL, p % 2 = 1) p h.in_
theorem Pm.hp2 (h : Pm p) : 2 * hp p = (p - 1).toNat := by
  have := h.odd; have := h.bd
  unfold hp; omega
theorem Pm.fermat (h : Pm p) {v : Int} (hv : ¬ p ∣ v) : p ∣ v ^ (p - 1).toNat - 1 := by
  have e := h.iv hv
  have b := h.bd
  have d : p ∣ ivP p v - v ^ (p - 2).toNat := dvd_emod _ _
  have d2 := Int.dvd_sub e (Int.dvd_trans d (Int.dvd_mul_left v _))
  rw [show (p - 1).toNat = (p - 2).toNat + 1 by omega, Int.pow_succ]
  rwa [show v * ivP p v - 1 - v * (ivP p v - v ^ (p - 2).toNat) = v ^ (p - 2).toNat * v - 1 by grind] at d2
theorem Pm.half (h : Pm p) {v : Int} (hv : ¬ p ∣ v) : p ∣ v ^ hp p - 1 ∨ p ∣ v ^ hp p + 1 := by
  have f := h.fermat hv
  rw [← h.hp2, show 2 * hp p = hp p + hp p by omega, Int.pow_add] at f
  rw [show v ^ hp p * v ^ hp p - 1 = (v ^ hp p - 1) * (v ^ hp p + 1) by grind] at f
  exact h.dvd f
theorem Pm.chi1 (h : Pm p) {v : Int} (hd : p ∣ v ^ hp p - 1) : chi p v = 1 := by
  have b := h.bd
  unfold chi
  rw [emod_congr (b := 2) (by rwa [show v ^ hp p + 1 - 2 = v ^ hp p - 1 by omega]), Int.emod_eq_of_lt (by omega) (by omega)]; rfl
theorem Pm.chiN (h : Pm p) {v : Int} (hd : p ∣ v ^ hp p + 1) : chi p v = -1 := by
  unfold chi
  rw [Int.emod_eq_zero_of_dvd hd]; rfl
theorem Pm.chi0 (h : Pm p) {v : Int} (hd : p ∣ v) : chi p v = 0 := by
  have b := h.bd
  have : hp p ≠ 0 := by unfold hp; omega
  obtain ⟨n, hn⟩ : ∃ n, hp p = n + 1 := ⟨hp p - 1, by omega⟩
  unfold chi
  rw [hn, Int.pow_succ, emod_congr (b := 1) (by rw [Int.add_sub_cancel]; exact Int.dvd_trans hd (Int.dvd_mul_left _ _)), Int.emod_eq_of_lt (by omega) (by omega)]; rfl
theorem Pm.chi_cases (h : Pm p) (v : Int) : p ∣ v ∧ chi p v = 0 ∨ ¬ p ∣ v ∧ (chi p v = 1 ∨ chi p v = -1) := by
  by_cases d : p ∣ v
  · exact .inl ⟨d, h.chi0 d⟩
  · rcases h.half d with q | q
    · exact .inr ⟨d, .inl (h.chi1 q)⟩
    · exact .inr ⟨d, .inr (h.chiN q)⟩
theorem Pm.chi_mul (h : Pm p) (v w : Int) : chi p (v * w) = chi p v * chi p w := by
  by_cases dv : p ∣ v
  · rw [h.chi0 dv, h.chi0 (Int.dvd_trans dv (Int.dvd_mul_right _ _)), Int.zero_mul]
  by_cases dw : p ∣ w
  · rw [h.chi0 dw, h.chi0 (Int.dvd_trans dw (Int.dvd_mul_left _ _)), Int.mul_zero]
  have e : (v * w) ^ hp p = v ^ hp p * w ^ hp p := Int.mul_pow ..
  rcases h.half dv with q | q
  · rcases h.half dw with r | r
    · rw [h.chi1 q, h.chi1 r, h.chi1]; rfl
      rw [e]
      have := Int.dvd_add (Int.dvd_trans q (Int.dvd_mul_right _ (w ^ hp p))) r
      rwa [show (v ^ hp p - 1) * w ^ hp p + (w ^ hp p - 1) = v ^ hp p * w ^ hp p - 1 by grind] at this
    · rw [h.chi1 q, h.chiN r, h.chiN]; rfl
      rw [e]
      have := Int.dvd_add (Int.dvd_trans q (Int.dvd_mul_right _ (w ^ hp p))) r
      rwa [show (v ^ hp p - 1) * w ^ hp p + (w ^ hp p + 1) = v ^ hp p * w ^ hp p + 1 by grind] at this
  · rcases h.half dw with r | r
    · rw [h.chiN q, h.chi1 r, h.chiN]; rfl
      rw [e]
      have := Int.dvd_sub (Int.dvd_trans q (Int.dvd_mul_right _ (w ^ hp p))) r
      rwa [show (v ^ hp p + 1) * w ^ hp p - (w ^ hp p - 1) = v ^ hp p * w ^ hp p + 1 by grind] at this
    · rw [h.chiN q, h.chiN r, h.chi1]; rfl
      rw [e]
      have := Int.dvd_sub (Int.dvd_trans q (Int.dvd_mul_right _ (w ^ hp p))) r
      rwa [show (v ^ hp p + 1) * w ^ hp p - (w ^ hp p + 1) = v ^ hp p * w ^ hp p - 1 by grind] at this
def fx (a b x : Int) : Int := x * x * x + a * x + b
def csum (p a b : Int) : Int := tsum (fun x : Nat => chi p (fx a b x)) p.toNat
theorem Pm.reindex (h : Pm p) {d : Int} (hd : ¬ p ∣ d) (G : Int → Int) : tsum (fun y : Nat => G (d * y % p)) p.toNat = tsum (fun x : Nat => G x) p.toNat := by
  have b := h.bd
  have pp := h.pos
  have e1 : ∀ y : Nat, G (d * y % p) = tsum (fun x : Nat => if x = (d * y % p).toNat then G x else 0) p.toNat := fun y => by
    have r := emod_rg (d * y) pp
    have : (fun x : Nat => if x = (d * y % p).toNat then G x else 0) = fun x : Nat => if x = (d * y % p).toNat then G (d * y % p) else 0 := by
      funext x
      split
      · rename_i q; rw [q, Int.toNat_of_nonneg r.1]
      · rfl
    rw [this, tsum_one, if_pos (by omega)]
  rw [tsum_congr fun y _ => e1 y, tsum_swap]
  refine tsum_congr fun x hx => ?_
  -- just one y leads to x
  have iv := h.iv hd
  have rg := emod_rg (ivP p d * x) pp
  have key : ∀ y : Nat, y < p.toNat → (x = (d * y % p).toNat ↔ y = (ivP p d * x % p).toNat) := fun y hy => by
    have r := emod_rg (d * y) pp
    have d1 := dvd_emod (d * y) p
    have d2 := dvd_emod (ivP p d * x) p
    constructor
    · intro q
      have qx : (x : Int) = d * y % p := by omega
      have : p ∣ (y : Int) - ivP p d * x % p := by
        rw [← qx] at d1
        have z := Int.dvd_add (Int.dvd_add (Int.dvd_trans d1 (Int.dvd_mul_left (ivP p d) _)) (Int.dvd_trans iv (Int.dvd_mul_left (y : Int) _))) d2
        have z := Int.dvd_neg.mpr z
        rwa [show -(ivP p d * ((x : Int) - d * y) + y * (d * ivP p d - 1) + (ivP p d * x % p - ivP p d * x)) = (y : Int) - ivP p d * x % p by grind] at z
      have := rg_eq (x := (y : Int)) (y := ivP p d * x % p) (by omega) (by omega) rg.1 rg.2 this
      omega
    · intro q
      have qy : (y : Int) = ivP p d * x % p := by omega
      have : p ∣ (x : Int) - d * y % p := by
        rw [← qy] at d2
        have z := Int.dvd_add (Int.dvd_add (Int.dvd_trans d2 (Int.dvd_mul_left d _)) (Int.dvd_trans iv (Int.dvd_mul_left (x : Int) _))) d1
        have z := Int.dvd_neg.mpr z
        rwa [show -(d * ((y : Int) - ivP p d * x) + x * (d * ivP p d - 1) + (d * y % p - d * y)) = (x : Int) - d * y % p by grind] at z
      have := rg_eq (x := (x : Int)) (y := d * y % p) (by omega) (by omega) r.1 r.2 this
      omega
  rw [tsum_congr (v := fun y : Nat => if y = (ivP p d * x % p).toNat then G x else 0) fun y hy => by
    by_cases q : x = (d * y % p).toNat
    · rw [if_pos q, if_pos ((key y hy).mp q)]
    · rw [if_neg q, if_neg fun z => q ((key y hy).mpr z)], tsum_one, if_pos (by omega)]
theorem Pm.csum_twist (h : Pm p) {d : Int} (hd : ¬ p ∣ d) (a b : Int) {a' b' : Int} (ha : p ∣ a' - a * d * d) (hb : p ∣ b' - b * d * d * d) : csum p a' b' = chi p (d * d * d) * csum p a b := by
  unfold csum
  rw [← tsum_mul]
  rw [← h.reindex hd (fun x => chi p (fx a' b' x))]
  refine tsum_congr fun y _ => ?_
  rw [← h.chi_mul]
  refine chi_congr ?_
  have d1 := dvd_emod (d * y) p
  generalize d * (y : Int) % p = x at d1
  unfold fx
  have z := Int.dvd_add (Int.dvd_add (Int.dvd_trans d1 (Int.dvd_mul_left (x * x + x * (d * y) + d * y * (d * y) + a') _)) (Int.dvd_trans ha (Int.dvd_mul_left (d * (y : Int)) _))) hb
  rwa [show (x * x + x * (d * y) + d * y * (d * y) + a') * (x - d * y) + d * y * (a' - a * d * d) + (b' - b * d * d * d) = x * x * x + a' * x + b' - d * d * d * (y * y * y + a * y + b) by grind] at z
def SmallT (p t : Int) : Prop := t * t < 4 * p
theorem sum_N {p : Int} (h : Pm p) (a b : Nat) : ∀ n : Nat, ((sumN p.toNat ((p.toNat - 1) / 2) a b n : Nat) : Int) = n + tsum (fun x : Nat => chi p (fx a b x)) n
  | 0 => rfl
  | n + 1 => by
    have bb := h.bd
    show (((sumN p.toNat ((p.toNat - 1) / 2) a b n + (((n * n * n + a * n + b) % p.toNat) ^ ((p.toNat - 1) / 2) + 1) % p.toNat : Nat) : Int)) = ((n + 1 : Nat) : Int) + (tsum (fun x : Nat => chi p (fx a b x)) n + chi p (fx a b n))
    have e1 := sum_N h a b n
    have e2 : hp p = (p.toNat - 1) / 2 := by unfold hp; omega
    have e3 : (((((n * n * n + a * n + b) % p.toNat) ^ ((p.toNat - 1) / 2) + 1) % p.toNat : Nat) : Int) = chi p (fx a b n) + 1 := by
      rw [← chi_mod, chi, e2]
      push_cast
      rw [Int.toNat_of_nonneg (by omega)]
      unfold fx
      omega
    rw [Int.natCast_add, e1, e3]
    omega
theorem chk_of {p s : Nat} (h : chkN p s = true) : s * s + p * p < 4 * p + 2 * s * p := by
  cases s with
  | zero => cases h
  | succ s => exact Nat.blt_eq.mp h
theorem has_at {p : Nat} : ∀ {n : Nat}, hasA p n = true → ∀ k, k < n → hasB p k = true
  | 0, _, k, hk => absurd hk (Nat.not_lt_zero _)
  | n + 1, h, k, hk => by
    unfold hasA at h
    rw [Bool.and_eq_true] at h
    rcases Nat.lt_or_ge k n with q | q
    · exact has_at h.2 k q
    · rw [show k = n by omega]; exact h.1
theorem Pm.small_of (h : Pm p) {a b : Nat} (hc : chkN p.toNat (sumN p.toNat ((p.toNat - 1) / 2) a b p.toNat) = true) : SmallT p (csum p a b) := by
  have bb := h.bd
  have e := sum_N h a b p.toNat
  have c := chk_of hc
  generalize sumN p.toNat ((p.toNat - 1) / 2) a b p.toNat = s at e c
  have e2 : csum p a b = s - p := by
    unfold csum
    rw [Int.toNat_of_nonneg (by omega)] at e
    omega
  unfold SmallT
  rw [e2]
  have c2 : ((s * s + p.toNat * p.toNat : Nat) : Int) < ((4 * p.toNat + 2 * s * p.toNat : Nat) : Int) := by exact_mod_cast c
  push_cast at c2
  rw [Int.toNat_of_nonneg (show 0 ≤ p by omega)] at c2
  have : ((s : Int) - p) * (s - p) = s * s + p * p - 2 * s * p := by grind
  omega
theorem Pm.hasse (h : Pm p) (a b : Int) : SmallT p (csum p a b) := by
  have bb := h.bd
  have pp := h.pos
  have tab := has_all h
  have red : ∀ a b a' b' : Int, p ∣ a' - a → p ∣ b' - b → csum p a' b' = csum p a b := fun a b a' b' ha hb => by
    have := h.csum_twist (d := 1) (fun z => by have := Int.le_of_dvd (by omega) z; omega) a b (a' := a') (b' := b') (by simpa using ha) (by simpa using hb)
    rw [this, show (1 : Int) * 1 * 1 = 1 by rfl, h.chi1 (v := 1) (by rw [Int.one_pow]; exact ⟨0, by omega⟩), Int.one_mul]
  have ra := emod_rg a pp
  have rb := emod_rg b pp
  have three : ∀ k : Nat, k < p.toNat → SmallT p (csum p k k) ∧ SmallT p (csum p 0 k) ∧ SmallT p (csum p k 0) := fun k hk => by
    have z := has_at tab k hk
    unfold hasB at z
    rw [Bool.and_eq_true, Bool.and_eq_true] at z
    exact ⟨h.small_of z.1, by simpa using h.small_of (a := 0) (b := k) z.2.1, by simpa using h.small_of (a := k) (b := 0) z.2.2⟩
  by_cases da : p ∣ a
  · rw [← red a b 0 (b % p) (by rw [Int.zero_sub]; exact Int.dvd_neg.mpr da) (dvd_emod _ _)]
    have := (three (b % p).toNat (by omega)).2.1
    rwa [Int.toNat_of_nonneg rb.1] at this
  by_cases db : p ∣ b
  · rw [← red a b (a % p) 0 (dvd_emod _ _) (by rw [Int.zero_sub]; exact Int.dvd_neg.mpr db)]
    have := (three (a % p).toNat (by omega)).2.2
    rwa [Int.toNat_of_nonneg ra.1] at this
  have iv := h.iv db
  have dd : ¬ p ∣ a * ivP p b := fun z => by
    rcases h.dvd z with q | q
    · exact da q
    · have := Int.dvd_sub (Int.dvd_trans q (Int.dvd_mul_left b _)) iv
      rw [show b * ivP p b - (b * ivP p b - 1) = 1 by omega] at this
      have := Int.le_of_dvd (by omega) this
      omega
  generalize hD : a * ivP p b = d at dd
  have rk := emod_rg (a * d * d) pp
  have tw := h.csum_twist dd a b (a' := a * d * d % p) (b' := a * d * d % p) (dvd_emod _ _) (by
    have z := dvd_emod (a * d * d) p
    have y := Int.dvd_trans iv (Int.dvd_mul_left (a * d * d) _)
    have z2 := Int.dvd_sub z y
    rw [← hD] at z2 ⊢
    rwa [show a * (a * ivP p b) * (a * ivP p b) % p - a * (a * ivP p b) * (a * ivP p b) - a * (a * ivP p b) * (a * ivP p b) * (b * ivP p b - 1) = a * (a * ivP p b) * (a * ivP p b) % p - b * (a * ivP p b) * (a * ivP p b) * (a * ivP p b) by grind] at z2)
  have s1 := (three (a * d * d % p).toNat (by omega)).1
  rw [Int.toNat_of_nonneg rk.1, tw] at s1
  have c3 : chi p (d * d * d) = 1 ∨ chi p (d * d * d) = -1 := by
    rcases h.chi_cases (d * d * d) with ⟨z, _⟩ | ⟨_, z⟩
    · rcases h.dvd z with y | y
      · rcases h.dvd y with y | y <;> exact (dd y).elim
      · exact (dd y).elim
    · exact z
  unfold SmallT at *
  rcases c3 with c | c <;> rw [c] at s1
  · simpa using s1
  · simpa [Int.neg_mul_neg] using s1
end
end Pv
end

section
set_option autoImplicit false
namespace Pv
open PySem
def isSq (p v : Int) : Nat → Bool
  | 0 => false
  | k + 1 => decide ((k : Int) * k % p = v) || isSq p v k
theorem isSq_iff {p v : Int} : ∀ {k : Nat}, isSq p v k = true ↔ ∃ r : Nat, r < k ∧ (r : Int) * r % p = v
  | 0 => by simp [isSq]
  | k + 1 => by
    unfold isSq
    rw [Bool.or_eq_true, decide_eq_true_eq, isSq_iff]
    constructor
    · rintro (h | ⟨r, hr, h⟩)
      · exact ⟨k, by omega, h⟩
      · exact ⟨r, by omega, h⟩
    · rintro ⟨r, hr, h⟩
      by_cases q : r = k
      · subst q; exact .inl h
      · exact .inr ⟨r, by omega, h⟩
def rootN (p v : Nat) : Nat → Bool
  | 0 => false
  | k + 1 => Nat.beq (k * k % p) v || rootN p v k
def rootA (p h : Nat) : Nat → Bool
  | 0 => true
  | k + 1 => (!(Nat.beq (k ^ h % p) 1) || rootN p k p) && rootA p h k
theorem root_all : ∀ p ∈ pmL.map Int.toNat, rootA p ((p - 1) / 2) p = true := by decide +kernel
theorem rootN_ex {p v : Nat} : ∀ {k : Nat}, rootN p v k = true → ∃ r, r < k ∧ r * r % p = v
  | 0, h => by cases h
  | k + 1, h => by
    unfold rootN at h
    rw [Bool.or_eq_true] at h
    rcases h with h | h
    · exact ⟨k, by omega, Nat.eq_of_beq_eq_true h⟩
    · obtain ⟨r, hr, e⟩ := rootN_ex h
      exact ⟨r, by omega, e⟩
theorem rootA_at {p h : Nat} : ∀ {n : Nat}, rootA p h n = true → ∀ k, k < n → k ^ h % p = 1 → rootN p k p = true
  | 0, _, k, hk, _ => absurd hk (Nat.not_lt_zero _)
  | n + 1, h, k, hk, e => by
    unfold rootA at h
    rw [Bool.and_eq_true, Bool.or_eq_true] at h
    rcases Nat.lt_or_ge k n with q | q
    · exact rootA_at h.2 k q e
    · rw [show n = k by omega] at h
      rcases h.1 with z | z
      · rw [e] at z; cases z
      · exact z
section
variable {p : Int}
theorem Pm.chi_one (h : Pm p) {v : Int} (hc : chi p v = 1) : v ^ hp p % p = 1 := by
  have b := h.bd
  unfold chi at hc
  have d := dvd_emod' (v ^ hp p + 1) p
  rw [show (v ^ hp p + 1) % p = 2 by omega, show v ^ hp p + 1 - 2 = v ^ hp p - 1 by omega] at d
  rw [emod_congr d, Int.emod_eq_of_lt (by omega) (by omega)]
theorem Pm.root_of (h : Pm p) {v : Int} (h0 : 0 ≤ v) (h1 : v < p) (hc : chi p v = 1) : isSq p v p.toNat = true := by
  have b := h.bd
  have e := h.chi_one hc
  have tab := root_all p.toNat (List.mem_map_of_mem h.in_)
  have e2 : v.toNat ^ ((p.toNat - 1) / 2) % p.toNat = 1 := by
    have e3 : hp p = (p.toNat - 1) / 2 := by unfold hp; omega
    rw [← e3]
    have : ((v.toNat ^ hp p % p.toNat : Nat) : Int) = 1 := by
      push_cast
      rw [Int.toNat_of_nonneg h0, Int.toNat_of_nonneg (by omega), e]
    omega
  obtain ⟨r, hr, q⟩ := rootN_ex (rootA_at tab v.toNat (by omega) e2)
  refine isSq_iff.mpr ⟨r, hr, ?_⟩
  have : ((r * r % p.toNat : Nat) : Int) = (v.toNat : Int) := by rw [q]
  push_cast at this
  rw [Int.toNat_of_nonneg h0, Int.toNat_of_nonneg (show 0 ≤ p by omega)] at this
  exact this
theorem Pm.chi_sq (h : Pm p) {r v : Int} (hr : ¬ p ∣ r) (e : p ∣ v - r * r) : chi p v = 1 := by
  rw [chi_congr e, h.chi_mul]
  rcases h.chi_cases r with ⟨z, _⟩ | ⟨_, z | z⟩
  · exact absurd z hr
  · rw [z]; rfl
  · rw [z]; rfl
theorem Pm.ndvd (h : Pm p) {v : Int} (h0 : 0 < v) (h1 : v < p) : ¬ p ∣ v := fun d => by
  have := Int.le_of_dvd h0 d
  omega
theorem Pm.tab (h : Pm p) {v : Int} (h0 : 0 ≤ v) (h1 : v < p) : (if v = 0 then 0 else if isSq p v p.toNat = true then 1 else -1) = chi p v := by
  by_cases z : v = 0
  · subst z
    rw [if_pos rfl, h.chi0 (Int.dvd_zero _)]
  rw [if_neg z]
  have nd := h.ndvd (v := v) (by omega) h1
  by_cases q : isSq p v p.toNat = true
  · rw [if_pos q]
    obtain ⟨r, hr, e⟩ := isSq_iff.mp q
    have d := dvd_emod ((r : Int) * r) p
    rw [e] at d
    refine (h.chi_sq (fun w => nd ?_) d).symm
    have := Int.dvd_add d (Int.dvd_trans w (Int.dvd_mul_right _ (r : Int)))
    rwa [Int.sub_add_cancel] at this
  · rw [if_neg q]
    rcases h.chi_cases v with ⟨w, _⟩ | ⟨_, w | w⟩
    · exact absurd w nd
    · exact absurd (h.root_of h0 h1 w) q
    · exact w.symm
def rts (p v : Int) (n : Nat) : Int := tsum (fun r : Nat => if (r : Int) * r % p = v then 1 else 0) n
theorem Pm.sq_eq (h : Pm p) {r z : Int} (e : r * r % p = z * z % p) : p ∣ r - z ∨ p ∣ r + z := by
  have d := dvd_of_emod e
  rw [show r * r - z * z = (r - z) * (r + z) by grind] at d
  exact h.dvd d
theorem Pm.rts (h : Pm p) {v : Int} (h0 : 0 ≤ v) (h1 : v < p) : rts p v p.toNat = 1 + chi p v := by
  have b := h.bd
  have od := h.odd
  unfold Pv.rts
  by_cases hz : v = 0
  · subst hz
    rw [h.chi0 (Int.dvd_zero _), tsum_congr (v := fun r : Nat => if r = 0 then 1 else 0) fun r hr => ?_, tsum_one, if_pos (by omega)]
    · rfl
    · by_cases q : r = 0
      · subst q; simp
      · rw [if_neg q, if_neg]
        intro e
        have d := Int.dvd_of_emod_eq_zero e
        exact (h.dvd d).elim (h.ndvd (by omega) (by omega)) (h.ndvd (by omega) (by omega))
  rw [← h.tab h0 h1, if_neg hz]
  by_cases q : isSq p v p.toNat = true
  · rw [if_pos q]
    obtain ⟨z, hz2, e⟩ := isSq_iff.mp q
    have z0 : z ≠ 0 := fun w => by subst w; simp at e; omega
    rw [tsum_congr (v := fun r : Nat => (if r = z then (1 : Int) else 0) + (if r = p.toNat - z then 1 else 0)) fun r hr => ?_, tsum_add, tsum_one, tsum_one, if_pos hz2, if_pos (by omega)]
    by_cases c1 : r = z
    · subst c1
      rw [if_pos e, if_pos rfl, if_neg (by omega)]; rfl
    · rw [if_neg c1]
      by_cases c2 : r = p.toNat - z
      · rw [if_pos c2, if_pos]; rfl
        have : (r : Int) = p - z := by omega
        rw [this, ← e]
        refine emod_congr ⟨p - 2 * z, ?_⟩
        grind
      · rw [if_neg c2, if_neg]; rfl
        intro w
        rw [← e] at w
        rcases h.sq_eq w with d | d
        · have := rg_eq (x := (r : Int)) (y := z) (by omega) (by omega) (by omega) (by omega) d
          omega
        · obtain ⟨k, hk⟩ := d
          have k1 : 0 < k := by
            rcases Int.lt_or_le 0 k with a | a
            · exact a
            · have := Int.mul_le_mul_of_nonneg_left a (show 0 ≤ p by omega)
              simp at this; omega
          have k2 : k < 2 := by
            rcases Int.lt_or_le k 2 with a | a
            · exact a
            · have := Int.mul_le_mul_of_nonneg_left a (show 0 ≤ p by omega)
              omega
          have : k = 1 := by omega
          subst this
          omega
  · rw [if_neg q, tsum_congr (v := fun _ => 0) fun r hr => if_neg fun e => q (isSq_iff.mpr ⟨r, hr, e⟩), tsum_zero]; rfl
end
def trL (p : Int) : List Int := (List.range (p + 1 - -p).toNat).filterMap fun k : Nat => if (-p + (k : Int)) * (-p + k) < 4 * p then some (-p + (k : Int)) else none
def okR (t : Int) (rs : List (Int × Int)) : Bool := rs.all fun q => decide (t % q.1 = q.2)
def fitL (p : Int) (rs : List (Int × Int)) : List Int := (trL p).filterMap fun t => if okR t rs = true then some t else none
theorem sq_lt {u n : Int} (h : u * u < n * n) (hn : 0 < n) : -n < u ∧ u < n := by
  constructor
  · rcases Int.lt_or_le (-n) u with q | q
    · exact q
    · have := Int.mul_le_mul (a := n) (b := n) (c := -u) (d := -u) (by omega) (by omega) (by omega) (by omega)
      rw [Int.neg_mul_neg] at this
      omega
  · rcases Int.lt_or_le u n with q | q
    · exact q
    · have := Int.mul_le_mul (a := n) (b := n) (c := u) (d := u) (by omega) (by omega) (by omega) (by omega)
      omega
theorem trL_in {p t : Int} (h : t ∈ trL p) : -p ≤ t ∧ t ≤ p ∧ t * t < 4 * p := by
  unfold trL at h
  obtain ⟨k, hk, e⟩ := List.mem_filterMap.mp h
  have := List.mem_range.mp hk
  split at e
  · rename_i q
    cases e
    exact ⟨by omega, by omega, q⟩
  · cases e
theorem trL_len (p : Int) : (trL p).length ≤ (p + 1 - -p).toNat := by
  unfold trL
  exact Nat.le_trans (List.length_filterMap_le _ _) (by rw [List.length_range]; omega)
end Pv
end

section
set_option autoImplicit false
namespace Xk18
open PySem Pv
variable {Φ : Fns} {g : G}
abbrev IsIntC (Φ : Fns) (i : Nat) : Prop := ∀ (x : Int) (g : G), Φ i [.int x] g = .ok (.bool true) g
theorem is_int_run {x : Int} : Ok (Pv.run Φ fuel m_is_integer [some (.int x)] g) (retF fun r g' => r = .bool true ∧ g' = g) := by
  unfold m_is_integer
  have b2 : biV .isInt [.int x] = some (.bool true) := by simp [biV, isDk]
  have b3 : biV .isBool [.int x] = some (.bool false) := by simp [biV, isDk]
  simp [b2, b3, -Bool.exists_bool]
abbrev IsPrimeC (Φ : Fns) (i : Nat) : Prop := ∀ (p : Int) (g : G), Pm p → Φ i [.int p] g = .ok (.bool true) g
theorem pm_small : ∀ p ∈ pmL, ∀ l ∈ [2, 3, 5, 7, 11, (13 : Int)], p % l = 0 → p = l := by decide +kernel
theorem is_prime_run {i0 : Nat} {p : Int} (hp : Pm p) (h0 : IsIntC Φ i0) : Ok (Pv.run Φ fuel (m_is_prime i0) [some (.int p), none] g) (retF fun r g' => r = .bool true ∧ g' = g) := by
  have b := hp.bd
  unfold m_is_prime
  generalize hQ : retF _ = QQ
  rw [Ok_seq]; simp [h0 p g, show ¬ p < 7 by omega, show ¬ 199 < p by omega, -Bool.exists_bool]
  rw [Ok_seq, Ok_for]; simp [-Bool.exists_bool]
  rw [show PyData.tuple [.int 2, .int 3, .int 5, .int 7, .int 11, .int 13] = tupD [2, 3, 5, 7, 11, 13] from rfl, seq_t]
  refine ⟨_, rfl, ?_⟩
  refine ok_forL (fun k σ g2 => g2 = g ∧ ∃ y : Option D, σ = [some (.int p), y]) ⟨rfl, none, rfl⟩ ?_ ?_
  · rintro k x σ g2 hx ⟨rfl, y, rfl⟩
    have hm := List.mem_of_getElem? hx
    obtain ⟨l, hl, rfl⟩ := List.mem_map.mp hm
    have f := pm_small p hp.in_ l hl
    have lp : 0 < l := by
      have : ∀ l ∈ [2, 3, 5, 7, 11, (13 : Int)], 0 < l := by decide
      exact this l hl
    generalize hI : loopF _ _ = II
    rw [Ok_turnF]; simp [lp, -Bool.exists_bool]
    subst hI
    by_cases z : p % l = 0
    · simp [z, f z, -Bool.exists_bool]
    · simp [z, -Bool.exists_bool]
  · rintro σ g2 ⟨rfl, y, rfl⟩
    simp
    subst hQ
    exact ⟨rfl, rfl⟩
abbrev IsNumC (Φ : Fns) (i : Nat) : Prop := ∀ (p a : Int) (g : G), 0 ≤ a → a < p → Φ i [.int p, .int a] g = .ok (.bool true) g
theorem is_num_run {i0 : Nat} {p a : Int} (h1 : 0 ≤ a) (h2 : a < p) (h0 : IsIntC Φ i0) : Ok (Pv.run Φ fuel (m_is_number i0) [some (.int p), some (.int a)] g) (retF fun r g' => r = .bool true ∧ g' = g) := by
  unfold m_is_number
  simp [h0 a g, h1, h2, -Bool.exists_bool]
def curD (p a b : Int) : D := objD 0 [(.str "prime", .int p), (.str "a", .int a), (.str "b", .int b)]
theorem cur_p (p a b : Int) : fldV (curD p a b) "prime" = some (.int p) := by rfl
theorem cur_a (p a b : Int) : fldV (curD p a b) "a" = some (.int a) := by rfl
theorem cur_b (p a b : Int) : fldV (curD p a b) "b" = some (.int b) := by rfl
structure Cu (p a b : Int) : Prop where
  pm : Pm p
  a0 : 0 ≤ a
  a1 : a < p
  b0 : 0 ≤ b
  b1 : b < p
  ns : (4 * a * a * a + 27 * b * b) % p ≠ 0
theorem set_0 (v : D) : setFV 0 "prime" v (objD 0 []) = some (objD 0 [(.str "prime", v)]) := rfl
theorem set_1 (v w : D) : setFV 0 "a" w (objD 0 [(.str "prime", v)]) = some (objD 0 [(.str "prime", v), (.str "a", w)]) := rfl
theorem set_2 (v w x : D) : setFV 0 "b" x (objD 0 [(.str "prime", v), (.str "a", w)]) = some (objD 0 [(.str "prime", v), (.str "a", w), (.str "b", x)]) := rfl
abbrev MkCurC (Φ : Fns) (i : Nat) : Prop := ∀ (p a b : Int) (g : G), Cu p a b → Φ i [objD 0 [], .int p, .int a, .int b] g = .ok (curD p a b) g
theorem mk_cur_run {i0 i1 : Nat} {p a b : Int} (c : Cu p a b) (h0 : IsNumC Φ i0) (h1 : IsPrimeC Φ i1) : Ok (Pv.run Φ fuel (m_Curve___init__ i0 i1) [some (objD 0 []), some (.int p), some (.int a), some (.int b)] g) (retF fun r g' => r = curD p a b ∧ g' = g) := by
  have bd := c.pm.bd
  have m1 := mulOk_sm (a := 4) (b := a) (by have := c.a0; omega) (by have := c.a1; omega)
  have m2 : ∀ x : Int, mulOk x a = true := fun x => mulOk_sm (by have := c.a0; omega) (by have := c.a1; omega)
  have m3 : ∀ x : Int, mulOk x b = true := fun x => mulOk_sm (by have := c.b0; omega) (by have := c.b1; omega)
  unfold m_Curve___init__ n_Curve___init__
  generalize hQ : retF _ = QQ
  rw [Ok_seq, Ok_seq]; simp [h1 p g c.pm, -Bool.exists_bool]
  rw [Ok_seq]; simp [h0 p a g c.a0 c.a1, -Bool.exists_bool]
  rw [Ok_seq]; simp [h0 p b g c.b0 c.b1, -Bool.exists_bool]
  rw [Ok_seq]; simp [m2, m3, bd, c.ns, c.pm.pos, -Bool.exists_bool]
  rw [Ok_seq]; simp [set_0]
  rw [Ok_seq]; simp [set_1]
  simp [set_2]
  subst hQ
  exact ⟨rfl, rfl⟩
structure Tab (p : Int) (xs : Po) : Prop where
  len : xs.length = p.toNat
  at_ : ∀ v : Int, 0 ≤ v → v < p → cf xs v.toNat = chi p v
theorem fm_map {α β : Type} (u : α → β) (l : List α) : l.filterMap (fun x => some (u x)) = l.map u := by
  show l.filterMap (some ∘ u) = _
  rw [List.filterMap_eq_map]
theorem fm_repl (w : Int) (n : Nat) : (List.range n).filterMap (fun _ : Nat => some w) = List.replicate n w := by
  rw [fm_map]
  induction n with
  | zero => rfl
  | succ n ih => rw [List.range_succ, List.map_append, ih, List.replicate_succ']; rfl
theorem cf_replW {w : Int} {n i : Nat} (h : i < n) : cf (List.replicate n w) i = w := by
  rw [cf_lt (by rw [List.length_replicate]; exact h)]; simp
theorem sq_rg {p : Int} (hp : Pm p) (r : Nat) : 0 ≤ (r : Int) * r % p ∧ (r : Int) * r % p < p := emod_rg _ hp.pos
abbrev SqTabC (Φ : Fns) (i : Nat) : Prop := ∀ (p : Int) (g : G), Pm p → Ok (Φ i [.int p] g) fun r g' => (∃ xs, r = lD xs ∧ Tab p xs) ∧ g' = g
theorem sq_tab_run {p : Int} (hp : Pm p) : Ok (Pv.run Φ fuel m_square_table [some (.int p), none, none, none] g) (retF fun r g' => (∃ xs, r = lD xs ∧ Tab p xs) ∧ g' = g) := by
  have bd := hp.bd
  unfold m_square_table
  generalize hQ : retF _ = QQ
  rw [Ok_seq]; simp
  rw [itV_r1 (by omega) (by omega)]; simp [range_len]
  refine ⟨by unfold lineN; omega, ?_⟩
  rw [range_em]
  refine ok_compM (em := fun k : Nat => .int (0 + k)) (eo := .int) (u := fun _ : Nat => some (-1 : Int)) (xs := List.range p.toNat) (fun k hk => ?_) ?_
  · rw [Ok_itemF]; simp [wipeS]
  rw [fm_repl, show PyData.list ((List.replicate p.toNat (-1)).map .int) = lD (List.replicate p.toNat (-1)) from rfl]
  rw [Ok_seq, Ok_for]; simp
  rw [itV_r1 (by omega) (by omega)]; simp
  refine ok_forL (fun k σ g2 => g2 = g ∧ ∃ (y2 : Option D) (xs : Po), σ = [some (.int p), some (lD xs), y2, none] ∧ xs.length = p.toNat ∧ ∀ v : Int, 0 ≤ v → v < p → cf xs v.toNat = if isSq p v k = true then 1 else -1) ⟨rfl, none, _, rfl, List.length_replicate, fun v h0 h1 => by rw [cf_replW (by omega)]; rfl⟩ ?_ ?_
  · rintro k x σ g2 hx ⟨rfl, y2, xs, rfl, hl, hc⟩
    obtain ⟨hk, rfl⟩ := range_at hx
    have kk : mulOk (0 + (k : Int)) (0 + (k : Int)) = true := mulOk_sm (by omega) (by omega)
    simp only [Int.zero_add] at *
    have r := sq_rg hp k
    generalize hI : loopF _ _ = II
    rw [Ok_turnF]; simp [kk, hp.pos]
    rw [set_lD r.1 (by omega)]; simp
    subst hI
    refine ⟨rfl, _, _, rfl, by rw [List.length_set]; exact hl, fun v h0 h1 => ?_⟩
    rw [cf_set (by omega), hc v h0 h1]
    rw [show isSq p v (k + 1) = (decide ((k : Int) * k % p = v) || isSq p v k) from rfl]
    by_cases q : (k : Int) * k % p = v
    · simp [q]
    · rw [if_neg (by omega)]; simp [q]
  · rintro σ g2 ⟨rfl, y2, xs, rfl, hl, hc⟩
    rw [range_len] at hc
    simp
    rw [Ok_seq]; simp
    rw [set_lD (by omega) (by omega)]; simp
    subst hQ
    refine ⟨⟨_, rfl, by rw [List.length_set]; exact hl, fun v h0 h1 => ?_⟩, rfl⟩
    rw [cf_set (by omega), ← hp.tab h0 h1, hc v h0 h1]
    by_cases q : v = 0
    · subst q; simp
    · rw [if_neg (by omega), if_neg q]
abbrev TrTabC (Φ : Fns) (i : Nat) : Prop := ∀ (p a b : Int) (xs : Po) (g : G), Pm p → Tab p xs → Φ i [.int p, .int a, .int b, lD xs] g = .ok (.int (-csum p a b)) g
theorem tr_tab_run {p a b : Int} {xs : Po} (hp : Pm p) (t : Tab p xs) : Ok (Pv.run Φ fuel m_trace_by_table [some (.int p), some (.int a), some (.int b), some (lD xs), none] g) (retF fun r g' => r = .int (-csum p a b) ∧ g' = g) := by
  have bd := hp.bd
  have tl := t.len
  unfold m_trace_by_table
  generalize hQ : retF _ = QQ
  simp
  rw [itV_r1 (by omega) (by omega)]; simp [range_len]
  refine ⟨by unfold lineN; omega, ?_⟩
  rw [range_em]
  refine ok_compM (em := fun k : Nat => .int (0 + k)) (eo := .int) (u := fun k : Nat => some (chi p (fx a b k))) (xs := List.range p.toNat) (fun k hk => ?_) ?_
  · have hk := List.mem_range.mp hk
    have mk : ∀ x : Int, mulOk x k = true := fun x => mulOk_sm (by omega) (by omega)
    have r := emod_rg (fx a b k) hp.pos
    have e : (k : Int) * k * k + a * k + b = fx a b k := rfl
    rw [Ok_itemF]; simp [wipeS, mk, hp.pos, e]
    rw [idx_lD r.1 (by omega), t.at_ _ r.1 r.2, chi_mod]
  rw [fm_map]
  have s : biV .sum [.list (((List.range p.toNat).map fun k : Nat => chi p (fx a b k)).map .int)] = some (.int (csum p a b)) := by
    simp only [biV, ints_map, Option.map_some, sum_range]; rfl
  rw [s]
  simp
  subst hQ
  exact ⟨rfl, rfl⟩
abbrev TraceC (Φ : Fns) (i : Nat) : Prop := ∀ (p a b : Int) (g : G), Pm p → Φ i [curD p a b] g = .ok (.int (-csum p a b)) g
abbrev IsTrC (Φ : Fns) (i : Nat) : Prop := ∀ (p t : Int) (g : G), Pm p → -1000 < t → t < 1000 → Φ i [.int p, .int t] g = .ok (.bool (decide (t * t < 4 * p))) g
theorem is_tr_run {i0 : Nat} {p t : Int} (hp : Pm p) (h1 : -1000 < t) (h2 : t < 1000) (h0 : IsIntC Φ i0) : Ok (Pv.run Φ fuel (m_is_trace i0) [some (.int p), some (.int t)] g) (retF fun r g' => r = .bool (decide (t * t < 4 * p)) ∧ g' = g) := by
  have b := hp.bd
  unfold m_is_trace
  have m1 : mulOk t t = true := mulOk_sm (by omega) (by omega)
  have m2 : mulOk 4 p = true := mulOk_sm (by omega) (by omega)
  simp [h0 t g, m1, m2, -Bool.exists_bool]
abbrev AllTrC (Φ : Fns) (i : Nat) : Prop := ∀ (p : Int) (g : G), Pm p → Φ i [.int p] g = .ok (lD (trL p)) g
abbrev TrRemC (Φ : Fns) (i : Nat) : Prop := ∀ (p a b l : Int) (g : G), Pm p → 0 < l → Φ i [curD p a b, .int l] g = .ok (.int (-csum p a b % l)) g
def pairs (rs : List (Int × Int)) : List D := rs.map fun q => .tuple [.int q.1, .int q.2]
abbrev FitC (Φ : Fns) (i : Nat) : Prop := ∀ (p : Int) (rs : List (Int × Int)) (g : G), Pm p → (∀ q ∈ rs, 0 < q.1) → rs.length < 1000 → Φ i [.int p, .tuple (pairs rs)] g = .ok (tupD (fitL p rs)) g
end Xk18
end

section
set_option autoImplicit false
namespace Xk18
open PySem Pv
variable {Φ : Fns} {g : G}
def Sing (p a b : Int) : Prop := p ∣ 4 * a * a * a + 27 * b * b
abbrev CurveC (Φ : Fns) (i : Nat) : Prop := ∀ (p : Int) (g : G), Pm p → DkB g → Ok (Φ i [tokD 0, .int p] g) fun r g' => (∃ a b, r = .tuple [.int a, .int b] ∧ Cu p a b) ∧ DkB g'
abbrev CountC (Φ : Fns) (i : Nat) : Prop := ∀ (p a b : Int) (g : G), Pm p → Φ i [.int p, .int a, .int b] g = .ok (.int (1 + (p + csum p a b))) g
abbrev LTrC (Φ : Fns) (i : Nat) : Prop := ∀ (p : Int) (g : G), Pm p → Φ i [.int p] g = .ok (lD (trL p)) g
theorem ltr_run {p : Int} (hp : Pm p) : Ok (Pv.run Φ fuel m__law_traces [some (.int p), none] g) (retF fun r g' => r = lD (trL p) ∧ g' = g) := by
  have b := hp.bd
  unfold m__law_traces
  generalize hQ : retF _ = QQ
  simp
  rw [itV_r2 (by omega) (by omega) (by omega) (by omega)]; simp [range_len]
  refine ⟨by unfold lineN; omega, ?_⟩
  rw [range_em, show p + 1 + p = p + 1 - -p by omega]
  refine ok_compM (em := fun k : Nat => .int (-p + k)) (eo := .int) (u := fun k : Nat => if (-p + (k : Int)) * (-p + k) < 4 * p then some (-p + (k : Int)) else none) (xs := List.range (p + 1 - -p).toNat) (fun k hk => ?_) ?_
  · have hk := List.mem_range.mp hk
    have m1 : mulOk (-p + (k : Int)) (-p + k) = true := mulOk_sm (by omega) (by omega)
    have m2 : mulOk 4 p = true := mulOk_sm (by omega) (by omega)
    rw [Ok_itemF]; simp [wipeS, m1, m2]
    by_cases z : (-p + (k : Int)) * (-p + k) < 4 * p <;> simp [z] <;> omega
  · subst hQ
    rw [retF_rt]
    exact ⟨rfl, rfl⟩
abbrev LFitC (Φ : Fns) (i : Nat) : Prop := ∀ (p : Int) (rs : List (Int × Int)) (g : G), Pm p → (∀ q ∈ rs, 0 < q.1) → rs.length < 1000 → Φ i [.int p, .list (pairs rs)] g = .ok (tupD (fitL p rs)) g
end Xk18
end

section
set_option autoImplicit false
namespace Pv
open PySem
section
variable {p : Int}
def rootF (p a b : Int) : List Int := (List.range p.toNat).filterMap fun k : Nat => if fx a b k % p = 0 then some (k : Int) else none
def nr (p : Int) : Int := Int.ofNat (((List.range 24).find? fun k : Nat => decide (chi p (k : Int) = -1)).getD 0)
theorem nr_all : ∀ p ∈ pmL, 2 ≤ nr p ∧ nr p < p ∧ chi p (nr p) = -1 ∧ ∀ m ∈ List.range (nr p).toNat, 1 ≤ m → chi p m = 1 := by decide +kernel
theorem Pm.nr (h : Pm p) : 2 ≤ Pv.nr p ∧ Pv.nr p < p ∧ chi p (Pv.nr p) = -1 ∧ ∀ m : Nat, 1 ≤ m → (m : Int) < Pv.nr p → chi p m = 1 := by
  obtain ⟨h1, h2, h3, h4⟩ := nr_all p h.in_
  exact ⟨h1, h2, h3, fun m h0 hm => h4 m (List.mem_range.mpr (by omega)) h0⟩
end
end Pv
end

section
set_option autoImplicit false
namespace Xk18
open PySem Pv
variable {Φ : Fns} {g : G}
theorem keq_int (a b : Int) : keq (.int a) (.int b) = decide (a = b) := by
  show decide ((Sum.inl a : L2.Key) = Sum.inl b) = decide (a = b)
  by_cases h : a = b
  · subst h; simp
  · rw [decide_eq_false h, decide_eq_false fun z => h (Sum.inl.inj z)]
def IK (kvs : List (D × D)) : Prop := ∀ q ∈ kvs, ∃ w : Int, q.1 = .int w
abbrev NpC (Φ : Fns) (i : Nat) : Prop := ∀ (p a e : Int) (g : G), 1 < p → p < 1000000 → 0 ≤ e → e < 1000000 → Φ i [.int p, .int a, .int e] g = .ok (.int (a ^ e.toNat % p)) g
theorem number_power_run {p a e : Int} (hp : 1 < p) (hp2 : p < 1000000) (he : 0 ≤ e) (he2 : e < 1000000) : Ok (Pv.run Φ fuel m_number_power [some (.int p), some (.int a), some (.int e), none, none, none] g) (retF fun r g' => r = .int (a ^ e.toNat % p) ∧ g' = g) := by
  rw [← Ok_fin]
  exact .of_eq (npow (Φ := Φ) (g := g) hp (by omega) he (by omega)) ⟨rfl, rfl⟩
abbrev IsSqC (Φ : Fns) (i : Nat) : Prop := ∀ (p v : Int) (g : G), Pm p → 0 < v → v < p → Φ i [.int p, .int v] g = .ok (.bool (decide (chi p v = 1))) g
theorem chi_pow {p v : Int} (hp : Pm p) : (v ^ Pv.hp p % p = 1) ↔ chi p v = 1 := by
  refine ⟨fun e => hp.chi1 ?_, fun e => hp.chi_one e⟩
  have h1 : (1 : Int) % p = 1 := Int.emod_eq_of_lt (by omega) hp.one
  exact dvd_of_emod (e.trans h1.symm)
theorem is_sq_run {i0 : Nat} {p v : Int} (hp : Pm p) (h0 : 0 < v) (h1 : v < p) (hN : NpC Φ i0) : Ok (Pv.run Φ fuel (m_is_square i0) [some (.int p), some (.int v)] g) (retF fun r g' => r = .bool (decide (chi p v = 1)) ∧ g' = g) := by
  have bd := hp.bd
  have e := hN p v ((p - 1) / 2) g (by omega) (by omega) (by omega) (by omega)
  have c := chi_pow (v := v) hp
  unfold Pv.hp at c
  unfold m_is_square
  simp [show ¬ v = 0 by omega, e]
  rcases Classical.em (chi p v = 1) with q | q
  · exact .inr ⟨c.mpr q, q⟩
  · exact .inl ⟨fun z => q (c.mp z), q⟩
abbrev SpareC (Φ : Fns) (i : Nat) : Prop := ∀ (p : Int) (g : G), Pm p → Φ i [.int p] g = .ok (.int (nr p)) g
theorem spare_run {i0 : Nat} {p : Int} (hp : Pm p) (hS : IsSqC Φ i0) : Ok (Pv.run Φ fuel (m_spare i0) [some (.int p), none] g) (retF fun r g' => r = .int (nr p) ∧ g' = g) := by
  have bd := hp.bd
  obtain ⟨n1, n2, n3, n4⟩ := hp.nr
  unfold m_spare
  generalize hQ : retF _ = QQ
  rw [Ok_seq]; simp
  rw [Ok_seq, Ok_while]
  refine ok_whileL (fun m σ g' => g' = g ∧ ∃ v : Int, σ = [some (.int p), some (.int v)] ∧ 2 ≤ v ∧ v ≤ nr p ∧ (m : Int) = nr p - v) ?_ fuel (nr p - 2).toNat (by unfold fuel; omega) ⟨rfl, 2, rfl, by omega, by omega, by omega⟩
  rintro m σ g' ⟨rfl, v, rfl, v1, v2, v3⟩
  have q := hS p v g' hp (by omega) (by omega)
  by_cases z : v = nr p
  · subst z
    rw [n3] at q
    simp [q]
    subst hQ
    exact ⟨rfl, rfl⟩
  · have c := n4 v.toNat (by omega) (by omega)
    rw [Int.toNat_of_nonneg (by omega)] at c
    rw [c] at q
    simp [q]
    exact ⟨m - 1, by omega, by omega, by omega, by omega⟩
theorem cur_ob (p a b : Int) : isObj (curD p a b) = true ∧ isOb 0 (curD p a b) = true := ⟨rfl, rfl⟩
abbrev EqC (Φ : Fns) (i : Nat) : Prop := ∀ (p a b : Int) (g : G), Φ i [curD p a b, curD p a b] g = .ok (.bool true) g
theorem eq_run {p a b : Int} : Ok (Pv.run Φ fuel m_Curve___eq__ [some (curD p a b), some (curD p a b)] g) (retF fun r g' => r = .bool true ∧ g' = g) := by
  unfold m_Curve___eq__
  simp [cur_ob, cur_p, cur_a, cur_b]
abbrev RightC (Φ : Fns) (i : Nat) : Prop := ∀ (p a b x : Int) (g : G), Cu p a b → 0 ≤ x → x < p → Φ i [curD p a b, .int x] g = .ok (.int (fx a b x % p)) g
def lenAt (acc : List (D × D)) (v : Int) : Nat := match dLook (.int v) acc with
  | some (.list l) => l.length
  | _ => 0
def Lst (m : Nat) (acc : List (D × D)) : Prop := ∀ q ∈ acc, ∃ (w : Int) (l : List D), q = (.int w, .list l) ∧ l.length ≤ m
abbrev PointsC (Φ : Fns) (i : Nat) : Prop := ∀ (p a b : Int) (g : G), Cu p a b → Ok (Φ i [curD p a b] g) fun r g' => (∃ xs : List D, r = .tuple xs ∧ (xs.length : Int) = 1 + (p + csum p a b)) ∧ g' = g
theorem cu_twist {p a b d : Int} (c : Cu p a b) (hd : ¬ p ∣ d) : Cu p (a * d * d % p) (b * d * d * d % p) := by
  have pp := c.pm.pos
  have r1 := emod_rg (a * d * d) pp
  have r2 := emod_rg (b * d * d * d) pp
  refine ⟨c.pm, r1.1, r1.2, r2.1, r2.2, fun z => ?_⟩
  have d0 := Int.dvd_of_emod_eq_zero z
  have d1 := dvd_emod (a * d * d) p
  have d2 := dvd_emod (b * d * d * d) p
  generalize a * d * d % p = x at *
  generalize b * d * d * d % p = y at *
  have e := Int.dvd_sub d0 (Int.dvd_add (Int.dvd_trans d1 (Int.dvd_mul_right _ (4 * (x * x + x * (a * d * d) + a * d * d * (a * d * d))))) (Int.dvd_trans d2 (Int.dvd_mul_right _ (27 * (y + b * d * d * d)))))
  rw [show 4 * x * x * x + 27 * y * y - ((x - a * d * d) * (4 * (x * x + x * (a * d * d) + a * d * d * (a * d * d))) + (y - b * d * d * d) * (27 * (y + b * d * d * d))) = d * (d * (d * (d * (d * (d * (4 * a * a * a + 27 * b * b)))))) by grind] at e
  have s := fun {w : Int} (h : p ∣ d * w) => (c.pm.dvd h).resolve_left hd
  exact c.ns (Int.emod_eq_zero_of_dvd (s (s (s (s (s (s e)))))))
abbrev TwistC (Φ : Fns) (i : Nat) : Prop := ∀ (p a b : Int) (g : G), Cu p a b → Φ i [curD p a b] g = .ok (curD p (a * nr p * nr p % p) (b * nr p * nr p * nr p % p)) g
abbrev ScaledC (Φ : Fns) (i : Nat) : Prop := ∀ (p a b u : Int) (g : G), Cu p a b → 0 < u → u < p → Φ i [curD p a b, .int u] g = .ok (curD p (a * (u * u) * (u * u) % p) (b * (u * u) * (u * u) * (u * u) % p)) g
theorem cu_sc {p a b u : Int} (c : Cu p a b) (h0 : 0 < u) (h1 : u < p) : Cu p (a * (u * u) * (u * u) % p) (b * (u * u) * (u * u) * (u * u) % p) :=
  cu_twist c fun d => (c.pm.dvd d).elim (c.pm.ndvd h0 h1) (c.pm.ndvd h0 h1)
abbrev CountPC (Φ : Fns) (i : Nat) : Prop := ∀ (p a b : Int) (g : G), Pm p → Φ i [curD p a b] g = .ok (.int (1 + (p + csum p a b))) g
abbrev LSpareC (Φ : Fns) (i : Nat) : Prop := ∀ (p : Int) (g : G), Pm p → Φ i [.int p] g = .ok (.int (nr p)) g
abbrev LCntC (Φ : Fns) (i : Nat) : Prop := ∀ (p a b n : Int) (g : G), Pm p → n = 1 + (p + csum p a b) → Φ i [curD p a b, .int p, .int n] g = .ok (.bool true) g
end Xk18
end

section
set_option autoImplicit false
namespace Ec
open Lean.Grind
section
variable {F : Type} [Field F]
def On (a b x y : F) : Prop := y * y = x * x * x + a * x + b
def Sl (a x1 y1 x2 y2 s : F) : Prop := (x1 ≠ x2 ∧ s * (x2 - x1) = y2 - y1) ∨ (x1 = x2 ∧ y1 = y2 ∧ 2 * y1 ≠ 0 ∧ s * (2 * y1) = 3 * x1 * x1 + a)
theorem fact {a b x1 y1 x2 y2 s x : F} (h1 : On a b x1 y1) (h2 : On a b x2 y2) (hs : Sl a x1 y1 x2 y2 s) :
    x * x * x + a * x + b - (s * (x - x1) + y1) * (s * (x - x1) + y1) = (x - x1) * (x - x2) * (x - (s * s - x1 - x2)) := by
  unfold On at *
  rcases hs with ⟨n, e⟩ | ⟨e1, e2, n, e⟩
  · have n' : x1 - x2 ≠ 0 := by grind
    have : (x1 - x2) * (x * x * x + a * x + b - (s * (x - x1) + y1) * (s * (x - x1) + y1) - (x - x1) * (x - x2) * (x - (s * s - x1 - x2))) = 0 := by grind
    grind
  · subst e1; subst e2
    grind
theorem Sl.through {a x1 y1 x2 y2 s : F} (h : Sl a x1 y1 x2 y2 s) : s * (x2 - x1) = y2 - y1 := by
  rcases h with ⟨n, e⟩ | ⟨e1, e2, n, e⟩
  · exact e
  · grind
def sx (x1 x2 s : F) : F := s * s - x1 - x2
def sy (x1 y1 x2 s : F) : F := s * (x1 - sx x1 x2 s) - y1
theorem double {a b x1 y1 s t : F} (h1 : On a b x1 y1) (h : ∀ x : F, x * x * x + a * x + b - (s * (x - x1) + y1) * (s * (x - x1) + y1) = (x - x1) * (x - x1) * (x - t)) (h2 : (2 : F) ≠ 0) : s * (2 * y1) = 3 * x1 * x1 + a := by
  have e1 := h (x1 + 1)
  have e2 := h (x1 - 1)
  unfold On at h1
  grind
theorem back {a b x1 y1 x2 y2 s : F} (h1 : On a b x1 y1) (h2 : On a b x2 y2) (hs : Sl a x1 y1 x2 y2 s) (h20 : (2 : F) ≠ 0) (ns : ∀ x, On a b x 0 → 3 * x * x + a ≠ 0) :
    Sl a (sx x1 x2 s) (sy x1 y1 x2 s) x2 (-y2) (-s) ∨ sx x1 x2 s = x2 ∧ sy x1 y1 x2 s = y2 ∧ False := by
  left
  have th := hs.through
  by_cases z : sx x1 x2 s = x2
  · have f := fun x => fact (x := x) h1 h2 hs
    have ez : s * s - x1 - x2 = x2 := z
    rw [ez] at f
    have d : s * (2 * y2) = 3 * x2 * x2 + a := double (t := x1) (s := s) h2 (fun x => by have := f x; grind) h20
    have ny : 2 * y2 ≠ 0 := by
      intro q
      have y0 : y2 = 0 := by grind
      subst y0
      exact ns x2 h2 (by grind)
    refine .inr ⟨z, ?_, ?_, ?_⟩
    · unfold sy; rw [z]; grind
    · unfold sy; rw [z]; grind
    · unfold sy; rw [z]; grind
  · refine .inl ⟨z, ?_⟩
    unfold sy
    generalize sx x1 x2 s = X at *
    grind
end
end Ec
end

section
set_option autoImplicit false
namespace Ec
open Lean.Grind
section
variable {F : Type} [Field F] [DecidableEq F]
abbrev Pt (F : Type) := Option (F × F)
def OnP (a b : F) : Pt F → Prop
  | none => True
  | some (x, y) => On a b x y
def opp : Pt F → Pt F
  | none => none
  | some (x, y) => some (x, -y)
def slope (a x1 y1 x2 y2 : F) : F := if x1 = x2 then (3 * x1 * x1 + a) * (2 * y1)⁻¹ else (y2 - y1) * (x2 - x1)⁻¹
def add (a : F) : Pt F → Pt F → Pt F
  | none, Q => Q
  | P, none => P
  | some (x1, y1), some (x2, y2) => if x1 = x2 ∧ y1 + y2 = 0 then none else some (sx x1 x2 (slope a x1 y1 x2 y2), sy x1 y1 x2 (slope a x1 y1 x2 y2))
variable {a b : F} {P Q R : Pt F} {x1 y1 x2 y2 s : F}
structure Good (a b : F) : Prop where
  two : (2 : F) ≠ 0
  ns : ∀ x, On a b x 0 → 3 * x * x + a ≠ 0
end
end Ec
end

section
set_option autoImplicit false
namespace Pv
open PySem Lean.Grind
class PmI (p : Int) : Prop where
  pm : Pm p
abbrev Fp (p : Int) := Fin p.toNat
section
variable {p : Int}
instance [h : PmI p] : NeZero p.toNat := ⟨by have := h.pm.pos; omega⟩
def toF (p : Int) [PmI p] (i : Int) : Fp p := ⟨(i % p).toNat, by
  have h := (PmI.pm (p := p)).pos
  have := emod_rg i h
  omega⟩
section
variable [h : PmI p]
theorem toF_val (i : Int) : ((toF p i).val : Int) = i % p := by
  have := emod_rg i h.pm.pos
  show (((i % p).toNat : Nat) : Int) = _
  omega
theorem toF_eq {i j : Int} : toF p i = toF p j ↔ i % p = j % p := by
  constructor
  · intro e
    rw [← toF_val, ← toF_val, e]
  · intro e
    apply Fin.ext
    show (i % p).toNat = (j % p).toNat
    rw [e]
theorem toF_add (i j : Int) : toF p (i + j) = toF p i + toF p j := by
  have pp := h.pm.pos
  apply Fin.ext
  have e : (((toF p i + toF p j).val : Nat) : Int) = (i % p + j % p) % p := by
    rw [Fin.val_add, Int.natCast_emod, Int.natCast_add, toF_val, toF_val, Int.toNat_of_nonneg (by omega)]
  have e2 := toF_val (p := p) (i + j)
  rw [Int.add_emod] at e2
  omega
theorem toF_mul (i j : Int) : toF p (i * j) = toF p i * toF p j := by
  have pp := h.pm.pos
  apply Fin.ext
  have e : (((toF p i * toF p j).val : Nat) : Int) = (i % p) * (j % p) % p := by
    rw [Fin.val_mul, Int.natCast_emod, Int.natCast_mul, toF_val, toF_val, Int.toNat_of_nonneg (by omega)]
  have e2 := toF_val (p := p) (i * j)
  rw [Int.mul_emod] at e2
  omega
theorem toF_zero : toF p 0 = 0 := by
  apply Fin.ext
  show ((0 : Int) % p).toNat = (0 : Fin p.toNat).val
  simp
theorem toF_one : toF p 1 = 1 := by
  apply Fin.ext
  have := h.pm.one
  have e : ((1 : Fin p.toNat).val : Int) = 1 % p := by
    show (((1 % p.toNat : Nat)) : Int) = 1 % p
    rw [Int.natCast_emod, Int.toNat_of_nonneg (by omega)]; rfl
  have e2 := toF_val (p := p) 1
  omega
theorem toF_neg (i : Int) : toF p (-i) = -toF p i := by
  have e : toF p (-i) + toF p i = 0 := by rw [← toF_add, Int.add_left_neg, toF_zero]
  have : toF p (-i) = toF p (-i) + toF p i + -toF p i := by grind
  rw [this, e]; grind
theorem toF_sub (i j : Int) : toF p (i - j) = toF p i - toF p j := by
  rw [Int.sub_eq_add_neg, toF_add, toF_neg]; grind
theorem toF_mod (i : Int) : toF p (i % p) = toF p i := toF_eq.mpr (Int.emod_emod_of_dvd i (Int.dvd_refl p))
theorem toF_nz {i : Int} : toF p i = 0 ↔ p ∣ i := by
  rw [← toF_zero, toF_eq, Int.zero_emod]
  exact ⟨Int.dvd_of_emod_eq_zero, Int.emod_eq_zero_of_dvd⟩
theorem toF_onto (x : Fp p) : toF p x.val = x := by
  have := h.pm.pos
  apply Fin.ext
  have e := toF_val (p := p) x.val
  have l := x.isLt
  rw [Int.emod_eq_of_lt (by omega) (by omega)] at e
  omega
theorem toF_inj {i j : Int} (hi : 0 ≤ i) (hi' : i < p) (hj : 0 ≤ j) (hj' : j < p) (e : toF p i = toF p j) : i = j := by
  rw [toF_eq, Int.emod_eq_of_lt hi hi', Int.emod_eq_of_lt hj hj'] at e
  exact e
end
def fInv [PmI p] (x : Fp p) : Fp p := if x = 0 then 0 else toF p (ivP p x.val)
def fZp [PmI p] (x : Fp p) : Int → Fp p
  | .ofNat n => x ^ n
  | .negSucc n => fInv (x ^ (n + 1))
theorem fInv_ok [h : PmI p] {x : Fp p} (hx : x ≠ 0) : x * fInv x = 1 := by
  unfold fInv
  rw [if_neg hx]
  have nd : ¬ p ∣ (x.val : Int) := fun d => hx (by rw [← toF_onto x]; exact toF_nz.mpr d)
  have e := h.pm.iv nd
  conv => lhs; lhs; rw [← toF_onto x]
  rw [← toF_mul, ← toF_one, toF_eq]
  exact emod_congr e
theorem fp_zo [h : PmI p] : (0 : Fp p) ≠ 1 := fun e => by
  rw [← toF_zero, ← toF_one, toF_eq, Int.zero_emod, Int.emod_eq_of_lt (by omega) h.pm.one] at e
  cases e
theorem fInv_zero [h : PmI p] : fInv (0 : Fp p) = 0 := by unfold fInv; rw [if_pos rfl]
theorem fInv_inv [h : PmI p] (x : Fp p) : fInv (fInv x) = x := by
  by_cases z : x = 0
  · rw [z, fInv_zero, fInv_zero]
  · have e := fInv_ok z
    have z2 : fInv x ≠ 0 := fun y => fp_zo (p := p) (by rw [y] at e; rw [← e]; grind)
    have e2 := fInv_ok z2
    have : fInv (fInv x) = x * fInv x * fInv (fInv x) := by rw [e]; grind
    rw [this]
    have : x * fInv x * fInv (fInv x) = x * (fInv x * fInv (fInv x)) := by grind
    rw [this, e2]; grind
theorem fInv_one [h : PmI p] : fInv (1 : Fp p) = 1 := by
  have e := fInv_ok (x := (1 : Fp p)) (fun z => fp_zo z.symm)
  have : fInv (1 : Fp p) = 1 * fInv 1 := by grind
  rw [this, e]
instance fld [h : PmI p] : Field (Fp p) where
  inv := fInv
  div x y := x * fInv y
  zpow := ⟨fun x n => fZp x n⟩
  div_eq_mul_inv _ _ := rfl
  zero_ne_one := fp_zo
  inv_zero := fInv_zero
  mul_inv_cancel := fInv_ok
  zpow_zero x := Semiring.pow_zero x
  zpow_succ x n := Semiring.pow_succ x n
  zpow_neg x n := by
    show fZp x (-n) = fInv (fZp x n)
    cases n with
    | ofNat k => cases k with
      | zero =>
        show x ^ 0 = fInv (x ^ 0)
        rw [Semiring.pow_zero, fInv_one]
      | succ k => rfl
    | negSucc k =>
      show x ^ (k + 1) = fInv (fInv (x ^ (k + 1)))
      rw [fInv_inv]
end
end Pv
end

section
set_option autoImplicit false
namespace Pv
open PySem Lean.Grind
abbrev PtI := Option (Int × Int)
def OnI (p a b : Int) : PtI → Prop
  | none => True
  | some (x, y) => (0 ≤ x ∧ x < p) ∧ (0 ≤ y ∧ y < p) ∧ p ∣ y * y - fx a b x
def oppI (p : Int) : PtI → PtI
  | none => none
  | some (x, y) => some (x, -y % p)
def slI (p a x1 y1 x2 y2 : Int) : Int := if x1 = x2 then (3 * x1 * x1 + a) * ivP p (2 * y1 % p) % p else (y2 - y1) * ivP p ((x2 - x1) % p) % p
def addI (p a : Int) : PtI → PtI → PtI
  | none, Q => Q
  | P, none => P
  | some (x1, y1), some (x2, y2) => if x1 = x2 ∧ (y1 + y2) % p = 0 then none else
    some ((slI p a x1 y1 x2 y2 * slI p a x1 y1 x2 y2 - x1 - x2) % p, (slI p a x1 y1 x2 y2 * (x1 - (slI p a x1 y1 x2 y2 * slI p a x1 y1 x2 y2 - x1 - x2) % p) - y1) % p)
structure Cv (p a b : Int) : Prop where
  pm : Pm p
  ns : ¬ p ∣ 4 * a * a * a + 27 * b * b
section
variable {p a b : Int} [h : PmI p]
theorem toF_two : toF p 2 = 2 := by
  have : toF p 2 = toF p 1 + toF p 1 := by rw [← toF_add]; rfl
  rw [this, toF_one]; grind
theorem toF_three : toF p 3 = 3 := by
  have : toF p 3 = toF p 2 + toF p 1 := by rw [← toF_add]; rfl
  rw [this, toF_one, toF_two]; grind
def mapP (p : Int) [PmI p] : PtI → Ec.Pt (Fp p)
  | none => none
  | some (x, y) => some (toF p x, toF p y)
theorem on_iff {x y : Int} : Ec.On (toF p a) (toF p b) (toF p x) (toF p y) ↔ p ∣ y * y - fx a b x := by
  unfold Ec.On fx
  rw [← toF_mul, ← toF_mul, ← toF_mul, ← toF_mul, ← toF_add, ← toF_add, toF_eq]
  exact ⟨dvd_of_emod, emod_congr⟩
theorem OnI.map {P : PtI} (o : OnI p a b P) : Ec.OnP (toF p a) (toF p b) (mapP p P) := by
  cases P with
  | none => trivial
  | some q => obtain ⟨x, y⟩ := q; exact on_iff.mpr o.2.2
section
variable {P Q R : PtI}
end
end
end Pv
end

section
set_option autoImplicit false
namespace Pv
open PySem Lean.Grind
def mulN (p a : Int) : Nat → PtI → PtI
  | 0, _ => none
  | n + 1, P => addI p a (mulN p a n P) P
def mulZ (p a k : Int) (P : PtI) : PtI := if 0 ≤ k then mulN p a k.natAbs P else mulN p a k.natAbs (oppI p P)
section
variable {p a b : Int} [h : PmI p] {P Q R : PtI}
def carI (p u : Int) : PtI → PtI
  | none => none
  | some (x, y) => some (u * u * x % p, u * u * u * y % p)
end
end Pv
end

section
set_option autoImplicit false
namespace Xk18
open PySem Pv
variable {Φ : Fns} {g : G}
def ptD : PtI → D
  | none => .none
  | some (x, y) => .tuple [.int x, .int y]
abbrev InvC (Φ : Fns) (i : Nat) : Prop := ∀ (p a : Int) (g : G), Pm p → Φ i [.int p, .int a] g = .ok (.int (ivP p a)) g
theorem inverse_run {i : Nat} {p a : Int} (hp : Pm p) (h : NpC Φ i) : Ok (Pv.run Φ fuel (m_inverse i) [some (.int p), some (.int a)] g) (retF fun r g' => r = .int (ivP p a) ∧ g' = g) := by
  have b := hp.bd
  unfold m_inverse
  simp [h p a (p - 2) g (by omega) (by omega) (by omega) (by omega), ivP]
abbrev OppC (Φ : Fns) (i : Nat) : Prop := ∀ (p : Int) (P : PtI) (g : G), 0 < p → p < 1000000 → Φ i [.int p, ptD P] g = .ok (ptD (oppI p P)) g
abbrev AddPC (Φ : Fns) (i : Nat) : Prop := ∀ (p a b : Int) (P Q : PtI) (g : G), Cu p a b → OnI p a b P → OnI p a b Q → Φ i [curD p a b, ptD P, ptD Q] g = .ok (ptD (addI p a P Q)) g
abbrev MulPC (Φ : Fns) (i : Nat) : Prop := ∀ (p a b k : Int) (P : PtI) (g : G), Cu p a b → OnI p a b P → k.natAbs < 2 ^ 140 → Φ i [curD p a b, .int k, ptD P] g = .ok (ptD (mulZ p a k P)) g
abbrev CarPC (Φ : Fns) (i : Nat) : Prop := ∀ (p u : Int) (P : PtI) (g : G), 0 < p → p < 1000000 → 0 ≤ u → u < 1000 → (∀ x y, P = some (x, y) → (0 ≤ x ∧ x < p) ∧ (0 ≤ y ∧ y < p)) → Φ i [.int p, .int u, ptD P] g = .ok (ptD (carI p u P)) g
end Xk18
end

section
set_option autoImplicit false
namespace Pv
open PySem
abbrev Pr := Int × Int
def tl (x : Pr) : List Int := [x.1, x.2]
def ltp (x y : Pr) : Bool := HT.lexLt (tl x) (tl y)
def prD (x : Pr) : D := .tuple [.int x.1, .int x.2]
theorem ltp_iff {x y : Pr} : ltp x y = true ↔ x.1 < y.1 ∨ x.1 = y.1 ∧ x.2 < y.2 := by
  obtain ⟨a, b⟩ := x
  obtain ⟨c, d⟩ := y
  unfold ltp tl HT.lexLt
  unfold HT.lexLt
  unfold HT.lexLt
  by_cases h : a < c
  · simp [h]
    try omega
  · by_cases h2 : a = c
    · subst h2
      by_cases h3 : b < d
      · simp [h3]
        try omega
      · by_cases h4 : b = d <;> simp [h3, h4]
    · simp [h, h2]
theorem ltp_irr (x : Pr) : ltp x x = false := by
  cases h : ltp x x with
  | false => rfl
  | true => have := ltp_iff.mp h; omega
theorem ltp_tr {x y z : Pr} (h : ltp x y = true) (k : ltp y z = true) : ltp x z = true := by
  have := ltp_iff.mp h
  have := ltp_iff.mp k
  exact ltp_iff.mpr (by omega)
theorem ltp_asym {x y : Pr} (h : ltp x y = true) : ltp y x = false := by
  cases k : ltp y x with
  | false => rfl
  | true => have := ltp_tr h k; rw [ltp_irr] at this; cases this
theorem ltp_eq {x y : Pr} (h : ltp x y = false) (k : ltp y x = false) : x = y := by
  have h' : ¬ (x.1 < y.1 ∨ x.1 = y.1 ∧ x.2 < y.2) := fun z => by rw [ltp_iff.mpr z] at h; cases h
  have k' : ¬ (y.1 < x.1 ∨ y.1 = x.1 ∧ y.2 < x.2) := fun z => by rw [ltp_iff.mpr z] at k; cases k
  exact Prod.ext (by omega) (by omega)
theorem ltp_ntr {x y z : Pr} (h : ltp y x = false) (k : ltp z y = false) : ltp z x = false := by
  cases e : ltp z x with
  | false => rfl
  | true =>
    have h' : ¬ (y.1 < x.1 ∨ y.1 = x.1 ∧ y.2 < x.2) := fun w => by rw [ltp_iff.mpr w] at h; cases h
    have k' : ¬ (z.1 < y.1 ∨ z.1 = y.1 ∧ z.2 < y.2) := fun w => by rw [ltp_iff.mpr w] at k; cases k
    have := ltp_iff.mp e
    omega
def mnP : Pr → List Pr → Pr
  | t, [] => t
  | t, x :: r => mnP (if ltp x t then x else t) r
def mnL : List Pr → Pr
  | [] => (0, 0)
  | x :: r => mnP x r
theorem minT_tl : ∀ (l : List Pr) (t : Pr), minT (tl t) (l.map tl) = tl (mnP t l)
  | [], t => rfl
  | x :: r, t => by
    rw [List.map_cons]
    unfold minT mnP
    rw [← minT_tl r]
    unfold ltp
    split <;> rfl
theorem mnP_mem : ∀ (l : List Pr) (t : Pr), mnP t l ∈ t :: l
  | [], t => List.mem_cons_self
  | x :: r, t => by
    unfold mnP
    have := mnP_mem r (if ltp x t then x else t)
    rcases List.mem_cons.mp this with h | h
    · rw [h]
      split <;> simp
    · exact List.mem_cons_of_mem _ (List.mem_cons_of_mem _ h)
theorem mnP_le : ∀ (l : List Pr) (t : Pr), ∀ y ∈ t :: l, ltp y (mnP t l) = false
  | [], t, y, h => by
    rcases List.mem_cons.mp h with rfl | h
    · exact ltp_irr _
    · cases h
  | x :: r, t, y, h => by
    unfold mnP
    have ih := mnP_le r (if ltp x t then x else t)
    have h0 := ih _ List.mem_cons_self
    rcases List.mem_cons.mp h with rfl | h
    · by_cases c : ltp x y = true
      · rw [if_pos c] at h0 ih ⊢
        exact ltp_ntr h0 (ltp_asym c)
      · rw [if_neg c] at h0 ⊢; exact h0
    · rcases List.mem_cons.mp h with rfl | h
      · by_cases c : ltp y t = true
        · rw [if_pos c] at h0 ⊢; exact h0
        · rw [if_neg c] at h0 ⊢
          exact ltp_ntr h0 (by simpa using c)
      · exact ih _ (List.mem_cons_of_mem _ h)
theorem mnL_mem {l : List Pr} (h : l ≠ []) : mnL l ∈ l := by
  cases l with
  | nil => exact absurd rfl h
  | cons x r => exact mnP_mem r x
theorem mnL_le {l : List Pr} : ∀ y ∈ l, ltp y (mnL l) = false := by
  cases l with
  | nil => intro y h; cases h
  | cons x r => exact mnP_le r x
theorem tupsOf_pr : ∀ l : List Pr, tupsOf (l.map prD) = some (l.map tl)
  | [] => rfl
  | x :: r => by
    have e := tupsOf_pr r
    show (match intsOf [.int x.1, .int x.2], tupsOf (r.map prD) with | some (n :: ns), some ts => some ((n :: ns) :: ts) | _, _ => none) = _
    rw [e]; rfl
theorem minL_pr {l : List Pr} (h : l ≠ []) : biV .minL [.list (l.map prD)] = some (prD (mnL l)) := by
  cases l with
  | nil => exact absurd rfl h
  | cons x r =>
    have e := tupsOf_pr (x :: r)
    rw [List.map_cons] at e ⊢
    have e2 : intsOf (prD x :: r.map prD) = none := rfl
    have q : ∀ xs : List D, intsOf xs = none → biV .minL [.list xs] = match tupsOf xs with
        | some (t :: ts) => some (tupD (minT t ts))
        | _ => none := fun xs e => by
      show (match intsOf xs with
        | some (n :: ns) => some (PyData.int (minI n ns))
        | some [] => none
        | none => match tupsOf xs with
          | some (t :: ts) => some (tupD (minT t ts))
          | _ => none) = _
      rw [e]
    rw [q _ e2, e]
    show some (tupD (minT (tl x) (r.map tl))) = _
    rw [minT_tl]; rfl
def mkP (ks : List Pr) : List (D × D) := ks.map fun x => (prD x, .bool true)
def putP (y : Pr) (ks : List Pr) : List Pr := if y ∈ ks then ks else ks ++ [y]
def putsP (ys ks : List Pr) : List Pr := ys.foldl (fun k y => putP y k) ks
def Asc (l : List Pr) : Prop := l.Pairwise fun x y => ltp x y = true
theorem Asc.nodup {l : List Pr} (h : Asc l) : l.Nodup := List.Pairwise.imp (fun {x y} k e => by subst e; rw [ltp_irr] at k; cases k) h
theorem len_same {l m : List Pr} (h : l.Nodup) (k : m.Nodup) (e : ∀ x, x ∈ l ↔ x ∈ m) : l.length = m.length := ((List.perm_ext_iff_of_nodup h k).mpr e).length_eq
end Pv
end

section
set_option autoImplicit false
namespace Pv
open PySem Lean.Grind
section
variable {F : Type} [Field F]
theorem fmul_nz {x y : F} (hx : x ≠ 0) (hy : y ≠ 0) : x * y ≠ 0 := by
  intro e
  have h1 := Field.mul_inv_cancel hx
  exact hy (by grind)
theorem fcanc {x y c : F} (hc : c ≠ 0) (e : c * x = c * y) : x = y := by
  have := Field.mul_inv_cancel hc
  grind
theorem fl1 {D J K a b : F} (h2 : (2 : F) ≠ 0) (h3 : (3 : F) ≠ 0) (hD : D ≠ 0) (hJ : J ≠ 0) (hK : D * K = J) (e1 : D * (4 * a * a * a) - J * 27 * b * b = 0) (e2 : 4 * a * a * a + 27 * b * b ≠ 0) : a ≠ 0 ∧ b ≠ 0 ∧ K ≠ 0 ∧ 4 * a * a * a = 27 * K * b * b := by
  have h27 : (27 : F) ≠ 0 := by
    have := fmul_nz (fmul_nz h3 h3) h3
    intro z; exact this (by grind)
  have h4 : (4 : F) ≠ 0 := by
    have := fmul_nz h2 h2
    intro z; exact this (by grind)
  have e3 : 4 * a * a * a = 27 * K * b * b := fcanc hD (by grind)
  have hk : K ≠ 0 := fun z => hJ (by grind)
  have ha : a ≠ 0 := by
    intro z
    subst z
    have h5 : 27 * b * b ≠ 0 := by intro z; exact e2 (by grind)
    have := fmul_nz hk h5
    exact this (by grind)
  refine ⟨ha, fun z => ?_, hk, e3⟩
  subst z
  have := fmul_nz (fmul_nz (fmul_nz h4 ha) ha) ha
  exact this (by grind)
theorem fl2 {K a b W : F} (h2 : (2 : F) ≠ 0) (ha : a ≠ 0) (e : 4 * a * a * a = 27 * K * b * b) (w : W * (2 * a) = 3 * b) : 3 * K * W * W = a ∧ 2 * K * W * W * W = b := by
  have n1 := fmul_nz (fmul_nz h2 ha) (fmul_nz h2 ha)
  have n2 := fmul_nz n1 (fmul_nz h2 ha)
  have w2 : (2 * a * (2 * a)) * (W * W) = 9 * b * b := by
    have : (2 * a * (2 * a)) * (W * W) = (W * (2 * a)) * (W * (2 * a)) := by grind
    rw [this, w]; grind
  have w3 : (2 * a * (2 * a) * (2 * a)) * (W * W * W) = 27 * b * b * b := by
    have : (2 * a * (2 * a) * (2 * a)) * (W * W * W) = (W * (2 * a)) * (W * (2 * a)) * (W * (2 * a)) := by grind
    rw [this, w]; grind
  exact ⟨fcanc n1 (by grind), fcanc n2 (by grind)⟩
end
def RgP (p : Int) (x : Pr) : Prop := (0 ≤ x.1 ∧ x.1 < p) ∧ (0 ≤ x.2 ∧ x.2 < p)
def sc (p u : Int) (x : Pr) : Pr := (u * u * u * u * x.1 % p, u * u * u * u * u * u * x.2 % p)
def tw (p n : Int) (x : Pr) : Pr := (x.1 * n * n % p, x.2 * n * n * n % p)
def Lk (p : Int) (x y : Pr) : Prop := ∃ u : Int, 1 ≤ u ∧ u < p ∧ sc p u x = y
def orb (p : Int) (x : Pr) : List Pr := (List.range (p.toNat - 1)).map fun k : Nat => sc p (1 + (k : Int)) x
def mn (p : Int) (x : Pr) : Pr := mnL (orb p x)
theorem mem_orb {p : Int} {x y : Pr} : y ∈ orb p x ↔ Lk p x y := by
  unfold orb
  rw [List.mem_map]
  constructor
  · rintro ⟨k, hk, e⟩
    have := List.mem_range.mp hk
    exact ⟨1 + (k : Int), by omega, by omega, e⟩
  · rintro ⟨u, h1, h2, e⟩
    exact ⟨(u - 1).toNat, List.mem_range.mpr (by omega), by rw [show 1 + ((u - 1).toNat : Int) = u by omega]; exact e⟩
section
variable {p : Int} [h : PmI p]
theorem toF_4 : toF p 4 = 4 := by rw [show (4 : Int) = 2 * 2 from rfl, toF_mul, toF_two]; grind
theorem toF_27 : toF p 27 = 27 := by rw [show (27 : Int) = 3 * 3 * 3 from rfl, toF_mul, toF_mul, toF_three]; grind
theorem toF_1728 : toF p 1728 = 1728 := by rw [show (1728 : Int) = 4 * 4 * 4 * 27 from rfl, toF_mul, toF_mul, toF_mul, toF_27, toF_4]; grind
theorem f2 : (2 : Fp p) ≠ 0 := by
  rw [← toF_two]
  intro e
  exact h.pm.ndvd (v := 2) (by omega) (by have := h.pm.bd; omega) (toF_nz.mp e)
theorem f3 : (3 : Fp p) ≠ 0 := by
  rw [← toF_three]
  intro e
  exact h.pm.ndvd (v := 3) (by omega) (by have := h.pm.bd; omega) (toF_nz.mp e)
theorem f4 : (4 : Fp p) ≠ 0 := by
  have := fmul_nz (f2 (p := p)) f2
  intro z; exact this (by grind)
theorem f27 : (27 : Fp p) ≠ 0 := by
  have := fmul_nz (fmul_nz (f3 (p := p)) f3) f3
  intro z; exact this (by grind)
theorem f1728 : (1728 : Fp p) ≠ 0 := by
  have := fmul_nz (fmul_nz (fmul_nz (f4 (p := p)) f4) f4) f27
  intro z; exact this (by grind)
theorem fu {u : Int} (h1 : 1 ≤ u) (h2 : u < p) : toF p u ≠ 0 := fun e => h.pm.ndvd (by omega) h2 (toF_nz.mp e)
theorem eq_of_F {i j : Int} (hj : 0 ≤ j ∧ j < p) (e : toF p i = toF p j) : i % p = j := by rw [toF_eq.mp e, Int.emod_eq_of_lt hj.1 hj.2]
theorem sc_rg (u : Int) (x : Pr) : RgP p (sc p u x) := ⟨emod_rg _ h.pm.pos, emod_rg _ h.pm.pos⟩
theorem tw_rg (u : Int) (x : Pr) : RgP p (tw p u x) := ⟨emod_rg _ h.pm.pos, emod_rg _ h.pm.pos⟩
theorem sc_sc (u v : Int) (x : Pr) : sc p v (sc p u x) = sc p (u * v % p) x := by
  unfold sc
  refine Prod.ext (toF_eq.mp ?_) (toF_eq.mp ?_)
  · simp only [toF_mul, toF_mod]; grind
  · simp only [toF_mul, toF_mod]; grind
theorem sc_one {x : Pr} (r : RgP p x) : sc p 1 x = x := by
  unfold sc
  exact Prod.ext (by rw [show (1 : Int) * 1 * 1 * 1 * x.1 = x.1 by omega]; exact Int.emod_eq_of_lt r.1.1 r.1.2) (by rw [show (1 : Int) * 1 * 1 * 1 * 1 * 1 * x.2 = x.2 by omega]; exact Int.emod_eq_of_lt r.2.1 r.2.2)
theorem Lk.symm {x y : Pr} (r : RgP p x) (l : Lk p x y) : Lk p y x := by
  obtain ⟨u, h1, h2, rfl⟩ := l
  have e := h.pm.iv0 (a := u) (by omega) h2
  have b := h.pm.iv_rg u
  refine ⟨ivP p u, ?_, b.2, ?_⟩
  · have : ivP p u ≠ 0 := fun z => by rw [z, Int.mul_zero] at e; simp at e
    omega
  · rw [sc_sc, e, sc_one r]
theorem Lk.trans {x y z : Pr} (l : Lk p x y) (k : Lk p y z) : Lk p x z := by
  obtain ⟨u, h1, h2, rfl⟩ := l
  obtain ⟨v, k1, k2, rfl⟩ := k
  refine ⟨u * v % p, ?_, (emod_rg _ h.pm.pos).2, (sc_sc _ _ _).symm⟩
  have b := emod_rg (u * v) h.pm.pos
  have : u * v % p ≠ 0 := fun z => by
    rcases h.pm.dvd (Int.dvd_of_emod_eq_zero z) with d | d
    · exact h.pm.ndvd (by omega) h2 d
    · exact h.pm.ndvd (by omega) k2 d
  omega
theorem orb_ne (x : Pr) : orb p x ≠ [] := by
  intro e
  have : Lk p x (sc p 1 x) := ⟨1, by omega, h.pm.one, rfl⟩
  have := mem_orb.mpr this
  rw [e] at this; cases this
theorem mn_lk (x : Pr) : Lk p x (mn p x) := mem_orb.mp (mnL_mem (orb_ne x))
theorem mn_le {x y : Pr} (l : Lk p x y) : ltp y (mn p x) = false := mnL_le _ (mem_orb.mpr l)
structure KP (p j : Int) (x : Pr) : Prop where
  rg : RgP p x
  kd : ((1728 - j) * (4 * x.1 * x.1 * x.1) - j * 27 * x.2 * x.2) % p = 0
  ns : (4 * x.1 * x.1 * x.1 + 27 * x.2 * x.2) % p ≠ 0
theorem z_iff {i : Int} : i % p = 0 ↔ toF p i = 0 := by rw [toF_nz]; exact ⟨Int.dvd_of_emod_eq_zero, Int.emod_eq_zero_of_dvd⟩
theorem kd_iff {j a b : Int} : ((1728 - j) * (4 * a * a * a) - j * 27 * b * b) % p = 0 ↔ (1728 - toF p j) * (4 * toF p a * toF p a * toF p a) - toF p j * 27 * toF p b * toF p b = 0 := by
  rw [z_iff]
  simp only [toF_mul, toF_sub, toF_4, toF_27, toF_1728]
theorem ns_iff {a b : Int} : (4 * a * a * a + 27 * b * b) % p = 0 ↔ 4 * toF p a * toF p a * toF p a + 27 * toF p b * toF p b = 0 := by
  rw [z_iff]
  simp only [toF_mul, toF_add, toF_4, toF_27]
theorem KP.move {j : Int} {x y : Pr} {s : Fp p} (k : KP p j x) (r : RgP p y) (hs : s ≠ 0) (e1 : toF p y.1 = toF p x.1 * s * s) (e2 : toF p y.2 = toF p x.2 * s * s * s) : KP p j y where
  rg := r
  kd := by
    have := kd_iff.mp k.kd
    rw [kd_iff, e1, e2]
    grind
  ns := by
    have := k.ns
    rw [Ne, ns_iff] at this
    rw [Ne, ns_iff, e1, e2]
    intro z
    have n6 := fmul_nz (fmul_nz (fmul_nz hs hs) (fmul_nz hs hs)) (fmul_nz hs hs)
    have := fmul_nz n6 this
    exact this (by grind)
theorem KP.lk {j : Int} {x y : Pr} (k : KP p j x) (l : Lk p x y) : KP p j y := by
  obtain ⟨u, h1, h2, rfl⟩ := l
  have hu := fu h1 h2
  refine k.move (sc_rg _ _) (fmul_nz hu hu) ?_ ?_
  · show toF p (_ % p) = _
    simp only [toF_mul, toF_mod]; grind
  · show toF p (_ % p) = _
    simp only [toF_mul, toF_mod]; grind
theorem KP.twist {j n : Int} {x : Pr} (k : KP p j x) (hn : ¬ p ∣ n) : KP p j (tw p n x) := by
  refine k.move (tw_rg _ _) (s := toF p n) (fun e => hn (toF_nz.mp e)) ?_ ?_
  · show toF p (_ % p) = _
    simp only [toF_mul, toF_mod]
  · show toF p (_ % p) = _
    simp only [toF_mul, toF_mod]
def kf (p j : Int) : Int := j * ivP p ((1728 - j) % p) % p
def gen (p j : Int) : Pr := (3 * kf p j % p, 2 * kf p j % p)
def curOf (p j : Int) : Pr := if j = 0 then (0, 1) else if j = 1728 % p then (1, 0) else gen p j
structure Gk (p j : Int) : Prop where
  rg : 0 ≤ j ∧ j < p
  n0 : j ≠ 0
  n1 : j ≠ 1728 % p
theorem Gk.J {j : Int} (g : Gk p j) : toF p j ≠ 0 := fu (by have := g.rg; have := g.n0; omega) g.rg.2
theorem Gk.nd {j : Int} (g : Gk p j) : ¬ p ∣ 1728 - j := fun d => g.n1 (by
  have := emod_congr d
  rw [this, Int.emod_eq_of_lt g.rg.1 g.rg.2])
theorem Gk.D {j : Int} (g : Gk p j) : (1728 - toF p j) ≠ 0 := by
  rw [← toF_1728, ← toF_sub]
  exact fun e => g.nd (toF_nz.mp e)
theorem Gk.K {j : Int} (g : Gk p j) : (1728 - toF p j) * toF p (kf p j) = toF p j := by
  unfold kf
  have d := h.pm.iv (a := (1728 - j) % p) (fun d => g.nd (by
    have := Int.dvd_add d (dvd_emod' (1728 - j) p)
    rwa [show (1728 - j) % p + (1728 - j - (1728 - j) % p) = 1728 - j by omega] at this))
  have e : toF p ((1728 - j) % p * ivP p ((1728 - j) % p)) = 1 := by
    rw [← toF_one]
    exact toF_eq.mpr (emod_congr d)
  rw [toF_mul, toF_mod, toF_sub, toF_1728] at e
  rw [toF_mod, toF_mul]
  grind
theorem gen_F (j : Int) : toF p (gen p j).1 = 3 * toF p (kf p j) ∧ toF p (gen p j).2 = 2 * toF p (kf p j) := by
  constructor
  · show toF p (_ % p) = _
    rw [toF_mod, toF_mul, toF_three]
  · show toF p (_ % p) = _
    rw [toF_mod, toF_mul, toF_two]
theorem gen_rg (j : Int) : RgP p (gen p j) := ⟨emod_rg _ h.pm.pos, emod_rg _ h.pm.pos⟩
theorem Gk.kp {j : Int} (g : Gk p j) : KP p j (gen p j) where
  rg := gen_rg j
  kd := by
    rw [kd_iff, (gen_F j).1, (gen_F j).2]
    have := g.K
    grind
  ns := by
    rw [Ne, ns_iff, (gen_F j).1, (gen_F j).2]
    intro z
    have k := g.K
    have k0 : toF p (kf p j) ≠ 0 := fun e => g.J (by rw [← k, e]; grind)
    have k1 : toF p (kf p j) + 1 ≠ 0 := fun e => f1728 (p := p) (by
      have : (1728 - toF p j) * (toF p (kf p j) + 1) = 1728 := by grind
      rw [← this, e]; grind)
    have := fmul_nz (fmul_nz (fmul_nz f4 f27) (fmul_nz k0 k0)) k1
    exact this (by grind)
theorem nr_nd : ¬ p ∣ nr p := h.pm.ndvd (by have := h.pm.nr; omega) (by have := h.pm.nr; omega)
theorem sq_at {v : Int} (hc : chi p v = 1) : ∃ r : Int, 1 ≤ r ∧ r < p ∧ toF p r * toF p r = toF p v := by
  have b := emod_rg v h.pm.pos
  have := h.pm.root_of b.1 b.2 (by rw [chi_mod]; exact hc)
  obtain ⟨r, hr, e⟩ := isSq_iff.mp this
  have hpp := h.pm.pos
  refine ⟨r, ?_, by omega, ?_⟩
  · by_cases z : r = 0
    · subst z
      have : v % p = 0 := by rw [← e]; simp
      have := h.pm.chi0 (Int.dvd_of_emod_eq_zero this)
      omega
    · omega
  · rw [← toF_mul]
    exact toF_eq.mpr (by rw [e])
theorem cover {j : Int} {x : Pr} (g : Gk p j) (k : KP p j x) : Lk p (gen p j) x ∨ Lk p (Pv.tw p (nr p) (gen p j)) x := by
  have e1 := kd_iff.mp k.kd
  have e2 := k.ns
  rw [Ne, ns_iff] at e2
  obtain ⟨ha, hb, hK, e3⟩ := fl1 f2 f3 g.D g.J g.K e1 e2
  have i1 : toF p (2 * x.1) * toF p (ivP p (2 * x.1)) = 1 := by
    rw [← toF_mul, ← toF_one]
    refine toF_eq.mpr (emod_congr (h.pm.iv fun d => ?_))
    have := toF_nz.mpr d
    rw [toF_mul, toF_two] at this
    exact fmul_nz f2 ha this
  rw [toF_mul, toF_two] at i1
  have w : toF p (3 * x.2 * ivP p (2 * x.1)) * (2 * toF p x.1) = 3 * toF p x.2 := by
    rw [toF_mul, toF_mul, toF_three]; grind
  obtain ⟨c1, c2⟩ := fl2 f2 ha e3 w
  obtain ⟨g1, g2⟩ := gen_F (p := p) j
  have hw : ¬ p ∣ 3 * x.2 * ivP p (2 * x.1) := fun d => by
    rw [toF_nz.mpr d] at w
    exact fmul_nz f3 hb (by grind)
  rcases h.pm.chi_cases (3 * x.2 * ivP p (2 * x.1)) with ⟨d, _⟩ | ⟨_, c | c⟩
  · exact absurd d hw
  · obtain ⟨r, r1, r2, r3⟩ := sq_at c
    refine .inl ⟨r, r1, r2, Prod.ext (eq_of_F k.rg.1 ?_) (eq_of_F k.rg.2 ?_)⟩
    · simp only [toF_mul, g1]
      rw [← r3] at c1
      grind
    · simp only [toF_mul, g2]
      rw [← r3] at c2
      grind
  · have n1 : chi p (nr p * ivP p (nr p)) = 1 := by
      rw [chi_congr (h.pm.iv nr_nd)]
      exact h.pm.chi_sq (r := 1) (h.pm.ndvd (by omega) h.pm.one) ⟨0, by omega⟩
    rw [h.pm.chi_mul, h.pm.nr.2.2.1] at n1
    have n2 : chi p (3 * x.2 * ivP p (2 * x.1) * ivP p (nr p)) = 1 := by
      rw [h.pm.chi_mul, c]; exact n1
    obtain ⟨r, r1, r2, r3⟩ := sq_at n2
    have i2 : toF p (nr p) * toF p (ivP p (nr p)) = 1 := by
      rw [← toF_mul, ← toF_one]
      exact toF_eq.mpr (emod_congr (h.pm.iv nr_nd))
    have hv : toF p r * toF p r * toF p (nr p) = toF p (3 * x.2 * ivP p (2 * x.1)) := by
      rw [r3, toF_mul _ (ivP p (nr p))]
      grind
    refine .inr ⟨r, r1, r2, Prod.ext (eq_of_F k.rg.1 ?_) (eq_of_F k.rg.2 ?_)⟩
    · show toF p (r * r * r * r * (_ % p)) = _
      simp only [toF_mul, toF_mod, g1]
      rw [← hv] at c1
      grind
    · show toF p (r * r * r * r * r * r * (_ % p)) = _
      simp only [toF_mul, toF_mod, g2]
      rw [← hv] at c2
      grind
theorem apart {j : Int} (g : Gk p j) : ¬ Lk p (gen p j) (Pv.tw p (nr p) (gen p j)) := by
  rintro ⟨u, h1, h2, e⟩
  have hu := fu (p := p) h1 h2
  have k := g.K
  have k0 : toF p (kf p j) ≠ 0 := fun e => g.J (by rw [← k, e]; grind)
  obtain ⟨g1, g2⟩ := gen_F (p := p) j
  have q1 := toF_eq.mpr (congrArg Prod.fst e)
  have q2 := toF_eq.mpr (congrArg Prod.snd e)
  simp only [toF_mul, g1, g2] at q1 q2
  have hn : toF p (nr p) ≠ 0 := fun e => nr_nd (toF_nz.mp e)
  have s1 : toF p u * toF p u * (toF p u * toF p u) = toF p (nr p) * toF p (nr p) := fcanc (fmul_nz f3 k0) (by grind)
  have s2 : toF p u * toF p u * (toF p u * toF p u) * (toF p u * toF p u) = toF p (nr p) * toF p (nr p) * toF p (nr p) := fcanc (fmul_nz f2 k0) (by grind)
  have s3 : toF p u * toF p u = toF p (nr p) := fcanc (fmul_nz hn hn) (by rw [← s2, s1])
  rw [← toF_mul] at s3
  have d := dvd_of_emod (toF_eq.mp s3.symm)
  have := h.pm.chi_sq (fun z => hu (toF_nz.mpr z)) d
  have := h.pm.nr.2.2.1
  omega
end
end Pv
end

section
set_option autoImplicit false
namespace Pv
open PySem Lean.Grind
def rowK (p j : Int) (a : Nat) : List Pr := (List.range p.toNat).filterMap fun b : Nat => if ((1728 - j) * (4 * (a : Int) * a * a) - j * 27 * (b : Int) * b) % p = 0 then some ((a : Int), (b : Int)) else none
def rowN (p j : Int) (a : Nat) : List Pr := (rowK p j a).filter fun y => decide ((4 * (a : Int) * a * a + 27 * y.2 * y.2) % p ≠ 0)
def pairsTo (p j : Int) (n : Nat) : List Pr := (List.range n).flatMap (rowN p j)
def pairsK (p j : Int) : List Pr := pairsTo p j p.toNat
def isF (p : Int) (x : Pr) : Bool := decide (mn p x = x)
def firstsK (p j : Int) : List Pr := (pairsK p j).filter (isF p)
def cur0 (p j : Int) : List Pr := if j = 0 then (List.range (p.toNat - 1)).map fun k : Nat => (0, 1 + (k : Int)) else if j = 1728 % p then (List.range (p.toNat - 1)).map fun k : Nat => (1 + (k : Int), 0) else [gen p j, tw p (nr p) (gen p j)]
section
variable {p : Int} [h : PmI p]
theorem kp_zero {x : Pr} : KP p 0 x ↔ x.1 = 0 ∧ 1 ≤ x.2 ∧ x.2 < p := by
  constructor
  · intro k
    have e := kd_iff.mp k.kd
    rw [toF_zero] at e
    have a0 : toF p x.1 = 0 := by
      by_cases z : toF p x.1 = 0
      · exact z
      · exfalso
        exact fmul_nz f1728 (fmul_nz (fmul_nz (fmul_nz f4 z) z) z) (by grind)
    have a1 := toF_nz.mp a0
    have a2 : x.1 = 0 := rg_zero k.rg.1.1 k.rg.1.2 a1
    refine ⟨a2, ?_, k.rg.2.2⟩
    by_cases b : x.2 = 0
    · exact absurd (by rw [a2, b]; simp) k.ns
    · have := k.rg.2.1; omega
  · rintro ⟨a, b, c⟩
    have hp := h.pm.pos
    refine ⟨⟨⟨by omega, by omega⟩, ⟨by omega, c⟩⟩, ?_, ?_⟩
    · rw [a]; simp
    · rw [a, Ne, ns_iff, toF_zero]
      intro z
      have hb := fu b c
      exact fmul_nz (fmul_nz f27 hb) hb (by grind)
theorem kp_ten {j : Int} (hj : j = 1728 % p) {x : Pr} : KP p j x ↔ x.2 = 0 ∧ 1 ≤ x.1 ∧ x.1 < p := by
  have ej : toF p j = 1728 := by rw [hj, toF_mod, toF_1728]
  constructor
  · intro k
    have e := kd_iff.mp k.kd
    rw [ej] at e
    have a0 : toF p x.2 = 0 := by
      by_cases z : toF p x.2 = 0
      · exact z
      · exfalso
        exact fmul_nz f1728 (fmul_nz (fmul_nz f27 z) z) (by grind)
    have a1 := toF_nz.mp a0
    have a2 : x.2 = 0 := rg_zero k.rg.2.1 k.rg.2.2 a1
    refine ⟨a2, ?_, k.rg.1.2⟩
    by_cases b : x.1 = 0
    · exact absurd (by rw [a2, b]; simp) k.ns
    · have := k.rg.1.1; omega
  · rintro ⟨a, b, c⟩
    have hp := h.pm.pos
    refine ⟨⟨⟨by omega, c⟩, ⟨by omega, by omega⟩⟩, ?_, ?_⟩
    · rw [kd_iff, ej, a, toF_zero]; grind
    · rw [a, Ne, ns_iff, toF_zero]
      intro z
      have hb := fu b c
      exact fmul_nz (fmul_nz (fmul_nz f4 hb) hb) hb (by grind)
end
def c6 (n p : Nat) : List Nat := (List.range (p - 1)).filter fun k => (List.range (p - 1)).all fun u => decide (k + 1 ≤ (u + 1) ^ n * (k + 1) % p)
section
variable {p : Int} [h : PmI p]
theorem kind_one {j : Int} (h0 : 0 ≤ j) (h1 : j < p) {x : Pr} (kx : KP p j x) {k : Nat} (hk : k < p.toNat) : ((k : Int) * (4 * x.1 * x.1 * x.1 + 27 * x.2 * x.2) - 1728 * 4 * x.1 * x.1 * x.1) % p = 0 ↔ k = j.toNat := by
  have e := kd_iff.mp kx.kd
  have n := kx.ns
  rw [Ne, ns_iff] at n
  rw [z_iff]
  simp only [toF_mul, toF_sub, toF_add, toF_1728, toF_4, toF_27]
  constructor
  · intro z
    have q : toF p (k : Int) = toF p j := fcanc n (by grind)
    have := toF_inj (by omega) (by omega) h0 h1 q
    omega
  · intro z
    have : (k : Int) = j := by omega
    rw [this]
    grind
end
end Pv
end

section
set_option autoImplicit false
namespace Pv
open PySem
mutual
def smW : D → Bool
  | .none | .bool _ => true
  | .int i => decide (i.natAbs < 2 ^ 20)
  | .str x => PyData.strOk x && decide (x.cps.size ≤ 20)
  | .list xs | .tuple xs => smWL xs
  | .dict kvs => kvs.isEmpty
def smWL : List D → Bool
  | [] => true
  | x :: xs => smW x && smWL xs
end
mutual
theorem smW_ok : ∀ d : D, smW d = true → flatD d = true ∧ d.showable = true ∧ d.leavesShort 13 = true ∧ d.weight + 1 ≤ 22 * cn d
  | .none, _ => ⟨by unfold flatD; rfl, rfl, PyData.leavesShort_of_canLay0 13 _ rfl rfl, by simp [PyData.weight, cn]⟩
  | .bool b, _ => ⟨by unfold flatD; rfl, rfl, PyData.leavesShort_of_canLay0 13 _ rfl rfl, by simp [PyData.weight, cn]⟩
  | .int i, h => by
    obtain ⟨h1, h2, h3⟩ := small_int (of_decide_eq_true h)
    exact ⟨by unfold flatD; rfl, (fine_short _ h1).2, PyData.leavesShort_of_canLay0 13 _ rfl h2, by simp only [cn]; omega⟩
  | .str x, h => by
    unfold smW at h
    simp only [Bool.and_eq_true, decide_eq_true_eq] at h
    exact ⟨by unfold flatD; rfl, rfl, PyData.leavesShort_of_canLay0 13 _ h.1 rfl, by simp only [PyData.weight, cn]; omega⟩
  | .list xs, h => by
    obtain ⟨h0, h1, h2, h3⟩ := smWL_ok xs h
    exact ⟨by unfold flatD; exact h0, h1, h2, by simp only [PyData.weight, cn]; omega⟩
  | .tuple xs, h => by
    obtain ⟨h0, h1, h2, h3⟩ := smWL_ok xs h
    exact ⟨by unfold flatD; exact h0, h1, h2, by simp only [PyData.weight, cn]; omega⟩
  | .dict kvs, h => by
    unfold smW at h
    have e : kvs = [] := by simpa using h
    subst e
    exact ⟨by unfold flatD flatK; rfl, rfl, by decide, by simp [PyData.weight, PyData.weightKv, cn]⟩
theorem smWL_ok : ∀ xs : List D, smWL xs = true → flatL xs = true ∧ PyData.showableAll xs = true ∧ PyData.leavesShortAll 13 xs = true ∧ PyData.weightAll xs ≤ 22 * cnAll xs
  | [], _ => ⟨by unfold flatL; rfl, rfl, rfl, by simp [PyData.weightAll]⟩
  | x :: xs, h => by
    unfold smWL at h
    simp only [Bool.and_eq_true] at h
    obtain ⟨h0, h1, h2, h3⟩ := smW_ok x h.1
    obtain ⟨k0, k1, k2, k3⟩ := smWL_ok xs h.2
    refine ⟨by unfold flatL; rw [h0, k0]; rfl, ?_, ?_, ?_⟩
    · unfold PyData.showableAll; rw [h1, k1]; rfl
    · unfold PyData.leavesShortAll; rw [h2, k2]; rfl
    · simp only [PyData.weightAll, cnAll]; omega
end
mutual
theorem smW_small : ∀ d : D, small d = true → smW d = true
  | .none, _ => rfl
  | .bool _, _ => rfl
  | .int _, h => h
  | .str _, h => h
  | .list xs, h => smWL_small xs h
  | .tuple xs, h => smWL_small xs h
  | .dict _, h => nomatch h
theorem smWL_small : ∀ xs : List D, smallAll xs = true → smWL xs = true
  | [], _ => rfl
  | x :: xs, h => by
    unfold smallAll at h
    simp only [Bool.and_eq_true] at h
    unfold smWL
    rw [smW_small x h.1, smWL_small xs h.2]; rfl
end
end Pv
end

section
set_option autoImplicit false
namespace Pv
open PySem
structure Shw (d : D) (n m : Nat) : Prop where
  fl : flatD d = true
  sh : d.showable = true
  len : d.shown.length ≤ n
  dep : d.depth ≤ m
structure ShwL (ds : List D) (n m : Nat) : Prop where
  fl : flatL ds = true
  sh : PyData.showableAll ds = true
  len : ((PyData.shownAll ds).map (·.length)).sum + 2 * ds.length ≤ n
  dep : PyData.depthAll ds ≤ m
theorem shownAll_len : ∀ ds : List D, (PyData.shownAll ds).length = ds.length
  | [] => by simp [PyData.shownAll]
  | d :: ds => by simp only [PyData.shownAll, List.length_cons, shownAll_len ds]
section
variable {d : D} {ds : List D} {n m n2 m2 : Nat}
theorem Shw.ok (h : Shw d n m) (hn : n ≤ 10000000 := by omega) (hm : m ≤ 64 := by omega) : showOk d = true := by
  have h1 := h.len
  have h2 := h.dep
  unfold showOk
  rw [h.fl, h.sh, decide_eq_true (show d.depth ≤ 64 by omega), Bool.true_and, Bool.or_true, Bool.true_and, Bool.true_and]
  refine decide_eq_true ?_
  unfold lineN; omega
theorem Shw.mono (h : Shw d n m) (hn : n ≤ n2) (hm : m ≤ m2) : Shw d n2 m2 := ⟨h.fl, h.sh, Nat.le_trans h.len hn, Nat.le_trans h.dep hm⟩
theorem Shw.none : Shw .none 4 0 := ⟨by unfold flatD; rfl, rfl, by decide +kernel, by decide⟩
theorem Shw.bool (b : Bool) : Shw (.bool b) 5 0 := ⟨by unfold flatD; rfl, rfl, by cases b <;> decide +kernel, by cases b <;> decide⟩
theorem Shw.int {i : Int} {k : Nat} (h : i.natAbs < 10 ^ k) (hk : k ≤ 250 := by omega) (h0 : 0 < k := by omega) : Shw (.int i) (k + 1) 0 := by
  have e := int_text_length_le10 (k := k) h0 h
  refine ⟨by unfold flatD; rfl, ?_, ?_, by simp [PyData.depth]⟩
  · exact decide_eq_true (log_int (Nat.lt_of_lt_of_le h (Nat.pow_le_pow_right (by omega) hk)))
  · show (Str.ofString (toString i)).length ≤ k + 1
    rw [ofString_length]; exact e
theorem Shw.small (h : smW d = true) (hd : d.depth ≤ m) : Shw d (15 * (22 * cn d) + 13) m := by
  obtain ⟨h0, h1, h2, h3⟩ := smW_ok d h
  have ln := PyData.shown_le 13 (by decide) d h2
  exact ⟨h0, h1, by omega, hd⟩
theorem ShwL.cons (h : Shw d n m) (k : ShwL ds n2 m) : ShwL (d :: ds) (n + 2 + n2) m := by
  have h1 := h.len
  have h2 := k.len
  have h3 := h.dep
  have h4 := k.dep
  refine ⟨by unfold flatL; rw [h.fl, k.fl]; rfl, by unfold PyData.showableAll; rw [h.sh, k.sh]; rfl, ?_, ?_⟩
  · simp only [PyData.shownAll, List.map_cons, List.sum_cons, List.length_cons]
    omega
  · simp only [PyData.depthAll]
    omega
theorem ShwL.one (h : Shw d n m) : ShwL [d] (n + 2) m := by
  have := ShwL.cons h (ds := []) (n2 := 0) ⟨by unfold flatL; rfl, rfl, by simp [PyData.shownAll], by simp [PyData.depthAll]⟩
  exact this
theorem ShwL.all : ∀ {ds : List D}, (∀ d ∈ ds, Shw d n m) → ShwL ds ((n + 2) * ds.length) m
  | [], _ => ⟨by unfold flatL; rfl, rfl, by simp [PyData.shownAll], by simp [PyData.depthAll]⟩
  | d :: ds, h => by
    have := ShwL.cons (h d List.mem_cons_self) (ShwL.all (ds := ds) fun x hx => h x (List.mem_cons_of_mem _ hx))
    rw [List.length_cons, Nat.mul_succ]
    rw [Nat.add_comm] at this
    exact this
theorem ShwL.list (h : ShwL ds n m) : Shw (.list ds) (n + 3) (m + 1) := by
  have h1 := h.len
  have h2 := listText_len_le (PyData.shownAll ds)
  have h3 := h.dep
  rw [shownAll_len] at h2
  refine ⟨by unfold flatD; exact h.fl, by unfold PyData.showable; exact h.sh, ?_, by simp only [PyData.depth]; omega⟩
  unfold PyData.shown
  omega
theorem ShwL.tuple (h : ShwL ds n m) : Shw (.tuple ds) (n + 3) (m + 1) := by
  have h1 := h.len
  have h2 := tupleText_len_le (PyData.shownAll ds)
  have h3 := h.dep
  rw [shownAll_len] at h2
  refine ⟨by unfold flatD; exact h.fl, by unfold PyData.showable; exact h.sh, ?_, by simp only [PyData.depth]; omega⟩
  unfold PyData.shown
  omega
theorem Shw.dict0 : Shw (.dict []) 2 1 := ⟨by unfold flatD flatK; rfl, rfl, by decide +kernel, by simp [PyData.depth, PyData.depthKv]⟩
end
end Pv
end

section
set_option autoImplicit false
namespace Xk18
open PySem Pv
variable {Φ : Fns} {g : G}
theorem kpCu {p j : Int} {x : Pr} (hp : Pm p) (k : KP p j x) : Cu p x.1 x.2 := ⟨hp, k.rg.1.1, k.rg.1.2, k.rg.2.1, k.rg.2.2, k.ns⟩
theorem Cu.scd {p u : Int} {x : Pr} (c : Cu p x.1 x.2) (h0 : 0 < u) (h1 : u < p) : Cu p (sc p u x).1 (sc p u x).2 := by
  have := cu_sc c h0 h1
  rwa [show x.1 * (u * u) * (u * u) % p = (sc p u x).1 by unfold sc; congr 1; grind, show x.2 * (u * u) * (u * u) * (u * u) % p = (sc p u x).2 by unfold sc; congr 1; grind] at this
theorem Cu.lk {p : Int} {x y : Pr} (c : Cu p x.1 x.2) (l : Lk p x y) : Cu p y.1 y.2 := by
  obtain ⟨u, h1, h2, rfl⟩ := l
  exact c.scd (by omega) h2
theorem scp_eq {p : Int} (hp : Pm p) (u : Int) (x : Pr) : PyData.tuple [.int (u * u % p * (u * u % p) % p * x.1 % p), .int (u * u % p * (u * u % p) % p * (u * u % p) * x.2 % p)] = prD (sc p u x) := by
  haveI : PmI p := ⟨hp⟩
  have e1 : u * u % p * (u * u % p) % p * x.1 % p = u * u * u * u * x.1 % p := toF_eq.mp (by simp only [toF_mul, toF_mod]; grind)
  have e2 : u * u % p * (u * u % p) % p * (u * u % p) * x.2 % p = u * u * u * u * u * u * x.2 % p := toF_eq.mp (by simp only [toF_mul, toF_mod]; grind)
  rw [e1, e2]; rfl
abbrev ScC (Φ : Fns) (i : Nat) : Prop := ∀ (p : Int) (x : Pr) (u : Int) (g : G), Cu p x.1 x.2 → 0 < u → u < p → Φ i [curD p x.1 x.2, .int u] g = .ok (prD (sc p u x)) g
theorem sc_run {p : Int} {x : Pr} {u : Int} (c : Cu p x.1 x.2) (h0 : 0 < u) (h1 : u < p) : Ok (Pv.run Φ fuel m_scaled_pair [some (curD p x.1 x.2), some (.int u), none, none] g) (retF fun r g' => r = prD (sc p u x) ∧ g' = g) := by
  have bd := c.pm.bd
  have pp := c.pm.pos
  have ma : ∀ y : Int, mulOk y x.1 = true := fun y => mulOk_sm (by have := c.a0; omega) (by have := c.a1; omega)
  have mb : ∀ y : Int, mulOk y x.2 = true := fun y => mulOk_sm (by have := c.b0; omega) (by have := c.b1; omega)
  have mu : ∀ y : Int, mulOk y u = true := fun y => mulOk_sm (by omega) (by omega)
  have ms : ∀ y z : Int, mulOk y (z % p) = true := fun y z => mulOk_sm (by have := emod_rg z pp; omega) (by have := emod_rg z pp; omega)
  have e := scp_eq c.pm u x
  unfold m_scaled_pair
  generalize hQ : retF _ = QQ
  rw [Ok_seq]; simp [cur_p, mu, pp]
  rw [Ok_seq]; simp [cur_p, ms, pp]
  simp [cur_p, cur_a, cur_b, ma, mb, ms, pp]
  subst hQ
  exact ⟨e, rfl⟩
def scL (p : Int) (x y : Pr) : Po := (List.range (p.toNat - 1)).filterMap fun k : Nat => if sc p (1 + (k : Int)) x = y then some (1 + (k : Int)) else none
def lsD : Po → D
  | [] => .none
  | u :: _ => .int u
abbrev LeastC (Φ : Fns) (i : Nat) : Prop := ∀ (p : Int) (x y : Pr) (g : G), Cu p x.1 x.2 → Cu p y.1 y.2 → Φ i [curD p x.1 x.2, curD p y.1 y.2] g = .ok (lsD (scL p x y)) g
abbrev ScToC (Φ : Fns) (i : Nat) : Prop := ∀ (p : Int) (x y : Pr) (g : G), Cu p x.1 x.2 → Cu p y.1 y.2 → Φ i [curD p x.1 x.2, curD p y.1 y.2] g = .ok (lsD (scL p x y)) g
abbrev ScToX (Φ : Fns) (i : Nat) : Prop := ∀ (p q : Int) (x y : Pr) (g : G), p ≠ q → Φ i [curD p x.1 x.2, curD q y.1 y.2] g = .exc 0 [] g
abbrev LikeC (Φ : Fns) (i : Nat) : Prop := ∀ (p : Int) (x y : Pr) (g : G), Cu p x.1 x.2 → Cu p y.1 y.2 → Φ i [curD p x.1 x.2, curD p y.1 y.2] g = .ok (.bool (!decide (scL p x y = []))) g
abbrev LikeX (Φ : Fns) (i : Nat) : Prop := ∀ (p q : Int) (x y : Pr) (g : G), p ≠ q → Φ i [curD p x.1 x.2, curD q y.1 y.2] g = .exc 0 [] g
abbrev ScalC (Φ : Fns) (i : Nat) : Prop := ∀ (p : Int) (x : Pr) (g : G), Cu p x.1 x.2 → Φ i [curD p x.1 x.2] g = .ok (.int (scL p x x).length) g
theorem orb_min {p : Int} (hp : Pm p) (x : Pr) : biV .minL [.list ((List.range (p.toNat - 1)).map fun k : Nat => prD (sc p (1 + (k : Int)) x))] = some (prD (mn p x)) := by
  haveI : PmI p := ⟨hp⟩
  have := minL_pr (orb_ne (p := p) x)
  unfold orb at this
  rw [List.map_map] at this
  exact this
abbrev FirstC (Φ : Fns) (i : Nat) : Prop := ∀ (p : Int) (x : Pr) (g : G), Cu p x.1 x.2 → Φ i [curD p x.1 x.2] g = .ok (curD p (mn p x).1 (mn p x).2) g
end Xk18
end

section
set_option autoImplicit false
namespace Xk18
open PySem Pv
variable {Φ : Fns} {g : G}
def cuD (p : Int) (x : Pr) : D := curD p x.1 x.2
abbrev CurOfC (Φ : Fns) (i : Nat) : Prop := ∀ (p j : Int) (g : G), Pm p → 0 ≤ j → j < p → Φ i [.int p, .int j] g = .ok (cuD p (curOf p j)) g
abbrev LikesC (Φ : Fns) (i : Nat) : Prop := ∀ (p j : Int) (g : G), Pm p → 0 ≤ j → j < p → Φ i [.int p, .int j] g = .ok (.tuple ((firstsK p j).map (cuD p))) g
end Xk18
end

section
set_option autoImplicit false
namespace Pv
open PySem Lean.Grind
def trP (p : Int) (x : Pr) : Int := -csum p x.1 x.2
def NsP (p : Int) (x : Pr) : Prop := RgP p x ∧ (4 * x.1 * x.1 * x.1 + 27 * x.2 * x.2) % p ≠ 0
def rowA (p : Int) (a : Nat) : List Pr := (List.range p.toNat).filterMap fun b : Nat => if (4 * (a : Int) * a * a + 27 * (b : Int) * b) % p ≠ 0 then some ((a : Int), (b : Int)) else none
def allP (p : Int) : List Pr := (List.range p.toNat).flatMap (rowA p)
theorem mem_rowA {p : Int} {a : Nat} {x : Pr} : x ∈ rowA p a ↔ ∃ b : Nat, (b : Int) < p ∧ x = ((a : Int), (b : Int)) ∧ (4 * (a : Int) * a * a + 27 * (b : Int) * b) % p ≠ 0 := by
  unfold rowA
  rw [List.mem_filterMap]
  constructor
  · rintro ⟨b, hb, e⟩
    rw [List.mem_range] at hb
    split at e
    · rename_i z
      cases e
      exact ⟨b, by omega, rfl, z⟩
    · cases e
  · rintro ⟨b, hb, rfl, z⟩
    exact ⟨b, List.mem_range.mpr (by omega), by rw [if_pos z]⟩
theorem mem_allP {p : Int} {x : Pr} : x ∈ allP p ↔ NsP p x := by
  unfold allP
  rw [List.mem_flatMap]
  constructor
  · rintro ⟨a, ha, hx⟩
    rw [List.mem_range] at ha
    obtain ⟨b, hb, rfl, z⟩ := mem_rowA.mp hx
    exact ⟨⟨⟨by show (0 : Int) ≤ (a : Int); omega, by show (a : Int) < p; omega⟩, by show (0 : Int) ≤ (b : Int); omega, hb⟩, z⟩
  · rintro ⟨⟨⟨a0, a1⟩, b0, b1⟩, z⟩
    obtain ⟨a, ha⟩ : ∃ a : Nat, x.1 = a := ⟨x.1.toNat, by omega⟩
    obtain ⟨b, hb⟩ : ∃ b : Nat, x.2 = b := ⟨x.2.toNat, by omega⟩
    rw [ha, hb] at z
    exact ⟨a, List.mem_range.mpr (by omega), mem_rowA.mpr ⟨b, by omega, Prod.ext ha hb, z⟩⟩
theorem asc_rowA (p : Int) (a : Nat) : Asc (rowA p a) := by
  unfold Asc rowA
  refine List.pairwise_filterMap.mpr ?_
  refine List.Pairwise.imp_of_mem (R := (· < ·)) ?_ List.pairwise_lt_range
  intro b b' _ _ hb x hx y hy
  split at hx
  · split at hy
    · cases hx; cases hy
      exact ltp_iff.mpr (.inr ⟨rfl, by show (b : Int) < (b' : Int); omega⟩)
    · cases hy
  · cases hx
theorem asc_allP (p : Int) : Asc (allP p) := by
  unfold allP
  generalize p.toNat = n
  induction n with
  | zero => exact List.Pairwise.nil
  | succ n ih =>
    rw [List.range_succ, List.flatMap_append, List.flatMap_cons, List.flatMap_nil, List.append_nil]
    refine List.pairwise_append.mpr ⟨ih, asc_rowA p n, fun x hx y hy => ?_⟩
    obtain ⟨a, ha, hx⟩ := List.mem_flatMap.mp hx
    obtain ⟨b, _, rfl, _⟩ := mem_rowA.mp hx
    obtain ⟨b', _, rfl, _⟩ := mem_rowA.mp hy
    rw [List.mem_range] at ha
    exact ltp_iff.mpr (.inl (by show (a : Int) < (n : Int); omega))
def stP (p t : Int) : List Pr := (allP p).filter fun x => decide (trP p x = t)
theorem mem_stP {p t : Int} {x : Pr} : x ∈ stP p t ↔ NsP p x ∧ trP p x = t := by
  unfold stP
  rw [List.mem_filter, mem_allP, decide_eq_true_eq]
theorem asc_stP (p t : Int) : Asc (stP p t) := List.Pairwise.filter _ (asc_allP p)
def edges (p : Int) : List Pr := ((List.range (p.toNat - 1)).map fun k : Nat => ((0 : Int), 1 + (k : Int))) ++ (List.range (p.toNat - 1)).map fun k : Nat => (1 + (k : Int), (0 : Int))
def edgeL (p t : Int) : List Pr := (edges p).filter fun x => decide (trP p x = t)
def curK (p t j : Int) : List Pr := (if trP p (gen p j) = t then [gen p j] else []) ++ if trP p (gen p j) = -t then [tw p (nr p) (gen p j)] else []
def kindsG (p : Int) : List Int := (List.range (p.toNat - 1)).filterMap fun k : Nat => if (1 + (k : Int)) ≠ 1728 % p then some (1 + (k : Int)) else none
def curL (p t : Int) : List Pr := (kindsG p).flatMap (curK p t)
section
variable {p : Int} [h : PmI p]
theorem trP_sc {x : Pr} {u : Int} (h1 : 1 ≤ u) (h2 : u < p) : trP p (sc p u x) = trP p x := by
  have hu : ¬ p ∣ u := h.pm.ndvd (by omega) h2
  have hd : ¬ p ∣ u * u := fun d => by
    have := toF_nz.mpr d
    rw [toF_mul] at this
    exact fmul_nz (fu h1 h2) (fu h1 h2) this
  unfold trP sc
  rw [h.pm.csum_twist hd x.1 x.2 (a' := u * u * u * u * x.1 % p) (b' := u * u * u * u * u * u * x.2 % p)]
  · rw [h.pm.chi_mul, h.pm.chi_mul, h.pm.chi_sq hu (v := u * u) (by rw [Int.sub_self]; exact Int.dvd_zero p)]
    omega
  · have := dvd_emod (u * u * u * u * x.1) p
    rwa [show x.1 * (u * u) * (u * u) = u * u * u * u * x.1 by grind]
  · have := dvd_emod (u * u * u * u * u * u * x.2) p
    rwa [show x.2 * (u * u) * (u * u) * (u * u) = u * u * u * u * u * u * x.2 by grind]
theorem trP_lk {x y : Pr} (l : Lk p x y) : trP p y = trP p x := by
  obtain ⟨u, h1, h2, rfl⟩ := l
  exact trP_sc h1 h2
theorem trP_tw (x : Pr) : trP p (Pv.tw p (nr p) x) = -trP p x := by
  unfold trP Pv.tw
  rw [h.pm.csum_twist nr_nd x.1 x.2 (dvd_emod _ _) (dvd_emod _ _), h.pm.chi_mul, h.pm.chi_mul, h.pm.nr.2.2.1]
  omega
theorem NsP.tw {x : Pr} (n : NsP p x) : NsP p (Pv.tw p (nr p) x) := by
  refine ⟨tw_rg _ _, ?_⟩
  have e := n.2
  rw [Ne, ns_iff] at e ⊢
  unfold Pv.tw
  simp only [toF_mul, toF_mod]
  intro z
  have hn : toF p (nr p) ≠ 0 := fun e => nr_nd (toF_nz.mp e)
  have n6 := fmul_nz (fmul_nz (fmul_nz hn hn) (fmul_nz hn hn)) (fmul_nz hn hn)
  exact fmul_nz n6 e (by grind)
theorem tw_inj {x y : Pr} (rx : RgP p x) (ry : RgP p y) (e : Pv.tw p (nr p) x = Pv.tw p (nr p) y) : x = y := by
  have hn : toF p (nr p) ≠ 0 := fun e => nr_nd (toF_nz.mp e)
  have q1 := toF_eq.mpr (congrArg Prod.fst e)
  have q2 := toF_eq.mpr (congrArg Prod.snd e)
  simp only [Pv.tw, toF_mul, toF_mod] at q1 q2
  have e1 : toF p x.1 = toF p y.1 := fcanc (fmul_nz hn hn) (by grind)
  have e2 : toF p x.2 = toF p y.2 := fcanc (fmul_nz (fmul_nz hn hn) hn) (by grind)
  exact Prod.ext (toF_inj rx.1.1 rx.1.2 ry.1.1 ry.1.2 e1) (toF_inj rx.2.1 rx.2.2 ry.2.1 ry.2.2 e2)
theorem st_le (t : Int) : (stP p t).length ≤ (stP p (-t)).length := by
  have nd : ((stP p t).map (Pv.tw p (nr p))).Nodup := by
    refine List.pairwise_map.mpr (List.Pairwise.imp_of_mem ?_ (asc_stP p t).nodup)
    intro x y hx hy ne e
    exact ne (tw_inj (mem_stP.mp hx).1.1 (mem_stP.mp hy).1.1 e)
  have := List.Nodup.length_le_of_subset nd (l₂ := stP p (-t)) fun y hy => by
    obtain ⟨x, hx, rfl⟩ := List.mem_map.mp hy
    obtain ⟨n, e⟩ := mem_stP.mp hx
    exact mem_stP.mpr ⟨n.tw, by rw [trP_tw, e]⟩
  rwa [List.length_map] at this
theorem st_neg (t : Int) : (stP p (-t)).length = (stP p t).length := by
  have h1 := st_le (p := p) t
  have h2 := st_le (p := p) (-t)
  rw [Int.neg_neg] at h2
  omega
theorem kind_ex {x : Pr} (n : NsP p x) : ∃ j, 0 ≤ j ∧ j < p ∧ KP p j x := by
  have e := n.2
  rw [Ne, ns_iff] at e
  have nd : ¬ p ∣ 4 * x.1 * x.1 * x.1 + 27 * x.2 * x.2 := fun d => n.2 (Int.emod_eq_zero_of_dvd d)
  have i := toF_eq.mpr (emod_congr (h.pm.iv nd))
  simp only [toF_mul, toF_one, toF_add, toF_4, toF_27] at i
  have b := emod_rg (1728 * (4 * x.1 * x.1 * x.1) * ivP p (4 * x.1 * x.1 * x.1 + 27 * x.2 * x.2)) h.pm.pos
  refine ⟨_, b.1, b.2, n.1, ?_, n.2⟩
  rw [kd_iff]
  simp only [toF_mul, toF_mod, toF_1728, toF_4]
  generalize toF p (ivP p _) = I at *
  grind
theorem mem_kinds {j : Int} : j ∈ kindsG p ↔ Gk p j := by
  have bd := h.pm.bd
  unfold kindsG
  rw [List.mem_filterMap]
  constructor
  · rintro ⟨k, hk, e⟩
    rw [List.mem_range] at hk
    split at e
    · rename_i z
      cases e
      exact ⟨by omega, by omega, z⟩
    · cases e
  · rintro ⟨⟨g0, g1⟩, g2, g3⟩
    refine ⟨(j - 1).toNat, List.mem_range.mpr (by omega), ?_⟩
    rw [show 1 + (((j - 1).toNat : Nat) : Int) = j by omega, if_pos g3]
theorem kind_uni {j k : Int} {x : Pr} (j0 : 0 ≤ j) (j1 : j < p) (k0 : 0 ≤ k) (k1 : k < p) (hj : KP p j x) (hk : KP p k x) : j = k := by
  have e1 := (kind_one j0 j1 hj (k := j.toNat) (by omega)).mpr rfl
  have e2 := (kind_one k0 k1 hk (k := j.toNat) (by omega)).mp e1
  omega
theorem mem_edges {x : Pr} : x ∈ edges p ↔ KP p 0 x ∨ KP p (1728 % p) x := by
  have bd := h.pm.bd
  rw [kp_zero, kp_ten rfl]
  unfold edges
  rw [List.mem_append, List.mem_map, List.mem_map]
  constructor
  · rintro (⟨k, hk, rfl⟩ | ⟨k, hk, rfl⟩)
    · rw [List.mem_range] at hk
      exact .inl ⟨rfl, by show (1 : Int) ≤ 1 + (k : Int); omega, by show 1 + (k : Int) < p; omega⟩
    · rw [List.mem_range] at hk
      exact .inr ⟨rfl, by show (1 : Int) ≤ 1 + (k : Int); omega, by show 1 + (k : Int) < p; omega⟩
  · rintro (⟨e, h1, h2⟩ | ⟨e, h1, h2⟩)
    · exact .inl ⟨(x.2 - 1).toNat, List.mem_range.mpr (by omega), Prod.ext e.symm (by show 1 + (((x.2 - 1).toNat : Nat) : Int) = x.2; omega)⟩
    · exact .inr ⟨(x.1 - 1).toNat, List.mem_range.mpr (by omega), Prod.ext (by show 1 + (((x.1 - 1).toNat : Nat) : Int) = x.1; omega) e.symm⟩
theorem mem_curK {t j : Int} {c : Pr} (hc : c ∈ curK p t j) : trP p c = t ∧ (c = gen p j ∨ c = Pv.tw p (nr p) (gen p j)) := by
  unfold curK at hc
  rcases List.mem_append.mp hc with z | z
  · split at z
    · rename_i e
      rw [List.mem_singleton.mp z]
      exact ⟨e, .inl rfl⟩
    · cases z
  · split at z
    · rename_i e
      rw [List.mem_singleton.mp z]
      exact ⟨by rw [trP_tw, e, Int.neg_neg], .inr rfl⟩
    · cases z
theorem curK_kp {t j : Int} (g : Gk p j) {c : Pr} (hc : c ∈ curK p t j) : KP p j c := by
  rcases (mem_curK hc).2 with rfl | rfl
  · exact g.kp
  · exact g.kp.twist nr_nd
theorem st_iff {t : Int} {x : Pr} : x ∈ stP p t ↔ x ∈ edgeL p t ∨ ∃ c ∈ curL p t, Lk p c x := by
  rw [mem_stP]
  unfold edgeL curL
  rw [List.mem_filter, mem_edges, decide_eq_true_eq]
  constructor
  · rintro ⟨n, e⟩
    obtain ⟨j, j0, j1, k⟩ := kind_ex n
    by_cases z0 : j = 0
    · exact .inl ⟨.inl (z0 ▸ k), e⟩
    · by_cases z1 : j = 1728 % p
      · exact .inl ⟨.inr (z1 ▸ k), e⟩
      · have g : Gk p j := ⟨⟨j0, j1⟩, z0, z1⟩
        right
        rcases cover g k with l | l
        · refine ⟨gen p j, List.mem_flatMap.mpr ⟨j, mem_kinds.mpr g, ?_⟩, l⟩
          unfold curK
          rw [if_pos (by rw [← trP_lk l]; exact e)]
          exact List.mem_append.mpr (.inl (List.mem_singleton.mpr rfl))
        · refine ⟨_, List.mem_flatMap.mpr ⟨j, mem_kinds.mpr g, ?_⟩, l⟩
          unfold curK
          rw [if_pos (show trP p (gen p j) = -t by have := trP_lk l; rw [trP_tw, e] at this; omega)]
          exact List.mem_append.mpr (.inr (List.mem_singleton.mpr rfl))
  · rintro (⟨k | k, e⟩ | ⟨c, hc, l⟩)
    · exact ⟨⟨k.rg, k.ns⟩, e⟩
    · exact ⟨⟨k.rg, k.ns⟩, e⟩
    · obtain ⟨j, hj, hc⟩ := List.mem_flatMap.mp hc
      have k := (curK_kp (mem_kinds.mp hj) hc).lk l
      exact ⟨⟨k.rg, k.ns⟩, by rw [trP_lk l]; exact (mem_curK hc).1⟩
theorem st_min {t : Int} (ne : stP p t ≠ []) : edgeL p t ++ (curL p t).map (mn p) ≠ [] ∧ mnL (edgeL p t ++ (curL p t).map (mn p)) = mnL (stP p t) := by
  have ne2 : edgeL p t ++ (curL p t).map (mn p) ≠ [] := fun z => by
    obtain ⟨x, hx⟩ := List.exists_mem_of_ne_nil _ ne
    obtain ⟨z1, z2⟩ := List.append_eq_nil_iff.mp z
    rcases st_iff.mp hx with w | ⟨c, hc, _⟩
    · rw [z1] at w; cases w
    · rw [List.map_eq_nil_iff.mp z2] at hc; cases hc
  have sub : ∀ y ∈ edgeL p t ++ (curL p t).map (mn p), y ∈ stP p t := fun y hy => by
    rcases List.mem_append.mp hy with w | w
    · exact st_iff.mpr (.inl w)
    · obtain ⟨c, hc, rfl⟩ := List.mem_map.mp w
      exact st_iff.mpr (.inr ⟨c, hc, mn_lk c⟩)
  refine ⟨ne2, ltp_eq (mnL_le _ (sub _ (mnL_mem ne2))) ?_⟩
  rcases st_iff.mp (mnL_mem ne) with w | ⟨c, hc, l⟩
  · exact mnL_le _ (List.mem_append.mpr (.inl w))
  · refine ltp_ntr (mnL_le (l := edgeL p t ++ (curL p t).map (mn p)) (mn p c) (List.mem_append.mpr (.inr (List.mem_map.mpr ⟨c, hc, rfl⟩)))) (mn_le l)
end
end Pv
end

section
set_option autoImplicit false
namespace Xk18
open PySem Pv
variable {Φ : Fns} {g : G}
abbrev TwiG (Φ : Fns) (i : Nat) : Prop := ∀ (p : Int) (x : Pr) (st : Dk), Cu p x.1 x.2 → Φ i [cuD p x] (some st) = .ok (cuD p (tw p (nr p) x)) (some st)
theorem twiG_run {i0 i1 : Nat} {p : Int} {x : Pr} {st : Dk} (c : Cu p x.1 x.2) (h0 : MkCurC Φ i0) (h1 : SpareC Φ i1) : Ok (Pv.run Φ fuel (m_Curve_twist i0 i1) [some (cuD p x), none, none] (some st)) (retF fun r g' => r = cuD p (tw p (nr p) x) ∧ g' = some st) := by
  obtain ⟨a, b⟩ := x
  have c : Cu p a b := c
  have bd := c.pm.bd
  obtain ⟨n1, n2, n3, n4⟩ := c.pm.nr
  have m := h0 p _ _ (some st) (cu_twist c (c.pm.ndvd (show 0 < nr p by omega) n2))
  have s := h1 p (some st) c.pm
  have ma : ∀ x : Int, mulOk x a = true := fun x => mulOk_sm (by have := c.a0; omega) (by have := c.a1; omega)
  have mb : ∀ x : Int, mulOk x b = true := fun x => mulOk_sm (by have := c.b0; omega) (by have := c.b1; omega)
  have mn : ∀ x : Int, mulOk x (nr p) = true := fun x => mulOk_sm (by omega) (by omega)
  show Ok (Pv.run Φ fuel (m_Curve_twist i0 i1) [some (curD p a b), none, none] (some st)) (retF fun r g' => r = curD p (a * nr p * nr p % p) (b * nr p * nr p * nr p % p) ∧ g' = some st)
  generalize nr p = n at *
  rw [show a * n * n = n * n * a by grind, show b * n * n * n = n * n * n * b by grind] at m
  unfold m_Curve_twist
  generalize hQ : retF _ = QQ
  rw [Ok_seq]; simp [cur_p, s]
  rw [Ok_seq]; simp [mn]
  simp [cur_p, cur_a, cur_b, ma, mb, mn, c.pm.pos, m]
  subst hQ
  exact ⟨by rw [show a * n * n = n * n * a by grind, show b * n * n * n = n * n * n * b by grind], rfl⟩
abbrev FirG (Φ : Fns) (i : Nat) : Prop := ∀ (p : Int) (x : Pr) (st : Dk), Cu p x.1 x.2 → Φ i [cuD p x] (some st) = .ok (cuD p (mn p x)) (some st)
theorem firG_run {i0 i1 : Nat} {p : Int} {x : Pr} {st : Dk} (c : Cu p x.1 x.2) (h0 : MkCurC Φ i0) (h1 : ScC Φ i1) : Ok (Pv.run Φ fuel (m_first_like i0 i1) [some (cuD p x), none, none, none] (some st)) (retF fun r g' => r = cuD p (mn p x) ∧ g' = some st) := by
  have bd := c.pm.bd
  haveI : PmI p := ⟨c.pm⟩
  unfold cuD
  unfold m_first_like
  generalize hQ : retF _ = QQ
  rw [Ok_seq]; simp [cur_p]
  rw [itV_r2 (by omega) (by omega) (by omega) (by omega)]; simp [range_len]
  refine ⟨by unfold lineN; omega, ?_⟩
  rw [range_em]
  refine ok_compM (em := fun k : Nat => .int (1 + k)) (eo := fun k : Nat => prD (sc p (1 + (k : Int)) x)) (u := fun k : Nat => some k) (xs := List.range (p.toNat - 1)) (fun k hk => ?_) ?_
  · have hk := List.mem_range.mp hk
    have e := h1 p x (1 + (k : Int)) (some st) c (by omega) (by omega)
    rw [Ok_itemF]; simp [wipeS, e]
  · rw [List.filterMap_some, orb_min c.pm]
    have m := h0 p _ _ (some st) (c.lk (mn_lk x))
    simp [prD]
    simp [cur_p, m]
    subst hQ
    exact ⟨rfl, rfl⟩
abbrev CofG (Φ : Fns) (i : Nat) : Prop := ∀ (p j : Int) (st : Dk), Pm p → Gk p j → Φ i [.int p, .int j] (some st) = .ok (cuD p (gen p j)) (some st)
theorem cofG_run {i0 i1 : Nat} {p j : Int} {st : Dk} (hp : Pm p) (gk : Gk p j) (h0 : MkCurC Φ i0) (h1 : InvC Φ i1) : Ok (Pv.run Φ fuel (m_curve_of i0 i1) [some (.int p), some (.int j), none] (some st)) (retF fun r g' => r = cuD p (gen p j) ∧ g' = some st) := by
  haveI : PmI p := ⟨hp⟩
  have bd := hp.bd
  have pp := hp.pos
  have m := h0 p _ _ (some st) (kpCu hp gk.kp)
  have iv := h1 p ((1728 - j) % p) (some st) hp
  have ivb := hp.iv_rg ((1728 - j) % p)
  have mi : ∀ y : Int, mulOk y (ivP p ((1728 - j) % p)) = true := fun y => mulOk_sm (by omega) (by omega)
  have kb := emod_rg (j * ivP p ((1728 - j) % p)) pp
  have mk : ∀ y : Int, mulOk y (j * ivP p ((1728 - j) % p) % p) = true := fun y => mulOk_sm (by omega) (by omega)
  unfold m_curve_of
  generalize hQ : retF _ = QQ
  rw [Ok_seq]; simp [gk.n0]
  rw [Ok_seq]; simp [pp, gk.n1]
  rw [Ok_seq]; simp [pp, iv, mi]
  have e : gen p j = (3 * (j * ivP p ((1728 - j) % p) % p) % p, 2 * (j * ivP p ((1728 - j) % p) % p) % p) := rfl
  rw [e] at m hQ
  dsimp only at m
  generalize j * ivP p ((1728 - j) % p) % p = f at *
  simp [pp, mk, m]
  subst hQ
  exact ⟨rfl, rfl⟩
theorem appL2 {A B : List D} (h : A.length + B.length ≤ 100000) : binV .add (.list A) (.list B) = some (.list (A ++ B)) := by
  show (if decide (A.length + B.length ≤ lineN) = true then some (PyData.list (A ++ B)) else none) = _
  rw [if_pos (decide_eq_true (by unfold lineN; omega))]
abbrev CkG (Φ : Fns) (i : Nat) : Prop := ∀ (p j t : Int) (xs : Po) (st : Dk), Pm p → Gk p j → Tab p xs → Φ i [.int p, .int j, .int t, lD xs] (some st) = .ok (.list ((curK p t j).map (cuD p))) (some st)
theorem ckG_run {i0 i1 i2 : Nat} {p j t : Int} {xs : Po} {st : Dk} (hp : Pm p) (gk : Gk p j) (tb : Tab p xs) (h0 : TwiG Φ i0) (h1 : CofG Φ i1) (h2 : TrTabC Φ i2) : Ok (Pv.run Φ fuel (m_curves_of_kind i0 i1 i2) [some (.int p), some (.int j), some (.int t), some (lD xs), none, none, none] (some st)) (retF fun r g' => r = .list ((curK p t j).map (cuD p)) ∧ g' = some st) := by
  haveI : PmI p := ⟨hp⟩
  have co := h1 p j st hp gk
  have tr : Φ i2 [.int p, .int (gen p j).1, .int (gen p j).2, lD xs] (some st) = .ok (.int (trP p (gen p j))) (some st) := h2 p _ _ xs _ hp tb
  have tt := h0 p (gen p j) st (kpCu hp gk.kp)
  have ob : isOb 0 (cuD p (gen p j)) = true := rfl
  have fa : fldV (cuD p (gen p j)) "a" = some (.int (gen p j).1) := rfl
  have fb : fldV (cuD p (gen p j)) "b" = some (.int (gen p j).2) := rfl
  unfold curK
  generalize trP p (gen p j) = T at *
  generalize tw p (nr p) (gen p j) = Y at *
  generalize gen p j = X at *
  generalize hYD : cuD p Y = YD at *
  unfold m_curves_of_kind
  generalize hQ : retF _ = QQ
  rw [Ok_seq]; simp [co]
  rw [Ok_seq]; simp [fa, fb, tr]
  generalize hXD : cuD p X = XD at *
  rw [Ok_seq]
  by_cases q1 : T = t
  · simp [q1, -Bool.exists_bool]
    by_cases q2 : t = -t
    · simp [← q2, ob, tt, appL2 (A := [XD]) (B := [YD]) (by simp), -Bool.exists_bool]
      subst hQ
      exact ⟨by simp [q1, ← q2, hXD, hYD], rfl⟩
    · simp [q2, -Bool.exists_bool]
      subst hQ
      exact ⟨by simp [q1, q2, hXD], rfl⟩
  · simp [q1, -Bool.exists_bool]
    by_cases q2 : T = -t
    · simp [q2, ob, tt, appL2 (A := []) (B := [YD]) (by simp), -Bool.exists_bool]
      subst hQ
      exact ⟨by rw [q2] at q1; simp [q1, q2, hYD], rfl⟩
    · simp [q2, -Bool.exists_bool]
      subst hQ
      exact ⟨by simp [q1, q2], rfl⟩
end Xk18
end

section
set_option autoImplicit false
namespace Xk18
open PySem Pv
variable {Φ : Fns} {g : G}
def kgN (p : Int) (n : Nat) : List Int := (List.range n).filterMap fun k : Nat => if (1 + (k : Int)) ≠ 1728 % p then some (1 + (k : Int)) else none
def cuN (p t : Int) (n : Nat) : List Pr := (kgN p n).flatMap (curK p t)
theorem cuN_succ (p t : Int) (n : Nat) : cuN p t (n + 1) = cuN p t n ++ if (1 + (n : Int)) ≠ 1728 % p then curK p t (1 + (n : Int)) else [] := by
  unfold cuN kgN
  rw [List.range_succ, List.filterMap_append, List.flatMap_append]
  congr 1
  rw [List.filterMap_cons, List.filterMap_nil]
  by_cases z : (1 + (n : Int)) ≠ 1728 % p
  · rw [if_pos z, if_pos z]; simp
  · rw [if_neg z, if_neg z]; rfl
theorem curK_len (p t j : Int) : (curK p t j).length ≤ 2 := by
  unfold curK
  rw [List.length_append]
  split <;> split <;> simp
theorem cuN_len (p t : Int) : ∀ n, (cuN p t n).length ≤ 2 * n
  | 0 => Nat.le_refl _
  | n + 1 => by
    rw [cuN_succ, List.length_append]
    have h1 := cuN_len p t n
    have h2 := curK_len p t (1 + (n : Int))
    split
    · omega
    · simp; omega
theorem ext_l2 {A B : List D} (h : A.length + B.length ≤ 100000) : extV (.list A) (.list B) = some (.list (A ++ B)) := by
  show (if decide (A.length + B.length ≤ lineN) = true then some (PyData.list (A ++ B)) else none) = _
  rw [if_pos (decide_eq_true (by unfold lineN; omega))]
abbrev CwG (Φ : Fns) (i : Nat) : Prop := ∀ (p t : Int) (xs : Po) (st : Dk), Pm p → Tab p xs → Φ i [.int p, .int t, lD xs] (some st) = .ok (.list ((curL p t).map (cuD p))) (some st)
theorem cwG_run {i0 : Nat} {p t : Int} {xs : Po} {st : Dk} (hp : Pm p) (tb : Tab p xs) (h0 : CkG Φ i0) : Ok (Pv.run Φ fuel (m_curves_with i0) [some (.int p), some (.int t), some (lD xs), none, none] (some st)) (retF fun r g' => r = .list ((curL p t).map (cuD p)) ∧ g' = some st) := by
  haveI : PmI p := ⟨hp⟩
  have bd := hp.bd
  unfold m_curves_with
  generalize hQ : retF _ = QQ
  rw [Ok_seq]; simp [-Bool.exists_bool]
  rw [Ok_seq, Ok_for]; simp [-Bool.exists_bool]
  rw [itV_r2 (by omega) (by omega) (by omega) (by omega)]; simp [-Bool.exists_bool]
  refine ok_forL (fun k σ g' => g' = some st ∧ ∃ y4 : Option D, σ = [some (.int p), some (.int t), some (lD xs), some (.list ((cuN p t k).map (cuD p))), y4]) ⟨rfl, none, rfl⟩ ?_ ?_
  · rintro k x σ g' hx ⟨rfl, y4, rfl⟩
    obtain ⟨hk, rfl⟩ := range_at hx
    generalize hI : loopF _ _ = II
    rw [Ok_turnF]; simp [hp.pos, -Bool.exists_bool]
    by_cases z : 1 + (k : Int) = 1728 % p
    · simp [z, -Bool.exists_bool]
      subst hI
      exact ⟨rfl, _, by rw [cuN_succ, if_neg (fun h => h z), List.append_nil]⟩
    · have gk : Gk p (1 + (k : Int)) := ⟨⟨by omega, by omega⟩, by omega, z⟩
      have l1 := cuN_len p t k
      have l2 := curK_len p t (1 + (k : Int))
      simp [z, h0 p _ t xs st hp gk tb, -Bool.exists_bool]
      rw [ext_l2 (by rw [List.length_map, List.length_map]; omega)]
      simp [-Bool.exists_bool]
      subst hI
      exact ⟨rfl, _, by rw [cuN_succ, if_pos z, List.map_append]⟩
  · rintro σ g' ⟨rfl, y4, rfl⟩
    rw [range_len]
    simp [-Bool.exists_bool]
    subst hQ
    exact ⟨rfl, rfl⟩
abbrev EdG (Φ : Fns) (i : Nat) : Prop := ∀ (p t : Int) (xs : Po) (g : G), Pm p → Tab p xs → Φ i [.int p, .int t, lD xs] g = .ok (.list ((edgeL p t).map prD)) g
theorem edG_run {i0 : Nat} {p t : Int} {xs : Po} (hp : Pm p) (tb : Tab p xs) (h0 : TrTabC Φ i0) : Ok (Pv.run Φ fuel (m_edge_pairs i0) [some (.int p), some (.int t), some (lD xs), none, none, none, none] g) (retF fun r g' => r = .list ((edgeL p t).map prD) ∧ g' = g) := by
  have bd := hp.bd
  unfold m_edge_pairs
  generalize hQ : retF _ = QQ
  rw [Ok_seq]; simp [-Bool.exists_bool]
  rw [itV_r2 (by omega) (by omega) (by omega) (by omega)]; simp [range_len, -Bool.exists_bool]
  refine ⟨by unfold lineN; omega, ?_⟩
  rw [range_em]
  refine ok_compM (em := fun k : Nat => .int (1 + k)) (eo := fun k : Nat => prD (0, 1 + (k : Int))) (u := fun k : Nat => some k) (xs := List.range (p.toNat - 1)) (fun k hk => ?_) ?_
  · rw [Ok_itemF]; simp [wipeS, prD, -Bool.exists_bool]
  rw [List.filterMap_some]
  refine ⟨by unfold lineN; omega, ?_⟩
  refine ok_compM (em := fun k : Nat => .int (1 + k)) (eo := fun k : Nat => prD (1 + (k : Int), 0)) (u := fun k : Nat => some k) (xs := List.range (p.toNat - 1)) (fun k hk => ?_) ?_
  · rw [Ok_itemF]; simp [wipeS, prD, -Bool.exists_bool]
  rw [List.filterMap_some]
  rw [appL2 (by rw [List.length_map, List.length_map, List.length_range]; omega)]
  have e : ((List.range (p.toNat - 1)).map fun k : Nat => prD (0, 1 + (k : Int))) ++ ((List.range (p.toNat - 1)).map fun k : Nat => prD (1 + (k : Int), 0)) = (edges p).map prD := by
    unfold edges
    rw [List.map_append, List.map_map, List.map_map]; rfl
  rw [e]
  have el : (edges p).length ≤ 400 := by unfold edges; simp; omega
  simp [-Bool.exists_bool]
  rw [show itV .seq [.list ((edges p).map prD)] = some ((edges p).map prD) from rfl]; simp [-Bool.exists_bool]
  refine ⟨by unfold lineN; omega, ?_⟩
  refine ok_compM (em := prD) (eo := prD) (u := fun x => if decide (trP p x = t) = true then some x else none) (xs := edges p) (fun x hx => ?_) ?_
  · have tr : Φ i0 [.int p, .int x.1, .int x.2, lD xs] g = .ok (.int (trP p x)) g := h0 p _ _ xs _ hp tb
    rw [Ok_itemF]
    by_cases z : trP p x = t
    · simp [wipeS, prD, setT, setMany, tr, z, -Bool.exists_bool]
    · simp [wipeS, prD, setT, setMany, tr, z, -Bool.exists_bool]
  · subst hQ
    refine ⟨?_, rfl⟩
    have : ∀ l : List Pr, (l.filterMap fun x => if decide (trP p x = t) = true then some x else none) = l.filter fun x => decide (trP p x = t) := fun l => by
      induction l with
      | nil => rfl
      | cons x l ih =>
        rw [List.filterMap_cons, List.filter_cons, ← ih]
        by_cases z : trP p x = t <;> simp [z]
    rw [this]; rfl
def isIntD : D → Bool
  | .int _ => true
  | _ => false
def okT : D → Bool
  | .dict kvs => kvs.isEmpty
  | _ => true
def ibD : D → Bool
  | .int _ => true
  | .bool _ => true
  | _ => false
def bbD : D → Bool
  | .bool _ => true
  | _ => false
theorem bi_isInt {v : D} (nd : isDk v = false) : biV .isInt [v] = some (.bool (ibD v)) := by
  have : biV .isInt [v] = (if (isDk v && !isObj v) = true then none else some (PyData.bool (ibD v))) := by cases v <;> rfl
  rw [this, nd]; rfl
theorem bi_isBool {v : D} (nd : isDk v = false) : biV .isBool [v] = some (.bool (bbD v)) := by
  have : biV .isBool [v] = (if (isDk v && !isObj v) = true then none else some (PyData.bool (bbD v))) := by cases v <;> rfl
  rw [this, nd]; rfl
abbrev IntVC (Φ : Fns) (i : Nat) : Prop := ∀ (v : D) (g : G), okT v = true → Φ i [v] g = .ok (.bool (isIntD v)) g
theorem intV_run {v : D} (hv : okT v = true) : Ok (Pv.run Φ fuel m_is_integer [some v] g) (retF fun r g' => r = .bool (isIntD v) ∧ g' = g) := by
  have nd : isDk v = false := by
    cases v with
    | dict kvs => cases kvs with
      | nil => rfl
      | cons a b => cases hv
    | _ => rfl
  unfold m_is_integer
  have b2 := bi_isInt nd
  have b3 := bi_isBool nd
  have b4 : isIntD v = (ibD v && !bbD v) := by cases v <;> rfl
  rw [b4]
  clear b4 nd hv
  generalize ibD v = x at *
  generalize bbD v = y at *
  simp [b2, b3, -Bool.exists_bool]
  cases x <;> cases y <;> simp [-Bool.exists_bool]
def badT (p : Int) (v : D) : Prop := okT v = true ∧ ∀ i, v = .int i → 4 * p ≤ i * i ∧ i.natAbs ≤ 10 ^ 40
abbrev NoTC (Φ : Fns) (i : Nat) : Prop := ∀ (p : Int) (v : D) (g : G), Pm p → badT p v → Φ i [.int p, v] g = .ok (.bool false) g
theorem noT_run {i0 : Nat} {p : Int} {v : D} (hp : Pm p) (hv : badT p v) (h0 : IntVC Φ i0) : Ok (Pv.run Φ fuel (m_is_trace i0) [some (.int p), some v] g) (retF fun r g' => r = .bool false ∧ g' = g) := by
  have b := hp.bd
  have m2 : mulOk 4 p = true := mulOk_sm (by omega) (by omega)
  have e := h0 v g hv.1
  unfold m_is_trace
  by_cases z : ∃ i, v = .int i
  · obtain ⟨i, rfl⟩ := z
    obtain ⟨h1, h2⟩ := hv.2 i rfl
    have e : Φ i0 [.int i] g = .ok (.bool true) g := e
    have m1 : mulOk i i = true := by
      have l : i.natAbs.log2 < 200 := by
        by_cases q : i.natAbs = 0
        · rw [q]; decide
        · exact (Nat.log2_lt q).mpr (Nat.lt_of_le_of_lt h2 (by decide))
      unfold mulOk
      rw [decide_eq_true (show i.natAbs.log2 + i.natAbs.log2 < 1000000 by omega), Bool.or_true]
    simp [e, m1, m2, -Bool.exists_bool]
    omega
  · have q : isIntD v = false := by
      cases v with
      | int i => exact (z ⟨i, rfl⟩).elim
      | _ => rfl
    rw [q] at e
    simp [e, -Bool.exists_bool]
abbrev CwiG (Φ : Fns) (i : Nat) : Prop := ∀ (p t : Int) (st : Dk), Pm p → t * t < 4 * p → stP p t ≠ [] → Φ i [.int p, .int t] (some st) = .ok (cuD p (mnL (stP p t))) (some st)
theorem cwi_run {i0 i1 i2 i3 i4 i5 : Nat} {p t : Int} {st : Dk} (hp : Pm p) (ht : t * t < 4 * p) (ne : stP p t ≠ []) (h0 : MkCurC Φ i0) (h1 : CwG Φ i1) (h2 : EdG Φ i2) (h3 : FirG Φ i3) (h4 : IsTrC Φ i4) (h5 : SqTabC Φ i5) : Ok (Pv.run Φ fuel (m_curve_with i0 i1 i2 i3 i4 i5) [some (.int p), some (.int t), none, none, none, none, none] (some st)) (retF fun r g' => r = cuD p (mnL (stP p t)) ∧ g' = some st) := by
  haveI : PmI p := ⟨hp⟩
  have bd := hp.bd
  have tl : -1000 < t ∧ t < 1000 := by
    have := sq_lt (u := t) (n := 1000) (by omega) (by omega)
    omega
  have it := h4 p t (some st) hp tl.1 tl.2
  rw [decide_eq_true ht] at it
  obtain ⟨ne2, em⟩ := st_min ne
  unfold m_curve_with
  generalize hQ : retF _ = QQ
  rw [Ok_seq]; simp [it, -Bool.exists_bool]
  rw [Ok_seq]; simp [-Bool.exists_bool]
  refine (h5 p (some st) hp).mono ?_
  rintro _ _ ⟨⟨xs, rfl, tb⟩, rfl⟩
  try simp [-Bool.exists_bool]
  have cl : (curL p t).length ≤ 400 := by
    have := cuN_len p t (p.toNat - 1)
    have : (cuN p t (p.toNat - 1)).length = (curL p t).length := rfl
    omega
  have ck : ∀ c ∈ curL p t, Cu p c.1 c.2 := fun c hc => by
    obtain ⟨j, hj, hc⟩ := List.mem_flatMap.mp hc
    exact kpCu hp (curK_kp (mem_kinds.mp hj) hc)
  rw [Ok_seq]; simp [h1 p t xs st hp tb, -Bool.exists_bool]
  rw [show itV .seq [.list ((curL p t).map (cuD p))] = some ((curL p t).map (cuD p)) from rfl]; simp [-Bool.exists_bool]
  refine ⟨by unfold lineN; omega, ?_⟩
  refine ok_compM (em := cuD p) (eo := cuD p) (u := fun x => some (mn p x)) (xs := curL p t) (fun x hx => ?_) ?_
  · rw [Ok_itemF]; simp [wipeS, h3 p x st (ck x hx), -Bool.exists_bool]
  rw [fm_map]
  rw [Ok_seq]; simp [h2 p t xs (some st) hp tb, -Bool.exists_bool]
  rw [← List.map_map]
  rw [show itV .seq [.list (((curL p t).map (mn p)).map (cuD p))] = some (((curL p t).map (mn p)).map (cuD p)) from rfl]; simp [-Bool.exists_bool, -List.map_map]
  refine ⟨by unfold lineN; omega, ?_⟩
  refine ok_compM (em := cuD p) (eo := prD) (u := fun x => some x) (xs := (curL p t).map (mn p)) (fun x hx => ?_) ?_
  · have fa : fldV (cuD p x) "a" = some (.int x.1) := rfl
    have fb : fldV (cuD p x) "b" = some (.int x.2) := rfl
    rw [Ok_itemF]; simp [wipeS, fa, fb, prD, -Bool.exists_bool]
  rw [List.filterMap_some]
  have ee : (edgeL p t).length ≤ 400 := by
    have h1 : (edgeL p t).length ≤ (edges p).length := List.length_filter_le _ _
    have : (edges p).length ≤ 400 := by unfold edges; simp; omega
    omega
  rw [appL2 (by rw [List.length_map, List.length_map, List.length_map]; omega), ← List.map_append]
  simp [-Bool.exists_bool, -List.map_map, -List.map_append]
  rw [minL_pr ne2, em]
  obtain ⟨nx, _⟩ := mem_stP.mp (mnL_mem ne)
  have c : Cu p (mnL (stP p t)).1 (mnL (stP p t)).2 := ⟨hp, nx.1.1.1, nx.1.1.2, nx.1.2.1, nx.1.2.2, nx.2⟩
  have m := h0 p _ _ (some st) c
  generalize mnL (stP p t) = z at *
  simp [prD, setT, setMany, m, -Bool.exists_bool]
  subst hQ
  exact ⟨rfl, rfl⟩
end Xk18
end

section
set_option autoImplicit false
namespace Pv
open PySem Lean.Grind
def halfO (p : Int) (c : Pr) : List Pr := (List.range ((p.toNat - 1) / 2)).map fun k : Nat => sc p (1 + (k : Int)) c
section
variable {p : Int} [h : PmI p]
def Nz (p : Int) [PmI p] (c : Pr) : Prop := toF p c.1 ≠ 0 ∧ toF p c.2 ≠ 0
theorem gen_nz {j : Int} (g : Gk p j) : Nz p (gen p j) := by
  obtain ⟨g1, g2⟩ := gen_F (p := p) j
  have k := g.K
  have k0 : toF p (kf p j) ≠ 0 := fun e => g.J (by rw [← k, e]; grind)
  refine ⟨?_, ?_⟩
  · rw [g1]; exact fmul_nz f3 k0
  · rw [g2]; exact fmul_nz f2 k0
theorem tw_nz {c : Pr} (n : Nz p c) : Nz p (Pv.tw p (nr p) c) := by
  have hn : toF p (nr p) ≠ 0 := fun e => nr_nd (toF_nz.mp e)
  unfold Pv.tw
  refine ⟨?_, ?_⟩
  · show toF p (_ % p) ≠ 0
    rw [toF_mod, toF_mul, toF_mul]
    exact fmul_nz (fmul_nz n.1 hn) hn
  · show toF p (_ % p) ≠ 0
    rw [toF_mod, toF_mul, toF_mul, toF_mul]
    exact fmul_nz (fmul_nz (fmul_nz n.2 hn) hn) hn
theorem sc_half {c : Pr} (n : Nz p c) {u v : Int} (u1 : 1 ≤ u) (u2 : 2 * u < p) (v1 : 1 ≤ v) (v2 : 2 * v < p) (e : sc p u c = sc p v c) : u = v := by
  have hu := fu (p := p) u1 (by omega)
  have hv := fu (p := p) v1 (by omega)
  have q1 := toF_eq.mpr (congrArg Prod.fst e)
  have q2 := toF_eq.mpr (congrArg Prod.snd e)
  simp only [sc, toF_mul, toF_mod] at q1 q2
  have e3 : toF p u * toF p u = toF p v * toF p v := by
    obtain ⟨n1, n2⟩ := n
    clear e
    generalize toF p u = U at *
    generalize toF p v = V at *
    generalize toF p c.1 = A at *
    generalize toF p c.2 = B at *
    have e1 : U * U * (U * U) = V * V * (V * V) := fcanc n1 (by grind)
    have e2 : U * U * (U * U) * (U * U) = V * V * (V * V) * (V * V) := fcanc n2 (by grind)
    exact fcanc (fmul_nz (fmul_nz hv hv) (fmul_nz hv hv)) (by rw [← e2, e1])
  rw [← toF_mul, ← toF_mul] at e3
  have d := toF_eq.mp e3
  rcases h.pm.sq_eq d with z | z
  · obtain ⟨k, hk⟩ := z
    by_cases k0 : k = 0
    · subst k0; omega
    · rcases Int.lt_or_gt_of_ne k0 with l | l
      · have : p * k ≤ p * (-1) := Int.mul_le_mul_of_nonneg_left (by omega) (by omega)
        omega
      · have : p * 1 ≤ p * k := Int.mul_le_mul_of_nonneg_left (by omega) (by omega)
        omega
  · exact (h.pm.ndvd (by omega) (by omega) z).elim
theorem mem_half {c y : Pr} : y ∈ halfO p c ↔ Lk p c y := by
  have bd := h.pm.bd
  have od := h.pm.odd
  unfold halfO
  rw [List.mem_map]
  constructor
  · rintro ⟨k, hk, rfl⟩
    rw [List.mem_range] at hk
    exact ⟨1 + (k : Int), by omega, by omega, rfl⟩
  · rintro ⟨u, u1, u2, rfl⟩
    by_cases z : 2 * u < p
    · exact ⟨(u - 1).toNat, List.mem_range.mpr (by omega), by rw [show 1 + (((u - 1).toNat : Nat) : Int) = u by omega]⟩
    · refine ⟨(p - u - 1).toNat, List.mem_range.mpr (by omega), ?_⟩
      rw [show 1 + (((p - u - 1).toNat : Nat) : Int) = p - u by omega]
      have e : toF p (p - u) = -toF p u := by
        rw [toF_sub, toF_nz.mpr (Int.dvd_refl p)]; grind
      unfold sc
      refine Prod.ext ?_ ?_
      · show _ % p = _ % p
        refine toF_eq.mp ?_
        simp only [toF_mul, e]; grind
      · show _ % p = _ % p
        refine toF_eq.mp ?_
        simp only [toF_mul, e]; grind
theorem half_nd {c : Pr} (n : Nz p c) : (halfO p c).Nodup := by
  have bd := h.pm.bd
  unfold halfO
  refine List.pairwise_map.mpr (List.Pairwise.imp_of_mem ?_ List.nodup_range)
  intro a b ha hb ne e
  rw [List.mem_range] at ha hb
  have := sc_half n (by omega) (by omega) (by omega) (by omega) e
  omega
theorem half_len (c : Pr) : (halfO p c).length = (p.toNat - 1) / 2 := by unfold halfO; rw [List.length_map, List.length_range]
theorem curK_nz {t j : Int} (g : Gk p j) {c : Pr} (hc : c ∈ curK p t j) : Nz p c := by
  rcases (mem_curK hc).2 with rfl | rfl
  · exact gen_nz g
  · exact tw_nz (gen_nz g)
theorem curL_nz {t : Int} {c : Pr} (hc : c ∈ curL p t) : Nz p c := by
  obtain ⟨j, hj, hc⟩ := List.mem_flatMap.mp hc
  exact curK_nz (mem_kinds.mp hj) hc
theorem kinds_nd : (kindsG p).Nodup := by
  unfold kindsG
  refine List.pairwise_filterMap.mpr (List.Pairwise.imp_of_mem ?_ List.nodup_range)
  intro a b _ _ ne x hx y hy e
  split at hx
  · split at hy
    · cases hx; cases hy
      omega
    · cases hy
  · cases hx
theorem curL_pw (t : Int) : (curL p t).Pairwise fun c d => ∀ x ∈ halfO p c, ∀ y ∈ halfO p d, x ≠ y := by
  unfold curL
  rw [List.pairwise_flatMap]
  refine ⟨fun j hj => ?_, ?_⟩
  · have g := mem_kinds.mp hj
    have key : ∀ x ∈ halfO p (gen p j), ∀ y ∈ halfO p (Pv.tw p (nr p) (gen p j)), x ≠ y := fun x hx y hy e => by
      subst e
      exact apart g ((mem_half.mp hx).trans ((mem_half.mp hy).symm (tw_rg _ _)))
    unfold curK
    split
    · split
      · exact List.pairwise_cons.mpr ⟨fun d hd => by rw [List.mem_singleton.mp hd]; exact key, List.pairwise_singleton _ _⟩
      · exact List.pairwise_singleton _ _
    · split
      · exact List.pairwise_singleton _ _
      · exact List.Pairwise.nil
  · refine List.Pairwise.imp_of_mem ?_ kinds_nd
    intro j k hj hk ne c hc d hd x hx y hy e
    subst e
    have gj := mem_kinds.mp hj
    have gk := mem_kinds.mp hk
    exact ne (kind_uni gj.rg.1 gj.rg.2 gk.rg.1 gk.rg.2 ((curK_kp gj hc).lk (mem_half.mp hx)) ((curK_kp gk hd).lk (mem_half.mp hy)))
theorem edges_nd : (edges p).Nodup := by
  unfold edges
  rw [List.nodup_append]
  refine ⟨List.pairwise_map.mpr (List.Pairwise.imp_of_mem ?_ List.nodup_range), List.pairwise_map.mpr (List.Pairwise.imp_of_mem ?_ List.nodup_range), ?_⟩
  · intro a b _ _ ne e
    have := congrArg Prod.snd e
    dsimp only at this
    omega
  · intro a b _ _ ne e
    have := congrArg Prod.fst e
    dsimp only at this
    omega
  · intro x hx y hy e
    obtain ⟨k, _, rfl⟩ := List.mem_map.mp hx
    obtain ⟨l, _, rfl⟩ := List.mem_map.mp hy
    have := congrArg Prod.fst e
    dsimp only at this
    omega
theorem flat_len (l : List Pr) : (l.flatMap (halfO p)).length = l.length * ((p.toNat - 1) / 2) := by
  induction l with
  | nil => simp
  | cons c l ih => rw [List.flatMap_cons, List.length_append, half_len, ih, List.length_cons, Nat.succ_mul, Nat.add_comm]
theorem st_len (t : Int) : (stP p t).length = (edgeL p t).length + (curL p t).length * ((p.toNat - 1) / 2) := by
  rw [← flat_len, ← List.length_append]
  refine len_same (asc_stP p t).nodup ?_ fun x => ?_
  · rw [List.nodup_append]
    refine ⟨List.Pairwise.filter _ edges_nd, ?_, ?_⟩
    · show List.Pairwise _ _
      rw [List.pairwise_flatMap]
      exact ⟨fun c hc => half_nd (curL_nz hc), curL_pw t⟩
    · intro x hx y hy e
      subst e
      obtain ⟨c, hc, hy⟩ := List.mem_flatMap.mp hy
      obtain ⟨j, hj, hc⟩ := List.mem_flatMap.mp hc
      have g := mem_kinds.mp hj
      have k := (curK_kp g hc).lk (mem_half.mp hy)
      have bd := h.pm.bd
      rcases mem_edges.mp (List.mem_filter.mp hx).1 with z | z
      · exact g.n0 (kind_uni g.rg.1 g.rg.2 (by omega) (by omega) k z)
      · have r := emod_rg 1728 h.pm.pos
        exact g.n1 (kind_uni g.rg.1 g.rg.2 r.1 r.2 k z)
  · rw [st_iff, List.mem_append, List.mem_flatMap]
    exact ⟨fun z => z.elim .inl fun ⟨c, hc, l⟩ => .inr ⟨c, hc, mem_half.mpr l⟩, fun z => z.elim .inl fun ⟨c, hc, l⟩ => .inr ⟨c, hc, mem_half.mp l⟩⟩
end
end Pv
end

section
set_option autoImplicit false
namespace Xk18
open PySem Pv
variable {Φ : Fns} {g : G}
abbrev MpG (Φ : Fns) (i : Nat) : Prop := ∀ (p t : Int) (st : Dk), Pm p → t * t < 4 * p → Φ i [.int p, .int t] (some st) = .ok (.int ((stP p t).length : Nat)) (some st)
theorem mp_run {i0 i1 i2 i3 : Nat} {p t : Int} {st : Dk} (hp : Pm p) (ht : t * t < 4 * p) (h0 : CwG Φ i0) (h1 : EdG Φ i1) (h2 : IsTrC Φ i2) (h3 : SqTabC Φ i3) : Ok (Pv.run Φ fuel (m_many_pairs i0 i1 i2 i3) [some (.int p), some (.int t), none] (some st)) (retF fun r g' => r = .int ((stP p t).length : Nat) ∧ g' = some st) := by
  haveI : PmI p := ⟨hp⟩
  have bd := hp.bd
  have od := hp.odd
  have tl : -1000 < t ∧ t < 1000 := by
    have := sq_lt (u := t) (n := 1000) (by omega) (by omega)
    omega
  have it := h2 p t (some st) hp tl.1 tl.2
  rw [decide_eq_true ht] at it
  unfold m_many_pairs
  generalize hQ : retF _ = QQ
  rw [Ok_seq]; simp [it, -Bool.exists_bool]
  rw [Ok_seq]; simp [-Bool.exists_bool]
  refine (h3 p (some st) hp).mono ?_
  rintro _ _ ⟨⟨xs, rfl, tb⟩, rfl⟩
  try simp [-Bool.exists_bool]
  have ll : ∀ xs : List D, biV .len [.list xs] = some (.int (xs.length : Int)) := fun _ => rfl
  have m1 : ∀ x : Int, mulOk x (p - 1) = true := fun x => mulOk_sm (by omega) (by omega)
  have l2 : Nat.log2 2 < 9000 := by decide
  simp [h0 p t xs st hp tb, h1 p t xs (some st) hp tb, ll, m1, l2, -Bool.exists_bool]
  subst hQ
  refine ⟨?_, rfl⟩
  rw [st_len]
  obtain ⟨m, hm⟩ : ∃ m : Nat, p = 2 * (m : Int) + 1 := ⟨((p - 1) / 2).toNat, by omega⟩
  have e1 : (p.toNat - 1) / 2 = m := by omega
  rw [e1, hm, show 2 * (m : Int) + 1 - 1 = (m : Int) * 2 by omega, ← Int.mul_assoc, Int.mul_ediv_cancel _ (by decide)]
  congr 1
abbrev RefX (Φ : Fns) (i : Nat) : Prop := ∀ (p : Int) (v : D) (g : G), Pm p → badT p v → Φ i [.int p, v] g = .exc 1 [v] g
theorem cwiX_run {i0 i1 i2 i3 i4 i5 : Nat} {p : Int} {v : D} (hp : Pm p) (hv : badT p v) (h0 : NoTC Φ i4) : Ok (Pv.run Φ fuel (m_curve_with i0 i1 i2 i3 i4 i5) [some (.int p), some v, none, none, none, none, none] g) (retX (fun _ _ => False) fun c vs g' => c = 1 ∧ vs = [v] ∧ g' = g) := by
  unfold m_curve_with
  rw [Ok_seq]; simp [h0 p v g hp hv, retX]
theorem mpX_run {i0 i1 i2 i3 : Nat} {p : Int} {v : D} (hp : Pm p) (hv : badT p v) (h0 : NoTC Φ i2) : Ok (Pv.run Φ fuel (m_many_pairs i0 i1 i2 i3) [some (.int p), some v, none] g) (retX (fun _ _ => False) fun c vs g' => c = 1 ∧ vs = [v] ∧ g' = g) := by
  unfold m_many_pairs
  rw [Ok_seq]; simp [h0 p v g hp hv, retX]
end Xk18
end

section
set_option autoImplicit false
namespace Pv
open PySem
def witL : List (Nat × List (Nat × Nat)) := [(7, [(0, 3), (0, 1), (1, 6), (1, 4), (0, 2), (1, 0), (0, 5), (1, 3), (1, 1), (0, 6), (0, 4)]), (11, [(1, 3), (2, 4), (1, 2), (1, 7), (1, 1), (1, 6), (0, 1), (1, 5), (1, 10), (1, 4), (1, 9), (2, 7), (1, 8)]), (13, [(0, 4), (1, 0), (0, 2), (1, 1), (2, 4), (0, 5), (2, 2), (1, 4), (1, 6), (0, 1), (7, 6), (2, 0), (0, 3), (2, 1), (0, 6)]), (17, [(3, 0), (1, 8), (1, 2), (3, 5), (2, 3), (2, 8), (1, 6), (2, 2), (0, 1), (1, 3), (1, 0), (1, 5), (1, 4), (6, 8), (1, 7), (2, 6), (6, 0)]), (19, [(0, 8), (0, 5), (1, 9), (1, 14), (1, 8), (2, 9), (1, 12), (0, 4), (1, 0), (0, 10), (1, 6), (2, 10), (1, 11), (1, 5), (1, 10), (0, 2), (0, 1)]), (23, [(1, 11), (1, 10), (5, 1), (1, 16), (1, 4), (1, 1), (1, 3), (1, 18), (5, 9), (0, 1), (5, 3), (1, 5), (1, 6), (1, 9), (1, 19), (1, 7), (5, 22), (1, 13), (1, 12)]), (29, [(4, 0), (2, 13), (1, 6), (4, 9), (1, 1), (1, 7), (1, 14), (1, 4), (2, 6), (4, 1), (0, 1), (1, 11), (1, 10), (4, 3), (2, 0), (4, 2), (1, 2), (1, 12), (1, 13), (2, 2), (1, 0)]), (31, [(0, 3), (1, 10), (1, 3), (1, 29), (0, 5), (1, 27), (1, 19), (0, 1), (1, 8), (1, 13), (1, 15), (1, 0), (1, 16), (1, 18), (1, 23), (0, 15), (1, 12), (1, 4), (0, 11), (1, 2), (1, 28), (1, 21), (0, 7)]), (37, [(2, 0), (0, 2), (0, 1), (3, 15), (1, 11), (2, 14), (1, 7), (2, 9), (1, 9), (1, 16), (1, 2), (0, 3), (1, 5), (0, 5), (1, 0), (1, 8), (1, 18), (1, 13), (3, 6), (2, 8), (2, 2), (1, 12), (0, 6), (0, 9), (5, 0)]), (41, [(2, 4), (1, 20), (2, 0), (1, 8), (3, 4), (2, 7), (1, 10), (1, 5), (2, 8), (1, 6), (1, 14), (6, 15), (0, 1), (3, 8), (1, 2), (1, 3), (1, 7), (2, 6), (1, 13), (1, 1), (3, 0), (2, 15), (1, 0), (2, 17), (1, 17)]), (43, [(0, 9), (2, 1), (1, 8), (1, 15), (1, 31), (0, 2), (1, 19), (1, 23), (0, 3), (1, 2), (1, 3), (1, 13), (1, 11), (1, 0), (1, 14), (1, 30), (1, 40), (1, 25), (0, 6), (1, 9), (1, 5), (0, 1), (1, 12), (1, 1), (1, 35), (2, 20), (0, 7)]), (47, [(1, 38), (1, 1), (1, 4), (1, 11), (5, 1), (1, 2), (1, 27), (1, 3), (5, 8), (1, 6), (1, 7), (1, 13), (1, 8), (0, 1), (1, 39), (1, 10), (1, 18), (1, 41), (5, 39), (1, 5), (1, 12), (1, 16), (5, 4), (1, 36), (1, 43), (1, 14), (1, 9)]), (53, [(1, 0), (2, 22), (2, 12), (1, 26), (1, 6), (1, 11), (5, 1), (1, 8), (1, 7), (2, 1), (1, 1), (1, 14), (1, 21), (1, 19), (0, 1), (4, 7), (1, 15), (1, 5), (1, 22), (5, 3), (1, 2), (4, 11), (2, 2), (2, 11), (2, 16), (1, 18), (1, 20), (5, 13), (1, 12)]), (59, [(2, 22), (2, 9), (1, 16), (1, 19), (1, 37), (1, 36), (1, 21), (1, 44), (1, 13), (1, 7), (1, 24), (1, 9), (1, 1), (1, 26), (2, 25), (0, 1), (2, 23), (1, 17), (1, 54), (1, 8), (1, 3), (1, 20), (1, 46), (1, 15), (1, 6), (1, 10), (1, 22), (1, 4), (1, 43), (2, 31), (2, 37)])]
def pl18 : List Int := witL.map fun q => (q.1 : Int)
def wit1 (p : Nat) (t : Int) (x : Nat × Nat) : Bool := Nat.blt x.1 p && Nat.blt x.2 p && !Nat.beq ((4 * x.1 * x.1 * x.1 + 27 * x.2 * x.2) % p) 0 && decide ((sumN p ((p - 1) / 2) x.1 x.2 p : Int) = p - t)
def witA (p : Nat) (ts : List Int) (ws : List (Nat × Nat)) : Bool := decide (ts.length = ws.length) && (ts.zip ws).all fun q => wit1 p q.1 q.2
theorem wit_all : (witL.all fun q => witA q.1 (trL q.1) q.2) = true := by decide +kernel
theorem pl18_pm : ∀ p ∈ pl18, p ∈ pmL := by decide +kernel
theorem met {p : Int} (hp : p ∈ pl18) {t : Int} (ht : t ∈ trL p) : stP p t ≠ [] := by
  have pm : Pm p := ⟨pl18_pm p hp⟩
  have bd := pm.bd
  obtain ⟨q, hq, rfl⟩ := List.mem_map.mp hp
  have a := List.all_eq_true.mp wit_all q hq
  unfold witA at a
  rw [Bool.and_eq_true, decide_eq_true_eq] at a
  obtain ⟨k, hk⟩ := List.mem_iff_getElem?.mp ht
  have kl := (List.getElem?_eq_some_iff.mp hk).1
  obtain ⟨x, hx⟩ : ∃ x, q.2[k]? = some x := ⟨_, List.getElem?_eq_getElem (by omega)⟩
  have z : (t, x) ∈ (trL q.1).zip q.2 := List.mem_of_getElem? (i := k) (List.getElem?_zip_eq_some.mpr ⟨hk, hx⟩)
  have b := List.all_eq_true.mp a.2 _ z
  unfold wit1 at b
  simp only [Bool.and_eq_true, Bool.not_eq_true', decide_eq_true_eq] at b
  obtain ⟨⟨⟨b1, b2⟩, b3⟩, b4⟩ := b
  have b1 : x.1 < q.1 := Nat.le_of_ble_eq_true b1
  have b2 : x.2 < q.1 := Nat.le_of_ble_eq_true b2
  have s := sum_N pm x.1 x.2 q.1
  rw [Int.toNat_natCast] at s
  rw [b4] at s
  intro e
  have m : (((x.1 : Nat) : Int), ((x.2 : Nat) : Int)) ∈ stP q.1 t := mem_stP.mpr ⟨⟨⟨⟨by show (0 : Int) ≤ (x.1 : Int); omega, by show (x.1 : Int) < (q.1 : Int); omega⟩, by show (0 : Int) ≤ (x.2 : Int); omega, by show (x.2 : Int) < (q.1 : Int); omega⟩, fun h0 => ?_⟩, ?_⟩
  · rw [e] at m; cases m
  · have h0 : ((((4 * x.1 * x.1 * x.1 + 27 * x.2 * x.2) % q.1 : Nat)) : Int) = 0 := by
      rw [Int.natCast_emod, Int.natCast_add, Int.natCast_mul, Int.natCast_mul, Int.natCast_mul, Int.natCast_mul, Int.natCast_mul]
      exact h0
    have : (4 * x.1 * x.1 * x.1 + 27 * x.2 * x.2) % q.1 = 0 := by omega
    rw [this] at b3
    cases b3
  · unfold trP csum
    rw [Int.toNat_natCast]
    show -tsum (fun y : Nat => chi (q.1 : Int) (fx (x.1 : Int) (x.2 : Int) y)) q.1 = t
    omega
theorem snocInd {α : Type} {P : List α → Prop} (h0 : P []) (h1 : ∀ L x, P L → P (L ++ [x])) (L : List α) : P L := by
  have key : ∀ M : List α, P M.reverse := fun M => by
    induction M with
    | nil => exact h0
    | cons x M ih => rw [List.reverse_cons]; exact h1 _ _ ih
  have := key L.reverse
  rwa [List.reverse_reverse] at this
def ksP (p : Int) (L : List Pr) : List Int := L.foldl (fun ks x => if trP p x ∈ ks then ks else ks ++ [trP p x]) []
def cntP (p : Int) (L : List Pr) (t : Int) : Nat := (L.filter fun x => decide (trP p x = t)).length
def fstP (p : Int) (L : List Pr) (t : Int) : Pr := (L.filter fun x => decide (trP p x = t)).headD (0, 0)
def manyP (p : Int) (L : List Pr) : List (D × D) := (ksP p L).map fun t => (.int t, .int (cntP p L t : Nat))
def firsP (p : Int) (L : List Pr) : List (D × D) := (ksP p L).map fun t => (.int t, prD (fstP p L t))
section
variable {p : Int} {L : List Pr} {x : Pr} {t : Int}
theorem ks_snoc : ksP p (L ++ [x]) = if trP p x ∈ ksP p L then ksP p L else ksP p L ++ [trP p x] := by
  unfold ksP
  rw [List.foldl_append]; rfl
theorem mem_ks : ∀ {L : List Pr}, t ∈ ksP p L ↔ ∃ x ∈ L, trP p x = t := by
  intro L
  induction L using snocInd with
  | h0 => simp [ksP]
  | h1 L x ih =>
    rw [ks_snoc]
    constructor
    · intro h
      split at h
      · obtain ⟨y, hy, e⟩ := ih.mp h
        exact ⟨y, List.mem_append.mpr (.inl hy), e⟩
      · rcases List.mem_append.mp h with h | h
        · obtain ⟨y, hy, e⟩ := ih.mp h
          exact ⟨y, List.mem_append.mpr (.inl hy), e⟩
        · exact ⟨x, by simp, (List.mem_singleton.mp h).symm⟩
    · rintro ⟨y, hy, e⟩
      rcases List.mem_append.mp hy with hy | hy
      · have := ih.mpr ⟨y, hy, e⟩
        split
        · exact this
        · exact List.mem_append.mpr (.inl this)
      · rw [List.mem_singleton.mp hy] at e
        split
        · rename_i z; rw [← e]; exact z
        · rw [← e]; simp
theorem ks_nd : ∀ L : List Pr, (ksP p L).Nodup := by
  intro L
  induction L using snocInd with
  | h0 => simp [ksP]
  | h1 L x ih =>
    rw [ks_snoc]
    split
    · exact ih
    · rename_i z
      rw [List.nodup_append]
      exact ⟨ih, by simp, fun a ha b hb e => z (by rw [List.mem_singleton.mp hb] at e; exact e ▸ ha)⟩
theorem cnt_snoc : cntP p (L ++ [x]) t = cntP p L t + if trP p x = t then 1 else 0 := by
  unfold cntP
  rw [List.filter_append, List.length_append]
  congr 1
  by_cases z : trP p x = t <;> simp [z]
theorem cnt_no (h : t ∉ ksP p L) : cntP p L t = 0 := by
  unfold cntP
  rw [List.length_eq_zero_iff, List.filter_eq_nil_iff]
  intro y hy z
  exact h (mem_ks.mpr ⟨y, hy, of_decide_eq_true z⟩)
theorem fst_snoc (h : t ∈ ksP p L) : fstP p (L ++ [x]) t = fstP p L t := by
  obtain ⟨y, hy, e⟩ := mem_ks.mp h
  unfold fstP
  rw [List.filter_append]
  have ne : L.filter (fun x => decide (trP p x = t)) ≠ [] := fun z => by
    have := List.filter_eq_nil_iff.mp z y hy
    exact this (decide_eq_true e)
  cases q : L.filter (fun x => decide (trP p x = t)) with
  | nil => exact (ne q).elim
  | cons a l => rfl
theorem fst_new (h : trP p x ∉ ksP p L) : fstP p (L ++ [x]) (trP p x) = x := by
  unfold fstP
  rw [List.filter_append]
  have : L.filter (fun y => decide (trP p y = trP p x)) = [] := by
    rw [List.filter_eq_nil_iff]
    intro y hy z
    exact h (mem_ks.mpr ⟨y, hy, of_decide_eq_true z⟩)
  rw [this]
  simp
theorem keq_int (a b : Int) : keq (.int a) (.int b) = decide (a = b) := by
  show decide ((Sum.inl a : L2.Key) = Sum.inl b) = _
  rw [decide_eq_decide]
  exact ⟨fun e => Sum.inl.inj e, fun e => by rw [e]⟩
theorem any_int (f : Int → D) (ks : List Int) (t : Int) : ((ks.map fun t => ((.int t, f t) : D × D)).any fun q => keq q.1 (.int t)) = decide (t ∈ ks) := by
  rw [Bool.eq_iff_iff, List.any_eq_true, decide_eq_true_eq]
  constructor
  · rintro ⟨q, hq, e⟩
    obtain ⟨s, hs, rfl⟩ := List.mem_map.mp hq
    have e : keq (.int s) (.int t) = true := e
    rw [keq_int] at e
    rw [← of_decide_eq_true e]; exact hs
  · intro h
    exact ⟨_, List.mem_map.mpr ⟨t, h, rfl⟩, by show keq (.int t) (.int t) = true; rw [keq_int]; simp⟩
theorem look_int (f : Int → D) : ∀ (ks : List Int) (t : Int), dLook (.int t) (ks.map fun t => ((.int t, f t) : D × D)) = if t ∈ ks then some (f t) else none
  | [], t => rfl
  | s :: ks, t => by
    have ih := look_int f ks t
    unfold dLook at ih ⊢
    rw [List.map_cons, List.find?_cons]
    dsimp only
    rw [keq_int]
    by_cases z : s = t
    · subst z; simp
    · rw [decide_eq_false z]
      dsimp only
      rw [ih]
      have : (t ∈ s :: ks) ↔ t ∈ ks := by
        rw [List.mem_cons]
        exact ⟨fun h => h.elim (fun e => (z e.symm).elim) id, .inr⟩
      by_cases q : t ∈ ks
      · rw [if_pos q, if_pos (this.mpr q)]
      · rw [if_neg q, if_neg fun h => q (this.mp h)]
theorem put_int (f f' : Int → D) (ks : List Int) (t : Int) (v : D) (h : ∀ s ∈ ks, f' s = if s = t then v else f s) (ht : f' t = v) : dPut (.int t) v (ks.map fun t => ((.int t, f t) : D × D)) = (if t ∈ ks then ks else ks ++ [t]).map fun t => ((.int t, f' t) : D × D) := by
  unfold dPut
  rw [any_int]
  by_cases q : t ∈ ks
  · rw [if_pos (decide_eq_true q), if_pos q, List.map_map]
    refine List.map_congr_left fun s hs => ?_
    show (if keq (.int s) (.int t) = true then ((.int s, v) : D × D) else (.int s, f s)) = _
    rw [keq_int, h s hs]
    by_cases z : s = t
    · rw [if_pos (decide_eq_true z), if_pos z]
    · rw [decide_eq_false z, if_neg z]; rfl
  · rw [decide_eq_false q, if_neg Bool.false_ne_true, if_neg q, List.map_append, List.map_singleton, ht]
    congr 1
    refine List.map_congr_left fun s hs => ?_
    rw [h s hs, if_neg fun e : s = t => q (e ▸ hs)]
theorem nodeck (f : Int → D) (ks : List Int) : isDeck (ks.map fun t => ((.int t, f t) : D × D)) = false ∧ tdOf (ks.map fun t => ((.int t, f t) : D × D)) = none := by
  cases ks with
  | nil => exact ⟨rfl, rfl⟩
  | cons a l => exact ⟨rfl, rfl⟩
theorem many_get (t : Int) : dgetV (.dict (manyP p L)) (.int t) (.int 0) = some (.int (cntP p L t : Nat)) := by
  obtain ⟨n1, n2⟩ := nodeck (fun t => .int (cntP p L t : Nat)) (ksP p L)
  show (dlkV (manyP p L) (.int t)).map (fun o => o.getD (.int 0)) = _
  unfold dlkV manyP
  rw [n2, n1]
  show (some (dLook (.int t) _)).map _ = _
  rw [look_int]
  by_cases q : t ∈ ksP p L
  · rw [if_pos q]; rfl
  · rw [if_neg q, cnt_no q]; rfl
theorem many_ix (h : t ∈ ksP p L) : dixV (.dict (manyP p L)) (.int t) = some (.int (cntP p L t : Nat)) := by
  obtain ⟨n1, n2⟩ := nodeck (fun t => .int (cntP p L t : Nat)) (ksP p L)
  show (dlkV (manyP p L) (.int t)).bind id = _
  unfold dlkV manyP
  rw [n2, n1]
  show (some (dLook (.int t) _)).bind id = _
  rw [look_int, if_pos h]; rfl
theorem firs_ix (h : t ∈ ksP p L) : dixV (.dict (firsP p L)) (.int t) = some (prD (fstP p L t)) := by
  obtain ⟨n1, n2⟩ := nodeck (fun t => prD (fstP p L t)) (ksP p L)
  show (dlkV (firsP p L) (.int t)).bind id = _
  unfold dlkV firsP
  rw [n2, n1]
  show (some (dLook (.int t) _)).bind id = _
  rw [look_int, if_pos h]; rfl
theorem firs_has (t : Int) : dhasV (.int t) (.dict (firsP p L)) = some (decide (t ∈ ksP p L)) := by
  obtain ⟨n1, n2⟩ := nodeck (fun t => prD (fstP p L t)) (ksP p L)
  show (dlkV (firsP p L) (.int t)).map (fun o => o.isSome) = _
  unfold dlkV firsP
  rw [n2, n1]
  show (some (dLook (.int t) _)).map _ = _
  rw [look_int]
  by_cases q : t ∈ ksP p L
  · rw [if_pos q, decide_eq_true q]; rfl
  · rw [if_neg q, decide_eq_false q]; rfl
theorem many_set (hl : (ksP p L).length ≤ 10000) : setKeyV (.dict (manyP p L)) (.int (trP p x)) (.int ((cntP p L (trP p x) : Nat) + 1)) = some (.dict (manyP p (L ++ [x]))) := by
  obtain ⟨n1, n2⟩ := nodeck (fun t => .int (cntP p L t : Nat)) (ksP p L)
  unfold setKeyV manyP
  dsimp only
  rw [n2]
  dsimp only
  rw [n1, List.length_map, decide_eq_true (show (ksP p L).length < lineN by unfold lineN; omega)]
  show some (PyData.dict (dPut _ _ _)) = _
  rw [put_int (fun t => .int (cntP p L t : Nat)) (fun t => .int (cntP p (L ++ [x]) t : Nat)) (ksP p L) (trP p x) (.int ((cntP p L (trP p x) : Nat) + 1)) (fun s hs => by
    rw [cnt_snoc]
    by_cases z : s = trP p x
    · subst z; simp
    · rw [if_neg z, if_neg fun e => z e.symm, Nat.add_zero]) (by rw [cnt_snoc, if_pos rfl]; simp), ks_snoc]
theorem firs_set (hl : (ksP p L).length ≤ 10000) (h : trP p x ∉ ksP p L) : setKeyV (.dict (firsP p L)) (.int (trP p x)) (prD x) = some (.dict (firsP p (L ++ [x]))) := by
  obtain ⟨n1, n2⟩ := nodeck (fun t => prD (fstP p L t)) (ksP p L)
  unfold setKeyV firsP
  dsimp only
  rw [n2]
  dsimp only
  rw [n1, List.length_map, decide_eq_true (show (ksP p L).length < lineN by unfold lineN; omega)]
  show some (PyData.dict (dPut _ _ _)) = _
  rw [put_int (fun t => prD (fstP p L t)) (fun t => prD (fstP p (L ++ [x]) t)) (ksP p L) (trP p x) (prD x) (fun s hs => by
    rw [fst_snoc hs, if_neg fun e : s = trP p x => h (e ▸ hs)]) (by rw [fst_new h]), ks_snoc]
theorem firs_same (h : trP p x ∈ ksP p L) : firsP p (L ++ [x]) = firsP p L := by
  unfold firsP
  rw [ks_snoc, if_pos h]
  exact List.map_congr_left fun s hs => by rw [fst_snoc hs]
end
end Pv
end

section
set_option autoImplicit false
namespace Xk18
open PySem Pv
variable {Φ : Fns} {g : G}
theorem trL_of {p t : Int} (hp : Pm p) (h : t * t < 4 * p) : t ∈ trL p := by
  have bd := hp.bd
  have : t * t < p * p := by
    have : 4 * p ≤ p * p := Int.mul_le_mul_of_nonneg_right (by omega) (by omega)
    omega
  obtain ⟨h1, h2⟩ := sq_lt this (by omega)
  unfold trL
  refine List.mem_filterMap.mpr ⟨(t + p).toNat, List.mem_range.mpr (by omega), ?_⟩
  rw [show -p + (((t + p).toNat : Nat) : Int) = t by omega, if_pos h]
theorem tr_in {p : Int} (hp : Pm p) (x : Pr) : trP p x ∈ trL p := by
  have := hp.hasse x.1 x.2
  unfold SmallT at this
  exact trL_of hp (by unfold trP; rw [Int.neg_mul_neg]; exact this)
theorem trL_nd (p : Int) : (trL p).Nodup := by
  unfold trL
  refine List.pairwise_filterMap.mpr (List.Pairwise.imp_of_mem ?_ List.nodup_range)
  intro a b _ _ ne x hx y hy e
  split at hx
  · split at hy
    · cases hx; cases hy
      omega
    · cases hy
  · cases hx
theorem ks_len {p : Int} (hp : Pm p) (L : List Pr) : (ksP p L).length ≤ 400 := by
  have bd := hp.bd
  have h1 := List.Nodup.length_le_of_subset (ks_nd (p := p) L) (l₂ := trL p) fun t ht => by
    obtain ⟨x, _, rfl⟩ := mem_ks.mp ht
    exact tr_in hp x
  have := trL_len p
  omega
def rowT (p : Int) (a n : Nat) : List Pr := (List.range n).filterMap fun b : Nat => if (4 * (a : Int) * a * a + 27 * (b : Int) * b) % p ≠ 0 then some ((a : Int), (b : Int)) else none
theorem rowT_succ (p : Int) (a n : Nat) : rowT p a (n + 1) = rowT p a n ++ if (4 * (a : Int) * a * a + 27 * (n : Int) * n) % p ≠ 0 then [((a : Int), (n : Int))] else [] := by
  unfold rowT
  rw [List.range_succ, List.filterMap_append]
  congr 1
  rw [List.filterMap_cons, List.filterMap_nil]
  split <;> split <;> simp_all
def colT (p : Int) (n : Nat) : List Pr := (List.range n).flatMap (rowA p)
theorem colT_succ (p : Int) (n : Nat) : colT p (n + 1) = colT p n ++ rowT p n p.toNat := by
  unfold colT
  rw [List.range_succ, List.flatMap_append, List.flatMap_cons, List.flatMap_nil, List.append_nil]; rfl
structure Rt2 (p : Int) (xs : Po) : Prop where
  len : xs.length = 2 * p.toNat
  at_ : ∀ v : Int, 0 ≤ v → v < 2 * p → cf xs v.toNat = 1 + chi p v
theorem cf_app2 {xs : Po} {i n : Nat} (hl : xs.length = n) (h : i < 2 * n) : cf (xs ++ xs) i = cf xs (if i < n then i else i - n) := by
  rw [cf_lt (by rw [List.length_append]; omega)]
  split
  · rw [cf_lt (by omega), List.getElem_append_left]
  · rw [cf_lt (by omega), List.getElem_append_right (by omega)]
    congr 1; omega
abbrev LTabC (Φ : Fns) (i : Nat) : Prop := ∀ (p : Int) (g : G), Pm p → Φ i [.int p] g = .ok (.tuple [.dict (manyP p (allP p)), .dict (firsP p (allP p))]) g
set_option maxHeartbeats 1000000 in
theorem ltab_run {p : Int} (hp : Pm p) : Ok (Pv.run Φ fuel m__law_table [some (.int p), none, none, none, none, none, none, none, none, none, none] g) (retF fun r g' => r = .tuple [.dict (manyP p (allP p)), .dict (firsP p (allP p))] ∧ g' = g) := by
  have bd := hp.bd
  have pp := hp.pos
  unfold m__law_table
  generalize hQ : retF _ = QQ
  have rp : binV .lrep (.list [.int 0]) (.int p) = some (lD (List.replicate p.toNat 0)) := by
    show (if (decide (p.natAbs < 16777217) && decide (1 * p.toNat ≤ lineN)) = true then some (PyData.list (List.replicate p.toNat [PyData.int 0]).flatten) else none) = _
    rw [if_pos (by rw [decide_eq_true (show p.natAbs < 16777217 by omega), decide_eq_true (show 1 * p.toNat ≤ lineN by unfold lineN; omega)]; rfl)]
    congr 2
    induction p.toNat with
    | zero => rfl
    | succ n ih => rw [List.replicate_succ, List.flatten_cons, ih, List.replicate_succ]; rfl
  rw [Ok_seq]; simp [rp, setMany, -Bool.exists_bool]
  rw [Ok_seq, Ok_for]; simp [-Bool.exists_bool]
  rw [itV_r1 (by omega) (by omega)]; simp [-Bool.exists_bool]
  refine ok_forL (fun k σ g2 => g2 = g ∧ ∃ (y4 : Option D) (xs : Po), σ = [some (.int p), some (lD xs), some (.dict []), some (.dict []), y4, none, none, none, none, none, none] ∧ xs.length = p.toNat ∧ ∀ v : Int, 0 ≤ v → v < p → cf xs v.toNat = Pv.rts p v k) ⟨rfl, none, _, rfl, List.length_replicate, fun v h0 h1 => by rw [cf_replW (by omega)]; rfl⟩ ?_ ?_
  · rintro k x σ g2 hx ⟨rfl, y4, xs, rfl, hl, hc⟩
    obtain ⟨hk, rfl⟩ := range_at hx
    have kk : mulOk (k : Int) (k : Int) = true := mulOk_sm (by omega) (by omega)
    simp only [Int.zero_add] at *
    have r := sq_rg hp k
    generalize hI : loopF _ _ = II
    rw [Ok_turnF]; simp [kk, pp, -Bool.exists_bool]
    rw [idx_lD r.1 (by omega)]; simp [kk, pp, -Bool.exists_bool]
    rw [set_lD r.1 (by omega)]; simp [-Bool.exists_bool]
    subst hI
    refine ⟨rfl, _, _, rfl, by rw [List.length_set]; exact hl, fun v h0 h1 => ?_⟩
    rw [cf_set (by omega), hc v h0 h1, show Pv.rts p v (k + 1) = Pv.rts p v k + (if (k : Int) * k % p = v then 1 else 0) from rfl]
    by_cases q : (k : Int) * k % p = v
    · rw [if_pos q, ← q, hc _ r.1 r.2]; simp
    · rw [if_neg q, if_neg (by omega)]; omega
  rintro σ g2 ⟨rfl, y4, xs, rfl, hl, hc⟩
  rw [range_len] at hc
  rw [thenF_nx]
  have r2 : Rt2 p (xs ++ xs) := ⟨by rw [List.length_append]; omega, fun v h0 h1 => by
    rw [cf_app2 hl (by omega)]
    by_cases z : v < p
    · rw [if_pos (by omega), hc v h0 z, hp.rts h0 z]
    · rw [if_neg (by omega), show v.toNat - p.toNat = (v - p).toNat by omega, hc (v - p) (by omega) (by omega), hp.rts (by omega) (by omega)]
      rw [chi_congr (p := p) (v := v - p) (w := v) (by rw [show v - p - v = -p by omega]; exact Int.dvd_neg.mpr (Int.dvd_refl p))]⟩
  have lc : binV .lcat (lD xs) (lD xs) = some (lD (xs ++ xs)) := by
    show (if decide ((xs.map PyData.int).length + (xs.map PyData.int).length ≤ lineN) = true then some (PyData.list (xs.map PyData.int ++ xs.map PyData.int)) else none) = _
    rw [if_pos (decide_eq_true (by rw [List.length_map, hl]; unfold lineN; omega)), ← List.map_append]; rfl
  rw [Ok_seq]; simp [lc, -Bool.exists_bool]
  generalize xs ++ xs = ys at *
  clear hc hl lc rp
  rw [Ok_seq, Ok_for]; simp [-Bool.exists_bool]
  rw [itV_r1 (by omega) (by omega)]; simp [-Bool.exists_bool]
  refine ok_forL (fun k σ g3 => g3 = g2 ∧ ∃ y5 y6 y7 y8 : Option D, σ = [some (.int p), some (lD ys), some (.dict (manyP p (colT p k))), some (.dict (firsP p (colT p k))), y4, y5, y6, y7, y8, none, none]) ⟨rfl, none, none, none, none, rfl⟩ ?_ ?_
  · rintro a x σ g3 hx ⟨rfl, y5, y6, y7, y8, rfl⟩
    obtain ⟨ha, rfl⟩ := range_at hx
    simp only [Int.zero_add] at *
    have ma : ∀ x : Int, mulOk x (a : Int) = true := fun x => mulOk_sm (by omega) (by omega)
    generalize hI : loopF _ _ = II
    rw [Ok_turnF]; simp [-Bool.exists_bool]
    rw [Ok_seq]; simp [-Bool.exists_bool]
    rw [itV_r1 (by omega) (by omega)]; simp [range_len, -Bool.exists_bool]
    refine ⟨by unfold lineN; omega, ?_⟩
    rw [range_em]
    refine ok_compM (em := fun k : Nat => .int (0 + k)) (eo := .int) (u := fun k : Nat => some (((k : Int) * k * k + a * k) % p)) (xs := List.range p.toNat) (fun k hk => ?_) ?_
    · have hk := List.mem_range.mp hk
      have mk : ∀ x : Int, mulOk x (k : Int) = true := fun x => mulOk_sm (by omega) (by omega)
      rw [Ok_itemF]; simp [wipeS, mk, pp, -Bool.exists_bool]
    rw [fm_map]
    obtain ⟨bs, hbs⟩ : ∃ bs, bs = (List.range p.toNat).map fun k : Nat => ((k : Int) * k * k + a * k) % p := ⟨_, rfl⟩
    have bl : bs.length = p.toNat := by rw [hbs, List.length_map, List.length_range]
    have br : ∀ v ∈ bs, 0 ≤ v ∧ v < p := fun v hv => by
      rw [hbs] at hv
      obtain ⟨k, _, rfl⟩ := List.mem_map.mp hv
      exact emod_rg _ pp
    have bsum : ∀ b : Nat, (bs.map fun v => 1 + chi p (v + b)).sum = p + csum p a b := fun b => by
      rw [hbs, List.map_map, sum_range]
      unfold csum
      have e : tsum ((fun v => 1 + chi p (v + (b : Int))) ∘ fun k : Nat => ((k : Int) * k * k + a * k) % p) p.toNat = tsum (fun k : Nat => 1 + chi p (fx a b k)) p.toNat := tsum_congr fun k hk => by
        show 1 + chi p (((k : Int) * k * k + a * k) % p + b) = 1 + chi p (fx a b k)
        congr 1
        refine chi_congr ?_
        have d := dvd_emod ((k : Int) * k * k + a * k) p
        unfold fx
        rwa [show ((k : Int) * k * k + a * k) % p + b - ((k : Int) * k * k + a * k + b) = ((k : Int) * k * k + a * k) % p - ((k : Int) * k * k + a * k) by omega]
      rw [e, tsum_add (fun _ => 1)]
      have : ∀ n : Nat, tsum (fun _ : Nat => (1 : Int)) n = n := fun n => by
        induction n with
        | zero => rfl
        | succ n ih => show tsum _ n + 1 = _; rw [ih]; omega
      rw [this]; omega
    rw [← hbs]
    clear hbs
    rw [Ok_for]; simp [-Bool.exists_bool]
    rw [itV_r1 (by omega) (by omega)]; simp [-Bool.exists_bool]
    refine ok_forL (fun k σ g4 => g4 = g3 ∧ ∃ y7 y8 : Option D, σ = [some (.int p), some (lD ys), some (.dict (manyP p (colT p a ++ rowT p a k))), some (.dict (firsP p (colT p a ++ rowT p a k))), y4, some (.int a), some (.list (bs.map .int)), y7, y8, none, none]) ⟨rfl, _, _, by rw [show rowT p a 0 = [] from rfl, List.append_nil]⟩ ?_ ?_
    · rintro b x σ g4 hx ⟨rfl, y7, y8, rfl⟩
      obtain ⟨hb, rfl⟩ := range_at hx
      simp only [Int.zero_add] at *
      have mb : ∀ x : Int, mulOk x (b : Int) = true := fun x => mulOk_sm (by omega) (by omega)
      obtain ⟨L, hL⟩ : ∃ L, L = colT p a ++ rowT p a b := ⟨_, rfl⟩
      generalize hJ : loopF _ _ = JJ
      rw [Ok_turnF]; simp [ma, mb, pp, -Bool.exists_bool]
      by_cases z : (4 * (a : Int) * a * a + 27 * (b : Int) * b) % p = 0
      · simp [z, -Bool.exists_bool]
        subst hJ
        exact ⟨rfl, _, _, by rw [rowT_succ, if_neg (fun h => h z), List.append_nil]⟩
      · simp [z, -Bool.exists_bool]
        rw [Ok_seq]; simp [-Bool.exists_bool]
        rw [show itV .seq [.list (bs.map .int)] = some (bs.map .int) from rfl]; simp [-Bool.exists_bool]
        refine ⟨by unfold lineN; omega, ?_⟩
        refine ok_compM (em := .int) (eo := .int) (u := fun v => some (1 + chi p (v + b))) (xs := bs) (fun v hv => ?_) ?_
        · obtain ⟨v0, v1⟩ := br v hv
          rw [Ok_itemF]; simp [wipeS, -Bool.exists_bool]
          rw [idx_lD (by omega) (by rw [r2.len]; omega), r2.at_ _ (by omega) (by omega)]
        rw [fm_map]
        have sm : biV .sum [.list ((bs.map fun v => 1 + chi p (v + b)).map .int)] = some (.int (p + csum p a b)) := by
          simp only [biV, ints_map, Option.map_some, bsum]
        rw [sm]
        have et : p - (p + csum p a b) = trP p ((a : Int), (b : Int)) := by
          show _ = -csum p (a : Int) (b : Int)
          omega
        have kl := ks_len hp L
        simp [et, -Bool.exists_bool]
        rw [← hL]
        rw [Ok_seq]; simp [many_get, -Bool.exists_bool]
        rw [many_set (by omega)]
        simp [firs_has, -Bool.exists_bool]
        have nx : colT p a ++ rowT p a (b + 1) = L ++ [((a : Int), (b : Int))] := by rw [rowT_succ, if_pos z, ← List.append_assoc, ← hL]
        by_cases q : trP p ((a : Int), (b : Int)) ∈ ksP p L
        · simp [q, -Bool.exists_bool]
          subst hJ
          exact ⟨rfl, _, _, by rw [nx, firs_same q]⟩
        · simp [q, -Bool.exists_bool]
          rw [show PyData.tuple [.int (a : Int), .int (b : Int)] = prD ((a : Int), (b : Int)) from rfl, firs_set (by omega) q]
          simp [-Bool.exists_bool]
          subst hJ
          exact ⟨rfl, _, _, by rw [nx]⟩
    · rintro σ g4 ⟨rfl, y7, y8, rfl⟩
      rw [range_len]
      subst hI
      exact ⟨rfl, _, _, _, _, by rw [colT_succ]⟩
  · rintro σ g3 ⟨rfl, y5, y6, y7, y8, rfl⟩
    rw [range_len]
    simp [-Bool.exists_bool]
    subst hQ
    exact ⟨rfl, rfl⟩
end Xk18
end

section
set_option autoImplicit false
namespace Pv
open PySem
variable {Φ : Fns} {fu : Nat} {σ : Sl} {g : G}
@[simp] theorem Ok_ins {i : Nat} {k e : Ex} {Q : Fl → G → Prop} : Ok (Pv.run Φ fu (.ins i k e) σ g) Q = ∃ x, σ[i]? = some (some x) ∧ Ok (ev Φ k σ g) fun kv g => Ok (ev Φ e σ g) fun v g => ∃ d, σ[i]? = some (some d) ∧ ∃ d', insV d kv v = some d' ∧ Q (.nx (σ.set i (some d'))) g := by
  conv => lhs; unfold Pv.run
  simp only [Ok_bind, Ok_lift, Ok_ok, Ok_slot]
end Pv
end

section
set_option autoImplicit false
namespace Xk18
open PySem Pv
variable {Φ : Fns} {g : G}
theorem ne_stX (x : Str) : cmpV .ne (.str x) (.str x) = some false := by
  show (eqD (.str x) (.str x)).map (!·) = some false
  simp [eqD]
theorem eq_stX (x : Str) : cmpV .eq (.str x) (.str x) = some true := by
  show eqD (.str x) (.str x) = some true
  simp [eqD]
theorem fst_min {p t : Int} (ne : stP p t ≠ []) : fstP p (allP p) t = mnL (stP p t) := by
  show (stP p t).headD (0, 0) = _
  have a := asc_stP p t
  cases e : stP p t with
  | nil => exact (ne e).elim
  | cons x l =>
    rw [e] at a
    show x = mnL (x :: l)
    have m := mnL_mem (l := x :: l) (by simp)
    rcases List.mem_cons.mp m with z | z
    · exact z.symm
    · have h1 := (List.pairwise_cons.mp a).1 _ z
      have h2 := mnL_le (l := x :: l) x List.mem_cons_self
      rw [h1] at h2
      cases h2
theorem ks_all {p : Int} (hp : p ∈ pl18) (t : Int) : t ∈ ksP p (allP p) ↔ t ∈ trL p := by
  have pm : Pm p := ⟨pl18_pm p hp⟩
  rw [mem_ks]
  constructor
  · rintro ⟨x, _, rfl⟩
    exact tr_in pm x
  · intro h
    obtain ⟨x, hx⟩ := List.exists_mem_of_ne_nil _ (met hp h)
    obtain ⟨n, e⟩ := mem_stP.mp hx
    exact ⟨x, mem_allP.mpr n, e⟩
abbrev RgtC (Φ : Fns) (i : Nat) : Prop := ∀ (p t : Int) (st : Dk), p ∈ pl18 → t ∈ trL p → Φ i [.int p, .int t, .dict (manyP p (allP p)), .dict (firsP p (allP p))] (some st) = .ok (.bool true) (some st)
theorem rgt_run {i0 i1 i2 i3 : Nat} {p t : Int} {st : Dk} (hp : p ∈ pl18) (ht : t ∈ trL p) (h0 : EqC Φ i0) (h1 : MkCurC Φ i1) (h2 : CwiG Φ i2) (h3 : MpG Φ i3) : Ok (Pv.run Φ fuel (m__law_is_right i0 i1 i2 i3) [some (.int p), some (.int t), some (.dict (manyP p (allP p))), some (.dict (firsP p (allP p))), none] (some st)) (retF fun r g' => r = .bool true ∧ g' = some st) := by
  have pm : Pm p := ⟨pl18_pm p hp⟩
  haveI : PmI p := ⟨pm⟩
  have bd := pm.bd
  have ne := met hp ht
  have t4 := (trL_in ht).2.2
  have hk := (ks_all hp t).mpr ht
  have fi := firs_ix (p := p) hk
  rw [fst_min ne] at fi
  have mi := many_ix (p := p) hk
  rw [show cntP p (allP p) t = (stP p t).length from rfl] at mi
  have cw := h2 p t st pm t4 ne
  have mp := h3 p t st pm t4
  have mn' := h3 p (-t) st pm (by rw [Int.neg_mul_neg]; exact t4)
  rw [st_neg] at mn'
  obtain ⟨nx, _⟩ := mem_stP.mp (mnL_mem ne)
  have c : Cu p (mnL (stP p t)).1 (mnL (stP p t)).2 := ⟨pm, nx.1.1.1, nx.1.1.2, nx.1.2.1, nx.1.2.2, nx.2⟩
  have mk := h1 p _ _ (some st) c
  have ll : (stP p t).length ≤ 40000 := by
    have h1 : (stP p t).length ≤ (allP p).length := List.length_filter_le _ _
    have h2 : ∀ n, ((List.range n).flatMap (rowA p)).length ≤ n * p.toNat := fun n => by
      induction n with
      | zero => simp
      | succ n ih =>
        rw [List.range_succ, List.flatMap_append, List.length_append, List.flatMap_cons, List.flatMap_nil, List.append_nil, Nat.succ_mul]
        have : (rowA p n).length ≤ p.toNat := by
          unfold rowA
          exact Nat.le_trans (List.length_filterMap_le _ _) (by rw [List.length_range]; exact Nat.le_refl _)
        omega
    have h3 : (allP p).length ≤ p.toNat * p.toNat := h2 _
    have h4 : p.toNat * p.toNat ≤ 200 * 200 := Nat.mul_le_mul (by omega) (by omega)
    omega
  have s1 : Shw (.int ((stP p t).length : Nat)) 7 0 := Shw.int (k := 6) (by omega)
  have sh : showOk (.list [.int ((stP p t).length : Nat), .int ((stP p t).length : Nat)]) = true := (ShwL.cons s1 (ShwL.one s1)).list.ok
  generalize (stP p t).length = N at *
  generalize mnL (stP p t) = X at *
  generalize manyP p (allP p) = MD at *
  generalize firsP p (allP p) = FD at *
  have x0 : idxV (prD X) (.int 0) = some (.int X.1) := rfl
  have x1 : idxV (prD X) (.int 1) = some (.int X.2) := rfl
  have eq := h0 p X.1 X.2 (some st)
  have ob : isOb 0 (cuD p X) = true := rfl
  have cw : Φ i2 [.int p, .int t] (some st) = .ok (curD p X.1 X.2) (some st) := cw
  have ob : isOb 0 (curD p X.1 X.2) = true := rfl
  unfold m__law_is_right
  generalize hQ : retF _ = QQ
  rw [Ok_seq]; simp [fi, x0, x1, mk, -Bool.exists_bool]
  generalize curD p X.1 X.2 = CD at *
  rw [Ok_seq]
  refine (Ok.mono (P := fun fl g' => fl = .nx [some (.int p), some (.int t), some (.dict MD), some (.dict FD), some CD] ∧ g' = some st) ?_ ?_)
  · by_cases q : p < 42
    · simp [cw, ob, eq, q, pm, Pv.pm, -Bool.exists_bool]
    · simp [cw, ob, eq, q, -Bool.exists_bool]
  rintro _ _ ⟨rfl, rfl⟩
  simp only [thenF_nx]
  simp [mp, mn', mi, Pv.pm, bi_repr sh, eq_stX, -Bool.exists_bool]
  subst hQ
  exact ⟨rfl, rfl⟩
theorem trL_asc (p : Int) : (trL p).Pairwise (· < ·) := by
  unfold trL
  refine List.pairwise_filterMap.mpr (List.Pairwise.imp_of_mem (R := (· < ·)) ?_ List.pairwise_lt_range)
  intro a b _ _ lt x hx y hy
  split at hx
  · split at hy
    · cases hx; cases hy
      omega
    · cases hy
  · cases hx
theorem intKs_map (f : Int → D) : ∀ ks : List Int, intKs (ks.map fun t => ((.int t, f t) : D × D)) = some ks
  | [] => rfl
  | t :: ks => by
    show (intKs (ks.map fun t => ((.int t, f t) : D × D))).map (t :: ·) = _
    rw [intKs_map f ks]; rfl
theorem keys_sorted {p : Int} (hp : p ∈ pl18) : dksV (.dict (manyP p (allP p))) = some (lD (trL p)) := by
  have pm : Pm p := ⟨pl18_pm p hp⟩
  obtain ⟨n1, _⟩ := nodeck (fun t => .int (cntP p (allP p) t : Nat)) (ksP p (allP p))
  have perm : (ksP p (allP p)).Perm (trL p) := (List.perm_ext_iff_of_nodup (ks_nd _) (trL_nd p)).mpr (ks_all hp)
  have l63 : (trL p).length < 64 := (by decide +kernel : ∀ p ∈ pl18, (trL p).length < 64) p hp
  have e : sortI (ksP p (allP p)) = trL p := sorted_unique ((sortI_perm _).trans perm) (sortI_sorted _) ((trL_asc p).imp fun h => Int.le_of_lt h)
  unfold dksV manyP
  dsimp only
  rw [n1, intKs_map]
  dsimp only
  rw [perm.length_eq, decide_eq_true l63, e]; rfl
theorem len_all {p : Int} (hp : p ∈ pl18) (l : p < 14) : ((allP p).length : Int) = p * p - p := by
  have : ∀ p ∈ pl18, p < 14 → ((allP p).length : Int) = p * p - p := by decide +kernel
  exact this p hp l
theorem part_sum {α : Type} (f : α → Int) : ∀ (ts : List Int), ts.Nodup → ∀ L : List α, (∀ x ∈ L, f x ∈ ts) → ((ts.map fun t => (((L.filter fun x => decide (f x = t)).length : Nat) : Int)).sum : Int) = L.length
  | [], _, L, h => by
    cases L with
    | nil => rfl
    | cons x L => cases h x List.mem_cons_self
  | t :: ts, nd, L, h => by
    obtain ⟨n1, n2⟩ := List.nodup_cons.mp nd
    have ih := part_sum f ts n2 (L.filter fun x => !decide (f x = t)) fun x hx => by
      obtain ⟨h1, h2⟩ := List.mem_filter.mp hx
      have h2 : f x ≠ t := by simpa using h2
      rcases List.mem_cons.mp (h x h1) with e | e
      · exact (h2 e).elim
      · exact e
    rw [List.map_cons, List.sum_cons]
    have e : (ts.map fun s => (((L.filter fun x => decide (f x = s)).length : Nat) : Int)) = ts.map fun s => ((((L.filter fun x => !decide (f x = t)).filter fun x => decide (f x = s)).length : Nat) : Int) := by
      refine List.map_congr_left fun s hs => ?_
      rw [List.filter_filter]
      congr 2
      refine List.filter_congr fun x _ => ?_
      by_cases q : f x = s
      · have : f x ≠ t := fun z => n1 (by rw [← z, q]; exact hs)
        have st : ¬ s = t := fun z => n1 (z ▸ hs)
        simp [q, st]
      · simp [q]
    rw [e, ih]
    have len : ∀ M : List α, (M.filter fun x => decide (f x = t)).length + (M.filter fun x => !decide (f x = t)).length = M.length := fun M => by
      induction M with
      | nil => rfl
      | cons x M ih =>
        rw [List.filter_cons, List.filter_cons]
        by_cases q : f x = t <;> simp [q] <;> omega
    have := len L
    omega
end Xk18
end

section
set_option autoImplicit false
namespace Pv
open PySem
theorem cps_ofString (s : String) : (Str.ofString s).cps.toList = s.toList.map Char.toNat := by
  have e : s.toByteArray.data.toList = s.toList.flatMap String.utf8EncodeChar := by
    conv => lhs; rw [← String.ofList_toList (s := s)]
    show (List.utf8Encode s.toList).data.toList = _
    simp [List.utf8Encode]
  show (cpsOfBytes 0 0 s.toByteArray.data.toList).toArray.toList = _
  rw [e, cpsOfBytes_chars]
def okT (x : Str) : Prop := ∀ c ∈ x.cps.toList, c < 1114112
theorem okT.strOk {x : Str} (h : okT x) : PyData.strOk x = true := by
  unfold PyData.strOk
  rw [Array.all_eq_true']
  intro c hc
  exact decide_eq_true (h c (Array.mem_toList_iff.mpr hc))
theorem okT_of (s : String) : okT (Str.ofString s) := fun c hc => by
  rw [cps_ofString] at hc
  obtain ⟨ch, _, rfl⟩ := List.mem_map.mp hc
  have := ch.valid
  show ch.val.toNat < 1114112
  rcases this with h | h
  · have := h; omega
  · exact h.2
end Pv
end

section
set_option autoImplicit false
namespace Xk18
open PySem Pv
variable {Φ : Fns} {g : G}
def pmoX (o : Option (List Nat)) (xs : List D) : List D := match o with | some p => Pv.pm p xs | none => xs
theorem lam_x {ow : List Nat} {f : Nat} {as : Exs} {perm : Option (List Nat)} {σ : Sl} {v : D} {Q : D → G → Prop} (vs : List D) (t : Φ f (pmoX perm vs) g = .exc 1 [v] g) (e : Ok (evs Φ as (clrs ow σ) g) fun ws g' => ws = vs ∧ g' = g) (q : Q (.tuple [v, .bool true]) g) : Ok (ev Φ (.lamc ko__law_told sel__law_told h__law_told ow f as perm) σ g) Q := by
  rw [Ok_lamc]
  refine e.mono ?_
  rintro _ _ ⟨rfl, rfl⟩
  refine .inr ⟨1, [v], _, by cases perm <;> exact t, rfl, ?_⟩
  simp [h__law_told, xfE, xiE, -Bool.exists_bool]
  exact q
section
variable {x : Int}
theorem shwIX (hx : x.natAbs < 1000) (m : Nat) : Shw (.int x) 4 m := (Shw.int (k := 3) (by omega)).mono (by omega) (by omega)
theorem shwSX (s : Str) (hs : PyData.strOk s = true) (hl : s.cps.size ≤ 20) (m : Nat) : Shw (.str s) 343 m := by
  have : smW (.str s) = true := by unfold smW; rw [hs, decide_eq_true hl]; rfl
  exact (Shw.small this (m := m) (by simp [PyData.depth])).mono (by simp [cn]) (by omega)
theorem str_smallX (h : x.natAbs < 1000) : PyData.strOk (Str.ofString (toString x)) = true ∧ (Str.ofString (toString x)).cps.size ≤ 20 := by
  refine ⟨(okT_of _).strOk, ?_⟩
  have e := int_text_length_le10 (k := 12) (by decide) (a := x) (by omega)
  have := ofString_length (toString x)
  rw [← this] at e
  exact Nat.le_trans e (by decide)
theorem to_strX (hx : x.natAbs < 1000) : biV .toStr [.int x] = some (.str (Str.ofString (toString x))) := by
  have lg : x.natAbs.log2 < 1920 := by
    by_cases z : x.natAbs = 0
    · rw [z]; decide
    · have := (Nat.log2_lt (n := x.natAbs) (k := 10) z).mpr (by omega)
      omega
  show (if decide (x.natAbs.log2 < 1920) = true then some (PyData.str (toString x)) else none) = _
  rw [if_pos (decide_eq_true lg)]
end
theorem idx_lastX (xs : List D) (x : D) : idxV (.list (xs ++ [x])) (.int (-1)) = some x := by
  show L2.atI (xs ++ [x]) (-1) = _
  have e : L2.ixN (xs ++ [x]).length (-1) = some xs.length := by
    unfold L2.ixN
    rw [if_neg (by decide), if_pos (by simp; omega), List.length_append, List.length_singleton]
    congr 1
    omega
  unfold L2.atI
  rw [e]
  show (xs ++ [x])[xs.length]? = some x
  simp
theorem shp_lX (es : List Int) : shp (lD es) = true := by
  have key : PyData.canLayAll0 (es.map PyData.int) = true ∧ PyData.depthAll (es.map PyData.int) = 0 := by
    induction es with
    | nil => simp [PyData.canLayAll0, PyData.depthAll]
    | cons e es ih =>
      rw [List.map_cons]
      simp only [PyData.canLayAll0, PyData.depthAll, PyData.canLay0, PyData.depth]
      exact ⟨by rw [ih.1]; rfl, by omega⟩
  exact Bool.and_eq_true_iff.mpr ⟨by unfold lD PyData.canLay0; exact key.1, decide_eq_true (by unfold lD; simp only [PyData.depth]; omega)⟩
structure BadX (p : Int) (v : D) : Prop where
  bad : badT p v
  shw : Shw v 1000 4
theorem bad_int {p i : Int} (h1 : ¬ i * i < 4 * p) (h2 : i.natAbs ≤ 10 ^ 39) : BadX p (.int i) := by
  have h3 : (10 : Nat) ^ 39 ≤ 10 ^ 40 := by decide
  have h4 := Nat.le_trans h2 h3
  exact ⟨⟨rfl, fun j e => by cases e; exact ⟨by omega, h4⟩⟩, (Shw.int (k := 40) (Nat.lt_of_le_of_lt h2 (by decide))).mono (by omega) (by omega)⟩
theorem bad_oth {p : Int} {v : D} (h : okT v = true) (n : isIntD v = false) (s : Shw v 1000 4) : BadX p v := ⟨⟨h, fun j e => by subst e; cases n⟩, s⟩
theorem out_of {p : Int} (pm : Pm p) {t0 tl : Int} {l l' : List Int} (e1 : trL p = t0 :: l) (e2 : trL p = l' ++ [tl]) : (∀ i, i < t0 → ¬ i * i < 4 * p) ∧ ∀ i, tl < i → ¬ i * i < 4 * p := by
  have asc := trL_asc p
  refine ⟨fun i hi h => ?_, fun i hi h => ?_⟩
  · have m := trL_of pm h
    rw [e1] at m asc
    rcases List.mem_cons.mp m with e | e
    · omega
    · have := (List.pairwise_cons.mp asc).1 _ e
      omega
  · have m := trL_of pm h
    rw [e2] at m asc
    rcases List.mem_append.mp m with e | e
    · have := (List.pairwise_append.mp asc).2.2 _ e tl (by simp)
      omega
    · have := List.mem_singleton.mp e
      omega
abbrev TrcLawC (Φ : Fns) (i : Nat) : Prop := Ok (Φ i [tokD 1] none) fun r g' => r = .bool true
set_option maxHeartbeats 2000000 in
theorem trclaw_run {i0 i1 i2 i3 i4 i5 i6 i7 : Nat} (h0 : DeckC Φ i0) (h1 : DrawC Φ i1) (h2 : RgtC Φ i2) (h3 : PickTC Φ i3) (h3l : PickLC Φ i3) (h4 : LTabC Φ i4) (h5 : LTrC Φ i5) (h6 : RefX Φ i6) (h7 : MpG Φ i7) (h7x : RefX Φ i7) :
    Ok (Pv.run Φ fuel (m_law i0 i1 i2 i3 i4 i5 i6 i7) [some (tokD 1), none, none, none, none, none, none, none, none, none] none) (retF fun r g' => r = .bool true) := by
  unfold m_law
  generalize hQ : retF _ = QQ
  rw [Ok_seq]; simp [-Bool.exists_bool]
  refine h0.mono ?_
  rintro _ g1 ⟨rfl, d1⟩
  try simp [-Bool.exists_bool]
  rw [Ok_seq]; simp [-Bool.exists_bool]
  refine (h3 _ g1 d1 (by simp) (by simp)).mono ?_
  rintro r g2 ⟨d2, hr⟩
  obtain ⟨p, rfl, hp⟩ : ∃ p : Int, r = .int p ∧ p ∈ pl18 := by
    have key : ∀ x ∈ ([7, 11, 13, 17, 19, 11, 13, 23, 29, 31, 37, 41, 43, 47, 53, 59] : List Int), x ∈ pl18 := by decide +kernel
    have hr : r ∈ ([7, 11, 13, 17, 19, 11, 13, 23, 29, 31, 37, 41, 43, 47, 53, 59] : List Int).map PyData.int := hr
    obtain ⟨x, hx, rfl⟩ := List.mem_map.mp hr
    exact ⟨x, rfl, key x hx⟩
  clear hr
  have pm : Pm p := ⟨pl18_pm p hp⟩
  have bd := pm.bd
  try simp [-Bool.exists_bool]
  rw [Ok_seq]; simp [h5 p _ pm, h4 p _ pm, setG, setGs, setT, setMany, -Bool.exists_bool]
  have ks := keys_sorted hp
  obtain ⟨ts, ets⟩ : ∃ ts, ts = trL p := ⟨_, rfl⟩
  have tz : (0 : Int) ∈ ts := by rw [ets]; exact trL_of pm (by omega)
  have t4 : ∀ t ∈ ts, t * t < 4 * p ∧ t.natAbs < 1000 := fun t ht => by
    rw [ets] at ht
    have := trL_in ht
    exact ⟨this.2.2, by omega⟩
  have tlen : ts.length ≤ 400 := by rw [ets]; have := trL_len p; omega
  have rgt : ∀ t ∈ ts, ∀ st : Dk, Φ i2 [.int p, .int t, .dict (manyP p (allP p)), .dict (firsP p (allP p))] (some st) = .ok (.bool true) (some st) := fun t ht st => h2 p t st hp (by rw [← ets]; exact ht)
  have mix : ∀ t ∈ ts, dixV (.dict (manyP p (allP p))) (.int t) = some (.int ((stP p t).length : Nat)) := fun t ht => many_ix ((ks_all hp t).mpr (by rw [← ets]; exact ht))
  have psum := part_sum (trP p) ts (by rw [ets]; exact trL_nd p) (allP p) fun x _ => by rw [ets]; exact tr_in pm x
  obtain ⟨t0, l, e1⟩ : ∃ t0 l, ts = t0 :: l := by
    cases ts with
    | nil => cases tz
    | cons a l => exact ⟨a, l, rfl⟩
  obtain ⟨l', tl, e2⟩ : ∃ l' tl, ts = l' ++ [tl] := by
    rcases List.eq_nil_or_concat ts with e | ⟨l', tl, e⟩
    · rw [e] at tz; cases tz
    · exact ⟨l', tl, by rw [e, List.concat_eq_append]⟩
  obtain ⟨out0, out1⟩ := out_of pm (ets.symm.trans e1) (ets.symm.trans e2)
  have i0 : idxV (lD ts) (.int 0) = some (.int t0) := by rw [e1]; exact idx_list (n := 0) rfl
  have i1' : idxV (lD ts) (.int (-1)) = some (.int tl) := by
    rw [e2]
    show idxV (.list ((l' ++ [tl]).map .int)) _ = _
    rw [List.map_append]
    exact idx_lastX _ _
  have m0 : t0 ∈ ts := by rw [e1]; exact List.mem_cons_self
  have ml : tl ∈ ts := by rw [e2]; simp
  have lne : (ts.map PyData.int) ≠ [] := by rw [e1]; simp
  have nel : cmpV .ne (lD ts) (lD ts) = some false := by
    show (if (shp (lD ts) && shp (lD ts)) = true then some (PyData.eqv (lD ts) (lD ts)) else lensV (lD ts) (lD ts)).map (!·) = some false
    have sh := shp_lX ts
    rw [sh, if_pos (by rfl), SeqAt.eqv_refl _ (by unfold shp SeqAt.shaped at sh; rw [Bool.and_eq_true] at sh; exact sh.1)]
    rfl
  rw [← ets] at ks ⊢
  rw [Ok_seq]; simp [ks, nel, -Bool.exists_bool]
  rw [Ok_seq]; simp [i0, i1', -Bool.exists_bool]
  refine (h3l (ts.map .int) g2 d2 lne (by rw [List.length_map]; omega)).mono ?_
  rintro r g3 ⟨d3, hr⟩
  obtain ⟨ta, ha, rfl⟩ := List.mem_map.mp hr
  try simp [-Bool.exists_bool]
  refine (h3l _ g3 d3 (by simp) (by simp)).mono ?_
  rintro r g4 ⟨d4, hr⟩
  obtain ⟨tb, hb, rfl⟩ : ∃ tb ∈ ts, r = .int tb := by
    simp at hr
    rcases hr with rfl | rfl | rfl | rfl
    · exact ⟨_, m0, rfl⟩
    · exact ⟨_, ml, rfl⟩
    · exact ⟨_, tz, rfl⟩
    · exact ⟨_, ha, rfl⟩
  try simp [-Bool.exists_bool]
  refine (h3l (ts.map .int) g4 d4 lne (by rw [List.length_map]; omega)).mono ?_
  rintro r g5 ⟨d5, hr⟩
  obtain ⟨tc, hc, rfl⟩ := List.mem_map.mp hr
  try simp [-Bool.exists_bool]
  rw [Ok_seq]
  refine (Ok.mono (P := fun fl g' => ∃ us : List Int, fl = Fl.nx [some (tokD 1), some (tokD 0), some (lD ts), some (.dict (manyP p (allP p))), some (.dict (firsP p (allP p))), some (lD (tb :: us)), none, none, none, some (.int p)] ∧ (∀ u ∈ tb :: us, u ∈ ts) ∧ us.length ≤ 1 ∧ g' = g5) ?_ ?_)
  · by_cases q : p > 23
    · have sl : slcV (.list [.int tb, .int tc]) .none (.int 1) = some (.list [.int tb]) := rfl
      simp [q, sl, -Bool.exists_bool]
      exact ⟨[], rfl, by simpa using hb, by simp⟩
    · simp [q, -Bool.exists_bool]
      exact ⟨[tc], rfl, by simp; exact ⟨hb, hc⟩, by simp⟩
  rintro _ _ ⟨us, rfl, hus, ul, rfl⟩
  simp only [thenF_nx]
  obtain ⟨st, rfl, _⟩ := id d5
  rw [Ok_seq, Ok_for]; simp [-Bool.exists_bool]
  rw [show itV .seq [lD (tb :: us)] = some ((tb :: us).map .int) from rfl]; simp only [Option.some.injEq, exists_eq_left']
  refine ok_forL (fun k σ g' => g' = some st ∧ ∃ y6 : Option D, σ = [some (tokD 1), some (tokD 0), some (lD ts), some (.dict (manyP p (allP p))), some (.dict (firsP p (allP p))), some (lD (tb :: us)), y6, none, none, some (.int p)]) ⟨rfl, none, rfl⟩ ?_ ?_
  · rintro k x σ g' hx ⟨rfl, y6, rfl⟩
    obtain ⟨u, hu, rfl⟩ := List.mem_map.mp (List.mem_of_getElem? hx)
    rw [Ok_turnF]; simp [rgt u (hus u hu) st, -Bool.exists_bool]
  rintro σ g' ⟨rfl, y6, rfl⟩
  rw [thenF_nx]
  -- all counts of small primes
  have ll : ∀ t, (stP p t).length ≤ 40000 := fun t => by
    have h1 : (stP p t).length ≤ (allP p).length := List.length_filter_le _ _
    have h2 : ∀ n, ((List.range n).flatMap (rowA p)).length ≤ n * p.toNat := fun n => by
      induction n with
      | zero => simp
      | succ n ih =>
        rw [List.range_succ, List.flatMap_append, List.length_append, List.flatMap_cons, List.flatMap_nil, List.append_nil, Nat.succ_mul]
        have : (rowA p n).length ≤ p.toNat := by
          unfold rowA
          exact Nat.le_trans (List.length_filterMap_le _ _) (by rw [List.length_range]; exact Nat.le_refl _)
        omega
    have h3 : (allP p).length ≤ p.toNat * p.toNat := h2 _
    have h4 : p.toNat * p.toNat ≤ 200 * 200 := Nat.mul_le_mul (by omega) (by omega)
    omega
  rw [Ok_seq]
  refine (Ok.mono (P := fun fl g' => ∃ y6 y7 : Option D, fl = Fl.nx [some (tokD 1), some (tokD 0), some (lD ts), some (.dict (manyP p (allP p))), some (.dict (firsP p (allP p))), some (lD (tb :: us)), y6, y7, none, some (.int p)] ∧ g' = some st) ?_ ?_)
  · by_cases q : p < 14
    · simp [q, -Bool.exists_bool]
      rw [Ok_seq]; simp [-Bool.exists_bool]
      rw [show itV .seq [lD ts] = some (ts.map .int) from rfl]; simp [-Bool.exists_bool]
      refine ⟨by unfold lineN; omega, ?_⟩
      refine ok_compM (em := .int) (eo := .int) (u := fun t => some (((stP p t).length : Nat) : Int)) (xs := ts) (fun t ht => ?_) ?_
      · rw [Ok_itemF]; simp [wipeS, h7 p t st pm (t4 t ht).1, -Bool.exists_bool]
      rw [fm_map]
      obtain ⟨cs, hcs⟩ : ∃ cs, cs = ts.map fun t => (((stP p t).length : Nat) : Int) := ⟨_, rfl⟩
      rw [← hcs]
      have cl : cs.length ≤ 400 := by rw [hcs, List.length_map]; exact tlen
      have s1 : ShwL (cs.map PyData.int) ((7 + 2) * (cs.map PyData.int).length) 0 := ShwL.all fun d hd => by
        obtain ⟨i, hi, rfl⟩ := List.mem_map.mp hd
        rw [hcs] at hi
        obtain ⟨t, _, rfl⟩ := List.mem_map.mp hi
        have := ll t
        exact Shw.int (k := 6) (by omega)
      have sh : showOk (.list (cs.map PyData.int)) = true := s1.list.ok (by rw [List.length_map]; omega)
      have sm : biV .sum [.list (cs.map PyData.int)] = some (.int (p * p - p)) := by
        have e : cs.sum = p * p - p := by rw [← len_all hp q, hcs]; exact psum
        simp only [biV, ints_map, Option.map_some, e]
      have mpp : mulOk p p = true := mulOk_sm (by omega) (by omega)
      simp [bi_repr sh, -Bool.exists_bool]
      refine ⟨by unfold lineN; omega, ?_⟩
      refine ok_compM (em := .int) (eo := .int) (u := fun t => some (((stP p t).length : Nat) : Int)) (xs := ts) (fun t ht => ?_) ?_
      · rw [Ok_itemF]; simp [wipeS, mix t ht, -Bool.exists_bool]
      rw [fm_map, ← hcs]
      simp [bi_repr sh, ne_stX, sm, mpp, -Bool.exists_bool]
    · simp [q, -Bool.exists_bool]
  rintro _ _ ⟨y6, y7, rfl, rfl⟩
  simp only [thenF_nx]
  have x5 : idxV (lD (tb :: us)) (.int 0) = some (.int tb) := idx_list (n := 0) rfl
  have tb4 := t4 tb hb
  have ts1 := to_strX tb4.2
  have pw : powOk 10 39 = true := by decide
  rw [Ok_seq]; simp [x5, -Bool.exists_bool]
  rw [Ok_seq]; simp [i0, i1', ts1, pw, -Bool.exists_bool]
  refine (h1 100 (some st) d5 (by omega) (by omega)).mono ?_
  rintro _ g6 ⟨d6, dr, rfl, dr0, dr1⟩
  try simp [-Bool.exists_bool]
  refine (h3l _ g6 d6 (by simp) (by simp)).mono ?_
  rintro v g7 ⟨d7, hv⟩
  have B : BadX p v := by
    have l0 := (t4 t0 m0).2
    have l1 := (t4 tl ml).2
    have b39 : (1000 : Nat) ≤ 10 ^ 39 := by decide
    obtain ⟨z1, z2⟩ := str_smallX tb4.2
    have pp4 : 4 * p ≤ p * p := Int.mul_le_mul_of_nonneg_right (by omega) (by omega)
    have sI := shwIX tb4.2 0
    simp at hv
    rcases hv with rfl | rfl | rfl | rfl | rfl | rfl | rfl | rfl | rfl | rfl | rfl | rfl | rfl | rfl | rfl
    · exact bad_int (out1 _ (by omega)) (by omega)
    · exact bad_int (out0 _ (by omega)) (by omega)
    · exact bad_int (by omega) (by omega)
    · exact bad_int (by rw [Int.neg_mul_neg]; omega) (by omega)
    · exact bad_oth rfl rfl (Shw.none.mono (by omega) (by omega))
    · exact bad_oth rfl rfl ((Shw.bool true).mono (by omega) (by omega))
    · exact bad_oth rfl rfl ((Shw.bool false).mono (by omega) (by omega))
    · exact bad_oth rfl rfl ((shwSX _ z1 z2 0).mono (by omega) (by omega))
    · exact bad_oth rfl rfl ((ShwL.one sI).tuple.mono (by omega) (by omega))
    · exact bad_oth rfl rfl ((ShwL.one sI).list.mono (by omega) (by omega))
    · exact bad_oth rfl rfl (Shw.dict0.mono (by omega) (by omega))
    · exact bad_int (by omega) (by decide)
    · exact bad_int (out1 _ (by omega)) (by omega)
    · exact bad_oth rfl rfl ((shwSX "" (by decide +kernel) (by decide +kernel) 0).mono (by omega) (by omega))
    · exact bad_oth rfl rfl ((ShwL.cons sI (ShwL.one sI)).tuple.mono (by omega) (by omega))
  try simp [-Bool.exists_bool]
  have r6 := h6 p v g7 pm B.bad
  have r7 := h7x p v g7 pm B.bad
  rw [Ok_seq]; simp only [Ok_set1, Ok_lst, Ok_evs_cons, Ok_evs_nil]
  refine lam_x [.int p, v] r6 (by simp [clrs, -Bool.exists_bool]) ?_
  simp [-Bool.exists_bool]
  generalize hR : PyData.tuple [v, .bool true] = R
  rw [Ok_seq]; simp only [Ok_app]
  refine ⟨_, rfl, lam_x [.int p, v] r7 (by simp [clrs, -Bool.exists_bool]) ?_⟩
  rw [hR]
  refine ⟨_, rfl, .list [R, R], rfl, ?_⟩
  simp [-Bool.exists_bool]
  rw [Ok_seq]; simp only [Ok_app]
  refine ⟨_, rfl, lam_x [v, .int p] r7 (by simp [clrs, -Bool.exists_bool]) ?_⟩
  rw [hR]
  refine ⟨_, rfl, .list [R, R, R], rfl, ?_⟩
  simp [hR, -Bool.exists_bool]
  have sR : Shw R 1100 5 := by
    rw [← hR]
    exact (ShwL.cons B.shw (ShwL.one ((Shw.bool true).mono (n2 := 5) (m2 := 4) (by omega) (by omega)))).tuple.mono (by omega) (by omega)
  have sh : showOk (.list [R, R, R]) = true := (ShwL.cons sR (ShwL.cons sR (ShwL.one sR))).list.ok
  have m3 : binV .mul (.list [R]) (.int 3) = some (.list [R, R, R]) := rfl
  simp [m3, bi_repr sh, eq_stX, -Bool.exists_bool]
  subst hQ
  rfl
end Xk18
end

section
set_option autoImplicit false
namespace Xk18
open PySem Pv
variable {ns : List Int}
theorem q__law_draw_DrawC {d : Nat} : DrawC (PH ns (d + 1)) 22 := by unfold DrawC; intro _ _ h0 h1 h2; exact Ok_F (draw_run h0 h1 h2)
theorem q__law_deck_DeckC {d : Nat} : DeckC (PH ns (d + 1)) 21 := by unfold DeckC; exact Ok_F (deck_run (ns := ns))
theorem q__law_pick_PickTC {d : Nat} : PickTC (PH ns (d + 2)) 23 := by unfold PickTC; intro _ _ h0 h1 h2; exact Ok_F (pickT_run h0 h1 h2 (q__law_draw_DrawC (d := d + 0)))
theorem q__law_pick_PickLC {d : Nat} : PickLC (PH ns (d + 2)) 23 := by unfold PickLC; intro _ _ h0 h1 h2; exact Ok_F (pickL_run h0 h1 h2 (q__law_draw_DrawC (d := d + 0)))
theorem q_is_integer_IsIntC {d : Nat} : IsIntC (PH ns (d + 1)) 0 := by unfold IsIntC; intro _ _; refine Ok.eq ?_; exact Ok_F (is_int_run )
theorem q_is_prime_IsPrimeC {d : Nat} : IsPrimeC (PH ns (d + 2)) 1 := by unfold IsPrimeC; intro _ _ h0; refine Ok.eq ?_; exact Ok_F (is_prime_run h0 (q_is_integer_IsIntC (d := d + 0)))
theorem q_is_number_IsNumC {d : Nat} : IsNumC (PH ns (d + 2)) 2 := by unfold IsNumC; intro _ _ _ h0 h1; refine Ok.eq ?_; exact Ok_F (is_num_run h0 h1 (q_is_integer_IsIntC (d := d + 0)))
theorem q_Curve___init___MkCurC {d : Nat} : MkCurC (PH ns (d + 3)) 7 := by unfold MkCurC; intro _ _ _ _ h0; refine Ok.eq ?_; exact Ok_F (mk_cur_run h0 (q_is_number_IsNumC (d := d + 0)) (q_is_prime_IsPrimeC (d := d + 0)))
theorem q_square_table_SqTabC {d : Nat} : SqTabC (PH ns (d + 1)) 13 := by unfold SqTabC; intro _ _ h0; exact Ok_F (sq_tab_run h0)
theorem q_trace_by_table_TrTabC {d : Nat} : TrTabC (PH ns (d + 1)) 14 := by unfold TrTabC; intro _ _ _ _ _ h0 h1; refine Ok.eq ?_; exact Ok_F (tr_tab_run h0 h1)
theorem q_is_trace_IsTrC {d : Nat} : IsTrC (PH ns (d + 2)) 15 := by unfold IsTrC; intro _ _ _ h0 h1 h2; refine Ok.eq ?_; exact Ok_F (is_tr_run h0 h1 h2 (q_is_integer_IsIntC (d := d + 0)))
theorem q__law_traces_LTrC {d : Nat} : LTrC (PH ns (d + 1)) 24 := by unfold LTrC; intro _ _ h0; refine Ok.eq ?_; exact Ok_F (ltr_run h0)
theorem q_number_power_NpC {d : Nat} : NpC (PH ns (d + 1)) 3 := by unfold NpC; intro _ _ _ _ h0 h1 h2 h3; refine Ok.eq ?_; exact Ok_F (number_power_run h0 h1 h2 h3)
theorem q_is_square_IsSqC {d : Nat} : IsSqC (PH ns (d + 2)) 5 := by unfold IsSqC; intro _ _ _ h0 h1 h2; refine Ok.eq ?_; exact Ok_F (is_sq_run h0 h1 h2 (q_number_power_NpC (d := d + 0)))
theorem q_spare_SpareC {d : Nat} : SpareC (PH ns (d + 3)) 6 := by unfold SpareC; intro _ _ h0; refine Ok.eq ?_; exact Ok_F (spare_run h0 (q_is_square_IsSqC (d := d + 0)))
theorem q_Curve___eq___EqC {d : Nat} : EqC (PH ns (d + 1)) 8 := by unfold EqC; intro _ _ _ _; refine Ok.eq ?_; exact Ok_F (eq_run )
theorem q_inverse_InvC {d : Nat} : InvC (PH ns (d + 2)) 4 := by unfold InvC; intro _ _ _ h0; refine Ok.eq ?_; exact Ok_F (inverse_run h0 (q_number_power_NpC (d := d + 0)))
theorem q_scaled_pair_ScC {d : Nat} : ScC (PH ns (d + 1)) 10 := by unfold ScC; intro _ _ _ _ h0 h1 h2; refine Ok.eq ?_; exact Ok_F (sc_run h0 h1 h2)
theorem q_Curve_twist_TwiG {d : Nat} : TwiG (PH ns (d + 4)) 9 := by unfold TwiG; intro _ _ _ h0; refine Ok.eq ?_; exact Ok_F (twiG_run h0 (q_Curve___init___MkCurC (d := d + 0)) (q_spare_SpareC (d := d + 0)))
theorem q_first_like_FirG {d : Nat} : FirG (PH ns (d + 4)) 11 := by unfold FirG; intro _ _ _ h0; refine Ok.eq ?_; exact Ok_F (firG_run h0 (q_Curve___init___MkCurC (d := d + 0)) (q_scaled_pair_ScC (d := d + 2)))
theorem q_curve_of_CofG {d : Nat} : CofG (PH ns (d + 4)) 12 := by unfold CofG; intro _ _ _ h0 h1; refine Ok.eq ?_; exact Ok_F (cofG_run h0 h1 (q_Curve___init___MkCurC (d := d + 0)) (q_inverse_InvC (d := d + 1)))
theorem q_curves_of_kind_CkG {d : Nat} : CkG (PH ns (d + 5)) 16 := by unfold CkG; intro _ _ _ _ _ h0 h1 h2; refine Ok.eq ?_; exact Ok_F (ckG_run h0 h1 h2 (q_Curve_twist_TwiG (d := d + 0)) (q_curve_of_CofG (d := d + 0)) (q_trace_by_table_TrTabC (d := d + 3)))
theorem q_curves_with_CwG {d : Nat} : CwG (PH ns (d + 6)) 17 := by unfold CwG; intro _ _ _ _ h0 h1; refine Ok.eq ?_; exact Ok_F (cwG_run h0 h1 (q_curves_of_kind_CkG (d := d + 0)))
theorem q_edge_pairs_EdG {d : Nat} : EdG (PH ns (d + 2)) 18 := by unfold EdG; intro _ _ _ _ h0 h1; refine Ok.eq ?_; exact Ok_F (edG_run h0 h1 (q_trace_by_table_TrTabC (d := d + 0)))
theorem q_is_integer_IntVC {d : Nat} : IntVC (PH ns (d + 1)) 0 := by unfold IntVC; intro _ _ h0; refine Ok.eq ?_; exact Ok_F (intV_run h0)
theorem q_is_trace_NoTC {d : Nat} : NoTC (PH ns (d + 2)) 15 := by unfold NoTC; intro _ _ _ h0 h1; refine Ok.eq ?_; exact Ok_F (noT_run h0 h1 (q_is_integer_IntVC (d := d + 0)))
theorem q_curve_with_CwiG {d : Nat} : CwiG (PH ns (d + 7)) 19 := by unfold CwiG; intro _ _ _ h0 h1 h2; refine Ok.eq ?_; exact Ok_F (cwi_run h0 h1 h2 (q_Curve___init___MkCurC (d := d + 3)) (q_curves_with_CwG (d := d + 0)) (q_edge_pairs_EdG (d := d + 4)) (q_first_like_FirG (d := d + 2)) (q_is_trace_IsTrC (d := d + 4)) (q_square_table_SqTabC (d := d + 5)))
theorem q_many_pairs_MpG {d : Nat} : MpG (PH ns (d + 7)) 20 := by unfold MpG; intro _ _ _ h0 h1; refine Ok.eq ?_; exact Ok_F (mp_run h0 h1 (q_curves_with_CwG (d := d + 0)) (q_edge_pairs_EdG (d := d + 4)) (q_is_trace_IsTrC (d := d + 4)) (q_square_table_SqTabC (d := d + 5)))
theorem q_curve_with_RefX {d : Nat} : RefX (PH ns (d + 7)) 19 := by unfold RefX; intro _ _ _ h0 h1; exact OkX.exc (OkX_F (cwiX_run h0 h1 (q_is_trace_NoTC (d := d + 4))))
theorem q_many_pairs_RefX {d : Nat} : RefX (PH ns (d + 7)) 20 := by unfold RefX; intro _ _ _ h0 h1; exact OkX.exc (OkX_F (mpX_run h0 h1 (q_is_trace_NoTC (d := d + 4))))
theorem q__law_table_LTabC {d : Nat} : LTabC (PH ns (d + 1)) 25 := by unfold LTabC; intro _ _ h0; refine Ok.eq ?_; exact Ok_F (ltab_run h0)
theorem q__law_is_right_RgtC {d : Nat} : RgtC (PH ns (d + 8)) 26 := by unfold RgtC; intro _ _ _ h0 h1; refine Ok.eq ?_; exact Ok_F (rgt_run h0 h1 (q_Curve___eq___EqC (d := d + 6)) (q_Curve___init___MkCurC (d := d + 4)) (q_curve_with_CwiG (d := d + 0)) (q_many_pairs_MpG (d := d + 0)))
theorem q_law_TrcLawC {d : Nat} : TrcLawC (PH ns (d + 9)) 28 := Ok_F (trclaw_run (q__law_deck_DeckC (d := d + 7)) (q__law_draw_DrawC (d := d + 7)) (q__law_is_right_RgtC (d := d + 0)) (q__law_pick_PickTC (d := d + 6)) (q__law_pick_PickLC (d := d + 6)) (q__law_table_LTabC (d := d + 7)) (q__law_traces_LTrC (d := d + 7)) (q_curve_with_RefX (d := d + 1)) (q_many_pairs_MpG (d := d + 1)) (q_many_pairs_RefX (d := d + 1)))
theorem law_val (ns : List Int) (h : ns.length ≤ 63) : ∃ g', FT (T ns) (fun _ => none) (8 + 1) 28 [tokD 1] none = .ok (.bool true) g' := by
  have z : TrcLawC (PH ns (0 + 9)) 28 := q_law_TrcLawC (d := 0)
  obtain ⟨a, g', e, rfl⟩ := Ok.ex z
  exact ⟨g', e⟩
end Xk18
end

section
set_option autoImplicit false
namespace Xk18
open PySem PySem.Spec PyProof.Rows L2 Pv
theorem tabIn_mk {K : PySem.W.Frag} {x : Str} {c P f : Addr} {oc oc2 : Value} {od od2 : Option Addr} {fd : FuncData} {sl sl2 : Array (Option Value)} {vs : Array Value} (hn : PySem.W.nsIn K mainGlobals x = some (some (.ref f))) (hl : K.lookup f = some ⟨oc, od, .func fd, sl⟩) (hc : fd.code = .ref c) (h2 : K.lookup c = some ⟨oc2, od2, .fields vs, sl2⟩) (h3 : (vs[11]? : Option Value) = some (.ref P)) : PySem.W.tabIn K x = some (c, P) := by
  unfold PySem.W.tabIn
  simp only [hn, hl, hc, h2, h3]
theorem kit_no {K : PySem.W.Frag} {C : Addr} {T : String} (hm : PySem.W.kitMeta T = true) (h : PySem.W.mroIn K C (.type T) = some false) : PySem.W.kitOne K (.ref C) (.type T) = some false := by
  have e : PySem.W.kitOne K (.ref C) (.type T) = (if PySem.W.kitMeta T = true then PySem.W.subIn K (.ref C) (.type T) else none) := rfl
  rw [e, if_pos hm]
  exact h
set_option maxHeartbeats 0 in
theorem fin {l : PySem.W.OpenLaw} {w : World} {K : PySem.W.Frag} {h : Heap} {mg : Str → Option Value} {fa : Addr} (X : K.In h) (G : h.Ns mainGlobals mg) (hfa : mg "law" = some (.ref fa)) {q_ : Program} (TH : ∀ (x : Str) (c P : Addr), ((recsOf q_).find? fun e => e.name == x).isSome = true → PySem.W.tabIn K x = some (c, P) → PySem.W.CodeHd h c P ∧ h.get? P = some (PySem.W.tabObj #[]))
    {C_Curve : Addr} (aC_Curve : PySem.W.nsIn K mainGlobals "Curve" = some (some (.ref C_Curve))) (pg_Curve : PySem.W.plainGet K C_Curve Str.empty = true) (hd_Curve : PySem.W.hasDictIn K C_Curve = true) (po_Curve : PySem.W.plainOver K C_Curve = true) (sa_Curve : PySem.W.findIn K (.ref C_Curve) "__setattr__" = some (some (.builtin "object.__setattr__"))) (mk_Curve : PySem.W.makesIn K C_Curve = true) (kc_Curve : PySem.W.keepIn K (.ref C_Curve) = true) (na_Curve_prime : PySem.W.findIn K (.ref C_Curve) "prime" = some none) (na_Curve_a : PySem.W.findIn K (.ref C_Curve) "a" = some none) (na_Curve_b : PySem.W.findIn K (.ref C_Curve) "b" = some none)
    (ia_Curve : PySem.W.findIn K (.ref C_Curve) "__class__" = some (some (.builtin "object.__class__"))) (ib_Curve : PySem.W.specialIn K (.builtin "object.__class__") "__get__" = some (some (.builtin "getset_descriptor.__get__"))) (ic_Curve : PySem.W.takesIn K (.builtin "object.__class__") = some true) (id_Curve : PySem.W.mroIn K C_Curve (.type "object") = some true) (ik_Curve_int : PySem.W.mroIn K C_Curve (.type "int") = some false) (ik_Curve_bool : PySem.W.mroIn K C_Curve (.type "bool") = some false) (ik_Curve_str : PySem.W.mroIn K C_Curve (.type "str") = some false) (ik_Curve_tuple : PySem.W.mroIn K C_Curve (.type "tuple") = some false) (ik_Curve_list : PySem.W.mroIn K C_Curve (.type "list") = some false)
    (om_Curve : PySem.W.mroIn K C_Curve (.type "object") = some true) (on_Curve : PySem.W.findIn K (.ref C_Curve) "__ne__" = some (some (.builtin "object.__ne__")))
    (oi_Curve : PySem.W.isClsIn K C_Curve = true) (ot_Curve : PySem.W.typeIn K (.ref C_Curve) = some (.type "type")) (os_Curve : PySem.W.subIn K (.ref C_Curve) (.ref C_Curve) = some true)
    (op_Curve_Curve : PySem.W.subIn K (.ref C_Curve) (.ref C_Curve) = some true)
    {f_is_integer : Addr} {od_is_integer an_is_integer : Option Addr} {sl_is_integer : Array (Option Value)} {oc_is_integer kV_is_integer dc_is_integer pm_is_integer cd_is_integer ct_is_integer : Value}
    (a_is_integer : PySem.W.nsIn K mainGlobals "is_integer" = some (some (.ref f_is_integer))) (l_is_integer : K.lookup f_is_integer = some ⟨oc_is_integer, od_is_integer, .func (PySem.W.fnOf "is_integer" "is_integer" (defArgs s_is_integer) (defBody s_is_integer) (defScope s_is_integer) .none kV_is_integer dc_is_integer pm_is_integer an_is_integer cd_is_integer ct_is_integer), sl_is_integer⟩) (c_is_integer : PySem.W.codeIn K cd_is_integer "is_integer" = true) (k_is_integer : PySem.W.keepIn K (.ref f_is_integer) = true)
    {f_is_prime : Addr} {od_is_prime an_is_prime : Option Addr} {sl_is_prime : Array (Option Value)} {oc_is_prime kV_is_prime dc_is_prime pm_is_prime cd_is_prime ct_is_prime : Value}
    (a_is_prime : PySem.W.nsIn K mainGlobals "is_prime" = some (some (.ref f_is_prime))) (l_is_prime : K.lookup f_is_prime = some ⟨oc_is_prime, od_is_prime, .func (PySem.W.fnOf "is_prime" "is_prime" (defArgs s_is_prime) (defBody s_is_prime) (defScope s_is_prime) .none kV_is_prime dc_is_prime pm_is_prime an_is_prime cd_is_prime ct_is_prime), sl_is_prime⟩) (c_is_prime : PySem.W.codeIn K cd_is_prime "is_prime" = true) (k_is_prime : PySem.W.keepIn K (.ref f_is_prime) = true)
    {f_is_number : Addr} {od_is_number an_is_number : Option Addr} {sl_is_number : Array (Option Value)} {oc_is_number kV_is_number dc_is_number pm_is_number cd_is_number ct_is_number : Value}
    (a_is_number : PySem.W.nsIn K mainGlobals "is_number" = some (some (.ref f_is_number))) (l_is_number : K.lookup f_is_number = some ⟨oc_is_number, od_is_number, .func (PySem.W.fnOf "is_number" "is_number" (defArgs s_is_number) (defBody s_is_number) (defScope s_is_number) .none kV_is_number dc_is_number pm_is_number an_is_number cd_is_number ct_is_number), sl_is_number⟩) (c_is_number : PySem.W.codeIn K cd_is_number "is_number" = true) (k_is_number : PySem.W.keepIn K (.ref f_is_number) = true)
    {f_number_power : Addr} {od_number_power an_number_power : Option Addr} {sl_number_power : Array (Option Value)} {oc_number_power kV_number_power dc_number_power pm_number_power cd_number_power ct_number_power : Value}
    (a_number_power : PySem.W.nsIn K mainGlobals "number_power" = some (some (.ref f_number_power))) (l_number_power : K.lookup f_number_power = some ⟨oc_number_power, od_number_power, .func (PySem.W.fnOf "number_power" "number_power" (defArgs s_number_power) (defBody s_number_power) (defScope s_number_power) .none kV_number_power dc_number_power pm_number_power an_number_power cd_number_power ct_number_power), sl_number_power⟩) (c_number_power : PySem.W.codeIn K cd_number_power "number_power" = true) (k_number_power : PySem.W.keepIn K (.ref f_number_power) = true)
    {f_inverse : Addr} {od_inverse an_inverse : Option Addr} {sl_inverse : Array (Option Value)} {oc_inverse kV_inverse dc_inverse pm_inverse cd_inverse ct_inverse : Value}
    (a_inverse : PySem.W.nsIn K mainGlobals "inverse" = some (some (.ref f_inverse))) (l_inverse : K.lookup f_inverse = some ⟨oc_inverse, od_inverse, .func (PySem.W.fnOf "inverse" "inverse" (defArgs s_inverse) (defBody s_inverse) (defScope s_inverse) .none kV_inverse dc_inverse pm_inverse an_inverse cd_inverse ct_inverse), sl_inverse⟩) (c_inverse : PySem.W.codeIn K cd_inverse "inverse" = true) (k_inverse : PySem.W.keepIn K (.ref f_inverse) = true)
    {f_is_square : Addr} {od_is_square an_is_square : Option Addr} {sl_is_square : Array (Option Value)} {oc_is_square kV_is_square dc_is_square pm_is_square cd_is_square ct_is_square : Value}
    (a_is_square : PySem.W.nsIn K mainGlobals "is_square" = some (some (.ref f_is_square))) (l_is_square : K.lookup f_is_square = some ⟨oc_is_square, od_is_square, .func (PySem.W.fnOf "is_square" "is_square" (defArgs s_is_square) (defBody s_is_square) (defScope s_is_square) .none kV_is_square dc_is_square pm_is_square an_is_square cd_is_square ct_is_square), sl_is_square⟩) (c_is_square : PySem.W.codeIn K cd_is_square "is_square" = true) (k_is_square : PySem.W.keepIn K (.ref f_is_square) = true)
    {f_spare : Addr} {od_spare an_spare : Option Addr} {sl_spare : Array (Option Value)} {oc_spare kV_spare dc_spare pm_spare cd_spare ct_spare : Value}
    (a_spare : PySem.W.nsIn K mainGlobals "spare" = some (some (.ref f_spare))) (l_spare : K.lookup f_spare = some ⟨oc_spare, od_spare, .func (PySem.W.fnOf "spare" "spare" (defArgs s_spare) (defBody s_spare) (defScope s_spare) .none kV_spare dc_spare pm_spare an_spare cd_spare ct_spare), sl_spare⟩) (c_spare : PySem.W.codeIn K cd_spare "spare" = true) (k_spare : PySem.W.keepIn K (.ref f_spare) = true)
    {f_Curve___init__ : Addr} {od_Curve___init__ an_Curve___init__ : Option Addr} {sl_Curve___init__ : Array (Option Value)} {oc_Curve___init__ kV_Curve___init__ dc_Curve___init__ pm_Curve___init__ cd_Curve___init__ ct_Curve___init__ : Value}
    (a_Curve___init__ : PySem.W.findIn K (.ref C_Curve) "__init__" = some (some (.ref f_Curve___init__))) (i_Curve___init__ : PySem.W.isFn K (.ref f_Curve___init__) = true) (l_Curve___init__ : K.lookup f_Curve___init__ = some ⟨oc_Curve___init__, od_Curve___init__, .func (PySem.W.fnOf "__init__" "Curve.__init__" (defArgs s_Curve___init__) (defBody s_Curve___init__) (defScope s_Curve___init__) .none kV_Curve___init__ dc_Curve___init__ pm_Curve___init__ an_Curve___init__ cd_Curve___init__ ct_Curve___init__), sl_Curve___init__⟩) (c_Curve___init__ : PySem.W.codeIn K cd_Curve___init__ "Curve.__init__" = true) (k_Curve___init__ : PySem.W.keepIn K (.ref f_Curve___init__) = true)
    {f_Curve___eq__ : Addr} {od_Curve___eq__ an_Curve___eq__ : Option Addr} {sl_Curve___eq__ : Array (Option Value)} {oc_Curve___eq__ kV_Curve___eq__ dc_Curve___eq__ pm_Curve___eq__ cd_Curve___eq__ ct_Curve___eq__ : Value}
    (a_Curve___eq__ : PySem.W.findIn K (.ref C_Curve) "__eq__" = some (some (.ref f_Curve___eq__))) (i_Curve___eq__ : PySem.W.isFn K (.ref f_Curve___eq__) = true) (l_Curve___eq__ : K.lookup f_Curve___eq__ = some ⟨oc_Curve___eq__, od_Curve___eq__, .func (PySem.W.fnOf "__eq__" "Curve.__eq__" (defArgs s_Curve___eq__) (defBody s_Curve___eq__) (defScope s_Curve___eq__) .none kV_Curve___eq__ dc_Curve___eq__ pm_Curve___eq__ an_Curve___eq__ cd_Curve___eq__ ct_Curve___eq__), sl_Curve___eq__⟩) (c_Curve___eq__ : PySem.W.codeIn K cd_Curve___eq__ "Curve.__eq__" = true) (k_Curve___eq__ : PySem.W.keepIn K (.ref f_Curve___eq__) = true)
    {f_Curve_twist : Addr} {od_Curve_twist an_Curve_twist : Option Addr} {sl_Curve_twist : Array (Option Value)} {oc_Curve_twist kV_Curve_twist dc_Curve_twist pm_Curve_twist cd_Curve_twist ct_Curve_twist : Value}
    (a_Curve_twist : PySem.W.findIn K (.ref C_Curve) "twist" = some (some (.ref f_Curve_twist))) (i_Curve_twist : PySem.W.isFn K (.ref f_Curve_twist) = true) (l_Curve_twist : K.lookup f_Curve_twist = some ⟨oc_Curve_twist, od_Curve_twist, .func (PySem.W.fnOf "twist" "Curve.twist" (defArgs s_Curve_twist) (defBody s_Curve_twist) (defScope s_Curve_twist) .none kV_Curve_twist dc_Curve_twist pm_Curve_twist an_Curve_twist cd_Curve_twist ct_Curve_twist), sl_Curve_twist⟩) (c_Curve_twist : PySem.W.codeIn K cd_Curve_twist "Curve.twist" = true) (k_Curve_twist : PySem.W.keepIn K (.ref f_Curve_twist) = true)
    {f_scaled_pair : Addr} {od_scaled_pair an_scaled_pair : Option Addr} {sl_scaled_pair : Array (Option Value)} {oc_scaled_pair kV_scaled_pair dc_scaled_pair pm_scaled_pair cd_scaled_pair ct_scaled_pair : Value}
    (a_scaled_pair : PySem.W.nsIn K mainGlobals "scaled_pair" = some (some (.ref f_scaled_pair))) (l_scaled_pair : K.lookup f_scaled_pair = some ⟨oc_scaled_pair, od_scaled_pair, .func (PySem.W.fnOf "scaled_pair" "scaled_pair" (defArgs s_scaled_pair) (defBody s_scaled_pair) (defScope s_scaled_pair) .none kV_scaled_pair dc_scaled_pair pm_scaled_pair an_scaled_pair cd_scaled_pair ct_scaled_pair), sl_scaled_pair⟩) (c_scaled_pair : PySem.W.codeIn K cd_scaled_pair "scaled_pair" = true) (k_scaled_pair : PySem.W.keepIn K (.ref f_scaled_pair) = true)
    {f_first_like : Addr} {od_first_like an_first_like : Option Addr} {sl_first_like : Array (Option Value)} {oc_first_like kV_first_like dc_first_like pm_first_like cd_first_like ct_first_like : Value}
    (a_first_like : PySem.W.nsIn K mainGlobals "first_like" = some (some (.ref f_first_like))) (l_first_like : K.lookup f_first_like = some ⟨oc_first_like, od_first_like, .func (PySem.W.fnOf "first_like" "first_like" (defArgs s_first_like) (defBody s_first_like) (defScope s_first_like) .none kV_first_like dc_first_like pm_first_like an_first_like cd_first_like ct_first_like), sl_first_like⟩) (c_first_like : PySem.W.codeIn K cd_first_like "first_like" = true) (k_first_like : PySem.W.keepIn K (.ref f_first_like) = true)
    {f_curve_of : Addr} {od_curve_of an_curve_of : Option Addr} {sl_curve_of : Array (Option Value)} {oc_curve_of kV_curve_of dc_curve_of pm_curve_of cd_curve_of ct_curve_of : Value}
    (a_curve_of : PySem.W.nsIn K mainGlobals "curve_of" = some (some (.ref f_curve_of))) (l_curve_of : K.lookup f_curve_of = some ⟨oc_curve_of, od_curve_of, .func (PySem.W.fnOf "curve_of" "curve_of" (defArgs s_curve_of) (defBody s_curve_of) (defScope s_curve_of) .none kV_curve_of dc_curve_of pm_curve_of an_curve_of cd_curve_of ct_curve_of), sl_curve_of⟩) (c_curve_of : PySem.W.codeIn K cd_curve_of "curve_of" = true) (k_curve_of : PySem.W.keepIn K (.ref f_curve_of) = true)
    {f_square_table : Addr} {od_square_table an_square_table : Option Addr} {sl_square_table : Array (Option Value)} {oc_square_table kV_square_table dc_square_table pm_square_table cd_square_table ct_square_table : Value}
    (a_square_table : PySem.W.nsIn K mainGlobals "square_table" = some (some (.ref f_square_table))) (l_square_table : K.lookup f_square_table = some ⟨oc_square_table, od_square_table, .func (PySem.W.fnOf "square_table" "square_table" (defArgs s_square_table) (defBody s_square_table) (defScope s_square_table) .none kV_square_table dc_square_table pm_square_table an_square_table cd_square_table ct_square_table), sl_square_table⟩) (c_square_table : PySem.W.codeIn K cd_square_table "square_table" = true) (k_square_table : PySem.W.keepIn K (.ref f_square_table) = true)
    {f_trace_by_table : Addr} {od_trace_by_table an_trace_by_table : Option Addr} {sl_trace_by_table : Array (Option Value)} {oc_trace_by_table kV_trace_by_table dc_trace_by_table pm_trace_by_table cd_trace_by_table ct_trace_by_table : Value}
    (a_trace_by_table : PySem.W.nsIn K mainGlobals "trace_by_table" = some (some (.ref f_trace_by_table))) (l_trace_by_table : K.lookup f_trace_by_table = some ⟨oc_trace_by_table, od_trace_by_table, .func (PySem.W.fnOf "trace_by_table" "trace_by_table" (defArgs s_trace_by_table) (defBody s_trace_by_table) (defScope s_trace_by_table) .none kV_trace_by_table dc_trace_by_table pm_trace_by_table an_trace_by_table cd_trace_by_table ct_trace_by_table), sl_trace_by_table⟩) (c_trace_by_table : PySem.W.codeIn K cd_trace_by_table "trace_by_table" = true) (k_trace_by_table : PySem.W.keepIn K (.ref f_trace_by_table) = true)
    {f_is_trace : Addr} {od_is_trace an_is_trace : Option Addr} {sl_is_trace : Array (Option Value)} {oc_is_trace kV_is_trace dc_is_trace pm_is_trace cd_is_trace ct_is_trace : Value}
    (a_is_trace : PySem.W.nsIn K mainGlobals "is_trace" = some (some (.ref f_is_trace))) (l_is_trace : K.lookup f_is_trace = some ⟨oc_is_trace, od_is_trace, .func (PySem.W.fnOf "is_trace" "is_trace" (defArgs s_is_trace) (defBody s_is_trace) (defScope s_is_trace) .none kV_is_trace dc_is_trace pm_is_trace an_is_trace cd_is_trace ct_is_trace), sl_is_trace⟩) (c_is_trace : PySem.W.codeIn K cd_is_trace "is_trace" = true) (k_is_trace : PySem.W.keepIn K (.ref f_is_trace) = true)
    {f_curves_of_kind : Addr} {od_curves_of_kind an_curves_of_kind : Option Addr} {sl_curves_of_kind : Array (Option Value)} {oc_curves_of_kind kV_curves_of_kind dc_curves_of_kind pm_curves_of_kind cd_curves_of_kind ct_curves_of_kind : Value}
    (a_curves_of_kind : PySem.W.nsIn K mainGlobals "curves_of_kind" = some (some (.ref f_curves_of_kind))) (l_curves_of_kind : K.lookup f_curves_of_kind = some ⟨oc_curves_of_kind, od_curves_of_kind, .func (PySem.W.fnOf "curves_of_kind" "curves_of_kind" (defArgs s_curves_of_kind) (defBody s_curves_of_kind) (defScope s_curves_of_kind) .none kV_curves_of_kind dc_curves_of_kind pm_curves_of_kind an_curves_of_kind cd_curves_of_kind ct_curves_of_kind), sl_curves_of_kind⟩) (c_curves_of_kind : PySem.W.codeIn K cd_curves_of_kind "curves_of_kind" = true) (k_curves_of_kind : PySem.W.keepIn K (.ref f_curves_of_kind) = true)
    {f_curves_with : Addr} {od_curves_with an_curves_with : Option Addr} {sl_curves_with : Array (Option Value)} {oc_curves_with kV_curves_with dc_curves_with pm_curves_with cd_curves_with ct_curves_with : Value}
    (a_curves_with : PySem.W.nsIn K mainGlobals "curves_with" = some (some (.ref f_curves_with))) (l_curves_with : K.lookup f_curves_with = some ⟨oc_curves_with, od_curves_with, .func (PySem.W.fnOf "curves_with" "curves_with" (defArgs s_curves_with) (defBody s_curves_with) (defScope s_curves_with) .none kV_curves_with dc_curves_with pm_curves_with an_curves_with cd_curves_with ct_curves_with), sl_curves_with⟩) (c_curves_with : PySem.W.codeIn K cd_curves_with "curves_with" = true) (k_curves_with : PySem.W.keepIn K (.ref f_curves_with) = true)
    {f_edge_pairs : Addr} {od_edge_pairs an_edge_pairs : Option Addr} {sl_edge_pairs : Array (Option Value)} {oc_edge_pairs kV_edge_pairs dc_edge_pairs pm_edge_pairs cd_edge_pairs ct_edge_pairs : Value}
    (a_edge_pairs : PySem.W.nsIn K mainGlobals "edge_pairs" = some (some (.ref f_edge_pairs))) (l_edge_pairs : K.lookup f_edge_pairs = some ⟨oc_edge_pairs, od_edge_pairs, .func (PySem.W.fnOf "edge_pairs" "edge_pairs" (defArgs s_edge_pairs) (defBody s_edge_pairs) (defScope s_edge_pairs) .none kV_edge_pairs dc_edge_pairs pm_edge_pairs an_edge_pairs cd_edge_pairs ct_edge_pairs), sl_edge_pairs⟩) (c_edge_pairs : PySem.W.codeIn K cd_edge_pairs "edge_pairs" = true) (k_edge_pairs : PySem.W.keepIn K (.ref f_edge_pairs) = true)
    {f_curve_with : Addr} {od_curve_with an_curve_with : Option Addr} {sl_curve_with : Array (Option Value)} {oc_curve_with kV_curve_with dc_curve_with pm_curve_with cd_curve_with ct_curve_with : Value}
    (a_curve_with : PySem.W.nsIn K mainGlobals "curve_with" = some (some (.ref f_curve_with))) (l_curve_with : K.lookup f_curve_with = some ⟨oc_curve_with, od_curve_with, .func (PySem.W.fnOf "curve_with" "curve_with" (defArgs s_curve_with) (defBody s_curve_with) (defScope s_curve_with) .none kV_curve_with dc_curve_with pm_curve_with an_curve_with cd_curve_with ct_curve_with), sl_curve_with⟩) (c_curve_with : PySem.W.codeIn K cd_curve_with "curve_with" = true) (k_curve_with : PySem.W.keepIn K (.ref f_curve_with) = true)
    {f_many_pairs : Addr} {od_many_pairs an_many_pairs : Option Addr} {sl_many_pairs : Array (Option Value)} {oc_many_pairs kV_many_pairs dc_many_pairs pm_many_pairs cd_many_pairs ct_many_pairs : Value}
    (a_many_pairs : PySem.W.nsIn K mainGlobals "many_pairs" = some (some (.ref f_many_pairs))) (l_many_pairs : K.lookup f_many_pairs = some ⟨oc_many_pairs, od_many_pairs, .func (PySem.W.fnOf "many_pairs" "many_pairs" (defArgs s_many_pairs) (defBody s_many_pairs) (defScope s_many_pairs) .none kV_many_pairs dc_many_pairs pm_many_pairs an_many_pairs cd_many_pairs ct_many_pairs), sl_many_pairs⟩) (c_many_pairs : PySem.W.codeIn K cd_many_pairs "many_pairs" = true) (k_many_pairs : PySem.W.keepIn K (.ref f_many_pairs) = true)
    {f__law_deck : Addr} {od__law_deck an__law_deck : Option Addr} {sl__law_deck : Array (Option Value)} {oc__law_deck kV__law_deck dc__law_deck pm__law_deck cd__law_deck ct__law_deck : Value}
    (a__law_deck : PySem.W.nsIn K mainGlobals "_law_deck" = some (some (.ref f__law_deck))) (l__law_deck : K.lookup f__law_deck = some ⟨oc__law_deck, od__law_deck, .func (PySem.W.fnOf "_law_deck" "_law_deck" (defArgs s__law_deck) (defBody s__law_deck) (defScope s__law_deck) .none kV__law_deck dc__law_deck pm__law_deck an__law_deck cd__law_deck ct__law_deck), sl__law_deck⟩) (c__law_deck : PySem.W.codeIn K cd__law_deck "_law_deck" = true) (k__law_deck : PySem.W.keepIn K (.ref f__law_deck) = true)
    {f__law_draw : Addr} {od__law_draw an__law_draw : Option Addr} {sl__law_draw : Array (Option Value)} {oc__law_draw kV__law_draw dc__law_draw pm__law_draw cd__law_draw ct__law_draw : Value}
    (a__law_draw : PySem.W.nsIn K mainGlobals "_law_draw" = some (some (.ref f__law_draw))) (l__law_draw : K.lookup f__law_draw = some ⟨oc__law_draw, od__law_draw, .func (PySem.W.fnOf "_law_draw" "_law_draw" (defArgs s__law_draw) (defBody s__law_draw) (defScope s__law_draw) .none kV__law_draw dc__law_draw pm__law_draw an__law_draw cd__law_draw ct__law_draw), sl__law_draw⟩) (c__law_draw : PySem.W.codeIn K cd__law_draw "_law_draw" = true) (k__law_draw : PySem.W.keepIn K (.ref f__law_draw) = true)
    {f__law_pick : Addr} {od__law_pick an__law_pick : Option Addr} {sl__law_pick : Array (Option Value)} {oc__law_pick kV__law_pick dc__law_pick pm__law_pick cd__law_pick ct__law_pick : Value}
    (a__law_pick : PySem.W.nsIn K mainGlobals "_law_pick" = some (some (.ref f__law_pick))) (l__law_pick : K.lookup f__law_pick = some ⟨oc__law_pick, od__law_pick, .func (PySem.W.fnOf "_law_pick" "_law_pick" (defArgs s__law_pick) (defBody s__law_pick) (defScope s__law_pick) .none kV__law_pick dc__law_pick pm__law_pick an__law_pick cd__law_pick ct__law_pick), sl__law_pick⟩) (c__law_pick : PySem.W.codeIn K cd__law_pick "_law_pick" = true) (k__law_pick : PySem.W.keepIn K (.ref f__law_pick) = true)
    {f__law_traces : Addr} {od__law_traces an__law_traces : Option Addr} {sl__law_traces : Array (Option Value)} {oc__law_traces kV__law_traces dc__law_traces pm__law_traces cd__law_traces ct__law_traces : Value}
    (a__law_traces : PySem.W.nsIn K mainGlobals "_law_traces" = some (some (.ref f__law_traces))) (l__law_traces : K.lookup f__law_traces = some ⟨oc__law_traces, od__law_traces, .func (PySem.W.fnOf "_law_traces" "_law_traces" (defArgs s__law_traces) (defBody s__law_traces) (defScope s__law_traces) .none kV__law_traces dc__law_traces pm__law_traces an__law_traces cd__law_traces ct__law_traces), sl__law_traces⟩) (c__law_traces : PySem.W.codeIn K cd__law_traces "_law_traces" = true) (k__law_traces : PySem.W.keepIn K (.ref f__law_traces) = true)
    {f__law_table : Addr} {od__law_table an__law_table : Option Addr} {sl__law_table : Array (Option Value)} {oc__law_table kV__law_table dc__law_table pm__law_table cd__law_table ct__law_table : Value}
    (a__law_table : PySem.W.nsIn K mainGlobals "_law_table" = some (some (.ref f__law_table))) (l__law_table : K.lookup f__law_table = some ⟨oc__law_table, od__law_table, .func (PySem.W.fnOf "_law_table" "_law_table" (defArgs s__law_table) (defBody s__law_table) (defScope s__law_table) .none kV__law_table dc__law_table pm__law_table an__law_table cd__law_table ct__law_table), sl__law_table⟩) (c__law_table : PySem.W.codeIn K cd__law_table "_law_table" = true) (k__law_table : PySem.W.keepIn K (.ref f__law_table) = true)
    {f__law_is_right : Addr} {od__law_is_right an__law_is_right : Option Addr} {sl__law_is_right : Array (Option Value)} {oc__law_is_right kV__law_is_right dc__law_is_right pm__law_is_right cd__law_is_right ct__law_is_right : Value}
    (a__law_is_right : PySem.W.nsIn K mainGlobals "_law_is_right" = some (some (.ref f__law_is_right))) (l__law_is_right : K.lookup f__law_is_right = some ⟨oc__law_is_right, od__law_is_right, .func (PySem.W.fnOf "_law_is_right" "_law_is_right" (defArgs s__law_is_right) (defBody s__law_is_right) (defScope s__law_is_right) .none kV__law_is_right dc__law_is_right pm__law_is_right an__law_is_right cd__law_is_right ct__law_is_right), sl__law_is_right⟩) (c__law_is_right : PySem.W.codeIn K cd__law_is_right "_law_is_right" = true) (k__law_is_right : PySem.W.keepIn K (.ref f__law_is_right) = true)
    {f__law_told : Addr} {od__law_told an__law_told : Option Addr} {sl__law_told : Array (Option Value)} {oc__law_told kV__law_told dc__law_told pm__law_told cd__law_told ct__law_told : Value}
    (a__law_told : PySem.W.nsIn K mainGlobals "_law_told" = some (some (.ref f__law_told))) (l__law_told : K.lookup f__law_told = some ⟨oc__law_told, od__law_told, .func (PySem.W.fnOf "_law_told" "_law_told" (defArgs s__law_told) (defBody s__law_told) (defScope s__law_told) .none kV__law_told dc__law_told pm__law_told an__law_told cd__law_told ct__law_told), sl__law_told⟩) (c__law_told : PySem.W.codeIn K cd__law_told "_law_told" = true) (k__law_told : PySem.W.keepIn K (.ref f__law_told) = true)
    {f_law : Addr} {od_law an_law : Option Addr} {sl_law : Array (Option Value)} {oc_law kV_law dc_law pm_law cd_law ct_law : Value}
    (a_law : PySem.W.nsIn K mainGlobals "law" = some (some (.ref f_law))) (l_law : K.lookup f_law = some ⟨oc_law, od_law, .func (PySem.W.fnOf "law" "law" (defArgs s_law) (defBody s_law) (defScope s_law) .none kV_law dc_law pm_law an_law cd_law ct_law), sl_law⟩) (c_law : PySem.W.codeIn K cd_law "law" = true) (k_law : PySem.W.keepIn K (.ref f_law) = true)
    {cc_law tp_law : Addr} {oc2_law : Value} {od2_law : Option Addr} {sl2_law : Array (Option Value)} {vs2_law : Array Value} (tj_law : cd_law = .ref cc_law) (tk_law : K.lookup cc_law = some ⟨oc2_law, od2_law, .fields vs2_law, sl2_law⟩) (tl_law : (vs2_law[11]? : Option Value) = some (.ref tp_law)) (tr_law : ((recsOf q_).find? fun e => e.name == ("law" : Str)).isSome = true) (to_law : K.lookup tp_law = none)
    {X_BadCurve : Addr} (xa_BadCurve : PySem.W.nsIn K mainGlobals "BadCurve" = some (some (.ref X_BadCurve)))
    {X_BadTrace : Addr} (xa_BadTrace : PySem.W.nsIn K mainGlobals "BadTrace" = some (some (.ref X_BadTrace)))
    {X_CurveError : Addr} (xa_CurveError : PySem.W.nsIn K mainGlobals "CurveError" = some (some (.ref X_CurveError)))
    (xi_BadTrace : PySem.W.isClsIn K X_BadTrace = true) (xt_BadTrace : PySem.W.typeIn K (.ref X_BadTrace) = some (.type "type")) (xs_BadTrace : PySem.W.subIn K (.ref X_BadTrace) (.type "BaseException") = some true) (xy_BadTrace : PySem.W.subIn K (.ref X_BadTrace) (.ref X_BadTrace) = some true)
    (xi_CurveError : PySem.W.isClsIn K X_CurveError = true) (xt_CurveError : PySem.W.typeIn K (.ref X_CurveError) = some (.type "type")) (xs_CurveError : PySem.W.subIn K (.ref X_CurveError) (.type "BaseException") = some true) (xy_CurveError : PySem.W.subIn K (.ref X_CurveError) (.ref X_CurveError) = some true)
    (xk_BadCurve : PySem.W.keepIn K (.ref X_BadCurve) = true) (xb_BadCurve : PySem.W.subIn K (.ref X_BadCurve) (.type "BaseException") = some true) (xu_BadCurve : PySem.W.typeIn K (.ref X_BadCurve) = some (.type "type"))
    {nm_BadCurve qn_BadCurve : Str} {N_BadCurve : Addr} {bs_BadCurve : List Value} {bm_BadCurve : List Value} {sn_BadCurve : List Str} {sub_BadCurve : List Value} {ab_BadCurve : Bool} {col_BadCurve : Option Bool} {dd_BadCurve : Option Addr} {m0_BadCurve m1_BadCurve m2_BadCurve m3_BadCurve m5_BadCurve : Option Value}
    (xL_BadCurve : K.lookup X_BadCurve = some (excClassObj nm_BadCurve qn_BadCurve X_BadCurve N_BadCurve bs_BadCurve bm_BadCurve true sn_BadCurve sub_BadCurve ab_BadCurve col_BadCurve dd_BadCurve m0_BadCurve m1_BadCurve m2_BadCurve m3_BadCurve m5_BadCurve "Exception.__new__")) (xT_BadCurve : PySem.W.excTail bmE bm_BadCurve = true)
    (xsa_BadCurve : PySem.W.findIn K (.ref X_BadCurve) "__setattr__" = some (some (.builtin "object.__setattr__"))) (xga_BadCurve : PySem.W.findIn K (.ref X_BadCurve) "__getattribute__" = some (some (.builtin "BaseException.__getattribute__"))) (xgg_BadCurve : PySem.W.findIn K (.ref X_BadCurve) "__getattr__" = some none) (xno_BadCurve : PySem.W.findIn K (.ref X_BadCurve) "part" = some none)
    {XI_BadCurve : Addr} (xI_BadCurve : PySem.W.findIn K (.ref X_BadCurve) "__init__" = some (some (.ref XI_BadCurve))) (xtI_BadCurve : PySem.W.typeIn K (.ref XI_BadCurve) = some (.type "function")) (xhd_BadCurve : PySem.W.hasDictIn K X_BadCurve = true)
    {xod_BadCurve xan_BadCurve : Option Addr} {xsl_BadCurve : Array (Option Value)} {xoc_BadCurve xkV_BadCurve xdc_BadCurve xpm_BadCurve xcd_BadCurve xct_BadCurve : Value} (xl_BadCurve : K.lookup XI_BadCurve = some ⟨xoc_BadCurve, xod_BadCurve, .func (PySem.W.fnOf "__init__" "BadCurve.__init__" (defArgs (inClass (topS 3) 0)) (defBody (inClass (topS 3) 0)) (defScope (inClass (topS 3) 0)) .none xkV_BadCurve xdc_BadCurve xpm_BadCurve xan_BadCurve xcd_BadCurve xct_BadCurve), xsl_BadCurve⟩) (xc_BadCurve : PySem.W.codeIn K xcd_BadCurve "BadCurve.__init__" = true)
    (xca_BadCurve : PySem.W.findIn K (.ref X_BadCurve) "__class__" = some (some (.builtin "object.__class__"))) (xcn_BadCurve : PySem.W.specialIn K (.builtin "object.__class__") "__get__" = some (some (.builtin "getset_descriptor.__get__"))) (xct2_BadCurve : PySem.W.takesIn K (.builtin "object.__class__") = some true) (xcm_BadCurve : PySem.W.mroIn K X_BadCurve (.type "object") = some true)
    (xk_BadTrace : PySem.W.keepIn K (.ref X_BadTrace) = true) (xb_BadTrace : PySem.W.subIn K (.ref X_BadTrace) (.type "BaseException") = some true) (xu_BadTrace : PySem.W.typeIn K (.ref X_BadTrace) = some (.type "type"))
    {nm_BadTrace qn_BadTrace : Str} {N_BadTrace : Addr} {bs_BadTrace : List Value} {bm_BadTrace : List Value} {sn_BadTrace : List Str} {sub_BadTrace : List Value} {ab_BadTrace : Bool} {col_BadTrace : Option Bool} {dd_BadTrace : Option Addr} {m0_BadTrace m1_BadTrace m2_BadTrace m3_BadTrace m5_BadTrace : Option Value}
    (xL_BadTrace : K.lookup X_BadTrace = some (excClassObj nm_BadTrace qn_BadTrace X_BadTrace N_BadTrace bs_BadTrace bm_BadTrace true sn_BadTrace sub_BadTrace ab_BadTrace col_BadTrace dd_BadTrace m0_BadTrace m1_BadTrace m2_BadTrace m3_BadTrace m5_BadTrace "Exception.__new__")) (xT_BadTrace : PySem.W.excTail bmE bm_BadTrace = true)
    (xsa_BadTrace : PySem.W.findIn K (.ref X_BadTrace) "__setattr__" = some (some (.builtin "object.__setattr__"))) (xga_BadTrace : PySem.W.findIn K (.ref X_BadTrace) "__getattribute__" = some (some (.builtin "BaseException.__getattribute__"))) (xgg_BadTrace : PySem.W.findIn K (.ref X_BadTrace) "__getattr__" = some none) (xno_BadTrace : PySem.W.findIn K (.ref X_BadTrace) "trace" = some none)
    {XI_BadTrace : Addr} (xI_BadTrace : PySem.W.findIn K (.ref X_BadTrace) "__init__" = some (some (.ref XI_BadTrace))) (xtI_BadTrace : PySem.W.typeIn K (.ref XI_BadTrace) = some (.type "function")) (xhd_BadTrace : PySem.W.hasDictIn K X_BadTrace = true)
    {xod_BadTrace xan_BadTrace : Option Addr} {xsl_BadTrace : Array (Option Value)} {xoc_BadTrace xkV_BadTrace xdc_BadTrace xpm_BadTrace xcd_BadTrace xct_BadTrace : Value} (xl_BadTrace : K.lookup XI_BadTrace = some ⟨xoc_BadTrace, xod_BadTrace, .func (PySem.W.fnOf "__init__" "BadTrace.__init__" (defArgs (inClass (topS 4) 0)) (defBody (inClass (topS 4) 0)) (defScope (inClass (topS 4) 0)) .none xkV_BadTrace xdc_BadTrace xpm_BadTrace xan_BadTrace xcd_BadTrace xct_BadTrace), xsl_BadTrace⟩) (xc_BadTrace : PySem.W.codeIn K xcd_BadTrace "BadTrace.__init__" = true)
    (xca_BadTrace : PySem.W.findIn K (.ref X_BadTrace) "__class__" = some (some (.builtin "object.__class__"))) (xcn_BadTrace : PySem.W.specialIn K (.builtin "object.__class__") "__get__" = some (some (.builtin "getset_descriptor.__get__"))) (xct2_BadTrace : PySem.W.takesIn K (.builtin "object.__class__") = some true) (xcm_BadTrace : PySem.W.mroIn K X_BadTrace (.type "object") = some true)
    (xp_BadCurve_BadTrace : PySem.W.subIn K (.ref X_BadCurve) (.ref X_BadTrace) = some false)
    (xp_BadCurve_CurveError : PySem.W.subIn K (.ref X_BadCurve) (.ref X_CurveError) = some true)
    (xp_BadTrace_BadTrace : PySem.W.subIn K (.ref X_BadTrace) (.ref X_BadTrace) = some true)
    (xp_BadTrace_CurveError : PySem.W.subIn K (.ref X_BadTrace) (.ref X_CurveError) = some true)
    {v_GREATEST_PRIME : Nat} (e_GREATEST_PRIME : PySem.W.nsIn K mainGlobals "GREATEST_PRIME" = some (some (.int 199 v_GREATEST_PRIME)))
    {v_LEAST_PRIME : Nat} (e_LEAST_PRIME : PySem.W.nsIn K mainGlobals "LEAST_PRIME" = some (some (.int 7 v_LEAST_PRIME)))
    (y_bool : PySem.W.nsIn K mainGlobals "bool" = some none)
    (y_int : PySem.W.nsIn K mainGlobals "int" = some none)
    (y_isinstance : PySem.W.nsIn K mainGlobals "isinstance" = some none)
    (y_len : PySem.W.nsIn K mainGlobals "len" = some none)
    (y_max : PySem.W.nsIn K mainGlobals "max" = some none)
    (y_min : PySem.W.nsIn K mainGlobals "min" = some none)
    (y_range : PySem.W.nsIn K mainGlobals "range" = some none)
    (y_repr : PySem.W.nsIn K mainGlobals "repr" = some none)
    (y_sorted : PySem.W.nsIn K mainGlobals "sorted" = some none)
    (y_str : PySem.W.nsIn K mainGlobals "str" = some none)
    (y_sum : PySem.W.nsIn K mainGlobals "sum" = some none) :
    ∃ fd : FuncData, (∀ (s : Shared) (u : Value), BindsTo s fd ⟨[u], []⟩ [("_law_script", u)]) ∧ ∃ cs : List (Addr × Addr), TabH h K cs ∧ ∀ (a : Addr) (ns : List Int), ns.length ≤ 63 → ∃ sp : Sp, (∀ H Hs : Hp, Same Hs H → (∀ b xs, H b ≠ some (.tup xs)) → (∀ p ∈ cs, Hs p.2 = none ∧ H p.2 = some (.tbl #[])) → SqL K Hs a (ns.map V.int) → sp [.ref a] H (fun v _ => v = .bl true) fun _ _ _ => False) ∧ ∀ base : Heap, K.In base → base.Ns mainGlobals mg → (∀ p ∈ cs, LamX.TabB base mg p.1 p.2) → FnG l.prog w K mg base (L2.CX l.prog w) 28 fa fd ["_law_script"] sp := by
  have e := hfa.symm.trans (PySem.W.mg_of X G a_law)
  have A : { A : Fa K mg // A.f_law = f_law ∧ A.d_law = PySem.W.fnOf "law" "law" (defArgs s_law) (defBody s_law) (defScope s_law) .none kV_law dc_law pm_law an_law cd_law ct_law ∧ TabH h K A.cs } := ⟨{
    C_Curve := C_Curve,
    cl_Curve := ⟨pg_Curve, hd_Curve, po_Curve, sa_Curve⟩,
    in_Curve := ⟨⟨pg_Curve, hd_Curve, po_Curve, sa_Curve⟩, ia_Curve, ib_Curve, ic_Curve, id_Curve, fun T h => by
      simp only [List.mem_cons, List.not_mem_nil, or_false] at h
      rcases h with rfl | rfl | rfl | rfl | rfl
      · exact kit_no rfl ik_Curve_int
      · exact kit_no rfl ik_Curve_bool
      · exact kit_no rfl ik_Curve_str
      · exact kit_no rfl ik_Curve_tuple
      · exact kit_no rfl ik_Curve_list⟩,
    gC_Curve := PySem.W.mg_of X G aC_Curve,
    nA_Curve_prime := na_Curve_prime,
    nA_Curve_a := na_Curve_a,
    nA_Curve_b := na_Curve_b,
    O_Curve := ⟨a_Curve___eq__, i_Curve___eq__, om_Curve, on_Curve⟩,
    kT_Curve := fun T h => kitT_of oi_Curve ot_Curve h,
    kO_Curve_Curve := kit_of2 oi_Curve ot_Curve os_Curve op_Curve_Curve,
    f_is_integer := f_is_integer,
    d_is_integer := _,
    F_is_integer := fun_mk (st := s_is_integer) l_is_integer c_is_integer k_is_integer,
    g_is_integer := PySem.W.mg_of X G a_is_integer,
    b_is_integer := (fun_mk (st := s_is_integer) l_is_integer c_is_integer k_is_integer).binds (ps := p_is_integer) (fun _ _ _ _ _ _ us hl => match us, hl with | [_], _ => rfl),
    f_is_prime := f_is_prime,
    d_is_prime := _,
    F_is_prime := fun_mk (st := s_is_prime) l_is_prime c_is_prime k_is_prime,
    g_is_prime := PySem.W.mg_of X G a_is_prime,
    b_is_prime := (fun_mk (st := s_is_prime) l_is_prime c_is_prime k_is_prime).binds (ps := p_is_prime) (fun _ _ _ _ _ _ us hl => match us, hl with | [_], _ => rfl),
    f_is_number := f_is_number,
    d_is_number := _,
    F_is_number := fun_mk (st := s_is_number) l_is_number c_is_number k_is_number,
    g_is_number := PySem.W.mg_of X G a_is_number,
    b_is_number := (fun_mk (st := s_is_number) l_is_number c_is_number k_is_number).binds (ps := p_is_number) (fun _ _ _ _ _ _ us hl => match us, hl with | [_, _], _ => rfl),
    f_number_power := f_number_power,
    d_number_power := _,
    F_number_power := fun_mk (st := s_number_power) l_number_power c_number_power k_number_power,
    g_number_power := PySem.W.mg_of X G a_number_power,
    b_number_power := (fun_mk (st := s_number_power) l_number_power c_number_power k_number_power).binds (ps := p_number_power) (fun _ _ _ _ _ _ us hl => match us, hl with | [_, _, _], _ => rfl),
    f_inverse := f_inverse,
    d_inverse := _,
    F_inverse := fun_mk (st := s_inverse) l_inverse c_inverse k_inverse,
    g_inverse := PySem.W.mg_of X G a_inverse,
    b_inverse := (fun_mk (st := s_inverse) l_inverse c_inverse k_inverse).binds (ps := p_inverse) (fun _ _ _ _ _ _ us hl => match us, hl with | [_, _], _ => rfl),
    f_is_square := f_is_square,
    d_is_square := _,
    F_is_square := fun_mk (st := s_is_square) l_is_square c_is_square k_is_square,
    g_is_square := PySem.W.mg_of X G a_is_square,
    b_is_square := (fun_mk (st := s_is_square) l_is_square c_is_square k_is_square).binds (ps := p_is_square) (fun _ _ _ _ _ _ us hl => match us, hl with | [_, _], _ => rfl),
    f_spare := f_spare,
    d_spare := _,
    F_spare := fun_mk (st := s_spare) l_spare c_spare k_spare,
    g_spare := PySem.W.mg_of X G a_spare,
    b_spare := (fun_mk (st := s_spare) l_spare c_spare k_spare).binds (ps := p_spare) (fun _ _ _ _ _ _ us hl => match us, hl with | [_], _ => rfl),
    f_Curve___init__ := f_Curve___init__,
    d_Curve___init__ := _,
    F_Curve___init__ := fun_mk (st := s_Curve___init__) l_Curve___init__ c_Curve___init__ k_Curve___init__,
    b_Curve___init__ := (fun_mk (st := s_Curve___init__) l_Curve___init__ c_Curve___init__ k_Curve___init__).binds (ps := p_Curve___init__) (fun _ _ _ _ _ _ us hl => match us, hl with | [_, _, _, _], _ => rfl),
    K_Curve := ⟨mk_Curve, a_Curve___init__, i_Curve___init__, kc_Curve⟩,
    f_Curve___eq__ := f_Curve___eq__,
    d_Curve___eq__ := _,
    F_Curve___eq__ := fun_mk (st := s_Curve___eq__) l_Curve___eq__ c_Curve___eq__ k_Curve___eq__,
    b_Curve___eq__ := (fun_mk (st := s_Curve___eq__) l_Curve___eq__ c_Curve___eq__ k_Curve___eq__).binds (ps := p_Curve___eq__) (fun _ _ _ _ _ _ us hl => match us, hl with | [_, _], _ => rfl),
    M_Curve___eq__ := ⟨a_Curve___eq__, i_Curve___eq__, k_Curve___eq__⟩,
    f_Curve_twist := f_Curve_twist,
    d_Curve_twist := _,
    F_Curve_twist := fun_mk (st := s_Curve_twist) l_Curve_twist c_Curve_twist k_Curve_twist,
    b_Curve_twist := (fun_mk (st := s_Curve_twist) l_Curve_twist c_Curve_twist k_Curve_twist).binds (ps := p_Curve_twist) (fun _ _ _ _ _ _ us hl => match us, hl with | [_], _ => rfl),
    M_Curve_twist := ⟨a_Curve_twist, i_Curve_twist, k_Curve_twist⟩,
    f_scaled_pair := f_scaled_pair,
    d_scaled_pair := _,
    F_scaled_pair := fun_mk (st := s_scaled_pair) l_scaled_pair c_scaled_pair k_scaled_pair,
    g_scaled_pair := PySem.W.mg_of X G a_scaled_pair,
    b_scaled_pair := (fun_mk (st := s_scaled_pair) l_scaled_pair c_scaled_pair k_scaled_pair).binds (ps := p_scaled_pair) (fun _ _ _ _ _ _ us hl => match us, hl with | [_, _], _ => rfl),
    f_first_like := f_first_like,
    d_first_like := _,
    F_first_like := fun_mk (st := s_first_like) l_first_like c_first_like k_first_like,
    g_first_like := PySem.W.mg_of X G a_first_like,
    b_first_like := (fun_mk (st := s_first_like) l_first_like c_first_like k_first_like).binds (ps := p_first_like) (fun _ _ _ _ _ _ us hl => match us, hl with | [_], _ => rfl),
    f_curve_of := f_curve_of,
    d_curve_of := _,
    F_curve_of := fun_mk (st := s_curve_of) l_curve_of c_curve_of k_curve_of,
    g_curve_of := PySem.W.mg_of X G a_curve_of,
    b_curve_of := (fun_mk (st := s_curve_of) l_curve_of c_curve_of k_curve_of).binds (ps := p_curve_of) (fun _ _ _ _ _ _ us hl => match us, hl with | [_, _], _ => rfl),
    f_square_table := f_square_table,
    d_square_table := _,
    F_square_table := fun_mk (st := s_square_table) l_square_table c_square_table k_square_table,
    g_square_table := PySem.W.mg_of X G a_square_table,
    b_square_table := (fun_mk (st := s_square_table) l_square_table c_square_table k_square_table).binds (ps := p_square_table) (fun _ _ _ _ _ _ us hl => match us, hl with | [_], _ => rfl),
    f_trace_by_table := f_trace_by_table,
    d_trace_by_table := _,
    F_trace_by_table := fun_mk (st := s_trace_by_table) l_trace_by_table c_trace_by_table k_trace_by_table,
    g_trace_by_table := PySem.W.mg_of X G a_trace_by_table,
    b_trace_by_table := (fun_mk (st := s_trace_by_table) l_trace_by_table c_trace_by_table k_trace_by_table).binds (ps := p_trace_by_table) (fun _ _ _ _ _ _ us hl => match us, hl with | [_, _, _, _], _ => rfl),
    f_is_trace := f_is_trace,
    d_is_trace := _,
    F_is_trace := fun_mk (st := s_is_trace) l_is_trace c_is_trace k_is_trace,
    g_is_trace := PySem.W.mg_of X G a_is_trace,
    b_is_trace := (fun_mk (st := s_is_trace) l_is_trace c_is_trace k_is_trace).binds (ps := p_is_trace) (fun _ _ _ _ _ _ us hl => match us, hl with | [_, _], _ => rfl),
    f_curves_of_kind := f_curves_of_kind,
    d_curves_of_kind := _,
    F_curves_of_kind := fun_mk (st := s_curves_of_kind) l_curves_of_kind c_curves_of_kind k_curves_of_kind,
    g_curves_of_kind := PySem.W.mg_of X G a_curves_of_kind,
    b_curves_of_kind := (fun_mk (st := s_curves_of_kind) l_curves_of_kind c_curves_of_kind k_curves_of_kind).binds (ps := p_curves_of_kind) (fun _ _ _ _ _ _ us hl => match us, hl with | [_, _, _, _], _ => rfl),
    f_curves_with := f_curves_with,
    d_curves_with := _,
    F_curves_with := fun_mk (st := s_curves_with) l_curves_with c_curves_with k_curves_with,
    g_curves_with := PySem.W.mg_of X G a_curves_with,
    b_curves_with := (fun_mk (st := s_curves_with) l_curves_with c_curves_with k_curves_with).binds (ps := p_curves_with) (fun _ _ _ _ _ _ us hl => match us, hl with | [_, _, _], _ => rfl),
    f_edge_pairs := f_edge_pairs,
    d_edge_pairs := _,
    F_edge_pairs := fun_mk (st := s_edge_pairs) l_edge_pairs c_edge_pairs k_edge_pairs,
    g_edge_pairs := PySem.W.mg_of X G a_edge_pairs,
    b_edge_pairs := (fun_mk (st := s_edge_pairs) l_edge_pairs c_edge_pairs k_edge_pairs).binds (ps := p_edge_pairs) (fun _ _ _ _ _ _ us hl => match us, hl with | [_, _, _], _ => rfl),
    f_curve_with := f_curve_with,
    d_curve_with := _,
    F_curve_with := fun_mk (st := s_curve_with) l_curve_with c_curve_with k_curve_with,
    g_curve_with := PySem.W.mg_of X G a_curve_with,
    b_curve_with := (fun_mk (st := s_curve_with) l_curve_with c_curve_with k_curve_with).binds (ps := p_curve_with) (fun _ _ _ _ _ _ us hl => match us, hl with | [_, _], _ => rfl),
    f_many_pairs := f_many_pairs,
    d_many_pairs := _,
    F_many_pairs := fun_mk (st := s_many_pairs) l_many_pairs c_many_pairs k_many_pairs,
    g_many_pairs := PySem.W.mg_of X G a_many_pairs,
    b_many_pairs := (fun_mk (st := s_many_pairs) l_many_pairs c_many_pairs k_many_pairs).binds (ps := p_many_pairs) (fun _ _ _ _ _ _ us hl => match us, hl with | [_, _], _ => rfl),
    f__law_deck := f__law_deck,
    d__law_deck := _,
    F__law_deck := fun_mk (st := s__law_deck) l__law_deck c__law_deck k__law_deck,
    g__law_deck := PySem.W.mg_of X G a__law_deck,
    b__law_deck := (fun_mk (st := s__law_deck) l__law_deck c__law_deck k__law_deck).binds (ps := p__law_deck) (fun _ _ _ _ _ _ us hl => match us, hl with | [_], _ => rfl),
    f__law_draw := f__law_draw,
    d__law_draw := _,
    F__law_draw := fun_mk (st := s__law_draw) l__law_draw c__law_draw k__law_draw,
    g__law_draw := PySem.W.mg_of X G a__law_draw,
    b__law_draw := (fun_mk (st := s__law_draw) l__law_draw c__law_draw k__law_draw).binds (ps := p__law_draw) (fun _ _ _ _ _ _ us hl => match us, hl with | [_, _], _ => rfl),
    f__law_pick := f__law_pick,
    d__law_pick := _,
    F__law_pick := fun_mk (st := s__law_pick) l__law_pick c__law_pick k__law_pick,
    g__law_pick := PySem.W.mg_of X G a__law_pick,
    b__law_pick := (fun_mk (st := s__law_pick) l__law_pick c__law_pick k__law_pick).binds (ps := p__law_pick) (fun _ _ _ _ _ _ us hl => match us, hl with | [_, _], _ => rfl),
    f__law_traces := f__law_traces,
    d__law_traces := _,
    F__law_traces := fun_mk (st := s__law_traces) l__law_traces c__law_traces k__law_traces,
    g__law_traces := PySem.W.mg_of X G a__law_traces,
    b__law_traces := (fun_mk (st := s__law_traces) l__law_traces c__law_traces k__law_traces).binds (ps := p__law_traces) (fun _ _ _ _ _ _ us hl => match us, hl with | [_], _ => rfl),
    f__law_table := f__law_table,
    d__law_table := _,
    F__law_table := fun_mk (st := s__law_table) l__law_table c__law_table k__law_table,
    g__law_table := PySem.W.mg_of X G a__law_table,
    b__law_table := (fun_mk (st := s__law_table) l__law_table c__law_table k__law_table).binds (ps := p__law_table) (fun _ _ _ _ _ _ us hl => match us, hl with | [_], _ => rfl),
    f__law_is_right := f__law_is_right,
    d__law_is_right := _,
    F__law_is_right := fun_mk (st := s__law_is_right) l__law_is_right c__law_is_right k__law_is_right,
    g__law_is_right := PySem.W.mg_of X G a__law_is_right,
    b__law_is_right := (fun_mk (st := s__law_is_right) l__law_is_right c__law_is_right k__law_is_right).binds (ps := p__law_is_right) (fun _ _ _ _ _ _ us hl => match us, hl with | [_, _, _, _], _ => rfl),
    f__law_told := f__law_told,
    d__law_told := _,
    F__law_told := fun_mk (st := s__law_told) l__law_told c__law_told k__law_told,
    g__law_told := PySem.W.mg_of X G a__law_told,
    b__law_told := (fun_mk (st := s__law_told) l__law_told c__law_told k__law_told).binds (ps := p__law_told) (fun _ _ _ _ _ _ us hl => match us, hl with | [_], _ => rfl),
    cc_law := cc_law,
    tp_law := tp_law,
    cd_law := tj_law,
    f_law := f_law,
    d_law := _,
    F_law := fun_mk (st := s_law) l_law c_law k_law,
    g_law := PySem.W.mg_of X G a_law,
    b_law := (fun_mk (st := s_law) l_law c_law k_law).binds (ps := p_law) (fun _ _ _ _ _ _ us hl => match us, hl with | [_], _ => rfl),
    X_BadCurve := X_BadCurve,
    xg_BadCurve := PySem.W.mg_of X G xa_BadCurve,
    X_BadTrace := X_BadTrace,
    xg_BadTrace := PySem.W.mg_of X G xa_BadTrace,
    X_CurveError := X_CurveError,
    xg_CurveError := PySem.W.mg_of X G xa_CurveError,
    XI_BadCurve := XI_BadCurve,
    xF_BadCurve := ⟨PySem.W.mg_of X G xa_BadCurve, ⟨_, _, _, _, _, _, _, _, _, _, _, _, _, _, _, xL_BadCurve, xT_BadCurve⟩, xsa_BadCurve, xga_BadCurve, xgg_BadCurve, xno_BadCurve, xI_BadCurve, xtI_BadCurve, xk_BadCurve, xb_BadCurve, xu_BadCurve, xhd_BadCurve, by decide, by decide, ⟨_, _, _, _, _, _, _, _, _, _, _, _, _, _, _, _, xl_BadCurve, xc_BadCurve, fun a b => rfl⟩⟩,
    xE_BadCurve := ⟨xga_BadCurve, xgg_BadCurve, xb_BadCurve, xhd_BadCurve, xca_BadCurve, xcn_BadCurve, xct2_BadCurve, xcm_BadCurve⟩,
    XI_BadTrace := XI_BadTrace,
    xF_BadTrace := ⟨PySem.W.mg_of X G xa_BadTrace, ⟨_, _, _, _, _, _, _, _, _, _, _, _, _, _, _, xL_BadTrace, xT_BadTrace⟩, xsa_BadTrace, xga_BadTrace, xgg_BadTrace, xno_BadTrace, xI_BadTrace, xtI_BadTrace, xk_BadTrace, xb_BadTrace, xu_BadTrace, xhd_BadTrace, by decide, by decide, ⟨_, _, _, _, _, _, _, _, _, _, _, _, _, _, _, _, xl_BadTrace, xc_BadTrace, fun a b => rfl⟩⟩,
    xE_BadTrace := ⟨xga_BadTrace, xgg_BadTrace, xb_BadTrace, xhd_BadTrace, xca_BadTrace, xcn_BadTrace, xct2_BadTrace, xcm_BadTrace⟩,
    xm_BadCurve_BadTrace := exm_of2 xs_BadTrace xi_BadTrace xt_BadTrace xp_BadCurve_BadTrace,
    xk_BadCurve_BadTrace := kit_of2 xi_BadTrace xt_BadTrace xy_BadTrace xp_BadCurve_BadTrace,
    xm_BadCurve_CurveError := exm_of2 xs_CurveError xi_CurveError xt_CurveError xp_BadCurve_CurveError,
    xk_BadCurve_CurveError := kit_of2 xi_CurveError xt_CurveError xy_CurveError xp_BadCurve_CurveError,
    xm_BadTrace_BadTrace := exm_of2 xs_BadTrace xi_BadTrace xt_BadTrace xp_BadTrace_BadTrace,
    xk_BadTrace_BadTrace := kit_of2 xi_BadTrace xt_BadTrace xy_BadTrace xp_BadTrace_BadTrace,
    xm_BadTrace_CurveError := exm_of2 xs_CurveError xi_CurveError xt_CurveError xp_BadTrace_CurveError,
    xk_BadTrace_CurveError := kit_of2 xi_CurveError xt_CurveError xy_CurveError xp_BadTrace_CurveError,
    kb_curve_with_0 := kb_of (fun_mk (st := s_curve_with) l_curve_with c_curve_with k_curve_with) (fun _ _ _ _ _ _ us ws h1 h2 => match us, ws, h1, h2 with | [], [_, _], _, _ => rfl),
    kb_many_pairs_0 := kb_of (fun_mk (st := s_many_pairs) l_many_pairs c_many_pairs k_many_pairs) (fun _ _ _ _ _ _ us ws h1 h2 => match us, ws, h1, h2 with | [], [_, _], _, _ => rfl),
    v_GREATEST_PRIME := v_GREATEST_PRIME,
    g_GREATEST_PRIME := PySem.W.mg_of X G e_GREATEST_PRIME,
    v_LEAST_PRIME := v_LEAST_PRIME,
    g_LEAST_PRIME := PySem.W.mg_of X G e_LEAST_PRIME,
    z_bool := PySem.W.mg_none_of X G y_bool,
    z_int := PySem.W.mg_none_of X G y_int,
    z_isinstance := PySem.W.mg_none_of X G y_isinstance,
    z_len := PySem.W.mg_none_of X G y_len,
    z_max := PySem.W.mg_none_of X G y_max,
    z_min := PySem.W.mg_none_of X G y_min,
    z_range := PySem.W.mg_none_of X G y_range,
    z_repr := PySem.W.mg_none_of X G y_repr,
    z_sorted := PySem.W.mg_none_of X G y_sorted,
    z_str := PySem.W.mg_none_of X G y_str,
    z_sum := PySem.W.mg_none_of X G y_sum }, rfl, rfl, ⟨fun p hp => (by
    unfold Fa.cs at hp
    simp only [List.mem_cons, List.not_mem_nil, or_false] at hp
    rcases hp with rfl
    · exact (TH _ _ _ tr_law (tabIn_mk a_law l_law tj_law tk_law tl_law)).2
    ), fun p hp => (by
    unfold Fa.cs at hp
    simp only [List.mem_cons, List.not_mem_nil, or_false] at hp
    rcases hp with rfl
    · exact (TH _ _ _ tr_law (tabIn_mk a_law l_law tj_law tk_law tl_law)).1
    ), fun p hp => (by
    unfold Fa.cs at hp
    simp only [List.mem_cons, List.not_mem_nil, or_false] at hp
    rcases hp with rfl
    · exact to_law
    )⟩⟩
  obtain ⟨A, h1, h2, hT⟩ := A
  have h3 : fa = A.f_law := by
    rw [h1]
    exact Value.ref.inj (Option.some.inj e)
  subst h3
  refine ⟨A.d_law, fun s u => by rw [h2]; exact .of_eq rfl, A.cs, hT, fun a ns hl => ?_⟩
  let C0 : Ct := { K := K, n1 := n_1, n2 := n_2, n3 := n_3, sc := (some (a, ns), A.cl, ktB, A.tb), xc := A.xc, H0 := fun _ => none, F0 := ⟨fun _ => none, none, (none, [], false, [])⟩, Φ := fun _ _ _ => .no, fu := 0 }
  exact ⟨spS C0 (FT (T ns) (fun _ => none) (8 + 1) 28) 1, fun H Hs same nt ht hS => law_sp (C := C0) rfl same nt (fun P q m => let ⟨_, z⟩ := A.tc P q m; ht _ z) hS (law_val ns hl), fun base _ _ hB => ok_law (C := C0) A a ns ⟨rfl, rfl, rfl, rfl, rfl, rfl, rfl, rfl⟩ ⟨hB (A.cc_law, A.tp_law) (by simp [Fa.cs])⟩ 9 27 (by omega)⟩
end Xk18
open PySem PySem.W PyProof.Rows
set_option maxHeartbeats 0 in
theorem PySem.Challenge.cw_craterhouse_k18_curves_and_pairs_of_a_tr_holds : PySem.Challenge.rw_craterhouse_k18_curves_and_pairs_of_a_tr.Holds := by
  w_on; o_law; k_head; (case hw => w_witness2)
  k_fill
  refine Pv.walkEnd (l := PySem.Challenge.rw_craterhouse_k18_curves_and_pairs_of_a_tr) (n := 63) (k := 28) (x := "_law_script") rfl (by decide) rfl ⟨rfl, by decide, by decide⟩ (fun w h Y => PySem.W.km_in_of Y) ?F
  case F =>
    intro w mg fa h KX G hmg TH
    refine' Xk18.fin KX G hmg TH ?aC_Curve ?pg_Curve ?hd_Curve ?po_Curve ?sa_Curve ?mk_Curve ?kc_Curve ?na_Curve_prime ?na_Curve_a ?na_Curve_b ?ia_Curve ?ib_Curve ?ic_Curve ?id_Curve ?ik_Curve_int ?ik_Curve_bool ?ik_Curve_str ?ik_Curve_tuple ?ik_Curve_list ?om_Curve ?on_Curve ?oi_Curve ?ot_Curve ?os_Curve ?op_Curve_Curve ?a_is_integer ?l_is_integer ?c_is_integer ?k_is_integer ?a_is_prime ?l_is_prime ?c_is_prime ?k_is_prime ?a_is_number ?l_is_number ?c_is_number ?k_is_number ?a_number_power ?l_number_power ?c_number_power ?k_number_power ?a_inverse ?l_inverse ?c_inverse ?k_inverse ?a_is_square ?l_is_square ?c_is_square ?k_is_square ?a_spare ?l_spare ?c_spare ?k_spare ?a_Curve___init__ ?i_Curve___init__ ?l_Curve___init__ ?c_Curve___init__ ?k_Curve___init__ ?a_Curve___eq__ ?i_Curve___eq__ ?l_Curve___eq__ ?c_Curve___eq__ ?k_Curve___eq__ ?a_Curve_twist ?i_Curve_twist ?l_Curve_twist ?c_Curve_twist ?k_Curve_twist ?a_scaled_pair ?l_scaled_pair ?c_scaled_pair ?k_scaled_pair ?a_first_like ?l_first_like ?c_first_like ?k_first_like ?a_curve_of ?l_curve_of ?c_curve_of ?k_curve_of ?a_square_table ?l_square_table ?c_square_table ?k_square_table ?a_trace_by_table ?l_trace_by_table ?c_trace_by_table ?k_trace_by_table ?a_is_trace ?l_is_trace ?c_is_trace ?k_is_trace ?a_curves_of_kind ?l_curves_of_kind ?c_curves_of_kind ?k_curves_of_kind ?a_curves_with ?l_curves_with ?c_curves_with ?k_curves_with ?a_edge_pairs ?l_edge_pairs ?c_edge_pairs ?k_edge_pairs ?a_curve_with ?l_curve_with ?c_curve_with ?k_curve_with ?a_many_pairs ?l_many_pairs ?c_many_pairs ?k_many_pairs ?a__law_deck ?l__law_deck ?c__law_deck ?k__law_deck ?a__law_draw ?l__law_draw ?c__law_draw ?k__law_draw ?a__law_pick ?l__law_pick ?c__law_pick ?k__law_pick ?a__law_traces ?l__law_traces ?c__law_traces ?k__law_traces ?a__law_table ?l__law_table ?c__law_table ?k__law_table ?a__law_is_right ?l__law_is_right ?c__law_is_right ?k__law_is_right ?a__law_told ?l__law_told ?c__law_told ?k__law_told ?a_law ?l_law ?c_law ?k_law ?xtj_law ?tk_law ?xtl_law ?xtr_law ?xto_law ?xa_BadCurve ?xa_BadTrace ?xa_CurveError ?xi_BadTrace ?xt_BadTrace ?xs_BadTrace ?xy_BadTrace ?xi_CurveError ?xt_CurveError ?xs_CurveError ?xy_CurveError ?xk_BadCurve ?xb_BadCurve ?xu_BadCurve ?xL_BadCurve ?xT_BadCurve ?xsa_BadCurve ?xga_BadCurve ?xgg_BadCurve ?xno_BadCurve ?xI_BadCurve ?xtI_BadCurve ?xhd_BadCurve ?xl_BadCurve ?xc_BadCurve ?xca_BadCurve ?xcn_BadCurve ?xct2_BadCurve ?xcm_BadCurve ?xk_BadTrace ?xb_BadTrace ?xu_BadTrace ?xL_BadTrace ?xT_BadTrace ?xsa_BadTrace ?xga_BadTrace ?xgg_BadTrace ?xno_BadTrace ?xI_BadTrace ?xtI_BadTrace ?xhd_BadTrace ?xl_BadTrace ?xc_BadTrace ?xca_BadTrace ?xcn_BadTrace ?xct2_BadTrace ?xcm_BadTrace ?xp_BadCurve_BadTrace ?xp_BadCurve_CurveError ?xp_BadTrace_BadTrace ?xp_BadTrace_CurveError ?e_GREATEST_PRIME ?e_LEAST_PRIME ?y_bool ?y_int ?y_isinstance ?y_len ?y_max ?y_min ?y_range ?y_repr ?y_sorted ?y_str ?y_sum
    (case aC_Curve => k_is)
    (case pg_Curve => k_is)
    (case hd_Curve => k_is)
    (case po_Curve => k_is)
    (case sa_Curve => k_is)
    (case mk_Curve => k_is)
    (case kc_Curve => k_is)
    (case na_Curve_prime => k_is)
    (case na_Curve_a => k_is)
    (case na_Curve_b => k_is)
    (case ia_Curve => k_is)
    (case ib_Curve => k_is)
    (case ic_Curve => k_is)
    (case id_Curve => k_is)
    (case ik_Curve_int => k_is)
    (case ik_Curve_bool => k_is)
    (case ik_Curve_str => k_is)
    (case ik_Curve_tuple => k_is)
    (case ik_Curve_list => k_is)
    (case om_Curve => k_is)
    (case on_Curve => k_is)
    (case oi_Curve => k_is)
    (case ot_Curve => k_is)
    (case os_Curve => k_is)
    (case op_Curve_Curve => k_is)
    (case a_is_integer => k_is)
    (case l_is_integer => k_is)
    (case c_is_integer => k_is)
    (case k_is_integer => k_is)
    (case a_is_prime => k_is)
    (case l_is_prime => k_is)
    (case c_is_prime => k_is)
    (case k_is_prime => k_is)
    (case a_is_number => k_is)
    (case l_is_number => k_is)
    (case c_is_number => k_is)
    (case k_is_number => k_is)
    (case a_number_power => k_is)
    (case l_number_power => k_is)
    (case c_number_power => k_is)
    (case k_number_power => k_is)
    (case a_inverse => k_is)
    (case l_inverse => k_is)
    (case c_inverse => k_is)
    (case k_inverse => k_is)
    (case a_is_square => k_is)
    (case l_is_square => k_is)
    (case c_is_square => k_is)
    (case k_is_square => k_is)
    (case a_spare => k_is)
    (case l_spare => k_is)
    (case c_spare => k_is)
    (case k_spare => k_is)
    (case a_Curve___init__ => k_is)
    (case i_Curve___init__ => k_is)
    (case l_Curve___init__ => k_is)
    (case c_Curve___init__ => k_is)
    (case k_Curve___init__ => k_is)
    (case a_Curve___eq__ => k_is)
    (case i_Curve___eq__ => k_is)
    (case l_Curve___eq__ => k_is)
    (case c_Curve___eq__ => k_is)
    (case k_Curve___eq__ => k_is)
    (case a_Curve_twist => k_is)
    (case i_Curve_twist => k_is)
    (case l_Curve_twist => k_is)
    (case c_Curve_twist => k_is)
    (case k_Curve_twist => k_is)
    (case a_scaled_pair => k_is)
    (case l_scaled_pair => k_is)
    (case c_scaled_pair => k_is)
    (case k_scaled_pair => k_is)
    (case a_first_like => k_is)
    (case l_first_like => k_is)
    (case c_first_like => k_is)
    (case k_first_like => k_is)
    (case a_curve_of => k_is)
    (case l_curve_of => k_is)
    (case c_curve_of => k_is)
    (case k_curve_of => k_is)
    (case a_square_table => k_is)
    (case l_square_table => k_is)
    (case c_square_table => k_is)
    (case k_square_table => k_is)
    (case a_trace_by_table => k_is)
    (case l_trace_by_table => k_is)
    (case c_trace_by_table => k_is)
    (case k_trace_by_table => k_is)
    (case a_is_trace => k_is)
    (case l_is_trace => k_is)
    (case c_is_trace => k_is)
    (case k_is_trace => k_is)
    (case a_curves_of_kind => k_is)
    (case l_curves_of_kind => k_is)
    (case c_curves_of_kind => k_is)
    (case k_curves_of_kind => k_is)
    (case a_curves_with => k_is)
    (case l_curves_with => k_is)
    (case c_curves_with => k_is)
    (case k_curves_with => k_is)
    (case a_edge_pairs => k_is)
    (case l_edge_pairs => k_is)
    (case c_edge_pairs => k_is)
    (case k_edge_pairs => k_is)
    (case a_curve_with => k_is)
    (case l_curve_with => k_is)
    (case c_curve_with => k_is)
    (case k_curve_with => k_is)
    (case a_many_pairs => k_is)
    (case l_many_pairs => k_is)
    (case c_many_pairs => k_is)
    (case k_many_pairs => k_is)
    (case a__law_deck => k_is)
    (case l__law_deck => k_is)
    (case c__law_deck => k_is)
    (case k__law_deck => k_is)
    (case a__law_draw => k_is)
    (case l__law_draw => k_is)
    (case c__law_draw => k_is)
    (case k__law_draw => k_is)
    (case a__law_pick => k_is)
    (case l__law_pick => k_is)
    (case c__law_pick => k_is)
    (case k__law_pick => k_is)
    (case a__law_traces => k_is)
    (case l__law_traces => k_is)
    (case c__law_traces => k_is)
    (case k__law_traces => k_is)
    (case a__law_table => k_is)
    (case l__law_table => k_is)
    (case c__law_table => k_is)
    (case k__law_table => k_is)
    (case a__law_is_right => k_is)
    (case l__law_is_right => k_is)
    (case c__law_is_right => k_is)
    (case k__law_is_right => k_is)
    (case a__law_told => k_is)
    (case l__law_told => k_is)
    (case c__law_told => k_is)
    (case k__law_told => k_is)
    (case a_law => k_is)
    (case l_law => k_is)
    (case c_law => k_is)
    (case k_law => k_is)
    (case xtj_law => first | k_is | rfl | k_exc | decide +kernel | kernel_rfl)
    (case tk_law => k_is)
    (case xtl_law => first | k_is | rfl | k_exc | decide +kernel | kernel_rfl)
    (case xtr_law => first | k_is | rfl | k_exc | decide +kernel | kernel_rfl)
    (case xto_law => first | k_is | rfl | k_exc | decide +kernel | kernel_rfl)
    (case xa_BadCurve => first | k_is | rfl | k_exc | decide +kernel)
    (case xa_BadTrace => first | k_is | rfl | k_exc | decide +kernel)
    (case xa_CurveError => first | k_is | rfl | k_exc | decide +kernel)
    (case xi_BadTrace => first | k_is | rfl | k_exc | decide +kernel)
    (case xt_BadTrace => first | k_is | rfl | k_exc | decide +kernel | kernel_rfl)
    (case xs_BadTrace => first | k_is | rfl | k_exc | decide +kernel)
    (case xy_BadTrace => first | k_is | rfl | k_exc | decide +kernel)
    (case xi_CurveError => first | k_is | rfl | k_exc | decide +kernel)
    (case xt_CurveError => first | k_is | rfl | k_exc | decide +kernel | kernel_rfl)
    (case xs_CurveError => first | k_is | rfl | k_exc | decide +kernel)
    (case xy_CurveError => first | k_is | rfl | k_exc | decide +kernel)
    (case xk_BadCurve => first | k_is | rfl | k_exc | decide +kernel)
    (case xb_BadCurve => first | k_is | rfl | k_exc | decide +kernel)
    (case xu_BadCurve => first | k_is | rfl | k_exc | decide +kernel)
    (case xL_BadCurve => first | k_is | rfl | k_exc | decide +kernel)
    (case xT_BadCurve => first | k_is | rfl | k_exc | decide +kernel)
    (case xsa_BadCurve => first | k_is | rfl | k_exc | decide +kernel)
    (case xga_BadCurve => first | k_is | rfl | k_exc | decide +kernel)
    (case xgg_BadCurve => first | k_is | rfl | k_exc | decide +kernel)
    (case xno_BadCurve => first | k_is | rfl | k_exc | decide +kernel)
    (case xI_BadCurve => first | k_is | rfl | k_exc | decide +kernel)
    (case xtI_BadCurve => first | k_is | rfl | k_exc | decide +kernel | kernel_rfl)
    (case xhd_BadCurve => first | k_is | rfl | k_exc | decide +kernel)
    (case xl_BadCurve => first | k_is | rfl | k_exc | decide +kernel)
    (case xc_BadCurve => first | k_is | rfl | k_exc | decide +kernel)
    (case xca_BadCurve => first | k_is | rfl | k_exc | decide +kernel)
    (case xcn_BadCurve => first | k_is | rfl | k_exc | decide +kernel)
    (case xct2_BadCurve => first | k_is | rfl | k_exc | decide +kernel)
    (case xcm_BadCurve => first | k_is | rfl | k_exc | decide +kernel)
    (case xk_BadTrace => first | k_is | rfl | k_exc | decide +kernel)
    (case xb_BadTrace => first | k_is | rfl | k_exc | decide +kernel)
    (case xu_BadTrace => first | k_is | rfl | k_exc | decide +kernel)
    (case xL_BadTrace => first | k_is | rfl | k_exc | decide +kernel)
    (case xT_BadTrace => first | k_is | rfl | k_exc | decide +kernel)
    (case xsa_BadTrace => first | k_is | rfl | k_exc | decide +kernel)
    (case xga_BadTrace => first | k_is | rfl | k_exc | decide +kernel)
    (case xgg_BadTrace => first | k_is | rfl | k_exc | decide +kernel)
    (case xno_BadTrace => first | k_is | rfl | k_exc | decide +kernel)
    (case xI_BadTrace => first | k_is | rfl | k_exc | decide +kernel)
    (case xtI_BadTrace => first | k_is | rfl | k_exc | decide +kernel | kernel_rfl)
    (case xhd_BadTrace => first | k_is | rfl | k_exc | decide +kernel)
    (case xl_BadTrace => first | k_is | rfl | k_exc | decide +kernel)
    (case xc_BadTrace => first | k_is | rfl | k_exc | decide +kernel)
    (case xca_BadTrace => first | k_is | rfl | k_exc | decide +kernel)
    (case xcn_BadTrace => first | k_is | rfl | k_exc | decide +kernel)
    (case xct2_BadTrace => first | k_is | rfl | k_exc | decide +kernel)
    (case xcm_BadTrace => first | k_is | rfl | k_exc | decide +kernel)
    (case xp_BadCurve_BadTrace => first | k_is | rfl | k_exc | decide +kernel)
    (case xp_BadCurve_CurveError => first | k_is | rfl | k_exc | decide +kernel)
    (case xp_BadTrace_BadTrace => first | k_is | rfl | k_exc | decide +kernel)
    (case xp_BadTrace_CurveError => first | k_is | rfl | k_exc | decide +kernel)
    (case e_GREATEST_PRIME => k_is)
    (case e_LEAST_PRIME => k_is)
    (case y_bool => k_is)
    (case y_int => k_is)
    (case y_isinstance => k_is)
    (case y_len => k_is)
    (case y_max => k_is)
    (case y_min => k_is)
    (case y_range => k_is)
    (case y_repr => k_is)
    (case y_sorted => k_is)
    (case y_str => k_is)
    (case y_sum => k_is)
end
