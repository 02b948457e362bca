import PyProof.Rows.All
import Wide.All
import OpenK.AllK
import Wide.FinOn
import PySem.Challenge.RW_planetwheels_k09_errors
import KE.KStateDown
import HandS.Head0
import HandS.Head1
import HandS.Head2
import HandS.ForMost
import HandS.ForSpec
import HandS.TupMul
import HandS.TupAny
import HandS.Wide
import HandS.Text
import HandS.Strs
import KE.SortData
import KE.DataMinMax
import KE.DataEq
import KE.DataCmp
import KE.DataFind
import KE.DatumIndex
import HandS.IsInst
import HandS.Conv
import HandS.RaiseMore
import HandS.SortInts
import HandS.Style
import HandS.ExcOwn
import HandS.ExcCtx
import HandS.HotCalls
import HandS.Defaults
import KE.KExcSuper
import KE.KSuper
import HandS.ExcInit
import HandS.ExcSuper
import HandS.MakeKwOnly
import HandS.ExcField
import HandS.ExcIs
import PyProof.ReprRoads
import PyProof.StrLawsRepr
import HandS.Zip
import HandS.Walk
import PyProof.Draws
import HandS.More
import HandS.Ends
import HandS.HeadHook2
import HandS.Codes

section
/-! P2: a deterministic interpreter of the Python subset in which the program and its laws are written. Plain Lean, no model in sight.
Values D, objects DO (tracked on a heap by number, or owned by a slot), expressions Xe, statements Xs. -/
set_option autoImplicit false
namespace P2

inductive D where
  | non | bl (b : Bool) | int (i : Int) | str (s : List Nat)
  | tup (xs : List D) | lst (xs : List D) | dct (kvs : List (D × D))
  | obj (c : Nat) (fs : List (Nat × D))
  | loc (l : Nat) | fn (f : Nat) | own (i : Nat)
  deriving Inhabited, Repr

/-- an object that changes: tracked on the heap, or owned by a slot -/
inductive DO where
  | lst (xs : List D) | dct (kvs : List (D × D)) | ins (c : Nat) (fs : List (Nat × D))
  deriving Inhabited, Repr
abbrev DHp := List DO

structure Exn where
  c : Nat
  fs : List (Nat × D)
  deriving Inhabited, Repr

inductive Slot where
  | emp | val (d : D) | own (o : DO) | exn (x : Exn)
  deriving Inhabited, Repr

def snap : DO → D
  | .lst xs => .lst xs
  | .dct kvs => .dct kvs
  | .ins c fs => .obj c fs

inductive R (α : Type) where
  | ok (a : α) (h : DHp) | ex (x : Exn) (h : DHp) | stk
  deriving Repr

def R.bind {α β : Type} (m : R α) (f : α → DHp → R β) : R β :=
  match m with
  | .ok a h => f a h
  | .ex x h => .ex x h
  | .stk => .stk

/-! ### equality, order -/
mutual
def eqv : D → D → Bool
  | .non, e => match e with | .non => true | _ => false
  | .bl a, e => match e with | .bl b => a == b | .int j => (if a then (1 : Int) else 0) == j | _ => false
  | .int i, e => match e with | .bl b => i == (if b then (1 : Int) else 0) | .int j => i == j | _ => false
  | .str x, e => match e with | .str y => x == y | _ => false
  | .lst xs, e => match e with | .lst ys => eqvs xs ys | _ => false
  | .tup xs, e => match e with | .tup ys => eqvs xs ys | _ => false
  | .dct _, _ => false
  | .obj _ _, _ => false
  | .loc _, _ => false
  | .fn _, _ => false
  | .own _, _ => false
def eqvs : List D → List D → Bool
  | [], e => match e with | [] => true | _ :: _ => false
  | x :: xs, e => match e with | y :: ys => eqv x y && eqvs xs ys | [] => false
end
mutual
/-- numbers, truth values, None, texts, tuples and lists of these, at most n deep -/
def pl : Nat → D → Bool
  | n, .lst xs => match n with | 0 => false | n + 1 => pls n xs
  | n, .tup xs => match n with | 0 => false | n + 1 => pls n xs
  | _, .non | _, .bl _ | _, .int _ | _, .str _ => true
  | _, .dct _ | _, .obj _ _ | _, .loc _ | _, .fn _ | _, .own _ => false
def pls : Nat → List D → Bool
  | _, [] => true
  | n, x :: xs => pl n x && pls n xs
end
def plain (d : D) : Bool := pl 40 d
def plains (xs : List D) : Bool := pls 39 xs
mutual
/-- may be compared by order: of one kind, at every place -/
def alike : D → D → Bool
  | .int _, e => match e with | .int _ => true | _ => false
  | .str _, e => match e with | .str _ => true | _ => false
  | .tup xs, e => match e with | .tup ys => alikes xs ys | _ => false
  | .lst xs, e => match e with | .lst ys => alikes xs ys | _ => false
  | .non, _ | .bl _, _ | .dct _, _ | .obj _ _, _ | .loc _, _ | .fn _, _ | .own _, _ => false
def alikes : List D → List D → Bool
  | [], _ => true
  | x :: xs, e => match e with | y :: ys => alike x y && alikes xs ys | [] => true
end
def ltStr : List Nat → List Nat → Bool
  | [], e => match e with | [] => false | _ :: _ => true
  | x :: xs, e => match e with | [] => false | y :: ys => x < y || (x == y && ltStr xs ys)
mutual
def lt : D → D → Bool
  | .int i, e => match e with | .int j => i < j | _ => false
  | .str x, e => match e with | .str y => ltStr x y | _ => false
  | .tup xs, e => match e with | .tup ys => lts xs ys | _ => false
  | .lst xs, e => match e with | .lst ys => lts xs ys | _ => false
  | .non, _ | .bl _, _ | .dct _, _ | .obj _ _, _ | .loc _, _ | .fn _, _ | .own _, _ => false
def lts : List D → List D → Bool
  | [], e => match e with | [] => false | _ :: _ => true
  | x :: xs, e => match e with | [] => false | y :: ys => if eqv x y then lts xs ys else lt x y
end
def le (a b : D) : Bool := !lt b a

/-! ### dicts -/
def dGet (kvs : List (D × D)) (k : D) : Option D := (kvs.find? fun p => eqv p.1 k).map (·.2)
def dHas (kvs : List (D × D)) (k : D) : Bool := kvs.any fun p => eqv p.1 k
def dPut : List (D × D) → D → D → List (D × D)
  | [], k, v => [(k, v)]
  | p :: r, k, v => if eqv p.1 k then (p.1, v) :: r else p :: dPut r k v
/-- a key: a number, a text, or a tuple of these -/
def isAtom : D → Bool
  | .int _ | .str _ => true
  | _ => false
def isKey : D → Bool
  | .int _ | .str _ => true
  | .tup xs => xs.all isAtom
  | _ => false
def fGet (fs : List (Nat × D)) (n : Nat) : Option D := (fs.find? fun p => p.1 == n).map (·.2)
def fPut : List (Nat × D) → Nat → D → List (Nat × D)
  | [], n, v => [(n, v)]
  | p :: r, n, v => if p.1 == n then (n, v) :: r else p :: fPut r n v

/-! ### operators -/
inductive BOp where | add | sub | mul | fdiv | mod | pow
  deriving DecidableEq, Repr
inductive COp where | eq | ne | lt | le | gt | ge | isin | notin | is | isnot
  deriving DecidableEq, Repr

def lineMax : Nat := 16777216
def mulOk (i j : Int) : Bool := decide (i.natAbs < 2 ^ 64) || decide (j.natAbs < 2 ^ 64)
def b2i (b : Bool) : Int := if b then 1 else 0
/-- // of a divisor that is not 0 -/
def fdivI (i j : Int) : Int := if 0 < j then i / j else i.fdiv j
def modI (i j : Int) : Int := if 0 < j then i % j else i.fmod j
def repeatD (n : Nat) (xs : List D) : List D := (List.replicate n xs).flatten

def opAdd : D → D → Option D
  | .int i, e => match e with | .int j => some (.int (i + j)) | _ => none
  | .str x, e => match e with | .str y => if x.length + y.length ≤ lineMax then some (.str (x ++ y)) else none | _ => none
  | .lst xs, e => match e with | .lst ys => if xs.length + ys.length ≤ lineMax then some (.lst (xs ++ ys)) else none | _ => none
  | .tup xs, e => match e with | .tup ys => if xs.length + ys.length ≤ lineMax then some (.tup (xs ++ ys)) else none | _ => none
  | _, _ => none
def opMul : D → D → Option D
  | .int i, e => match e with | .int j => if mulOk i j then some (.int (i * j)) else none | _ => none
  | _, _ => none
def fdivOk (j : Int) : Bool := (decide (0 < j) && decide (j.natAbs < 2 ^ 1000)) || (decide (j < 0) && decide (j.natAbs < 2 ^ 30))
def bop : BOp → D → D → Option D
  | .add, a, b => opAdd a b
  | .sub, a, b => match a with | .int i => (match b with | .int j => some (.int (i - j)) | _ => none) | _ => none
  | .mul, a, b => opMul a b
  | .fdiv, a, b => match a with | .int i => (match b with | .int j => if fdivOk j then some (.int (fdivI i j)) else none | _ => none) | _ => none
  | .mod, a, b => match a with | .int i => (match b with | .int j => if j ≠ 0 then some (.int (modI i j)) else none | _ => none) | _ => none
  | .pow, a, b => match a with | .int i => (match b with | .int j => if 0 ≤ j ∧ j ≤ 64 ∧ i.natAbs ≤ 1000 then some (.int (i ^ j.toNat)) else none | _ => none) | _ => none

def isChar : List Nat → Option Nat
  | [c] => some c
  | _ => none
/-- x in c -/
def isIn (x c : D) : Option Bool :=
  match c with
  | .lst ys => if plain x && plains ys then some (ys.any fun y => eqv y x) else none
  | .tup ys => if plain x && plains ys then some (ys.any fun y => eqv y x) else none
  | .str z => match x with
    | .str w => match isChar w with
      | some c => some (decide (c ∈ z))
      | none => none
    | _ => none
  | _ => none
def keysPlain (kvs : List (D × D)) : Bool := kvs.all fun p => isKey p.1 && plain p.2
/-- == of two dicts -/
def dctEq (a b : List (D × D)) : Bool := a.length == b.length && a.all fun p => match dGet b p.1 with | some v => eqv p.2 v | none => false
def eqD (a b : D) : Option Bool := if plain a && plain b then some (eqv a b) else none
def isNon : D → Bool
  | .non => true
  | _ => false
def cop : COp → D → D → Option Bool
  | .eq, a, b => eqD a b
  | .ne, a, b => (eqD a b).map (!·)
  | .lt, a, b => if plain a && plain b && alike a b then some (lt a b) else none
  | .gt, a, b => if plain a && plain b && alike a b then some (lt b a) else none
  | .le, a, b => if plain a && plain b && alike a b then some (!lt b a) else none
  | .ge, a, b => if plain a && plain b && alike a b then some (!lt a b) else none
  | .isin, a, b => isIn a b
  | .notin, a, b => (isIn a b).map (!·)
  | .is, a, b => match b with | .non => some (isNon a) | _ => none
  | .isnot, a, b => match b with | .non => some (!isNon a) | _ => none

/-- an index of a sequence of n: from the end where it is below 0 -/
def ix (n : Nat) (i : Int) : Option Nat :=
  if 0 ≤ i then (if i < n then some i.toNat else none) else (if 0 ≤ i + n then some (i + n).toNat else none)
def idxD (a b : D) : Option D :=
  match a with
  | .lst xs => match b with | .int i => (match ix xs.length i with | some k => xs[k]? | none => none) | _ => none
  | .tup xs => match b with | .int i => (match ix xs.length i with | some k => xs[k]? | none => none) | _ => none
  | .str z => match b with | .int i => if z.length ≤ lineMax then (match ix z.length i with | some k => (z[k]?).map fun c => D.str [c] | none => none) else none | _ => none
  | _ => none
/-- a slice's end -/
def clip (n : Nat) (i : Int) : Nat := if 0 ≤ i then min i.toNat n else (i + n).toNat
def cut {α : Type} (xs : List α) (lo hi : Option Int) : List α :=
  let l := match lo with | some i => clip xs.length i | none => 0
  let u := match hi with | some i => clip xs.length i | none => xs.length
  (xs.drop l).take (u - l)
def sliceD (a : D) (lo hi : Option Int) : Option D :=
  match a with
  | .lst xs => some (.lst (cut xs lo hi))
  | .tup xs => some (.tup (cut xs lo hi))
  | .str z => if z.length ≤ lineMax then some (.str (cut z lo hi)) else none
  | _ => none

/-! ### built-ins -/
inductive Bi where
  | len | abs | int | lst | tup | sum | sum2 | max1 | min1 | max2 | min2 | all | any | sorted | sortedSet | lenSet | dict | str
  | isInt | isBool | isStr | isRow | isTup | isLst | isDct | isObj (c : Nat)
  | rngList | zipList | itemsList | valsList
  | get | count | index | join | split
  deriving DecidableEq, Repr

def rng (a b s : Int) : List D :=
  if 0 < s then (List.range ((b - a + s - 1) / s).toNat).map fun (k : Nat) => D.int (a + k * s) else []
def allInts : List D → Option (List Int)
  | [] => some []
  | .int i :: r => (allInts r).map (i :: ·)
  | _ :: _ => none
def allBools : List D → Option (List Bool)
  | [] => some []
  | .bl b :: r => (allBools r).map (b :: ·)
  | _ :: _ => none
def allStrs : List D → Option (List (List Nat))
  | [] => some []
  | .str s :: r => (allStrs r).map (s :: ·)
  | _ :: _ => none
def allLsts : List D → Option (List (List D))
  | [] => some []
  | .lst s :: r => (allLsts r).map (s :: ·)
  | _ :: _ => none
/-- items that may be sorted: all alike -/
def sortable (xs : List D) : Bool :=
  plains xs && (xs.all fun a => xs.all fun b => alike a b) && ((xs.all fun a => match a with | .tup (_ :: _) => true | _ => false) || xs.all fun a => match a with | .int _ | .str _ | .lst _ => true | _ => false)
def sortD (xs : List D) : List D := xs.mergeSort le
/-- the unlike ones, first ones first -/
def dedup : List D → List D → List D
  | acc, [] => acc
  | acc, x :: r => if acc.any fun y => eqv y x then dedup acc r else dedup (acc ++ [x]) r
def allOf (p : D → Bool) (xs : List D) : Bool := xs.all p
def homo (xs : List D) : Bool := xs.all (fun x => match x with | .int _ => true | _ => false) || xs.all (fun x => match x with | .str _ => true | _ => false)
def maxD : D → List D → D
  | m, [] => m
  | m, x :: r => maxD (if lt m x then x else m) r
def minD : D → List D → D
  | m, [] => m
  | m, x :: r => minD (if lt x m then x else m) r
def itemsOf : D → Option (List D)
  | .lst xs => some xs
  | .tup xs => some xs
  | _ => none
def natText (n : Nat) : List Nat := (Nat.repr n).toList.map Char.toNat
def intText (i : Int) : List Nat := if i < 0 then 45 :: natText i.natAbs else natText i.toNat
def dictOf : List (D × D) → List D → Option (List (D × D))
  | acc, [] => some acc
  | acc, x :: r => match x with
    | .tup [k, v] => if isKey k then dictOf (dPut acc k v) r else none
    | _ => none
def idxOf : List D → D → Nat → Option Nat
  | [], _, _ => none
  | y :: r, x, k => if eqv y x then some k else idxOf r x (k + 1)
def joinS (sep : List Nat) : List (List Nat) → List Nat
  | [] => []
  | [x] => x
  | x :: y :: r => x ++ sep ++ joinS sep (y :: r)
/-- the parts between signs c -/
def splitC (c : Nat) : List Nat → List Nat → List (List Nat)
  | acc, [] => [acc]
  | acc, x :: r => if x == c then acc :: splitC c [] r else splitC c (acc ++ [x]) r
mutual
def same : D → D → Bool
  | .non, e => match e with | .non => true | _ => false
  | .bl a, e => match e with | .bl b => a == b | _ => false
  | .int i, e => match e with | .int j => i == j | _ => false
  | .str x, e => match e with | .str y => x == y | _ => false
  | .lst xs, e => match e with | .lst ys => sames xs ys | _ => false
  | .tup xs, e => match e with | .tup ys => sames xs ys | _ => false
  | .dct _, _ | .obj _ _, _ | .loc _, _ | .fn _, _ | .own _, _ => false
def sames : List D → List D → Bool
  | [], e => match e with | [] => true | _ :: _ => false
  | x :: xs, e => match e with | y :: ys => same x y && sames xs ys | [] => false
end

mutual
/-- no less than the length of its repr -/
def rmx : D → Nat
  | .non => 4
  | .bl _ => 5
  | .int i => if i.natAbs < 10 ^ 18 then 20 else 2000000
  | .str s => if s.all (fun c => c < 1114112) then 10 * s.length + 2 else 2000000
  | .lst xs => 2 + rmxs xs
  | .tup xs => 3 + rmxs xs
  | .dct _ | .obj _ _ | .loc _ | .fn _ | .own _ => 2000000
def rmxs : List D → Nat
  | [] => 0
  | x :: xs => rmx x + 2 + rmxs xs
end
/-- None, truth values, numbers, texts, lists, tuples, dicts -/
def kindD : D → Option Nat
  | .non => some 0 | .bl _ => some 1 | .int _ => some 2 | .str _ => some 3 | .lst _ => some 4 | .tup _ => some 5 | .dct _ => some 6
  | _ => none
def bi : Bi → List D → Option D
  | .len, ds => match ds with
    | [.lst xs] => some (.int xs.length)
    | [.tup xs] => some (.int xs.length)
    | [.str s] => if s.length ≤ lineMax then some (.int s.length) else none
    | _ => none
  | .abs, ds => match ds with | [.int i] => some (.int i.natAbs) | _ => none
  | .int, ds => match ds with | [.int i] => some (.int i) | [.bl b] => some (.int (b2i b)) | _ => none
  | .lst, ds => match ds with
    | [.lst xs] => some (.lst xs)
    | [.tup xs] => some (.lst xs)
    | _ => none
  | .tup, ds => match ds with
    | [.lst xs] => some (.tup xs)
    | [.tup xs] => some (.tup xs)
    | _ => none
  | .sum, ds => match ds with
    | [.lst xs] => (allInts xs).map fun is => D.int is.sum
    | [.tup xs] => (allInts xs).map fun is => D.int is.sum
    | _ => none
  | .sum2, ds => match ds with
    | [.lst xs, .lst []] => (allLsts xs).bind fun ll => if ll.flatten.length ≤ lineMax then some (D.lst ll.flatten) else none
    | _ => none
  | .max1, ds => match ds with
    | [a] => (match itemsOf a with
      | some (x :: r) => if sortable (x :: r) then some (maxD x r) else none
      | _ => none)
    | _ => none
  | .min1, ds => match ds with
    | [a] => (match itemsOf a with
      | some (x :: r) => if sortable (x :: r) then some (minD x r) else none
      | _ => none)
    | _ => none
  | .max2, ds => match ds with | [.int i, .int j] => some (.int (if j > i then j else i)) | _ => none
  | .min2, ds => match ds with | [.int i, .int j] => some (.int (if j < i then j else i)) | _ => none
  | .all, ds => match ds with | [.lst xs] => (allBools xs).map fun bs => D.bl (bs.all id) | _ => none
  | .any, ds => match ds with | [.lst xs] => (allBools xs).map fun bs => D.bl (bs.any id) | _ => none
  | .sorted, ds => match ds with
    | [.lst xs] => if sortable xs && xs.length ≤ lineMax then some (.lst (sortD xs)) else none
    | _ => none
  | .sortedSet, ds => match ds with
    | [.lst xs] => if homo xs && xs.length ≤ 1000000 then some (.lst (sortD (dedup [] xs))) else none
    | _ => none
  | .lenSet, ds => match ds with
    | [.lst xs] => if homo xs && xs.length ≤ 1000000 then some (.int (dedup [] xs).length) else none
    | _ => none
  | .dict, ds => match ds with
    | [.lst xs] => if xs.length ≤ 1000000 then (dictOf [] xs).map D.dct else none
    | [.dct kvs] => some (.dct kvs)
    | _ => none
  | .str, ds => match ds with
    | [.int i] => if i.natAbs < 10 ^ 18 then some (.str (intText i)) else none
    | [.str s] => some (.str s)
    | _ => none
  | .isInt, ds => match ds with | [d] => (kindD d).map fun k => D.bl (k == 1 || k == 2) | _ => none
  | .isBool, ds => match ds with | [d] => (kindD d).map fun k => D.bl (k == 1) | _ => none
  | .isStr, ds => match ds with | [d] => (kindD d).map fun k => D.bl (k == 3) | _ => none
  | .isRow, ds => match ds with | [d] => (kindD d).map fun k => D.bl (k == 4 || k == 5) | _ => none
  | .isTup, ds => match ds with | [d] => (kindD d).map fun k => D.bl (k == 5) | _ => none
  | .isLst, ds => match ds with | [d] => (kindD d).map fun k => D.bl (k == 4) | _ => none
  | .isDct, ds => match ds with | [d] => (kindD d).map fun k => D.bl (k == 6) | _ => none
  | .isObj c, ds => match ds with | [.obj c' _] => some (.bl (c == c')) | [_] => some (.bl false) | _ => none
  | .rngList, ds => match ds with
    | [.int b] => if b.natAbs ≤ 1000000 then some (.lst (rng 0 b 1)) else none
    | [.int a, .int b] => if b - a ≤ 1000000 ∧ a.natAbs < 2 ^ 60 ∧ b.natAbs < 2 ^ 60 then some (.lst (rng a b 1)) else none
    | _ => none
  | .zipList, ds => match ds with
    | [a, b] => (match itemsOf a with
      | some xs => (match itemsOf b with
        | some ys => some (.lst ((xs.zip ys).map fun p => D.tup [p.1, p.2]))
        | none => none)
      | none => none)
    | _ => none
  | .itemsList, ds => match ds with | [.dct kvs] => some (.lst (kvs.map fun p => D.tup [p.1, p.2])) | _ => none
  | .valsList, ds => match ds with | [.dct kvs] => some (.lst (kvs.map (·.2))) | _ => none
  | .get, ds => match ds with | [.dct kvs, k, d] => if isKey k then some ((dGet kvs k).getD d) else none | _ => none
  | .count, ds => match ds with
    | [a, x] => (match itemsOf a with
      | some ys => if plain x && plains ys then some (.int (ys.countP fun y => eqv y x)) else none
      | none => none)
    | _ => none
  | .index, ds => match ds with
    | [.lst ys, x] => if plain x && plains ys then (idxOf ys x 0).map fun k => D.int k else none
    | [.tup ys, x] => if plain x && plains ys then (idxOf ys x 0).map fun k => D.int k else none
    | [.str z, .str w] => (match isChar w with
      | some c => (idxOf (z.map fun (n : Nat) => D.int (n : Int)) (.int (c : Int)) 0).map fun k => D.int k
      | none => none)
    | _ => none
  | .join, ds => match ds with
    | [.str z, .lst xs] => (allStrs xs).bind fun ss => if (ss.map List.length).sum + (ss.length * z.length) ≤ lineMax then some (D.str (joinS z ss)) else none
    | _ => none
  | .split, ds => match ds with
    | [.str z, .str w] => (match isChar w with
      | some c => some (.lst ((splitC c [] z).map D.str))
      | none => none)
    | _ => none

/-! ### syntax -/
inductive Xt where
  | name (i : Nat) | tup (gs : List Xt)
  deriving Repr
mutual
inductive Xe where
  | non | bl (b : Bool) | int (i : Int) | str (s : List Nat)
  | var (i : Nat) | glob (g : Nat) | fnv (f : Nat)
  | op (o : BOp) (a b : Xe) | neg (a : Xe) | inot (a : Xe)
  | cmp (o : COp) (a b : Xe) | chain (o o' : COp) (a b c : Xe)
  | and (a b : Xe) | or (a b : Xe) | ite (c a b : Xe)
  | tup (es : Xes) | lst (es : Xes) | dct (ks vs : Xes) | newL (es : Xes) | newD (e : Xe)
  | idx (a b : Xe) | sl (a : Xe) (lo hi : Xo) | rev (a : Xe) | fld (a : Xe) (n : Nat)
  | call (f : Nat) (es : Xes) | meth (a : Xe) (m : Nat) (es : Xes) | callv (i : Nat) (es : Xes) | make (c : Nat) (es : Xes) | makeT (c : Nat) (es : Xes)
  | bi (b : Bi) (es : Xes) | rne (a b : Xe)
  | comp (elt : Xe) (tg : Xt) (it : Xi) (c : Xo)
  | popT (a : Xe) | sortKey (a : Xe) (f : Nat) | fstr (es : Xes)
  | isX (i c : Nat) | isXB (i k : Nat) | xnew (c : Nat) (ns : List Nat) (es : Xes) (n : Nat)
inductive Xes where
  | nil | cons (e : Xe) (r : Xes)
inductive Xo where
  | none | some (e : Xe)
inductive Xi where
  | of (e : Xe) | range1 (a : Xe) | range2 (a b : Xe) | range3 (a b c : Xe) | enum (a : Xe) | enumItems (a : Xe) | zip (a b : Xe) | items (a : Xe)
end
inductive Mt where | append | extend | insert
  deriving DecidableEq, Repr
mutual
inductive Xs where
  | asg (g : Xt) (e : Xe) | par (gs : List (Nat × Bool)) (es : Xes)
  | asgF (a : Xe) (ns : List Nat) (e : Xe) | parIx (as bs vs : Xes)
  | ownL (i : Nat) (es : Xes) | ownB (i : Nat) (b : Bi) (es : Xes) | ownD (i : Nat) (ks vs : Xes)
  | aug (i : Nat) (o : BOp) (e : Xe)
  | setIx (a b v : Xe) | setFld (a : Xe) (n : Nat) (v : Xe) | augFld (a : Xe) (n : Nat) (o : BOp) (v : Xe) | mut (m : Mt) (a : Xe) (es : Xes)
  | exp (e : Xe) | ifs (c : Xe) (a b : Xss)
  | for_ (g : Xt) (it : Xi) (body : Xss) (kill : List Nat) | while_ (c : Xe) (body : Xss) (kill : List Nat)
  | ret (e : Xe) | retN | raise (x : Nat) (es : Xes) | reraise
  | tryS (body : Xss) (hs : Xh)
  | frz (i : Nat) | pass
inductive Xss where
  | nil | cons (s : Xs) (r : Xss)
inductive Xh where
  | nil | cons (x : Nat) (as : Option Nat) (body : Xss) (r : Xh)
end

structure Fn where
  np : Nat
  n : Nat
  body : Xss
structure Cl where
  meths : List (Nat × Nat)
  init : Option Nat
  eq : Option Nat
  len : Option Nat
structure Pg where
  fns : List Fn
  cls : List Cl
  globs : List D
  exc : List (List Nat × Nat)      -- an exception class: its fields, its base (its own number where it is the root)

/-! ### evaluation -/
inductive SR where
  | nx (L : List Slot) (h : DHp) | rt (d : D) (L : List Slot) (h : DHp) | ex (x : Exn) (L : List Slot) (h : DHp) | stk
  deriving Repr
/-- running a def: its number, its slots at the start, the heap; back: its value and the slots at its end -/
abbrev Run := Nat → List Slot → DHp → R (D × List Slot)

def setSlot (L : List Slot) (i : Nat) (s : Slot) : List Slot := L.set i s
/-- a value as an operand: an owned or tracked object by what it holds now -/
def deref (L : List Slot) (h : DHp) : D → Option D
  | .own i => match L[i]? with | some (.own o) => some (snap o) | _ => none
  | .loc l => (h[l]?).map snap
  | d => some d
def derefs (L : List Slot) (h : DHp) : List D → Option (List D)
  | [] => some []
  | d :: r => match deref L h d with
    | some x => (derefs L h r).map (x :: ·)
    | none => none
mutual
/-- holds no object that changes -/
def flat : D → Bool
  | .non | .bl _ | .int _ | .str _ => true
  | .tup xs => flats xs
  | .lst _ | .dct _ | .obj _ _ | .loc _ | .fn _ | .own _ => false
def flats : List D → Bool
  | [] => true
  | x :: xs => flat x && flats xs
end

mutual
def bindG : Xt → D → List Slot → Option (List Slot)
  | .name i, d, L => some (L.set i (.val d))
  | .tup gs, d, L => match d with
    | .tup xs => bindGs gs xs L
    | _ => none
def bindGs : List Xt → List D → List Slot → Option (List Slot)
  | [], xs, L => match xs with | [] => some L | _ :: _ => none
  | g :: gs, xs, L => match xs with
    | x :: xs => (match bindG g x L with | some L' => bindGs gs xs L' | none => none)
    | [] => none
end

def kills (L : List Slot) : List Nat → List Slot
  | [] => L
  | i :: r => kills (L.set i .emp) r

def toR {α : Type} (o : Option α) (h : DHp) : R α := match o with | some a => .ok a h | none => .stk

section
variable (P : Pg) (Γ : Run)
/-- calling def f on values -/
def callF (f : Nat) (args : List D) (h : DHp) : R D :=
  match P.fns[f]? with
  | some F => if args.length = F.np then R.bind (Γ f (args.map Slot.val ++ List.replicate (F.n - F.np) Slot.emp) h) fun p h' => .ok p.1 h' else .stk
  | none => .stk
/-- C(..): an object that changes no more behind its __init__ -/
def makeF (c : Nat) (args : List D) (h : DHp) : R D :=
  match P.cls[c]? with
  | some C => match C.init with
    | some f => match P.fns[f]? with
      | some F => if args.length + 1 = F.np then
          R.bind (Γ f (Slot.own (.ins c []) :: (args.map Slot.val ++ List.replicate (F.n - F.np) Slot.emp)) h) fun p h' =>
            match p.1 with
            | .non => match p.2 with
              | .own (.ins c' fs) :: _ => if c' = c then .ok (.obj c fs) h' else .stk
              | _ => .stk
            | _ => .stk
        else .stk
      | none => .stk
    | none => .stk
  | none => .stk
/-- C(..): a tracked object -/
def makeTF (c : Nat) (args : List D) (h : DHp) : R D :=
  match P.cls[c]? with
  | some C => match C.init with
    | some f => R.bind (callF P Γ f (.loc h.length :: args) (h ++ [.ins c []])) fun d h' => match d with | .non => .ok (.loc h.length) h' | _ => .stk
    | none => .stk
  | none => .stk
def classOf (h : DHp) : D → Option Nat
  | .obj c _ => some c
  | .loc l => match h[l]? with | some (.ins c _) => some c | _ => none
  | _ => none
def findM (c m : Nat) : Option Nat := (P.cls[c]?).bind fun C => (C.meths.find? fun p => p.1 == m).map (·.2)

/-- what an except clause names -/
def catches (c x : Nat) : Bool := c == x || (match P.exc[x]? with | some p => p.2 == c | none => false)
/-- the fields of an error made by names -/
def permX (fs ns : List Nat) : Bool := match fs, ns with
  | [a], [b] => a == b
  | [a, b], [c, d] => (a == c && b == d) || (a == d && b == c && a != b)
  | _, _ => false
/-- the items that a comprehension makes of its source -/
def compL (elt : List Slot → DHp → R D) (cond : List Slot → DHp → R Bool) (tg : Xt) (L : List Slot) : List D → List D → DHp → R (List D)
  | [], acc, h => .ok acc h
  | x :: r, acc, h => match bindG tg x L with
    | some L' => R.bind (cond L' h) fun b h1 => if b then R.bind (elt L' h1) fun d h2 => compL elt cond tg L r (acc ++ [d]) h2 else compL elt cond tg L r acc h1
    | none => .stk
/-- no error leaves (a comprehension) -/
def noEx {α : Type} : R α → R α
  | .ok a h => .ok a h
  | .ex _ _ => .stk
  | .stk => .stk
mutual
def gSlots : Xt → List Nat
  | .name i => [i]
  | .tup gs => gSlotss gs
def gSlotss : List Xt → List Nat
  | [] => []
  | g :: r => gSlots g ++ gSlotss r
end
def keyed (f : Nat) : List D → DHp → R (List (D × D))
  | [], h => .ok [] h
  | x :: r, h => R.bind (callF P Γ f [x] h) fun k h1 => R.bind (keyed f r h1) fun l h2 => .ok ((k, x) :: l) h2
def iterVals : D → Option (List D)
  | .lst xs => some xs
  | .tup xs => some xs
  | .dct kvs => some (kvs.map (·.1))
  | .str s => some (s.map fun c => D.str [c])
  | _ => none
def enumFrom : Nat → List D → List D
  | _, [] => []
  | k, x :: r => .tup [.int k, x] :: enumFrom (k + 1) r
def dispD : List D → List D → Option (List (D × D))
  | [], [] => some []
  | k :: ks, v :: vs => if isKey k then (dispD ks vs).map ((k, v) :: ·) else none
  | _, _ => none
/-- the texts of an f-string's parts -/
def fText : List D → Option (List Nat)
  | [] => some []
  | .str s :: r => (fText r).map (s ++ ·)
  | .int i :: r => if i.natAbs < 10 ^ 18 then (fText r).map (intText i ++ ·) else none
  | _ :: _ => none
/-- an owned object by what it holds; nothing that is tracked -/
def derefO (L : List Slot) : D → Option D
  | .own i => match L[i]? with | some (.own o) => some (snap o) | _ => none
  | .loc _ => none
  | d => some d
def iterOf : D → Option (List D)
  | .lst xs => some xs
  | .tup xs => some xs
  | .str s => if s.length ≤ lineMax then some (s.map fun c => D.str [c]) else none
  | _ => none
def walkV (L : List Slot) (x : D) (h1 : DHp) : R (List D) := match derefO L x with | some x' => toR (iterOf x') h1 | none => .stk
def enumOf : D → Option (List D)
  | .lst xs => some xs
  | .tup xs => some xs
  | _ => none
def enumV (L : List Slot) (x : D) (h1 : DHp) : R (List D) := match derefO L x with | some x' => toR ((enumOf x').map (enumFrom 0)) h1 | none => .stk
def zipOf : D → D → Option (List D)
  | .lst xs, e => match e with | .lst ys => some ((xs.zip ys).map fun p => D.tup [p.1, p.2]) | _ => none
  | .tup xs, e => match e with | .tup ys => some ((xs.zip ys).map fun p => D.tup [p.1, p.2]) | _ => none
  | _, _ => none
def zipV (L : List Slot) (x y : D) (h1 : DHp) : R (List D) := match derefO L x with
  | some x' => (match derefO L y with | some y' => toR (zipOf x' y') h1 | none => .stk)
  | none => .stk
def fldV (x : D) (n : Nat) (h1 : DHp) : R D :=
  match x with
  | .obj _ fs => toR (fGet fs n) h1
  | .loc l => (match h1[l]? with | some (.ins _ fs) => toR (fGet fs n) h1 | _ => .stk)
  | _ => .stk
def asB : D → Option Bool
  | .bl b => some b
  | _ => none
def asI : D → Option Int
  | .int i => some i
  | _ => none

mutual
/-- the value of an expression; an owned object is no value -/
def evE : Xe → List Slot → DHp → R D
  | .non, _, h => .ok .non h
  | .bl b, _, h => .ok (.bl b) h
  | .int i, _, h => .ok (.int i) h
  | .str s, _, h => .ok (.str s) h
  | .var i, L, h => match L[i]? with | some (.val d) => .ok d h | _ => .stk
  | .glob g, _, h => match P.globs[g]? with | some d => .ok d h | none => .stk
  | .fnv f, _, h => .ok (.fn f) h
  | .op o a b, L, h => R.bind (evA a L h) fun x h1 => R.bind (evA b L h1) fun y h2 =>
      match deref L h2 x with | some x' => (match deref L h2 y with | some y' => toR (bop o x' y') h2 | none => .stk) | none => .stk
  | .neg a, L, h => R.bind (evE a L h) fun x h1 => match x with | .int i => .ok (.int (-i)) h1 | _ => .stk
  | .inot a, L, h => R.bind (evE a L h) fun x h1 => match x with | .bl b => .ok (.bl (!b)) h1 | _ => .stk
  | .cmp o a b, L, h => R.bind (evA a L h) fun x h1 => R.bind (evA b L h1) fun y h2 =>
      (match x with
        | .obj c _ => (match (P.cls[c]?).bind (·.eq), y with
          | none, _ => .stk
          | some _, .own _ => .stk
          | some f, y => (match o with
            | .eq => callF P Γ f [x, y] h2
            | .ne => R.bind (callF P Γ f [x, y] h2) fun d h3 => (match d with | .bl b => .ok (.bl (!b)) h3 | _ => .stk)
            | _ => .stk))
        | x => (match deref L h2 x with
          | some x' => (match deref L h2 y with
            | some y' => toR ((cop o x' y').map D.bl) h2
            | none => .stk)
          | none => .stk))
  | .chain o o' a b c, L, h => R.bind (evE a L h) fun x h1 => R.bind (evE b L h1) fun y h2 =>
      match cop o x y with
      | some true => R.bind (evE c L h2) fun z h3 => toR ((cop o' y z).map D.bl) h3
      | some false => .ok (.bl false) h2
      | none => .stk
  | .and a b, L, h => R.bind (evE a L h) fun x h1 => match x with | .bl true => R.bind (evE b L h1) fun y h2 => (match y with | .bl c => .ok (.bl c) h2 | _ => .stk) | .bl false => .ok (.bl false) h1 | _ => .stk
  | .or a b, L, h => R.bind (evE a L h) fun x h1 => match x with | .bl true => .ok (.bl true) h1 | .bl false => R.bind (evE b L h1) fun y h2 => (match y with | .bl c => .ok (.bl c) h2 | _ => .stk) | _ => .stk
  | .ite c a b, L, h => R.bind (evE c L h) fun x h1 => match x with | .bl true => evE a L h1 | .bl false => evE b L h1 | _ => .stk
  | .tup es, L, h => R.bind (evEs es L h) fun ds h1 => .ok (.tup ds) h1
  | .lst es, L, h => R.bind (evEs es L h) fun ds h1 => .ok (.lst ds) h1
  | .dct ks vs, L, h => R.bind (evEs ks L h) fun dk h1 => R.bind (evEs vs L h1) fun dv h2 => match dispD dk dv with | some kvs => if kvs.length ≤ 1 then .ok (.dct kvs) h2 else .stk | none => .stk
  | .newL es, L, h => R.bind (evEs es L h) fun ds h1 => .ok (.loc h1.length) (h1 ++ [.lst ds])
  | .newD e, L, h => R.bind (evA e L h) fun x h1 => match deref L h1 x with | some (.dct kvs) => .ok (.loc h1.length) (h1 ++ [.dct kvs]) | _ => .stk
  | .idx a b, L, h => R.bind (evA a L h) fun x h1 => R.bind (evE b L h1) fun y h2 =>
      match deref L h2 x with | some x' => toR (idxD x' y) h2 | none => .stk
  | .sl a lo hi, L, h => R.bind (evA a L h) fun x h1 => R.bind (evO lo L h1) fun l h2 => R.bind (evO hi L h2) fun u h3 =>
      match deref L h3 x with | some x' => toR (sliceD x' l u) h3 | none => .stk
  | .rev a, L, h => R.bind (evA a L h) fun x h1 => match deref L h1 x with | some (.lst xs) => .ok (.lst xs.reverse) h1 | _ => .stk
  | .fld a n, L, h => match a with
    | .var i => (match L[i]? with
      | some (.exn x) => toR (fGet x.fs n) h
      | some (.own (.ins _ fs)) => toR (fGet fs n) h
      | some (.val (.obj _ fs)) => toR (fGet fs n) h
      | some (.val (.loc l)) => (match h[l]? with | some (.ins _ fs) => toR (fGet fs n) h | _ => .stk)
      | _ => .stk)
    | a => R.bind (evE a L h) fun x h1 => fldV x n h1
  | .call f es, L, h => R.bind (evEs es L h) fun ds h1 => callF P Γ f ds h1
  | .meth a m es, L, h => R.bind (evA a L h) fun x h1 => match x with
    | .own i => (match L[i]? with
      | some (.own (.ins c fs)) => (match findM P c m with
        | some f => R.bind (evEs es L h1) fun ds h2 => (match callF P Γ f (.obj c fs :: ds) [] with
          | .ok d _ => if flat d then .ok d h2 else .stk
          | .ex e _ => if flats (e.fs.map (·.2)) then .ex e h2 else .stk
          | .stk => .stk)
        | none => .stk)
      | _ => .stk)
    | x => (match classOf h1 x with
      | some c => (match findM P c m with
        | some f => R.bind (evEs es L h1) fun ds h2 => callF P Γ f (x :: ds) h2
        | none => .stk)
      | none => .stk)
  | .callv i es, L, h => match L[i]? with
    | some (.val (.fn f)) => R.bind (evEs es L h) fun ds h1 => callF P Γ f ds h1
    | _ => .stk
  | .make c es, L, h => R.bind (evEs es L h) fun ds h1 => makeF P Γ c ds h1
  | .makeT c es, L, h => R.bind (evEs es L h) fun ds h1 => makeTF P Γ c ds h1
  | .bi b es, L, h => R.bind (evAs es L h) fun ds h1 =>
      match derefs L h1 ds with
      | some xs => (match b, xs with
        | .len, [.obj c fs] => (match (P.cls[c]?).bind (·.len) with | some f => callF P Γ f [.obj c fs] h1 | none => .stk)
        | _, _ => toR (bi b xs) h1)
      | none => .stk
  | .rne a b, L, h => R.bind (evE a L h) fun x h1 => if plain x && decide (rmx x ≤ 1000000) then R.bind (evE b L h1) fun y h2 => toR (if same x y then some (D.bl false) else none) h2 else .stk
  | .comp elt tg it c, L, h => R.bind (evI it L h) fun xs h1 =>
      if xs.length ≤ lineMax then noEx (R.bind (compL (evE elt) (evC c) tg (kills L (gSlots tg)) xs [] h1) fun ds h2 => .ok (.lst ds) h2) else .stk
  | .popT a, L, h => R.bind (evE a L h) fun x h1 => match x with
    | .loc l => (match h1[l]? with
      | some (.lst xs) => (match xs.getLast? with | some d => .ok d (h1.set l (.lst xs.dropLast)) | none => .stk)
      | _ => .stk)
    | _ => .stk
  | .sortKey a f, L, h => R.bind (evA a L h) fun x h1 => match deref L h1 x with
    | some (.lst xs) => R.bind (keyed P Γ f xs h1) fun ks h2 => if sortable (ks.map (·.1)) && xs.length ≤ lineMax then .ok (.lst ((ks.mergeSort fun p q => le p.1 q.1).map (·.2))) h2 else .stk
    | _ => .stk
  | .fstr es, L, h => R.bind (evEs es L h) fun ds h1 => toR ((fText ds).map D.str) h1
  | .isX i c, L, h => match L[i]? with | some (.exn x) => .ok (.bl (catches P c x.c)) h | _ => .stk
  | .isXB i k, L, h => match L[i]? with | some (.exn _) => .ok (.bl (k == 0)) h | _ => .stk
  | .xnew c ns es n, L, h => match P.exc[c]? with
    | some p => if permX p.1 ns && ns.contains n then R.bind (evEs es L h) fun ds h1 => (if ds.length = ns.length then toR (fGet (ns.zip ds) n) h1 else .stk) else .stk
    | none => .stk
/-- an operand: an owned object by its slot -/
def evA : Xe → List Slot → DHp → R D
  | .var i, L, h => match L[i]? with | some (.val d) => .ok d h | some (.own _) => .ok (.own i) h | _ => .stk
  | e, L, h => evE e L h
def evEs : Xes → List Slot → DHp → R (List D)
  | .nil, _, h => .ok [] h
  | .cons e r, L, h => R.bind (evE e L h) fun d h1 => R.bind (evEs r L h1) fun ds h2 => .ok (d :: ds) h2
def evAs : Xes → List Slot → DHp → R (List D)
  | .nil, _, h => .ok [] h
  | .cons e r, L, h => R.bind (evA e L h) fun d h1 => R.bind (evAs r L h1) fun ds h2 => .ok (d :: ds) h2
/-- a slice's end -/
def evO : Xo → List Slot → DHp → R (Option Int)
  | .none, _, h => .ok none h
  | .some e, L, h => R.bind (evE e L h) fun d h1 => match d with | .int i => .ok (some i) h1 | _ => .stk
/-- a comprehension's test -/
def evC : Xo → List Slot → DHp → R Bool
  | .none, _, h => .ok true h
  | .some e, L, h => R.bind (evE e L h) fun d h1 => match d with | .bl b => .ok b h1 | _ => .stk
def evI : Xi → List Slot → DHp → R (List D)
  | .of e, L, h => R.bind (evA e L h) fun x h1 => walkV L x h1
  | .range1 a, L, h => R.bind (evE a L h) fun x h1 => match x with | .int b => if b.natAbs < 2 ^ 60 then .ok (rng 0 b 1) h1 else .stk | _ => .stk
  | .range2 a b, L, h => R.bind (evE a L h) fun x h1 => R.bind (evE b L h1) fun y h2 => match x with
    | .int i => (match y with | .int j => if i.natAbs < 2 ^ 60 ∧ j.natAbs < 2 ^ 60 then .ok (rng i j 1) h2 else .stk | _ => .stk)
    | _ => .stk
  | .range3 a b c, L, h => R.bind (evE a L h) fun x h1 => R.bind (evE b L h1) fun y h2 => R.bind (evE c L h2) fun z h3 => match x with
    | .int i => (match y with
      | .int j => (match z with | .int k => if i.natAbs < 2 ^ 60 ∧ j.natAbs < 2 ^ 60 ∧ 0 < k ∧ k < 2 ^ 60 ∧ j - i ≤ 1000000 then .ok (rng i j k) h3 else .stk | _ => .stk)
      | _ => .stk)
    | _ => .stk
  | .enum a, L, h => R.bind (evA a L h) fun x h1 => enumV L x h1
  | .enumItems a, L, h => R.bind (evA a L h) fun x h1 => match deref L h1 x with | some (.dct kvs) => .ok (enumFrom 0 (kvs.map fun p => D.tup [p.1, p.2])) h1 | _ => .stk
  | .zip a b, L, h => R.bind (evE a L h) fun x h1 => R.bind (evE b L h1) fun y h2 => zipV [] x y h2
  | .items a, L, h => R.bind (evA a L h) fun x h1 => match deref L h1 x with | some (.dct kvs) => .ok (kvs.map fun p => D.tup [p.1, p.2]) h1 | _ => .stk
/-- what a for statement walks: nothing that changes -/
def evJ : Xi → List Slot → DHp → R (List D)
  | .of e, L, h => R.bind (evE e L h) fun x h1 => walkV [] x h1
  | .range1 a, L, h => R.bind (evE a L h) fun x h1 => match x with | .int b => if b.natAbs < 2 ^ 60 then .ok (rng 0 b 1) h1 else .stk | _ => .stk
  | .range2 a b, L, h => R.bind (evE a L h) fun x h1 => R.bind (evE b L h1) fun y h2 => match x with
    | .int i => (match y with | .int j => if i.natAbs < 2 ^ 60 ∧ j.natAbs < 2 ^ 60 then .ok (rng i j 1) h2 else .stk | _ => .stk)
    | _ => .stk
  | .range3 a b c, L, h => R.bind (evE a L h) fun x h1 => R.bind (evE b L h1) fun y h2 => R.bind (evE c L h2) fun z h3 => match x with
    | .int i => (match y with
      | .int j => (match z with | .int k => if i.natAbs < 2 ^ 60 ∧ j.natAbs < 2 ^ 60 ∧ 0 < k ∧ k < 2 ^ 60 ∧ j - i ≤ 1000000 then .ok (rng i j k) h3 else .stk | _ => .stk)
      | _ => .stk)
    | _ => .stk
  | .enum a, L, h => R.bind (evE a L h) fun x h1 => enumV [] x h1
  | .enumItems a, L, h => R.bind (evE a L h) fun x h1 => match x with | .dct kvs => .ok (enumFrom 0 (kvs.map fun p => D.tup [p.1, p.2])) h1 | _ => .stk
  | .zip a b, L, h => R.bind (evE a L h) fun x h1 => R.bind (evE b L h1) fun y h2 => zipV [] x y h2
  | .items a, L, h => R.bind (evE a L h) fun x h1 => match x with | .dct kvs => .ok (kvs.map fun p => D.tup [p.1, p.2]) h1 | _ => .stk
end

/-! ### statements -/
/-- what a statement makes of an expression -/
def withE {α : Type} (L : List Slot) (m : R α) (f : α → DHp → SR) : SR :=
  match m with
  | .ok a h => f a h
  | .ex x h => .ex x L h
  | .stk => .stk
def SR.andThen (m : SR) (f : List Slot → DHp → SR) : SR :=
  match m with
  | .nx L h => f L h
  | .rt d L h => .rt d L h
  | .ex x L h => .ex x L h
  | .stk => .stk
/-- a value that was made just now, as an owned object -/
def ownOf : D → Option DO
  | .lst xs => some (.lst xs)
  | .dct kvs => some (.dct kvs)
  | _ => none
def parSet : List (Nat × Bool) → List D → List Slot → Option (List Slot)
  | [], [], L => some L
  | (i, o) :: is, d :: ds, L => if o then (match ownOf d with | some x => parSet is ds (L.set i (.own x)) | none => none) else parSet is ds (L.set i (.val d))
  | _, _, _ => none
/-- the owned ones are displays -/
def freshE : Xe → Bool
  | .lst _ => true
  | .dct _ _ => true
  | _ => false
def parOk : List (Nat × Bool) → Xes → Bool
  | [], .nil => true
  | (_, o) :: r, .cons e es => (!o || freshE e) && parOk r es
  | _, _ => false
/-- the change of an object by a method -/
def mutO : Mt → DO → List D → Option DO
  | .append, .lst xs, ds => match ds with | [d] => if xs.length < lineMax then some (.lst (xs ++ [d])) else none | _ => none
  | .extend, .lst xs, ds => match ds with
    | [a] => (match itemsOf a with | some ys => if xs.length + ys.length ≤ lineMax then some (.lst (xs ++ ys)) else none | none => none)
    | _ => none
  | .insert, .lst xs, ds => match ds with
    | [.int i, d] => if 0 ≤ i ∧ i ≤ xs.length ∧ xs.length < lineMax then some (.lst (xs.take i.toNat ++ d :: xs.drop i.toNat)) else none
    | _ => none
  | _, _, _ => none
def putO : DO → D → D → Option DO
  | .lst xs, .int i, v => match ix xs.length i with | some k => some (.lst (xs.set k v)) | none => none
  | _, _, _ => none
/-- the change of the object that a handle names -/
def upO (L : List Slot) (h : DHp) (x : D) (f : DO → Option DO) : SR :=
  match x with
  | .own i => match L[i]? with
    | some (.own o) => (match f o with | some o' => .nx (L.set i (.own o')) h | none => .stk)
    | _ => .stk
  | .loc l => match h[l]? with
    | some o => (match f o with | some o' => .nx L (h.set l o') | none => .stk)
    | none => .stk
  | _ => .stk
def putFs : List (Nat × D) → List Nat → List D → Option (List (Nat × D))
  | fs, [], [] => some fs
  | fs, n :: ns, d :: ds => putFs (fPut fs n d) ns ds
  | _, _, _ => none
def putIxs : List D → List D → List D → List Slot → DHp → SR
  | [], [], [], L, h => .nx L h
  | x :: xs, k :: ks, y :: ys, L, h => (upO L h x fun o => putO o k y).andThen fun L' h' => putIxs xs ks ys L' h'
  | _, _, _, _, _ => .stk
def mkExn (x : Nat) (ds : List D) : Option Exn := (P.exc[x]?).bind fun p => if p.1.length = ds.length then some ⟨x, p.1.zip ds⟩ else none

/-- no error is held any more -/
def noExn (L : List Slot) : List Slot := L.map fun s => match s with | .exn _ => .emp | s => s
/-- behind an except suite -/
def endH (i : Nat) : SR → SR
  | .nx L h => .nx (noExn (L.set i .emp)) h
  | .rt d L h => .rt d (noExn L) h
  | _ => .stk
def forL (body : List Slot → DHp → SR) (g : Xt) (kill : List Nat) : List D → List Slot → DHp → SR
  | [], L, h => .nx L h
  | x :: r, L, h => match bindG g x L with
    | some L' => (body L' h).andThen fun L2 h2 => forL body g kill r (kills L2 kill) h2
    | none => .stk
def whileL (c : List Slot → DHp → R D) (body : List Slot → DHp → SR) (kill : List Nat) : Nat → List Slot → DHp → SR
  | 0, _, _ => .stk
  | n + 1, L, h => withE L (c L h) fun d h1 => match d with
    | .bl true => (body L h1).andThen fun L2 h2 => whileL c body kill n (kills L2 kill) h2
    | .bl false => .nx L h1
    | _ => .stk
def fuel : Nat := 1000000000000

mutual
def exS : Xs → List Slot → DHp → SR
  | .asg g e, L, h => withE L (evE P Γ e L h) fun d h1 => match bindG g d L with | some L' => .nx L' h1 | none => .stk
  | .par gs es, L, h => if parOk gs es then withE L (evEs P Γ es L h) fun ds h1 => (match parSet gs ds L with | some L' => .nx L' h1 | none => .stk) else .stk
  | .asgF a ns e, L, h => withE L (evE P Γ e L h) fun d h1 => withE L (evA P Γ a L h1) fun x h2 => match itemsOf d with
    | some ds => upO L h2 x fun o => (match o with | .ins c fs => (putFs fs ns ds).map (DO.ins c ·) | _ => none)
    | none => .stk
  | .parIx as bs vs, L, h => withE L (evEs P Γ vs L h) fun ys h1 => withE L (evAs P Γ as L h1) fun xs h2 => withE L (evEs P Γ bs L h2) fun ks h3 => putIxs xs ks ys L h3
  | .ownL i es, L, h => if i = 0 then .stk else withE L (evEs P Γ es L h) fun ds h1 => .nx (L.set i (.own (.lst ds))) h1
  | .ownB i b es, L, h => withE L (evAs P Γ es L h) fun ds h1 => match derefs L h1 ds with
    | some xs => (match bi b xs with
      | some (.lst ys) => .nx (L.set i (.own (.lst ys))) h1
      | some (.dct kvs) => .nx (L.set i (.own (.dct kvs))) h1
      | _ => .stk)
    | none => .stk
  | .ownD i ks vs, L, h => withE L (evEs P Γ ks L h) fun dk h1 => withE L (evEs P Γ vs L h1) fun dv h2 => match dispD dk dv with
    | some kvs => if kvs.length ≤ 1 then .nx (L.set i (.own (.dct kvs))) h2 else .stk
    | none => .stk
  | .aug i o e, L, h => match L[i]? with
    | some (.val x) => withE L (evE P Γ e L h) fun y h1 => (match x with
      | .int _ => (match bop o x y with | some z => .nx (L.set i (.val z)) h1 | none => .stk)
      | _ => .stk)
    | _ => .stk
  | .setIx a b v, L, h => withE L (evE P Γ v L h) fun y h1 => withE L (evA P Γ a L h1) fun x h2 => withE L (evE P Γ b L h2) fun k h3 => upO L h3 x fun o => putO o k y
  | .setFld a n v, L, h => withE L (evE P Γ v L h) fun y h1 => withE L (evA P Γ a L h1) fun x h2 => upO L h2 x fun o => match o with | .ins c fs => some (.ins c (fPut fs n y)) | _ => none
  | .augFld a n o v, L, h => withE L (evA P Γ a L h) fun x h1 => match deref L h1 x with
    | some (.obj _ fs) => (match fGet fs n with
      | some y => withE L (evE P Γ v L h1) fun z h2 => (match y with
        | .int _ => (match bop o y z with | some w => upO L h2 x fun o => (match o with | .ins c fs => some (.ins c (fPut fs n w)) | _ => none) | none => .stk)
        | _ => .stk)
      | none => .stk)
    | _ => .stk
  | .mut m a es, L, h => withE L (evA P Γ a L h) fun x h1 => match deref L h1 x with
    | some (.lst _) => (match m with
      | .extend => withE L (evAs P Γ es L h1) fun ds h2 => (match derefs L h2 ds with | some xs => upO L h2 x fun o => mutO m o xs | none => .stk)
      | _ => withE L (evEs P Γ es L h1) fun ds h2 => upO L h2 x fun o => mutO m o ds)
    | _ => .stk
  | .exp e, L, h => withE L (evE P Γ e L h) fun _ h1 => .nx L h1
  | .ifs c a b, L, h => withE L (evE P Γ c L h) fun d h1 => match d with | .bl true => exSs a L h1 | .bl false => exSs b L h1 | _ => .stk
  | .for_ g it body kill, L, h => withE L (evJ P Γ it L h) fun xs h1 => forL (fun L h => exSs body L h) g kill xs (kills L kill) h1
  | .while_ c body kill, L, h => whileL (fun L h => evE P Γ c L h) (fun L h => exSs body L h) kill fuel (kills L kill) h
  | .ret e, L, h => withE L (evE P Γ e L h) fun d h1 => .rt d L h1
  | .retN, L, h => .rt .non L h
  | .raise x es, L, h => withE L (evEs P Γ es L h) fun ds h1 => match mkExn P x ds with | some e => .ex e L h1 | none => .stk
  | .reraise, _, _ => .stk
  | .tryS body hs, L, h => match exSs body L h with
    | .ex x L' h' => exHs hs x L' h'
    | r => r
  | .frz i, L, h => match L[i]? with | some (.own (.lst xs)) => if i = 0 then .stk else .nx (L.set i (.val (.lst xs))) h | some (.own _) => .stk | _ => .nx L h
  | .pass, L, h => .nx L h
def exSs : Xss → List Slot → DHp → SR
  | .nil, L, h => .nx L h
  | .cons s r, L, h => (exS s L h).andThen fun L' h' => exSs r L' h'
def exHs : Xh → Exn → List Slot → DHp → SR
  | .nil, x, L, h => .ex x L h
  | .cons c as body r, x, L, h => if catches P c x.c then
      (match as with
      | some i => endH i (exSs body (L.set i (.exn x)) h)
      | none => .stk)
    else exHs r x L h
end
end

/-- the defs of a program, k calls deep -/
def run (P : Pg) : Nat → Run
  | 0 => fun _ _ _ => .stk
  | k + 1 => fun f L h => match P.fns[f]? with
    | some F => match exSs P (run P k) F.body L h with
      | .nx L' h' => .ok (.non, L') h'
      | .rt d L' h' => .ok (d, L') h'
      | .ex x _ h' => .ex x h'
      | .stk => .stk
    | none => .stk
/-- the law at a script -/
def lawOf (P : Pg) (k f : Nat) (ns : List Int) : R D := callF P (run P k) f [.lst (ns.map D.int)] []
end P2
end

section
/-! P2Rel: how the values and objects of P2 lie in the hand layer's values and heap. -/
set_option autoImplicit false
set_option Elab.async false
set_option linter.all false
set_option maxRecDepth 100000
set_option maxHeartbeats 1000000
namespace P2S
open PySem PySem.Spec L2
open P2 (D DO DHp Exn Slot snap R SR Run Pg)

/-- what is fixed for a program: the written part, where its classes, defs, errors stand, its names -/
structure Cfg where
  K : PySem.W.Frag
  cls : Nat → Addr
  fn : Nat → Addr
  exc : Nat → Addr
  nm : Nat → Str
  nc : Nat
  ne : Nat

def toS (s : List Nat) : Str := ⟨s.toArray⟩
theorem toS_inj {a b : List Nat} (h : toS a = toS b) : a = b := by
  have e : (toS a).cps.toList = (toS b).cps.toList := by rw [h]
  simpa [toS] using e
theorem toS_length (a : List Nat) : (toS a).length = a.length := by simp [toS, Str.length]

/-- an atom of a key -/
def keyOf : D → Option Key
  | .int i => some (.inl i)
  | .str s => some (.inr (toS s))
  | _ => none
def keysOf : List D → Option (List Key)
  | [] => some []
  | d :: r => match keyOf d with | some k => (keysOf r).map (k :: ·) | none => none

mutual
inductive Rep (C : Cfg) (F : Hp) (ρ : List Addr) : V → D → Prop
  | non : Rep C F ρ .non .non
  | bl (b) : Rep C F ρ (.bl b) (.bl b)
  | int (i) : Rep C F ρ (.int i) (.int i)
  | str (s) : Rep C F ρ (.str (toS s)) (.str s)
  | tup {a vs ds} : SqT C.K F a vs → Reps C F ρ vs ds → Rep C F ρ (.ref a) (.tup ds)
  | lst {a vs ds} : Rd F a (.lst vs) → Reps C F ρ vs ds → Rep C F ρ (.ref a) (.lst ds)
  | dK {a o ks kvs} : F a = some (.frz o (.dK ks)) → RepK C F ρ ks kvs → Rep C F ρ (.ref a) (.dct kvs)
  | dT {a o ks kvs} : F a = some (.frz o (.dT ks)) → RepT C F ρ ks kvs → Rep C F ρ (.ref a) (.dct kvs)
  | obj {a c dx fs gs} : c < C.nc → F a = some (.ins (C.cls c) dx gs) → RepF C F ρ gs fs → Rep C F ρ (.ref a) (.obj c fs)
  | loc {a l} : ρ[l]? = some a → Rep C F ρ (.ref a) (.loc l)
  | fn (f) : Rep C F ρ (.ref (C.fn f)) (.fn f)
inductive Reps (C : Cfg) (F : Hp) (ρ : List Addr) : List V → List D → Prop
  | nil : Reps C F ρ [] []
  | cons {v d vs ds} : Rep C F ρ v d → Reps C F ρ vs ds → Reps C F ρ (v :: vs) (d :: ds)
inductive RepK (C : Cfg) (F : Hp) (ρ : List Addr) : List (Key × V) → List (D × D) → Prop
  | nil : RepK C F ρ [] []
  | cons {k v kd d ks kvs} : keyOf kd = some k → Rep C F ρ v d → RepK C F ρ ks kvs → RepK C F ρ ((k, v) :: ks) ((kd, d) :: kvs)
inductive RepT (C : Cfg) (F : Hp) (ρ : List Addr) : List (List Key × V) → List (D × D) → Prop
  | nil : RepT C F ρ [] []
  | cons {k v kd d ks kvs} : keysOf kd = some k → Rep C F ρ v d → RepT C F ρ ks kvs → RepT C F ρ ((k, v) :: ks) ((.tup kd, d) :: kvs)
inductive RepF (C : Cfg) (F : Hp) (ρ : List Addr) : List (Str × V) → List (Nat × D) → Prop
  | nil : RepF C F ρ [] []
  | cons {n v d gs fs} : Rep C F ρ v d → RepF C F ρ gs fs → RepF C F ρ ((C.nm n, v) :: gs) ((n, d) :: fs)
end

/-- more of the heap is told -/
def Le (F F' : Hp) : Prop := ∀ a o, F a = some o → F' a = some o
theorem Le.refl (F : Hp) : Le F F := fun _ _ h => h
theorem Le.trans {F F1 F2 : Hp} (a : Le F F1) (b : Le F1 F2) : Le F F2 := fun x o h => b x o (a x o h)
theorem le_upd {F : Hp} {p : Addr} {o : HO} (h : F p = none) : Le F (upd F p o) := fun b x e => by
  rw [upd_ne (ne_of_none e h)]; exact e
theorem le_upd2 {F H : Hp} {p : Addr} {o : HO} (l : Le F H) : Le (upd F p o) (upd H p o) := fun b x e => by
  by_cases hb : b = p
  · subst hb; rw [upd_same] at e ⊢; exact e
  · rw [upd_ne hb] at e ⊢; exact l b x e
/-- the list of addresses goes on -/
def LeL (ρ ρ' : List Addr) : Prop := ∃ r, ρ' = ρ ++ r
theorem LeL.refl (ρ : List Addr) : LeL ρ ρ := ⟨[], by simp⟩
theorem LeL.trans {a b c : List Addr} (x : LeL a b) (y : LeL b c) : LeL a c := by
  obtain ⟨r, rfl⟩ := x
  obtain ⟨q, rfl⟩ := y
  exact ⟨r ++ q, by simp⟩
theorem LeL.get {ρ ρ' : List Addr} (x : LeL ρ ρ') {l : Nat} {a : Addr} (h : ρ[l]? = some a) : ρ'[l]? = some a := by
  obtain ⟨r, rfl⟩ := x
  obtain ⟨hl, _⟩ := List.getElem?_eq_some_iff.mp h
  rw [List.getElem?_append_left hl]; exact h
theorem rd_le {F F' : Hp} {a : Addr} {u : HO} (l : Le F F') (h : Rd F a u) : Rd F' a u := by
  rcases h with h | ⟨o, h⟩
  · exact .inl (l _ _ h)
  · exact .inr ⟨o, l _ _ h⟩
theorem sqL_le {K : PySem.W.Frag} {F F' : Hp} {a : Addr} {xs : List V} (l : Le F F') (h : SqL K F a xs) : SqL K F' a xs := by
  rcases h with (h | ⟨o, h⟩) | h
  · exact .inl (.inl (l _ _ h))
  · exact .inl (.inr ⟨o, l _ _ h⟩)
  · exact .inr h
theorem sqT_le {K : PySem.W.Frag} {F F' : Hp} {a : Addr} {xs : List V} (l : Le F F') (h : SqT K F a xs) : SqT K F' a xs := by
  rcases h with (h | ⟨o, h⟩) | h
  · exact .inl (.inl (l _ _ h))
  · exact .inl (.inr ⟨o, l _ _ h⟩)
  · exact .inr h

mutual
theorem Rep.le {C : Cfg} {F F' : Hp} {ρ ρ' : List Addr} (l : Le F F') (m : LeL ρ ρ') : ∀ {v d}, Rep C F ρ v d → Rep C F' ρ' v d
  | _, _, .non => .non
  | _, _, .bl b => .bl b
  | _, _, .int i => .int i
  | _, _, .str s => .str s
  | _, _, .tup h r => .tup (sqT_le l h) (Reps.le l m r)
  | _, _, .lst h r => .lst (rd_le l h) (Reps.le l m r)
  | _, _, .dK h r => .dK (l _ _ h) (RepK.le l m r)
  | _, _, .dT h r => .dT (l _ _ h) (RepT.le l m r)
  | _, _, .obj hc h r => .obj hc (l _ _ h) (RepF.le l m r)
  | _, _, .loc h => .loc (m.get h)
  | _, _, .fn f => .fn f
theorem Reps.le {C : Cfg} {F F' : Hp} {ρ ρ' : List Addr} (l : Le F F') (m : LeL ρ ρ') : ∀ {v d}, Reps C F ρ v d → Reps C F' ρ' v d
  | _, _, .nil => .nil
  | _, _, .cons a b => .cons (Rep.le l m a) (Reps.le l m b)
theorem RepK.le {C : Cfg} {F F' : Hp} {ρ ρ' : List Addr} (l : Le F F') (m : LeL ρ ρ') : ∀ {v d}, RepK C F ρ v d → RepK C F' ρ' v d
  | _, _, .nil => .nil
  | _, _, .cons k a b => .cons k (Rep.le l m a) (RepK.le l m b)
theorem RepT.le {C : Cfg} {F F' : Hp} {ρ ρ' : List Addr} (l : Le F F') (m : LeL ρ ρ') : ∀ {v d}, RepT C F ρ v d → RepT C F' ρ' v d
  | _, _, .nil => .nil
  | _, _, .cons k a b => .cons k (Rep.le l m a) (RepT.le l m b)
theorem RepF.le {C : Cfg} {F F' : Hp} {ρ ρ' : List Addr} (l : Le F F') (m : LeL ρ ρ') : ∀ {v d}, RepF C F ρ v d → RepF C F' ρ' v d
  | _, _, .nil => .nil
  | _, _, .cons a b => .cons (Rep.le l m a) (RepF.le l m b)
end
mutual
theorem flat_rep {C : Cfg} {F G : Hp} {ρ ρ' : List Addr} (k : ∀ a vs, SqT C.K F a vs → SqT C.K G a vs) : ∀ {v : V} {d : D}, P2.flat d = true → Rep C F ρ v d → Rep C G ρ' v d
  | _, _, _, .non => .non
  | _, _, _, .bl b => .bl b
  | _, _, _, .int i => .int i
  | _, _, _, .str s => .str s
  | _, .tup ds, h, .tup q r => .tup (k _ _ q) (flats_rep k (by simpa [P2.flat] using h) r)
  | _, .lst ds, h, _ => nomatch h
  | _, .dct _, h, _ => nomatch h
  | _, .obj _ _, h, _ => nomatch h
  | _, .loc _, h, _ => nomatch h
  | _, .fn _, h, _ => nomatch h
theorem flats_rep {C : Cfg} {F G : Hp} {ρ ρ' : List Addr} (k : ∀ a vs, SqT C.K F a vs → SqT C.K G a vs) : ∀ {vs : List V} {ds : List D}, P2.flats ds = true → Reps C F ρ vs ds → Reps C G ρ' vs ds
  | _, [], _, .nil => .nil
  | _, d :: ds, h, .cons a b => by
    have h' : P2.flat d = true ∧ P2.flats ds = true := by simpa [P2.flats] using h
    exact .cons (flat_rep k h'.1 a) (flats_rep k h'.2 b)
end
theorem Reps.length {C : Cfg} {F : Hp} {ρ : List Addr} : ∀ {vs ds}, Reps C F ρ vs ds → vs.length = ds.length
  | _, _, .nil => rfl
  | _, _, .cons _ b => by simp [Reps.length b]
theorem Reps.get {C : Cfg} {F : Hp} {ρ : List Addr} : ∀ {vs ds} {i : Nat} {d : D}, Reps C F ρ vs ds → ds[i]? = some d → ∃ v, vs[i]? = some v ∧ Rep C F ρ v d
  | _, _, _, _, .nil, e => by simp at e
  | _, _, 0, _, .cons a _, e => by simp at e; subst e; exact ⟨_, rfl, a⟩
  | _, _, i + 1, _, .cons _ b, e => by
    obtain ⟨v, h1, h2⟩ := Reps.get (i := i) b (by simpa using e)
    exact ⟨v, by simpa using h1, h2⟩
theorem Reps.getV {C : Cfg} {F : Hp} {ρ : List Addr} : ∀ {vs ds} {i : Nat} {v : V}, Reps C F ρ vs ds → vs[i]? = some v → ∃ d, ds[i]? = some d ∧ Rep C F ρ v d
  | _, _, _, _, .nil, e => by simp at e
  | _, _, 0, _, .cons a _, e => by simp at e; subst e; exact ⟨_, rfl, a⟩
  | _, _, i + 1, _, .cons _ b, e => by
    obtain ⟨v, h1, h2⟩ := Reps.getV (i := i) b (by simpa using e)
    exact ⟨v, by simpa using h1, h2⟩
theorem Reps.append {C : Cfg} {F : Hp} {ρ : List Addr} : ∀ {vs ds ws es}, Reps C F ρ vs ds → Reps C F ρ ws es → Reps C F ρ (vs ++ ws) (ds ++ es)
  | _, _, _, _, .nil, h => h
  | _, _, _, _, .cons a b, h => .cons a (Reps.append b h)
theorem Reps.drop {C : Cfg} {F : Hp} {ρ : List Addr} : ∀ {vs ds} (n : Nat), Reps C F ρ vs ds → Reps C F ρ (vs.drop n) (ds.drop n)
  | _, _, 0, h => h
  | _, _, _ + 1, .nil => .nil
  | _, _, n + 1, .cons _ b => Reps.drop n b
theorem Reps.take {C : Cfg} {F : Hp} {ρ : List Addr} : ∀ {vs ds} (n : Nat), Reps C F ρ vs ds → Reps C F ρ (vs.take n) (ds.take n)
  | _, _, 0, h => .nil
  | _, _, _ + 1, .nil => .nil
  | _, _, n + 1, .cons a b => .cons a (Reps.take n b)
theorem Reps.set {C : Cfg} {F : Hp} {ρ : List Addr} {v : V} {d : D} (r : Rep C F ρ v d) : ∀ {vs ds} (n : Nat), Reps C F ρ vs ds → Reps C F ρ (vs.set n v) (ds.set n d)
  | _, _, _, .nil => .nil
  | _, _, 0, .cons _ b => .cons r b
  | _, _, n + 1, .cons a b => .cons a (Reps.set r n b)
theorem Reps.reverse {C : Cfg} {F : Hp} {ρ : List Addr} : ∀ {vs ds}, Reps C F ρ vs ds → Reps C F ρ vs.reverse ds.reverse
  | _, _, .nil => .nil
  | _, _, .cons a b => by rw [List.reverse_cons, List.reverse_cons]; exact (Reps.reverse b).append (.cons a .nil)

/-! ### an object that changes -/
def ObjRep (C : Cfg) (F : Hp) (ρ : List Addr) (H : Hp) (a : Addr) : DO → Prop
  | .lst xs => ∃ vs, H a = some (.lst vs) ∧ Reps C F ρ vs xs
  | .dct kvs => (∃ ks, H a = some (.dK ks) ∧ RepK C F ρ ks kvs) ∨ (∃ ks, H a = some (.dT ks) ∧ RepT C F ρ ks kvs)
  | .ins c fs => c < C.nc ∧ ∃ dx gs, H a = some (.ins (C.cls c) dx gs) ∧ RepF C F ρ gs fs
theorem ObjRep.le {C : Cfg} {F F' : Hp} {ρ ρ' : List Addr} {H H' : Hp} {a : Addr} {o : DO} (l : Le F F') (m : LeL ρ ρ') (e : H' a = H a) (h : ObjRep C F ρ H a o) : ObjRep C F' ρ' H' a o := by
  cases o with
  | lst xs => obtain ⟨vs, h1, h2⟩ := h; exact ⟨vs, e.trans h1, h2.le l m⟩
  | dct kvs =>
    rcases h with ⟨ks, h1, h2⟩ | ⟨ks, h1, h2⟩
    · exact .inl ⟨ks, e.trans h1, h2.le l m⟩
    · exact .inr ⟨ks, e.trans h1, h2.le l m⟩
  | ins c fs => obtain ⟨hc, dx, gs, h1, h2⟩ := h; exact ⟨hc, dx, gs, e.trans h1, h2.le l m⟩
theorem ObjRep.some {C : Cfg} {F : Hp} {ρ : List Addr} {H : Hp} {a : Addr} {o : DO} (h : ObjRep C F ρ H a o) : ∃ u, H a = some u ∧ Mut (some u) := by
  cases o with
  | lst xs => obtain ⟨vs, h1, h2⟩ := h; exact ⟨_, h1, trivial⟩
  | dct kvs =>
    rcases h with ⟨ks, h1, h2⟩ | ⟨ks, h1, h2⟩
    · exact ⟨_, h1, trivial⟩
    · exact ⟨_, h1, trivial⟩
  | ins c fs => obtain ⟨hc, dx, gs, h1, h2⟩ := h; exact ⟨_, h1, trivial⟩

/-! ### the state of a def's run -/
structure GW where
  F : Hp
  ρ : List Addr
def GW.le (W W' : GW) : Prop := Le W.F W'.F ∧ LeL W.ρ W'.ρ
theorem GW.le.refl (W : GW) : W.le W := ⟨Le.refl _, LeL.refl _⟩
theorem GW.le.trans {a b c : GW} (x : a.le b) (y : b.le c) : a.le c := ⟨x.1.trans y.1, x.2.trans y.2⟩
/-- what is fixed for a run: the heap at its start, what was told and tracked there; the object that its first parameter owns; the error that is handled -/
structure Bs where
  H0 : Hp
  F0 : Hp
  ρ0 : List Addr
  s0 : Option Addr
  exs : List Addr
  exc : Option (Addr × Value × Option Addr)
abbrev rp (C : Cfg) (W : GW) : V → D → Prop := Rep C W.F W.ρ
abbrev rps (C : Cfg) (W : GW) : List V → List D → Prop := Reps C W.F W.ρ
/-- an error's fields, in its own dict -/
def ExF (C : Cfg) (W : GW) (H : Hp) (dd : Option Addr) (fs : List (Nat × D)) : Prop :=
  (fs = [] ∧ dd = none) ∨ ∃ d gs, dd = some d ∧ H d = some (.xd gs) ∧ W.F d = some (.xd gs) ∧ RepF C W.F W.ρ gs fs
def SlotR (C : Cfg) (B : Bs) (W : GW) (H : Hp) (σ : St) (i : Nat) : Slot → Prop
  | .emp => True
  | .val d => ∃ v, σ[i]? = some (some v) ∧ rp C W v d
  | .own o => ∃ a, σ[i]? = some (some (.ref a)) ∧ ObjRep C W.F W.ρ H a o
  | .exn x => x.c < C.ne ∧ ∃ a dd, B.exc = some (a, .ref (C.exc x.c), dd) ∧ σ[i]? = some (some (.ref a)) ∧ ExF C W H dd x.fs
/-- the heaps, apart from the slots -/
structure HS (C : Cfg) (B : Bs) (W : GW) (h : DHp) (H : Hp) : Prop where
  fz : Le W.F H
  fz0 : Le B.F0 W.F
  new : ∀ (a : Addr) (o : HO), W.F a = some o → B.F0 a = some o ∨ B.H0 a = none
  keep : ∀ (a : Addr) (o : HO), B.H0 a = some o → a ∉ B.ρ0 → a ∉ B.exs → H a = some o
  ρ0 : LeL B.ρ0 W.ρ
  len : h.length = W.ρ.length
  rnd : W.ρ.Nodup
  trk : ∀ (l : Nat) (a : Addr) (o : DO), W.ρ[l]? = some a → h[l]? = some o → ObjRep C W.F W.ρ H a o
  trf : ∀ a ∈ W.ρ, W.F a = none
  trn : ∀ a ∈ W.ρ, a ∈ B.ρ0 ∨ B.H0 a = none
  s0e : ∀ (a : Addr), B.s0 = some a → a ∈ B.exs
  s0h : ∀ (a : Addr), a ∈ B.exs → (∃ u, H a = some u) ∧ W.F a = none ∧ a ∉ W.ρ
/-- the state: heaps and slots -/
structure HR (C : Cfg) (B : Bs) (W : GW) (L : List Slot) (h : DHp) (σ : St) (H : Hp) : Prop extends HS C B W h H where
  sl : L.length = σ.length
  slots : ∀ (i : Nat) (s : Slot), L[i]? = some s → SlotR C B W H σ i s
  ownf : ∀ (i : Nat) (o : DO) (a : Addr), L[i]? = some (.own o) → σ[i]? = some (some (.ref a)) → W.F a = none ∧ a ∉ W.ρ ∧ (B.H0 a = none ∨ a ∈ B.exs)
  ownd : ∀ (i j : Nat) (o o' : DO) (a : Addr), L[i]? = some (.own o) → L[j]? = some (.own o') → σ[i]? = some (some (.ref a)) → σ[j]? = some (some (.ref a)) → i = j
  s0 : ∀ (a : Addr) (o : DO), B.s0 = some a → L[0]? = some (.own o) → σ[0]? = some (some (.ref a))
  s0n : ∀ (a : Addr), B.s0 = some a → ∀ (i : Nat) (o : DO), L[i]? = some (.own o) → σ[i]? = some (some (.ref a)) → i = 0

/-- a pure step: the heap grew, and what is told with it -/
structure Ext (F H F' H' : Hp) : Prop where
  f : Le F F'
  h : Le H H'
  n : ∀ a o, F' a = some o → F a = some o ∨ H a = none
  k : Le F' H'
theorem Ext.refl {F H : Hp} (l : Le F H) : Ext F H F H := ⟨Le.refl _, Le.refl _, fun _ _ e => .inl e, l⟩
theorem Ext.trans {F H F1 H1 F2 H2 : Hp} (a : Ext F H F1 H1) (b : Ext F1 H1 F2 H2) : Ext F H F2 H2 :=
  ⟨a.f.trans b.f, a.h.trans b.h, fun x o e => (b.n x o e).elim (fun z => a.n x o z) fun z => .inr (by
    cases q : H x with
    | none => rfl
    | some u => rw [a.h x u q] at z; cases z), b.k⟩
/-- one new object, told -/
theorem Ext.one {F H : Hp} {p : Addr} {o : HO} (l : Le F H) (h : H p = none) : Ext F H (upd F p o) (upd H p o) := by
  have hF : F p = none := by
    cases q : F p with
    | none => rfl
    | some u => rw [l p u q] at h; cases h
  refine ⟨le_upd hF, le_upd h, fun a u e => ?_, le_upd2 l⟩
  by_cases ha : a = p
  · subst ha; exact .inr h
  · rw [upd_ne ha] at e; exact .inl e
/-- one new object, not told -/
theorem Ext.waste {F H : Hp} {p : Addr} {o : HO} (l : Le F H) (h : H p = none) : Ext F H F (upd H p o) :=
  ⟨Le.refl _, le_upd h, fun _ _ e => .inl e, fun a u e => le_upd h a u (l a u e)⟩

theorem ExF.le {C : Cfg} {W W' : GW} {H H' : Hp} {dd : Option Addr} {fs : List (Nat × D)} (l : W.le W') (k : Le W'.F H') (h : ExF C W H dd fs) : ExF C W' H' dd fs := by
  rcases h with h | ⟨d, gs, e, h1, h2, h3⟩
  · exact .inl h
  · exact .inr ⟨d, gs, e, k _ _ (l.1 _ _ h2), l.1 _ _ h2, h3.le l.1 l.2⟩
section
variable {C : Cfg} {B : Bs} {W : GW} {L : List Slot} {h : DHp} {σ : St} {H : Hp}
/-- what is tracked at b is not touched where the heap only grows -/
theorem obj_grow {H H' : Hp} {F : Hp} {ρ : List Addr} {a : Addr} {o : DO} (g : Le H H') (q : ObjRep C F ρ H a o) : H' a = H a := by
  obtain ⟨u, hu, _⟩ := q.some
  rw [hu]; exact g a u hu
theorem SlotR.le {W' : GW} {H' : Hp} {i : Nat} {s : Slot} (l : W.le W') (g : Le H H') (k : Le W'.F H') (q : SlotR C B W H σ i s) : SlotR C B W' H' σ i s := by
  cases s with
  | emp => trivial
  | val d => obtain ⟨v, h1, h2⟩ := q; exact ⟨v, h1, h2.le l.1 l.2⟩
  | own o => obtain ⟨a, h1, h2⟩ := q; exact ⟨a, h1, h2.le l.1 l.2 (obj_grow g h2)⟩
  | exn x => obtain ⟨hx, a, dd, h1, h2, h3⟩ := q; exact ⟨hx, a, dd, h1, h2, h3.le l k⟩
/-- an old object is still there -/
theorem HS.old (r : HS C B W h H) {a : Addr} {u : HO} (w : B.H0 a = some u) : ∃ o, H a = some o := by
  by_cases h1 : a ∈ B.ρ0
  · obtain ⟨r0, er⟩ := r.ρ0
    have hm : a ∈ W.ρ := by rw [er]; exact List.mem_append_left _ h1
    obtain ⟨i, hi, rfl⟩ := List.getElem_of_mem hm
    obtain ⟨o', ho'⟩ : ∃ o', h[i]? = some o' := ⟨h[i]'(by rw [r.len]; exact hi), List.getElem?_eq_getElem _⟩
    obtain ⟨u', hu', _⟩ := (r.trk i _ o' (List.getElem?_eq_getElem hi) ho').some
    exact ⟨_, hu'⟩
  · by_cases h2 : a ∈ B.exs
    · exact (r.s0h a h2).1
    · exact ⟨_, r.keep a u w h1 h2⟩
theorem HS.fresh (r : HS C B W h H) {a : Addr} (e : H a = none) : B.H0 a = none ∧ W.F a = none ∧ a ∉ W.ρ ∧ a ∉ B.exs := by
  refine ⟨?_, ?_, ?_, fun z => ?_⟩
  · cases w : B.H0 a with
    | none => rfl
    | some u => obtain ⟨o, ho⟩ := r.old w; rw [e] at ho; cases ho
  · cases w : W.F a with
    | none => rfl
    | some u => rw [r.fz a u w] at e; cases e
  · intro hm
    obtain ⟨i, hi, rfl⟩ := List.getElem_of_mem hm
    obtain ⟨o', ho'⟩ : ∃ o', h[i]? = some o' := ⟨h[i]'(by rw [r.len]; exact hi), List.getElem?_eq_getElem _⟩
    obtain ⟨u', hu', _⟩ := (r.trk i _ o' (List.getElem?_eq_getElem hi) ho').some
    rw [e] at hu'; cases hu'
  · obtain ⟨⟨u, hu⟩, _⟩ := r.s0h a z
    rw [e] at hu; cases hu
theorem HS.trkA (r : HS C B W h H) {a : Addr} (hm : a ∈ W.ρ) : ∃ (l : Nat) (o : DO), W.ρ[l]? = some a ∧ h[l]? = some o ∧ ObjRep C W.F W.ρ H a o := by
  obtain ⟨i, hi, rfl⟩ := List.getElem_of_mem hm
  obtain ⟨o', ho'⟩ : ∃ o', h[i]? = some o' := ⟨h[i]'(by rw [r.len]; exact hi), List.getElem?_eq_getElem _⟩
  exact ⟨i, o', List.getElem?_eq_getElem hi, ho', r.trk i _ o' (List.getElem?_eq_getElem hi) ho'⟩
theorem ext_notnew {F H F' H' : Hp} (e : Ext F H F' H') {a : Addr} {u : HO} (hu : H a = some u) (hf : F a = none) : F' a = none := by
  cases q : F' a with
  | none => rfl
  | some w =>
    rcases e.n a w q with z | z
    · rw [hf] at z; cases z
    · rw [hu] at z; cases z
theorem HS.ext {F' H' : Hp} (r : HS C B W h H) (e : Ext W.F H F' H') : HS C B ⟨F', W.ρ⟩ h H' := by
  have l : W.le ⟨F', W.ρ⟩ := ⟨e.f, LeL.refl _⟩
  refine ⟨e.k, r.fz0.trans e.f, fun a o q => ?_, fun a o q1 q2 q3 => e.h a o (r.keep a o q1 q2 q3), r.ρ0, r.len, r.rnd, fun l' a o q1 q2 => ?_, fun a ha => ?_, r.trn, r.s0e, fun a q => ?_⟩
  · rcases e.n a o q with z | z
    · exact r.new a o z
    · exact .inr (r.fresh z).1
  · have q := r.trk l' a o q1 q2
    exact q.le l.1 l.2 (obj_grow e.h q)
  · obtain ⟨l', o', h1, h2, h3⟩ := r.trkA ha
    obtain ⟨u', hu', _⟩ := h3.some
    exact ext_notnew e hu' (r.trf _ ha)
  · obtain ⟨⟨u, hu⟩, h1, h2⟩ := r.s0h a q
    exact ⟨⟨u, e.h a u hu⟩, ext_notnew e hu h1, h2⟩
theorem HR.ext {F' H' : Hp} (r : HR C B W L h σ H) (e : Ext W.F H F' H') : HR C B ⟨F', W.ρ⟩ L h σ H' := by
  have l : W.le ⟨F', W.ρ⟩ := ⟨e.f, LeL.refl _⟩
  refine { r.toHS.ext e with sl := r.sl, slots := fun i s q => (r.slots i s q).le l e.h e.k, ownf := fun i o a q1 q2 => ?_, ownd := r.ownd, s0 := r.s0, s0n := r.s0n }
  obtain ⟨a', h1, h2⟩ := r.slots i _ q1
  rw [q2] at h1; cases h1
  obtain ⟨u', hu', _⟩ := h2.some
  obtain ⟨h3, h4, h5⟩ := r.ownf i o a q1 q2
  exact ⟨ext_notnew e hu' h3, h4, h5⟩
end
end P2S
end

section
/-! P2Ops: what keeps the state. -/
set_option autoImplicit false
set_option Elab.async false
set_option linter.all false
set_option maxRecDepth 100000
set_option maxHeartbeats 1000000
namespace P2S
open PySem PySem.Spec L2
open P2 (D DO DHp Exn Slot snap R SR Run Pg)
section
variable {C : Cfg} {B : Bs} {W : GW} {L : List Slot} {h : DHp} {σ : St} {H : Hp} {i : Nat}
theorem set_get {α : Type} {l : List α} {i j : Nat} {x y : α} (e : (l.set i x)[j]? = some y) : (j = i ∧ y = x ∧ i < l.length) ∨ (j ≠ i ∧ l[j]? = some y) := by
  by_cases hj : j = i
  · subst hj
    rw [List.getElem?_set_self'] at e
    cases hl : l[j]? with
    | none => rw [hl] at e; cases e
    | some z =>
      rw [hl] at e
      obtain ⟨hh, _⟩ := List.getElem?_eq_some_iff.mp hl
      exact .inl ⟨rfl, (Option.some.inj e).symm, hh⟩
  · rw [List.getElem?_set_ne (Ne.symm hj)] at e
    exact .inr ⟨hj, e⟩
theorem set_ne {α : Type} {l : List α} {i j : Nat} {x : α} (h : j ≠ i) : (l.set i x)[j]? = l[j]? := List.getElem?_set_ne (Ne.symm h)
theorem set_eq {α : Type} {l : List α} {i : Nat} {x : α} (h : i < l.length) : (l.set i x)[i]? = some x := List.getElem?_set_self h
theorem nodup_get {α : Type} : ∀ {l : List α} {i j : Nat} {x : α}, l.Nodup → l[i]? = some x → l[j]? = some x → i = j
  | [], _, _, _, _, h, _ => by simp at h
  | y :: l, 0, 0, x, _, _, _ => rfl
  | y :: l, 0, j + 1, x, n, h1, h2 => by
    simp at h1 h2
    subst h1
    exact absurd (List.mem_of_getElem? h2) (List.nodup_cons.mp n).1
  | y :: l, i + 1, 0, x, n, h1, h2 => by
    simp at h1 h2
    subst h2
    exact absurd (List.mem_of_getElem? h1) (List.nodup_cons.mp n).1
  | y :: l, i + 1, j + 1, x, n, h1, h2 => by
    simp at h1 h2
    rw [nodup_get (List.nodup_cons.mp n).2 h1 h2]
theorem SlotR.at_ne {x : Option V} {j : Nat} {s : Slot} (h : j ≠ i) (q : SlotR C B W H σ j s) : SlotR C B W H (σ.set i x) j s := by
  cases s with
  | emp => trivial
  | val d => obtain ⟨v, h1, h2⟩ := q; exact ⟨v, by rw [set_ne h]; exact h1, h2⟩
  | own o => obtain ⟨a, h1, h2⟩ := q; exact ⟨a, by rw [set_ne h]; exact h1, h2⟩
  | exn x => obtain ⟨hx, a, dd, h1, h2, h3⟩ := q; exact ⟨hx, a, dd, h1, by rw [set_ne h]; exact h2, h3⟩
theorem HR.own_at {o : DO} (r : HR C B W L h σ H) (e : L[i]? = some (.own o)) : ∃ a, σ[i]? = some (some (.ref a)) ∧ ObjRep C W.F W.ρ H a o := r.slots i _ e
theorem HR.val_at {d : D} (r : HR C B W L h σ H) (e : L[i]? = some (.val d)) : ∃ v, σ[i]? = some (some v) ∧ Rep C W.F W.ρ v d := r.slots i _ e
/-- a slot's new content, not owned -/
theorem HR.setSlot {s : Slot} {x : Option V} (r : HR C B W L h σ H) (hn : ∀ o, s ≠ .own o) (hs : SlotR C B W H (σ.set i x) i s) : HR C B W (L.set i s) h (σ.set i x) H := by
  refine { r.toHS with sl := by simp [r.sl], slots := fun j s' e => ?_, ownf := fun j o a e1 e2 => ?_, ownd := fun j k o o' a e1 e2 e3 e4 => ?_, s0 := fun a o e1 e2 => ?_, s0n := fun a e j o e1 e2 => ?_ }
  · rcases set_get e with ⟨rfl, rfl, _⟩ | ⟨hj, e'⟩
    · exact hs
    · exact (r.slots j s' e').at_ne hj
  · rcases set_get e1 with ⟨rfl, e', _⟩ | ⟨hj, e'⟩
    · exact absurd e'.symm (hn o)
    · rw [set_ne hj] at e2
      exact r.ownf j o a e' e2
  · rcases set_get e1 with ⟨rfl, e', _⟩ | ⟨hj, e'⟩
    · exact absurd e'.symm (hn o)
    · rcases set_get e2 with ⟨rfl, e'', _⟩ | ⟨hk, e''⟩
      · exact absurd e''.symm (hn o')
      · rw [set_ne hj] at e3
        rw [set_ne hk] at e4
        exact r.ownd j k o o' a e' e'' e3 e4
  · rcases set_get e2 with ⟨h0, e', _⟩ | ⟨hj, e'⟩
    · exact absurd e'.symm (hn o)
    · rw [set_ne hj]
      exact r.s0 a o e1 e'
  · rcases set_get e1 with ⟨h0, e', _⟩ | ⟨hj, e'⟩
    · exact absurd e'.symm (hn o)
    · rw [set_ne hj] at e2
      exact r.s0n a e j o e' e2
theorem HR.setVal {d : D} {v : V} (r : HR C B W L h σ H) (hl : i < L.length) (p : Rep C W.F W.ρ v d) : HR C B W (L.set i (.val d)) h (σ.set i (some v)) H :=
  r.setSlot (fun _ z => nomatch z) ⟨v, set_eq (by rw [← r.sl]; exact hl), p⟩
theorem HR.setNone (r : HR C B W L h σ H) : HR C B W (L.set i .emp) h (σ.set i none) H := r.setSlot (fun _ z => nomatch z) trivial
theorem HR.kill (r : HR C B W L h σ H) : HR C B W (L.set i .emp) h σ H := by
  cases hs : σ[i]? with
  | none =>
    have hl : L.length ≤ i := by rw [r.sl]; exact List.getElem?_eq_none_iff.mp hs
    rw [List.set_eq_of_length_le hl]
    exact r
  | some x =>
    have e : σ.set i x = σ := by
      apply List.ext_getElem?
      intro j
      by_cases hj : j = i
      · subst hj
        obtain ⟨hh, _⟩ := List.getElem?_eq_some_iff.mp hs
        rw [set_eq hh, hs]
      · rw [set_ne hj]
    have := r.setSlot (i := i) (x := x) (s := .emp) (fun _ z => nomatch z) trivial
    rw [e] at this
    exact this
theorem HR.kills : ∀ {vs : List Nat} {L : List Slot}, HR C B W L h σ H → HR C B W (P2.kills L vs) h σ H
  | [], _, r => r
  | _ :: vs, _, r => HR.kills (vs := vs) r.kill
theorem kills_emp : ∀ {vs : List Nat} {L : List Slot} {i : Nat}, i ∈ vs ∨ L[i]? = some .emp → (P2.kills L vs)[i]? = some .emp ∨ L.length ≤ i
  | [], L, i, e => .inl (e.resolve_left (by simp))
  | v :: vs, L, i, e => by
    by_cases hi : L.length ≤ i
    · exact .inr hi
    · have : i ∈ vs ∨ (L.set v .emp)[i]? = some .emp := by
        rcases e with e | e
        · rcases List.mem_cons.mp e with rfl | e
          · exact .inr (set_eq (by omega))
          · exact .inl e
        · by_cases hv : i = v
          · subst hv; exact .inr (set_eq (by omega))
          · exact .inr (by rw [set_ne hv]; exact e)
      rcases kills_emp (vs := vs) this with q | q
      · exact .inl q
      · simp at q; omega
theorem HR.wipe1 (r : HR C B W L h σ H) (e : L[i]? = some .emp ∨ L.length ≤ i) : HR C B W L h (σ.set i none) H := by
  rcases e with e | e
  · have := r.setNone (i := i)
    have e' : L.set i .emp = L := by
      apply List.ext_getElem?
      intro j
      by_cases hj : j = i
      · subst hj
        obtain ⟨hh, _⟩ := List.getElem?_eq_some_iff.mp e
        rw [set_eq hh, e]
      · rw [set_ne hj]
    rw [e'] at this
    exact this
  · rw [List.set_eq_of_length_le (by rw [← r.sl]; exact e)]
    exact r
theorem HR.wipe : ∀ {vs : List Nat}, HR C B W L h σ H → (∀ i ∈ vs, L[i]? = some .emp ∨ L.length ≤ i) → HR C B W L h (wipe σ vs) H
  | [], r, _ => r
  | v :: vs, r, e => (HR.wipe (vs := vs) r fun i hi => e i (List.mem_cons_of_mem _ hi)).wipe1 (e v (List.mem_cons_self ..))
theorem kills_length : ∀ {vs : List Nat} {L : List Slot}, (P2.kills L vs).length = L.length
  | [], _ => rfl
  | v :: vs, L => by
    show (P2.kills (L.set v .emp) vs).length = _
    rw [kills_length (vs := vs)]; simp
theorem HR.comp {vs : List Nat} (r : HR C B W L h σ H) : HR C B W (P2.kills L vs) h (L2.wipe σ vs) H :=
  r.kills.wipe fun i hi => by
    rcases kills_emp (L := L) (Or.inl hi) with q | q
    · exact .inl q
    · exact .inr (by rw [kills_length]; exact q)
/-- the state at an owned object's new address -/
theorem HR.setOwn {o : DO} {p : Addr} {ho : HO} (r : HR C B W L h σ H) (hi : i ≠ 0) (hl : i < L.length) (hp : H p = none) (ob : ObjRep C W.F W.ρ (upd H p ho) p o) : HR C B W (L.set i (.own o)) h (σ.set i (some (.ref p))) (upd H p ho) := by
  obtain ⟨f1, f2, f3, f4⟩ := r.toHS.fresh hp
  have r2 : HR C B W L h σ (upd H p ho) := r.ext (Ext.waste r.fz hp)
  have hs : i < σ.length := by rw [← r.sl]; exact hl
  have nop : ∀ {j : Nat} {o' : DO}, L[j]? = some (.own o') → σ[j]? = some (some (.ref p)) → False := fun {j o'} e1 e2 => by
    obtain ⟨a, h1, h2⟩ := r.own_at e1
    rw [e2] at h1; cases h1
    obtain ⟨u, hu, _⟩ := h2.some
    rw [hp] at hu; cases hu
  refine { r2.toHS with sl := by simp [r.sl], slots := fun j s' e => ?_, ownf := fun j o' a e1 e2 => ?_, ownd := fun j k o1 o2 a e1 e2 e3 e4 => ?_, s0 := fun a o' e1 e2 => ?_, s0n := fun a e j o' e1 e2 => ?_ }
  · rcases set_get e with ⟨rfl, rfl, _⟩ | ⟨hj, e'⟩
    · exact ⟨p, set_eq hs, ob⟩
    · exact (r2.slots j s' e').at_ne hj
  · rcases set_get e1 with ⟨rfl, e', _⟩ | ⟨hj, e'⟩
    · rw [set_eq hs] at e2
      cases e2
      exact ⟨f2, f3, .inl f1⟩
    · rw [set_ne hj] at e2
      exact r.ownf j o' a e' e2
  · rcases set_get e1 with ⟨rfl, e', _⟩ | ⟨hj, e'⟩
    · rw [set_eq hs] at e3
      cases e3
      rcases set_get e2 with ⟨rfl, e'', _⟩ | ⟨hk, e''⟩
      · rfl
      · rw [set_ne hk] at e4
        exact (nop e'' e4).elim
    · rw [set_ne hj] at e3
      rcases set_get e2 with ⟨rfl, e'', _⟩ | ⟨hk, e''⟩
      · rw [set_eq hs] at e4
        cases e4
        exact (nop e' e3).elim
      · rw [set_ne hk] at e4
        exact r.ownd j k o1 o2 a e' e'' e3 e4
  · rw [set_ne (Ne.symm hi)] at e2 ⊢
    exact r.s0 a o' e1 e2
  · rcases set_get e1 with ⟨rfl, e', _⟩ | ⟨hj, e'⟩
    · rw [set_eq hs] at e2
      cases e2
      exact absurd (r.s0e _ e) f4
    · rw [set_ne hj] at e2
      exact r.s0n a e j o' e' e2
theorem ObjRep.at_ne {F : Hp} {ρ : List Addr} {a b : Addr} {ho : HO} {o : DO} (hb : b ≠ a) (q : ObjRep C F ρ H b o) : ObjRep C F ρ (upd H a ho) b o := q.le (Le.refl _) (LeL.refl _) (upd_ne hb)
/-- an owned object changes -/
theorem HR.upOwn {o o' : DO} {a : Addr} {ho : HO} (r : HR C B W L h σ H) (e : L[i]? = some (.own o)) (ea : σ[i]? = some (some (.ref a))) (ob : ObjRep C W.F W.ρ (upd H a ho) a o') : HR C B W (L.set i (.own o')) h σ (upd H a ho) := by
  obtain ⟨f1, f2, f3⟩ := r.ownf i o a e ea
  have fz : Le W.F (upd H a ho) := fun b u q => by rw [upd_ne (ne_of_none q f1)]; exact r.fz b u q
  refine { fz := fz, fz0 := r.fz0, new := r.new, keep := fun b u q1 q2 q3 => ?_, ρ0 := r.ρ0, len := r.len, rnd := r.rnd, trk := fun l b u q1 q2 => ?_, trf := r.trf, trn := r.trn, s0e := r.s0e, s0h := fun b q => ?_, sl := by simp [r.sl], slots := fun j s' e1 => ?_, ownf := fun j o1 b e1 e2 => ?_, ownd := fun j k o1 o2 b e1 e2 e3 e4 => ?_, s0 := fun b o1 e1 e2 => ?_, s0n := fun b e0 j o1 e1 e2 => ?_ }
  · have hb : b ≠ a := by
      rintro rfl
      rcases f3 with f3 | f3
      · rw [f3] at q1; cases q1
      · exact q3 f3
    rw [upd_ne hb]
    exact r.keep b u q1 q2 q3
  · have hb : b ≠ a := by
      rintro rfl
      exact f2 (List.mem_of_getElem? q1)
    exact (r.trk l b u q1 q2).at_ne hb
  · obtain ⟨⟨u, hu⟩, h1, h2⟩ := r.s0h b q
    refine ⟨?_, h1, h2⟩
    by_cases hb : b = a
    · subst hb; exact ⟨_, upd_same⟩
    · exact ⟨u, by rw [upd_ne hb]; exact hu⟩
  · rcases set_get e1 with ⟨rfl, rfl, _⟩ | ⟨hj, e'⟩
    · exact ⟨a, ea, ob⟩
    · have q := r.slots j s' e'
      cases s' with
      | emp => trivial
      | val d => exact q
      | own o1 =>
        obtain ⟨b, h1, h2⟩ := q
        refine ⟨b, h1, h2.at_ne ?_⟩
        rintro rfl
        exact hj (r.ownd j i o1 o b e' e h1 ea)
      | exn x => obtain ⟨hx, b, dd, h1, h2, h3⟩ := q; exact ⟨hx, b, dd, h1, h2, h3.le (GW.le.refl W) fz⟩
  · rcases set_get e1 with ⟨rfl, e', _⟩ | ⟨hj, e'⟩
    · rw [ea] at e2; cases e2; exact ⟨f1, f2, f3⟩
    · exact r.ownf j o1 b e' e2
  · have own : ∀ {j : Nat} {o1 : DO}, (L.set i (.own o'))[j]? = some (.own o1) → ∃ o2, L[j]? = some (.own o2) := fun {j o1} e1 => by
      rcases set_get e1 with ⟨rfl, e', _⟩ | ⟨hj, e'⟩
      · exact ⟨_, e⟩
      · exact ⟨_, e'⟩
    obtain ⟨_, g1⟩ := own e1
    obtain ⟨_, g2⟩ := own e2
    exact r.ownd j k _ _ b g1 g2 e3 e4
  · rcases set_get e2 with ⟨h0, e', _⟩ | ⟨hj, e'⟩
    · exact r.s0 b o e1 (by rw [h0]; exact e)
    · exact r.s0 b o1 e1 e'
  · rcases set_get e1 with ⟨rfl, e', _⟩ | ⟨hj, e'⟩
    · exact r.s0n b e0 j o e e2
    · exact r.s0n b e0 j o1 e' e2
/-- a tracked object changes -/
theorem HR.upLoc {l : Nat} {o o' : DO} {a : Addr} {ho : HO} (r : HR C B W L h σ H) (e : h[l]? = some o) (ea : W.ρ[l]? = some a) (ob : ObjRep C W.F W.ρ (upd H a ho) a o') : HR C B W L (h.set l o') σ (upd H a ho) := by
  have ha : a ∈ W.ρ := List.mem_of_getElem? ea
  have f1 := r.trf a ha
  have fz : Le W.F (upd H a ho) := fun b u q => by rw [upd_ne (ne_of_none q f1)]; exact r.fz b u q
  obtain ⟨hl, _⟩ := List.getElem?_eq_some_iff.mp e
  refine { fz := fz, fz0 := r.fz0, new := r.new, keep := fun b u q1 q2 q3 => ?_, ρ0 := r.ρ0, len := by simp [r.len], rnd := r.rnd, trk := fun k b u q1 q2 => ?_, trf := r.trf, trn := r.trn, s0e := r.s0e, s0h := fun b q => ?_, sl := r.sl, slots := fun j s' e1 => ?_, ownf := r.ownf, ownd := r.ownd, s0 := r.s0, s0n := r.s0n }
  · have hb : b ≠ a := by
      rintro rfl
      rcases r.trn b ha with z | z
      · exact q2 z
      · rw [z] at q1; cases q1
    rw [upd_ne hb]
    exact r.keep b u q1 q2 q3
  · rcases set_get q2 with ⟨rfl, rfl, _⟩ | ⟨hk, q'⟩
    · rw [ea] at q1; cases q1; exact ob
    · have hb : b ≠ a := by
        rintro rfl
        exact hk (nodup_get r.rnd q1 ea)
      exact (r.trk k b u q1 q').at_ne hb
  · obtain ⟨⟨u, hu⟩, h1, h2⟩ := r.s0h b q
    refine ⟨?_, h1, h2⟩
    by_cases hb : b = a
    · subst hb; exact ⟨_, upd_same⟩
    · exact ⟨u, by rw [upd_ne hb]; exact hu⟩
  · have q := r.slots j s' e1
    cases s' with
    | emp => trivial
    | val d => exact q
    | own o1 =>
      obtain ⟨b, h1, h2⟩ := q
      refine ⟨b, h1, h2.at_ne ?_⟩
      rintro rfl
      exact (r.ownf j o1 b e1 h1).2.1 ha
    | exn x => obtain ⟨hx, b, dd, h1, h2, h3⟩ := q; exact ⟨hx, b, dd, h1, h2, h3.le (GW.le.refl W) fz⟩
/-- a new tracked object -/
theorem HR.newLoc {o : DO} {p : Addr} {ho : HO} (r : HR C B W L h σ H) (hp : H p = none) (ob : ObjRep C W.F W.ρ (upd H p ho) p o) : HR C B ⟨W.F, W.ρ ++ [p]⟩ L (h ++ [o]) σ (upd H p ho) := by
  obtain ⟨f1, f2, f3, f4⟩ := r.toHS.fresh hp
  have r2 : HR C B W L h σ (upd H p ho) := r.ext (Ext.waste r.fz hp)
  have ll : LeL W.ρ (W.ρ ++ [p]) := ⟨[p], rfl⟩
  have l : W.le ⟨W.F, W.ρ ++ [p]⟩ := ⟨Le.refl _, ll⟩
  refine { fz := r2.fz, fz0 := r.fz0, new := r.new, keep := r2.keep, ρ0 := r.ρ0.trans ll, len := by simp [r.len], rnd := ?_, trk := fun k b u q1 q2 => ?_, trf := fun b hb => ?_, trn := fun b hb => ?_, s0e := r.s0e, s0h := fun b q => ?_, sl := r.sl, slots := fun j s' e1 => (r2.slots j s' e1).le l (Le.refl _) r2.fz, ownf := fun j o1 b e1 e2 => ?_, ownd := r.ownd, s0 := r.s0, s0n := r.s0n }
  · rw [List.nodup_append]
    exact ⟨r.rnd, by simp, fun a ha b hb => by simp at hb; subst hb; rintro rfl; exact f3 ha⟩
  · by_cases hk : k < W.ρ.length
    · rw [List.getElem?_append_left hk] at q1
      rw [List.getElem?_append_left (by rw [r.len]; exact hk)] at q2
      exact (r2.trk k b u q1 q2).le (Le.refl _) ll rfl
    · have hk2 : k = W.ρ.length := by
        obtain ⟨z, _⟩ := List.getElem?_eq_some_iff.mp q1
        simp at z
        omega
      subst hk2
      rw [List.getElem?_append_right (Nat.le_refl _)] at q1
      rw [List.getElem?_append_right (by rw [r.len]; exact Nat.le_refl _), r.len] at q2
      simp at q1 q2
      subst q1 q2
      exact ob.le (Le.refl _) ll rfl
  · rcases List.mem_append.mp hb with hb | hb
    · exact r.trf b hb
    · simp at hb; subst hb; exact f2
  · rcases List.mem_append.mp hb with hb | hb
    · exact r.trn b hb
    · simp at hb; subst hb; exact .inr f1
  · obtain ⟨h1, h2, h3⟩ := r2.s0h b q
    refine ⟨h1, h2, fun hb => ?_⟩
    rcases List.mem_append.mp hb with hb | hb
    · exact h3 hb
    · simp at hb; subst hb; exact f4 q
  · obtain ⟨h1, h2, h3⟩ := r.ownf j o1 b e1 e2
    refine ⟨h1, fun hb => ?_, h3⟩
    rcases List.mem_append.mp hb with hb | hb
    · exact h2 hb
    · simp at hb
      subst hb
      obtain ⟨b', g1, g2⟩ := r.own_at e1
      rw [e2] at g1; cases g1
      obtain ⟨u, hu, _⟩ := g2.some
      rw [hp] at hu; cases hu
/-- an object of no slot's is told -/
theorem HR.tell {x : Addr} {ho : HO} (r : HR C B W L h σ H) (hx : H x = some ho) (hf : W.F x = none) (hρ : x ∉ W.ρ) (h0 : B.H0 x = none) (hs : x ∉ B.exs) (hn : ∀ (j : Nat) (o : DO), L[j]? = some (.own o) → σ[j]? ≠ some (some (.ref x))) : HR C B ⟨upd W.F x ho, W.ρ⟩ L h σ H := by
  have lf : Le W.F (upd W.F x ho) := le_upd hf
  have fz : Le (upd W.F x ho) H := fun b u q => by
    by_cases hb : b = x
    · subst hb; rw [upd_same] at q; cases q; exact hx
    · rw [upd_ne hb] at q; exact r.fz b u q
  have l : W.le ⟨upd W.F x ho, W.ρ⟩ := ⟨lf, LeL.refl _⟩
  refine { fz := fz, fz0 := r.fz0.trans lf, new := fun b u q => ?_, keep := r.keep, ρ0 := r.ρ0, len := r.len, rnd := r.rnd, trk := fun k b u q1 q2 => (r.trk k b u q1 q2).le lf (LeL.refl _) rfl, trf := fun b hb => ?_, trn := r.trn, s0e := r.s0e, s0h := fun b q => ?_, sl := r.sl, slots := fun j s' e1 => (r.slots j s' e1).le l (Le.refl _) fz, ownf := fun j o1 b e1 e2 => ?_, ownd := r.ownd, s0 := r.s0, s0n := r.s0n }
  · by_cases hb : b = x
    · subst hb; exact .inr h0
    · have q' : W.F b = some u := by
        have q0 : upd W.F x ho b = some u := q
        rw [upd_ne hb] at q0; exact q0
      exact r.new b u q'
  · have hb' : b ≠ x := by rintro rfl; exact hρ hb
    show upd W.F x ho b = none
    rw [upd_ne hb']
    exact r.trf b hb
  · obtain ⟨h1, h2, h3⟩ := r.s0h b q
    refine ⟨h1, ?_, h3⟩
    have hb' : b ≠ x := by rintro rfl; exact hs q
    show upd W.F x ho b = none
    rw [upd_ne hb']
    exact h2
  · obtain ⟨h1, h2, h3⟩ := r.ownf j o1 b e1 e2
    refine ⟨?_, h2, h3⟩
    have hb' : b ≠ x := by rintro rfl; exact hn j o1 e1 e2
    show upd W.F x ho b = none
    rw [upd_ne hb']
    exact h1
/-- the state of a run that starts here -/
theorem HS.start (r : HS C B W h H) (s0 : Option Addr) (exs : List Addr) (exc : Option (Addr × Value × Option Addr)) (he : ∀ a, s0 = some a → a ∈ exs) (hs : ∀ a ∈ exs, (∃ u, H a = some u) ∧ W.F a = none ∧ a ∉ W.ρ) : HS C ⟨H, W.F, W.ρ, s0, exs, exc⟩ W h H where
  fz := r.fz
  fz0 := Le.refl _
  new := fun a o e => .inl e
  keep := fun a o e _ _ => e
  ρ0 := LeL.refl _
  len := r.len
  rnd := r.rnd
  trk := r.trk
  trf := r.trf
  trn := fun a ha => .inl ha
  s0e := he
  s0h := hs
/-- behind a call, or behind an expression that was judged from here -/
theorem HR.call {W' : GW} {h' : DHp} {H' : Hp} {s0 : Option Addr} {exs : List Addr} {exc : Option (Addr × Value × Option Addr)} (r : HR C B W L h σ H) (q : HS C ⟨H, W.F, W.ρ, s0, exs, exc⟩ W' h' H')
    (hs : ∀ a ∈ exs, B.H0 a = none ∨ a ∈ B.exs)
    (ho : ∀ (j : Nat) (o : DO) (a : Addr), L[j]? = some (.own o) → σ[j]? = some (some (.ref a)) → a ∈ exs → ObjRep C W'.F W'.ρ H' a o) : HR C B W' L h' σ H' := by
  have l : W.le W' := ⟨q.fz0, q.ρ0⟩
  have kp : ∀ {a : Addr} {u : HO}, H a = some u → a ∉ W.ρ → a ∉ exs → H' a = some u := fun {a u} h1 h2 h3 => q.keep a u h1 h2 h3
  have notnew : ∀ {a : Addr} {u : HO}, H a = some u → W.F a = none → W'.F a = none := fun {a u} h1 h2 => by
    cases z : W'.F a with
    | none => rfl
    | some w =>
      rcases q.new a w z with z1 | z1
      · exact absurd z1 (by show ¬ W.F a = some w; rw [h2]; simp)
      · exact absurd z1 (by show ¬ H a = none; rw [h1]; simp)
  have nin : ∀ {a : Addr} {u : HO}, H a = some u → a ∉ W.ρ → a ∉ W'.ρ := fun {a u} h1 h2 h3 => by
    rcases q.trn a h3 with z | z
    · exact h2 z
    · exact absurd z (by show ¬ H a = none; rw [h1]; simp)
  refine { fz := q.fz, fz0 := r.fz0.trans q.fz0, new := fun a o e => ?_, keep := fun a o e1 e2 e3 => ?_, ρ0 := r.ρ0.trans q.ρ0, len := q.len, rnd := q.rnd, trk := q.trk, trf := q.trf, trn := fun a ha => ?_, s0e := r.s0e, s0h := fun a e => ?_, sl := r.sl, slots := fun j s' e1 => ?_, ownf := fun j o a e1 e2 => ?_, ownd := r.ownd, s0 := r.s0, s0n := r.s0n }
  · rcases q.new a o e with z | z
    · exact r.new a o z
    · exact .inr (r.toHS.fresh z).1
  · have h1 := r.keep a o e1 e2 e3
    by_cases hm : a ∈ W.ρ
    · rcases r.trn a hm with z | z
      · exact absurd z e2
      · rw [z] at e1; cases e1
    · refine kp h1 hm fun z => ?_
      rcases hs a z with y | y
      · rw [y] at e1; cases e1
      · exact e3 y
  · rcases q.trn a ha with z | z
    · exact r.trn a z
    · exact .inr (r.toHS.fresh z).1
  · obtain ⟨⟨u, hu⟩, h1, h2⟩ := r.s0h a e
    refine ⟨?_, notnew hu h1, nin hu h2⟩
    by_cases hx : a ∈ exs
    · exact (q.s0h a hx).1
    · exact ⟨u, kp hu h2 hx⟩
  · have z := r.slots j s' e1
    cases s' with
    | emp => trivial
    | val d => obtain ⟨v, h1, h2⟩ := z; exact ⟨v, h1, h2.le l.1 l.2⟩
    | own o =>
      obtain ⟨a, h1, h2⟩ := z
      obtain ⟨u, hu, _⟩ := h2.some
      by_cases hx : a ∈ exs
      · exact ⟨a, h1, ho j o a e1 h1 hx⟩
      · refine ⟨a, h1, h2.le l.1 l.2 ?_⟩
        rw [hu]
        exact kp hu (r.ownf j o a e1 h1).2.1 hx
    | exn x => obtain ⟨hx, a, dd, h1, h2, h3⟩ := z; exact ⟨hx, a, dd, h1, h2, h3.le l q.fz⟩
  · obtain ⟨h1, h2, h3⟩ := r.ownf j o a e1 e2
    obtain ⟨a', g1, g2⟩ := r.own_at e1
    rw [e2] at g1; cases g1
    obtain ⟨u, hu, _⟩ := g2.some
    exact ⟨notnew hu h1, nin hu h2, h3⟩
/-- the addresses that slots own -/
def own1 : Slot → Option V → List Addr
  | .own _, some (.ref a) => [a]
  | _, _ => []
def owned : List Slot → St → List Addr
  | s :: L, x :: σ => own1 s x ++ owned L σ
  | _, _ => []
theorem mem_own1 {s : Slot} {x : Option V} {a : Addr} : a ∈ own1 s x ↔ (∃ o, s = .own o) ∧ x = some (.ref a) := by
  cases s with
  | own o =>
    cases x with
    | none => simp [own1]
    | some v => cases v <;> simp [own1, eq_comm]
  | _ => simp [own1]
theorem mem_owned : ∀ {L : List Slot} {σ : St} {a : Addr}, a ∈ owned L σ ↔ ∃ (j : Nat) (o : DO), L[j]? = some (.own o) ∧ σ[j]? = some (some (.ref a))
  | [], σ, a => by cases σ <;> simp [owned]
  | s :: L, [], a => by simp [owned]
  | s :: L, x :: σ, a => by
    have ih := mem_owned (L := L) (σ := σ) (a := a)
    show a ∈ own1 s x ++ owned L σ ↔ _
    rw [List.mem_append, ih, mem_own1]
    constructor
    · rintro (⟨⟨o, rfl⟩, rfl⟩ | ⟨j, o, h1, h2⟩)
      · exact ⟨0, o, rfl, rfl⟩
      · exact ⟨j + 1, o, by simpa using h1, by simpa using h2⟩
    · rintro ⟨j, o, h1, h2⟩
      cases j with
      | zero => simp at h1 h2; exact .inl ⟨⟨o, h1⟩, h2⟩
      | succ j => exact .inr ⟨j, o, by simpa using h1, by simpa using h2⟩
/-- the ground of a judgement that starts here -/
def Bs.re (B : Bs) (W : GW) (L : List Slot) (σ : St) (H : Hp) : Bs := ⟨H, W.F, W.ρ, none, owned L σ, B.exc⟩
theorem HR.rebase (r : HR C B W L h σ H) : HR C (B.re W L σ H) W L h σ H where
  toHS := r.toHS.start none (owned L σ) B.exc (fun _ z => nomatch z) fun a ha => by
    obtain ⟨j, o, h1, h2⟩ := mem_owned.mp ha
    obtain ⟨f1, f2, f3⟩ := r.ownf j o a h1 h2
    obtain ⟨a', g1, g2⟩ := r.own_at h1
    rw [h2] at g1; cases g1
    obtain ⟨u, hu, _⟩ := g2.some
    exact ⟨⟨u, hu⟩, f1, f2⟩
  sl := r.sl
  slots := fun i s e => by
    have q := r.slots i s e
    cases s with
    | emp => trivial
    | val d => exact q
    | own o => exact q
    | exn x => exact q
  ownf := fun i o a e1 e2 => ⟨(r.ownf i o a e1 e2).1, (r.ownf i o a e1 e2).2.1, .inr (mem_owned.mpr ⟨i, o, e1, e2⟩)⟩
  ownd := r.ownd
  s0 := fun _ _ z => nomatch z
  s0n := fun _ z => nomatch z
theorem HR.unbase {W' : GW} {h' : DHp} {H' : Hp} (r : HR C B W L h σ H) (q : HR C (B.re W L σ H) W' L h' σ H') : HR C B W' L h' σ H' :=
  r.call q.toHS (fun a ha => by
    obtain ⟨j, o, h1, h2⟩ := mem_owned.mp ha
    exact (r.ownf j o a h1 h2).2.2) fun j o a e1 e2 _ => by
    obtain ⟨a', g1, g2⟩ := q.own_at e1
    rw [e2] at g1; cases g1
    exact g2
/-- an object of none's comes, or changes -/
theorem HR.waste {x : Addr} {ho : HO} (r : HR C B W L h σ H) (hf : W.F x = none) (hρ : x ∉ W.ρ) (h0 : B.H0 x = none) (hs : x ∉ B.exs) (hn : x ∉ owned L σ) : HR C B W L h σ (upd H x ho) := by
  have fz : Le W.F (upd H x ho) := fun b u q => by rw [upd_ne (ne_of_none q hf)]; exact r.fz b u q
  refine { r with fz := fz, keep := fun b u q1 q2 q3 => ?_, trk := fun l b u q1 q2 => ?_, s0h := fun b q => ?_, slots := fun j s' e1 => ?_ }
  · have hb : b ≠ x := by rintro rfl; rw [h0] at q1; cases q1
    rw [upd_ne hb]; exact r.keep b u q1 q2 q3
  · have hb : b ≠ x := by rintro rfl; exact hρ (List.mem_of_getElem? q1)
    exact (r.trk l b u q1 q2).at_ne hb
  · obtain ⟨⟨u, hu⟩, h1, h2⟩ := r.s0h b q
    have hb : b ≠ x := by rintro rfl; exact hs q
    exact ⟨⟨u, by rw [upd_ne hb]; exact hu⟩, h1, h2⟩
  · have q := r.slots j s' e1
    cases s' with
    | emp => trivial
    | val d => exact q
    | own o =>
      obtain ⟨a, h1, h2⟩ := q
      refine ⟨a, h1, h2.at_ne ?_⟩
      rintro rfl
      exact hn (mem_owned.mpr ⟨j, o, e1, h1⟩)
    | exn x => obtain ⟨hx, b, dd, h1, h2, h3⟩ := q; exact ⟨hx, b, dd, h1, h2, h3.le (GW.le.refl W) fz⟩
end
end P2S
end

section
/-! P2Val: operators and built-ins of P2 by values: what the model's do where P2's give a value. -/
set_option autoImplicit false
set_option Elab.async false
set_option linter.all false
set_option maxRecDepth 100000
set_option maxHeartbeats 1000000
namespace P2S
open PySem PySem.Spec L2
open P2 (D DO DHp Exn Slot snap R SR Run Pg)

/-- an operand: a value, or what an owned or tracked object holds now -/
inductive Con (C : Cfg) (F : Hp) (ρ : List Addr) (H : Hp) : V → D → Prop
  | rep {v d} : Rep C F ρ v d → Con C F ρ H v d
  | lst {a vs xs} : H a = some (.lst vs) → Reps C F ρ vs xs → Con C F ρ H (.ref a) (.lst xs)
  | dK {a ks kvs} : H a = some (.dK ks) → RepK C F ρ ks kvs → Con C F ρ H (.ref a) (.dct kvs)
  | dT {a ks kvs} : H a = some (.dT ks) → RepT C F ρ ks kvs → Con C F ρ H (.ref a) (.dct kvs)
  | ins {a c dx gs fs} : c < C.nc → H a = some (.ins (C.cls c) dx gs) → RepF C F ρ gs fs → Con C F ρ H (.ref a) (.obj c fs)
/-- the wanted end of a pure operation whose value is d -/
def VR (C : Cfg) (F : Hp) (ρ : List Addr) (H : Hp) (d : D) (Q : VK) : Prop := ∀ F' H' v, Ext F H F' H' → Rep C F' ρ v d → Q v H'
def rD1 (C : Cfg) (f : D → Option D) : V → Hp → VK → Prop := fun x H Q => ∃ F ρ dx d, Le F H ∧ Con C F ρ H x dx ∧ f dx = some d ∧ VR C F ρ H d Q
def rD2 (C : Cfg) (f : D → D → Option D) : R2 := fun x y H Q => ∃ F ρ dx dy d, Le F H ∧ Con C F ρ H x dx ∧ Con C F ρ H y dy ∧ f dx dy = some d ∧ VR C F ρ H d Q
inductive Cons (C : Cfg) (F : Hp) (ρ : List Addr) (H : Hp) : List V → List D → Prop
  | nil : Cons C F ρ H [] []
  | cons {v d vs ds} : Con C F ρ H v d → Cons C F ρ H vs ds → Cons C F ρ H (v :: vs) (d :: ds)
def rDn (C : Cfg) (f : List D → Option D) : List V → Hp → VK → Prop := fun xs H Q => ∃ F ρ ds d, Le F H ∧ Cons C F ρ H xs ds ∧ f ds = some d ∧ VR C F ρ H d Q

section
variable {C : Cfg} {F : Hp} {ρ : List Addr} {H : Hp} {Q : VK} {d : D}
theorem VR.same {v : V} (h : VR C F ρ H d Q) (l : Le F H) (r : Rep C F ρ v d) : Q v H := h F H v (Ext.refl l) r
theorem VR.int {i : Int} (h : VR C F ρ H (.int i) Q) (l : Le F H) : Q (.int i) H := h.same l (.int i)
theorem VR.bl {b : Bool} (h : VR C F ρ H (.bl b) Q) (l : Le F H) : Q (.bl b) H := h.same l (.bl b)
theorem VR.str {s : List Nat} (h : VR C F ρ H (.str s) Q) (l : Le F H) : Q (.str (toS s)) H := h.same l (.str s)
theorem VR.lst {p : Addr} {vs : List V} {ds : List D} (h : VR C F ρ H (.lst ds) Q) (l : Le F H) (hp : H p = none) (r : Reps C F ρ vs ds) : Q (.ref p) (upd H p (.lst vs)) := by
  have e : Ext F H (upd F p (.lst vs)) (upd H p (.lst vs)) := Ext.one l hp
  exact h _ _ _ e (.lst (.inl upd_same) (r.le e.f (LeL.refl _)))
theorem VR.tup {p : Addr} {vs : List V} {ds : List D} (h : VR C F ρ H (.tup ds) Q) (l : Le F H) (hp : H p = none) (r : Reps C F ρ vs ds) : Q (.ref p) (upd H p (.tup vs)) := by
  have e : Ext F H (upd F p (.tup vs)) (upd H p (.tup vs)) := Ext.one l hp
  exact h _ _ _ e (.tup (.inl (.inl upd_same)) (r.le e.f (LeL.refl _)))

theorem Con.int {x : V} {i : Int} (c : Con C F ρ H x (.int i)) : x = .int i := by
  cases c with | rep r => cases r; rfl
theorem Con.bl {x : V} {b : Bool} (c : Con C F ρ H x (.bl b)) : x = .bl b := by
  cases c with | rep r => cases r; rfl
theorem Con.non {x : V} (c : Con C F ρ H x .non) : x = .non := by
  cases c with | rep r => cases r; rfl
theorem Con.str {x : V} {s : List Nat} (c : Con C F ρ H x (.str s)) : x = .str (toS s) := by
  cases c with | rep r => cases r; rfl
/-- a list, however it is held -/
theorem Con.lst' {x : V} {ds : List D} (l : Le F H) (c : Con C F ρ H x (.lst ds)) : ∃ a vs, x = .ref a ∧ Rd H a (.lst vs) ∧ Reps C F ρ vs ds := by
  cases c with
  | rep r => cases r with | lst h r => exact ⟨_, _, rfl, rd_le l h, r⟩
  | lst h r => exact ⟨_, _, rfl, .inl h, r⟩
theorem Con.tup' {x : V} {ds : List D} (l : Le F H) (c : Con C F ρ H x (.tup ds)) : ∃ a vs, x = .ref a ∧ SqT C.K H a vs ∧ Reps C F ρ vs ds := by
  cases c with
  | rep r => cases r with | tup h r => exact ⟨_, _, rfl, sqT_le l h, r⟩
end
theorem sqL_rd {K : PySem.W.Frag} {H : Hp} {a : Addr} {vs : List V} (h : Rd H a (.lst vs)) : SqL K H a vs := .inl h

section
variable {X : Cx} {pins : List (Addr × Obj)} {σ : L2.St} {H : Hp} {s : Shared}
theorem inv_rdL {a : Addr} {xs : List V} (I : Inv X pins σ H s) (h : Rd H a (.lst xs)) : ∃ its n, Vals xs its ∧ s.heap.get? a = some { cls := .type "list", data := .seq its.toArray n } ∧ xs.length ≤ sizeLine := by
  obtain ⟨z, its, n, r, e⟩ := h.ok I.hok
  exact ⟨its, n, r, e, z⟩
theorem Inv.lnew2 {t' : Nat} {xs : List V} {its : List Value} (I : Inv X pins σ H s) (r : Vals xs its) (hz : xs.length ≤ sizeLine) :
    Inv X pins σ (upd H s.heap.objs.size (.lst xs)) { s with heap := s.heap.push { cls := .type "list", data := .seq its.toArray }, toks := t' } :=
  I.laid (fun b o e => Heap.get?_push_of_some _ e) (Nat.le_refl _) ⟨hz, its, 0, r, Heap.get?_push_size _ rfl⟩
end

/-! ### operators -/
theorem lineMax_eq : P2.lineMax = sizeLine := by rw [sizeLine_eq]; rfl
def trB : P2.BOp → Operator
  | .add => .Add | .sub => .Sub | .mul => .Mult | .fdiv => .FloorDiv | .mod => .Mod | .pow => .Pow
theorem opR_imp {X : Cx} {f : Value → Value → Sem Value} {r r' : R2} (h : OpR X f r) (k : ∀ x y H Q, r' x y H Q → r x y H Q) : OpR X f r' :=
  fun pins s σ H x y v u Q I rx ry q => h pins s σ H x y v u Q I rx ry (k x y H Q q)

theorem op_catRd {X : Cx} : OpR X (binaryOp .Add) (fun x y H Q => ∃ l b xs zs, x = .ref l ∧ y = .ref b ∧ Rd H l (.lst xs) ∧ Rd H b (.lst zs) ∧ xs.length + zs.length ≤ sizeLine ∧ ∀ p, H p = none → Q (.ref p) (upd H p (.lst (xs ++ zs)))) := by
  intro pins s σ H x y v u Q I rx ry h
  obtain ⟨l, b, xs, zs, rfl, rfl, hH, hB, hz, q⟩ := h
  cases rx
  cases ry
  obtain ⟨its, n, r, e, z⟩ := inv_rdL I hH
  obtain ⟨its2, n2, r2, e2, z2⟩ := inv_rdL I hB
  have hl := r.length
  have hl2 := r2.length
  refine PySem.P.add_list e e2 ?_ (by rw [List.size_toArray, List.size_toArray]; omega)
  have ea : its.toArray ++ its2.toArray = (its ++ its2).toArray := by simp
  rw [ea]
  exact ⟨.ref _, _, Inv.lnew2 (t' := s.toks) I (r.append r2) (by rw [List.length_append]; omega), rfl, q _ (I.hok.fresh (Nat.le_refl _))⟩
theorem foldl_repV (its : List Value) : ∀ (m : Nat), (List.foldl (fun x1 x2 => x1 ++ x2) #[] (List.replicate m its.toArray)) = (List.replicate m its).flatten.toArray := fun m => L2.size_rep its m
theorem Vals.rep {xs : List V} {its : List Value} (r : Vals xs its) : ∀ m : Nat, Vals (List.replicate m xs).flatten (List.replicate m its).flatten
  | 0 => .nil
  | m + 1 => by rw [List.replicate_succ, List.replicate_succ, List.flatten_cons, List.flatten_cons]; exact r.append (Vals.rep r m)
theorem Reps.rep {C : Cfg} {F : Hp} {ρ : List Addr} {xs : List V} {ds : List D} (r : Reps C F ρ xs ds) : ∀ m : Nat, Reps C F ρ (List.replicate m xs).flatten (List.replicate m ds).flatten
  | 0 => .nil
  | m + 1 => by rw [List.replicate_succ, List.replicate_succ, List.flatten_cons, List.flatten_cons]; exact r.append (Reps.rep r m)

/-! ### plain data as the library has it -/
mutual
def toPy : D → PyData
  | .non => .none
  | .bl b => .bool b
  | .int i => .int i
  | .str s => .str (toS s)
  | .lst xs => .list (toPys xs)
  | .tup xs => .tuple (toPys xs)
  | .dct _ | .obj _ _ | .loc _ | .fn _ | .own _ => .none
def toPys : List D → List PyData
  | [] => []
  | x :: xs => toPy x :: toPys xs
end
theorem toPys_map : ∀ xs : List D, toPys xs = xs.map toPy
  | [] => rfl
  | x :: xs => by rw [toPys, toPys_map xs]; rfl
mutual
theorem pl_plain : ∀ (n : Nat) (d : D), P2.pl n d = true → (toPy d).plain = true ∧ (toPy d).depth ≤ n
  | n, .non, _ => ⟨rfl, by simp [toPy, PyData.depth]⟩
  | n, .bl _, _ => ⟨rfl, by simp [toPy, PyData.depth]⟩
  | n, .int _, _ => ⟨rfl, by simp [toPy, PyData.depth]⟩
  | n, .str _, _ => ⟨rfl, by simp [toPy, PyData.depth]⟩
  | 0, .lst xs, h => by simp [P2.pl] at h
  | 0, .tup xs, h => by simp [P2.pl] at h
  | n + 1, .lst xs, h => by
    have q := pls_plain n xs (by simpa [P2.pl] using h)
    simp only [toPy, PyData.plain, PyData.depth]
    exact ⟨q.1, Nat.succ_le_succ q.2⟩
  | n + 1, .tup xs, h => by
    have q := pls_plain n xs (by simpa [P2.pl] using h)
    simp only [toPy, PyData.plain, PyData.depth]
    exact ⟨q.1, Nat.succ_le_succ q.2⟩
  | _, .dct _, h => by simp [P2.pl] at h
  | _, .obj _ _, h => by simp [P2.pl] at h
  | _, .loc _, h => by simp [P2.pl] at h
  | _, .fn _, h => by simp [P2.pl] at h
  | _, .own _, h => by simp [P2.pl] at h
theorem pls_plain : ∀ (n : Nat) (xs : List D), P2.pls n xs = true → PyData.plainAll (toPys xs) = true ∧ PyData.depthAll (toPys xs) ≤ n
  | n, [], _ => by simp [toPys, PyData.plainAll, PyData.depthAll]
  | n, x :: xs, h => by
    have h' : P2.pl n x = true ∧ P2.pls n xs = true := by simpa [P2.pls] using h
    have a := pl_plain n x h'.1
    have b := pls_plain n xs h'.2
    simp only [toPys, PyData.plainAll, PyData.depthAll, a.1, b.1, Bool.and_self, true_and]
    exact Nat.max_le.mpr ⟨a.2, b.2⟩
end
theorem toS_beq (x y : List Nat) : (toS x == toS y) = (x == y) := by
  by_cases h : x = y
  · subst h; simp
  · have : toS x ≠ toS y := fun e => h (toS_inj e)
    rw [beq_eq_false_iff_ne.mpr this, beq_eq_false_iff_ne.mpr h]
mutual
theorem eqv_py : ∀ (n : Nat) (a b : D), P2.pl n a = true → P2.pl n b = true → PyData.eqv (toPy a) (toPy b) = P2.eqv a b
  | _, .non, b, _, hb => by cases b <;> simp [toPy, PyData.eqv, P2.eqv, P2.pl] at hb ⊢
  | _, .bl x, b, _, hb => by cases b <;> simp [toPy, PyData.eqv, P2.eqv, P2.pl] at hb ⊢
  | _, .int x, b, _, hb => by cases b <;> simp [toPy, PyData.eqv, P2.eqv, P2.pl] at hb ⊢
  | _, .str x, b, _, hb => by
    cases b with
    | str y => simp only [toPy, PyData.eqv, P2.eqv]; exact toS_beq x y
    | _ => simp [toPy, PyData.eqv, P2.eqv, P2.pl] at hb ⊢
  | 0, .lst xs, b, ha, hb => by simp [P2.pl] at ha
  | 0, .tup xs, b, ha, hb => by simp [P2.pl] at ha
  | n + 1, .lst xs, b, ha, hb => by
    cases b with
    | lst ys => simp only [toPy, PyData.eqv, P2.eqv]; exact eqvs_py n xs ys (by simpa [P2.pl] using ha) (by simpa [P2.pl] using hb)
    | _ => simp [toPy, PyData.eqv, P2.eqv, P2.pl] at hb ⊢
  | n + 1, .tup xs, b, ha, hb => by
    cases b with
    | tup ys => simp only [toPy, PyData.eqv, P2.eqv]; exact eqvs_py n xs ys (by simpa [P2.pl] using ha) (by simpa [P2.pl] using hb)
    | _ => simp [toPy, PyData.eqv, P2.eqv, P2.pl] at hb ⊢
  | _, .dct _, _, h, _ => by simp [P2.pl] at h
  | _, .obj _ _, _, h, _ => by simp [P2.pl] at h
  | _, .loc _, _, h, _ => by simp [P2.pl] at h
  | _, .fn _, _, h, _ => by simp [P2.pl] at h
  | _, .own _, _, h, _ => by simp [P2.pl] at h
theorem eqvs_py : ∀ (n : Nat) (a b : List D), P2.pls n a = true → P2.pls n b = true → PyData.eqvAll (toPys a) (toPys b) = P2.eqvs a b
  | _, [], [], _, _ => by simp [toPys, PyData.eqvAll, P2.eqvs]
  | _, [], _ :: _, _, _ => by simp [toPys, PyData.eqvAll, P2.eqvs]
  | _, _ :: _, [], _, _ => by simp [toPys, PyData.eqvAll, P2.eqvs]
  | n, x :: xs, y :: ys, ha, hb => by
    have ha' : P2.pl n x = true ∧ P2.pls n xs = true := by simpa [P2.pls] using ha
    have hb' : P2.pl n y = true ∧ P2.pls n ys = true := by simpa [P2.pls] using hb
    simp only [toPys, PyData.eqvAll, P2.eqvs, eqv_py n x y ha'.1 hb'.1, eqvs_py n xs ys ha'.2 hb'.2]
end
mutual
theorem alike_py : ∀ (a b : D), P2.alike a b = true → PySem.W.alike (toPy a) (toPy b) = true
  | .int _, b, h => by cases b <;> simp [P2.alike] at h; simp [toPy, PySem.W.alike]
  | .str _, b, h => by cases b <;> simp [P2.alike] at h; simp [toPy, PySem.W.alike]
  | .tup xs, b, h => by
    cases b with
    | tup ys => simp only [toPy, PySem.W.alike]; exact alikes_py xs ys (by simpa [P2.alike] using h)
    | _ => simp [P2.alike] at h
  | .lst xs, b, h => by
    cases b with
    | lst ys => simp only [toPy, PySem.W.alike]; exact alikes_py xs ys (by simpa [P2.alike] using h)
    | _ => simp [P2.alike] at h
  | .non, _, h => by simp [P2.alike] at h
  | .bl _, _, h => by simp [P2.alike] at h
  | .dct _, _, h => by simp [P2.alike] at h
  | .obj _ _, _, h => by simp [P2.alike] at h
  | .loc _, _, h => by simp [P2.alike] at h
  | .fn _, _, h => by simp [P2.alike] at h
  | .own _, _, h => by simp [P2.alike] at h
theorem alikes_py : ∀ (a b : List D), P2.alikes a b = true → PySem.W.alikeAll (toPys a) (toPys b) = true
  | [], _, _ => by simp [toPys, PySem.W.alikeAll]
  | _ :: _, [], _ => by simp [toPys, PySem.W.alikeAll]
  | x :: xs, y :: ys, h => by
    have h' : P2.alike x y = true ∧ P2.alikes xs ys = true := by simpa [P2.alikes] using h
    simp only [toPys, PySem.W.alikeAll, alike_py x y h'.1, alikes_py xs ys h'.2, Bool.and_self]
end
theorem alike_non {a b : D} (h : P2.alike a b = true) : toPy a ≠ .none := by
  cases a <;> simp [P2.alike, toPy] at h ⊢
theorem ltStr_py : ∀ x y : List Nat, decide (x < y) = P2.ltStr x y
  | [], [] => by simp [P2.ltStr]
  | [], _ :: _ => by simp [P2.ltStr]
  | _ :: _, [] => by simp [P2.ltStr]
  | x :: xs, y :: ys => by
    rw [P2.ltStr, ← ltStr_py xs ys]
    have : (x :: xs < y :: ys) ↔ (x < y ∨ (x = y ∧ xs < ys)) := List.cons_lt_cons_iff
    by_cases h1 : x < y
    · simp [this, h1]
    · by_cases h2 : x = y
      · simp [this, h2]
      · simp [this, h1, h2]
mutual
theorem lt_py : ∀ (n : Nat) (a b : D), P2.pl n a = true → P2.pl n b = true → P2.alike a b = true → PySem.W.dataLt (toPy a) (toPy b) = P2.lt a b
  | _, .int i, b, _, _, h => by
    cases b with
    | int j => simp only [toPy, P2.lt]; exact PySem.W.dataLt_int i j
    | _ => simp [P2.alike] at h
  | _, .str x, b, _, _, h => by
    cases b with
    | str y => simp only [toPy, P2.lt]; rw [PySem.W.dataLt_str]; simp only [toS]; exact ltStr_py x y
    | _ => simp [P2.alike] at h
  | 0, .lst xs, b, ha, hb, _ => by simp [P2.pl] at ha
  | 0, .tup xs, b, ha, hb, _ => by simp [P2.pl] at ha
  | n + 1, .tup xs, b, ha, hb, h => by
    cases b with
    | tup ys => simp only [toPy, P2.lt]; rw [PySem.W.dataLt_tuple]; exact lts_py n xs ys (by simpa [P2.pl] using ha) (by simpa [P2.pl] using hb) (by simpa [P2.alike] using h)
    | _ => simp [P2.alike] at h
  | n + 1, .lst xs, b, ha, hb, h => by
    cases b with
    | lst ys => simp only [toPy, P2.lt]; rw [PySem.W.dataLt_list]; exact lts_py n xs ys (by simpa [P2.pl] using ha) (by simpa [P2.pl] using hb) (by simpa [P2.alike] using h)
    | _ => simp [P2.alike] at h
  | _, .non, _, _, _, h => by simp [P2.alike] at h
  | _, .bl _, _, _, _, h => by simp [P2.alike] at h
  | _, .dct _, _, _, _, h => by simp [P2.alike] at h
  | _, .obj _ _, _, _, _, h => by simp [P2.alike] at h
  | _, .loc _, _, _, _, h => by simp [P2.alike] at h
  | _, .fn _, _, _, _, h => by simp [P2.alike] at h
  | _, .own _, _, _, _, h => by simp [P2.alike] at h
theorem lts_py : ∀ (n : Nat) (a b : List D), P2.pls n a = true → P2.pls n b = true → P2.alikes a b = true → PyProof.Rows.lexLt PyProof.Rows.itemOrd (PySem.W.keyToksAll (toPys a)) (PySem.W.keyToksAll (toPys b)) = P2.lts a b
  | _, [], [], _, _, _ => by simp only [toPys, P2.lts]; exact PyProof.Rows.lex_irrefl _
  | _, [], _ :: _, _, _, _ => by
    simp only [toPys, P2.lts, PySem.W.keyToksAll]
    rw [show PyProof.Rows.lexLt PyProof.Rows.itemOrd [Sum.inl 0] (Sum.inl 1 :: _) = _ from PyProof.Rows.lex_cons _ _ _ _]
    rfl
  | _, _ :: _, [], _, _, _ => by
    simp only [toPys, P2.lts, PySem.W.keyToksAll]
    rw [show PyProof.Rows.lexLt PyProof.Rows.itemOrd (Sum.inl 1 :: _) [Sum.inl 0] = _ from PyProof.Rows.lex_cons _ _ _ _]
    rfl
  | n, x :: xs, y :: ys, ha, hb, h => by
    have ha' : P2.pl n x = true ∧ P2.pls n xs = true := by simpa [P2.pls] using ha
    have hb' : P2.pl n y = true ∧ P2.pls n ys = true := by simpa [P2.pls] using hb
    have h' : P2.alike x y = true ∧ P2.alikes xs ys = true := by simpa [P2.alikes] using h
    simp only [toPys, P2.lts]
    rw [PySem.W.dataLt_cons (alike_py x y h'.1), eqv_py n x y ha'.1 hb'.1, lt_py n x y ha'.1 hb'.1 h'.1, lts_py n xs ys ha'.2 hb'.2 h'.2]
end

/-! ### what a value reads as -/
section
variable {X : Cx} {C : Cfg} {pins : List (Addr × Obj)} {σ : L2.St} {F H : Hp} {ρ : List Addr} {s : Shared}
mutual
theorem rep_reads (hK : X.K = C.K) (I : Inv X pins σ H s) (l : Le F H) : ∀ (n : Nat) (d : D) (v : V) (u : Value), P2.pl n d = true → Rep C F ρ v d → RelV v u → ∃ as, Reads s.heap u (toPy d) as
  | _, .non, _, u, _, .non, r => by cases (show u = Value.none from r); exact ⟨_, .none⟩
  | _, .bl b, _, u, _, .bl _, r => by cases (show u = Value.bool b from r); exact ⟨_, .bool b⟩
  | _, .int i, _, u, _, .int _, r => by obtain ⟨t, rfl⟩ := r; exact ⟨_, .int i t⟩
  | _, .str x, _, u, _, .str _, r => by obtain ⟨t, rfl⟩ := r; exact ⟨_, .str (toS x) t⟩
  | 0, .lst xs, _, u, h, _, r => by simp [P2.pl] at h
  | 0, .tup xs, _, u, h, _, r => by simp [P2.pl] at h
  | n + 1, .lst xs, .ref a, u, h, .lst q rs, r => by
    cases (show u = Value.ref a from r)
    obtain ⟨its, m, rv, e, _⟩ := inv_rdL I (rd_le l q)
    obtain ⟨as, ra⟩ := reps_reads hK I l n xs _ its (by simpa [P2.pl] using h) rs rv
    exact ⟨_, .list e rfl rfl (by simpa using ra)⟩
  | n + 1, .tup xs, .ref a, u, h, .tup q rs, r => by
    cases (show u = Value.ref a from r)
    obtain ⟨its, rv, ⟨o, e, hc, m, hd⟩, _⟩ := I.tuple (by rw [hK]; exact sqT_le l q)
    obtain ⟨as, ra⟩ := reps_reads hK I l n xs _ its (by simpa [P2.pl] using h) rs rv
    exact ⟨_, .tuple e hc hd (by simpa using ra)⟩
  | _, .dct _, _, _, h, _, _ => by simp [P2.pl] at h
  | _, .obj _ _, _, _, h, _, _ => by simp [P2.pl] at h
  | _, .loc _, _, _, h, _, _ => by simp [P2.pl] at h
  | _, .fn _, _, _, h, _, _ => by simp [P2.pl] at h
theorem reps_reads (hK : X.K = C.K) (I : Inv X pins σ H s) (l : Le F H) : ∀ (n : Nat) (ds : List D) (vs : List V) (us : List Value), P2.pls n ds = true → Reps C F ρ vs ds → Vals vs us → ∃ as, ReadsAll s.heap us (toPys ds) as
  | _, [], _, _, _, .nil, .nil => ⟨_, .nil⟩
  | n, d :: ds, _, _, h, .cons a b, .cons r rs => by
    have h' : P2.pl n d = true ∧ P2.pls n ds = true := by simpa [P2.pls] using h
    obtain ⟨as, x⟩ := rep_reads hK I l n d _ _ h'.1 a r
    obtain ⟨bs, y⟩ := reps_reads hK I l n ds _ _ h'.2 b rs
    exact ⟨_, .cons x y⟩
end
theorem con_reads (hK : X.K = C.K) (I : Inv X pins σ H s) (l : Le F H) {n : Nat} {d : D} {v : V} {u : Value} (h : P2.pl n d = true) (c : Con C F ρ H v d) (r : RelV v u) : ∃ as, Reads s.heap u (toPy d) as := by
  cases c with
  | rep q => exact rep_reads hK I l n d v u h q r
  | @lst a vs xs q rs =>
    cases n with
    | zero => simp [P2.pl] at h
    | succ n =>
      cases (show u = Value.ref a from r)
      obtain ⟨its, m, rv, e, _⟩ := inv_rdL I (.inl q)
      obtain ⟨as, ra⟩ := reps_reads hK I l n xs _ its (by simpa [P2.pl] using h) rs rv
      exact ⟨_, .list e rfl rfl (by simpa using ra)⟩
  | dK _ _ => simp [P2.pl] at h
  | dT _ _ => simp [P2.pl] at h
  | ins _ _ _ => simp [P2.pl] at h
end

/-! ### the operators -/
theorem toS_append (a b : List Nat) : toS a ++ toS b = toS (a ++ b) := by
  show Str.append (toS a) (toS b) = toS (a ++ b)
  simp [Str.append, toS]
section
variable {X : Cx} {C : Cfg}
theorem opR_sub : OpR X (binaryOp .Sub) (rD2 C (P2.bop .sub)) := opR_imp op_sub fun x y H Q ⟨F, ρ, dx, dy, d, l, cx, cy, e, q⟩ => by
  cases dx <;> cases dy <;> simp [P2.bop] at e
  subst e
  exact ⟨_, _, cx.int, cy.int, q.int l⟩
theorem opR_add (hK : X.K = C.K) : OpR X (binaryOp .Add) (rD2 C (P2.bop .add)) := by
  intro pins s σ H x y v u Q I rx ry ⟨F, ρ, dx, dy, d, l, cx, cy, e, q⟩
  cases dx <;> cases dy <;> simp only [P2.bop, P2.opAdd, reduceCtorEq] at e
  · cases e
    exact op_add pins s σ H x y v u Q I rx ry ⟨_, _, cx.int, cy.int, q.int l⟩
  · split at e
    · rename_i hz
      cases e
      refine op_add_str pins s σ H x y v u Q I rx ry ⟨_, _, cx.str, cy.str, ?_, ?_⟩
      · rw [toS_length, toS_length, ← lineMax_eq]; exact hz
      · rw [toS_append]
        exact q.str l
    · cases e
  · split at e
    · rename_i hz
      cases e
      obtain ⟨a, vs, rfl, h1, r1⟩ := cx.tup' l
      obtain ⟨b, ws, rfl, h2, r2⟩ := cy.tup' l
      refine op_catA pins s σ H _ _ v u Q I rx ry ⟨a, b, vs, ws, rfl, rfl, by rw [hK]; exact h1, by rw [hK]; exact h2, ?_, ?_, ?_, ?_⟩
      · rw [r1.length, r2.length, ← lineMax_eq]; exact hz
      · intro e
        subst e
        cases r1
        cases cy with | rep r => exact q.same l r
      · intro _ e
        subst e
        cases r2
        rw [List.append_nil] at q
        cases cx with | rep r => exact q.same l r
      · intro _ _ p hp
        exact q.tup l hp (r1.append r2)
    · cases e
  · split at e
    · rename_i hz
      cases e
      obtain ⟨a, vs, rfl, h1, r1⟩ := cx.lst' l
      obtain ⟨b, ws, rfl, h2, r2⟩ := cy.lst' l
      exact op_catRd pins s σ H _ _ v u Q I rx ry ⟨a, b, vs, ws, rfl, rfl, h1, h2, by rw [r1.length, r2.length, ← lineMax_eq]; exact hz, fun p hp => q.lst l hp (r1.append r2)⟩
    · cases e
theorem opR_mul : OpR X (binaryOp .Mult) (rD2 C (P2.bop .mul)) := by
  intro pins s σ H x y v u Q I rx ry ⟨F, ρ, dx, dy, d, l, cx, cy, e, q⟩
  cases dx <;> cases dy <;> simp only [P2.bop, P2.opMul, reduceCtorEq] at e
  split at e
  · rename_i hz
    cases e
    refine op_mul pins s σ H x y v u Q I rx ry ⟨_, _, cx.int, cy.int, ?_, q.int l⟩
    simp only [P2.mulOk, Bool.or_eq_true, decide_eq_true_eq] at hz
    unfold CMul
    rcases hz with h | h
    · exact .inl (by omega)
    · exact .inr (by omega)
  · cases e
theorem opR_fdiv : OpR X (binaryOp .FloorDiv) (rD2 C (P2.bop .fdiv)) := by
  intro pins s σ H x y v u Q I rx ry ⟨F, ρ, dx, dy, d, l, cx, cy, e, q⟩
  cases dx <;> cases dy <;> simp only [P2.bop, reduceCtorEq] at e
  split at e
  · rename_i hz
    cases e
    simp only [P2.fdivOk, Bool.or_eq_true, Bool.and_eq_true, decide_eq_true_eq] at hz
    rcases hz with ⟨h1, h2⟩ | ⟨h1, h2⟩
    · have := q.int l
      simp only [P2.fdivI, h1, if_true] at this
      exact op_fdivW pins s σ H x y v u Q I rx ry ⟨_, _, cx.int, cy.int, wide_div (b := 1000) h1 h2 (by decide) (by decide), this⟩
    · have := q.int l
      unfold P2.fdivI at this
      rw [if_neg (by omega)] at this
      exact op_fdivN pins s σ H x y v u Q I rx ry ⟨_, _, cx.int, cy.int, ⟨by omega, h2⟩, this⟩
  · cases e
theorem opR_mod : OpR X (binaryOp .Mod) (rD2 C (P2.bop .mod)) := by
  intro pins s σ H x y v u Q I rx ry ⟨F, ρ, dx, dy, d, l, cx, cy, e, q⟩
  cases dx <;> cases dy <;> simp only [P2.bop, reduceCtorEq] at e
  split at e
  · rename_i hz
    cases e
    have := q.int l
    unfold P2.modI at this
    split at this
    · rename_i h
      exact op_mod pins s σ H x y v u Q I rx ry ⟨_, _, cx.int, cy.int, h, this⟩
    · exact op_modN pins s σ H x y v u Q I rx ry ⟨_, _, cx.int, cy.int, hz, this⟩
  · cases e
theorem opR_pow : OpR X (binaryOp .Pow) (rD2 C (P2.bop .pow)) := by
  intro pins s σ H x y v u Q I rx ry ⟨F, ρ, dx, dy, d, l, cx, cy, e, q⟩
  cases dx <;> cases dy <;> simp only [P2.bop, reduceCtorEq] at e
  split at e
  · rename_i hz
    cases e
    exact op_pow pins s σ H x y v u Q I rx ry ⟨_, _, cx.int, cy.int, ⟨hz.1, by omega, by omega⟩, q.int l⟩
  · cases e
theorem opR_bop (hK : X.K = C.K) (o : P2.BOp) : OpR X (binaryOp (trB o)) (rD2 C (P2.bop o)) := by
  cases o with
  | add => exact opR_add hK
  | sub => exact opR_sub
  | mul => exact opR_mul
  | fdiv => exact opR_fdiv
  | mod => exact opR_mod
  | pow => exact opR_pow
end

/-! ### comparisons -/
def trC : P2.COp → CmpOp
  | .eq => .Eq | .ne => .NotEq | .lt => .Lt | .le => .LtE | .gt => .Gt | .ge => .GtE | .isin => .In | .notin => .NotIn | .is => .Is | .isnot => .IsNot
def copD (o : P2.COp) (a b : D) : Option D := (P2.cop o a b).map D.bl
section
variable {X : Cx} {C : Cfg}
theorem pl_mono : ∀ (n : Nat) (d : D), P2.pl n d = true → P2.pl (n + 1) d = true := by
  intro n d
  exact (P2.D.rec (motive_1 := fun d => ∀ n, P2.pl n d = true → P2.pl (n + 1) d = true) (motive_2 := fun xs => ∀ n, P2.pls n xs = true → P2.pls (n + 1) xs = true) (motive_3 := fun _ => True) (motive_4 := fun _ => True) (motive_5 := fun _ => True) (motive_6 := fun _ => True)
    (by simp [P2.pl]) (by simp [P2.pl]) (by simp [P2.pl]) (by simp [P2.pl])
    (fun xs ih n h => by cases n with | zero => simp [P2.pl] at h | succ n => simp only [P2.pl] at h ⊢; exact ih n h)
    (fun xs ih n h => by cases n with | zero => simp [P2.pl] at h | succ n => simp only [P2.pl] at h ⊢; exact ih n h)
    (by simp [P2.pl]) (by simp [P2.pl]) (by simp [P2.pl]) (by simp [P2.pl]) (by simp [P2.pl])
    (by simp [P2.pls]) (fun x xs h1 h2 n h => by simp only [P2.pls, Bool.and_eq_true] at h ⊢; exact ⟨h1 n h.1, h2 n h.2⟩)
    trivial (fun _ _ _ _ => trivial) trivial (fun _ _ _ _ => trivial) (fun _ _ _ _ => trivial) (fun _ _ _ => trivial) d) n
theorem plain_units {X : Cx} {a b : D} (hu : X.A.units + 64 < cLine) (ha : P2.plain a = true) (hb : P2.plain b = true) : X.A.units + min (toPy a).depth (toPy b).depth < cLine := by
  have := (pl_plain 40 a ha).2
  omega
theorem cmp_plain {o : P2.COp} {f : D → D → Bool} (hK : X.K = C.K) (hu : X.A.units + 64 < cLine)
    (g : ∀ (s : Shared) (a b : Value) (da db : D) (as bs : List Addr) (Q : Value → Shared → Prop), P2.plain da = true → P2.plain db = true → P2.cop o da db = some (f da db) → Reads s.heap a (toPy da) as → Reads s.heap b (toPy db) bs → X.A.units + min (toPy da).depth (toPy db).depth < cLine →
      Q (.bool (f da db)) s → wpAny (model X.prog X.w) X.A (compareOp (trC o) a b) Q X.xe s) {pins : List (Addr × Obj)} {s : Shared} {σ : L2.St} {H : Hp} {x y : V} {v u : Value} {Q : VK} {F : Hp} {ρ : List Addr} {dx dy : D}
    (I : Inv X pins σ H s) (rx : RelV x v) (ry : RelV y u) (l : Le F H) (cx : Con C F ρ H x dx) (cy : Con C F ρ H y dy) (hx : P2.plain dx = true) (hy : P2.plain dy = true) (he : P2.cop o dx dy = some (f dx dy)) (q : VR C F ρ H (.bl (f dx dy)) Q) :
    wpAny (model X.prog X.w) X.A (compareOp (trC o) v u) (EP X pins σ Q) X.xe s := by
  obtain ⟨as, ra⟩ := con_reads hK I l hx cx rx
  obtain ⟨bs, rb⟩ := con_reads hK I l hy cy ry
  exact g s v u dx dy as bs _ hx hy he ra rb (plain_units hu hx hy) ⟨.bl _, H, I, rfl, q.bl l⟩
theorem opR_eq (hK : X.K = C.K) (hu : X.A.units + 64 < cLine) : OpR X (compareOp .Eq) (rD2 C (copD .eq)) := by
  intro pins s σ H x y v u Q I rx ry ⟨F, ρ, dx, dy, d, l, cx, cy, e, q⟩
  have e' : ∃ b, P2.eqD dx dy = some b ∧ d = .bl b := by
    simp only [copD, P2.cop, Option.map_eq_some_iff] at e
    obtain ⟨b, h1, h2⟩ := e
    exact ⟨b, h1, h2.symm⟩
  obtain ⟨b, e1, rfl⟩ := e'
  have hp : P2.plain dx = true ∧ P2.plain dy = true ∧ b = P2.eqv dx dy := by
    unfold P2.eqD at e1
    split at e1
    · rename_i h
      simp only [Bool.and_eq_true] at h
      exact ⟨h.1, h.2, by cases e1; rfl⟩
    · cases e1
  obtain ⟨hx, hy, rfl⟩ := hp
  refine cmp_plain (o := .eq) (f := P2.eqv) hK hu (fun s a b da db as bs Q pa pb _ ra rb hz hq => ?_) I rx ry l cx cy hx hy (by simpa [P2.cop] using e1) q
  exact SeqAt.eq_plain ra rb (pl_plain 40 da pa).1 (pl_plain 40 db pb).1 hz (by rw [eqv_py 40 da db pa pb]; exact hq)
theorem opR_ne (hK : X.K = C.K) (hu : X.A.units + 64 < cLine) : OpR X (compareOp .NotEq) (rD2 C (copD .ne)) := by
  intro pins s σ H x y v u Q I rx ry ⟨F, ρ, dx, dy, d, l, cx, cy, e, q⟩
  have e' : ∃ b, P2.eqD dx dy = some b ∧ d = .bl (!b) := by
    simp only [copD, P2.cop, Option.map_eq_some_iff] at e
    obtain ⟨b, ⟨c, h1, h3⟩, h2⟩ := e
    exact ⟨c, h1, by rw [h3]; exact h2.symm⟩
  obtain ⟨b, e1, rfl⟩ := e'
  have hp : P2.plain dx = true ∧ P2.plain dy = true ∧ b = P2.eqv dx dy := by
    unfold P2.eqD at e1
    split at e1
    · rename_i h
      simp only [Bool.and_eq_true] at h
      exact ⟨h.1, h.2, by cases e1; rfl⟩
    · cases e1
  obtain ⟨hx, hy, rfl⟩ := hp
  refine cmp_plain (o := .ne) (f := fun a b => !P2.eqv a b) hK hu (fun s a b da db as bs Q pa pb _ ra rb hz hq => ?_) I rx ry l cx cy hx hy (by simp [P2.cop, e1]) q
  exact SeqAt.ne_plain ra rb (pl_plain 40 da pa).1 (pl_plain 40 db pb).1 hz (by rw [eqv_py 40 da db pa pb]; exact hq)
theorem ord_hyp {o : P2.COp} {f : D → D → Bool} {dx dy d : D} (e : copD o dx dy = some d) (hf : ∀ a b, P2.cop o a b = if P2.plain a && P2.plain b && P2.alike a b then some (f a b) else none) :
    P2.plain dx = true ∧ P2.plain dy = true ∧ P2.alike dx dy = true ∧ d = .bl (f dx dy) ∧ P2.cop o dx dy = some (f dx dy) := by
  simp only [copD, Option.map_eq_some_iff] at e
  obtain ⟨b, h1, h2⟩ := e
  rw [hf] at h1
  split at h1
  · rename_i hh
    have h3 : P2.plain dx = true ∧ P2.plain dy = true ∧ P2.alike dx dy = true := by
      simp only [Bool.and_eq_true] at hh
      exact ⟨hh.1.1, hh.1.2, hh.2⟩
    have h4 : f dx dy = b := Option.some.inj h1
    subst h4
    exact ⟨h3.1, h3.2.1, h3.2.2, h2.symm, by rw [hf, if_pos hh]⟩
  · cases h1
theorem cop_alike {o : P2.COp} {f : D → D → Bool} {da db : D} (hf : ∀ a b, P2.cop o a b = if P2.plain a && P2.plain b && P2.alike a b then some (f a b) else none) (h : P2.cop o da db = some (f da db)) : P2.alike da db = true := by
  rw [hf] at h
  split at h
  · rename_i hh
    simp only [Bool.and_eq_true] at hh
    exact hh.2
  · cases h
mutual
theorem alike_comm : ∀ (a b : D), P2.alike a b = true → P2.alike b a = true
  | .int _, b, h => by cases b <;> simp [P2.alike] at h; simp [P2.alike]
  | .str _, b, h => by cases b <;> simp [P2.alike] at h; simp [P2.alike]
  | .tup xs, b, h => by
    cases b with
    | tup ys => simp only [P2.alike] at h ⊢; exact alikes_comm xs ys h
    | _ => simp [P2.alike] at h
  | .lst xs, b, h => by
    cases b with
    | lst ys => simp only [P2.alike] at h ⊢; exact alikes_comm xs ys h
    | _ => simp [P2.alike] at h
  | .non, _, h => by simp [P2.alike] at h
  | .bl _, _, h => by simp [P2.alike] at h
  | .dct _, _, h => by simp [P2.alike] at h
  | .obj _ _, _, h => by simp [P2.alike] at h
  | .loc _, _, h => by simp [P2.alike] at h
  | .fn _, _, h => by simp [P2.alike] at h
  | .own _, _, h => by simp [P2.alike] at h
theorem alikes_comm : ∀ (a b : List D), P2.alikes a b = true → P2.alikes b a = true
  | [], [], _ => rfl
  | [], _ :: _, _ => rfl
  | _ :: _, [], _ => rfl
  | x :: xs, y :: ys, h => by
    have h' : P2.alike x y = true ∧ P2.alikes xs ys = true := by simpa [P2.alikes] using h
    simp [P2.alikes, alike_comm x y h'.1, alikes_comm xs ys h'.2]
end
theorem opR_lt (hK : X.K = C.K) (hu : X.A.units + 64 < cLine) : OpR X (compareOp .Lt) (rD2 C (copD .lt)) := by
  intro pins s σ H x y v u Q I rx ry ⟨F, ρ, dx, dy, d, l, cx, cy, e, q⟩
  have hf : ∀ a b, P2.cop .lt a b = if P2.plain a && P2.plain b && P2.alike a b then some (P2.lt a b) else none := fun _ _ => rfl
  obtain ⟨hx, hy, ha, rfl, hc⟩ := ord_hyp e hf
  refine cmp_plain (o := .lt) (f := fun a b => P2.lt a b) hK hu (fun s a b da db as bs Q pa pb hc ra rb hz hq => ?_) I rx ry l cx cy hx hy hc q
  have al := cop_alike hf hc
  exact PySem.W.lt_data ra rb (alike_py da db al) (alike_non al) hz (by rw [lt_py 40 da db pa pb al]; exact hq)
theorem opR_gt (hK : X.K = C.K) (hu : X.A.units + 64 < cLine) : OpR X (compareOp .Gt) (rD2 C (copD .gt)) := by
  intro pins s σ H x y v u Q I rx ry ⟨F, ρ, dx, dy, d, l, cx, cy, e, q⟩
  have hf : ∀ a b, P2.cop .gt a b = if P2.plain a && P2.plain b && P2.alike a b then some (P2.lt b a) else none := fun _ _ => rfl
  obtain ⟨hx, hy, ha, rfl, hc⟩ := ord_hyp (f := fun a b => P2.lt b a) e hf
  refine cmp_plain (o := .gt) (f := fun a b => P2.lt b a) hK hu (fun s a b da db as bs Q pa pb hc ra rb hz hq => ?_) I rx ry l cx cy hx hy hc q
  have al := cop_alike (f := fun a b => P2.lt b a) hf hc
  exact PySem.W.gt_data ra rb (alike_py da db al) (alike_non al) hz (by rw [lt_py 40 db da pb pa (alike_comm _ _ al)]; exact hq)
theorem opR_le (hK : X.K = C.K) (hu : X.A.units + 64 < cLine) : OpR X (compareOp .LtE) (rD2 C (copD .le)) := by
  intro pins s σ H x y v u Q I rx ry ⟨F, ρ, dx, dy, d, l, cx, cy, e, q⟩
  have hf : ∀ a b, P2.cop .le a b = if P2.plain a && P2.plain b && P2.alike a b then some (!P2.lt b a) else none := fun _ _ => rfl
  obtain ⟨hx, hy, ha, rfl, hc⟩ := ord_hyp (f := fun a b => !P2.lt b a) e hf
  refine cmp_plain (o := .le) (f := fun a b => !P2.lt b a) hK hu (fun s a b da db as bs Q pa pb hc ra rb hz hq => ?_) I rx ry l cx cy hx hy hc q
  have al := cop_alike (f := fun a b => !P2.lt b a) hf hc
  exact PySem.W.le_data ra rb (alike_py da db al) (alike_non al) hz (by rw [lt_py 40 db da pb pa (alike_comm _ _ al)]; exact hq)
theorem opR_ge (hK : X.K = C.K) (hu : X.A.units + 64 < cLine) : OpR X (compareOp .GtE) (rD2 C (copD .ge)) := by
  intro pins s σ H x y v u Q I rx ry ⟨F, ρ, dx, dy, d, l, cx, cy, e, q⟩
  have hf : ∀ a b, P2.cop .ge a b = if P2.plain a && P2.plain b && P2.alike a b then some (!P2.lt a b) else none := fun _ _ => rfl
  obtain ⟨hx, hy, ha, rfl, hc⟩ := ord_hyp (f := fun a b => !P2.lt a b) e hf
  refine cmp_plain (o := .ge) (f := fun a b => !P2.lt a b) hK hu (fun s a b da db as bs Q pa pb hc ra rb hz hq => ?_) I rx ry l cx cy hx hy hc q
  have al := cop_alike (f := fun a b => !P2.lt a b) hf hc
  exact PySem.W.ge_data ra rb (alike_py da db al) (alike_non al) hz (by rw [lt_py 40 da db pa pb al]; exact hq)
theorem any_py {n : Nat} {x : D} (hx : P2.pl n x = true) : ∀ (ys : List D), P2.pls n ys = true → (toPys ys).any (fun y => PyData.eqv y (toPy x)) = ys.any fun y => P2.eqv y x
  | [], _ => rfl
  | y :: ys, h => by
    have h' : P2.pl n y = true ∧ P2.pls n ys = true := by simpa [P2.pls] using h
    simp only [toPys, List.any_cons, eqv_py n y x h'.1 hx, any_py hx ys h'.2]
theorem pls_mono (n : Nat) : ∀ (xs : List D), P2.pls n xs = true → P2.pls (n + 1) xs = true
  | [], _ => rfl
  | x :: xs, h => by
    have h' : P2.pl n x = true ∧ P2.pls n xs = true := by simpa [P2.pls] using h
    simp [P2.pls, pl_mono n x h'.1, pls_mono n xs h'.2]
end
end P2S
end

section
/-! P2Val2: in, is, and the built-ins by values. -/
set_option autoImplicit false
set_option Elab.async false
set_option linter.all false
set_option maxRecDepth 100000
set_option maxHeartbeats 1000000
namespace P2S
open PySem PySem.Spec L2
open P2 (D DO DHp Exn Slot snap R SR Run Pg)

section
variable {X : Cx} {C : Cfg}
theorem map_some_bl {o : Option Bool} {d : D} (e : o.map D.bl = some d) : ∃ b, o = some b ∧ d = .bl b := by
  rw [Option.map_eq_some_iff] at e
  obtain ⟨b, h1, h2⟩ := e
  exact ⟨b, h1, h2.symm⟩
/-- what in asks of a list or a tuple -/
theorem in_units (hu : X.A.units + 64 < cLine) {ys : List D} {x : D} (hy : P2.plains ys = true) : X.A.units + 1 + min (PyData.depthAll (toPys ys)) (toPy x).depth < cLine := by
  have := (pls_plain 39 ys hy).2
  omega
theorem in_any {x : D} {ys : List D} (hx : P2.plain x = true) (hy : P2.plains ys = true) : (toPys ys).any (fun y => PyData.eqv y (toPy x)) = ys.any fun y => P2.eqv y x :=
  any_py (n := 40) hx ys (pls_mono 39 ys hy)
theorem opR_in (hK : X.K = C.K) (hu : X.A.units + 64 < cLine) (neg : Bool) : OpR X (compareOp (if neg then .NotIn else .In)) (rD2 C (copD (if neg then .notin else .isin))) := by
  intro pins s σ H x y v u Q I rx ry ⟨F, ρ, dx, dy, d, l, cx, cy, e, q⟩
  have e' : ∃ b, P2.isIn dx dy = some b ∧ d = .bl (if neg then !b else b) := by
    cases neg with
    | false =>
      obtain ⟨b, h1, h2⟩ := map_some_bl (show (P2.isIn dx dy).map D.bl = some d from e)
      exact ⟨b, h1, h2⟩
    | true =>
      obtain ⟨b, h1, h2⟩ := map_some_bl (show ((P2.isIn dx dy).map (!·)).map D.bl = some d from e)
      rw [Option.map_eq_some_iff] at h1
      obtain ⟨c, h3, h4⟩ := h1
      exact ⟨c, h3, by rw [h2, ← h4]; rfl⟩
  obtain ⟨b, e1, rfl⟩ := e'
  have fin : EP X pins σ Q (.bool (if neg then !b else b)) s := ⟨.bl _, H, I, rfl, q.bl l⟩
  cases dy with
  | lst ys =>
    simp only [P2.isIn] at e1
    split at e1
    · rename_i h
      simp only [Bool.and_eq_true] at h
      cases e1
      obtain ⟨as, ra⟩ := con_reads (n := 40) hK I l h.1 cx rx
      obtain ⟨bs, rb⟩ := con_reads (n := 40) hK I l (d := .lst ys) (by simpa [P2.pl, P2.plains] using h.2) cy ry
      have p1 := (pls_plain 39 ys h.2).1
      have p2 := (pl_plain 40 dx h.1).1
      cases neg with
      | false => exact SeqAt.in_list_data rb ra p1 p2 (in_units hu h.2) (by rw [in_any h.1 h.2]; exact fin)
      | true => exact SeqAt.notIn_list_data rb ra p1 p2 (in_units hu h.2) (by rw [in_any h.1 h.2]; exact fin)
    · cases e1
  | tup ys =>
    simp only [P2.isIn] at e1
    split at e1
    · rename_i h
      simp only [Bool.and_eq_true] at h
      cases e1
      obtain ⟨as, ra⟩ := con_reads (n := 40) hK I l h.1 cx rx
      obtain ⟨bs, rb⟩ := con_reads (n := 40) hK I l (d := .tup ys) (by simpa [P2.pl, P2.plains] using h.2) cy ry
      have p1 := (pls_plain 39 ys h.2).1
      have p2 := (pl_plain 40 dx h.1).1
      cases neg with
      | false => exact SeqAt.in_tuple_data rb ra p1 p2 (in_units hu h.2) (by rw [in_any h.1 h.2]; exact fin)
      | true => exact SeqAt.notIn_tuple_data rb ra p1 p2 (in_units hu h.2) (by rw [in_any h.1 h.2]; exact fin)
    · cases e1
  | str z =>
    cases dx <;> simp only [P2.isIn, reduceCtorEq] at e1
    rename_i w
    cases w with
    | nil => simp [P2.isChar] at e1
    | cons c r =>
      cases r with
      | cons _ _ => simp [P2.isChar] at e1
      | nil =>
        simp only [P2.isChar] at e1
        cases e1
        have hx := cx.str
        have hy := cy.str
        have ee : (toS z).cps.toList = z := by simp [toS]
        cases neg with
        | false => exact op_in_sign pins s σ H x y v u Q I rx ry ⟨c, toS z, by rw [hx]; rfl, hy, by rw [ee]; exact q.bl l⟩
        | true => exact op_notIn_sign pins s σ H x y v u Q I rx ry ⟨c, toS z, by rw [hx]; rfl, hy, by rw [ee]; exact q.bl l⟩
  | non => simp [P2.isIn] at e1
  | bl _ => simp [P2.isIn] at e1
  | int _ => simp [P2.isIn] at e1
  | dct _ => simp [P2.isIn] at e1
  | obj _ _ => simp [P2.isIn] at e1
  | loc _ => simp [P2.isIn] at e1
  | fn _ => simp [P2.isIn] at e1
  | own _ => simp [P2.isIn] at e1
theorem con_non {F H : Hp} {ρ : List Addr} {x : V} {dx : D} (cx : Con C F ρ H x dx) : decide (x = .non) = P2.isNon dx := by
  cases cx with
  | rep r => cases r <;> simp [P2.isNon]
  | lst _ _ => simp [P2.isNon]
  | dK _ _ => simp [P2.isNon]
  | dT _ _ => simp [P2.isNon]
  | ins _ _ _ => simp [P2.isNon]
theorem opR_is : OpR X (compareOp .Is) (rD2 C (copD .is)) := by
  intro pins s σ H x y v u Q I rx ry ⟨F, ρ, dx, dy, d, l, cx, cy, e, q⟩
  obtain ⟨b, h1, rfl⟩ := map_some_bl e
  cases dy <;> simp only [P2.cop, reduceCtorEq] at h1
  refine op_isN pins s σ H x y v u Q I rx ry ⟨cy.non, ?_⟩
  rw [con_non cx, Option.some.inj h1]
  exact q.bl l
theorem opR_isnot : OpR X (compareOp .IsNot) (rD2 C (copD .isnot)) := by
  intro pins s σ H x y v u Q I rx ry ⟨F, ρ, dx, dy, d, l, cx, cy, e, q⟩
  obtain ⟨b, h1, rfl⟩ := map_some_bl e
  cases dy <;> simp only [P2.cop, reduceCtorEq] at h1
  refine op_notN pins s σ H x y v u Q I rx ry ⟨cy.non, ?_⟩
  rw [con_non cx, Option.some.inj h1]
  exact q.bl l
theorem opR_cop (hK : X.K = C.K) (hu : X.A.units + 64 < cLine) (o : P2.COp) : OpR X (compareOp (trC o)) (rD2 C (copD o)) := by
  cases o with
  | eq => exact opR_eq hK hu
  | ne => exact opR_ne hK hu
  | lt => exact opR_lt hK hu
  | le => exact opR_le hK hu
  | gt => exact opR_gt hK hu
  | ge => exact opR_ge hK hu
  | isin => exact opR_in hK hu false
  | notin => exact opR_in hK hu true
  | is => exact opR_is
  | isnot => exact opR_isnot

/-! ### built-ins -/
theorem Cons.one {F H : Hp} {ρ : List Addr} {xs : List V} {d : D} (c : Cons C F ρ H xs [d]) : ∃ x, xs = [x] ∧ Con C F ρ H x d := by
  cases c with | cons a b => cases b; exact ⟨_, rfl, a⟩
theorem Cons.two {F H : Hp} {ρ : List Addr} {xs : List V} {d e : D} (c : Cons C F ρ H xs [d, e]) : ∃ x y, xs = [x, y] ∧ Con C F ρ H x d ∧ Con C F ρ H y e := by
  cases c with | cons a b => cases b with | cons b c => cases c; exact ⟨_, _, rfl, a, b⟩
theorem callR_abs : CallR X (.builtin "abs") (rDn C (P2.bi .abs)) := by
  intro pins s σ H xs us Q I r ⟨F, ρ, ds, d, l, c, e, q⟩
  have : ∃ i, ds = [.int i] ∧ d = .int i.natAbs := by
    simp only [P2.bi] at e
    split at e
    · cases e; exact ⟨_, rfl, rfl⟩
    · cases e
  obtain ⟨i, rfl, rfl⟩ := this
  obtain ⟨x, rfl, cx⟩ := c.one
  refine call_abs pins s σ H _ us Q I r ⟨i, by rw [cx.int], ?_⟩
  have : (if i < 0 then -i else i) = (i.natAbs : Int) := by split <;> omega
  rw [this]
  exact q.int l
theorem callR_int : CallR X (.type "int") (rDn C (P2.bi .int)) := by
  intro pins s σ H xs us Q I r ⟨F, ρ, ds, d, l, c, e, q⟩
  have : (∃ i, ds = [.int i] ∧ d = .int i) ∨ ∃ b, ds = [.bl b] ∧ d = .int (P2.b2i b) := by
    simp only [P2.bi] at e
    split at e
    · cases e; exact .inl ⟨_, rfl, rfl⟩
    · cases e; exact .inr ⟨_, rfl, rfl⟩
    · cases e
  rcases this with ⟨i, rfl, rfl⟩ | ⟨b, rfl, rfl⟩
  · obtain ⟨x, rfl, cx⟩ := c.one
    exact call_int1 pins s σ H _ us Q I r (.inl ⟨i, by rw [cx.int], q.int l⟩)
  · obtain ⟨x, rfl, cx⟩ := c.one
    exact call_int1 pins s σ H _ us Q I r (.inr ⟨b, by rw [cx.bl], q.int l⟩)
theorem callR_len (hK : X.K = C.K) : CallR X (.builtin "len") (rDn C (P2.bi .len)) := by
  intro pins s σ H xs us Q I r ⟨F, ρ, ds, d, l, c, e, q⟩
  have : (∃ ys, ds = [.lst ys] ∧ d = .int ys.length) ∨ (∃ ys, ds = [.tup ys] ∧ d = .int ys.length) ∨ ∃ z, ds = [.str z] ∧ z.length ≤ P2.lineMax ∧ d = .int z.length := by
    simp only [P2.bi] at e
    split at e
    · cases e; exact .inl ⟨_, rfl, rfl⟩
    · cases e; exact .inr (.inl ⟨_, rfl, rfl⟩)
    · split at e
      · rename_i h; cases e; exact .inr (.inr ⟨_, rfl, h, rfl⟩)
      · cases e
    · cases e
  rcases this with ⟨ys, rfl, rfl⟩ | ⟨ys, rfl, rfl⟩ | ⟨z, rfl, hz, rfl⟩
  · obtain ⟨x, rfl, cx⟩ := c.one
    obtain ⟨a, vs, rfl, h1, r1⟩ := cx.lst' l
    exact call_len pins s σ H _ us Q I r ⟨_, _, rfl, .inl ⟨vs, .inl h1, r1.length.symm⟩, q.int l⟩
  · obtain ⟨x, rfl, cx⟩ := c.one
    obtain ⟨a, vs, rfl, h1, r1⟩ := cx.tup' l
    exact call_len pins s σ H _ us Q I r ⟨_, _, rfl, .inr ⟨vs, by rw [hK]; exact h1, r1.length.symm⟩, q.int l⟩
  · obtain ⟨x, rfl, cx⟩ := c.one
    rw [cx.str] at r
    exact call_len pins s σ H _ us Q I r ⟨_, _, rfl, ⟨by rw [toS_length, ← lineMax_eq]; exact hz, (toS_length z).symm⟩, q.int l⟩
end
end P2S
end

section
/-! P2Bi: more built-ins by values. -/
set_option autoImplicit false
set_option Elab.async false
set_option linter.all false
set_option maxRecDepth 100000
set_option maxHeartbeats 1000000
namespace P2S
open PySem PySem.Spec L2
open P2 (D DO DHp Exn Slot snap R SR Run Pg)

section
variable {X : Cx} {C : Cfg}
/-! ### isinstance -/
def tyN : Nat → String
  | 0 => "NoneType" | 1 => "bool" | 2 => "int" | 3 => "str" | 4 => "list" | 5 => "tuple" | _ => "dict"
theorem kit_con {pins : List (Addr × Obj)} {σ : L2.St} {F H : Hp} {ρ : List Addr} {s : Shared} {x : V} {u : Value} {d : D} {k : Nat} (hK : X.K = C.K) (I : Inv X pins σ H s) (rx : RelV x u) (l : Le F H) (c : Con C F ρ H x d) (e : P2.kindD d = some k) :
    ∃ P : Heap → Prop, PySem.W.KitX X.K u (.type (tyN k)) P ∧ P s.heap ∧ u ≠ .builtin "__main__.__loader__#opaque" := by
  cases d <;> simp only [P2.kindD, Option.some.injEq, reduceCtorEq] at e <;> subst e
  · rw [c.non] at rx; cases (show u = Value.none from rx); exact ⟨_, PySem.W.kitx_none, True.intro, fun z => nomatch z⟩
  · rw [c.bl] at rx; cases (show u = Value.bool _ from rx); exact ⟨_, PySem.W.kitx_bool, True.intro, fun z => nomatch z⟩
  · rw [c.int] at rx; obtain ⟨t, rfl⟩ := rx; exact ⟨_, PySem.W.kitx_int, True.intro, fun z => nomatch z⟩
  · rw [c.str] at rx; obtain ⟨t, rfl⟩ := rx; exact ⟨_, PySem.W.kitx_str, True.intro, fun z => nomatch z⟩
  · obtain ⟨a, vs, rfl, h, r⟩ := c.tup' l
    cases (show u = Value.ref a from rx)
    obtain ⟨its, rv, ⟨o, h1, h2, _⟩, _⟩ := I.tuple (by rw [hK]; exact h)
    exact ⟨_, PySem.W.kitx_tuple, ⟨o, h1, h2⟩, fun z => nomatch z⟩
  · obtain ⟨a, vs, rfl, h, r⟩ := c.lst' l
    cases (show u = Value.ref a from rx)
    obtain ⟨its, n, rv, h1, _⟩ := inv_rdL I h
    exact ⟨_, PySem.W.kitx_list, ⟨_, h1, rfl⟩, fun z => nomatch z⟩
  · have : ∃ a, x = .ref a ∧ ((∃ ks, Rd H a (.dK ks)) ∨ ∃ ks, Rd H a (.dT ks)) := by
      cases c with
      | rep r =>
        cases r with
        | dK h _ => exact ⟨_, rfl, .inl ⟨_, .inr ⟨_, l _ _ h⟩⟩⟩
        | dT h _ => exact ⟨_, rfl, .inr ⟨_, .inr ⟨_, l _ _ h⟩⟩⟩
      | dK h _ => exact ⟨_, rfl, .inl ⟨_, .inl h⟩⟩
      | dT h _ => exact ⟨_, rfl, .inr ⟨_, .inl h⟩⟩
    obtain ⟨a, rfl, h⟩ := this
    cases (show u = Value.ref a from rx)
    rcases h with ⟨ks, h⟩ | ⟨ks, h⟩
    · obtain ⟨_, _, vs, _, o, es, ep, h1, h2, _⟩ := h.ok I.hok
      exact ⟨_, PySem.W.kitx_dict, ⟨o, h1, h2.1⟩, fun z => nomatch z⟩
    · obtain ⟨_, _, vs, _, o, es, ep, h1, h2, _⟩ := h.ok I.hok
      exact ⟨_, PySem.W.kitx_dict, ⟨o, h1, h2.1⟩, fun z => nomatch z⟩
/-- isinstance(x, T) -/
theorem callR_is {T : String} (f : Nat → Bool) (hK : X.K = C.K) (hf : ∀ k, k < 7 → kitB (tyN k) T = some (f k)) :
    CallR X (.builtin "isinstance") (fun xs H Q => ∃ F ρ x d k, xs = [x, .ty T] ∧ Le F H ∧ Con C F ρ H x d ∧ P2.kindD d = some k ∧ Q (.bl (f k)) H) := by
  intro pins s σ H xs us Q I r ⟨F, ρ, x, d, k, e, l, c, hk, q⟩
  subst e
  obtain ⟨u1, u2, rfl, r1, r2⟩ := vals2 r
  cases (show u2 = Value.type T from r2)
  obtain ⟨P, Z, p, hx⟩ := kit_con hK I r1 l c hk
  have hk7 : k < 7 := by cases d <;> simp [P2.kindD] at hk <;> omega
  exact PySem.W.kia_one Z I.kIn p (kit_ty (hf k hk7)) hx fun tk => ⟨.bl _, H, I.tok tk, rfl, q⟩
/-- isinstance(x, (T, U)) -/
theorem callR_is2 {T U : String} (f g : Nat → Bool) (hK : X.K = C.K) (hf : ∀ k, k < 7 → kitB (tyN k) T = some (f k)) (hg : ∀ k, k < 7 → kitB (tyN k) U = some (g k)) :
    CallR X (.builtin "isinstance") (fun xs H Q => ∃ F ρ x d k tp, xs = [x, .ref tp] ∧ H tp = some (.tup [.ty T, .ty U]) ∧ Le F H ∧ Con C F ρ H x d ∧ P2.kindD d = some k ∧ Q (.bl (f k || g k)) H) := by
  intro pins s σ H xs us Q I r ⟨F, ρ, x, d, k, tp, e, ht, l, c, hk, q⟩
  subst e
  obtain ⟨u1, u2, rfl, r1, r2⟩ := vals2 r
  cases (show u2 = Value.ref tp from r2)
  obtain ⟨P, Z, p, hx⟩ := kit_con hK I r1 l c hk
  have hk7 : k < 7 := by cases d <;> simp [P2.kindD] at hk <;> omega
  obtain ⟨_, its, rv, o, h1, h2, n, h3⟩ := (show ObjOk X.prog X.w H s.heap tp (.tup [.ty T, .ty U]) from I.hok tp _ ht)
  have e3 := ClsV.all (.cons (ClsV.ty T) (.cons (ClsV.ty U) .nil)) rv
  subst e3
  obtain ⟨oc, od, dt, sl⟩ := o
  simp only at h2 h3
  subst h2 h3
  have hA : PySem.W.kitAny X.K (.type (tyN k)) [.type T, .type U] = some (f k || g k) := by
    refine kitAny_cons (kit_ty (hf k hk7)) (fun hb => ?_) (fun hb => by rw [hb]; rfl)
    rw [hb, Bool.false_or]
    exact kitAny_cons (kit_ty (hg k hk7)) (fun hb2 => by rw [hb2]; exact kitAny_nil) fun hb2 => hb2
  exact PySem.W.kia_tup Z I.kIn p h1 hA hx fun tk => ⟨.bl _, H, I.tok tk, rfl, q⟩

/-! ### list, tuple -/
theorem callR_list (hK : X.K = C.K) : CallR X (.type "list") (rDn C (P2.bi .lst)) := by
  intro pins s σ H xs us Q I r ⟨F, ρ, ds, d, l, c, e, q⟩
  have : (∃ ys, ds = [.lst ys] ∧ d = .lst ys) ∨ ∃ ys, ds = [.tup ys] ∧ d = .lst ys := by
    simp only [P2.bi] at e
    split at e
    · cases e; exact .inl ⟨_, rfl, rfl⟩
    · cases e; exact .inr ⟨_, rfl, rfl⟩
    · cases e
  rcases this with ⟨ys, rfl, rfl⟩ | ⟨ys, rfl, rfl⟩
  · obtain ⟨x, rfl, cx⟩ := c.one
    obtain ⟨a, vs, rfl, h1, r1⟩ := cx.lst' l
    exact call_list_of pins s σ H _ us Q I r ⟨a, vs, rfl, .inl (.inl h1), fun p hp => q.lst l hp r1⟩
  · obtain ⟨x, rfl, cx⟩ := c.one
    obtain ⟨a, vs, rfl, h1, r1⟩ := cx.tup' l
    exact call_list_of pins s σ H _ us Q I r ⟨a, vs, rfl, .inr (by rw [hK]; exact h1), fun p hp => q.lst l hp r1⟩
theorem callR_tuple (hK : X.K = C.K) : CallR X (.type "tuple") (rDn C (P2.bi .tup)) := by
  intro pins s σ H xs us Q I r ⟨F, ρ, ds, d, l, c, e, q⟩
  have : (∃ ys, ds = [.lst ys] ∧ d = .tup ys) ∨ ∃ ys, ds = [.tup ys] ∧ d = .tup ys := by
    simp only [P2.bi] at e
    split at e
    · cases e; exact .inl ⟨_, rfl, rfl⟩
    · cases e; exact .inr ⟨_, rfl, rfl⟩
    · cases e
  rcases this with ⟨ys, rfl, rfl⟩ | ⟨ys, rfl, rfl⟩
  · obtain ⟨x, rfl, cx⟩ := c.one
    obtain ⟨a, vs, rfl, h1, r1⟩ := cx.lst' l
    exact call_tuple_of pins s σ H _ us Q I r ⟨a, vs, rfl, .inl ⟨.inl h1, fun p hp => q.tup l hp r1⟩⟩
  · obtain ⟨x, rfl, cx⟩ := c.one
    obtain ⟨a, vs, rfl, h1, r1⟩ := cx.tup' l
    exact call_tuple_of pins s σ H _ us Q I r ⟨a, vs, rfl, .inr ⟨by rw [hK]; exact h1, q.same l (by cases cx with | rep r => exact r)⟩⟩

/-! ### max, min -/
mutual
theorem toPy_inj : ∀ (n : Nat) (a b : D), P2.pl n a = true → P2.pl n b = true → toPy a = toPy b → a = b
  | _, .non, b, _, hb, e => by cases b <;> simp [toPy, P2.pl] at hb e ⊢
  | _, .bl x, b, _, hb, e => by cases b <;> simp [toPy, P2.pl] at hb e ⊢; exact e
  | _, .int x, b, _, hb, e => by cases b <;> simp [toPy, P2.pl] at hb e ⊢; exact e
  | _, .str x, b, _, hb, e => by
    cases b with
    | str y => simp only [toPy, PyData.str.injEq] at e; rw [toS_inj e]
    | _ => simp [toPy, P2.pl] at hb e
  | 0, .lst xs, b, ha, hb, e => by simp [P2.pl] at ha
  | 0, .tup xs, b, ha, hb, e => by simp [P2.pl] at ha
  | n + 1, .lst xs, b, ha, hb, e => by
    cases b with
    | lst ys => simp only [toPy, PyData.list.injEq] at e; rw [toPys_inj n xs ys (by simpa [P2.pl] using ha) (by simpa [P2.pl] using hb) e]
    | _ => simp [toPy, P2.pl] at hb e
  | n + 1, .tup xs, b, ha, hb, e => by
    cases b with
    | tup ys => simp only [toPy, PyData.tuple.injEq] at e; rw [toPys_inj n xs ys (by simpa [P2.pl] using ha) (by simpa [P2.pl] using hb) e]
    | _ => simp [toPy, P2.pl] at hb e
  | _, .dct _, _, h, _, _ => by simp [P2.pl] at h
  | _, .obj _ _, _, h, _, _ => by simp [P2.pl] at h
  | _, .loc _, _, h, _, _ => by simp [P2.pl] at h
  | _, .fn _, _, h, _, _ => by simp [P2.pl] at h
  | _, .own _, _, h, _, _ => by simp [P2.pl] at h
theorem toPys_inj : ∀ (n : Nat) (a b : List D), P2.pls n a = true → P2.pls n b = true → toPys a = toPys b → a = b
  | _, [], [], _, _, _ => rfl
  | _, [], _ :: _, _, _, e => by simp [toPys] at e
  | _, _ :: _, [], _, _, e => by simp [toPys] at e
  | n, x :: xs, y :: ys, ha, hb, e => by
    have ha' : P2.pl n x = true ∧ P2.pls n xs = true := by simpa [P2.pls] using ha
    have hb' : P2.pl n y = true ∧ P2.pls n ys = true := by simpa [P2.pls] using hb
    simp only [toPys, List.cons.injEq] at e
    rw [toPy_inj n x y ha'.1 hb'.1 e.1, toPys_inj n xs ys ha'.2 hb'.2 e.2]
end
theorem pls_all {n : Nat} : ∀ {xs : List D}, P2.pls n xs = true ↔ ∀ x ∈ xs, P2.pl n x = true
  | [] => by simp [P2.pls]
  | x :: xs => by simp [P2.pls, pls_all (xs := xs)]
theorem toPys_mem {xs : List D} {y : PyData} (h : y ∈ toPys xs) : ∃ x ∈ xs, toPy x = y := by
  rw [toPys_map] at h
  simpa using h
theorem alikes_of {xs : List D} (h : ∀ a ∈ xs, ∀ b ∈ xs, P2.alike a b = true) : PySem.W.AlikeAll (toPys xs) := by
  refine ⟨fun x hx y hy => ?_, fun x hx => ?_⟩
  · obtain ⟨a, ha, rfl⟩ := toPys_mem hx
    obtain ⟨b, hb, rfl⟩ := toPys_mem hy
    exact alike_py a b (h a ha b hb)
  · obtain ⟨a, ha, rfl⟩ := toPys_mem hx
    exact alike_non (h a ha a ha)
theorem maxD_py {n : Nat} : ∀ (xs : List D) (m : D), P2.pls n (m :: xs) = true → (∀ a ∈ m :: xs, ∀ b ∈ m :: xs, P2.alike a b = true) →
    PySem.W.maxD (toPy m) (toPys xs) = toPy (P2.maxD m xs) ∧ P2.maxD m xs ∈ m :: xs
  | [], m, _, _ => ⟨rfl, by simp [P2.maxD]⟩
  | x :: xs, m, hp, ha => by
    have hp' : P2.pl n m = true ∧ P2.pl n x = true ∧ P2.pls n xs = true := by simpa [P2.pls] using hp
    have e : PySem.W.dataLt (toPy m) (toPy x) = P2.lt m x := lt_py n m x hp'.1 hp'.2.1 (ha m (by simp) x (by simp))
    have step : PySem.W.maxD (toPy m) (toPys (x :: xs)) = PySem.W.maxD (toPy (if P2.lt m x then x else m)) (toPys xs) := by
      show List.foldl _ (if PySem.W.dataLt (toPy m) (toPy x) = true then toPy x else toPy m) _ = _
      rw [e]
      by_cases h : P2.lt m x = true
      · rw [if_pos h, if_pos h]; rfl
      · rw [if_neg h, if_neg h]; rfl
    have hm : (if P2.lt m x then x else m) ∈ m :: x :: xs := by split <;> simp
    obtain ⟨h1, h2⟩ := maxD_py xs (if P2.lt m x then x else m) (by
      simp only [P2.pls, Bool.and_eq_true]
      refine ⟨?_, hp'.2.2⟩
      split
      · exact hp'.2.1
      · exact hp'.1) (fun a h1 b h2 => ha a (by
        rcases List.mem_cons.mp h1 with h | h
        · rw [h]; exact hm
        · simp [h]) b (by
        rcases List.mem_cons.mp h2 with h | h
        · rw [h]; exact hm
        · simp [h]))
    refine ⟨step.trans h1, ?_⟩
    show P2.maxD (if P2.lt m x then x else m) xs ∈ _
    rcases List.mem_cons.mp h2 with h | h
    · rw [h]; exact hm
    · simp [h]
theorem minD_py {n : Nat} : ∀ (xs : List D) (m : D), P2.pls n (m :: xs) = true → (∀ a ∈ m :: xs, ∀ b ∈ m :: xs, P2.alike a b = true) →
    PySem.W.minD (toPy m) (toPys xs) = toPy (P2.minD m xs) ∧ P2.minD m xs ∈ m :: xs
  | [], m, _, _ => ⟨rfl, by simp [P2.minD]⟩
  | x :: xs, m, hp, ha => by
    have hp' : P2.pl n m = true ∧ P2.pl n x = true ∧ P2.pls n xs = true := by simpa [P2.pls] using hp
    have e : PySem.W.dataLt (toPy x) (toPy m) = P2.lt x m := lt_py n x m hp'.2.1 hp'.1 (ha x (by simp) m (by simp))
    have step : PySem.W.minD (toPy m) (toPys (x :: xs)) = PySem.W.minD (toPy (if P2.lt x m then x else m)) (toPys xs) := by
      show List.foldl _ (if PySem.W.dataLt (toPy x) (toPy m) = true then toPy x else toPy m) _ = _
      rw [e]
      by_cases h : P2.lt x m = true
      · rw [if_pos h, if_pos h]; rfl
      · rw [if_neg h, if_neg h]; rfl
    have hm : (if P2.lt x m then x else m) ∈ m :: x :: xs := by split <;> simp
    obtain ⟨h1, h2⟩ := minD_py xs (if P2.lt x m then x else m) (by
      simp only [P2.pls, Bool.and_eq_true]
      refine ⟨?_, hp'.2.2⟩
      split
      · exact hp'.2.1
      · exact hp'.1) (fun a h1 b h2 => ha a (by
        rcases List.mem_cons.mp h1 with h | h
        · rw [h]; exact hm
        · simp [h]) b (by
        rcases List.mem_cons.mp h2 with h | h
        · rw [h]; exact hm
        · simp [h]))
    refine ⟨step.trans h1, ?_⟩
    show P2.minD (if P2.lt x m then x else m) xs ∈ _
    rcases List.mem_cons.mp h2 with h | h
    · rw [h]; exact hm
    · simp [h]
theorem sortable_hyp {xs : List D} (h : P2.sortable xs = true) : P2.plains xs = true ∧ (∀ a ∈ xs, ∀ b ∈ xs, P2.alike a b = true) := by
  simp only [P2.sortable, Bool.and_eq_true, List.all_eq_true] at h
  exact ⟨h.1.1, fun a ha b hb => h.1.2 a ha b hb⟩
theorem nat_get {vs : List V} {its : List Value} {i : Nat} {u : Value} (r : Vals vs its) (h : its[i]? = some u) : ∃ v, vs[i]? = some v ∧ RelV v u := by
  have hl := r.length
  obtain ⟨hi, _⟩ := List.getElem?_eq_some_iff.mp h
  obtain ⟨u', h1, h2⟩ := r.get (i := i) (x := vs[i]'(by omega)) (List.getElem?_eq_getElem _)
  rw [h] at h1
  cases h1
  exact ⟨_, List.getElem?_eq_getElem _, h2⟩
theorem mm_end {pins : List (Addr × Obj)} {σ : L2.St} {F H : Hp} {ρ : List Addr} {s : Shared} {Q : VK} {vs : List V} {its : List Value} {ds : List D} {i : Nat} {v : Value} {d : D} {h' : Heap} {tk : Nat} {bs : List Addr} (hK : X.K = C.K) (I : Inv X pins σ H s) (l : Le F H)
    (rv : Vals vs its) (rs : Reps C F ρ vs ds) (hp : P2.pls 39 ds = true) (hd : P2.pl 39 d = true) (q : VR C F ρ H d Q) (hv : its.toArray[i]? = some v) (hr : Reads h' v (toPy d) bs) (k : ∀ b o, s.heap.get? b = some o → h'.get? b = some o) :
    EP X pins σ Q v { s with heap := h', toks := tk } := by
  have hv' : its[i]? = some v := by simpa using hv
  obtain ⟨w, hw, rw'⟩ := nat_get rv hv'
  obtain ⟨d', hd', rep⟩ := rs.getV hw
  have hp' := pls_all.mp hp d' (List.mem_of_getElem? hd')
  obtain ⟨as, ra⟩ := rep_reads hK I l 39 d' w v hp' rep rw'
  have := PySem.SeqAt.plain_unique _ _ v _ _ (pl_plain 39 d' hp').1 (PyProof.Rows.Reads.keeps k ra) hr
  have e := toPy_inj 39 d' d hp' hd this
  subst e
  exact ⟨w, H, I.kept k, rw', q.same l rep⟩
theorem callR_max (hK : X.K = C.K) (hc : X.calm = true) (hu : X.A.units + 64 < cLine) : CallR X (.builtin "max") (rDn C (P2.bi .max1)) := by
  intro pins s σ H xs us Q I r ⟨F, ρ, ds, d, l, c, e, q⟩
  have hh : X.A.handled = none := I.ok.hd hc
  have : ∃ a x y, ds = [a] ∧ P2.itemsOf a = some (x :: y) ∧ P2.sortable (x :: y) = true ∧ d = P2.maxD x y := by
    simp only [P2.bi] at e
    split at e
    · split at e
      · split at e
        · rename_i h1 h2
          cases e; exact ⟨_, _, _, rfl, h1, h2, rfl⟩
        · cases e
      · cases e
    · cases e
  obtain ⟨a, x, y, rfl, hi, hs, rfl⟩ := this
  obtain ⟨hp, ha⟩ := sortable_hyp hs
  obtain ⟨m1, m2⟩ := maxD_py y x hp ha
  have hpd := pls_all.mp hp _ m2
  have hdep := (pls_plain 39 (x :: y) hp).2
  obtain ⟨v, rfl, cx⟩ := c.one
  obtain ⟨u, rfl, ru⟩ := vals1 r
  cases a <;> simp only [P2.itemsOf, Option.some.injEq, reduceCtorEq] at hi <;> subst hi
  · obtain ⟨b, vs, rfl, h1, r1⟩ := cx.tup' l
    cases (show u = Value.ref b from ru)
    obtain ⟨its, rv, ht, hz⟩ := I.tuple (by rw [hK]; exact h1)
    obtain ⟨as, ra⟩ := reps_reads hK I l 39 _ _ _ hp r1 rv
    refine PySem.W.max_tuple_data hh ht (by simpa [toPys] using ra) (alikes_of ha) (by simp only [toPys] at hdep; omega) fun i v h' tk bs hv hr k => ?_
    exact mm_end hK I l rv r1 hp hpd q hv (by rw [← m1]; exact hr) k
  · obtain ⟨b, vs, rfl, h1, r1⟩ := cx.lst' l
    cases (show u = Value.ref b from ru)
    obtain ⟨its, n, rv, ho, hz⟩ := inv_rdL I h1
    obtain ⟨as, ra⟩ := reps_reads hK I l 39 _ _ _ hp r1 rv
    refine PySem.W.max_list_data (vs := its.toArray) hh ⟨_, ho, rfl, n, rfl⟩ (by simpa [toPys] using ra) (alikes_of ha) (by simp only [toPys] at hdep; omega) fun i v h' tk bs hv hr k => ?_
    exact mm_end hK I l rv r1 hp hpd q hv (by rw [← m1]; exact hr) k
theorem callR_min (hK : X.K = C.K) (hc : X.calm = true) (hu : X.A.units + 64 < cLine) : CallR X (.builtin "min") (rDn C (P2.bi .min1)) := by
  intro pins s σ H xs us Q I r ⟨F, ρ, ds, d, l, c, e, q⟩
  have hh : X.A.handled = none := I.ok.hd hc
  have : ∃ a x y, ds = [a] ∧ P2.itemsOf a = some (x :: y) ∧ P2.sortable (x :: y) = true ∧ d = P2.minD x y := by
    simp only [P2.bi] at e
    split at e
    · split at e
      · split at e
        · rename_i h1 h2
          cases e; exact ⟨_, _, _, rfl, h1, h2, rfl⟩
        · cases e
      · cases e
    · cases e
  obtain ⟨a, x, y, rfl, hi, hs, rfl⟩ := this
  obtain ⟨hp, ha⟩ := sortable_hyp hs
  obtain ⟨m1, m2⟩ := minD_py y x hp ha
  have hpd := pls_all.mp hp _ m2
  have hdep := (pls_plain 39 (x :: y) hp).2
  obtain ⟨v, rfl, cx⟩ := c.one
  obtain ⟨u, rfl, ru⟩ := vals1 r
  cases a <;> simp only [P2.itemsOf, Option.some.injEq, reduceCtorEq] at hi <;> subst hi
  · obtain ⟨b, vs, rfl, h1, r1⟩ := cx.tup' l
    cases (show u = Value.ref b from ru)
    obtain ⟨its, rv, ht, hz⟩ := I.tuple (by rw [hK]; exact h1)
    obtain ⟨as, ra⟩ := reps_reads hK I l 39 _ _ _ hp r1 rv
    refine PySem.W.min_tuple_data hh ht (by simpa [toPys] using ra) (alikes_of ha) (by simp only [toPys] at hdep; omega) fun i v h' tk bs hv hr k => ?_
    exact mm_end hK I l rv r1 hp hpd q hv (by rw [← m1]; exact hr) k
  · obtain ⟨b, vs, rfl, h1, r1⟩ := cx.lst' l
    cases (show u = Value.ref b from ru)
    obtain ⟨its, n, rv, ho, hz⟩ := inv_rdL I h1
    obtain ⟨as, ra⟩ := reps_reads hK I l 39 _ _ _ hp r1 rv
    refine PySem.W.min_list_data (vs := its.toArray) hh ⟨_, ho, rfl, n, rfl⟩ (by simpa [toPys] using ra) (alikes_of ha) (by simp only [toPys] at hdep; omega) fun i v h' tk bs hv hr k => ?_
    exact mm_end hK I l rv r1 hp hpd q hv (by rw [← m1]; exact hr) k
end
end P2S
end

section
/-! P2Bi2: sorted, sum, any, all, max and min of two. -/
set_option autoImplicit false
set_option Elab.async false
set_option linter.all false
set_option maxRecDepth 100000
set_option maxHeartbeats 1000000
namespace P2S
open PySem PySem.Spec L2
open P2 (D DO DHp Exn Slot snap R SR Run Pg)
section
variable {X : Cx} {C : Cfg} {pins : List (Addr × Obj)} {σ : L2.St} {F H : Hp} {ρ : List Addr} {s : Shared}
def stR (C : Cfg) (F : Hp) (ρ : List Addr) (u : Value) (d : D) : Prop := ∃ v, RelV v u ∧ Rep C F ρ v d
theorem each_of : ∀ {vs : List V} {us : List Value} {ds : List D}, Vals vs us → Reps C F ρ vs ds → PySem.W.EachIs (stR C F ρ) us ds
  | _, _, _, .nil, .nil => .nil
  | _, _, _, .cons r rs, .cons c cs => .cons ⟨_, r, c⟩ (each_of rs cs)
theorem of_each : ∀ {us : List Value} {ds : List D}, PySem.W.EachIs (stR C F ρ) us ds → ∃ vs, Vals vs us ∧ Reps C F ρ vs ds
  | _, _, .nil => ⟨[], .nil, .nil⟩
  | _, _, .cons ⟨v, r, c⟩ t => by
    obtain ⟨vs, h1, h2⟩ := of_each t
    exact ⟨v :: vs, .cons r h1, .cons c h2⟩
theorem each_reads (hK : X.K = C.K) (I : Inv X pins σ H s) (l : Le F H) : ∀ {us : List Value} {ds : List D}, P2.pls 39 ds = true → PySem.W.EachIs (stR C F ρ) us ds → PySem.W.EachIs (fun v b => ∃ as, Reads s.heap v (toPy b) as) us ds
  | _, _, _, .nil => .nil
  | _, _, hp, .cons ⟨v, r, c⟩ t => by
    simp only [P2.pls, Bool.and_eq_true] at hp
    exact .cons (rep_reads hK I l 39 _ v _ hp.1 c r) (each_reads hK I l hp.2 t)
theorem sortable_py {xs : List D} (h : P2.sortable xs = true) : PySem.W.Sortable (xs.map toPy) := by
  simp only [P2.sortable, Bool.and_eq_true, Bool.or_eq_true, List.all_eq_true] at h
  rcases h.2 with h | h
  · refine .inl fun d hd => ?_
    obtain ⟨x, hx, rfl⟩ := List.mem_map.mp hd
    have := h x hx
    cases x with
    | tup ys =>
      cases ys with
      | nil => simp at this
      | cons y ys => exact ⟨toPy y, toPys ys, by simp only [toPy, toPys]⟩
    | _ => simp at this
  · refine .inr fun d hd => ?_
    obtain ⟨x, hx, rfl⟩ := List.mem_map.mp hd
    have := h x hx
    cases x <;> simp at this <;> simp [toPy]
theorem callR_sorted (hK : X.K = C.K) (hu : X.A.units + 64 < cLine) : CallR X (.builtin "sorted") (rDn C (P2.bi .sorted)) := by
  intro pins s σ H xs us Q I r ⟨F, ρ, ds, d, l, c, e, q⟩
  have : ∃ ys, ds = [.lst ys] ∧ P2.sortable ys = true ∧ ys.length ≤ P2.lineMax ∧ d = .lst (P2.sortD ys) := by
    simp only [P2.bi] at e
    split at e
    · split at e
      · rename_i h1
        simp only [Bool.and_eq_true, decide_eq_true_eq] at h1
        cases e; exact ⟨_, rfl, h1.1, h1.2, rfl⟩
      · cases e
    · cases e
  obtain ⟨ys, rfl, hs, hl, rfl⟩ := this
  obtain ⟨hp, ha⟩ := sortable_hyp hs
  obtain ⟨x, rfl, cx⟩ := c.one
  obtain ⟨a, vs, rfl, h1, r1⟩ := cx.lst' l
  obtain ⟨u, rfl, ru⟩ := vals1 r
  cases (show u = Value.ref a from ru)
  obtain ⟨its, n, rv, ho, hz⟩ := inv_rdL I h1
  have he := each_of rv r1
  have hal : PySem.W.AllAlike (ys.map toPy) := fun d hd d' hd' => by
    obtain ⟨b, hb, rfl⟩ := List.mem_map.mp hd
    obtain ⟨b', hb', rfl⟩ := List.mem_map.mp hd'
    exact alike_py b b' (ha b hb b' hb')
  refine PySem.W.sorted_data (enc := toPy) ⟨_, ho, rfl, n, rfl⟩ he (each_reads hK I l hp he) hal (sortable_py hs) (by rw [← lineMax_eq]; exact hl) (fun b hb => ?_) fun out h1 h2 => ?_
  · have := (pl_plain 39 b (pls_all.mp hp b hb)).2
    omega
  · have e2 : ys.mergeSort (PySem.W.dataLe false toPy) = P2.sortD ys := by
      have := List.map_mergeSort (r := PySem.W.dataLe false toPy) (s := P2.le) (f := id) (l := ys) fun a ha' b hb' => by
        rw [PySem.W.dataLe_eq]
        show (!PySem.W.dataLt (toPy b) (toPy a)) = !P2.lt b a
        rw [lt_py 39 b a (pls_all.mp hp b hb') (pls_all.mp hp a ha') (ha b hb' a ha')]
      rw [List.map_id, List.map_id] at this
      exact this
    rw [e2] at h2
    obtain ⟨ws, k1, k2⟩ := of_each h2
    obtain ⟨ep, he'⟩ := PyProof.Rows.sortedAll_at s.heap its out.toArray
    have hlen : ws.length ≤ sizeLine := by rw [k1.length, h1, ← lineMax_eq]; exact hl
    exact ⟨.ref _, upd H (s.heap.objs.size + 1) (.lst ws), I.laid (t' := s.toks) (fun _ _ => PyProof.Rows.sortedAll_old) (Nat.le_succ _) ⟨hlen, out, ep, k1, he'⟩, rfl, q.lst l (I.hok.fresh (Nat.le_succ _)) k2⟩
theorem callR_max2 (hc : X.calm = true) : CallR X (.builtin "max") (rDn C (P2.bi .max2)) := by
  intro pins s σ H xs us Q I r ⟨F, ρ, ds, d, l, c, e, q⟩
  have : ∃ i j, ds = [.int i, .int j] ∧ d = .int (if j > i then j else i) := by
    simp only [P2.bi] at e
    split at e
    · cases e; exact ⟨_, _, rfl, rfl⟩
    · cases e
  obtain ⟨i, j, rfl, rfl⟩ := this
  obtain ⟨x, y, rfl, cx, cy⟩ := c.two
  exact call_max2 hc pins s σ H _ us Q I r ⟨i, j, by rw [cx.int, cy.int], q.int l⟩
theorem callR_min2 (hc : X.calm = true) : CallR X (.builtin "min") (rDn C (P2.bi .min2)) := by
  intro pins s σ H xs us Q I r ⟨F, ρ, ds, d, l, c, e, q⟩
  have : ∃ i j, ds = [.int i, .int j] ∧ d = .int (if j < i then j else i) := by
    simp only [P2.bi] at e
    split at e
    · cases e; exact ⟨_, _, rfl, rfl⟩
    · cases e
  obtain ⟨i, j, rfl, rfl⟩ := this
  obtain ⟨x, y, rfl, cx, cy⟩ := c.two
  exact call_min2 hc pins s σ H _ us Q I r ⟨i, j, by rw [cx.int, cy.int], q.int l⟩
theorem ints_of : ∀ {xs : List D} {is : List Int}, P2.allInts xs = some is → xs = is.map D.int
  | [], is, e => by simp only [P2.allInts, Option.some.injEq] at e; subst e; rfl
  | x :: xs, is, e => by
    cases x <;> simp only [P2.allInts, Option.map_eq_some_iff, reduceCtorEq] at e
    obtain ⟨js, e1, rfl⟩ := e
    rw [ints_of e1]; rfl
theorem bools_of : ∀ {xs : List D} {is : List Bool}, P2.allBools xs = some is → xs = is.map D.bl
  | [], is, e => by simp only [P2.allBools, Option.some.injEq] at e; subst e; rfl
  | x :: xs, is, e => by
    cases x <;> simp only [P2.allBools, Option.map_eq_some_iff, reduceCtorEq] at e
    obtain ⟨js, e1, rfl⟩ := e
    rw [bools_of e1]; rfl
theorem rep_ints2 : ∀ {is : List Int} {vs : List V}, Reps C F ρ vs (is.map D.int) → vs = is.map V.int
  | [], _, .nil => rfl
  | i :: is, _, .cons (.int _) t => by rw [rep_ints2 t]; rfl
theorem rep_bools2 : ∀ {is : List Bool} {vs : List V}, Reps C F ρ vs (is.map D.bl) → vs = is.map V.bl
  | [], _, .nil => rfl
  | i :: is, _, .cons (.bl _) t => by rw [rep_bools2 t]; rfl
theorem callR_any (hc : X.calm = true) : CallR X (.builtin "any") (rDn C (P2.bi .any)) := by
  intro pins s σ H xs us Q I r ⟨F, ρ, ds, d, l, c, e, q⟩
  have : ∃ ys bs, ds = [.lst ys] ∧ P2.allBools ys = some bs ∧ d = .bl (bs.any id) := by
    simp only [P2.bi] at e
    split at e
    · rename_i ys
      obtain ⟨bs, h1, rfl⟩ := Option.map_eq_some_iff.mp e
      exact ⟨ys, bs, rfl, h1, rfl⟩
    · cases e
  obtain ⟨ys, bs, rfl, hb, rfl⟩ := this
  obtain ⟨x, rfl, cx⟩ := c.one
  obtain ⟨a, vs, rfl, h1, r1⟩ := cx.lst' l
  rw [bools_of hb] at r1
  rw [rep_bools2 r1] at h1
  exact cr_any hc pins s σ H _ us Q I r ⟨a, bs, rfl, .inl h1, q.bl l⟩
theorem callR_all (hc : X.calm = true) : CallR X (.builtin "all") (rDn C (P2.bi .all)) := by
  intro pins s σ H xs us Q I r ⟨F, ρ, ds, d, l, c, e, q⟩
  have : ∃ ys bs, ds = [.lst ys] ∧ P2.allBools ys = some bs ∧ d = .bl (bs.all id) := by
    simp only [P2.bi] at e
    split at e
    · rename_i ys
      obtain ⟨bs, h1, rfl⟩ := Option.map_eq_some_iff.mp e
      exact ⟨ys, bs, rfl, h1, rfl⟩
    · cases e
  obtain ⟨ys, bs, rfl, hb, rfl⟩ := this
  obtain ⟨x, rfl, cx⟩ := c.one
  obtain ⟨a, vs, rfl, h1, r1⟩ := cx.lst' l
  rw [bools_of hb] at r1
  rw [rep_bools2 r1] at h1
  exact cr_all hc pins s σ H _ us Q I r ⟨a, bs, rfl, .inl h1, q.bl l⟩
end
end P2S
end

section
/-! P2Seq: indices and slices by values. -/
set_option autoImplicit false
set_option Elab.async false
set_option linter.all false
set_option maxRecDepth 100000
set_option maxHeartbeats 1000000
namespace P2S
open PySem PySem.Spec L2
open P2 (D DO DHp Exn Slot snap R SR Run Pg)

theorem ix_ixN {n : Nat} {i : Int} : ixN n i = P2.ix n i := by
  unfold ixN P2.ix
  by_cases h0 : 0 ≤ i
  · simp only [if_pos h0]
  · simp only [if_neg h0]
    by_cases h1 : 0 ≤ i + n
    · rw [if_pos h1, if_pos (by omega)]
    · rw [if_neg h1, if_neg (by omega)]
theorem sIx_clip (n : Nat) (i : Int) (d : Nat) : HT.sIx n d (some i) = P2.clip n i := by
  show (if i < 0 then (i + (n : Int)).toNat else min i.toNat n) = _
  unfold P2.clip
  by_cases h : 0 ≤ i
  · rw [if_pos h, if_neg (by omega)]
  · rw [if_neg h, if_pos (by omega)]
theorem cutV_cut (vs : List V) (lo hi : Option Int) : cutV vs lo hi = P2.cut vs lo hi := by
  unfold cutV P2.cut
  cases lo <;> cases hi <;> simp only [sIx_clip] <;> simp [HT.sIx]
theorem Reps.cut {C : Cfg} {F : Hp} {ρ : List Addr} {vs : List V} {ds : List D} (r : Reps C F ρ vs ds) (lo hi : Option Int) : Reps C F ρ (P2.cut vs lo hi) (P2.cut ds lo hi) := by
  unfold P2.cut
  rw [r.length]
  exact (r.drop _).take _
section
variable {X : Cx} {C : Cfg}
theorem ixR_idx (hK : X.K = C.K) : IxR X (rD2 C P2.idxD) := by
  intro value slice pins s σ H x y v u Q I rx ry ⟨F, ρ, dx, dy, d, l, cx, cy, e, q⟩ hs
  cases dx <;> cases dy <;> simp only [P2.idxD, reduceCtorEq] at e
  · split at e
    · rename_i hz
      split at e
      · rename_i k hk
        rw [Option.map_eq_some_iff] at e
        obtain ⟨c, h1, h2⟩ := e
        subst h2
        refine ix_str value slice pins s σ H x y v u Q I rx ry ⟨_, _, c, cx.str, cy.int, by rw [toS_length, ← lineMax_eq]; exact hz, ?_, q.str l⟩ hs
        unfold atI
        have : (toS ‹List Nat›).cps.toList = ‹List Nat› := by simp [toS]
        rw [this, ix_ixN, hk]
        exact h1
      · cases e
    · cases e
  · split at e
    · rename_i k hk
      obtain ⟨a, vs, rfl, h1, r1⟩ := cx.tup' l
      obtain ⟨w, hw, rw'⟩ := r1.get e
      refine ix_tup value slice pins s σ H _ y v u Q I rx ry ⟨a, vs, _, w, rfl, cy.int, by rw [hK]; exact h1, ?_, q.same l rw'⟩ hs
      unfold atI
      rw [ix_ixN, r1.length, hk]
      exact hw
    · cases e
  · split at e
    · rename_i k hk
      obtain ⟨a, vs, rfl, h1, r1⟩ := cx.lst' l
      obtain ⟨w, hw, rw'⟩ := r1.get e
      refine ix_list value slice pins s σ H _ y v u Q I rx ry ⟨a, vs, _, w, rfl, cy.int, .inl h1, ?_, q.same l rw'⟩ hs
      unfold atI
      rw [ix_ixN, r1.length, hk]
      exact hw
    · cases e
/-- a slice by values -/
def rSlD (C : Cfg) : V → Option Int → Option Int → Hp → VK → Prop := fun x lo hi H Q => ∃ F ρ dx d, Le F H ∧ Con C F ρ H x dx ∧ P2.sliceD dx lo hi = some d ∧ VR C F ρ H d Q
theorem cut_all {α : Type} {vs : List α} {lo hi : Option Int} {n : Nat} (hn : n = vs.length) (h : HT.sIx n 0 lo = 0 ∧ HT.sIx n n hi = n) : P2.cut vs lo hi = vs := by
  subst hn
  obtain ⟨h1, h2⟩ := h
  cases lo <;> cases hi <;> simp only [sIx_clip, HT.sIx_none] at h1 h2 <;> simp [P2.cut, h1, h2]
theorem slR_slice (hK : X.K = C.K) : SlR X (rSlD C) := by
  intro pins s σ H x v vl vu lo hi sl Q I rx hs pl pu ⟨F, ρ, dx, d, l, cx, e, q⟩
  cases dx <;> simp only [P2.sliceD, reduceCtorEq] at e
  · split at e
    · rename_i hz
      cases e
      refine sl_str pins s σ H x v vl vu lo hi sl Q I rx hs pl pu ⟨_, cx.str, by rw [toS_length, ← lineMax_eq]; exact hz, ?_⟩
      have : cutS (toS ‹List Nat›) lo hi = toS (P2.cut ‹List Nat› lo hi) := by
        unfold cutS P2.cut
        cases lo <;> cases hi <;> simp only [sIx_clip] <;> simp [toS, HT.sIx, Str.length]
      rw [this]
      exact q.str l
    · cases e
  · cases e
    obtain ⟨a, vs, rfl, h1, r1⟩ := cx.tup' l
    refine sl_tupA pins s σ H _ v vl vu lo hi sl Q I rx hs pl pu ⟨a, vs, rfl, by rw [hK]; exact h1, fun hw => ?_, fun _ p hp => ?_⟩
    · rw [cut_all r1.length hw] at q
      refine q.same l (by cases cx with | rep r => exact r)
    · rw [cutV_cut]
      exact q.tup l hp (r1.cut lo hi)
  · cases e
    obtain ⟨a, vs, rfl, h1, r1⟩ := cx.lst' l
    refine sl_list pins s σ H _ v vl vu lo hi sl Q I rx hs pl pu ⟨a, vs, rfl, .inl h1, fun p hp => ?_⟩
    rw [cutV_cut]
    exact q.lst l hp (r1.cut lo hi)
end
end P2S
end

section
/-! P2Fn: a def's contract, with the guards of repr told. -/
set_option autoImplicit false
set_option Elab.async false
set_option linter.all false
set_option maxRecDepth 100000
set_option maxHeartbeats 1000000
namespace P2S
open PySem PySem.Spec PyProof.Rows L2
open L2H (RoomH)
open P2 (D DO DHp Exn Slot snap R SR Run Pg)

/-- room for k more calls; no guard stands; where c, no error is handled -/
structure Rm (k : Nat) (A : Around) : Prop where
  rh : RoomH k A
  gd : A.guards = some []
theorem Rm.mono {j k : Nat} {A : Around} (r : Rm k A) (h : j ≤ k) : Rm j A := ⟨r.rh.mono h, r.gd⟩
theorem Rm.deeper {k : Nat} {A : Around} (r : Rm (k + 1) A) (env : Env) : Rm k (A.deeper env) := ⟨r.rh.deeper env, r.gd⟩
theorem Rm.units {k : Nat} {A : Around} (r : Rm k A) : A.units + 64 < cLine := by
  have := r.rh.un
  omega
structure FnG (P : Program) (w : World) (K : PySem.W.Frag) (mg : Str → Option Value) (base : Heap) (CX : CXT) (k : Nat) (f : Addr) (fd : FuncData) (ps : List Str) (sp : Sp) : Prop where
  len : ∀ vs H Q E, sp vs H Q E → vs.length = ps.length
  run : ∀ (A : Around) (outer : List Env) (s : Shared) (H : Hp) (args : Args) (us : List Value) (vs : List V) (Q : VK) (E : XK), A.handled = none → Rm k A → Env0 P w K mg base A outer s H → BindsTo s fd args (ps.zip us) → Vals vs us → sp vs H Q E →
    codeAny (model P w) A (.call (.ref f) args) (CR CX outer P w H s Q E) s
theorem FnG.imp {P : Program} {w : World} {K : PySem.W.Frag} {mg : Str → Option Value} {base : Heap} {CX : CXT} {k : Nat} {f : Addr} {fd : FuncData} {ps : List Str} {sp sp' : Sp} (F : FnG P w K mg base CX k f fd ps sp)
    (h : ∀ vs H Q E, sp' vs H Q E → sp vs H Q E) : FnG P w K mg base CX k f fd ps sp' :=
  ⟨fun vs H Q E x => F.len vs H Q E (h _ _ _ _ x), fun A outer s H args us vs Q E hd hr e0 hb r x => F.run A outer s H args us vs Q E hd hr e0 hb r (h _ _ _ _ x)⟩
theorem FnG.mono {P : Program} {w : World} {K : PySem.W.Frag} {mg : Str → Option Value} {base : Heap} {CX : CXT} {j k : Nat} {f : Addr} {fd : FuncData} {ps : List Str} {sp : Sp} (F : FnG P w K mg base CX j f fd ps sp) (h : j ≤ k) :
    FnG P w K mg base CX k f fd ps sp := ⟨F.len, fun A outer s H args us vs Q E hd hr => F.run A outer s H args us vs Q E hd (hr.mono h)⟩
/-- a def keeps its contract where its body does -/
theorem fnG_of {CX : CXT} {P : Program} {w : World} {K : PySem.W.Frag} {mg : Str → Option Value} {base : Heap} {k : Nat} {f : Addr} {fd : FuncData} {name qual : Str} {params : Arguments} {body : List Stmt} {scope : Scope} {N ps : List Str} {sp : Sp} {dvs : List V} {kws : List (Str × V)}
    (F : FunD K name qual params body scope dvs kws f fd) (S : FnScope N ps scope) (len : ∀ vs H Q E, sp vs H Q E → vs.length = ps.length)
    (hbody : ∀ (cdv : Value) (A : Around) (outer : List Env) (s : Shared) (H : Hp) (vs : List V) (Q : VK) (E : XK), A.handled = none → Rm k (A.deeper (envOfC qual scope s.heap.objs.size f cdv)) → sp vs H Q E →
      ∃ t, PSs (cxOf CX P w K mg base N qual scope f cdv A outer s H E) body t ∧ t { nx := fun _ H' => Q .non H', rt := Q } (start N vs) H) : FnG P w K mg base CX (k + 1) f fd ps sp := by
  obtain ⟨oc, od, dV, kV, doc, pm, an, cdv, ct, osl, rfl, lk, hcd, _, _⟩ := F.ex
  refine ⟨len, fun A outer s H args us vs Q E hd hr e0 hb r hsp => ?_⟩
  have hl := len _ _ _ _ hsp
  have KX : K.In s.heap := e0.mod.kin.keeps fun b o e => (e0.bs b o e).1
  have lim : s.heap.NoLimit := e0.mod.nolimit.keeps fun b o e => (e0.bs b o e).1
  refine codeAny_call_function hr.rh.depth (KX _ _ lk) rfl S.co S.gen rfl (PySem.W.codeRec_of KX hcd) (hb _ _ _ _ ?_)
  refine wpAny_newFunctionEnv_cells S.kind (fun ⟨n, v⟩ hy => ?_) fun env he s1 x => ?_
  · rcases S.par n (List.of_mem_zip hy).1 with q | q
    · exact .inl q
    · exact .inr ⟨q, PySem.W.cellsFrom_some _ _ _ (.inl q)⟩
  · subst he
    refine ⟨lim.keeps x.toInCall.keep, codeAny_func ?_⟩
    obtain ⟨t, ht, hq⟩ := hbody cdv A outer s H vs Q E hd (hr.deeper _) hsp
    refine wpAny_mono (ht.run [] s1 (start N vs) H _ (inv_start S hd e0 hl r x) hq) (fun fl s' hs => ?_) fun e s' hs => hs
    cases fl with
    | ret u =>
      obtain ⟨v, σ', H', J, rv, q⟩ := hs
      exact ⟨v, H', J.os, J.bare, J.base, J.hok, rv, q⟩
    | next =>
      obtain ⟨σ', H', J, q⟩ := hs
      exact ⟨V.non, H', J.os, J.bare, J.base, J.hok, rfl, q⟩
    | brk => exact hs.elim fun _ z => z.elim fun _ z => z.2.elim
    | cont => exact hs.elim fun _ z => z.elim fun _ z => z.2.elim
section
variable {X : Cx} {CX : CXT} {k : Nat} {f C : Addr} {fd : FuncData} {ps : List Str} {sp : Sp} {E : L2.St → XK} {x : Str} {p pos : Pos} {es : List Expr} {t : TA}
theorem run_fnG {pins : List (Addr × Obj)} {σ : L2.St} {H : Hp} {s : Shared} {Q : VK} {us : List Value} {vs : List V} (F : FnG X.prog X.w X.K X.mg X.base CX k f fd ps sp) (hd : X.A.handled = none) (hr : Rm k X.A) (hb : Binds X.K fd ps []) (hx : PassesAt CX X σ (E σ))
    (I : Inv X pins σ H s) (r : Vals vs us) (h : sp vs H Q (E σ)) : wpAny (model X.prog X.w) X.A (call (.ref f) us) (EP X pins σ Q) X.xe s := by
  have hl : us.length = ps.length := by rw [← r.length]; exact F.len _ _ _ _ h
  have b := hb s us I.kIn (by rw [List.append_nil]; exact hl)
  rw [List.append_nil] at b
  refine wpAny_call (codeAny_mono (F.run X.A X.stack s H ⟨us, []⟩ us vs Q (E σ) hd hr I.env0 b r h) fun q s' hq => ?_)
  cases q with
  | error e => exact hx pins H s e s' I hq
  | ok fl =>
    cases fl with
    | ret u => exact I.after hq
    | _ => exact hq.elim
def tCallG (sp : Sp) (E : L2.St → XK) (t : TA) : TE := fun σ H Q => t σ H fun vs H1 => sp vs H1 Q (E σ)
theorem pe_callG {e : Expr} (F : FnG X.prog X.w X.K X.mg X.base CX k f fd ps sp) (hd : X.A.handled = none) (hr : Rm k X.A) (hg : Gl X x) (hm : X.mg x = some (.ref f)) (hk : PySem.W.keepIn X.K (.ref f) = true) (hb : Binds X.K fd ps []) (hx : ∀ σ, PassesAt CX X σ (E σ))
    (ha : PA X (e :: es) t) (hdb : (x == ("__debug__" : Str)) = false) (he : starEach (e :: es) X.env = (false, eval e X.env) :: starEach es X.env) (hpl : (backTo pos (starEach es X.env)).any (·.1) = false) :
    PE X (.Call (.Name x p) (e :: es) [] pos) (tCallG sp E t) := by
  refine ⟨fun pins s σ H Q I h => wpAny_Call_Name_kw (ld_glob I hg hm ?_ hdb)⟩
  exact PySem.W.callWith_K (h₀ := X.base) I.ok.mod.kin hk (thn (ha.run pos pins s σ H _ I h) fun us s1 ⟨vs, H1, I1, r, q⟩ => ⟨I1.kIn, run_fnG F hd hr hb (hx σ) I1 r q⟩) he hpl
end
end P2S
end

section
/-! P2Exc: an own error whose __init__ says super().__init__(its arguments) and stores each. -/
set_option autoImplicit false
set_option Elab.async false
set_option linter.all false
set_option maxRecDepth 100000
set_option maxHeartbeats 2000000
namespace P2X
open PySem PySem.W PySem.Calls PyProof.Rows PySem.HandSPX
/-! ### the text of __init__ -/
def isArgs : List Str → List Expr → Bool
  | [], es => es.isEmpty
  | f :: fs, es => match es with | .Name x _ :: es => decide (x = f) && isArgs fs es | _ => false
def isSets : List Str → List Stmt → Bool
  | [], ss => ss.isEmpty
  | f :: fs, ss => match ss with | .Assign [.Attribute (.Name s _) g _] (.Name x _) _ :: ss => decide (s = "self") && decide (g = f) && decide (x = f) && isSets fs ss | _ => false
def isInit (fs : List Str) : List Stmt → Bool
  | .Expr (.Call (.Attribute (.Call (.Name s _) [] [] _) i p2) args [] p3) _ :: ss => (p2.endLine == p3.line) && decide (s = "super") && decide (i = "__init__") && isArgs fs args && isSets fs ss
  | _ => false
def isSc (fs : List Str) (sc : Scope) : Bool :=
  (match sc.kind with | .function => true | _ => false) && !sc.isCoroutine && !sc.isGenerator && (sc.names.all fun x => decide (x.2 ≠ .cell)) && decide (sc.names.lookup ("self" : Str) = some .local) && (fs.all fun f => decide (sc.names.lookup f = some .local)) &&
    decide (sc.names.lookup ("super" : Str) = some .globalImplicit) && decide (sc.names.lookup ("__class__" : Str) = some .free)
def isPar (fs : List Str) (p : Arguments) : Bool :=
  p.posonlyargs.isEmpty && decide (p.args.map (·.arg) = ("self" : Str) :: fs) && p.vararg.isNone && p.kwonlyargs.isEmpty && p.kwarg.isNone && p.defaults.isEmpty
/-- the fields of a call by names, as __init__ takes them -/
inductive KwOk : List Str → List (Str × Value) → List Value → Prop
  | one (f : Str) (v : Value) : KwOk [f] [(f, v)] [v]
  | two (a b : Str) (x y : Value) : KwOk [a, b] [(a, x), (b, y)] [x, y]
  | owt (a b : Str) (x y : Value) : KwOk [a, b] [(b, y), (a, x)] [x, y]
/-- positions, or names -/
def ArgsOk (fs : List Str) (r : Value) (args : Args) (us : List Value) : Prop := args = ⟨r :: us, []⟩ ∨ ∃ kw, args = ⟨[r], kw⟩ ∧ KwOk fs kw us
structure InitTxt (prog : Program) (K : Frag) (C fI : Addr) (fs : List Str) : Prop where
  ex : ∃ (oc : Value) (od : Option Addr) (name qual : Str) (params : Arguments) (body : List Stmt) (scope : Scope) (dV kV doc pm : Value) (an : Option Addr) (cda : Addr) (ct : Value) (osl : Array (Option Value)) (cc : Addr) (ccl : Value) (cdd : Option Addr) (vs : Array Value) (ccs : Array (Option Value)) (file : Str) (tf : Tok) (cl : Value) (cld : Option Addr) (csl : Array (Option Value)),
    K.lookup fI = some ⟨oc, od, .func (ksFn name qual params body scope dV kV doc pm an (.ref cda) ct cc), osl⟩ ∧ codeIn K (.ref cda) qual = true ∧ isInit fs body = true ∧ isPar fs params = true ∧ isSc fs scope = true ∧
    (∀ (r : Value) (us : List Value) (args : Args), us.length = fs.length → ArgsOk fs r args us → bindArgs (ksFn name qual params body scope dV kV doc pm an (.ref cda) ct cc) args = pure (((("self" : Str) :: fs)).zip (r :: us))) ∧
    K.lookup cda = some ⟨ccl, cdd, .fields vs, ccs⟩ ∧ vs[2]? = some (.str file tf) ∧ ((prog.main.file : Str) == file) = true ∧ K.lookup cc = some ⟨cl, cld, .cell (some (.ref C)), csl⟩
/-- what the written part says of an error class at C with the fields fs -/
structure XTxt (prog : Program) (K : Frag) (C : Addr) (fs : List Str) : Prop where
  cls : ∃ nm q N bs bm sn sub ab col dd k0 k1 k2 k3 k5, K.lookup C = some (excClassObj nm q C N bs bm true sn sub ab col dd k0 k1 k2 k3 k5 "ValueError.__new__") ∧ refsVE bm = true ∧ alongIn K "__init__" bm = some (some (.builtin "ValueError.__init__"))
  sa : findIn K (.ref C) "__setattr__" = some (some (.builtin "object.__setattr__"))
  noN : ∀ f ∈ fs, findIn K (.ref C) f = some none
  kC : keepIn K (.ref C) = true
  exC : subIn K (.ref C) (.type "BaseException") = some true
  veC : subIn K (.ref C) (.type "ValueError") = some true
  tyC : typeIn K (.ref C) = some (.type "type")
  self : mroIn K C (.ref C) = some true
  opq : nsIn K cStatics "thirdparty.any" = some none
  top : (prog.main.scope.names.lookup ("super" : Str)).isSome = false
  nd : (("self" : Str) :: fs).Nodup
  dbg : ∀ f ∈ (("self" : Str) :: fs), (f == ("__debug__" : Str)) = false
  init : ∃ fI, findIn K (.ref C) "__init__" = some (some (.ref fI)) ∧ typeIn K (.ref fI) = some (.type "function") ∧ InitTxt prog K C fI fs
theorem lookup_nodup {l : List (Str × Value)} : ∀ {f : Str} {v : Value}, (l.map (·.1)).Nodup → (f, v) ∈ l → l.lookup f = some v := by
  induction l with
  | nil => intro f v _ h; cases h
  | cons p l ih =>
    intro f v hn h
    obtain ⟨g, w⟩ := p
    rw [List.map_cons, List.nodup_cons] at hn
    rcases List.mem_cons.mp h with e | h'
    · cases e; simp [List.lookup]
    · have hne : f ≠ g := fun e => hn.1 (List.mem_map.mpr ⟨(f, v), h', e⟩)
      have hb : (f == g) = false := by simpa using hne
      simp [List.lookup, hb, ih hn.2 h']
theorem rev_lookup {l : List (Str × Value)} {f : Str} {v : Value} (hn : (l.map (·.1)).Nodup) (h : (f, v) ∈ l) : l.reverse.lookup f = some v := by
  refine lookup_nodup ?_ (List.mem_reverse.mpr h)
  rw [List.map_reverse]
  exact List.pairwise_reverse.mpr (hn.imp fun h e => h e.symm)
section
variable {prog : Program} {w : World} {A : Around} {E : Value → Shared → Prop} {R : Result → Shared → Prop} {s : Shared} {K : Frag} {C fI : Addr} {fs : List Str}
/-- ValueError.__init__ called through the wrapper -/
theorem call_mw {h : Heap} {g : Array GenState} {d : Drawn} {t : Nat} {os : OsState} {nm q : Str} {N : Addr} {bs bm : List Value} {hdct : Bool} {sn : List Str} {sub : List Value} {ab : Bool} {col : Option Bool} {dd : Option Addr} {k0 k1 k2 k3 k5 : Option Value} {u e t0 : Addr} {rest : List Value} {Q : Value → Shared → Prop}
    (hC : h.get? C = some (excClassObj nm q C N bs bm hdct sn sub ab col dd k0 k1 k2 k3 k5 "ValueError.__new__")) (he : h.get? e = some (excO C t0)) (hu : h.get? u = some (kxs_mw "ValueError.__init__" e)) (hrest : rest.length ≤ sizeLine)
    (hq : ∀ h' t1, (∀ b o, b ≠ e → h.get? b = some o → h'.get? b = some o) → h'.get? e = some (excO C t1) → Q .none ⟨h', g, d, t, os⟩) :
    wpAny (model prog w) A (call (.ref u) rest) Q E ⟨h, g, d, t, os⟩ := by
  refine wpAny_call (codeAny_of_tree ?_)
  show wpAny _ A.in1 (callAny (.ref u) ⟨rest, []⟩) _ _ _
  simp only [callAny]
  refine wpAny_bind (wpAny_load hu ?_)
  simp only [kxs_mw, show (Value.type "method-wrapper" == Value.type "method" || Value.type "method-wrapper" == Value.type "builtin_function_or_method" || Value.type "method-wrapper" == Value.type "method-wrapper") = true by decide, if_true]
  refine KFB.if_so (by decide) ?_
  refine wpAny_bind (check_bound_init PySem.F.excBase_ValueError.toExcCallFacts hC he rfl ?_)
  refine wpAny_bind (wpAny_pure (wpAny_pure ?_))
  refine ⟨plainId_quiet PySem.F.excBase_ValueError.init.plain _, codeAny_builtin PySem.F.excBase_ValueError.initEntry ?_⟩
  exact exc_init_tree (cls := .ref C) (t0 := t0) (dv := none) (c2 := .none) (c3 := .none) (b4 := .bool false) he hrest fun h' k e' _ => hq h' _ k e'
/-- what __init__ leaves of the error at x -/
structure InitEnd (h h' : Heap) (x C dx t1 : Addr) (fs : List Str) (us : List Value) : Prop where
  keep : ∀ b o, b ≠ x → h.get? b = some o → h'.get? b = some o
  obj : h'.get? x = some { cls := .ref C, dict := some dx, data := .fields #[.ref t1, .none, .none, .none, .bool false, .none] }
  dbig : h.objs.size ≤ dx
  dne : dx ≠ x
  ns : ∃ mA, h'.Ns1 dx mA ∧ ∀ f, mA f = (fs.zip us).lookup f
theorem ldK {M : Model} {qual : Str} {scope : Scope} {L a : Addr} {cd : Value} {cc : Addr} {m : Str → Option Value} {y : Str} {pos : Pos} {v : Value} {Q : Value → Shared → Prop} (hk : scope.kind = .function) (hl : scope.names.lookup y = some .local) (hd : (y == ("__debug__" : Str)) = false) (hn : s.heap.Ns L m) (hv : m y = some v) (h : Q v s) :
    wpAny M A (eval (.Name y pos) (ksEnv qual scope L a cd cc)) Q E s := wpAny_Name (wpAny_loadName_local hk hl hn hv h) hd
/-- the arguments by their names -/
theorem args_ok {M : Model} {qual : Str} {scope : Scope} {L a : Addr} {cd : Value} {cc : Addr} {m : Str → Option Value} {pos : Pos} (hk : scope.kind = .function) (hn : s.heap.Ns L m) :
    ∀ {fs : List Str} {us : List Value} {args : List Expr} {Q : List Value → Shared → Prop}, isArgs fs args = true → fs.length = us.length → (∀ f ∈ fs, scope.names.lookup f = some .local ∧ (f == ("__debug__" : Str)) = false) → (∀ (i : Nat) f u, fs[i]? = some f → us[i]? = some u → m f = some u) → Q us s →
      wpAny M A (spliced (backTo pos (starEach args (ksEnv qual scope L a cd cc)))) Q E s
  | [], us, args, Q, h1, h2, _, _, q => by
    simp only [isArgs, List.isEmpty_iff] at h1
    subst h1
    cases us with
    | nil => exact args_nil q
    | cons _ _ => cases h2
  | f :: fs, us, args, Q, h1, h2, h3, h4, q => by
    simp only [isArgs] at h1
    split at h1
    · rename_i x p es
      simp only [Bool.and_eq_true, decide_eq_true_eq] at h1
      obtain ⟨rfl, h1⟩ := h1
      cases us with
      | nil => cases h2
      | cons u us =>
        have hf := h3 x (List.mem_cons_self ..)
        refine args_cons (ldK hk hf.1 hf.2 hn (h4 0 x u rfl rfl) ?_) rfl
        exact args_ok hk hn h1 (by simpa using h2) (fun g hg => h3 g (List.mem_cons_of_mem _ hg)) (fun i g v e1 e2 => h4 (i + 1) g v (by simpa using e1) (by simpa using e2)) q
    · cases h1
def ovr (l : List (Str × Value)) (m : Str → Option Value) : Str → Option Value := fun y => match l.lookup y with | some v => some v | none => m y
theorem ovr_step {f : Str} {v : Value} {l : List (Str × Value)} {m : Str → Option Value} (h : l.lookup f = none) : ovr l (fun y => if y = f then some v else m y) = ovr ((f, v) :: l) m := by
  funext y
  unfold ovr
  by_cases e : y = f
  · subst e
    rw [h]
    simp [List.lookup]
  · have hb : (y == f) = false := by simpa using e
    simp [List.lookup, hb, e]
theorem zip_none {f : Str} : ∀ {fs : List Str} {us : List Value}, f ∉ fs → (fs.zip us).lookup f = none
  | [], us, _ => by simp
  | g :: fs, [], _ => by simp
  | g :: fs, u :: us, h => by
    have h' : f ≠ g ∧ f ∉ fs := by simpa using h
    have hb : (f == g) = false := by simpa using h'.1
    simp [List.lookup, hb, zip_none h'.2]
/-- self.f = f, where a dict stands -/
theorem sets_ok {qual : Str} {scope : Scope} {L a : Addr} {cd : Value} {cc : Addr} {m : Str → Option Value} {cdt : ClassData} {x dx t1 : Addr} {Q : Flow → Shared → Prop} (hk : scope.kind = .function) (hcd : clsIn K C = some cdt) (hm : refsVE cdt.mro = true) (hh : cdt.hasDict = true)
    (sa : findIn K (.ref C) "__setattr__" = some (some (.builtin "object.__setattr__"))) (hself : scope.names.lookup ("self" : Str) = some .local) (mself : m "self" = some (.ref x)) (hKd : K.lookup dx = none) (hLd : L ≠ dx) :
    ∀ {fs : List Str} {us : List Value} {ss : List Stmt} {m0 : Str → Option Value} {nl : List Str} {s : Shared}, isSets fs ss = true → fs.length = us.length → fs.Nodup → (∀ f ∈ fs, scope.names.lookup f = some .local ∧ (f == ("__debug__" : Str)) = false ∧ findIn K (.ref C) f = some none) → (∀ (i : Nat) f u, fs[i]? = some f → us[i]? = some u → m f = some u) →
      K.In s.heap → s.heap.Ns L m → s.heap.get? x = some { cls := .ref C, dict := some dx, data := .fields #[.ref t1, .none, .none, .none, .bool false, .none] } → s.heap.Ns1 dx m0 → Within m0 nl → nl.length + fs.length ≤ 1000 → dx ≠ x →
      (∀ h' tk, (∀ b o, b ≠ dx → s.heap.get? b = some o → h'.get? b = some o) → h'.get? x = some { cls := .ref C, dict := some dx, data := .fields #[.ref t1, .none, .none, .none, .bool false, .none] } → h'.Ns1 dx (ovr (fs.zip us) m0) → Q .next { s with heap := h', toks := tk }) →
      wpAny (model prog w) A (execs ss (ksEnv qual scope L a cd cc)) Q E s
  | [], us, ss, m0, nl, s, h1, h2, _, _, _, KX, hn, hx, hns, hw, hz, hd, q => by
    simp only [isSets, List.isEmpty_iff] at h1
    subst h1
    refine wpAny_execs_nil (q s.heap s.toks (fun b o _ e => e) hx ?_)
    have : ovr (([] : List Str).zip us) m0 = m0 := by funext y; simp [ovr]
    rw [this]
    exact hns
  | f :: fs, us, ss, m0, nl, s, h1, h2, hnd, h3, h4, KX, hn, hx, hns, hw, hz, hd, q => by
    simp only [isSets] at h1
    split at h1
    · rename_i sn _ g _ y _ _ ss'
      simp only [Bool.and_eq_true, decide_eq_true_eq] at h1
      obtain ⟨⟨⟨rfl, rfl⟩, rfl⟩, h1⟩ := h1
      cases us with
      | nil => cases h2
      | cons u us =>
        obtain ⟨g1, g2, g3⟩ := h3 y (List.mem_cons_self ..)
        rw [List.nodup_cons] at hnd
        refine wpAny_execs_cons (plainObj_wpAny_Assign_Attribute ?_ rfl)
        refine ldK hk g1 g2 hn (h4 0 y u rfl rfl) (ldK hk hself (by decide) hn mself ?_)
        refine set_plain KX (ox := { cls := .ref C, dict := some dx, data := .fields #[.ref t1, .none, .none, .none, .bool false, .none] }) (od := (hns.count hw).choose) ⟨hx, rfl, rfl, (hns.count hw).choose_spec.choose_spec.choose_spec.1⟩ sa ?_
        refine PySem.OEX.osa_old KX hx hns hw (by simp at hz; omega) hcd hm hh g3 (fun h' tk' k hns' => ?_)
        have KX' : K.In h' := fun b o e => k b o (fun z => by rw [z, hKd] at e; cases e) (KX b o e)
        have hx' := k x _ (Ne.symm hd) hx
        show wpAny _ _ (execs _ _) _ _ _
        refine sets_ok hk hcd hm hh sa hself mself hKd hLd (m0 := fun z => if z = y then some u else m0 z) (nl := y :: nl) h1 (by simpa using h2) hnd.2 (fun g hg => h3 g (List.mem_cons_of_mem _ hg)) (fun i g v e1 e2 => h4 (i + 1) g v (by simpa using e1) (by simpa using e2)) KX' (hn.at fun o e => k L o hLd e) hx' hns' (Within.cons y u hw) (by simp at hz ⊢; omega) hd fun h2' tk2 k2 hx2 hns2 => ?_
        rw [ovr_step (zip_none hnd.1)] at hns2
        exact q h2' tk2 (fun b o hb e => k2 b o hb (k b o hb e)) hx2 hns2
    · cases h1
theorem evalArgs_list {f : Value} {env : Env} {pos : Pos} {fs : List Str} {args : List Expr} {Q : Args → Shared → Prop} (hs : isArgs fs args = true) (hne : fs ≠ []) (h : wpAny (model prog w) A (spliced (backTo pos (starEach args env))) (fun vs s' => Q ⟨vs, []⟩ s') E s) : wpAny (model prog w) A (evalArgs f true (backTo pos (starEach args env)) []) Q E s := by
  cases fs with
  | nil => exact (hne rfl).elim
  | cons g fs =>
    simp only [isArgs] at hs
    split at hs
    · exact Calls.evalArgs_plain h
    · cases hs
theorem isArgs_names : ∀ {fs : List Str} {args : List Expr}, isArgs fs args = true → fs ≠ [] → ∃ y p es, args = .Name y p :: es
  | [], _, _, h => (h rfl).elim
  | f :: fs, args, h, _ => by
    simp only [isArgs] at h
    split at h
    · exact ⟨_, _, _, rfl⟩
    · cases h
theorem star_names : ∀ {fs : List Str} {args : List Expr} {env : Env} {pos : Pos}, isArgs fs args = true → (backTo pos (starEach args env)).any (·.1) = false
  | [], args, env, pos, h => by
    simp only [isArgs, List.isEmpty_iff] at h
    subst h
    rfl
  | f :: fs, args, env, pos, h => by
    simp only [isArgs] at h
    split at h
    · simp only [Bool.and_eq_true] at h
      show (false || (backTo pos (starEach _ env)).any (·.1)) = false
      rw [star_names h.2]
      rfl
    · cases h
theorem isInit_is {fs : List Str} {body : List Stmt} (h : isInit fs body = true) : ∃ p0 p1 p2 p3 p4 args ss, body = .Expr (.Call (.Attribute (.Call (.Name ("super" : Str) p0) [] [] p1) ("__init__" : Str) p2) args [] p3) p4 :: ss ∧ (p2.endLine == p3.line) = true ∧ isArgs fs args = true ∧ isSets fs ss = true := by
  unfold isInit at h
  split at h
  · simp only [Bool.and_eq_true, decide_eq_true_eq] at h
    obtain ⟨⟨⟨⟨h0, rfl⟩, rfl⟩, h1⟩, h2⟩ := h
    exact ⟨_, _, _, _, _, _, _, rfl, h0, h1, h2⟩
  · cases h
theorem isPar_is {fs : List Str} {p : Arguments} (h : isPar fs p = true) : ∃ ar, (p.posonlyargs ++ p.args).head? = some ar ∧ ar.arg = ("self" : Str) := by
  simp only [isPar, Bool.and_eq_true, List.isEmpty_iff, decide_eq_true_eq] at h
  obtain ⟨⟨⟨⟨⟨h1, h2⟩, _⟩, _⟩, _⟩, _⟩ := h
  rw [h1]
  cases ha : p.args with
  | nil => rw [ha] at h2; cases h2
  | cons ar r =>
    rw [ha] at h2
    simp only [List.map_cons, List.cons.injEq] at h2
    exact ⟨ar, rfl, h2.1⟩
theorem args_shape {fs : List Str} {args : List Expr} (h : fs.length = 1 ∨ fs.length = 2) (ha : isArgs fs args = true) : (∃ y q, args = [.Name y q]) ∨ ∃ y q y2 q2, args = [.Name y q, .Name y2 q2] := by
  cases fs with
  | nil => simp at h
  | cons f fs =>
    simp only [isArgs] at ha
    split at ha
    · rename_i x p es
      simp only [Bool.and_eq_true] at ha
      have ha2 := ha.2
      cases fs with
      | nil =>
        simp only [isArgs, List.isEmpty_iff] at ha2
        subst ha2
        exact .inl ⟨_, _, rfl⟩
      | cons g fs =>
        simp only [isArgs] at ha2
        split at ha2
        · simp only [Bool.and_eq_true] at ha2
          have ha3 := ha2.2
          cases fs with
          | nil =>
            simp only [isArgs, List.isEmpty_iff] at ha3
            subst ha3
            exact .inr ⟨_, _, _, _, rfl⟩
          | cons _ _ => simp at h
        · cases ha2
    · cases ha
/-- the run of __init__ -/
theorem exc_init {mg mb : Str → Option Value} {x t0 : Addr} {us : List Value} {args : Args} (hA : ArgsOk fs (.ref x) args us) (T : XTxt prog K C fs) (hI : InitTxt prog K C fI fs) (hfs : fs.length = 1 ∨ fs.length = 2) (X : K.In s.heap) (hmg : s.heap.Ns mainGlobals mg) (hsup : mg "super" = none) (hmb : s.heap.Ns builtinsNs mb) (hbb : ∀ x : Str, x ≠ "__name__" → mb x = bootBuiltins x)
    (hlim : s.heap.NoLimit) (hx : s.heap.get? x = some (excO C t0)) (hnx : K.lookup x = none) (hroom : A.depth < recursionLimit) (hl : fs.length = us.length)
    (hq : ∀ h' tk dx t1, InitEnd s.heap h' x C dx t1 fs us → R (.ok (.ret .none)) { s with heap := h', toks := tk }) :
    codeAny (model prog w) A (.call (.ref fI) args) R s := by
  obtain ⟨oc, od, name, qual, params, body, scope, dV, kV, doc, pm, an, cda, ct, osl, cc, ccl, cdd, vs, ccs, file, tf, cl, cld, csl, ho, hcode, hbody, hpar, hsc, hbind, hcda, hvs, hfile, hcell⟩ := hI.ex
  obtain ⟨nm, q, N, bs, bm, sn, sub, ab, col, dd, k0, k1, k2, k3, k5, hC, hbm, hal⟩ := T.cls
  have hcl : clsIn K C = some { name := nm, bases := bs, mro := .ref C :: bm, ns := N, qualname := q, hasDict := true, slotNames := sn, subclasses := sub, abstract := ab, collection := col, hasDel := false } := by unfold clsIn; rw [hC] <;> rfl
  simp only [isSc, Bool.and_eq_true, Bool.not_eq_true', List.all_eq_true, decide_eq_true_eq] at hsc
  obtain ⟨⟨⟨⟨⟨⟨⟨s1, s2⟩, s3⟩, s4⟩, s5⟩, s6⟩, s7⟩, s8⟩ := hsc
  have hk : scope.kind = .function := by
    revert s1
    cases scope.kind <;> simp
  obtain ⟨p0, p1, p2, p3, p4, es, ss, rfl, hline, hargs, hsets⟩ := isInit_is hbody
  obtain ⟨ar, hpa, har⟩ := isPar_is hpar
  have hnd := T.nd
  have hmap : ((("self" : Str) :: fs).zip (Value.ref x :: us)).map (·.1) = ("self" : Str) :: fs := by
    rw [List.map_fst_zip]
    simp [hl]
  refine ks_codeAny_call_defAt (fd := ksFn name qual params _ scope dV kV doc pm an (.ref cda) ct cc) (binds := (("self" : Str) :: fs).zip (.ref x :: us)) hroom (X _ _ ho) rfl hlim (codeRec_of X hcode) rfl
    (BindsTo.of_eq (hbind _ us _ hl.symm hA)) (fun y hy => s4 y hy) (fun y hy => ?_) (fun h₁ hns hk₁ => ?_) s2 s3 hk
  · have h1 : y.1 ∈ (("self" : Str) :: fs) := by
      rw [← hmap]
      exact List.mem_map.mpr ⟨y, hy, rfl⟩
    rcases List.mem_cons.mp h1 with e | e
    · rw [e]; exact s5
    · exact s6 _ e
  · -- the body
    obtain ⟨hp, g, dr, tk, os⟩ := s
    have X₁ : K.In h₁ := X.keeps hk₁
    have hx₁ := hk₁ _ _ hx
    have hne0 : (((("self" : Str) :: fs).zip (Value.ref x :: us)).map (·.1)).Nodup := by rw [hmap]; exact hnd
    have mself : (fun y => ((("self" : Str) :: fs).zip (Value.ref x :: us)).reverse.lookup y) ("self" : Str) = some (.ref x) := rev_lookup hne0 (List.mem_cons_self ..)
    have mf : ∀ (i : Nat) f u, fs[i]? = some f → us[i]? = some u → (fun y => ((("self" : Str) :: fs).zip (Value.ref x :: us)).reverse.lookup y) f = some u := fun i f u e1 e2 =>
      rev_lookup hne0 (List.mem_cons_of_mem _ (List.mem_of_getElem? (List.getElem?_zip_eq_some.mpr ⟨e1, e2⟩ : (fs.zip us)[i]? = some (f, u))))
    generalize hm0 : (fun y => ((("self" : Str) :: fs).zip (Value.ref x :: us)).reverse.lookup y) = m at hns mself mf
    generalize htk : tk + ((("self" : Str) :: fs).zip (Value.ref x :: us)).length = tk1
    show _root_.PySem.wpAt _ (A.deeper (ksEnv qual scope hp.objs.size fI (.ref cda) cc)) (.func _ (ksEnv qual scope hp.objs.size fI (.ref cda) cc)) (execs _ (ksEnv qual scope hp.objs.size fI (.ref cda) cc)) _ _ ⟨h₁, g, dr, _, os⟩
    have hLx : hp.objs.size ≠ x := Nat.ne_of_gt (Heap.lt_size hx)
    obtain ⟨oD, hD1, hD2⟩ : ∃ oD, h₁.get? C = some oD ∧ oD.data = .cls { name := nm, bases := bs, mro := .ref C :: bm, ns := N, qualname := q, hasDict := true, slotNames := sn, subclasses := sub, abstract := ab, collection := col, hasDel := false } := ⟨_, X₁ _ _ hC, rfl⟩
    have hne : fs ≠ [] := fun e => by rw [e] at hfs; simp at hfs
    obtain ⟨pl, he⟩ : ∃ pl, eval (.Call (.Attribute (.Call (.Name ("super" : Str) p0) [] [] p1) ("__init__" : Str) p2) es [] p3) (ksEnv qual scope hp.objs.size fI (.ref cda) cc) = (do
        let ov ← attributeBase (.Call (.Name ("super" : Str) p0) [] [] p1) ("__init__" : Str) (ksEnv qual scope hp.objs.size fI (.ref cda) cc) (eval (.Call (.Name ("super" : Str) p0) [] [] p1) (ksEnv qual scope hp.objs.size fI (.ref cda) cc))
        standAt p2.atName
        let (f, first) ← holding [ov] (getMethod ov ("__init__" : Str) pl)
        callWith p3 f first (backTo p3 (starEach es (ksEnv qual scope hp.objs.size fI (.ref cda) cc))) []) := by
      clear hbody ho hbind hm0
      have hf : ∀ env : Env, methodCallForm (es.length + ([] : List Keyword).length) (backTo p3 (starEach es env)) (backToKw p3 (keywordEach [] env)) = true := by
        intro env
        rcases args_shape hfs hargs with ⟨y, q, rfl⟩ | ⟨y, q, y2, q2, rfl⟩ <;> rfl
      refine ⟨(do return (← importBound (.Call (.Name ("super" : Str) p0) [] [] p1) (ksEnv qual scope hp.objs.size fI (.ref cda) cc)).getD true), ?_⟩
      show (attributeBase _ _ _ _ >>= fun ov => standAt p2.atName >>= fun _ => methodCall _ _ _ _ _ ov (es.length + ([] : List Keyword).length) _ (backToKw p3 (keywordEach [] _))) = _
      unfold methodCall calleeOf methodCallPos
      simp only [hf, hline, Bool.not_true, Bool.false_or, if_true, pure_bind]
      rfl
    refine ks_wpAt_execs_cons (ks_wpAt_Expr_any (ks_wpAt_MethodCall (pl := pl) (he := he) (ks_wpAt_super_base (env := ksEnv qual scope hp.objs.size fI (.ref cda) cc) s7 s8 (by decide) rfl (X₁ _ _ ho) rfl hpa rfl (X₁ _ _ hcda) rfl hvs hfile T.top ?_)) ?_ rfl)
    · refine ks_loadName_global hk s7 (loadGlobal_builtin (env := ksEnv qual scope hp.objs.size fI (.ref cda) cc) (hmg.keeps hk₁) hsup (hmb.keeps hk₁) ((hbb _ (by decide +kernel)).trans (by decide +kernel)) ⟨rfl, ?_⟩)
      refine wpAny_loadName_free hk s8 rfl ⟨_, X₁ _ _ hcell, rfl⟩ ?_
      rw [har]
      refine wpAny_loadName_local hk s5 hns mself ?_
      refine ks_wpAny_isType_cls hD1 hD2 ⟨rfl, ?_⟩
      refine ks_wpAny_call_super hD1 hD2 hx₁ rfl (fun c e => by cases e) (looks_mroIn X₁ T.self) (fun h2 hso k2 => ?_)
      -- super() stands
      have X₂ : K.In h2 := X₁.keeps k2
      have hx₂ := k2 _ _ hx₁
      have I₂ : InstAt h2 x (excO C t0) C none := ⟨hx₂, rfl, rfl, trivial⟩
      have hxC : x ≠ C := fun e => by rw [e] at hnx; rw [hnx] at hC; cases hC
      refine kxs_getMethod kxs_ValueError (i := "ValueError.__init__") (B := "ValueError") (l₀ := .ref C :: bm) (l := bm) hso (looks_opaque X₂ T.opq) (fun A Q E s kp qq => wpAny_bind ((looks_clsIn X₂ hcl) A _ E s kp (wpAny_pure qq))) (PySem.ESX.drop_own C bm) X₂ hal (I₂.type.andThen (looks_subIn X₂ T.veC)) hxC (by decide) ?_
      have k3 : ∀ b o, h2.get? b = some o → (h2.push (kxs_mw "ValueError.__init__" x)).get? b = some o := fun b o e => Heap.get?_push_of_some _ e
      have hu : (h2.push (kxs_mw "ValueError.__init__" x)).get? h2.objs.size = some (kxs_mw "ValueError.__init__" x) := Heap.get?_push_at rfl rfl
      refine kxs_callWith (i := "ValueError.__init__") (x := x) (star_names hargs) (evalArgs_list hargs hne ?_)
      · refine args_ok (s := ⟨h2.push (kxs_mw "ValueError.__init__" x), g, dr, _, os⟩) hk ((hns.keeps k2).keeps k3) hargs hl (fun f hf => ⟨s6 f hf, T.dbg f (List.mem_cons_of_mem _ hf)⟩) mf ⟨hu, ?_⟩
        refine call_mw (X₂.keeps k3 _ _ hC) (k3 _ _ hx₂) hu (by show us.length ≤ sizeLine; rw [sizeLine_eq]; omega) fun h4 t1 k4 hx4 => ?_
        show _root_.PySem.wpAt _ _ _ (execs ss _) _ _ _
        refine wpAt_of_wpAny ?_
        -- the first store: no dict yet
        have K4 : ∀ b o, b ≠ x → hp.get? b = some o → h4.get? b = some o := fun b o hb e => k4 b o hb (k3 _ _ (k2 _ _ (hk₁ _ _ e)))
        have X₄ : K.In h4 := fun b o e => k4 b o (fun z => by rw [z, hnx] at e; cases e) (X₂.keeps k3 b o e)
        have hns4 : h4.Ns hp.objs.size m := ((hns.keeps k2).keeps k3).at fun o e => k4 _ o hLx e
        cases fs with
        | nil => exact (hne rfl).elim
        | cons f fs =>
          cases us with
          | nil => cases hl
          | cons u us =>
            simp only [isSets] at hsets
            split at hsets
            · rename_i sn' _ gn _ yn _ _ ss'
              simp only [Bool.and_eq_true, decide_eq_true_eq] at hsets
              obtain ⟨⟨⟨rfl, rfl⟩, rfl⟩, hsets⟩ := hsets
              refine wpAny_execs_cons (plainObj_wpAny_Assign_Attribute ?_ rfl)
              refine ldK hk (s6 yn (List.mem_cons_self ..)) (T.dbg yn (by simp)) hns4 (mf 0 yn u rfl rfl) (ldK hk s5 (by decide) hns4 mself ?_)
              refine set_plain X₄ (ox := excO C t1) (od := none) ⟨hx4, rfl, rfl, trivial⟩ T.sa ?_
              refine exc_osa X₄ hx4 hcl (show refsVE (.ref C :: bm) = true from hbm) rfl (T.noN yn (List.mem_cons_self ..)) (fun h5 tk5 dx k5 dn dne hx5 hn5 => ?_)
              have hsz : hp.objs.size < h4.objs.size := hns4.lt
              have dn' : h4.objs.size ≤ dx := dn
              have hLd : hp.objs.size ≠ dx := by omega
              have hKd : K.lookup dx = none := by
                cases e : K.lookup dx with
                | none => rfl
                | some o =>
                  have z : dx < h4.objs.size := Heap.lt_size (X₄ _ _ e)
                  omega
              have X₅ : K.In h5 := fun b o e => k5 b o (fun z => by rw [z, hnx] at e; cases e) (X₄ b o e)
              have hnd2 : (yn :: fs).Nodup := (List.nodup_cons.mp T.nd).2
              show wpAny _ _ (execs _ _) _ _ _
              refine sets_ok (m0 := fun z => if z = yn then some u else none) (nl := [yn]) hk hcl hbm rfl T.sa s5 mself hKd hLd hsets (by simpa using hl) (List.nodup_cons.mp hnd2).2 (fun g hg => ⟨s6 g (List.mem_cons_of_mem _ hg), T.dbg g (by simp [hg]), T.noN g (List.mem_cons_of_mem _ hg)⟩) (fun i g v e1 e2 => mf (i + 1) g v (by simpa using e1) (by simpa using e2)) X₅ (hns4.at fun o e => k5 _ o hLx e) hx5 hn5
                (fun y e => by
                  by_cases hy : y = yn
                  · simp [hy]
                  · simp [hy] at e) (by simp only [List.length_cons, List.length_nil] at hfs ⊢; omega) dne fun h6 tk6 k6 hx6 hn6 => ?_
              rw [ovr_step (zip_none (List.nodup_cons.mp hnd2).1)] at hn6
              refine hq h6 tk6 dx t1 ⟨fun b o hb e => k6 b o (fun z => by
                have z2 : b < hp.objs.size := Heap.lt_size e
                rw [z] at z2
                exact absurd z2 (Nat.not_lt.mpr (Nat.le_trans (Nat.le_of_lt hsz) dn'))) (k5 b o hb (K4 b o hb e)), hx6, by show hp.objs.size ≤ dx; omega, dne, _, hn6, fun y => ?_⟩
              unfold ovr
              rw [List.zip_cons_cons]
              cases List.lookup y ((yn, u) :: fs.zip us) <;> rfl
            · cases hsets
    · show (scope.kind == .module && _) = false
      rw [hk]
      rfl
end
end P2X
end

section
/-! P2Kw: an own error made by names. -/
set_option autoImplicit false
set_option Elab.async false
set_option linter.all false
set_option maxRecDepth 100000
set_option maxHeartbeats 4000000
namespace P2X
open PySem PySem.W PySem.Calls PyProof.Rows PySem.HandSPX
section
variable {M : Model} {A : Around} {E : Value → Shared → Prop} {h : Heap} {g : Array GenState} {d : Drawn} {t : Nat} {os : OsState}
variable {nm q : Str} {C N : Addr} {bs bm bmB : List Value} {hdct : Bool} {sn : List Str} {sub : List Value} {ab : Bool} {col : Option Bool} {dd : Option Addr} {k0 k1 k2 k3 k5 : Option Value} {B newId initId : String}
theorem check_new_kw (F : ExcBaseFacts B newId initId bmB) (hT : ∀ X : String, bm.contains (.type X) = bmB.contains (.type X)) {rest : List Value} {kw : List (Str × Value)} {Q : Unit → Shared → Prop}
    (hC : h.get? C = some (excClassObj nm q C N bs bm hdct sn sub ab col dd k0 k1 k2 k3 k5 newId)) (hq : Q () ⟨h, g, d, t, os⟩) : wpAny M A (checkBuiltinCall newId ⟨.ref C :: rest, kw⟩) Q E ⟨h, g, d, t, os⟩ := by
  have hcont : (Value.ref C :: bm).contains (.type B) = true := by rw [List.contains_cons, hT, F.hasB, Bool.or_true]
  have hstar := F.noStar
  simp only [checkBuiltinCall, F.newKind, F.newSplit, F.newRow]
  repeat (first | refine wpAny_loadPart_at hC ?_ | (refine wpAny_isSubtype_exc hC ?_; rw [hcont]) | refine wpAny_staticBase_exc hC ?_ | refine wpAny_madeBy_exc hC ?_ | simp only [bne_self_eq_false, Bool.false_eq_true, if_false] | wp_step)
  exact hq
end
section
variable {prog : Program} {w : World} {A : Around} {E : Value → Shared → Prop} {R : Result → Shared → Prop} {h : Heap} {g : Array GenState} {d : Drawn} {t : Nat} {os : OsState}
variable {nm q : Str} {C N : Addr} {bs bm bmB : List Value} {hdct : Bool} {sn : List Str} {sub : List Value} {ab : Bool} {col : Option Bool} {dd : Option Addr} {k0 k1 k2 k3 k5 : Option Value} {B newId initId : String}
theorem new_kw (F : ExcBaseFacts B newId initId bmB) (hT : ∀ X : String, bm.contains (.type X) = bmB.contains (.type X)) {rest : List Value} {kw : List (Str × Value)}
    (hC : h.get? C = some (excClassObj nm q C N bs bm hdct sn sub ab col dd k0 k1 k2 k3 k5 newId))
    (hq : R (.ok (.ret (.ref (h.objs.size + 1)))) ⟨(h.push { cls := .type "tuple", data := .seq rest.toArray }).push
      { cls := .ref C, data := .fields #[.ref h.objs.size, .none, .none, .none, .bool false, .none] }, g, d, t, os⟩) (hrest : rest.length ≤ sizeLine) :
    codeAny (model prog w) A (.builtin newId ⟨.ref C :: rest, kw⟩) R ⟨h, g, d, t, os⟩ := by
  have hends := F.ends
  have hcB : (Value.ref C :: bm).contains (.type B) = true := by rw [List.contains_cons, hT, F.hasB, Bool.or_true]
  have hcA : (Value.ref C :: bm).contains (.type "AttributeError") = false := by rw [List.contains_cons, hT, F.noAttr]; rfl
  have hcN : (Value.ref C :: bm).contains (.type "NameError") = false := by rw [List.contains_cons, hT, F.noName]; rfl
  refine codeAny_builtinAt F.entry ?_
  unfold Builtin.«BaseException.__new__»
  refine PySem.wpAt_bind ?_
  show PySem.wpAt _ _ _ (stack >>= _) _ _ _
  refine PySem.wpAt_bind (PySem.wpAt_stack fun p below => PySem.wpAt_of_wpAny ?_)
  wp_walk
  refine PySem.wpAt_of_wpAny ?_
  rw [F.owner]
  repeat (first | with_reducible refine wpAny_madeHere_exc F.canon hC ?_ | with_reducible refine wpAny_loadPart_at hC ?_ | (with_reducible refine wpAny_isSubtype_exc hC ?_; first | rw [hcB] | rw [hcA] | rw [hcN]) | wp_step)
  show R _ _
  rw [Heap.size_push]
  exact hq
theorem type_call_kw (F : ExcBaseFacts B newId initId bmB) (hT : ∀ X : String, bm.contains (.type X) = bmB.contains (.type X)) {rest : List Value} {kw : List (Str × Value)} {fI : Addr} {Q : Fin → Shared → Prop}
    (hC : h.get? C = some (excClassObj nm q C N bs bm hdct sn sub ab col dd k0 k1 k2 k3 k5 newId))
    (hi : W.Looks (model prog w) h (typeLookup (.ref C) "__init__") (some (.ref fI))) (hb : ∀ self, W.Looks (model prog w) h (bindSpecial (.ref fI) self) (.ref fI, [self])) (hrest : rest.length ≤ sizeLine)
    (hq : codeAny (model prog w) A (.call (.ref fI) ⟨.ref (h.objs.size + 1) :: rest, kw⟩)
      (fun r s' => match r with | .ok (.ret v) => v = .none ∧ Q (.done (.ret (.ref (h.objs.size + 1)))) s' | .ok _ => False | .error e => E e s')
      ⟨(h.push (W.kdv_tup rest)).push (excO C h.objs.size), g, d, t, os⟩) :
    wpAny (model prog w) A (Builtin.«type.__call__» ⟨.ref C :: rest, kw⟩) Q E ⟨h, g, d, t, os⟩ := by
  repeat (first | with_reducible refine wpAny_loadPart_at hC ?_ | with_reducible refine wpAny_madeBy_exc hC ?_ | wp_step)
  refine codeAny_call_builtin_code (Code.quiet_builtin _ F.quiet) (check_new_kw F hT hC ?_)
  refine new_kw F hT hC ?_ hrest
  show wpAny _ _ _ _ _ _
  have k : ∀ b o, h.get? b = some o → ((h.push (W.kdv_tup rest)).push (excO C h.objs.size)).get? b = some o := fun b o e => Heap.get?_push_of_some _ (Heap.get?_push_of_some _ e)
  have hC₁ := k _ _ hC
  have hget : ((h.push (W.kdv_tup rest)).push (excO C h.objs.size)).get? (h.objs.size + 1) = some (excO C h.objs.size) := by heap_get
  have hcC : (Value.ref C :: bm).contains (.ref C) = true := by simp
  have i1 := hi.keeps k
  have b1 := (hb (.ref (h.objs.size + 1))).keeps k
  unfold isInstance
  repeat (first | with_reducible refine wpAny_loadPart_at hget ?_ | (with_reducible refine wpAny_isSubtype_exc hC₁ ?_; rw [hcC]) | wp_step)
  show wpAny _ _ (typeLookup (.ref C) _) _ _ _
  refine i1.at ?_
  refine wpAny_holding (wpAny_bind (b1.at ?_))
  refine wpAny_bind (wpAny_call (codeAny_mono hq fun r s' z => ?_))
  rcases r with e | (v | _ | _ | _) <;> first | exact z | exact z.elim | skip
  obtain ⟨rfl, z⟩ := z
  first
    | exact wpAny_pure (wpAny_pure z)
    | (wp_walk; exact z)
theorem call_kw (F : ExcBaseFacts B newId initId bmB) (hT : ∀ X : String, bm.contains (.type X) = bmB.contains (.type X)) {rest : List Value} {kw : List (Str × Value)} {fI : Addr}
    (hC : h.get? C = some (excClassObj nm q C N bs bm hdct sn sub ab col dd k0 k1 k2 k3 k5 newId))
    (hi : W.Looks (model prog w) h (typeLookup (.ref C) "__init__") (some (.ref fI))) (hb : ∀ self, W.Looks (model prog w) h (bindSpecial (.ref fI) self) (.ref fI, [self])) (hrest : rest.length ≤ sizeLine)
    (hq : codeAny (model prog w) (A.under (.builtin "type.__call__" ⟨.ref C :: rest, kw⟩)) (.call (.ref fI) ⟨.ref (h.objs.size + 1) :: rest, kw⟩) (W.InitBack (h.objs.size + 1) R)
      ⟨(h.push (W.kdv_tup rest)).push (excO C h.objs.size), g, d, t, os⟩) :
    codeAny (model prog w) A (.call (.ref C) ⟨rest, kw⟩) R ⟨h, g, d, t, os⟩ := by
  have f1 := tc_lookup
  have f2 := tc_bind (.ref C)
  have hTy : (⟨h, g, d, t, os⟩ : Shared).TypeIs (.ref C) "type" := ⟨_, hC, rfl⟩
  refine codeAny_of_tree ?_
  show wpAny _ _ (callAny (.ref C) _) _ _ _
  repeat (any_goals (first | assumption | with_reducible refine wpAny_loadPart_at hC ?_ | wp_step))
  refine ⟨rfl, ?_⟩
  refine codeAny_call_builtin_at (Code.quiet_builtin _ (by decide +kernel)) entry_typeCall (wpAny_check_type_call_sub hC (type_call_kw F hT hC hi hb hrest ?_))
  refine codeAny_mono hq fun r s' z => ?_
  rcases r with e | (v | _ | _ | _) <;> exact z
end
end P2X
namespace P2X
open PySem PySem.Spec PySem.Calls PyProof.Rows L2
theorem relO_zipX : ∀ {fs : List Str} {vs : List V} {us : List Value}, Vals vs us → vs.length = fs.length → ∀ f, RelO ((fs.zip vs).lookup f) ((fs.zip us).lookup f)
  | [], _, _, _, _, f => trivial
  | g :: fs, _, _, .nil, h, f => by simp at h
  | g :: fs, _, _, .cons (a := v) (b := u) r rs, h, f => by
    simp only [List.zip_cons_cons, List.lookup_cons]
    cases (f == g) with
    | true => exact r
    | false => exact relO_zipX rs (by simpa using h) f
/-- C(f = e, ..).g: an error made by names, one of its fields -/
theorem pe_xnew {X : Cx} {C : Addr} {fs ks : List Str} {x g : Str} {kws : List Keyword} {tk : TA} {p pos apos : Pos} (T : XTxt X.prog X.K C fs) (XF : XfC X.K C) (hgf : g ∈ fs) (hfs : fs.length = 1 ∨ fs.length = 2) (hsup : X.mg "super" = none) (hdp : X.A.depth + 2 < recursionLimit) (hm : X.mg x = some (.ref C)) (hg : Gl X x) (hdb : (x == ("__debug__" : Str)) = false) (hkw : PK X kws tk)
    (hall : (backToKw pos (keywordEach kws X.env)).all (·.1.isSome) = true) (hks : (backToKw pos (keywordEach kws X.env)).filterMap (·.1) = ks) (hpl : ((backTo pos (starEach [] X.env)).any (·.1) || (backToKw pos (keywordEach kws X.env)).any (·.1.isNone)) = false)
    (hperm : ∀ ws : List Value, ws.length = ks.length → ∃ us, KwOk fs (ks.zip ws) us ∧ us.length = fs.length ∧ ∀ f, (fs.zip us).lookup f = (ks.zip ws).lookup f) (hb : attributeBase (.Call (.Name x p) [] kws pos) g X.env (eval (.Call (.Name x p) [] kws pos) X.env) = eval (.Call (.Name x p) [] kws pos) X.env) :
    PE X (.Attribute (.Call (.Name x p) [] kws pos) g apos) (fun σ H Q => tk σ H fun zs H1 => zs.length = ks.length ∧ ∃ v, (ks.zip zs).lookup g = some v ∧ Q v H1) := by
  refine ⟨fun pins s σ H Q I h => attr_of hb (wpAny_Call_Name_kw (ld_glob I hg hm ?_ hdb))⟩
  refine PySem.W.callWith_KW0 (h₀ := X.base) I.ok.mod.kin T.kC hall ?_ hpl
  refine thn (hkw.run pos pins s σ H _ I h) fun ws s1 ⟨zs, H1, I1, rz, hl, v, hv, q⟩ => ⟨I1.kIn, ?_⟩
  rw [hks]
  show wpAny _ _ (call (.ref C) [] (ks.zip ws)) _ _ _
  obtain ⟨us, hKw, hul, hlk⟩ := hperm ws (by rw [← rz.length]; exact hl)
  obtain ⟨nm, q', N, bs, bm, sn, sub, ab, col, dd, k0, k1, k2, k3, k5, hC, hbm, hal⟩ := T.cls
  obtain ⟨fI, hi, hf, hI⟩ := T.init
  have X1 := I1.kIn
  have hlim := I1.nolimit
  obtain ⟨mb, hmb, hbb⟩ := I1.mod.blt
  have hmb1 : s1.heap.Ns builtinsNs mb := hmb.keeps I1.bk
  have hmg1 : s1.heap.Ns mainGlobals X.mg := I1.mod.glob.keeps I1.bk
  obtain ⟨hp, gn, dr, tok, os⟩ := s1
  have kp : ∀ b o, hp.get? b = some o → ((hp.push (PySem.W.kdv_tup [])).push (PySem.HandSPX.excO C hp.objs.size)).get? b = some o := fun b o e => Heap.get?_push_of_some _ (Heap.get?_push_of_some _ e)
  have hget : ((hp.push (PySem.W.kdv_tup [])).push (PySem.HandSPX.excO C hp.objs.size)).get? (hp.objs.size + 1) = some (PySem.HandSPX.excO C hp.objs.size) := by heap_get
  have hnx : X.K.lookup (hp.objs.size + 1) = none := by
    cases z : X.K.lookup (hp.objs.size + 1) with
    | none => rfl
    | some o => exact absurd (Nat.lt_of_succ_lt (Heap.lt_size (X1 _ _ z))) (Nat.lt_irrefl _)
  refine wpAny_call (call_kw PySem.F.excBase_ValueError (fun Y => PySem.HandSPX.refsVE_contains Y bm hbm) (X1 _ _ hC) (PySem.W.looks_findIn X1 hi) (fun self => PySem.W.bind_fn X1 self hf) (Nat.zero_le _) ?_)
  refine exc_init (hA := .inr ⟨_, rfl, hKw⟩) (s := ⟨(hp.push (PySem.W.kdv_tup [])).push (PySem.HandSPX.excO C hp.objs.size), gn, dr, tok, os⟩) T hI hfs (X1.keeps kp) (hmg1.keeps kp) hsup (hmb1.keeps kp) hbb (hlim.keeps kp) hget hnx (by show X.A.depth + 1 < recursionLimit; omega) hul.symm fun h' tk' dx t1 M => ?_
  refine ⟨rfl, ?_⟩
  have old : ∀ b o, hp.get? b = some o → h'.get? b = some o := fun b o z => M.keep b o (Nat.ne_of_lt (Nat.lt_succ_of_lt (Heap.lt_size z))) (kp b o z)
  have I2 : Inv X pins σ H1 ⟨h', gn, dr, tk', os⟩ := I1.kept (t' := tk') old
  obtain ⟨mA, hns, hmA⟩ := M.ns
  obtain ⟨od, ho, hlo⟩ := lookIn_ns ⟨_, hns.choose_spec.choose, hns.choose_spec.choose_spec.choose, hns.choose_spec.choose_spec.choose_spec⟩
  have hu : RelO ((ks.zip zs).lookup g) ((ks.zip ws).lookup g) := relO_zipX rz hl g
  obtain ⟨u, hu1, ru⟩ := RelO.some_of (v := v) (o := (ks.zip ws).lookup g) (by rw [← hv]; exact hu)
  have J : PySem.W.InstAt h' (hp.objs.size + 1) _ C (some od) := ⟨M.obj, rfl, rfl, ho⟩
  exact HandSPX.exc_get I2.kIn J XF.ga XF.gg XF.exC (PySem.W.findObj_own XF.hdC (T.noN g hgf) rfl (by rw [hlo, hmA, hlk, hu1])) (handed_of ru) ⟨v, H1, I2.tok _, ru, q⟩
end P2X
end

section
/-! P2Xi: isinstance of a caught error that has a dict. -/
set_option autoImplicit false
set_option Elab.async false
set_option linter.all false
set_option maxRecDepth 100000
set_option maxHeartbeats 4000000
namespace P2X
open PySem PySem.Spec PySem.W PySem.Calls PyProof.Rows L2
section
variable {prog : Program} {w : World} {A : Around} {E : Value → Shared → Prop} {s : Shared} {K : Frag} {x D : Addr} {ox : Obj} {od : Option Obj}
theorem findObj_data {C : Addr} {name : Str} {a g : Value} (hc : (clsIn K C).isSome = true) (ha : findIn K (.ref C) name = some (some a)) (hg : specialIn K a "__get__" = some (some g)) (ht : takesIn K a = some true) : findObj K C od name = some (.bind g a) := by
  obtain ⟨cd, hc⟩ := Option.isSome_iff_exists.mp hc
  unfold findObj
  rw [hc, Option.bind_some, ha, Option.bind_some]
  simp [hg, ht]
theorem kin_classX (T : ExcC K D) {Q : Option Value → Shared → Prop}
    (X : K.In s.heap) (I : InstAt s.heap x ox D od) (h : Q (some (.ref D)) { s with toks := s.toks + 1 }) : wpAny (model prog w) A (getAttr? (.ref x) "__class__") Q E s := by
  have hf : findObj K D od "__class__" = some (.bind (.builtin "getset_descriptor.__get__") (.builtin "object.__class__")) := findObj_data (by obtain ⟨cd, hc, _⟩ := any_some T.hd; rw [hc]; rfl) T.ha T.hn T.ht
  obtain ⟨hp, g, d, t, os⟩ := s
  have L0 := I.type (M := model prog w)
  have L1 := looks_findIn (M := model prog w) X T.hg
  have L2 := looks_findIn (M := model prog w) X T.hk
  have L3 := looks_find (M := model prog w) X I hf
  have sub : Looks (model prog w) hp (isInstance (.ref x) (.type "BaseException")) true := L0.andThen (looks_subIn X T.hs)
  have hx0 : (false && onTheHeap (Value.builtin "BaseException.__getattribute__")) = false := rfl
  have hx2 : (Value.builtin "BaseException.__getattribute__" == Value.builtin "object.__getattribute__") = false := by decide +kernel
  have hx1 : (onTheHeap (Value.ref D) && Value.builtin "BaseException.__getattribute__" == Value.builtin "object.__getattribute__") = false := by rw [hx2]; rfl
  unfold getAttr? getAttrBy? getAttrBy
  refine wpAny_bind (wpAny_mkText (wpAny_bind (wpAny_attempt (wpAny_holding (wpAny_bind (L0.at (wpAny_bind (L1.at ?_))))))))
  show wpAny _ _ (if (onTheHeap (Value.ref D) && Value.builtin "BaseException.__getattribute__" == Value.builtin "object.__getattribute__") = true then _ else _) _ _ _
  rw [hx1, if_neg Bool.false_ne_true]
  unfold getAttrByItsOwn hookBefore
  refine wpAny_bind ?_
  rw [if_pos (show onTheHeap (Value.ref D) = true from rfl)]
  refine L2.at ?_
  refine wpAny_bind (wpAny_attempt (wpAny_holding ?_))
  unfold callGetattribute
  rw [hx0, if_neg Bool.false_ne_true]
  unfold boundAndCalled
  rw [PySem.F.excAttr_ValueError.ga.bind (.ref x)]
  refine wpAny_bind (wpAny_pure ?_)
  show wpAny _ _ (call (.builtin "BaseException.__getattribute__") [.ref x, .str "__class__" t]) _ _ _
  refine wpAny_call (codeAny_call_builtin PySem.F.excAttr_ValueError.ga.plain PySem.F.entry_bexc_ga ?_)
  refine @check_slot (model prog w) _ _ ⟨hp, g, d, t + 1, os⟩ "BaseException.__getattribute__" "BaseException" "__getattribute__" (.ref x) [.str "__class__" t] [] _ (by decide +kernel) (by decide +kernel) sub (PySem.F.args_bexc_ga (.ref x) (.str "__class__" t)) ?_
  unfold Builtin.«object.__getattribute__»
  refine wpAny_bind (wpAny_of_eq (a := ((Value.ref x : Value), [Value.str "__class__" t])) (by first | rfl | (simp only [slotArgs]; rfl)) ?_)
  refine wpAny_bind (wpAny_pure (wpAny_bind (L0.at (wpAny_bind (L3.at ?_)))))
  show wpAny _ _ (holding [Value.builtin "object.__class__"] (call (.builtin "getset_descriptor.__get__") [.builtin "object.__class__", .ref x, .ref D]) >>= ret) _ _ _
  refine wpAny_bind (wpAny_holding (wpAny_call (class_get (s := ⟨hp, g, d, t + 1, os⟩) (ox := ox) (od := od) X I T.hm ?_)))
  refine wpAny_pure ?_
  show wpAny _ _ (handedOut (.ref D)) _ _ _
  rw [handedOut_of (v := .ref D) rfl]
  first
    | exact wpAny_pure (wpAny_pure h)
    | exact wpAny_pure h
    | exact wpAny_pure (wpAny_bind (wpAny_pure (wpAny_pure h)))
theorem kitx_x (T : ExcC K D) : KitX K (.ref x) (.ref D) (fun h => ∃ ox od, InstAt h x ox D od) where
  ty := fun _ _ _ ⟨_, _, I⟩ => I.type
  it := fun _ _ X _ => by
    obtain ⟨cdD, hcD, _⟩ := any_some T.hd
    unfold clsIn at hcD
    split at hcD
    · rename_i c' d' cd' sl' ho
      intro A' Q' E' s' k q
      unfold isType loadHead
      exact wpAny_bind (wpAny_loadPart (k _ _ (X _ _ ho)) (wpAny_pure q))
    · cases hcD
  ne := fun h tp dd its n sl X htp => by
    obtain ⟨cdD, hcD, _⟩ := any_some T.hd
    refine Bool.eq_false_iff.mpr fun q => ?_
    have e : D = tp := Value.ref.inj (beq_iff_eq.mp q)
    subst e
    unfold clsIn at hcD
    split at hcD
    · rename_i c' d' cd' sl' ho
      have z := (X _ _ ho).symm.trans htp
      cases z
    · cases hcD
  ca := fun X ⟨_, _, I⟩ k => kin_classX T X I k
end
/-- isinstance(e, c), e the error that the suite holds; d its dict -/
def rIsX (K : Frag) (D a : Addr) (d : Option Addr) : List V → Hp → VK → Prop := fun xs H Q => ∃ (c : V) (cv : Value) (b : Bool), xs = [.ref a, c] ∧ (∀ u, RelV c u → u = cv) ∧ kitOne K (.ref D) cv = some b ∧ (d = none ∨ ∃ dd gs, d = some dd ∧ H dd = some (.xd gs)) ∧ Q (.bl b) H
theorem call_isX {X : Cx} {a D : Addr} {oe : Obj} {d : Option Addr} {pn : List (Addr × Obj)} (C : ExcC X.K D) (hz : Zc (.ref D) d oe) (hf : ∃ vs, oe.data = .fields vs) : CallR (X.suite a ((a, oe) :: pn)) (.builtin "isinstance") (rIsX X.K D a d) := by
  intro pins s σ H xs us Q I r h
  obtain ⟨c, cv, b, rfl, hcv, e, hd, q⟩ := h
  cases r with
  | cons rx rr =>
    cases rr with
    | cons rt rr =>
      cases rr
      cases rx
      have ec := hcv _ rt
      subst ec
      obtain ⟨hget, _⟩ := I.pin (a, oe) (List.mem_append.mpr (.inl List.mem_cons_self))
      obtain ⟨vs, hv⟩ := hf
      have J : ∃ ox od, InstAt s.heap a ox D od := by
        obtain ⟨oc, od, oda, osl⟩ := oe
        obtain ⟨h1, h2⟩ := hz
        dsimp only at h1 h2 hv
        subst h1 h2 hv
        rcases hd with rfl | ⟨dd, gs, rfl, hx⟩
        · exact ⟨_, none, hget, rfl, rfl, trivial⟩
        · obtain ⟨mA, hns, _⟩ := (show ObjOk X.prog X.w H s.heap dd (.xd gs) from I.hok dd _ hx)
          obtain ⟨od, ho, _⟩ := lookIn_ns hns
          exact ⟨_, some od, hget, rfl, rfl, ho⟩
      exact kia_one (kitx_x C) I.kIn J e (fun z => nomatch z) fun tk => ⟨.bl b, H, I.kept (t' := tk) fun _ _ z => z, rfl, q⟩
end P2X
end

section
/-! P2Ev: what a P2 run says as a reading of the hand layer. -/
set_option autoImplicit false
set_option Elab.async false
set_option linter.all false
set_option maxRecDepth 100000
set_option maxHeartbeats 1000000
namespace P2S
open PySem PySem.Spec L2
open P2 (D DO DHp Exn Slot snap R SR Run Pg Xe Xes Xo Xi Xt Xs Xss Xh Fn)

/-! ### the judgement -/
/-- an error as it flies -/
def ExOk (C : Cfg) (W : GW) (H : Hp) (cls : Value) (dd : Option Addr) (x : Exn) : Prop := x.c < C.ne ∧ cls = .ref (C.exc x.c) ∧ ExF C W H dd x.fs
/-- what an error must meet where it leaves; the error that is handled -/
structure Wq where
  w : WX
  xq : Option (Addr × Value × Option Addr)
abbrev Rl (α β : Type) := List Slot → St → GW → β → α → Prop
section
variable (C : Cfg) (Wx : Wq)
def Po {α β : Type} (rel : Rl α β) (B : Bs) (L : List Slot) (σ : St) (W : GW) (m : R α) (Q : β → Hp → Prop) : Prop :=
  match m with
  | .ok a h' => ∀ W' H' b, W.le W' → HR C B W' L h' σ H' → rel L σ W' b a → Q b H'
  | .ex x h' => ∀ W' H' cls dd, W.le W' → HR C B W' L h' σ H' → ExOk C W' H' cls dd x → Wx.w cls dd σ H'
  | .stk => False
def tG {α β : Type} (rel : Rl α β) (m : List Slot → DHp → R α) : St → Hp → (β → Hp → Prop) → Prop := fun σ H Q => ∃ (B : {B : Bs // B.exc = Wx.xq}) (W : GW) (L : List Slot) (h : DHp), HR C B.1 W L h σ H ∧ Po C Wx rel B.1 L σ W (m L h) Q
def rE : Rl D V := fun _ _ W v d => Rep C W.F W.ρ v d
def rA : Rl D V := fun L σ W v d => Rep C W.F W.ρ v d ∨ ∃ i o, d = .own i ∧ L[i]? = some (.own o) ∧ σ[i]? = some (some v)
def rEs : Rl (List D) (List V) := fun _ _ W vs ds => Reps C W.F W.ρ vs ds
inductive rAs (L : List Slot) (σ : St) (W : GW) : List V → List D → Prop
  | nil : rAs L σ W [] []
  | cons {v d vs ds} : rA C L σ W v d → rAs L σ W vs ds → rAs L σ W (v :: vs) (d :: ds)
abbrev tE (m : List Slot → DHp → R D) : TE := tG C Wx (rE C) m
abbrev tA (m : List Slot → DHp → R D) : TE := tG C Wx (rA C) m
abbrev tEs (m : List Slot → DHp → R (List D)) : TA := tG C Wx (rEs C) m
abbrev tAs (m : List Slot → DHp → R (List D)) : TA := tG C Wx (rAs C) m
end
def tT (t : TE) : TT := fun σ H Q => t σ H fun v H' => ∃ k, v = .bl k ∧ Q k H'
section
variable {C : Cfg} {Wx : Wq} {α β γ δ : Type} {rel : Rl α β} {rel2 : Rl γ δ} {B : Bs} {L : List Slot} {σ : St} {W W1 : GW} {h : DHp} {H : Hp}
theorem Po.le {m : R α} {Q : β → Hp → Prop} (l : W.le W1) (p : Po C Wx rel B L σ W m Q) : Po C Wx rel B L σ W1 m Q := by
  cases m with
  | ok a h' => exact fun W' H' b l' => p W' H' b (l.trans l')
  | ex x h' => exact fun W' H' cls dd l' => p W' H' cls dd (l.trans l')
  | stk => exact p
/-- behind a first part -/
theorem Po.run {m : R α} {f : α → DHp → R γ} {Q : δ → Hp → Prop} {Q' : β → Hp → Prop} (p : Po C Wx rel2 B L σ W (R.bind m f) Q)
    (k : ∀ b H1 a h1 W1, m = .ok a h1 → W.le W1 → HR C B W1 L h1 σ H1 → rel L σ W1 b a → Po C Wx rel2 B L σ W1 (f a h1) Q → Q' b H1) : Po C Wx rel B L σ W m Q' := by
  cases m with
  | ok a h1 => exact fun W1 H1 b l r c => k b H1 a h1 W1 rfl l r c (Po.le l p)
  | ex x h1 => exact p
  | stk => exact p
theorem Po.ok {a : α} {Q : β → Hp → Prop} {b : β} (p : Po C Wx rel B L σ W (.ok a h) Q) (r : HR C B W L h σ H) (c : rel L σ W b a) : Q b H := p W H b (GW.le.refl W) r c
theorem Po.toR {o : Option α} {Q : β → Hp → Prop} (p : Po C Wx rel B L σ W (P2.toR o h) Q) : ∃ a, o = some a ∧ Po C Wx rel B L σ W (.ok a h) Q := by
  cases o with
  | some a => exact ⟨a, rfl, p⟩
  | none => exact p.elim
theorem Po.vr {d : D} {Q : VK} (p : Po C Wx (rE C) B L σ W (.ok d h) Q) (r : HR C B W L h σ H) : VR C W.F W.ρ H d Q := fun F' H' v e q => p ⟨F', W.ρ⟩ H' v ⟨e.f, LeL.refl _⟩ (r.ext e) q
theorem rA.le {v : V} {d : D} (l : W.le W1) (c : rA C L σ W v d) : rA C L σ W1 v d := c.imp (fun r => r.le l.1 l.2) id
theorem rAs.le {vs : List V} {ds : List D} (l : W.le W1) (c : rAs C L σ W vs ds) : rAs C L σ W1 vs ds := by
  induction c with
  | nil => exact .nil
  | cons a _ ih => exact .cons (a.le l) ih
theorem Rep.noOwn {F : Hp} {ρ : List Addr} {v : V} {i : Nat} (r : Rep C F ρ v (.own i)) : False := by cases r
/-- an operand by what it holds -/
theorem deref_con {v : V} {d d' : D} (r : HR C B W L h σ H) (c : rA C L σ W v d) (e : P2.deref L h d = some d') : Con C W.F W.ρ H v d' := by
  rcases c with c | ⟨i, o, rfl, h1, h2⟩
  · cases c with
    | @loc a l q =>
      simp only [P2.deref, Option.map_eq_some_iff] at e
      obtain ⟨o, ho, rfl⟩ := e
      have t := r.trk l a o q ho
      cases o with
      | lst xs => obtain ⟨vs, g1, g2⟩ := t; exact .lst g1 g2
      | dct kvs =>
        rcases t with ⟨ks, g1, g2⟩ | ⟨ks, g1, g2⟩
        · exact .dK g1 g2
        · exact .dT g1 g2
      | ins c fs => obtain ⟨g0, dx, gs, g1, g2⟩ := t; exact .ins g0 g1 g2
    | non => cases e; exact .rep .non
    | bl b => cases e; exact .rep (.bl b)
    | int i => cases e; exact .rep (.int i)
    | str s => cases e; exact .rep (.str s)
    | tup a b => cases e; exact .rep (.tup a b)
    | lst a b => cases e; exact .rep (.lst a b)
    | dK a b => cases e; exact .rep (.dK a b)
    | dT a b => cases e; exact .rep (.dT a b)
    | obj z a b => cases e; exact .rep (.obj z a b)
    | fn f => cases e; exact .rep (.fn f)
  · simp only [P2.deref, h1] at e
    cases e
    obtain ⟨a, g1, g2⟩ := r.own_at h1
    rw [h2] at g1
    cases g1
    cases o with
    | lst xs => obtain ⟨vs, g1, g2⟩ := g2; exact .lst g1 g2
    | dct kvs =>
      rcases g2 with ⟨ks, g1, g2⟩ | ⟨ks, g1, g2⟩
      · exact .dK g1 g2
      · exact .dT g1 g2
    | ins c fs => obtain ⟨g0, dx, gs, g1, g2⟩ := g2; exact .ins g0 g1 g2
theorem derefs_con {vs : List V} {ds ds' : List D} (r : HR C B W L h σ H) (c : rAs C L σ W vs ds) (e : P2.derefs L h ds = some ds') : Cons C W.F W.ρ H vs ds' := by
  induction c generalizing ds' with
  | nil => cases e; exact .nil
  | cons a _ ih =>
    simp only [P2.derefs] at e
    split at e
    · rename_i x hx
      rw [Option.map_eq_some_iff] at e
      obtain ⟨l, h1, rfl⟩ := e
      exact .cons (deref_con r a hx) (ih h1)
    · cases e
/-- where no owned object is meant: a value -/
theorem tA_of_tE {m : List Slot → DHp → R D} {H : Hp} {Q : VK} (t : tA C Wx m σ H Q) : tE C Wx m σ H Q := by
  obtain ⟨B, W, L, h, r, p⟩ := t
  refine ⟨B, W, L, h, r, ?_⟩
  cases hm : m L h with
  | ok a h' => rw [hm] at p; exact fun W' H' b l r' c => p W' H' b l r' (.inl c)
  | ex x h' => rw [hm] at p; exact p
  | stk => rw [hm] at p; exact p
theorem PE.imp {X : Cx} {ex : Expr} {t t' : TE} (p : PE X ex t) (k : ∀ σ H Q, t' σ H Q → t σ H Q) : PE X ex t' := ⟨fun pins s σ H Q I q => p.run pins s σ H Q I (k σ H Q q)⟩
theorem PT.imp {X : Cx} {ex : Expr} {t t' : TT} (p : PT X ex t) (k : ∀ σ H Q, t' σ H Q → t σ H Q) : PT X ex t' := ⟨fun pins s σ H Q I q => p.run pins s σ H Q I (k σ H Q q)⟩
theorem PW.imp {X : Cx} {ex : Expr} {t t' : TT} (p : PW X ex t) (k : ∀ σ H Q, t' σ H Q → t σ H Q) : PW X ex t' := ⟨fun whole pins s σ H Q I q => p.run whole pins s σ H Q I (k σ H Q q)⟩
theorem PA.imp {X : Cx} {ex : List Expr} {t t' : TA} (p : PA X ex t) (k : ∀ σ H Q, t' σ H Q → t σ H Q) : PA X ex t' := ⟨fun pos pins s σ H Q I q => p.run pos pins s σ H Q I (k σ H Q q)⟩
end

/-! ### shapes -/
/-- an expression without forms of its own in its places -/
def okX : Expr → Bool
  | .Name _ _ | .Constant _ _ _ | .BinOp _ _ _ _ | .UnaryOp _ _ _ | .BoolOp _ _ _ | .Compare _ _ _ _ | .IfExp _ _ _ _ | .Tuple _ _ _ | .List _ _ | .Dict _ _ _ | .Subscript _ _ _ | .Attribute _ _ _ | .ListComp _ _ _ _ => true
  | .Call (.Name x _) _ _ _ => decide (x ≠ "super")
  | .Call (.Attribute _ _ _) _ _ _ => true
  | _ => false
theorem okX_star {e : Expr} {es : List Expr} {env : Env} (h : okX e = true) : starEach (e :: es) env = (false, eval e env) :: starEach es env := by
  cases e <;> first | rfl | cases h
theorem okX_attr {e : Expr} {f : Str} {env : Env} {whole : Sem Value} (h : okX e = true) : attributeBase e f env whole = whole := by
  cases e with
  | Call fn args kws pos =>
    cases fn with
    | Name x p =>
      have hx : x ≠ "super" := of_decide_eq_true h
      cases args with
      | cons _ _ => rfl
      | nil =>
        cases kws with
        | cons _ _ => rfl
        | nil =>
          unfold attributeBase
          have : (x != ("super" : Str)) = true := bne_iff_ne.mpr hx
          simp [this]
    | Attribute _ _ _ => rfl
    | _ => cases h
  | _ => first | rfl | cases h
theorem okX_ix {e : Expr} (h : okX e = true) : PlainIx e := by
  intro o i
  cases e <;> first | rfl | cases h
theorem okX_marks {e : Expr} {op : CmpOp} (h : okX e = true) : behindInMarks op e = false := by
  cases e <;> first | rfl | cases h
/-- a test's value is its truth -/
def valX : Expr → Bool
  | .UnaryOp .Not _ _ | .BoolOp _ _ _ | .IfExp _ _ _ _ | .Compare _ _ _ _ => false
  | _ => true
theorem valX_is {e : Expr} (h : valX e = true) (env : Env) (whole : Sem Value) : isTrue e env whole = (do let v ← whole; standAt e.pos; holding [v] (truthy v)) := by
  cases e with
  | UnaryOp op _ _ => cases op <;> first | rfl | cases h
  | _ => first | rfl | cases h
theorem okX_fold {e : Expr} (h : okX e = true) (env : Env) (x : Value) : foldedSetIterable e env x = pure x := by
  cases e <;> first | rfl | cases h
def notComp : Expr → Bool
  | .ListComp _ _ _ _ => false
  | _ => true
theorem okX_swaps {e : Expr} {t : Option Expr} {l : Nat} {env : Env} (h : okX e = true) (h2 : notComp e = true) : swapsWith e t l env = pure false := by
  cases e <;> first | rfl | exact (nomatch (show false = true from h2)) | exact (nomatch (show false = true from h))

/-! ### the contract of a def -/
def spF (C : Cfg) (F : Fn) (run : List Slot → DHp → R (D × List Slot)) : Sp := fun vs H Q E =>
  ∃ (B : Bs) (W : GW) (h : DHp) (L0 : List Slot) (s0 : Option Addr), HS C B W h H ∧ vs.length = F.np ∧ L0.length = F.np ∧ F.np ≤ F.n ∧
    (∀ i s, L0[i]? = some s → (∃ d v, s = .val d ∧ vs[i]? = some v ∧ Rep C W.F W.ρ v d) ∨ (i = 0 ∧ ∃ o a, s = .own o ∧ vs[i]? = some (.ref a) ∧ s0 = some a ∧ ObjRep C W.F W.ρ H a o)) ∧
    (∀ a, s0 = some a → (∃ u, H a = some u) ∧ W.F a = none ∧ a ∉ W.ρ) ∧
    match run (L0 ++ List.replicate (F.n - F.np) .emp) h with
    | .ok p h' => ∀ W' H' v, HS C ⟨H, W.F, W.ρ, s0, s0.toList, none⟩ W' h' H' → Rep C W'.F W'.ρ v p.1 → (∀ a o, s0 = some a → p.2[0]? = some (.own o) → ObjRep C W'.F W'.ρ H' a o) → Q v H'
    | .ex x h' => ∀ W' H' cls dd, HS C ⟨H, W.F, W.ρ, s0, s0.toList, none⟩ W' h' H' → ExOk C W' H' cls dd x → E cls dd H'
    | .stk => False

/-! ### what is known of a program -/
structure Tb where
  fns : List Str
  cls : List Str
  exc : List Str
  nms : List Str
  globs : List Str
  free : List Str
  flds : List Nat
  xk : Bool
/-- built-in error classes that isinstance may name; every own error is of the first alone -/
def xblt : Nat → Option String
  | 0 => some "ValueError" | 1 => some "LookupError" | 2 => some "RuntimeError"
  | _ => none
/-- an error class without own __init__ -/
structure X0 (K : PySem.W.Frag) (C : Addr) : Prop where
  ex : PySem.W.excIn K C PySem.HandSPX.veTail "ValueError.__new__" = true
  kp : PySem.W.keepIn K (.ref C) = true
  exC : PySem.W.subIn K (.ref C) (.type "BaseException") = some true
  tyC : PySem.W.typeIn K (.ref C) = some (.type "type")
structure Stat (T : Tb) (P : Pg) (C : Cfg) (Γ : P2.Run) (k : Nat) (prog : Program) (w : World) (K : PySem.W.Frag) (mg : Str → Option Value) (base : Heap) : Prop where
  hK : K = C.K
  fns : ∀ f x, T.fns[f]? = some x → ∃ F fd ps, P.fns[f]? = some F ∧ F.np ≤ F.n ∧ mg x = some (.ref (C.fn f)) ∧ PySem.W.keepIn K (.ref (C.fn f)) = true ∧ Binds K fd ps [] ∧ FnG prog w K mg base (L2N.CX prog w) k (C.fn f) fd ps (spF C F (Γ f))
  free : ∀ x ∈ T.free, mg x = none
  nmI : ∀ i j, C.nm i = C.nm j → i = j
  nms : ∀ n nm, T.nms[n]? = some nm → C.nm n = nm
  cl : ∀ c, c < C.nc → Cls K (C.cls c) ∧ ∀ n nm, n ∈ T.flds → T.nms[n]? = some nm → NoAttr K (C.cls c) nm
  xc : ∀ c, c < C.ne → XfC K (C.exc c) ∧ ∀ n nm, n ∈ T.flds → T.nms[n]? = some nm → PySem.W.findIn K (.ref (C.exc c)) nm = some none
/-- of a program's error classes -/
structure StatX (T : Tb) (P : Pg) (C : Cfg) (prog : Program) (K : PySem.W.Frag) (mg : Str → Option Value) : Prop where
  sup : mg "super" = none
  nm : ∀ c nm, T.exc[c]? = some nm → c < C.ne ∧ mg nm = some (.ref (C.exc c))
  txt : ∀ c p, P.exc[c]? = some p → p.1 ≠ [] → (p.1.length = 1 ∨ p.1.length = 2) ∧ P2X.XTxt prog K (C.exc c) (p.1.map C.nm)
  exm : ∀ c x, c < C.ne → x < C.ne → PySem.W.exmOne K (.ref (C.exc x)) (.ref (C.exc c)) = some (P2.catches P c x)
  ec : T.xk = true → ∀ c, c < C.ne → ExcC K (C.exc c)
  kit : T.xk = true → ∀ c x, c < C.ne → x < C.ne → PySem.W.kitOne K (.ref (C.exc x)) (.ref (C.exc c)) = some (P2.catches P c x)
  kitB : T.xk = true → ∀ k nm x, xblt k = some nm → x < C.ne → PySem.W.kitOne K (.ref (C.exc x)) (.type nm) = some (k == 0)
  txt0 : T.xk = true → ∀ c p, P.exc[c]? = some p → c < C.ne → p.1 = [] → X0 K (C.exc c)
structure XOk (T : Tb) (P : Pg) (C : Cfg) (Γ : P2.Run) (N : List Str) (k : Nat) (cm : Bool) (X : Cx) (sc : Scope) (Wx : Wq) : Prop where
  st : Stat T P C Γ k X.prog X.w X.K X.mg X.base
  hN : X.N = N
  nd : N.Nodup
  hsc : X.env.scope = sc
  calm : X.calm = cm
  hd : cm = true → X.A.handled = none
  rm : Rm k X.A
  xn : cm = true → Wx.xq = none
  tak : L2N.Takes X Wx.w
  sx : StatX T P C X.prog X.K X.mg
  xf : ∀ a cls dd, Wx.xq = some (a, cls, dd) → ∀ (c : Nat) (nm : Str) (e : Expr) (te : TE) (pos : Pos), XfC X.K (C.exc c) → PySem.W.findIn X.K (.ref (C.exc c)) nm = some none → okX e = true → PE X e te → PE X (.Attribute e nm pos) (tXf a cls dd (C.exc c) nm te)
  xi : ∀ a cls dd, Wx.xq = some (a, cls, dd) → ∀ D : Addr, cls = .ref D → ExcC X.K D → CallR X (.builtin "isinstance") (P2X.rIsX X.K D a dd)

theorem XOk.tk {T : Tb} {P : Pg} {C : Cfg} {Γ : P2.Run} {N : List Str} {k : Nat} {cm : Bool} {X : Cx} {sc : Scope} {Wx : Wq} (o : XOk T P C Γ N k cm X sc Wx) : ∀ σ, PassesAt (L2N.CX X.prog X.w) X σ (WE Wx.w σ) := fun σ => L2N.passAt o.tak σ
end P2S
end

section
/-! P2Mx: which trees a table stands for. -/
set_option autoImplicit false
set_option Elab.async false
set_option linter.all false
set_option maxRecDepth 100000
set_option maxHeartbeats 1000000
namespace P2S
open PySem PySem.Spec L2
open P2 (D DO DHp Exn Slot snap R SR Run Pg Xe Xes Xo Xi Xt Xs Xss Xh Fn Bi)

def isGl (sc : Scope) (x : Str) : Bool := match sc.names.lookup x with | some .globalImplicit => true | _ => false
def isVis (sc : Scope) (x : Str) : Bool := match sc.names.lookup x with | some .local => true | some .cell => true | some .free => true | _ => false
def isLoc (sc : Scope) (x : Str) : Bool := match sc.names.lookup x with | some .local => true | some .cell => true | _ => false
def isL (sc : Scope) (x : Str) : Bool := match sc.names.lookup x with | some .local => true | _ => false
def okN (x : Str) : Bool := !(x == ("__debug__" : Str)) && !(x == ("__classdict__" : Str)) && decide (x ≠ "__name__")
/-- a built-in's name -/
def isB (T : Tb) (sc : Scope) (x : Str) (id : Str) : Bool := decide (x = id) && isGl sc x && T.free.contains x && okN x
def ixOf (l : List Str) (i : Nat) (x : Str) : Bool := match l[i]? with | some y => decide (y = x) | none => false
/-- the names of plain built-ins called by values, calm ones told -/
def bName : Bi → Option (String × Bool)
  | .len => some ("len", false) | .abs => some ("abs", false) | .int => some ("int", false) | .lst => some ("list", false) | .tup => some ("tuple", false)
  | .max1 => some ("max", true) | .min1 => some ("min", true) | .max2 => some ("max", true) | .min2 => some ("min", true)
  | .all => some ("all", true) | .any => some ("any", true) | .sorted => some ("sorted", false)
  | _ => none
def isTy : Bi → Option String
  | .isInt => some "int" | .isBool => some "bool" | .isStr => some "str" | .isTup => some "tuple" | .isLst => some "list" | .isDct => some "dict"
  | _ => none
def gOwn (N : List Str) (g : Xt) : List (Str × Nat) := (P2.gSlots g).filterMap fun i => (N[i]?).map fun x => (x, i)
mutual
/-- a target: names that may be stored, tuples of these -/
def mG (N : List Str) (ln : Str → Bool) : Xt → Expr → Bool
  | .name i, e => match e with | .Name x _ => ixOf N i x && ln x && okN x | _ => false
  | .tup gs, e => match e with | .Tuple ts _ _ => mGs N ln gs ts | _ => false
def mGs (N : List Str) (ln : Str → Bool) : List Xt → List Expr → Bool
  | [], es => es.isEmpty
  | g :: gs, es => match es with | e :: es => mG N ln g e && mGs N ln gs es | [] => false
end
def srcX : Xe → Option Nat
  | .var i => some i
  | _ => none
def srcOf : Xi → Option Nat
  | .of e => srcX e
  | .enum e => srcX e
  | _ => none
def isTupX : Expr → Bool
  | .Tuple _ _ _ => true
  | _ => false
section
variable (T : Tb) (N : List Str)
mutual
def mE (cm : Bool) (sc : Scope) : Xe → Expr → Bool
  | .non, ex => match ex with | .Constant .none _ _ => true | _ => false
  | .bl b, ex => match ex with | .Constant (.bool c) _ _ => b == c | _ => false
  | .int i, ex => match ex with | .Constant (.int j) _ _ => decide (i = j) | _ => false
  | .str s, ex => match ex with | .Constant (.str x) _ _ => decide (x = toS s) | _ => false
  | .var i, ex => match ex with | .Name x _ => ixOf N i x && isVis sc x && okN x | _ => false
  | .op o a b, ex => match ex with | .BinOp x op y _ => op == trB o && mE cm sc a x && mE cm sc b y | _ => false
  | .neg a, ex => match ex with | .UnaryOp op x _ => op == .USub && mE cm sc a x | _ => false
  | .inot a, ex => match ex with | .UnaryOp op x _ => op == .Not && mE cm sc a x | _ => false
  | .cmp o a b, ex => match ex with | .Compare x ops ys _ => (match ops, ys with | [op], [y] => op == trC o && mE cm sc a x && mE cm sc b y | _, _ => false) | _ => false
  | .chain o o' a b c, ex => match ex with | .Compare x ops ys _ => (match ops, ys with | [op, op'], [y, z] => op == trC o && op' == trC o' && mE cm sc a x && mE cm sc b y && mE cm sc c z | _, _ => false) | _ => false
  | .and a b, ex => match ex with | .BoolOp op vs p => op == .And && (match vs with | x :: y :: r => mE cm sc a x && (match r with | [] => mE cm sc b y | z :: r => mE cm sc b (.BoolOp .And (y :: z :: r) p)) | _ => false) | _ => false
  | .or a b, ex => match ex with | .BoolOp op vs p => op == .Or && (match vs with | x :: y :: r => mE cm sc a x && (match r with | [] => mE cm sc b y | z :: r => mE cm sc b (.BoolOp .Or (y :: z :: r) p)) | _ => false) | _ => false
  | .ite c a b, ex => match ex with | .IfExp z x y _ => mE cm sc c z && mE cm sc a x && mE cm sc b y | _ => false
  | .tup es, ex => match ex with | .Tuple xs _ _ => mEs cm sc es xs && decide (xs.length ≤ 1000) | _ => false
  | .lst es, ex => match ex with | .List xs _ => mEs cm sc es xs && decide (xs.length ≤ 1000) | _ => false
  | .newL es, ex => match ex with | .List xs _ => mEs cm sc es xs && decide (xs.length ≤ 1000) | _ => false
  | .idx a b, ex => match ex with | .Subscript x y _ => mE cm sc a x && mE cm sc b y | _ => false
  | .sl a lo hi, ex => match ex with | .Subscript x (.Slice l h none _) _ => mE cm sc a x && mO cm sc lo l && mO cm sc hi h | _ => false
  | .rev a, ex => match ex with | .Subscript x (.Slice none none (some (.UnaryOp .USub (.Constant (.int 1) _ _) _)) _) _ => mE cm sc a x | _ => false
  | .call f es, ex => match ex with | .Call (.Name x _) args [] _ => cm && ixOf T.fns f x && isGl sc x && okN x && decide (x ≠ "super") && !args.isEmpty && mEs cm sc es args | _ => false
  | .bi b es, ex => match bName b with
    | some (nm, c) => (match ex with | .Call (.Name x _) args [] _ => (!c || cm) && isB T sc x nm && decide (x ≠ "super") && !args.isEmpty && mAs cm sc es args | _ => false)
    | none => match isTy b with
      | some ty => (match ex with | .Call (.Name x _) [y, .Name z _] [] _ => isB T sc x "isinstance" && isB T sc z ty && mAs cm sc es [y] | _ => false)
      | none => match b with
        | .isRow => (match ex with
          | .Call (.Name x _) [y, .Tuple [.Name z _, .Name z' _] _ _] [] _ => isB T sc x "isinstance" && ((isB T sc z "list" && isB T sc z' "tuple") || (isB T sc z "tuple" && isB T sc z' "list")) && mAs cm sc es [y]
          | _ => false)
        | .rngList => (match ex with | .Call (.Name x _) [.Call (.Name z _) args [] _] [] _ => cm && isB T sc x "list" && isB T sc z "range" && (args.length == 1 || args.length == 2) && mEs cm sc es args | _ => false)
        | _ => false
  | .rne a b, ex => match ex with
    | .Compare (.Call (.Name x _) [y] [] _) [.NotEq] [.Call (.Name z _) [y'] [] _] _ => isB T sc x "repr" && isB T sc z "repr" && mE cm sc a y && mE cm sc b y'
    | _ => false
  | .fld a n, ex => match ex with | .Attribute x nm _ => ixOf T.nms n nm && T.flds.contains n && mE cm sc a x | _ => false
  | .comp elt tg it c, ex => match ex with
    | .ListComp e' [⟨tg', it', ifs, 0⟩] scope _ => cm && blkC N sc scope (gOwn N tg) && decide ((gOwn N tg).map (·.2) = P2.gSlots tg) && mI cm sc tg' it it' && mG N (isLoc scope) tg tg' && mE cm (relS scope sc) elt e' && mC cm (relS scope sc) c ifs &&
        (match srcOf it with | some i => !(P2.gSlots tg).contains i | none => true)
    | _ => false
  | .isX i c, ex => match ex with | .Call (.Name x _) [.Name y _, .Name z _] [] _ => T.xk && isB T sc x "isinstance" && ixOf N i y && isVis sc y && okN y && ixOf T.exc c z && isGl sc z && okN z | _ => false
  | .isXB i k, ex => match xblt k with
    | some nm => (match ex with | .Call (.Name x _) [.Name y _, .Name z _] [] _ => T.xk && isB T sc x "isinstance" && ixOf N i y && isVis sc y && okN y && isB T sc z nm | _ => false)
    | none => false
  | .xnew c ns es n, ex => match ex with | .Attribute (.Call (.Name x _) [] kws _) g _ => cm && T.xk && ixOf T.exc c x && isGl sc x && okN x && decide (x ≠ "super") && ixOf T.nms n g && T.flds.contains n && mK cm sc es ns kws | _ => false
  | .glob _, _ | .fnv _, _ | .dct _ _, _ | .newD _, _ | .meth _ _ _, _ | .callv _ _, _ | .make _ _, _ | .makeT _ _, _ | .popT _, _ | .sortKey _ _, _ | .fstr _, _ => false
def mEs (cm : Bool) (sc : Scope) : Xes → List Expr → Bool
  | .nil, xs => xs.isEmpty
  | .cons e r, xs => match xs with | x :: xs => mE cm sc e x && mEs cm sc r xs | [] => false
/-- f = e, .. -/
def mK (cm : Bool) (sc : Scope) : Xes → List Nat → List Keyword → Bool
  | .nil, ns, kws => ns.isEmpty && kws.isEmpty
  | .cons e r, ns, kws => match ns, kws with
    | n :: ns, ⟨some nm, x, _⟩ :: kws => ixOf T.nms n nm && mE cm sc e x && mK cm sc r ns kws
    | _, _ => false
/-- operands: owned ones may be named -/
def mAs (cm : Bool) (sc : Scope) : Xes → List Expr → Bool
  | .nil, xs => xs.isEmpty
  | .cons e r, xs => match xs with | x :: xs => mE cm sc e x && mAs cm sc r xs | [] => false
def mO (cm : Bool) (sc : Scope) : Xo → Option Expr → Bool
  | .none, x => x.isNone
  | .some e, x => match x with | some y => mE cm sc e y | none => false
def mC (cm : Bool) (sc : Scope) : Xo → List Expr → Bool
  | .none, x => x.isEmpty
  | .some e, x => match x with | [y] => mE cm sc e y | _ => false
def mI (cm : Bool) (sc : Scope) (tg' : Expr) : Xi → Expr → Bool
  | .of e, ex => mE cm sc e ex
  | .range1 a, ex => match ex with | .Call (.Name x _) [y] [] _ => isB T sc x "range" && mE cm sc a y | _ => false
  | .range2 a b, ex => match ex with | .Call (.Name x _) [y, z] [] _ => isB T sc x "range" && mE cm sc a y && mE cm sc b z | _ => false
  | .enum a, ex => match ex with | .Call (.Name x _) [y] [] _ => isB T sc x "enumerate" && isTupX tg' && mE cm sc a y | _ => false
  | .zip a b, ex => match ex with | .Call (.Name x _) [y, z] [] _ => isB T sc x "zip" && isTupX tg' && mE cm sc a y && mE cm sc b z | _ => false
  | .range3 _ _ _, _ | .enumItems _, _ | .items _, _ => false
end
end
end P2S
end

section
/-! P2Exp: each form of expression says what its tree does. -/
set_option autoImplicit false
set_option Elab.async false
set_option linter.all false
set_option maxRecDepth 100000
set_option maxHeartbeats 1000000
namespace P2S
open PySem PySem.Spec L2
open P2 (D DO DHp Exn Slot snap R SR Run Pg Xe Xes Xo Xi Xt Xs Xss Xh Fn Bi)
section
variable {T : Tb} {P : Pg} {C : Cfg} {Γ : P2.Run} {N : List Str} {k : Nat} {cm : Bool} {X : Cx} {sc : Scope} {Wx : Wq}
structure OkE (P : Pg) (C : Cfg) (Γ : P2.Run) (X : Cx) (Wx : Wq) (e : Xe) (ex : Expr) : Prop where
  ok : okX ex = true
  pa : PE X ex (tA C Wx (P2.evA P Γ e))
  pe : PE X ex (tE C Wx (P2.evE P Γ e))
  pt : PT X ex (tT (tE C Wx (P2.evE P Γ e)))
  pw : ∀ op vs p, ex = .BoolOp op vs p → PW X ex (tT (tE C Wx (P2.evE P Γ e)))
theorem OkE.of {e : Xe} {ex : Expr} (ok : okX ex = true) (hA : ∀ L h, P2.evA P Γ e L h = P2.evE P Γ e L h) (pe : PE X ex (tE C Wx (P2.evE P Γ e))) (pt : PT X ex (tT (tE C Wx (P2.evE P Γ e))))
    (pw : ∀ op vs p, ex = .BoolOp op vs p → PW X ex (tT (tE C Wx (P2.evE P Γ e)))) : OkE P C Γ X Wx e ex := by
  refine ⟨ok, PE.imp pe fun σ H Q t => ?_, pe, pt, pw⟩
  have e1 : P2.evA P Γ e = P2.evE P Γ e := by funext L h; exact hA L h
  rw [e1] at t
  exact tA_of_tE t
theorem OkE.val {e : Xe} {ex : Expr} (ok : okX ex = true) (hv : valX ex = true) (hA : ∀ L h, P2.evA P Γ e L h = P2.evE P Γ e L h) (pe : PE X ex (tE C Wx (P2.evE P Γ e))) : OkE P C Γ X Wx e ex :=
  OkE.of ok hA pe (pt_val pe fun whole => valX_is hv _ _) fun op vs p e => by subst e; cases hv
/-- no class of the program's has an == of its own -/
def NoEq (P : Pg) : Prop := ∀ c : Nat, ((P.cls[c]?).bind fun (z : P2.Cl) => z.eq) = none
theorem vis_of {x : Str} (h : isVis sc x = true) : Vis sc x := by
  unfold isVis at h
  unfold Vis
  split at h
  · rename_i e; exact .inl e
  · rename_i e; exact .inr (.inl e)
  · rename_i e; exact .inr (.inr e)
  · cases h
theorem gl_of {x : Str} (hs : X.env.scope = sc) (h : isGl sc x = true) : Gl X x := by
  unfold isGl at h
  show X.env.scope.names.lookup x = _
  rw [hs]
  split at h
  · assumption
  · cases h
theorem okN_of {x : Str} (h : okN x = true) : (x == ("__debug__" : Str)) = false ∧ (x == ("__classdict__" : Str)) = false ∧ x ≠ "__name__" := by
  simp only [okN, Bool.and_eq_true, Bool.not_eq_true', decide_eq_true_eq] at h
  exact ⟨h.1.1, h.1.2, h.2⟩
theorem ixOf_of {l : List Str} {i : Nat} {x : Str} (h : ixOf l i x = true) : l[i]? = some x := by
  unfold ixOf at h
  split at h
  · rename_i y e
    rw [e, of_decide_eq_true h]
  · cases h
theorem isB_of {x id : Str} (o : XOk T P C Γ N k cm X sc Wx) (h : isB T sc x id = true) : x = id ∧ Gl X x ∧ X.mg x = none ∧ (x == ("__debug__" : Str)) = false ∧ x ≠ "__name__" := by
  simp only [isB, Bool.and_eq_true, decide_eq_true_eq] at h
  obtain ⟨⟨⟨h1, h2⟩, h3⟩, h4⟩ := h
  exact ⟨h1, gl_of o.hsc h2, o.st.free x (List.contains_iff_mem.mp h3), (okN_of h4).1, (okN_of h4).2.2⟩

/-! ### plain forms -/
theorem sem_var {i : Nat} {x : Str} {pos : Pos} (o : XOk T P C Γ N k cm X sc Wx) (hi : N[i]? = some x) (hv : isVis sc x = true) (hn : okN x = true) : OkE P C Γ X Wx (.var i) (.Name x pos) := by
  have pv : PE X (.Name x pos) (tVar i) := pe_var (by rw [o.hN]; exact hi) (by rw [o.hsc]; exact vis_of hv) (okN_of hn).1 (okN_of hn).2.1
  have pe : PE X (.Name x pos) (tE C Wx (P2.evE P Γ (.var i))) := PE.imp pv fun σ H Q ⟨B, W, L, h, r, p⟩ => by
    simp only [P2.evE] at p
    split at p
    · rename_i d hd
      obtain ⟨v, h1, h2⟩ := r.val_at hd
      exact ⟨v, h1, p.ok r h2⟩
    · exact p.elim
  refine ⟨rfl, PE.imp pv fun σ H Q ⟨B, W, L, h, r, p⟩ => ?_, pe, pt_val pe fun _ => rfl, fun op vs p e => by cases e⟩
  simp only [P2.evA] at p
  split at p
  · rename_i d hd
    obtain ⟨v, h1, h2⟩ := r.val_at hd
    exact ⟨v, h1, p.ok r (.inl h2)⟩
  · rename_i ob ho
    obtain ⟨a, h1, h2⟩ := r.own_at ho
    exact ⟨_, h1, p.ok r (.inr ⟨_, _, rfl, ho, h1⟩)⟩
  · exact p.elim
theorem sem_const {e : Xe} {ex : Expr} {v : V} {d : D} (ok : okX ex = true) (hv : valX ex = true) (hA : ∀ L h, P2.evA P Γ e L h = P2.evE P Γ e L h) (he : ∀ L h, P2.evE P Γ e L h = .ok d h) (hp : PE X ex (tC v)) (hr : ∀ F ρ, Rep C F ρ v d) : OkE P C Γ X Wx e ex :=
  OkE.val ok hv hA (PE.imp hp fun σ H Q ⟨B, W, L, h, r, p⟩ => by rw [he] at p; exact p.ok r (hr _ _))
theorem sem_op {o : P2.BOp} {a b : Xe} {x y : Expr} {pos : Pos} (oX : XOk T P C Γ N k cm X sc Wx) (ha : OkE P C Γ X Wx a x) (hb : OkE P C Γ X Wx b y) : OkE P C Γ X Wx (.op o a b) (.BinOp x (trB o) y pos) :=
  OkE.val rfl rfl (fun _ _ => by simp only [P2.evA]) (PE.imp (pe_op (opR_bop (C := C) oX.st.hK o) ha.pa hb.pa) fun σ H Q ⟨B, W, L, h, r, p⟩ => by
    simp only [P2.evE] at p
    refine ⟨B, W, L, h, r, p.run fun v H1 d h1 W1 _ l1 r1 c1 p1 => ⟨B, W1, L, h1, r1, p1.run fun u H2 d2 h2 W2 _ l2 r2 c2 p2 => ?_⟩⟩
    split at p2
    · rename_i x' hx
      split at p2
      · rename_i y' hy
        obtain ⟨z, hz, p3⟩ := p2.toR
        exact ⟨W2.F, W2.ρ, x', y', z, r2.fz, deref_con r2 (c1.le l2) hx, deref_con r2 c2 hy, hz, p3.vr r2⟩
      · exact p2.elim
    · exact p2.elim)
theorem sem_neg {a : Xe} {x : Expr} {pos : Pos} (ha : OkE P C Γ X Wx a x) : OkE P C Γ X Wx (.neg a) (.UnaryOp .USub x pos) :=
  OkE.val rfl rfl (fun _ _ => by simp only [P2.evA]) (PE.imp (pe_un un_neg ha.pe) fun σ H Q ⟨B, W, L, h, r, p⟩ => by
    simp only [P2.evE] at p
    refine ⟨B, W, L, h, r, p.run fun v H1 d h1 W1 _ l1 r1 c1 p1 => ?_⟩
    split at p1
    · cases c1
      exact ⟨_, rfl, p1.ok r1 (.int _)⟩
    · exact p1.elim)
theorem sem_not {a : Xe} {x : Expr} {pos : Pos} (ha : OkE P C Γ X Wx a x) : OkE P C Γ X Wx (.inot a) (.UnaryOp .Not x pos) := by
  refine OkE.of rfl (fun _ _ => by simp only [P2.evA]) (PE.imp (pe_not ha.pe) fun σ H Q ⟨B, W, L, h, r, p⟩ => ?_) (PT.imp (pt_not ha.pt) fun σ H Q ⟨B, W, L, h, r, p⟩ => ?_) fun op vs p e => by cases e
  · simp only [P2.evE] at p
    refine ⟨B, W, L, h, r, p.run fun v H1 d h1 W1 _ l1 r1 c1 p1 => ?_⟩
    split at p1
    · cases c1
      exact ⟨_, rfl, p1.ok r1 (.bl _)⟩
    · exact p1.elim
  · simp only [P2.evE] at p
    refine ⟨B, W, L, h, r, p.run fun v H1 d h1 W1 _ l1 r1 c1 p1 => ?_⟩
    split at p1
    · cases c1
      obtain ⟨k, hk, q⟩ := p1.ok r1 (.bl _)
      cases hk
      exact ⟨_, rfl, q⟩
    · exact p1.elim
/-- a comparison of no own class's -/
theorem cmp_ent {o : P2.COp} {a b : Xe} {σ : St} {H : Hp} {Q : VK} (t : tE C Wx (P2.evE P Γ (.cmp o a b)) σ H Q) (hobj : NoEq P) : tOp (rD2 C (copD o)) (tA C Wx (P2.evA P Γ a)) (tA C Wx (P2.evA P Γ b)) σ H Q := by
  obtain ⟨B, W, L, h, r, p⟩ := t
  simp only [P2.evE] at p
  refine ⟨B, W, L, h, r, p.run fun v H1 d h1 W1 _ l1 r1 c1 p1 => ⟨B, W1, L, h1, r1, p1.run fun u H2 d2 h2 W2 _ l2 r2 c2 p2 => ?_⟩⟩
  split at p2
  · rw [hobj _] at p2
    exact p2.elim
  · split at p2
    · rename_i x' hx
      split at p2
      · rename_i y' hy
        obtain ⟨z, hz, p3⟩ := p2.toR
        exact ⟨W2.F, W2.ρ, x', y', z, r2.fz, deref_con r2 (c1.le l2) hx, deref_con r2 c2 hy, hz, p3.vr r2⟩
      · exact p2.elim
    · exact p2.elim
theorem sem_cmp {o : P2.COp} {a b : Xe} {x y : Expr} {pos : Pos} (oX : XOk T P C Γ N k cm X sc Wx) (hobj : NoEq P) (ha : OkE P C Γ X Wx a x) (hb : OkE P C Γ X Wx b y) : OkE P C Γ X Wx (.cmp o a b) (.Compare x [trC o] [y] pos) :=
  OkE.of rfl (fun _ _ => by simp only [P2.evA]) (PE.imp (pe_cmpR (opR_cop (C := C) oX.st.hK oX.rm.units o) ha.pa hb.pa (okX_marks hb.ok)) fun σ H Q t => cmp_ent t hobj)
    (PT.imp (pt_cmpR (opR_cop (C := C) oX.st.hK oX.rm.units o) ha.pa hb.pa (okX_marks hb.ok)) fun σ H Q t => cmp_ent t hobj) fun op vs p e => by cases e
theorem sem_chain {o o' : P2.COp} {a b c : Xe} {x y z : Expr} {pos : Pos} (oX : XOk T P C Γ N k cm X sc Wx) (ha : OkE P C Γ X Wx a x) (hb : OkE P C Γ X Wx b y) (hc : OkE P C Γ X Wx c z) : OkE P C Γ X Wx (.chain o o' a b c) (.Compare x [trC o, trC o'] [y, z] pos) := by
  have ent : ∀ σ H Q, tE C Wx (P2.evE P Γ (.chain o o' a b c)) σ H Q → tChain (rD2 C (copD o)) (rD2 C (copD o')) (tE C Wx (P2.evE P Γ a)) (tE C Wx (P2.evE P Γ b)) (tE C Wx (P2.evE P Γ c)) σ H Q := fun σ H Q ⟨B, W, L, h, r, p⟩ => by
    simp only [P2.evE] at p
    refine ⟨B, W, L, h, r, p.run fun v H1 d h1 W1 _ l1 r1 c1 p1 => ⟨B, W1, L, h1, r1, p1.run fun u H2 d2 h2 W2 _ l2 r2 c2 p2 => ?_⟩⟩
    split at p2
    · rename_i e
      refine ⟨W2.F, W2.ρ, d, d2, .bl true, r2.fz, .rep (Rep.le l2.1 l2.2 c1), .rep c2, by simp [copD, e], fun F' H' v' e' q => ?_⟩
      cases q
      refine ⟨true, rfl, ?_⟩
      rw [if_pos rfl]
      refine ⟨B, ⟨F', W2.ρ⟩, L, h2, r2.ext e', (Po.le (W1 := ⟨F', W2.ρ⟩) ⟨e'.f, LeL.refl _⟩ p2).run fun w H3 d3 h3 W3 _ l3 r3 c3 p3 => ?_⟩
      obtain ⟨z', hz, p4⟩ := p3.toR
      have l23 : W2.le W3 := GW.le.trans (b := ⟨F', W2.ρ⟩) ⟨e'.f, LeL.refl _⟩ l3
      exact ⟨W3.F, W3.ρ, d2, d3, z', r3.fz, .rep (Rep.le l23.1 l23.2 c2), .rep c3, hz, p4.vr r3⟩
    · rename_i e
      refine ⟨W2.F, W2.ρ, d, d2, .bl false, r2.fz, .rep (Rep.le l2.1 l2.2 c1), .rep c2, by simp [copD, e], fun F' H' v' e' q => ?_⟩
      cases q
      refine ⟨false, rfl, ?_⟩
      rw [if_neg (by decide)]
      exact p2 ⟨F', W2.ρ⟩ H' (.bl false) ⟨e'.f, LeL.refl _⟩ (r2.ext e') (.bl false)
    · exact p2.elim
  have hm : lastMarks [trC o, trC o'] [y, z] = false := okX_marks hc.ok
  exact OkE.of rfl (fun _ _ => by simp only [P2.evA]) (PE.imp (pe_chain (opR_cop (C := C) oX.st.hK oX.rm.units o) (opR_cop (C := C) oX.st.hK oX.rm.units o') ha.pe hb.pe hc.pe hm) ent)
    (PT.imp (pt_chain (opR_cop (C := C) oX.st.hK oX.rm.units o) (opR_cop (C := C) oX.st.hK oX.rm.units o') ha.pe hb.pe hc.pe hm) fun σ H Q t => ent σ H _ t) fun op vs p e => by cases e

/-! ### and, or, if -/
theorem and_ent {a b : Xe} {σ : St} {H : Hp} {Q : VK} (t : tE C Wx (P2.evE P Γ (.and a b)) σ H Q) : tAndV (tE C Wx (P2.evE P Γ a)) (tE C Wx (P2.evE P Γ b)) σ H Q := by
  obtain ⟨B, W, L, h, r, p⟩ := t
  simp only [P2.evE] at p
  refine ⟨B, W, L, h, r, p.run fun v H1 d h1 W1 _ l1 r1 c1 p1 => ?_⟩
  split at p1
  · cases c1
    refine ⟨true, rfl, ?_⟩
    rw [if_pos rfl]
    refine ⟨B, W1, L, h1, r1, p1.run fun u H2 d2 h2 W2 _ l2 r2 c2 p2 => ?_⟩
    split at p2
    · cases c2
      exact p2.ok r2 (.bl _)
    · exact p2.elim
  · cases c1
    refine ⟨false, rfl, ?_⟩
    rw [if_neg (by decide)]
    exact p1.ok r1 (.bl _)
  · exact p1.elim
theorem or_ent {a b : Xe} {σ : St} {H : Hp} {Q : VK} (t : tE C Wx (P2.evE P Γ (.or a b)) σ H Q) : tOrV (tE C Wx (P2.evE P Γ a)) (tE C Wx (P2.evE P Γ b)) σ H Q := by
  obtain ⟨B, W, L, h, r, p⟩ := t
  simp only [P2.evE] at p
  refine ⟨B, W, L, h, r, p.run fun v H1 d h1 W1 _ l1 r1 c1 p1 => ?_⟩
  split at p1
  · cases c1
    refine ⟨true, rfl, ?_⟩
    rw [if_pos rfl]
    exact p1.ok r1 (.bl _)
  · cases c1
    refine ⟨false, rfl, ?_⟩
    rw [if_neg (by decide)]
    refine ⟨B, W1, L, h1, r1, p1.run fun u H2 d2 h2 W2 _ l2 r2 c2 p2 => ?_⟩
    split at p2
    · cases c2
      exact p2.ok r2 (.bl _)
    · exact p2.elim
  · exact p1.elim
theorem andT_ent {a b : Xe} {σ : St} {H : Hp} {Q : Bool → Hp → Prop} (t : tT (tE C Wx (P2.evE P Γ (.and a b))) σ H Q) : tAnd (tT (tE C Wx (P2.evE P Γ a))) (tT (tE C Wx (P2.evE P Γ b))) σ H Q := by
  obtain ⟨B, W, L, h, r, p⟩ := t
  simp only [P2.evE] at p
  refine ⟨B, W, L, h, r, p.run fun v H1 d h1 W1 _ l1 r1 c1 p1 => ?_⟩
  split at p1
  · cases c1
    refine ⟨true, rfl, ?_⟩
    dsimp only
    rw [if_pos rfl]
    refine ⟨B, W1, L, h1, r1, p1.run fun u H2 d2 h2 W2 _ l2 r2 c2 p2 => ?_⟩
    split at p2
    · cases c2
      exact p2.ok r2 (.bl _)
    · exact p2.elim
  · cases c1
    refine ⟨false, rfl, ?_⟩
    dsimp only
    rw [if_neg (by decide)]
    obtain ⟨k, hk, q⟩ := p1.ok r1 (.bl _)
    cases hk
    exact q
  · exact p1.elim
theorem orT_ent {a b : Xe} {σ : St} {H : Hp} {Q : Bool → Hp → Prop} (t : tT (tE C Wx (P2.evE P Γ (.or a b))) σ H Q) : tOr (tT (tE C Wx (P2.evE P Γ a))) (tT (tE C Wx (P2.evE P Γ b))) σ H Q := by
  obtain ⟨B, W, L, h, r, p⟩ := t
  simp only [P2.evE] at p
  refine ⟨B, W, L, h, r, p.run fun v H1 d h1 W1 _ l1 r1 c1 p1 => ?_⟩
  split at p1
  · cases c1
    refine ⟨true, rfl, ?_⟩
    dsimp only
    rw [if_pos rfl]
    obtain ⟨k, hk, q⟩ := p1.ok r1 (.bl _)
    cases hk
    exact q
  · cases c1
    refine ⟨false, rfl, ?_⟩
    dsimp only
    rw [if_neg (by decide)]
    refine ⟨B, W1, L, h1, r1, p1.run fun u H2 d2 h2 W2 _ l2 r2 c2 p2 => ?_⟩
    split at p2
    · cases c2
      exact p2.ok r2 (.bl _)
    · exact p2.elim
  · exact p1.elim
theorem sem_and2 {a b : Xe} {x y : Expr} {pos : Pos} (ha : OkE P C Γ X Wx a x) (hb : OkE P C Γ X Wx b y) : OkE P C Γ X Wx (.and a b) (.BoolOp .And [x, y] pos) := by
  have pw : PW X (.BoolOp .And [x, y] pos) (tT (tE C Wx (P2.evE P Γ (.and a b)))) := PW.imp (pw_and ha.pt (pw_and1 hb.pt)) fun σ H Q t => andT_ent t
  exact OkE.of rfl (fun _ _ => by simp only [P2.evA]) (PE.imp (pe_and ha.pe (pe_one hb.pe)) fun σ H Q t => and_ent t) pw.pt fun op vs p e => by cases e; exact pw
theorem sem_andN {a b : Xe} {x y z : Expr} {r : List Expr} {pos : Pos} (ha : OkE P C Γ X Wx a x) (hb : OkE P C Γ X Wx b (.BoolOp .And (y :: z :: r) pos)) : OkE P C Γ X Wx (.and a b) (.BoolOp .And (x :: y :: z :: r) pos) := by
  have pw : PW X (.BoolOp .And (x :: y :: z :: r) pos) (tT (tE C Wx (P2.evE P Γ (.and a b)))) := PW.imp (pw_and ha.pt (hb.pw _ _ _ rfl)) fun σ H Q t => andT_ent t
  exact OkE.of rfl (fun _ _ => by simp only [P2.evA]) (PE.imp (pe_and ha.pe hb.pe) fun σ H Q t => and_ent t) pw.pt fun op vs p e => by cases e; exact pw
theorem sem_or2 {a b : Xe} {x y : Expr} {pos : Pos} (ha : OkE P C Γ X Wx a x) (hb : OkE P C Γ X Wx b y) : OkE P C Γ X Wx (.or a b) (.BoolOp .Or [x, y] pos) := by
  have pw : PW X (.BoolOp .Or [x, y] pos) (tT (tE C Wx (P2.evE P Γ (.or a b)))) := PW.imp (pw_or ha.pt (pw_or1 hb.pt)) fun σ H Q t => orT_ent t
  exact OkE.of rfl (fun _ _ => by simp only [P2.evA]) (PE.imp (pe_or ha.pe (pe_one hb.pe)) fun σ H Q t => or_ent t) pw.pt fun op vs p e => by cases e; exact pw
theorem sem_orN {a b : Xe} {x y z : Expr} {r : List Expr} {pos : Pos} (ha : OkE P C Γ X Wx a x) (hb : OkE P C Γ X Wx b (.BoolOp .Or (y :: z :: r) pos)) : OkE P C Γ X Wx (.or a b) (.BoolOp .Or (x :: y :: z :: r) pos) := by
  have pw : PW X (.BoolOp .Or (x :: y :: z :: r) pos) (tT (tE C Wx (P2.evE P Γ (.or a b)))) := PW.imp (pw_or ha.pt (hb.pw _ _ _ rfl)) fun σ H Q t => orT_ent t
  exact OkE.of rfl (fun _ _ => by simp only [P2.evA]) (PE.imp (pe_or ha.pe hb.pe) fun σ H Q t => or_ent t) pw.pt fun op vs p e => by cases e; exact pw
end
end P2S
end

section
/-! P2Exp2: lists of expressions, subscripts, calls, built-ins. -/
set_option autoImplicit false
set_option Elab.async false
set_option linter.all false
set_option maxRecDepth 100000
set_option maxHeartbeats 1000000
namespace P2S
open PySem PySem.Spec L2
open P2 (D DO DHp Exn Slot snap R SR Run Pg Xe Xes Xo Xi Xt Xs Xss Xh Fn Bi)
section
variable {T : Tb} {P : Pg} {C : Cfg} {Γ : P2.Run} {N : List Str} {k : Nat} {cm : Bool} {X : Cx} {sc : Scope} {Wx : Wq}
/-! ### if-else -/
theorem pt_ite {c x y : Expr} {pos : Pos} {tc ta tb : TT} (hc : PT X c tc) (ha : PT X x ta) (hb : PT X y tb) : PT X (.IfExp c x y pos) (fun σ H Q => tc σ H fun b H1 => if b = true then ta σ H1 Q else tb σ H1 Q) := by
  refine ⟨fun pins s σ H Q I h => ?_⟩
  rw [arm_isTrue_IfExp]
  refine wpAny_bind (thn (hc.run pins s σ H _ I h) fun d s1 ⟨H1, I1, q1⟩ => ?_)
  cases d with
  | true => exact ha.run pins s1 σ H1 Q I1 q1
  | false => exact hb.run pins s1 σ H1 Q I1 q1
theorem sem_ite {c a b : Xe} {z x y : Expr} {pos : Pos} (hc : OkE P C Γ X Wx c z) (ha : OkE P C Γ X Wx a x) (hb : OkE P C Γ X Wx b y) : OkE P C Γ X Wx (.ite c a b) (.IfExp z x y pos) := by
  refine OkE.of rfl (fun _ _ => by simp only [P2.evA]) (PE.imp (pe_ifExp hc.pt ha.pe hb.pe) fun σ H Q ⟨B, W, L, h, r, p⟩ => ?_) (PT.imp (pt_ite hc.pt ha.pt hb.pt) fun σ H Q ⟨B, W, L, h, r, p⟩ => ?_) fun op vs p e => by cases e
  · simp only [P2.evE] at p
    refine ⟨B, W, L, h, r, p.run fun v H1 d h1 W1 _ l1 r1 c1 p1 => ?_⟩
    split at p1
    · cases c1
      refine ⟨true, rfl, ?_⟩
      dsimp only
      rw [if_pos rfl]
      exact ⟨B, W1, L, h1, r1, p1⟩
    · cases c1
      refine ⟨false, rfl, ?_⟩
      dsimp only
      rw [if_neg (by decide)]
      exact ⟨B, W1, L, h1, r1, p1⟩
    · exact p1.elim
  · simp only [P2.evE] at p
    refine ⟨B, W, L, h, r, p.run fun v H1 d h1 W1 _ l1 r1 c1 p1 => ?_⟩
    split at p1
    · cases c1
      refine ⟨true, rfl, ?_⟩
      dsimp only
      rw [if_pos rfl]
      exact ⟨B, W1, L, h1, r1, p1⟩
    · cases c1
      refine ⟨false, rfl, ?_⟩
      dsimp only
      rw [if_neg (by decide)]
      exact ⟨B, W1, L, h1, r1, p1⟩
    · exact p1.elim

/-! ### several expressions -/
structure OkEs (P : Pg) (C : Cfg) (Γ : P2.Run) (X : Cx) (Wx : Wq) (es : Xes) (xs : List Expr) : Prop where
  ok : ∀ x ∈ xs, okX x = true
  len : ∀ L h ds h', P2.evEs P Γ es L h = .ok ds h' → ds.length = xs.length
  pa : PA X xs (tEs C Wx (P2.evEs P Γ es))
structure OkAs (P : Pg) (C : Cfg) (Γ : P2.Run) (X : Cx) (Wx : Wq) (es : Xes) (xs : List Expr) : Prop where
  ok : ∀ x ∈ xs, okX x = true
  pa : PA X xs (tAs C Wx (P2.evAs P Γ es))
theorem sems_nil : OkEs P C Γ X Wx .nil [] :=
  ⟨fun x h => (nomatch h), fun L h ds h' e => by simp only [P2.evEs, R.ok.injEq] at e; rw [← e.1]; rfl, PA.imp pa_nil fun σ H Q ⟨B, W, L, h, r, p⟩ => by
    simp only [P2.evEs] at p
    exact p.ok r .nil⟩
theorem semas_nil : OkAs P C Γ X Wx .nil [] :=
  ⟨fun x h => (nomatch h), PA.imp pa_nil fun σ H Q ⟨B, W, L, h, r, p⟩ => by
    simp only [P2.evAs] at p
    exact p.ok r .nil⟩
theorem sems_cons {e : Xe} {es : Xes} {x : Expr} {xs : List Expr} (ha : OkE P C Γ X Wx e x) (hr : OkEs P C Γ X Wx es xs) : OkEs P C Γ X Wx (.cons e es) (x :: xs) := by
  refine ⟨fun y hy => ?_, fun L h ds h' q => ?_, PA.imp (pa_cons ha.pe hr.pa (okX_star ha.ok)) fun σ H Q ⟨B, W, L, h, r, p⟩ => ?_⟩
  · rcases List.mem_cons.mp hy with rfl | hy
    · exact ha.ok
    · exact hr.ok y hy
  · simp only [P2.evEs] at q
    cases h1 : P2.evE P Γ e L h with
    | ok d h1' =>
      rw [h1] at q
      cases h2 : P2.evEs P Γ es L h1' with
      | ok ds2 h2' =>
        simp only [R.bind, h2, R.ok.injEq] at q
        rw [← q.1, List.length_cons, List.length_cons, hr.len L h1' ds2 h2' h2]
      | ex x hx => simp [R.bind, h2] at q
      | stk => simp [R.bind, h2] at q
    | ex x hx => rw [h1] at q; simp [R.bind] at q
    | stk => rw [h1] at q; simp [R.bind] at q
  · simp only [P2.evEs] at p
    exact ⟨B, W, L, h, r, p.run fun v H1 d h1 W1 _ l1 r1 c1 p1 => ⟨B, W1, L, h1, r1, p1.run fun vs H2 ds h2 W2 _ l2 r2 c2 p2 => p2.ok r2 (.cons (Rep.le l2.1 l2.2 c1) c2)⟩⟩
theorem semas_cons {e : Xe} {es : Xes} {x : Expr} {xs : List Expr} (ha : OkE P C Γ X Wx e x) (hr : OkAs P C Γ X Wx es xs) : OkAs P C Γ X Wx (.cons e es) (x :: xs) := by
  refine ⟨fun y hy => ?_, PA.imp (pa_cons ha.pa hr.pa (okX_star ha.ok)) fun σ H Q ⟨B, W, L, h, r, p⟩ => ?_⟩
  · rcases List.mem_cons.mp hy with rfl | hy
    · exact ha.ok
    · exact hr.ok y hy
  · simp only [P2.evAs] at p
    exact ⟨B, W, L, h, r, p.run fun v H1 d h1 W1 _ l1 r1 c1 p1 => ⟨B, W1, L, h1, r1, p1.run fun vs H2 ds h2 W2 _ l2 r2 c2 p2 => p2.ok r2 (.cons (c1.le l2) c2)⟩⟩
theorem small_line {n : Nat} (h : n ≤ 1000) : n ≤ sizeLine := by rw [sizeLine_eq]; omega
theorem Po.vrL {B : Bs} {W : GW} {L : List Slot} {h : DHp} {σ : St} {H : Hp} {d : D} {Q : VK} (p : Po C Wx (rE C) B L σ W (.ok d h) Q) (r : HR C B W L h σ H) : VR C W.F W.ρ H d Q := p.vr r
theorem sem_tup {es : Xes} {xs : List Expr} {x1 : Nat} {pos : Pos} (hn : xs.length ≤ 1000) (hs : OkEs P C Γ X Wx es xs) : OkE P C Γ X Wx (.tup es) (.Tuple xs x1 pos) :=
  OkE.val rfl rfl (fun _ _ => by simp only [P2.evA]) (PE.imp (pe_tup hs.pa) fun σ H Q ⟨B, W, L, h, r, p⟩ => by
    simp only [P2.evE] at p
    refine ⟨B, W, L, h, r, p.run fun vs H1 ds h1 W1 e1 l1 r1 c1 p1 => ⟨?_, fun q hq => (p1.vr r1).tup r1.fz hq c1⟩⟩
    rw [Reps.length c1, hs.len L h ds h1 e1]
    exact small_line hn)
theorem sem_lst {es : Xes} {xs : List Expr} {pos : Pos} (hn : xs.length ≤ 1000) (hs : OkEs P C Γ X Wx es xs) : OkE P C Γ X Wx (.lst es) (.List xs pos) :=
  OkE.val rfl rfl (fun _ _ => by simp only [P2.evA]) (PE.imp (pe_lst hs.pa) fun σ H Q ⟨B, W, L, h, r, p⟩ => by
    simp only [P2.evE] at p
    refine ⟨B, W, L, h, r, p.run fun vs H1 ds h1 W1 e1 l1 r1 c1 p1 => ⟨?_, fun q hq => (p1.vr r1).lst r1.fz hq c1⟩⟩
    rw [Reps.length c1, hs.len L h ds h1 e1]
    exact small_line hn)
theorem get_last {α : Type} {l : List α} {x : α} : (l ++ [x])[l.length]? = some x := by simp
theorem sem_newL {es : Xes} {xs : List Expr} {pos : Pos} (hn : xs.length ≤ 1000) (hs : OkEs P C Γ X Wx es xs) : OkE P C Γ X Wx (.newL es) (.List xs pos) :=
  OkE.val rfl rfl (fun _ _ => by simp only [P2.evA]) (PE.imp (pe_lst hs.pa) fun σ H Q ⟨B, W, L, h, r, p⟩ => by
    simp only [P2.evE] at p
    refine ⟨B, W, L, h, r, p.run fun vs H1 ds h1 W1 e1 l1 r1 c1 p1 => ⟨?_, fun q hq => ?_⟩⟩
    · rw [Reps.length c1, hs.len L h ds h1 e1]
      exact small_line hn
    · have rn := r1.newLoc (o := .lst ds) (ho := .lst vs) hq ⟨vs, upd_same, c1⟩
      refine p1 ⟨W1.F, W1.ρ ++ [q]⟩ _ (.ref q) ⟨Le.refl _, ⟨[q], rfl⟩⟩ rn (.loc ?_)
      rw [r1.len]
      exact get_last)

/-! ### subscripts -/
theorem sem_idx {a b : Xe} {x y : Expr} {pos : Pos} (oX : XOk T P C Γ N k cm X sc Wx) (ha : OkE P C Γ X Wx a x) (hb : OkE P C Γ X Wx b y) : OkE P C Γ X Wx (.idx a b) (.Subscript x y pos) :=
  OkE.val rfl rfl (fun _ _ => by simp only [P2.evA]) (PE.imp (pe_ix (ixR_idx (C := C) oX.st.hK) ha.pa hb.pe (okX_ix hb.ok)) fun σ H Q ⟨B, W, L, h, r, p⟩ => by
    simp only [P2.evE] at p
    refine ⟨B, W, L, h, r, p.run fun v H1 d h1 W1 _ l1 r1 c1 p1 => ⟨B, W1, L, h1, r1, p1.run fun u H2 d2 h2 W2 _ l2 r2 c2 p2 => ?_⟩⟩
    split at p2
    · rename_i x' hx
      obtain ⟨z, hz, p3⟩ := p2.toR
      exact ⟨W2.F, W2.ρ, x', d2, z, r2.fz, deref_con r2 (c1.le l2) hx, .rep c2, hz, p3.vr r2⟩
    · exact p2.elim)
def rO : Rl (Option Int) (Option Int) := fun _ _ _ o a => o = a
abbrev tO (C : Cfg) (Wx : Wq) (m : List Slot → DHp → R (Option Int)) : TO := tG C Wx rO m
structure OkO (P : Pg) (C : Cfg) (Γ : P2.Run) (X : Cx) (Wx : Wq) (e : Xo) (x : Option Expr) : Prop where
  po : PO X x (tO C Wx (P2.evO P Γ e))
theorem PO.imp {x : Option Expr} {t t' : TO} (p : PO X x t) (k : ∀ σ H Q, t' σ H Q → t σ H Q) : PO X x t' := ⟨fun pins s σ H Q I q => p.run pins s σ H Q I (k σ H Q q)⟩
theorem semo_none : OkO P C Γ X Wx .none none := ⟨PO.imp po_none fun σ H Q ⟨B, W, L, h, r, p⟩ => by
  simp only [P2.evO] at p
  exact p.ok r rfl⟩
theorem semo_some {e : Xe} {x : Expr} (h : OkE P C Γ X Wx e x) : OkO P C Γ X Wx (.some e) (some x) := ⟨PO.imp (po_some h.pe) fun σ H Q ⟨B, W, L, h, r, p⟩ => by
  simp only [P2.evO] at p
  refine ⟨B, W, L, h, r, p.run fun v H1 d h1 W1 _ l1 r1 c1 p1 => ?_⟩
  split at p1
  · cases c1
    exact ⟨_, rfl, p1.ok r1 rfl⟩
  · exact p1.elim⟩
theorem sem_sl {a : Xe} {lo hi : Xo} {x : Expr} {l u : Option Expr} {p2 pos : Pos} (oX : XOk T P C Γ N k cm X sc Wx) (ha : OkE P C Γ X Wx a x) (hl : OkO P C Γ X Wx lo l) (hu : OkO P C Γ X Wx hi u) : OkE P C Γ X Wx (.sl a lo hi) (.Subscript x (.Slice l u none p2) pos) :=
  OkE.val rfl rfl (fun _ _ => by simp only [P2.evA]) (PE.imp (pe_slice (slR_slice (C := C) oX.st.hK) ha.pa hl.po hu.po) fun σ H Q ⟨B, W, L, h, r, p⟩ => by
    simp only [P2.evE] at p
    refine ⟨B, W, L, h, r, p.run fun v H1 d h1 W1 _ l1 r1 c1 p1 => ⟨B, W1, L, h1, r1, p1.run fun u1 H2 d2 h2 W2 _ l2 r2 c2 p2 => ⟨B, W2, L, h2, r2, p2.run fun u2 H3 d3 h3 W3 _ l3 r3 c3 p3 => ?_⟩⟩⟩
    cases (show u1 = d2 from c2)
    cases (show u2 = d3 from c3)
    split at p3
    · rename_i x' hx
      obtain ⟨z, hz, p4⟩ := p3.toR
      exact ⟨W3.F, W3.ρ, x', z, r3.fz, deref_con r3 (c1.le (l2.trans l3)) hx, hz, p4.vr r3⟩
    · exact p3.elim)
theorem sem_rev {a : Xe} {x : Expr} {j : Nat} {p1 p2 p3 pos : Pos} (ha : OkE P C Γ X Wx a x) : OkE P C Γ X Wx (.rev a) (.Subscript x (.Slice none none (some (.UnaryOp .USub (.Constant (.int 1) j p1) p2)) p3) pos) :=
  OkE.val rfl rfl (fun _ _ => by simp only [P2.evA]) (PE.imp (pe_revL ha.pa) fun σ H Q ⟨B, W, L, h, r, p⟩ => by
    simp only [P2.evE] at p
    refine ⟨B, W, L, h, r, p.run fun v H1 d h1 W1 _ l1 r1 c1 p1 => ?_⟩
    split at p1
    · rename_i xs hx
      have cc := deref_con r1 c1 hx
      obtain ⟨b, vs, rfl, h2, r2⟩ := cc.lst' r1.fz
      exact ⟨b, vs, rfl, .inl h2, fun q hq => (p1.vr r1).lst r1.fz hq r2.reverse⟩
    · exact p1.elim)

/-! ### calls -/
theorem call_ent {f : Nat} {F : Fn} {es : Xes} {σ : St} {H : Hp} {Q : VK} (hF : P.fns[f]? = some F) (hn : F.np ≤ F.n) (t : tE C Wx (P2.evE P Γ (.call f es)) σ H Q) : tCallG (spF C F (Γ f)) (WE Wx.w) (tEs C Wx (P2.evEs P Γ es)) σ H Q := by
  obtain ⟨B, W, L, h, r, p⟩ := t
  simp only [P2.evE] at p
  refine ⟨B, W, L, h, r, p.run fun vs H1 ds h1 W1 _ l1 r1 c1 p1 => ?_⟩
  unfold P2.callF at p1
  rw [hF] at p1
  dsimp only at p1
  split at p1
  · rename_i hl
    refine ⟨B, W1, h1, ds.map Slot.val, none, r1.toHS, by rw [Reps.length c1, hl], by rw [List.length_map, hl], hn, fun i s e => .inl ?_, (fun a z => nomatch z), ?_⟩
    · rw [List.getElem?_map, Option.map_eq_some_iff] at e
      obtain ⟨d, hd, rfl⟩ := e
      obtain ⟨v, hv, rv⟩ := Reps.get c1 hd
      exact ⟨d, v, rfl, hv, rv⟩
    · cases hm : Γ f (List.map Slot.val ds ++ List.replicate (F.n - F.np) Slot.emp) h1 with
      | ok q h' =>
        rw [hm] at p1
        intro W' H' v hs rv _
        exact p1 W' H' v ⟨hs.fz0, hs.ρ0⟩ (r1.call hs (fun a z => nomatch z) (fun j o a _ _ z => nomatch z)) rv
      | ex x h' =>
        rw [hm] at p1
        intro W' H' cls dd hs ro
        exact p1 W' H' cls dd ⟨hs.fz0, hs.ρ0⟩ (r1.call hs (fun a z => nomatch z) (fun j o a _ _ z => nomatch z)) ro
      | stk => rw [hm] at p1; exact p1
  · exact p1.elim
theorem plain_any {es : List Expr} (h : ∀ x ∈ es, okX x = true) (pos : Pos) (env : Env) : (backTo pos (starEach es env)).any (·.1) = false := by
  induction es with
  | nil => rfl
  | cons e es ih =>
    rw [okX_star (h e (List.mem_cons_self ..))]
    show (false || (backTo pos (starEach es env)).any (·.1)) = false
    rw [ih fun x hx => h x (List.mem_cons_of_mem _ hx)]
    rfl
theorem sem_call {f : Nat} {es : Xes} {x : Str} {e : Expr} {xs : List Expr} {p pos : Pos} (oX : XOk T P C Γ N k true X sc Wx) (hf : T.fns[f]? = some x) (hg : isGl sc x = true) (hn : okN x = true) (hsup : x ≠ "super") (hs : OkEs P C Γ X Wx es (e :: xs)) :
    OkE P C Γ X Wx (.call f es) (.Call (.Name x p) (e :: xs) [] pos) := by
  obtain ⟨F, fd, ps, h1, hnp, h2, h3, h4, h5⟩ := oX.st.fns f x hf
  refine OkE.val (decide_eq_true hsup) rfl (fun _ _ => by simp only [P2.evA]) (PE.imp (pe_callG h5 (oX.hd rfl) oX.rm (gl_of oX.hsc hg) h2 h3 h4 oX.tk hs.pa (okN_of hn).1 (okX_star (hs.ok e (List.mem_cons_self ..))) (plain_any (fun y hy => hs.ok y (List.mem_cons_of_mem _ hy)) _ _)) fun σ H Q t => call_ent h1 hnp t)

/-! ### built-ins -/
def NoLen (P : Pg) : Prop := ∀ c : Nat, ((P.cls[c]?).bind fun (z : P2.Cl) => z.len) = none
theorem bi_ent {b : Bi} {es : Xes} {σ : St} {H : Hp} {Q : VK} (hl : NoLen P) (t : tE C Wx (P2.evE P Γ (.bi b es)) σ H Q) : tCB (rDn C (P2.bi b)) (tAs C Wx (P2.evAs P Γ es)) σ H Q := by
  obtain ⟨B, W, L, h, r, p⟩ := t
  simp only [P2.evE] at p
  refine ⟨B, W, L, h, r, p.run fun vs H1 ds h1 W1 _ l1 r1 c1 p1 => ?_⟩
  split at p1
  · rename_i xs hx
    split at p1
    · rw [hl _] at p1
      exact p1.elim
    · obtain ⟨z, hz, p2⟩ := p1.toR
      exact ⟨W1.F, W1.ρ, xs, z, r1.fz, derefs_con r1 c1 hx, hz, p2.vr r1⟩
  · exact p1.elim
theorem sem_biB {b : Bi} {es : Xes} {x : Str} {id : String} {e : Expr} {xs : List Expr} {p pos : Pos} (oX : XOk T P C Γ N k cm X sc Wx) (hl : NoLen P) (hx : isB T sc x (PySem.Str.ofString id) = true) (hsup : x ≠ "super") (hv : bootBuiltins (PySem.Str.ofString id) = some (.builtin id)) (hc : CallR X (.builtin id) (rDn C (P2.bi b)))
    (hs : OkAs P C Γ X Wx es (e :: xs)) : OkE P C Γ X Wx (.bi b es) (.Call (.Name x p) (e :: xs) [] pos) := by
  obtain ⟨rfl, g, m, d1, d2⟩ := isB_of oX hx
  exact OkE.val (decide_eq_true hsup) rfl (fun _ _ => by simp only [P2.evA]) (PE.imp (pe_callB hc g m hv hs.pa d2 d1 (okX_star (hs.ok e (List.mem_cons_self ..))) (plain_any (fun y hy => hs.ok y (List.mem_cons_of_mem _ hy)) _ _)) fun σ H Q t => bi_ent hl t)
theorem sem_biT {b : Bi} {es : Xes} {x : Str} {id : String} {e : Expr} {xs : List Expr} {p pos : Pos} (oX : XOk T P C Γ N k cm X sc Wx) (hl : NoLen P) (hx : isB T sc x (PySem.Str.ofString id) = true) (hsup : x ≠ "super") (hv : bootBuiltins (PySem.Str.ofString id) = some (.type id)) (hc : CallR X (.type id) (rDn C (P2.bi b)))
    (hs : OkAs P C Γ X Wx es (e :: xs)) : OkE P C Γ X Wx (.bi b es) (.Call (.Name x p) (e :: xs) [] pos) := by
  obtain ⟨rfl, g, m, d1, d2⟩ := isB_of oX hx
  exact OkE.val (decide_eq_true hsup) rfl (fun _ _ => by simp only [P2.evA]) (PE.imp (pe_callTy hc g m hv hs.pa d2 d1 (okX_star (hs.ok e (List.mem_cons_self ..))) (plain_any (fun y hy => hs.ok y (List.mem_cons_of_mem _ hy)) _ _)) fun σ H Q t => bi_ent hl t)
end
end P2S
end

section
/-! P2Exp3: isinstance, list(range(..)), repr. -/
set_option autoImplicit false
set_option Elab.async false
set_option linter.all false
set_option maxRecDepth 100000
set_option maxHeartbeats 1000000
namespace P2S
open PySem PySem.Spec L2
open P2 (D DO DHp Exn Slot snap R SR Run Pg Xe Xes Xo Xi Xt Xs Xss Xh Fn Bi)
section
variable {T : Tb} {P : Pg} {C : Cfg} {Γ : P2.Run} {N : List Str} {k : Nat} {cm : Bool} {X : Cx} {sc : Scope} {Wx : Wq}
theorem okX_call {x : Str} {args : List Expr} {kws : List Keyword} {p pos : Pos} (h : x ≠ "super") : okX (.Call (.Name x p) args kws pos) = true := decide_eq_true h
theorem evAs_one {a : Xe} {L : List Slot} {h : DHp} : P2.evAs P Γ (.cons a .nil) L h = R.bind (P2.evA P Γ a L h) fun d h1 => .ok [d] h1 := by
  simp only [P2.evAs]
  cases P2.evA P Γ a L h <;> rfl
/-- one operand of a built-in -/
theorem bi1_ent {b : Bi} {a : Xe} {σ : St} {H : Hp} {Q : VK} {Q' : VK} (hb : b ≠ .len) (t : tE C Wx (P2.evE P Γ (.bi b (.cons a .nil))) σ H Q)
    (k : ∀ B L h1 W1 v H1 d, HR C B W1 L h1 σ H1 → P2.bi b [d] ≠ none → (∀ z, P2.bi b [d] = some z → Po C Wx (rE C) B L σ W1 (.ok z h1) Q) → (∀ H2, HR C B W1 L h1 σ H2 → Le H1 H2 → Con C W1.F W1.ρ H2 v d) → Q' v H1) : tA C Wx (P2.evA P Γ a) σ H Q' := by
  obtain ⟨B, W, L, h, r, p⟩ := t
  simp only [P2.evE, evAs_one] at p
  refine ⟨B, W, L, h, r, ?_⟩
  cases hm : P2.evA P Γ a L h with
  | ok d h1 =>
    rw [hm] at p
    intro W1 H1 v l1 r1 c1
    replace p := Po.le l1 p
    simp only [R.bind] at p
    simp only [P2.derefs] at p
    cases hd : P2.deref L h1 d with
    | none => rw [hd] at p; exact p.elim
    | some x =>
      rw [hd] at p
      simp only [Option.map_some] at p
      have p' : Po C Wx (rE C) B L σ W1 (P2.toR (P2.bi b [x]) h1) Q := by
        cases b <;> first | exact (hb rfl).elim | exact p
      cases hz : P2.bi b [x] with
      | none => rw [hz] at p'; exact p'.elim
      | some z =>
        rw [hz] at p'
        refine k B L h1 W1 v H1 x r1 (by rw [hz]; simp) (fun z' e => ?_) fun H2 r2 g => deref_con r2 c1 hd
        rw [hz] at e
        cases e
        exact p'
  | ex x h1 => rw [hm] at p; exact p
  | stk => rw [hm] at p; exact p

/-! ### isinstance -/
theorem sem_is {b : Bi} {ty : String} {f : Nat → Bool} {a : Xe} {x z : Str} {y : Expr} {p p2 pos : Pos} (oX : XOk T P C Γ N k cm X sc Wx) (hb : b ≠ .len) (hbi : ∀ d, P2.bi b [d] = (P2.kindD d).map fun k => D.bl (f k)) (hf : ∀ k, k < 7 → kitB (tyN k) ty = some (f k))
    (hx : isB T sc x "isinstance" = true) (hz : isB T sc z (PySem.Str.ofString ty) = true) (hv : bootBuiltins (PySem.Str.ofString ty) = some (.type ty)) (ha : OkE P C Γ X Wx a y) : OkE P C Γ X Wx (.bi b (.cons a .nil)) (.Call (.Name x p) [y, .Name z p2] [] pos) := by
  obtain ⟨rfl, g, m, d1, d2⟩ := isB_of oX hx
  obtain ⟨rfl, g2, m2, d3, d4⟩ := isB_of oX hz
  refine OkE.val (okX_call (by decide)) rfl (fun _ _ => by simp only [P2.evA]) (PE.imp (pe_callB (callR_is (C := C) (X := X) f oX.st.hK hf) g m (by decide +kernel) (pa_cons ha.pa (pa_cons (pe_bltn g2 m2 hv (v := .ty ty) rfl d4 d3) pa_nil rfl) (okX_star ha.ok)) d2 d1 (okX_star ha.ok) rfl) fun σ H Q t => ?_)
  refine bi1_ent hb t fun B L h1 W1 v H1 d r1 hn p1 c1 => ?_
  rw [hbi] at hn p1
  cases hk : P2.kindD d with
  | none => rw [hk] at hn; exact (hn rfl).elim
  | some k =>
    rw [hk] at p1
    exact ⟨W1.F, W1.ρ, v, d, k, rfl, r1.fz, c1 H1 r1 (Le.refl _), hk, (p1 _ rfl).ok r1 (.bl _)⟩
theorem sem_isRow {T1 T2 : String} {f1 f2 : Nat → Bool} {a : Xe} {x z z2 : Str} {y : Expr} {j : Nat} {p p2 p3 p4 pos : Pos} (oX : XOk T P C Γ N k cm X sc Wx) (hbi : ∀ k, (f1 k || f2 k) = (k == 4 || k == 5)) (hf1 : ∀ k, k < 7 → kitB (tyN k) T1 = some (f1 k)) (hf2 : ∀ k, k < 7 → kitB (tyN k) T2 = some (f2 k))
    (hx : isB T sc x "isinstance" = true) (hz : isB T sc z (PySem.Str.ofString T1) = true) (hz2 : isB T sc z2 (PySem.Str.ofString T2) = true) (hv : bootBuiltins (PySem.Str.ofString T1) = some (.type T1)) (hv2 : bootBuiltins (PySem.Str.ofString T2) = some (.type T2)) (ha : OkE P C Γ X Wx a y) :
    OkE P C Γ X Wx (.bi .isRow (.cons a .nil)) (.Call (.Name x p) [y, .Tuple [.Name z p2, .Name z2 p3] j p4] [] pos) := by
  obtain ⟨rfl, g, m, d1, d2⟩ := isB_of oX hx
  obtain ⟨rfl, g2, m2, d3, d4⟩ := isB_of oX hz
  obtain ⟨rfl, g3, m3, d5, d6⟩ := isB_of oX hz2
  refine OkE.val (okX_call (by decide)) rfl (fun _ _ => by simp only [P2.evA]) (PE.imp (pe_callB (callR_is2 (C := C) (X := X) f1 f2 oX.st.hK hf1 hf2) g m (by decide +kernel)
    (pa_cons ha.pa (pa_cons (pe_tup (pa_cons (pe_bltn g2 m2 hv (v := .ty T1) rfl d4 d3) (pa_cons (pe_bltn g3 m3 hv2 (v := .ty T2) rfl d6 d5) pa_nil rfl) rfl)) pa_nil rfl) (okX_star ha.ok)) d2 d1 (okX_star ha.ok) rfl) fun σ H Q t => ?_)
  refine bi1_ent (by decide) t fun B L h1 W1 v H1 d r1 hn p1 c1 => ?_
  have hb : P2.bi .isRow [d] = (P2.kindD d).map fun k => D.bl (k == 4 || k == 5) := rfl
  rw [hb] at hn p1
  cases hk : P2.kindD d with
  | none => rw [hk] at hn; exact (hn rfl).elim
  | some k =>
    rw [hk] at p1
    refine ⟨small_line (by simp), fun q hq => ?_⟩
    have e := Ext.waste (o := .tup [.ty T1, .ty T2]) r1.fz hq
    have r2 := r1.ext e
    refine ⟨W1.F, W1.ρ, v, d, k, q, rfl, upd_same, r2.fz, c1 _ r2 e.h, hk, ?_⟩
    rw [hbi]
    exact (p1 _ rfl) ⟨W1.F, W1.ρ⟩ _ (.bl _) (GW.le.refl W1) r2 (.bl _)

/-! ### list(range(..)) -/
theorem rng_reps {F : Hp} {ρ : List Addr} (a b : Int) : Reps C F ρ (rgV a b) (P2.rng a b 1) := by
  have e : P2.rng a b 1 = (List.range (b - a).toNat).map fun (k : Nat) => D.int (a + k) := by
    unfold P2.rng
    rw [if_pos (by decide)]
    have : (b - a + 1 - 1) / 1 = b - a := by omega
    rw [this]
    apply List.map_congr_left
    intro i _
    simp
  rw [e]
  unfold rgV
  generalize List.range (b - a).toNat = l
  induction l with
  | nil => exact .nil
  | cons i l ih => exact .cons (.int _) ih
theorem sem_rng1 {a : Xe} {x z : Str} {y : Expr} {p p2 p3 pos : Pos} (oX : XOk T P C Γ N k true X sc Wx) (hx : isB T sc x "list" = true) (hz : isB T sc z "range" = true) (ha : OkE P C Γ X Wx a y) :
    OkE P C Γ X Wx (.bi .rngList (.cons a .nil)) (.Call (.Name x p) [.Call (.Name z p2) [y] [] p3] [] pos) := by
  obtain ⟨rfl, g, m, d1, d2⟩ := isB_of oX hx
  obtain ⟨rfl, g2, m2, d3, d4⟩ := isB_of oX hz
  refine OkE.val (okX_call (by decide)) rfl (fun _ _ => by simp only [P2.evA]) (PE.imp (pe_listRg oX.calm g m (prg_1 g2 m2 ha.pa (okX_star ha.ok)) rfl) fun σ H Q t => ?_)
  refine bi1_ent (by decide) t fun B L h1 W1 v H1 d r1 hn p1 c1 => ?_
  cases d <;> simp only [P2.bi, ne_eq, not_true_eq_false] at hn
  rename_i b
  split at hn
  · rename_i hb
    have q := p1 (.lst (P2.rng 0 b 1)) (by simp only [P2.bi, if_pos hb])
    refine ⟨b, (c1 H1 r1 (Le.refl _)).int, ⟨by omega, by omega, by omega, by omega, by omega⟩, fun l hl => (q.vr r1).lst r1.fz hl (rng_reps 0 b)⟩
  · exact (hn rfl).elim
theorem evAs_two {a b : Xe} {L : List Slot} {h : DHp} : P2.evAs P Γ (.cons a (.cons b .nil)) L h = R.bind (P2.evA P Γ a L h) fun d h1 => R.bind (P2.evA P Γ b L h1) fun e h2 => .ok [d, e] h2 := by
  simp only [P2.evAs]
  cases h1 : P2.evA P Γ a L h with
  | ok d h' =>
    simp only [R.bind]
    cases P2.evA P Γ b L h' <;> rfl
  | ex x h' => rfl
  | stk => rfl
/-- two operands of a built-in -/
theorem bi2_ent {b : Bi} {a a2 : Xe} {σ : St} {H : Hp} {Q : VK} {Q' : V → V → Hp → Prop} (t : tE C Wx (P2.evE P Γ (.bi b (.cons a (.cons a2 .nil)))) σ H Q)
    (k : ∀ B L W1 h1 v H1 d' h2 W2 u H2 d e z, HR C B W1 L h1 σ H1 → rA C L σ W1 v d' → W1.le W2 → HR C B W2 L h2 σ H2 → P2.deref L h2 d' = some d → P2.bi b [d, e] = some z → Po C Wx (rE C) B L σ W2 (.ok z h2) Q → Con C W2.F W2.ρ H2 v d → Con C W2.F W2.ρ H2 u e → Q' v u H2) :
    tA C Wx (P2.evA P Γ a) σ H fun v H1 => tA C Wx (P2.evA P Γ a2) σ H1 fun u H2 => Q' v u H2 := by
  obtain ⟨B, W, L, h, r, p⟩ := t
  simp only [P2.evE, evAs_two] at p
  refine ⟨B, W, L, h, r, ?_⟩
  cases hm : P2.evA P Γ a L h with
  | ok d h1 =>
    rw [hm] at p
    intro W1 H1 v l1 r1 c1
    replace p := Po.le l1 p
    simp only [R.bind] at p
    refine ⟨B, W1, L, h1, r1, ?_⟩
    cases hm2 : P2.evA P Γ a2 L h1 with
    | ok d2 h2 =>
      rw [hm2] at p
      intro W2 H2 u l2 r2 c2
      replace p := Po.le l2 p
      simp only [P2.derefs] at p
      cases hd : P2.deref L h2 d with
      | none => rw [hd] at p; exact p.elim
      | some x =>
        rw [hd] at p
        cases hd2 : P2.deref L h2 d2 with
        | none => rw [hd2] at p; exact p.elim
        | some x2 =>
          rw [hd2] at p
          simp only [Option.map_some] at p
          have p' : Po C Wx (rE C) B L σ W2 (P2.toR (P2.bi b [x, x2]) h2) Q := by
            cases b <;> exact p
          obtain ⟨z, hz, q⟩ := p'.toR
          exact k B L W1 h1 v H1 d h2 W2 u H2 x x2 z r1 c1 l2 r2 hd hz q (deref_con r2 (c1.le l2) hd) (deref_con r2 c2 hd2)
    | ex x h2 => rw [hm2] at p; exact p
    | stk => rw [hm2] at p; exact p
  | ex x h1 => rw [hm] at p; exact p
  | stk => rw [hm] at p; exact p
theorem sem_rng2 {a a2 : Xe} {x z : Str} {y y2 : Expr} {p p2 p3 pos : Pos} (oX : XOk T P C Γ N k true X sc Wx) (hx : isB T sc x "list" = true) (hz : isB T sc z "range" = true) (ha : OkE P C Γ X Wx a y) (hb : OkE P C Γ X Wx a2 y2) :
    OkE P C Γ X Wx (.bi .rngList (.cons a (.cons a2 .nil))) (.Call (.Name x p) [.Call (.Name z p2) [y, y2] [] p3] [] pos) := by
  obtain ⟨rfl, g, m, d1, d2⟩ := isB_of oX hx
  obtain ⟨rfl, g2, m2, d3, d4⟩ := isB_of oX hz
  refine OkE.val (okX_call (by decide)) rfl (fun _ _ => by simp only [P2.evA]) (PE.imp (pe_listRg oX.calm g m (prg_2 g2 m2 ha.pa hb.pa (okX_star ha.ok) (okX_star hb.ok) (plain_any (fun e he => by simp at he; subst he; exact hb.ok) _ _)) rfl) fun σ H Q t => ?_)
  refine bi2_ent t fun B L W1 h1 v H1 d' h2 W2 u H2 d e z r1 c1 l2 r2 hd hz q cd ce => ?_
  cases d <;> cases e <;> simp only [P2.bi, reduceCtorEq] at hz
  split at hz
  · rename_i i j hb
    cases hz
    exact ⟨i, j, cd.int, ce.int, ⟨by omega, by omega, by omega, by omega, by omega⟩, fun l hl => (q.vr r2).lst r2.fz hl (rng_reps i j)⟩
  · cases hz
end
end P2S
end

section
/-! P2Exp4: repr. -/
set_option autoImplicit false
set_option Elab.async false
set_option linter.all false
set_option maxRecDepth 100000
set_option maxHeartbeats 1000000
namespace P2S
open PySem PySem.Spec L2
open P2 (D DO DHp Exn Slot snap R SR Run Pg Xe Xes Xo Xi Xt Xs Xss Xh Fn Bi)
section
theorem log2_small {i : Int} (h : i.natAbs < 10 ^ 18) : i.natAbs.log2 < 1920 := by
  by_cases h0 : i.natAbs = 0
  · rw [h0]; decide
  · have : i.natAbs < 2 ^ 1920 := Nat.lt_of_lt_of_le h (by decide)
    exact (Nat.log2_lt h0).mpr this
theorem piled_le {ts : List Str} : (listText ts).length ≤ piled ts + 2 := by
  cases ts with
  | nil => decide
  | cons t r =>
    have h := textFrom_length_pos r 1 (("[" : Str) ++ (if (0 : Nat) > 0 then ", " else "" : String) ++ t) (Nat.succ_pos 0)
    have e : ((("[" : Str) ++ (if (0 : Nat) > 0 then ", " else "" : String) ++ t)).length = 1 + t.length := by
      rw [strLen_append, strLen_append]; rfl
    have hX : (listText (t :: r)).length = (textFrom 0 "[" (t :: r)).length + 1 := by
      show (textFrom 0 "[" (t :: r) ++ "]").length = _
      rw [strLen_append]; rfl
    have hY : (textFrom 0 "[" (t :: r)).length = (textFrom 1 (("[" : Str) ++ (if (0 : Nat) > 0 then ", " else "" : String) ++ t) r).length := rfl
    rw [hX, hY, h, e, piled_cons]; omega
theorem piled_leT {ts : List Str} : (tupleText ts).length ≤ piled ts + 3 := by
  unfold tupleText
  rw [strLen_append, strLen_append]
  have h1 : ((if ts.length == 1 then ",)" else ")" : String) : Str).length ≤ 2 := by split <;> decide
  have h2 : (("(" : Str)).length = 1 := by decide
  by_cases h : ts = []
  · subst h
    have : (Str.join ", " []).length = 0 := by decide
    omega
  · have := join_length_add ts h
    omega
mutual
theorem rmx_ok : ∀ (n : Nat) (d : D), P2.pl n d = true → P2.rmx d ≤ 1000000 → (toPy d).showable = true ∧ (toPy d).hasDict = false ∧ (toPy d).shown.length ≤ P2.rmx d
  | _, .non, _, _ => ⟨rfl, rfl, by simp only [toPy, PyData.shown, P2.rmx]; decide⟩
  | _, .bl b, _, _ => ⟨rfl, rfl, by simp only [toPy, PyData.shown, P2.rmx]; cases b <;> decide⟩
  | _, .int i, _, h => by
    simp only [P2.rmx] at h
    split at h
    · rename_i hi
      refine ⟨?_, rfl, ?_⟩
      · simp only [toPy, PyData.showable]
        exact decide_eq_true (log2_small hi)
      · simp only [toPy, PyData.shown, P2.rmx, if_pos hi]
        have := int_text_length_le10 (a := i) (k := 18) (by decide) hi
        have e : (Str.ofString (toString i)).length = (toString i).length := ofString_length _
        omega
    · omega
  | _, .str s, _, h => by
    simp only [P2.rmx] at h
    split at h
    · rename_i hs
      refine ⟨rfl, rfl, ?_⟩
      simp only [toPy, PyData.shown, P2.rmx, if_pos hs]
      have := StrLaws.reprText_len (toS s) (fun c hc => by
        simp only [toS] at hc
        have := List.all_eq_true.mp hs c hc
        have : c < 1114112 := by simpa using this
        omega)
      rw [toS_length] at this
      exact this
    · omega
  | 0, .lst xs, h, _ => by simp [P2.pl] at h
  | 0, .tup xs, h, _ => by simp [P2.pl] at h
  | n + 1, .lst xs, h, hr => by
    simp only [P2.rmx] at hr
    obtain ⟨h1, h2, h3⟩ := rmxs_ok n xs (by simpa [P2.pl] using h) (by omega)
    refine ⟨by simpa only [toPy, PyData.showable] using h1, by simpa only [toPy, PyData.hasDict] using h2, ?_⟩
    simp only [toPy, PyData.shown, P2.rmx]
    have := piled_le (ts := PyData.shownAll (toPys xs))
    omega
  | n + 1, .tup xs, h, hr => by
    simp only [P2.rmx] at hr
    obtain ⟨h1, h2, h3⟩ := rmxs_ok n xs (by simpa [P2.pl] using h) (by omega)
    refine ⟨by simpa only [toPy, PyData.showable] using h1, by simpa only [toPy, PyData.hasDict] using h2, ?_⟩
    simp only [toPy, PyData.shown, P2.rmx]
    have := piled_leT (ts := PyData.shownAll (toPys xs))
    omega
  | _, .dct _, h, _ => by simp [P2.pl] at h
  | _, .obj _ _, h, _ => by simp [P2.pl] at h
  | _, .loc _, h, _ => by simp [P2.pl] at h
  | _, .fn _, h, _ => by simp [P2.pl] at h
  | _, .own _, h, _ => by simp [P2.pl] at h
theorem rmxs_ok : ∀ (n : Nat) (xs : List D), P2.pls n xs = true → P2.rmxs xs ≤ 1000000 → PyData.showableAll (toPys xs) = true ∧ PyData.hasDictAll (toPys xs) = false ∧ piled (PyData.shownAll (toPys xs)) ≤ P2.rmxs xs
  | _, [], _, _ => ⟨rfl, rfl, by simp [toPys, PyData.shownAll, P2.rmxs, piled]⟩
  | n, x :: xs, h, hr => by
    have h' : P2.pl n x = true ∧ P2.pls n xs = true := by simpa [P2.pls] using h
    simp only [P2.rmxs] at hr
    obtain ⟨a1, a2, a3⟩ := rmx_ok n x h'.1 (by omega)
    obtain ⟨b1, b2, b3⟩ := rmxs_ok n xs h'.2 (by omega)
    refine ⟨by simp only [toPys, PyData.showableAll, a1, b1, Bool.and_self], by simp only [toPys, PyData.hasDictAll, a2, b2, Bool.or_self], ?_⟩
    simp only [toPys, PyData.shownAll, P2.rmxs, piled_cons]
    omega
end
theorem same_eq : ∀ (a b : D), P2.same a b = true → a = b := by
  intro a
  exact (P2.D.rec (motive_1 := fun a => ∀ b, P2.same a b = true → a = b) (motive_2 := fun xs => ∀ ys, P2.sames xs ys = true → xs = ys) (motive_3 := fun _ => True) (motive_4 := fun _ => True) (motive_5 := fun _ => True) (motive_6 := fun _ => True)
    (fun b h => by cases b <;> simp [P2.same] at h ⊢)
    (fun x b h => by cases b <;> simp [P2.same] at h ⊢; exact h)
    (fun x b h => by cases b <;> simp [P2.same] at h ⊢; exact h)
    (fun x b h => by cases b <;> simp [P2.same] at h ⊢; exact h)
    (fun xs ih b h => by cases b <;> simp [P2.same] at h ⊢; exact ih _ h)
    (fun xs ih b h => by cases b <;> simp [P2.same] at h ⊢; exact ih _ h)
    (fun _ _ b h => by cases b <;> simp [P2.same] at h) (fun _ _ _ b h => by cases b <;> simp [P2.same] at h) (fun _ b h => by cases b <;> simp [P2.same] at h) (fun _ b h => by cases b <;> simp [P2.same] at h) (fun _ b h => by cases b <;> simp [P2.same] at h)
    (fun ys h => by cases ys <;> simp [P2.sames] at h ⊢)
    (fun x xs h1 h2 ys h => by
      cases ys with
      | nil => simp [P2.sames] at h
      | cons y ys =>
        simp only [P2.sames, Bool.and_eq_true] at h
        rw [h1 y h.1, h2 ys h.2])
    trivial (fun _ _ _ _ => trivial) trivial (fun _ _ _ _ => trivial) (fun _ _ _ _ => trivial) (fun _ _ _ => trivial) a)
end
section
variable {T : Tb} {P : Pg} {C : Cfg} {Γ : P2.Run} {N : List Str} {k : Nat} {cm : Bool} {X : Cx} {sc : Scope} {Wx : Wq}
theorem callR_repr (hK : X.K = C.K) (rm : Rm k X.A) : CallR X (.builtin "repr") (fun xs H Q => ∃ F ρ x d, xs = [x] ∧ Le F H ∧ Con C F ρ H x d ∧ P2.plain d = true ∧ P2.rmx d ≤ 1000000 ∧ Q (.str (toPy d).shown) H) := by
  intro pins s σ H xs us Q I r ⟨F, ρ, x, d, e, l, c, hp, hr, q⟩
  subst e
  obtain ⟨u, rfl, ru⟩ := vals1 r
  obtain ⟨s1, s2, s3⟩ := rmx_ok 40 d hp hr
  have hz : (toPy d).shown.length ≤ sizeLine := by rw [sizeLine_eq]; omega
  have hdep := (pl_plain 40 d hp).2
  obtain ⟨as, ra⟩ := con_reads (n := 40) hK I l hp c ru
  have hu := rm.units
  have fin : ∀ h' t tk, (∀ b o, s.heap.get? b = some o → h'.get? b = some o) → EP X pins σ Q (.str (toPy d).shown t) { s with heap := h', toks := tk } := fun h' t tk kp => ⟨.str _, H, I.kept kp, ⟨t, rfl⟩, q⟩
  cases d with
  | non => rw [c.non] at ru; cases (show u = Value.none from ru); exact PySem.P.repr_of_none (fin _ _ _ fun _ _ e => e)
  | bl b => rw [c.bl] at ru; cases (show u = Value.bool b from ru); exact PySem.P.repr_of_bool (by have := fin s.heap s.toks (s.toks + 1) fun _ _ e => e; simpa only [toPy, PyData.shown] using this)
  | int i =>
    rw [c.int] at ru
    obtain ⟨t, rfl⟩ := ru
    have h1 : i.natAbs.log2 < 1920 := by simpa only [toPy, PyData.showable, decide_eq_true_eq] using s1
    exact PySem.P.repr_of_int h1 (by have := fin s.heap s.toks (s.toks + 1) fun _ _ e => e; simpa only [toPy, PyData.shown] using this)
  | str y =>
    rw [c.str] at ru
    obtain ⟨t, rfl⟩ := ru
    exact PySem.P.repr_of_str (by have := fin s.heap s.toks (s.toks + 1) fun _ _ e => e; simpa only [toPy, PyData.shown] using this) (by simpa only [toPy, PyData.shown] using hz)
  | lst ys =>
    obtain ⟨a, vs, rfl, h1, r1⟩ := c.lst' l
    cases (show u = Value.ref a from ru)
    exact repr_of_reads' ra s1 (fun z => by rw [s2] at z; cases z) rm.gd (by omega) (fun _ _ e => e) (fun h' u tk kp => fin h' u tk kp) hz
  | tup ys =>
    obtain ⟨a, vs, rfl, h1, r1⟩ := c.tup' l
    cases (show u = Value.ref a from ru)
    exact repr_of_reads' ra s1 (fun z => by rw [s2] at z; cases z) rm.gd (by omega) (fun _ _ e => e) (fun h' u tk kp => fin h' u tk kp) hz
  | dct _ => simp [P2.plain, P2.pl] at hp
  | obj _ _ => simp [P2.plain, P2.pl] at hp
  | loc _ => simp [P2.plain, P2.pl] at hp
  | fn _ => simp [P2.plain, P2.pl] at hp
  | own _ => simp [P2.plain, P2.pl] at hp
theorem op_strNe : OpR X (compareOp .NotEq) (fun x y H Q => ∃ a, x = .str a ∧ y = .str a ∧ Q (.bl false) H) := by
  intro pins s σ H x y v u Q I rx ry ⟨a, hx, hy, q⟩
  subst hx hy
  refine op_ne pins s σ H _ _ v u Q I rx ry ⟨rfl, ?_⟩
  simpa using q
theorem sem_rne {a a2 : Xe} {x z : Str} {y y2 : Expr} {p p2 p3 p4 pos : Pos} (oX : XOk T P C Γ N k cm X sc Wx) (hx : isB T sc x "repr" = true) (hz : isB T sc z "repr" = true) (ha : OkE P C Γ X Wx a y) (hb : OkE P C Γ X Wx a2 y2) :
    OkE P C Γ X Wx (.rne a a2) (.Compare (.Call (.Name x p) [y] [] p3) [.NotEq] [.Call (.Name z p2) [y2] [] p4] pos) := by
  obtain ⟨rfl, g, m, d1, d2⟩ := isB_of oX hx
  obtain ⟨rfl, g2, m2, d3, d4⟩ := isB_of oX hz
  have hv : bootBuiltins (PySem.Str.ofString "repr") = some (.builtin "repr") := by decide +kernel
  have pr : ∀ {e : Xe} {ex : Expr} {q q' : Pos}, OkE P C Γ X Wx e ex → PE X (.Call (.Name (PySem.Str.ofString "repr") q) [ex] [] q') (tCB (fun xs H Q => ∃ F ρ x d, xs = [x] ∧ Le F H ∧ Con C F ρ H x d ∧ P2.plain d = true ∧ P2.rmx d ≤ 1000000 ∧ Q (.str (toPy d).shown) H) (tCons (tE C Wx (P2.evE P Γ e)) tNil)) := fun he =>
    pe_callB (callR_repr oX.st.hK oX.rm) g m hv (pa_cons he.pe pa_nil (okX_star he.ok)) d2 d1 (okX_star he.ok) rfl
  have ent : ∀ σ H Q, tE C Wx (P2.evE P Γ (.rne a a2)) σ H Q →
      tOp (fun x y H Q => ∃ a, x = .str a ∧ y = .str a ∧ Q (.bl false) H) (tCB (fun xs H Q => ∃ F ρ x d, xs = [x] ∧ Le F H ∧ Con C F ρ H x d ∧ P2.plain d = true ∧ P2.rmx d ≤ 1000000 ∧ Q (.str (toPy d).shown) H) (tCons (tE C Wx (P2.evE P Γ a)) tNil))
        (tCB (fun xs H Q => ∃ F ρ x d, xs = [x] ∧ Le F H ∧ Con C F ρ H x d ∧ P2.plain d = true ∧ P2.rmx d ≤ 1000000 ∧ Q (.str (toPy d).shown) H) (tCons (tE C Wx (P2.evE P Γ a2)) tNil)) σ H Q := by
    intro σ H Q ⟨B, W, L, h, r, p⟩
    simp only [P2.evE] at p
    refine ⟨B, W, L, h, r, ?_⟩
    cases hm : P2.evE P Γ a L h with
    | ok d h1 =>
      rw [hm] at p
      intro W1 H1 v l1 r1 c1
      replace p := Po.le l1 p
      simp only [R.bind] at p
      split at p
      · rename_i hd
        simp only [Bool.and_eq_true, decide_eq_true_eq] at hd
        refine ⟨W1.F, W1.ρ, v, d, rfl, r1.fz, .rep c1, hd.1, hd.2, ⟨B, W1, L, h1, r1, p.run fun u H2 d2 h2 W2 _ l2 r2 c2 p2 => ?_⟩⟩
        obtain ⟨z, hz, q⟩ := p2.toR
        split at hz
        · rename_i hc
          have e := same_eq d d2 hc
          subst e
          cases hz
          exact ⟨W2.F, W2.ρ, u, d, rfl, r2.fz, .rep c2, hd.1, hd.2, _, rfl, rfl, q.ok r2 (.bl false)⟩
        · cases hz
      · exact p.elim
    | ex x h1 => rw [hm] at p; exact p
    | stk => rw [hm] at p; exact p
  have hm : behindInMarks .NotEq (.Call (.Name (PySem.Str.ofString "repr") p2) [y2] [] p4) = false := rfl
  exact OkE.of rfl (fun _ _ => by simp only [P2.evA]) (PE.imp (pe_cmpR op_strNe (pr ha) (pr hb) hm) ent) (PT.imp (pt_cmpR op_strNe (pr ha) (pr hb) hm) fun σ H Q t => ent σ H _ t) fun op vs p e => by cases e
end
end P2S
end

section
/-! P2Exp5: attributes; what loops and comprehensions walk. -/
set_option autoImplicit false
set_option Elab.async false
set_option linter.all false
set_option maxRecDepth 100000
set_option maxHeartbeats 1000000
namespace P2S
open PySem PySem.Spec L2
open P2 (D DO DHp Exn Slot snap R SR Run Pg Xe Xes Xo Xi Xt Xs Xss Xh Fn Bi)
section
variable {T : Tb} {P : Pg} {C : Cfg} {Γ : P2.Run} {N : List Str} {k : Nat} {cm : Bool} {X : Cx} {sc : Scope} {Wx : Wq}
theorem RepF.get {F : Hp} {ρ : List Addr} (inj : ∀ i j, C.nm i = C.nm j → i = j) : ∀ {gs : List (Str × V)} {fs : List (Nat × D)} {n : Nat} {d : D}, RepF C F ρ gs fs → P2.fGet fs n = some d → ∃ v, gs.lookup (C.nm n) = some v ∧ Rep C F ρ v d
  | _, _, n, d, .nil, e => by simp [P2.fGet] at e
  | _, _, n, d, @RepF.cons _ _ _ m v d' gs fs a b, e => by
    by_cases h : m = n
    · subst h
      have : d' = d := by simpa [P2.fGet] using e
      subst this
      exact ⟨v, by simp [List.lookup], a⟩
    · have e' : P2.fGet fs n = some d := by
        have hb : (m == n) = false := by simpa using h
        simpa [P2.fGet, List.find?, hb] using e
      obtain ⟨w, h1, h2⟩ := RepF.get inj b e'
      refine ⟨w, ?_, h2⟩
      have hb : (C.nm n == C.nm m) = false := by
        simpa using fun z => h (inj _ _ z).symm
      simp [List.lookup, hb, h1]
/-- a field of an object -/
theorem fld_at {B : Bs} {W : GW} {L : List Slot} {h : DHp} {σ : St} {H : Hp} {v : V} {c n : Nat} {fs : List (Nat × D)} {d : D} {nm : Str} {Q : VK} (oX : XOk T P C Γ N k cm X sc Wx) (hn : T.nms[n]? = some nm) (hf : n ∈ T.flds) (r : HR C B W L h σ H)
    (cc : Con C W.F W.ρ H v (.obj c fs)) (e : P2.fGet fs n = some d) (q : ∀ u, Rep C W.F W.ρ u d → Q u H) : ∃ a Cl dx gs u, v = .ref a ∧ H a = some (.ins Cl dx gs) ∧ Cls X.K Cl ∧ NoAttr X.K Cl nm ∧ gs.lookup nm = some u ∧ Q u H := by
  have : ∃ a dx gs, v = .ref a ∧ c < C.nc ∧ H a = some (.ins (C.cls c) dx gs) ∧ RepF C W.F W.ρ gs fs := by
    cases cc with
    | rep r1 => cases r1 with | obj hc h1 h2 => exact ⟨_, _, _, rfl, hc, r.fz _ _ h1, h2⟩
    | ins hc h1 h2 => exact ⟨_, _, _, rfl, hc, h1, h2⟩
  obtain ⟨a, dx, gs, rfl, hc, h1, h2⟩ := this
  obtain ⟨u, h3, h4⟩ := h2.get oX.st.nmI e
  rw [oX.st.nms n nm hn] at h3
  exact ⟨a, _, dx, gs, u, rfl, h1, (oX.st.cl c hc).1, (oX.st.cl c hc).2 n nm hf hn, h3, q u h4⟩
theorem sem_fldV {i n : Nat} {x nm : Str} {p pos : Pos} (oX : XOk T P C Γ N k cm X sc Wx) (hi : N[i]? = some x) (hv : isVis sc x = true) (hN : okN x = true) (hn : T.nms[n]? = some nm) (hf : n ∈ T.flds) : OkE P C Γ X Wx (.fld (.var i) n) (.Attribute (.Name x p) nm pos) := by
  have pv : PE X (.Name x p) (tVar i) := pe_var (by rw [oX.hN]; exact hi) (by rw [oX.hsc]; exact vis_of hv) (okN_of hN).1 (okN_of hN).2.1
  have p1 : PE X (.Attribute (.Name x p) nm pos) (tFld X.K (tVar i) nm) := pe_fld pv rfl
  refine OkE.val rfl rfl (fun _ _ => by simp only [P2.evA]) ⟨fun pins s σ H Q I ⟨B, W, L, h, r, q⟩ => ?_⟩
  simp only [P2.evE] at q
  split at q
  · rename_i z hz
    obtain ⟨d, hd, q'⟩ := q.toR
    obtain ⟨hx, a, dd, e1, e2, e3⟩ := r.slots i _ hz
    rw [B.2] at e1
    obtain ⟨xf1, xf2⟩ := oX.st.xc z.c hx
    refine (oX.xf a _ dd e1 z.c nm _ _ pos xf1 (xf2 n nm hf hn) rfl pv).run pins s σ H Q I ⟨_, e2, rfl, rfl, ?_⟩
    rcases e3 with ⟨e4, _⟩ | ⟨dq, gs, e4, e5, e6, e7⟩
    · rw [e4] at hd
      simp [P2.fGet] at hd
    · obtain ⟨u, h3, h4⟩ := e7.get oX.st.nmI hd
      rw [oX.st.nms n nm hn] at h3
      exact ⟨dq, gs, u, e4, e5, h3, q'.ok r h4⟩
  · rename_i c fs hz
    obtain ⟨d, hd, q'⟩ := q.toR
    obtain ⟨a, e1, e2⟩ := r.own_at hz
    obtain ⟨g0, dx, gs, g1, g2⟩ := e2
    exact p1.run pins s σ H Q I ⟨_, e1, fld_at oX hn hf r (.ins g0 g1 g2) hd fun u hu => q'.ok r hu⟩
  · rename_i c fs hz
    obtain ⟨d, hd, q'⟩ := q.toR
    obtain ⟨v, e1, e2⟩ := r.val_at hz
    exact p1.run pins s σ H Q I ⟨_, e1, fld_at oX hn hf r (.rep e2) hd fun u hu => q'.ok r hu⟩
  · rename_i l hz
    split at q
    · rename_i c fs hl
      obtain ⟨d, hd, q'⟩ := q.toR
      obtain ⟨v, e1, e2⟩ := r.val_at hz
      exact p1.run pins s σ H Q I ⟨_, e1, fld_at oX hn hf r (c := c) (fs := fs) (deref_con r (.inl e2) (by simp [P2.deref, hl, snap])) hd fun u hu => q'.ok r hu⟩
    · exact q.elim
  · exact q.elim
theorem evE_fld {a : Xe} {n : Nat} (hv : ∀ i, a ≠ .var i) (L : List Slot) (h : DHp) : P2.evE P Γ (.fld a n) L h = R.bind (P2.evE P Γ a L h) fun x h1 => P2.fldV x n h1 := by
  cases a <;> first | (exact absurd rfl (hv _)) | simp only [P2.evE]
theorem sem_fldE {a : Xe} {n : Nat} {x : Expr} {nm : Str} {pos : Pos} (oX : XOk T P C Γ N k cm X sc Wx) (hv : ∀ i, a ≠ .var i) (ha : OkE P C Γ X Wx a x) (hn : T.nms[n]? = some nm) (hf : n ∈ T.flds) : OkE P C Γ X Wx (.fld a n) (.Attribute x nm pos) :=
  OkE.val rfl rfl (fun _ _ => by simp only [P2.evA]) (PE.imp (pe_fld ha.pe (okX_attr ha.ok)) fun σ H Q ⟨B, W, L, h, r, p⟩ => by
    rw [evE_fld hv] at p
    refine ⟨B, W, L, h, r, p.run fun v H1 d h1 W1 _ l1 r1 c1 p1 => ?_⟩
    unfold P2.fldV at p1
    split at p1
    · obtain ⟨z, hz, q⟩ := p1.toR
      exact fld_at oX hn hf r1 (.rep c1) hz fun u hu => q.ok r1 hu
    · split at p1
      · rename_i c fs hl
        obtain ⟨z, hz, q⟩ := p1.toR
        exact fld_at oX hn hf r1 (c := c) (fs := fs) (deref_con r1 (.inl c1) (by simp [P2.deref, hl, snap])) hz fun u hu => q.ok r1 hu
      · exact p1.elim
    · exact p1.elim)

/-! ### what is walked -/
/-- a source of the items ds, for what comes -/
def Src (C : Cfg) (J : It) (ds : List D) (S : GW → Hp → Prop) : Prop :=
  (∀ i W H, S W H → i < ds.length → J.go i H) ∧ (∀ W H, S W H → J.stop ds.length H) ∧
  ∀ i W H v H', S W H → Le W.F H → i < ds.length → J.yld i H v H' → ∃ F' d, ds[i]? = some d ∧ Ext W.F H F' H' ∧ Rep C F' W.ρ v d
/-- what a source promises at its start -/
def SrcQ (C : Cfg) (src : Option Nat) (B : Bs) (L : List Slot) (σ : St) (W : GW) (ds : List D) (R' : It → Hp → Prop) (H : Hp) : Prop :=
  ∀ J S, Src C J ds S → (∀ B2 W2 L2 h2 σ2 H2, W.le W2 → HR C B2 W2 L2 h2 σ2 H2 → (∀ i, src = some i → L2[i]? = L[i]? ∧ σ2[i]? = σ[i]?) → S W2 H2) → R' J H
def PoI (C : Cfg) (Wx : Wq) (src : Option Nat) (B : Bs) (L : List Slot) (σ : St) (W : GW) (m : R (List D)) (R' : It → Hp → Prop) : Prop :=
  match m with
  | .ok ds h' => ∀ W' H', W.le W' → HR C B W' L h' σ H' → SrcQ C src B L σ W' ds R' H'
  | .ex x h' => ∀ W' H' cls dd, W.le W' → HR C B W' L h' σ H' → ExOk C W' H' cls dd x → Wx.w cls dd σ H'
  | .stk => False
theorem PoI.le {src : Option Nat} {B : Bs} {L : List Slot} {σ : St} {W W1 : GW} {m : R (List D)} {R' : It → Hp → Prop} (l : W.le W1) (p : PoI C Wx src B L σ W m R') : PoI C Wx src B L σ W1 m R' := by
  cases m with
  | ok a h' => exact fun W' H' l' => p W' H' (l.trans l')
  | ex x h' => exact fun W' H' cls dd l' => p W' H' cls dd (l.trans l')
  | stk => exact p
theorem PoI.run {α β : Type} {rel : Rl α β} {src : Option Nat} {B : Bs} {L : List Slot} {σ : St} {W : GW} {m : R α} {f : α → DHp → R (List D)} {R' : It → Hp → Prop} {Q' : β → Hp → Prop} (p : PoI C Wx src B L σ W (R.bind m f) R')
    (k : ∀ b H1 a h1 W1, m = .ok a h1 → W.le W1 → HR C B W1 L h1 σ H1 → rel L σ W1 b a → PoI C Wx src B L σ W1 (f a h1) R' → Q' b H1) : Po C Wx rel B L σ W m Q' := by
  cases m with
  | ok a h1 => exact fun W1 H1 b l r c => k b H1 a h1 W1 rfl l r c (PoI.le l p)
  | ex x h1 => exact p
  | stk => exact p
def tI (C : Cfg) (Wx : Wq) (src : Option Nat) (m : List Slot → DHp → R (List D)) : TI := fun σ H R' => ∃ (B : {B : Bs // B.exc = Wx.xq}) (W : GW) (L : List Slot) (h : DHp), HR C B.1 W L h σ H ∧ PoI C Wx src B.1 L σ W (m L h) R'
theorem PI.imp {tg iter : Expr} {t t' : TI} (p : PI X tg iter t) (k : ∀ σ H R, t' σ H R → t σ H R) : PI X tg iter t' := ⟨fun pins s σ H R I q => p.run pins s σ H R I (k σ H R q)⟩
theorem Src.lst {a : Addr} {ds : List D} : Src C (Itl C.K a) ds (fun W H => ∃ vs, SqL C.K H a vs ∧ Reps C W.F W.ρ vs ds) := by
  refine ⟨fun i W H ⟨vs, h1, h2⟩ hi => ⟨vs, vs[i]'(by rw [h2.length]; exact hi), h1, List.getElem?_eq_getElem _⟩, fun W H ⟨vs, h1, h2⟩ => ⟨vs, h1, by rw [h2.length]; exact Nat.le_refl _⟩, fun i W H v H' ⟨vs, h1, h2⟩ l hi ⟨e, y⟩ => ?_⟩
  obtain ⟨d, hd, rd⟩ := h2.getV (y vs h1)
  exact ⟨W.F, d, hd, by rw [e]; exact Ext.refl l, rd⟩
theorem Src.tup {a : Addr} {ds : List D} : Src C (Itt C.K a) ds (fun W H => ∃ vs, SqT C.K H a vs ∧ Reps C W.F W.ρ vs ds) := by
  refine ⟨fun i W H ⟨vs, h1, h2⟩ hi => ⟨vs, vs[i]'(by rw [h2.length]; exact hi), h1, List.getElem?_eq_getElem _⟩, fun W H ⟨vs, h1, h2⟩ => ⟨vs, h1, by rw [h2.length]; exact Nat.le_refl _⟩, fun i W H v H' ⟨vs, h1, h2⟩ l hi ⟨e, y⟩ => ?_⟩
  obtain ⟨d, hd, rd⟩ := h2.getV (y vs h1)
  exact ⟨W.F, d, hd, by rw [e]; exact Ext.refl l, rd⟩
theorem Src.str {s : List Nat} : Src C (Its (toS s)) (s.map fun c => D.str [c]) (fun _ _ => True) := by
  have e : (toS s).cps.size = (s.map fun c => D.str [c]).length := by simp [toS]
  refine ⟨fun i W H _ hi => by show i < (toS s).cps.size; rw [e]; exact hi, fun W H _ => by show (toS s).cps.size ≤ _; rw [e]; exact Nat.le_refl _, fun i W H v H' _ l hi ⟨e1, c, h1, h2⟩ => ?_⟩
  subst e1 h2
  have h1' : s[i]? = some c := by simpa [toS] using h1
  exact ⟨W.F, .str [c], by simp [h1'], Ext.refl l, .str [c]⟩
theorem Src.rng {lo : Int} {n : Nat} : Src C (Itr lo n) ((List.range n).map fun (i : Nat) => D.int (lo + i)) (fun _ _ => True) := by
  refine ⟨fun i W H _ hi => by show i < n; simpa using hi, fun W H _ => by show n ≤ _; simp, fun i W H v H' _ l hi ⟨e1, e2⟩ => ?_⟩
  subst e1 e2
  have hi' : i < n := by simpa using hi
  exact ⟨W.F, .int (lo + i), by simp [hi'], Ext.refl l, .int _⟩
/-- a list that is held in a slot, or told -/
theorem src_lst {src : Option Nat} {B : Bs} {L : List Slot} {σ : St} {W : GW} {h : DHp} {H : Hp} {v : V} {x : D} {ds : List D} {R' : It → Hp → Prop} (r : HR C B W L h σ H) (c : rA C L σ W v x) (hs : ∀ i, x = .own i → src = some i) (e : P2.derefO L x = some (.lst ds)) (q : SrcQ C src B L σ W ds R' H) :
    ∃ a, v = .ref a ∧ (∃ xs, SqL C.K H a xs) ∧ R' (Itl C.K a) H := by
  rcases c with c | ⟨i, o, rfl, h1, h2⟩
  · cases c with
    | @lst a vs ds' g1 g2 =>
      cases e
      refine ⟨a, rfl, ⟨vs, .inl (rd_le r.fz g1)⟩, q _ _ Src.lst fun B2 W2 L2 h2 σ2 H2 l r2 _ => ⟨vs, .inl (rd_le (l.1.trans r2.fz) g1), g2.le l.1 l.2⟩⟩
    | _ => cases e
  · simp only [P2.derefO, h1] at e
    cases o <;> simp only [snap, Option.some.injEq, reduceCtorEq, D.lst.injEq] at e
    subst e
    obtain ⟨a, g1, vs, g2, g3⟩ := r.own_at h1
    rw [h2] at g1
    cases g1
    refine ⟨a, rfl, ⟨vs, .inl (.inl g2)⟩, q _ _ Src.lst fun B2 W2 L2 h2' σ2 H2 l r2 hk => ?_⟩
    obtain ⟨k1, k2⟩ := hk i (hs i rfl)
    rw [h1] at k1
    rw [h2] at k2
    obtain ⟨a', f1, vs', f2, f3⟩ := r2.own_at k1
    rw [k2] at f1
    cases f1
    exact ⟨vs', .inl (.inl f2), f3⟩
theorem src_tup {src : Option Nat} {B : Bs} {L : List Slot} {σ : St} {W : GW} {h : DHp} {H : Hp} {v : V} {x : D} {ds : List D} {R' : It → Hp → Prop} (r : HR C B W L h σ H) (c : rA C L σ W v x) (e : P2.derefO L x = some (.tup ds)) (q : SrcQ C src B L σ W ds R' H) :
    ∃ a, v = .ref a ∧ (∃ xs, SqT C.K H a xs) ∧ R' (Itt C.K a) H := by
  rcases c with c | ⟨i, o, rfl, h1, h2⟩
  · cases c with
    | @tup a vs ds' g1 g2 =>
      cases e
      refine ⟨a, rfl, ⟨vs, sqT_le r.fz g1⟩, q _ _ Src.tup fun B2 W2 L2 h2 σ2 H2 l r2 _ => ⟨vs, sqT_le (l.1.trans r2.fz) g1, g2.le l.1 l.2⟩⟩
    | _ => cases e
  · simp only [P2.derefO, h1] at e
    cases o <;> simp [snap] at e
theorem src_str {src : Option Nat} {B : Bs} {L : List Slot} {σ : St} {W : GW} {h : DHp} {H : Hp} {v : V} {x : D} {s : List Nat} {R' : It → Hp → Prop} (r : HR C B W L h σ H) (c : rA C L σ W v x) (e : P2.derefO L x = some (.str s)) (q : SrcQ C src B L σ W (s.map fun c => D.str [c]) R' H) :
    v = .str (toS s) ∧ R' (Its (toS s)) H := by
  rcases c with c | ⟨i, o, rfl, h1, h2⟩
  · cases c with
    | str s' => cases e; exact ⟨rfl, q _ _ Src.str fun _ _ _ _ _ _ _ _ _ => trivial⟩
    | _ => cases e
  · simp only [P2.derefO, h1] at e
    cases o <;> simp [snap] at e
theorem pi_of {tg ex : Expr} {rel : Rl D V} {m : List Slot → DHp → R D} {src : Option Nat} {LL : List Slot → List Slot} (hK : X.K = C.K) (hp : PE X ex (tG C Wx rel m)) (hrel : ∀ L σ W v d, rel L σ W v d → rA C L σ W v d ∧ ∀ i, d = .own i → src = some i) (hL : ∀ L x, (∀ d, P2.derefO (LL L) x = some d → P2.derefO L x = some d)) :
    PI X tg ex (tI C Wx src (fun L h => R.bind (m L h) fun x h1 => P2.walkV (LL L) x h1)) := by
  refine ⟨fun pins s σ H R' I ⟨B, W, L, h, r, q⟩ => ?_⟩
  dsimp only at q
  cases hm : m L h with
  | ok x h1 =>
    have q1 : PoI C Wx src B.1 L σ W (P2.walkV (LL L) x h1) R' := by rw [hm] at q; exact q
    simp only [P2.walkV] at q1
    cases hd : P2.derefO (LL L) x with
    | none => rw [hd] at q1; exact q1.elim
    | some x' =>
      rw [hd] at q1
      have hd' := hL L x x' hd
      cases x' with
      | lst ds =>
        refine (pi_list (tg := tg) hp).run pins s σ H R' I ⟨B, W, L, h, r, q.run fun v H1 x2 h2 W1 e2 l1 r1 c1 _ => ?_⟩
        rw [hm] at e2
        cases e2
        rw [hK]
        exact src_lst r1 (hrel _ _ _ _ _ c1).1 (hrel _ _ _ _ _ c1).2 hd' (q1 W1 H1 l1 r1)
      | tup ds =>
        refine (pi_tup (tg := tg) hp).run pins s σ H R' I ⟨B, W, L, h, r, q.run fun v H1 x2 h2 W1 e2 l1 r1 c1 _ => ?_⟩
        rw [hm] at e2
        cases e2
        rw [hK]
        exact src_tup r1 (hrel _ _ _ _ _ c1).1 hd' (q1 W1 H1 l1 r1)
      | str z =>
        simp only [P2.iterOf] at q1
        split at q1
        · refine (pi_str (tg := tg) hp).run pins s σ H R' I ⟨B, W, L, h, r, q.run fun v H1 x2 h2 W1 e2 l1 r1 c1 _ => ?_⟩
          rw [hm] at e2
          cases e2
          obtain ⟨f1, f2⟩ := src_str r1 (hrel _ _ _ _ _ c1).1 hd' (q1 W1 H1 l1 r1)
          exact ⟨_, f1, f2⟩
        · exact q1.elim
      | _ => exact q1.elim
  | ex x h1 => exact (pi_list (tg := tg) hp).run pins s σ H R' I ⟨B, W, L, h, r, q.run fun v H1 x2 h2 W1 e2 l1 r1 c1 _ => by rw [hm] at e2; cases e2⟩
  | stk => rw [hm] at q; exact q.elim
end
end P2S
end

section
/-! P2Exp6: targets, ranges, comprehensions. -/
set_option autoImplicit false
set_option Elab.async false
set_option linter.all false
set_option maxRecDepth 100000
set_option maxHeartbeats 1000000
namespace P2S
open PySem PySem.Spec L2
open P2 (D DO DHp Exn Slot snap R SR Run Pg Xe Xes Xo Xi Xt Xs Xss Xh Fn Bi)
section
variable {T : Tb} {P : Pg} {C : Cfg} {Γ : P2.Run} {N : List Str} {k : Nat} {cm : Bool} {X : Cx} {sc : Scope} {Wx : Wq}
/-! ### targets -/
def tTg (C : Cfg) (Wx : Wq) (g : Xt) : TG := fun v σ H Q => ∃ (B : {B : Bs // B.exc = Wx.xq}) (W : GW) (L : List Slot) (h : DHp) (d : D), HR C B.1 W L h σ H ∧ Rep C W.F W.ρ v d ∧ match P2.bindG g d L with | some L' => ∀ σ', HR C B.1 W L' h σ' H → (∀ i, i ∉ P2.gSlots g → σ'[i]? = σ[i]?) → Q σ' H | none => False
def tTgs (C : Cfg) (Wx : Wq) (gs : List Xt) : TGs := fun vs σ H Q => ∃ (B : {B : Bs // B.exc = Wx.xq}) (W : GW) (L : List Slot) (h : DHp) (ds : List D), HR C B.1 W L h σ H ∧ Reps C W.F W.ρ vs ds ∧ match P2.bindGs gs ds L with | some L' => ∀ σ', HR C B.1 W L' h σ' H → (∀ i, i ∉ P2.gSlotss gs → σ'[i]? = σ[i]?) → Q σ' H | none => False
theorem HR.bind {B : Bs} {W : GW} {L : List Slot} {h : DHp} {σ : St} {H : Hp} {i : Nat} {v : V} {d : D} (r : HR C B W L h σ H) (p : Rep C W.F W.ρ v d) : HR C B W (L.set i (.val d)) h (σ.set i (some v)) H := by
  by_cases hi : i < L.length
  · exact r.setVal hi p
  · rw [List.set_eq_of_length_le (by omega), List.set_eq_of_length_le (by rw [← r.sl]; omega)]
    exact r
theorem loc_of {x : Str} (h : isLoc sc x = true) : L2.Loc sc x := by
  unfold isLoc at h
  unfold L2.Loc
  split at h
  · rename_i e; exact .inl e
  · rename_i e; exact .inr e
  · cases h
/-- which names may be stored -/
def Stor (X : Cx) (ln : Str → Bool) : Prop := ∀ x, ln x = true → L2.Loc X.env.scope x ∧ (X.fn x = true ∨ X.env.scope.names.lookup x = some .local)
theorem PG.imp {e : Expr} {t t' : TG} (p : PG X e t) (k : ∀ v σ H Q, t' v σ H Q → t v σ H Q) : PG X e t' := ⟨fun pins s σ H v u Q I r q => p.run pins s σ H v u Q I r (k v σ H Q q)⟩
theorem PGs.imp {e : List Expr} {t t' : TGs} (p : PGs X e t) (k : ∀ v σ H Q, t' v σ H Q → t v σ H Q) : PGs X e t' := ⟨fun pins s σ H v u Q I r q => p.run pins s σ H v u Q I r (k v σ H Q q)⟩
structure OkG (C : Cfg) (X : Cx) (Wx : Wq) (g : Xt) (e : Expr) : Prop where
  pg : PG X e (tTg C Wx g)
  ok : okX e = true
structure OkGs (C : Cfg) (X : Cx) (Wx : Wq) (gs : List Xt) (es : List Expr) : Prop where
  pg : PGs X es (tTgs C Wx gs)
  len : es.length = gs.length
  ok : ∀ e ∈ es, okX e = true
theorem as_cons {e : Expr} {es : List Expr} {env : Env} (h : okX e = true) : assignEach (e :: es) env = (false, assign e env) :: assignEach es env := by
  cases e <;> first | rfl | exact (nomatch (show false = true from h))
theorem as_len {es : List Expr} {env : Env} (h : ∀ e ∈ es, okX e = true) : (assignEach es env).length = es.length ∧ (assignEach es env).findIdx? (·.1) = none := by
  induction es with
  | nil => exact ⟨rfl, rfl⟩
  | cons e es ih =>
    obtain ⟨h1, h2⟩ := ih fun x hx => h x (List.mem_cons_of_mem _ hx)
    rw [as_cons (h e (List.mem_cons_self ..))]
    exact ⟨by simp [h1], by simp [List.findIdx?_cons, h2]⟩
mutual
theorem sG {ln : Str → Bool} (oX : XOk T P C Γ N k true X sc Wx) (hst : Stor X ln) : ∀ (g : Xt) (e : Expr), mG N ln g e = true → OkG C X Wx g e
  | .name i, e, h => by
    simp only [mG] at h
    split at h
    · rename_i x p
      simp only [Bool.and_eq_true] at h
      refine ⟨PG.imp (pg_name (by rw [oX.hN]; exact oX.nd) (by rw [oX.hN]; exact ixOf_of h.1.1) (hst x h.1.2).1 (hst x h.1.2).2) fun v σ H Q ⟨B, W, L, h', d, r, c, q⟩ => ?_, rfl⟩
      simp only [P2.bindG] at q
      exact q _ (r.bind c) fun j hj => by
        simp only [P2.gSlots, List.mem_singleton] at hj
        exact set_ne hj
    · cases h
  | .tup gs, e, h => by
    simp only [mG] at h
    split at h
    · rename_i ts j p
      have hs := sGs oX hst gs ts h
      obtain ⟨a1, a2⟩ := as_len (env := X.env) hs.ok
      refine ⟨PG.imp (pg_tup oX.calm hs.pg (a1.trans hs.len) a2) fun v σ H Q ⟨B, W, L, h', d, r, c, q⟩ => ?_, rfl⟩
      cases d with
      | tup ds =>
        simp only [P2.bindG] at q
        cases c with
        | @tup a vs ds' g1 g2 =>
          refine ⟨a, vs, rfl, by rw [oX.st.hK]; exact sqT_le r.fz g1, ?_, ⟨B, W, L, h', ds, r, g2, ?_⟩⟩
          · cases hb : P2.bindGs gs ds L with
            | none => rw [hb] at q; exact q.elim
            | some L' => rw [g2.length]; exact bindGs_len hb
          · exact q
      | _ => exact q.elim
    · cases h
theorem sGs {ln : Str → Bool} (oX : XOk T P C Γ N k true X sc Wx) (hst : Stor X ln) : ∀ (gs : List Xt) (es : List Expr), mGs N ln gs es = true → OkGs C X Wx gs es
  | [], es, h => by
    simp only [mGs, List.isEmpty_iff] at h
    subst h
    refine ⟨PGs.imp pgs_nil fun vs σ H Q ⟨B, W, L, h', ds, r, c, q⟩ => ?_, rfl, fun e he => (nomatch he)⟩
    cases c with
    | nil =>
      simp only [P2.bindGs] at q
      exact ⟨rfl, q _ r fun _ _ => rfl⟩
    | cons a b => exact q.elim
  | g :: gs, es, h => by
    simp only [mGs] at h
    split at h
    · rename_i e es'
      simp only [Bool.and_eq_true] at h
      have h1 := sG oX hst g e h.1
      have h2 := sGs oX hst gs es' h.2
      refine ⟨PGs.imp (pgs_cons h1.pg h2.pg (by rw [as_cons h1.ok]; rfl)) fun vs σ H Q ⟨B, W, L, h', ds, r, c, q⟩ => ?_, by simp [h2.len], fun x hx => ?_⟩
      · cases c with
        | nil => exact q.elim
        | @cons v d vs ds a b =>
          simp only [P2.bindGs] at q
          refine ⟨v, vs, rfl, B, W, L, h', d, r, a, ?_⟩
          cases hb : P2.bindG g d L with
          | none => rw [hb] at q; exact q.elim
          | some L' =>
            rw [hb] at q
            intro σ' r' k1
            refine ⟨B, W, L', h', ds, r', b, ?_⟩
            cases hb2 : P2.bindGs gs ds L' with
            | none => dsimp only at q; rw [hb2] at q; exact q.elim
            | some L2 =>
              dsimp only at q
              rw [hb2] at q
              intro σ2 r2 k2
              refine q σ2 r2 fun i hi => ?_
              simp only [P2.gSlotss, List.mem_append, not_or] at hi
              rw [k2 i hi.2, k1 i hi.1]
      · rcases List.mem_cons.mp hx with rfl | hx
        · exact h1.ok
        · exact h2.ok x hx
    · cases h
theorem bindGs_len {L L' : List Slot} : ∀ {gs : List Xt} {ds : List D}, P2.bindGs gs ds L = some L' → ds.length = gs.length := by
  intro gs
  induction gs generalizing L with
  | nil => intro ds e; cases ds <;> simp [P2.bindGs] at e ⊢
  | cons g gs ih =>
    intro ds e
    cases ds with
    | nil => simp [P2.bindGs] at e
    | cons d ds =>
      simp only [P2.bindGs] at e
      split at e
      · simp [ih e]
      · cases e
end
end
end P2S
end

section
/-! P2En: enumerate of a tuple. -/
set_option autoImplicit false
set_option Elab.async false
set_option linter.all false
set_option maxRecDepth 100000
set_option maxHeartbeats 1000000
namespace P2T
open PySem
open PySem.Sem (wp)
open AutoSeq1 (wpAny_loadPart')
section
variable {prog : Program} {w : World} {A : Around} {E : Value → Shared → Prop} {s : Shared}
def StT (it l : Addr) (items : Array Value) (j : Nat) (h : Heap) : Prop := h.IsTupleIter it l j ∧ h.IsTuple l items
theorem stT_frame {it l : Addr} {items : Array Value} {j : Nat} {h h' : Heap} (st : StT it l items j h) (k : ∀ b ∈ [it, l], ∀ o, h.get? b = some o → h'.get? b = some o) : StT it l items j h' := by
  obtain ⟨⟨o, h1, r1⟩, ⟨o2, h2, r2⟩⟩ := st
  exact ⟨⟨o, k _ (by simp) _ h1, r1⟩, ⟨o2, k _ (by simp) _ h2, r2⟩⟩
theorem draws_tup {it l : Addr} {items : Array Value} (hh : A.handled = none) (hne : l ≠ it) : Draws prog w A it [it, l] items.size (fun j v => items[j]? = some v) (StT it l items) where
  live := fun i h st => let ⟨⟨o, h1, _⟩, _⟩ := st; ⟨o, h1⟩
  frame := fun i h h' st k => stT_frame st k
  item := fun i s Q E hi st hQ => by
    obtain ⟨h1, h2⟩ := st
    have hx : items[i]? = some items[i] := by simp [hi]
    refine RZ.nextOf_tuple_item h1 h2 hx fun h' a b => ?_
    exact hQ _ h' s.toks hx ⟨a, h2.extBut b.extBut hne⟩ b
  done := fun s Q E st hE => RZ.nextOf_tuple_end hh st.1 st.2 (by simp) hE
theorem draws_end {it l : Addr} {items : Array Value} {i : Nat} (hh : A.handled = none) (hx : items[i]? = none) : Draws prog w A it [it, l] i (fun _ _ => False) (fun j h => j = i ∧ StT it l items j h) where
  live := fun i h st => let ⟨_, ⟨o, h1, _⟩, _⟩ := st; ⟨o, h1⟩
  frame := fun i h h' st k => ⟨st.1, stT_frame st.2 k⟩
  item := fun j s Q E hi st hQ => absurd st.1 (by omega)
  done := fun s Q E st hE => RZ.nextOf_tuple_end hh st.2.1 st.2.2 hx hE
theorem meets_enumerate_newT (l : Addr) (items : Array Value) :
    Meets (Builtin.«enumerate.__new__» ⟨[.type "enumerate", .ref l], []⟩) (fun _ R s => s.heap.IsTuple l items ∧
      R (.ok (.ret (.ref (s.heap.push { cls := .type "tuple_iterator", data := .fields #[.ref l, .int 0 0] }).objs.size)))
        { s with heap := (s.heap.push { cls := .type "tuple_iterator", data := .fields #[.ref l, .int 0 0] }).push { cls := .type "enumerate", data := .fields #[.none, .bool false, .ref s.heap.objs.size, rawInt 0, .none, .none] } }) :=
  .of_wp fun prog w A R s h => by
    obtain ⟨hp, g, d, tk, os⟩ := s; obtain ⟨hl, h⟩ := h
    have hsub := sub_enumerate
    have hL : Heap.IsTuple (Shared.heap ⟨hp, g, d, tk, os⟩) l items := hl
    obtain ⟨ol, hol, _⟩ := id hl
    wp_walk using wpAny_loadPart' hol
    refine wpAny_stack_any fun st => wpAny_pure ?_
    split
    · rename_i c _ _ _ _ _
      cases (c == Value.type "enumerate")
      · wp_walk using wpAny_loadPart' hol, wpAny_pyIter_tuple hL
        exact ⟨_, rfl, h⟩
      · wp_walk using wpAny_loadPart' hol, wpAny_pyIter_tuple hL
        exact ⟨_, rfl, h⟩
    · wp_walk using wpAny_loadPart' hol, wpAny_pyIter_tuple hL
      exact ⟨_, rfl, h⟩
theorem call_enumerate_tuple {l : Addr} {items : Array Value} {Q : Value → Shared → Prop} (hL : s.heap.IsTuple l items)
    (h : ∀ h', IsEnum h' (s.heap.objs.size + 1) s.heap.objs.size 0 .none → h'.IsTupleIter s.heap.objs.size l 0 → h'.objs.size = s.heap.objs.size + 2 →
      (∀ b o, s.heap.get? b = some o → h'.get? b = some o) → Q (.ref (s.heap.objs.size + 1)) { s with heap := h' }) :
    wpAny (model prog w) A (call (.type "enumerate") [.ref l]) Q E s := by
  refine callType_new F.called_enumerate (by decide) (F.typeCall_enumerate_1 _) (F.newCall_enumerate_1 _) (fun obj => F.args_object_init_2 obj _) F.entry_enumerate_new
    (meets_enumerate_newT l items) ⟨hL, ?_⟩
  have hz : (s.heap.push { cls := .type "tuple_iterator", data := .fields #[.ref l, .int 0 0] }).objs.size = s.heap.objs.size + 1 := Heap.size_push ..
  show _ ∧ _
  rw [hz]
  have he : IsEnum ((s.heap.push { cls := .type "tuple_iterator", data := .fields #[.ref l, .int 0 0] }).push
      { cls := .type "enumerate", data := .fields #[.none, .bool false, .ref s.heap.objs.size, rawInt 0, .none, .none] }) (s.heap.objs.size + 1) s.heap.objs.size 0 .none := by
    have := Heap.get?_push_size (s.heap.push { cls := .type "tuple_iterator", data := .fields #[.ref l, .int 0 0] })
      (o := { cls := .type "enumerate", data := .fields #[.none, .bool false, .ref s.heap.objs.size, rawInt 0, .none, .none] }) rfl
    rw [hz] at this; exact this
  refine ⟨⟨_, he, rfl⟩, h _ he ⟨_, Heap.get?_push_of_some _ (Heap.get?_push_size _ rfl), rfl, rfl⟩ (by rw [Heap.size_push, hz]) fun b o x => Heap.get?_push_of_some _ (Heap.get?_push_of_some _ x)⟩
end
end P2T
namespace P2S
open PySem PySem.Spec PyProof.Rows L2
/-- the tuple at a, each item in a new pair -/
def IteT (K : PySem.W.Frag) (a : Addr) : It :=
  ⟨fun i H => ∃ (xs : List V) (x : V), SqT K H a xs ∧ xs[i]? = some x, fun i H v H' => ∃ T x, v = .ref T ∧ H T = none ∧ H' = upd H T (.tup [.int (i : Nat), x]) ∧ ∀ xs, SqT K H a xs → xs[i]? = some x, fun i H => ∃ xs : List V, SqT K H a xs ∧ xs.length ≤ i⟩
theorem turn_enumT {P : Program} {w : World} {K : PySem.W.Frag} {elts : List Expr} {kk : Nat} {tpos : Pos} (a e it : Addr) :
    Turn P w K (.Tuple elts kk tpos) (IteT K a) [e, it] e (fun i h => (∃ old, IsEnum h e it ((i : Nat) : Int) old) ∧ h.IsTupleIter it a i ∧ e ≠ it) where
  mem := by simp
  obj := fun i h st b hb => by
    obtain ⟨⟨old, he⟩, ⟨o, ho, hc, hd⟩, _⟩ := st
    have e' : b = e ∨ b = it := by simpa using hb
    rcases e' with z | z
    · rw [z]; exact ⟨_, he, fun v q => nomatch q⟩
    · rw [z]; exact ⟨o, ho, fun v q => by rw [hd] at q; cases q⟩
  keep := fun i h h' st k => let ⟨⟨old, he⟩, hi, hne⟩ := st; ⟨⟨old, k e (by simp) _ he⟩, hi.at fun o q => k it (by simp) o q, hne⟩
  item := by
    intro X hP hw hK hc i pins s σ H E I hf st hg
    subst hP hw hK
    obtain ⟨⟨old, he⟩, hit, hne⟩ := st
    obtain ⟨xs, x, hq, hx⟩ := hg
    obtain ⟨its, rv, p, hz⟩ := I.tuple hq
    obtain ⟨u, hu, ru⟩ := rv.get hx
    have hel : e < s.heap.objs.size := Heap.lt_size he
    have hil : it < s.heap.objs.size := by obtain ⟨_, q, _⟩ := hit; exact Heap.lt_size q
    have p' : s.heap.IsTuple a its.toArray := p
    have hae : e ≠ a := by
      rintro rfl
      obtain ⟨o, h1, h2, _⟩ := p'
      rw [he] at h1
      cases h1
      exact absurd h2 (by show ¬ (Value.type "enumerate" = Value.type "tuple"); intro z; injection z with z; exact absurd z (by decide))
    have hai : a ≠ it := by
      rintro rfl
      obtain ⟨o, h1, h2, _⟩ := p'
      obtain ⟨o', h1', h2', _⟩ := hit
      rw [h1] at h1'
      cases h1'
      rw [h2] at h2'
      injection h2' with z
      exact absurd z (by decide)
    have hlt : i < its.toArray.size := by
      have := (List.getElem?_eq_some_iff.mp hu).1
      simpa using this
    refine wpAny_pyNext_enum_itemD (P2T.draws_tup (A := X.A.in1) (it := it) (l := a) (items := its.toArray) (I.ok.hd hc) hai) he ⟨hit, p'⟩ hlt hne (by simp [hne, hae]) fun x' h' tk hP ho hst hT hsz hk => ?_
    have hxu : x' = u := by
      have h1 : its[i]? = some x' := by simpa using hP
      rw [hu] at h1
      cases h1; rfl
    subst hxu
    refine ⟨_, rfl, wpAny_letOwnedTupleGo_enum (s := { s with heap := h', toks := tk + 1 }) ho fun h'' he' sb => ?_⟩
    have hT2 : h''.get? s.heap.objs.size = some { cls := .type "tuple", data := .seq #[.int i tk, x'] } := (sb.2 _ (Nat.ne_of_gt hel)).trans hT
    have new : ObjOk X.prog X.w (upd H s.heap.objs.size (.tup [.int (i : Nat), x])) h'' s.heap.objs.size (.tup [.int (i : Nat), x]) :=
      ⟨by show 2 ≤ sizeLine; decide, [.int i tk, x'], .cons ⟨_, rfl⟩ (.cons ru .nil), ⟨_, hT2, rfl, _, rfl⟩⟩
    have I1 : Inv X pins σ (upd H s.heap.objs.size (.tup [.int (i : Nat), x])) { s with heap := h'', toks := tk + 1 } :=
      I.turnedNew (ch := [e, it]) (fun b ob hb q => (sb.2 b (fun z => hb (by simp [z]))).trans (hk b ob (fun z => hb (by simp [z])) (fun z => hb (by simp [z])) q)) hf (Nat.le_refl _) new
    refine ⟨.ref s.heap.objs.size, _, I1, rfl, ⟨_, x, rfl, I.hok.fresh (Nat.le_refl _), rfl, fun ys hy => by rw [I.tuple_inj hy hq]; exact hx⟩, ⟨⟨x', ?_⟩, hst.1.at fun o q => (sb.2 it (Ne.symm hne)).trans q, hne⟩, fun b hb => ?_⟩
    · have e1 : ((i + 1 : Nat) : Int) = (i : Int) + 1 := by omega
      rw [e1]; exact he'
    · have hb' : b < s.heap.objs.size := by
        have e' : b = e ∨ b = it := by simpa using hb
        rcases e' with z | z
        · rw [z]; exact hel
        · rw [z]; exact hil
      rw [upd_ne (Nat.ne_of_lt hb')]
      exact (hf b hb).1
  done := by
    intro X hP hw hK hc i pins s σ H E I hf st hg
    subst hP hw hK
    obtain ⟨⟨old, he⟩, hit, hne⟩ := st
    obtain ⟨xs, hq, hx⟩ := hg
    obtain ⟨its, rv, p, hz⟩ := I.tuple hq
    obtain ⟨f0, f1, f2, f3, f4, f5⟩ := hf it (by simp)
    have hl := rv.length
    have hno : its.toArray[i]? = none := by simp; omega
    exact wpAny_pyNext_enum_endD (P2T.draws_end (A := X.A.in1) (it := it) (l := a) (items := its.toArray) (I.ok.hd hc) hno) he ⟨rfl, hit, p⟩ fun h' eb => ⟨rfl, I.turned (t' := s.toks) (fun b o hb q => eb b o hb q) f0 f1 f3 f4 f5⟩
  self := fun A i s Q E st h => let ⟨⟨_, he⟩, _⟩ := st; wpAny_pyIter_enum he h
def iEnumA (K : PySem.W.Frag) (ta : TA) : TI := fun σ H R => ta σ H fun vs H1 => ∃ a xs, vs = [.ref a] ∧ ((SqL K H1 a xs ∧ R (Ite K a) H1) ∨ (SqT K H1 a xs ∧ R (IteT K a) H1))
theorem pi_enumA {X : Cx} {e : Expr} {ta : TA} {p pos tpos : Pos} {elts : List Expr} {kk : Nat} (hg : Gl X "enumerate") (hm : X.mg "enumerate" = none) (ha : PA X [e] ta) (hs : starEach [e] X.env = [(false, eval e X.env)] := by rfl) :
    PI X (.Tuple elts kk tpos) (.Call (.Name "enumerate" p) [e] [] pos) (iEnumA X.K ta) := by
  refine ⟨fun pins s σ H R I h => ?_⟩
  refine Call_ (ld_blt I hg hm boot_enumerate (PyProof.Rows.callWith_type1 (thn (ha.run pos pins s σ H _ I h) fun us s1 ⟨vs, H1, I1, r1, q1⟩ => ?_) hs rfl))
  obtain ⟨a, xs, ex, q1⟩ := q1
  subst ex
  cases r1 with
  | cons r rr =>
    cases rr
    cases r
    have fp : ∀ b, b ∈ [s1.heap.objs.size + 1, s1.heap.objs.size] → FpOk X pins H1 b := fun b hb => by
      have e' : b = s1.heap.objs.size + 1 ∨ b = s1.heap.objs.size := by simpa using hb
      have hle : s1.heap.objs.size ≤ b := by
        rcases e' with z | z
        · rw [z]; exact Nat.le_add_right _ _
        · rw [z]; exact Nat.le_refl _
      exact I1.fpOk hle (I1.hok.fresh hle)
    rcases q1 with ⟨hq, q⟩ | ⟨hq, q⟩
    · obtain ⟨its, rv, p', hz⟩ := I1.list hq
      refine call_enumerate_list p'.isList fun h' he hit hsz hk => wpAny_pyIter_enum he ?_
      have I2 : Inv X pins σ H1 { s1 with heap := h' } := I1.kept (t' := s1.toks) hk
      exact ⟨s1.heap.objs.size + 1, [s1.heap.objs.size + 1, s1.heap.objs.size], _, _, H1, rfl, I2, turn_enum a (s1.heap.objs.size + 1) s1.heap.objs.size, ⟨⟨.none, he⟩, hit, Nat.succ_ne_self _⟩, fp, q⟩
    · obtain ⟨its, rv, p', hz⟩ := I1.tuple hq
      refine P2T.call_enumerate_tuple (show s1.heap.IsTuple a its.toArray from p') fun h' he hit hsz hk => wpAny_pyIter_enum he ?_
      have I2 : Inv X pins σ H1 { s1 with heap := h' } := I1.kept (t' := s1.toks) hk
      exact ⟨s1.heap.objs.size + 1, [s1.heap.objs.size + 1, s1.heap.objs.size], _, _, H1, rfl, I2, turn_enumT a (s1.heap.objs.size + 1) s1.heap.objs.size, ⟨⟨.none, he⟩, hit, Nat.succ_ne_self _⟩, fp, q⟩
end P2S
end

section
/-! P2Exp7: range, enumerate, zip as sources. -/
set_option autoImplicit false
set_option Elab.async false
set_option linter.all false
set_option maxRecDepth 100000
set_option maxHeartbeats 1000000
namespace P2S
open PySem PySem.Spec L2
open P2 (D DO DHp Exn Slot snap R SR Run Pg Xe Xes Xo Xi Xt Xs Xss Xh Fn Bi)
section
variable {T : Tb} {P : Pg} {C : Cfg} {Γ : P2.Run} {N : List Str} {k : Nat} {cm : Bool} {X : Cx} {sc : Scope} {Wx : Wq}
theorem rng_eq (a b : Int) : P2.rng a b 1 = (List.range (b - a).toNat).map fun (k : Nat) => D.int (a + k) := by
  unfold P2.rng
  rw [if_pos (by decide)]
  have : (b - a + 1 - 1) / 1 = b - a := by omega
  rw [this]
  apply List.map_congr_left
  intro i _
  simp
theorem src_rng {src : Option Nat} {B : Bs} {L : List Slot} {σ : St} {W : GW} {H : Hp} {R' : It → Hp → Prop} {a b : Int} (q : SrcQ C src B L σ W (P2.rng a b 1) R' H) : R' (Itr a (b - a).toNat) H := by
  rw [rng_eq] at q
  exact q _ _ Src.rng fun _ _ _ _ _ _ _ _ _ => trivial
theorem pi_r1 {tg : Expr} {src : Option Nat} {a : Xe} {x : Str} {y : Expr} {p pos : Pos} (oX : XOk T P C Γ N k cm X sc Wx) (hx : isB T sc x "range" = true) (ha : OkE P C Γ X Wx a y) :
    PI X tg (.Call (.Name x p) [y] [] pos) (tI C Wx src (P2.evI P Γ (.range1 a))) := by
  obtain ⟨rfl, g, m, d1, d2⟩ := isB_of oX hx
  refine PI.imp (pi_range1 g m (pa_cons ha.pe pa_nil (okX_star ha.ok)) (okX_star ha.ok)) fun σ H R' ⟨B, W, L, h, r, q⟩ => ?_
  simp only [P2.evI] at q
  refine ⟨B, W, L, h, r, q.run fun v H1 d h1 W1 _ l1 r1 c1 q1 => ?_⟩
  split at q1
  · split at q1
    · rename_i hb
      cases c1
      have := src_rng (q1 W1 H1 (GW.le.refl _) r1)
      rw [Int.sub_zero] at this
      exact ⟨_, rfl, by omega, by omega, this⟩
    · exact q1.elim
  · exact q1.elim
theorem pi_r2 {tg : Expr} {src : Option Nat} {a b : Xe} {x : Str} {y z : Expr} {p pos : Pos} (oX : XOk T P C Γ N k cm X sc Wx) (hx : isB T sc x "range" = true) (ha : OkE P C Γ X Wx a y) (hb : OkE P C Γ X Wx b z) :
    PI X tg (.Call (.Name x p) [y, z] [] pos) (tI C Wx src (P2.evI P Γ (.range2 a b))) := by
  obtain ⟨rfl, g, m, d1, d2⟩ := isB_of oX hx
  refine PI.imp (pi_range2 g m (pa_cons ha.pe (pa_cons hb.pe pa_nil (okX_star hb.ok)) (okX_star ha.ok)) (by rw [okX_star ha.ok, okX_star hb.ok]; rfl) (okX_star hb.ok)) fun σ H R' ⟨B, W, L, h, r, q⟩ => ?_
  simp only [P2.evI] at q
  refine ⟨B, W, L, h, r, q.run fun v H1 d h1 W1 _ l1 r1 c1 q1 => ⟨B, W1, L, h1, r1, q1.run fun u H2 d2 h2 W2 _ l2 r2 c2 q2 => ?_⟩⟩
  split at q2
  · split at q2
    · split at q2
      · rename_i hb
        cases c1
        cases c2
        exact ⟨_, _, rfl, ⟨by omega, by omega, by omega, by omega⟩, src_rng (q2 W2 H2 (GW.le.refl _) r2)⟩
      · exact q2.elim
    · exact q2.elim
  · exact q2.elim
theorem enumFrom_get : ∀ (ds : List D) (k i : Nat), (P2.enumFrom k ds)[i]? = (ds[i]?).map fun d => D.tup [.int ((k + i : Nat) : Int), d]
  | [], k, i => by simp [P2.enumFrom]
  | d :: ds, k, 0 => by simp [P2.enumFrom]
  | d :: ds, k, i + 1 => by
    simp only [P2.enumFrom, List.getElem?_cons_succ, enumFrom_get ds (k + 1) i]
    congr 1
    funext d
    congr 3
    omega
theorem enumFrom_len : ∀ (ds : List D) (k : Nat), (P2.enumFrom k ds).length = ds.length
  | [], k => rfl
  | d :: ds, k => by simp [P2.enumFrom, enumFrom_len ds (k + 1)]
theorem pair_ext {W : GW} {H : Hp} {q : Addr} {x y : V} {a b : D} (l : Le W.F H) (hq : H q = none) (ra : Rep C W.F W.ρ x a) (rb : Rep C W.F W.ρ y b) : ∃ F', Ext W.F H F' (upd H q (.tup [x, y])) ∧ Rep C F' W.ρ (.ref q) (.tup [a, b]) := by
  have e : Ext W.F H (upd W.F q (.tup [x, y])) (upd H q (.tup [x, y])) := Ext.one l hq
  exact ⟨_, e, .tup (.inl (.inl upd_same)) (.cons (ra.le e.f (LeL.refl _)) (.cons (rb.le e.f (LeL.refl _)) .nil))⟩
theorem Src.enum {a : Addr} {ds : List D} : Src C (Ite C.K a) (P2.enumFrom 0 ds) (fun W H => ∃ vs, SqL C.K H a vs ∧ Reps C W.F W.ρ vs ds) := by
  refine ⟨fun i W H ⟨vs, h1, h2⟩ hi => ⟨vs, vs[i]'(by rw [h2.length]; rw [enumFrom_len] at hi; exact hi), h1, List.getElem?_eq_getElem _⟩, fun W H ⟨vs, h1, h2⟩ => ⟨vs, h1, by rw [h2.length, enumFrom_len]; exact Nat.le_refl _⟩, fun i W H v H' ⟨vs, h1, h2⟩ l hi ⟨q, x, e1, e2, e3, y⟩ => ?_⟩
  subst e1 e3
  obtain ⟨d, hd, rd⟩ := h2.getV (y vs h1)
  obtain ⟨F', g1, g2⟩ := pair_ext l e2 (.int (i : Int)) rd
  exact ⟨F', _, by rw [enumFrom_get, hd]; simp, g1, g2⟩
theorem Src.enumT {a : Addr} {ds : List D} : Src C (IteT C.K a) (P2.enumFrom 0 ds) (fun W H => ∃ vs, SqT C.K H a vs ∧ Reps C W.F W.ρ vs ds) := by
  refine ⟨fun i W H ⟨vs, h1, h2⟩ hi => ⟨vs, vs[i]'(by rw [h2.length]; rw [enumFrom_len] at hi; exact hi), h1, List.getElem?_eq_getElem _⟩, fun W H ⟨vs, h1, h2⟩ => ⟨vs, h1, by rw [h2.length, enumFrom_len]; exact Nat.le_refl _⟩, fun i W H v H' ⟨vs, h1, h2⟩ l hi ⟨q, x, e1, e2, e3, y⟩ => ?_⟩
  subst e1 e3
  obtain ⟨d, hd, rd⟩ := h2.getV (y vs h1)
  obtain ⟨F', g1, g2⟩ := pair_ext l e2 (.int (i : Int)) rd
  exact ⟨F', _, by rw [enumFrom_get, hd]; simp, g1, g2⟩
/-- what a state says of a list held at a, of a tuple -/
abbrev SL (C : Cfg) (a : Addr) (ds : List D) : GW → Hp → Prop := fun W H => ∃ vs, SqL C.K H a vs ∧ Reps C W.F W.ρ vs ds
abbrev ST (C : Cfg) (a : Addr) (ds : List D) : GW → Hp → Prop := fun W H => ∃ vs, SqT C.K H a vs ∧ Reps C W.F W.ρ vs ds
def Stays (C : Cfg) (src : Option Nat) (L : List Slot) (σ : St) (W : GW) (S : GW → Hp → Prop) : Prop :=
  ∀ (B2 : Bs) W2 L2 h2 σ2 H2, W.le W2 → HR C B2 W2 L2 h2 σ2 H2 → (∀ i, src = some i → L2[i]? = L[i]? ∧ σ2[i]? = σ[i]?) → S W2 H2
theorem held_lst {src : Option Nat} {B : Bs} {L : List Slot} {σ : St} {W : GW} {h : DHp} {H : Hp} {v : V} {x : D} {ds : List D} (r : HR C B W L h σ H) (c : rA C L σ W v x) (hs : ∀ i, x = .own i → src = some i) (e : P2.derefO L x = some (.lst ds)) :
    ∃ a, v = .ref a ∧ SL C a ds W H ∧ Stays C src L σ W (SL C a ds) := by
  rcases c with c | ⟨i, o, rfl, h1, h2⟩
  · cases c with
    | @lst a vs ds' g1 g2 =>
      cases e
      exact ⟨a, rfl, ⟨vs, .inl (rd_le r.fz g1), g2⟩, fun B2 W2 L2 h2 σ2 H2 l r2 _ => ⟨vs, .inl (rd_le (l.1.trans r2.fz) g1), g2.le l.1 l.2⟩⟩
    | _ => cases e
  · simp only [P2.derefO, h1] at e
    cases o <;> simp only [snap, Option.some.injEq, reduceCtorEq, D.lst.injEq] at e
    subst e
    obtain ⟨a, g1, vs, g2, g3⟩ := r.own_at h1
    rw [h2] at g1
    cases g1
    refine ⟨a, rfl, ⟨vs, .inl (.inl g2), g3⟩, fun B2 W2 L2 h2' σ2 H2 l r2 hk => ?_⟩
    obtain ⟨k1, k2⟩ := hk i (hs i rfl)
    rw [h1] at k1
    rw [h2] at k2
    obtain ⟨a', f1, vs', f2, f3⟩ := r2.own_at k1
    rw [k2] at f1
    cases f1
    exact ⟨vs', .inl (.inl f2), f3⟩
theorem held_tup {src : Option Nat} {B : Bs} {L : List Slot} {σ : St} {W : GW} {h : DHp} {H : Hp} {v : V} {x : D} {ds : List D} (r : HR C B W L h σ H) (c : rA C L σ W v x) (e : P2.derefO L x = some (.tup ds)) :
    ∃ a, v = .ref a ∧ ST C a ds W H ∧ Stays C src L σ W (ST C a ds) := by
  rcases c with c | ⟨i, o, rfl, h1, h2⟩
  · cases c with
    | @tup a vs ds' g1 g2 =>
      cases e
      exact ⟨a, rfl, ⟨vs, sqT_le r.fz g1, g2⟩, fun B2 W2 L2 h2 σ2 H2 l r2 _ => ⟨vs, sqT_le (l.1.trans r2.fz) g1, g2.le l.1 l.2⟩⟩
    | _ => cases e
  · simp only [P2.derefO, h1] at e
    cases o <;> simp [snap] at e
theorem pi_en {ex : Expr} {x : Str} {p pos tpos : Pos} {elts : List Expr} {kk : Nat} {rel : Rl D V} {m : List Slot → DHp → R D} {src : Option Nat} {LL : List Slot → List Slot} (oX : XOk T P C Γ N k cm X sc Wx) (hx : isB T sc x "enumerate" = true) (ok : okX ex = true) (hp : PE X ex (tG C Wx rel m)) (hrel : ∀ L σ W v d, rel L σ W v d → rA C L σ W v d ∧ ∀ i, d = .own i → src = some i)
    (hL : ∀ L x, (∀ d, P2.derefO (LL L) x = some d → P2.derefO L x = some d)) : PI X (.Tuple elts kk tpos) (.Call (.Name x p) [ex] [] pos) (tI C Wx src (fun L h => R.bind (m L h) fun x h1 => P2.enumV (LL L) x h1)) := by
  obtain ⟨rfl, g, mm, d1, d2⟩ := isB_of oX hx
  refine PI.imp (pi_enumA g mm (pa_cons hp pa_nil (okX_star ok)) (okX_star ok)) fun σ H R' ⟨B, W, L, h, r, q⟩ => ?_
  refine ⟨B, W, L, h, r, q.run fun v H1 x1 h1 W1 e1 l1 r1 c1 q1 => ?_⟩
  unfold P2.enumV at q1
  cases hd : P2.derefO (LL L) x1 with
  | none => rw [hd] at q1; exact q1.elim
  | some x' =>
    rw [hd] at q1
    cases x' with
    | lst ds =>
      obtain ⟨a, f1, ⟨vs, f2, f2'⟩, f3⟩ := held_lst r1 (hrel _ _ _ _ _ c1).1 (hrel _ _ _ _ _ c1).2 (hL L x1 _ hd)
      subst f1
      refine ⟨a, vs, rfl, .inl ⟨by rw [oX.st.hK]; exact f2, ?_⟩⟩
      rw [oX.st.hK]
      exact q1 W1 H1 (GW.le.refl _) r1 _ _ Src.enum f3
    | tup ds =>
      obtain ⟨a, f1, ⟨vs, f2, f2'⟩, f3⟩ := held_tup (src := src) r1 (hrel _ _ _ _ _ c1).1 (hL L x1 _ hd)
      subst f1
      refine ⟨a, vs, rfl, .inr ⟨by rw [oX.st.hK]; exact f2, ?_⟩⟩
      rw [oX.st.hK]
      exact q1 W1 H1 (GW.le.refl _) r1 _ _ Src.enumT f3
    | _ => exact q1.elim
theorem zip_get {xs ys : List D} {i : Nat} {x y : D} (h1 : xs[i]? = some x) (h2 : ys[i]? = some y) : ((xs.zip ys).map fun p => D.tup [p.1, p.2])[i]? = some (.tup [x, y]) := by
  have : (xs.zip ys)[i]? = some (x, y) := List.getElem?_zip_eq_some.mpr ⟨h1, h2⟩
  rw [List.getElem?_map, this]
  rfl
theorem Src.zipL {a b : Addr} {xs ys : List D} : Src C (Itz C.K a b) ((xs.zip ys).map fun p => D.tup [p.1, p.2]) (fun W H => SL C a xs W H ∧ SL C b ys W H) := by
  refine ⟨fun i W H ⟨⟨vs, h1, h2⟩, ⟨ws, h3, h4⟩⟩ hi => ?_, fun W H ⟨⟨vs, h1, h2⟩, ⟨ws, h3, h4⟩⟩ => ?_, fun i W H v H' ⟨⟨vs, h1, h2⟩, ⟨ws, h3, h4⟩⟩ l hi ⟨q, x, y, e1, e2, e3, y1, y2⟩ => ?_⟩
  · simp only [List.length_map, List.length_zip] at hi
    exact ⟨vs, ws, vs[i]'(by rw [h2.length]; omega), ws[i]'(by rw [h4.length]; omega), h1, h3, List.getElem?_eq_getElem _, List.getElem?_eq_getElem _⟩
  · refine ⟨vs, ws, h1, h3, ?_⟩
    rw [h2.length, h4.length]
    simp only [List.length_map, List.length_zip]
    omega
  · subst e1 e3
    obtain ⟨d, hd, rd⟩ := h2.getV (y1 vs h1)
    obtain ⟨d2, hd2, rd2⟩ := h4.getV (y2 ws h3)
    obtain ⟨F', g1, g2⟩ := pair_ext l e2 rd rd2
    exact ⟨F', _, zip_get hd hd2, g1, g2⟩
theorem Src.zipT {a b : Addr} {xs ys : List D} : Src C (RZ.ItzT C.K a b) ((xs.zip ys).map fun p => D.tup [p.1, p.2]) (fun W H => ST C a xs W H ∧ ST C b ys W H) := by
  refine ⟨fun i W H ⟨⟨vs, h1, h2⟩, ⟨ws, h3, h4⟩⟩ hi => ?_, fun W H ⟨⟨vs, h1, h2⟩, ⟨ws, h3, h4⟩⟩ => ?_, fun i W H v H' ⟨⟨vs, h1, h2⟩, ⟨ws, h3, h4⟩⟩ l hi ⟨q, x, y, e1, e2, e3, y1, y2⟩ => ?_⟩
  · simp only [List.length_map, List.length_zip] at hi
    exact ⟨vs, ws, vs[i]'(by rw [h2.length]; omega), ws[i]'(by rw [h4.length]; omega), h1, h3, List.getElem?_eq_getElem _, List.getElem?_eq_getElem _⟩
  · refine ⟨vs, ws, h1, h3, ?_⟩
    rw [h2.length, h4.length]
    simp only [List.length_map, List.length_zip]
    omega
  · subst e1 e3
    obtain ⟨d, hd, rd⟩ := h2.getV (y1 vs h1)
    obtain ⟨d2, hd2, rd2⟩ := h4.getV (y2 ws h3)
    obtain ⟨F', g1, g2⟩ := pair_ext l e2 rd rd2
    exact ⟨F', _, zip_get hd hd2, g1, g2⟩
theorem pi_zp {ex ex2 : Expr} {x : Str} {p pos tpos : Pos} {elts : List Expr} {kk : Nat} {m m2 : List Slot → DHp → R D} {LL : List Slot → List Slot} (oX : XOk T P C Γ N k cm X sc Wx) (hx : isB T sc x "zip" = true) (ok : okX ex = true) (ok2 : okX ex2 = true) (hp : PE X ex (tE C Wx m)) (hp2 : PE X ex2 (tE C Wx m2))
    (hL : ∀ L x, (∀ d, P2.derefO (LL L) x = some d → P2.derefO L x = some d)) : PI X (.Tuple elts kk tpos) (.Call (.Name x p) [ex, ex2] [] pos) (tI C Wx none (fun L h => R.bind (m L h) fun x h1 => R.bind (m2 L h1) fun y h2 => P2.zipV (LL L) x y h2)) := by
  obtain ⟨rfl, g, mm, d1, d2⟩ := isB_of oX hx
  refine PI.imp (RZ.pi_zipA g mm (pa_cons hp (pa_cons hp2 pa_nil (okX_star ok2)) (okX_star ok)) (okX_star ok) (by rw [okX_star ok2]; rfl)) fun σ H R' ⟨B, W, L, h, r, q⟩ => ?_
  refine ⟨B, W, L, h, r, q.run fun v H1 x1 h1 W1 e1 l1 r1 c1 q1 => ⟨B, W1, L, h1, r1, q1.run fun u H2 x2 h2 W2 e2 l2 r2 c2 q2 => ?_⟩⟩
  have c1' : rA C L σ W2 v x1 := .inl (Rep.le l2.1 l2.2 c1)
  have n1 : ∀ i, x1 = .own i → (none : Option Nat) = some i := fun i e => by subst e; cases c1
  have n2 : ∀ i, x2 = .own i → (none : Option Nat) = some i := fun i e => by subst e; cases c2
  unfold P2.zipV at q2
  cases hd : P2.derefO (LL L) x1 with
  | none => rw [hd] at q2; exact q2.elim
  | some x' =>
    rw [hd] at q2
    cases hd2 : P2.derefO (LL L) x2 with
    | none => rw [hd2] at q2; exact q2.elim
    | some y' =>
      rw [hd2] at q2
      cases x' with
      | lst xs =>
        cases y' with
        | lst ys =>
          obtain ⟨a, f1, ⟨vs, f2, f2'⟩, f3⟩ := held_lst r2 c1' n1 (hL L x1 _ hd)
          obtain ⟨b, f4, ⟨ws, f5, f5'⟩, f6⟩ := held_lst r2 (.inl c2) n2 (hL L x2 _ hd2)
          subst f1 f4
          refine ⟨a, b, vs, ws, rfl, .inl ⟨by rw [oX.st.hK]; exact f2, by rw [oX.st.hK]; exact f5, ?_⟩⟩
          rw [oX.st.hK]
          exact q2 W2 H2 (GW.le.refl _) r2 _ _ Src.zipL fun B2 W3 L2 h2 σ2 H2 l r hk => ⟨f3 B2 W3 L2 h2 σ2 H2 l r hk, f6 B2 W3 L2 h2 σ2 H2 l r hk⟩
        | _ => exact q2.elim
      | tup xs =>
        cases y' with
        | tup ys =>
          obtain ⟨a, f1, ⟨vs, f2, f2'⟩, f3⟩ := held_tup (src := none) r2 c1' (hL L x1 _ hd)
          obtain ⟨b, f4, ⟨ws, f5, f5'⟩, f6⟩ := held_tup (src := none) r2 (.inl c2) (hL L x2 _ hd2)
          subst f1 f4
          refine ⟨a, b, vs, ws, rfl, .inr ⟨by rw [oX.st.hK]; exact f2, by rw [oX.st.hK]; exact f5, ?_⟩⟩
          rw [oX.st.hK]
          exact q2 W2 H2 (GW.le.refl _) r2 _ _ Src.zipT fun B2 W3 L2 h2 σ2 H2 l r hk => ⟨f3 B2 W3 L2 h2 σ2 H2 l r hk, f6 B2 W3 L2 h2 σ2 H2 l r hk⟩
        | _ => exact q2.elim
      | _ => exact q2.elim
end
end P2S
end

section
/-! P2Cmp: comprehensions. -/
set_option autoImplicit false
set_option Elab.async false
set_option linter.all false
set_option maxRecDepth 100000
set_option maxHeartbeats 1000000
namespace P2S
open PySem PySem.Spec L2
open P2 (D DO DHp Exn Slot snap R SR Run Pg Xe Xes Xo Xi Xt Xs Xss Xh Fn Bi)
/-! ### slots -/
theorem kills_out {L : List Slot} {i : Nat} : ∀ {vs : List Nat}, i ∉ vs → (P2.kills L vs)[i]? = L[i]?
  | [], _ => rfl
  | v :: vs, h => by
    have h' : i ≠ v ∧ i ∉ vs := by simpa using h
    show (P2.kills (L.set v .emp) vs)[i]? = _
    rw [kills_out h'.2, set_ne h'.1]
theorem kills_own {L : List Slot} {i : Nat} {o : DO} {vs : List Nat} (h : (P2.kills L vs)[i]? = some (.own o)) : i ∉ vs ∧ L[i]? = some (.own o) := by
  by_cases hi : i ∈ vs
  · rcases kills_emp (L := L) (Or.inl hi) with q | q
    · rw [q] at h; cases h
    · rw [List.getElem?_eq_none (by rw [kills_length]; exact q)] at h; cases h
  · exact ⟨hi, by rw [kills_out hi] at h; exact h⟩
mutual
theorem bindG_out {L L' : List Slot} {d : D} {i : Nat} : ∀ {g : Xt}, P2.bindG g d L = some L' → i ∉ P2.gSlots g → L'[i]? = L[i]?
  | .name j, e, h => by
    simp only [P2.bindG, Option.some.injEq] at e
    subst e
    simp only [P2.gSlots, List.mem_singleton] at h
    exact set_ne h
  | .tup gs, e, h => by
    cases d with
    | tup ds => exact bindGs_out (by simpa only [P2.bindG] using e) (by simpa only [P2.gSlots] using h)
    | _ => simp [P2.bindG] at e
theorem bindGs_out {i : Nat} : ∀ {gs : List Xt} {ds : List D} {L L' : List Slot}, P2.bindGs gs ds L = some L' → i ∉ P2.gSlotss gs → L'[i]? = L[i]?
  | [], ds, L, L', e, h => by
    cases ds <;> simp [P2.bindGs] at e
    rw [e]
  | g :: gs, ds, L, L', e, h => by
    cases ds with
    | nil => simp [P2.bindGs] at e
    | cons d ds =>
      simp only [P2.gSlotss, List.mem_append, not_or] at h
      simp only [P2.bindGs] at e
      split at e
      · rename_i L1 h1
        rw [bindGs_out e h.2, bindG_out h1 h.1]
      · cases e
end
mutual
theorem bindG_length {L L' : List Slot} {d : D} : ∀ {g : Xt}, P2.bindG g d L = some L' → L'.length = L.length
  | .name j, e => by
    simp only [P2.bindG, Option.some.injEq] at e
    subst e
    simp
  | .tup gs, e => by
    cases d with
    | tup ds => exact bindGs_length (by simpa only [P2.bindG] using e)
    | _ => simp [P2.bindG] at e
theorem bindGs_length : ∀ {gs : List Xt} {ds : List D} {L L' : List Slot}, P2.bindGs gs ds L = some L' → L'.length = L.length
  | [], ds, L, L', e => by
    cases ds <;> simp [P2.bindGs] at e
    rw [e]
  | g :: gs, ds, L, L', e => by
    cases ds with
    | nil => simp [P2.bindGs] at e
    | cons d ds =>
      simp only [P2.bindGs] at e
      split at e
      · rename_i L1 h1
        rw [bindGs_length e, bindG_length h1]
      · cases e
end
theorem wipe_get {σ : St} {i : Nat} : ∀ {vs : List Nat}, i ∈ vs → i < σ.length → (wipe σ vs)[i]? = some none
  | v :: vs, h, hl => by
    show ((wipe σ vs).set v none)[i]? = _
    by_cases hi : i = v
    · subst hi; exact set_eq (by rw [wipe_length]; exact hl)
    · rw [set_ne hi]; exact wipe_get (by simpa [hi] using h) hl
theorem wipe_keep {σ : St} {i : Nat} : ∀ {vs : List Nat}, i ∉ vs → (wipe σ vs)[i]? = σ[i]?
  | [], _ => rfl
  | v :: vs, h => by
    have h' : i ≠ v ∧ i ∉ vs := by simpa using h
    show ((wipe σ vs).set v none)[i]? = _
    rw [set_ne h'.1, wipe_keep h'.2]
theorem wipe_same {σ τ : St} {vs : List Nat} (hl : σ.length = τ.length) (h : ∀ i, i ∉ vs → σ[i]? = (wipe τ vs)[i]?) : wipe σ vs = wipe τ vs := by
  apply List.ext_getElem?
  intro i
  by_cases hi : i ∈ vs
  · by_cases hl' : i < σ.length
    · rw [wipe_get hi hl', wipe_get hi (by omega)]
    · rw [List.getElem?_eq_none (by rw [wipe_length]; omega), List.getElem?_eq_none (by rw [wipe_length]; omega)]
  · rw [wipe_keep hi, h i hi]
section
variable {C : Cfg} {B : Bs} {W : GW} {L : List Slot} {h : DHp} {σ : St} {H : Hp}
/-- back from a judgement that started in a comprehension -/
theorem HR.back {vs : List Nat} {W' : GW} {L' : List Slot} {h' : DHp} {σ' : St} {H' : Hp} (r : HR C B W L h σ H) (q : HR C (B.re W (P2.kills L vs) (L2.wipe σ vs) H) W' L' h' σ' H') (hL : ∀ i, i ∉ vs → L'[i]? = L[i]?) (hσ : ∀ i, i ∉ vs → σ'[i]? = σ[i]?) : HR C B W' L h' σ H' :=
  r.call q.toHS (fun a ha => by
    obtain ⟨j, o, h1, h2⟩ := mem_owned.mp ha
    obtain ⟨k1, k2⟩ := kills_own h1
    rw [wipe_keep k1] at h2
    exact (r.ownf j o a k2 h2).2.2) fun j o a e1 e2 ha => by
    obtain ⟨j', o', h1, h2⟩ := mem_owned.mp ha
    obtain ⟨k1, k2⟩ := kills_own h1
    rw [wipe_keep k1] at h2
    have := r.ownd j j' o o' a e1 k2 e2 h2
    subst this
    obtain ⟨a', g1, g2⟩ := q.own_at (i := j) (o := o) (by rw [hL j k1]; exact e1)
    rw [hσ j k1, e2] at g1
    cases g1
    exact g2
end
theorem bind_noEx {α β : Type} {m : R α} {f : α → DHp → R β} : P2.noEx (R.bind m f) = match m with | .ok a h => P2.noEx (f a h) | _ => .stk := by
  cases m <;> rfl
/-- no error leaves, none is handled -/
def Wq0 : Wq := ⟨fun _ _ _ _ => False, none⟩
section
variable {T : Tb} {P : Pg} {C : Cfg} {Γ : P2.Run} {N : List Str} {k : Nat} {cm : Bool} {X : Cx} {sc : Scope} {Wx : Wq}
def rB : Rl Bool Bool := fun _ _ _ b a => b = a
def tC' (P : Pg) (C : Cfg) (Γ : P2.Run) (Wx : Wq) (c : Xo) : TT := tG C Wx rB (P2.evC P Γ c)
/-- a list that is being made, of no one's -/
structure Priv (B : Bs) (W : GW) (L : List Slot) (σ : St) (D0 : Addr) : Prop where
  f : W.F D0 = none
  ρ : D0 ∉ W.ρ
  h0 : B.H0 D0 = none
  ex : D0 ∉ B.exs
  own : D0 ∉ owned L σ
theorem comp_ent {elt : Xe} {tg : Xt} {it : Xi} {c : Xo} {σ : St} {H : Hp} {Q : VK} (hxq : Wx.xq = none) (hsrc : ∀ i, srcOf it = some i → i ∉ P2.gSlots tg) (t : tE C Wx (P2.evE P Γ (.comp elt tg it c)) σ H Q) :
    tLc (tI C Wx (srcOf it) (P2.evI P Γ it)) (tTg C Wq0 tg) (tC' P C Γ Wq0 c) (tE C Wq0 (P2.evE P Γ elt)) (P2.gSlots tg) σ H Q := by
  obtain ⟨B, W, L, h, r, p⟩ := t
  simp only [P2.evE] at p
  refine ⟨B, W, L, h, r, ?_⟩
  have hB : B.1.exc = none := B.2.trans hxq
  cases hm : P2.evI P Γ it L h with
  | ex x h1 => rw [hm] at p; exact p
  | stk => rw [hm] at p; exact p
  | ok xs h1 =>
    rw [hm] at p
    intro W1 H1 l1 r1 J S hS hst D0 hD
    replace p : Po C Wx (rE C) B.1 L σ W1 (if xs.length ≤ P2.lineMax then P2.noEx (R.bind (P2.compL (P2.evE P Γ elt) (P2.evC P Γ c) tg (P2.kills L (P2.gSlots tg)) xs [] h1) fun ds h2 => .ok (.lst ds) h2) else .stk) Q := Po.le l1 p
    by_cases hn : xs.length ≤ P2.lineMax
    case neg => rw [if_neg hn] at p; exact p.elim
    rw [if_pos hn] at p
    obtain ⟨f1, f2, f3, f4⟩ := r1.toHS.fresh hD
    have pr : Priv B.1 W1 L σ D0 := ⟨f2, f3, f1, f4, fun z => by
      obtain ⟨j, o, e1, e2⟩ := mem_owned.mp z
      obtain ⟨a, g1, g2⟩ := r1.own_at e1
      rw [e2] at g1; cases g1
      obtain ⟨u, hu, _⟩ := g2.some
      rw [hD] at hu; cases hu⟩
    refine ⟨fun i m H2 => m = xs.length - i ∧ i ≤ xs.length ∧ ∃ W2 h2 acc vs, W1.le W2 ∧ HR C B.1 W2 L h2 σ H2 ∧ H2 D0 = some (.lst vs) ∧ Reps C W2.F W2.ρ vs acc ∧ acc.length ≤ i ∧ Priv B.1 W2 L σ D0 ∧
      Po C Wx (rE C) B.1 L σ W2 (P2.noEx (R.bind (P2.compL (P2.evE P Γ elt) (P2.evC P Γ c) tg (P2.kills L (P2.gSlots tg)) (xs.drop i) acc h2) fun ds h2 => .ok (.lst ds) h2)) Q,
      ⟨xs.length, by omega, Nat.zero_le _, W1, h1, [], [], GW.le.refl _, r1.waste pr.f pr.ρ pr.h0 pr.ex pr.own, upd_same, .nil, Nat.le_refl _, pr, p⟩, ?_⟩
    rintro i m H2 ⟨em, hi, W2, h2, acc, vs, l2, r2, hD2, rs, hacc, pv, p2⟩
    have hSS : S W2 H2 := hst B.1 W2 L h2 σ H2 l2 r2 fun _ _ => ⟨rfl, rfl⟩
    by_cases he : i = xs.length
    · -- the end
      subst he
      refine .inl ⟨hS.2.1 W2 H2 hSS, ?_⟩
      rw [List.drop_length] at p2
      have p3 : Po C Wx (rE C) B.1 L σ W2 (.ok (.lst acc) h2) Q := p2
      have rt := r2.tell hD2 pv.f pv.ρ pv.h0 pv.ex (fun j o e1 e2 => pv.own (mem_owned.mpr ⟨j, o, e1, e2⟩))
      have lf : Le W2.F (upd W2.F D0 (.lst vs)) := le_upd pv.f
      exact p3 ⟨upd W2.F D0 (.lst vs), W2.ρ⟩ H2 (.ref D0) ⟨lf, LeL.refl _⟩ rt (.lst (.inl upd_same) (rs.le lf (LeL.refl _)))
    · have hi' : i < xs.length := by omega
      refine .inr ⟨hS.1 i W2 H2 hSS hi', fun H' => (m - 1) = xs.length - (i + 1) ∧ i + 1 ≤ xs.length ∧ ∃ W2 h2 acc vs, W1.le W2 ∧ HR C B.1 W2 L h2 σ H' ∧ H' D0 = some (.lst vs) ∧ Reps C W2.F W2.ρ vs acc ∧ acc.length ≤ i + 1 ∧ Priv B.1 W2 L σ D0 ∧
        Po C Wx (rE C) B.1 L σ W2 (P2.noEx (R.bind (P2.compL (P2.evE P Γ elt) (P2.evC P Γ c) tg (P2.kills L (P2.gSlots tg)) (xs.drop (i + 1)) acc h2) fun ds h2 => .ok (.lst ds) h2)) Q, fun H' z => ⟨m - 1, by omega, z⟩, fun x H3 hy => ?_⟩
      obtain ⟨F3, d, hd, e3, rx⟩ := hS.2.2 i W2 H2 x H3 hSS r2.fz hi' hy
      have hdrop : xs.drop i = d :: xs.drop (i + 1) := by
        rw [List.drop_eq_getElem_cons hi']
        congr 1
        rw [List.getElem?_eq_getElem hi'] at hd
        exact Option.some.inj hd
      rw [hdrop] at p2
      simp only [P2.compL] at p2
      have r3 : HR C B.1 ⟨F3, W2.ρ⟩ L h2 σ H3 := r2.ext e3
      have l3 : W2.le ⟨F3, W2.ρ⟩ := ⟨e3.f, LeL.refl _⟩
      have hD3 : H3 D0 = some (.lst vs) := e3.h _ _ hD2
      have hF3 : F3 D0 = none := ext_notnew e3 hD2 pv.f
      have r4 := (r3.comp (vs := P2.gSlots tg)).rebase
      have hBx : (B.1.re ⟨F3, W2.ρ⟩ (P2.kills L (P2.gSlots tg)) (wipe σ (P2.gSlots tg)) H3).exc = Wq0.xq := hB
      refine ⟨⟨_, hBx⟩, ⟨F3, W2.ρ⟩, _, h2, d, r4, rx, ?_⟩
      cases hb : P2.bindG tg d (P2.kills L (P2.gSlots tg)) with
      | none => rw [hb] at p2; exact p2.elim
      | some L' =>
        rw [hb] at p2
        dsimp only at p2
        intro σ' r5 hk
        have hL' : ∀ j, j ∉ P2.gSlots tg → L'[j]? = L[j]? := fun j hj => by rw [bindG_out hb hj, kills_out hj]
        have hσ' : ∀ j, j ∉ P2.gSlots tg → σ'[j]? = σ[j]? := fun j hj => by rw [hk j hj, wipe_keep hj]
        have hlen : σ'.length = σ.length := by
          have e1 := r5.sl
          rw [bindG_length hb, kills_length, r3.sl] at e1
          exact e1.symm
        refine ⟨wipe_same hlen fun j hj => hk j hj, ?_⟩
        -- behind the test
        have back : ∀ {W5 : GW} {h5 : DHp} {H5 : Hp}, (⟨F3, W2.ρ⟩ : GW).le W5 → HR C (B.1.re ⟨F3, W2.ρ⟩ (P2.kills L (P2.gSlots tg)) (wipe σ (P2.gSlots tg)) H3) W5 L' h5 σ' H5 → HR C B.1 W5 L h5 σ H5 ∧ H5 D0 = some (.lst vs) ∧ Priv B.1 W5 L σ D0 := fun {W5 h5 H5} l5 q => by
          have hx : D0 ∉ owned (P2.kills L (P2.gSlots tg)) (wipe σ (P2.gSlots tg)) := fun z => by
            obtain ⟨j, o, g1, g2⟩ := mem_owned.mp z
            obtain ⟨k1, k2⟩ := kills_own g1
            rw [wipe_keep k1] at g2
            exact pv.own (mem_owned.mpr ⟨j, o, k2, g2⟩)
          refine ⟨r3.back q hL' hσ', q.keep D0 _ hD3 pv.ρ hx, ?_, ?_, pv.h0, pv.ex, pv.own⟩
          · cases z : W5.F D0 with
            | none => rfl
            | some u =>
              rcases q.new D0 u z with y | y
              · exact absurd y (by show ¬ F3 D0 = some u; rw [hF3]; simp)
              · exact absurd y (by show ¬ H3 D0 = none; rw [hD3]; simp)
          · intro z
            rcases q.trn D0 z with y | y
            · exact pv.ρ y
            · exact absurd y (by show ¬ H3 D0 = none; rw [hD3]; simp)
        refine ⟨⟨_, hBx⟩, ⟨F3, W2.ρ⟩, L', h2, r5, ?_⟩
        cases hc : P2.evC P Γ c L' h2 with
        | ex x h3 => rw [hc] at p2; exact p2.elim
        | stk => rw [hc] at p2; exact p2.elim
        | ok b h3 =>
          rw [hc] at p2
          intro W4 H4 b' l4 r6 eb
          have eb' : b' = b := eb
          subst eb'
          by_cases hbb : b' = true
          · subst hbb
            rw [if_pos rfl]
            refine ⟨⟨_, hBx⟩, W4, L', h3, r6, ?_⟩
            cases he2 : P2.evE P Γ elt L' h3 with
            | ex x h4 => simp only [R.bind, he2, if_true] at p2; exact p2.elim
            | stk => simp only [R.bind, he2, if_true] at p2; exact p2.elim
            | ok y h4 =>
              intro W5 H5 v l5 r7 rv
              obtain ⟨b1, b2, b3⟩ := back (GW.le.trans l4 l5) r7
              refine ⟨vs, b2, by rw [Reps.length rs, ← lineMax_eq]; omega, by omega, by omega, W5, h4, acc ++ [y], vs ++ [v], l2.trans (l3.trans (l4.trans l5)), b1.waste b3.f b3.ρ b3.h0 b3.ex b3.own, upd_same, (rs.le (l3.trans (l4.trans l5)).1 (l3.trans (l4.trans l5)).2).append (.cons rv .nil), by simp; omega, b3, ?_⟩
              refine Po.le (l3.trans (l4.trans l5)) ?_
              simp only [R.bind, he2, if_true] at p2
              exact p2
          · rw [if_neg hbb]
            obtain ⟨b1, b2, b3⟩ := back l4 r6
            refine ⟨by omega, by omega, W4, h3, acc, vs, l2.trans (l3.trans l4), b1, b2, rs.le (l3.trans l4).1 (l3.trans l4).2, by omega, b3, ?_⟩
            refine Po.le (l3.trans l4) ?_
            have hbf : b' = false := by simpa using hbb
            subst hbf
            simp only [R.bind] at p2
            exact p2
end
end P2S
end

section
/-! P2Sound: a tree that a table's expression matches does what the table says. -/
set_option autoImplicit false
set_option Elab.async false
set_option linter.all false
set_option maxRecDepth 100000
set_option maxHeartbeats 1000000
namespace P2S
open PySem PySem.Spec L2
open P2 (D DO DHp Exn Slot snap R SR Run Pg Xe Xes Xo Xi Xt Xs Xss Xh Fn Bi)
section
variable {T : Tb} {P : Pg} {C : Cfg} {Γ : P2.Run} {N : List Str} {k : Nat} {cm : Bool} {X : Cx} {sc : Scope} {Wx : Wq}
/-! ### sources by expressions -/
def rS (C : Cfg) (src : Option Nat) : Rl D V := fun L σ W v d => rA C L σ W v d ∧ ∀ i, d = .own i → src = some i
theorem pe_src {e : Xe} {ex : Expr} (ha : OkE P C Γ X Wx e ex) : PE X ex (tG C Wx (rS C (srcX e)) (P2.evA P Γ e)) := by
  by_cases hv : ∃ i, e = .var i
  · obtain ⟨i, rfl⟩ := hv
    refine PE.imp ha.pa fun σ H Q ⟨B, W, L, h, r, p⟩ => ⟨B, W, L, h, r, ?_⟩
    cases hm : P2.evA P Γ (.var i) L h with
    | ex x h1 => rw [hm] at p; exact p
    | stk => rw [hm] at p; exact p
    | ok d h1 =>
      rw [hm] at p
      refine fun W1 H1 v l1 r1 c1 => p W1 H1 v l1 r1 ⟨c1, fun j e => ?_⟩
      subst e
      simp only [P2.evA] at hm
      split at hm
      · rename_i d' hd
        cases hm
        obtain ⟨v', g1, g2⟩ := r1.val_at hd
        exact g2.noOwn.elim
      · cases hm
        rfl
      · cases hm
  · have hA : ∀ L h, P2.evA P Γ e L h = P2.evE P Γ e L h := by
      intro L h
      cases e <;> first | (exact absurd ⟨_, rfl⟩ hv) | simp only [P2.evA]
    refine PE.imp ha.pe fun σ H Q ⟨B, W, L, h, r, p⟩ => ⟨B, W, L, h, r, ?_⟩
    rw [hA] at p
    cases hm : P2.evE P Γ e L h with
    | ex x h1 => rw [hm] at p; exact p
    | stk => rw [hm] at p; exact p
    | ok d h1 =>
      rw [hm] at p
      exact fun W1 H1 v l1 r1 c1 => p W1 H1 v l1 r1 ⟨.inl c1, fun j e => by subst e; exact (Rep.noOwn c1).elim⟩
theorem rS_ok {src : Option Nat} : ∀ L σ W v d, rS C src L σ W v d → rA C L σ W v d ∧ ∀ i, d = .own i → src = some i := fun _ _ _ _ _ h => h
theorem rE_ok {src : Option Nat} : ∀ L σ W v d, rE C L σ W v d → rA C L σ W v d ∧ ∀ i, d = .own i → src = some i := fun _ _ _ _ _ h => ⟨.inl h, fun i e => by subst e; exact (Rep.noOwn h).elim⟩
theorem derefO_nil : ∀ (L : List Slot) (x d : D), P2.derefO [] x = some d → P2.derefO L x = some d := by
  intro L x d h
  cases x <;> first | exact h | simp [P2.derefO] at h
structure OkI (C : Cfg) (X : Cx) (Wx : Wq) (tg' : Expr) (src : Option Nat) (m : List Slot → DHp → R (List D)) (ex : Expr) : Prop where
  pi : PI X tg' ex (tI C Wx src m)
  fold : ∀ x, foldedSetIterable ex X.env x = pure x
theorem tup_of {tg' : Expr} (h : isTupX tg' = true) : ∃ es kk p, tg' = .Tuple es kk p := by
  cases tg' <;> first | exact ⟨_, _, _, rfl⟩ | exact (nomatch (show false = true from h))

/-! ### the scope of a comprehension -/
theorem blk_ok {scope : Scope} {s : Shared} {H : Hp} {Cc : Addr} {cl : List (Str × Addr)} {fp : List Addr} (oX : XOk T P C Γ N k true X sc Wx) : XOk T P C Γ N k true (X.blk s H scope (compEnvC scope cl Cc X.env) fp) (relS scope sc) Wq0 where
  st := oX.st
  hN := oX.hN
  nd := oX.nd
  hsc := by
    show relabel scope X.env = _
    unfold relabel relS Env.kindOf
    rw [oX.hsc]
  calm := oX.calm
  hd := oX.hd
  rm := oX.rm
  xn := fun _ => rfl
  tak := fun u s' c => by
    obtain ⟨a, B, sI, pins, σ, H, cls, d, _, _, _, _, _, _, _, _, z⟩ := c
    exact z.elim
  sx := oX.sx
  xf := fun a cls dd e => nomatch e
  xi := fun a cls dd e => nomatch e
theorem blk_stor {scope : Scope} {s : Shared} {H : Hp} {Cc : Addr} {cl : List (Str × Addr)} {fp : List Addr} : Stor (X.blk s H scope (compEnvC scope cl Cc X.env) fp) (isLoc scope) := by
  intro x hx
  have hl : scope.names.lookup x = some .local ∨ scope.names.lookup x = some .cell := loc_of hx
  have keep : ∀ k, k ≠ .free → scope.names.lookup x = some k → (relabel scope X.env).names.lookup x = some k := fun k hk e => lookup_relS_keep (sc := X.env.scope) hk e
  rcases hl with e | e
  · exact ⟨.inl (keep _ (by decide) e), .inr (keep _ (by decide) e)⟩
  · exact ⟨.inr (keep _ (by decide) e), .inl (by show (scope.names.lookup x == some .cell) = true; rw [e]; rfl)⟩
structure OkC (P : Pg) (C : Cfg) (Γ : P2.Run) (X : Cx) (Wx : Wq) (c : Xo) (ifs : List Expr) : Prop where
  pts : PTs X ifs (tC' P C Γ Wx c)
theorem PTs.imp {ifs : List Expr} {t t' : TT} (p : PTs X ifs t) (k : ∀ σ H Q, t' σ H Q → t σ H Q) : PTs X ifs t' := ⟨fun pins s σ H Q I q => p.run pins s σ H Q I (k σ H Q q)⟩
theorem semc_none : OkC P C Γ X Wx .none [] := ⟨PTs.imp pts_nil fun σ H Q ⟨B, W, L, h, r, p⟩ => by
  simp only [P2.evC] at p
  exact p.ok r rfl⟩
theorem semc_some {e : Xe} {ex : Expr} (ha : OkE P C Γ X Wx e ex) : OkC P C Γ X Wx (.some e) [ex] := ⟨PTs.imp (pts_one ha.pt) fun σ H Q ⟨B, W, L, h, r, p⟩ => by
  simp only [P2.evC] at p
  refine ⟨B, W, L, h, r, p.run fun v H1 d h1 W1 _ l1 r1 c1 p1 => ?_⟩
  split at p1
  · cases c1
    exact ⟨_, rfl, p1.ok r1 rfl⟩
  · exact p1.elim⟩
theorem sem_comp {elt : Xe} {tg : Xt} {it : Xi} {c : Xo} {e' tg' it' : Expr} {ifs : List Expr} {scope : Scope} {pos : Pos} (oX : XOk T P C Γ N k true X sc Wx) (hb : blkC N sc scope (gOwn N tg) = true) (ho : (gOwn N tg).map (·.2) = P2.gSlots tg)
    (hI : OkI C X Wx tg' (srcOf it) (P2.evI P Γ it) it') (hs : ∀ i, srcOf it = some i → i ∉ P2.gSlots tg)
    (hG : ∀ X', XOk T P C Γ N k true X' (relS scope sc) Wq0 → Stor X' (isLoc scope) → OkG C X' Wq0 tg tg') (hC : ∀ X', XOk T P C Γ N k true X' (relS scope sc) Wq0 → OkC P C Γ X' Wq0 c ifs) (hE : ∀ X', XOk T P C Γ N k true X' (relS scope sc) Wq0 → OkE P C Γ X' Wq0 elt e') :
    OkE P C Γ X Wx (.comp elt tg it c) (.ListComp e' [⟨tg', it', ifs, 0⟩] scope pos) := by
  have bk : BlkOk X.N X.env.scope scope (gOwn N tg) := by rw [oX.hN, oX.hsc]; exact blkOk_by hb
  refine OkE.val rfl rfl (fun _ _ => by simp only [P2.evA]) (PE.imp (pe_lc (own := gOwn N tg) oX.calm (by rw [oX.hN]; exact oX.nd) hI.pi bk (fun s H Cc cl fp => (hG _ (blk_ok oX) blk_stor).pg) (fun s H Cc cl fp => (hC _ (blk_ok oX)).pts) (fun s H Cc cl fp => (hE _ (blk_ok oX)).pe) hI.fold) fun σ H Q t => ?_)
  rw [ho]
  exact comp_ent (oX.xn rfl) hs t

/-! ### all expressions -/
inductive OkL (P : Pg) (C : Cfg) (Γ : P2.Run) (X : Cx) (Wx : Wq) : Xes → List Expr → Prop
  | nil : OkL P C Γ X Wx .nil []
  | cons {e es x xs} : OkE P C Γ X Wx e x → OkL P C Γ X Wx es xs → OkL P C Γ X Wx (.cons e es) (x :: xs)
theorem OkL.es {es : Xes} {xs : List Expr} (h : OkL P C Γ X Wx es xs) : OkEs P C Γ X Wx es xs := by
  induction h with
  | nil => exact sems_nil
  | cons a _ ih => exact sems_cons a ih
theorem OkL.as {es : Xes} {xs : List Expr} (h : OkL P C Γ X Wx es xs) : OkAs P C Γ X Wx es xs := by
  induction h with
  | nil => exact semas_nil
  | cons a _ ih => exact semas_cons a ih
theorem sem_bi {b : Bi} {es : Xes} {x : Str} {nm : String} {c : Bool} {xs : List Expr} {p pos : Pos} (oX : XOk T P C Γ N k cm X sc Wx) (hl : NoLen P) (hb : bName b = some (nm, c)) (hc : (!c || cm) = true) (hx : isB T sc x (PySem.Str.ofString nm) = true) (hsup : x ≠ "super") (hne : xs ≠ []) (h : OkL P C Γ X Wx es xs) : OkE P C Γ X Wx (.bi b es) (.Call (.Name x p) xs [] pos) := by
  cases xs with
  | nil => exact (hne rfl).elim
  | cons e xs =>
    have ha := h.as
    cases b <;> simp only [bName, Option.some.injEq, Prod.mk.injEq, reduceCtorEq] at hb <;> obtain ⟨rfl, rfl⟩ := hb
    · exact sem_biB oX hl hx hsup (by decide +kernel) (callR_len oX.st.hK) ha
    · exact sem_biB oX hl hx hsup (by decide +kernel) callR_abs ha
    · exact sem_biT oX hl hx hsup (by decide +kernel) callR_int ha
    · exact sem_biT oX hl hx hsup (by decide +kernel) (callR_list oX.st.hK) ha
    · exact sem_biT oX hl hx hsup (by decide +kernel) (callR_tuple oX.st.hK) ha
    · exact sem_biB oX hl hx hsup (by decide +kernel) (callR_max oX.st.hK (oX.calm.trans (by simpa using hc)) oX.rm.units) ha
    · exact sem_biB oX hl hx hsup (by decide +kernel) (callR_min oX.st.hK (oX.calm.trans (by simpa using hc)) oX.rm.units) ha
    · exact sem_biB oX hl hx hsup (by decide +kernel) (callR_max2 (oX.calm.trans (by simpa using hc))) ha
    · exact sem_biB oX hl hx hsup (by decide +kernel) (callR_min2 (oX.calm.trans (by simpa using hc))) ha
    · exact sem_biB oX hl hx hsup (by decide +kernel) (callR_all (oX.calm.trans (by simpa using hc))) ha
    · exact sem_biB oX hl hx hsup (by decide +kernel) (callR_any (oX.calm.trans (by simpa using hc))) ha
    · exact sem_biB oX hl hx hsup (by decide +kernel) (callR_sorted oX.st.hK oX.rm.units) ha
theorem sem_isTy {b : Bi} {ty : String} {a : Xe} {x z : Str} {y : Expr} {p p2 pos : Pos} (oX : XOk T P C Γ N k cm X sc Wx) (hb : isTy b = some ty) (hx : isB T sc x "isinstance" = true) (hz : isB T sc z (PySem.Str.ofString ty) = true) (ha : OkE P C Γ X Wx a y) : OkE P C Γ X Wx (.bi b (.cons a .nil)) (.Call (.Name x p) [y, .Name z p2] [] pos) := by
  have d7 : ∀ (f : Nat → Bool) (t : String), (List.range 7).all (fun k => decide (kitB (tyN k) t = some (f k))) = true → ∀ k, k < 7 → kitB (tyN k) t = some (f k) := fun f t h k hk => of_decide_eq_true (List.all_eq_true.mp h k (List.mem_range.mpr hk))
  cases b <;> simp only [isTy, Option.some.injEq, reduceCtorEq] at hb <;> subst hb
  · exact sem_is (f := fun k => k == 1 || k == 2) oX (by decide) (fun d => rfl) (d7 _ _ (by decide +kernel)) hx hz (by decide +kernel) ha
  · exact sem_is (f := fun k => k == 1) oX (by decide) (fun d => rfl) (d7 _ _ (by decide +kernel)) hx hz (by decide +kernel) ha
  · exact sem_is (f := fun k => k == 3) oX (by decide) (fun d => rfl) (d7 _ _ (by decide +kernel)) hx hz (by decide +kernel) ha
  · exact sem_is (f := fun k => k == 5) oX (by decide) (fun d => rfl) (d7 _ _ (by decide +kernel)) hx hz (by decide +kernel) ha
  · exact sem_is (f := fun k => k == 4) oX (by decide) (fun d => rfl) (d7 _ _ (by decide +kernel)) hx hz (by decide +kernel) ha
  · exact sem_is (f := fun k => k == 6) oX (by decide) (fun d => rfl) (d7 _ _ (by decide +kernel)) hx hz (by decide +kernel) ha
theorem kit_lt : (∀ k, k < 7 → kitB (tyN k) "list" = some (k == 4)) ∧ ∀ k, k < 7 → kitB (tyN k) "tuple" = some (k == 5) := by
  have h1 : (List.range 7).all (fun k => decide (kitB (tyN k) "list" = some (k == 4))) = true := by decide +kernel
  have h2 : (List.range 7).all (fun k => decide (kitB (tyN k) "tuple" = some (k == 5))) = true := by decide +kernel
  exact ⟨fun k hk => of_decide_eq_true (List.all_eq_true.mp h1 k (List.mem_range.mpr hk)), fun k hk => of_decide_eq_true (List.all_eq_true.mp h2 k (List.mem_range.mpr hk))⟩
end
end P2S
end

section
/-! P2Kx: isinstance of a caught error; a field of an error made by names. -/
set_option autoImplicit false
set_option Elab.async false
set_option linter.all false
set_option maxRecDepth 100000
set_option maxHeartbeats 1000000
namespace P2S
open PySem PySem.Spec L2
open P2 (D DO DHp Exn Slot snap R SR Run Pg Xe Xes Xo Xi Xt Xs Xss Xh Fn Bi)
section
variable {T : Tb} {P : Pg} {C : Cfg} {Γ : P2.Run} {N : List Str} {k : Nat} {cm : Bool} {X : Cx} {sc : Scope} {Wx : Wq}
theorem slot_dd {C : Cfg} {W : GW} {H : Hp} {dd : Option Addr} {fs : List (Nat × D)} (e : ExF C W H dd fs) : dd = none ∨ ∃ d gs, dd = some d ∧ H d = some (.xd gs) := by
  rcases e with ⟨_, e⟩ | ⟨d, gs, e1, e2, _⟩
  · exact .inl e
  · exact .inr ⟨d, gs, e1, e2⟩
theorem sem_isX {i c : Nat} {x y z : Str} {p p1 p2 pos : Pos} (oX : XOk T P C Γ N k cm X sc Wx) (hk : T.xk = true) (hx : isB T sc x "isinstance" = true) (hi : N[i]? = some y) (hv : isVis sc y = true) (hN : okN y = true) (hc : T.exc[c]? = some z) (hg : isGl sc z = true) (hz : okN z = true) :
    OkE P C Γ X Wx (.isX i c) (.Call (.Name x p) [.Name y p1, .Name z p2] [] pos) := by
  obtain ⟨rfl, g, m, d1, d2⟩ := isB_of oX hx
  obtain ⟨hcl, hm⟩ := oX.sx.nm c z hc
  have pv : PE X (.Name y p1) (tVar i) := pe_var (by rw [oX.hN]; exact hi) (by rw [oX.hsc]; exact vis_of hv) (okN_of hN).1 (okN_of hN).2.1
  have pz : PE X (.Name z p2) (tC (.ref (C.exc c))) := pe_glob (gl_of oX.hsc hg) hm rfl (okN_of hz).1
  refine OkE.val (okX_call (by decide)) rfl (fun _ _ => by simp only [P2.evA]) ⟨fun pins s σ H Q I ⟨B, W, L, h, r, q⟩ => ?_⟩
  simp only [P2.evE] at q
  split at q
  · rename_i w hw
    obtain ⟨hwe, a, dd, e1, e2, e3⟩ := r.slots i _ hw
    rw [B.2] at e1
    refine (pe_callB (oX.xi a _ dd e1 (C.exc w.c) rfl (oX.sx.ec hk w.c hwe)) g m (by decide +kernel) (pa_cons pv (pa_cons pz pa_nil rfl) rfl) d2 d1 rfl rfl).run pins s σ H Q I ⟨_, e2, ?_⟩
    exact ⟨.ref (C.exc c), .ref (C.exc c), _, rfl, fun u hu => hu, oX.sx.kit hk c w.c hcl hwe, slot_dd e3, q.ok r (.bl _)⟩
  · exact q.elim
theorem sem_isXB {i kx : Nat} {nm : String} {x y z : Str} {p p1 p2 pos : Pos} (oX : XOk T P C Γ N k cm X sc Wx) (hk : T.xk = true) (hx : isB T sc x "isinstance" = true) (hi : N[i]? = some y) (hv : isVis sc y = true) (hN : okN y = true) (hb : xblt kx = some nm) (hz : isB T sc z (PySem.Str.ofString nm) = true) :
    OkE P C Γ X Wx (.isXB i kx) (.Call (.Name x p) [.Name y p1, .Name z p2] [] pos) := by
  obtain ⟨rfl, g, m, d1, d2⟩ := isB_of oX hx
  obtain ⟨rfl, g2, m2, d3, d4⟩ := isB_of oX hz
  have hv2 : bootBuiltins (PySem.Str.ofString nm) = some (.type nm) := by
    unfold xblt at hb
    split at hb <;> cases hb <;> decide +kernel
  have pv : PE X (.Name y p1) (tVar i) := pe_var (by rw [oX.hN]; exact hi) (by rw [oX.hsc]; exact vis_of hv) (okN_of hN).1 (okN_of hN).2.1
  refine OkE.val (okX_call (by decide)) rfl (fun _ _ => by simp only [P2.evA]) ⟨fun pins s σ H Q I ⟨B, W, L, h, r, q⟩ => ?_⟩
  simp only [P2.evE] at q
  split at q
  · rename_i w hw
    obtain ⟨hwe, a, dd, e1, e2, e3⟩ := r.slots i _ hw
    rw [B.2] at e1
    refine (pe_callB (oX.xi a _ dd e1 (C.exc w.c) rfl (oX.sx.ec hk w.c hwe)) g m (by decide +kernel) (pa_cons pv (pa_cons (pe_bltn g2 m2 hv2 (v := .ty nm) rfl d4 d3) pa_nil rfl) rfl) d2 d1 rfl rfl).run pins s σ H Q I ⟨_, e2, ?_⟩
    exact ⟨.ty nm, .type nm, _, rfl, fun u hu => hu, oX.sx.kitB hk kx nm w.c hb hwe, slot_dd e3, q.ok r (.bl _)⟩
  · exact q.elim
/-! ### arguments by names -/
structure OkK (T : Tb) (P : Pg) (C : Cfg) (Γ : P2.Run) (X : Cx) (Wx : Wq) (es : Xes) (ns : List Nat) (kws : List Keyword) : Prop where
  pk : PK X kws (tEs C Wx (P2.evEs P Γ es))
  all : ∀ pos env, (backToKw pos (keywordEach kws env)).all (·.1.isSome) = true
  none : ∀ pos env, (backToKw pos (keywordEach kws env)).any (·.1.isNone) = false
  nms : ∃ ks : List Str, ks.length = ns.length ∧ (∀ (i n : Nat), ns[i]? = some n → ∃ nm : Str, ks[i]? = some nm ∧ T.nms[n]? = some nm) ∧ ∀ pos env, (backToKw pos (keywordEach kws env)).filterMap (·.1) = ks
theorem okk_nil : OkK T P C Γ X Wx .nil [] [] where
  pk := ⟨fun pos pins s σ H Q I ⟨B, W, L, h, r, p⟩ => pk_nil.run pos pins s σ H Q I (by simp only [P2.evEs] at p; exact p.ok r .nil)⟩
  all := fun _ _ => rfl
  none := fun _ _ => rfl
  nms := ⟨[], rfl, fun i n e => by simp at e, fun _ _ => rfl⟩
theorem okk_cons {e : Xe} {es : Xes} {n : Nat} {ns : List Nat} {nm : Str} {x : Expr} {p : Pos} {kws : List Keyword} (ha : OkE P C Γ X Wx e x) (hn : T.nms[n]? = some nm) (hr : OkK T P C Γ X Wx es ns kws) : OkK T P C Γ X Wx (.cons e es) (n :: ns) (⟨some nm, x, p⟩ :: kws) where
  pk := ⟨fun pos pins s σ H Q I ⟨B, W, L, h, r, p⟩ => (pk_cons ha.pe hr.pk).run pos pins s σ H Q I (by
    simp only [P2.evEs] at p
    exact ⟨B, W, L, h, r, p.run fun v H1 d h1 W1 _ l1 r1 c1 p1 => ⟨B, W1, L, h1, r1, p1.run fun vs H2 ds h2 W2 _ l2 r2 c2 p2 => p2.ok r2 (.cons (Rep.le l2.1 l2.2 c1) c2)⟩⟩)⟩
  all := fun pos env => by
    show (true && (backToKw pos (keywordEach kws env)).all (·.1.isSome)) = true
    rw [hr.all]; rfl
  none := fun pos env => by
    show (false || (backToKw pos (keywordEach kws env)).any (·.1.isNone)) = false
    rw [hr.none]; rfl
  nms := by
    obtain ⟨ks, h1, h2, h3⟩ := hr.nms
    refine ⟨nm :: ks, by simp [h1], fun i m e => ?_, fun pos env => ?_⟩
    · cases i with
      | zero => cases e; exact ⟨nm, rfl, hn⟩
      | succ i => obtain ⟨nm', g1, g2⟩ := h2 i m (by simpa using e); exact ⟨nm', by simpa using g1, g2⟩
    · show nm :: (backToKw pos (keywordEach kws env)).filterMap (·.1) = _
      rw [h3]
theorem zipF_get {F : Hp} {ρ : List Addr} (nmI : ∀ i j, C.nm i = C.nm j → i = j) : ∀ {ns : List Nat} {vs : List V} {ds : List D} {n : Nat} {d : D}, Reps C F ρ vs ds → P2.fGet (ns.zip ds) n = some d → ∃ v, ((ns.map C.nm).zip vs).lookup (C.nm n) = some v ∧ Rep C F ρ v d
  | [], _, _, _, _, _, h => by simp [P2.fGet] at h
  | m :: ns, _, _, _, _, .nil, h => by simp [P2.fGet] at h
  | m :: ns, _, _, n, d, .cons (v := v) (ds := ds') a b, h => by
    by_cases e : m = n
    · subst e
      simp [P2.fGet] at h
      subst h
      exact ⟨v, by simp, a⟩
    · have hb : (m == n) = false := by simpa using e
      have h' : P2.fGet (ns.zip ds') n = some d := by
        simp only [P2.fGet, List.zip_cons_cons, List.find?_cons, hb] at h
        exact h
      obtain ⟨v', h1, h2⟩ := zipF_get nmI b h'
      have hc : (C.nm n == C.nm m) = false := by simpa using fun z => e (nmI _ _ z).symm
      exact ⟨v', by simp [List.lookup_cons, hc, h1], h2⟩
theorem perm_kw {fs ns : List Nat} (nmI : ∀ i j, C.nm i = C.nm j → i = j) (h : P2.permX fs ns = true) : (fs.length = 1 ∨ fs.length = 2) ∧ (∀ n, n ∈ ns → n ∈ fs) ∧ ∀ ws : List Value, ws.length = (ns.map C.nm).length → ∃ us, P2X.KwOk (fs.map C.nm) ((ns.map C.nm).zip ws) us ∧ us.length = (fs.map C.nm).length ∧ ∀ f, ((fs.map C.nm).zip us).lookup f = ((ns.map C.nm).zip ws).lookup f := by
  unfold P2.permX at h
  split at h
  · rename_i a b
    simp only [beq_iff_eq] at h
    subst h
    refine ⟨.inl rfl, fun n hn => hn, fun ws hw => ?_⟩
    match ws, hw with
    | [w], _ => exact ⟨[w], .one _ _, rfl, fun f => rfl⟩
  · rename_i a b c d
    simp only [Bool.or_eq_true, Bool.and_eq_true, beq_iff_eq, bne_iff_ne, ne_eq] at h
    rcases h with ⟨rfl, rfl⟩ | ⟨⟨rfl, rfl⟩, hne⟩
    · refine ⟨.inr rfl, fun n hn => hn, fun ws hw => ?_⟩
      match ws, hw with
      | [w, w2], _ => exact ⟨[w, w2], .two _ _ _ _, rfl, fun f => rfl⟩
    · refine ⟨.inr rfl, fun n hn => by simpa [or_comm] using hn, fun ws hw => ?_⟩
      match ws, hw with
      | [w, w2], _ =>
        refine ⟨[w2, w], .owt _ _ _ _, rfl, fun f => ?_⟩
        have hab : C.nm a ≠ C.nm b := fun z => hne (nmI _ _ z)
        simp only [List.map_cons, List.map_nil, List.zip_cons_cons, List.zip_nil_left, List.lookup_cons, List.lookup_nil]
        by_cases e1 : f = C.nm a
        · subst e1
          have : (C.nm a == C.nm b) = false := by simpa using hab
          simp [this]
        · have : (f == C.nm a) = false := by simpa using e1
          simp [this]
  · cases h
theorem sem_xnew {c n : Nat} {ns : List Nat} {es : Xes} {x g : Str} {kws : List Keyword} {p pos apos : Pos} (oX : XOk T P C Γ N k cm X sc Wx) (hc : T.exc[c]? = some x) (hg : isGl sc x = true) (hx : okN x = true) (hsup : x ≠ "super") (hn : T.nms[n]? = some g) (hf : n ∈ T.flds) (hs : OkK T P C Γ X Wx es ns kws) :
    OkE P C Γ X Wx (.xnew c ns es n) (.Attribute (.Call (.Name x p) [] kws pos) g apos) := by
  obtain ⟨hcl, hm⟩ := oX.sx.nm c x hc
  refine OkE.val rfl rfl (fun _ _ => by simp only [P2.evA]) ⟨fun pins s σ H Q I ⟨B, W, L, h, r, q⟩ => ?_⟩
  obtain ⟨ks, k1, k2, k3⟩ := hs.nms
  have hks : ks = ns.map C.nm := by
    apply List.ext_getElem?
    intro i
    rw [List.getElem?_map]
    cases e : ns[i]? with
    | none =>
      rw [List.getElem?_eq_none_iff] at e
      rw [Option.map_none, List.getElem?_eq_none_iff]
      omega
    | some m =>
      obtain ⟨nm, g1, g2⟩ := k2 i m e
      rw [g1, Option.map_some, oX.st.nms m nm g2]
  subst hks
  have hd : X.A.depth + 2 < recursionLimit := by have := oX.rm.rh.dp; omega
  have hb : attributeBase (.Call (.Name x p) [] kws pos) g X.env (eval (.Call (.Name x p) [] kws pos) X.env) = eval (.Call (.Name x p) [] kws pos) X.env := okX_attr (decide_eq_true hsup)
  have hpl : ((backTo pos (starEach [] X.env)).any (·.1) || (backToKw pos (keywordEach kws X.env)).any (·.1.isNone)) = false := by
    rw [hs.none]; rfl
  simp only [P2.evE] at q
  split at q
  · rename_i fl hp
    split at q
    · rename_i hpx
      simp only [Bool.and_eq_true, List.contains_iff_mem] at hpx
      obtain ⟨hpx, hnn⟩ := hpx
      obtain ⟨hfs, hmem, hperm⟩ := perm_kw oX.st.nmI hpx
      have hne : fl.1 ≠ [] := fun z => by rw [z] at hfs; simp at hfs
      obtain ⟨_, tx⟩ := oX.sx.txt c fl hp hne
      refine (P2X.pe_xnew tx (oX.st.xc c hcl).1 (by rw [← oX.st.nms n g hn]; exact List.mem_map_of_mem (hmem n hnn)) (by simpa using hfs) oX.sx.sup hd hm (gl_of oX.hsc hg) (okN_of hx).1 hs.pk (hs.all _ _) (k3 _ _) hpl hperm hb).run pins s σ H Q I ⟨B, W, L, h, r, ?_⟩
      refine q.run fun vs H1 ds h1 W1 _ l1 r1 c1 q1 => ?_
      split at q1
      · rename_i hl
        obtain ⟨d, hd, q2⟩ := q1.toR
        obtain ⟨v, g1, g2⟩ := zipF_get oX.st.nmI c1 hd
        rw [oX.st.nms n g hn] at g1
        exact ⟨by rw [List.length_map, ← hl]; exact Reps.length c1, v, g1, q2.ok r1 g2⟩
      · exact q1.elim
    · exact q.elim
  · exact q.elim
end
end P2S
end

section
/-! P2Sound2: all expressions. -/
set_option autoImplicit false
set_option Elab.async false
set_option linter.all false
set_option maxRecDepth 100000
set_option maxHeartbeats 1000000
namespace P2S
open PySem PySem.Spec L2
open P2 (D DO DHp Exn Slot snap R SR Run Pg Xe Xes Xo Xi Xt Xs Xss Xh Fn Bi)
theorem beq_op {a b : Operator} (h : (a == b) = true) : a = b := by cases a <;> cases b <;> first | rfl | cases h
theorem beq_cmp {a b : CmpOp} (h : (a == b) = true) : a = b := by cases a <;> cases b <;> first | rfl | cases h
theorem beq_un {a b : UnaryOp} (h : (a == b) = true) : a = b := by cases a <;> cases b <;> first | rfl | cases h
theorem beq_bop {a b : BoolOp} (h : (a == b) = true) : a = b := by cases a <;> cases b <;> first | rfl | cases h
section
variable {T : Tb} {P : Pg} {C : Cfg} {Γ : P2.Run} {N : List Str} {k : Nat}
theorem not_super {sc : Scope} {X : Cx} {cm : Bool} {Wx : Wq} {x : Str} (h : decide (x ≠ ("super" : Str)) = true) : x ≠ "super" := of_decide_eq_true h
mutual
theorem sE (hq : NoEq P) (hl : NoLen P) : ∀ (e : Xe) (cm : Bool) (X : Cx) (sc : Scope) (Wx : Wq) (ex : Expr), XOk T P C Γ N k cm X sc Wx → mE T N cm sc e ex = true → OkE P C Γ X Wx e ex
  | .non, cm, X, sc, Wx, ex, oX, h => by
    simp only [mE] at h
    split at h
    · exact sem_const rfl rfl (fun _ _ => by simp only [P2.evA]) (fun _ _ => by simp only [P2.evE]) pe_non (fun _ _ => .non)
    · cases h
  | .bl b, cm, X, sc, Wx, ex, oX, h => by
    simp only [mE] at h
    split at h
    · have e := beq_iff_eq.mp h
      subst e
      exact sem_const rfl rfl (fun _ _ => by simp only [P2.evA]) (fun _ _ => by simp only [P2.evE]) pe_bl (fun _ _ => .bl _)
    · cases h
  | .int i, cm, X, sc, Wx, ex, oX, h => by
    simp only [mE] at h
    split at h
    · have e := of_decide_eq_true h
      subst e
      exact sem_const rfl rfl (fun _ _ => by simp only [P2.evA]) (fun _ _ => by simp only [P2.evE]) pe_int (fun _ _ => .int _)
    · cases h
  | .str s, cm, X, sc, Wx, ex, oX, h => by
    simp only [mE] at h
    split at h
    · have e := of_decide_eq_true h
      subst e
      exact sem_const rfl rfl (fun _ _ => by simp only [P2.evA]) (fun _ _ => by simp only [P2.evE]) pe_str (fun _ _ => .str _)
    · cases h
  | .var i, cm, X, sc, Wx, ex, oX, h => by
    simp only [mE] at h
    split at h
    · simp only [Bool.and_eq_true] at h
      exact sem_var oX (ixOf_of h.1.1) h.1.2 h.2
    · cases h
  | .op o a b, cm, X, sc, Wx, ex, oX, h => by
    simp only [mE] at h
    split at h
    · simp only [Bool.and_eq_true] at h
      rw [beq_op h.1.1]
      exact sem_op oX (sE hq hl a cm X sc Wx _ oX h.1.2) (sE hq hl b cm X sc Wx _ oX h.2)
    · cases h
  | .neg a, cm, X, sc, Wx, ex, oX, h => by
    simp only [mE] at h
    split at h
    · simp only [Bool.and_eq_true] at h
      rw [beq_un h.1]
      exact sem_neg (sE hq hl a cm X sc Wx _ oX h.2)
    · cases h
  | .inot a, cm, X, sc, Wx, ex, oX, h => by
    simp only [mE] at h
    split at h
    · simp only [Bool.and_eq_true] at h
      rw [beq_un h.1]
      exact sem_not (sE hq hl a cm X sc Wx _ oX h.2)
    · cases h
  | .cmp o a b, cm, X, sc, Wx, ex, oX, h => by
    simp only [mE] at h
    split at h
    · split at h
      · simp only [Bool.and_eq_true] at h
        rw [beq_cmp h.1.1]
        exact sem_cmp oX hq (sE hq hl a cm X sc Wx _ oX h.1.2) (sE hq hl b cm X sc Wx _ oX h.2)
      · cases h
    · cases h
  | .chain o o' a b c, cm, X, sc, Wx, ex, oX, h => by
    simp only [mE] at h
    split at h
    · split at h
      · simp only [Bool.and_eq_true] at h
        rw [beq_cmp h.1.1.1.1, beq_cmp h.1.1.1.2]
        exact sem_chain oX (sE hq hl a cm X sc Wx _ oX h.1.1.2) (sE hq hl b cm X sc Wx _ oX h.1.2) (sE hq hl c cm X sc Wx _ oX h.2)
      · cases h
    · cases h
  | .and a b, cm, X, sc, Wx, ex, oX, h => by
    simp only [mE] at h
    split at h
    · simp only [Bool.and_eq_true] at h
      obtain ⟨h0, h⟩ := h
      rw [beq_bop h0]
      split at h
      · simp only [Bool.and_eq_true] at h
        obtain ⟨h1, h2⟩ := h
        split at h2
        · exact sem_and2 (sE hq hl a cm X sc Wx _ oX h1) (sE hq hl b cm X sc Wx _ oX h2)
        · exact sem_andN (sE hq hl a cm X sc Wx _ oX h1) (sE hq hl b cm X sc Wx _ oX h2)
      · cases h
    · cases h
  | .or a b, cm, X, sc, Wx, ex, oX, h => by
    simp only [mE] at h
    split at h
    · simp only [Bool.and_eq_true] at h
      obtain ⟨h0, h⟩ := h
      rw [beq_bop h0]
      split at h
      · simp only [Bool.and_eq_true] at h
        obtain ⟨h1, h2⟩ := h
        split at h2
        · exact sem_or2 (sE hq hl a cm X sc Wx _ oX h1) (sE hq hl b cm X sc Wx _ oX h2)
        · exact sem_orN (sE hq hl a cm X sc Wx _ oX h1) (sE hq hl b cm X sc Wx _ oX h2)
      · cases h
    · cases h
  | .ite c a b, cm, X, sc, Wx, ex, oX, h => by
    simp only [mE] at h
    split at h
    · simp only [Bool.and_eq_true] at h
      exact sem_ite (sE hq hl c cm X sc Wx _ oX h.1.1) (sE hq hl a cm X sc Wx _ oX h.1.2) (sE hq hl b cm X sc Wx _ oX h.2)
    · cases h
  | .tup es, cm, X, sc, Wx, ex, oX, h => by
    simp only [mE] at h
    split at h
    · simp only [Bool.and_eq_true] at h
      exact sem_tup (of_decide_eq_true h.2) (sEs hq hl es cm X sc Wx _ oX h.1).es
    · cases h
  | .lst es, cm, X, sc, Wx, ex, oX, h => by
    simp only [mE] at h
    split at h
    · simp only [Bool.and_eq_true] at h
      exact sem_lst (of_decide_eq_true h.2) (sEs hq hl es cm X sc Wx _ oX h.1).es
    · cases h
  | .newL es, cm, X, sc, Wx, ex, oX, h => by
    simp only [mE] at h
    split at h
    · simp only [Bool.and_eq_true] at h
      exact sem_newL (of_decide_eq_true h.2) (sEs hq hl es cm X sc Wx _ oX h.1).es
    · cases h
  | .idx a b, cm, X, sc, Wx, ex, oX, h => by
    simp only [mE] at h
    split at h
    · simp only [Bool.and_eq_true] at h
      exact sem_idx oX (sE hq hl a cm X sc Wx _ oX h.1) (sE hq hl b cm X sc Wx _ oX h.2)
    · cases h
  | .sl a lo hi, cm, X, sc, Wx, ex, oX, h => by
    simp only [mE] at h
    split at h
    · simp only [Bool.and_eq_true] at h
      exact sem_sl oX (sE hq hl a cm X sc Wx _ oX h.1.1) (sO hq hl lo cm X sc Wx _ oX h.1.2) (sO hq hl hi cm X sc Wx _ oX h.2)
    · cases h
  | .rev a, cm, X, sc, Wx, ex, oX, h => by
    simp only [mE] at h
    split at h
    · exact sem_rev (sE hq hl a cm X sc Wx _ oX h)
    · cases h
  | .fld a n, cm, X, sc, Wx, ex, oX, h => by
    simp only [mE] at h
    split at h
    · simp only [Bool.and_eq_true] at h
      have hn := ixOf_of h.1.1
      have hf := List.contains_iff_mem.mp h.1.2
      by_cases hv : ∃ i, a = .var i
      · obtain ⟨i, rfl⟩ := hv
        have h2 := h.2
        simp only [mE] at h2
        split at h2
        · simp only [Bool.and_eq_true] at h2
          exact sem_fldV oX (ixOf_of h2.1.1) h2.1.2 h2.2 hn hf
        · cases h2
      · exact sem_fldE oX (fun i e => hv ⟨i, e⟩) (sE hq hl a cm X sc Wx _ oX h.2) hn hf
    · cases h
  | .call f es, cm, X, sc, Wx, ex, oX, h => by
    simp only [mE] at h
    split at h
    · simp only [Bool.and_eq_true] at h
      obtain ⟨⟨⟨⟨⟨⟨h1, h2⟩, h3⟩, h4⟩, h5⟩, h6⟩, h7⟩ := h
      subst h1
      rename_i x p args pos
      cases args with
      | nil => simp at h6
      | cons e xs => exact sem_call oX (ixOf_of h2) h3 h4 (of_decide_eq_true h5) (sEs hq hl es true X sc Wx _ oX h7).es
    · cases h
  | .bi b es, cm, X, sc, Wx, ex, oX, h => by
    simp only [mE] at h
    split at h
    · rename_i nm c hb
      split at h
      · simp only [Bool.and_eq_true] at h
        obtain ⟨⟨⟨⟨h1, h2⟩, h3⟩, h4⟩, h5⟩ := h
        refine sem_bi oX hl hb h1 h2 (of_decide_eq_true h3) (fun e => by rw [e] at h4; simp at h4) (sAs hq hl es cm X sc Wx _ oX h5)
      · cases h
    · split at h
      · rename_i ty hb
        split at h
        · simp only [Bool.and_eq_true] at h
          have ha := sAs hq hl es cm X sc Wx _ oX h.2
          cases ha with
          | cons a r => cases r; exact sem_isTy oX hb h.1.1 h.1.2 a
        · cases h
      · split at h
        · split at h
          · simp only [Bool.and_eq_true, Bool.or_eq_true] at h
            have ha := sAs hq hl es cm X sc Wx _ oX h.2
            cases ha with
            | cons a r =>
              cases r
              rcases h.1.2 with ⟨z1, z2⟩ | ⟨z1, z2⟩
              · exact sem_isRow (T1 := "list") (T2 := "tuple") oX (fun _ => rfl) kit_lt.1 kit_lt.2 h.1.1 z1 z2 (by decide +kernel) (by decide +kernel) a
              · exact sem_isRow (T1 := "tuple") (T2 := "list") oX (fun _ => Bool.or_comm _ _) kit_lt.2 kit_lt.1 h.1.1 z1 z2 (by decide +kernel) (by decide +kernel) a
          · cases h
        · split at h
          · simp only [Bool.and_eq_true, Bool.or_eq_true] at h
            obtain ⟨⟨⟨⟨h1, h2⟩, h3⟩, h4⟩, h5⟩ := h
            subst h1
            have ha := sEs hq hl es true X sc Wx _ oX h5
            cases ha with
            | nil => simp at h4
            | cons a r =>
              cases r with
              | nil => exact sem_rng1 oX h2 h3 a
              | cons b r =>
                cases r with
                | nil => exact sem_rng2 oX h2 h3 a b
                | cons c r => simp at h4
          · cases h
        · cases h
  | .rne a b, cm, X, sc, Wx, ex, oX, h => by
    simp only [mE] at h
    split at h
    · simp only [Bool.and_eq_true] at h
      exact sem_rne oX h.1.1.1 h.1.1.2 (sE hq hl a cm X sc Wx _ oX h.1.2) (sE hq hl b cm X sc Wx _ oX h.2)
    · cases h
  | .comp elt tg it c, cm, X, sc, Wx, ex, oX, h => by
    simp only [mE] at h
    split at h
    · simp only [Bool.and_eq_true] at h
      obtain ⟨⟨⟨⟨⟨⟨⟨h1, h2⟩, h3⟩, h4⟩, h5⟩, h6⟩, h7⟩, h8⟩ := h
      subst h1
      refine sem_comp oX h2 (of_decide_eq_true h3) (sI hq hl it true X sc Wx _ _ oX h4) (fun i e => ?_) (fun X' o' hs => sG o' hs tg _ h5) (fun X' o' => sC hq hl c true X' _ _ _ o' h7) (fun X' o' => sE hq hl elt true X' _ _ _ o' h6)
      rw [e] at h8
      simp only [Bool.not_eq_true'] at h8
      intro z
      rw [List.contains_iff_mem.mpr z] at h8
      cases h8
    · cases h
  | .isX i c, cm, X, sc, Wx, ex, oX, h => by
    simp only [mE] at h
    split at h
    · simp only [Bool.and_eq_true] at h
      obtain ⟨⟨⟨⟨⟨⟨⟨h1, h2⟩, h3⟩, h4⟩, h5⟩, h6⟩, h7⟩, h8⟩ := h
      exact sem_isX oX h1 h2 (ixOf_of h3) h4 h5 (ixOf_of h6) h7 h8
    · cases h
  | .isXB i kx, cm, X, sc, Wx, ex, oX, h => by
    simp only [mE] at h
    split at h
    · rename_i nm hb
      split at h
      · simp only [Bool.and_eq_true] at h
        obtain ⟨⟨⟨⟨⟨h1, h2⟩, h3⟩, h4⟩, h5⟩, h6⟩ := h
        exact sem_isXB oX h1 h2 (ixOf_of h3) h4 h5 hb h6
      · cases h
    · cases h
  | .xnew c ns es n, cm, X, sc, Wx, ex, oX, h => by
    simp only [mE] at h
    split at h
    · simp only [Bool.and_eq_true] at h
      obtain ⟨⟨⟨⟨⟨⟨⟨⟨h1, h2⟩, h3⟩, h4⟩, h5⟩, h6⟩, h7⟩, h8⟩, h9⟩ := h
      exact sem_xnew oX (ixOf_of h3) h4 h5 (of_decide_eq_true h6) (ixOf_of h7) (by simpa using h8) (sK hq hl es cm X sc Wx ns _ oX h9)
    · cases h
  | .glob _, _, _, _, _, _, _, h => by simp only [mE] at h; cases h
  | .fnv _, _, _, _, _, _, _, h => by simp only [mE] at h; cases h
  | .dct _ _, _, _, _, _, _, _, h => by simp only [mE] at h; cases h
  | .newD _, _, _, _, _, _, _, h => by simp only [mE] at h; cases h
  | .meth _ _ _, _, _, _, _, _, _, h => by simp only [mE] at h; cases h
  | .callv _ _, _, _, _, _, _, _, h => by simp only [mE] at h; cases h
  | .make _ _, _, _, _, _, _, _, h => by simp only [mE] at h; cases h
  | .makeT _ _, _, _, _, _, _, _, h => by simp only [mE] at h; cases h
  | .popT _, _, _, _, _, _, _, h => by simp only [mE] at h; cases h
  | .sortKey _ _, _, _, _, _, _, _, h => by simp only [mE] at h; cases h
  | .fstr _, _, _, _, _, _, _, h => by simp only [mE] at h; cases h
theorem sEs (hq : NoEq P) (hl : NoLen P) : ∀ (es : Xes) (cm : Bool) (X : Cx) (sc : Scope) (Wx : Wq) (xs : List Expr), XOk T P C Γ N k cm X sc Wx → mEs T N cm sc es xs = true → OkL P C Γ X Wx es xs
  | .nil, cm, X, sc, Wx, xs, oX, h => by
    simp only [mEs, List.isEmpty_iff] at h
    subst h
    exact .nil
  | .cons e r, cm, X, sc, Wx, xs, oX, h => by
    simp only [mEs] at h
    split at h
    · simp only [Bool.and_eq_true] at h
      exact .cons (sE hq hl e cm X sc Wx _ oX h.1) (sEs hq hl r cm X sc Wx _ oX h.2)
    · cases h
theorem sK (hq : NoEq P) (hl : NoLen P) : ∀ (es : Xes) (cm : Bool) (X : Cx) (sc : Scope) (Wx : Wq) (ns : List Nat) (kws : List Keyword), XOk T P C Γ N k cm X sc Wx → mK T N cm sc es ns kws = true → OkK T P C Γ X Wx es ns kws
  | .nil, cm, X, sc, Wx, ns, kws, oX, h => by
    simp only [mK, List.isEmpty_iff, Bool.and_eq_true] at h
    obtain ⟨rfl, rfl⟩ := h
    exact okk_nil
  | .cons e r, cm, X, sc, Wx, ns, kws, oX, h => by
    simp only [mK] at h
    split at h
    · simp only [Bool.and_eq_true] at h
      exact okk_cons (sE hq hl e cm X sc Wx _ oX h.1.2) (ixOf_of h.1.1) (sK hq hl r cm X sc Wx _ _ oX h.2)
    · cases h
theorem sAs (hq : NoEq P) (hl : NoLen P) : ∀ (es : Xes) (cm : Bool) (X : Cx) (sc : Scope) (Wx : Wq) (xs : List Expr), XOk T P C Γ N k cm X sc Wx → mAs T N cm sc es xs = true → OkL P C Γ X Wx es xs
  | .nil, cm, X, sc, Wx, xs, oX, h => by
    simp only [mAs, List.isEmpty_iff] at h
    subst h
    exact .nil
  | .cons e r, cm, X, sc, Wx, xs, oX, h => by
    simp only [mAs] at h
    split at h
    · simp only [Bool.and_eq_true] at h
      exact .cons (sE hq hl e cm X sc Wx _ oX h.1) (sAs hq hl r cm X sc Wx _ oX h.2)
    · cases h
theorem sO (hq : NoEq P) (hl : NoLen P) : ∀ (o : Xo) (cm : Bool) (X : Cx) (sc : Scope) (Wx : Wq) (x : Option Expr), XOk T P C Γ N k cm X sc Wx → mO T N cm sc o x = true → OkO P C Γ X Wx o x
  | .none, cm, X, sc, Wx, x, oX, h => by
    simp only [mO, Option.isNone_iff_eq_none] at h
    subst h
    exact semo_none
  | .some e, cm, X, sc, Wx, x, oX, h => by
    simp only [mO] at h
    split at h
    · exact semo_some (sE hq hl e cm X sc Wx _ oX h)
    · cases h
theorem sC (hq : NoEq P) (hl : NoLen P) : ∀ (o : Xo) (cm : Bool) (X : Cx) (sc : Scope) (Wx : Wq) (xs : List Expr), XOk T P C Γ N k cm X sc Wx → mC T N cm sc o xs = true → OkC P C Γ X Wx o xs
  | .none, cm, X, sc, Wx, xs, oX, h => by
    simp only [mC, List.isEmpty_iff] at h
    subst h
    exact semc_none
  | .some e, cm, X, sc, Wx, xs, oX, h => by
    simp only [mC] at h
    split at h
    · exact semc_some (sE hq hl e cm X sc Wx _ oX h)
    · cases h
theorem sI (hq : NoEq P) (hl : NoLen P) : ∀ (it : Xi) (cm : Bool) (X : Cx) (sc : Scope) (Wx : Wq) (tg' ex : Expr), XOk T P C Γ N k cm X sc Wx → mI T N cm sc tg' it ex = true → OkI C X Wx tg' (srcOf it) (P2.evI P Γ it) ex
  | .of e, cm, X, sc, Wx, tg', ex, oX, h => by
    simp only [mI] at h
    have ha := sE hq hl e cm X sc Wx _ oX h
    refine ⟨?_, fun x => okX_fold ha.ok _ x⟩
    have e1 : P2.evI P Γ (.of e) = fun L h => R.bind (P2.evA P Γ e L h) fun x h1 => P2.walkV (id L) x h1 := by funext L h; simp only [P2.evI, id]
    rw [e1]
    exact pi_of oX.st.hK (pe_src ha) rS_ok (fun _ _ _ h => h)
  | .range1 a, cm, X, sc, Wx, tg', ex, oX, h => by
    simp only [mI] at h
    split at h
    · simp only [Bool.and_eq_true] at h
      exact ⟨pi_r1 oX h.1 (sE hq hl a cm X sc Wx _ oX h.2), fun x => rfl⟩
    · cases h
  | .range2 a b, cm, X, sc, Wx, tg', ex, oX, h => by
    simp only [mI] at h
    split at h
    · simp only [Bool.and_eq_true] at h
      exact ⟨pi_r2 oX h.1.1 (sE hq hl a cm X sc Wx _ oX h.1.2) (sE hq hl b cm X sc Wx _ oX h.2), fun x => rfl⟩
    · cases h
  | .enum a, cm, X, sc, Wx, tg', ex, oX, h => by
    simp only [mI] at h
    split at h
    · simp only [Bool.and_eq_true] at h
      obtain ⟨es, kk, p, rfl⟩ := tup_of h.1.2
      have ha := sE hq hl a cm X sc Wx _ oX h.2
      have e1 : P2.evI P Γ (.enum a) = fun L h => R.bind (P2.evA P Γ a L h) fun x h1 => P2.enumV (id L) x h1 := by funext L h; simp only [P2.evI, id]
      refine ⟨?_, fun x => rfl⟩
      rw [e1]
      exact pi_en oX h.1.1 ha.ok (pe_src ha) rS_ok (fun _ _ _ h => h)
    · cases h
  | .zip a b, cm, X, sc, Wx, tg', ex, oX, h => by
    simp only [mI] at h
    split at h
    · simp only [Bool.and_eq_true] at h
      obtain ⟨es, kk, p, rfl⟩ := tup_of h.1.1.2
      have ha := sE hq hl a cm X sc Wx _ oX h.1.2
      have hb := sE hq hl b cm X sc Wx _ oX h.2
      have e1 : P2.evI P Γ (.zip a b) = fun L h => R.bind (P2.evE P Γ a L h) fun x h1 => R.bind (P2.evE P Γ b L h1) fun y h2 => P2.zipV ((fun _ => []) L) x y h2 := by funext L h; simp only [P2.evI]
      refine ⟨?_, fun x => rfl⟩
      rw [e1]
      exact pi_zp oX h.1.1.1 ha.ok hb.ok ha.pe hb.pe derefO_nil
    · cases h
  | .range3 _ _ _, _, _, _, _, _, _, _, h => by simp only [mI] at h; cases h
  | .enumItems _, _, _, _, _, _, _, _, h => by simp only [mI] at h; cases h
  | .items _, _, _, _, _, _, _, _, h => by simp only [mI] at h; cases h
end
end
end P2S
end

section
/-! P2St: statements. -/
set_option autoImplicit false
set_option Elab.async false
set_option linter.all false
set_option maxRecDepth 100000
set_option maxHeartbeats 1000000
namespace P2S
open PySem PySem.Spec L2
open P2 (D DO DHp Exn Slot snap R SR Run Pg Xe Xes Xo Xi Xt Xs Xss Xh Fn Bi)
section
variable (C : Cfg) (Wx : Wq)
def PoS (B : Bs) (W : GW) (m : SR) (D : Ends) : Prop :=
  match m with
  | .nx L' h' => ∀ W' σ' H', W.le W' → HR C B W' L' h' σ' H' → D.nx σ' H'
  | .rt d L' h' => ∀ W' σ' H' v, W.le W' → HR C B W' L' h' σ' H' → Rep C W'.F W'.ρ v d → D.rt v H'
  | .ex x L' h' => ∀ W' σ' H' cls dd, W.le W' → HR C B W' L' h' σ' H' → ExOk C W' H' cls dd x → Wx.w cls dd σ' H'
  | .stk => False
/-- the ground of a def's run -/
structure Bd (Wx : Wq) where
  b : Bs
  xq : b.exc = Wx.xq
  ex : ∀ a ∈ b.exs, b.s0 = some a
def tS (m : List Slot → DHp → SR) : TS := fun D σ H => ∃ (B : Bd Wx) (W : GW) (L : List Slot) (h : DHp), HR C B.b W L h σ H ∧ PoS C Wx B.b W (m L h) D
end
section
variable {T : Tb} {P : Pg} {C : Cfg} {Γ : P2.Run} {N : List Str} {k : Nat} {cm : Bool} {X : Cx} {sc : Scope} {Wx : Wq} {B : Bs} {W W1 : GW} {L : List Slot} {h : DHp} {σ : St} {H : Hp} {D' : Ends}
theorem PoS.le {m : SR} (l : W.le W1) (p : PoS C Wx B W m D') : PoS C Wx B W1 m D' := by
  cases m with
  | nx L' h' => exact fun W' σ' H' l' => p W' σ' H' (l.trans l')
  | rt d L' h' => exact fun W' σ' H' v l' => p W' σ' H' v (l.trans l')
  | ex x L' h' => exact fun W' σ' H' cls dd l' => p W' σ' H' cls dd (l.trans l')
  | stk => exact p
theorem PoS.run {α β : Type} {rel : Rl α β} {m : R α} {f : α → DHp → SR} {Q' : β → Hp → Prop} (p : PoS C Wx B W (P2.withE L m f) D')
    (k : ∀ b H1 a h1 W1, m = .ok a h1 → W.le W1 → HR C B W1 L h1 σ H1 → rel L σ W1 b a → PoS C Wx B W1 (f a h1) D' → Q' b H1) : Po C Wx rel B L σ W m Q' := by
  cases m with
  | ok a h1 => exact fun W1 H1 b l r c => k b H1 a h1 W1 rfl l r c (PoS.le l p)
  | ex x h1 => exact fun W1 H1 cls dd l r e => p W1 σ H1 cls dd l r e
  | stk => exact p
theorem PoS.nx (p : PoS C Wx B W (.nx L h) D') (r : HR C B W L h σ H) : D'.nx σ H := p W σ H (GW.le.refl W) r
theorem PS.imp {st : Stmt} {t t' : TS} (p : PS X st t) (k : ∀ D σ H, t' D σ H → t D σ H) : PS X st t' := ⟨fun pins s σ H D I q => p.run pins s σ H D I (k D σ H q)⟩
theorem PSs.imp {st : List Stmt} {t t' : TS} (p : PSs X st t) (k : ∀ D σ H, t' D σ H → t D σ H) : PSs X st t' := ⟨fun pins s σ H D I q => p.run pins s σ H D I (k D σ H q)⟩
abbrev Bd.e (B : Bd Wx) : {B : Bs // B.exc = Wx.xq} := ⟨B.b, B.xq⟩

/-! ### sequences -/
theorem ss_nil : PSs X [] (tS C Wx (P2.exSs P Γ .nil)) := PSs.imp pss_nil fun D σ H ⟨B, W, L, h, r, p⟩ => by
  simp only [P2.exSs] at p
  exact p.nx r
theorem ss_cons {s : Xs} {ss : Xss} {st : Stmt} {sts : List Stmt} (h1 : PS X st (tS C Wx (P2.exS P Γ s))) (h2 : PSs X sts (tS C Wx (P2.exSs P Γ ss))) : PSs X (st :: sts) (tS C Wx (P2.exSs P Γ (.cons s ss))) :=
  PSs.imp (pss_cons h1 h2) fun D σ H ⟨B, W, L, h, r, p⟩ => by
    simp only [P2.exSs] at p
    refine ⟨B, W, L, h, r, ?_⟩
    cases hm : P2.exS P Γ s L h with
    | nx L' h' => rw [hm] at p; exact fun W' σ' H' l r' => ⟨B, W', L', h', r', PoS.le l p⟩
    | rt d L' h' => rw [hm] at p; exact p
    | ex x L' h' => rw [hm] at p; exact p
    | stk => rw [hm] at p; exact p
/-- a list that changes no more -/
theorem frz_ent {i : Nat} {ss : Xss} {D : Ends} (t : tS C Wx (P2.exSs P Γ (.cons (.frz i) ss)) D σ H) : tS C Wx (P2.exSs P Γ ss) D σ H := by
  obtain ⟨B, W, L, h, r, p⟩ := t
  simp only [P2.exSs, P2.exS] at p
  split at p
  · rename_i xs hi
    split at p
    · exact p.elim
    · rename_i h0
      simp only [SR.andThen] at p
      obtain ⟨a, e1, vs, e2, e3⟩ := r.own_at hi
      obtain ⟨f1, f2, f3⟩ := r.ownf i _ a hi e1
      have hx : a ∉ B.b.exs := fun z => h0 (r.s0n a (B.ex a z) i _ hi e1)
      have rk := r.kill (i := i)
      have rt := rk.tell e2 f1 f2 (f3.resolve_right hx) hx fun j o g1 g2 => by
        rcases set_get g1 with ⟨rfl, g, _⟩ | ⟨hj, g⟩
        · cases g
        · exact hj (r.ownd j i o _ a g hi g2 e1)
      have lf : Le W.F (upd W.F a (.lst vs)) := le_upd f1
      obtain ⟨hl, _⟩ := List.getElem?_eq_some_iff.mp hi
      have rv := rt.setSlot (i := i) (s := .val (.lst xs)) (x := some (.ref a)) (fun _ z => nomatch z) ⟨.ref a, set_eq (by rw [← r.sl]; exact hl), .lst (.inl upd_same) (e3.le lf (LeL.refl _))⟩
      have e4 : (L.set i .emp).set i (.val (.lst xs)) = L.set i (.val (.lst xs)) := List.set_set ..
      have e5 : σ.set i (some (.ref a)) = σ := by
        apply List.ext_getElem?
        intro j
        by_cases hj : j = i
        · subst hj; rw [set_eq (by rw [← r.sl]; exact hl), e1]
        · rw [set_ne hj]
      rw [e4, e5] at rv
      exact ⟨B, _, _, h, rv, PoS.le ⟨lf, LeL.refl _⟩ p⟩
  · exact p.elim
  · exact ⟨B, W, L, h, r, p⟩
theorem ss_frz {i : Nat} {ss : Xss} {sts : List Stmt} (h2 : PSs X sts (tS C Wx (P2.exSs P Γ ss))) : PSs X sts (tS C Wx (P2.exSs P Γ (.cons (.frz i) ss))) := PSs.imp h2 fun D σ H t => frz_ent t

/-! ### simple statements -/
theorem st_exp {e : Xe} {ex : Expr} {pos : Pos} (ha : OkE P C Γ X Wx e ex) (hc : notComp ex = true) : PS X (.Expr ex pos) (tS C Wx (P2.exS P Γ (.exp e))) :=
  PS.imp (ps_expr ha.pe (okX_swaps ha.ok hc)) fun D σ H ⟨B, W, L, h, r, p⟩ => by
    simp only [P2.exS] at p
    exact ⟨B.e, W, L, h, r, p.run fun v H1 d h1 W1 _ l1 r1 c1 p1 => p1.nx r1⟩
theorem st_pass {pos : Pos} : PS X (.Pass pos) (tS C Wx (P2.exS P Γ .pass)) := PS.imp ps_pass fun D σ H ⟨B, W, L, h, r, p⟩ => by
  simp only [P2.exS] at p
  exact p.nx r
theorem st_ret {e : Xe} {ex : Expr} {pos : Pos} (ha : OkE P C Γ X Wx e ex) : PS X (.Return (some ex) pos) (tS C Wx (P2.exS P Γ (.ret e))) :=
  PS.imp (ps_ret ha.pe) fun D σ H ⟨B, W, L, h, r, p⟩ => by
    simp only [P2.exS] at p
    exact ⟨B.e, W, L, h, r, p.run fun v H1 d h1 W1 _ l1 r1 c1 p1 => p1 W1 σ H1 v (GW.le.refl _) r1 c1⟩
theorem st_retN {pos : Pos} : PS X (.Return none pos) (tS C Wx (P2.exS P Γ .retN)) := PS.imp ps_retN fun D σ H ⟨B, W, L, h, r, p⟩ => by
  simp only [P2.exS] at p
  exact p W σ H .non (GW.le.refl _) r .non
theorem st_ifs {c : Xe} {a b : Xss} {z : Expr} {xs ys : List Stmt} {pos : Pos} (hc : OkE P C Γ X Wx c z) (ha : PSs X xs (tS C Wx (P2.exSs P Γ a))) (hb : PSs X ys (tS C Wx (P2.exSs P Γ b))) : PS X (.If z xs ys pos) (tS C Wx (P2.exS P Γ (.ifs c a b))) :=
  PS.imp (ps_if hc.pt ha hb) fun D σ H ⟨B, W, L, h, r, p⟩ => by
    simp only [P2.exS] at p
    refine ⟨B.e, W, L, h, r, p.run fun v H1 d h1 W1 _ l1 r1 c1 p1 => ?_⟩
    split at p1
    · cases c1
      refine ⟨true, rfl, ?_⟩
      dsimp only
      rw [if_pos rfl]
      exact ⟨B, W1, L, h1, r1, p1⟩
    · cases c1
      refine ⟨false, rfl, ?_⟩
      dsimp only
      rw [if_neg (by decide)]
      exact ⟨B, W1, L, h1, r1, p1⟩
    · exact p1.elim
/-! ### stores -/
theorem st_asgN {i : Nat} {e : Xe} {x : Str} {ex : Expr} {p1 pos : Pos} (oX : XOk T P C Γ N k cm X sc Wx) (hi : N[i]? = some x) (hx : L2.Loc X.env.scope x ∧ (X.fn x = true ∨ X.env.scope.names.lookup x = some .local)) (ha : OkE P C Γ X Wx e ex) (hs : swapsWith ex (some (.Name x p1)) pos.line X.env = pure false) :
    PS X (.Assign [.Name x p1] ex pos) (tS C Wx (P2.exS P Γ (.asg (.name i) e))) :=
  PS.imp (ps_set (by rw [oX.hN]; exact oX.nd) (by rw [oX.hN]; exact hi) hx.1 ha.pe hs hx.2) fun D σ H ⟨B, W, L, h, r, p⟩ => by
    simp only [P2.exS] at p
    refine ⟨B.e, W, L, h, r, p.run fun v H1 d h1 W1 _ l1 r1 c1 p1 => ?_⟩
    simp only [P2.bindG] at p1
    exact p1.nx (r1.bind c1)
theorem st_asgT {g : Xt} {e : Xe} {tg ex : Expr} {pos : Pos} (hg : OkG C X Wx g tg) (ha : OkE P C Γ X Wx e ex) (hs : swapsWithSole [tg] ex pos.line X.env = pure false) (hw : swappedStores [tg] ex X.env = pure none) :
    PS X (.Assign [tg] ex pos) (tS C Wx (P2.exS P Γ (.asg g e))) :=
  PS.imp (ps_asg ha.pe hg.pg hs hw (by rw [as_cons hg.ok]; rfl)) fun D σ H ⟨B, W, L, h, r, p⟩ => by
    simp only [P2.exS] at p
    refine ⟨B.e, W, L, h, r, p.run fun v H1 d h1 W1 _ l1 r1 c1 p1 => ⟨B.e, W1, L, h1, d, r1, c1, ?_⟩⟩
    cases hb : P2.bindG g d L with
    | none => rw [hb] at p1; exact p1.elim
    | some L' => rw [hb] at p1; exact fun σ' r' _ => p1.nx r'
theorem st_setComp {i : Nat} {elt : Xe} {tg : Xt} {it : Xi} {c : Xo} {y : Str} {e' tg' it' : Expr} {ifs : List Expr} {scope : Scope} {py pos spos : Pos} (oX : XOk T P C Γ N k true X sc Wx) (hi : N[i]? = some y) (hyl : X.env.scope.names.lookup y = some .local)
    (hsw : swapsWith (.ListComp e' [⟨tg', it', ifs, 0⟩] scope pos) (some (.Name y py)) spos.line X.env = pure true) (hb : blkC N sc scope (gOwn N tg) = true) (ho : (gOwn N tg).map (·.2) = P2.gSlots tg)
    (hI : OkI C X Wx tg' (srcOf it) (P2.evI P Γ it) it') (hs : ∀ i, srcOf it = some i → i ∉ P2.gSlots tg)
    (hG : ∀ X', XOk T P C Γ N k true X' (relS scope sc) Wq0 → Stor X' (isLoc scope) → OkG C X' Wq0 tg tg') (hC : ∀ X', XOk T P C Γ N k true X' (relS scope sc) Wq0 → OkC P C Γ X' Wq0 c ifs) (hE : ∀ X', XOk T P C Γ N k true X' (relS scope sc) Wq0 → OkE P C Γ X' Wq0 elt e') :
    PS X (.Assign [.Name y py] (.ListComp e' [⟨tg', it', ifs, 0⟩] scope pos) spos) (tS C Wx (P2.exS P Γ (.asg (.name i) (.comp elt tg it c)))) := by
  have bk : BlkOk X.N X.env.scope scope (gOwn N tg) := by rw [oX.hN, oX.hsc]; exact blkOk_by hb
  refine PS.imp (ps_setLc (own := gOwn N tg) oX.calm (by rw [oX.hN]; exact oX.nd) (by rw [oX.hN]; exact hi) hyl hsw hI.pi bk (fun s H Cc cl fp => (hG _ (blk_ok oX) blk_stor).pg) (fun s H Cc cl fp => (hC _ (blk_ok oX)).pts) (fun s H Cc cl fp => (hE _ (blk_ok oX)).pe) hI.fold) fun D σ H ⟨B, W, L, h, r, p⟩ => ?_
  simp only [P2.exS] at p
  rw [ho]
  exact comp_ent (oX.xn rfl) hs ⟨B.e, W, L, h, r, p.run fun v H1 d h1 W1 _ l1 r1 c1 p1 => by
    simp only [P2.bindG] at p1
    exact p1.nx (r1.bind c1)⟩
theorem st_aug {i : Nat} {o : P2.BOp} {e : Xe} {x : Str} {ex : Expr} {op : Operator} {f : Int → Int → Int} {p1 pos : Pos} (oX : XOk T P C Γ N k cm X sc Wx) (hi : N[i]? = some x) (hx : L2.Loc X.env.scope x ∧ (X.fn x = true ∨ X.env.scope.names.lookup x = some .local)) (ha : OkE P C Γ X Wx e ex) (ho : PIp X op (ipI f)) (hf : ∀ (m : Int) (y z : D), P2.bop o (.int m) y = some z → ∃ n : Int, y = .int n ∧ z = .int (f m n)) :
    PS X (.AugAssign (.Name x p1) op ex pos) (tS C Wx (P2.exS P Γ (.aug i o e))) :=
  PS.imp (ps_aug (by rw [oX.hN]; exact oX.nd) (by rw [oX.hN]; exact hi) hx.1 ha.pe ho hx.2) fun D σ H ⟨B, W, L, h, r, p⟩ => by
    simp only [P2.exS] at p
    split at p
    · rename_i d hd
      obtain ⟨v, hv, rv⟩ := r.val_at hd
      refine ⟨v, hv, B.e, W, L, h, r, p.run fun u H1 y h1 W1 _ l1 r1 c1 p1 => ?_⟩
      split at p1
      · rename_i m
        cases rv
        split at p1
        · rename_i z hz
          obtain ⟨n, rfl, rfl⟩ := hf m y z hz
          cases c1
          exact ⟨m, n, rfl, rfl, p1.nx (r1.bind (.int _))⟩
        · exact p1.elim
      · exact p1.elim
    · exact p.elim
theorem HR.setOwn' {i : Nat} {o : DO} {p : Addr} {ho : HO} (r : HR C B W L h σ H) (hi : i ≠ 0) (hp : H p = none) (ob : ObjRep C W.F W.ρ (upd H p ho) p o) : HR C B W (L.set i (.own o)) h (σ.set i (some (.ref p))) (upd H p ho) := by
  by_cases hl : i < L.length
  · exact r.setOwn hi hl hp ob
  · rw [List.set_eq_of_length_le (by omega), List.set_eq_of_length_le (by rw [← r.sl]; omega)]
    exact r.ext (Ext.waste r.fz hp)
theorem st_ownL {i : Nat} {es : Xes} {x : Str} {xs : List Expr} {p1 p2 pos : Pos} (oX : XOk T P C Γ N k cm X sc Wx) (hi : N[i]? = some x) (hx : L2.Loc X.env.scope x ∧ (X.fn x = true ∨ X.env.scope.names.lookup x = some .local)) (hn : xs.length ≤ 1000) (hs : OkEs P C Γ X Wx es xs) :
    PS X (.Assign [.Name x p1] (.List xs p2) pos) (tS C Wx (P2.exS P Γ (.ownL i es))) :=
  PS.imp (ps_set (by rw [oX.hN]; exact oX.nd) (by rw [oX.hN]; exact hi) hx.1 (pe_lst hs.pa) rfl hx.2) fun D σ H ⟨B, W, L, h, r, p⟩ => by
    simp only [P2.exS] at p
    split at p
    · exact p.elim
    · rename_i h0
      refine ⟨B.e, W, L, h, r, p.run fun vs H1 ds h1 W1 e1 l1 r1 c1 p1 => ⟨?_, fun q hq => ?_⟩⟩
      · rw [Reps.length c1, hs.len L h ds h1 e1]
        exact small_line hn
      · exact p1.nx (r1.setOwn' h0 hq ⟨vs, upd_same, c1⟩)
end
end P2S
end

section
/-! P2St2: stores into objects, several names at once, loops. -/
set_option autoImplicit false
set_option Elab.async false
set_option linter.all false
set_option maxRecDepth 100000
set_option maxHeartbeats 1000000
namespace P2S
open PySem PySem.Spec L2
open P2 (D DO DHp Exn Slot snap R SR Run Pg Xe Xes Xo Xi Xt Xs Xss Xh Fn Bi)
section
variable {T : Tb} {P : Pg} {C : Cfg} {Γ : P2.Run} {N : List Str} {k : Nat} {cm : Bool} {X : Cx} {sc : Scope} {Wx : Wq} {B : Bs} {W W1 : GW} {L : List Slot} {h : DHp} {σ : St} {H : Hp} {D' : Ends}
/-- an object that a handle names changes -/
theorem up_ent {v : V} {x : D} {f : DO → Option DO} (r : HR C B W L h σ H) (c : rA C L σ W v x) (p : PoS C Wx B W (P2.upO L h x f) D') :
    ∃ a o o', v = .ref a ∧ f o = some o' ∧ ObjRep C W.F W.ρ H a o ∧ ∀ ho, ObjRep C W.F W.ρ (upd H a ho) a o' → D'.nx σ (upd H a ho) := by
  rcases c with c | ⟨i, o, rfl, h1, h2⟩
  · cases c with
    | @loc a l q =>
      simp only [P2.upO] at p
      cases ho : h[l]? with
      | none => rw [ho] at p; exact p.elim
      | some o =>
        rw [ho] at p
        dsimp only at p
        cases hf : f o with
        | none => rw [hf] at p; exact p.elim
        | some o' =>
          rw [hf] at p
          exact ⟨a, o, o', rfl, hf, r.trk l a o q ho, fun hn ob => p W σ _ (GW.le.refl _) (r.upLoc ho q ob)⟩
    | _ => exact p.elim
  · simp only [P2.upO, h1] at p
    cases hf : f o with
    | none => rw [hf] at p; exact p.elim
    | some o' =>
      rw [hf] at p
      obtain ⟨a, g1, g2⟩ := r.own_at h1
      rw [h2] at g1
      cases g1
      exact ⟨a, o, o', rfl, hf, g2, fun hn ob => p W σ _ (GW.le.refl _) (r.upOwn h1 h2 ob)⟩
theorem okX_asub {o i : Expr} {pos : Pos} {env : Env} (h : okX i = true) : ∀ v, assign (.Subscript o i pos) env v = (do
      let ov ← holding [v] (eval o env)
      let iv ← holding [v, ov] (eval i env)
      standAt pos
      holding [v, ov, iv] (setItem ov iv v)
      release [v, ov, iv] []) := by
  intro v
  cases i <;> first | rfl | exact (nomatch (show false = true from h))
theorem st_setIx {a b v : Xe} {x y z : Expr} {p1 pos : Pos} (oX : XOk T P C Γ N k cm X sc Wx) (ha : OkE P C Γ X Wx a x) (hb : OkE P C Γ X Wx b y) (hv : OkE P C Γ X Wx v z) (hc : notComp z = true) :
    PS X (.Assign [.Subscript x y p1] z pos) (tS C Wx (P2.exS P Γ (.setIx a b v))) :=
  PS.imp (ps_asg hv.pe (pg_sub ha.pa hb.pe set_list (okX_asub hb.ok)) (show swapsWith z (some (.Subscript x y p1)) pos.line X.env = pure false from okX_swaps hv.ok hc) rfl rfl) fun D σ H ⟨B, W, L, h, r, p⟩ => by
    simp only [P2.exS] at p
    refine ⟨B.e, W, L, h, r, p.run fun v1 H1 d1 h1 W1 _ l1 r1 c1 p1 => ⟨B.e, W1, L, h1, r1, p1.run fun v2 H2 d2 h2 W2 _ l2 r2 c2 p2 => ⟨B.e, W2, L, h2, r2, p2.run fun v3 H3 d3 h3 W3 _ l3 r3 c3 p3 => ?_⟩⟩⟩
    obtain ⟨ad, o, o', rfl, hf, ob, q⟩ := up_ent r3 (c2.le l3) p3
    unfold P2.putO at hf
    split at hf
    · split at hf
      · rename_i kx hk
        cases hf
        obtain ⟨vs, g1, g2⟩ := ob
        cases c3
        refine ⟨ad, vs, _, kx, rfl, rfl, g1, ?_, q (.lst (vs.set kx v1)) ⟨_, upd_same, ?_⟩⟩
        · rw [ix_ixN, g2.length]; exact hk
        · exact Reps.set (Rep.le (l2.trans l3).1 (l2.trans l3).2 c1) kx g2
      · cases hf
    · cases hf
theorem deref_lst {v : V} {x : D} {xs : List D} (r : HR C B W L h σ H) (c : rA C L σ W v x) (e : P2.deref L h x = some (.lst xs)) : ∃ a vs, v = .ref a ∧ Rd H a (.lst vs) ∧ Reps C W.F W.ρ vs xs := (deref_con r c e).lst' r.fz
theorem st_insert {a : Xe} {es : Xes} {x : Expr} {e : Expr} {xs : List Expr} {p1 p2 pos : Pos} (oX : XOk T P C Γ N k cm X sc Wx) (ha : OkE P C Γ X Wx a x) (hs : OkEs P C Γ X Wx es (e :: xs)) (hl : (p1.endLine == p2.line) = true)
    (hfew : ((backTo p2 (starEach (e :: xs) X.env)).all (fun x => !x.1) && (backToKw p2 (keywordEach [] X.env)).all (fun x => x.1.isSome) && decide ((e :: xs).length + ([] : List Keyword).length + (if ([] : List Keyword).isEmpty then 0 else 1) < 30)) = true) :
    PS X (.Expr (.Call (.Attribute x "insert" p1) (e :: xs) [] p2) pos) (tS C Wx (P2.exS P Γ (.mut .insert a es))) :=
  PS.imp (ps_expr (pe_bm PySem.F.plainAttrs_list PySem.F.slot_list_insert PySem.F.type_list_insert L2.mt_insert ha.pa hs.pa (okX_attr ha.ok) hfew hl (okX_star (hs.ok e (List.mem_cons_self ..))) (plain_any (fun y hy => hs.ok y (List.mem_cons_of_mem _ hy)) _ _)) rfl) fun D σ H ⟨B, W, L, h, r, p⟩ => by
    simp only [P2.exS] at p
    refine ⟨B.e, W, L, h, r, p.run fun v1 H1 d1 h1 W1 _ l1 r1 c1 p1 => ?_⟩
    split at p1
    · rename_i xs hx
      obtain ⟨ad, vs, rfl, g1, g2⟩ := deref_lst r1 c1 hx
      refine ⟨.inl ⟨rfl, _, .inl g1⟩, B.e, W1, L, h1, r1, p1.run fun us H2 ds h2 W2 _ l2 r2 c2 p2 => ?_⟩
      obtain ⟨ad', o, o', e1, hf, ob, q⟩ := up_ent r2 (c1.le l2) p2
      cases e1
      cases o with
      | lst os =>
        simp only [P2.mutO] at hf
        split at hf
        · split at hf
          · rename_i hb
            cases hf
            obtain ⟨ws, f1, f2⟩ := ob
            cases c2 with
            | cons ra rb =>
              cases rb with
              | cons rc rd =>
                cases rd
                cases ra
                refine ⟨_, ws, _, _, rfl, rfl, f1, by rw [f2.length, ← lineMax_eq]; exact hb.2.2, hb.1, ?_, q _ ⟨_, upd_same, ?_⟩⟩
                · have := hb.2.1
                  have hz := hb.2.2
                  unfold P2.lineMax at hz
                  omega
                · rw [List.append_assoc]
                  exact (f2.take _).append (.cons rc (f2.drop _))
          · cases hf
        · cases hf
      | _ => simp [P2.mutO] at hf
    · exact p1.elim
theorem st_append {a : Xe} {es : Xes} {x : Expr} {e : Expr} {xs : List Expr} {p1 p2 pos : Pos} (oX : XOk T P C Γ N k cm X sc Wx) (ha : OkE P C Γ X Wx a x) (hs : OkEs P C Γ X Wx es (e :: xs)) (hl : (p1.endLine == p2.line) = true)
    (hfew : ((backTo p2 (starEach (e :: xs) X.env)).all (fun x => !x.1) && (backToKw p2 (keywordEach [] X.env)).all (fun x => x.1.isSome) && decide ((e :: xs).length + ([] : List Keyword).length + (if ([] : List Keyword).isEmpty then 0 else 1) < 30)) = true) :
    PS X (.Expr (.Call (.Attribute x "append" p1) (e :: xs) [] p2) pos) (tS C Wx (P2.exS P Γ (.mut .append a es))) :=
  PS.imp (ps_expr (pe_bm PySem.F.plainAttrs_list PySem.F.slot_list_append PySem.F.type_list_append mt_append ha.pa hs.pa (okX_attr ha.ok) hfew hl (okX_star (hs.ok e (List.mem_cons_self ..))) (plain_any (fun y hy => hs.ok y (List.mem_cons_of_mem _ hy)) _ _)) rfl) fun D σ H ⟨B, W, L, h, r, p⟩ => by
    simp only [P2.exS] at p
    refine ⟨B.e, W, L, h, r, p.run fun v1 H1 d1 h1 W1 _ l1 r1 c1 p1 => ?_⟩
    split at p1
    · rename_i xs hx
      obtain ⟨ad, vs, rfl, g1, g2⟩ := deref_lst r1 c1 hx
      refine ⟨.inl ⟨rfl, _, .inl g1⟩, B.e, W1, L, h1, r1, p1.run fun us H2 ds h2 W2 _ l2 r2 c2 p2 => ?_⟩
      obtain ⟨ad', o, o', e1, hf, ob, q⟩ := up_ent r2 (c1.le l2) p2
      cases e1
      cases o with
      | lst os =>
        simp only [P2.mutO] at hf
        split at hf
        · split at hf
          · rename_i hb
            cases hf
            obtain ⟨ws, f1, f2⟩ := ob
            cases c2 with
            | cons ra rb =>
              cases rb
              exact ⟨_, ws, _, rfl, rfl, f1, by rw [f2.length, ← lineMax_eq]; exact hb, q _ ⟨_, upd_same, f2.append (.cons ra .nil)⟩⟩
          · cases hf
        · cases hf
      | _ => simp [P2.mutO] at hf
    · exact p1.elim
/-! ### loops -/
theorem st_while {c : Xe} {body : Xss} {kl : List Nat} {z : Expr} {sts : List Stmt} {pos : Pos} (hp : PassesOwn (model X.prog X.w) X.A X.env X.xe) (hc : OkE P C Γ X Wx c z) (hb : PSs X sts (tS C Wx (P2.exSs P Γ body))) :
    PS X (.While z sts [] pos) (tS C Wx (P2.exS P Γ (.while_ c body kl))) :=
  PS.imp (ps_while hp hc.pt hb) fun D σ H ⟨B, W, L, h, r, p⟩ => by
    simp only [P2.exS] at p
    refine ⟨fun m σ1 H1 => ∃ (B : Bd Wx) (W : GW) (L : List Slot) (h : DHp), HR C B.b W L h σ1 H1 ∧ PoS C Wx B.b W (P2.whileL (fun L h => P2.evE P Γ c L h) (fun L h => P2.exSs P Γ body L h) kl m L h) D, ⟨_, B, W, _, h, r.kills, p⟩, fun m σ1 H1 ⟨B, W, L, h, r, p⟩ => ?_⟩
    cases m with
    | zero => exact p.elim
    | succ m =>
      simp only [P2.whileL] at p
      refine ⟨B.e, W, L, h, r, p.run fun v H2 d h1 W1 _ l1 r1 c1 p1 => ?_⟩
      split at p1
      · cases c1
        refine ⟨true, rfl, ?_⟩
        dsimp only
        rw [if_pos rfl]
        refine ⟨fun σ' H' => ∃ (B : Bd Wx) (W : GW) (L : List Slot) (h : DHp), HR C B.b W L h σ' H' ∧ PoS C Wx B.b W (P2.whileL (fun L h => P2.evE P Γ c L h) (fun L h => P2.exSs P Γ body L h) kl m L h) D, fun σ' H' q => ⟨m, Nat.lt_succ_self m, q⟩, B, W1, L, h1, r1, ?_⟩
        cases hm : P2.exSs P Γ body L h1 with
        | nx L' h' => rw [hm] at p1; exact fun W' σ' H' l r' => ⟨B, W', _, h', r'.kills, PoS.le l p1⟩
        | rt d L' h' => rw [hm] at p1; exact p1
        | ex x L' h' => rw [hm] at p1; exact p1
        | stk => rw [hm] at p1; exact p1
      · cases c1
        refine ⟨false, rfl, ?_⟩
        dsimp only
        rw [if_neg (by decide)]
        exact p1.nx r1
      · exact p1.elim
theorem PoI.ofS {src : Option Nat} {m : R (List D)} {f : List D → DHp → SR} {R' : It → Hp → Prop} (p : PoS C Wx B W (P2.withE L m f) D') (k : ∀ H1 ds h1 W1, W.le W1 → HR C B W1 L h1 σ H1 → PoS C Wx B W1 (f ds h1) D' → SrcQ C src B L σ W1 ds R' H1) : PoI C Wx src B L σ W m R' := by
  cases m with
  | ok a h1 => exact fun W1 H1 l r => k H1 a h1 W1 l r (PoS.le l p)
  | ex x h1 => exact fun W1 H1 cls dd l r e => p W1 σ H1 cls dd l r e
  | stk => exact p
theorem st_for {g : Xt} {it : Xi} {body : Xss} {kl : List Nat} {tg ex : Expr} {sts : List Stmt} {pos : Pos} (oX : XOk T P C Γ N k true X sc Wx) (hp : PassesOwn (model X.prog X.w) X.A X.env X.xe) (hI : OkI C X Wx tg none (P2.evJ P Γ it) ex) (hg : OkG C X Wx g tg) (hb : PSs X sts (tS C Wx (P2.exSs P Γ body))) :
    PS X (.For tg ex sts [] pos) (tS C Wx (P2.exS P Γ (.for_ g it body kl))) :=
  PS.imp (ps_for hp oX.calm hI.pi hg.pg hb hI.fold) fun D σ H ⟨B, W, L, h, r, p⟩ => by
    simp only [P2.exS] at p
    refine ⟨B.e, W, L, h, r, PoI.ofS p fun H1 ds h1 W1 l1 r1 p1 J S hS hst => ?_⟩
    refine ⟨fun i m σ1 H2 => m = ds.length - i ∧ i ≤ ds.length ∧ ∃ W2 L2 h2, W1.le W2 ∧ HR C B.b W2 L2 h2 σ1 H2 ∧ PoS C Wx B.b W2 (P2.forL (fun L h => P2.exSs P Γ body L h) g kl (ds.drop i) L2 h2) D,
      ⟨ds.length, by omega, Nat.zero_le _, W1, _, h1, GW.le.refl _, r1.kills, p1⟩, ?_⟩
    rintro i m σ1 H2 ⟨em, hi, W2, L2, h2, l2, r2, p2⟩
    have hSS : S W2 H2 := hst B.b W2 L2 h2 σ1 H2 l2 r2 fun _ e => nomatch e
    by_cases he : i = ds.length
    · subst he
      rw [List.drop_length] at p2
      exact .inl ⟨hS.2.1 W2 H2 hSS, p2.nx r2⟩
    · have hi' : i < ds.length := by omega
      refine .inr ⟨hS.1 i W2 H2 hSS hi', fun σ' H' => ∃ W2 L2 h2, W1.le W2 ∧ HR C B.b W2 L2 h2 σ' H' ∧ PoS C Wx B.b W2 (P2.forL (fun L h => P2.exSs P Γ body L h) g kl (ds.drop (i + 1)) L2 h2) D, fun σ' H' q => ⟨m - 1, by omega, by omega, by omega, q⟩, fun x H3 hy => ?_⟩
      obtain ⟨F3, d, hd, e3, rx⟩ := hS.2.2 i W2 H2 x H3 hSS r2.fz hi' hy
      have hdrop : ds.drop i = d :: ds.drop (i + 1) := by
        rw [List.drop_eq_getElem_cons hi']
        congr 1
        rw [List.getElem?_eq_getElem hi'] at hd
        exact Option.some.inj hd
      rw [hdrop] at p2
      simp only [P2.forL] at p2
      have l3 : W2.le ⟨F3, W2.ρ⟩ := ⟨e3.f, LeL.refl _⟩
      refine ⟨B.e, ⟨F3, W2.ρ⟩, L2, h2, d, r2.ext e3, rx, ?_⟩
      cases hb : P2.bindG g d L2 with
      | none => rw [hb] at p2; exact p2.elim
      | some L' =>
        rw [hb] at p2
        dsimp only at p2
        intro σ' r' _
        refine ⟨B, ⟨F3, W2.ρ⟩, L', h2, r', PoS.le l3 ?_⟩
        cases hm : P2.exSs P Γ body L' h2 with
        | nx L3 h3 => rw [hm] at p2; exact fun W' σ' H' l r' => ⟨W', _, h3, l2.trans l, r'.kills, PoS.le l p2⟩
        | rt d L' h' => rw [hm] at p2; exact p2
        | ex x L' h' => rw [hm] at p2; exact p2
        | stk => rw [hm] at p2; exact p2
end
end P2S
end

section
/-! P2Exc2: an own error is made and raised. -/
set_option autoImplicit false
set_option Elab.async false
set_option linter.all false
set_option maxRecDepth 100000
set_option maxHeartbeats 2000000
namespace P2S
open PySem PySem.Spec L2
open P2 (D DO DHp Exn Slot snap R SR Run Pg Xe Xes Xo Xi Xt Xs Xss Xh Fn Bi)
theorem relO_zip : ∀ {fs : List Str} {vs : List V} {us : List Value}, Vals vs us → fs.length = us.length → ∀ f, RelO ((fs.zip vs).lookup f) ((fs.zip us).lookup f)
  | [], _, _, _, _, f => trivial
  | g :: fs, _, _, .nil, h, f => by simp at h
  | g :: fs, _, _, .cons (a := v) (b := u) r rs, h, f => by
    simp only [List.zip_cons_cons, List.lookup_cons]
    cases (f == g) with
    | true => exact r
    | false => exact relO_zip rs (by simpa using h) f
section
variable {X : Cx} {C : Addr} {fs : List Str}
/-- C(e, ..) for an own error class -/
def tMkX (C : Addr) (fs : List Str) (ta : TA) : St → Hp → XK → Prop := fun σ H Q => ta σ H fun vs H1 => vs.length = fs.length ∧ ∀ d, H1 d = none → Q (.ref C) (some d) (upd H1 d (.xd (fs.zip vs)))
theorem pmk_exc {x : Str} {e : Expr} {es : List Expr} {ta : TA} {p pos : Pos} (T : P2X.XTxt X.prog X.K C fs) (hfs : fs.length = 1 ∨ fs.length = 2) (hsup : X.mg "super" = none) (hdp : X.A.depth + 2 < recursionLimit) (hm : X.mg x = some (.ref C)) (hg : Gl X x) (hdb : (x == ("__debug__" : Str)) = false) (ha : PA X (e :: es) ta)
    (he : starEach (e :: es) X.env = (false, eval e X.env) :: starEach es X.env) (hpl : (backTo pos (starEach es X.env)).any (·.1) = false) :
    L2N.PMk X (.Call (.Name x p) (e :: es) [] pos) (tMkX C fs ta) := by
  intro pins s σ H Q I h
  refine wpAny_Call_Name_kw (ld_glob I hg hm ?_ hdb)
  refine PySem.W.callWith_K (h₀ := X.base) I.ok.mod.kin T.kC (thn (ha.run pos pins s σ H _ I h) fun us s1 ⟨vs, H1, I1, r1, hlv, q1⟩ => ⟨I1.kIn, ?_⟩) he hpl
  have hlen := r1.length
  obtain ⟨nm, q, N, bs, bm, sn, sub, ab, col, dd, k0, k1, k2, k3, k5, hC, hbm, hal⟩ := T.cls
  obtain ⟨fI, hi, hf, hI⟩ := T.init
  have hz : us.length ≤ sizeLine := by rw [sizeLine_eq]; omega
  have X1 := I1.kIn
  have hlim := I1.nolimit
  obtain ⟨mb, hmb, hbb⟩ := I1.mod.blt
  have hmb1 : s1.heap.Ns builtinsNs mb := hmb.keeps I1.bk
  have hmg1 : s1.heap.Ns mainGlobals X.mg := I1.mod.glob.keeps I1.bk
  obtain ⟨hp, g, dr, tk, os⟩ := s1
  have kp : ∀ b o, hp.get? b = some o → ((hp.push (PySem.W.kdv_tup us)).push (PySem.HandSPX.excO C hp.objs.size)).get? b = some o := fun b o e => Heap.get?_push_of_some _ (Heap.get?_push_of_some _ e)
  have hget : ((hp.push (PySem.W.kdv_tup us)).push (PySem.HandSPX.excO C hp.objs.size)).get? (hp.objs.size + 1) = some (PySem.HandSPX.excO C hp.objs.size) := by heap_get
  have hnx : X.K.lookup (hp.objs.size + 1) = none := by
    cases z : X.K.lookup (hp.objs.size + 1) with
    | none => rfl
    | some o => exact absurd (Nat.lt_of_succ_lt (Heap.lt_size (X1 _ _ z))) (Nat.lt_irrefl _)
  refine wpAny_call (PySem.HandSPX.call_own PySem.F.excBase_ValueError (fun Y => PySem.HandSPX.refsVE_contains Y bm hbm) (X1 _ _ hC) (PySem.W.looks_findIn X1 hi) (fun self => PySem.W.bind_fn X1 self hf) hz ?_)
  refine P2X.exc_init (hA := .inl rfl) (s := ⟨(hp.push (PySem.W.kdv_tup us)).push (PySem.HandSPX.excO C hp.objs.size), g, dr, tk, os⟩) T hI hfs (X1.keeps kp) (hmg1.keeps kp) hsup (hmb1.keeps kp) hbb (hlim.keeps kp) hget hnx (by show X.A.depth + 1 < recursionLimit; omega) (show fs.length = us.length by omega) fun h' tk' dx t1 M => ?_
  refine ⟨rfl, ?_⟩
  have old : ∀ b o, hp.get? b = some o → h'.get? b = some o := fun b o z => M.keep b o (Nat.ne_of_lt (Nat.lt_succ_of_lt (Heap.lt_size z))) (kp b o z)
  have hsz : hp.objs.size + 1 < dx := by
    have := M.dbig
    simp only [Heap.size_push] at this
    omega
  show L2N.MkP X pins σ Q (.ref (hp.objs.size + 1)) ⟨h', g, dr, tk', os⟩
  obtain ⟨mA, hns, hmA⟩ := M.ns
  obtain ⟨G', g1, g2⟩ := restrict h' fun b => decide (b ≠ hp.objs.size + 1)
  have gk : ∀ b, b ≠ hp.objs.size + 1 → G'.get? b = h'.get? b := fun b hb => g1 b (decide_eq_true hb)
  have ge : G'.get? (hp.objs.size + 1) = none := g2 _ (by simp)
  have oldG : ∀ b o, hp.get? b = some o → G'.get? b = some o := fun b o z => (gk b (Nat.ne_of_lt (Nat.lt_succ_of_lt (Heap.lt_size z)))).trans (old b o z)
  have ob : ObjOk X.prog X.w (upd H1 dx (.xd (fs.zip vs))) G' dx (.xd (fs.zip vs)) :=
    ⟨mA, hns.at (fun o z => (gk dx M.dne).trans z), fun f => by rw [hmA f]; exact relO_zip r1 (by omega) f⟩
  have J : Inv X pins σ (upd H1 dx (.xd (fs.zip vs))) ⟨G', g, dr, tk', os⟩ := I1.laid (t' := tk') oldG (by show hp.objs.size ≤ dx; omega) ob
  refine ⟨hp.objs.size + 1, _, _, ⟨G', g, dr, tk', os⟩, _, .ref C, some dx, rfl, J, fun b o z => ?_, ge, M.obj, ⟨rfl, rfl, fun ws hw => ?_⟩, rfl, rfl, ?_, rfl, I1.bare, raises_own T.exC T.tyC, q1 dx (I1.hok.fresh (by show hp.objs.size ≤ dx; omega))⟩
  · by_cases hb : b = hp.objs.size + 1
    · have z' : G'.get? b = some o := z
      rw [hb, ge] at z'; cases z'
    · exact (gk b hb).symm.trans z
  · cases hw
    rfl
  · rw [upd_ne (Ne.symm M.dne)]
    exact I1.hok.fresh (Nat.le_succ _)
end
end P2S
end

section
/-! P2St3: raise, try, several names at once; all statements. -/
set_option autoImplicit false
set_option Elab.async false
set_option linter.all false
set_option maxRecDepth 100000
set_option maxHeartbeats 1000000
namespace P2S
open PySem PySem.Spec L2
open P2 (D DO DHp Exn Slot snap R SR Run Pg Xe Xes Xo Xi Xt Xs Xss Xh Fn Bi)
section
variable {T : Tb} {P : Pg} {C : Cfg} {Γ : P2.Run} {N : List Str} {k : Nat} {cm : Bool} {X : Cx} {sc : Scope} {Wx : Wq} {B : Bs} {W W1 : GW} {L : List Slot} {h : DHp} {σ : St} {H : Hp} {D' : Ends}
/-! ### raise -/
theorem repF_zip {F : Hp} {ρ : List Addr} : ∀ {ns : List Nat} {vs : List V} {ds : List D}, Reps C F ρ vs ds → ns.length = ds.length → RepF C F ρ ((ns.map C.nm).zip vs) (ns.zip ds)
  | [], _, _, _, _ => by simp; exact .nil
  | n :: ns, _, _, .nil, h => by simp at h
  | n :: ns, _, _, .cons a b, h => by
    simp only [List.map_cons, List.zip_cons_cons]
    exact .cons a (repF_zip b (by simpa using h))
theorem st_raise {c : Nat} {es : Xes} {x : Str} {e : Expr} {xs : List Expr} {p pos pos2 : Pos} {fl : List Nat × Nat} (oX : XOk T P C Γ N k true X sc Wx) (hx : T.exc[c]? = some x) (hp : P.exc[c]? = some fl) (hne : fl.1 ≠ []) (hg : isGl sc x = true) (hn : okN x = true) (hs : OkEs P C Γ X Wx es (e :: xs)) :
    PS X (.Raise (some (.Call (.Name x p) (e :: xs) [] pos)) none pos2) (tS C Wx (P2.exS P Γ (.raise c es))) := by
  obtain ⟨hc, hm⟩ := oX.sx.nm c x hx
  obtain ⟨hl, tx⟩ := oX.sx.txt c fl hp hne
  have hd : X.A.depth + 2 < recursionLimit := by have := oX.rm.rh.dp; omega
  refine PS.imp (L2N.ps_raise oX.calm oX.tak (pmk_exc tx (by simpa using hl) oX.sx.sup hd hm (gl_of oX.hsc hg) (okN_of hn).1 hs.pa (okX_star (hs.ok e (List.mem_cons_self ..))) (plain_any (fun y hy => hs.ok y (List.mem_cons_of_mem _ hy)) _ _))) fun D σ H ⟨B, W, L, h, r, q⟩ => ?_
  simp only [P2.exS] at q
  refine ⟨B.e, W, L, h, r, q.run fun vs H1 ds h1 W1 _ l1 r1 c1 q1 => ?_⟩
  simp only [P2.mkExn, hp, Option.bind_some] at q1
  split at q1
  · rename_i e he
    split at he
    · rename_i hlen
      cases he
      refine ⟨by rw [Reps.length c1, ← hlen]; simp, fun dd hdd => ?_⟩
      have ex : Ext W1.F H1 (upd W1.F dd (.xd ((fl.1.map C.nm).zip vs))) (upd H1 dd (.xd ((fl.1.map C.nm).zip vs))) := Ext.one r1.fz hdd
      have c1' : Reps C (upd W1.F dd (.xd ((fl.1.map C.nm).zip vs))) W1.ρ vs ds := Reps.le ex.f (LeL.refl _) c1
      exact q1 ⟨_, W1.ρ⟩ σ _ _ (some dd) ⟨ex.f, LeL.refl _⟩ (r1.ext ex) ⟨hc, rfl, .inr ⟨dd, _, rfl, upd_same, upd_same, repF_zip c1' hlen⟩⟩
    · cases he
  · exact q1.elim

/-- an own error without fields -/
theorem st_raise0 {c : Nat} {x : Str} {p pos pos2 : Pos} {fl : List Nat × Nat} (oX : XOk T P C Γ N k true X sc Wx) (hk : T.xk = true) (hx : T.exc[c]? = some x) (hp : P.exc[c]? = some fl) (hne : fl.1 = []) (hg : isGl sc x = true) (hn : okN x = true) :
    PS X (.Raise (some (.Call (.Name x p) [] [] pos)) none pos2) (tS C Wx (P2.exS P Γ (.raise c .nil))) := by
  obtain ⟨hc, hm⟩ := oX.sx.nm c x hx
  have t0 := oX.sx.txt0 hk c fl hp hc hne
  have pm : L2N.PMk X (.Call (.Name x p) [] [] pos) (fun _ H Q => Q (.ref (C.exc c)) none H) := by
    intro pins s σ H Q I h
    refine wpAny_Call_Name_kw (ld_glob I (gl_of oX.hsc hg) hm ?_ (okN_of hn).1)
    refine PySem.W.callWith_K0 I.kIn t0.kp ?_
    show wpAny _ _ (call (.ref (C.exc c)) []) _ _ _
    obtain ⟨bm, N, nm, qn, bs, hdct, sn, sub, ab, col, dd, k0, k1, k2, k3, k5, mN, hC, hN, hni, TT⟩ := exc_obj I.kIn t0.ex
    refine wpAny_call_exc_subT PySem.F.excBase_ValueError TT hC hN hni (fun h' e hm => ?_) (by show 0 ≤ sizeLine; omega)
    exact L2N.mk_of I hm (raises_own t0.exC t0.tyC) h (I.hok.gone hm.new)
  refine PS.imp (L2N.ps_raise oX.calm oX.tak pm) fun D σ H ⟨B, W, L, h, r, q⟩ => ?_
  simp only [P2.exS, P2.evEs, P2.withE, P2.mkExn, hp, Option.bind_some, hne] at q
  simp only [List.length_nil, if_true, List.zip_nil_left] at q
  exact q W σ H _ none (GW.le.refl W) r ⟨hc, rfl, .inl ⟨rfl, rfl⟩⟩

/-! ### try -/
/-- what a statement's context adds -/
structure SOk (T : Tb) (P : Pg) (C : Cfg) (Γ : P2.Run) (N : List Str) (k : Nat) (cm : Bool) (X : Cx) (sc : Scope) (Wx : Wq) : Prop extends XOk T P C Γ N k cm X sc Wx where
  po : PassesOwn (model X.prog X.w) X.A X.env X.xe
  stk : X.stack = X.env :: X.outer
  fr : X.env.frame = some X.env.locals
  kd : sc.kind = .function
  sto : Stor X (isLoc sc)
theorem sOk_tr {pn : List (Addr × Obj)} {xe : Value → Shared → Prop} {Wn : WX} (o : SOk T P C Γ N k cm X sc Wx) (tk : L2N.Takes (X.tr pn xe) Wn) (hp : PassesOwn (model X.prog X.w) X.A X.env xe) (hq : cm = true) : SOk T P C Γ N k cm (X.tr pn xe) sc ⟨Wn, Wx.xq⟩ where
  st := o.st
  hN := o.hN
  nd := o.nd
  hsc := o.hsc
  calm := o.calm
  hd := o.hd
  rm := o.rm
  xn := o.xn
  tak := tk
  sx := o.sx
  xf := fun a cls dd e => by
    have := o.xn hq
    rw [show Wx.xq = some (a, cls, dd) from e] at this
    cases this
  xi := fun a cls dd e => by
    have := o.xn hq
    rw [show Wx.xq = some (a, cls, dd) from e] at this
    cases this
  po := hp
  stk := o.stk
  fr := o.fr
  kd := o.kd
  sto := o.sto
theorem sOk_suite {a : Addr} {oe : Obj} {cls : Value} {d : Option Addr} {pn : List (Addr × Obj)} (o : SOk T P C Γ N k cm X sc Wx) (hz : L2N.Zn cls d oe) (hf : ∃ vs, oe.data = .fields vs) : SOk T P C Γ N k false (X.suite a ((a, oe) :: pn)) sc ⟨fun _ _ _ _ => False, some (a, cls, d)⟩ where
  st := o.st
  hN := o.hN
  nd := o.nd
  hsc := o.hsc
  calm := rfl
  hd := fun e => nomatch e
  rm := ⟨⟨o.rm.rh.dp, o.rm.rh.un⟩, o.rm.gd⟩
  xn := fun e => nomatch e
  tak := fun u s' c => by
    obtain ⟨_, _, _, _, _, _, _, _, _, _, _, _, _, _, _, _, z⟩ := c
    exact z.elim
  sx := o.sx
  xf := fun a' cls' dd e c nm ex te pos f1 f2 hok he => by
    cases e
    exact pe_xf f1 f2 hz.zc hf he (okX_attr hok)
  xi := fun a' cls' dd e D hD hc => by
    cases e
    subst hD
    exact P2X.call_isX hc hz.zc hf
  po := PassesOwn.never
  stk := o.stk
  fr := o.fr
  kd := o.kd
  sto := o.sto
theorem HR.exc {e : Option (Addr × Value × Option Addr)} (r : HR C B W L h σ H) (hn : B.exc = none) : HR C { B with exc := e } W L h σ H where
  fz := r.fz
  fz0 := r.fz0
  new := r.new
  keep := r.keep
  ρ0 := r.ρ0
  len := r.len
  rnd := r.rnd
  trk := r.trk
  trf := r.trf
  trn := r.trn
  s0e := r.s0e
  s0h := r.s0h
  sl := r.sl
  slots := fun i s q => by
    have z := r.slots i s q
    cases s with
    | exn x => obtain ⟨_, a, dd, e1, _⟩ := z; rw [hn] at e1; cases e1
    | _ => exact z
  ownf := r.ownf
  ownd := r.ownd
  s0 := r.s0
  s0n := r.s0n
theorem noExn_get {L : List Slot} {i : Nat} {s : Slot} (e : (P2.noExn L)[i]? = some s) : s = .emp ∨ (L[i]? = some s ∧ ∀ x, s ≠ .exn x) := by
  unfold P2.noExn at e
  rw [List.getElem?_map, Option.map_eq_some_iff] at e
  obtain ⟨s', h1, h2⟩ := e
  cases s' with
  | exn x => exact .inl h2.symm
  | emp => exact .inl h2.symm
  | val d => subst h2; exact .inr ⟨h1, fun x z => nomatch z⟩
  | own o => subst h2; exact .inr ⟨h1, fun x z => nomatch z⟩
theorem HR.noExn {e : Option (Addr × Value × Option Addr)} (r : HR C { B with exc := e } W L h σ H) : HR C B W (P2.noExn L) h σ H where
  fz := r.fz
  fz0 := r.fz0
  new := r.new
  keep := r.keep
  ρ0 := r.ρ0
  len := r.len
  rnd := r.rnd
  trk := r.trk
  trf := r.trf
  trn := r.trn
  s0e := r.s0e
  s0h := r.s0h
  sl := by unfold P2.noExn; rw [List.length_map]; exact r.sl
  slots := fun i s q => by
    rcases noExn_get q with rfl | ⟨q', hn⟩
    · trivial
    · have z := r.slots i s q'
      cases s with
      | exn x => exact (hn x rfl).elim
      | _ => exact z
  ownf := fun i o a e1 e2 => by
    rcases noExn_get e1 with z | ⟨q', _⟩
    · cases z
    · exact r.ownf i o a q' e2
  ownd := fun i j o o' a e1 e2 e3 e4 => by
    rcases noExn_get e1 with z | ⟨q1, _⟩
    · cases z
    · rcases noExn_get e2 with z | ⟨q2, _⟩
      · cases z
      · exact r.ownd i j o o' a q1 q2 e3 e4
  s0 := fun a o e1 e2 => by
    rcases noExn_get e2 with z | ⟨q', _⟩
    · cases z
    · exact r.s0 a o e1 q'
  s0n := fun a e1 i o e2 e3 => by
    rcases noExn_get e2 with z | ⟨q', _⟩
    · cases z
    · exact r.s0n a e1 i o q' e3
theorem HR.setExn {i : Nat} {x : Exn} {a : Addr} {dd : Option Addr} (r : HR C B W L h σ H) (hl : i < L.length) (hc : x.c < C.ne) (hb : B.exc = some (a, .ref (C.exc x.c), dd)) (he : ExF C W H dd x.fs) : HR C B W (L.set i (.exn x)) h (σ.set i (some (.ref a))) H :=
  r.setSlot (fun _ z => nomatch z) ⟨hc, a, dd, hb, set_eq (by rw [← r.sl]; exact hl), he⟩
theorem st_try {body suite : Xss} {c i : Nat} {sts : List Stmt} {b₀ : Stmt} {sus : List Stmt} {x n : Str} {np pos' pos : Pos} (oX : SOk T P C Γ N k true X sc Wx) (hx : T.exc[c]? = some x) (hg : isGl sc x = true) (hn : okN x = true) (hi : N[i]? = some n) (hl : isL sc n = true)
    (hb : ∀ X' Wx', SOk T P C Γ N k true X' sc Wx' → PSs X' sts (tS C Wx' (P2.exSs P Γ body))) (hs : ∀ X' Wx', SOk T P C Γ N k false X' sc Wx' → PSs X' (b₀ :: sus) (tS C Wx' (P2.exSs P Γ suite))) :
    PS X (.Try sts [.ExceptHandler (some (.Name x np)) (some n) (b₀ :: sus) pos'] [] [] pos) (tS C Wx (P2.exS P Γ (.tryS body (.cons c (some i) suite .nil)))) := by
  obtain ⟨hc, hm⟩ := oX.sx.nm c x hx
  have hln : X.env.kindOf n = some .local := by
    show X.env.scope.names.lookup n = _
    rw [oX.hsc]
    unfold isL at hl
    split at hl
    · assumption
    · cases hl
  have hxq := oX.xn rfl
  refine PS.imp (L2N.ps_try_as oX.stk oX.fr (by rw [oX.hN]; exact oX.nd) (by rw [oX.hN]; exact hi) hln (c := .ref (C.exc c)) ⟨gl_of oX.hsc hg, (okN_of hn).1, .inl hm⟩ oX.tak
    (fun W pn xe tk hp => hb _ _ (sOk_tr oX tk hp rfl)) (fun a oe cls d pn hz hf => hs _ _ (sOk_suite oX hz hf))) fun D σ H ⟨B, W, L, h, r, p⟩ => ?_
  simp only [P2.exS] at p
  refine ⟨⟨B.b, B.xq, B.ex⟩, W, L, h, r, ?_⟩
  cases hm : P2.exSs P Γ body L h with
  | nx L' h' => rw [hm] at p; exact p
  | rt d L' h' => rw [hm] at p; exact p
  | stk => rw [hm] at p; exact p
  | ex e L' h' =>
    rw [hm] at p
    dsimp only at p
    intro W' σ' H' cls dd l r' ⟨hec, hcls, hef⟩
    subst hcls
    simp only [P2.exHs] at p
    refine ⟨P2.catches P c e.c, by rw [oX.st.hK]; have := oX.sx.exm c e.c hc hec; rw [oX.st.hK] at this; exact this, fun hb2 a ha => ?_, fun hb2 => ?_⟩
    · rw [if_pos hb2] at p
      have hBe : B.b.exc = none := B.xq.trans hxq
      have r2 : HR C { B.b with exc := some (a, .ref (C.exc e.c), dd) } W' (L'.set i (.exn e)) h' (σ'.set i (some (.ref a))) H' := by
        by_cases hil : i < L'.length
        · exact (r'.exc hBe).setExn hil hec rfl hef
        · rw [List.set_eq_of_length_le (by omega), List.set_eq_of_length_le (by rw [← r'.sl]; omega)]
          exact r'.exc hBe
      refine ⟨⟨{ B.b with exc := some (a, .ref (C.exc e.c), dd) }, rfl, B.ex⟩, W', _, h', r2, ?_⟩
      cases hs2 : P2.exSs P Γ suite (L'.set i (.exn e)) h' with
      | nx L2 h2 =>
        rw [hs2] at p
        exact fun W2 σ2 H2 l2 r3 => p W2 _ H2 (l.trans l2) (HR.noExn (e := some (a, .ref (C.exc e.c), dd)) r3.setNone)
      | rt d L2 h2 =>
        rw [hs2] at p
        exact fun W2 σ2 H2 v l2 r3 rv => p W2 σ2 H2 v (l.trans l2) (HR.noExn (e := some (a, .ref (C.exc e.c), dd)) r3) rv
      | ex e2 L2 h2 => rw [hs2] at p; exact p.elim
      | stk => rw [hs2] at p; exact p.elim
    · rw [if_neg (by rw [hb2]; decide)] at p
      exact p W' σ' H' _ dd l r' ⟨hec, rfl, hef⟩
end
end P2S
end

section
/-! P2St4: several names at once; all statements. -/
set_option autoImplicit false
set_option Elab.async false
set_option linter.all false
set_option maxRecDepth 100000
set_option maxHeartbeats 1000000
namespace P2S
open PySem PySem.Spec L2
open P2 (D DO DHp Exn Slot snap R SR Run Pg Xe Xes Xo Xi Xt Xs Xss Xh Fn Bi)
/-- which names of a parallel assignment are stored from the right -/
def swS (sc : Scope) (ts vs : List Expr) : Option (Option (List Str)) :=
  if (!(ts.length == 2 || ts.length == 3) || vs.length != ts.length) = true then some none
  else if (vs.any fun | .Starred _ _ => true | _ => false) = true then some none
  else
    let line := (ts.head?.map (·.pos.line)).getD 0
    let names := ts.filterMap fun
      | .Name id pos => if (sc.names.lookup id == some .local && pos.line == line) = true then some id else none
      | _ => none
    if (names.length != ts.length || names.eraseDups.length != names.length) = true then some none
    else if (vs.all (foldedForSure 8)) = true then some none
    else if (vs.all (constantsAlone 8)) = true then none
    else some (some names)
theorem swS_ok {sc : Scope} {ts vs : List Expr} {j j2 : Nat} {p p2 : Pos} {env : Env} {r : Option (List Str)} (hs : env.scope = sc) (hk : sc.kind = .function) (h : swS sc ts vs = some r) : swappedStores [.Tuple ts j p] (.Tuple vs j2 p2) env = pure r := by
  subst hs
  have hb : (env.blockKind != .function) = false := by
    unfold Env.blockKind
    rw [hk]
    rfl
  unfold swS at h
  unfold swappedStores
  dsimp only
  simp only [hb, Bool.or_false]
  by_cases h1 : (!(ts.length == 2 || ts.length == 3) || vs.length != ts.length) = true
  · rw [if_pos h1] at h
    cases h
    rw [if_pos h1]
  · rw [if_neg h1] at h
    rw [if_neg h1]
    by_cases h2 : (vs.any fun | .Starred _ _ => true | _ => false) = true
    · rw [if_pos h2] at h
      cases h
      exact if_pos h2
    · rw [if_neg h2] at h
      refine (if_neg h2).trans ?_
      dsimp only at h
      show (if _ then _ else _) = _
      split at h
      · rename_i h3
        cases h
        exact if_pos h3
      · rename_i h3
        refine (if_neg h3).trans ?_
        split at h
        · rename_i h4
          cases h
          exact if_pos h4
        · rename_i h4
          refine (if_neg h4).trans ?_
          split at h
          · cases h
          · rename_i h5
            cases h
            exact if_neg h5
section
variable {T : Tb} {P : Pg} {C : Cfg} {Γ : P2.Run} {N : List Str} {k : Nat} {cm : Bool} {X : Cx} {sc : Scope} {Wx : Wq} {B : Bs} {W W1 : GW} {L : List Slot} {h : DHp} {σ : St} {H : Hp} {D' : Ends}
theorem parSet_bind : ∀ {gs : List (Nat × Bool)} {ds : List D} {L : List Slot}, gs.all (fun g => !g.2) = true → P2.parSet gs ds L = P2.bindGs (gs.map fun g => Xt.name g.1) ds L
  | [], ds, L, _ => by cases ds <;> simp [P2.parSet, P2.bindGs]
  | (i, o) :: gs, ds, L, h => by
    simp only [List.all_cons, Bool.and_eq_true, Bool.not_eq_true'] at h
    obtain ⟨rfl, h⟩ := h
    cases ds with
    | nil => simp [P2.parSet, P2.bindGs]
    | cons d ds =>
      simp only [P2.parSet, List.map_cons, P2.bindGs, P2.bindG]
      exact parSet_bind h
/-- a parallel assignment by a tuple -/
theorem st_parT {gs : List (Nat × Bool)} {es : Xes} {ts vs : List Expr} {j j2 : Nat} {p p2 pos : Pos} (oX : SOk T P C Γ N k true X sc Wx) (hf : gs.all (fun g => !g.2) = true) (hg : OkG C X Wx (.tup (gs.map fun g => Xt.name g.1)) (.Tuple ts j p)) (hs : OkEs P C Γ X Wx es vs) (hn : vs.length ≤ 1000) (hw : swS sc ts vs = some none) :
    PS X (.Assign [.Tuple ts j p] (.Tuple vs j2 p2) pos) (tS C Wx (P2.exS P Γ (.par gs es))) := by
  have ht := sem_tup (x1 := j2) (pos := p2) hn hs
  refine PS.imp (ps_asg ht.pe hg.pg rfl (swS_ok oX.hsc oX.kd hw) (by rw [as_cons hg.ok]; rfl)) fun D σ H ⟨B, W, L, h, r, q⟩ => ?_
  simp only [P2.exS] at q
  split at q
  · refine ⟨B.e, W, L, h, r, ?_⟩
    simp only [P2.evE]
    cases hm : P2.evEs P Γ es L h with
    | ex x h1 => rw [hm] at q; exact fun W1 H1 cls dd l r e => q W1 σ H1 cls dd l r e
    | stk => rw [hm] at q; exact q
    | ok ds h1 =>
      rw [hm] at q
      intro W1 H1 v l1 r1 c1
      have q1 := PoS.le l1 q
      dsimp only [P2.withE] at q1
      rw [parSet_bind hf] at q1
      refine ⟨B.e, W1, L, h1, .tup ds, r1, c1, ?_⟩
      simp only [P2.bindG]
      cases hb : P2.bindGs (gs.map fun g => Xt.name g.1) ds L with
      | none => rw [hb] at q1; exact q1.elim
      | some L' => rw [hb] at q1; exact fun σ' r' _ => PoS.nx q1 r'
  · exact q.elim
theorem st_par2 {i j' : Nat} {es : Xes} {x y : Str} {a b : Expr} {px py p p2 pos : Pos} {j j2 : Nat} (oX : SOk T P C Γ N k true X sc Wx) (hi : N[i]? = some x) (hj : N[j']? = some y) (hij : i ≠ j') (hx : isL sc x = true) (hy : isL sc y = true) (hs : OkEs P C Γ X Wx es [a, b]) (hw : swS sc [.Name x px, .Name y py] [a, b] = some (some [x, y])) :
    PS X (.Assign [.Tuple [.Name x px, .Name y py] j p] (.Tuple [a, b] j2 p2) pos) (tS C Wx (P2.exS P Γ (.par [(i, false), (j', false)] es))) := by
  have lx : ∀ {z}, isL sc z = true → X.env.scope.names.lookup z = some .local := fun {z} hz => by
    rw [oX.hsc]
    unfold isL at hz
    split at hz
    · assumption
    · cases hz
  refine PS.imp (ps_par oX.calm (by rw [oX.hN]; exact oX.nd) (by rw [oX.hN]; exact hi) (by rw [oX.hN]; exact hj) hij (lx hx) (lx hy) hs.pa (swS_ok oX.hsc oX.kd hw) rfl) fun D σ H ⟨B, W, L, h, r, q⟩ => ?_
  simp only [P2.exS] at q
  split at q
  · refine ⟨B.e, W, L, h, r, q.run fun vs H1 ds h1 W1 e1 l1 r1 c1 q1 => ?_⟩
    have hl := hs.len L h ds h1 e1
    match ds, hl, c1 with
    | [d1, d2], _, .cons ra (.cons rb .nil) =>
      simp only [P2.parSet] at q1
      exact ⟨_, _, rfl, q1.nx ((r1.bind ra).bind rb)⟩
  · exact q.elim
theorem st_par3 {i j' l' : Nat} {es : Xes} {x y z : Str} {a b c : Expr} {px py pz p p2 pos : Pos} {j j2 : Nat} (oX : SOk T P C Γ N k true X sc Wx) (hi : N[i]? = some x) (hj : N[j']? = some y) (hl' : N[l']? = some z) (hij : i ≠ j') (hil : i ≠ l') (hjl : j' ≠ l') (hx : isL sc x = true) (hy : isL sc y = true) (hz : isL sc z = true) (hs : OkEs P C Γ X Wx es [a, b, c]) (hw : swS sc [.Name x px, .Name y py, .Name z pz] [a, b, c] = some (some [x, y, z])) :
    PS X (.Assign [.Tuple [.Name x px, .Name y py, .Name z pz] j p] (.Tuple [a, b, c] j2 p2) pos) (tS C Wx (P2.exS P Γ (.par [(i, false), (j', false), (l', false)] es))) := by
  have lx : ∀ {z}, isL sc z = true → X.env.scope.names.lookup z = some .local := fun {z} hz => by
    rw [oX.hsc]
    unfold isL at hz
    split at hz
    · assumption
    · cases hz
  refine PS.imp (ps_par3 oX.calm (by rw [oX.hN]; exact oX.nd) (by rw [oX.hN]; exact hi) (by rw [oX.hN]; exact hj) (by rw [oX.hN]; exact hl') hij hil hjl (lx hx) (lx hy) (lx hz) hs.pa (swS_ok oX.hsc oX.kd hw) rfl) fun D σ H ⟨B, W, L, h, r, q⟩ => ?_
  simp only [P2.exS] at q
  split at q
  · refine ⟨B.e, W, L, h, r, q.run fun vs H1 ds h1 W1 e1 l1 r1 c1 q1 => ?_⟩
    have hl := hs.len L h ds h1 e1
    match ds, hl, c1 with
    | [d1, d2, d3], _, .cons ra (.cons rb (.cons rc .nil)) =>
      simp only [P2.parSet] at q1
      exact ⟨_, _, _, rfl, q1.nx (((r1.bind ra).bind rb).bind rc)⟩
  · exact q.elim
end
end P2S
end

section
/-! P2Par: several names at once, where some own a list that was displayed just now. -/
set_option autoImplicit false
set_option Elab.async false
set_option linter.all false
set_option maxRecDepth 100000
set_option maxHeartbeats 1000000
namespace P2S
open PySem PySem.Spec L2
open P2 (D DO DHp Exn Slot snap R SR Run Pg Xe Xes Xo Xi Xt Xs Xss Xh Fn Bi)
/-- an object that no slot owns yet -/
structure Pn (C : Cfg) (B : Bs) (W : GW) (L : List Slot) (σ : St) (H : Hp) (a : Addr) (o : DO) : Prop where
  ob : ObjRep C W.F W.ρ H a o
  f : W.F a = none
  t : a ∉ W.ρ
  b : B.H0 a = none
  x : a ∉ B.exs
  n : a ∉ owned L σ
structure Pns (C : Cfg) (B : Bs) (W : GW) (L : List Slot) (σ : St) (H : Hp) (ps : List (Addr × DO)) : Prop where
  nd : (ps.map (·.1)).Nodup
  all : ∀ p ∈ ps, Pn C B W L σ H p.1 p.2
inductive RelP (C : Cfg) (W : GW) : List (Nat × Bool) → List V → List D → List (Addr × DO) → Prop
  | nil : RelP C W [] [] [] []
  | val {i v d gs vs ds ps} : Rep C W.F W.ρ v d → RelP C W gs vs ds ps → RelP C W ((i, false) :: gs) (v :: vs) (d :: ds) ps
  | own {i a d o gs vs ds ps} : P2.ownOf d = some o → RelP C W gs vs ds ps → RelP C W ((i, true) :: gs) (.ref a :: vs) (d :: ds) ((a, o) :: ps)
section
variable {T : Tb} {P : Pg} {C : Cfg} {Γ : P2.Run} {N : List Str} {k : Nat} {cm : Bool} {X : Cx} {sc : Scope} {Wx : Wq} {B : Bs} {W W1 : GW} {L : List Slot} {h h1 : DHp} {σ : St} {H H1 : Hp} {D' : Ends}
theorem Pns.nil : Pns C B W L σ H [] := ⟨List.nodup_nil, fun p hp => nomatch hp⟩
theorem Pn.run {a : Addr} {o : DO} (r : HR C B W L h σ H) (q : HR C (B.re W L σ H) W1 L h1 σ H1) (p : Pn C B W L σ H a o) : Pn C B W1 L σ H1 a o := by
  obtain ⟨u, hu, _⟩ := p.ob.some
  have hk : H1 a = some u := q.keep a u hu p.t p.n
  refine ⟨p.ob.le q.fz0 q.ρ0 (by rw [hk, hu]), ?_, fun z => ?_, p.b, p.x, p.n⟩
  · cases z : W1.F a with
    | none => rfl
    | some w =>
      rcases q.new a w z with z1 | z1
      · exact absurd z1 (by show ¬ W.F a = some w; rw [p.f]; simp)
      · exact absurd z1 (by show ¬ H a = none; rw [hu]; simp)
  · rcases q.trn a z with z1 | z1
    · exact p.t z1
    · exact absurd z1 (by show ¬ H a = none; rw [hu]; simp)
theorem Pns.run {ps : List (Addr × DO)} (r : HR C B W L h σ H) (q : HR C (B.re W L σ H) W1 L h1 σ H1) (p : Pns C B W L σ H ps) : Pns C B W1 L σ H1 ps := ⟨p.nd, fun x hx => (p.all x hx).run r q⟩
theorem Pns.snoc {ps : List (Addr × DO)} {a : Addr} {vs : List V} {ds : List D} (r : HR C B W L h σ H) (p : Pns C B W L σ H ps) (ha : H a = none) (c : Reps C W.F W.ρ vs ds) : Pns C B W L σ (upd H a (.lst vs)) (ps ++ [(a, .lst ds)]) := by
  have ne : ∀ x ∈ ps, x.1 ≠ a := fun x hx e => by
    obtain ⟨u, hu, _⟩ := (p.all x hx).ob.some
    rw [e, ha] at hu
    cases hu
  refine ⟨?_, fun x hx => ?_⟩
  · rw [List.map_append, List.nodup_append]
    refine ⟨p.nd, by simp, fun b hb c hc => ?_⟩
    obtain ⟨x, hx, rfl⟩ := List.mem_map.mp hb
    simp at hc
    rw [hc]
    exact ne x hx
  · rcases List.mem_append.mp hx with hx | hx
    · have q := p.all x hx
      exact ⟨q.ob.at_ne (ne x hx), q.f, q.t, q.b, q.x, q.n⟩
    · rw [List.mem_singleton.mp hx]
      obtain ⟨f1, f2, f3, f4⟩ := r.toHS.fresh ha
      refine ⟨⟨vs, upd_same, c⟩, f2, f3, f1, f4, fun z => ?_⟩
      obtain ⟨j, o, e1, e2⟩ := mem_owned.mp z
      obtain ⟨b, g1, g2⟩ := r.own_at e1
      rw [e2] at g1; cases g1
      obtain ⟨u, hu, _⟩ := g2.some
      rw [ha] at hu; cases hu
theorem HR.setOwnP {i : Nat} {o : DO} {p : Addr} (r : HR C B W L h σ H) (hi : i ≠ 0) (q : Pn C B W L σ H p o) : HR C B W (L.set i (.own o)) h (σ.set i (some (.ref p))) H := by
  by_cases hl : i < L.length
  case neg =>
    rw [List.set_eq_of_length_le (by omega), List.set_eq_of_length_le (by rw [← r.sl]; omega)]
    exact r
  have hs : i < σ.length := by rw [← r.sl]; exact hl
  have nop : ∀ {j : Nat} {o' : DO}, L[j]? = some (.own o') → σ[j]? = some (some (.ref p)) → False := fun {j o'} e1 e2 => q.n (mem_owned.mpr ⟨j, o', e1, e2⟩)
  refine { r.toHS with sl := by simp [r.sl], slots := fun j s' e => ?_, ownf := fun j o' a e1 e2 => ?_, ownd := fun j k o1 o2 a e1 e2 e3 e4 => ?_, s0 := fun a o' e1 e2 => ?_, s0n := fun a e j o' e1 e2 => ?_ }
  · rcases set_get e with ⟨rfl, rfl, _⟩ | ⟨hj, e'⟩
    · exact ⟨p, set_eq hs, q.ob⟩
    · exact (r.slots j s' e').at_ne hj
  · rcases set_get e1 with ⟨rfl, e', _⟩ | ⟨hj, e'⟩
    · rw [set_eq hs] at e2
      cases e2
      exact ⟨q.f, q.t, .inl q.b⟩
    · rw [set_ne hj] at e2
      exact r.ownf j o' a e' e2
  · rcases set_get e1 with ⟨rfl, e', _⟩ | ⟨hj, e'⟩
    · rw [set_eq hs] at e3
      cases e3
      rcases set_get e2 with ⟨rfl, e'', _⟩ | ⟨hk, e''⟩
      · rfl
      · rw [set_ne hk] at e4
        exact (nop e'' e4).elim
    · rw [set_ne hj] at e3
      rcases set_get e2 with ⟨rfl, e'', _⟩ | ⟨hk, e''⟩
      · rw [set_eq hs] at e4
        cases e4
        exact (nop e' e3).elim
      · rw [set_ne hk] at e4
        exact r.ownd j k o1 o2 a e' e'' e3 e4
  · rw [set_ne (Ne.symm hi)] at e2 ⊢
    exact r.s0 a o' e1 e2
  · rcases set_get e1 with ⟨rfl, e', _⟩ | ⟨hj, e'⟩
    · rw [set_eq hs] at e2
      cases e2
      exact absurd (r.s0e _ e) q.x
    · rw [set_ne hj] at e2
      exact r.s0n a e j o' e' e2
theorem Pns.setV {i : Nat} {s : Slot} {x : Option V} {ps : List (Addr × DO)} (hs : ∀ o, s = .own o → ∀ a, x = some (.ref a) → ∀ p ∈ ps, p.1 ≠ a) (p : Pns C B W L σ H ps) : Pns C B W (L.set i s) (σ.set i x) H ps := by
  refine ⟨p.nd, fun y hy => ?_⟩
  have q := p.all y hy
  refine ⟨q.ob, q.f, q.t, q.b, q.x, fun z => ?_⟩
  obtain ⟨j, o, e1, e2⟩ := mem_owned.mp z
  rcases set_get e1 with ⟨rfl, e', _⟩ | ⟨hj, e'⟩
  · rcases set_get e2 with ⟨_, e'', _⟩ | ⟨hj, e''⟩
    · exact hs o e'.symm y.1 e''.symm y hy rfl
    · exact hj rfl
  · rw [set_ne hj] at e2
    exact q.n (mem_owned.mpr ⟨j, o, e', e2⟩)
def setAll : List (Nat × Bool) → List V → St → St
  | (i, _) :: gs, v :: vs, σ => setAll gs vs (σ.set i (some v))
  | _, _, σ => σ
theorem parSet_ok {gs : List (Nat × Bool)} {vs : List V} {ds : List D} {ps : List (Addr × DO)} (rel : RelP C W gs vs ds ps) : ∀ {L L' : List Slot} {σ : St}, Pns C B W L σ H ps → HR C B W L h σ H → gs.all (fun g => !g.2 || decide (g.1 ≠ 0)) = true → P2.parSet gs ds L = some L' → HR C B W L' h (setAll gs vs σ) H := by
  induction rel with
  | nil =>
    intro L L' σ _ r _ e
    simp only [P2.parSet, Option.some.injEq] at e
    subst e
    exact r
  | val c rel ih =>
    intro L L' σ pn r hz e
    simp only [P2.parSet, Bool.false_eq_true, if_false] at e
    simp only [List.all_cons, Bool.and_eq_true] at hz
    exact ih (pn.setV (by intro o z; cases z)) (r.bind c) hz.2 e
  | own ho rel ih =>
    rename_i a d o gs vs ds ps
    intro L L' σ pn r hz e
    simp only [P2.parSet, ho, if_true] at e
    simp only [List.all_cons, Bool.and_eq_true] at hz
    have hi := hz.1
    simp only [Bool.not_true, Bool.false_or, decide_eq_true_eq] at hi
    have hq := pn.all _ (List.mem_cons_self ..)
    have hnd := pn.nd
    rw [List.map_cons, List.nodup_cons] at hnd
    have pn2 : Pns C B W L σ H ps := ⟨hnd.2, fun y hy => pn.all y (List.mem_cons_of_mem _ hy)⟩
    refine ih (pn2.setV fun o' z b zb p hp e' => ?_) (r.setOwnP hi hq) hz.2 e
    cases zb
    exact hnd.1 (List.mem_map.mpr ⟨p, hp, e'⟩)
variable (C Wx) in
def PoP (gs : List (Nat × Bool)) (B : Bs) (L : List Slot) (σ : St) (W : GW) (ps0 : List (Addr × DO)) (m : R (List D)) (Q : List V → Hp → Prop) : Prop :=
  match m with
  | .ok ds h' => ∀ W' H' vs ps, W.le W' → HR C B W' L h' σ H' → RelP C W' gs vs ds ps → Pns C B W' L σ H' (ps0 ++ ps) → Q vs H'
  | .ex x h' => ∀ W' H' cls dd, W.le W' → HR C B W' L h' σ H' → ExOk C W' H' cls dd x → Wx.w cls dd σ H'
  | .stk => False
variable (C Wx) in
def tP (gs : List (Nat × Bool)) (m : List Slot → DHp → R (List D)) : TA := fun σ H Q => ∃ (B : {B : Bs // B.exc = Wx.xq}) (W : GW) (L : List Slot) (h : DHp) (ps0 : List (Addr × DO)), HR C B.1 W L h σ H ∧ Pns C B.1 W L σ H ps0 ∧ PoP C Wx gs B.1 L σ W ps0 (m L h) Q
variable (P C Γ X Wx) in
inductive ParE : List (Nat × Bool) → Xes → List Expr → Prop
  | nil : ParE [] .nil []
  | val {i e es x xs gs} : OkE P C Γ X Wx e x → ParE gs es xs → ParE ((i, false) :: gs) (.cons e es) (x :: xs)
  | own {i es' es ys p xs gs} : OkEs P C Γ X Wx es' ys → ys.length ≤ 1000 → ParE gs es xs → ParE ((i, true) :: gs) (.cons (.lst es') es) (.List ys p :: xs)
theorem parE_pa {gs : List (Nat × Bool)} {es : Xes} {xs : List Expr} (h : ParE P C Γ X Wx gs es xs) : PA X xs (tP C Wx gs (P2.evEs P Γ es)) := by
  induction h with
  | nil =>
    refine PA.imp pa_nil fun σ H Q ⟨B, W, L, h, ps0, r, pn, p⟩ => ?_
    simp only [P2.evEs] at p
    exact p W H [] [] (GW.le.refl W) r .nil (by simpa using pn)
  | val ha _ ih =>
    rename_i e es x xs gs _
    refine PA.imp (pa_cons ha.pe ih (okX_star ha.ok)) fun σ H Q ⟨B, W, L, h, ps0, r, pn, p⟩ => ?_
    simp only [P2.evEs] at p
    refine ⟨⟨B.1.re W L σ H, B.2⟩, W, L, h, r.rebase, ?_⟩
    cases hm : P2.evE P Γ e L h with
    | stk => rw [hm] at p; exact p
    | ex y h1 => rw [hm] at p; exact fun W1 H1 cls dd l1 q1 e1 => p W1 H1 cls dd l1 (r.unbase q1) e1
    | ok d h1 =>
      rw [hm] at p
      intro W1 H1 v l1 q1 c1
      refine ⟨B, W1, L, h1, ps0, r.unbase q1, pn.run r q1, ?_⟩
      dsimp only [R.bind] at p
      cases hm2 : P2.evEs P Γ es L h1 with
      | stk => rw [hm2] at p; exact p
      | ex y h2 => rw [hm2] at p; exact fun W2 H2 cls dd l2 q2 e2 => p W2 H2 cls dd (l1.trans l2) q2 e2
      | ok ds h2 =>
        rw [hm2] at p
        exact fun W2 H2 vs ps l2 r2 rel pn2 => p W2 H2 (v :: vs) ps (l1.trans l2) r2 (.val (c1.le l2.1 l2.2) rel) pn2
  | own hs hn _ ih =>
    rename_i es' es ys pp xs gs _
    refine PA.imp (pa_cons (pe_lst hs.pa) ih rfl) fun σ H Q ⟨B, W, L, h, ps0, r, pn, p⟩ => ?_
    simp only [P2.evEs, P2.evE] at p
    refine ⟨⟨B.1.re W L σ H, B.2⟩, W, L, h, r.rebase, ?_⟩
    cases hm : P2.evEs P Γ es' L h with
    | stk => rw [hm] at p; exact p
    | ex y h1 => rw [hm] at p; exact fun W1 H1 cls dd l1 q1 e1 => p W1 H1 cls dd l1 (r.unbase q1) e1
    | ok ds' h1 =>
      rw [hm] at p
      intro W1 H1 vs' l1 q1 c1
      refine ⟨by rw [Reps.length c1, hs.len L h ds' h1 hm]; exact small_line hn, fun a ha => ?_⟩
      have r1 := r.unbase q1
      refine ⟨B, W1, L, h1, ps0 ++ [(a, .lst ds')], r1.ext (Ext.waste r1.fz ha), (pn.run r q1).snoc r1 ha c1, ?_⟩
      dsimp only [R.bind] at p
      cases hm2 : P2.evEs P Γ es L h1 with
      | stk => rw [hm2] at p; exact p
      | ex y h2 => rw [hm2] at p; exact fun W2 H2 cls dd l2 q2 e2 => p W2 H2 cls dd (l1.trans l2) q2 e2
      | ok ds h2 =>
        rw [hm2] at p
        exact fun W2 H2 vs ps l2 r2 rel pn2 => p W2 H2 (.ref a :: vs) ((a, .lst ds') :: ps) (l1.trans l2) r2 (.own rfl rel) (by simpa using pn2)
theorem RelP.len {gs : List (Nat × Bool)} {vs : List V} {ds : List D} {ps : List (Addr × DO)} (h : RelP C W gs vs ds ps) : vs.length = gs.length := by
  induction h with
  | nil => rfl
  | val _ _ ih => simp [ih]
  | own _ _ ih => simp [ih]
theorem par_ent {gs : List (Nat × Bool)} {es : Xes} {Q : List V → Hp → Prop} (hz : gs.all (fun g => !g.2 || decide (g.1 ≠ 0)) = true) (hQ : ∀ vs H1, vs.length = gs.length → D'.nx (setAll gs vs σ) H1 → Q vs H1) (t : tS C Wx (P2.exS P Γ (.par gs es)) D' σ H) : tP C Wx gs (P2.evEs P Γ es) σ H Q := by
  obtain ⟨B, W, L, h, r, q⟩ := t
  simp only [P2.exS] at q
  split at q
  · refine ⟨B.e, W, L, h, [], r, Pns.nil, ?_⟩
    cases hm : P2.evEs P Γ es L h with
    | stk => rw [hm] at q; exact q
    | ex y h1 => rw [hm] at q; exact fun W1 H1 cls dd l1 r1 e1 => q W1 σ H1 cls dd l1 r1 e1
    | ok ds h1 =>
      rw [hm] at q
      intro W1 H1 vs ps l1 r1 rel pn
      have q1 := PoS.le l1 q
      dsimp only [P2.withE] at q1
      cases hp : P2.parSet gs ds L with
      | none => rw [hp] at q1; exact q1.elim
      | some L' =>
        rw [hp] at q1
        exact hQ vs H1 rel.len (PoS.nx q1 (parSet_ok rel (by simpa using pn) r1 hz hp))
  · exact q.elim
theorem st_par2O {i j' : Nat} {o1 o2 : Bool} {es : Xes} {x y : Str} {a b : Expr} {px py p p2 pos : Pos} {j j2 : Nat} (oX : SOk T P C Γ N k true X sc Wx) (hi : N[i]? = some x) (hj : N[j']? = some y) (hij : i ≠ j') (hx : isL sc x = true) (hy : isL sc y = true) (hs : ParE P C Γ X Wx [(i, o1), (j', o2)] es [a, b]) (hz : [(i, o1), (j', o2)].all (fun g => !g.2 || decide (g.1 ≠ 0)) = true) (hw : swS sc [.Name x px, .Name y py] [a, b] = some (some [x, y])) :
    PS X (.Assign [.Tuple [.Name x px, .Name y py] j p] (.Tuple [a, b] j2 p2) pos) (tS C Wx (P2.exS P Γ (.par [(i, o1), (j', o2)] es))) := by
  have lx : ∀ {z}, isL sc z = true → X.env.scope.names.lookup z = some .local := fun {z} hz => by
    rw [oX.hsc]
    unfold isL at hz
    split at hz
    · assumption
    · cases hz
  refine PS.imp (ps_par oX.calm (by rw [oX.hN]; exact oX.nd) (by rw [oX.hN]; exact hi) (by rw [oX.hN]; exact hj) hij (lx hx) (lx hy) (parE_pa hs) (swS_ok oX.hsc oX.kd hw) rfl) fun D σ H t => par_ent hz (fun vs H1 hl q => ?_) t
  match vs, hl with
  | [v, w], _ => exact ⟨v, w, rfl, q⟩
theorem st_par3O {i j' l' : Nat} {o1 o2 o3 : Bool} {es : Xes} {x y z : Str} {a b c : Expr} {px py pz p p2 pos : Pos} {j j2 : Nat} (oX : SOk T P C Γ N k true X sc Wx) (hi : N[i]? = some x) (hj : N[j']? = some y) (hl' : N[l']? = some z) (hij : i ≠ j') (hil : i ≠ l') (hjl : j' ≠ l') (hx : isL sc x = true) (hy : isL sc y = true) (hz : isL sc z = true) (hs : ParE P C Γ X Wx [(i, o1), (j', o2), (l', o3)] es [a, b, c]) (h0 : [(i, o1), (j', o2), (l', o3)].all (fun g => !g.2 || decide (g.1 ≠ 0)) = true) (hw : swS sc [.Name x px, .Name y py, .Name z pz] [a, b, c] = some (some [x, y, z])) :
    PS X (.Assign [.Tuple [.Name x px, .Name y py, .Name z pz] j p] (.Tuple [a, b, c] j2 p2) pos) (tS C Wx (P2.exS P Γ (.par [(i, o1), (j', o2), (l', o3)] es))) := by
  have lx : ∀ {z}, isL sc z = true → X.env.scope.names.lookup z = some .local := fun {z} hz => by
    rw [oX.hsc]
    unfold isL at hz
    split at hz
    · assumption
    · cases hz
  refine PS.imp (ps_par3 oX.calm (by rw [oX.hN]; exact oX.nd) (by rw [oX.hN]; exact hi) (by rw [oX.hN]; exact hj) (by rw [oX.hN]; exact hl') hij hil hjl (lx hx) (lx hy) (lx hz) (parE_pa hs) (swS_ok oX.hsc oX.kd hw) rfl) fun D σ H t => par_ent h0 (fun vs H1 hl q => ?_) t
  match vs, hl with
  | [v, w, u], _ => exact ⟨v, w, u, rfl, q⟩
end
end P2S
end

section
/-! P2St5: all statements. -/
set_option autoImplicit false
set_option Elab.async false
set_option linter.all false
set_option maxRecDepth 100000
set_option maxHeartbeats 1000000
namespace P2S
open PySem PySem.Spec L2
open P2 (D DO DHp Exn Slot snap R SR Run Pg Xe Xes Xo Xi Xt Xs Xss Xh Fn Bi)
def notTup : Expr → Bool
  | .Tuple _ _ _ => false
  | _ => true
def isCompX : Xe → Bool
  | .comp _ _ _ _ => true
  | _ => false
/-- a comprehension's value is stored at once -/
def swC (sc : Scope) (x : Str) (p1 : Pos) : Expr → Bool
  | .ListComp _ _ s p => sc.names.lookup x == some .local && p1.line == p.line && !(s.names.any fun (n, k) => n == x && (k == .local || k == .cell))
  | _ => false
theorem swC_ok {sc : Scope} {x : Str} {p1 : Pos} {e' : Expr} {gens : List Comprehension} {s : Scope} {p : Pos} {l : Nat} {env : Env} (hs : env.scope = sc) (hk : sc.kind = .function) :
    swapsWith (.ListComp e' gens s p) (some (.Name x p1)) l env = pure (swC sc x p1 (.ListComp e' gens s p)) := by
  subst hs
  have hb : (env.blockKind == .function) = true := by unfold Env.blockKind; rw [hk]; rfl
  show pure (env.blockKind == .function && env.kindOf x == some .local && p1.line == p.line && !(s.names.any fun (n, k) => n == x && (k == .local || k == .cell))) = _
  rw [hb]
  rfl
def isFrz : Xs → Option Nat
  | .frz i => some i
  | _ => none
section
variable (T : Tb) (P : Pg) (N : List Str)
def mPar (sc : Scope) (gs : List (Nat × Bool)) (ts vs : List Expr) (tg : Expr) : Bool :=
  match swS sc ts vs with
  | some none => gs.all (fun g => !g.2) && mG N (isLoc sc) (.tup (gs.map fun g => Xt.name g.1)) tg && decide (vs.length ≤ 1000)
  | some (some nms) => gs.all (fun g => !g.2 || decide (g.1 ≠ 0)) && (match gs, ts, vs with
    | [(i, _), (j, _)], [.Name x _, .Name y _], [_, _] => ixOf N i x && ixOf N j y && decide (i ≠ j) && isL sc x && isL sc y && decide (nms = [x, y])
    | [(i, _), (j, _), (l, _)], [.Name x _, .Name y _, .Name z _], [_, _, _] => ixOf N i x && ixOf N j y && ixOf N l z && decide (i ≠ j) && decide (i ≠ l) && decide (j ≠ l) && isL sc x && isL sc y && isL sc z && decide (nms = [x, y, z])
    | _, _, _ => false)
  | none => false
/-- the owned ones are displays -/
def parX : List (Nat × Bool) → Xes → List Expr → Bool
  | [], .nil, [] => true
  | (_, o) :: gs, .cons e es, x :: xs => (!o || (match e, x with | .lst _, .List _ _ => true | _, _ => false)) && parX gs es xs
  | _, _, _ => false
mutual
def mS (cm : Bool) (sc : Scope) : Xs → Stmt → Bool
  | .asg g e, st => match st with
    | .Assign [tg] ex _ => mE T N cm sc e ex && (match g with
      | .name i => (match tg with
        | .Name x p1 => ixOf N i x && isLoc sc x && (if isCompX e then cm && (!swC sc x p1 ex || isL sc x) else notComp ex)
        | _ => false)
      | .tup gs => cm && mG N (isLoc sc) (.tup gs) tg && notComp ex && notTup ex)
    | _ => false
  | .par gs es, st => match st with
    | .Assign [.Tuple ts j p] (.Tuple vs _ _) _ => cm && parX gs es vs && mEs T N cm sc es vs && mPar N sc gs ts vs (.Tuple ts j p)
    | _ => false
  | .ownL i es, st => match st with
    | .Assign [.Name x _] (.List xs _) _ => ixOf N i x && isLoc sc x && mEs T N cm sc es xs && decide (xs.length ≤ 1000)
    | _ => false
  | .aug i o e, st => match st with
    | .AugAssign (.Name x _) op ex _ => ixOf N i x && isLoc sc x && mE T N cm sc e ex && (match o with | .add => op == .Add | .sub => op == .Sub | _ => false)
    | _ => false
  | .setIx a b v, st => match st with
    | .Assign [.Subscript x y _] z _ => mE T N cm sc a x && mE T N cm sc b y && mE T N cm sc v z && notComp z
    | _ => false
  | .mut m a es, st => match st with
    | .Expr (.Call (.Attribute x nm p1) args [] p2) _ => mE T N cm sc a x && mEs T N cm sc es args && (p1.endLine == p2.line) && decide (args.length < 30) && !args.isEmpty && (match m with
      | .append => decide (nm = ("append" : Str))
      | .insert => decide (nm = ("insert" : Str))
      | .extend => false)
    | _ => false
  | .exp e, st => match st with | .Expr ex _ => mE T N cm sc e ex && notComp ex | _ => false
  | .ifs c a b, st => match st with | .If z xs ys _ => mE T N cm sc c z && mSs cm sc a xs && mSs cm sc b ys | _ => false
  | .for_ g it body _, st => match st with | .For tg ex sts [] _ => cm && mI T N cm sc tg it ex && mG N (isLoc sc) g tg && mSs cm sc body sts | _ => false
  | .while_ c body _, st => match st with | .While z sts [] _ => mE T N cm sc c z && mSs cm sc body sts | _ => false
  | .ret e, st => match st with | .Return (some ex) _ => mE T N cm sc e ex | _ => false
  | .retN, st => match st with | .Return none _ => true | _ => false
  | .raise c es, st => match st with
    | .Raise (some (.Call (.Name x _) args [] _)) none _ => cm && ixOf T.exc c x && (match P.exc[c]? with | some fl => (!fl.1.isEmpty && !args.isEmpty) || (fl.1.isEmpty && args.isEmpty && T.xk) | none => false) && isGl sc x && okN x && mEs T N cm sc es args
    | _ => false
  | .tryS body (.cons c (some i) suite .nil), st => match st with
    | .Try sts [.ExceptHandler (some (.Name x _)) (some n) (b₀ :: sus) _] [] [] _ => cm && ixOf T.exc c x && isGl sc x && okN x && ixOf N i n && isL sc n && mSs true sc body sts && mSs false sc suite (b₀ :: sus)
    | _ => false
  | .pass, st => match st with | .Pass _ => true | _ => false
  | _, _ => false
def mSs (cm : Bool) (sc : Scope) : Xss → List Stmt → Bool
  | .nil, sts => sts.isEmpty
  | .cons s r, sts => match isFrz s with
    | some _ => mSs cm sc r sts
    | none => (match sts with | st :: sts => mS cm sc s st && mSs cm sc r sts | [] => false)
end
end
section
variable {T : Tb} {P : Pg} {C : Cfg} {Γ : P2.Run} {N : List Str} {k : Nat}
theorem isFrz_of {s : Xs} {i : Nat} (h : isFrz s = some i) : s = .frz i := by
  cases s <;> simp only [isFrz, reduceCtorEq] at h
  cases h; rfl
theorem few_ok {es : List Expr} {p2 : Pos} {env : Env} (h : ∀ x ∈ es, okX x = true) (hl : es.length < 30) : ((backTo p2 (starEach es env)).all (fun x => !x.1) && (backToKw p2 (keywordEach [] env)).all (fun x => x.1.isSome) && decide (es.length + ([] : List Keyword).length + (if ([] : List Keyword).isEmpty then 0 else 1) < 30)) = true := by
  have h1 := plain_any h p2 env
  have h2 : (backTo p2 (starEach es env)).all (fun x => !x.1) = true := by
    rw [List.all_eq_true]
    intro y hy
    rw [List.any_eq_false] at h1
    simpa using h1 y hy
  rw [h2]
  have h3 : (backToKw p2 (keywordEach [] env)).all (fun x => x.1.isSome) = true := rfl
  rw [h3]
  simpa using hl
theorem isL_of {sc : Scope} {x : Str} (h : isL sc x = true) : sc.names.lookup x = some .local := by
  unfold isL at h
  split at h
  · assumption
  · cases h
/-- what a for statement walks -/
theorem sJ (hq : NoEq P) (hl : NoLen P) (it : Xi) (cm : Bool) (X : Cx) (sc : Scope) (Wx : Wq) (tg' ex : Expr) (oX : XOk T P C Γ N k cm X sc Wx) (h : mI T N cm sc tg' it ex = true) : OkI C X Wx tg' none (P2.evJ P Γ it) ex := by
  cases it with
  | of e =>
    simp only [mI] at h
    have ha := sE hq hl e cm X sc Wx _ oX h
    refine ⟨?_, fun x => okX_fold ha.ok _ x⟩
    have e1 : P2.evJ P Γ (.of e) = fun L h => R.bind (P2.evE P Γ e L h) fun x h1 => P2.walkV ((fun _ => []) L) x h1 := by funext L h; simp only [P2.evJ]
    rw [e1]
    exact pi_of oX.st.hK ha.pe rE_ok derefO_nil
  | range1 a =>
    simp only [mI] at h
    split at h
    · simp only [Bool.and_eq_true] at h
      have e1 : P2.evJ P Γ (.range1 a) = P2.evI P Γ (.range1 a) := by funext L h; simp only [P2.evJ, P2.evI]
      rw [e1]
      exact ⟨pi_r1 oX h.1 (sE hq hl a cm X sc Wx _ oX h.2), fun x => rfl⟩
    · cases h
  | range2 a b =>
    simp only [mI] at h
    split at h
    · simp only [Bool.and_eq_true] at h
      have e1 : P2.evJ P Γ (.range2 a b) = P2.evI P Γ (.range2 a b) := by funext L h; simp only [P2.evJ, P2.evI]
      rw [e1]
      exact ⟨pi_r2 oX h.1.1 (sE hq hl a cm X sc Wx _ oX h.1.2) (sE hq hl b cm X sc Wx _ oX h.2), fun x => rfl⟩
    · cases h
  | enum a =>
    simp only [mI] at h
    split at h
    · simp only [Bool.and_eq_true] at h
      obtain ⟨es, kk, p, rfl⟩ := tup_of h.1.2
      have ha := sE hq hl a cm X sc Wx _ oX h.2
      have e1 : P2.evJ P Γ (.enum a) = fun L h => R.bind (P2.evE P Γ a L h) fun x h1 => P2.enumV ((fun _ => []) L) x h1 := by funext L h; simp only [P2.evJ]
      refine ⟨?_, fun x => rfl⟩
      rw [e1]
      exact pi_en oX h.1.1 ha.ok ha.pe rE_ok derefO_nil
    · cases h
  | zip a b =>
    simp only [mI] at h
    split at h
    · simp only [Bool.and_eq_true] at h
      obtain ⟨es, kk, p, rfl⟩ := tup_of h.1.1.2
      have ha := sE hq hl a cm X sc Wx _ oX h.1.2
      have hb := sE hq hl b cm X sc Wx _ oX h.2
      have e1 : P2.evJ P Γ (.zip a b) = fun L h => R.bind (P2.evE P Γ a L h) fun x h1 => R.bind (P2.evE P Γ b L h1) fun y h2 => P2.zipV ((fun _ => []) L) x y h2 := by funext L h; simp only [P2.evJ]
      refine ⟨?_, fun x => rfl⟩
      rw [e1]
      exact pi_zp oX h.1.1.1 ha.ok hb.ok ha.pe hb.pe derefO_nil
    · cases h
  | range3 _ _ _ => simp only [mI] at h; cases h
  | enumItems _ => simp only [mI] at h; cases h
  | items _ => simp only [mI] at h; cases h
theorem notTup_sw {tg ex : Expr} {env : Env} (h : notTup ex = true) : swappedStores [tg] ex env = pure none := by
  cases ex <;> first | (cases tg <;> rfl) | cases h
theorem s_asg (hq : NoEq P) (hl : NoLen P) {g : Xt} {e : Xe} {cm : Bool} {X : Cx} {sc : Scope} {Wx : Wq} {st : Stmt} (oX : SOk T P C Γ N k cm X sc Wx) (h : mS T P N cm sc (.asg g e) st = true) : PS X st (tS C Wx (P2.exS P Γ (.asg g e))) := by
  simp only [mS] at h
  split at h
  · rename_i tg ex pos
    simp only [Bool.and_eq_true] at h
    obtain ⟨hE, h⟩ := h
    have ha := sE hq hl e cm X sc Wx _ oX.toXOk hE
    split at h
    · rename_i i
      split at h
      · rename_i x p1
        simp only [Bool.and_eq_true] at h
        obtain ⟨⟨h1, h2⟩, h3⟩ := h
        have hi := ixOf_of h1
        by_cases hc : isCompX e = true
        · rw [if_pos hc] at h3
          simp only [Bool.and_eq_true, Bool.or_eq_true, Bool.not_eq_true'] at h3
          obtain ⟨rfl, h4⟩ := h3
          cases e <;> first | exact (nomatch (show false = true from hc)) | skip
          rename_i elt tg' it c
          simp only [mE] at hE
          split at hE
          · rename_i e' tgx itx ifs scope cpos
            simp only [Bool.and_eq_true] at hE
            obtain ⟨⟨⟨⟨⟨⟨⟨_, g2⟩, g3⟩, g4⟩, g5⟩, g6⟩, g7⟩, g8⟩ := hE
            cases hw : swC sc x p1 (.ListComp e' [⟨tgx, itx, ifs, 0⟩] scope cpos) with
            | false => exact st_asgN oX.toXOk hi (oX.sto x h2) ha ((swC_ok oX.hsc oX.kd).trans (by rw [hw]))
            | true =>
              have hlx := isL_of (h4.resolve_left (by rw [hw]; decide))
              refine st_setComp oX.toXOk hi (by rw [oX.hsc]; exact hlx) ((swC_ok oX.hsc oX.kd).trans (by rw [hw])) g2 (of_decide_eq_true g3) (sI hq hl it true X sc Wx _ _ oX.toXOk g4) (fun i e => ?_) (fun X' o' hs => sG o' hs tg' _ g5) (fun X' o' => sC hq hl c true X' _ _ _ o' g7) (fun X' o' => sE hq hl elt true X' _ _ _ o' g6)
              rw [e] at g8
              simp only [Bool.not_eq_true'] at g8
              intro z
              rw [List.contains_iff_mem.mpr z] at g8
              cases g8
          · cases hE
        · rw [if_neg hc] at h3
          exact st_asgN oX.toXOk hi (oX.sto x h2) ha (okX_swaps ha.ok h3)
      · cases h
    · rename_i gs
      simp only [Bool.and_eq_true] at h
      obtain ⟨⟨⟨rfl, h2⟩, h3⟩, h4⟩ := h
      exact st_asgT (sG oX.toXOk oX.sto _ _ h2) ha (okX_swaps ha.ok h3) (notTup_sw h4)
  · cases h
theorem parE_of (hq : NoEq P) (hl : NoLen P) {cm : Bool} {X : Cx} {sc : Scope} {Wx : Wq} (oX : XOk T P C Γ N k cm X sc Wx) : ∀ {gs : List (Nat × Bool)} {es : Xes} {xs : List Expr}, mEs T N cm sc es xs = true → parX gs es xs = true → ParE P C Γ X Wx gs es xs
  | [], .nil, [], _, _ => .nil
  | [], .nil, _ :: _, _, h => by simp [parX] at h
  | [], .cons _ _, _, _, h => by simp [parX] at h
  | _ :: _, .nil, _, _, h => by simp [parX] at h
  | _ :: _, .cons _ _, [], _, h => by simp [parX] at h
  | (i, o) :: gs, .cons e es, x :: xs, hm, h => by
    simp only [mEs, Bool.and_eq_true] at hm
    simp only [parX, Bool.and_eq_true] at h
    have ih := parE_of hq hl oX hm.2 h.2
    cases o with
    | false => exact .val (sE hq hl e cm X sc Wx x oX hm.1) ih
    | true =>
      have h1 := h.1
      simp only [Bool.not_true, Bool.false_or] at h1
      split at h1
      · rename_i es' ys pp
        have h2 := hm.1
        simp only [mE, Bool.and_eq_true, decide_eq_true_eq] at h2
        exact .own (sEs hq hl es' cm X sc Wx ys oX h2.1).es h2.2 ih
      · cases h1
theorem s_par (hq : NoEq P) (hl : NoLen P) {gs : List (Nat × Bool)} {es : Xes} {cm : Bool} {X : Cx} {sc : Scope} {Wx : Wq} {st : Stmt} (oX : SOk T P C Γ N k cm X sc Wx) (h : mS T P N cm sc (.par gs es) st = true) : PS X st (tS C Wx (P2.exS P Γ (.par gs es))) := by
  simp only [mS] at h
  split at h
  · simp only [Bool.and_eq_true] at h
    obtain ⟨⟨⟨rfl, h1⟩, h2⟩, h3⟩ := h
    have hp := parE_of hq hl oX.toXOk h2 h1
    have hs := (sEs hq hl es true X sc Wx _ oX.toXOk h2).es
    unfold mPar at h3
    split at h3
    · rename_i hw
      simp only [Bool.and_eq_true] at h3
      exact st_parT oX h3.1.1 (sG oX.toXOk oX.sto _ _ h3.1.2) hs (of_decide_eq_true h3.2) hw
    · rename_i nms hw
      simp only [Bool.and_eq_true] at h3
      obtain ⟨h0, h3⟩ := h3
      split at h3
      · simp only [Bool.and_eq_true, decide_eq_true_eq] at h3
        obtain ⟨⟨⟨⟨⟨a1, a2⟩, a3⟩, a4⟩, a5⟩, rfl⟩ := h3
        exact st_par2O oX (ixOf_of a1) (ixOf_of a2) a3 a4 a5 hp h0 hw
      · simp only [Bool.and_eq_true, decide_eq_true_eq] at h3
        obtain ⟨⟨⟨⟨⟨⟨⟨⟨⟨a1, a2⟩, a3⟩, a4⟩, a5⟩, a6⟩, a7⟩, a8⟩, a9⟩, rfl⟩ := h3
        exact st_par3O oX (ixOf_of a1) (ixOf_of a2) (ixOf_of a3) a4 a5 a6 a7 a8 a9 hp h0 hw
      · cases h3
    · cases h3
  · cases h
theorem s_mut (hq : NoEq P) (hl : NoLen P) {m : P2.Mt} {a : Xe} {es : Xes} {cm : Bool} {X : Cx} {sc : Scope} {Wx : Wq} {st : Stmt} (oX : SOk T P C Γ N k cm X sc Wx) (h : mS T P N cm sc (.mut m a es) st = true) : PS X st (tS C Wx (P2.exS P Γ (.mut m a es))) := by
  simp only [mS] at h
  split at h
  · rename_i x nm p1 args p2 pos
    simp only [Bool.and_eq_true] at h
    obtain ⟨⟨⟨⟨⟨h1, h2⟩, h3⟩, h4⟩, h5⟩, h6⟩ := h
    have ha := sE hq hl a cm X sc Wx _ oX.toXOk h1
    have hs := (sEs hq hl es cm X sc Wx _ oX.toXOk h2).es
    cases args with
    | nil => simp at h5
    | cons e xs =>
      have hf := few_ok (p2 := p2) (env := X.env) hs.ok (of_decide_eq_true h4)
      split at h6
      · have := of_decide_eq_true h6
        subst this
        exact st_append oX.toXOk ha hs h3 hf
      · have := of_decide_eq_true h6
        subst this
        exact st_insert oX.toXOk ha hs h3 hf
      · cases h6
  · cases h
theorem s_raise (hq : NoEq P) (hl : NoLen P) {c : Nat} {es : Xes} {cm : Bool} {X : Cx} {sc : Scope} {Wx : Wq} {st : Stmt} (oX : SOk T P C Γ N k cm X sc Wx) (h : mS T P N cm sc (.raise c es) st = true) : PS X st (tS C Wx (P2.exS P Γ (.raise c es))) := by
  simp only [mS] at h
  split at h
  · rename_i x p1 args p2 pos
    simp only [Bool.and_eq_true] at h
    obtain ⟨⟨⟨⟨⟨rfl, h2⟩, h3⟩, h4⟩, h5⟩, h7⟩ := h
    split at h3
    · rename_i fl hfl
      have hs := (sEs hq hl es true X sc Wx _ oX.toXOk h7).es
      cases args with
      | nil =>
        cases es with
        | nil =>
          simp only [List.isEmpty_nil, Bool.not_true, Bool.and_false, Bool.and_true, Bool.false_or, Bool.and_eq_true, List.isEmpty_iff] at h3
          exact st_raise0 oX.toXOk h3.2 (ixOf_of h2) hfl h3.1 h4 h5
        | cons e r => simp [mEs] at h7
      | cons e xs => exact st_raise oX.toXOk (ixOf_of h2) hfl (fun z => by rw [z] at h3; simp at h3) h4 h5 hs
    · cases h3
  · cases h
mutual
theorem sS (hq : NoEq P) (hl : NoLen P) : ∀ (s : Xs) (cm : Bool) (X : Cx) (sc : Scope) (Wx : Wq) (st : Stmt), SOk T P C Γ N k cm X sc Wx → mS T P N cm sc s st = true → PS X st (tS C Wx (P2.exS P Γ s))
  | .asg g e, cm, X, sc, Wx, st, oX, h => s_asg hq hl oX h
  | .par gs es, cm, X, sc, Wx, st, oX, h => s_par hq hl oX h
  | .ownL i es, cm, X, sc, Wx, st, oX, h => by
    simp only [mS] at h
    split at h
    · simp only [Bool.and_eq_true] at h
      exact st_ownL oX.toXOk (ixOf_of h.1.1.1) (oX.sto _ h.1.1.2) (of_decide_eq_true h.2) (sEs hq hl es cm X sc Wx _ oX.toXOk h.1.2).es
    · cases h
  | .aug i o e, cm, X, sc, Wx, st, oX, h => by
    simp only [mS] at h
    split at h
    · simp only [Bool.and_eq_true] at h
      obtain ⟨⟨⟨h1, h2⟩, h3⟩, h4⟩ := h
      have he := sE hq hl e cm X sc Wx _ oX.toXOk h3
      cases o with
      | add =>
        rw [beq_iff_eq] at h4
        subst h4
        refine st_aug oX.toXOk (ixOf_of h1) (oX.sto _ h2) he ip_add fun m y z e => ?_
        cases y <;> simp only [P2.bop, P2.opAdd, Option.some.injEq, reduceCtorEq] at e
        exact ⟨_, rfl, e.symm⟩
      | sub =>
        rw [beq_iff_eq] at h4
        subst h4
        refine st_aug oX.toXOk (ixOf_of h1) (oX.sto _ h2) he ip_sub fun m y z e => ?_
        cases y <;> simp only [P2.bop, Option.some.injEq, reduceCtorEq] at e
        exact ⟨_, rfl, e.symm⟩
      | _ => cases h4
    · cases h
  | .setIx a b v, cm, X, sc, Wx, st, oX, h => by
    simp only [mS] at h
    split at h
    · simp only [Bool.and_eq_true] at h
      exact st_setIx oX.toXOk (sE hq hl a cm X sc Wx _ oX.toXOk h.1.1.1) (sE hq hl b cm X sc Wx _ oX.toXOk h.1.1.2) (sE hq hl v cm X sc Wx _ oX.toXOk h.1.2) h.2
    · cases h
  | .mut m a es, cm, X, sc, Wx, st, oX, h => s_mut hq hl oX h
  | .exp e, cm, X, sc, Wx, st, oX, h => by
    simp only [mS] at h
    split at h
    · simp only [Bool.and_eq_true] at h
      exact st_exp (sE hq hl e cm X sc Wx _ oX.toXOk h.1) h.2
    · cases h
  | .ifs c a b, cm, X, sc, Wx, st, oX, h => by
    simp only [mS] at h
    split at h
    · simp only [Bool.and_eq_true] at h
      exact st_ifs (sE hq hl c cm X sc Wx _ oX.toXOk h.1.1) (sSs hq hl a cm X sc Wx _ oX h.1.2) (sSs hq hl b cm X sc Wx _ oX h.2)
    · cases h
  | .for_ g it body kl, cm, X, sc, Wx, st, oX, h => by
    simp only [mS] at h
    split at h
    · simp only [Bool.and_eq_true] at h
      obtain ⟨⟨⟨rfl, h1⟩, h2⟩, h3⟩ := h
      exact st_for oX.toXOk oX.po (sJ hq hl it true X sc Wx _ _ oX.toXOk h1) (sG oX.toXOk oX.sto _ _ h2) (sSs hq hl body true X sc Wx _ oX h3)
    · cases h
  | .while_ c body kl, cm, X, sc, Wx, st, oX, h => by
    simp only [mS] at h
    split at h
    · simp only [Bool.and_eq_true] at h
      exact st_while oX.po (sE hq hl c cm X sc Wx _ oX.toXOk h.1) (sSs hq hl body cm X sc Wx _ oX h.2)
    · cases h
  | .ret e, cm, X, sc, Wx, st, oX, h => by
    simp only [mS] at h
    split at h
    · exact st_ret (sE hq hl e cm X sc Wx _ oX.toXOk h)
    · cases h
  | .retN, cm, X, sc, Wx, st, oX, h => by
    simp only [mS] at h
    split at h
    · exact st_retN
    · cases h
  | .raise c es, cm, X, sc, Wx, st, oX, h => s_raise hq hl oX h
  | .tryS body (.cons c (some i) suite .nil), cm, X, sc, Wx, st, oX, h => by
    simp only [mS] at h
    split at h
    · simp only [Bool.and_eq_true] at h
      obtain ⟨⟨⟨⟨⟨⟨⟨rfl, h1⟩, h2⟩, h3⟩, h4⟩, h5⟩, h6⟩, h7⟩ := h
      exact st_try oX (ixOf_of h1) h2 h3 (ixOf_of h4) h5 (fun X' Wx' o' => sSs hq hl body true X' sc Wx' _ o' h6) (fun X' Wx' o' => sSs hq hl suite false X' sc Wx' _ o' h7)
    · cases h
  | .pass, cm, X, sc, Wx, st, oX, h => by
    simp only [mS] at h
    split at h
    · exact st_pass
    · cases h
  | .tryS _ .nil, _, _, _, _, _, _, h => by simp only [mS] at h; cases h
  | .tryS _ (.cons _ none _ _), _, _, _, _, _, _, h => by simp only [mS] at h; cases h
  | .tryS _ (.cons _ (some _) _ (.cons _ _ _ _)), _, _, _, _, _, _, h => by simp only [mS] at h; cases h
  | .asgF _ _ _, _, _, _, _, _, _, h => by simp only [mS] at h; cases h
  | .parIx _ _ _, _, _, _, _, _, _, h => by simp only [mS] at h; cases h
  | .ownB _ _ _, _, _, _, _, _, _, h => by simp only [mS] at h; cases h
  | .ownD _ _ _, _, _, _, _, _, _, h => by simp only [mS] at h; cases h
  | .setFld _ _ _, _, _, _, _, _, _, h => by simp only [mS] at h; cases h
  | .augFld _ _ _ _, _, _, _, _, _, _, h => by simp only [mS] at h; cases h
  | .reraise, _, _, _, _, _, _, h => by simp only [mS] at h; cases h
  | .frz _, _, _, _, _, _, _, h => by simp only [mS] at h; cases h
theorem sSs (hq : NoEq P) (hl : NoLen P) : ∀ (s : Xss) (cm : Bool) (X : Cx) (sc : Scope) (Wx : Wq) (sts : List Stmt), SOk T P C Γ N k cm X sc Wx → mSs T P N cm sc s sts = true → PSs X sts (tS C Wx (P2.exSs P Γ s))
  | .nil, cm, X, sc, Wx, sts, oX, h => by
    simp only [mSs, List.isEmpty_iff] at h
    subst h
    exact ss_nil
  | .cons s r, cm, X, sc, Wx, sts, oX, h => by
    simp only [mSs] at h
    split at h
    · rename_i i hi
      rw [isFrz_of hi]
      exact ss_frz (sSs hq hl r cm X sc Wx sts oX h)
    · split at h
      · simp only [Bool.and_eq_true] at h
        exact ss_cons (sS hq hl s cm X sc Wx _ oX h.1) (sSs hq hl r cm X sc Wx _ oX h.2)
      · cases h
end
end
end P2S
end

section
/-! P2Def: a def does what its table says. -/
set_option autoImplicit false
set_option Elab.async false
set_option linter.all false
set_option maxRecDepth 100000
set_option maxHeartbeats 1000000
namespace P2S
open PySem PySem.Spec L2
open P2 (D DO DHp Exn Slot snap R SR Run Pg Xe Xes Xo Xi Xt Xs Xss Xh Fn Bi)
section
variable {T : Tb} {P : Pg} {C : Cfg} {Γ : P2.Run} {N ps : List Str} {k : Nat} {prog : Program} {w : World} {K : PySem.W.Frag} {mg : Str → Option Value} {base : Heap}
/-- without its text -/
def noDoc : List Stmt → List Stmt
  | .Expr (.Constant (.str _) _ _) _ :: r => r
  | r => r
theorem ss_doc {X : Cx} {b : List Stmt} {t : TS} (h : PSs X (noDoc b) t) : PSs X b t := by
  unfold noDoc at h
  split at h
  · exact PSs.imp (pss_cons (ps_expr pe_str rfl) h) fun D σ H q => q
  · exact h
theorem sOk_of {qual : Str} {scope : Scope} {fa : Addr} {cdv : Value} {A : Around} {outer : List Env} {s : Shared} {H : Hp} {E : XK} (st : Stat T P C Γ k prog w K mg base) (sx : StatX T P C prog K mg) (S : FnScope N ps scope) (hd : A.handled = none) (hr : Rm k (A.deeper (PyProof.Rows.envOfC qual scope s.heap.objs.size fa cdv))) :
    SOk T P C Γ N k true (cxOf (L2N.CX prog w) prog w K mg base N qual scope fa cdv A outer s H E) scope ⟨fun cls d _ H => E cls d H, none⟩ where
  st := st
  hN := rfl
  nd := S.nd
  hsc := rfl
  calm := rfl
  hd := fun _ => hd
  rm := hr
  xn := fun _ => rfl
  tak := L2N.takes_of rfl rfl rfl rfl
  sx := sx
  xf := fun _ _ _ e => nomatch e
  xi := fun _ _ _ e => nomatch e
  po := PassesOwn.leaving
  stk := rfl
  fr := rfl
  kd := S.kind
  sto := fun x hx => by
    refine ⟨?_, .inl rfl⟩
    show scope.names.lookup x = some .local ∨ scope.names.lookup x = some .cell
    unfold isLoc at hx
    split at hx
    · exact .inl (by assumption)
    · exact .inr (by assumption)
    · cases hx
theorem fnG_run {F : Fn} {f : Nat} {fa : Addr} {fd : FuncData} {name qual : Str} {params : Arguments} {body : List Stmt} {scope : Scope} {dvs : List V} {kws : List (Str × V)} (hq : NoEq P) (hl : NoLen P)
    (st : Stat T P C (P2.run P k) k prog w K mg base) (sx : StatX T P C prog K mg) (FD : FunD K name qual params body scope dvs kws fa fd) (S : FnScope N ps scope) (hN : N.length = F.n) (hps : ps.length = F.np) (hF : P.fns[f]? = some F)
    (hm : mSs T P N true scope F.body (noDoc body) = true) : FnG prog w K mg base (L2N.CX prog w) (k + 1) fa fd ps (spF C F (P2.run P (k + 1) f)) := by
  refine fnG_of FD S (fun vs H Q E ⟨_, _, _, _, _, _, h, _⟩ => h.trans hps.symm) fun cdv A outer s H vs Q E hd hr hsp => ?_
  have oX : SOk T P C (P2.run P k) N k true (cxOf (L2N.CX prog w) prog w K mg base N qual scope fa cdv A outer s H E) scope ⟨fun cls d _ H => E cls d H, none⟩ := sOk_of st sx S hd hr
  refine ⟨_, ss_doc (sSs hq hl F.body true _ scope _ _ oX hm), ?_⟩
  obtain ⟨B, W, h, L0, s0, r, hv, hl0, hnp, hsl, hs0, hrun⟩ := hsp
  have hst : ∀ i v, vs[i]? = some v → (L2.start N vs)[i]? = some (some v) := fun i v e => by
    unfold L2.start
    obtain ⟨hi, _⟩ := List.getElem?_eq_some_iff.mp e
    rw [List.getElem?_append_left (by simpa using hi), List.getElem?_map, e]
    rfl
  have hLs : ∀ i s, (L0 ++ List.replicate (F.n - F.np) Slot.emp)[i]? = some s → L0[i]? = some s ∨ s = Slot.emp := fun i s e => by
    by_cases hi : i < L0.length
    · rw [List.getElem?_append_left hi] at e; exact .inl e
    · rw [List.getElem?_append_right (by omega)] at e
      exact .inr (List.eq_of_mem_replicate (List.mem_of_getElem? e))
  have own0 : ∀ i o, (L0 ++ List.replicate (F.n - F.np) Slot.emp)[i]? = some (.own o) → i = 0 ∧ ∃ a, (L2.start N vs)[i]? = some (some (.ref a)) ∧ s0 = some a ∧ ObjRep C W.F W.ρ H a o := fun i o e => by
    rcases hLs i _ e with e | e
    · rcases hsl i _ e with ⟨d, v, z, _⟩ | ⟨rfl, o', a, z, h1, h2, h3⟩
      · cases z
      · cases z
        exact ⟨rfl, a, hst _ _ h1, h2, h3⟩
    · cases e
  have HRs : HR C ⟨H, W.F, W.ρ, s0, s0.toList, none⟩ W (L0 ++ List.replicate (F.n - F.np) Slot.emp) h (L2.start N vs) H :=
    { r.start s0 s0.toList none (fun a e => by rw [e]; simp) (fun a ha => hs0 a (by simpa using ha)) with
      sl := by simp [L2.start, hl0, hv, hN]
      slots := fun i s e => by
        rcases hLs i s e with e | rfl
        · rcases hsl i s e with ⟨d, v, rfl, h1, h2⟩ | ⟨rfl, o, a, rfl, h1, h2, h3⟩
          · exact ⟨v, hst _ _ h1, h2⟩
          · exact ⟨a, hst _ _ h1, h3⟩
        · trivial
      ownf := fun i o a e1 e2 => by
        obtain ⟨_, a', h1, h2, _⟩ := own0 i o e1
        rw [e2] at h1
        cases h1
        obtain ⟨_, g2, g3⟩ := hs0 a h2
        exact ⟨g2, g3, .inr (by rw [h2]; simp)⟩
      ownd := fun i j o o' a e1 e2 _ _ => by rw [(own0 i o e1).1, (own0 j o' e2).1]
      s0 := fun a o e1 e2 => by
        obtain ⟨_, a', h1, h2, _⟩ := own0 0 o e2
        rw [show s0 = some a from e1] at h2
        cases h2
        exact h1
      s0n := fun a _ i o e _ => (own0 i o e).1 }
  refine ⟨⟨_, rfl, fun a ha => by simpa using ha⟩, W, _, h, HRs, ?_⟩
  simp only [P2.run, hF] at hrun
  have slot0 : ∀ {W' : GW} {L' : List Slot} {h' : DHp} {σ' : St} {H' : Hp}, HR C ⟨H, W.F, W.ρ, s0, s0.toList, none⟩ W' L' h' σ' H' → ∀ a o, s0 = some a → L'[0]? = some (.own o) → ObjRep C W'.F W'.ρ H' a o := fun r' a o e1 e2 => by
    obtain ⟨a', g1, g2⟩ := r'.own_at e2
    rw [r'.s0 a o e1 e2] at g1
    cases g1
    exact g2
  cases hb : P2.exSs P (P2.run P k) F.body (L0 ++ List.replicate (F.n - F.np) Slot.emp) h with
  | nx L' h' =>
    rw [hb] at hrun
    exact fun W' σ' H' l r' => hrun W' H' .non r'.toHS .non (slot0 r')
  | rt d L' h' =>
    rw [hb] at hrun
    exact fun W' σ' H' v l r' c => hrun W' H' v r'.toHS c (slot0 r')
  | ex x L' h' =>
    rw [hb] at hrun
    exact fun W' σ' H' cls dd l r' c => hrun W' H' cls dd r'.toHS c
  | stk =>
    rw [hb] at hrun
    exact hrun.elim
end
end P2S
end

section
/-! P2Law: the law's def, called with the script. -/
set_option autoImplicit false
set_option Elab.async false
set_option linter.all false
set_option maxRecDepth 100000
set_option maxHeartbeats 1000000
namespace P2S
open PySem PySem.Spec PySem.W PyProof.Rows L2
open P2 (D DO DHp Exn Slot snap R SR Run Pg Xe Xes Xo Xi Xt Xs Xss Xh Fn Bi)
/-- the script as it lies, told where it is no object of the module -/
def scO (vs : List Value) : Obj := { cls := .type "list", data := .seq vs.toArray }
def scH (K : PySem.W.Frag) (a : Addr) (vs : List Value) (ns : List Int) : Hp := fun b => if b = a ∧ K.lookup a = none then some (.frz (scO vs) (.lst (ns.map V.int))) else none
section
variable {K : PySem.W.Frag} {a b : Addr} {vs : List Value} {ns : List Int} {u : HO}
theorem scH_some (e : scH K a vs ns b = some u) : b = a ∧ K.lookup a = none ∧ u = .frz (scO vs) (.lst (ns.map V.int)) := by
  unfold scH at e
  split at e
  · rename_i h; exact ⟨h.1, h.2, (Option.some.inj e).symm⟩
  · cases e
theorem scH_none (e : b ≠ a ∨ K.lookup a ≠ none) : scH K a vs ns b = none := if_neg fun z => e.elim (fun w => w z.1) fun w => w z.2
theorem scS {h : Heap} (KX : K.In h) (ha : h.get? a = some (scO vs)) (hi : IntsAre vs ns) (hl : ns.length ≤ sizeLine) : SqL K (scH K a vs ns) a (ns.map V.int) := by
  cases hk : K.lookup a with
  | none => exact .inl (.inr ⟨scO vs, if_pos ⟨rfl, hk⟩⟩)
  | some o =>
    have e : scO vs = o := Option.some.inj (ha.symm.trans (KX a o hk))
    subst e
    exact .inr ⟨_, _, _, hk, rfl, rfl, rfl, by have := hi.length; rw [List.size_toArray]; omega, by simpa using vals_ints hi⟩
variable {P : Program} {w : World} {mg mb : Str → Option Value} {CX : CXT} {k : Nat} {fa : Addr} {fd : FuncData} {x : Str} {sp : Sp} {s1 : Shared}
/-- a law's promise where its def was walked with no guard standing -/
theorem law_callG (KX : K.In s1.heap) (h1 : s1.heap.Ns mainGlobals mg) (h2 : s1.heap.Ns builtinsNs mb) (h3 : ∀ y : Str, y ≠ "__name__" → mb y = bootBuiltins y)
    (h4 : s1.heap.NoLimit) (h5 : s1.gens = #[]) (ha : s1.heap.get? a = some (scO vs)) (hi : IntsAre vs ns) (hl : ns.length ≤ sizeLine) (hr : Rm k callerA)
    (hF : ∀ G : Heap, K.In G → G.Ns mainGlobals mg → FnG P w K mg G CX k fa fd [x] sp) (hB : ∀ (s : Shared) (u : Value), BindsTo s fd ⟨[u], []⟩ [(x, u)])
    (hS : ∀ H : Hp, H = scH K a vs ns → SqL K H a (ns.map V.int) → sp [.ref a] H (fun v _ => v = .bl true) fun _ _ _ => False)
    (hC : ∀ H e s2, ¬ CX [] H s1 (fun _ _ _ => False) e s2) :
    codeAny (model P w) callerA (.call (.ref fa) ⟨[.ref a], []⟩) (fun r s2 => r = .ok (.ret (.bool true)) ∧ OldK s1.heap s2.heap ∧ s2.os = s1.os ∧ AllBare s2.gens) s1 := by
  obtain ⟨H, eH⟩ : ∃ H, H = scH K a vs ns := ⟨_, rfl⟩
  have up : ∀ {b : Addr} {o : Obj}, s1.heap.get? b = some o → (b = a → K.lookup a ≠ none) → (hidT s1.heap H).get? b = some o := fun {b o} e n => hidT_get e (by
    rw [eH]
    by_cases hb : b = a
    · exact scH_none (.inr (n hb))
    · exact scH_none (.inl hb))
  have nsUp : ∀ {b : Addr} {m : Str → Option Value}, s1.heap.Ns b m → (hidT s1.heap H).Ns b m := fun {b m} ⟨o, es, ep, e, d, z⟩ => ⟨o, es, ep, up e (fun hb => by
    subst hb
    rw [ha] at e
    cases e
    exact nomatch (show Data.seq vs.toArray _ = Data.dict es ep from d)), d, z⟩
  have KU : K.In (hidT s1.heap H) := fun b o e => up (KX b o e) fun hb => by subst hb; rw [e]; simp
  have M0 : Mod K mg (hidT s1.heap H) := by
    obtain ⟨mc, z1, z2⟩ := h4
    exact ⟨KU, nsUp h1, ⟨mb, nsUp h2, h3⟩, mc, nsUp z1, z2⟩
  have hok : HOk P w H s1.heap := fun b u e => by
    rw [eH] at e
    obtain ⟨rfl, _, rfl⟩ := scH_some e
    exact ⟨ha, by simpa using hl, vs, _, vals_ints hi, ha⟩
  have nil : ∀ b : Addr, b ∉ frs ([] : List Env) := fun b z => by simp [frs] at z
  have e0 : Env0 P w K mg (hidT s1.heap H) callerA [] s1 H := ⟨rfl, M0, fun b o e => of_hidT e, Nat.le_of_eq (hidT_size _ _), trivial, fun b z => (nil b z).elim, hok, .of_eq h5⟩
  refine codeAny_mono ((hF _ KU (nsUp h1)).run callerA [] s1 H _ [.ref a] [.ref a] _ _ rfl hr e0 (hB s1 _) (.cons rfl .nil) (hS H eH (by rw [eH]; exact scS KX ha hi hl))) fun r s2 z => ?_
  match r, z with
  | .error e, z => exact (hC _ _ _ z).elim
  | .ok .next, z => exact z.elim
  | .ok .brk, z => exact z.elim
  | .ok .cont, z => exact z.elim
  | .ok (.ret u), ⟨v, H2, os, ag, un, hok2, rv, q⟩ =>
    cases (show v = .bl true from q)
    cases (show u = Value.bool true from rv)
    refine ⟨rfl, OldK.of_keep fun b o e => ?_, os, ag⟩
    by_cases hb : H b = none
    · exact un.keep b o e hb (nil b) (by simp)
    · obtain ⟨u, hu⟩ := Option.ne_none_iff_exists'.mp hb
      have hu2 := hu
      rw [eH] at hu2
      obtain ⟨rfl, _, rfl⟩ := scH_some hu2
      obtain ⟨g1, _⟩ := hok2 b _ (un.frzs b _ _ hu)
      rw [ha] at e
      cases e
      exact g1
end
end P2S
end

section
/-! P2Head: what the head must know of a program, as one look at the written part. -/
set_option autoImplicit false
set_option Elab.async false
set_option linter.all false
set_option maxRecDepth 100000
set_option maxHeartbeats 1000000
namespace P2X
open PySem PySem.W PySem.Calls PyProof.Rows PySem.HandSPX
theorem zip_has : ∀ {ps : List Str} {us : List Value}, ps.length = us.length → ∀ n ∈ ps, ((ps.zip us).lookup n).isSome = true
  | [], _, _, n, h => nomatch h
  | p :: ps, [], e, _, _ => nomatch e
  | p :: ps, u :: us, e, n, h => by
    rw [List.zip_cons_cons, List.lookup_cons]
    cases q : (n == p) with
    | true => rfl
    | false =>
      rcases List.mem_cons.mp h with rfl | h
      · simp at q
      · exact zip_has (by simpa using e) n h
theorem zip_back : ∀ {ps : List Str} {us : List Value} {l : List (Str × Value)}, ps.Nodup → ps.length = us.length → (∀ n ∈ ps, l.lookup n = (ps.zip us).lookup n) → ps.filterMap (fun n => (l.lookup n).map (n, ·)) = ps.zip us
  | [], us, l, _, _, _ => by simp
  | p :: ps, [], l, _, e, _ => nomatch e
  | p :: ps, u :: us, l, hn, e, h => by
    rw [List.nodup_cons] at hn
    rw [List.filterMap_cons, h p (List.mem_cons_self ..), List.zip_cons_cons, List.lookup_cons_self]
    dsimp only [Option.map_some]
    rw [zip_back hn.2 (by simpa using e) fun n hm => ?_]
    rw [h n (List.mem_cons_of_mem _ hm), List.zip_cons_cons, List.lookup_cons]
    have : (n == p) = false := by
      rw [beq_eq_false_iff_ne]
      rintro rfl
      exact hn.1 hm
    rw [this]
theorem bind_simple {fd : FuncData} {ps : List Str} {us : List Value} (h1 : fd.params.posonlyargs = []) (h2 : fd.params.args.map (·.arg) = ps) (h3 : fd.params.vararg = none) (h4 : fd.params.kwonlyargs = []) (h5 : fd.params.kwarg = none) (h6 : fd.defaults = .none) (hn : ps.Nodup) (hl : us.length = ps.length) :
    bindArgs fd ⟨us, []⟩ = pure (ps.zip us) := by
  have hm : ps.filter (fun n => ((ps.zip us).lookup n).isNone) = [] := by
    rw [List.filter_eq_nil_iff]
    intro n h
    have := zip_has hl.symm n h
    simp only [Option.isNone_iff_eq_none]
    intro z
    rw [z] at this
    cases this
  have hz := zip_back (l := ps.zip us) hn hl.symm fun _ _ => rfl
  have hs : seqItems? (.none : Value) = pure none := rfl
  unfold bindArgs
  simp [h1, h2, h3, h4, h5, h6, hs, hl, hm, hz]
theorem bind_args {fd : FuncData} {f0 : Str} {fs : List Str} {r : Value} {us : List Value} {args : Args} (h1 : fd.params.posonlyargs = []) (h2 : fd.params.args.map (·.arg) = f0 :: fs) (h3 : fd.params.vararg = none) (h4 : fd.params.kwonlyargs = []) (h5 : fd.params.kwarg = none) (h6 : fd.defaults = .none) (hn : (f0 :: fs).Nodup) (hl : us.length = fs.length) (hA : ArgsOk fs r args us) :
    bindArgs fd args = pure ((f0 :: fs).zip (r :: us)) := by
  rcases hA with rfl | ⟨kw, rfl, hk⟩
  · exact bind_simple h1 h2 h3 h4 h5 h6 hn (by simp [hl])
  · have hs : seqItems? (.none : Value) = pure none := rfl
    cases hk with
    | one f v =>
      have hn' : f0 ≠ f := by simpa using hn
      have e : (f == f0) = false := by simpa using fun z => hn' z.symm
      have e' : (f0 == f) = false := by simpa using hn'
      unfold bindArgs
      simp [h1, h2, h3, h4, h5, h6, hs, List.lookup, e, e']
    | two a b x y =>
      simp at hn
      have e1 : (a == f0) = false := by simpa using fun e => hn.1.1 e.symm
      have e2 : (b == f0) = false := by simpa using fun e => hn.1.2 e.symm
      have e3 : (b == a) = false := by simpa using fun e => hn.2 e.symm
      have e4 : (f0 == a) = false := by simpa using hn.1.1
      have e5 : (f0 == b) = false := by simpa using hn.1.2
      have e6 : (a == b) = false := by simpa using hn.2
      unfold bindArgs
      simp [h1, h2, h3, h4, h5, h6, hs, List.lookup, e1, e2, e3, e4, e5, e6]
    | owt a b x y =>
      simp at hn
      have e1 : (a == f0) = false := by simpa using fun e => hn.1.1 e.symm
      have e2 : (b == f0) = false := by simpa using fun e => hn.1.2 e.symm
      have e3 : (b == a) = false := by simpa using fun e => hn.2 e.symm
      have e4 : (f0 == a) = false := by simpa using hn.1.1
      have e5 : (f0 == b) = false := by simpa using hn.1.2
      have e6 : (a == b) = false := by simpa using hn.2
      unfold bindArgs
      simp [h1, h2, h3, h4, h5, h6, hs, List.lookup, e1, e2, e3, e4, e5, e6]
/-! ### an error class, looked at -/
def clsB (K : Frag) (C : Addr) : Bool := match K.lookup C with
  | some ⟨.type t, _, .cls cd, sl⟩ => (match cd.mro, sl.toList with
    | .ref C' :: bm, [_, _, _, _, some (.builtin n), _] => decide (t = "type") && decide (C' = C) && decide (n = "ValueError.__new__") && !cd.hasDel && cd.hasDict && refsVE bm && decide (alongIn K "__init__" bm = some (some (.builtin "ValueError.__init__")))
    | _, _ => false)
  | _ => false
theorem clsB_ok {K : Frag} {C : Addr} (h : clsB K C = true) : ∃ nm q N bs bm sn sub ab col dd k0 k1 k2 k3 k5, K.lookup C = some (excClassObj nm q C N bs bm true sn sub ab col dd k0 k1 k2 k3 k5 "ValueError.__new__") ∧ refsVE bm = true ∧ alongIn K "__init__" bm = some (some (.builtin "ValueError.__init__")) := by
  unfold clsB at h
  split at h
  · rename_i t dd cd sl ho
    split at h
    · rename_i C' bm k0 k1 k2 k3 n k5 hm hs
      simp only [Bool.and_eq_true, decide_eq_true_eq, Bool.not_eq_true'] at h
      obtain ⟨⟨⟨⟨⟨⟨rfl, rfl⟩, rfl⟩, h4⟩, h5⟩, h6⟩, h7⟩ := h
      obtain ⟨nm, bs, mro, ns, qn, hd, sn, sub, ab, col, del⟩ := cd
      dsimp only at hm h4 h5
      subst hm h4 h5
      obtain ⟨l⟩ := sl
      dsimp only at hs
      subst hs
      exact ⟨nm, qn, ns, bs, bm, sn, sub, ab, col, dd, k0, k1, k2, k3, k5, ho, h6, h7⟩
    · cases h
  · cases h
def fileB (prog : Program) (K : Frag) (a : Addr) : Bool := match K.lookup a with
  | some ⟨_, _, .fields vs, _⟩ => (match (vs[2]? : Option Value) with | some (Value.str f _) => ((prog.main.file : Str) == f) | _ => false)
  | _ => false
def cellB (K : Frag) (C a : Addr) : Bool := match K.lookup a with
  | some ⟨_, _, .cell (some (.ref b)), _⟩ => decide (b = C)
  | _ => false
def fdB (prog : Program) (K : Frag) (C : Addr) (fs : List Str) : FuncData → Bool
  | ⟨_, n2, n3, .stmts b, n5, n6, [(cn, cc)], .none, _, _, _, _, .ref cda, _, n15⟩ => decide (cn = "__class__") && decide (n6 = mainGlobals) && decide (n15 = builtinsNs) && codeIn K (.ref cda) n2 && isInit fs b && isPar fs n3 && isSc fs n5 && fileB prog K cda && cellB K C cc
  | _ => false
def fnAt (K : Frag) (f : Addr) : Option FuncData := match K.lookup f with
  | some ⟨_, _, .func fd, _⟩ => some fd
  | _ => none
theorem fnAt_ok {K : Frag} {f : Addr} {fd : FuncData} (h : fnAt K f = some fd) : ∃ oc od osl, K.lookup f = some ⟨oc, od, .func fd, osl⟩ := by
  unfold fnAt at h
  split at h
  · rename_i oc od fd' osl e
    cases h
    exact ⟨oc, od, osl, e⟩
  · cases h
theorem init_ok {prog : Program} {K : Frag} {C fI : Addr} {fs : List Str} {fd : FuncData} (hn : (("self" : Str) :: fs).Nodup) (h1 : fnAt K fI = some fd) (h : fdB prog K C fs fd = true) : InitTxt prog K C fI fs := by
  unfold fdB at h
  split at h
  · rename_i n1 n2 n3 b n5 n6 cn cc n9 n10 n11 n12 cda n14 n15
    simp only [Bool.and_eq_true, decide_eq_true_eq] at h
    obtain ⟨⟨⟨⟨⟨⟨⟨⟨rfl, rfl⟩, rfl⟩, hc⟩, hi⟩, hp⟩, hs⟩, hf⟩, he⟩ := h
    obtain ⟨oc, od, osl, ho⟩ := fnAt_ok h1
    unfold fileB at hf
    split at hf
    · rename_i ccl cdd vs ccs hl
      split at hf
      · rename_i file tf hv
        unfold cellB at he
        split at he
        · rename_i cl cld b' csl hb
          have := of_decide_eq_true he
          subst this
          have hp2 := hp
          simp only [isPar, Bool.and_eq_true, List.isEmpty_iff, decide_eq_true_eq, Option.isNone_iff_eq_none] at hp2
          obtain ⟨⟨⟨⟨⟨p1, p2⟩, p3⟩, p4⟩, p5⟩, p6⟩ := hp2
          exact ⟨oc, od, n1, n2, n3, b, n5, .none, n9, n10, n11, n12, cda, n14, osl, cc, ccl, cdd, vs, ccs, file, tf, cl, cld, csl, ho, hc, hi, hp, hs, fun r us args hu hA => bind_args p1 p2 p3 p4 p5 rfl hn hu hA, hl, hv, hf, hb⟩
        · cases he
      · cases hf
    · cases hf
  · cases h
def xtB (prog : Program) (K : Frag) (C : Addr) (fs : List Str) : Bool :=
  clsB K C && decide (findIn K (.ref C) "__setattr__" = some (some (.builtin "object.__setattr__"))) && fs.all (fun f => decide (findIn K (.ref C) f = some none)) && keepIn K (.ref C) && decide (subIn K (.ref C) (.type "BaseException") = some true) &&
    decide (subIn K (.ref C) (.type "ValueError") = some true) && decide (typeIn K (.ref C) = some (.type "type")) && decide (mroIn K C (.ref C) = some true) && decide (nsIn K cStatics "thirdparty.any" = some none) && !(prog.main.scope.names.lookup ("super" : Str)).isSome &&
    decide ((("self" : Str) :: fs).Nodup) && (("self" : Str) :: fs).all (fun f => !(f == ("__debug__" : Str))) && (match findIn K (.ref C) "__init__" with
      | some (some (.ref fI)) => decide (typeIn K (.ref fI) = some (.type "function")) && (match fnAt K fI with | some fd => fdB prog K C fs fd | none => false)
      | _ => false)
theorem xtB_ok {prog : Program} {K : Frag} {C : Addr} {fs : List Str} (h : xtB prog K C fs = true) : XTxt prog K C fs := by
  simp only [xtB, Bool.and_eq_true, decide_eq_true_eq, List.all_eq_true, Bool.not_eq_true'] at h
  obtain ⟨⟨⟨⟨⟨⟨⟨⟨⟨⟨⟨⟨h1, h2⟩, h3⟩, h4⟩, h5⟩, h6⟩, h7⟩, h8⟩, h9⟩, h10⟩, h11⟩, h12⟩, h13⟩ := h
  refine ⟨clsB_ok h1, h2, h3, h4, h5, h6, h7, h8, h9, h10, h11, h12, ?_⟩
  split at h13
  · rename_i fI hI
    simp only [Bool.and_eq_true, decide_eq_true_eq] at h13
    obtain ⟨g1, g2⟩ := h13
    split at g2
    · rename_i fd hfd
      exact ⟨fI, hI, g1, init_ok h11 hfd g2⟩
    · cases g2
  · cases h13
end P2X
end

section
/-! P2Top: a program by its table: the Hook, the facts, the law's walk. -/
set_option autoImplicit false
set_option Elab.async false
set_option linter.all false
set_option maxRecDepth 100000
set_option maxHeartbeats 1000000
namespace P2S
open PySem PySem.Spec PyProof.Rows L2
open P2 (D DO DHp Exn Slot snap R SR Run Pg Xe Xes Xo Xi Xt Xs Xss Xh Fn Bi)
/-- a def: its name, its tree, its slots' names -/
structure DD where
  name : Str
  st : Stmt
  N : List Str
def DD.dd (d : DD) : He.DefD := ⟨(d.name, none), d.name, d.name, defArgs d.st, defBody d.st, defScope d.st, [], []⟩
def DD.ps (d : DD) : List Str := (defArgs d.st).args.map (·.arg)
/-- names by number, all unlike -/
def nmX (l : List Str) (n : Nat) : Str := match l[n]? with | some x => x | none => toS (List.replicate (n + 1000) 0)
theorem nmX_inj {l : List Str} (hn : l.Nodup) (hs : ∀ x ∈ l, x.length < 1000) {i j : Nat} (e : nmX l i = nmX l j) : i = j := by
  unfold nmX at e
  cases h1 : l[i]? with
  | some x =>
    rw [h1] at e
    cases h2 : l[j]? with
    | some y =>
      rw [h2] at e
      cases (show x = y from e)
      exact nodup_get hn h1 h2
    | none =>
      rw [h2] at e
      have := hs x (List.mem_of_getElem? h1)
      rw [show x = toS (List.replicate (j + 1000) 0) from e, toS_length, List.length_replicate] at this
      omega
  | none =>
    rw [h1] at e
    cases h2 : l[j]? with
    | some y =>
      rw [h2] at e
      have := hs y (List.mem_of_getElem? h2)
      rw [← show toS (List.replicate (i + 1000) 0) = y from e, toS_length, List.length_replicate] at this
      omega
    | none =>
      rw [h2] at e
      have := congrArg List.length (toS_inj (show toS (List.replicate (i + 1000) 0) = toS (List.replicate (j + 1000) 0) from e))
      simp at this
      exact this
def cfg (T : Tb) (K : PySem.W.Frag) : Cfg := ⟨K, fun c => He.ga K (T.cls.getD c Str.empty), fun f => He.ga K (T.fns.getD f Str.empty), fun c => He.ga K (T.exc.getD c Str.empty), nmX T.nms, T.cls.length, T.exc.length⟩

/-! ### what is looked at -/
def fldB (T : Tb) (p : Str → Bool) : Bool := T.flds.all fun n => match T.nms[n]? with | some nm => p nm | none => true
theorem fldB_ok {T : Tb} {p : Str → Bool} (h : fldB T p = true) {n : Nat} {nm : Str} (h1 : n ∈ T.flds) (h2 : T.nms[n]? = some nm) : p nm = true := by
  have := List.all_eq_true.mp h n h1
  rw [h2] at this
  exact this
def noList (K : PySem.W.Frag) : Bool := K.all fun p => match p.2.cls with | .type t => !decide (t = "list") | _ => true
/-- what isinstance and classes without __init__ ask -/
def ecB (K : PySem.W.Frag) (D : Addr) : Bool := decide (PySem.W.findIn K (.ref D) "__getattribute__" = some (some (.builtin "BaseException.__getattribute__"))) && decide (PySem.W.findIn K (.ref D) "__getattr__" = some none) && decide (PySem.W.subIn K (.ref D) (.type "BaseException") = some true) && PySem.W.hasDictIn K D &&
  decide (PySem.W.findIn K (.ref D) "__class__" = some (some (.builtin "object.__class__"))) && decide (PySem.W.specialIn K (.builtin "object.__class__") "__get__" = some (some (.builtin "getset_descriptor.__get__"))) && decide (PySem.W.takesIn K (.builtin "object.__class__") = some true) && decide (PySem.W.mroIn K D (.type "object") = some true)
theorem ecB_ok {K : PySem.W.Frag} {D : Addr} (h : ecB K D = true) : ExcC K D := by
  simp only [ecB, Bool.and_eq_true, decide_eq_true_eq] at h
  obtain ⟨⟨⟨⟨⟨⟨⟨h1, h2⟩, h3⟩, h4⟩, h5⟩, h6⟩, h7⟩, h8⟩ := h
  exact ⟨h1, h2, h3, h4, h5, h6, h7, h8⟩
def x0B (K : PySem.W.Frag) (D : Addr) : Bool := PySem.W.excIn K D PySem.HandSPX.veTail "ValueError.__new__" && PySem.W.keepIn K (.ref D) && decide (PySem.W.subIn K (.ref D) (.type "BaseException") = some true) && decide (PySem.W.typeIn K (.ref D) = some (.type "type"))
theorem x0B_ok {K : PySem.W.Frag} {D : Addr} (h : x0B K D = true) : X0 K D := by
  simp only [x0B, Bool.and_eq_true, decide_eq_true_eq] at h
  obtain ⟨⟨⟨h1, h2⟩, h3⟩, h4⟩ := h
  exact ⟨h1, h2, h3, h4⟩
def xkB (T : Tb) (P : Pg) (K : PySem.W.Frag) : Bool := !T.xk || (List.range T.exc.length).all fun c => ecB K ((cfg T K).exc c) &&
  (List.range T.exc.length).all (fun x => decide (PySem.W.kitOne K (.ref ((cfg T K).exc x)) (.ref ((cfg T K).exc c)) = some (P2.catches P c x))) &&
  decide (PySem.W.kitOne K (.ref ((cfg T K).exc c)) (.type "ValueError") = some true) && decide (PySem.W.kitOne K (.ref ((cfg T K).exc c)) (.type "LookupError") = some false) && decide (PySem.W.kitOne K (.ref ((cfg T K).exc c)) (.type "RuntimeError") = some false) &&
  (match P.exc[c]? with | some p => !p.1.isEmpty || x0B K ((cfg T K).exc c) | none => true)
/-- the error classes, the classes -/
def lookB (prog : Program) (T : Tb) (P : Pg) (K : PySem.W.Frag) : Bool :=
  noList K && xkB T P K &&
  (List.range T.cls.length).all (fun c => (He.Fa.cls (T.cls.getD c Str.empty)).ok K && fldB T fun nm => decide (PySem.W.findIn K (.ref (He.ga K (T.cls.getD c Str.empty))) nm = some none)) &&
  (List.range T.exc.length).all (fun c => xfB K ((cfg T K).exc c) && (fldB T fun nm => decide (PySem.W.findIn K (.ref ((cfg T K).exc c)) nm = some none)) &&
    (match P.exc[c]? with | some p => p.1.isEmpty || ((p.1.length == 1 || p.1.length == 2) && P2X.xtB prog K ((cfg T K).exc c) (p.1.map (nmX T.nms))) | none => true) &&
    (List.range T.exc.length).all fun x => decide (PySem.W.exmOne K (.ref ((cfg T K).exc x)) (.ref ((cfg T K).exc c)) = some (P2.catches P c x)))
def faX (T : Tb) : List He.Fa := (T.fns ++ T.exc).map He.Fa.glo ++ (("super" : Str) :: T.free).map He.Fa.free
def defsX (ds : List DD) : List He.DefD := ds.map DD.dd
abbrev AlX : Type := Bool × He.AlD
def obsX (prog : Program) (T : Tb) (P : Pg) (ds : List DD) (K : PySem.W.Frag) : AlX := (lookB prog T P K, He.obsD (faX T) (defsX ds) K)
def dueX (ds : List DD) : AlX := (true, He.valD (defsX ds))
/-- the part that is looked at: no lists in it -/
def frX (n : Nat) (g : Addr → Option Obj) : PySem.W.Frag := (He.frG g (cStatics :: He.asD g n)).filter fun p => match p.2.cls with | .type t => !decide (t = "list") | _ => true
theorem mem_frG {g : Addr → Option Obj} {as : List Addr} {a : Addr} {o : Obj} (h : (a, o) ∈ He.frG g as) : g a = some o := by
  unfold He.frG at h
  rw [List.mem_filterMap] at h
  obtain ⟨b, _, e⟩ := h
  cases q : g b with
  | none => rw [q] at e; cases e
  | some u => rw [q] at e; cases e; exact q
theorem frX_in {n : Nat} {h : Heap} : (frX n h.get?).In h := fun a o e => mem_frG (List.mem_filter.mp (PySem.W.mem_of_lookupK e)).1
def hookX (n : Nat) (prog : Program) (T : Tb) (P : Pg) (ds : List DD) : PySem.W.Hook where
  α := AlX
  obs := fun s => obsX prog T P ds (frX n s.heap.get?)
  val := fun _ => dueX ds
  says := fun _ h => ∃ K : PySem.W.Frag, K.In h ∧ obsX prog T P ds K = dueX ds
  of := fun _ _ e => ⟨_, frX_in, e⟩
  keeps := fun _ _ _ ⟨K, hK, c⟩ k => ⟨K, PySem.W.Frag.In.keeps hK k, c⟩
def obX (n : Nat) (prog : Program) (T : Tb) (P : Pg) (ds : List DD) (s : PySem.W.SharedT) : AlX := obsX prog T P ds (frX n (HandSHeadRun.getT s))
theorem obX_eq {n : Nat} {prog : Program} {T : Tb} {P : Pg} {ds : List DD} (s : PySem.W.SharedT) : obX n prog T P ds s = (hookX n prog T P ds).obs s.abs := by
  have e : HandSHeadRun.getT s = s.abs.heap.get? := funext fun a => HandSHeadRun.getT_eq s a
  unfold obX
  rw [e]
  rfl
/-! ### what is seen in the texts -/
def defC (T : Tb) (P : Pg) (f : Nat) (d : DD) : Bool := match P.fns[f]? with
  | some F => (defArgs d.st).posonlyargs.isEmpty && (defArgs d.st).vararg.isNone && (defArgs d.st).kwonlyargs.isEmpty && (defArgs d.st).kwarg.isNone && C8.scC d.N d.ps (defScope d.st) && decide d.ps.Nodup &&
      (d.N.length == F.n) && (d.ps.length == F.np) && decide (F.np ≤ F.n) && mSs T P d.N true (defScope d.st) F.body (noDoc (defBody d.st))
  | none => false
def progC (T : Tb) (P : Pg) (ds : List DD) : Bool :=
  decide (T.fns = ds.map DD.name) && decide T.nms.Nodup && T.nms.all (fun x => decide (x.length < 1000)) && P.cls.all (fun c => c.eq.isNone && c.len.isNone) && (P.exc.length == T.exc.length) &&
    (List.range ds.length).all fun f => match ds[f]? with | some d => defC T P f d | none => false
section
variable {T : Tb} {P : Pg} {ds : List DD} {K : PySem.W.Frag} {prog : Program} {w : World} {mg : Str → Option Value} {base h : Heap}
theorem says_fact {fa : List He.Fa} {fn : List He.DefD} (c : He.SaysD fa fn K) {f : He.Fa} (hf : f ∈ fa) : f.ok K = true := by
  obtain ⟨i, hi, rfl⟩ := List.getElem_of_mem hf
  exact c.fact i (List.getElem?_eq_getElem hi)
theorem noEq_of (h : progC T P ds = true) : NoEq P ∧ NoLen P := by
  simp only [progC, Bool.and_eq_true, List.all_eq_true, Option.isNone_iff_eq_none] at h
  have h4 := h.1.1.2
  refine ⟨fun c => ?_, fun c => ?_⟩
  · cases q : P.cls[c]? with
    | none => rfl
    | some z => exact (h4 z (List.mem_of_getElem? q)).1
  · cases q : P.cls[c]? with
    | none => rfl
    | some z => exact (h4 z (List.mem_of_getElem? q)).2
theorem statX (c : obsX prog T P ds K = dueX ds) (X : K.In h) (G : h.Ns mainGlobals mg) (hp : progC T P ds = true) : StatX T P (cfg T K) prog K mg := by
  have c1 : lookB prog T P K = true := congrArg Prod.fst c
  have c2 : He.SaysD (faX T) (defsX ds) K := congrArg Prod.snd c
  simp only [lookB, Bool.and_eq_true, List.all_eq_true, List.mem_range, decide_eq_true_eq] at c1
  obtain ⟨⟨⟨_, c0⟩, _⟩, c3⟩ := c1
  have xk : ∀ hk : T.xk = true, ∀ c, c < T.exc.length → _ := fun hk => by
    have z := c0
    simp only [xkB, hk, Bool.not_true, Bool.false_or, List.all_eq_true, List.mem_range, Bool.and_eq_true, decide_eq_true_eq] at z
    exact z
  refine ⟨He.free_ok X G (says_fact c2 (f := .free "super") (List.mem_append_right _ (List.mem_map.mpr ⟨_, List.mem_cons_self .., rfl⟩))), fun c nm e => ?_, fun c p e hne => ?_, fun c x hc hx => (c3 c hc).2 x hx,
    fun hk c hc => ecB_ok (xk hk c hc).1.1.1.1.1, fun hk c x hc hx => (xk hk c hc).1.1.1.1.2 x hx, fun hk kx nm x hb hx => ?_, fun hk c p e hc hne => ?_⟩
  · obtain ⟨hl, _⟩ := List.getElem?_eq_some_iff.mp e
    refine ⟨hl, ?_⟩
    have := He.glo_ok X G (says_fact c2 (f := .glo nm) (List.mem_append_left _ (List.mem_map.mpr ⟨_, List.mem_append_right _ (List.mem_of_getElem? e), rfl⟩)))
    rw [this]
    show _ = some (Value.ref (He.ga K (T.exc.getD c Str.empty)))
    rw [List.getD_eq_getElem?_getD, e]
    rfl
  · have hl : c < T.exc.length := by
      obtain ⟨hl, _⟩ := List.getElem?_eq_some_iff.mp e
      simp only [progC, Bool.and_eq_true, beq_iff_eq] at hp
      rw [← hp.1.2]
      exact hl
    have z := (c3 c hl).1.2
    rw [e] at z
    simp only [Bool.or_eq_true, List.isEmpty_iff, Bool.and_eq_true, beq_iff_eq] at z
    obtain ⟨z1, z2⟩ := z.resolve_left hne
    exact ⟨z1, P2X.xtB_ok z2⟩
  · obtain ⟨⟨⟨⟨_, z1⟩, z2⟩, z3⟩, _⟩ := xk hk x hx
    unfold xblt at hb
    split at hb
    · cases hb; exact z1
    · cases hb; exact z2
    · cases hb; exact z3
    · cases hb
  · have z := (xk hk c hc).2
    rw [e] at z
    simp only [hne, List.isEmpty_nil, Bool.not_true, Bool.false_or] at z
    exact x0B_ok z
/-- each def, k calls deep -/
theorem stat (c : obsX prog T P ds K = dueX ds) (X : K.In base) (G : base.Ns mainGlobals mg) (hp : progC T P ds = true) : ∀ k : Nat, Stat T P (cfg T K) (P2.run P k) k prog w K mg base := by
  have sx : StatX T P (cfg T K) prog K mg := statX c X G hp
  obtain ⟨hq, hl⟩ := noEq_of hp
  have c1 : lookB prog T P K = true := congrArg Prod.fst c
  have c2 : He.SaysD (faX T) (defsX ds) K := congrArg Prod.snd c
  simp only [lookB, Bool.and_eq_true, List.all_eq_true, List.mem_range, decide_eq_true_eq] at c1
  simp only [progC, Bool.and_eq_true, List.all_eq_true, List.mem_range, decide_eq_true_eq] at hp
  obtain ⟨⟨⟨⟨⟨p1, p2⟩, p3⟩, _⟩, _⟩, p6⟩ := hp
  have base_ : ∀ (k : Nat), (∀ f x, T.fns[f]? = some x → ∀ (F : Fn) (fd : FuncData) (d : DD), P.fns[f]? = some F → ds[f]? = some d → FunD K d.name d.name (defArgs d.st) (defBody d.st) (defScope d.st) [] [] (He.ga K d.name) fd → FnG prog w K mg base (L2N.CX prog w) k (He.ga K d.name) fd d.ps (spF (cfg T K) F (P2.run P k f))) → Stat T P (cfg T K) (P2.run P k) k prog w K mg base := by
    intro k hk
    refine ⟨rfl, fun f x e => ?_, fun x hx => He.free_ok X G (says_fact c2 (f := .free x) (List.mem_append_right _ (List.mem_map.mpr ⟨_, List.mem_cons_of_mem _ hx, rfl⟩))), fun i j e => nmX_inj p2 p3 e, fun n nm e => by show nmX T.nms n = nm; unfold nmX; rw [e], fun c hc => ?_, fun c hc => ?_⟩
    · have e2 := e
      rw [p1, List.getElem?_map, Option.map_eq_some_iff] at e2
      obtain ⟨d, hd, rfl⟩ := e2
      obtain ⟨hl, _⟩ := List.getElem?_eq_some_iff.mp hd
      have q := p6 f hl
      rw [hd] at q
      simp only [defC] at q
      split at q
      · rename_i F hF
        simp only [Bool.and_eq_true, List.isEmpty_iff, Option.isNone_iff_eq_none, decide_eq_true_eq, beq_iff_eq] at q
        obtain ⟨⟨⟨⟨⟨⟨⟨⟨⟨q1, q2⟩, q3⟩, q4⟩, q5⟩, q6⟩, q7⟩, q8⟩, q9⟩, q10⟩ := q
        obtain ⟨fd, FD⟩ := c2.def_ f (d := d.dd) (by unfold defsX; rw [List.getElem?_map, hd]; rfl)
        have FD' : FunD K d.name d.name (defArgs d.st) (defBody d.st) (defScope d.st) [] [] (He.ga K d.name) fd := FD
        have ef : (cfg T K).fn f = He.ga K d.name := by
          show He.ga K (T.fns.getD f Str.empty) = _
          rw [List.getD_eq_getElem?_getD, e]
          rfl
        refine ⟨F, fd, d.ps, hF, q9, ?_, ?_, FD'.bindsN fun kV doc pm an cdv ct us hu => P2X.bind_simple q1 rfl q2 q3 q4 rfl q6 hu, ?_⟩
        · rw [ef]
          exact He.glo_ok X G (says_fact c2 (f := .glo d.name) (List.mem_append_left _ (List.mem_map.mpr ⟨_, List.mem_append_left _ (List.mem_of_getElem? e), rfl⟩)))
        · rw [ef]; exact FD'.kp
        · rw [ef]; exact hk f _ e F fd d hF hd FD'
      · cases q
    · obtain ⟨g1, g2⟩ := c1.1.2 c hc
      exact ⟨He.cls_ok g1, fun n nm h1 h2 => He.noat_ok (x := T.cls.getD c Str.empty) (f := nm) (by have := fldB_ok g2 h1 h2; exact this)⟩
    · obtain ⟨⟨⟨g1, g2⟩, _⟩, _⟩ := c1.2 c hc
      exact ⟨xfB_ok g1, fun n nm h1 h2 => of_decide_eq_true (fldB_ok g2 h1 h2)⟩
  intro k
  induction k with
  | zero => exact base_ 0 fun f x e F fd d hF hd FD => ⟨fun vs H Q E ⟨_, _, _, _, _, _, _, _, _, _, _, z⟩ => z.elim, fun A outer s H args us vs Q E _ _ _ _ _ ⟨_, _, _, _, _, _, _, _, _, _, _, z⟩ => z.elim⟩
  | succ k ih =>
    refine base_ (k + 1) fun f x e F fd d hF hd FD => ?_
    obtain ⟨hl', _⟩ := List.getElem?_eq_some_iff.mp hd
    have q := p6 f hl'
    rw [hd] at q
    simp only [defC, hF] at q
    simp only [Bool.and_eq_true, List.isEmpty_iff, Option.isNone_iff_eq_none, decide_eq_true_eq, beq_iff_eq] at q
    obtain ⟨⟨⟨⟨⟨⟨⟨⟨⟨q1, q2⟩, q3⟩, q4⟩, q5⟩, q6⟩, q7⟩, q8⟩, q9⟩, q10⟩ := q
    exact fnG_run hq hl ih sx FD (C8.fnScope_by q5) q7 q8 hF q10
end
end P2S
end

section
/-! P2End: a law from its table's run. -/
set_option autoImplicit false
set_option Elab.async false
set_option linter.all false
set_option maxRecDepth 100000
set_option maxHeartbeats 1000000
namespace P2S
open PySem PySem.Spec PySem.W PyProof.Rows L2
open P2 (D DO DHp Exn Slot snap R SR Run Pg Xe Xes Xo Xi Xt Xs Xss Xh Fn Bi)
theorem reps_ints {C : Cfg} {F : Hp} {ρ : List Addr} : ∀ ns : List Int, Reps C F ρ (ns.map V.int) (ns.map D.int)
  | [] => .nil
  | n :: ns => .cons (.int n) (reps_ints ns)
theorem no_list {K : PySem.W.Frag} (h : noList K = true) {g : Heap} (X : K.In g) {a : Addr} {vs : List Value} (ha : g.get? a = some (scO vs)) : K.lookup a = none := by
  cases q : K.lookup a with
  | none => rfl
  | some o =>
    have e : scO vs = o := Option.some.inj (ha.symm.trans (X a o q))
    subst e
    have := List.all_eq_true.mp h _ (PySem.W.mem_of_lookupK q)
    simp [scO] at this
/-- the law's promise holds where the table's run says True -/
theorem sp_law {C : Cfg} {F : Fn} {P : Pg} {K : PySem.W.Frag} {a : Addr} {vs : List Value} {ns : List Int} {k f : Nat} {hh : DHp} (hk : K.lookup a = none) (hF : P.fns[f]? = some F) (hnp : F.np ≤ F.n) (hr : P2.lawOf P k f ns = .ok (.bl true) hh) :
    spF C F (P2.run P k f) [.ref a] (scH K a vs ns) (fun v _ => v = .bl true) (fun _ _ _ => False) := by
  have e1 : F.np = 1 ∧ ∃ L', P2.run P k f ([Slot.val (.lst (ns.map D.int))] ++ List.replicate (F.n - F.np) Slot.emp) [] = .ok (.bl true, L') hh := by
    unfold P2.lawOf P2.callF at hr
    rw [hF] at hr
    dsimp only at hr
    split at hr
    · rename_i h1
      refine ⟨h1.symm, ?_⟩
      simp only [List.map_cons, List.map_nil] at hr
      cases q : P2.run P k f ([Slot.val (.lst (ns.map D.int))] ++ List.replicate (F.n - F.np) Slot.emp) [] with
      | ok p h1 =>
        rw [q] at hr
        obtain ⟨d, L'⟩ := p
        cases hr
        exact ⟨L', rfl⟩
      | ex x h1 => rw [q] at hr; cases hr
      | stk => rw [q] at hr; cases hr
    · cases hr
  obtain ⟨h1, L', h2⟩ := e1
  have hs : HS C ⟨scH K a vs ns, scH K a vs ns, [], none, [], none⟩ ⟨scH K a vs ns, []⟩ [] (scH K a vs ns) :=
    ⟨Le.refl _, Le.refl _, fun _ _ e => .inl e, fun _ _ e _ _ => e, LeL.refl _, rfl, List.nodup_nil, fun l b o e => by simp at e, fun b e => by simp at e, fun b e => by simp at e, fun b e => (nomatch e), fun b e => by simp at e⟩
  refine ⟨_, _, [], [Slot.val (.lst (ns.map D.int))], none, hs, by simp [h1], by simp [h1], hnp, fun i s e => ?_, fun b e => (nomatch e), ?_⟩
  · cases i with
    | zero =>
      cases e
      exact .inl ⟨_, _, rfl, rfl, .lst (.inr ⟨scO vs, if_pos ⟨rfl, hk⟩⟩) (reps_ints ns)⟩
    | succ i => simp at e
  · rw [h2]
    intro W' H' v _ c _
    cases c
    rfl
/-- a def's contract by its table -/
theorem fnG_all {T : Tb} {P : Pg} {ds : List DD} {K : PySem.W.Frag} {prog : Program} {w : World} {mg : Str → Option Value} {base : Heap} {f : Nat} {d : DD} {F : Fn} {fd : FuncData} (c : obsX prog T P ds K = dueX ds) (X : K.In base) (G : base.Ns mainGlobals mg) (hp : progC T P ds = true)
    (hd : ds[f]? = some d) (hF : P.fns[f]? = some F) (FD : FunD K d.name d.name (defArgs d.st) (defBody d.st) (defScope d.st) [] [] (He.ga K d.name) fd) : ∀ k : Nat, FnG prog w K mg base (L2N.CX prog w) k (He.ga K d.name) fd d.ps (spF (cfg T K) F (P2.run P k f))
  | 0 => ⟨fun vs H Q E ⟨_, _, _, _, _, _, _, _, _, _, _, z⟩ => z.elim, fun A outer s H args us vs Q E _ _ _ _ _ ⟨_, _, _, _, _, _, _, _, _, _, _, z⟩ => z.elim⟩
  | k + 1 => by
    have q := hp
    simp only [progC, Bool.and_eq_true, List.all_eq_true, List.mem_range] at q
    have q6 := q.2 f (List.getElem?_eq_some_iff.mp hd).1
    rw [hd] at q6
    simp only [defC, hF] at q6
    simp only [Bool.and_eq_true, List.isEmpty_iff, Option.isNone_iff_eq_none, decide_eq_true_eq, beq_iff_eq] at q6
    obtain ⟨⟨⟨⟨⟨⟨⟨⟨⟨q1, q2⟩, q3⟩, q4⟩, q5⟩, q6⟩, q7⟩, q8⟩, q9⟩, q10⟩ := q6
    exact fnG_run (noEq_of hp).1 (noEq_of hp).2 (stat c X G hp k) (statX c X G hp) FD (C8.fnScope_by q5) q7 q8 hF q10
theorem walk_P2 {l : PySem.W.OpenLaw} {n k m li : Nat} {q : Program} {loose : List Str} {XP : (Str → Option Value) → Heap → Prop} {d : DefRec} {T : Tb} {P : Pg} {ds : List DD} {x : Str} {ld : DD} (hn : l.most = some n) (hn2 : n ≤ sizeLine) (hdf : d.params.defaults = []) (hr : Rm k callerA)
    (hp : progC T P ds = true) (hld : ds[li]? = some ld) (hnm : d.name = ld.name) (hps : ld.ps = [x]) (hlaw : ∀ ns : List Int, ns.length ≤ n → ∃ hh, P2.lawOf P k li ns = .ok (.bl true) hh) :
    PySem.W.WalkO q loose XP (hookX m l.prog T P ds).says l.row.toRowW d [] (fun f vs => PySem.call f vs) := by
  refine Att.attach_call hn hdf fun w s₀ s₁ mg mb fa o pm cd doc a vs ns G Y ho hd hcd hmg hobj hints hlen hg => ?_
  obtain ⟨K, KX, c⟩ := Y
  have hT : T.fns[li]? = some ld.name := by
    have := hp
    simp only [progC, Bool.and_eq_true, decide_eq_true_eq] at this
    rw [this.1.1.1.1.1, List.getElem?_map, hld]
    rfl
  obtain ⟨F, fd, ps, hF, hnp, hm, hkp, hB, hG⟩ := (stat (w := w) c KX G.T.g hp 0).fns li _ hT
  have c2 : He.SaysD (faX T) (defsX ds) K := congrArg Prod.snd c
  have c1 : lookB l.prog T P K = true := congrArg Prod.fst c
  have hno : noList K = true := by
    simp only [lookB, Bool.and_eq_true] at c1
    exact c1.1.1.1
  have hkl := no_list hno KX hobj
  obtain ⟨fd', FD⟩ := c2.def_ li (d := ld.dd) (by unfold defsX; rw [List.getElem?_map, hld]; rfl)
  have ef : fa = He.ga K ld.name := by
    rw [hnm] at hmg
    have := He.glo_ok KX G.T.g (says_fact c2 (f := .glo ld.name) (List.mem_append_left _ (List.mem_map.mpr ⟨_, List.mem_append_left _ (List.mem_of_getElem? hT), rfl⟩)))
    rw [hmg] at this
    cases this
    rfl
  have bs : ∀ (s : Shared) (u : Value), BindsTo s fd' ⟨[u], []⟩ [(x, u)] := by
    have q := hp
    simp only [progC, Bool.and_eq_true, List.all_eq_true, List.mem_range] at q
    have q6 := q.2 li (List.getElem?_eq_some_iff.mp hld).1
    rw [hld] at q6
    simp only [defC] at q6
    split at q6
    · simp only [Bool.and_eq_true, List.isEmpty_iff, Option.isNone_iff_eq_none, decide_eq_true_eq, beq_iff_eq] at q6
      obtain ⟨⟨⟨⟨⟨⟨⟨⟨⟨q1, q2⟩, q3⟩, q4⟩, q5⟩, q6⟩, q7⟩, q8⟩, q9⟩, q10⟩ := q6
      intro s u
      have := FunD.bindsA (ps := ld.ps) FD (fun kV doc pm an cdv ct us hu => P2X.bind_simple q1 rfl q2 q3 q4 rfl q6 hu) s [u] (by rw [hps]; rfl)
      rw [hps] at this
      exact this
    · cases q6
  obtain ⟨hh, hlw⟩ := hlaw ns hlen
  rw [ef]
  refine law_callG (K := K) (CX := L2N.CX l.prog w) (k := k) (fd := fd') (sp := spF (cfg T K) F (P2.run P k li)) KX G.T.g G.T.b G.T.builtins G.T.nolimit hg hobj hints (Nat.le_trans hlen hn2) hr (fun Gb KG GG => ?_) bs (fun H eH _ => by rw [eH]; exact sp_law hkl hF hnp hlw) (fun H e s2 z => ?_)
  · rw [← hps]
    exact fnG_all c KG GG hp hld hF FD k
  · obtain ⟨_, _, _, _, _, _, _, _, _, _, _, _, z⟩ := z
    exact z
end P2S
end

section
/-! U0: numbers, fractions, rows, comprehensions: what every law's pure proof uses. -/
set_option autoImplicit false
set_option Elab.async false
set_option linter.all false
set_option maxRecDepth 100000
set_option maxHeartbeats 2000000
namespace U
open P2
abbrev Q2 := Int × Int
theorem gcd_pos {p q : Int} (hq : 0 < q) : 0 < (Int.gcd p q : Int) := by
  have : Int.gcd p q ≠ 0 := fun z => by rw [Int.gcd_eq_zero_iff] at z; omega
  omega
theorem fdiv_pos {p g : Int} (hg : 0 < g) : fdivI p g = p / g := if_pos hg
theorem fdivOk_of {g : Int} (h : 0 < g) (h2 : g < 10 ^ 12) : fdivOk g = true := by
  unfold fdivOk
  have : g.natAbs < 2 ^ 1000 := Nat.lt_trans (show g.natAbs < 10 ^ 12 by omega) (by decide +kernel)
  rw [decide_eq_true h, decide_eq_true this]
  rfl
theorem mulOk_l {i j : Int} (h : i.natAbs < 2 ^ 64) : mulOk i j = true := by
  unfold mulOk
  rw [decide_eq_true h]
  rfl
theorem mulOk_r {i j : Int} (h : j.natAbs < 2 ^ 64) : mulOk i j = true := by
  unfold mulOk
  rw [decide_eq_true h, Bool.or_true]
def up : Int → Nat → List D
  | _, 0 => []
  | j, n + 1 => .int j :: up (j + 1) n
theorem range_up : ∀ (n : Nat) (a : Int), (List.range n).map (fun (k : Nat) => D.int (a + k * 1)) = up a n
  | 0, a => rfl
  | n + 1, a => by
    rw [List.range_succ_eq_map, List.map_cons, List.map_map, up, ← range_up n (a + 1)]
    congr 1
    · simp
    · apply List.map_congr_left
      intro k _
      simp only [Function.comp, Nat.succ_eq_add_one]
      congr 1
      omega
theorem rng_up (a b : Int) : rng a b 1 = up a (b - a).toNat := by
  unfold rng
  rw [if_pos (by decide)]
  have e : (b - a + 1 - 1) / 1 = b - a := by omega
  rw [e, range_up]
theorem mem_up : ∀ {n : Nat} {j : Int} {x : D}, x ∈ up j n → ∃ i : Int, x = .int i ∧ j ≤ i ∧ i < j + n
  | 0, j, x, h => nomatch h
  | n + 1, j, x, h => by
    rcases List.mem_cons.mp h with rfl | h
    · exact ⟨j, rfl, by omega, by omega⟩
    · obtain ⟨i, e, h1, h2⟩ := mem_up h
      exact ⟨i, e, by omega, by omega⟩
theorem up_length : ∀ (n : Nat) (j : Int), (up j n).length = n
  | 0, j => rfl
  | n + 1, j => by simp [up, up_length n]
theorem compL_none {elt : List Slot → DHp → R D} {cond : List Slot → DHp → R Bool} {tg : Xt} {L : List Slot} {h : DHp} : ∀ (xs acc : List D), (∀ x ∈ xs, ∃ L', bindG tg x L = some L' ∧ cond L' h = .ok false h) → compL elt cond tg L xs acc h = .ok acc h
  | [], acc, _ => rfl
  | x :: xs, acc, hx => by
    obtain ⟨L', h1, h2⟩ := hx x (List.mem_cons_self ..)
    simp only [compL, h1, h2, R.bind]
    exact compL_none xs acc fun y hy => hx y (List.mem_cons_of_mem _ hy)
def fr (x : Int × Int) : D := .tup [.int x.1, .int x.2]
def lowP (p q : Int) : Int × Int := (p / (Int.gcd p q : Int), q / (Int.gcd p q : Int))
theorem lowP_pos {p q : Int} (hq : 0 < q) : 0 < (lowP p q).2 ∧ (lowP p q).2 ≤ q := by
  have hg := gcd_pos (p := p) hq
  have hgq : (Int.gcd p q : Int) ∣ q := Int.gcd_dvd_right ..
  refine ⟨?_, Int.ediv_le_self _ (by omega)⟩
  show 0 < q / _
  exact Int.ediv_pos_of_pos_of_dvd hq (by omega) hgq
theorem lowP_self {p q : Int} (h : (Int.gcd p q : Int) = 1) : lowP p q = (p, q) := by
  unfold lowP
  rw [h, Int.ediv_one, Int.ediv_one]
theorem compL_filter {elt : List Slot → DHp → R D} {cond : List Slot → DHp → R Bool} {tg : Xt} {L : List Slot} {h : DHp} (f : D → Bool) (g : D → D) : ∀ (xs acc : List D), (∀ x ∈ xs, ∃ L', bindG tg x L = some L' ∧ cond L' h = .ok (f x) h ∧ elt L' h = .ok (g x) h) →
    compL elt cond tg L xs acc h = .ok (acc ++ (xs.filter f).map g) h
  | [], acc, _ => by simp [compL]
  | x :: xs, acc, hx => by
    obtain ⟨L', h1, h2, h3⟩ := hx x (List.mem_cons_self ..)
    have ih := fun acc => compL_filter f g xs acc fun y hy => hx y (List.mem_cons_of_mem _ hy)
    simp only [compL, h1, h2, R.bind]
    by_cases hf : f x = true
    · rw [if_pos hf, h3]
      simp only [R.bind]
      rw [ih, List.filter_cons_of_pos hf]
      simp
    · rw [if_neg hf, ih, List.filter_cons_of_neg hf]
theorem maxD_lt {m x : Int} {r : List D} (h : m < x) : maxD (.int m) (.int x :: r) = maxD (.int x) r := by simp [maxD, lt, h]
theorem maxD_ge {m x : Int} {r : List D} (h : ¬ m < x) : maxD (.int m) (.int x :: r) = maxD (.int m) r := by simp [maxD, lt, h]
theorem minD_lt {m x : Int} {r : List D} (h : x < m) : minD (.int m) (.int x :: r) = minD (.int x) r := by simp [minD, lt, h]
theorem minD_ge {m x : Int} {r : List D} (h : ¬ x < m) : minD (.int m) (.int x :: r) = minD (.int m) r := by simp [minD, lt, h]
theorem maxD_int : ∀ (m : Int) (xs : List Int), ∃ z : Int, maxD (.int m) (xs.map D.int) = .int z ∧ z ∈ m :: xs ∧ ∀ y ∈ m :: xs, y ≤ z
  | m, [] => ⟨m, rfl, List.mem_cons_self .., fun y hy => by simp at hy; omega⟩
  | m, x :: xs => by
    rw [List.map_cons]
    by_cases h : m < x
    · obtain ⟨z, h1, h2, h3⟩ := maxD_int x xs
      rw [maxD_lt h]
      refine ⟨z, h1, List.mem_cons_of_mem _ h2, fun y hy => ?_⟩
      rcases List.mem_cons.mp hy with rfl | hy
      · have := h3 x (List.mem_cons_self ..); omega
      · exact h3 y hy
    · obtain ⟨z, h1, h2, h3⟩ := maxD_int m xs
      rw [maxD_ge h]
      refine ⟨z, h1, ?_, fun y hy => ?_⟩
      · rcases List.mem_cons.mp h2 with e | e
        · rw [e]; exact List.mem_cons_self ..
        · exact List.mem_cons_of_mem _ (List.mem_cons_of_mem _ e)
      · rcases List.mem_cons.mp hy with rfl | hy
        · exact h3 y (List.mem_cons_self ..)
        · rcases List.mem_cons.mp hy with rfl | hy
          · have := h3 m (List.mem_cons_self ..); omega
          · exact h3 y (List.mem_cons_of_mem _ hy)
theorem minD_int : ∀ (m : Int) (xs : List Int), ∃ z : Int, minD (.int m) (xs.map D.int) = .int z ∧ z ∈ m :: xs ∧ ∀ y ∈ m :: xs, z ≤ y
  | m, [] => ⟨m, rfl, List.mem_cons_self .., fun y hy => by simp at hy; omega⟩
  | m, x :: xs => by
    rw [List.map_cons]
    by_cases h : x < m
    · obtain ⟨z, h1, h2, h3⟩ := minD_int x xs
      rw [minD_lt h]
      refine ⟨z, h1, List.mem_cons_of_mem _ h2, fun y hy => ?_⟩
      rcases List.mem_cons.mp hy with rfl | hy
      · have := h3 x (List.mem_cons_self ..); omega
      · exact h3 y hy
    · obtain ⟨z, h1, h2, h3⟩ := minD_int m xs
      rw [minD_ge h]
      refine ⟨z, h1, ?_, fun y hy => ?_⟩
      · rcases List.mem_cons.mp h2 with e | e
        · rw [e]; exact List.mem_cons_self ..
        · exact List.mem_cons_of_mem _ (List.mem_cons_of_mem _ e)
      · rcases List.mem_cons.mp hy with rfl | hy
        · exact h3 y (List.mem_cons_self ..)
        · rcases List.mem_cons.mp hy with rfl | hy
          · have := h3 m (List.mem_cons_self ..); omega
          · exact h3 y (List.mem_cons_of_mem _ hy)
theorem pls_int : ∀ (n : Nat) (xs : List Int), pls n (xs.map D.int) = true
  | n, [] => by simp [pls]
  | n, x :: xs => by simp [pls, pl, pls_int n xs]
theorem sortable_int (xs : List Int) : sortable (xs.map D.int) = true := by
  unfold sortable plains
  rw [pls_int]
  simp [alike]
theorem max_int {z : Int} {xs : List Int} (h1 : z ∈ xs) (h2 : ∀ y ∈ xs, y ≤ z) : bi .max1 [.lst (xs.map D.int)] = some (.int z) := by
  cases xs with
  | nil => cases h1
  | cons x xs =>
    obtain ⟨w, e, g1, g2⟩ := maxD_int x xs
    have : w = z := Int.le_antisymm (h2 w g1) (g2 z h1)
    have hs := sortable_int (x :: xs)
    rw [List.map_cons] at hs ⊢
    simp only [bi, itemsOf, hs, if_true, e, this]
theorem min_int {z : Int} {xs : List Int} (h1 : z ∈ xs) (h2 : ∀ y ∈ xs, z ≤ y) : bi .min1 [.lst (xs.map D.int)] = some (.int z) := by
  cases xs with
  | nil => cases h1
  | cons x xs =>
    obtain ⟨w, e, g1, g2⟩ := minD_int x xs
    have : w = z := Int.le_antisymm (g2 z h1) (h2 w g1)
    have hs := sortable_int (x :: xs)
    rw [List.map_cons] at hs ⊢
    simp only [bi, itemsOf, hs, if_true, e, this]
def upI : Int → Nat → List Int
  | _, 0 => []
  | j, n + 1 => j :: upI (j + 1) n
theorem up_int : ∀ (n : Nat) (j : Int), up j n = (upI j n).map D.int
  | 0, j => rfl
  | n + 1, j => by rw [up, upI, List.map_cons, up_int n]
theorem mem_upI : ∀ {n : Nat} {j z : Int}, z ∈ upI j n ↔ j ≤ z ∧ z < j + n
  | 0, j, z => by simp [upI]
  | n + 1, j, z => by
    rw [upI, List.mem_cons, mem_upI]
    omega
theorem filter_int (F : D → Bool) (f : Int → Bool) (h : ∀ i, F (.int i) = f i) : ∀ xs : List Int, (xs.map D.int).filter F = (xs.filter f).map D.int
  | [] => rfl
  | x :: xs => by
    rw [List.map_cons]
    by_cases hf : f x = true
    · rw [List.filter_cons_of_pos (by rw [h]; exact hf), List.filter_cons_of_pos hf, List.map_cons, filter_int F f h xs]
    · rw [List.filter_cons_of_neg (by rw [h]; exact hf), List.filter_cons_of_neg hf, filter_int F f h xs]
theorem filter_fr (F : D → Bool) (f : Q2 → Bool) (h : ∀ i, F (fr i) = f i) : ∀ xs : List Q2, (xs.map fr).filter F = (xs.filter f).map fr
  | [] => rfl
  | x :: xs => by
    rw [List.map_cons]
    by_cases hf : f x = true
    · rw [List.filter_cons_of_pos (by rw [h]; exact hf), List.filter_cons_of_pos hf, List.map_cons, filter_fr F f h xs]
    · rw [List.filter_cons_of_neg (by rw [h]; exact hf), List.filter_cons_of_neg hf, filter_fr F f h xs]
/-- a pair's numbers -/
def un : D → Q2
  | .tup [.int a, .int b] => (a, b)
  | _ => (0, 0)
theorem un_fr (x : Q2) : un (fr x) = x := rfl
theorem lowP_mul {c p q : Int} (hc : 0 < c) : lowP (c * p) (c * q) = lowP p q := by
  unfold lowP
  have e : (Int.gcd (c * p) (c * q) : Int) = c * (Int.gcd p q : Int) := by
    rw [Int.gcd_mul_left]
    push_cast
    rw [show ((c.natAbs : Nat) : Int) = c by omega]
  rw [e, Int.mul_ediv_mul_of_pos _ _ hc, Int.mul_ediv_mul_of_pos _ _ hc]
theorem lowP_eq {p q a b : Int} (hq : 0 < q) (hb : 0 < b) (h : p * b = a * q) : lowP p q = lowP a b := by
  rw [← lowP_mul (p := p) (q := q) hb, ← lowP_mul (p := a) (q := b) hq, Int.mul_comm b p, h, Int.mul_comm a q, Int.mul_comm b q]
theorem lowP_out (p q : Int) : ∃ g : Int, (0 < q → 0 < g) ∧ p = g * (lowP p q).1 ∧ q = g * (lowP p q).2 :=
  ⟨(Int.gcd p q : Int), fun h => gcd_pos h, (Int.mul_ediv_cancel' (Int.gcd_dvd_left ..)).symm, (Int.mul_ediv_cancel' (Int.gcd_dvd_right ..)).symm⟩
theorem lowP_val {p q : Int} : (lowP p q).1 * q = p * (lowP p q).2 := by
  obtain ⟨g, _, h1, h2⟩ := lowP_out p q
  generalize lowP p q = w at h1 h2
  rw [h1, h2]
  rw [← Int.mul_assoc, Int.mul_comm w.1 g]
theorem lowP_gcd {p q : Int} (hq : 0 < q) : (Int.gcd (lowP p q).1 (lowP p q).2 : Int) = 1 := by
  have h : 0 < Int.gcd p q := by have := gcd_pos (p := p) hq; omega
  have := Int.gcd_ediv_gcd_ediv_gcd h
  unfold lowP
  simp only
  rw [this]
  rfl
theorem dec_not (a b : Int) : decide (a < b) = !decide (b ≤ a) := by
  by_cases h : a < b
  · rw [decide_eq_true h, decide_eq_false (by omega)]; rfl
  · rw [decide_eq_false h, decide_eq_true (by omega)]; rfl
theorem pls_fr : ∀ (n : Nat) (rs : List Q2), pls (n + 1) (rs.map fr) = true
  | n, [] => by simp [pls]
  | n, x :: xs => by
    have := pls_fr n xs
    simp [pls, pl, this, fr]
theorem eqv_fr (x : Q2) : eqv (fr x) (fr x) = true := by simp [fr, eqv, eqvs]
theorem deref_fr (L : List Slot) (h : DHp) (z : Q2) : deref L h (fr z) = some (fr z) := rfl
theorem deref_int (L : List Slot) (h : DHp) (z : Int) : deref L h (.int z) = some (.int z) := rfl
theorem deref_bl (L : List Slot) (h : DHp) (z : Bool) : deref L h (.bl z) = some (.bl z) := rfl
theorem deref_non (L : List Slot) (h : DHp) : deref L h .non = some .non := rfl
theorem deref_lst (L : List Slot) (h : DHp) (z : List D) : deref L h (.lst z) = some (.lst z) := rfl
theorem deref_tup (L : List Slot) (h : DHp) (z : List D) : deref L h (.tup z) = some (.tup z) := rfl
theorem idx_fr0 (x : Q2) : idxD (fr x) (.int 0) = some (.int x.1) := rfl
theorem idx_fr1 (x : Q2) : idxD (fr x) (.int 1) = some (.int x.2) := rfl
theorem idx_tup (xs : List D) (i : Int) : idxD (.tup xs) (.int i) = match ix xs.length i with | some k => xs[k]? | none => none := rfl
theorem idx_lst (xs : List D) (i : Int) : idxD (.lst xs) (.int i) = match ix xs.length i with | some k => xs[k]? | none => none := rfl
theorem max_pair (p q : Int) : maxD (.int p) [.int q] = .int (if p < q then q else p) := by
  by_cases h : p < q <;> simp [maxD, lt, h]
theorem sort_pair (p q : Int) : sortable [.int p, .int q] = true := sortable_int [p, q]
end U
end

section
set_option autoImplicit false
namespace K09
open P2
/-- 0: _law_taken; slots 0:row 1:many 2:found 3:cell -/
def f_law_taken : Xss := (.cons (.ifs (.cmp .gt (.idx (.var 0) (.int 3)) (.int 0)) (.cons (.asg (.name 2) (.op .mod (.bi .int (.cons (.idx (.var 0) (.int 3)) .nil)) (.var 1))) (.cons (.setIx (.var 0) (.int 3) (.op .fdiv (.idx (.var 0) (.int 3)) (.var 1))) (.cons (.ret (.var 2)) .nil))) .nil) (.cons (.setIx (.var 0) (.int 1) (.op .add (.idx (.var 0) (.int 1)) (.int 1))) (.cons (.ifs (.cmp .gt (.idx (.var 0) (.int 1)) (.bi .len (.cons (.idx (.var 0) (.int 0)) .nil))) (.cons (.setIx (.var 0) (.int 2) (.op .mod (.bi .int (.cons (.op .add (.op .mul (.idx (.var 0) (.int 2)) (.int 48271)) (.int 11)) .nil)) (.int 2147483647))) (.cons (.ret (.op .mod (.bi .int (.cons (.op .fdiv (.idx (.var 0) (.int 2)) (.int 7)) .nil)) (.var 1))) .nil)) .nil) (.cons (.asg (.name 3) (.idx (.idx (.var 0) (.int 0)) (.op .sub (.idx (.var 0) (.int 1)) (.int 1)))) (.cons (.setIx (.var 0) (.int 2) (.op .mod (.bi .int (.cons (.op .add (.op .add (.op .mul (.idx (.var 0) (.int 2)) (.int 48271)) (.var 3)) (.int 11)) .nil)) (.int 2147483647))) (.cons (.ifs (.cmp .ge (.var 3) (.op .pow (.int 10) (.int 18))) (.cons (.setIx (.var 0) (.int 3) (.op .fdiv (.var 3) (.var 1))) .nil) .nil) (.cons (.ret (.op .mod (.bi .int (.cons (.var 3) .nil)) (.var 1))) .nil)))))))
def f_law_taken_N : List String := ["row", "many", "found", "cell"]
/-- 1: _law_pick; slots 0:row 1:kinds -/
def f_law_pick : Xss := (.cons (.ret (.idx (.var 1) (.call 0 (.cons (.var 0) (.cons (.bi .len (.cons (.var 1) .nil)) .nil))))) .nil)
def f_law_pick_N : List String := ["row", "kinds"]
/-- 2: _law_alike; slots 0:found 1:due 2:k -/
def f_law_alike : Xss := (.cons (.ifs (.bi .isRow (.cons (.var 1) .nil)) (.cons (.ifs (.or (.inot (.bi .isRow (.cons (.var 0) .nil))) (.cmp .ne (.bi .isLst (.cons (.var 0) .nil)) (.bi .isLst (.cons (.var 1) .nil)))) (.cons (.ret (.bl false)) .nil) .nil) (.cons (.ifs (.cmp .ne (.bi .len (.cons (.var 0) .nil)) (.bi .len (.cons (.var 1) .nil))) (.cons (.ret (.bl false)) .nil) .nil) (.cons (.ret (.cmp .eq (.comp (.var 2) (.name 2) (.range1 (.bi .len (.cons (.var 1) .nil))) (.some (.inot (.call 2 (.cons (.idx (.var 0) (.var 2)) (.cons (.idx (.var 1) (.var 2)) .nil)))))) (.lst .nil))) .nil))) .nil) (.cons (.ifs (.or (.cmp .is (.var 1) .non) (.bi .isStr (.cons (.var 1) .nil))) (.cons (.ret (.and (.cmp .eq (.var 0) (.var 1)) (.cmp .eq (.bi .isStr (.cons (.var 0) .nil)) (.bi .isStr (.cons (.var 1) .nil))))) .nil) .nil) (.cons (.ret (.and (.bi .isInt (.cons (.var 0) .nil)) (.and (.cmp .eq (.bi .isBool (.cons (.var 0) .nil)) (.bi .isBool (.cons (.var 1) .nil))) (.cmp .eq (.var 0) (.var 1))))) .nil)))
def f_law_alike_N : List String := ["found", "due", "k"]
/-- 3: _law_raised; slots 0:number 1:value 2:named 3:e 4:kinds 5:field -/
def f_law_raised : Xss := (.cons (.tryS (.cons (.ifs (.cmp .eq (.var 0) (.int 0)) (.cons (.raise 1 (.cons (.var 1) .nil)) .nil) .nil) (.cons (.ifs (.cmp .eq (.var 0) (.int 1)) (.cons (.raise 2 (.cons (.var 1) .nil)) .nil) .nil) (.cons (.ifs (.cmp .eq (.var 0) (.int 2)) (.cons (.raise 3 (.cons (.var 1) .nil)) .nil) .nil) (.cons (.ifs (.cmp .eq (.var 0) (.int 3)) (.cons (.raise 4 (.cons (.var 1) .nil)) .nil) .nil) (.cons (.ifs (.cmp .eq (.var 0) (.int 4)) (.cons (.raise 5 (.cons (.var 1) .nil)) .nil) .nil) (.cons (.ifs (.cmp .eq (.var 0) (.int 5)) (.cons (.raise 6 (.cons (.var 1) .nil)) .nil) .nil) (.cons (.ifs (.cmp .eq (.var 0) (.int 6)) (.cons (.raise 7 (.cons (.var 1) .nil)) .nil) .nil) (.cons (.ifs (.cmp .eq (.var 0) (.int 7)) (.cons (.raise 8 (.cons (.var 1) .nil)) .nil) .nil) (.cons (.ifs (.cmp .eq (.var 0) (.int 8)) (.cons (.raise 9 (.cons (.var 1) (.cons (.var 2) .nil))) .nil) .nil) (.cons (.raise 10 .nil) .nil)))))))))) (.cons 0 (some 3) (.cons (.asg (.name 4) (.lst (.cons (.isX 3 1) (.cons (.isX 3 2) (.cons (.isX 3 3) (.cons (.isX 3 4) (.cons (.isX 3 5) .nil))))))) (.cons (.asg (.name 4) (.op .add (.var 4) (.lst (.cons (.isX 3 6) (.cons (.isX 3 7) (.cons (.isX 3 8) (.cons (.isX 3 9) (.cons (.isX 3 10) .nil)))))))) (.cons (.ifs (.or (.inot (.isXB 3 0)) (.or (.isXB 3 1) (.isXB 3 2))) (.cons (.ret .non) .nil) .nil) (.cons (.asg (.name 5) .non) (.cons (.ifs (.cmp .isin (.var 0) (.lst (.cons (.int 0) (.cons (.int 1) (.cons (.int 3) (.cons (.int 6) (.cons (.int 7) .nil))))))) (.cons (.asg (.name 5) (.fld (.var 3) 0)) .nil) .nil) (.cons (.ifs (.cmp .eq (.var 0) (.int 2)) (.cons (.asg (.name 5) (.fld (.var 3) 1)) .nil) .nil) (.cons (.ifs (.cmp .eq (.var 0) (.int 4)) (.cons (.asg (.name 5) (.fld (.var 3) 2)) .nil) .nil) (.cons (.ifs (.cmp .eq (.var 0) (.int 5)) (.cons (.asg (.name 5) (.fld (.var 3) 3)) .nil) .nil) (.cons (.ifs (.cmp .eq (.var 0) (.int 8)) (.cons (.asg (.name 5) (.tup (.cons (.fld (.var 3) 4) (.cons (.fld (.var 3) 5) .nil)))) .nil) .nil) (.cons (.ret (.tup (.cons (.var 4) (.cons (.var 5) .nil)))) .nil)))))))))) .nil)) .nil)
def f_law_raised_N : List String := ["number", "value", "named", "e", "kinds", "field"]
/-- 4: law; slots 0:script 1:row 2:number 3:value 4:named 5:told 6:due 7:made 8:k -/
def f_law : Xss := (.cons (.asg (.name 1) (.newL (.cons (.var 0) (.cons (.int 0) (.cons (.int 53) (.cons (.int 0) .nil)))))) (.cons (.for_ (.name 2) (.range1 (.int 10)) (.cons (.asg (.name 3) (.call 1 (.cons (.var 1) (.cons (.lst (.cons .non (.cons (.int 7) (.cons (.str [120]) (.cons (.tup (.cons (.int 1) (.cons (.int 2) .nil))) (.cons (.bl true) (.cons (.call 0 (.cons (.var 1) (.cons (.op .pow (.int 10) (.int 9)) .nil))) .nil))))))) .nil)))) (.cons (.asg (.name 4) (.call 1 (.cons (.var 1) (.cons (.lst (.cons (.tup .nil) (.cons (.tup (.cons (.str [97]) .nil)) .nil))) .nil)))) (.cons (.asg (.name 5) (.call 3 (.cons (.var 2) (.cons (.var 3) (.cons (.var 4) .nil))))) (.cons (.ifs (.or (.cmp .is (.var 5) .non) (.cmp .ne (.idx (.var 5) (.int 0)) (.comp (.cmp .eq (.var 8) (.var 2)) (.name 8) (.range1 (.int 10)) .none))) (.cons (.ret (.bl false)) .nil) .nil) (.cons (.asg (.name 6) (.var 3)) (.cons (.ifs (.cmp .eq (.var 2) (.int 8)) (.cons (.asg (.name 6) (.tup (.cons (.var 3) (.cons (.var 4) .nil)))) .nil) .nil) (.cons (.ifs (.and (.cmp .lt (.var 2) (.int 9)) (.or (.cmp .ne (.idx (.var 5) (.int 1)) (.var 6)) (.cmp .ne (.bi .isBool (.cons (.idx (.var 5) (.int 1)) .nil)) (.bi .isBool (.cons (.var 6) .nil))))) (.cons (.ret (.bl false)) .nil) .nil) .nil))))))) [2, 3, 4, 5, 6]) (.cons (.asg (.name 7) (.lst (.cons (.xnew 1 [0] (.cons (.int 1) .nil) 0) (.cons (.xnew 2 [0] (.cons (.str [97]) .nil) 0) (.cons (.xnew 3 [1] (.cons (.int 4) .nil) 1) (.cons (.xnew 4 [0] (.cons (.int 5) .nil) 0) (.cons (.xnew 5 [2] (.cons (.int 6) .nil) 2) .nil))))))) (.cons (.asg (.name 7) (.op .add (.var 7) (.lst (.cons (.xnew 6 [3] (.cons (.int 7) .nil) 3) (.cons (.xnew 7 [0] (.cons (.int 8) .nil) 0) (.cons (.xnew 8 [0] (.cons (.int 9) .nil) 0) (.cons (.xnew 9 [4, 5] (.cons (.str [114]) (.cons (.int 11) .nil)) 5) (.cons (.xnew 9 [5, 4] (.cons (.int 1) (.cons (.str [115]) .nil)) 4) .nil)))))))) (.cons (.ret (.call 2 (.cons (.var 7) (.cons (.lst (.cons (.int 1) (.cons (.str [97]) (.cons (.int 4) (.cons (.int 5) (.cons (.int 6) (.cons (.int 7) (.cons (.int 8) (.cons (.int 9) (.cons (.int 11) (.cons (.str [115]) .nil))))))))))) .nil)))) .nil)))))
def f_law_N : List String := ["script", "row", "number", "value", "named", "told", "due", "made", "k"]
/-- functions: 0:_law_taken 1:_law_pick 2:_law_alike 3:_law_raised 4:law
classes: ; errors: 0:WheelsError 1:BadNumber 2:BadName 3:BadItem 4:BadEvent 5:BadNote 6:TooMany 7:Unknown 8:Taken 9:Refused 10:NothingToUndo; names: 0:value 1:index 2:line 3:limit 4:reason 5:names -/
def pg : Pg := ⟨[⟨2, 4, f_law_taken⟩, ⟨2, 2, f_law_pick⟩, ⟨2, 3, f_law_alike⟩, ⟨3, 6, f_law_raised⟩, ⟨1, 9, f_law⟩], [], [], [([], 0), ([0], 0), ([0], 0), ([1], 0), ([0], 0), ([2], 0), ([3], 0), ([0], 0), ([0], 0), ([4, 5], 0), ([], 0)]⟩
def fnNames : List String := ["_law_taken", "_law_pick", "_law_alike", "_law_raised", "law"]
def clsNames : List String := []
def excNames : List String := ["WheelsError", "BadNumber", "BadName", "BadItem", "BadEvent", "BadNote", "TooMany", "Unknown", "Taken", "Refused", "NothingToUndo"]
def names : List String := ["value", "index", "line", "limit", "reason", "names"]
def globNames : List String := []
def lawIx : Nat := 4
end K09
end

section
/-! U1: what the shared functions compute (one text for every law, by pp.py). -/
set_option autoImplicit false
set_option Elab.async false
set_option linter.all false
set_option maxRecDepth 100000
set_option maxHeartbeats 2000000
namespace K09
open P2 U
/-- a call's value -/
def Cl (k f : Nat) (ds : List D) (d : D) : Prop := ∀ h, callF pg (P2.run pg k) f ds h = .ok d h
theorem cl_of {k f : Nat} {ds : List D} {d : D} {F : Fn} (hF : pg.fns[f]? = some F) (hl : ds.length = F.np) (hb : ∀ h, ∃ L', exSs pg (P2.run pg k) F.body (ds.map Slot.val ++ List.replicate (F.n - F.np) Slot.emp) h = .rt d L' h) : Cl (k + 1) f ds d := by
  intro h
  obtain ⟨L', e⟩ := hb h
  unfold callF
  rw [hF]
  dsimp only
  rw [if_pos hl]
  simp only [P2.run, hF, e, R.bind]
def sc (xs : List Int) (i s r : Int) : DO := .lst [.lst (xs.map D.int), .int i, .int s, .int r]
theorem call_of {k f : Nat} {ds : List D} {d : D} {F : Fn} {L' : List Slot} {h h' : DHp} (hF : pg.fns[f]? = some F) (hl : ds.length = F.np) (hb : exSs pg (P2.run pg k) F.body (ds.map Slot.val ++ List.replicate (F.n - F.np) Slot.emp) h = .rt d L' h') : callF pg (P2.run pg (k + 1)) f ds h = .ok d h' := by
  unfold callF
  rw [hF]
  dsimp only
  rw [if_pos hl]
  simp only [P2.run, hF, hb, R.bind]
theorem cl_taken {k : Nat} {xs : List Int} {i s r m : Int} (hm : 0 < m) (hm2 : m < 10 ^ 12) (hi : 0 ≤ i) (hr : 0 ≤ r) (hs : s.natAbs < 2 ^ 31) :
    ∃ t i' s' r', 0 ≤ t ∧ t < m ∧ 0 ≤ i' ∧ 0 ≤ r' ∧ s'.natAbs < 2 ^ 31 ∧ callF pg (P2.run pg (k + 1)) 0 [.loc 0, .int m] [sc xs i s r] = .ok (.int t) [sc xs i' s' r'] := by
  have m0 : ¬ m = 0 := by omega
  have mm : ∀ z, modI z m = z % m := fun z => if_pos hm
  have md : ∀ z, fdivI z m = z / m := fun z => if_pos hm
  have hd := fdivOk_of hm hm2
  have hk : mulOk s 48271 = true := mulOk_r (by decide +kernel)
  have hp : ∀ z, modI z 2147483647 = z % 2147483647 := fun z => if_pos (by decide)
  by_cases h1 : 0 < r
  · refine ⟨r % m, i, s, r / m, Int.emod_nonneg _ m0, Int.emod_lt_of_pos _ hm, hi, Int.ediv_nonneg hr (by omega), hs, call_of (F := ⟨2, 4, f_law_taken⟩) (L' := [.val (.loc 0), .val (.int m), .val (.int (r % m)), .emp]) rfl rfl ?_⟩
    simp [f_law_taken, evE, evA, evEs, evAs, evO, evC, withE, R.bind, toR, cop, eqD, plain, pl, pls, plains, alike, alikes, lt, lts, eqv, eqvs, exSs, exS, exHs, SR.andThen, deref, derefs, snap, bop, opAdd, opMul, idxD, ix, bi, kindD, parOk, freshE, parSet, bindG, bindGs, kills, isNon, itemsOf, upO, putO, List.set, List.getElem?_cons_zero, List.getElem?_cons_succ, sc, h1, m0, mm, md, hd]
  · have h1' : ¬ 0 < r := h1
    by_cases h2 : (xs.length : Int) < i + 1
    · have h7 : fdivI ((s * 48271 + 11) % 2147483647) 7 = ((s * 48271 + 11) % 2147483647) / 7 := if_pos (by decide)
      have hd7 : fdivOk 7 = true := fdivOk_of (by decide) (by decide)
      refine ⟨((s * 48271 + 11) % 2147483647) / 7 % m, i + 1, (s * 48271 + 11) % 2147483647, r, Int.emod_nonneg _ m0, Int.emod_lt_of_pos _ hm, by omega, hr, by omega, call_of (F := ⟨2, 4, f_law_taken⟩) (L' := [.val (.loc 0), .val (.int m), .emp, .emp]) rfl rfl ?_⟩
      simp [f_law_taken, evE, evA, evEs, evAs, evO, evC, withE, R.bind, toR, cop, eqD, plain, pl, pls, plains, alike, alikes, lt, lts, eqv, eqvs, exSs, exS, exHs, SR.andThen, deref, derefs, snap, bop, opAdd, opMul, idxD, ix, bi, kindD, parOk, freshE, parSet, bindG, bindGs, kills, isNon, itemsOf, upO, putO, List.set, List.getElem?_cons_zero, List.getElem?_cons_succ, sc, h1, h2, m0, mm, md, hd, hk, hp, h7, hd7]
    · have h3 : ¬ (xs.length : Int) < i + 1 := h2
      obtain ⟨n, rfl⟩ := Int.eq_ofNat_of_zero_le hi
      have hn : n < xs.length := by omega
      have hn2 : ¬ xs.length ≤ n := by omega
      have hn3 : ¬ (xs.length : Int) < (n : Int) + 1 := h3
      have hn4 : (n : Int) < xs.length := by omega
      obtain ⟨c, hc⟩ : ∃ c, xs[n] = c := ⟨_, rfl⟩
      have hpow : (10 : Int) ^ (Int.toNat 18) = 10 ^ 18 := rfl
      refine ⟨c % m, n + 1, (s * 48271 + c + 11) % 2147483647, if c < 10 ^ 18 then r else c / m, Int.emod_nonneg _ m0, Int.emod_lt_of_pos _ hm, by omega, ?_, by omega, call_of (F := ⟨2, 4, f_law_taken⟩) (L' := [.val (.loc 0), .val (.int m), .emp, .val (.int c)]) rfl rfl ?_⟩
      · by_cases h4 : c < 10 ^ 18
        · rw [if_pos h4]; exact hr
        · rw [if_neg h4]
          exact Int.ediv_nonneg (by omega) (by omega)
      · by_cases h4 : c < 10 ^ 18
        · have h5 : c < 1000000000000000000 := by simpa using h4
          simp [f_law_taken, evE, evA, evEs, evAs, evO, evC, withE, R.bind, toR, cop, eqD, plain, pl, pls, plains, alike, alikes, lt, lts, eqv, eqvs, exSs, exS, exHs, SR.andThen, deref, derefs, snap, bop, opAdd, opMul, idxD, ix, bi, kindD, parOk, freshE, parSet, bindG, bindGs, kills, isNon, itemsOf, upO, putO, List.set, List.getElem?_cons_zero, List.getElem?_cons_succ, sc, h1, hn, hn2, hn3, hn4, hc, m0, mm, md, hd, hk, hp, h5]
        · have h5 : ¬ c < 1000000000000000000 := by simpa using h4
          simp [f_law_taken, evE, evA, evEs, evAs, evO, evC, withE, R.bind, toR, cop, eqD, plain, pl, pls, plains, alike, alikes, lt, lts, eqv, eqvs, exSs, exS, exHs, SR.andThen, deref, derefs, snap, bop, opAdd, opMul, idxD, ix, bi, kindD, parOk, freshE, parSet, bindG, bindGs, kills, isNon, itemsOf, upO, putO, List.set, List.getElem?_cons_zero, List.getElem?_cons_succ, sc, h1, hn, hn2, hn3, hn4, hc, m0, mm, md, hd, hk, hp, h5]
theorem cl_alike_int {k : Nat} {i : Int} : Cl (k + 1) 2 [.int i, .int i] (.bl true) := by
  refine cl_of (F := ⟨2, 3, f_law_alike⟩) rfl rfl fun h => ⟨[.val (.int i), .val (.int i), .emp], ?_⟩
  simp [f_law_alike, evE, evA, evEs, evAs, evO, evC, withE, R.bind, toR, cop, eqD, plain, pl, pls, plains, alike, alikes, lt, lts, eqv, eqvs, exSs, exS, exHs, SR.andThen, deref, derefs, snap, bop, opAdd, opMul, idxD, ix, bi, kindD, parOk, freshE, parSet, bindG, bindGs, kills, isNon, itemsOf, upO, putO, List.set, List.getElem?_cons_zero, List.getElem?_cons_succ]
def alC : Xo := .some (.inot (.call 2 (.cons (.idx (.var 0) (.var 2)) (.cons (.idx (.var 1) (.var 2)) .nil))))
theorem cl_alike_tup {k : Nat} {ds : List D} (hl : ds.length ≤ 1000) (hd : ∀ d ∈ ds, Cl k 2 [d, d] (.bl true)) : Cl (k + 1) 2 [.tup ds, .tup ds] (.bl true) := by
  refine cl_of (F := ⟨2, 3, f_law_alike⟩) rfl rfl fun h => ⟨[.val (.tup ds), .val (.tup ds), .emp], ?_⟩
  have hc : compL (evE pg (P2.run pg k) (.var 2)) (evC pg (P2.run pg k) alC) (.name 2) [.val (.tup ds), .val (.tup ds), .emp] (up 0 ds.length) [] h = .ok [] h := by
    refine compL_none _ _ fun x hx => ?_
    obtain ⟨i, rfl, h0, h1⟩ := mem_up hx
    obtain ⟨n, rfl⟩ := Int.eq_ofNat_of_zero_le h0
    have hn : n < ds.length := by omega
    refine ⟨[.val (.tup ds), .val (.tup ds), .val (.int n)], rfl, ?_⟩
    have r := fun h => hd ds[n] (List.getElem_mem hn) h
    have hn4 : (n : Int) < ds.length := by omega
    simp [alC, evE, evA, evEs, evAs, evO, evC, withE, R.bind, toR, cop, eqD, plain, pl, pls, plains, alike, alikes, lt, lts, eqv, eqvs, exSs, exS, exHs, SR.andThen, deref, derefs, snap, bop, opAdd, opMul, idxD, ix, bi, kindD, parOk, freshE, parSet, bindG, bindGs, kills, isNon, itemsOf, upO, putO, List.set, List.getElem?_cons_zero, List.getElem?_cons_succ, hn, hn4, r]
  have hr := rng_up 0 ds.length
  have e2 : ((ds.length : Int) - 0).toNat = ds.length := by omega
  rw [e2] at hr
  have hb : (ds.length : Int).natAbs < 2 ^ 60 := by omega
  have hb2 : ds.length < 2 ^ 60 := by omega
  have hlm : ds.length ≤ lineMax := by unfold lineMax; omega
  have e1 : f_law_alike = .cons (.ifs (.bi .isRow (.cons (.var 1) .nil)) (.cons (.ifs (.or (.inot (.bi .isRow (.cons (.var 0) .nil))) (.cmp .ne (.bi .isLst (.cons (.var 0) .nil)) (.bi .isLst (.cons (.var 1) .nil)))) (.cons (.ret (.bl false)) .nil) .nil) (.cons (.ifs (.cmp .ne (.bi .len (.cons (.var 0) .nil)) (.bi .len (.cons (.var 1) .nil))) (.cons (.ret (.bl false)) .nil) .nil) (.cons (.ret (.cmp .eq (.comp (.var 2) (.name 2) (.range1 (.bi .len (.cons (.var 1) .nil))) alC) (.lst .nil))) .nil))) .nil) (.cons (.ifs (.or (.cmp .is (.var 1) .non) (.bi .isStr (.cons (.var 1) .nil))) (.cons (.ret (.and (.cmp .eq (.var 0) (.var 1)) (.cmp .eq (.bi .isStr (.cons (.var 0) .nil)) (.bi .isStr (.cons (.var 1) .nil))))) .nil) .nil) (.cons (.ret (.and (.bi .isInt (.cons (.var 0) .nil)) (.and (.cmp .eq (.bi .isBool (.cons (.var 0) .nil)) (.bi .isBool (.cons (.var 1) .nil))) (.cmp .eq (.var 0) (.var 1))))) .nil)) := rfl
  have h5 : evE pg (P2.run pg k) (.comp (.var 2) (.name 2) (.range1 (.bi .len (.cons (.var 1) .nil))) alC) [.val (.tup ds), .val (.tup ds), .emp] h = .ok (.lst []) h := by
    rw [evE]
    have : evI pg (P2.run pg k) (.range1 (.bi .len (.cons (.var 1) .nil))) [.val (.tup ds), .val (.tup ds), .emp] h = .ok (up 0 ds.length) h := by
      simp [evI, evE, evA, evEs, evAs, evO, evC, withE, R.bind, toR, cop, eqD, plain, pl, pls, plains, alike, alikes, lt, lts, eqv, eqvs, exSs, exS, exHs, SR.andThen, deref, derefs, snap, bop, opAdd, opMul, idxD, ix, bi, kindD, parOk, freshE, parSet, bindG, bindGs, kills, isNon, itemsOf, upO, putO, List.set, List.getElem?_cons_zero, List.getElem?_cons_succ, hr, hb2]
    rw [this]
    simp only [R.bind, up_length, hlm, if_true, gSlots, kills, List.set, hc, noEx]
  generalize hX : (Xe.comp (.var 2) (.name 2) (.range1 (.bi .len (.cons (.var 1) .nil))) alC) = X at e1 h5
  have h6 : ∀ L h, evA pg (P2.run pg k) X L h = evE pg (P2.run pg k) X L h := by subst hX; intro L h; simp only [evA]
  simp only [e1]
  simp [evE, evA, evEs, evAs, evO, evC, withE, R.bind, toR, cop, eqD, plain, pl, pls, plains, alike, alikes, lt, lts, eqv, eqvs, exSs, exS, exHs, SR.andThen, deref, derefs, snap, bop, opAdd, opMul, idxD, ix, bi, kindD, parOk, freshE, parSet, bindG, bindGs, kills, isNon, itemsOf, upO, putO, List.set, List.getElem?_cons_zero, List.getElem?_cons_succ, h5, h6]
end K09
end

section
/-! K09a: the law of errors. -/
set_option autoImplicit false
set_option Elab.async false
set_option linter.all false
set_option maxRecDepth 100000
set_option maxHeartbeats 4000000
namespace K09
open P2 U
theorem cl_alike_str {k : Nat} {s : List Nat} : Cl (k + 1) 2 [.str s, .str s] (.bl true) := by
  refine cl_of (F := ⟨2, 3, f_law_alike⟩) rfl rfl fun h => ⟨[.val (.str s), .val (.str s), .emp], ?_⟩
  simp [f_law_alike, evE, evA, evEs, evAs, evO, evC, withE, R.bind, toR, cop, eqD, plain, pl, pls, plains, alike, alikes, lt, lts, eqv, eqvs, exSs, exS, exHs, SR.andThen, deref, derefs, snap, bop, opAdd, opMul, idxD, ix, bi, kindD, parOk, freshE, parSet, bindG, bindGs, kills, isNon, itemsOf, upO, putO, List.set, List.getElem?_cons_zero, List.getElem?_cons_succ]
def flags (n : Nat) : D := .lst ((List.range 10).map fun k => .bl (k == n))
def field (n : Nat) (d e : D) : D := if n = 9 then .non else if n = 8 then .tup [d, e] else d
theorem cl_raised {k n : Nat} {d e : D} (hn : n < 10) : Cl (k + 1) 3 [.int n, d, e] (.tup [flags n, field n d e]) := by
  refine cl_of (F := ⟨3, 6, f_law_raised⟩) rfl rfl fun h => ?_
  refine ⟨[.val (.int n), .val d, .val e, .emp, .val (flags n), .val (field n d e)], ?_⟩
  match n, hn with
  | 0, _ => simp [f_law_raised, evE, evA, evEs, evAs, evO, evC, withE, R.bind, toR, cop, eqD, plain, pl, pls, plains, alike, alikes, lt, lts, eqv, eqvs, exSs, exS, exHs, SR.andThen, deref, derefs, snap, bop, opAdd, opMul, idxD, ix, bi, kindD, parOk, freshE, parSet, bindG, bindGs, kills, isNon, itemsOf, upO, putO, List.set, List.getElem?_cons_zero, List.getElem?_cons_succ, mkExn, pg, catches, noExn, endH, fGet, flags, field, isIn, lineMax, List.range, List.range.loop]
  | 1, _ => simp [f_law_raised, evE, evA, evEs, evAs, evO, evC, withE, R.bind, toR, cop, eqD, plain, pl, pls, plains, alike, alikes, lt, lts, eqv, eqvs, exSs, exS, exHs, SR.andThen, deref, derefs, snap, bop, opAdd, opMul, idxD, ix, bi, kindD, parOk, freshE, parSet, bindG, bindGs, kills, isNon, itemsOf, upO, putO, List.set, List.getElem?_cons_zero, List.getElem?_cons_succ, mkExn, pg, catches, noExn, endH, fGet, flags, field, isIn, lineMax, List.range, List.range.loop]
  | 2, _ => simp [f_law_raised, evE, evA, evEs, evAs, evO, evC, withE, R.bind, toR, cop, eqD, plain, pl, pls, plains, alike, alikes, lt, lts, eqv, eqvs, exSs, exS, exHs, SR.andThen, deref, derefs, snap, bop, opAdd, opMul, idxD, ix, bi, kindD, parOk, freshE, parSet, bindG, bindGs, kills, isNon, itemsOf, upO, putO, List.set, List.getElem?_cons_zero, List.getElem?_cons_succ, mkExn, pg, catches, noExn, endH, fGet, flags, field, isIn, lineMax, List.range, List.range.loop]
  | 3, _ => simp [f_law_raised, evE, evA, evEs, evAs, evO, evC, withE, R.bind, toR, cop, eqD, plain, pl, pls, plains, alike, alikes, lt, lts, eqv, eqvs, exSs, exS, exHs, SR.andThen, deref, derefs, snap, bop, opAdd, opMul, idxD, ix, bi, kindD, parOk, freshE, parSet, bindG, bindGs, kills, isNon, itemsOf, upO, putO, List.set, List.getElem?_cons_zero, List.getElem?_cons_succ, mkExn, pg, catches, noExn, endH, fGet, flags, field, isIn, lineMax, List.range, List.range.loop]
  | 4, _ => simp [f_law_raised, evE, evA, evEs, evAs, evO, evC, withE, R.bind, toR, cop, eqD, plain, pl, pls, plains, alike, alikes, lt, lts, eqv, eqvs, exSs, exS, exHs, SR.andThen, deref, derefs, snap, bop, opAdd, opMul, idxD, ix, bi, kindD, parOk, freshE, parSet, bindG, bindGs, kills, isNon, itemsOf, upO, putO, List.set, List.getElem?_cons_zero, List.getElem?_cons_succ, mkExn, pg, catches, noExn, endH, fGet, flags, field, isIn, lineMax, List.range, List.range.loop]
  | 5, _ => simp [f_law_raised, evE, evA, evEs, evAs, evO, evC, withE, R.bind, toR, cop, eqD, plain, pl, pls, plains, alike, alikes, lt, lts, eqv, eqvs, exSs, exS, exHs, SR.andThen, deref, derefs, snap, bop, opAdd, opMul, idxD, ix, bi, kindD, parOk, freshE, parSet, bindG, bindGs, kills, isNon, itemsOf, upO, putO, List.set, List.getElem?_cons_zero, List.getElem?_cons_succ, mkExn, pg, catches, noExn, endH, fGet, flags, field, isIn, lineMax, List.range, List.range.loop]
  | 6, _ => simp [f_law_raised, evE, evA, evEs, evAs, evO, evC, withE, R.bind, toR, cop, eqD, plain, pl, pls, plains, alike, alikes, lt, lts, eqv, eqvs, exSs, exS, exHs, SR.andThen, deref, derefs, snap, bop, opAdd, opMul, idxD, ix, bi, kindD, parOk, freshE, parSet, bindG, bindGs, kills, isNon, itemsOf, upO, putO, List.set, List.getElem?_cons_zero, List.getElem?_cons_succ, mkExn, pg, catches, noExn, endH, fGet, flags, field, isIn, lineMax, List.range, List.range.loop]
  | 7, _ => simp [f_law_raised, evE, evA, evEs, evAs, evO, evC, withE, R.bind, toR, cop, eqD, plain, pl, pls, plains, alike, alikes, lt, lts, eqv, eqvs, exSs, exS, exHs, SR.andThen, deref, derefs, snap, bop, opAdd, opMul, idxD, ix, bi, kindD, parOk, freshE, parSet, bindG, bindGs, kills, isNon, itemsOf, upO, putO, List.set, List.getElem?_cons_zero, List.getElem?_cons_succ, mkExn, pg, catches, noExn, endH, fGet, flags, field, isIn, lineMax, List.range, List.range.loop]
  | 8, _ => simp [f_law_raised, evE, evA, evEs, evAs, evO, evC, withE, R.bind, toR, cop, eqD, plain, pl, pls, plains, alike, alikes, lt, lts, eqv, eqvs, exSs, exS, exHs, SR.andThen, deref, derefs, snap, bop, opAdd, opMul, idxD, ix, bi, kindD, parOk, freshE, parSet, bindG, bindGs, kills, isNon, itemsOf, upO, putO, List.set, List.getElem?_cons_zero, List.getElem?_cons_succ, mkExn, pg, catches, noExn, endH, fGet, flags, field, isIn, lineMax, List.range, List.range.loop]
  | 9, _ => simp [f_law_raised, evE, evA, evEs, evAs, evO, evC, withE, R.bind, toR, cop, eqD, plain, pl, pls, plains, alike, alikes, lt, lts, eqv, eqvs, exSs, exS, exHs, SR.andThen, deref, derefs, snap, bop, opAdd, opMul, idxD, ix, bi, kindD, parOk, freshE, parSet, bindG, bindGs, kills, isNon, itemsOf, upO, putO, List.set, List.getElem?_cons_zero, List.getElem?_cons_succ, mkExn, pg, catches, noExn, endH, fGet, flags, field, isIn, lineMax, List.range, List.range.loop]
theorem cl_pick {k : Nat} {xs : List Int} {i s r : Int} {ys : List D} (h0 : ys ≠ []) (h1 : ys.length < 1000) (hi : 0 ≤ i) (hr : 0 ≤ r) (hs : s.natAbs < 2 ^ 31) :
    ∃ (d : D) (i' s' r' : Int), d ∈ ys ∧ 0 ≤ i' ∧ 0 ≤ r' ∧ s'.natAbs < 2 ^ 31 ∧ callF pg (P2.run pg (k + 2)) 1 [.loc 0, .lst ys] [sc xs i s r] = .ok d [sc xs i' s' r'] := by
  have hl : 0 < ys.length := List.length_pos_iff.mpr h0
  obtain ⟨t, i1, s1, r1, a1, b1, c1, d1, e1, f1⟩ := cl_taken (k := k) (xs := xs) (i := i) (s := s) (r := r) (m := ys.length) (by omega) (by omega) hi hr hs
  obtain ⟨n, rfl⟩ := Int.eq_ofNat_of_zero_le a1
  have hn : n < ys.length := by omega
  refine ⟨ys[n], i1, s1, r1, List.getElem_mem hn, c1, d1, e1, call_of (F := ⟨2, 2, f_law_pick⟩) (L' := [.val (.loc 0), .val (.lst ys)]) rfl rfl ?_⟩
  have hn4 : (n : Int) < ys.length := by omega
  simp [f_law_pick, evE, evA, evEs, evAs, evO, evC, withE, R.bind, toR, cop, eqD, plain, pl, pls, plains, alike, alikes, lt, lts, eqv, eqvs, exSs, exS, exHs, SR.andThen, deref, derefs, snap, bop, opAdd, opMul, idxD, ix, bi, kindD, parOk, freshE, parSet, bindG, bindGs, kills, isNon, itemsOf, upO, putO, List.set, List.getElem?_cons_zero, List.getElem?_cons_succ, f1, hn, hn4]
/-- the kinds of values -/
def kin (t : Int) : List D := [.non, .int 7, .str [120], .tup [.int 1, .int 2], .bl true, .int t]
def nam : List D := [.tup [], .tup [.str [97]]]
def S1 : Xs := (.asg (.name 1) (.newL (.cons (.var 0) (.cons (.int 0) (.cons (.int 53) (.cons (.int 0) .nil))))))
def S2 : Xs := (.for_ (.name 2) (.range1 (.int 10)) (.cons (.asg (.name 3) (.call 1 (.cons (.var 1) (.cons (.lst (.cons .non (.cons (.int 7) (.cons (.str [120]) (.cons (.tup (.cons (.int 1) (.cons (.int 2) .nil))) (.cons (.bl true) (.cons (.call 0 (.cons (.var 1) (.cons (.op .pow (.int 10) (.int 9)) .nil))) .nil))))))) .nil)))) (.cons (.asg (.name 4) (.call 1 (.cons (.var 1) (.cons (.lst (.cons (.tup .nil) (.cons (.tup (.cons (.str [97]) .nil)) .nil))) .nil)))) (.cons (.asg (.name 5) (.call 3 (.cons (.var 2) (.cons (.var 3) (.cons (.var 4) .nil))))) (.cons (.ifs (.or (.cmp .is (.var 5) .non) (.cmp .ne (.idx (.var 5) (.int 0)) (.comp (.cmp .eq (.var 8) (.var 2)) (.name 8) (.range1 (.int 10)) .none))) (.cons (.ret (.bl false)) .nil) .nil) (.cons (.asg (.name 6) (.var 3)) (.cons (.ifs (.cmp .eq (.var 2) (.int 8)) (.cons (.asg (.name 6) (.tup (.cons (.var 3) (.cons (.var 4) .nil)))) .nil) .nil) (.cons (.ifs (.and (.cmp .lt (.var 2) (.int 9)) (.or (.cmp .ne (.idx (.var 5) (.int 1)) (.var 6)) (.cmp .ne (.bi .isBool (.cons (.idx (.var 5) (.int 1)) .nil)) (.bi .isBool (.cons (.var 6) .nil))))) (.cons (.ret (.bl false)) .nil) .nil) .nil))))))) [2, 3, 4, 5, 6])
def S3 : Xs := (.asg (.name 7) (.lst (.cons (.xnew 1 [0] (.cons (.int 1) .nil) 0) (.cons (.xnew 2 [0] (.cons (.str [97]) .nil) 0) (.cons (.xnew 3 [1] (.cons (.int 4) .nil) 1) (.cons (.xnew 4 [0] (.cons (.int 5) .nil) 0) (.cons (.xnew 5 [2] (.cons (.int 6) .nil) 2) .nil)))))))
def S4 : Xs := (.asg (.name 7) (.op .add (.var 7) (.lst (.cons (.xnew 6 [3] (.cons (.int 7) .nil) 3) (.cons (.xnew 7 [0] (.cons (.int 8) .nil) 0) (.cons (.xnew 8 [0] (.cons (.int 9) .nil) 0) (.cons (.xnew 9 [4, 5] (.cons (.str [114]) (.cons (.int 11) .nil)) 5) (.cons (.xnew 9 [5, 4] (.cons (.int 1) (.cons (.str [115]) .nil)) 4) .nil))))))))
def S5 : Xs := (.ret (.call 2 (.cons (.var 7) (.cons (.lst (.cons (.int 1) (.cons (.str [97]) (.cons (.int 4) (.cons (.int 5) (.cons (.int 6) (.cons (.int 7) (.cons (.int 8) (.cons (.int 9) (.cons (.int 11) (.cons (.str [115]) .nil))))))))))) .nil))))
theorem S_eq : f_law = (.cons S1 (.cons S2 (.cons S3 (.cons S4 (.cons S5 .nil))))) := rfl
end K09
end

section
/-! K09b: the law of errors, its statements. -/
set_option autoImplicit false
set_option Elab.async false
set_option linter.all false
set_option maxRecDepth 100000
set_option maxHeartbeats 4000000
namespace K09
open P2 U
def B1 : Xs := (.asg (.name 3) (.call 1 (.cons (.var 1) (.cons (.lst (.cons .non (.cons (.int 7) (.cons (.str [120]) (.cons (.tup (.cons (.int 1) (.cons (.int 2) .nil))) (.cons (.bl true) (.cons (.call 0 (.cons (.var 1) (.cons (.op .pow (.int 10) (.int 9)) .nil))) .nil))))))) .nil))))
def B2 : Xs := (.asg (.name 4) (.call 1 (.cons (.var 1) (.cons (.lst (.cons (.tup .nil) (.cons (.tup (.cons (.str [97]) .nil)) .nil))) .nil))))
def B3 : Xs := (.asg (.name 5) (.call 3 (.cons (.var 2) (.cons (.var 3) (.cons (.var 4) .nil)))))
def B4 : Xs := (.ifs (.or (.cmp .is (.var 5) .non) (.cmp .ne (.idx (.var 5) (.int 0)) (.comp (.cmp .eq (.var 8) (.var 2)) (.name 8) (.range1 (.int 10)) .none))) (.cons (.ret (.bl false)) .nil) .nil)
def B5 : Xs := (.asg (.name 6) (.var 3))
def B6 : Xs := (.ifs (.cmp .eq (.var 2) (.int 8)) (.cons (.asg (.name 6) (.tup (.cons (.var 3) (.cons (.var 4) .nil)))) .nil) .nil)
def B7 : Xs := (.ifs (.and (.cmp .lt (.var 2) (.int 9)) (.or (.cmp .ne (.idx (.var 5) (.int 1)) (.var 6)) (.cmp .ne (.bi .isBool (.cons (.idx (.var 5) (.int 1)) .nil)) (.bi .isBool (.cons (.var 6) .nil))))) (.cons (.ret (.bl false)) .nil) .nil)
def B : Xss := (.cons B1 (.cons B2 (.cons B3 (.cons B4 (.cons B5 (.cons B6 (.cons B7 .nil)))))))
theorem B_eq : S2 = .for_ (.name 2) (.range1 (.int 10)) B [2, 3, 4, 5, 6] := rfl
theorem seq {k : Nat} {s : Xs} {r : Xss} {L L' : List Slot} {h h' : DHp} (e : exS pg (P2.run pg k) s L h = .nx L' h') : exSs pg (P2.run pg k) (.cons s r) L h = exSs pg (P2.run pg k) r L' h' := by
  simp only [exSs, e, SR.andThen]
theorem asg1 {k : Nat} {X1 : Xe} {i : Nat} {L : List Slot} {h h' : DHp} {d : D} (h1 : evE pg (P2.run pg k) X1 L h = .ok d h') :
    exS pg (P2.run pg k) (.asg (.name i) X1) L h = .nx (L.set i (.val d)) h' := by
  simp [exS, h1, withE, bindG]
theorem ifs_no {k : Nat} {c : Xe} {a : Xss} {L : List Slot} {h h' : DHp} (e : evE pg (P2.run pg k) c L h = .ok (.bl false) h') : exS pg (P2.run pg k) (.ifs c a .nil) L h = .nx L h' := by
  simp only [exS, e, withE, exSs]
theorem cmp_ls {k : Nat} {a b : Xe} {L : List Slot} {h h1 h2 : DHp} {xs ys : List D} (ea : evA pg (P2.run pg k) a L h = .ok (.lst xs) h1) (eb : evA pg (P2.run pg k) b L h1 = .ok (.lst ys) h2) (p1 : pls 39 xs = true) (p2 : pls 39 ys = true) (p3 : eqvs xs ys = true) : evE pg (P2.run pg k) (.cmp .ne a b) L h = .ok (.bl false) h2 := by
  rw [evE, ea]
  simp only [R.bind, eb, deref]
  simp [cop, eqD, plain, pl, p1, p2, eqv, p3, toR]
inductive Gd : D → Prop
  | non : Gd .non
  | bl (b : Bool) : Gd (.bl b)
  | int (i : Int) : Gd (.int i)
  | str (s : List Nat) : Gd (.str s)
  | tup {xs : List D} : pls 39 xs = true → eqvs xs xs = true → Gd (.tup xs)
theorem kin_gd {t : Int} {d : D} (h : d ∈ kin t) : Gd d := by
  simp only [kin, List.mem_cons, List.not_mem_nil, or_false] at h
  rcases h with rfl | rfl | rfl | rfl | rfl | rfl
  · exact .non
  · exact .int _
  · exact .str _
  · exact .tup (by decide) (by decide)
  · exact .bl _
  · exact .int _
theorem kin_gd2 {t : Int} {d e : D} (h : d ∈ kin t) (h2 : e ∈ nam) : Gd (.tup [d, e]) := by
  simp only [kin, List.mem_cons, List.not_mem_nil, or_false] at h
  simp only [nam, List.mem_cons, List.not_mem_nil, or_false] at h2
  rcases h2 with rfl | rfl <;> rcases h with rfl | rfl | rfl | rfl | rfl | rfl <;> exact .tup (by simp [pls, pl]) (by simp [eqvs, eqv])
theorem flags_ok {n : Nat} (hn : n < 10) : (∃ xs, flags n = .lst xs ∧ pls 39 xs = true ∧ eqvs xs xs = true) ∧ (up 0 10).map (fun x => D.bl (eqv x (.int n))) = (List.range 10).map fun k => D.bl (k == n) := by
  match n, hn with
  | 0, _ => exact ⟨⟨_, rfl, by decide, by decide⟩, by simp [up, eqv, List.range, List.range.loop]⟩
  | 1, _ => exact ⟨⟨_, rfl, by decide, by decide⟩, by simp [up, eqv, List.range, List.range.loop]⟩
  | 2, _ => exact ⟨⟨_, rfl, by decide, by decide⟩, by simp [up, eqv, List.range, List.range.loop]⟩
  | 3, _ => exact ⟨⟨_, rfl, by decide, by decide⟩, by simp [up, eqv, List.range, List.range.loop]⟩
  | 4, _ => exact ⟨⟨_, rfl, by decide, by decide⟩, by simp [up, eqv, List.range, List.range.loop]⟩
  | 5, _ => exact ⟨⟨_, rfl, by decide, by decide⟩, by simp [up, eqv, List.range, List.range.loop]⟩
  | 6, _ => exact ⟨⟨_, rfl, by decide, by decide⟩, by simp [up, eqv, List.range, List.range.loop]⟩
  | 7, _ => exact ⟨⟨_, rfl, by decide, by decide⟩, by simp [up, eqv, List.range, List.range.loop]⟩
  | 8, _ => exact ⟨⟨_, rfl, by decide, by decide⟩, by simp [up, eqv, List.range, List.range.loop]⟩
  | 9, _ => exact ⟨⟨_, rfl, by decide, by decide⟩, by simp [up, eqv, List.range, List.range.loop]⟩
theorem b4_ok {k n : Nat} {x0 x3 x4 : Slot} {F : D} {h : DHp} (hn : n < 10) : exS pg (P2.run pg k) B4 [x0, .val (.loc 0), .val (.int n), x3, x4, .val (.tup [flags n, F]), .emp, .emp, .emp] h = .nx [x0, .val (.loc 0), .val (.int n), x3, x4, .val (.tup [flags n, F]), .emp, .emp, .emp] h := by
  obtain ⟨⟨xs, hx, px, ex⟩, hm⟩ := flags_ok hn
  have hc : evE pg (P2.run pg k) (.comp (.cmp .eq (.var 8) (.var 2)) (.name 8) (.range1 (.int 10)) .none) [x0, .val (.loc 0), .val (.int n), x3, x4, .val (.tup [flags n, F]), .emp, .emp, .emp] h = .ok (flags n) h := by
    have hr : rng 0 10 1 = up 0 10 := rng_up 0 10
    have hcl : compL (evE pg (P2.run pg k) (.cmp .eq (.var 8) (.var 2))) (evC pg (P2.run pg k) .none) (.name 8) [x0, .val (.loc 0), .val (.int n), x3, x4, .val (.tup [flags n, F]), .emp, .emp, .emp] (up 0 10) [] h = .ok ([] ++ ((up 0 10).filter fun _ => true).map fun x => D.bl (eqv x (.int n))) h := by
      refine compL_filter (fun _ => true) (fun x => D.bl (eqv x (.int n))) _ _ fun x hx => ?_
      obtain ⟨i, rfl, _, _⟩ := mem_up hx
      refine ⟨[x0, .val (.loc 0), .val (.int n), x3, x4, .val (.tup [flags n, F]), .emp, .emp, .val (.int i)], rfl, by simp only [evC], ?_⟩
      simp [evE, evA, evEs, evAs, evO, evC, withE, R.bind, toR, cop, eqD, plain, pl, pls, plains, alike, alikes, lt, lts, eqv, eqvs, exSs, exS, exHs, SR.andThen, deref, derefs, snap, bop, opAdd, opMul, idxD, ix, bi, kindD, parOk, freshE, parSet, bindG, bindGs, kills, isNon, itemsOf, upO, putO, List.set, List.getElem?_cons_zero, List.getElem?_cons_succ]
    rw [evE]
    have : evI pg (P2.run pg k) (.range1 (.int 10)) [x0, .val (.loc 0), .val (.int n), x3, x4, .val (.tup [flags n, F]), .emp, .emp, .emp] h = .ok (up 0 10) h := by simp [evI, evE, R.bind, hr]
    rw [this]
    simp only [R.bind, up_length, gSlots, kills, List.set, hcl, noEx]
    have hf : (up 0 10).filter (fun _ => true) = up 0 10 := List.filter_eq_self.mpr fun _ _ => rfl
    rw [hf, List.nil_append, hm, if_pos (show (10 : Nat) ≤ lineMax by decide)]
    rfl
  refine ifs_no ?_
  rw [evE]
  have e1 : evE pg (P2.run pg k) (.cmp .is (.var 5) .non) [x0, .val (.loc 0), .val (.int n), x3, x4, .val (.tup [flags n, F]), .emp, .emp, .emp] h = .ok (.bl false) h := by simp [evE, evA, evEs, evAs, evO, evC, withE, R.bind, toR, cop, eqD, plain, pl, pls, plains, alike, alikes, lt, lts, eqv, eqvs, exSs, exS, exHs, SR.andThen, deref, derefs, snap, bop, opAdd, opMul, idxD, ix, bi, kindD, parOk, freshE, parSet, bindG, bindGs, kills, isNon, itemsOf, upO, putO, List.set, List.getElem?_cons_zero, List.getElem?_cons_succ]
  rw [e1]
  simp only [R.bind]
  have e2 : evE pg (P2.run pg k) (.cmp .ne (.idx (.var 5) (.int 0)) (.comp (.cmp .eq (.var 8) (.var 2)) (.name 8) (.range1 (.int 10)) .none)) [x0, .val (.loc 0), .val (.int n), x3, x4, .val (.tup [flags n, F]), .emp, .emp, .emp] h = .ok (.bl false) h := by
    refine cmp_ls (xs := xs) (ys := xs) (h1 := h) ?_ ?_ px px ex
    · rw [← hx]; simp [evE, evA, evEs, evAs, evO, evC, withE, R.bind, toR, cop, eqD, plain, pl, pls, plains, alike, alikes, lt, lts, eqv, eqvs, exSs, exS, exHs, SR.andThen, deref, derefs, snap, bop, opAdd, opMul, idxD, ix, bi, kindD, parOk, freshE, parSet, bindG, bindGs, kills, isNon, itemsOf, upO, putO, List.set, List.getElem?_cons_zero, List.getElem?_cons_succ]
    · rw [evA, hc, hx]
      intro i e; cases e
  rw [e2]
theorem b7_ok {k n : Nat} {x0 x3 x4 : Slot} {Y F : D} {h : DHp} (hn : n < 9) (g : Gd F) : exS pg (P2.run pg k) B7 [x0, .val (.loc 0), .val (.int n), x3, x4, .val (.tup [Y, F]), .val F, .emp, .emp] h = .nx [x0, .val (.loc 0), .val (.int n), x3, x4, .val (.tup [Y, F]), .val F, .emp, .emp] h := by
  have hn' : (n : Int) < 9 := by omega
  cases g with
  | non => simp [B7, evE, evA, evEs, evAs, evO, evC, withE, R.bind, toR, cop, eqD, plain, pl, pls, plains, alike, alikes, lt, lts, eqv, eqvs, exSs, exS, exHs, SR.andThen, deref, derefs, snap, bop, opAdd, opMul, idxD, ix, bi, kindD, parOk, freshE, parSet, bindG, bindGs, kills, isNon, itemsOf, upO, putO, List.set, List.getElem?_cons_zero, List.getElem?_cons_succ, hn', hn]
  | bl b => simp [B7, evE, evA, evEs, evAs, evO, evC, withE, R.bind, toR, cop, eqD, plain, pl, pls, plains, alike, alikes, lt, lts, eqv, eqvs, exSs, exS, exHs, SR.andThen, deref, derefs, snap, bop, opAdd, opMul, idxD, ix, bi, kindD, parOk, freshE, parSet, bindG, bindGs, kills, isNon, itemsOf, upO, putO, List.set, List.getElem?_cons_zero, List.getElem?_cons_succ, hn', hn]
  | int j => simp [B7, evE, evA, evEs, evAs, evO, evC, withE, R.bind, toR, cop, eqD, plain, pl, pls, plains, alike, alikes, lt, lts, eqv, eqvs, exSs, exS, exHs, SR.andThen, deref, derefs, snap, bop, opAdd, opMul, idxD, ix, bi, kindD, parOk, freshE, parSet, bindG, bindGs, kills, isNon, itemsOf, upO, putO, List.set, List.getElem?_cons_zero, List.getElem?_cons_succ, hn', hn]
  | str z => simp [B7, evE, evA, evEs, evAs, evO, evC, withE, R.bind, toR, cop, eqD, plain, pl, pls, plains, alike, alikes, lt, lts, eqv, eqvs, exSs, exS, exHs, SR.andThen, deref, derefs, snap, bop, opAdd, opMul, idxD, ix, bi, kindD, parOk, freshE, parSet, bindG, bindGs, kills, isNon, itemsOf, upO, putO, List.set, List.getElem?_cons_zero, List.getElem?_cons_succ, hn', hn]
  | tup p e => simp [B7, evE, evA, evEs, evAs, evO, evC, withE, R.bind, toR, cop, eqD, plain, pl, pls, plains, alike, alikes, lt, lts, eqv, eqvs, exSs, exS, exHs, SR.andThen, deref, derefs, snap, bop, opAdd, opMul, idxD, ix, bi, kindD, parOk, freshE, parSet, bindG, bindGs, kills, isNon, itemsOf, upO, putO, List.set, List.getElem?_cons_zero, List.getElem?_cons_succ, hn', hn, p, e]
theorem b7_no {k : Nat} {x0 x3 x4 x5 x6 : Slot} {h : DHp} : exS pg (P2.run pg k) B7 [x0, .val (.loc 0), .val (.int 9), x3, x4, x5, x6, .emp, .emp] h = .nx [x0, .val (.loc 0), .val (.int 9), x3, x4, x5, x6, .emp, .emp] h := by
  simp [B7, evE, evA, evEs, evAs, evO, evC, withE, R.bind, toR, cop, eqD, plain, pl, pls, plains, alike, alikes, lt, lts, eqv, eqvs, exSs, exS, exHs, SR.andThen, deref, derefs, snap, bop, opAdd, opMul, idxD, ix, bi, kindD, parOk, freshE, parSet, bindG, bindGs, kills, isNon, itemsOf, upO, putO, List.set, List.getElem?_cons_zero, List.getElem?_cons_succ]
theorem body_ok {k n : Nat} {ns : List Int} {i s r : Int} {x0 : Slot} (hn : n < 10) (hi : 0 ≤ i) (hr : 0 ≤ r) (hs : s.natAbs < 2 ^ 31) :
    ∃ (i' s' r' : Int) (a b c d : Slot), 0 ≤ i' ∧ 0 ≤ r' ∧ s'.natAbs < 2 ^ 31 ∧ exSs pg (P2.run pg (k + 3)) B [x0, .val (.loc 0), .val (.int n), .emp, .emp, .emp, .emp, .emp, .emp] [sc ns i s r] = .nx [x0, .val (.loc 0), .val (.int n), a, b, c, d, .emp, .emp] [sc ns i' s' r'] := by
  obtain ⟨t, i1, s1, r1, a1, b1, c1, d1, e1, f1⟩ := cl_taken (k := k + 2) (xs := ns) (i := i) (s := s) (r := r) (m := 10 ^ 9) (by decide) (by decide) hi hr hs
  obtain ⟨d, i2, s2, r2, a2, c2, d2, e2, f2⟩ := cl_pick (k := k + 1) (xs := ns) (i := i1) (s := s1) (r := r1) (ys := kin t) (by simp [kin]) (by simp [kin]) c1 d1 e1
  obtain ⟨e, i3, s3, r3, a3, c3, d3, e3, f3⟩ := cl_pick (k := k + 1) (xs := ns) (i := i2) (s := s2) (r := r2) (ys := nam) (by simp [nam]) (by simp [nam]) c2 d2 e2
  have f4 : ∀ h, callF pg (P2.run pg (k + 3)) 3 [.int n, d, e] h = .ok (.tup [flags n, field n d e]) h := cl_raised (k := k + 2) hn
  have hpow : (10 : Int) ^ (Int.toNat 9) = 10 ^ 9 := rfl
  have q1 : exS pg (P2.run pg (k + 3)) B1 [x0, .val (.loc 0), .val (.int n), .emp, .emp, .emp, .emp, .emp, .emp] [sc ns i s r] = .nx [x0, .val (.loc 0), .val (.int n), .val d, .emp, .emp, .emp, .emp, .emp] [sc ns i2 s2 r2] := by
    refine asg1 ?_
    have a : evEs pg (P2.run pg (k + 3)) (.cons (.var 1) (.cons (.lst (.cons .non (.cons (.int 7) (.cons (.str [120]) (.cons (.tup (.cons (.int 1) (.cons (.int 2) .nil))) (.cons (.bl true) (.cons (.call 0 (.cons (.var 1) (.cons (.op .pow (.int 10) (.int 9)) .nil))) .nil))))))) .nil)) [x0, .val (.loc 0), .val (.int n), .emp, .emp, .emp, .emp, .emp, .emp] [sc ns i s r] = .ok [.loc 0, .lst (kin t)] [sc ns i1 s1 r1] := by
      have f1' : callF pg (P2.run pg (k + 3)) 0 [.loc 0, .int 1000000000] [sc ns i s r] = .ok (.int t) [sc ns i1 s1 r1] := f1
      simp [evE, evA, evEs, evAs, evO, evC, withE, R.bind, toR, cop, eqD, plain, pl, pls, plains, alike, alikes, lt, lts, eqv, eqvs, exSs, exS, exHs, SR.andThen, deref, derefs, snap, bop, opAdd, opMul, idxD, ix, bi, kindD, parOk, freshE, parSet, bindG, bindGs, kills, isNon, itemsOf, upO, putO, List.set, List.getElem?_cons_zero, List.getElem?_cons_succ, f1', kin]
    rw [evE, a]
    exact f2
  have q2 : exS pg (P2.run pg (k + 3)) B2 [x0, .val (.loc 0), .val (.int n), .val d, .emp, .emp, .emp, .emp, .emp] [sc ns i2 s2 r2] = .nx [x0, .val (.loc 0), .val (.int n), .val d, .val e, .emp, .emp, .emp, .emp] [sc ns i3 s3 r3] := by
    refine asg1 ?_
    have a : evEs pg (P2.run pg (k + 3)) (.cons (.var 1) (.cons (.lst (.cons (.tup .nil) (.cons (.tup (.cons (.str [97]) .nil)) .nil))) .nil)) [x0, .val (.loc 0), .val (.int n), .val d, .emp, .emp, .emp, .emp, .emp] [sc ns i2 s2 r2] = .ok [.loc 0, .lst nam] [sc ns i2 s2 r2] := by
      simp [evE, evA, evEs, evAs, evO, evC, withE, R.bind, toR, cop, eqD, plain, pl, pls, plains, alike, alikes, lt, lts, eqv, eqvs, exSs, exS, exHs, SR.andThen, deref, derefs, snap, bop, opAdd, opMul, idxD, ix, bi, kindD, parOk, freshE, parSet, bindG, bindGs, kills, isNon, itemsOf, upO, putO, List.set, List.getElem?_cons_zero, List.getElem?_cons_succ, nam]
    rw [evE, a]
    exact f3
  have q3 : exS pg (P2.run pg (k + 3)) B3 [x0, .val (.loc 0), .val (.int n), .val d, .val e, .emp, .emp, .emp, .emp] [sc ns i3 s3 r3] = .nx [x0, .val (.loc 0), .val (.int n), .val d, .val e, .val (.tup [flags n, field n d e]), .emp, .emp, .emp] [sc ns i3 s3 r3] := by
    refine asg1 ?_
    simp [evE, evA, evEs, evAs, evO, evC, withE, R.bind, toR, cop, eqD, plain, pl, pls, plains, alike, alikes, lt, lts, eqv, eqvs, exSs, exS, exHs, SR.andThen, deref, derefs, snap, bop, opAdd, opMul, idxD, ix, bi, kindD, parOk, freshE, parSet, bindG, bindGs, kills, isNon, itemsOf, upO, putO, List.set, List.getElem?_cons_zero, List.getElem?_cons_succ, f4]
  have q5 : exS pg (P2.run pg (k + 3)) B5 [x0, .val (.loc 0), .val (.int n), .val d, .val e, .val (.tup [flags n, field n d e]), .emp, .emp, .emp] [sc ns i3 s3 r3] = .nx [x0, .val (.loc 0), .val (.int n), .val d, .val e, .val (.tup [flags n, field n d e]), .val d, .emp, .emp] [sc ns i3 s3 r3] := by
    simp [B5, evE, evA, evEs, evAs, evO, evC, withE, R.bind, toR, cop, eqD, plain, pl, pls, plains, alike, alikes, lt, lts, eqv, eqvs, exSs, exS, exHs, SR.andThen, deref, derefs, snap, bop, opAdd, opMul, idxD, ix, bi, kindD, parOk, freshE, parSet, bindG, bindGs, kills, isNon, itemsOf, upO, putO, List.set, List.getElem?_cons_zero, List.getElem?_cons_succ]
  refine ⟨i3, s3, r3, .val d, .val e, .val (.tup [flags n, field n d e]), .val (if n = 8 then .tup [d, e] else d), c3, d3, e3, ?_⟩
  unfold B
  rw [seq q1, seq q2, seq q3, seq (b4_ok hn), seq q5]
  by_cases h8 : n = 8
  · subst h8
    have q6 : exS pg (P2.run pg (k + 3)) B6 [x0, .val (.loc 0), .val (.int (8 : Nat)), .val d, .val e, .val (.tup [flags 8, field 8 d e]), .val d, .emp, .emp] [sc ns i3 s3 r3] = .nx [x0, .val (.loc 0), .val (.int (8 : Nat)), .val d, .val e, .val (.tup [flags 8, field 8 d e]), .val (.tup [d, e]), .emp, .emp] [sc ns i3 s3 r3] := by
      simp [B6, evE, evA, evEs, evAs, evO, evC, withE, R.bind, toR, cop, eqD, plain, pl, pls, plains, alike, alikes, lt, lts, eqv, eqvs, exSs, exS, exHs, SR.andThen, deref, derefs, snap, bop, opAdd, opMul, idxD, ix, bi, kindD, parOk, freshE, parSet, bindG, bindGs, kills, isNon, itemsOf, upO, putO, List.set, List.getElem?_cons_zero, List.getElem?_cons_succ]
    have ef : field 8 d e = .tup [d, e] := rfl
    rw [seq q6, ef, seq (b7_ok (n := 8) (by decide) (kin_gd2 a2 a3))]
    rfl
  · have q6 : exS pg (P2.run pg (k + 3)) B6 [x0, .val (.loc 0), .val (.int n), .val d, .val e, .val (.tup [flags n, field n d e]), .val d, .emp, .emp] [sc ns i3 s3 r3] = .nx [x0, .val (.loc 0), .val (.int n), .val d, .val e, .val (.tup [flags n, field n d e]), .val d, .emp, .emp] [sc ns i3 s3 r3] := by
      have h8' : ((n : Int) == 8) = false := by rw [beq_eq_false_iff_ne]; omega
      simp [B6, evE, evA, evEs, evAs, evO, evC, withE, R.bind, toR, cop, eqD, plain, pl, pls, plains, alike, alikes, lt, lts, eqv, eqvs, exSs, exS, exHs, SR.andThen, deref, derefs, snap, bop, opAdd, opMul, idxD, ix, bi, kindD, parOk, freshE, parSet, bindG, bindGs, kills, isNon, itemsOf, upO, putO, List.set, List.getElem?_cons_zero, List.getElem?_cons_succ, h8']
    rw [seq q6]
    by_cases h9 : n = 9
    · subst h9
      rw [show (.int ((9 : Nat) : Int) : D) = .int 9 from rfl, seq b7_no]
      rfl
    · have ef : field n d e = d := by simp [field, h8, h9]
      rw [ef, seq (b7_ok (n := n) (by omega) (kin_gd a2)), if_neg h8]
      rfl
end K09
end

section
/-! K09c: the law of errors, its end. -/
set_option autoImplicit false
set_option Elab.async false
set_option linter.all false
set_option maxRecDepth 100000
set_option maxHeartbeats 4000000
namespace K09
open P2 U
theorem loop_ok {k : Nat} {ns : List Int} {x0 : Slot} : ∀ (m n : Nat) (i s r : Int), n + m = 10 → 0 ≤ i → 0 ≤ r → s.natAbs < 2 ^ 31 →
    ∃ (i' s' r' : Int), forL (fun L h => exSs pg (P2.run pg (k + 3)) B L h) (.name 2) [2, 3, 4, 5, 6] (up n m) [x0, .val (.loc 0), .emp, .emp, .emp, .emp, .emp, .emp, .emp] [sc ns i s r] = .nx [x0, .val (.loc 0), .emp, .emp, .emp, .emp, .emp, .emp, .emp] [sc ns i' s' r']
  | 0, n, i, s, r, _, _, _, _ => ⟨i, s, r, rfl⟩
  | m + 1, n, i, s, r, hn, hi, hr, hs => by
    obtain ⟨i1, s1, r1, a, b, c, d, g1, g2, g3, g4⟩ := body_ok (k := k) (n := n) (ns := ns) (x0 := x0) (by omega) hi hr hs
    obtain ⟨i2, s2, r2, e⟩ := loop_ok (k := k) (ns := ns) (x0 := x0) m (n + 1) i1 s1 r1 (by omega) g1 g2 g3
    refine ⟨i2, s2, r2, ?_⟩
    rw [up]
    simp only [forL, bindG, List.set, g4, SR.andThen, kills]
    exact e
def made1 : List D := [.int 1, .str [97], .int 4, .int 5, .int 6]
def made : List D := [.int 1, .str [97], .int 4, .int 5, .int 6, .int 7, .int 8, .int 9, .int 11, .str [115]]
theorem made_ok {k : Nat} {d : D} (h : d ∈ made) : Cl (k + 1) 2 [d, d] (.bl true) := by
  simp only [made, List.mem_cons, List.not_mem_nil, or_false] at h
  rcases h with rfl | rfl | rfl | rfl | rfl | rfl | rfl | rfl | rfl | rfl
  all_goals first | exact cl_alike_int | exact cl_alike_str
theorem cl_alike_lst {k : Nat} {ds : List D} (hl : ds.length ≤ 1000) (hd : ∀ d ∈ ds, Cl k 2 [d, d] (.bl true)) : Cl (k + 1) 2 [.lst ds, .lst ds] (.bl true) := by
  refine cl_of (F := ⟨2, 3, f_law_alike⟩) rfl rfl fun h => ⟨[.val (.lst ds), .val (.lst ds), .emp], ?_⟩
  have hc : compL (evE pg (P2.run pg k) (.var 2)) (evC pg (P2.run pg k) alC) (.name 2) [.val (.lst ds), .val (.lst ds), .emp] (up 0 ds.length) [] h = .ok [] h := by
    refine compL_none _ _ fun x hx => ?_
    obtain ⟨i, rfl, h0, h1⟩ := mem_up hx
    obtain ⟨n, rfl⟩ := Int.eq_ofNat_of_zero_le h0
    have hn : n < ds.length := by omega
    refine ⟨[.val (.lst ds), .val (.lst ds), .val (.int n)], rfl, ?_⟩
    have r := fun h => hd ds[n] (List.getElem_mem hn) h
    have hn4 : (n : Int) < ds.length := by omega
    simp [alC, evE, evA, evEs, evAs, evO, evC, withE, R.bind, toR, cop, eqD, plain, pl, pls, plains, alike, alikes, lt, lts, eqv, eqvs, exSs, exS, exHs, SR.andThen, deref, derefs, snap, bop, opAdd, opMul, idxD, ix, bi, kindD, parOk, freshE, parSet, bindG, bindGs, kills, isNon, itemsOf, upO, putO, List.set, List.getElem?_cons_zero, List.getElem?_cons_succ, hn, hn4, r]
  have hr := rng_up 0 ds.length
  have e2 : ((ds.length : Int) - 0).toNat = ds.length := by omega
  rw [e2] at hr
  have hb : (ds.length : Int).natAbs < 2 ^ 60 := by omega
  have hb2 : ds.length < 2 ^ 60 := by omega
  have hlm : ds.length ≤ lineMax := by unfold lineMax; omega
  have e1 : f_law_alike = .cons (.ifs (.bi .isRow (.cons (.var 1) .nil)) (.cons (.ifs (.or (.inot (.bi .isRow (.cons (.var 0) .nil))) (.cmp .ne (.bi .isLst (.cons (.var 0) .nil)) (.bi .isLst (.cons (.var 1) .nil)))) (.cons (.ret (.bl false)) .nil) .nil) (.cons (.ifs (.cmp .ne (.bi .len (.cons (.var 0) .nil)) (.bi .len (.cons (.var 1) .nil))) (.cons (.ret (.bl false)) .nil) .nil) (.cons (.ret (.cmp .eq (.comp (.var 2) (.name 2) (.range1 (.bi .len (.cons (.var 1) .nil))) alC) (.lst .nil))) .nil))) .nil) (.cons (.ifs (.or (.cmp .is (.var 1) .non) (.bi .isStr (.cons (.var 1) .nil))) (.cons (.ret (.and (.cmp .eq (.var 0) (.var 1)) (.cmp .eq (.bi .isStr (.cons (.var 0) .nil)) (.bi .isStr (.cons (.var 1) .nil))))) .nil) .nil) (.cons (.ret (.and (.bi .isInt (.cons (.var 0) .nil)) (.and (.cmp .eq (.bi .isBool (.cons (.var 0) .nil)) (.bi .isBool (.cons (.var 1) .nil))) (.cmp .eq (.var 0) (.var 1))))) .nil)) := rfl
  have h5 : evE pg (P2.run pg k) (.comp (.var 2) (.name 2) (.range1 (.bi .len (.cons (.var 1) .nil))) alC) [.val (.lst ds), .val (.lst ds), .emp] h = .ok (.lst []) h := by
    rw [evE]
    have : evI pg (P2.run pg k) (.range1 (.bi .len (.cons (.var 1) .nil))) [.val (.lst ds), .val (.lst ds), .emp] h = .ok (up 0 ds.length) h := by
      simp [evI, evE, evA, evEs, evAs, evO, evC, withE, R.bind, toR, cop, eqD, plain, pl, pls, plains, alike, alikes, lt, lts, eqv, eqvs, exSs, exS, exHs, SR.andThen, deref, derefs, snap, bop, opAdd, opMul, idxD, ix, bi, kindD, parOk, freshE, parSet, bindG, bindGs, kills, isNon, itemsOf, upO, putO, List.set, List.getElem?_cons_zero, List.getElem?_cons_succ, hr, hb2]
    rw [this]
    simp only [R.bind, up_length, hlm, if_true, gSlots, kills, List.set, hc, noEx]
  generalize hX : (Xe.comp (.var 2) (.name 2) (.range1 (.bi .len (.cons (.var 1) .nil))) alC) = X at e1 h5
  have h6 : ∀ L h, evA pg (P2.run pg k) X L h = evE pg (P2.run pg k) X L h := by subst hX; intro L h; simp only [evA]
  simp only [e1]
  simp [evE, evA, evEs, evAs, evO, evC, withE, R.bind, toR, cop, eqD, plain, pl, pls, plains, alike, alikes, lt, lts, eqv, eqvs, exSs, exS, exHs, SR.andThen, deref, derefs, snap, bop, opAdd, opMul, idxD, ix, bi, kindD, parOk, freshE, parSet, bindG, bindGs, kills, isNon, itemsOf, upO, putO, List.set, List.getElem?_cons_zero, List.getElem?_cons_succ, h5, h6]
theorem law_rt {k : Nat} (ns : List Int) : ∃ L' h', exSs pg (P2.run pg (k + 3)) f_law [.val (.lst (ns.map D.int)), .emp, .emp, .emp, .emp, .emp, .emp, .emp, .emp] [] = .rt (.bl true) L' h' := by
  rw [S_eq]
  have q1 : exS pg (P2.run pg (k + 3)) S1 [.val (.lst (ns.map D.int)), .emp, .emp, .emp, .emp, .emp, .emp, .emp, .emp] [] = .nx [.val (.lst (ns.map D.int)), .val (.loc 0), .emp, .emp, .emp, .emp, .emp, .emp, .emp] [sc ns 0 53 0] := by
    simp [S1, sc, evE, evA, evEs, evAs, evO, evC, withE, R.bind, toR, cop, eqD, plain, pl, pls, plains, alike, alikes, lt, lts, eqv, eqvs, exSs, exS, exHs, SR.andThen, deref, derefs, snap, bop, opAdd, opMul, idxD, ix, bi, kindD, parOk, freshE, parSet, bindG, bindGs, kills, isNon, itemsOf, upO, putO, List.set, List.getElem?_cons_zero, List.getElem?_cons_succ]
  rw [seq q1]
  obtain ⟨i1, s1, r1, e⟩ := loop_ok (k := k) (ns := ns) (x0 := .val (.lst (ns.map D.int))) 10 0 0 53 0 rfl (by decide) (by decide) (by decide)
  have hr : rng 0 10 1 = up ((0 : Nat) : Int) 10 := rng_up 0 10
  have q2 : exS pg (P2.run pg (k + 3)) S2 [.val (.lst (ns.map D.int)), .val (.loc 0), .emp, .emp, .emp, .emp, .emp, .emp, .emp] [sc ns 0 53 0] = .nx [.val (.lst (ns.map D.int)), .val (.loc 0), .emp, .emp, .emp, .emp, .emp, .emp, .emp] [sc ns i1 s1 r1] := by
    rw [B_eq, exS, evJ]
    simp only [evE, R.bind, withE]
    rw [if_pos (by decide), hr]
    exact e
  rw [seq q2]
  have q3 : exS pg (P2.run pg (k + 3)) S3 [.val (.lst (ns.map D.int)), .val (.loc 0), .emp, .emp, .emp, .emp, .emp, .emp, .emp] [sc ns i1 s1 r1] = .nx [.val (.lst (ns.map D.int)), .val (.loc 0), .emp, .emp, .emp, .emp, .emp, .val (.lst made1), .emp] [sc ns i1 s1 r1] := by
    simp [S3, evE, evA, evEs, evAs, evO, evC, withE, R.bind, toR, cop, eqD, plain, pl, pls, plains, alike, alikes, lt, lts, eqv, eqvs, exSs, exS, exHs, SR.andThen, deref, derefs, snap, bop, opAdd, opMul, idxD, ix, bi, kindD, parOk, freshE, parSet, bindG, bindGs, kills, isNon, itemsOf, upO, putO, List.set, List.getElem?_cons_zero, List.getElem?_cons_succ, pg, permX, fGet, made1]
  rw [seq q3]
  have q4 : exS pg (P2.run pg (k + 3)) S4 [.val (.lst (ns.map D.int)), .val (.loc 0), .emp, .emp, .emp, .emp, .emp, .val (.lst made1), .emp] [sc ns i1 s1 r1] = .nx [.val (.lst (ns.map D.int)), .val (.loc 0), .emp, .emp, .emp, .emp, .emp, .val (.lst made), .emp] [sc ns i1 s1 r1] := by
    simp [S4, evE, evA, evEs, evAs, evO, evC, withE, R.bind, toR, cop, eqD, plain, pl, pls, plains, alike, alikes, lt, lts, eqv, eqvs, exSs, exS, exHs, SR.andThen, deref, derefs, snap, bop, opAdd, opMul, idxD, ix, bi, kindD, parOk, freshE, parSet, bindG, bindGs, kills, isNon, itemsOf, upO, putO, List.set, List.getElem?_cons_zero, List.getElem?_cons_succ, pg, permX, fGet, made1, made, lineMax]
  rw [seq q4]
  have r5 : ∀ h, callF pg (P2.run pg (k + 3)) 2 [.lst made, .lst made] h = .ok (.bl true) h := cl_alike_lst (k := k + 2) (by decide) fun d hd => made_ok hd
  refine ⟨[.val (.lst (ns.map D.int)), .val (.loc 0), .emp, .emp, .emp, .emp, .emp, .val (.lst made), .emp], [sc ns i1 s1 r1], ?_⟩
  have a : evEs pg (P2.run pg (k + 3)) (.cons (.var 7) (.cons (.lst (.cons (.int 1) (.cons (.str [97]) (.cons (.int 4) (.cons (.int 5) (.cons (.int 6) (.cons (.int 7) (.cons (.int 8) (.cons (.int 9) (.cons (.int 11) (.cons (.str [115]) .nil))))))))))) .nil)) [.val (.lst (ns.map D.int)), .val (.loc 0), .emp, .emp, .emp, .emp, .emp, .val (.lst made), .emp] [sc ns i1 s1 r1] = .ok [.lst made, .lst made] [sc ns i1 s1 r1] := by
    simp [evE, evA, evEs, evAs, evO, evC, withE, R.bind, toR, cop, eqD, plain, pl, pls, plains, alike, alikes, lt, lts, eqv, eqvs, exSs, exS, exHs, SR.andThen, deref, derefs, snap, bop, opAdd, opMul, idxD, ix, bi, kindD, parOk, freshE, parSet, bindG, bindGs, kills, isNon, itemsOf, upO, putO, List.set, List.getElem?_cons_zero, List.getElem?_cons_succ, made]
  simp only [exSs, S5, exS, evE, a, R.bind, r5, withE, SR.andThen]
theorem pure (ns : List Int) : ∃ hh, P2.lawOf pg 60 lawIx ns = .ok (.bl true) hh := by
  obtain ⟨L', h', e⟩ := law_rt (k := 56) ns
  exact ⟨h', call_of (F := ⟨1, 9, f_law⟩) rfl rfl e⟩
end K09
end

section
set_option Elab.async false
set_option linter.all false
set_option maxRecDepth 100000
set_option maxHeartbeats 0
namespace K09_C
open PySem PySem.Spec PyProof.Rows L2 P2S K09
def S (l : List String) : List Str := l.map PySem.Str.ofString
abbrev prog : Program := PySem.Challenge.pw_planetwheels_k09_errors
def topS (i : Nat) : Stmt := prog.main.body.getD i (.Pass ⟨0, 0, 0, 0⟩)
def T : Tb := ⟨S fnNames, S clsNames, S excNames, S names, S globNames, S ["isinstance", "len", "range", "int", "list", "tuple", "bool", "str", "ValueError", "LookupError", "RuntimeError"], List.range names.length, true⟩
def ds : List DD := [⟨PySem.Str.ofString "_law_taken", topS 13, S f_law_taken_N⟩, ⟨PySem.Str.ofString "_law_pick", topS 14, S f_law_pick_N⟩, ⟨PySem.Str.ofString "_law_alike", topS 15, S f_law_alike_N⟩, ⟨PySem.Str.ofString "_law_raised", topS 16, S f_law_raised_N⟩, ⟨PySem.Str.ofString "law", topS 17, S f_law_N⟩]
def ld : DD := ⟨PySem.Str.ofString "law", topS 17, S f_law_N⟩
theorem prog_ok : progC T pg ds = true := by decide +kernel
abbrev Rw : PySem.W.OpenRow := PySem.W.OpenLaw.row PySem.Challenge.rw_planetwheels_k09_errors
def loose : List Str := S ["WheelsError", "BadNumber", "BadName", "BadItem", "BadEvent", "BadNote", "TooMany", "Unknown", "Taken", "Refused", "NothingToUndo", "_law_taken", "_law_pick", "_law_alike", "_law_raised"]
theorem run (w : World) : HandSHeadRun.RunEq Rw (PySem.W.view Rw.prog [17]) (hookX 5 prog T pg ds) (obX 5 prog T pg ds) 4000 loose w := by
  intro os
  kernel_rfl
theorem rm : Rm 60 callerA := ⟨⟨by decide +kernel, by decide +kernel⟩, rfl⟩
end K09_C
open PySem PySem.W PySem.Calls PyProof.Rows in
theorem planetwheels_k09_errors_holds (pure : ∀ ns : List Int, ns.length ≤ 63 → ∃ hh, P2.lawOf K09.pg 60 K09.lawIx ns = .ok (.bl true) hh) : PySem.Challenge.rw_planetwheels_k09_errors.Holds := by
  w_on; o_law
  refine HandSHeadRun.head_any (r := OpenLaw.row PySem.Challenge.rw_planetwheels_k09_errors) (q := view (OpenLaw.row PySem.Challenge.rw_planetwheels_k09_errors).prog [17]) (H := P2S.hookX 5 K09_C.prog K09_C.T K09.pg K09_C.ds) (ob := P2S.obX 5 K09_C.prog K09_C.T K09.pg K09_C.ds) (M := 4000) (loose := K09_C.loose) (d := HandSHeadRun.topDef (OpenLaw.row PySem.Challenge.rw_planetwheels_k09_errors).prog 17) (kwd := []) P2S.obX_eq
    (by kernel_rfl) (fun s => by kernel_rfl) K09_C.run (by kernel_rfl) (by kernel_rfl) (by kernel_rfl) (by rfl) (by first | assumption | decide +kernel) (by decide +kernel) ⟨rfl, rfl, rfl, rfl, rfl, by decide +kernel⟩ ?hw ?hc
  case hw => w_witness2
  case hc => exact P2S.walk_P2 (l := PySem.Challenge.rw_planetwheels_k09_errors) (n := 63) (k := 60) (li := K09.lawIx) (x := "script") (ld := K09_C.ld) rfl (by decide) (by kernel_rfl) K09_C.rm K09_C.prog_ok (by kernel_rfl) (by kernel_rfl) (by kernel_rfl) pure
end

set_option Elab.async false
theorem PySem.Challenge.cw_planetwheels_k09_errors_holds : PySem.Challenge.rw_planetwheels_k09_errors.Holds :=
  planetwheels_k09_errors_holds fun ns h => K09.pure ns
