import PyProof.Rows.All
import Wide.All
import OpenK.AllK
import Wide.FinOn
import PySem.PyData
import HandS.ForMost
import HandS.ForExc
import HandS.Deep
import HandS.TupAny
import HandS.Wide
import HandS.IsInst
import HandS.Conv
import HandS.Strs
import HandS.Style
import HandS.Zip
import KE.KDictKeyed
import KE.SortData
import HandS.TupLe
import HandS.TupMul
import HandS.Walk
import KE.GoesMore
import HandS.Flow
import HandS.SetFor
import HandS.DictComp
import HandS.Codes
import HandS.EndBits
import PySem.Challenge.RW_openhands_k83_whole_said_twice
set_option Elab.async false
set_option linter.all false
set_option maxRecDepth 100000
section
set_option autoImplicit false
set_option linter.all false
namespace OH
abbrev D := PySem.PyData
abbrev Str := PySem.Str
/-- an exception: its class, its field -/
structure Ex where
  cls : Nat
  arg : Option D
/-- what a computation comes to: a value, an exception, or nothing said -/
inductive Res (α : Type) where
  | ok (a : α)
  | err (e : Ex)
  | bad
def Res.bind {α β : Type} : Res α → (α → Res β) → Res β
  | .ok a, f => f a
  | .err e, _ => .err e
  | .bad, _ => .bad
@[simp] theorem Res.bind_ok {α β : Type} (a : α) (f : α → Res β) : (Res.ok a).bind f = f a := rfl
@[simp] theorem Res.bind_err {α β : Type} (e : Ex) (f : α → Res β) : (Res.err e : Res α).bind f = .err e := rfl
@[simp] theorem Res.bind_bad {α β : Type} (f : α → Res β) : (Res.bad : Res α).bind f = .bad := rfl
/-- a value as a result or in a slot: frozen data; an own list; an own dict; an own dict of own lists; own data, borrowed -/
inductive RV where
  | d (d : D)
  | fl (xs : List D)
  | fd (kvs : List (D × D))
  | fg (kvs : List (D × List D))
  | b (d : D)
abbrev ASt := List (Option RV)
def grpD (kvs : List (D × List D)) : List (D × D) := kvs.map fun p => (p.1, .list p.2)
/-- the data of a result, to be looked at -/
def RV.val : RV → D
  | .d x => x
  | .fl xs => .list xs
  | .fd kvs => .dict kvs
  | .fg kvs => .dict (grpD kvs)
  | .b x => x
/-- the data of a result, to be kept -/
def RV.frz : RV → Res D
  | .b _ => .bad
  | r => .ok r.val
@[simp] theorem RV.val_d (x : D) : (RV.d x).val = x := rfl
@[simp] theorem RV.val_fl (x : List D) : (RV.fl x).val = .list x := rfl
@[simp] theorem RV.val_fd (x : List (D × D)) : (RV.fd x).val = .dict x := rfl
@[simp] theorem RV.val_fg (x : List (D × List D)) : (RV.fg x).val = .dict (grpD x) := rfl
@[simp] theorem RV.val_b (x : D) : (RV.b x).val = x := rfl
@[simp] theorem RV.frz_d (x : D) : (RV.d x).frz = .ok x := rfl
@[simp] theorem RV.frz_fl (x : List D) : (RV.fl x).frz = .ok (.list x) := rfl
@[simp] theorem RV.frz_fd (x : List (D × D)) : (RV.fd x).frz = .ok (.dict x) := rfl
@[simp] theorem RV.frz_fg (x : List (D × List D)) : (RV.fg x).frz = .ok (.dict (grpD x)) := rfl
@[simp] theorem RV.frz_b (x : D) : (RV.b x).frz = .bad := rfl
def LINE : Nat := 16777216

mutual
def eqv : D → D → Bool
  | .none, .none => true
  | .bool a, .bool b => a == b
  | .bool a, .int j => (if a then 1 else 0) == j
  | .int i, .bool b => i == (if b then 1 else 0)
  | .int i, .int j => i == j
  | .str x, .str y => x == y
  | .list xs, .list ys => eqvAll xs ys
  | .tuple xs, .tuple ys => eqvAll xs ys
  | _, _ => false
def eqvAll : List D → List D → Bool
  | [], [] => true
  | x :: xs, y :: ys => eqv x y && eqvAll xs ys
  | _, _ => false
end
mutual
/-- data that == may look at: no dict in it, of a depth of at most n -/
def shp : Nat → D → Bool
  | _, .none => true
  | _, .bool _ => true
  | _, .int _ => true
  | _, .str x => x.cps.all (· < 0x110000)
  | 0, .list _ => false
  | 0, .tuple _ => false
  | n + 1, .list xs => shpAll n xs
  | n + 1, .tuple xs => shpAll n xs
  | _, .dict _ => false
def shpAll : Nat → List D → Bool
  | _, [] => true
  | n, x :: xs => shp n x && shpAll n xs
end
mutual
/-- data that may stand as a dict's key -/
def isKey : Nat → D → Bool
  | _, .int _ => true
  | _, .str _ => true
  | n + 1, .tuple xs => isKeyAll n xs
  | _, _ => false
def isKeyAll : Nat → List D → Bool
  | _, [] => true
  | n, x :: xs => isKey n x && isKeyAll n xs
end
def isKeyT : D → Bool
  | .tuple xs => isKeyAll 4 xs
  | _ => false
def isKeyF : D → Bool
  | .int _ => true
  | .str _ => true
  | _ => false
/-- a dict with tuple keys asked by a tuple; one with int or text keys asked by such -/
def lookOk {α : Type} (k : D) (kvs : List (D × α)) : Bool := (isKeyT k && kvs.all fun p => isKeyT p.1) || (isKeyF k && !kvs.isEmpty && kvs.all fun p => isKeyF p.1)
mutual
def alikeD : D → D → Bool
  | .none, .none => true
  | .bool _, .bool _ => true
  | .int _, .int _ => true
  | .str _, .str _ => true
  | .list xs, .list ys => alikeAllD xs ys
  | .tuple xs, .tuple ys => alikeAllD xs ys
  | _, _ => false
def alikeAllD : List D → List D → Bool
  | x :: xs, y :: ys => alikeD x y && alikeAllD xs ys
  | [], _ => true
  | _ :: _, [] => true
end
mutual
/-- x < y of alike data -/
def ltD : D → D → Bool
  | .bool a, .bool b => !a && b
  | .int i, .int j => decide (i < j)
  | .str x, .str y => decide (x.cps.toList < y.cps.toList)
  | .list xs, .list ys => ltAllD xs ys
  | .tuple xs, .tuple ys => ltAllD xs ys
  | _, _ => false
def ltAllD : List D → List D → Bool
  | x :: xs, y :: ys => if eqv x y then ltAllD xs ys else ltD x y
  | [], _ :: _ => true
  | _, [] => false
end
/-- a datum's truth -/
def truthR : D → Res Bool
  | .none => .ok false
  | .bool b => .ok b
  | .int i => .ok (i != 0)
  | .str x => if x.length ≤ LINE then .ok (x.length != 0) else .bad
  | .list xs => .ok (!xs.isEmpty)
  | .tuple xs => .ok (!xs.isEmpty)
  | .dict _ => .bad
@[simp] theorem truthR_bool (b : Bool) : truthR (.bool b) = .ok b := rfl
@[simp] theorem truthR_none : truthR .none = .ok false := rfl
@[simp] theorem truthR_int (i : Int) : truthR (.int i) = .ok (i != 0) := rfl
@[simp] theorem truthR_list (xs : List D) : truthR (.list xs) = .ok (!xs.isEmpty) := rfl
@[simp] theorem truthR_tuple (xs : List D) : truthR (.tuple xs) = .ok (!xs.isEmpty) := rfl
/-- the items of a list or a tuple -/
def seqD : D → Res (List D)
  | .list xs => .ok xs
  | .tuple xs => .ok xs
  | _ => .bad
@[simp] theorem seqD_list (xs : List D) : seqD (.list xs) = .ok xs := rfl
@[simp] theorem seqD_tuple (xs : List D) : seqD (.tuple xs) = .ok xs := rfl
def tupD : D → Res (List D)
  | .tuple xs => .ok xs
  | _ => .bad
@[simp] theorem tupD_tuple (xs : List D) : tupD (.tuple xs) = .ok xs := rfl
def sign1 (c : Nat) : D := .str ⟨#[c]⟩
/-- the sign of a text of one sign -/
def oneC : D → Option Nat
  | .str x => match x.cps.toList with | [c] => some c | _ => none
  | _ => none
def charsD (x : Str) : List D := x.cps.toList.map sign1
/-- what a for walks: a list, a tuple, a text, a dict's keys -/
def walkD : D → Res (List D)
  | .list xs => .ok xs
  | .tuple xs => .ok xs
  | .str x => if x.length ≤ LINE then .ok (charsD x) else .bad
  | .dict kvs => if kvs.all fun p => isKeyT p.1 then .ok (kvs.map (·.1)) else .bad
  | _ => .bad
@[simp] theorem walkD_list (xs : List D) : walkD (.list xs) = .ok xs := rfl
@[simp] theorem walkD_tuple (xs : List D) : walkD (.tuple xs) = .ok xs := rfl
/-- Python's index -/
def ixD (n : Nat) (i : Int) : Option Nat := if 0 ≤ i then (if i < n then some i.toNat else none) else if -(n : Int) ≤ i then some (i + n).toNat else none
/-- Python's slice bound -/
def clipD (n : Nat) (i : Int) : Nat := if 0 ≤ i then min i.toNat n else (i + n).toNat
def clipO (n d : Nat) : Option Int → Nat
  | none => d
  | some i => clipD n i
def cutL {α : Type} (xs : List α) (lo hi : Option Int) : List α := (xs.take (clipO xs.length xs.length hi)).drop (clipO xs.length 0 lo)
def look {α : Type} (k : D) : List (D × α) → Option α
  | [] => none
  | p :: r => if eqv p.1 k then some p.2 else look k r
def put {α : Type} (k : D) (v : α) : List (D × α) → List (D × α)
  | [] => [(k, v)]
  | p :: r => if eqv p.1 k then (p.1, v) :: r else p :: put k v r
def drp {α : Type} (k : D) : List (D × α) → List (D × α)
  | [] => []
  | p :: r => if eqv p.1 k then r else p :: drp k r
def intsD : List D → Option (List Int)
  | [] => some []
  | .int i :: r => (intsD r).map (i :: ·)
  | _ => none
def boolsD : List D → Option (List Bool)
  | [] => some []
  | .bool i :: r => (boolsD r).map (i :: ·)
  | _ => none
def strsD : List D → Option (List Str)
  | [] => some []
  | .str i :: r => (strsD r).map (i :: ·)
  | _ => none
def strI (i : Int) : Str := ⟨((toString i).toList.map Char.toNat).toArray⟩
/-- the texts that a written text takes in -/
def fmtD : List D → Option (List Str)
  | [] => some []
  | .str i :: r => (fmtD r).map (i :: ·)
  | .int i :: r => if i.natAbs.log2 < 1920 then (fmtD r).map (strI i :: ·) else none
  | _ => none
def pairsD : List D → Option (List (D × D))
  | [] => some []
  | .tuple [a, b] :: r => (pairsD r).map ((a, b) :: ·)
  | _ => none
def tupNE : D → Bool
  | .tuple (_ :: _) => true
  | _ => false
def flatS : D → Bool
  | .none => false
  | .tuple _ => false
  | _ => true
/-- a row that can be sorted -/
def srtOk (xs : List D) : Bool := xs.all (fun x => xs.all fun y => alikeD x y) && xs.all (shp 20) && (xs.all tupNE || xs.all flatS)
def sortD (xs : List D) : List D := xs.mergeSort fun a b => !ltD b a
def dedupI : List Int → List Int
  | [] => []
  | x :: r => if x ∈ r then dedupI r else x :: dedupI r

inductive BOp where | add | sub | mul | fdiv | mod | pow
  deriving DecidableEq
inductive COp where | eq | ne | lt | le | gt | ge | isN | notN | inn | nin | isB | notB
  deriving DecidableEq
def mulOk (i j : Int) : Prop := (-(2 ^ 64) < i ∧ i < 2 ^ 64) ∨ (-(2 ^ 64) < j ∧ j < 2 ^ 64) ∨ i.natAbs.log2 + j.natAbs.log2 < 1000000
instance (i j : Int) : Decidable (mulOk i j) := by unfold mulOk; infer_instance
def divOk (j : Int) : Prop := 0 < j ∧ j.natAbs.log2 < 9000
instance (j : Int) : Decidable (divOk j) := by unfold divOk; infer_instance
def binD : BOp → D → D → Res RV
  | .add, .int i, .int j => .ok (.d (.int (i + j)))
  | .add, .str x, .str y => if x.length + y.length ≤ LINE then .ok (.d (.str (x ++ y))) else .bad
  | .add, .tuple xs, .tuple ys => if xs.length + ys.length ≤ LINE then .ok (.d (.tuple (xs ++ ys))) else .bad
  | .add, .list xs, .list ys => if xs.length + ys.length ≤ LINE then .ok (.fl (xs ++ ys)) else .bad
  | .sub, .int i, .int j => .ok (.d (.int (i - j)))
  | .mul, .int i, .int j => if mulOk i j then .ok (.d (.int (i * j))) else .bad
  | .mul, .list xs, .int j => if 0 ≤ j ∧ j < 2 ^ 63 ∧ xs.length * j.toNat ≤ LINE then .ok (.fl (List.replicate j.toNat xs).flatten) else .bad
  | .mul, .tuple xs, .int j => if xs ≠ [] ∧ 2 ≤ j ∧ j ≤ 1000 ∧ xs.length ≤ 1000 then .ok (.d (.tuple (List.replicate j.toNat xs).flatten)) else .bad
  | .fdiv, .int i, .int j => if divOk j then .ok (.d (.int (i / j))) else .bad
  | .mod, .int i, .int j => if 0 < j then .ok (.d (.int (i % j))) else .bad
  | .pow, .int i, .int j => if 0 ≤ j ∧ j ≤ 1000000 ∧ i.natAbs < 2 ^ 64 then .ok (.d (.int (i ^ j.toNat))) else .bad
  | _, _, _ => .bad
mutual
/-- data that < .. >= may look at here: ints and nested tuples of them -/
def ordOk : Nat → D → Bool
  | _, .int _ => true
  | n + 1, .tuple xs => ordOkAll n xs
  | _, _ => false
def ordOkAll : Nat → List D → Bool
  | _, [] => true
  | n, x :: xs => ordOk n x && ordOkAll n xs
end
def ltOk (a b : D) : Bool := alikeD a b && ordOk 20 a && ordOk 20 b
/-- whether x stands in y -/
def inD (x : D) : D → Res Bool
  | .list ys => if shp 30 x && shpAll 30 ys then .ok (ys.any fun z => eqv z x) else .bad
  | .tuple ys => if shp 30 x && shpAll 30 ys then .ok (ys.any fun z => eqv z x) else .bad
  | .dict kvs => if lookOk x kvs then .ok (look x kvs).isSome else .bad
  | .str y => match oneC x with
    | some c => .ok (decide (c ∈ y.cps.toList))
    | none => .bad
  | _ => .bad
def cmpD : COp → D → D → Res Bool
  | .eq, a, b => if shp 30 a && shp 30 b then .ok (eqv a b) else .bad
  | .ne, a, b => if shp 30 a && shp 30 b then .ok (!eqv a b) else .bad
  | .lt, a, b => if ltOk a b then .ok (ltD a b) else .bad
  | .gt, a, b => if ltOk a b then .ok (ltD b a) else .bad
  | .le, a, b => if ltOk a b then .ok (!ltD b a) else .bad
  | .ge, a, b => if ltOk a b then .ok (!ltD a b) else .bad
  | .isN, a, .none => .ok (match a with | .none => true | _ => false)
  | .notN, a, .none => .ok (match a with | .none => false | _ => true)
  | .isB, .bool a, .bool b => .ok (a == b)
  | .notB, .bool a, .bool b => .ok (!(a == b))
  | .inn, a, b => inD a b
  | .nin, a, b => (inD a b).bind fun c => .ok (!c)
  | _, _, _ => .bad
inductive Ty where | int | bool | str | tup | lst
  deriving DecidableEq
def isTy : Ty → D → Bool
  | .int, .int _ => true
  | .int, .bool _ => true
  | .bool, .bool _ => true
  | .str, .str _ => true
  | .tup, .tuple _ => true
  | .lst, .list _ => true
  | _, _ => false
inductive Prim where
  | len | sum | sorted | tuple | list | all | any | max | min | abs | int | str | lenSet | isTy (t : Ty) | listRange | tupleRange | sortedSet
  deriving DecidableEq
def rangeD (lo hi : Int) : List D := (List.range (hi - lo).toNat).map fun k => .int (lo + (k : Nat))
def maxI : Int → List Int → Int
  | m, [] => m
  | m, x :: r => maxI (if x > m then x else m) r
def minI : Int → List Int → Int
  | m, [] => m
  | m, x :: r => minI (if x < m then x else m) r
def primD : Prim → List D → Res RV
  | .len, [.list xs] => .ok (.d (.int xs.length))
  | .len, [.tuple xs] => .ok (.d (.int xs.length))
  | .len, [.str x] => if x.length ≤ LINE then .ok (.d (.int x.length)) else .bad
  | .sum, [x] => (seqD x).bind fun xs => match intsD xs with | some ns => .ok (.d (.int ns.sum)) | none => .bad
  | .sorted, [x] => (seqD x).bind fun xs => if srtOk xs then .ok (.fl (sortD xs)) else .bad
  | .tuple, [x] => (seqD x).bind fun xs => .ok (.d (.tuple xs))
  | .list, [x] => match x with
    | .list xs => .ok (.fl xs)
    | .tuple xs => .ok (.fl xs)
    | .dict kvs => .ok (.fl (kvs.map (·.1)))
    | _ => .bad
  | .all, [.list xs] => match boolsD xs with | some bs => .ok (.d (.bool (bs.all id))) | none => .bad
  | .any, [.list xs] => match boolsD xs with | some bs => .ok (.d (.bool (bs.any id))) | none => .bad
  | .max, [.int i, .int j] => .ok (.d (.int (maxI i [j])))
  | .min, [.int i, .int j] => .ok (.d (.int (minI i [j])))
  | .max, [.int i, .int j, .int k] => .ok (.d (.int (maxI i [j, k])))
  | .max, [.list xs] => match intsD xs with | some (m :: ns) => .ok (.d (.int (maxI m ns))) | _ => .bad
  | .min, [.list xs] => match intsD xs with | some (m :: ns) => .ok (.d (.int (minI m ns))) | _ => .bad
  | .abs, [.int i] => .ok (.d (.int (if i < 0 then -i else i)))
  | .int, [.int i] => .ok (.d (.int i))
  | .int, [.bool b] => .ok (.d (.int (if b then 1 else 0)))
  | .str, [.int i] => if i.natAbs.log2 < 1920 then .ok (.d (.str (strI i))) else .bad
  | .lenSet, [.tuple xs] => match intsD xs with | some ns => if ns.length ≤ 4000 then .ok (.d (.int (dedupI ns).length)) else .bad | none => .bad
  | .isTy t, [x] => .ok (.d (.bool (isTy t x)))
  | .listRange, [.int n] => if n ≤ LINE ∧ -(2 ^ 62) ≤ n then .ok (.fl (rangeD 0 n)) else .bad
  | .tupleRange, [.int n] => if n ≤ LINE ∧ -(2 ^ 62) ≤ n then .ok (.d (.tuple (rangeD 0 n))) else .bad
  | _, _ => .bad
inductive Meth where | index | get | join | split | upper | startswith
  deriving DecidableEq
def idxOf (x : D) : List D → Nat → Option Nat
  | [], _ => none
  | y :: r, n => if eqv y x then some n else idxOf x r (n + 1)
def idxN (x : Nat) : List Nat → Nat → Option Nat
  | [], _ => none
  | y :: r, n => if y = x then some n else idxN x r (n + 1)
def joinL (sep : List Nat) : List (List Nat) → List Nat
  | [] => []
  | [x] => x
  | x :: r => x ++ sep ++ joinL sep r
/-- a text cut at each sign c -/
def splitL (c : Nat) : List Nat → List Nat → List (List Nat)
  | [], acc => [acc]
  | x :: r, acc => if x = c then acc :: splitL c r [] else splitL c r (acc ++ [x])
def strL (x : List Nat) : D := .str ⟨x.toArray⟩
def upC (c : Nat) : Nat := if 97 ≤ c ∧ c ≤ 122 then c - 32 else c
def methD : Meth → D → List D → Res RV
  | .index, .tuple xs, [x] => if shp 30 x && shpAll 30 xs then (match idxOf x xs 0 with | some n => .ok (.d (.int n)) | none => .bad) else .bad
  | .index, .list xs, [x] => if shp 30 x && shpAll 30 xs then (match idxOf x xs 0 with | some n => .ok (.d (.int n)) | none => .bad) else .bad
  | .index, .str y, [x] => match oneC x with
    | some c => (match idxN c y.cps.toList 0 with | some n => .ok (.d (.int n)) | none => .bad)
    | none => .bad
  | .get, .dict kvs, [k, v] => if lookOk k kvs then .ok (.d ((look k kvs).getD v)) else .bad
  | .join, .str s, [.list xs] => match strsD xs with
    | some ys => if (ys.map fun y => y.length + s.length).sum ≤ LINE then .ok (.d (strL (joinL s.cps.toList (ys.map fun y => y.cps.toList)))) else .bad
    | none => .bad
  | .split, .str x, [y] => match oneC y with
    | some c => if x.length + 2 ≤ LINE then .ok (.fl ((splitL c x.cps.toList []).map strL)) else .bad
    | none => .bad
  | _, _, _ => .bad
/-- a[i] -/
def getD : D → D → Res D
  | .list xs, .int i => match ixD xs.length i with | some j => (match xs[j]? with | some x => .ok x | none => .bad) | none => .bad
  | .tuple xs, .int i => match ixD xs.length i with | some j => (match xs[j]? with | some x => .ok x | none => .bad) | none => .bad
  | .str x, .int i => if x.length ≤ LINE then (match ixD x.length i with | some j => .ok (sign1 (x.cps.getD j 0)) | none => .bad) else .bad
  | .dict kvs, k => if lookOk k kvs then (match look k kvs with | some v => .ok v | none => .bad) else .bad
  | _, _ => .bad
def bndD : D → Res (Option Int)
  | .none => .ok none
  | .int i => .ok (some i)
  | _ => .bad
def slcD (a : D) (lo hi : Option Int) : Res RV :=
  match a with
  | .list xs => .ok (.fl (cutL xs lo hi))
  | .tuple xs => .ok (.d (.tuple (cutL xs lo hi)))
  | .str x => if x.length ≤ LINE then .ok (.d (strL (cutL x.cps.toList lo hi))) else .bad
  | _ => .bad
/-- a[::s], s 1 or -1 -/
def stepD (a : D) (s : D) : Res RV :=
  match a, s with
  | .list xs, .int 1 => .ok (.fl xs)
  | .list xs, .int (-1) => .ok (.fl xs.reverse)
  | .str x, .int (-1) => .ok (.d (strL x.cps.toList.reverse))
  | _, _ => .bad

/-- a target: a name's slot; slots of a tuple's items; the first item's slot and the rest's (as an own list) -/
inductive Tgt where
  | n (i : Nat)
  | t (is : List Nat)
  | star (i j : Nat)
/-- what is walked: as it is; a range; two side by side; with its places; a dict's items -/
inductive ItK where | seq | range | zip | enum | items
  deriving DecidableEq
inductive E where
  | lit (d : D)
  | gl (x : Nat) (d : D)
  | var (i : Nat)
  | tup (es : List E)
  | lst (es : List E)
  | dct (ks vs : List E)
  | neg (a : E)
  | not (a : E)
  | bin (o : BOp) (a b : E)
  | cmp (o : COp) (a b : E)
  | chain (o1 o2 : COp) (a b c : E)
  | and (es : List E)
  | or (es : List E)
  | ife (c a b : E)
  | idx (a i : E)
  | slc (a lo hi : E)
  | step (a s : E)
  | call (f : Nat) (es : List E)
  | prim (p : Prim) (es : List E)
  | meth (m : Meth) (a : E) (es : List E)
  | lc (elt : E) (t : Tgt) (k : ItK) (src : List E) (cond : List E) (own : List Nat)
  | dc (key val : E) (t : Tgt) (k : ItK) (src : List E) (cond : List E) (own : List Nat)
  | lc2 (elt : E) (t1 : Nat) (src1 : E) (t2 : Nat) (src2 : E) (cond : List E) (own : List Nat)
  | fstr (es : List E)
def slotV (σ : ASt) (i : Nat) : Res RV :=
  match σ[i]? with
  | some (some (.d d)) => .ok (.d d)
  | some (some (.fl xs)) => .ok (.b (.list xs))
  | some (some (.fd kvs)) => .ok (.b (.dict kvs))
  | _ => .bad
def setT : Tgt → D → ASt → Res ASt
  | .n i, d, σ => .ok (σ.set i (some (.d d)))
  | .t is, d, σ => (tupD d).bind fun xs => if xs.length = is.length then .ok ((is.zip xs).foldl (fun s p => s.set p.1 (some (.d p.2))) σ) else .bad
  | .star i j, d, σ => (seqD d).bind fun xs => match xs with | x :: r => .ok ((σ.set i (some (.d x))).set j (some (.d (.list r)))) | [] => .bad
def wipeA (σ : ASt) : List Nat → ASt
  | [] => σ
  | v :: vs => (wipeA σ vs).set v none
def keepD : Option RV → Option RV
  | some (.d x) => some (.d x)
  | _ => none
/-- the slots that hold data -/
def dropA (σ : ASt) : ASt := σ.map keepD
/-- what a for walks, of its source's data -/
def itemsD : ItK → List D → Res (List D)
  | .seq, [x] => walkD x
  | .range, [.int n] => if -(2 ^ 62) ≤ n ∧ n ≤ LINE then .ok (rangeD 0 n) else .bad
  | .range, [.int a, .int b] => if (-(2 ^ 62) ≤ a ∧ a < 2 ^ 62) ∧ (-(2 ^ 62) ≤ b ∧ b < 2 ^ 62) ∧ b - a ≤ LINE then .ok (rangeD a b) else .bad
  | .range, [.int a, .int b, .int (-1)] => if (-(2 ^ 62) ≤ a ∧ a < 2 ^ 62) ∧ (-(2 ^ 62) ≤ b ∧ b < 2 ^ 62) ∧ a - b ≤ LINE then .ok ((List.range (a - b).toNat).map fun k => .int (a - (k : Nat))) else .bad
  | .zip, [.list xs, .list ys] => .ok ((xs.zip ys).map fun p => .tuple [p.1, p.2])
  | .zip, [.tuple xs, .tuple ys] => .ok ((xs.zip ys).map fun p => .tuple [p.1, p.2])
  | .enum, [x] => (seqD x).bind fun xs => .ok (xs.mapIdx fun i y => .tuple [.int i, y])
  | .items, [.dict kvs] => if kvs.all fun p => isKeyT p.1 then .ok (kvs.map fun p => .tuple [p.1, p.2]) else .bad
  | _, _ => .bad
/-- the items that f keeps, in order -/
def collect {α : Type} (f : D → Res (Option α)) : List D → Res (List α)
  | [] => .ok []
  | x :: r => (f x).bind fun y => (collect f r).bind fun ys => .ok (match y with | some z => z :: ys | none => ys)
def putAll (ps : List (D × D)) : List (D × D) := ps.foldl (fun acc p => put p.1 p.2 acc) []
def isScal : RV → Bool
  | .d (.none) => true
  | .d (.bool _) => true
  | .d (.int _) => true
  | .d (.str _) => true
  | _ => false
def RV.isB : RV → Bool
  | .b _ => true
  | _ => false
/-- a call's result where some argument is borrowed: only what holds no object -/
def callB (bor : Bool) (r : RV) : Res RV := if bor && !isScal r then .bad else .ok r
mutual
def denE (cl : Nat → List D → Res RV) : E → ASt → Res RV
  | .lit d, _ => .ok (.d d)
  | .gl _ d, _ => .ok (.d d)
  | .var i, σ => slotV σ i
  | .tup es, σ => (denF cl es σ).bind fun ds => .ok (.d (.tuple ds))
  | .lst es, σ => (denF cl es σ).bind fun ds => .ok (.fl ds)
  | .dct ks vs, σ => (denF cl ks σ).bind fun kd => (denF cl vs σ).bind fun vd => if kd.all isKeyT && decide (kd.length = vd.length ∧ kd.length ≤ 1) then .ok (.fd (kd.zip vd)) else if kd.all isKeyF && decide (kd.length = vd.length ∧ kd.length ≤ 15) then .ok (.d (.dict (putAll (kd.zip vd)))) else .bad
  | .neg a, σ => (denE cl a σ).bind fun x => match x.val with | .int i => .ok (.d (.int (-i))) | _ => .bad
  | .not a, σ => (denE cl a σ).bind fun x => (truthR x.val).bind fun k => .ok (.d (.bool (!k)))
  | .bin o a b, σ => (denE cl a σ).bind fun x => (denE cl b σ).bind fun y => binD o x.val y.val
  | .cmp o a b, σ => (denE cl a σ).bind fun x => (denE cl b σ).bind fun y => (cmpD o x.val y.val).bind fun c => .ok (.d (.bool c))
  | .chain o1 o2 a b c, σ => (denE cl a σ).bind fun x => (denE cl b σ).bind fun y => (cmpD o1 x.val y.val).bind fun k =>
      if k then (denE cl c σ).bind fun z => (cmpD o2 y.val z.val).bind fun c => .ok (.d (.bool c)) else .ok (.d (.bool false))
  | .and es, σ => denA cl es σ
  | .or es, σ => denO cl es σ
  | .ife c a b, σ => (denE cl c σ).bind fun x => (truthR x.val).bind fun k => if k then denE cl a σ else denE cl b σ
  | .idx a i, σ => (denE cl a σ).bind fun x => (denE cl i σ).bind fun y => (getD x.val y.val).bind fun z => .ok (.d z)
  | .slc a lo hi, σ => (denE cl a σ).bind fun x => (denE cl lo σ).bind fun y => (denE cl hi σ).bind fun z => (bndD y.val).bind fun l => (bndD z.val).bind fun h => slcD x.val l h
  | .step a s, σ => (denE cl a σ).bind fun x => (denE cl s σ).bind fun y => stepD x.val y.val
  | .call f es, σ => (denV cl es σ).bind fun p => (cl f p.2).bind fun r => callB p.1 r
  | .prim p es, σ => (denV cl es σ).bind fun q => primD p q.2
  | .meth m a es, σ => (denE cl a σ).bind fun x => (denV cl es σ).bind fun q => methD m x.val q.2
  | .lc elt t k src cond own, σ => (denV cl src σ).bind fun q => (itemsD k q.2).bind fun items =>
      (collect (fun d => (setT t d (wipeA σ own)).bind fun σ1 => (denC cl cond σ1).bind fun c => if c then (denE cl elt σ1).bind fun r => r.frz.bind fun z => .ok (some z) else .ok none) items).bind fun ds => .ok (.fl ds)
  | .dc key val t k src cond own, σ => (denV cl src σ).bind fun q => (itemsD k q.2).bind fun items =>
      (collect (fun d => (setT t d (wipeA σ own)).bind fun σ1 => (denC cl cond σ1).bind fun c => if c then (denE cl key σ1).bind fun kr => kr.frz.bind fun kz => (denE cl val σ1).bind fun r => r.frz.bind fun z => if isKeyT kz then .ok (some (kz, z)) else .bad else .ok none) items).bind fun ps => .ok (.fd (putAll ps))
  | .lc2 elt t1 src1 t2 src2 cond own, σ => (denE cl src1 σ).bind fun q => (walkD q.val).bind fun items =>
      (collect (fun d => (denE cl src2 ((dropA (wipeA σ own)).set t1 (some (.d d)))).bind fun q2 => q2.frz.bind fun w2 => (walkD w2).bind fun items2 =>
        (collect (fun d2 => (denC cl cond (((dropA (wipeA σ own)).set t1 (some (.d d))).set t2 (some (.d d2)))).bind fun c => if c then (denE cl elt (((dropA (wipeA σ own)).set t1 (some (.d d))).set t2 (some (.d d2)))).bind fun r => r.frz.bind fun z => .ok (some z) else .ok none) items2).bind fun zs => .ok (some zs)) items).bind fun zss => if zss.flatten.length ≤ LINE then .ok (.fl zss.flatten) else .bad
  | .fstr es, σ => (denV cl es σ).bind fun q => match fmtD q.2 with
      | some ys => if (ys.map fun y => y.length).sum ≤ LINE then .ok (.d (strL (ys.map fun y => y.cps.toList).flatten)) else .bad
      | none => .bad
/-- x and y .. -/
def denA (cl : Nat → List D → Res RV) : List E → ASt → Res RV
  | [], _ => .bad
  | e :: es, σ => (denE cl e σ).bind fun x => if es.isEmpty then .ok x else (truthR x.val).bind fun k => if k then denA cl es σ else .ok x
/-- x or y .. -/
def denO (cl : Nat → List D → Res RV) : List E → ASt → Res RV
  | [], _ => .bad
  | e :: es, σ => (denE cl e σ).bind fun x => if es.isEmpty then .ok x else (truthR x.val).bind fun k => if k then .ok x else denO cl es σ
/-- the data, to be kept -/
def denF (cl : Nat → List D → Res RV) : List E → ASt → Res (List D)
  | [], _ => .ok []
  | e :: es, σ => (denE cl e σ).bind fun r => r.frz.bind fun d => (denF cl es σ).bind fun ds => .ok (d :: ds)
/-- the data, to be looked at; whether any is borrowed -/
def denV (cl : Nat → List D → Res RV) : List E → ASt → Res (Bool × List D)
  | [], _ => .ok (false, [])
  | e :: es, σ => (denE cl e σ).bind fun r => (denV cl es σ).bind fun p => .ok (r.isB || p.1, r.val :: p.2)
/-- a comprehension's test -/
def denC (cl : Nat → List D → Res RV) : List E → ASt → Res Bool
  | [], _ => .ok true
  | e :: es, σ => (denE cl e σ).bind fun r => (truthR r.val).bind fun k => if k then denC cl es σ else .ok false
end

inductive S where
  | set (t : Tgt) (e : E)
  | own (i : Nat) (e : E)
  | par (i j : Nat) (a b : E)
  | frz (i : Nat)
  | app (i : Nat) (e : E)
  | ext (i : Nat) (e : E)
  | ins (i : Nat) (k e : E)
  | pop (i : Nat) (ks : List E)
  | setpop (j i : Nat) (ks : List E)
  | apppop (j i : Nat) (k : E)
  | seti (i : Nat) (k e : E)
  | augi (i : Nat) (o : BOp) (k e : E)
  | del (i : Nat) (k : E)
  | gapp (i : Nat) (k e : E)
  | gapp2 (j i : Nat) (k e : E)
  | aug (i : Nat) (o : BOp) (e : E)
  | ife (c : E) (a b : List S)
  | whl (c : E) (a : List S)
  | for (t : Tgt) (k : ItK) (src : List E) (a : List S)
  | ret (e : E)
  | retn
  | brk
  | pass
  | exp (e : E)
  | raise (c : Nat) (es : List E)
/-- how a statement ends -/
inductive Out where
  | nx (σ : ASt)
  | rt (r : RV)
  | bk (σ : ASt)
  | er (e : Ex)
  | bad
def Res.out {α : Type} (r : Res α) (f : α → Out) : Out := match r with | .ok a => f a | .err e => .er e | .bad => .bad
@[simp] theorem Res.out_ok {α : Type} (a : α) (f : α → Out) : (Res.ok a).out f = f a := rfl
@[simp] theorem Res.out_err {α : Type} (a : Ex) (f : α → Out) : (Res.err a).out f = .er a := rfl
@[simp] theorem Res.out_bad {α : Type} (f : α → Out) : (Res.bad).out f = .bad := rfl
/-- what follows a statement -/
def Out.then (o : Out) (f : ASt → Out) : Out := match o with | .nx σ => f σ | o => o
@[simp] theorem Out.then_nx (σ : ASt) (f : ASt → Out) : (Out.nx σ).then f = f σ := rfl
@[simp] theorem Out.then_rt (r : RV) (f : ASt → Out) : (Out.rt r).then f = .rt r := rfl
@[simp] theorem Out.then_bk (σ : ASt) (f : ASt → Out) : (Out.bk σ).then f = .bk σ := rfl
@[simp] theorem Out.then_er (r : Ex) (f : ASt → Out) : (Out.er r).then f = .er r := rfl
@[simp] theorem Out.then_bad (f : ASt → Out) : (Out.bad).then f = .bad := rfl
def forL (body : D → ASt → Out) : List D → ASt → Out
  | [], σ => .nx σ
  | x :: r, σ => match body x σ with
    | .nx σ' => forL body r σ'
    | .bk σ' => .nx σ'
    | o => o
def whlN (test : ASt → Res Bool) (body : ASt → Out) : Nat → ASt → Out
  | 0, _ => .bad
  | n + 1, σ => (test σ).out fun c => if c then (match body σ with | .nx σ' => whlN test body n σ' | .bk σ' => .nx σ' | o => o) else .nx σ
def FUEL : Nat := 1000000
/-- a slot's own list -/
def ownL (σ : ASt) (i : Nat) : Res (List D) := match σ[i]? with | some (some (.fl xs)) => .ok xs | _ => .bad
def frzSlot (σ : ASt) (i : Nat) : ASt := match σ[i]? with | some (some r) => (match r with | .d _ => σ | .b _ => σ | r => σ.set i (some (.d r.val))) | _ => σ
/-- the place that pop takes -/
def popAt (n : Nat) : List D → Option Nat
  | [] => if n = 0 then none else some (n - 1)
  | [.int i] => if -(2 ^ 62) < i ∧ i < 2 ^ 62 then ixD n i else none
  | _ => none
/-- pop of a list or a dict: what comes, what stays -/
def popD (r : RV) (ks : List D) : Res (D × RV) :=
  match r with
  | .fl xs => (match popAt xs.length ks with | some j => (match xs[j]? with | some x => .ok (x, .fl (xs.eraseIdx j)) | none => .bad) | none => .bad)
  | .fd kvs => (match ks with | [k] => if isKeyT k then (match look k kvs with | some v => .ok (v, .fd (drp k kvs)) | none => .bad) else .bad | _ => .bad)
  | _ => .bad
def slotR (σ : ASt) (i : Nat) : Res RV := match σ[i]? with | some (some r) => .ok r | _ => .bad
def putD (r : RV) (k v : D) : Res RV :=
  match r with
  | .fl xs => (match k with | .int i => (match ixD xs.length i with | some j => .ok (.fl (xs.set j v)) | none => .bad) | _ => .bad)
  | .fd kvs => if isKeyT k && decide (kvs.length < LINE) then .ok (.fd (put k v kvs)) else .bad
  | _ => .bad
def delD (r : RV) (k : D) : Res RV :=
  match r with
  | .fd kvs => if isKeyT k then (match look k kvs with | some _ => .ok (.fd (drp k kvs)) | none => .bad) else .bad
  | _ => .bad
/-- groups.setdefault(k, []).append(v) -/
def gputD (r : RV) (k v : D) : Res RV :=
  match r with
  | .fd [] => if isKeyT k then .ok (.fg [(k, [v])]) else .bad
  | .fg kvs => if isKeyT k then (match look k kvs with
      | some xs => if xs.length < LINE then .ok (.fg (put k (xs ++ [v]) kvs)) else .bad
      | none => if kvs.length < LINE then .ok (.fg (put k [v] kvs)) else .bad) else .bad
  | _ => .bad
def insL (xs : List D) (k : D) (x : D) : Res (List D) :=
  match k with
  | .int i => if 0 ≤ i ∧ i ≤ xs.length ∧ xs.length < LINE then .ok (xs.take i.toNat ++ x :: xs.drop i.toNat) else .bad
  | _ => .bad
/-- a result that a slot may own, or data -/
def RV.keep : RV → Res RV
  | .b _ => .bad
  | r => .ok r
mutual
def denS (cl : Nat → List D → Res RV) : S → ASt → Out
  | .set t e, σ => (denE cl e σ).out fun r => r.frz.out fun d => (setT t d σ).out .nx
  | .own i e, σ => (denE cl e σ).out fun r => r.keep.out fun r => .nx (σ.set i (some r))
  | .par i j a b, σ => (denE cl a σ).out fun x => x.frz.out fun x => (denE cl b σ).out fun y => y.frz.out fun y => .nx ((σ.set i (some (.d x))).set j (some (.d y)))
  | .frz i, σ => .nx (frzSlot σ i)
  | .app i e, σ => (denE cl e σ).out fun r => r.frz.out fun d => (ownL σ i).out fun xs => if xs.length < LINE then .nx (σ.set i (some (.fl (xs ++ [d])))) else .bad
  | .ext i e, σ => (denE cl e σ).out fun r => (ownL σ i).out fun xs => match r.val with
      | .list ys => if xs.length + ys.length ≤ LINE then .nx (σ.set i (some (.fl (xs ++ ys)))) else .bad
      | _ => .bad
  | .ins i k e, σ => (denE cl k σ).out fun kr => (denE cl e σ).out fun r => r.frz.out fun d => (ownL σ i).out fun xs => (insL xs kr.val d).out fun ys => .nx (σ.set i (some (.fl ys)))
  | .pop i ks, σ => (denV cl ks σ).out fun q => (slotR σ i).out fun r => (popD r q.2).out fun p => .nx (σ.set i (some p.2))
  | .setpop j i ks, σ => (denV cl ks σ).out fun q => (slotR σ i).out fun r => (popD r q.2).out fun p => .nx ((σ.set i (some p.2)).set j (some (.d p.1)))
  | .apppop j i k, σ => (denE cl k σ).out fun kr => (ownL σ i).out fun ys => (popD (.fl ys) [kr.val]).out fun p => (ownL σ j).out fun xs =>
      if xs.length < LINE ∧ i ≠ j then .nx ((σ.set i (some p.2)).set j (some (.fl (xs ++ [p.1])))) else .bad
  | .seti i k e, σ => (denE cl e σ).out fun r => r.frz.out fun d => (denE cl k σ).out fun kr => kr.frz.out fun kd => (slotR σ i).out fun s => (putD s kd d).out fun s' => .nx (σ.set i (some s'))
  | .augi i o k e, σ => (denE cl k σ).out fun kr => kr.frz.out fun kd => (slotR σ i).out fun s => (getD s.val kd).out fun x => (denE cl e σ).out fun r => (binD o x r.val).out fun z =>
      match z with
      | .d (.int n) => (putD s kd (.int n)).out fun s' => .nx (σ.set i (some s'))
      | _ => .bad
  | .del i k, σ => (denE cl k σ).out fun kr => (slotR σ i).out fun s => (delD s kr.val).out fun s' => .nx (σ.set i (some s'))
  | .gapp i k e, σ => (denE cl k σ).out fun kr => kr.frz.out fun kd => (denE cl e (σ.set i none)).out fun r => r.frz.out fun d => (slotR σ i).out fun s => (gputD s kd d).out fun s' => .nx (σ.set i (some s'))
  | .gapp2 j i k e, σ => (denE cl k σ).out fun kr => kr.frz.out fun kd => (denE cl e ((σ.set j none).set i none)).out fun r => r.frz.out fun d => (slotR σ i).out fun s => (gputD s kd d).out fun s' => if i = j ∨ σ.length ≤ j then .bad else .nx ((σ.set j none).set i (some s'))
  | .aug i o e, σ => (slotV σ i).out fun x => (denE cl e σ).out fun r => (binD o x.val r.val).out fun z =>
      match z with
      | .d (.int n) => .nx (σ.set i (some (.d (.int n))))
      | _ => .bad
  | .ife c a b, σ => (denE cl c σ).out fun r => (truthR r.val).out fun k => if k then denSs cl a σ else denSs cl b σ
  | .whl c a, σ => whlN (fun σ => (denE cl c σ).bind fun r => truthR r.val) (fun σ => denSs cl a σ) FUEL σ
  | .for t k src a, σ => (denF cl src σ).out fun ds => (itemsD k ds).out fun items => forL (fun d σ => (setT t d σ).out fun σ1 => denSs cl a σ1) items σ
  | .ret e, σ => match e with
      | .var i => (slotR σ i).out fun r => .rt r
      | e => (denE cl e σ).out fun r => r.keep.out fun r => .rt r
  | .retn, _ => .rt (.d .none)
  | .brk, σ => .bk σ
  | .pass, σ => .nx σ
  | .exp e, σ => (denE cl e σ).out fun _ => .nx σ
  | .raise c es, σ => (denF cl es σ).out fun ds => .er ⟨c, ds.head?⟩
def denSs (cl : Nat → List D → Res RV) : List S → ASt → Out
  | [], σ => .nx σ
  | s :: r, σ => (denS cl s σ).then fun σ' => denSs cl r σ'
end
/-- a def: how many parameters, how many slots, its body -/
structure FDef where
  params : Nat
  slots : Nat
  body : List S
def startA (n : Nat) (ds : List D) : ASt := ds.map (fun d => some (.d d)) ++ List.replicate (n - ds.length) none
def endF : Out → Res RV
  | .nx _ => .ok (.d .none)
  | .rt r => .ok r
  | .er e => .err e
  | _ => .bad
/-- a def called, at most k calls deep -/
def run (tbl : Nat → Option FDef) : Nat → Nat → List D → Res RV
  | 0, _, _ => .bad
  | k + 1, f, ds => match tbl f with
    | some fd => if ds.length = fd.params then endF (denSs (run tbl k) fd.body (startA fd.slots ds)) else .bad
    | none => .bad
end OH
end

section
set_option autoImplicit false
set_option linter.all false
namespace OH
def w_add : Str := ⟨#[97, 100, 100]⟩
def w_anne : Str := ⟨#[97, 110, 110, 101]⟩
def w_begin : Str := ⟨#[98, 101, 103, 105, 110]⟩
def w_bill : Str := ⟨#[98, 105, 108, 108]⟩
def w_blind : Str := ⟨#[98, 108, 105, 110, 100]⟩
def w_card : Str := ⟨#[99, 97, 114, 100]⟩
def w_cards : Str := ⟨#[99, 97, 114, 100, 115]⟩
def w_cath : Str := ⟨#[99, 97, 116, 104]⟩
def w_ceiling : Str := ⟨#[99, 101, 105, 108, 105, 110, 103]⟩
def w_chances : Str := ⟨#[99, 104, 97, 110, 99, 101, 115]⟩
def w_d : Str := ⟨#[100]⟩
def w_done : Str := ⟨#[100, 111, 110, 101]⟩
def w_dora : Str := ⟨#[100, 111, 114, 97]⟩
def w_even : Str := ⟨#[101, 118, 101, 110]⟩
def w_fits : Str := ⟨#[102, 105, 116, 115]⟩
def w_floor : Str := ⟨#[102, 108, 111, 111, 114]⟩
def w_free : Str := ⟨#[102, 114, 101, 101]⟩
def w_good : Str := ⟨#[103, 111, 111, 100]⟩
def w_has : Str := ⟨#[104, 97, 115]⟩
def w_held : Str := ⟨#[104, 101, 108, 100]⟩
def w_know : Str := ⟨#[107, 110, 111, 119]⟩
def w_knows : Str := ⟨#[107, 110, 111, 119, 115]⟩
def w_lacks : Str := ⟨#[108, 97, 99, 107, 115]⟩
def w_left : Str := ⟨#[108, 101, 102, 116]⟩
def w_lot : Str := ⟨#[108, 111, 116]⟩
def w_many : Str := ⟨#[109, 97, 110, 121]⟩
def w_meet : Str := ⟨#[109, 101, 101, 116]⟩
def w_misses : Str := ⟨#[109, 105, 115, 115, 101, 115]⟩
def w_no : Str := ⟨#[110, 111]⟩
def w_none : Str := ⟨#[110, 111, 110, 101]⟩
def w_odd : Str := ⟨#[111, 100, 100]⟩
def w_ok : Str := ⟨#[111, 107]⟩
def w_peeling : Str := ⟨#[112, 101, 101, 108, 105, 110, 103]⟩
def w_people : Str := ⟨#[112, 101, 111, 112, 108, 101]⟩
def w_person : Str := ⟨#[112, 101, 114, 115, 111, 110]⟩
def w_say : Str := ⟨#[115, 97, 121]⟩
def w_search : Str := ⟨#[115, 101, 97, 114, 99, 104]⟩
def w_sees : Str := ⟨#[115, 101, 101, 115]⟩
def w_setting : Str := ⟨#[115, 101, 116, 116, 105, 110, 103]⟩
def w_show : Str := ⟨#[115, 104, 111, 119]⟩
def w_strength : Str := ⟨#[115, 116, 114, 101, 110, 103, 116, 104]⟩
def w_strike : Str := ⟨#[115, 116, 114, 105, 107, 101]⟩
def w_struck : Str := ⟨#[115, 116, 114, 117, 99, 107]⟩
def w_talk : Str := ⟨#[116, 97, 108, 107]⟩
def w_tell : Str := ⟨#[116, 101, 108, 108]⟩
def w_untrue : Str := ⟨#[117, 110, 116, 114, 117, 101]⟩
def w_with : Str := ⟨#[119, 105, 116, 104]⟩
def w_word : Str := ⟨#[119, 111, 114, 100]⟩
def w_yes : Str := ⟨#[121, 101, 115]⟩
abbrev f_is_integer : Nat := 0
abbrev f_is_setting_k75 : Nat := 1
abbrev f_check_setting : Nat := 2
abbrev f_is_row : Nat := 3
abbrev f_is_hand : Nat := 4
abbrev f_is_lot : Nat := 5
abbrev f_check_lot : Nat := 6
abbrev f_rows_out_of : Nat := 7
abbrev f_others : Nat := 8
abbrev f_count_rows : Nat := 9
abbrev f_deals_of_hand : Nat := 10
abbrev f_place_of : Nat := 11
abbrev f_few_deals : Nat := 12
abbrev f_deals_of_lot : Nat := 13
abbrev f_known_to : Nat := 14
abbrev f_is_person : Nat := 15
abbrev f_check_word : Nat := 16
abbrev f_check_speakers : Nat := 17
abbrev f_held_groups : Nat := 18
abbrev f_sure_rows : Nat := 19
abbrev f_is_so : Nat := 20
abbrev f_told_by : Nat := 21
abbrev f_rounds : Nat := 22
abbrev f_law_cell_at : Nat := 23
abbrev f_law_draws_k75 : Nat := 24
abbrev f_law_setting_k75 : Nat := 25
abbrev f_law_hand : Nat := 26
abbrev f_law_lot_k75 : Nat := 27
abbrev f_law_rows_k75 : Nat := 28
abbrev f_law_many_hands : Nat := 29
abbrev f_law_deals : Nat := 30
abbrev f_law_whole : Nat := 31
abbrev f_law_at : Nat := 32
abbrev f_law_groups : Nat := 33
abbrev f_law_known : Nat := 34
abbrev f_law_holds_k75 : Nat := 35
abbrev f_law_after : Nat := 36
abbrev f_law_people : Nat := 37
abbrev f_law_speakers : Nat := 38
abbrev f_law_rounds : Nat := 39
abbrev f_law_k75 : Nat := 40
abbrev f_check_people : Nat := 41
abbrev f_is_saying : Nat := 42
abbrev f_check_talk : Nat := 43
abbrev f_after_talk : Nat := 44
abbrev f_deals_left : Nat := 45
abbrev f_quiet_part : Nat := 46
abbrev f_quiet : Nat := 47
abbrev f_law_is_row : Nat := 48
abbrev f_law_is_deal : Nat := 49
abbrev f_law_are_deals : Nat := 50
abbrev f_law_orders : Nat := 51
abbrev f_law_right_k76 : Nat := 52
abbrev f_law_begun : Nat := 53
abbrev f_law_k76 : Nat := 54
abbrev f_is_deal : Nat := 55
abbrev f_peeling : Nat := 56
abbrev f_is_step : Nat := 57
abbrev f_peels : Nat := 58
abbrev f_peeling_holds : Nat := 59
abbrev f_law_counts : Nat := 60
abbrev f_law_taken : Nat := 61
abbrev f_law_k77 : Nat := 62
abbrev f_law_within : Nat := 63
abbrev f_law_k78 : Nat := 64
abbrev f_law_peeling : Nat := 65
abbrev f_law_holds_k79 : Nat := 66
abbrev f_law_spoilt_k79 : Nat := 67
abbrev f_law_right_k79 : Nat := 68
abbrev f_law_k79 : Nat := 69
abbrev f_check_deal : Nat := 70
abbrev f_groups_of : Nat := 71
abbrev f_spread : Nat := 72
abbrev f_block_in : Nat := 73
abbrev f_check_person : Nat := 74
abbrev f_left_around : Nat := 75
abbrev f_common_knows : Nat := 76
abbrev f_law_saying : Nat := 77
abbrev f_law_opposite : Nat := 78
abbrev f_law_talk : Nat := 79
abbrev f_law_common : Nat := 80
abbrev f_law_k80 : Nat := 81
abbrev f_law_parts : Nat := 82
abbrev f_law_right_k81 : Nat := 83
abbrev f_law_k81 : Nat := 84
abbrev f_law_right_k82 : Nat := 85
abbrev f_law_k82 : Nat := 86
abbrev f_sayings_of_knowledge : Nat := 87
abbrev f_still : Nat := 88
abbrev f_law_eighteen : Nat := 89
abbrev f_law_right_k83 : Nat := 90
abbrev f_law_k83 : Nat := 91
abbrev f_held_by : Nat := 92
abbrev f_words_now : Nat := 93
abbrev f_law_order_k84 : Nat := 94
abbrev f_law_renamed : Nat := 95
abbrev f_law_moved : Nat := 96
abbrev f_law_said : Nat := 97
abbrev f_law_words : Nat := 98
abbrev f_law_right_k84 : Nat := 99
abbrev f_law_k84 : Nat := 100
abbrev f_law_right_k85 : Nat := 101
abbrev f_law_k85 : Nat := 102
abbrev f_law_words_error : Nat := 103
abbrev f_law_common_error : Nat := 104
abbrev f_law_due_k86 : Nat := 105
abbrev f_law_deal : Nat := 106
abbrev f_law_case_k86 : Nat := 107
abbrev f_law_k86 : Nat := 108
abbrev f_law_told_k87 : Nat := 109
abbrev f_law_odd_saying : Nat := 110
abbrev f_law_good_talk : Nat := 111
abbrev f_law_odd_talk : Nat := 112
abbrev f_law_right_k87 : Nat := 113
abbrev f_law_doors : Nat := 114
abbrev f_law_many : Nat := 115
abbrev f_law_k87 : Nat := 116
abbrev f_wall : Nat := 117
abbrev f_count_hands : Nat := 118
abbrev f_all_hands : Nat := 119
abbrev f_count_deals : Nat := 120
abbrev f_all_deals : Nat := 121
abbrev f_law_small_setting : Nat := 122
abbrev f_law_begin : Nat := 123
abbrev f_law_thing : Nat := 124
abbrev f_law_fewer : Nat := 125
abbrev f_law_word : Nat := 126
abbrev f_law_deed_k88 : Nat := 127
abbrev f_law_left_right : Nat := 128
abbrev f_law_people_right : Nat := 129
abbrev f_law_said_right : Nat := 130
abbrev f_law_in_right : Nat := 131
abbrev f_law_looked : Nat := 132
abbrev f_law_k88 : Nat := 133
abbrev f_law_with : Nat := 134
abbrev f_law_person_right : Nat := 135
abbrev f_law_undone : Nat := 136
abbrev f_law_right_k89 : Nat := 137
abbrev f_law_k89 : Nat := 138
abbrev f_law_lot_with : Nat := 139
abbrev f_law_right_k90 : Nat := 140
abbrev f_law_cards_first : Nat := 141
abbrev f_law_k90 : Nat := 142
abbrev f_law_place_told : Nat := 143
abbrev f_law_kept : Nat := 144
abbrev f_law_places : Nat := 145
abbrev f_law_others : Nat := 146
abbrev f_law_k91 : Nat := 147
abbrev f_law_told_k92 : Nat := 148
abbrev f_law_due_k92 : Nat := 149
abbrev f_law_odd : Nat := 150
abbrev f_law_k92 : Nat := 151
abbrev f_misses : Nat := 152
abbrev f_show_cards : Nat := 153
abbrev f_show_lot : Nat := 154
abbrev f_show_deal : Nat := 155
abbrev f_are_signs : Nat := 156
abbrev f_cards_of_signs : Nat := 157
abbrev f_read_lot : Nat := 158
abbrev f_goes_on : Nat := 159
abbrev f_read_deal : Nat := 160
abbrev f_law_shown : Nat := 161
abbrev f_law_first_hands : Nat := 162
abbrev f_law_are_rows : Nat := 163
abbrev f_law_same : Nat := 164
abbrev f_law_k93 : Nat := 165
abbrev f_law_row_of : Nat := 166
abbrev f_law_lot_read : Nat := 167
abbrev f_law_deal_read : Nat := 168
abbrev f_law_spoilt_k94 : Nat := 169
abbrev f_law_read : Nat := 170
abbrev f_law_setting_told : Nat := 171
abbrev f_law_right_k94 : Nat := 172
abbrev f_law_k94 : Nat := 173
abbrev f_check_cards : Nat := 174
abbrev f_count_common : Nat := 175
abbrev f_pairs_of : Nat := 176
abbrev f_blur : Nat := 177
abbrev f_is_useful : Nat := 178
abbrev f_check_size : Nat := 179
abbrev f_hands_left : Nat := 180
abbrev f_count_with : Nat := 181
abbrev f_least_agreed : Nat := 182
abbrev f_leak_of : Nat := 183
abbrev f_leak : Nat := 184
abbrev f_is_hiding : Nat := 185
abbrev f_strength : Nat := 186
abbrev f_is_good : Nat := 187
abbrev f_meetings : Nat := 188
abbrev f_good_settings : Nat := 189
abbrev f_floor_of : Nat := 190
abbrev f_most_useful : Nat := 191
abbrev f_ceiling_of : Nat := 192
abbrev f_card_counts : Nat := 193
abbrev f_counts_allow : Nat := 194
abbrev f_shares : Nat := 195
abbrev f_fits_all : Nat := 196
abbrev f_fitting : Nat := 197
abbrev f_good_with : Nat := 198
abbrev f_may_add : Nat := 199
abbrev f_without : Nat := 200
abbrev f_may_strike : Nat := 201
abbrev f_lowest : Nat := 202
abbrev f_hands_without : Nat := 203
abbrev f_some_hands : Nat := 204
abbrev f_chances : Nat := 205
abbrev f_rows_missed : Nat := 206
abbrev f_uneven : Nat := 207
abbrev f_is_even : Nat := 208
abbrev f_prime_of : Nat := 209
abbrev f_powers_of : Nat := 210
abbrev f_check_rests : Nat := 211
abbrev f_power_lot : Nat := 212
abbrev f_hands_or_none : Nat := 213
abbrev f_answer_good : Nat := 214
abbrev f_answer_floor : Nat := 215
abbrev f_answer_ceiling : Nat := 216
abbrev f_answer_strength : Nat := 217
abbrev f_answer_add : Nat := 218
abbrev f_answer_strike : Nat := 219
abbrev f_answer_meet : Nat := 220
abbrev f_answer_even : Nat := 221
abbrev f_answer_fits : Nat := 222
abbrev f_answer_show : Nat := 223
abbrev f_answer_left : Nat := 224
abbrev f_answer_chances : Nat := 225
abbrev f_number_of : Nat := 226
abbrev f_cards_of_word : Nat := 227
abbrev f_law_power_hands : Nat := 228
abbrev f_law_hands : Nat := 229
abbrev f_law_good : Nat := 230
abbrev f_law_chances : Nat := 231
abbrev f_law_plain : Nat := 232
abbrev f_law_row : Nat := 233
abbrev f_law_told_k95 : Nat := 234
abbrev f_law_deed_k95 : Nat := 235
abbrev f_law_lines_right : Nat := 236
abbrev f_law_k95 : Nat := 237
abbrev f_law_told_k96 : Nat := 238
abbrev f_law_due_k96 : Nat := 239
abbrev f_law_odd_rows : Nat := 240
abbrev f_law_case_k96 : Nat := 241
abbrev f_law_k96 : Nat := 242
abbrev f_blur_holds : Nat := 243
abbrev f_leak_holds : Nat := 244
abbrev f_turned : Nat := 245
abbrev f_known_cards : Nat := 246
abbrev f_unevenness : Nat := 247
abbrev f_balanced : Nat := 248
abbrev f_even_floor : Nat := 249
abbrev f_blocks_in : Nat := 250
abbrev f_block_of : Nat := 251
abbrev f_count_blocks : Nat := 252
abbrev f_common_cards : Nat := 253
abbrev f_law_source : Nat := 254
abbrev f_law_pick : Nat := 255
abbrev f_law_rows_k97 : Nat := 256
abbrev f_law_setting_k97 : Nat := 257
abbrev f_law_fits : Nat := 258
abbrev f_law_lot_k97 : Nat := 259
abbrev f_law_lot_of : Nat := 260
abbrev f_law_settings : Nat := 261
abbrev f_law_checks : Nat := 262
abbrev f_law_views : Nat := 263
abbrev f_law_k97 : Nat := 264
abbrev f_is_setting_k98 : Nat := 265
abbrev f_check_setting_k98 : Nat := 266
abbrev f_is_hand_k98 : Nat := 267
abbrev f_check_hand : Nat := 268
abbrev f_is_lot_k98 : Nat := 269
abbrev f_check_lot_k98 : Nat := 270
abbrev f_count_hands_k98 : Nat := 271
abbrev f_all_hands_k98 : Nat := 272
abbrev f_count_deals_k98 : Nat := 273
abbrev f_blur_k98 : Nat := 274
abbrev f_is_useful_k98 : Nat := 275
abbrev f_leak_of_k98 : Nat := 276
abbrev f_leak_k98 : Nat := 277
abbrev f_is_hiding_k98 : Nat := 278
abbrev f_is_good_k98 : Nat := 279
abbrev f_floor_of_k98 : Nat := 280
abbrev f_ceiling_of_k98 : Nat := 281
abbrev f_rows_of_cards : Nat := 282
abbrev f_check_pool : Nat := 283
abbrev f_good_within : Nat := 284
abbrev f_least_good : Nat := 285
abbrev f_greatest_good : Nat := 286
abbrev f_good_sizes : Nat := 287
abbrev f_can_strike : Nat := 288
abbrev f_strikings : Nat := 289
abbrev f_none_within : Nat := 290
abbrev f_check_renaming : Nat := 291
abbrev f_moved : Nat := 292
abbrev f_renamed : Nat := 293
abbrev f_all_renamings : Nat := 294
abbrev f_check_small : Nat := 295
abbrev f_first_alike : Nat := 296
abbrev f_count_keeping : Nat := 297
abbrev f_ways_from : Nat := 298
abbrev f_renaming_to : Nat := 299
abbrev f_check_lots : Nat := 300
abbrev f_kinds_of : Nat := 301
abbrev f_fitting_k98 : Nat := 302
abbrev f_good_with_k98 : Nat := 303
abbrev f_may_add_k98 : Nat := 304
abbrev f_may_strike_k98 : Nat := 305
abbrev f_least_mends : Nat := 306
abbrev f_parts_of : Nat := 307
abbrev f_has_within : Nat := 308
abbrev f_is_rule : Nat := 309
abbrev f_check_rule : Nat := 310
abbrev f_lot_by : Nat := 311
abbrev f_bad_lots : Nat := 312
abbrev f_prime_of_k98 : Nat := 313
abbrev f_check_rests_k98 : Nat := 314
abbrev f_rests_of : Nat := 315
abbrev f_power_lot_k98 : Nat := 316
abbrev f_reads : Nat := 317
abbrev f_power_rule : Nat := 318
abbrev f_moved_by : Nat := 319
abbrev f_shifted : Nat := 320
abbrev f_shift_rule : Nat := 321
abbrev f_is_weighted : Nat := 322
abbrev f_is_choosing : Nat := 323
abbrev f_check_choosing : Nat := 324
abbrev f_choosing_of : Nat := 325
abbrev f_weight_of : Nat := 326
abbrev f_says : Nat := 327
abbrev f_chance_of : Nat := 328
abbrev f_likeliest : Nat := 329
abbrev f_guess : Nat := 330
abbrev f_bill_knows : Nat := 331
abbrev f_cath_knows : Nat := 332
abbrev f_alone : Nat := 333
abbrev f_agreed : Nat := 334
abbrev f_law_draws_k98 : Nat := 335
abbrev f_law_rows_k98 : Nat := 336
abbrev f_law_setting_k98 : Nat := 337
abbrev f_law_order_k98 : Nat := 338
abbrev f_law_named_ways : Nat := 339
abbrev f_law_placed_ways : Nat := 340
abbrev f_law_named_lots : Nat := 341
abbrev f_law_placed_lots : Nat := 342
abbrev f_law_mends : Nat := 343
abbrev f_law_k98 : Nat := 344
abbrev f_law_draws_k99 : Nat := 345
abbrev f_law_rows_k99 : Nat := 346
abbrev f_law_choices : Nat := 347
abbrev f_law_sayings_alike : Nat := 348
abbrev f_law_texts_alike : Nat := 349
abbrev f_law_talks_alike : Nat := 350
abbrev f_law_kinds : Nat := 351
abbrev f_law_errors_apart : Nat := 352
abbrev f_law_k99 : Nat := 353
def c_MOST_CARDS : D := .int 13
def c_MOST_HANDS : D := .int 60
def c_MOST_DEALS : D := .int 2000
def c_PEOPLE : D := .tuple [.str w_anne, .str w_bill, .str w_cath]
def c_OWN_WORDS : D := .tuple [.str w_knows, .str w_lacks, .str w_card, .str w_blind]
def c_CARD_WORDS : D := .tuple [.str w_has, .str w_misses]
def c_MOST_SAYINGS : D := .int 6
def c_MOST_SAID : D := .int 100
def c_SIGNS : D := .str ⟨#[48, 49, 50, 51, 52, 53, 54, 55, 56, 57, 97, 98, 99]⟩
def c_MOST_DIGITS : D := .int 30
def c_FIRST_SETTING : D := .tuple [.int 3, .int 3, .int 1]
def c_FIRST_LOT : D := .tuple [.tuple [.int 0, .int 1, .int 6], .tuple [.int 0, .int 2, .int 5], .tuple [.int 0, .int 3, .int 4], .tuple [.int 1, .int 2, .int 4], .tuple [.int 3, .int 5, .int 6]]
def c_MOST_CARDS_settings : D := .int 13
def c_MOST_IN_POOL : D := .int 10
def c_MOST_CARDS_renaming : D := .int 7
def c_MOST_LOTS_renaming : D := .int 12
def c_MOST_FITTING : D := .int 80
def c_MOST_LOTS_ways : D := .int 40
def c_MOST_IN_RULE : D := .int 800
def c_MOST_WEIGHT : D := .int 1000000
def c_MOST_FOR_CHANCES : D := .int 9
def F_is_integer : FDef := { params := 1, slots := 1, body := [.ret (.and [(.prim (.isTy .int) [(.var 0)]), (.not (.prim (.isTy .bool) [(.var 0)]))])] }
def F_is_setting_k75 : FDef := { params := 1, slots := 2, body := [.ife (.or [(.not (.prim (.isTy .tup) [(.var 0)])), (.cmp .ne (.prim .len [(.var 0)]) (.lit (.int 3)))]) [.ret (.lit (.bool false))] [],
.for (.n 1) .seq [(.var 0)] [.ife (.or [(.not (.call f_is_integer [(.var 1)])), (.cmp .lt (.var 1) (.lit (.int 1)))]) [.ret (.lit (.bool false))] []],
.ret (.cmp .le (.prim .sum [(.var 0)]) (.gl 0 c_MOST_CARDS))] }
def F_check_setting : FDef := { params := 1, slots := 1, body := [.ife (.not (.call f_is_setting_k75 [(.var 0)])) [.raise 1 [(.lit (.str ⟨#[110, 111, 116, 32, 97, 32, 115, 101, 116, 116, 105, 110, 103]⟩))]] []] }
def F_is_row : FDef := { params := 2, slots := 4, body := [.ife (.not (.prim (.isTy .tup) [(.var 0)])) [.ret (.lit (.bool false))] [],
.set (.n 2) (.neg (.lit (.int 1))),
.for (.n 3) .seq [(.var 0)] [.ife (.or [(.not (.call f_is_integer [(.var 3)])), (.cmp .le (.var 3) (.var 2)), (.cmp .ge (.var 3) (.var 1))]) [.ret (.lit (.bool false))] [],
.set (.n 2) (.var 3)],
.ret (.lit (.bool true))] }
def F_is_hand : FDef := { params := 2, slots := 2, body := [.exp (.call f_check_setting [(.var 0)]),
.ret (.and [(.call f_is_row [(.var 1), (.prim .sum [(.var 0)])]), (.cmp .eq (.prim .len [(.var 1)]) (.idx (.var 0) (.lit (.int 0))))])] }
def F_is_lot : FDef := { params := 2, slots := 5, body := [.exp (.call f_check_setting [(.var 0)]),
.ife (.or [(.not (.prim (.isTy .tup) [(.var 1)])), (.cmp .lt (.prim .len [(.var 1)]) (.lit (.int 1))), (.cmp .gt (.prim .len [(.var 1)]) (.gl 1 c_MOST_HANDS))]) [.ret (.lit (.bool false))] [],
.for (.n 2) .seq [(.var 1)] [.ife (.not (.call f_is_hand [(.var 0), (.var 2)])) [.ret (.lit (.bool false))] []],
.for (.t [3, 4]) .zip [(.var 1), (.slc (.var 1) (.lit (.int 1)) (.lit .none))] [.ife (.cmp .ge (.var 3) (.var 4)) [.ret (.lit (.bool false))] []],
.ret (.lit (.bool true))] }
def F_check_lot : FDef := { params := 2, slots := 2, body := [.ife (.not (.call f_is_lot [(.var 0), (.var 1)])) [.raise 4 [(.lit (.str ⟨#[110, 111, 116, 32, 97, 32, 108, 111, 116, 32, 111, 102, 32, 116, 104, 101, 32, 115, 101, 116, 116, 105, 110, 103]⟩))]] []] }
def F_rows_out_of : FDef := { params := 2, slots := 7, body := [.set (.n 2) (.lst [(.tup [])]),
.for (.n 3) .range [(.var 1)] [.own 4 (.lst []),
.for (.n 5) .seq [(.prim .list [(.var 2)])] [.for (.n 6) .seq [(.var 0)] [.ife (.or [(.cmp .eq (.var 5) (.tup [])), (.cmp .gt (.var 6) (.idx (.var 5) (.neg (.lit (.int 1)))))]) [.app 4 (.bin .add (.var 5) (.tup [(.var 6)]))] []]],
.frz 4,
.set (.n 2) (.var 4)],
.ret (.var 2)] }
def F_others : FDef := { params := 2, slots := 3, body := [.ret (.prim .tuple [(.lc (.var 2) (.n 2) .range [(.prim .sum [(.var 0)])] [(.cmp .nin (.var 2) (.var 1))] [2])])] }
def F_count_rows : FDef := { params := 2, slots := 4, body := [.set (.n 2) (.lit (.int 1)),
.for (.n 3) .range [(.var 1)] [.set (.n 2) (.bin .fdiv (.bin .mul (.var 2) (.bin .sub (.var 0) (.var 3))) (.bin .add (.var 3) (.lit (.int 1))))],
.ret (.var 2)] }
def F_deals_of_hand : FDef := { params := 2, slots := 7, body := [.set (.n 2) (.call f_others [(.var 0), (.var 1)]),
.own 3 (.lst []),
.for (.n 4) .seq [(.call f_rows_out_of [(.var 2), (.idx (.var 0) (.lit (.int 1)))])] [.set (.n 5) (.prim .tuple [(.lc (.var 6) (.n 6) .seq [(.var 2)] [(.cmp .nin (.var 6) (.var 4))] [6])]),
.app 3 (.tup [(.var 1), (.var 4), (.var 5)])],
.ret (.var 3)] }
def F_place_of : FDef := { params := 1, slots := 1, body := [.ret (.meth .index (.gl 3 c_PEOPLE) [(.var 0)])] }
def F_few_deals : FDef := { params := 2, slots := 2, body := [.ife (.cmp .gt (.bin .mul (.prim .len [(.var 1)]) (.call f_count_rows [(.bin .add (.idx (.var 0) (.lit (.int 1))) (.idx (.var 0) (.lit (.int 2)))), (.idx (.var 0) (.lit (.int 1)))])) (.gl 2 c_MOST_DEALS)) [.raise 26 [(.lit (.str ⟨#[116, 104, 101, 32, 108, 111, 116, 32, 104, 97, 115, 32, 116, 111, 111, 32, 109, 97, 110, 121, 32, 100, 101, 97, 108, 115]⟩))]] []] }
def F_deals_of_lot : FDef := { params := 2, slots := 4, body := [.exp (.call f_few_deals [(.var 0), (.var 1)]),
.own 2 (.lst []),
.for (.n 3) .seq [(.var 1)] [.ext 2 (.call f_deals_of_hand [(.var 0), (.var 3)])],
.ret (.var 2)] }
def F_known_to : FDef := { params := 2, slots := 8, body := [.set (.n 2) (.call f_place_of [(.var 1)]),
.own 3 (.lst []),
.for (.t [4, 5]) .enum [(.idx (.var 0) (.lit (.int 0)))] [.for (.n 6) .seq [(.var 5)] [.ife (.and [(.cmp .ne (.var 4) (.var 2)), (.prim .all [(.lc (.cmp .inn (.var 6) (.idx (.var 7) (.var 4))) (.n 7) .seq [(.var 0)] [] [7])])]) [.app 3 (.var 6)] []]],
.ret (.prim .tuple [(.prim .sorted [(.var 3)])])] }
def F_is_person : FDef := { params := 1, slots := 1, body := [.ret (.and [(.prim (.isTy .str) [(.var 0)]), (.cmp .inn (.var 0) (.gl 3 c_PEOPLE))])] }
def F_check_word : FDef := { params := 1, slots := 1, body := [.ife (.or [(.not (.prim (.isTy .str) [(.var 0)])), (.cmp .nin (.var 0) (.gl 4 c_OWN_WORDS))]) [.raise 23 [(.lit (.str ⟨#[110, 111, 116, 32, 97, 32, 119, 111, 114, 100, 32, 116, 104, 97, 116, 32, 111, 110, 101, 32, 99, 97, 110, 32, 115, 97, 121, 32, 111, 102, 32, 111, 110, 101, 115, 101, 108, 102]⟩))]] []] }
def F_check_speakers : FDef := { params := 1, slots := 3, body := [.ife (.or [(.not (.prim (.isTy .tup) [(.var 0)])), (.cmp .eq (.var 0) (.tup []))]) [.raise 9 [(.lit (.str ⟨#[110, 111, 116, 32, 97, 32, 116, 117, 112, 108, 101, 32, 111, 102, 32, 112, 101, 111, 112, 108, 101]⟩))]] [],
.for (.t [1, 2]) .enum [(.var 0)] [.ife (.or [(.not (.call f_is_person [(.var 2)])), (.cmp .inn (.var 2) (.slc (.var 0) (.lit .none) (.var 1)))]) [.raise 9 [(.lit (.str ⟨#[110, 111, 116, 32, 97, 32, 116, 117, 112, 108, 101, 32, 111, 102, 32, 117, 110, 108, 105, 107, 101, 32, 112, 101, 111, 112, 108, 101]⟩))]] []]] }
def F_held_groups : FDef := { params := 2, slots := 5, body := [.set (.n 2) (.call f_place_of [(.var 1)]),
.own 3 (.dct [] []),
.for (.n 4) .seq [(.var 0)] [.gapp 3 (.idx (.var 4) (.var 2)) (.var 4)],
.ret (.var 3)] }
def F_sure_rows : FDef := { params := 2, slots := 4, body := [.ret (.dc (.var 2) (.lit (.bool true)) (.t [2, 3]) .items [(.call f_held_groups [(.var 0), (.var 1)])] [(.cmp .eq (.prim .len [(.var 3)]) (.lit (.int 1)))] [2, 3])] }
def F_is_so : FDef := { params := 3, slots := 3, body := [.ife (.cmp .eq (.var 1) (.lit (.str w_knows))) [.ret (.cmp .eq (.prim .len [(.var 0)]) (.lit (.int 1)))] [],
.ife (.cmp .eq (.var 1) (.lit (.str w_lacks))) [.ret (.cmp .gt (.prim .len [(.var 0)]) (.lit (.int 1)))] [],
.ret (.cmp .eq (.cmp .ne (.call f_known_to [(.var 0), (.var 2)]) (.tup [])) (.cmp .eq (.var 1) (.lit (.str w_card))))] }
def F_told_by : FDef := { params := 2, slots := 12, body := [.set (.t [2, 3]) (.slc (.var 1) (.lit .none) (.lit (.int 2))),
.set (.n 4) (.call f_place_of [(.var 3)]),
.ife (.cmp .inn (.var 2) (.gl 5 c_CARD_WORDS)) [.ret (.lc (.var 5) (.n 5) .seq [(.var 0)] [(.cmp .eq (.cmp .inn (.idx (.var 1) (.lit (.int 2))) (.idx (.var 5) (.var 4))) (.cmp .eq (.var 2) (.lit (.str w_has))))] [5])] [],
.set (.n 6) (.call f_held_groups [(.var 0), (.var 3)]),
.ife (.cmp .eq (.var 2) (.lit (.str w_sees))) [.set (.n 7) (.call f_place_of [(.idx (.var 1) (.lit (.int 2)))]),
.set (.n 8) (.call f_sure_rows [(.var 0), (.idx (.var 1) (.lit (.int 2)))]),
.set (.n 9) (.dc (.var 10) (.prim .all [(.lc (.cmp .inn (.idx (.var 5) (.var 7)) (.var 8)) (.n 5) .seq [(.var 11)] [] [5])]) (.t [10, 11]) .items [(.var 6)] [] [10, 11])] [.set (.n 9) (.dc (.var 10) (.call f_is_so [(.var 11), (.var 2), (.var 3)]) (.t [10, 11]) .items [(.var 6)] [] [10, 11])],
.ret (.lc (.var 5) (.n 5) .seq [(.var 0)] [(.idx (.var 9) (.idx (.var 5) (.var 4)))] [5])] }
def F_rounds : FDef := { params := 4, slots := 10, body := [.exp (.call f_check_lot [(.var 0), (.var 1)]),
.exp (.call f_check_word [(.var 2)]),
.exp (.call f_check_speakers [(.var 3)]),
.set (.n 4) (.call f_deals_of_lot [(.var 0), (.var 1)]),
.own 5 (.lst []),
.set (.n 6) (.lit (.int 0)),
.set (.n 7) (.neg (.lit (.int 1))),
.whl (.and [(.cmp .ne (.var 7) (.prim .len [(.var 4)])), (.cmp .ne (.var 4) (.lst []))]) [.set (.n 7) (.prim .len [(.var 4)]),
.for (.n 8) .seq [(.var 3)] [.ife (.cmp .eq (.var 4) (.lst [])) [.brk] [],
.set (.n 9) (.call f_told_by [(.var 4), (.tup [(.var 2), (.var 8)])]),
.app 5 (.prim .len [(.var 9)]),
.ife (.cmp .lt (.prim .len [(.var 9)]) (.prim .len [(.var 4)])) [.set (.n 6) (.prim .len [(.var 5)])] [],
.set (.n 4) (.var 9)]],
.ret (.slc (.var 5) (.lit .none) (.var 6))] }
def F_law_cell_at : FDef := { params := 2, slots := 2, body := [.ife (.cmp .lt (.var 1) (.prim .len [(.var 0)])) [.ret (.idx (.var 0) (.var 1))] [],
.ret (.lit (.int 0))] }
def F_law_draws_k75 : FDef := { params := 3, slots := 7, body := [.set (.n 3) (.bin .mod (.prim .int [(.bin .sub (.var 0) (.bin .pow (.lit (.int 10)) (.lit (.int 18))))]) (.bin .mul (.bin .pow (.lit (.int 10)) (.lit (.int 45))) (.bin .pow (.lit (.int 10)) (.lit (.int 45))))),
.own 4 (.lst []),
.for (.n 5) .range [(.var 1)] [.set (.n 6) (.bin .mod (.prim .int [(.bin .add (.bin .mul (.var 0) (.lit (.int 69621))) (.bin .mul (.bin .add (.bin .mul (.lit (.int 2)) (.var 5)) (.lit (.int 1))) (.lit (.int 48271))))]) (.lit (.int 2147483587))),
.set (.n 6) (.bin .mod (.prim .int [(.bin .add (.bin .mul (.var 6) (.var 6)) (.bin .mul (.lit (.int 7)) (.var 5)))]) (.lit (.int 2147483579))),
.set (.n 6) (.bin .add (.bin .mul (.bin .mod (.prim .int [(.bin .add (.bin .add (.bin .mul (.var 6) (.lit (.int 40014))) (.var 0)) (.var 5))]) (.lit (.int 2147483563))) (.lit (.int 1000003))) (.bin .fdiv (.var 6) (.lit (.int 5)))),
.ife (.cmp .ge (.var 0) (.bin .pow (.lit (.int 10)) (.lit (.int 18)))) [.set (.n 6) (.var 3),
.set (.n 3) (.bin .fdiv (.var 3) (.var 2))] [],
.app 4 (.bin .mod (.prim .int [(.var 6)]) (.var 2))],
.ret (.var 4)] }
def F_law_setting_k75 : FDef := { params := 1, slots := 5, body := [.set (.n 1) (.bin .mod (.prim .int [(.var 0)]) (.lit (.int 8))),
.set (.n 2) (.bin .add (.lit (.int 1)) (.bin .mod (.prim .int [(.bin .fdiv (.var 0) (.lit (.int 8)))]) (.lit (.int 4)))),
.set (.n 3) (.bin .add (.lit (.int 1)) (.bin .mod (.prim .int [(.bin .fdiv (.var 0) (.lit (.int 32)))]) (.lit (.int 3)))),
.set (.n 4) (.bin .add (.lit (.int 1)) (.bin .mod (.prim .int [(.bin .fdiv (.var 0) (.lit (.int 96)))]) (.lit (.int 3)))),
.ife (.cmp .eq (.var 1) (.lit (.int 5))) [.set (.n 2) (.bin .add (.var 2) (.lit (.int 3)))] [],
.ife (.cmp .eq (.var 1) (.lit (.int 6))) [.set (.n 3) (.bin .add (.lit (.int 4)) (.bin .mod (.prim .int [(.bin .fdiv (.var 0) (.lit (.int 96)))]) (.lit (.int 5)))),
.set (.n 4) (.lit (.int 1))] [],
.ife (.cmp .eq (.var 1) (.lit (.int 7))) [.set (.n 3) (.lit (.int 1)),
.set (.n 4) (.bin .add (.lit (.int 4)) (.bin .mod (.prim .int [(.bin .fdiv (.var 0) (.lit (.int 96)))]) (.lit (.int 5))))] [],
.ret (.tup [(.var 2), (.var 3), (.var 4)])] }
def F_law_hand : FDef := { params := 2, slots := 6, body := [.own 2 (.prim .listRange [(.prim .sum [(.var 1)])]),
.own 3 (.lst []),
.for (.n 4) .range [(.idx (.var 1) (.lit (.int 0)))] [.set (.n 5) (.prim .len [(.var 2)]),
.apppop 3 2 (.bin .mod (.prim .int [(.var 0)]) (.var 5)),
.set (.n 0) (.bin .fdiv (.var 0) (.var 5))],
.ret (.prim .tuple [(.prim .sorted [(.var 3)])])] }
def F_law_lot_k75 : FDef := { params := 3, slots := 7, body := [.set (.n 3) (.call f_law_draws_k75 [(.var 0), (.bin .add (.var 2) (.lit (.int 1))), (.lit (.int 8648640))]),
.own 4 (.lst []),
.for (.n 5) .seq [(.slc (.var 3) (.lit (.int 1)) (.bin .add (.lit (.int 2)) (.bin .mod (.prim .int [(.idx (.var 3) (.lit (.int 0)))]) (.var 2))))] [.set (.n 6) (.call f_law_hand [(.var 5), (.var 1)]),
.ife (.cmp .nin (.var 6) (.var 4)) [.app 4 (.var 6)] []],
.ret (.prim .tuple [(.prim .sorted [(.var 4)])])] }
def F_law_rows_k75 : FDef := { params := 2, slots := 5, body := [.set (.n 2) (.lst [(.tup [])]),
.for (.n 3) .seq [(.var 0)] [.set (.n 2) (.bin .add (.var 2) (.lc (.bin .add (.var 4) (.tup [(.var 3)])) (.n 4) .seq [(.var 2)] [(.cmp .lt (.prim .len [(.var 4)]) (.var 1))] [4]))],
.ret (.prim .sorted [(.lc (.var 4) (.n 4) .seq [(.var 2)] [(.cmp .eq (.prim .len [(.var 4)]) (.var 1))] [4])])] }
def F_law_many_hands : FDef := { params := 1, slots := 5, body := [.set (.n 1) (.idx (.lst [(.tup [(.lit (.int 3)), (.lit (.int 2)), (.lit (.int 1))]), (.tup [(.lit (.int 3)), (.lit (.int 1)), (.lit (.int 2))]), (.tup [(.lit (.int 2)), (.lit (.int 2)), (.lit (.int 2))]), (.tup [(.lit (.int 4)), (.lit (.int 1)), (.lit (.int 1))]), (.tup [(.lit (.int 2)), (.lit (.int 3)), (.lit (.int 1))])]) (.bin .mod (.prim .int [(.var 0)]) (.lit (.int 5)))),
.set (.n 2) (.call f_law_rows_k75 [(.prim .listRange [(.lit (.int 6))]), (.idx (.var 1) (.lit (.int 0)))]),
.set (.n 3) (.lc (.idx (.var 2) (.var 4)) (.n 4) .range [(.prim .len [(.var 2)])] [(.or [(.cmp .eq (.var 4) (.lit (.int 0))), (.cmp .ne (.bin .mod (.prim .int [(.bin .fdiv (.bin .fdiv (.var 0) (.lit (.int 5))) (.bin .add (.var 4) (.lit (.int 1))))]) (.lit (.int 7))) (.lit (.int 3)))])] [4]),
.ret (.tup [(.var 1), (.prim .tuple [(.var 3)])])] }
def F_law_deals : FDef := { params := 2, slots := 7, body := [.own 2 (.lst []),
.for (.n 3) .seq [(.var 1)] [.set (.n 4) (.lc (.var 5) (.n 5) .range [(.prim .sum [(.var 0)])] [(.cmp .nin (.var 5) (.var 3))] [5]),
.for (.n 6) .seq [(.call f_law_rows_k75 [(.var 4), (.idx (.var 0) (.lit (.int 1)))])] [.app 2 (.tup [(.var 3), (.var 6), (.prim .tuple [(.lc (.var 5) (.n 5) .seq [(.var 4)] [(.cmp .nin (.var 5) (.var 6))] [5])])])]],
.ret (.var 2)] }
def F_law_whole : FDef := { params := 1, slots := 1, body := [.ret (.and [(.prim (.isTy .int) [(.var 0)]), (.not (.prim (.isTy .bool) [(.var 0)]))])] }
def F_law_at : FDef := { params := 1, slots := 1, body := [.ret (.meth .index (.lst [(.lit (.str w_anne)), (.lit (.str w_bill)), (.lit (.str w_cath))]) [(.var 0)])] }
def F_law_groups : FDef := { params := 2, slots := 6, body := [.set (.n 2) (.call f_law_at [(.var 1)]),
.own 3 (.dct [] []),
.for (.n 4) .seq [(.var 0)] [.gapp2 5 3 (.idx (.var 4) (.var 2)) (.var 4)],
.ret (.var 3)] }
def F_law_known : FDef := { params := 2, slots := 7, body := [.set (.n 2) (.call f_law_at [(.var 1)]),
.own 3 (.lst []),
.for (.n 4) .range [(.lit (.int 3))] [.for (.n 5) .seq [(.idx (.idx (.var 0) (.lit (.int 0))) (.var 4))] [.ife (.and [(.cmp .ne (.var 4) (.var 2)), (.prim .all [(.lc (.cmp .inn (.var 5) (.idx (.var 6) (.var 4))) (.n 6) .seq [(.var 0)] [] [6])])]) [.app 3 (.var 5)] []]],
.ret (.prim .tuple [(.prim .sorted [(.var 3)])])] }
def F_law_holds_k75 : FDef := { params := 3, slots := 3, body := [.ife (.or [(.cmp .eq (.var 1) (.lit (.str w_knows))), (.cmp .eq (.var 1) (.lit (.str w_lacks)))]) [.ret (.cmp .eq (.cmp .eq (.prim .len [(.var 0)]) (.lit (.int 1))) (.cmp .eq (.var 1) (.lit (.str w_knows))))] [],
.ret (.cmp .eq (.cmp .ne (.call f_law_known [(.var 0), (.var 2)]) (.tup [])) (.cmp .eq (.var 1) (.lit (.str w_card))))] }
def F_law_after : FDef := { params := 2, slots := 11, body := [.set (.n 2) (.idx (.var 1) (.lit (.int 0))),
.set (.n 3) (.idx (.var 1) (.lit (.int 1))),
.set (.n 4) (.call f_law_at [(.var 3)]),
.ife (.or [(.cmp .eq (.var 2) (.lit (.str w_has))), (.cmp .eq (.var 2) (.lit (.str w_misses)))]) [.ret (.lc (.var 5) (.n 5) .seq [(.var 0)] [(.cmp .eq (.cmp .inn (.idx (.var 1) (.lit (.int 2))) (.idx (.var 5) (.var 4))) (.cmp .eq (.var 2) (.lit (.str w_has))))] [5])] [],
.set (.n 6) (.call f_law_groups [(.var 0), (.var 3)]),
.set (.n 7) (.dct [] []),
.set (.n 8) (.var 4),
.ife (.cmp .eq (.var 2) (.lit (.str w_sees))) [.set (.n 7) (.call f_law_groups [(.var 0), (.idx (.var 1) (.lit (.int 2)))]),
.set (.n 8) (.call f_law_at [(.idx (.var 1) (.lit (.int 2)))])] [],
.own 9 (.dct [] []),
.for (.n 10) .seq [(.var 6)] [.ife (.cmp .eq (.var 2) (.lit (.str w_sees))) [.seti 9 (.var 10) (.prim .all [(.lc (.cmp .eq (.prim .len [(.idx (.var 7) (.idx (.var 5) (.var 8)))]) (.lit (.int 1))) (.n 5) .seq [(.idx (.var 6) (.var 10))] [] [5])])] [.seti 9 (.var 10) (.call f_law_holds_k75 [(.idx (.var 6) (.var 10)), (.var 2), (.var 3)])]],
.ret (.lc (.var 5) (.n 5) .seq [(.var 0)] [(.idx (.var 9) (.idx (.var 5) (.var 4)))] [5])] }
def F_law_people : FDef := { params := 1, slots := 4, body := [.set (.n 1) (.lst [(.lit (.str w_anne)), (.lit (.str w_bill)), (.lit (.str w_cath))]),
.set (.n 2) (.lc (.idx (.var 1) (.var 3)) (.n 3) .range [(.lit (.int 3))] [(.cmp .eq (.bin .mod (.bin .fdiv (.bin .add (.lit (.int 1)) (.bin .mod (.prim .int [(.var 0)]) (.lit (.int 7)))) (.idx (.lst [(.lit (.int 1)), (.lit (.int 2)), (.lit (.int 4))]) (.var 3))) (.lit (.int 2))) (.lit (.int 1)))] [3]),
.ret (.prim .tuple [(.var 2)])] }
def F_law_speakers : FDef := { params := 1, slots := 4, body := [.own 1 (.lst [(.lit (.str w_anne)), (.lit (.str w_bill)), (.lit (.str w_cath))]),
.own 2 (.lst []),
.for (.n 3) .range [(.bin .add (.lit (.int 1)) (.bin .mod (.prim .int [(.var 0)]) (.lit (.int 3))))] [.apppop 2 1 (.bin .mod (.prim .int [(.bin .fdiv (.var 0) (.idx (.lst [(.lit (.int 3)), (.lit (.int 9)), (.lit (.int 18))]) (.var 3)))]) (.prim .len [(.var 1)]))],
.ret (.prim .tuple [(.var 2)])] }
def F_law_rounds : FDef := { params := 3, slots := 8, body := [.own 3 (.lst []),
.set (.n 4) (.lit (.int 0)),
.set (.n 5) (.lit (.int 0)),
.set (.n 6) (.lit (.int 0)),
.whl (.and [(.cmp .ne (.var 0) (.lst [])), (.cmp .lt (.var 5) (.prim .len [(.var 2)]))]) [.set (.n 7) (.call f_law_after [(.var 0), (.tup [(.var 1), (.idx (.var 2) (.var 6))])]),
.app 3 (.prim .len [(.var 7)]),
.set (.n 5) (.bin .add (.var 5) (.lit (.int 1))),
.ife (.cmp .lt (.prim .len [(.var 7)]) (.prim .len [(.var 0)])) [.set (.n 4) (.prim .len [(.var 3)]),
.set (.n 5) (.lit (.int 0))] [],
.set (.n 0) (.var 7),
.set (.n 6) (.bin .mod (.prim .int [(.bin .add (.var 6) (.lit (.int 1)))]) (.prim .len [(.var 2)]))],
.ret (.slc (.var 3) (.lit .none) (.var 4))] }
def F_law_k75 : FDef := { params := 1, slots := 10, body := [.for (.n 1) .seq [(.bin .add (.slc (.var 0) (.lit .none) (.lit (.int 4))) (.lst [(.call f_law_cell_at [(.var 0), (.lit (.int 4))])]))] [.set (.n 2) (.call f_law_draws_k75 [(.var 1), (.lit (.int 4)), (.lit (.int 1440))]),
.set (.n 3) (.call f_law_setting_k75 [(.idx (.var 2) (.lit (.int 0)))]),
.set (.n 4) (.call f_law_lot_k75 [(.bin .add (.bin .fdiv (.var 1) (.lit (.int 1440))) (.var 1)), (.var 3), (.lit (.int 8))]),
.ife (.cmp .eq (.bin .mod (.prim .int [(.idx (.var 2) (.lit (.int 3)))]) (.lit (.int 4))) (.lit (.int 1))) [.set (.t [3, 4]) (.call f_law_many_hands [(.idx (.call f_law_draws_k75 [(.bin .add (.bin .fdiv (.var 1) (.lit (.int 3))) (.var 1)), (.lit (.int 1)), (.lit (.int 720720))]) (.lit (.int 0)))])] [],
.set (.n 5) (.idx (.lst [(.lit (.str w_knows)), (.lit (.str w_lacks)), (.lit (.str w_card)), (.lit (.str w_blind))]) (.bin .mod (.prim .int [(.idx (.var 2) (.lit (.int 1)))]) (.lit (.int 4)))),
.set (.n 6) (.call f_law_speakers [(.idx (.var 2) (.lit (.int 2)))]),
.set (.n 7) (.call f_law_rounds [(.call f_law_deals [(.var 3), (.var 4)]), (.var 5), (.var 6)]),
.own 8 (.call f_rounds [(.var 3), (.var 4), (.var 5), (.var 6)]),
.ife (.or [(.not (.prim (.isTy .lst) [(.var 8)])), (.not (.prim .all [(.lc (.call f_law_whole [(.var 9)]) (.n 9) .seq [(.var 8)] [] [9])])), (.cmp .ne (.var 8) (.var 7))]) [.ret (.lit (.bool false))] [],
.app 8 (.lit (.int 0)),
.ife (.cmp .ne (.call f_rounds [(.var 3), (.var 4), (.var 5), (.var 6)]) (.var 7)) [.ret (.lit (.bool false))] []],
.ret (.lit (.bool true))] }
def F_check_people : FDef := { params := 1, slots := 3, body := [.ife (.or [(.not (.prim (.isTy .tup) [(.var 0)])), (.cmp .lt (.prim .len [(.var 0)]) (.lit (.int 1))), (.cmp .gt (.prim .len [(.var 0)]) (.lit (.int 3)))]) [.raise 9 [(.lit (.str ⟨#[110, 111, 116, 32, 97, 32, 116, 117, 112, 108, 101, 32, 111, 102, 32, 111, 110, 101, 32, 116, 111, 32, 116, 104, 114, 101, 101, 32, 112, 101, 111, 112, 108, 101]⟩))]] [],
.set (.n 1) (.neg (.lit (.int 1))),
.for (.n 2) .seq [(.var 0)] [.ife (.or [(.not (.prim (.isTy .str) [(.var 2)])), (.cmp .nin (.var 2) (.gl 3 c_PEOPLE)), (.cmp .le (.call f_place_of [(.var 2)]) (.var 1))]) [.raise 9 [(.lit (.str ⟨#[110, 111, 116, 32, 97, 110, 32, 97, 115, 99, 101, 110, 100, 105, 110, 103, 32, 116, 117, 112, 108, 101, 32, 111, 102, 32, 112, 101, 111, 112, 108, 101]⟩))]] [],
.set (.n 1) (.call f_place_of [(.var 2)])]] }
def F_is_saying : FDef := { params := 2, slots := 3, body := [.ife (.or [(.not (.prim (.isTy .tup) [(.var 1)])), (.cmp .lt (.prim .len [(.var 1)]) (.lit (.int 2))), (.cmp .gt (.prim .len [(.var 1)]) (.lit (.int 3)))]) [.ret (.lit (.bool false))] [],
.set (.n 2) (.idx (.var 1) (.lit (.int 0))),
.ife (.or [(.not (.prim (.isTy .str) [(.var 2)])), (.not (.call f_is_person [(.idx (.var 1) (.lit (.int 1)))]))]) [.ret (.lit (.bool false))] [],
.ife (.cmp .eq (.prim .len [(.var 1)]) (.lit (.int 2))) [.ret (.cmp .inn (.var 2) (.gl 4 c_OWN_WORDS))] [],
.ife (.cmp .eq (.var 2) (.lit (.str w_sees))) [.ret (.and [(.call f_is_person [(.idx (.var 1) (.lit (.int 2)))]), (.cmp .ne (.idx (.var 1) (.lit (.int 2))) (.idx (.var 1) (.lit (.int 1))))])] [],
.ret (.and [(.cmp .inn (.var 2) (.gl 5 c_CARD_WORDS)), (.call f_is_integer [(.idx (.var 1) (.lit (.int 2)))]), (.chain .le .lt (.lit (.int 0)) (.idx (.var 1) (.lit (.int 2))) (.prim .sum [(.var 0)]))])] }
def F_check_talk : FDef := { params := 2, slots := 3, body := [.ife (.or [(.not (.prim (.isTy .tup) [(.var 1)])), (.cmp .gt (.prim .len [(.var 1)]) (.gl 6 c_MOST_SAYINGS))]) [.raise 22 [(.lit (.str ⟨#[110, 111, 116, 32, 97, 32, 116, 117, 112, 108, 101, 32, 111, 102, 32, 97, 116, 32, 109, 111, 115, 116, 32, 115, 105, 120, 32, 115, 97, 121, 105, 110, 103, 115]⟩))]] [],
.for (.n 2) .seq [(.var 1)] [.ife (.not (.call f_is_saying [(.var 0), (.var 2)])) [.raise 22 [(.lit (.str ⟨#[110, 111, 116, 32, 97, 32, 115, 97, 121, 105, 110, 103, 32, 111, 102, 32, 116, 104, 101, 32, 115, 101, 116, 116, 105, 110, 103]⟩))]] []]] }
def F_after_talk : FDef := { params := 2, slots := 3, body := [.for (.n 2) .seq [(.var 1)] [.set (.n 0) (.call f_told_by [(.var 0), (.var 2)])],
.ret (.var 0)] }
def F_deals_left : FDef := { params := 3, slots := 3, body := [.exp (.call f_check_lot [(.var 0), (.var 1)]),
.exp (.call f_check_talk [(.var 0), (.var 2)]),
.ret (.call f_after_talk [(.call f_deals_of_lot [(.var 0), (.var 1)]), (.var 2)])] }
def F_quiet_part : FDef := { params := 2, slots := 4, body := [.set (.n 2) (.neg (.lit (.int 1))),
.whl (.cmp .ne (.var 2) (.prim .len [(.var 0)])) [.set (.n 2) (.prim .len [(.var 0)]),
.for (.n 3) .seq [(.var 1)] [.set (.n 0) (.call f_told_by [(.var 0), (.tup [(.lit (.str w_lacks)), (.var 3)])])]],
.ret (.var 0)] }
def F_quiet : FDef := { params := 3, slots := 3, body := [.exp (.call f_check_lot [(.var 0), (.var 1)]),
.exp (.call f_check_people [(.var 2)]),
.ret (.call f_quiet_part [(.call f_deals_of_lot [(.var 0), (.var 1)]), (.var 2)])] }
def F_law_is_row : FDef := { params := 1, slots := 2, body := [.ret (.and [(.prim (.isTy .tup) [(.var 0)]), (.prim .all [(.lc (.call f_law_whole [(.var 1)]) (.n 1) .seq [(.var 0)] [] [1])])])] }
def F_law_is_deal : FDef := { params := 1, slots := 2, body := [.ret (.and [(.prim (.isTy .tup) [(.var 0)]), (.cmp .eq (.prim .len [(.var 0)]) (.lit (.int 3))), (.prim .all [(.lc (.call f_law_is_row [(.var 1)]) (.n 1) .seq [(.var 0)] [] [1])])])] }
def F_law_are_deals : FDef := { params := 1, slots := 2, body := [.ret (.and [(.prim (.isTy .lst) [(.var 0)]), (.prim .all [(.lc (.call f_law_is_deal [(.var 1)]) (.n 1) .seq [(.var 0)] [] [1])])])] }
def F_law_orders : FDef := { params := 1, slots := 6, body := [.set (.n 1) (.lst [(.tup [])]),
.for (.n 2) .range [(.prim .len [(.var 0)])] [.set (.n 3) (.lst []),
.for (.n 4) .seq [(.var 1)] [.set (.n 3) (.bin .add (.var 3) (.lc (.bin .add (.var 4) (.tup [(.var 5)])) (.n 5) .seq [(.var 0)] [(.cmp .nin (.var 5) (.var 4))] [5]))],
.set (.n 1) (.var 3)],
.ret (.var 1)] }
def F_law_right_k76 : FDef := { params := 3, slots := 10, body := [.set (.n 3) (.prim .len [(.call f_law_deals [(.var 0), (.var 1)])]),
.set (.n 4) (.call f_quiet [(.var 0), (.var 1), (.prim .tuple [(.prim .sorted [(.var 2)])])]),
.ife (.not (.call f_law_are_deals [(.var 4)])) [.ret (.lit (.bool false))] [],
.for (.n 5) .seq [(.var 2)] [.set (.n 6) (.call f_law_groups [(.var 4), (.var 5)]),
.ife (.cmp .ne (.lc (.var 7) (.n 7) .seq [(.var 6)] [(.cmp .lt (.prim .len [(.idx (.var 6) (.var 7))]) (.lit (.int 2)))] [7]) (.lst [])) [.ret (.lit (.bool false))] []],
.for (.n 8) .seq [(.call f_law_orders [(.var 2)])] [.set (.n 9) (.call f_rounds [(.var 0), (.var 1), (.lit (.str w_lacks)), (.var 8)]),
.ife (.or [(.not (.prim (.isTy .lst) [(.var 9)])), (.cmp .ne (.idx (.bin .add (.lst [(.var 3)]) (.var 9)) (.neg (.lit (.int 1)))) (.prim .len [(.var 4)]))]) [.ret (.lit (.bool false))] []],
.ret (.lit (.bool true))] }
def F_law_begun : FDef := { params := 4, slots := 9, body := [.set (.n 4) (.call f_rounds [(.var 0), (.var 1), (.var 2), (.var 3)]),
.ife (.or [(.not (.prim (.isTy .lst) [(.var 4)])), (.not (.prim .all [(.lc (.call f_law_whole [(.var 5)]) (.n 5) .seq [(.var 4)] [] [5])]))]) [.ret (.lit (.bool false))] [],
.set (.n 6) (.tup []),
.for (.n 7) .range [(.prim .len [(.var 4)])] [.ife (.cmp .lt (.var 7) (.lit (.int 6))) [.set (.n 6) (.bin .add (.var 6) (.tup [(.tup [(.var 2), (.idx (.var 3) (.bin .mod (.prim .int [(.var 7)]) (.prim .len [(.var 3)])))])])),
.ife (.cmp .ne (.prim .len [(.call f_deals_left [(.var 0), (.var 1), (.var 6)])]) (.idx (.var 4) (.var 7))) [.ret (.lit (.bool false))] []] [],
.ife (.and [(.cmp .gt (.var 7) (.lit (.int 0))), (.cmp .gt (.idx (.var 4) (.var 7)) (.idx (.var 4) (.bin .sub (.var 7) (.lit (.int 1)))))]) [.ret (.lit (.bool false))] []],
.ife (.cmp .gt (.bin .add (.prim .len [(.var 4)]) (.prim .len [(.var 3)])) (.lit (.int 6))) [.ret (.lit (.bool true))] [],
.set (.n 8) (.call f_deals_left [(.var 0), (.var 1), (.var 6)]),
.set (.n 6) (.bin .add (.var 6) (.prim .tuple [(.lc (.tup [(.var 2), (.idx (.var 3) (.bin .mod (.prim .int [(.bin .add (.prim .len [(.var 4)]) (.var 7))]) (.prim .len [(.var 3)])))]) (.n 7) .range [(.prim .len [(.var 3)])] [] [7])])),
.ret (.cmp .eq (.call f_deals_left [(.var 0), (.var 1), (.var 6)]) (.var 8))] }
def F_law_k76 : FDef := { params := 1, slots := 7, body := [.for (.n 1) .seq [(.bin .add (.slc (.var 0) (.lit .none) (.lit (.int 3))) (.lst [(.call f_law_cell_at [(.var 0), (.lit (.int 3))])]))] [.set (.n 2) (.call f_law_draws_k75 [(.var 1), (.lit (.int 4)), (.lit (.int 1440))]),
.set (.n 3) (.call f_law_setting_k75 [(.idx (.var 2) (.lit (.int 0)))]),
.set (.n 4) (.call f_law_lot_k75 [(.bin .add (.bin .fdiv (.var 1) (.lit (.int 1440))) (.var 1)), (.var 3), (.lit (.int 8))]),
.ife (.cmp .eq (.bin .mod (.prim .int [(.idx (.var 2) (.lit (.int 3)))]) (.lit (.int 4))) (.lit (.int 1))) [.set (.t [3, 4]) (.call f_law_many_hands [(.idx (.call f_law_draws_k75 [(.bin .add (.bin .fdiv (.var 1) (.lit (.int 3))) (.var 1)), (.lit (.int 1)), (.lit (.int 720720))]) (.lit (.int 0)))])] [],
.set (.n 5) (.call f_law_speakers [(.idx (.var 2) (.lit (.int 1)))]),
.set (.n 6) (.idx (.lst [(.lit (.str w_knows)), (.lit (.str w_lacks)), (.lit (.str w_card)), (.lit (.str w_blind))]) (.bin .mod (.prim .int [(.idx (.var 2) (.lit (.int 2)))]) (.lit (.int 4)))),
.ife (.or [(.not (.call f_law_right_k76 [(.var 3), (.var 4), (.var 5)])), (.not (.call f_law_begun [(.var 3), (.var 4), (.var 6), (.var 5)]))]) [.ret (.lit (.bool false))] []],
.ret (.lit (.bool true))] }
def F_is_deal : FDef := { params := 2, slots := 5, body := [.exp (.call f_check_setting [(.var 0)]),
.ife (.or [(.not (.prim (.isTy .tup) [(.var 1)])), (.cmp .ne (.prim .len [(.var 1)]) (.lit (.int 3)))]) [.ret (.lit (.bool false))] [],
.set (.n 2) (.prim .sum [(.var 0)]),
.for (.t [3, 4]) .zip [(.var 1), (.var 0)] [.ife (.or [(.not (.call f_is_row [(.var 3), (.var 2)])), (.cmp .ne (.prim .len [(.var 3)]) (.var 4))]) [.ret (.lit (.bool false))] []],
.ret (.cmp .eq (.prim .lenSet [(.bin .add (.bin .add (.idx (.var 1) (.lit (.int 0))) (.idx (.var 1) (.lit (.int 1)))) (.idx (.var 1) (.lit (.int 2))))]) (.var 2))] }
def F_peeling : FDef := { params := 3, slots := 8, body := [.exp (.call f_check_lot [(.var 0), (.var 1)]),
.exp (.call f_check_people [(.var 2)]),
.set (.n 3) (.call f_deals_of_lot [(.var 0), (.var 1)]),
.own 4 (.lst []),
.set (.n 5) (.neg (.lit (.int 1))),
.whl (.cmp .ne (.var 5) (.prim .len [(.var 3)])) [.set (.n 5) (.prim .len [(.var 3)]),
.for (.n 6) .seq [(.var 2)] [.ext 4 (.lc (.tup [(.var 7), (.var 6)]) (.n 7) .seq [(.call f_told_by [(.var 3), (.tup [(.lit (.str w_knows)), (.var 6)])])] [] [7]),
.set (.n 3) (.call f_told_by [(.var 3), (.tup [(.lit (.str w_lacks)), (.var 6)])])]],
.ret (.var 4)] }
def F_is_step : FDef := { params := 3, slots := 3, body := [.ife (.or [(.not (.prim (.isTy .tup) [(.var 2)])), (.cmp .ne (.prim .len [(.var 2)]) (.lit (.int 2)))]) [.ret (.lit (.bool false))] [],
.ret (.and [(.call f_is_deal [(.var 0), (.idx (.var 2) (.lit (.int 0)))]), (.call f_is_person [(.idx (.var 2) (.lit (.int 1)))]), (.cmp .inn (.idx (.var 2) (.lit (.int 1))) (.var 1))])] }
def F_peels : FDef := { params := 4, slots := 11, body := [.own 4 (.dc (.var 5) (.lit (.bool true)) (.n 5) .seq [(.var 2)] [] [5]),
.own 6 (.dct [] []),
.for (.n 5) .seq [(.var 2)] [.for (.n 7) .seq [(.var 1)] [.set (.n 8) (.tup [(.var 7), (.idx (.var 5) (.call f_place_of [(.var 7)]))]),
.seti 6 (.var 8) (.bin .add (.meth .get (.var 6) [(.var 8), (.lit (.int 0))]) (.lit (.int 1)))]],
.for (.n 9) .seq [(.var 3)] [.ife (.or [(.not (.call f_is_step [(.var 0), (.var 1), (.var 9)])), (.cmp .nin (.idx (.var 9) (.lit (.int 0))) (.var 4))]) [.ret (.lit (.bool false))] [],
.set (.t [5, 7]) (.var 9),
.ife (.cmp .ne (.idx (.var 6) (.tup [(.var 7), (.idx (.var 5) (.call f_place_of [(.var 7)]))])) (.lit (.int 1))) [.ret (.lit (.bool false))] [],
.del 4 (.var 5),
.for (.n 10) .seq [(.var 1)] [.augi 6 .sub (.tup [(.var 10), (.idx (.var 5) (.call f_place_of [(.var 10)]))]) (.lit (.int 1))]],
.ret (.lit (.bool true))] }
def F_peeling_holds : FDef := { params := 4, slots := 5, body := [.exp (.call f_check_lot [(.var 0), (.var 1)]),
.exp (.call f_check_people [(.var 2)]),
.set (.n 4) (.call f_deals_of_lot [(.var 0), (.var 1)]),
.ife (.or [(.not (.prim (.isTy .lst) [(.var 3)])), (.cmp .ne (.prim .len [(.var 3)]) (.bin .sub (.prim .len [(.var 4)]) (.prim .len [(.call f_quiet_part [(.var 4), (.var 2)])])))]) [.ret (.lit (.bool false))] [],
.ret (.call f_peels [(.var 0), (.var 2), (.var 4), (.var 3)])] }
def F_law_counts : FDef := { params := 2, slots := 6, body := [.own 2 (.dct [] []),
.for (.n 3) .seq [(.var 0)] [.for (.n 4) .seq [(.var 1)] [.set (.n 5) (.tup [(.var 4), (.idx (.var 3) (.call f_law_at [(.var 4)]))]),
.seti 2 (.var 5) (.bin .add (.meth .get (.var 2) [(.var 5), (.lit (.int 0))]) (.lit (.int 1)))]],
.ret (.var 2)] }
def F_law_taken : FDef := { params := 3, slots := 10, body := [.own 3 (.call f_law_counts [(.var 0), (.var 1)]),
.own 4 (.dct [] []),
.for (.n 5) .seq [(.var 0)] [.seti 4 (.var 5) (.lit (.bool true))],
.for (.n 6) .seq [(.var 2)] [.ife (.or [(.not (.prim (.isTy .tup) [(.var 6)])), (.cmp .ne (.prim .len [(.var 6)]) (.lit (.int 2))), (.not (.call f_law_is_deal [(.idx (.var 6) (.lit (.int 0)))]))]) [.ret (.lit (.none))] [],
.set (.t [5, 7]) (.var 6),
.ife (.or [(.not (.prim (.isTy .str) [(.var 7)])), (.cmp .nin (.var 7) (.var 1)), (.cmp .nin (.var 5) (.var 4))]) [.ret (.lit (.none))] [],
.ife (.cmp .ne (.idx (.var 3) (.tup [(.var 7), (.idx (.var 5) (.call f_law_at [(.var 7)]))])) (.lit (.int 1))) [.ret (.lit (.none))] [],
.pop 4 [(.var 5)],
.for (.n 8) .seq [(.var 1)] [.set (.n 9) (.tup [(.var 8), (.idx (.var 5) (.call f_law_at [(.var 8)]))]),
.seti 3 (.var 9) (.bin .sub (.idx (.var 3) (.var 9)) (.lit (.int 1)))]],
.ret (.prim .list [(.var 4)])] }
def F_law_k77 : FDef := { params := 1, slots := 11, body := [.for (.n 1) .seq [(.bin .add (.slc (.var 0) (.lit .none) (.lit (.int 5))) (.lst [(.call f_law_cell_at [(.var 0), (.lit (.int 5))])]))] [.set (.n 2) (.call f_law_draws_k75 [(.var 1), (.lit (.int 4)), (.lit (.int 1440))]),
.set (.n 3) (.call f_law_setting_k75 [(.idx (.var 2) (.lit (.int 0)))]),
.set (.n 4) (.call f_law_lot_k75 [(.bin .add (.bin .fdiv (.var 1) (.lit (.int 1440))) (.var 1)), (.var 3), (.lit (.int 8))]),
.ife (.cmp .eq (.bin .mod (.prim .int [(.idx (.var 2) (.lit (.int 3)))]) (.lit (.int 4))) (.lit (.int 1))) [.set (.t [3, 4]) (.call f_law_many_hands [(.idx (.call f_law_draws_k75 [(.bin .add (.bin .fdiv (.var 1) (.lit (.int 3))) (.var 1)), (.lit (.int 1)), (.lit (.int 720720))]) (.lit (.int 0)))])] [],
.set (.n 5) (.call f_law_people [(.idx (.var 2) (.lit (.int 1)))]),
.set (.n 6) (.call f_peeling [(.var 3), (.var 4), (.var 5)]),
.set (.n 7) (.call f_quiet [(.var 3), (.var 4), (.var 5)]),
.ife (.or [(.not (.prim (.isTy .lst) [(.var 6)])), (.not (.call f_law_are_deals [(.var 7)]))]) [.ret (.lit (.bool false))] [],
.ife (.cmp .ne (.call f_law_taken [(.call f_law_deals [(.var 3), (.var 4)]), (.var 5), (.var 6)]) (.var 7)) [.ret (.lit (.bool false))] [],
.set (.n 8) (.call f_law_counts [(.var 7), (.var 5)]),
.ife (.cmp .ne (.lc (.var 9) (.n 9) .seq [(.var 8)] [(.cmp .eq (.idx (.var 8) (.var 9)) (.lit (.int 1)))] [9]) (.lst [])) [.ret (.lit (.bool false))] [],
.for (.n 10) .range [(.lit (.int 2))] [.ife (.cmp .notB (.call f_peeling_holds [(.var 3), (.var 4), (.var 5), (.prim .list [(.var 6)])]) (.lit (.bool true))) [.ret (.lit (.bool false))] []],
.ife (.and [(.cmp .ne (.var 6) (.lst [])), (.cmp .notB (.call f_peeling_holds [(.var 3), (.var 4), (.var 5), (.bin .add (.var 6) (.slc (.var 6) (.neg (.lit (.int 1))) (.lit .none)))]) (.lit (.bool false)))]) [.ret (.lit (.bool false))] []],
.ret (.lit (.bool true))] }
def F_law_within : FDef := { params := 2, slots := 4, body := [.own 2 (.dct [] []),
.for (.n 3) .seq [(.var 1)] [.seti 2 (.var 3) (.lit (.bool true))],
.ret (.cmp .eq (.lc (.var 3) (.n 3) .seq [(.var 0)] [(.cmp .nin (.var 3) (.var 2))] [3]) (.lst []))] }
def F_law_k78 : FDef := { params := 1, slots := 13, body := [.for (.n 1) .seq [(.bin .add (.slc (.var 0) (.lit .none) (.lit (.int 4))) (.lst [(.call f_law_cell_at [(.var 0), (.lit (.int 4))])]))] [.set (.n 2) (.call f_law_draws_k75 [(.var 1), (.lit (.int 4)), (.lit (.int 1440))]),
.set (.n 3) (.call f_law_setting_k75 [(.idx (.var 2) (.lit (.int 0)))]),
.set (.n 4) (.call f_law_lot_k75 [(.bin .add (.bin .fdiv (.var 1) (.lit (.int 1440))) (.var 1)), (.var 3), (.lit (.int 8))]),
.set (.n 5) (.call f_law_people [(.idx (.var 2) (.lit (.int 1)))]),
.set (.n 6) (.slc (.var 5) (.bin .mod (.prim .int [(.idx (.var 2) (.lit (.int 2)))]) (.prim .len [(.var 5)])) (.lit .none)),
.set (.n 7) (.prim .tuple [(.lc (.idx (.var 4) (.var 8)) (.n 8) .range [(.prim .len [(.var 4)])] [(.or [(.cmp .eq (.var 8) (.lit (.int 0))), (.cmp .eq (.bin .mod (.prim .int [(.bin .fdiv (.idx (.var 2) (.lit (.int 3))) (.idx (.lst [(.lit (.int 1)), (.lit (.int 2)), (.lit (.int 4)), (.lit (.int 8)), (.lit (.int 16)), (.lit (.int 32)), (.lit (.int 64)), (.lit (.int 128))]) (.var 8)))]) (.lit (.int 2))) (.lit (.int 1)))])] [8])]),
.set (.n 9) (.lst [(.call f_quiet [(.var 3), (.var 4), (.var 5)]), (.call f_quiet [(.var 3), (.var 7), (.var 5)]), (.call f_quiet [(.var 3), (.var 4), (.var 6)])]),
.ife (.not (.prim .all [(.lc (.call f_law_are_deals [(.var 10)]) (.n 10) .seq [(.var 9)] [] [10])])) [.ret (.lit (.bool false))] [],
.ife (.or [(.not (.call f_law_within [(.idx (.var 9) (.lit (.int 1))), (.idx (.var 9) (.lit (.int 0)))])), (.not (.call f_law_within [(.idx (.var 9) (.lit (.int 0))), (.idx (.var 9) (.lit (.int 2)))]))]) [.ret (.lit (.bool false))] [],
.for (.n 11) .seq [(.var 5)] [.ife (.cmp .ne (.call f_quiet [(.var 3), (.var 4), (.tup [(.var 11)])]) (.call f_deals_left [(.var 3), (.var 4), (.tup [(.tup [(.lit (.str w_lacks)), (.var 11)])])])) [.ret (.lit (.bool false))] []],
.ife (.cmp .ne (.call f_quiet [(.var 3), (.var 4), (.tup [(.lit (.str w_anne))])]) (.call f_law_deals [(.var 3), (.var 4)])) [.ret (.lit (.bool false))] [],
.set (.n 12) (.prim .tuple [(.lc (.tup [(.lit (.str w_lacks)), (.idx (.var 5) (.bin .mod (.prim .int [(.bin .add (.var 8) (.idx (.var 2) (.lit (.int 2))))]) (.prim .len [(.var 5)])))]) (.n 8) .range [(.bin .add (.lit (.int 1)) (.bin .mod (.prim .int [(.idx (.var 2) (.lit (.int 3)))]) (.lit (.int 6))))] [] [8])]),
.ife (.not (.call f_law_within [(.idx (.var 9) (.lit (.int 0))), (.call f_deals_left [(.var 3), (.var 4), (.var 12)])])) [.ret (.lit (.bool false))] []],
.ret (.lit (.bool true))] }
def F_law_peeling : FDef := { params := 2, slots := 10, body := [.own 2 (.lst []),
.set (.n 3) (.prim .list [(.var 0)]),
.for (.n 4) .range [(.prim .len [(.var 0)])] [.set (.n 5) (.call f_law_counts [(.var 3), (.var 1)]),
.own 6 (.lst []),
.for (.n 7) .seq [(.prim .list [(.var 3)])] [.set (.n 8) (.lc (.var 9) (.n 9) .seq [(.var 1)] [(.cmp .eq (.idx (.var 5) (.tup [(.var 9), (.idx (.var 7) (.call f_law_at [(.var 9)]))])) (.lit (.int 1)))] [9]),
.ife (.cmp .eq (.var 8) (.lst [])) [.app 6 (.var 7)] [.app 2 (.tup [(.var 7), (.idx (.var 8) (.neg (.lit (.int 1))))])]],
.ife (.cmp .eq (.prim .len [(.var 6)]) (.prim .len [(.var 3)])) [.ret (.var 2)] [],
.frz 6,
.set (.n 3) (.var 6)],
.ret (.var 2)] }
def F_law_holds_k79 : FDef := { params := 3, slots := 9, body := [.own 3 (.call f_law_counts [(.var 0), (.var 1)]),
.own 4 (.dct [] []),
.for (.n 5) .seq [(.var 0)] [.seti 4 (.var 5) (.lit (.bool true))],
.for (.t [5, 6]) .seq [(.var 2)] [.ife (.or [(.cmp .nin (.var 6) (.var 1)), (.cmp .nin (.var 5) (.var 4)), (.cmp .ne (.idx (.var 3) (.tup [(.var 6), (.idx (.var 5) (.call f_law_at [(.var 6)]))])) (.lit (.int 1)))]) [.ret (.lit (.bool false))] [],
.pop 4 [(.var 5)],
.for (.n 7) .seq [(.var 1)] [.set (.n 8) (.tup [(.var 7), (.idx (.var 5) (.call f_law_at [(.var 7)]))]),
.seti 3 (.var 8) (.bin .sub (.idx (.var 3) (.var 8)) (.lit (.int 1)))]],
.ret (.cmp .eq (.lc (.var 8) (.n 8) .seq [(.var 3)] [(.cmp .eq (.idx (.var 3) (.var 8)) (.lit (.int 1)))] [8]) (.lst []))] }
def F_law_spoilt_k79 : FDef := { params := 4, slots := 9, body := [.own 4 (.prim .list [(.var 0)]),
.ife (.or [(.cmp .eq (.var 4) (.lst [])), (.cmp .eq (.var 1) (.lit (.int 0)))]) [.ret (.var 4)] [],
.set (.n 5) (.bin .mod (.prim .int [(.var 2)]) (.prim .len [(.var 4)])),
.set (.n 6) (.bin .mod (.prim .int [(.bin .fdiv (.var 2) (.lit (.int 64)))]) (.prim .len [(.var 4)])),
.set (.t [7, 8]) (.idx (.var 4) (.var 5)),
.ife (.cmp .eq (.var 1) (.lit (.int 1))) [.ret (.step (.var 4) (.neg (.lit (.int 1))))] [],
.ife (.cmp .eq (.var 1) (.lit (.int 2))) [.seti 4 (.var 5) (.idx (.var 4) (.var 6)),
.seti 4 (.var 6) (.tup [(.var 7), (.var 8)])] [],
.ife (.cmp .eq (.var 1) (.lit (.int 3))) [.pop 4 [(.var 5)]] [],
.ife (.cmp .eq (.var 1) (.lit (.int 4))) [.ins 4 (.var 6) (.tup [(.var 7), (.var 8)])] [],
.ife (.cmp .eq (.var 1) (.lit (.int 5))) [.seti 4 (.var 5) (.tup [(.var 7), (.idx (.lst [(.lit (.str w_anne)), (.lit (.str w_bill)), (.lit (.str w_cath))]) (.bin .mod (.prim .int [(.bin .fdiv (.var 2) (.lit (.int 4096)))]) (.lit (.int 3))))])] [],
.ife (.cmp .eq (.var 1) (.lit (.int 6))) [.seti 4 (.var 5) (.tup [(.idx (.var 3) (.bin .mod (.prim .int [(.bin .fdiv (.var 2) (.lit (.int 4096)))]) (.prim .len [(.var 3)]))), (.var 8)])] [],
.ife (.cmp .eq (.var 1) (.lit (.int 7))) [.seti 4 (.var 5) (.tup [(.tup [(.idx (.var 7) (.lit (.int 1))), (.idx (.var 7) (.lit (.int 0))), (.idx (.var 7) (.lit (.int 2)))]), (.var 8)])] [],
.ret (.var 4)] }
def F_law_right_k79 : FDef := { params := 5, slots := 6, body := [.set (.n 5) (.call f_peeling_holds [(.var 0), (.var 1), (.var 2), (.var 3)]),
.ret (.and [(.prim (.isTy .bool) [(.var 5)]), (.cmp .eq (.var 5) (.var 4))])] }
def F_law_k79 : FDef := { params := 1, slots := 19, body := [.for (.n 1) .seq [(.bin .add (.slc (.var 0) (.lit .none) (.lit (.int 5))) (.lst [(.call f_law_cell_at [(.var 0), (.lit (.int 5))])]))] [.set (.n 2) (.call f_law_draws_k75 [(.var 1), (.lit (.int 4)), (.lit (.int 720720))]),
.set (.n 3) (.call f_law_setting_k75 [(.bin .mod (.prim .int [(.idx (.var 2) (.lit (.int 0)))]) (.lit (.int 1440)))]),
.set (.n 4) (.call f_law_lot_k75 [(.bin .add (.bin .fdiv (.var 1) (.lit (.int 1440))) (.var 1)), (.var 3), (.lit (.int 8))]),
.set (.n 5) (.call f_law_people [(.idx (.var 2) (.lit (.int 1)))]),
.set (.n 6) (.call f_law_deals [(.var 3), (.var 4)]),
.set (.n 7) (.call f_law_peeling [(.step (.var 6) (.idx (.lst [(.lit (.int 1)), (.neg (.lit (.int 1)))]) (.bin .mod (.prim .int [(.bin .fdiv (.idx (.var 2) (.lit (.int 1))) (.lit (.int 7)))]) (.lit (.int 2))))), (.var 5)]),
.set (.n 8) (.call f_law_spoilt_k79 [(.var 7), (.bin .mod (.prim .int [(.idx (.var 2) (.lit (.int 2)))]) (.lit (.int 8))), (.idx (.var 2) (.lit (.int 3))), (.var 6)]),
.set (.n 9) (.prim .list [(.var 8)]),
.ife (.or [(.not (.call f_law_right_k79 [(.var 3), (.var 4), (.var 5), (.var 8), (.call f_law_holds_k79 [(.var 6), (.var 5), (.var 8)])])), (.cmp .ne (.var 8) (.var 9))]) [.ret (.lit (.bool false))] [],
.own 10 (.lst [(.lit (.none)), (.lit (.bool true)), (.lit (.int 0)), (.lit (.str ⟨#[]⟩)), (.lit (.str w_peeling)), (.tup []), (.dct [] []), (.lst [(.lit (.none))]), (.lst [(.tup [])]), (.lst [(.tup [(.lit (.str w_anne)), (.lit (.str w_bill))])]), (.prim .tuple [(.var 7)])]),
.ife (.cmp .ne (.var 7) (.lst [])) [.set (.n 11) (.bin .mod (.prim .int [(.idx (.var 2) (.lit (.int 3)))]) (.prim .len [(.var 7)])),
.set (.t [12, 13]) (.idx (.var 7) (.var 11)),
.set (.n 14) (.prim .tuple [(.lc (.prim .tuple [(.lc (.idx (.lst [(.var 15), (.lit (.bool true))]) (.prim .int [(.cmp .eq (.var 15) (.lit (.int 1)))])) (.n 15) .seq [(.var 16)] [] [15])]) (.n 16) .seq [(.var 12)] [] [16])]),
.app 10 (.bin .add (.bin .add (.slc (.var 7) (.lit .none) (.var 11)) (.lst [(.lst [(.var 12), (.var 13)])])) (.slc (.var 7) (.bin .add (.var 11) (.lit (.int 1))) (.lit .none))),
.app 10 (.bin .add (.bin .add (.slc (.var 7) (.lit .none) (.var 11)) (.lst [(.tup [(.var 14), (.var 13)])])) (.slc (.var 7) (.bin .add (.var 11) (.lit (.int 1))) (.lit .none))),
.for (.n 17) .seq [(.lst [(.tup [(.var 12), (.var 13), (.lit (.int 0))]), (.tup [(.prim .list [(.var 12)]), (.var 13)]), (.tup [(.tup [(.prim .list [(.idx (.var 12) (.lit (.int 0)))]), (.idx (.var 12) (.lit (.int 1))), (.idx (.var 12) (.lit (.int 2)))]), (.var 13)]), (.tup [(.var 12), (.lit (.int 0))])])] [.app 10 (.bin .add (.bin .add (.slc (.var 7) (.lit .none) (.var 11)) (.lst [(.var 17)])) (.slc (.var 7) (.bin .add (.var 11) (.lit (.int 1))) (.lit .none)))],
.app 10 (.bin .add (.bin .add (.slc (.var 7) (.lit .none) (.var 11)) (.lst [(.tup [(.var 12), (.lst [(.var 13)])])])) (.slc (.var 7) (.bin .add (.var 11) (.lit (.int 1))) (.lit .none)))] [],
.frz 10,
.frz 10,
.for (.n 18) .seq [(.var 10)] [.ife (.not (.call f_law_right_k79 [(.var 3), (.var 4), (.var 5), (.var 18), (.lit (.bool false))])) [.ret (.lit (.bool false))] []]],
.ret (.lit (.bool true))] }
def F_check_deal : FDef := { params := 2, slots := 2, body := [.ife (.not (.call f_is_deal [(.var 0), (.var 1)])) [.raise 3 [(.lit (.str ⟨#[110, 111, 116, 32, 97, 32, 100, 101, 97, 108, 32, 111, 102, 32, 116, 104, 101, 32, 115, 101, 116, 116, 105, 110, 103]⟩))]] []] }
def F_groups_of : FDef := { params := 2, slots := 6, body := [.own 2 (.dct [] []),
.for (.n 3) .seq [(.var 1)] [.set (.n 4) (.call f_place_of [(.var 3)]),
.for (.n 5) .seq [(.var 0)] [.gapp 2 (.tup [(.var 4), (.idx (.var 5) (.var 4))]) (.var 5)]],
.ret (.var 2)] }
def F_spread : FDef := { params := 3, slots := 11, body := [.own 3 (.dct [(.var 2)] [(.lit (.bool true))]),
.own 4 (.lst [(.var 2)]),
.own 5 (.dct [] []),
.whl (.var 4) [.setpop 6 4 [],
.for (.n 7) .seq [(.var 1)] [.set (.n 8) (.call f_place_of [(.var 7)]),
.set (.n 9) (.tup [(.var 8), (.idx (.var 6) (.var 8))]),
.ife (.cmp .nin (.var 9) (.var 5)) [.seti 5 (.var 9) (.lit (.bool true)),
.for (.n 10) .seq [(.idx (.var 0) (.var 9))] [.ife (.cmp .nin (.var 10) (.var 3)) [.seti 3 (.var 10) (.lit (.bool true)),
.app 4 (.var 10)] []]] []]],
.ret (.prim .sorted [(.prim .list [(.var 3)])])] }
def F_block_in : FDef := { params := 3, slots := 3, body := [.ret (.call f_spread [(.call f_groups_of [(.var 0), (.var 1)]), (.var 1), (.var 2)])] }
def F_check_person : FDef := { params := 1, slots := 1, body := [.ife (.not (.call f_is_person [(.var 0)])) [.raise 10 [(.lit (.str ⟨#[110, 111, 116, 32, 97, 32, 112, 101, 114, 115, 111, 110]⟩))]] []] }
def F_left_around : FDef := { params := 4, slots := 5, body := [.exp (.call f_check_lot [(.var 0), (.var 1)]),
.exp (.call f_check_talk [(.var 0), (.var 2)]),
.exp (.call f_check_deal [(.var 0), (.var 3)]),
.exp (.call f_few_deals [(.var 0), (.var 1)]),
.ife (.cmp .nin (.idx (.var 3) (.lit (.int 0))) (.var 1)) [.raise 11 [(.lit (.str ⟨#[116, 104, 101, 32, 104, 97, 110, 100, 32, 111, 102, 32, 116, 104, 101, 32, 100, 101, 97, 108, 32, 105, 115, 32, 110, 111, 116, 32, 105, 110, 32, 116, 104, 101, 32, 108, 111, 116]⟩))]] [],
.set (.n 4) (.call f_after_talk [(.call f_deals_of_lot [(.var 0), (.var 1)]), (.var 2)]),
.ife (.cmp .nin (.var 3) (.var 4)) [.raise 12 [(.lit (.str ⟨#[116, 104, 101, 32, 100, 101, 97, 108, 32, 105, 115, 32, 110, 111, 116, 32, 108, 101, 102, 116]⟩))]] [],
.ret (.var 4)] }
def F_common_knows : FDef := { params := 6, slots := 10, body := [.set (.n 6) (.call f_left_around [(.var 0), (.var 1), (.var 2), (.var 3)]),
.exp (.call f_check_people [(.var 4)]),
.exp (.call f_check_person [(.var 5)]),
.set (.n 7) (.call f_sure_rows [(.var 6), (.var 5)]),
.set (.n 8) (.call f_place_of [(.var 5)]),
.ret (.prim .all [(.lc (.cmp .inn (.idx (.var 9) (.var 8)) (.var 7)) (.n 9) .seq [(.call f_block_in [(.var 6), (.var 4), (.var 3)])] [] [9])])] }
def F_law_saying : FDef := { params := 2, slots := 6, body := [.set (.n 2) (.lst [(.lit (.str w_anne)), (.lit (.str w_bill)), (.lit (.str w_cath))]),
.set (.n 3) (.idx (.var 2) (.bin .mod (.prim .int [(.var 0)]) (.lit (.int 3)))),
.set (.n 4) (.idx (.var 2) (.bin .mod (.prim .int [(.bin .add (.bin .add (.var 0) (.lit (.int 1))) (.bin .mod (.bin .fdiv (.var 0) (.lit (.int 3))) (.lit (.int 2))))]) (.lit (.int 3)))),
.set (.n 5) (.idx (.lst [(.lit (.str w_knows)), (.lit (.str w_lacks)), (.lit (.str w_card)), (.lit (.str w_blind)), (.lit (.str w_sees)), (.lit (.str w_has)), (.lit (.str w_misses))]) (.bin .mod (.prim .int [(.bin .fdiv (.var 0) (.lit (.int 6)))]) (.lit (.int 7)))),
.ife (.cmp .eq (.var 5) (.lit (.str w_sees))) [.ret (.tup [(.var 5), (.var 3), (.var 4)])] [],
.ife (.or [(.cmp .eq (.var 5) (.lit (.str w_has))), (.cmp .eq (.var 5) (.lit (.str w_misses)))]) [.ret (.tup [(.var 5), (.var 3), (.bin .mod (.prim .int [(.bin .fdiv (.var 0) (.lit (.int 42)))]) (.var 1))])] [],
.ret (.tup [(.var 5), (.var 3)])] }
def F_law_opposite : FDef := { params := 1, slots := 2, body := [.set (.n 1) (.dct [(.lit (.str w_knows)), (.lit (.str w_lacks)), (.lit (.str w_card)), (.lit (.str w_blind)), (.lit (.str w_has)), (.lit (.str w_misses))] [(.lit (.str w_lacks)), (.lit (.str w_knows)), (.lit (.str w_blind)), (.lit (.str w_card)), (.lit (.str w_misses)), (.lit (.str w_has))]),
.ife (.cmp .eq (.idx (.var 0) (.lit (.int 0))) (.lit (.str w_sees))) [.ret (.tup [(.lit (.str w_lacks)), (.idx (.var 0) (.lit (.int 2)))])] [],
.ret (.bin .add (.tup [(.idx (.var 1) (.idx (.var 0) (.lit (.int 0))))]) (.slc (.var 0) (.lit (.int 1)) (.lit .none)))] }
def F_law_talk : FDef := { params := 4, slots := 9, body := [.set (.n 4) (.call f_law_draws_k75 [(.var 0), (.bin .add (.var 3) (.lit (.int 1))), (.lit (.int 2522520))]),
.own 5 (.lst []),
.for (.n 6) .seq [(.slc (.var 4) (.lit (.int 1)) (.bin .add (.lit (.int 1)) (.bin .mod (.prim .int [(.idx (.var 4) (.lit (.int 0)))]) (.bin .add (.var 3) (.lit (.int 1))))))] [.set (.n 7) (.call f_law_saying [(.var 6), (.var 2)]),
.set (.n 8) (.call f_law_after [(.var 1), (.var 7)]),
.ife (.and [(.cmp .eq (.var 8) (.lst [])), (.cmp .gt (.bin .mod (.prim .int [(.bin .fdiv (.var 6) (.lit (.int 546)))]) (.lit (.int 5))) (.lit (.int 0)))]) [.set (.n 7) (.call f_law_opposite [(.var 7)]),
.set (.n 8) (.call f_law_after [(.var 1), (.var 7)])] [],
.app 5 (.var 7),
.set (.n 1) (.var 8)],
.ret (.prim .tuple [(.var 5)])] }
def F_law_common : FDef := { params := 4, slots := 12, body := [.set (.n 4) (.call f_law_at [(.var 3)]),
.own 5 (.dct [] []),
.for (.n 6) .seq [(.var 0)] [.seti 5 (.idx (.var 6) (.var 4)) (.bin .add (.meth .get (.var 5) [(.idx (.var 6) (.var 4)), (.lit (.int 0))]) (.lit (.int 1)))],
.own 7 (.lst [(.var 1)]),
.own 8 (.dct [] []),
.seti 8 (.var 1) (.lit (.bool true)),
.for (.n 9) .range [(.prim .len [(.var 0)])] [.ife (.cmp .lt (.var 9) (.prim .len [(.var 7)])) [.set (.n 10) (.idx (.var 7) (.var 9)),
.ife (.cmp .ne (.idx (.var 5) (.idx (.var 10) (.var 4))) (.lit (.int 1))) [.ret (.lit (.bool false))] [],
.for (.n 6) .seq [(.var 0)] [.ife (.and [(.cmp .nin (.var 6) (.var 8)), (.cmp .ne (.lc (.var 11) (.n 11) .seq [(.var 2)] [(.cmp .eq (.idx (.var 6) (.call f_law_at [(.var 11)])) (.idx (.var 10) (.call f_law_at [(.var 11)])))] [11]) (.lst []))]) [.seti 8 (.var 6) (.lit (.bool true)),
.app 7 (.var 6)] []]] []],
.ret (.lit (.bool true))] }
def F_law_k80 : FDef := { params := 1, slots := 14, body := [.set (.n 1) (.call f_law_setting_k75 [(.idx (.call f_law_draws_k75 [(.call f_law_cell_at [(.var 0), (.lit (.int 0))]), (.lit (.int 1)), (.lit (.int 1440))]) (.lit (.int 0)))]),
.set (.n 2) (.call f_law_lot_k75 [(.call f_law_cell_at [(.var 0), (.lit (.int 1))]), (.var 1), (.lit (.int 6))]),
.set (.n 3) (.call f_law_deals [(.var 1), (.var 2)]),
.for (.n 4) .seq [(.bin .add (.slc (.var 0) (.lit (.int 2)) (.lit (.int 5))) (.lst [(.bin .add (.call f_law_cell_at [(.var 0), (.lit (.int 1))]) (.lit (.int 5)))]))] [.set (.n 5) (.call f_law_talk [(.var 4), (.var 3), (.prim .sum [(.var 1)]), (.lit (.int 4))]),
.set (.n 6) (.var 3),
.for (.n 7) .seq [(.var 5)] [.set (.n 6) (.call f_law_after [(.var 6), (.var 7)])],
.set (.n 8) (.call f_law_draws_k75 [(.bin .add (.bin .fdiv (.var 4) (.lit (.int 5))) (.var 4)), (.lit (.int 12)), (.lit (.int 720720))]),
.for (.n 9) .range [(.lit (.int 4))] [.ife (.cmp .ne (.var 6) (.lst [])) [.set (.n 10) (.idx (.var 6) (.bin .mod (.prim .int [(.idx (.var 8) (.bin .mul (.lit (.int 3)) (.var 9)))]) (.prim .len [(.var 6)]))),
.set (.n 11) (.call f_law_people [(.idx (.var 8) (.bin .add (.bin .mul (.lit (.int 3)) (.var 9)) (.lit (.int 1))))]),
.set (.n 12) (.idx (.lst [(.lit (.str w_anne)), (.lit (.str w_bill)), (.lit (.str w_cath))]) (.bin .mod (.prim .int [(.idx (.var 8) (.bin .add (.bin .mul (.lit (.int 3)) (.var 9)) (.lit (.int 2))))]) (.lit (.int 3)))),
.set (.n 13) (.call f_common_knows [(.var 1), (.var 2), (.var 5), (.var 10), (.var 11), (.var 12)]),
.ife (.or [(.not (.prim (.isTy .bool) [(.var 13)])), (.cmp .ne (.var 13) (.call f_law_common [(.var 6), (.var 10), (.var 11), (.var 12)]))]) [.ret (.lit (.bool false))] []] []]],
.ret (.lit (.bool true))] }
def F_law_parts : FDef := { params := 1, slots := 4, body := [.set (.n 1) (.lst [(.tup [])]),
.for (.n 2) .seq [(.var 0)] [.set (.n 1) (.bin .add (.var 1) (.lc (.bin .add (.var 3) (.tup [(.var 2)])) (.n 3) .seq [(.var 1)] [] [3]))],
.ret (.slc (.var 1) (.lit (.int 1)) (.lit .none))] }
def F_law_right_k81 : FDef := { params := 5, slots := 17, body := [.set (.n 5) (.tup [(.lit (.str w_anne)), (.lit (.str w_bill)), (.lit (.str w_cath))]),
.set (.n 6) (.call f_deals_left [(.var 0), (.var 1), (.var 2)]),
.for (.n 7) .seq [(.var 5)] [.own 8 (.dct [] []),
.for (.n 9) .seq [(.call f_law_parts [(.var 5)])] [.seti 8 (.var 9) (.call f_common_knows [(.var 0), (.var 1), (.var 2), (.var 3), (.var 9), (.var 7)])],
.for (.n 10) .seq [(.var 5)] [.set (.n 11) (.tup [(.lit (.str w_sees)), (.var 10), (.var 7)]),
.ife (.cmp .eq (.var 10) (.var 7)) [.set (.n 11) (.tup [(.lit (.str w_knows)), (.var 10)])] [],
.ife (.cmp .ne (.idx (.var 8) (.tup [(.var 10)])) (.cmp .inn (.var 3) (.call f_deals_left [(.var 0), (.var 1), (.bin .add (.var 2) (.tup [(.var 11)]))]))) [.ret (.lit (.bool false))] []],
.for (.n 9) .seq [(.call f_law_parts [(.var 5)])] [.ife (.or [(.not (.prim (.isTy .bool) [(.idx (.var 8) (.var 9))])), (.and [(.idx (.var 8) (.var 9)), (.not (.prim .all [(.lc (.idx (.var 8) (.var 12)) (.n 12) .seq [(.call f_law_parts [(.var 9)])] [] [12])]))])]) [.ret (.lit (.bool false))] [],
.set (.n 13) (.call f_law_at [(.idx (.var 9) (.bin .mod (.prim .int [(.var 4)]) (.prim .len [(.var 9)])))]),
.set (.n 14) (.lc (.var 15) (.n 15) .seq [(.var 6)] [(.cmp .eq (.idx (.var 15) (.var 13)) (.idx (.var 3) (.var 13)))] [15]),
.set (.n 16) (.idx (.var 14) (.bin .mod (.prim .int [(.bin .fdiv (.var 4) (.lit (.int 3)))]) (.prim .len [(.var 14)]))),
.ife (.cmp .ne (.call f_common_knows [(.var 0), (.var 1), (.var 2), (.var 16), (.var 9), (.var 7)]) (.idx (.var 8) (.var 9))) [.ret (.lit (.bool false))] []]],
.ret (.lit (.bool true))] }
def F_law_k81 : FDef := { params := 1, slots := 9, body := [.set (.n 1) (.call f_law_setting_k75 [(.idx (.call f_law_draws_k75 [(.call f_law_cell_at [(.var 0), (.lit (.int 0))]), (.lit (.int 1)), (.lit (.int 1440))]) (.lit (.int 0)))]),
.set (.n 2) (.call f_law_lot_k75 [(.call f_law_cell_at [(.var 0), (.lit (.int 1))]), (.var 1), (.lit (.int 5))]),
.set (.n 3) (.call f_law_deals [(.var 1), (.var 2)]),
.for (.n 4) .seq [(.bin .add (.slc (.var 0) (.lit (.int 2)) (.lit (.int 3))) (.lst [(.bin .add (.call f_law_cell_at [(.var 0), (.lit (.int 1))]) (.lit (.int 6)))]))] [.set (.n 5) (.call f_law_talk [(.var 4), (.var 3), (.prim .sum [(.var 1)]), (.lit (.int 4))]),
.set (.n 6) (.var 3),
.for (.n 7) .seq [(.var 5)] [.set (.n 6) (.call f_law_after [(.var 6), (.var 7)])],
.ife (.cmp .ne (.call f_deals_left [(.var 1), (.var 2), (.var 5)]) (.var 6)) [.ret (.lit (.bool false))] [],
.for (.n 8) .seq [(.call f_law_draws_k75 [(.bin .add (.bin .fdiv (.var 4) (.lit (.int 3))) (.var 4)), (.lit (.int 2)), (.lit (.int 720720))])] [.ife (.and [(.cmp .ne (.var 6) (.lst [])), (.not (.call f_law_right_k81 [(.var 1), (.var 2), (.var 5), (.idx (.var 6) (.bin .mod (.prim .int [(.var 8)]) (.prim .len [(.var 6)]))), (.bin .fdiv (.var 8) (.lit (.int 7)))]))]) [.ret (.lit (.bool false))] []]],
.ret (.lit (.bool true))] }
def F_law_right_k82 : FDef := { params := 6, slots := 14, body := [.set (.n 6) (.call f_deals_left [(.var 0), (.var 1), (.var 2)]),
.set (.n 7) (.lst []),
.for (.n 8) .seq [(.lst [(.lit (.str w_knows)), (.lit (.str w_lacks))])] [.set (.n 9) (.bin .add (.var 2) (.tup [(.tup [(.var 8), (.var 3)])])),
.set (.n 10) (.call f_deals_left [(.var 0), (.var 1), (.var 9)]),
.ife (.not (.call f_law_are_deals [(.var 10)])) [.ret (.lit (.bool false))] [],
.for (.n 11) .seq [(.var 5)] [.ife (.cmp .ne (.var 10) (.lst [])) [.set (.n 12) (.idx (.var 10) (.bin .mod (.prim .int [(.var 11)]) (.prim .len [(.var 10)]))),
.set (.n 13) (.call f_common_knows [(.var 0), (.var 1), (.var 9), (.var 12), (.var 4), (.var 3)]),
.ife (.or [(.not (.prim (.isTy .bool) [(.var 13)])), (.cmp .ne (.var 13) (.cmp .eq (.var 8) (.lit (.str w_knows))))]) [.ret (.lit (.bool false))] []] []],
.set (.n 7) (.bin .add (.var 7) (.var 10))],
.ret (.cmp .eq (.prim .sorted [(.var 7)]) (.var 6))] }
def F_law_k82 : FDef := { params := 1, slots := 8, body := [.set (.n 1) (.call f_law_setting_k75 [(.idx (.call f_law_draws_k75 [(.call f_law_cell_at [(.var 0), (.lit (.int 0))]), (.lit (.int 1)), (.lit (.int 1440))]) (.lit (.int 0)))]),
.set (.n 2) (.call f_law_lot_k75 [(.call f_law_cell_at [(.var 0), (.lit (.int 1))]), (.var 1), (.lit (.int 6))]),
.set (.n 3) (.call f_law_deals [(.var 1), (.var 2)]),
.for (.n 4) .seq [(.bin .add (.slc (.var 0) (.lit (.int 2)) (.lit (.int 4))) (.lst [(.bin .add (.call f_law_cell_at [(.var 0), (.lit (.int 1))]) (.lit (.int 7)))]))] [.set (.n 5) (.call f_law_talk [(.var 4), (.var 3), (.prim .sum [(.var 1)]), (.lit (.int 4))]),
.set (.n 6) (.call f_law_draws_k75 [(.bin .add (.bin .fdiv (.var 4) (.lit (.int 3))) (.var 4)), (.lit (.int 9)), (.lit (.int 720720))]),
.set (.n 7) (.idx (.lst [(.lit (.str w_anne)), (.lit (.str w_bill)), (.lit (.str w_cath))]) (.bin .mod (.prim .int [(.idx (.var 6) (.lit (.int 8)))]) (.lit (.int 3)))),
.ife (.not (.call f_law_right_k82 [(.var 1), (.var 2), (.var 5), (.var 7), (.call f_law_people [(.bin .fdiv (.idx (.var 6) (.lit (.int 8))) (.lit (.int 3)))]), (.slc (.var 6) (.lit .none) (.lit (.int 8)))])) [.ret (.lit (.bool false))] []],
.ret (.lit (.bool true))] }
def F_sayings_of_knowledge : FDef := { params := 0, slots := 4, body := [.own 0 (.lc2 (.tup [(.var 1), (.var 2)]) 1 (.gl 4 c_OWN_WORDS) 2 (.gl 3 c_PEOPLE) [] [1, 2]),
.ext 0 (.lc2 (.tup [(.lit (.str w_sees)), (.var 2), (.var 3)]) 2 (.gl 3 c_PEOPLE) 3 (.gl 3 c_PEOPLE) [(.cmp .ne (.var 3) (.var 2))] [2, 3]),
.ret (.prim .sorted [(.var 0)])] }
def F_still : FDef := { params := 3, slots := 5, body := [.set (.n 3) (.call f_deals_left [(.var 0), (.var 1), (.var 2)]),
.ret (.lc (.var 4) (.n 4) .seq [(.call f_sayings_of_knowledge [])] [(.cmp .eq (.prim .len [(.call f_told_by [(.var 3), (.var 4)])]) (.prim .len [(.var 3)]))] [4])] }
def F_law_eighteen : FDef := { params := 0, slots := 5, body := [.set (.n 0) (.lst [(.lit (.str w_anne)), (.lit (.str w_bill)), (.lit (.str w_cath))]),
.set (.n 1) (.lst []),
.for (.n 2) .seq [(.lst [(.lit (.str w_blind)), (.lit (.str w_card)), (.lit (.str w_knows)), (.lit (.str w_lacks))])] [.set (.n 1) (.bin .add (.var 1) (.lc (.tup [(.var 2), (.var 3)]) (.n 3) .seq [(.var 0)] [] [3]))],
.for (.n 3) .seq [(.var 0)] [.set (.n 1) (.bin .add (.var 1) (.lc (.tup [(.lit (.str w_sees)), (.var 3), (.var 4)]) (.n 4) .seq [(.var 0)] [(.cmp .ne (.var 4) (.var 3))] [4]))],
.ret (.var 1)] }
def F_law_right_k83 : FDef := { params := 5, slots := 9, body := [.set (.n 5) (.call f_deals_left [(.var 0), (.var 1), (.bin .add (.var 2) (.tup [(.var 4)]))]),
.ife (.or [(.not (.call f_law_are_deals [(.var 5)])), (.cmp .ne (.call f_deals_left [(.var 0), (.var 1), (.bin .add (.var 2) (.tup [(.var 4), (.var 4)]))]) (.var 5))]) [.ret (.lit (.bool false))] [],
.ife (.and [(.cmp .ne (.idx (.var 4) (.lit (.int 0))) (.lit (.str w_has))), (.cmp .ne (.idx (.var 4) (.lit (.int 0))) (.lit (.str w_misses))), (.cmp .nin (.var 4) (.call f_still [(.var 0), (.var 1), (.bin .add (.var 2) (.tup [(.var 4)]))]))]) [.ret (.lit (.bool false))] [],
.ife (.cmp .eq (.idx (.var 4) (.lit (.int 0))) (.lit (.str w_sees))) [.own 6 (.dct [] []),
.for (.n 7) .seq [(.var 3)] [.seti 6 (.var 7) (.lit (.bool true))],
.ret (.cmp .eq (.lc (.var 7) (.n 7) .seq [(.var 5)] [(.cmp .nin (.var 7) (.var 6))] [7]) (.lst []))] [],
.set (.n 8) (.call f_deals_left [(.var 0), (.var 1), (.bin .add (.var 2) (.tup [(.call f_law_opposite [(.var 4)])]))]),
.ret (.and [(.prim (.isTy .lst) [(.var 8)]), (.cmp .eq (.prim .sorted [(.bin .add (.var 5) (.var 8))]) (.var 3))])] }
def F_law_k83 : FDef := { params := 1, slots := 11, body := [.set (.n 1) (.call f_law_setting_k75 [(.idx (.call f_law_draws_k75 [(.call f_law_cell_at [(.var 0), (.lit (.int 0))]), (.lit (.int 1)), (.lit (.int 1440))]) (.lit (.int 0)))]),
.set (.n 2) (.call f_law_lot_k75 [(.call f_law_cell_at [(.var 0), (.lit (.int 1))]), (.var 1), (.lit (.int 6))]),
.set (.n 3) (.call f_law_deals [(.var 1), (.var 2)]),
.for (.n 4) .seq [(.bin .add (.slc (.var 0) (.lit (.int 2)) (.lit (.int 4))) (.lst [(.bin .add (.call f_law_cell_at [(.var 0), (.lit (.int 1))]) (.lit (.int 8)))]))] [.set (.n 5) (.call f_law_talk [(.var 4), (.var 3), (.prim .sum [(.var 1)]), (.lit (.int 4))]),
.set (.n 6) (.idx (.call f_law_draws_k75 [(.bin .add (.bin .fdiv (.var 4) (.lit (.int 3))) (.var 4)), (.lit (.int 1)), (.lit (.int 720720))]) (.lit (.int 0))),
.set (.n 7) (.idx (.lst [(.lit (.str w_has)), (.lit (.str w_misses))]) (.bin .mod (.prim .int [(.bin .fdiv (.var 6) (.lit (.int 39)))]) (.lit (.int 2)))),
.set (.n 8) (.tup [(.var 7), (.idx (.lst [(.lit (.str w_anne)), (.lit (.str w_bill)), (.lit (.str w_cath))]) (.bin .mod (.prim .int [(.var 6)]) (.lit (.int 3)))), (.bin .mod (.prim .int [(.bin .fdiv (.var 6) (.lit (.int 3)))]) (.prim .sum [(.var 1)]))]),
.set (.n 9) (.call f_deals_left [(.var 1), (.var 2), (.var 5)]),
.ife (.not (.call f_law_are_deals [(.var 9)])) [.ret (.lit (.bool false))] [],
.for (.n 10) .seq [(.bin .add (.call f_law_eighteen []) (.lst [(.var 8)]))] [.ife (.not (.call f_law_right_k83 [(.var 1), (.var 2), (.var 5), (.var 9), (.var 10)])) [.ret (.lit (.bool false))] []]],
.ret (.lit (.bool true))] }
def F_held_by : FDef := { params := 3, slots := 5, body := [.set (.n 3) (.call f_place_of [(.var 2)]),
.ret (.lc (.var 4) (.n 4) .seq [(.var 0)] [(.cmp .eq (.idx (.var 4) (.var 3)) (.idx (.var 1) (.var 3)))] [4])] }
def F_words_now : FDef := { params := 4, slots := 8, body := [.set (.n 4) (.call f_left_around [(.var 0), (.var 1), (.var 2), (.var 3)]),
.own 5 (.lst []),
.for (.n 6) .seq [(.gl 3 c_PEOPLE)] [.set (.n 7) (.call f_held_by [(.var 4), (.var 3), (.var 6)]),
.app 5 (.tup [(.cmp .eq (.prim .len [(.var 7)]) (.lit (.int 1))), (.call f_known_to [(.var 7), (.var 6)])])],
.ret (.prim .tuple [(.var 5)])] }
def F_law_order_k84 : FDef := { params := 2, slots := 6, body := [.own 2 (.prim .listRange [(.var 1)]),
.own 3 (.lst []),
.for (.n 4) .range [(.var 1)] [.set (.n 5) (.prim .len [(.var 2)]),
.apppop 3 2 (.bin .mod (.prim .int [(.var 0)]) (.var 5)),
.set (.n 0) (.bin .fdiv (.var 0) (.var 5))],
.ret (.prim .tuple [(.var 3)])] }
def F_law_renamed : FDef := { params := 2, slots := 4, body := [.ret (.prim .tuple [(.prim .sorted [(.lc (.prim .tuple [(.prim .sorted [(.lc (.idx (.var 1) (.var 2)) (.n 2) .seq [(.var 3)] [] [2])])]) (.n 3) .seq [(.var 0)] [] [3])])])] }
def F_law_moved : FDef := { params := 2, slots := 6, body := [.own 2 (.lst []),
.for (.n 3) .seq [(.var 0)] [.app 2 (.prim .tuple [(.lc (.prim .tuple [(.prim .sorted [(.lc (.idx (.var 1) (.var 4)) (.n 4) .seq [(.var 5)] [] [4])])]) (.n 5) .seq [(.var 3)] [] [5])])],
.ret (.var 2)] }
def F_law_said : FDef := { params := 2, slots := 4, body := [.own 2 (.lst []),
.for (.n 3) .seq [(.var 0)] [.ife (.or [(.cmp .eq (.idx (.var 3) (.lit (.int 0))) (.lit (.str w_has))), (.cmp .eq (.idx (.var 3) (.lit (.int 0))) (.lit (.str w_misses)))]) [.set (.n 3) (.tup [(.idx (.var 3) (.lit (.int 0))), (.idx (.var 3) (.lit (.int 1))), (.idx (.var 1) (.idx (.var 3) (.lit (.int 2))))])] [],
.app 2 (.var 3)],
.ret (.prim .tuple [(.var 2)])] }
def F_law_words : FDef := { params := 2, slots := 4, body := [.ret (.lc (.tup [(.idx (.var 3) (.lit (.int 0))), (.prim .tuple [(.prim .sorted [(.lc (.idx (.var 1) (.var 2)) (.n 2) .seq [(.idx (.var 3) (.lit (.int 1)))] [] [2])])])]) (.n 3) .seq [(.var 0)] [] [3])] }
def F_law_right_k84 : FDef := { params := 5, slots := 13, body := [.set (.n 5) (.call f_law_renamed [(.var 1), (.var 3)]),
.set (.n 6) (.call f_law_said [(.var 2), (.var 3)]),
.set (.n 7) (.call f_deals_left [(.var 0), (.var 1), (.var 2)]),
.set (.n 8) (.call f_law_moved [(.var 7), (.var 3)]),
.ife (.cmp .ne (.call f_deals_left [(.var 0), (.var 5), (.var 6)]) (.prim .sorted [(.var 8)])) [.ret (.lit (.bool false))] [],
.ife (.cmp .ne (.call f_still [(.var 0), (.var 5), (.var 6)]) (.call f_still [(.var 0), (.var 1), (.var 2)])) [.ret (.lit (.bool false))] [],
.set (.n 9) (.idx (.lst [(.lit (.str w_knows)), (.lit (.str w_lacks)), (.lit (.str w_card)), (.lit (.str w_blind))]) (.bin .mod (.prim .int [(.idx (.var 4) (.lit (.int 0)))]) (.lit (.int 4)))),
.set (.n 10) (.call f_law_speakers [(.idx (.var 4) (.lit (.int 1)))]),
.ife (.cmp .ne (.call f_rounds [(.var 0), (.var 5), (.var 9), (.var 10)]) (.call f_rounds [(.var 0), (.var 1), (.var 9), (.var 10)])) [.ret (.lit (.bool false))] [],
.set (.n 10) (.call f_law_people [(.idx (.var 4) (.lit (.int 1)))]),
.ife (.cmp .ne (.call f_quiet [(.var 0), (.var 5), (.var 10)]) (.prim .sorted [(.call f_law_moved [(.call f_quiet [(.var 0), (.var 1), (.var 10)]), (.var 3)])])) [.ret (.lit (.bool false))] [],
.ife (.cmp .ne (.var 7) (.lst [])) [.set (.n 11) (.bin .mod (.prim .int [(.idx (.var 4) (.lit (.int 2)))]) (.prim .len [(.var 7)])),
.set (.n 12) (.call f_words_now [(.var 0), (.var 1), (.var 2), (.idx (.var 7) (.var 11))]),
.ret (.cmp .eq (.prim .list [(.call f_words_now [(.var 0), (.var 5), (.var 6), (.idx (.var 8) (.var 11))])]) (.call f_law_words [(.var 12), (.var 3)]))] [],
.ret (.lit (.bool true))] }
def F_law_k84 : FDef := { params := 1, slots := 8, body := [.set (.n 1) (.call f_law_setting_k75 [(.idx (.call f_law_draws_k75 [(.call f_law_cell_at [(.var 0), (.lit (.int 0))]), (.lit (.int 1)), (.lit (.int 1440))]) (.lit (.int 0)))]),
.set (.n 2) (.call f_law_lot_k75 [(.call f_law_cell_at [(.var 0), (.lit (.int 1))]), (.var 1), (.lit (.int 6))]),
.set (.n 3) (.call f_law_deals [(.var 1), (.var 2)]),
.set (.n 4) (.call f_law_order_k84 [(.idx (.call f_law_draws_k75 [(.call f_law_cell_at [(.var 0), (.lit (.int 2))]), (.lit (.int 1)), (.lit (.int 6227020800))]) (.lit (.int 0))), (.prim .sum [(.var 1)])]),
.for (.n 5) .seq [(.bin .add (.slc (.var 0) (.lit (.int 3)) (.lit (.int 6))) (.lst [(.bin .add (.call f_law_cell_at [(.var 0), (.lit (.int 1))]) (.lit (.int 9)))]))] [.set (.n 6) (.call f_law_talk [(.var 5), (.var 3), (.prim .sum [(.var 1)]), (.lit (.int 6))]),
.set (.n 7) (.call f_law_draws_k75 [(.bin .add (.bin .fdiv (.var 5) (.lit (.int 3))) (.var 5)), (.lit (.int 3)), (.lit (.int 720720))]),
.ife (.not (.call f_law_right_k84 [(.var 1), (.var 2), (.var 6), (.var 4), (.var 7)])) [.ret (.lit (.bool false))] []],
.ret (.lit (.bool true))] }
def F_law_right_k85 : FDef := { params := 4, slots := 13, body := [.set (.n 4) (.slc (.idx (.var 3) (.lit (.int 2))) (.lit .none) (.lit (.int 6))),
.set (.n 5) (.prim .tuple [(.lc (.tup [(.lit (.str w_has)), (.lit (.str w_cath)), (.var 6)]) (.n 6) .seq [(.var 4)] [] [6])]),
.set (.n 7) (.call f_deals_left [(.var 0), (.var 1), (.var 5)]),
.ife (.not (.call f_law_are_deals [(.var 7)])) [.ret (.lit (.bool false))] [],
.ife (.cmp .ne (.var 7) (.lc (.var 8) (.n 8) .seq [(.var 2)] [(.cmp .eq (.lc (.var 6) (.n 6) .seq [(.var 4)] [(.cmp .nin (.var 6) (.idx (.var 8) (.lit (.int 2))))] [6]) (.lst []))] [8])) [.ret (.lit (.bool false))] [],
.set (.n 9) (.call f_words_now [(.var 0), (.var 1), (.tup []), (.var 3)]),
.set (.n 10) (.call f_words_now [(.var 0), (.var 1), (.var 5), (.var 3)]),
.ife (.cmp .lt (.prim .len [(.var 4)]) (.idx (.var 0) (.lit (.int 2)))) [.ret (.lit (.bool true))] [],
.set (.n 11) (.lc (.prim .tuple [(.lc (.var 6) (.n 6) .range [(.prim .sum [(.var 0)])] [(.cmp .nin (.var 6) (.idx (.var 3) (.var 12)))] [6])]) (.n 12) .range [(.lit (.int 2))] [] [12]),
.ret (.cmp .eq (.var 10) (.tup [(.tup [(.lit (.bool true)), (.idx (.var 11) (.lit (.int 0)))]), (.tup [(.lit (.bool true)), (.idx (.var 11) (.lit (.int 1)))]), (.idx (.var 9) (.lit (.int 2)))]))] }
def F_law_k85 : FDef := { params := 1, slots := 6, body := [.for (.n 1) .seq [(.bin .add (.slc (.var 0) (.lit .none) (.lit (.int 3))) (.lst [(.call f_law_cell_at [(.var 0), (.lit (.int 3))])]))] [.set (.n 2) (.call f_law_setting_k75 [(.idx (.call f_law_draws_k75 [(.var 1), (.lit (.int 1)), (.lit (.int 1440))]) (.lit (.int 0)))]),
.set (.n 3) (.call f_law_lot_k75 [(.bin .add (.bin .fdiv (.var 1) (.lit (.int 1440))) (.var 1)), (.var 2), (.lit (.int 6))]),
.set (.n 4) (.call f_law_deals [(.var 2), (.var 3)]),
.for (.n 5) .seq [(.call f_law_draws_k75 [(.bin .add (.bin .fdiv (.var 1) (.lit (.int 3))) (.var 1)), (.lit (.int 4)), (.lit (.int 720720))])] [.ife (.not (.call f_law_right_k85 [(.var 2), (.var 3), (.var 4), (.idx (.var 4) (.bin .mod (.prim .int [(.var 5)]) (.prim .len [(.var 4)])))])) [.ret (.lit (.bool false))] []]],
.ret (.lit (.bool true))] }
def F_law_due_k86 : FDef := { params := 2, slots := 4, body := [.for (.n 2) .range [(.var 1)] [.ife (.idx (.var 0) (.var 2)) [.ret (.bin .add (.lst [(.lit (.bool true)), (.lit (.bool true))]) (.lc (.cmp .eq (.var 3) (.var 2)) (.n 3) .range [(.lit (.int 9))] [] [3]))] []],
.ret (.lst [])] }
def F_law_deal : FDef := { params := 2, slots := 4, body := [.set (.n 2) (.lc (.var 3) (.n 3) .range [(.prim .sum [(.var 0)])] [(.cmp .nin (.var 3) (.var 1))] [3]),
.ret (.tup [(.var 1), (.prim .tuple [(.slc (.var 2) (.lit .none) (.idx (.var 0) (.lit (.int 1))))]), (.prim .tuple [(.slc (.var 2) (.idx (.var 0) (.lit (.int 1))) (.lit .none))])])] }
def F_law_k86 : FDef := { params := 1, slots := 11, body := [.for (.n 1) .seq [(.bin .add (.slc (.var 0) (.lit .none) (.lit (.int 8))) (.lst [(.call f_law_cell_at [(.var 0), (.lit (.int 8))])]))] [.set (.n 2) (.call f_law_draws_k75 [(.var 1), (.lit (.int 12)), (.lit (.int 720720))]),
.set (.n 3) (.lc (.cmp .eq (.bin .mod (.prim .int [(.var 4)]) (.lit (.int 5))) (.lit (.int 1))) (.n 4) .seq [(.slc (.var 2) (.lit .none) (.lit (.int 9)))] [] [4]),
.set (.t [5, 6, 7, 8]) (.call f_law_case_k86 [(.var 3), (.idx (.var 2) (.lit (.int 9)))]),
.set (.n 9) (.tup [(.lit (.str w_anne)), (.lit (.str w_cath))]),
.set (.n 10) (.lit (.str w_bill)),
.ife (.idx (.var 3) (.lit (.int 7))) [.set (.n 9) (.idx (.lst [(.tup [(.lit (.str w_cath)), (.lit (.str w_anne))]), (.tup []), (.tup [(.lit (.str w_anne)), (.lit (.str w_anne))]), (.lst [(.lit (.str w_anne))]), (.lit (.str w_anne)), (.tup [(.lit (.str w_dora))])]) (.bin .mod (.prim .int [(.idx (.var 2) (.lit (.int 10)))]) (.lit (.int 6))))] [],
.ife (.idx (.var 3) (.lit (.int 8))) [.set (.n 10) (.idx (.lst [(.lit (.str w_dora)), (.lit (.str ⟨#[]⟩)), (.lit (.none)), (.lit (.int 1)), (.tup [(.lit (.str w_anne))])]) (.bin .mod (.prim .int [(.idx (.var 2) (.lit (.int 11)))]) (.lit (.int 5))))] [],
.ife (.cmp .ne (.call f_law_words_error [(.var 5), (.var 6), (.var 7), (.var 8)]) (.call f_law_due_k86 [(.var 3), (.lit (.int 7))])) [.ret (.lit (.bool false))] [],
.ife (.cmp .ne (.call f_law_common_error [(.var 5), (.var 6), (.var 7), (.var 8), (.var 9), (.var 10)]) (.call f_law_due_k86 [(.var 3), (.lit (.int 9))])) [.ret (.lit (.bool false))] []],
.ret (.lit (.bool true))] }
def F_law_odd_saying : FDef := { params := 2, slots := 3, body := [.set (.n 2) (.lst [(.lit (.none)), (.lit (.int 7)), (.lit (.str w_knows)), (.lst [(.lit (.str w_knows)), (.lit (.str w_anne))]), (.tup []), (.tup [(.lit (.str w_knows))]), (.tup [(.lit (.str w_knows)), (.lit (.str w_dora))]), (.tup [(.lit (.str w_knows)), (.lit (.str w_anne)), (.lit (.str w_bill))])]),
.set (.n 2) (.bin .add (.var 2) (.lst [(.tup [(.lit (.str w_sees)), (.lit (.str w_anne))]), (.tup [(.lit (.str w_sees)), (.lit (.str w_anne)), (.lit (.str w_anne))]), (.tup [(.lit (.str w_sees)), (.lit (.str w_anne)), (.lit (.str w_dora))]), (.tup [(.lit (.str w_sees)), (.lit (.str w_anne)), (.lit (.int 0))])])),
.set (.n 2) (.bin .add (.var 2) (.lst [(.tup [(.lit (.str w_has)), (.lit (.str w_anne))]), (.tup [(.lit (.str w_has)), (.lit (.str w_anne)), (.var 1)]), (.tup [(.lit (.str w_has)), (.lit (.str w_anne)), (.neg (.lit (.int 1)))]), (.tup [(.lit (.str w_has)), (.lit (.str w_anne)), (.lit (.bool true))])])),
.set (.n 2) (.bin .add (.var 2) (.lst [(.tup [(.lit (.str w_has)), (.lit (.str w_anne)), (.lit (.bool false))]), (.tup [(.lit (.str w_has)), (.lit (.str w_anne)), (.lit (.str ⟨#[48]⟩))]), (.tup [(.lit (.str w_has)), (.lit (.int 0)), (.lit (.str w_anne))]), (.tup [(.lit (.str w_misses)), (.lit (.str w_bill)), (.var 1)])])),
.set (.n 2) (.bin .add (.var 2) (.lst [(.tup [(.lit (.str w_misses)), (.lit (.str w_cath)), (.lit (.none))]), (.tup [(.lit (.str ⟨#[75, 110, 111, 119, 115]⟩)), (.lit (.str w_anne))]), (.tup [(.lit (.str w_lacks)), (.lit (.str ⟨#[65, 110, 110, 101]⟩))]), (.tup [(.lit (.str ⟨#[]⟩)), (.lit (.str ⟨#[]⟩))]), (.tup [(.lit (.none)), (.lit (.str w_anne))])])),
.set (.n 2) (.bin .add (.var 2) (.lst [(.tup [(.lit (.str w_knows)), (.lit (.none))]), (.tup [(.lit (.str w_knows)), (.tup [(.lit (.str w_anne))])]), (.tup [(.lit (.str w_blind)), (.lit (.str w_anne)), (.lit (.int 0))]), (.tup [(.lit (.str w_has)), (.lit (.str w_anne)), (.lit (.int 0)), (.lit (.int 0))]), (.tup [(.lit (.int 0)), (.lit (.int 1))])])),
.set (.n 2) (.bin .add (.var 2) (.lst [(.tup [(.lit (.str w_has)), (.lit (.str w_anne)), (.lst [(.lit (.int 0))])]), (.tup [(.lst [(.lit (.str w_knows))]), (.lit (.str w_anne))]), (.tup [(.lit (.str w_knows)), (.lst [(.lit (.str w_anne))])])])),
.ret (.idx (.var 2) (.bin .mod (.prim .int [(.var 0)]) (.lit (.int 33))))] }
def F_law_good_talk : FDef := { params := 2, slots := 4, body := [.set (.n 2) (.lst [(.tup [(.lit (.str w_has)), (.lit (.str w_anne)), (.idx (.idx (.var 1) (.lit (.int 0))) (.lit (.int 0)))]), (.tup [(.lit (.str w_misses)), (.lit (.str w_cath)), (.idx (.idx (.var 1) (.lit (.int 0))) (.neg (.lit (.int 1))))]), (.tup [(.lit (.str w_lacks)), (.lit (.str w_anne))]), (.tup [(.lit (.str w_blind)), (.lit (.str w_anne))])]),
.set (.n 2) (.bin .add (.var 2) (.lst [(.tup [(.lit (.str w_misses)), (.lit (.str w_bill)), (.idx (.idx (.var 1) (.lit (.int 0))) (.lit (.int 0)))]), (.tup [(.lit (.str w_has)), (.lit (.str w_anne)), (.idx (.idx (.var 1) (.lit (.int 0))) (.neg (.lit (.int 1))))])])),
.ret (.lc (.idx (.var 2) (.bin .mod (.prim .int [(.bin .add (.var 3) (.var 0))]) (.lit (.int 6)))) (.n 3) .range [(.bin .mod (.prim .int [(.bin .fdiv (.var 0) (.lit (.int 6)))]) (.lit (.int 6)))] [] [3])] }
def F_law_odd_talk : FDef := { params := 3, slots := 5, body := [.own 3 (.call f_law_good_talk [(.var 0), (.var 1)]),
.ife (.cmp .eq (.bin .mod (.prim .int [(.bin .fdiv (.var 0) (.lit (.int 36)))]) (.lit (.int 4))) (.lit (.int 1))) [.set (.n 4) (.lst [(.lit (.none)), (.lit (.int 0)), (.lit (.str ⟨#[]⟩)), (.lst []), (.lst [(.tup [(.lit (.str w_lacks)), (.lit (.str w_anne))])]), (.dct [] []), (.tup [(.lit (.str w_lacks)), (.lit (.str w_anne))]), (.bin .mul (.tup [(.tup [(.lit (.str w_lacks)), (.lit (.str w_anne))])]) (.lit (.int 7)))]),
.ret (.idx (.var 4) (.bin .mod (.prim .int [(.bin .fdiv (.var 0) (.lit (.int 144)))]) (.lit (.int 8))))] [],
.ins 3 (.bin .mod (.prim .int [(.bin .fdiv (.var 0) (.lit (.int 144)))]) (.bin .add (.prim .len [(.var 3)]) (.lit (.int 1)))) (.call f_law_odd_saying [(.bin .fdiv (.var 0) (.lit (.int 864))), (.var 2)]),
.ret (.prim .tuple [(.var 3)])] }
def F_law_right_k87 : FDef := { params := 4, slots := 13, body := [.set (.n 4) (.prim .tuple [(.call f_law_good_talk [(.idx (.var 3) (.lit (.int 0))), (.var 2)])]),
.set (.n 5) (.call f_law_odd_talk [(.idx (.var 3) (.lit (.int 1))), (.var 2), (.prim .sum [(.var 0)])]),
.set (.n 6) (.idx (.lst [(.lit (.none)), (.lit (.int 0)), (.lit (.str ⟨#[]⟩)), (.lit (.str w_sees)), (.lit (.str w_has)), (.lit (.str w_misses)), (.lit (.str ⟨#[75, 110, 111, 119, 115]⟩)), (.lit (.str w_know)), (.lit (.str ⟨#[98, 108, 105, 110, 100, 32]⟩)), (.tup [(.lit (.str w_knows))])]) (.bin .mod (.prim .int [(.idx (.var 3) (.lit (.int 2)))]) (.lit (.int 10)))),
.set (.n 7) (.lst [(.tup []), (.tup [(.lit (.str w_anne)), (.lit (.str w_anne))]), (.lst [(.lit (.str w_anne))]), (.lit (.str w_anne)), (.tup [(.lit (.str w_anne)), (.lit (.str w_dora))]), (.tup [(.lit (.str w_anne)), (.lit (.str w_bill)), (.lit (.str w_cath)), (.lit (.str w_anne))]), (.lit (.none))]),
.set (.n 7) (.idx (.bin .add (.var 7) (.lst [(.tup [(.lit (.none))]), (.tup [(.lit (.str w_anne)), (.lit (.int 0))]), (.dct [] []), (.tup [(.lst [(.lit (.str w_anne))])])])) (.bin .mod (.prim .int [(.idx (.var 3) (.lit (.int 3)))]) (.lit (.int 11)))),
.set (.n 8) (.lst [(.tup [(.lit (.str w_bill)), (.lit (.str w_anne))]), (.tup [(.lit (.str w_cath)), (.lit (.str w_anne))]), (.tup [(.lit (.str w_bill)), (.lit (.str w_anne)), (.lit (.str w_cath))]), (.tup [(.lit (.str w_anne)), (.lit (.str w_cath)), (.lit (.str w_bill))])]),
.set (.n 8) (.idx (.var 8) (.bin .mod (.prim .int [(.bin .fdiv (.idx (.var 3) (.lit (.int 3))) (.lit (.int 11)))]) (.lit (.int 4)))),
.set (.n 9) (.idx (.lst [(.lit (.str w_dora)), (.lit (.str ⟨#[65, 110, 110, 101]⟩)), (.lit (.str ⟨#[]⟩)), (.lit (.none)), (.lit (.int 0)), (.tup [(.lit (.str w_anne))]), (.lst [(.lit (.str w_anne))])]) (.bin .mod (.prim .int [(.idx (.var 3) (.lit (.int 4)))]) (.lit (.int 7)))),
.set (.n 10) (.idx (.lst [(.tup [(.lit (.str w_anne))]), (.tup [(.lit (.str w_bill)), (.lit (.str w_cath))]), (.tup [(.lit (.str w_anne)), (.lit (.str w_bill)), (.lit (.str w_cath))])]) (.bin .mod (.prim .int [(.idx (.var 3) (.lit (.int 5)))]) (.lit (.int 3)))),
.set (.n 11) (.idx (.lst [(.lit (.str w_anne)), (.lit (.str w_bill)), (.lit (.str w_cath))]) (.bin .mod (.prim .int [(.bin .fdiv (.idx (.var 3) (.lit (.int 5))) (.lit (.int 3)))]) (.lit (.int 3)))),
.for (.n 12) .range [(.lit (.int 4))] [.ife (.cmp .ne (.call f_law_told_k87 [(.var 12), (.var 0), (.var 1), (.var 5), (.var 2), (.lit (.str w_knows)), (.var 10), (.var 11)]) (.lit (.str w_talk))) [.ret (.lit (.bool false))] []],
.for (.n 12) .range [(.lit (.int 8))] [.ife (.cmp .ne (.call f_law_told_k87 [(.var 12), (.var 0), (.var 1), (.var 4), (.var 2), (.lit (.str w_knows)), (.var 10), (.var 11)]) (.lit (.str ⟨#[]⟩))) [.ret (.lit (.bool false))] [],
.ife (.and [(.cmp .gt (.var 12) (.lit (.int 2))), (.cmp .ne (.call f_law_told_k87 [(.var 12), (.var 0), (.var 1), (.var 4), (.var 2), (.lit (.str w_knows)), (.var 7), (.var 11)]) (.lit (.str w_people)))]) [.ret (.lit (.bool false))] [],
.ife (.and [(.cmp .gt (.var 12) (.lit (.int 2))), (.cmp .ne (.call f_law_told_k87 [(.var 12), (.var 0), (.var 1), (.var 4), (.var 2), (.lit (.str w_lacks)), (.var 8), (.var 11)]) (.idx (.lst [(.lit (.str ⟨#[]⟩)), (.lit (.str w_people))]) (.prim .int [(.cmp .ne (.var 12) (.lit (.int 4)))])))]) [.ret (.lit (.bool false))] []],
.ife (.cmp .ne (.call f_law_told_k87 [(.lit (.int 4)), (.var 0), (.var 1), (.var 4), (.var 2), (.var 6), (.var 7), (.var 11)]) (.lit (.str w_word))) [.ret (.lit (.bool false))] [],
.ret (.cmp .eq (.call f_law_told_k87 [(.lit (.int 3)), (.var 0), (.var 1), (.var 4), (.var 2), (.lit (.str w_knows)), (.var 10), (.var 9)]) (.lit (.str w_person)))] }
def F_law_doors : FDef := { params := 1, slots := 7, body := [.set (.n 1) (.call f_law_draws_k75 [(.var 0), (.lit (.int 2)), (.lit (.int 720720))]),
.set (.n 2) (.tup [(.tup [(.lit (.int 0)), (.lit (.int 1))]), (.tup [(.lit (.int 0)), (.lit (.int 2))]), (.tup [(.lit (.int 0)), (.lit (.int 3))])]),
.set (.n 3) (.tup [(.tup [(.lit (.int 0)), (.lit (.int 1))]), (.tup [(.lit (.int 2)), (.lit (.int 3))]), (.tup [(.lit (.int 4)), (.lit (.int 5))])]),
.set (.n 4) (.idx (.lst [(.lit (.none)), (.tup [(.lit (.int 0)), (.lit (.int 2)), (.lit (.int 2))]), (.lst [(.lit (.int 2)), (.lit (.int 2)), (.lit (.int 2))]), (.tup [(.lit (.int 2)), (.lit (.int 2)), (.lit (.int 10))]), (.tup [(.lit (.int 2)), (.lit (.int 2))]), (.tup [(.lit (.int 2)), (.lit (.int 2)), (.lit (.bool true))])]) (.bin .mod (.prim .int [(.idx (.var 1) (.lit (.int 0)))]) (.lit (.int 6)))),
.set (.n 5) (.idx (.lst [(.lit (.none)), (.tup []), (.prim .list [(.var 2)]), (.step (.var 2) (.neg (.lit (.int 1)))), (.bin .add (.var 2) (.slc (.var 2) (.lit (.int 2)) (.lit .none))), (.tup [(.tup [(.lit (.int 0)), (.lit (.int 1)), (.lit (.int 2))])]), (.tup [(.tup [(.lit (.int 0)), (.lit (.int 1))]), (.lst [(.lit (.int 0)), (.lit (.int 2))])]), (.tup [(.tup [(.lit (.int 0)), (.lit (.int 6))])])]) (.bin .mod (.prim .int [(.idx (.var 1) (.lit (.int 1)))]) (.lit (.int 8)))),
.for (.n 6) .range [(.lit (.int 8))] [.ife (.cmp .ne (.call f_law_told_k87 [(.var 6), (.var 4), (.var 5), (.tup [(.lit (.str w_odd))]), (.var 3), (.lit (.str w_know)), (.tup [(.lit (.str w_dora))]), (.lit (.str w_dora))]) (.lit (.str w_setting))) [.ret (.lit (.bool false))] [],
.ife (.cmp .ne (.call f_law_told_k87 [(.var 6), (.tup [(.lit (.int 2)), (.lit (.int 2)), (.lit (.int 2))]), (.var 5), (.tup [(.lit (.str w_odd))]), (.var 3), (.lit (.str w_know)), (.tup [(.lit (.str w_dora))]), (.lit (.str w_dora))]) (.lit (.str w_lot))) [.ret (.lit (.bool false))] []],
.ret (.lit (.bool true))] }
def F_law_many : FDef := { params := 1, slots := 12, body := [.set (.n 1) (.prim .tuple [(.lc (.tup [(.lit (.int 0)), (.var 2)]) (.n 2) .range [(.lit (.int 1)), (.lit (.int 6))] [] [2])]),
.set (.n 3) (.tup [(.tup [(.lit (.str w_has)), (.lit (.str w_anne)), (.lit (.int 0))])]),
.for (.n 4) .seq [(.lst [(.lit (.int 0)), (.lit (.int 1)), (.lit (.int 4)), (.lit (.int 5)), (.lit (.int 6)), (.lit (.int 7))])] [.ife (.cmp .ne (.call f_law_told_k87 [(.var 4), (.tup [(.lit (.int 2)), (.lit (.int 5)), (.lit (.int 6))]), (.var 1), (.var 3), (.lit (.none)), (.lit (.str w_blind)), (.tup [(.lit (.str w_anne))]), (.lit (.str w_anne))]) (.lit (.str w_many))) [.ret (.lit (.bool false))] [],
.set (.n 5) (.idx (.lst [(.lit (.str w_talk)), (.lit (.str w_talk)), (.lit (.str ⟨#[]⟩)), (.lit (.str ⟨#[]⟩)), (.lit (.str w_people)), (.lit (.str w_people)), (.lit (.str w_people)), (.lit (.str w_people))]) (.var 4)),
.ife (.cmp .ne (.call f_law_told_k87 [(.var 4), (.tup [(.lit (.int 2)), (.lit (.int 5)), (.lit (.int 6))]), (.var 1), (.tup [(.lit (.str w_odd))]), (.lit (.none)), (.lit (.str w_blind)), (.tup [(.lit (.str w_dora))]), (.lit (.str w_anne))]) (.var 5)) [.ret (.lit (.bool false))] []],
.set (.n 6) (.slc (.call f_law_rows_k75 [(.prim .listRange [(.lit (.int 10))]), (.lit (.int 3))]) (.lit .none) (.lit (.int 58))),
.set (.n 7) (.prim .tuple [(.lc (.var 8) (.n 8) .range [(.lit (.int 10))] [(.cmp .nin (.var 8) (.idx (.var 6) (.lit (.int 20))))] [8])]),
.set (.n 9) (.tup [(.idx (.var 6) (.lit (.int 20))), (.slc (.var 7) (.lit .none) (.lit (.int 3))), (.slc (.var 7) (.lit (.int 3)) (.lit .none))]),
.set (.n 10) (.prim .tuple [(.slc (.var 6) (.lit .none) (.lit (.int 57)))]),
.set (.n 4) (.bin .mod (.prim .int [(.idx (.call f_law_draws_k75 [(.var 0), (.lit (.int 1)), (.lit (.int 720720))]) (.lit (.int 0)))]) (.lit (.int 8))),
.ife (.cmp .ne (.call f_law_told_k87 [(.var 4), (.tup [(.lit (.int 3)), (.lit (.int 3)), (.lit (.int 4))]), (.prim .tuple [(.var 6)]), (.var 3), (.var 9), (.lit (.str w_blind)), (.tup [(.lit (.str w_anne))]), (.lit (.str w_anne))]) (.lit (.str w_many))) [.ret (.lit (.bool false))] [],
.ife (.cmp .eq (.var 4) (.lit (.int 0))) [.ret (.cmp .eq (.prim .len [(.call f_deals_left [(.tup [(.lit (.int 3)), (.lit (.int 3)), (.lit (.int 4))]), (.var 10), (.var 3)])]) (.lit (.int 1260)))] [],
.ife (.cmp .eq (.var 4) (.lit (.int 1))) [.ret (.and [(.cmp .inn (.tup [(.lit (.str w_blind)), (.lit (.str w_anne))]) (.call f_still [(.tup [(.lit (.int 3)), (.lit (.int 3)), (.lit (.int 4))]), (.var 10), (.tup [])])), (.cmp .nin (.tup [(.lit (.str w_knows)), (.lit (.str w_anne))]) (.call f_still [(.tup [(.lit (.int 3)), (.lit (.int 3)), (.lit (.int 4))]), (.var 10), (.var 3)]))])] [],
.ife (.cmp .eq (.var 4) (.lit (.int 2))) [.ret (.cmp .eq (.idx (.call f_words_now [(.tup [(.lit (.int 3)), (.lit (.int 3)), (.lit (.int 4))]), (.var 10), (.tup []), (.var 9)]) (.lit (.int 0))) (.tup [(.lit (.bool false)), (.tup [])]))] [],
.ife (.cmp .eq (.var 4) (.lit (.int 3))) [.set (.n 11) (.tup [(.tup [(.lit (.int 0))]), (.tup [(.lit (.int 1)), (.lit (.int 2)), (.lit (.int 3)), (.lit (.int 4)), (.lit (.int 5)), (.lit (.int 6))]), (.tup [(.lit (.int 7)), (.lit (.int 8)), (.lit (.int 9)), (.lit (.int 10)), (.lit (.int 11)), (.lit (.int 12))])]),
.ife (.cmp .notB (.call f_common_knows [(.tup [(.lit (.int 1)), (.lit (.int 6)), (.lit (.int 6))]), (.tup [(.tup [(.lit (.int 0))])]), (.tup []), (.var 11), (.tup [(.lit (.str w_anne)), (.lit (.str w_cath))]), (.lit (.str w_bill))]) (.lit (.bool true))) [.ret (.lit (.bool false))] [],
.ret (.cmp .isB (.call f_common_knows [(.tup [(.lit (.int 3)), (.lit (.int 3)), (.lit (.int 4))]), (.var 10), (.tup []), (.var 9), (.tup [(.lit (.str w_anne)), (.lit (.str w_bill)), (.lit (.str w_cath))]), (.lit (.str w_anne))]) (.lit (.bool false)))] [],
.ife (.cmp .eq (.var 4) (.lit (.int 4))) [.ret (.cmp .eq (.call f_rounds [(.tup [(.lit (.int 3)), (.lit (.int 3)), (.lit (.int 4))]), (.var 10), (.lit (.str w_blind)), (.tup [(.lit (.str w_anne))])]) (.lst []))] [],
.ife (.cmp .eq (.var 4) (.lit (.int 5))) [.ret (.cmp .eq (.prim .len [(.call f_quiet [(.tup [(.lit (.int 3)), (.lit (.int 3)), (.lit (.int 4))]), (.var 10), (.tup [(.lit (.str w_anne))])])]) (.lit (.int 1995)))] [],
.ife (.cmp .eq (.var 4) (.lit (.int 6))) [.ret (.cmp .eq (.call f_peeling [(.tup [(.lit (.int 3)), (.lit (.int 3)), (.lit (.int 4))]), (.var 10), (.tup [(.lit (.str w_anne))])]) (.lst []))] [],
.ret (.cmp .isB (.call f_peeling_holds [(.tup [(.lit (.int 3)), (.lit (.int 3)), (.lit (.int 4))]), (.var 10), (.tup [(.lit (.str w_anne))]), (.lst [])]) (.lit (.bool true)))] }
def F_law_k87 : FDef := { params := 1, slots := 11, body := [.for (.n 1) .seq [(.bin .add (.slc (.var 0) (.lit .none) (.lit (.int 16))) (.lst [(.call f_law_cell_at [(.var 0), (.lit (.int 16))])]))] [.set (.n 2) (.call f_law_draws_k75 [(.var 1), (.lit (.int 7)), (.lit (.int 720720))]),
.set (.n 3) (.idx (.lst [(.tup [(.lit (.int 2)), (.lit (.int 2)), (.lit (.int 2))]), (.tup [(.lit (.int 3)), (.lit (.int 2)), (.lit (.int 1))])]) (.bin .mod (.prim .int [(.idx (.var 2) (.lit (.int 6)))]) (.lit (.int 2)))),
.set (.n 4) (.prim .tupleRange [(.bin .sub (.idx (.var 3) (.lit (.int 0))) (.lit (.int 1)))]),
.set (.n 5) (.prim .tuple [(.lc (.bin .add (.var 4) (.tup [(.var 6)])) (.n 6) .range [(.bin .sub (.idx (.var 3) (.lit (.int 0))) (.lit (.int 1))), (.bin .add (.idx (.var 3) (.lit (.int 0))) (.lit (.int 2)))] [] [6])]),
.set (.n 7) (.idx (.var 5) (.bin .mod (.prim .int [(.bin .fdiv (.idx (.var 2) (.lit (.int 6))) (.lit (.int 2)))]) (.lit (.int 3)))),
.set (.n 8) (.lc (.var 9) (.n 9) .range [(.prim .sum [(.var 3)])] [(.cmp .nin (.var 9) (.var 7))] [9]),
.set (.n 10) (.tup [(.var 7), (.prim .tuple [(.slc (.var 8) (.lit .none) (.idx (.var 3) (.lit (.int 1))))]), (.prim .tuple [(.slc (.var 8) (.idx (.var 3) (.lit (.int 1))) (.lit .none))])]),
.ife (.not (.call f_law_right_k87 [(.var 3), (.var 5), (.var 10), (.var 2)])) [.ret (.lit (.bool false))] []],
.ret (.and [(.call f_law_doors [(.call f_law_cell_at [(.var 0), (.lit (.int 0))])]), (.call f_law_many [(.bin .add (.call f_law_cell_at [(.var 0), (.lit (.int 0))]) (.lit (.int 5)))])])] }
def F_wall : FDef := { params := 1, slots := 1, body := [.whl (.lit (.bool true)) [.pass]] }
def F_count_hands : FDef := { params := 1, slots := 1, body := [.exp (.call f_check_setting [(.var 0)]),
.ret (.call f_count_rows [(.prim .sum [(.var 0)]), (.idx (.var 0) (.lit (.int 0)))])] }
def F_all_hands : FDef := { params := 1, slots := 1, body := [.exp (.call f_check_setting [(.var 0)]),
.ret (.prim .tuple [(.call f_rows_out_of [(.prim .listRange [(.prim .sum [(.var 0)])]), (.idx (.var 0) (.lit (.int 0)))])])] }
def F_count_deals : FDef := { params := 1, slots := 1, body := [.exp (.call f_check_setting [(.var 0)]),
.ret (.bin .mul (.call f_count_hands [(.var 0)]) (.call f_count_rows [(.bin .add (.idx (.var 0) (.lit (.int 1))) (.idx (.var 0) (.lit (.int 2)))), (.idx (.var 0) (.lit (.int 1)))]))] }
def F_all_deals : FDef := { params := 1, slots := 3, body := [.ife (.cmp .gt (.call f_count_deals [(.var 0)]) (.gl 2 c_MOST_DEALS)) [.raise 26 [(.lit (.str ⟨#[116, 111, 111, 32, 109, 97, 110, 121, 32, 100, 101, 97, 108, 115]⟩))]] [],
.own 1 (.lst []),
.for (.n 2) .seq [(.call f_all_hands [(.var 0)])] [.ext 1 (.call f_deals_of_hand [(.var 0), (.var 2)])],
.ret (.var 1)] }
def F_law_small_setting : FDef := { params := 1, slots := 5, body := [.set (.n 1) (.bin .add (.lit (.int 1)) (.bin .mod (.prim .int [(.var 0)]) (.lit (.int 3)))),
.set (.n 2) (.bin .add (.lit (.int 1)) (.bin .mod (.prim .int [(.bin .fdiv (.var 0) (.lit (.int 3)))]) (.lit (.int 3)))),
.set (.n 3) (.bin .add (.lit (.int 1)) (.bin .mod (.prim .int [(.bin .fdiv (.var 0) (.lit (.int 9)))]) (.prim .min [(.lit (.int 3)), (.bin .sub (.bin .sub (.lit (.int 7)) (.var 1)) (.var 2))]))),
.set (.n 4) (.lst [(.tup [(.lit (.int 7)), (.lit (.int 1)), (.lit (.int 1))]), (.tup [(.lit (.int 1)), (.lit (.int 8)), (.lit (.int 1))]), (.tup [(.lit (.int 2)), (.lit (.int 6)), (.lit (.int 1))]), (.tup [(.lit (.int 6)), (.lit (.int 2)), (.lit (.int 1))]), (.tup [(.lit (.int 11)), (.lit (.int 1)), (.lit (.int 1))]), (.tup [(.lit (.int 1)), (.lit (.int 1)), (.lit (.int 11))]), (.tup [(.lit (.int 1)), (.lit (.int 11)), (.lit (.int 1))]), (.tup [(.lit (.int 2)), (.lit (.int 1)), (.lit (.int 6))]), (.tup [(.lit (.int 1)), (.lit (.int 2)), (.lit (.int 7))]), (.tup [(.lit (.int 7)), (.lit (.int 2)), (.lit (.int 1))])]),
.ife (.cmp .eq (.bin .mod (.prim .int [(.bin .fdiv (.var 0) (.lit (.int 27)))]) (.lit (.int 4))) (.lit (.int 1))) [.ret (.idx (.var 4) (.bin .mod (.prim .int [(.bin .fdiv (.var 0) (.lit (.int 108)))]) (.lit (.int 10))))] [],
.ret (.tup [(.var 1), (.var 2), (.var 3)])] }
def F_law_begin : FDef := { params := 1, slots := 4, body := [.set (.n 1) (.call f_law_draws_k75 [(.var 0), (.lit (.int 2)), (.lit (.int 720720))]),
.set (.n 2) (.call f_law_small_setting [(.idx (.var 1) (.lit (.int 0)))]),
.set (.n 3) (.call f_law_deals [(.var 2), (.call f_law_rows_k75 [(.prim .listRange [(.prim .sum [(.var 2)])]), (.idx (.var 2) (.lit (.int 0)))])]),
.ret (.tup [(.var 2), (.var 3), (.idx (.var 3) (.bin .mod (.prim .int [(.idx (.var 1) (.lit (.int 1)))]) (.prim .len [(.var 3)])))])] }
def F_law_thing : FDef := { params := 4, slots := 9, body := [.ife (.cmp .eq (.bin .mod (.prim .int [(.idx (.var 0) (.lit (.int 0)))]) (.lit (.int 3))) (.lit (.int 0))) [.own 4 (.lc (.call f_law_hand [(.var 5), (.var 1)]) (.n 5) .seq [(.slc (.var 0) (.lit (.int 1)) (.bin .add (.lit (.int 2)) (.bin .mod (.prim .int [(.bin .fdiv (.idx (.var 0) (.lit (.int 0))) (.lit (.int 3)))]) (.lit (.int 4)))))] [] [5]),
.ife (.cmp .gt (.bin .mod (.prim .int [(.bin .fdiv (.idx (.var 0) (.lit (.int 0))) (.lit (.int 12)))]) (.lit (.int 4))) (.lit (.int 0))) [.app 4 (.idx (.var 3) (.lit (.int 0)))] [],
.own 6 (.lst []),
.for (.n 7) .seq [(.prim .sorted [(.var 4)])] [.ife (.cmp .nin (.var 7) (.var 6)) [.app 6 (.var 7)] []],
.ret (.prim .tuple [(.var 6)])] [],
.set (.n 8) (.call f_law_saying [(.idx (.var 0) (.lit (.int 1))), (.prim .sum [(.var 1)])]),
.ife (.and [(.cmp .nin (.var 3) (.call f_law_after [(.var 2), (.var 8)])), (.cmp .gt (.bin .mod (.prim .int [(.bin .fdiv (.idx (.var 0) (.lit (.int 0))) (.lit (.int 12)))]) (.lit (.int 4))) (.lit (.int 0)))]) [.set (.n 8) (.call f_law_opposite [(.var 8)])] [],
.ret (.var 8)] }
def F_law_fewer : FDef := { params := 2, slots := 3, body := [.ife (.prim (.isTy .str) [(.idx (.var 1) (.lit (.int 0)))]) [.ret (.call f_law_after [(.var 0), (.var 1)])] [],
.ret (.lc (.var 2) (.n 2) .seq [(.var 0)] [(.cmp .inn (.idx (.var 2) (.lit (.int 0))) (.var 1))] [2])] }
def F_law_word : FDef := { params := 1, slots := 1, body := [.ife (.prim (.isTy .str) [(.idx (.var 0) (.lit (.int 0)))]) [.ret (.lit (.str w_say))] [],
.ret (.lit (.str w_tell))] }
def F_law_in_right : FDef := { params := 4, slots := 6, body := [.for (.n 4) .seq [(.lst [(.lit (.int 1)), (.lit (.int 7)), (.lit (.int 31))])] [.set (.n 5) (.idx (.var 1) (.bin .mod (.prim .int [(.bin .add (.bin .mul (.var 3) (.var 4)) (.var 4))]) (.prim .len [(.var 1)]))),
.ife (.cmp .ne (.cmp .inn (.var 5) (.var 0)) (.cmp .inn (.var 5) (.var 2))) [.ret (.lit (.bool false))] []],
.ret (.lit (.bool true))] }
def F_law_looked : FDef := { params := 6, slots := 8, body := [.ife (.not (.call f_law_in_right [(.var 0), (.idx (.var 1) (.lit (.int 0))), (.idx (.var 1) (.neg (.lit (.int 1)))), (.var 5)])) [.ret (.lit (.bool false))] [],
.for (.n 6) .range [(.lit (.int 3))] [.set (.n 7) (.bin .mod (.prim .int [(.bin .add (.var 5) (.var 6))]) (.lit (.int 3))),
.ife (.and [(.cmp .eq (.var 7) (.lit (.int 0))), (.not (.call f_law_left_right [(.var 0), (.idx (.var 1) (.neg (.lit (.int 1)))), (.var 4)]))]) [.ret (.lit (.bool false))] [],
.ife (.and [(.cmp .eq (.var 7) (.lit (.int 1))), (.not (.call f_law_people_right [(.var 0), (.idx (.var 1) (.neg (.lit (.int 1)))), (.var 3)]))]) [.ret (.lit (.bool false))] [],
.ife (.and [(.cmp .eq (.var 7) (.lit (.int 2))), (.not (.call f_law_said_right [(.var 0), (.var 2), (.var 3)]))]) [.ret (.lit (.bool false))] []],
.ret (.lit (.bool true))] }
def F_law_lot_with : FDef := { params := 4, slots := 7, body := [.own 4 (.lst [(.idx (.var 2) (.lit (.int 0)))]),
.for (.n 5) .range [(.var 3)] [.set (.n 6) (.call f_law_hand [(.var 0), (.var 1)]),
.set (.n 0) (.bin .fdiv (.var 0) (.lit (.int 5040))),
.ife (.cmp .nin (.var 6) (.var 4)) [.app 4 (.var 6)] []],
.ret (.prim .tuple [(.prim .sorted [(.var 4)])])] }
def F_law_places : FDef := { params := 3, slots := 4, body := [.for (.n 3) .seq [(.lst [(.neg (.lit (.int 1))), (.prim .len [(.var 1)]), (.bin .add (.bin .add (.prim .len [(.var 1)]) (.lit (.int 1))) (.bin .mod (.prim .int [(.var 2)]) (.bin .pow (.lit (.int 10)) (.lit (.int 30))))), (.bin .sub (.neg (.lit (.int 2))) (.prim .int [(.var 2)])), (.lit (.none)), (.lit (.bool true)), (.lit (.bool false)), (.lit (.str ⟨#[48]⟩)), (.tup [(.lit (.int 0))])])] [.ife (.cmp .ne (.call f_law_place_told [(.var 0), (.var 3)]) (.lst [(.lit (.bool true)), (.lit (.bool false)), (.lit (.bool false))])) [.ret (.lit (.bool false))] []],
.ret (.lit (.bool true))] }
def F_law_due_k92 : FDef := { params := 1, slots := 2, body := [.ret (.lc (.cmp .eq (.var 1) (.var 0)) (.n 1) .range [(.lit (.int 8))] [] [1])] }
def F_law_odd : FDef := { params := 5, slots := 14, body := [.set (.n 5) (.prim .sum [(.var 1)]),
.set (.n 6) (.lst [(.lit (.none)), (.tup [(.lit (.int 0)), (.lit (.int 1)), (.lit (.int 1))]), (.tup [(.lit (.int 1)), (.lit (.int 1))]), (.tup [(.lit (.int 5)), (.lit (.int 5)), (.lit (.int 4))]), (.lst [(.lit (.int 1)), (.lit (.int 1)), (.lit (.int 1))]), (.lit (.str ⟨#[49, 49, 49]⟩)), (.tup [(.lit (.int 1)), (.lit (.int 1)), (.lit (.bool true))]), (.tup [(.lit (.int 1)), (.lit (.int 1)), (.lit (.int 1)), (.lit (.int 1))]), (.tup [(.neg (.lit (.int 1))), (.lit (.int 2)), (.lit (.int 2))])]),
.ife (.cmp .ne (.call f_law_told_k92 [(.var 0), (.lit (.str w_begin)), (.idx (.var 6) (.bin .mod (.prim .int [(.var 4)]) (.lit (.int 9)))), (.var 3)]) (.call f_law_due_k92 [(.lit (.int 0))])) [.ret (.lit (.bool false))] [],
.set (.n 7) (.lst [(.lit (.none)), (.tup []), (.slc (.var 3) (.lit .none) (.lit (.int 2))), (.prim .list [(.var 3)]), (.tup [(.idx (.var 3) (.lit (.int 0))), (.idx (.var 3) (.lit (.int 0))), (.idx (.var 3) (.lit (.int 2)))]), (.bin .add (.var 3) (.tup [(.tup [])])), (.tup [(.idx (.var 3) (.lit (.int 0))), (.idx (.var 3) (.lit (.int 1))), (.lst [(.lit (.int 0))])])]),
.set (.n 7) (.bin .add (.var 7) (.lst [(.tup [(.bin .add (.step (.idx (.var 3) (.lit (.int 0))) (.neg (.lit (.int 1)))) (.tup [(.var 5)])), (.idx (.var 3) (.lit (.int 1))), (.idx (.var 3) (.lit (.int 2)))]), (.tup [(.tup []), (.bin .add (.idx (.var 3) (.lit (.int 1))) (.idx (.var 3) (.lit (.int 0)))), (.idx (.var 3) (.lit (.int 2)))])])),
.ife (.cmp .ne (.call f_law_told_k92 [(.var 0), (.lit (.str w_begin)), (.var 1), (.idx (.var 7) (.bin .mod (.prim .int [(.bin .fdiv (.var 4) (.lit (.int 9)))]) (.lit (.int 9))))]) (.call f_law_due_k92 [(.lit (.int 1))])) [.ret (.lit (.bool false))] [],
.ife (.cmp .ne (.call f_law_told_k92 [(.var 0), (.lit (.str w_with)), (.idx (.var 7) (.bin .mod (.prim .int [(.bin .fdiv (.var 4) (.lit (.int 9)))]) (.lit (.int 9)))), (.lit (.none))]) (.call f_law_due_k92 [(.lit (.int 1))])) [.ret (.lit (.bool false))] [],
.set (.n 8) (.lst [(.lit (.none)), (.tup []), (.lst [(.idx (.var 3) (.lit (.int 0)))]), (.tup [(.idx (.var 3) (.lit (.int 0))), (.idx (.var 3) (.lit (.int 0)))]), (.tup [(.bin .add (.idx (.var 3) (.lit (.int 0))) (.tup [(.var 5)]))]), (.tup [(.lit (.str w_anne))]), (.idx (.var 3) (.lit (.int 0))), (.tup [(.prim .list [(.idx (.var 3) (.lit (.int 0)))])]), (.dct [] [])]),
.ife (.cmp .ne (.call f_law_told_k92 [(.var 0), (.lit (.str w_tell)), (.idx (.var 8) (.bin .mod (.prim .int [(.bin .fdiv (.var 4) (.lit (.int 81)))]) (.lit (.int 9)))), (.lit (.none))]) (.call f_law_due_k92 [(.lit (.int 3))])) [.ret (.lit (.bool false))] [],
.set (.n 9) (.lst [(.lit (.none)), (.tup []), (.lit (.str w_knows)), (.tup [(.lit (.str w_knows)), (.lit (.str w_dora))]), (.tup [(.lit (.str w_has)), (.lit (.str w_anne)), (.var 5)]), (.tup [(.lit (.str w_has)), (.lit (.str w_anne)), (.lit (.bool true))])]),
.set (.n 9) (.bin .add (.var 9) (.lst [(.lst [(.lit (.str w_has)), (.lit (.str w_anne)), (.idx (.idx (.var 3) (.lit (.int 0))) (.lit (.int 0)))]), (.tup [(.lit (.str w_sees)), (.lit (.str w_cath)), (.lit (.str w_cath))]), (.tup [(.idx (.var 3) (.lit (.int 0)))])])),
.ife (.cmp .ne (.call f_law_told_k92 [(.var 0), (.lit (.str w_say)), (.idx (.var 9) (.bin .mod (.prim .int [(.bin .fdiv (.var 4) (.lit (.int 729)))]) (.lit (.int 9)))), (.lit (.none))]) (.call f_law_due_k92 [(.lit (.int 4))])) [.ret (.lit (.bool false))] [],
.set (.n 10) (.idx (.lst [(.lit (.none)), (.lit (.str ⟨#[]⟩)), (.lit (.str w_dora)), (.lit (.str ⟨#[65, 110, 110, 101]⟩)), (.lit (.int 0)), (.tup [(.lit (.str w_anne))]), (.lst [(.lit (.str w_anne))])]) (.bin .mod (.prim .int [(.bin .fdiv (.var 4) (.lit (.int 6561)))]) (.lit (.int 7)))),
.ife (.or [(.cmp .ne (.call f_law_told_k92 [(.var 0), (.lit (.str w_knows)), (.var 10), (.lit (.none))]) (.call f_law_due_k92 [(.lit (.int 5))])), (.cmp .ne (.call f_law_told_k92 [(.var 0), (.lit (.str w_cards)), (.var 10), (.lit (.none))]) (.call f_law_due_k92 [(.lit (.int 5))]))]) [.ret (.lit (.bool false))] [],
.set (.n 11) (.idx (.lc (.idx (.var 12) (.lit (.int 0))) (.n 12) .seq [(.var 2)] [(.cmp .ne (.idx (.var 12) (.lit (.int 0))) (.idx (.var 3) (.lit (.int 0))))] [12]) (.bin .mod (.prim .int [(.bin .fdiv (.var 4) (.lit (.int 45927)))]) (.lit (.int 2)))),
.ife (.or [(.cmp .ne (.call f_law_told_k92 [(.var 0), (.lit (.str w_tell)), (.tup [(.var 11)]), (.lit (.none))]) (.call f_law_due_k92 [(.lit (.int 6))])), (.cmp .ne (.call f_law_told_k92 [(.var 0), (.lit (.str w_say)), (.tup [(.lit (.str w_knows)), (.lit (.str w_anne))]), (.lit (.none))]) (.call f_law_due_k92 [(.lit (.int 6))]))]) [.ret (.lit (.bool false))] [],
.set (.n 13) (.idx (.lc (.var 12) (.n 12) .seq [(.var 2)] [(.cmp .eq (.idx (.var 12) (.lit (.int 0))) (.var 11))] [12]) (.lit (.int 0))),
.ret (.cmp .eq (.call f_law_told_k92 [(.var 0), (.lit (.str w_with)), (.var 13), (.lit (.none))]) (.call f_law_due_k92 [(.lit (.int 6))]))] }
def F_misses : FDef := { params := 2, slots := 3, body := [.for (.n 2) .seq [(.var 1)] [.ife (.cmp .inn (.var 2) (.var 0)) [.ret (.lit (.bool false))] []],
.ret (.lit (.bool true))] }
def F_show_cards : FDef := { params := 1, slots := 2, body := [.ife (.cmp .eq (.var 0) (.tup [])) [.ret (.lit (.str ⟨#[45]⟩))] [],
.ret (.meth .join (.lit (.str ⟨#[]⟩)) [(.lc (.idx (.gl 8 c_SIGNS) (.var 1)) (.n 1) .seq [(.var 0)] [] [1])])] }
def F_show_lot : FDef := { params := 1, slots := 2, body := [.ret (.meth .join (.lit (.str ⟨#[32]⟩)) [(.lc (.call f_show_cards [(.var 1)]) (.n 1) .seq [(.var 0)] [] [1])])] }
def F_show_deal : FDef := { params := 1, slots := 4, body := [.set (.t [1, 2, 3]) (.var 0),
.ret (.fstr [(.call f_show_cards [(.var 1)]), (.lit (.str ⟨#[32]⟩)), (.call f_show_cards [(.var 2)]), (.lit (.str ⟨#[32]⟩)), (.call f_show_cards [(.var 3)])])] }
def F_are_signs : FDef := { params := 1, slots := 2, body := [.ret (.and [(.cmp .ne (.var 0) (.lit (.str ⟨#[]⟩))), (.prim .all [(.lc (.cmp .inn (.var 1) (.gl 8 c_SIGNS)) (.n 1) .seq [(.var 0)] [] [1])])])] }
def F_cards_of_signs : FDef := { params := 1, slots := 2, body := [.ret (.prim .tuple [(.lc (.meth .index (.gl 8 c_SIGNS) [(.var 1)]) (.n 1) .seq [(.var 0)] [] [1])])] }
def F_read_lot : FDef := { params := 2, slots := 6, body := [.exp (.call f_check_setting [(.var 0)]),
.ife (.not (.prim (.isTy .str) [(.var 1)])) [.raise 29 [(.lit (.int 0))]] [],
.own 2 (.lst []),
.for (.t [3, 4]) .enum [(.meth .split (.var 1) [(.lit (.str ⟨#[32]⟩))])] [.ife (.or [(.not (.call f_are_signs [(.var 4)])), (.cmp .eq (.prim .len [(.var 2)]) (.gl 1 c_MOST_HANDS))]) [.raise 29 [(.var 3)]] [],
.set (.n 5) (.call f_cards_of_signs [(.var 4)]),
.ife (.or [(.not (.call f_is_hand [(.var 0), (.var 5)])), (.and [(.cmp .ne (.var 2) (.lst [])), (.cmp .le (.var 5) (.idx (.var 2) (.neg (.lit (.int 1)))))])]) [.raise 29 [(.var 3)]] [],
.app 2 (.var 5)],
.ret (.prim .tuple [(.var 2)])] }
def F_goes_on : FDef := { params := 3, slots := 5, body := [.set (.n 3) (.prim .len [(.var 1)]),
.ife (.or [(.cmp .gt (.var 3) (.lit (.int 2))), (.not (.call f_is_row [(.var 2), (.prim .sum [(.var 0)])])), (.cmp .ne (.prim .len [(.var 2)]) (.idx (.var 0) (.var 3)))]) [.ret (.lit (.bool false))] [],
.for (.n 4) .seq [(.var 1)] [.ife (.not (.call f_misses [(.var 2), (.var 4)])) [.ret (.lit (.bool false))] []],
.ret (.lit (.bool true))] }
def F_read_deal : FDef := { params := 2, slots := 5, body := [.exp (.call f_check_setting [(.var 0)]),
.ife (.not (.prim (.isTy .str) [(.var 1)])) [.raise 29 [(.lit (.int 0))]] [],
.own 2 (.lst []),
.for (.t [3, 4]) .enum [(.meth .split (.var 1) [(.lit (.str ⟨#[32]⟩))])] [.ife (.or [(.not (.call f_are_signs [(.var 4)])), (.not (.call f_goes_on [(.var 0), (.var 2), (.call f_cards_of_signs [(.var 4)])]))]) [.raise 29 [(.var 3)]] [],
.app 2 (.call f_cards_of_signs [(.var 4)])],
.ife (.cmp .lt (.prim .len [(.var 2)]) (.lit (.int 3))) [.raise 29 [(.prim .len [(.var 2)])]] [],
.ret (.prim .tuple [(.var 2)])] }
def F_law_shown : FDef := { params := 1, slots := 3, body := [.set (.n 1) (.lit (.str ⟨#[48, 49, 50, 51, 52, 53, 54, 55, 56, 57, 97, 98, 99]⟩)),
.ife (.cmp .eq (.var 0) (.tup [])) [.ret (.lit (.str ⟨#[45]⟩))] [],
.ret (.meth .join (.lit (.str ⟨#[]⟩)) [(.lc (.idx (.var 1) (.var 2)) (.n 2) .seq [(.var 0)] [] [2])])] }
def F_law_first_hands : FDef := { params := 2, slots := 9, body := [.own 2 (.lst [(.prim .tupleRange [(.idx (.var 0) (.lit (.int 0)))])]),
.set (.n 3) (.prim .sum [(.var 0)]),
.for (.n 4) .range [(.bin .sub (.var 1) (.lit (.int 1)))] [.set (.n 5) (.prim .list [(.idx (.var 2) (.neg (.lit (.int 1))))]),
.set (.n 6) (.bin .sub (.idx (.var 0) (.lit (.int 0))) (.lit (.int 1))),
.whl (.and [(.cmp .gt (.var 6) (.lit (.int 0))), (.cmp .eq (.idx (.var 5) (.var 6)) (.bin .add (.bin .sub (.var 3) (.idx (.var 0) (.lit (.int 0)))) (.var 6)))]) [.set (.n 6) (.bin .sub (.var 6) (.lit (.int 1)))],
.ife (.cmp .lt (.idx (.var 5) (.var 6)) (.bin .add (.bin .sub (.var 3) (.idx (.var 0) (.lit (.int 0)))) (.var 6))) [.set (.n 7) (.bin .add (.idx (.var 5) (.var 6)) (.lit (.int 1))),
.app 2 (.prim .tuple [(.bin .add (.slc (.var 5) (.lit .none) (.var 6)) (.lc (.bin .add (.var 7) (.var 8)) (.n 8) .range [(.bin .sub (.idx (.var 0) (.lit (.int 0))) (.var 6))] [] [8]))])] []],
.ret (.prim .tuple [(.var 2)])] }
def F_law_are_rows : FDef := { params := 1, slots := 2, body := [.ret (.and [(.prim (.isTy .tup) [(.var 0)]), (.prim .all [(.lc (.call f_law_is_row [(.var 1)]) (.n 1) .seq [(.var 0)] [] [1])])])] }
def F_law_same : FDef := { params := 2, slots := 2, body := [.ret (.and [(.prim (.isTy .str) [(.var 0)]), (.cmp .eq (.var 0) (.var 1))])] }
def F_law_k93 : FDef := { params := 1, slots := 14, body := [.for (.n 1) .seq [(.bin .add (.slc (.var 0) (.lit .none) (.lit (.int 6))) (.lst [(.call f_law_cell_at [(.var 0), (.lit (.int 6))])]))] [.set (.n 2) (.call f_law_draws_k75 [(.var 1), (.lit (.int 6)), (.lit (.int 720720))]),
.set (.n 3) (.call f_law_setting_k75 [(.bin .mod (.prim .int [(.idx (.var 2) (.lit (.int 0)))]) (.lit (.int 1440)))]),
.set (.n 4) (.call f_law_lot_k75 [(.bin .add (.bin .fdiv (.var 1) (.lit (.int 1440))) (.var 1)), (.var 3), (.lit (.int 11))]),
.ife (.cmp .eq (.bin .mod (.idx (.var 2) (.lit (.int 1))) (.lit (.int 6))) (.lit (.int 1))) [.set (.n 4) (.call f_law_first_hands [(.var 3), (.bin .add (.lit (.int 1)) (.bin .mod (.prim .int [(.bin .fdiv (.idx (.var 2) (.lit (.int 1))) (.lit (.int 6)))]) (.lit (.int 60))))])] [],
.set (.n 5) (.meth .join (.lit (.str ⟨#[32]⟩)) [(.lc (.call f_law_shown [(.var 6)]) (.n 6) .seq [(.var 4)] [] [6])]),
.set (.n 7) (.call f_read_lot [(.var 3), (.var 5)]),
.ife (.or [(.not (.call f_law_same [(.call f_show_lot [(.var 4)]), (.var 5)])), (.not (.call f_law_are_rows [(.var 7)])), (.cmp .ne (.var 7) (.var 4))]) [.ret (.lit (.bool false))] [],
.for (.n 8) .seq [(.slc (.var 2) (.lit (.int 2)) (.lit (.int 5)))] [.set (.n 9) (.call f_law_deals [(.var 3), (.lst [(.idx (.var 4) (.bin .mod (.prim .int [(.var 8)]) (.prim .len [(.var 4)])))])]),
.set (.n 10) (.idx (.var 9) (.bin .mod (.prim .int [(.bin .fdiv (.var 8) (.lit (.int 60)))]) (.prim .len [(.var 9)]))),
.set (.n 5) (.meth .join (.lit (.str ⟨#[32]⟩)) [(.lc (.call f_law_shown [(.var 11)]) (.n 11) .seq [(.var 10)] [] [11])]),
.set (.n 7) (.call f_read_deal [(.var 3), (.var 5)]),
.ife (.or [(.not (.call f_law_same [(.call f_show_deal [(.var 10)]), (.var 5)])), (.not (.call f_law_are_rows [(.var 7)])), (.cmp .ne (.var 7) (.var 10))]) [.ret (.lit (.bool false))] []],
.set (.n 12) (.lst [(.lit (.int 1)), (.lit (.int 2)), (.lit (.int 4)), (.lit (.int 8)), (.lit (.int 16)), (.lit (.int 32)), (.lit (.int 64)), (.lit (.int 128)), (.lit (.int 256)), (.lit (.int 512)), (.lit (.int 1024)), (.lit (.int 2048)), (.lit (.int 4096))]),
.set (.n 11) (.prim .tuple [(.lc (.var 13) (.n 13) .range [(.lit (.int 13))] [(.cmp .eq (.bin .mod (.prim .int [(.bin .fdiv (.idx (.var 2) (.lit (.int 5))) (.idx (.var 12) (.var 13)))]) (.lit (.int 2))) (.lit (.int 1)))] [13])]),
.ife (.or [(.not (.call f_law_same [(.call f_show_cards [(.var 11)]), (.call f_law_shown [(.var 11)])])), (.not (.call f_law_same [(.call f_show_cards [(.tup [])]), (.lit (.str ⟨#[45]⟩))]))]) [.ret (.lit (.bool false))] []],
.ret (.lit (.bool true))] }
def F_law_row_of : FDef := { params := 3, slots := 7, body := [.set (.n 3) (.lit (.str ⟨#[48, 49, 50, 51, 52, 53, 54, 55, 56, 57, 97, 98, 99]⟩)),
.ife (.or [(.cmp .ne (.prim .len [(.var 0)]) (.var 2)), (.cmp .ne (.lc (.var 4) (.n 4) .seq [(.var 0)] [(.cmp .nin (.var 4) (.var 3))] [4]) (.lst []))]) [.ret (.lit (.none))] [],
.set (.n 5) (.prim .tuple [(.lc (.meth .index (.var 3) [(.var 4)]) (.n 4) .seq [(.var 0)] [] [4])]),
.ife (.or [(.cmp .ne (.lc (.var 6) (.n 6) .range [(.bin .sub (.var 2) (.lit (.int 1)))] [(.cmp .ge (.idx (.var 5) (.var 6)) (.idx (.var 5) (.bin .add (.var 6) (.lit (.int 1)))))] [6]) (.lst [])), (.cmp .ge (.idx (.var 5) (.neg (.lit (.int 1)))) (.var 1))]) [.ret (.lit (.none))] [],
.ret (.var 5)] }
def F_law_lot_read : FDef := { params := 2, slots := 6, body := [.set (.n 2) (.meth .split (.var 1) [(.lit (.str ⟨#[32]⟩))]),
.own 3 (.lst []),
.for (.n 4) .range [(.prim .len [(.var 2)])] [.set (.n 5) (.call f_law_row_of [(.idx (.var 2) (.var 4)), (.prim .sum [(.var 0)]), (.idx (.var 0) (.lit (.int 0)))]),
.ife (.or [(.cmp .isN (.var 5) (.lit (.none))), (.cmp .eq (.var 4) (.lit (.int 60))), (.and [(.cmp .ne (.var 3) (.lst [])), (.cmp .le (.var 5) (.idx (.var 3) (.neg (.lit (.int 1)))))])]) [.ret (.var 4)] [],
.app 3 (.var 5)],
.ret (.prim .tuple [(.var 3)])] }
def F_law_deal_read : FDef := { params := 2, slots := 8, body := [.set (.n 2) (.meth .split (.var 1) [(.lit (.str ⟨#[32]⟩))]),
.own 3 (.lst []),
.set (.n 4) (.lst []),
.for (.n 5) .range [(.prim .len [(.var 2)])] [.ife (.cmp .gt (.var 5) (.lit (.int 2))) [.ret (.var 5)] [],
.set (.n 6) (.call f_law_row_of [(.idx (.var 2) (.var 5)), (.prim .sum [(.var 0)]), (.idx (.var 0) (.var 5))]),
.ife (.or [(.cmp .isN (.var 6) (.lit (.none))), (.cmp .ne (.lc (.var 7) (.n 7) .seq [(.var 6)] [(.cmp .inn (.var 7) (.var 4))] [7]) (.lst []))]) [.ret (.var 5)] [],
.app 3 (.var 6),
.set (.n 4) (.bin .add (.var 4) (.prim .list [(.var 6)]))],
.ife (.cmp .lt (.prim .len [(.var 2)]) (.lit (.int 3))) [.ret (.prim .len [(.var 2)])] [],
.ret (.prim .tuple [(.var 3)])] }
def F_law_spoilt_k94 : FDef := { params := 4, slots := 9, body := [.own 4 (.prim .list [(.var 0)]),
.set (.n 5) (.bin .mod (.prim .int [(.var 2)]) (.prim .len [(.var 4)])),
.set (.n 6) (.bin .mod (.prim .int [(.bin .fdiv (.var 2) (.lit (.int 64)))]) (.prim .len [(.var 4)])),
.set (.n 7) (.idx (.var 4) (.var 5)),
.set (.n 8) (.lst [(.lit (.str ⟨#[]⟩)), (.lit (.str ⟨#[45]⟩)), (.step (.var 7) (.neg (.lit (.int 1)))), (.bin .add (.var 7) (.idx (.var 7) (.neg (.lit (.int 1))))), (.slc (.var 7) (.lit .none) (.neg (.lit (.int 1)))), (.meth .upper (.var 7) []), (.bin .mul (.lit (.str ⟨#[48]⟩)) (.prim .len [(.var 7)])), (.bin .add (.var 7) (.lit (.str ⟨#[10]⟩))), (.bin .add (.lit (.str w_d)) (.slc (.var 7) (.lit (.int 1)) (.lit .none)))]),
.set (.n 8) (.bin .add (.var 8) (.lst [(.bin .add (.slc (.var 7) (.lit .none) (.neg (.lit (.int 1)))) (.idx (.lit (.str ⟨#[48, 49, 50, 51, 52, 53, 54, 55, 56, 57, 97, 98, 99, 100]⟩)) (.var 3))), (.idx (.var 4) (.var 6)), (.bin .add (.var 7) (.lit (.str ⟨#[32]⟩))), (.bin .add (.lit (.str ⟨#[32]⟩)) (.var 7)), (.bin .add (.bin .add (.var 7) (.lit (.str ⟨#[32, 32]⟩))) (.var 7)), (.bin .add (.slc (.var 7) (.lit .none) (.neg (.lit (.int 1)))) (.lit (.str ⟨#[46]⟩)))])),
.ife (.cmp .lt (.var 1) (.lit (.int 15))) [.seti 4 (.var 5) (.idx (.var 8) (.var 1))] [],
.ife (.cmp .eq (.var 1) (.lit (.int 15))) [.pop 4 [(.var 5)]] [],
.ife (.cmp .eq (.var 1) (.lit (.int 16))) [.seti 4 (.var 5) (.idx (.var 4) (.var 6)),
.seti 4 (.var 6) (.var 7)] [],
.ife (.cmp .eq (.var 1) (.lit (.int 17))) [.app 4 (.var 7)] [],
.ret (.meth .join (.lit (.str ⟨#[32]⟩)) [(.var 4)])] }
def F_law_right_k94 : FDef := { params := 2, slots := 2, body := [.ife (.prim (.isTy .tup) [(.var 1)]) [.ret (.cmp .eq (.var 0) (.var 1))] [],
.ret (.and [(.cmp .eq (.var 0) (.lst [(.var 1), (.lit (.bool true)), (.lit (.bool false))])), (.call f_law_whole [(.idx (.var 0) (.lit (.int 0)))])])] }
def F_law_k94 : FDef := { params := 1, slots := 14, body := [.for (.n 1) .seq [(.bin .add (.slc (.var 0) (.lit .none) (.lit (.int 10))) (.lst [(.call f_law_cell_at [(.var 0), (.lit (.int 10))])]))] [.set (.n 2) (.call f_law_draws_k75 [(.var 1), (.lit (.int 5)), (.lit (.int 720720))]),
.set (.n 3) (.call f_law_setting_k75 [(.bin .mod (.prim .int [(.idx (.var 2) (.lit (.int 0)))]) (.lit (.int 1440)))]),
.set (.n 4) (.call f_law_lot_k75 [(.bin .add (.bin .fdiv (.var 1) (.lit (.int 1440))) (.var 1)), (.var 3), (.lit (.int 8))]),
.set (.n 5) (.lc (.call f_law_shown [(.var 6)]) (.n 6) .seq [(.var 4)] [] [6]),
.set (.n 7) (.call f_law_spoilt_k94 [(.var 5), (.bin .mod (.prim .int [(.idx (.var 2) (.lit (.int 1)))]) (.lit (.int 19))), (.idx (.var 2) (.lit (.int 2))), (.prim .sum [(.var 3)])]),
.ife (.not (.call f_law_right_k94 [(.call f_law_read [(.var 3), (.var 7), (.lit (.bool true))]), (.call f_law_lot_read [(.var 3), (.var 7)])])) [.ret (.lit (.bool false))] [],
.set (.n 8) (.call f_law_deals [(.var 3), (.lst [(.idx (.var 4) (.bin .mod (.prim .int [(.idx (.var 2) (.lit (.int 3)))]) (.prim .len [(.var 4)])))])]),
.set (.n 5) (.lc (.call f_law_shown [(.var 9)]) (.n 9) .seq [(.idx (.var 8) (.bin .mod (.prim .int [(.bin .fdiv (.idx (.var 2) (.lit (.int 3))) (.lit (.int 8)))]) (.prim .len [(.var 8)])))] [] [9]),
.set (.n 7) (.call f_law_spoilt_k94 [(.var 5), (.bin .mod (.prim .int [(.idx (.var 2) (.lit (.int 4)))]) (.lit (.int 19))), (.idx (.var 2) (.lit (.int 2))), (.prim .sum [(.var 3)])]),
.ife (.not (.call f_law_right_k94 [(.call f_law_read [(.var 3), (.var 7), (.lit (.bool false))]), (.call f_law_deal_read [(.var 3), (.var 7)])])) [.ret (.lit (.bool false))] [],
.set (.n 10) (.idx (.lst [(.lit (.none)), (.tup [(.lit (.int 0)), (.lit (.int 1)), (.lit (.int 1))]), (.tup [(.lit (.int 1)), (.lit (.int 1))]), (.tup [(.lit (.int 5)), (.lit (.int 5)), (.lit (.int 4))]), (.lst [(.lit (.int 1)), (.lit (.int 1)), (.lit (.int 1))]), (.tup [(.lit (.int 1)), (.lit (.int 1)), (.lit (.bool true))]), (.lit (.str ⟨#[49, 49, 49]⟩))]) (.bin .mod (.prim .int [(.bin .fdiv (.idx (.var 2) (.lit (.int 3))) (.lit (.int 160)))]) (.lit (.int 7)))),
.for (.n 11) .seq [(.lst [(.var 7), (.lit (.none))])] [.for (.n 12) .seq [(.lst [(.lit (.bool true)), (.lit (.bool false))])] [.ife (.cmp .ne (.call f_law_setting_told [(.var 10), (.var 11), (.var 12)]) (.lst [(.lit (.bool true)), (.lit (.bool false))])) [.ret (.lit (.bool false))] []]],
.set (.n 10) (.idx (.lst [(.lit (.none)), (.lit (.int 7)), (.tup []), (.lst []), (.dct [] []), (.tup [(.lit (.str ⟨#[48, 49, 50]⟩))]), (.lit (.bool true))]) (.bin .mod (.prim .int [(.bin .fdiv (.idx (.var 2) (.lit (.int 4))) (.lit (.int 19)))]) (.lit (.int 7)))),
.ife (.or [(.not (.call f_law_right_k94 [(.call f_law_read [(.var 3), (.var 10), (.lit (.bool true))]), (.lit (.int 0))])), (.not (.call f_law_right_k94 [(.call f_law_read [(.var 3), (.var 10), (.lit (.bool false))]), (.lit (.int 0))]))]) [.ret (.lit (.bool false))] []],
.set (.n 13) (.slc (.call f_law_rows_k75 [(.prim .listRange [(.lit (.int 9))]), (.lit (.int 3))]) (.lit .none) (.lit (.int 61))),
.set (.n 7) (.meth .join (.lit (.str ⟨#[32]⟩)) [(.lc (.call f_law_shown [(.var 6)]) (.n 6) .seq [(.var 13)] [] [6])]),
.ife (.not (.call f_law_right_k94 [(.call f_law_read [(.tup [(.lit (.int 3)), (.lit (.int 3)), (.lit (.int 3))]), (.var 7), (.lit (.bool true))]), (.lit (.int 60))])) [.ret (.lit (.bool false))] [],
.ret (.call f_law_right_k94 [(.call f_law_read [(.tup [(.lit (.int 3)), (.lit (.int 3)), (.lit (.int 3))]), (.slc (.var 7) (.lit .none) (.neg (.lit (.int 4)))), (.lit (.bool true))]), (.prim .tuple [(.slc (.var 13) (.lit .none) (.lit (.int 60)))])])] }
def F_check_cards : FDef := { params := 4, slots := 4, body := [.ife (.or [(.not (.call f_is_row [(.var 1), (.prim .sum [(.var 0)])])), (.cmp .lt (.prim .len [(.var 1)]) (.var 2)), (.cmp .gt (.prim .len [(.var 1)]) (.var 3))]) [.raise 7 [(.lit (.str ⟨#[110, 111, 116, 32, 97, 32, 114, 111, 119, 32, 111, 102, 32, 115, 111, 32, 109, 97, 110, 121, 32, 99, 97, 114, 100, 115]⟩))]] []] }
def F_count_common : FDef := { params := 2, slots := 3, body := [.ret (.prim .len [(.lc (.var 2) (.n 2) .seq [(.var 0)] [(.cmp .inn (.var 2) (.var 1))] [2])])] }
def F_pairs_of : FDef := { params := 1, slots := 5, body := [.own 1 (.lst []),
.for (.t [2, 3]) .enum [(.var 0)] [.for (.n 4) .seq [(.slc (.var 0) (.bin .add (.var 2) (.lit (.int 1))) (.lit .none))] [.app 1 (.tup [(.var 3), (.var 4)])]],
.ret (.var 1)] }
def F_blur : FDef := { params := 2, slots := 5, body := [.exp (.call f_check_lot [(.var 0), (.var 1)]),
.for (.t [2, 3]) .seq [(.call f_pairs_of [(.var 1)])] [.ife (.cmp .ge (.call f_count_common [(.var 2), (.var 3)]) (.bin .sub (.idx (.var 0) (.lit (.int 0))) (.idx (.var 0) (.lit (.int 2))))) [.set (.n 4) (.call f_others [(.var 0), (.bin .add (.var 2) (.var 3))]),
.ret (.tup [(.var 2), (.var 3), (.slc (.var 4) (.lit .none) (.idx (.var 0) (.lit (.int 1))))])] []],
.ret (.lit (.none))] }
def F_is_useful : FDef := { params := 2, slots := 2, body := [.ret (.cmp .isN (.call f_blur [(.var 0), (.var 1)]) (.lit (.none)))] }
def F_check_size : FDef := { params := 3, slots := 3, body := [.ife (.or [(.not (.call f_is_integer [(.var 1)])), (.cmp .lt (.var 1) (.lit (.int 0))), (.cmp .gt (.var 1) (.var 2))]) [.raise 5 [(.lit (.str ⟨#[110, 111, 116, 32, 97, 32, 112, 101, 114, 109, 105, 116, 116, 101, 100, 32, 115, 105, 122, 101]⟩))]] []] }
def F_hands_left : FDef := { params := 2, slots := 3, body := [.ret (.lc (.var 2) (.n 2) .seq [(.var 0)] [(.call f_misses [(.var 2), (.var 1)])] [2])] }
def F_count_with : FDef := { params := 2, slots := 3, body := [.ret (.prim .len [(.lc (.var 2) (.n 2) .seq [(.var 0)] [(.cmp .inn (.var 1) (.var 2))] [2])])] }
def F_least_agreed : FDef := { params := 3, slots := 5, body := [.for (.n 3) .seq [(.call f_others [(.var 0), (.var 2)])] [.set (.n 4) (.call f_count_with [(.var 1), (.var 3)]),
.ife (.cmp .eq (.var 4) (.prim .len [(.var 1)])) [.ret (.tup [(.var 3), (.lit (.bool true))])] [],
.ife (.cmp .eq (.var 4) (.lit (.int 0))) [.ret (.tup [(.var 3), (.lit (.bool false))])] []],
.ret (.lit (.none))] }
def F_leak_of : FDef := { params := 3, slots := 6, body := [.for (.n 3) .seq [(.call f_rows_out_of [(.prim .listRange [(.prim .sum [(.var 0)])]), (.var 2)])] [.set (.n 4) (.call f_hands_left [(.var 1), (.var 3)]),
.ife (.var 4) [.set (.n 5) (.call f_least_agreed [(.var 0), (.var 4), (.var 3)]),
.ife (.cmp .notN (.var 5) (.lit (.none))) [.ret (.tup [(.var 3), (.idx (.var 5) (.lit (.int 0))), (.idx (.var 5) (.lit (.int 1)))])] []] []],
.ret (.lit (.none))] }
def F_leak : FDef := { params := 3, slots := 3, body := [.exp (.call f_check_lot [(.var 0), (.var 1)]),
.ife (.cmp .isN (.var 2) (.lit (.none))) [.set (.n 2) (.idx (.var 0) (.lit (.int 2)))] [],
.exp (.call f_check_size [(.var 0), (.var 2), (.bin .sub (.bin .add (.idx (.var 0) (.lit (.int 1))) (.idx (.var 0) (.lit (.int 2)))) (.lit (.int 1)))]),
.ret (.call f_leak_of [(.var 0), (.var 1), (.var 2)])] }
def F_strength : FDef := { params := 2, slots := 4, body := [.exp (.call f_check_lot [(.var 0), (.var 1)]),
.set (.n 2) (.bin .sub (.bin .add (.idx (.var 0) (.lit (.int 1))) (.idx (.var 0) (.lit (.int 2)))) (.lit (.int 1))),
.for (.n 3) .range [(.bin .add (.var 2) (.lit (.int 1)))] [.ife (.cmp .notN (.call f_leak_of [(.var 0), (.var 1), (.var 3)]) (.lit (.none))) [.ret (.bin .sub (.var 3) (.lit (.int 1)))] []],
.ret (.var 2)] }
def F_is_good : FDef := { params := 2, slots := 2, body := [.ret (.and [(.call f_is_useful [(.var 0), (.var 1)]), (.call f_is_hiding [(.var 0), (.var 1)])])] }
def F_meetings : FDef := { params := 2, slots := 5, body := [.exp (.call f_check_lot [(.var 0), (.var 1)]),
.own 2 (.bin .mul (.lst [(.lit (.int 0))]) (.idx (.var 0) (.lit (.int 0)))),
.for (.t [3, 4]) .seq [(.call f_pairs_of [(.var 1)])] [.augi 2 .add (.call f_count_common [(.var 3), (.var 4)]) (.lit (.int 1))],
.ret (.var 2)] }
def F_good_settings : FDef := { params := 2, slots := 7, body := [.set (.n 2) (.call f_strength [(.var 0), (.var 1)]),
.for (.t [3, 4]) .enum [(.call f_meetings [(.var 0), (.var 1)])] [.ife (.cmp .gt (.var 4) (.lit (.int 0))) [.set (.n 2) (.prim .min [(.var 2), (.bin .sub (.bin .sub (.idx (.var 0) (.lit (.int 0))) (.var 3)) (.lit (.int 1)))])] []],
.set (.n 5) (.bin .add (.idx (.var 0) (.lit (.int 1))) (.idx (.var 0) (.lit (.int 2)))),
.ret (.lc (.tup [(.idx (.var 0) (.lit (.int 0))), (.bin .sub (.var 5) (.var 6)), (.var 6)]) (.n 6) .range [(.var 2), (.lit (.int 0)), (.neg (.lit (.int 1)))] [] [6])] }
def F_floor_of : FDef := { params := 1, slots := 6, body := [.exp (.call f_check_setting [(.var 0)]),
.set (.t [1, 2, 3]) (.var 0),
.set (.n 4) (.bin .add (.bin .add (.var 1) (.var 2)) (.var 3)),
.set (.n 5) (.bin .add (.bin .mul (.lit (.int 2)) (.var 3)) (.lit (.int 2))),
.whl (.cmp .lt (.bin .mul (.var 5) (.prim .min [(.var 1), (.bin .sub (.var 4) (.var 1))])) (.bin .mul (.var 4) (.bin .add (.var 3) (.lit (.int 1))))) [.aug 5 .add (.lit (.int 1))],
.ret (.var 5)] }
def F_most_useful : FDef := { params := 1, slots := 6, body := [.set (.t [1, 2, 3]) (.var 0),
.set (.n 4) (.lit (.int 1)),
.for (.n 5) .range [(.bin .sub (.bin .sub (.var 1) (.var 3)) (.lit (.int 1))), (.neg (.lit (.int 1))), (.neg (.lit (.int 1)))] [.set (.n 4) (.bin .fdiv (.bin .mul (.var 4) (.bin .sub (.bin .add (.bin .add (.var 1) (.var 2)) (.var 3)) (.var 5))) (.bin .sub (.var 1) (.var 5)))],
.ret (.var 4)] }
def F_ceiling_of : FDef := { params := 1, slots := 4, body := [.exp (.call f_check_setting [(.var 0)]),
.set (.t [1, 2, 3]) (.var 0),
.ife (.cmp .le (.var 1) (.var 3)) [.ret (.lit (.int 1))] [],
.ret (.prim .min [(.call f_most_useful [(.var 0)]), (.call f_most_useful [(.tup [(.bin .add (.var 2) (.var 3)), (.bin .sub (.var 1) (.var 3)), (.var 3)])])])] }
def F_card_counts : FDef := { params := 2, slots := 4, body := [.ret (.lc (.prim .len [(.lc (.var 2) (.n 2) .seq [(.var 1)] [(.cmp .inn (.var 3) (.var 2))] [2])]) (.n 3) .range [(.var 0)] [] [3])] }
def F_counts_allow : FDef := { params := 2, slots := 3, body := [.set (.n 2) (.call f_card_counts [(.prim .sum [(.var 0)]), (.var 1)]),
.ret (.and [(.cmp .gt (.prim .min [(.var 2)]) (.idx (.var 0) (.lit (.int 2)))), (.cmp .gt (.bin .sub (.prim .len [(.var 1)]) (.prim .max [(.var 2)])) (.idx (.var 0) (.lit (.int 2))))])] }
def F_shares : FDef := { params := 2, slots := 3, body := [.ret (.prim .len [(.lc (.var 2) (.n 2) .seq [(.var 0)] [(.cmp .inn (.var 2) (.var 1))] [2])])] }
def F_fits_all : FDef := { params := 3, slots := 4, body := [.ret (.prim .all [(.lc (.cmp .lt (.call f_shares [(.var 2), (.var 3)]) (.bin .sub (.idx (.var 0) (.lit (.int 0))) (.idx (.var 0) (.lit (.int 2))))) (.n 3) .seq [(.var 1)] [] [3])])] }
def F_fitting : FDef := { params := 2, slots := 3, body := [.ret (.lc (.var 2) (.n 2) .seq [(.call f_all_hands [(.var 0)])] [(.and [(.cmp .nin (.var 2) (.var 1)), (.call f_fits_all [(.var 0), (.var 1), (.var 2)])])] [2])] }
def F_good_with : FDef := { params := 3, slots := 4, body := [.set (.n 3) (.prim .sorted [(.bin .add (.var 1) (.var 2))]),
.ret (.and [(.cmp .le (.prim .len [(.var 3)]) (.gl 1 c_MOST_HANDS)), (.call f_counts_allow [(.var 0), (.var 3)]), (.call f_is_good [(.var 0), (.prim .tuple [(.var 3)])])])] }
def F_may_add : FDef := { params := 2, slots := 3, body := [.ife (.not (.call f_is_useful [(.var 0), (.var 1)])) [.ret (.lst [])] [],
.ret (.lc (.var 2) (.n 2) .seq [(.call f_fitting [(.var 0), (.var 1)])] [(.call f_good_with [(.var 0), (.var 1), (.tup [(.var 2)])])] [2])] }
def F_without : FDef := { params := 2, slots := 3, body := [.ret (.prim .tuple [(.lc (.var 2) (.n 2) .seq [(.var 0)] [(.cmp .ne (.var 2) (.var 1))] [2])])] }
def F_may_strike : FDef := { params := 2, slots := 3, body := [.exp (.call f_check_lot [(.var 0), (.var 1)]),
.ret (.lc (.var 2) (.n 2) .seq [(.var 1)] [(.and [(.cmp .gt (.prim .len [(.var 1)]) (.lit (.int 1))), (.call f_is_good [(.var 0), (.call f_without [(.var 1), (.var 2)])])])] [2])] }
def F_lowest : FDef := { params := 2, slots := 4, body := [.par 2 3 (.var 1) (.var 0),
.whl (.cmp .gt (.var 3) (.lit (.int 0))) [.par 2 3 (.var 3) (.bin .mod (.prim .int [(.var 2)]) (.var 3))],
.ret (.tup [(.bin .fdiv (.var 0) (.var 2)), (.bin .fdiv (.var 1) (.var 2))])] }
def F_hands_without : FDef := { params := 3, slots := 3, body := [.exp (.call f_check_lot [(.var 0), (.var 1)]),
.exp (.call f_check_cards [(.var 0), (.var 2), (.lit (.int 0)), (.bin .add (.idx (.var 0) (.lit (.int 1))) (.idx (.var 0) (.lit (.int 2))))]),
.ret (.call f_hands_left [(.var 1), (.var 2)])] }
def F_some_hands : FDef := { params := 3, slots := 4, body := [.set (.n 3) (.call f_hands_left [(.var 1), (.var 2)]),
.ife (.not (.var 3)) [.raise 8 [(.lit (.str ⟨#[110, 111, 32, 104, 97, 110, 100, 32, 111, 102, 32, 116, 104, 101, 32, 108, 111, 116, 32, 105, 115, 32, 119, 105, 116, 104, 111, 117, 116, 32, 116, 104, 101, 32, 99, 97, 114, 100, 115]⟩))]] [],
.ret (.var 3)] }
def F_chances : FDef := { params := 3, slots := 8, body := [.exp (.call f_check_lot [(.var 0), (.var 1)]),
.exp (.call f_check_cards [(.var 0), (.var 2), (.idx (.var 0) (.lit (.int 2))), (.idx (.var 0) (.lit (.int 2)))]),
.set (.n 3) (.call f_some_hands [(.var 0), (.var 1), (.var 2)]),
.own 4 (.lst []),
.for (.n 5) .seq [(.call f_others [(.var 0), (.var 2)])] [.set (.t [6, 7]) (.call f_lowest [(.call f_count_with [(.var 3), (.var 5)]), (.prim .len [(.var 3)])]),
.app 4 (.tup [(.var 5), (.var 6), (.var 7)])],
.ret (.var 4)] }
def F_rows_missed : FDef := { params := 3, slots := 6, body := [.own 3 (.lst []),
.for (.n 4) .seq [(.call f_rows_out_of [(.prim .listRange [(.prim .sum [(.var 0)])]), (.var 2)])] [.set (.n 5) (.call f_hands_left [(.var 1), (.var 4)]),
.ife (.var 5) [.app 3 (.tup [(.var 4), (.var 5)])] []],
.ret (.var 3)] }
def F_uneven : FDef := { params := 2, slots := 7, body := [.exp (.call f_check_lot [(.var 0), (.var 1)]),
.par 2 3 (.idx (.var 0) (.lit (.int 0))) (.bin .add (.idx (.var 0) (.lit (.int 0))) (.idx (.var 0) (.lit (.int 1)))),
.for (.t [4, 5]) .seq [(.call f_rows_missed [(.var 0), (.var 1), (.idx (.var 0) (.lit (.int 2)))])] [.for (.n 6) .seq [(.call f_others [(.var 0), (.var 4)])] [.ife (.cmp .ne (.bin .mul (.call f_count_with [(.var 5), (.var 6)]) (.var 3)) (.bin .mul (.prim .len [(.var 5)]) (.var 2))) [.ret (.tup [(.var 4), (.var 6)])] []]],
.ret (.lit (.none))] }
def F_is_even : FDef := { params := 2, slots := 2, body := [.ret (.cmp .isN (.call f_uneven [(.var 0), (.var 1)]) (.lit (.none)))] }
def F_prime_of : FDef := { params := 1, slots := 3, body := [.exp (.call f_check_setting [(.var 0)]),
.set (.n 1) (.prim .sum [(.var 0)]),
.whl (.prim .any [(.lc (.cmp .eq (.bin .mul (.bin .fdiv (.var 1) (.var 2)) (.var 2)) (.var 1)) (.n 2) .range [(.lit (.int 2)), (.var 1)] [] [2])]) [.aug 1 .add (.lit (.int 1))],
.ret (.var 1)] }
def F_powers_of : FDef := { params := 3, slots := 8, body := [.own 3 (.lst []),
.set (.n 4) (.lc (.lit (.int 1)) (.n 5) .seq [(.var 0)] [] [5]),
.for (.n 6) .range [(.var 1)] [.set (.n 4) (.lc (.bin .mod (.prim .int [(.bin .mul (.var 7) (.var 5))]) (.var 2)) (.t [7, 5]) .zip [(.var 4), (.var 0)] [] [7, 5]),
.app 3 (.bin .mod (.prim .sum [(.var 4)]) (.var 2))],
.ret (.prim .tuple [(.var 3)])] }
def F_check_rests : FDef := { params := 2, slots := 4, body := [.set (.n 2) (.call f_prime_of [(.var 0)]),
.ife (.or [(.not (.prim (.isTy .tup) [(.var 1)])), (.cmp .ne (.prim .len [(.var 1)]) (.idx (.var 0) (.lit (.int 2))))]) [.raise 14 [(.lit (.str ⟨#[110, 111, 116, 32, 115, 111, 32, 109, 97, 110, 121, 32, 114, 101, 115, 116, 115, 32, 97, 115, 32, 67, 97, 116, 104, 32, 104, 97, 115, 32, 99, 97, 114, 100, 115]⟩))]] [],
.for (.n 3) .seq [(.var 1)] [.ife (.or [(.not (.call f_is_integer [(.var 3)])), (.cmp .lt (.var 3) (.lit (.int 0))), (.cmp .ge (.var 3) (.var 2))]) [.raise 14 [(.lit (.str ⟨#[110, 111, 116, 32, 97, 32, 114, 101, 115, 116, 32, 98, 121, 32, 116, 104, 101, 32, 112, 114, 105, 109, 101]⟩))]] []]] }
def F_power_lot : FDef := { params := 2, slots := 5, body := [.exp (.call f_check_rests [(.var 0), (.var 1)]),
.set (.n 2) (.call f_prime_of [(.var 0)]),
.set (.n 3) (.lc (.var 4) (.n 4) .seq [(.call f_all_hands [(.var 0)])] [(.cmp .eq (.call f_powers_of [(.var 4), (.idx (.var 0) (.lit (.int 2))), (.var 2)]) (.var 1))] [4]),
.ife (.not (.var 3)) [.raise 16 [(.lit (.str ⟨#[110, 111, 32, 104, 97, 110, 100, 32, 104, 97, 115, 32, 116, 104, 101, 115, 101, 32, 114, 101, 115, 116, 115]⟩))]] [],
.ife (.cmp .gt (.prim .len [(.var 3)]) (.gl 1 c_MOST_HANDS)) [.raise 26 [(.lit (.str ⟨#[116, 111, 111, 32, 109, 97, 110, 121, 32, 104, 97, 110, 100, 115, 32, 104, 97, 118, 101, 32, 116, 104, 101, 115, 101, 32, 114, 101, 115, 116, 115]⟩))]] [],
.ret (.prim .tuple [(.var 3)])] }
def F_hands_or_none : FDef := { params := 1, slots := 1, body := [.ife (.cmp .eq (.var 0) (.lst [])) [.ret (.lit (.str w_none))] [],
.ret (.call f_show_lot [(.var 0)])] }
def F_answer_good : FDef := { params := 2, slots := 11, body := [.set (.n 2) (.call f_blur [(.var 0), (.var 1)]),
.ife (.cmp .notN (.var 2) (.lit (.none))) [.set (.t [3, 4, 5]) (.var 2),
.ret (.fstr [(.lit (.str ⟨#[98, 108, 117, 114, 32]⟩)), (.call f_show_cards [(.var 3)]), (.lit (.str ⟨#[32]⟩)), (.call f_show_cards [(.var 4)]), (.lit (.str ⟨#[32]⟩)), (.call f_show_cards [(.var 5)])])] [],
.set (.n 6) (.call f_leak [(.var 0), (.var 1)]),
.ife (.cmp .isN (.var 6) (.lit (.none))) [.ret (.lit (.str w_good))] [],
.set (.t [7, 8, 9]) (.var 6),
.set (.n 10) (.ife (.var 9) (.lit (.str w_held)) (.lit (.str w_free))),
.ret (.fstr [(.lit (.str ⟨#[108, 101, 97, 107, 32]⟩)), (.call f_show_cards [(.var 7)]), (.lit (.str ⟨#[32]⟩)), (.call f_show_cards [(.tup [(.var 8)])]), (.lit (.str ⟨#[32]⟩)), (.var 10)])] }
def F_answer_floor : FDef := { params := 2, slots := 2, body := [.ret (.prim .str [(.call f_floor_of [(.var 0)])])] }
def F_answer_ceiling : FDef := { params := 2, slots := 2, body := [.ret (.prim .str [(.call f_ceiling_of [(.var 0)])])] }
def F_answer_strength : FDef := { params := 2, slots := 2, body := [.ret (.prim .str [(.call f_strength [(.var 0), (.var 1)])])] }
def F_answer_add : FDef := { params := 2, slots := 2, body := [.ret (.call f_hands_or_none [(.call f_may_add [(.var 0), (.var 1)])])] }
def F_answer_strike : FDef := { params := 2, slots := 2, body := [.ret (.call f_hands_or_none [(.call f_may_strike [(.var 0), (.var 1)])])] }
def F_answer_meet : FDef := { params := 2, slots := 3, body := [.ret (.meth .join (.lit (.str ⟨#[32]⟩)) [(.lc (.prim .str [(.var 2)]) (.n 2) .seq [(.call f_meetings [(.var 0), (.var 1)])] [] [2])])] }
def F_answer_even : FDef := { params := 2, slots := 2, body := [.ret (.ife (.call f_is_even [(.var 0), (.var 1)]) (.lit (.str w_yes)) (.lit (.str w_no)))] }
def F_answer_fits : FDef := { params := 2, slots := 6, body := [.set (.n 2) (.call f_good_settings [(.var 0), (.var 1)]),
.ife (.cmp .eq (.var 2) (.lst [])) [.ret (.lit (.str w_none))] [],
.ret (.meth .join (.lit (.str ⟨#[32]⟩)) [(.lc (.fstr [(.var 3), (.lit (.str ⟨#[44]⟩)), (.var 4), (.lit (.str ⟨#[44]⟩)), (.var 5)]) (.t [3, 4, 5]) .seq [(.var 2)] [] [3, 4, 5])])] }
def F_answer_show : FDef := { params := 2, slots := 2, body := [.ret (.call f_show_lot [(.var 1)])] }
def F_answer_left : FDef := { params := 3, slots := 3, body := [.ret (.call f_hands_or_none [(.call f_hands_without [(.var 0), (.var 1), (.var 2)])])] }
def F_answer_chances : FDef := { params := 3, slots := 7, body := [.own 3 (.lst []),
.for (.t [4, 5, 6]) .seq [(.call f_chances [(.var 0), (.var 1), (.var 2)])] [.app 3 (.fstr [(.call f_show_cards [(.tup [(.var 4)])]), (.lit (.str ⟨#[58]⟩)), (.var 5), (.lit (.str ⟨#[47]⟩)), (.var 6)])],
.ret (.meth .join (.lit (.str ⟨#[32]⟩)) [(.var 3)])] }
def F_number_of : FDef := { params := 1, slots := 2, body := [.ife (.or [(.cmp .eq (.var 0) (.lit (.str ⟨#[]⟩))), (.cmp .gt (.prim .len [(.var 0)]) (.gl 9 c_MOST_DIGITS)), (.and [(.cmp .eq (.idx (.var 0) (.lit (.int 0))) (.lit (.str ⟨#[48]⟩))), (.cmp .gt (.prim .len [(.var 0)]) (.lit (.int 1)))])]) [.raise 30 [(.lit (.str ⟨#[110, 111, 116, 32, 97, 32, 110, 117, 109, 98, 101, 114]⟩))]] [],
.for (.n 1) .seq [(.var 0)] [.ife (.cmp .nin (.var 1) (.lit (.str ⟨#[48, 49, 50, 51, 52, 53, 54, 55, 56, 57]⟩))) [.raise 30 [(.lit (.str ⟨#[110, 111, 116, 32, 97, 32, 110, 117, 109, 98, 101, 114]⟩))]] []],
.ret (.prim .int [(.var 0)])] }
def F_cards_of_word : FDef := { params := 1, slots := 1, body := [.ife (.cmp .eq (.var 0) (.lit (.str ⟨#[45]⟩))) [.ret (.tup [])] [],
.ife (.not (.call f_are_signs [(.var 0)])) [.raise 30 [(.lit (.str ⟨#[110, 111, 32, 99, 97, 114, 100, 115]⟩))]] [],
.ret (.call f_cards_of_signs [(.var 0)])] }
def F_law_power_hands : FDef := { params := 1, slots := 8, body := [.set (.n 1) (.idx (.lst [(.lit (.int 3)), (.lit (.int 3)), (.lit (.int 3)), (.lit (.int 3)), (.lit (.int 5)), (.lit (.int 5)), (.lit (.int 7)), (.lit (.int 7)), (.lit (.int 11)), (.lit (.int 11)), (.lit (.int 11)), (.lit (.int 11)), (.lit (.int 13)), (.lit (.int 13))]) (.prim .sum [(.var 0)])),
.own 2 (.lst []),
.for (.n 3) .seq [(.call f_law_rows_k75 [(.prim .listRange [(.prim .sum [(.var 0)])]), (.idx (.var 0) (.lit (.int 0)))])] [.set (.n 4) (.bin .mul (.lst [(.lit (.int 1))]) (.idx (.var 0) (.lit (.int 0)))),
.own 5 (.lst []),
.for (.n 6) .range [(.idx (.var 0) (.lit (.int 2)))] [.set (.n 4) (.lc (.bin .mul (.idx (.var 4) (.var 7)) (.idx (.var 3) (.var 7))) (.n 7) .range [(.idx (.var 0) (.lit (.int 0)))] [] [7]),
.app 5 (.bin .mod (.prim .int [(.prim .sum [(.var 4)])]) (.var 1))],
.ife (.cmp .eq (.var 5) (.bin .mul (.lst [(.lit (.int 0))]) (.idx (.var 0) (.lit (.int 2))))) [.app 2 (.var 3)] []],
.ret (.prim .tuple [(.var 2)])] }
def F_law_hands : FDef := { params := 1, slots := 2, body := [.ife (.cmp .eq (.prim .list [(.var 0)]) (.lst [])) [.ret (.lit (.str w_none))] [],
.ret (.meth .join (.lit (.str ⟨#[32]⟩)) [(.lc (.call f_law_shown [(.var 1)]) (.n 1) .seq [(.var 0)] [] [1])])] }
def F_law_good : FDef := { params := 2, slots := 4, body := [.set (.n 2) (.call f_blur [(.var 0), (.var 1)]),
.ife (.cmp .notN (.var 2) (.lit (.none))) [.ret (.bin .add (.lit (.str ⟨#[98, 108, 117, 114, 32]⟩)) (.meth .join (.lit (.str ⟨#[32]⟩)) [(.lc (.call f_law_shown [(.var 3)]) (.n 3) .seq [(.var 2)] [] [3])]))] [],
.set (.n 2) (.call f_leak [(.var 0), (.var 1)]),
.ife (.cmp .isN (.var 2) (.lit (.none))) [.ret (.lit (.str w_good))] [],
.ret (.bin .add (.bin .add (.bin .add (.bin .add (.lit (.str ⟨#[108, 101, 97, 107, 32]⟩)) (.call f_law_shown [(.idx (.var 2) (.lit (.int 0)))])) (.lit (.str ⟨#[32]⟩))) (.call f_law_shown [(.tup [(.idx (.var 2) (.lit (.int 1)))])])) (.idx (.lst [(.lit (.str ⟨#[32, 102, 114, 101, 101]⟩)), (.lit (.str ⟨#[32, 104, 101, 108, 100]⟩))]) (.prim .int [(.idx (.var 2) (.lit (.int 2)))])))] }
def F_law_chances : FDef := { params := 3, slots := 8, body := [.ife (.cmp .eq (.lc (.var 3) (.n 3) .seq [(.var 1)] [(.cmp .eq (.lc (.var 4) (.n 4) .seq [(.var 2)] [(.cmp .inn (.var 4) (.var 3))] [4]) (.lst []))] [3]) (.lst [])) [.ret (.lit (.str ⟨#[78, 111, 68, 101, 97, 108]⟩))] [],
.own 5 (.lst []),
.for (.t [4, 6, 7]) .seq [(.call f_chances [(.var 0), (.var 1), (.var 2)])] [.app 5 (.bin .add (.bin .add (.bin .add (.bin .add (.call f_law_shown [(.tup [(.var 4)])]) (.lit (.str ⟨#[58]⟩))) (.prim .str [(.var 6)])) (.lit (.str ⟨#[47]⟩))) (.prim .str [(.var 7)]))],
.ret (.meth .join (.lit (.str ⟨#[32]⟩)) [(.var 5)])] }
def F_law_plain : FDef := { params := 3, slots := 8, body := [.ife (.cmp .eq (.var 2) (.lit (.str w_good))) [.ret (.call f_law_good [(.var 0), (.var 1)])] [],
.ife (.cmp .eq (.var 2) (.lit (.str w_floor))) [.ret (.prim .str [(.call f_floor_of [(.var 0)])])] [],
.ife (.cmp .eq (.var 2) (.lit (.str w_ceiling))) [.ret (.prim .str [(.call f_ceiling_of [(.var 0)])])] [],
.ife (.cmp .eq (.var 2) (.lit (.str w_strength))) [.ret (.prim .str [(.call f_strength [(.var 0), (.var 1)])])] [],
.ife (.cmp .eq (.var 2) (.lit (.str w_add))) [.ret (.call f_law_hands [(.call f_may_add [(.var 0), (.var 1)])])] [],
.ife (.cmp .eq (.var 2) (.lit (.str w_strike))) [.ret (.call f_law_hands [(.call f_may_strike [(.var 0), (.var 1)])])] [],
.ife (.cmp .eq (.var 2) (.lit (.str w_meet))) [.ret (.meth .join (.lit (.str ⟨#[32]⟩)) [(.lc (.prim .str [(.var 3)]) (.n 3) .seq [(.call f_meetings [(.var 0), (.var 1)])] [] [3])])] [],
.ife (.cmp .eq (.var 2) (.lit (.str w_even))) [.ret (.idx (.lst [(.lit (.str w_no)), (.lit (.str w_yes))]) (.prim .int [(.call f_is_even [(.var 0), (.var 1)])]))] [],
.ife (.cmp .eq (.var 2) (.lit (.str w_fits))) [.set (.n 4) (.lc (.bin .add (.bin .add (.bin .add (.bin .add (.prim .str [(.var 5)]) (.lit (.str ⟨#[44]⟩))) (.prim .str [(.var 6)])) (.lit (.str ⟨#[44]⟩))) (.prim .str [(.var 7)])) (.t [5, 6, 7]) .seq [(.call f_good_settings [(.var 0), (.var 1)])] [] [5, 6, 7]),
.ret (.meth .join (.lit (.str ⟨#[32]⟩)) [(.bin .add (.var 4) (.bin .mul (.lst [(.lit (.str w_none))]) (.prim .int [(.cmp .eq (.var 4) (.lst []))])))])] [],
.ret (.call f_law_hands [(.var 1)])] }
def F_law_row : FDef := { params := 3, slots := 6, body := [.own 3 (.prim .listRange [(.prim .sum [(.var 1)])]),
.own 4 (.lst []),
.for (.n 5) .range [(.var 2)] [.apppop 4 3 (.bin .mod (.prim .int [(.var 0)]) (.prim .len [(.var 3)])),
.set (.n 0) (.bin .fdiv (.var 0) (.bin .add (.prim .len [(.var 3)]) (.lit (.int 1))))],
.ret (.prim .tuple [(.prim .sorted [(.var 4)])])] }
def F_law_deed_k95 : FDef := { params := 3, slots := 9, body := [.set (.n 3) (.call f_law_draws_k75 [(.var 2), (.lit (.int 4)), (.lit (.int 720720))]),
.set (.n 4) (.bin .mod (.prim .int [(.idx (.var 3) (.lit (.int 0)))]) (.lit (.int 16))),
.ife (.cmp .lt (.var 4) (.lit (.int 2))) [.set (.n 5) (.call f_law_small_setting [(.idx (.var 3) (.lit (.int 1)))]),
.ife (.cmp .eq (.bin .mod (.prim .int [(.idx (.var 3) (.lit (.int 2)))]) (.lit (.int 2))) (.lit (.int 1))) [.set (.n 5) (.call f_law_setting_k75 [(.bin .mod (.prim .int [(.idx (.var 3) (.lit (.int 1)))]) (.lit (.int 1440)))])] [],
.set (.n 6) (.call f_law_power_hands [(.var 5)]),
.set (.n 7) (.bin .add (.lit (.str ⟨#[115, 101, 116, 116, 105, 110, 103, 32]⟩)) (.meth .join (.lit (.str ⟨#[32]⟩)) [(.lc (.prim .str [(.var 8)]) (.n 8) .seq [(.var 5)] [] [8])])),
.ife (.cmp .eq (.var 6) (.tup [])) [.ret (.tup [(.var 7), (.lit (.str ⟨#[78, 111, 76, 111, 116]⟩)), (.var 0), (.var 1)])] [],
.ife (.cmp .gt (.prim .len [(.var 6)]) (.lit (.int 60))) [.ret (.tup [(.var 7), (.lit (.str ⟨#[84, 111, 111, 77, 97, 110, 121]⟩)), (.var 0), (.var 1)])] [],
.ret (.tup [(.var 7), (.lit (.str w_ok)), (.var 5), (.var 6)])] [],
.ife (.cmp .lt (.var 4) (.lit (.int 4))) [.set (.n 6) (.call f_law_lot_k75 [(.bin .add (.bin .fdiv (.var 2) (.lit (.int 16))) (.var 2)), (.var 0), (.lit (.int 8))]),
.ife (.cmp .eq (.bin .mod (.prim .int [(.idx (.var 3) (.lit (.int 3)))]) (.lit (.int 6))) (.lit (.int 1))) [.set (.n 6) (.prim .tuple [(.slc (.call f_law_rows_k75 [(.prim .listRange [(.prim .sum [(.var 0)])]), (.idx (.var 0) (.lit (.int 0)))]) (.lit .none) (.lit (.int 60)))])] [],
.ret (.tup [(.bin .add (.lit (.str ⟨#[108, 111, 116, 32]⟩)) (.call f_law_hands [(.var 6)])), (.lit (.str w_ok)), (.var 0), (.var 6)])] [],
.ife (.cmp .eq (.var 4) (.lit (.int 4))) [.set (.n 7) (.call f_law_row [(.idx (.var 3) (.lit (.int 1))), (.var 0), (.bin .mod (.prim .int [(.idx (.var 3) (.lit (.int 2)))]) (.bin .add (.bin .add (.idx (.var 0) (.lit (.int 1))) (.idx (.var 0) (.lit (.int 2)))) (.lit (.int 1))))]),
.ret (.tup [(.bin .add (.lit (.str ⟨#[108, 101, 102, 116, 32]⟩)) (.call f_law_shown [(.var 7)])), (.call f_law_hands [(.call f_hands_without [(.var 0), (.var 1), (.var 7)])]), (.var 0), (.var 1)])] [],
.ife (.cmp .eq (.var 4) (.lit (.int 5))) [.set (.n 7) (.call f_law_row [(.idx (.var 3) (.lit (.int 1))), (.var 0), (.idx (.var 0) (.lit (.int 2)))]),
.ret (.tup [(.bin .add (.lit (.str ⟨#[99, 104, 97, 110, 99, 101, 115, 32]⟩)) (.call f_law_shown [(.var 7)])), (.call f_law_chances [(.var 0), (.var 1), (.var 7)]), (.var 0), (.var 1)])] [],
.set (.n 7) (.idx (.lst [(.lit (.str w_good)), (.lit (.str w_floor)), (.lit (.str w_ceiling)), (.lit (.str w_strength)), (.lit (.str w_add)), (.lit (.str w_strike)), (.lit (.str w_meet)), (.lit (.str w_even)), (.lit (.str w_fits)), (.lit (.str w_show))]) (.bin .sub (.var 4) (.lit (.int 6)))),
.ife (.or [(.and [(.cmp .gt (.prim .sum [(.var 0)]) (.lit (.int 8))), (.or [(.cmp .eq (.var 7) (.lit (.str w_add))), (.cmp .eq (.var 7) (.lit (.str w_strike)))])]), (.and [(.cmp .gt (.prim .len [(.var 1)]) (.lit (.int 20))), (.cmp .ne (.var 7) (.lit (.str w_show))), (.cmp .ne (.var 7) (.lit (.str w_meet)))])]) [.set (.n 7) (.lit (.str w_good))] [],
.ret (.tup [(.var 7), (.call f_law_plain [(.var 0), (.var 1), (.var 7)]), (.var 0), (.var 1)])] }
def F_law_due_k96 : FDef := { params := 1, slots := 2, body := [.ret (.lc (.cmp .eq (.var 1) (.var 0)) (.n 1) .range [(.lit (.int 6))] [] [1])] }
def F_law_odd_rows : FDef := { params := 0, slots := 1, body := [.set (.n 0) (.lst [(.lit (.str ⟨#[]⟩)), (.lit (.str ⟨#[32]⟩)), (.lit (.str ⟨#[103, 111, 111, 100, 32]⟩)), (.lit (.str ⟨#[32, 103, 111, 111, 100]⟩)), (.lit (.str ⟨#[71, 111, 111, 100]⟩)), (.lit (.str w_lot)), (.lit (.str ⟨#[108, 111, 116, 115, 32, 48, 49, 50]⟩)), (.lit (.str ⟨#[115, 101, 116, 116, 105, 110, 103, 32, 51, 32, 51]⟩)), (.lit (.str ⟨#[115, 101, 116, 116, 105, 110, 103, 32, 51, 32, 51, 32, 49, 32, 49]⟩)), (.lit (.str ⟨#[115, 101, 116, 116, 105, 110, 103, 32, 51, 32, 51, 32, 45, 49]⟩))]),
.set (.n 0) (.bin .add (.var 0) (.lst [(.lit (.str ⟨#[115, 101, 116, 116, 105, 110, 103, 32, 48, 51, 32, 51, 32, 49]⟩)), (.lit (.str ⟨#[115, 101, 116, 116, 105, 110, 103, 32, 51, 32, 32, 51, 32, 49]⟩)), (.lit (.str ⟨#[115, 101, 116, 116, 105, 110, 103, 32, 97, 32, 98, 32, 99]⟩)), (.lit (.str ⟨#[115, 101, 116, 116, 105, 110, 103, 32, 51, 32, 51, 32, 49, 32]⟩)), (.lit (.str w_left)), (.lit (.str ⟨#[108, 101, 102, 116, 32]⟩)), (.lit (.str ⟨#[108, 101, 102, 116, 32, 48, 32, 49]⟩))])),
.set (.n 0) (.bin .add (.var 0) (.lst [(.lit (.str ⟨#[108, 101, 102, 116, 32, 120]⟩)), (.lit (.str ⟨#[108, 101, 102, 116, 32, 48, 49, 120]⟩)), (.lit (.str ⟨#[108, 101, 102, 116, 32, 45, 49]⟩)), (.lit (.str w_chances)), (.lit (.str ⟨#[99, 104, 97, 110, 99, 101, 115, 32, 100]⟩)), (.lit (.str ⟨#[102, 108, 111, 111, 114, 32, 49]⟩)), (.lit (.str ⟨#[115, 104, 111, 119, 10]⟩)), (.lit (.str ⟨#[115, 104, 111, 119, 32, 103, 111, 111, 100]⟩)), (.lit (.str ⟨#[108, 101, 102, 116, 32, 45, 45]⟩))])),
.set (.n 0) (.bin .add (.var 0) (.lst [(.bin .add (.lit (.str ⟨#[115, 101, 116, 116, 105, 110, 103, 32, 51, 32, 51, 32]⟩)) (.bin .mul (.lit (.str ⟨#[49]⟩)) (.lit (.int 31)))), (.lit (.str w_setting)), (.lit (.str ⟨#[99, 104, 97, 110, 99, 101, 115, 32, 48, 32]⟩)), (.lit (.str ⟨#[101, 118, 101, 110, 63]⟩)), (.lit (.str ⟨#[115, 116, 114, 101, 110, 103, 116, 104, 32, 32]⟩)), (.lit (.str ⟨#[108, 101, 102, 116, 32, 65]⟩)), (.lit (.str ⟨#[97, 100, 100, 32, 48, 49, 50]⟩)), (.lit (.str ⟨#[115, 116, 114, 105, 107, 101, 32, 48]⟩))])),
.ret (.bin .add (.var 0) (.lst [(.lit (.str ⟨#[109, 101, 101, 116, 32, 109, 101, 101, 116]⟩)), (.lit (.str ⟨#[102, 105, 116, 115, 32, 51]⟩)), (.lit (.str ⟨#[99, 101, 105, 108, 105, 110, 103, 10]⟩)), (.lit (.str ⟨#[115, 101, 116, 116, 105, 110, 103, 32, 51, 32, 51, 32, 43, 49]⟩)), (.lit (.str ⟨#[115, 101, 116, 116, 105, 110, 103, 32, 48, 32, 120, 32, 49]⟩)), (.lit (.str ⟨#[108, 101, 102, 116, 32, 48, 44, 49]⟩))]))] }
def F_law_case_k96 : FDef := { params := 2, slots := 7, body := [.set (.n 2) (.bin .mod (.prim .int [(.var 0)]) (.lit (.int 9))),
.set (.n 0) (.bin .fdiv (.var 0) (.lit (.int 9))),
.ife (.cmp .lt (.var 2) (.lit (.int 3))) [.ret (.tup [(.idx (.call f_law_odd_rows []) (.bin .mod (.prim .int [(.var 0)]) (.lit (.int 40)))), (.call f_law_due_k96 [(.lit (.int 0))])])] [],
.ife (.cmp .eq (.var 2) (.lit (.int 3))) [.ret (.tup [(.idx (.lst [(.lit (.none)), (.lit (.int 7)), (.tup [(.lit (.str w_good))]), (.lst []), (.dct [] [])]) (.bin .mod (.prim .int [(.var 0)]) (.lit (.int 5)))), (.call f_law_due_k96 [(.lit (.int 0))])])] [],
.ife (.cmp .eq (.var 2) (.lit (.int 4))) [.set (.n 3) (.lst [(.lit (.str ⟨#[115, 101, 116, 116, 105, 110, 103, 32, 48, 32, 51, 32, 49]⟩)), (.lit (.str ⟨#[115, 101, 116, 116, 105, 110, 103, 32, 53, 32, 53, 32, 52]⟩)), (.bin .add (.lit (.str ⟨#[115, 101, 116, 116, 105, 110, 103, 32, 51, 32, 51, 32]⟩)) (.bin .mul (.lit (.str ⟨#[57]⟩)) (.lit (.int 30)))), (.lit (.str ⟨#[115, 101, 116, 116, 105, 110, 103, 32, 48, 32, 48, 32, 48]⟩)), (.lit (.str ⟨#[115, 101, 116, 116, 105, 110, 103, 32, 49, 52, 32, 49, 32, 49]⟩))]),
.ret (.tup [(.idx (.var 3) (.bin .mod (.prim .int [(.var 0)]) (.lit (.int 5)))), (.call f_law_due_k96 [(.lit (.int 1))])])] [],
.ife (.cmp .eq (.var 2) (.lit (.int 5))) [.set (.n 3) (.lst [(.lit (.str ⟨#[108, 101, 102, 116, 32, 49, 48]⟩)), (.lit (.str ⟨#[108, 101, 102, 116, 32, 48, 48]⟩)), (.lit (.str ⟨#[108, 101, 102, 116, 32, 57]⟩)), (.lit (.str ⟨#[108, 101, 102, 116, 32, 48, 49, 50, 51, 52]⟩)), (.lit (.str ⟨#[108, 101, 102, 116, 32, 99]⟩)), (.lit (.str ⟨#[99, 104, 97, 110, 99, 101, 115, 32, 45]⟩)), (.lit (.str ⟨#[99, 104, 97, 110, 99, 101, 115, 32, 48, 49]⟩)), (.lit (.str ⟨#[99, 104, 97, 110, 99, 101, 115, 32, 48, 48]⟩))]),
.ret (.tup [(.idx (.var 3) (.bin .mod (.prim .int [(.var 0)]) (.lit (.int 8)))), (.call f_law_due_k96 [(.lit (.int 2))])])] [],
.ife (.cmp .eq (.var 2) (.lit (.int 6))) [.ret (.tup [(.idx (.lst [(.lit (.str ⟨#[115, 101, 116, 116, 105, 110, 103, 32, 50, 32, 49, 32, 50]⟩)), (.lit (.str ⟨#[115, 101, 116, 116, 105, 110, 103, 32, 50, 32, 51, 32, 50]⟩)), (.lit (.str ⟨#[115, 101, 116, 116, 105, 110, 103, 32, 50, 32, 52, 32, 51]⟩))]) (.bin .mod (.prim .int [(.var 0)]) (.lit (.int 3)))), (.call f_law_due_k96 [(.lit (.int 4))])])] [],
.ife (.cmp .eq (.var 2) (.lit (.int 7))) [.ret (.tup [(.idx (.lst [(.lit (.str ⟨#[115, 101, 116, 116, 105, 110, 103, 32, 54, 32, 54, 32, 49]⟩)), (.lit (.str ⟨#[115, 101, 116, 116, 105, 110, 103, 32, 55, 32, 53, 32, 49]⟩)), (.lit (.str ⟨#[115, 101, 116, 116, 105, 110, 103, 32, 53, 32, 55, 32, 49]⟩))]) (.bin .mod (.prim .int [(.var 0)]) (.lit (.int 3)))), (.call f_law_due_k96 [(.lit (.int 5))])])] [],
.set (.n 4) (.lc (.var 5) (.n 5) .range [(.lit (.int 7))] [(.cmp .eq (.lc (.var 6) (.n 6) .seq [(.var 1)] [(.cmp .nin (.var 5) (.var 6))] [6]) (.lst []))] [5]),
.ife (.cmp .eq (.var 4) (.lst [])) [.ret (.tup [(.bin .add (.lit (.str ⟨#[99, 104, 97, 110, 99, 101, 115, 32]⟩)) (.bin .mul (.lit (.str ⟨#[48]⟩)) (.lit (.int 8)))), (.call f_law_due_k96 [(.lit (.int 2))])])] [],
.ret (.tup [(.bin .add (.lit (.str ⟨#[99, 104, 97, 110, 99, 101, 115, 32]⟩)) (.call f_law_shown [(.tup [(.idx (.var 4) (.bin .mod (.prim .int [(.var 0)]) (.prim .len [(.var 4)])))])])), (.call f_law_due_k96 [(.lit (.int 3))])])] }
def F_blur_holds : FDef := { params := 3, slots := 6, body := [.exp (.call f_check_lot [(.var 0), (.var 1)]),
.ife (.or [(.not (.prim (.isTy .tup) [(.var 2)])), (.cmp .ne (.prim .len [(.var 2)]) (.lit (.int 3)))]) [.ret (.lit (.bool false))] [],
.set (.t [3, 4, 5]) (.var 2),
.ife (.or [(.not (.call f_is_hand [(.var 0), (.var 3)])), (.not (.call f_is_hand [(.var 0), (.var 4)]))]) [.ret (.lit (.bool false))] [],
.ife (.or [(.cmp .nin (.var 3) (.var 1)), (.cmp .nin (.var 4) (.var 1)), (.cmp .ge (.var 3) (.var 4))]) [.ret (.lit (.bool false))] [],
.ife (.or [(.not (.call f_is_row [(.var 5), (.prim .sum [(.var 0)])])), (.cmp .ne (.prim .len [(.var 5)]) (.idx (.var 0) (.lit (.int 1))))]) [.ret (.lit (.bool false))] [],
.ret (.and [(.call f_misses [(.var 3), (.var 5)]), (.call f_misses [(.var 4), (.var 5)])])] }
def F_leak_holds : FDef := { params := 3, slots := 9, body := [.exp (.call f_check_lot [(.var 0), (.var 1)]),
.ife (.or [(.not (.prim (.isTy .tup) [(.var 2)])), (.cmp .ne (.prim .len [(.var 2)]) (.lit (.int 3)))]) [.ret (.lit (.bool false))] [],
.set (.t [3, 4, 5]) (.var 2),
.set (.n 6) (.prim .sum [(.var 0)]),
.ife (.or [(.not (.call f_is_row [(.var 3), (.var 6)])), (.cmp .ne (.prim .len [(.var 3)]) (.idx (.var 0) (.lit (.int 2))))]) [.ret (.lit (.bool false))] [],
.ife (.or [(.not (.call f_is_integer [(.var 4)])), (.cmp .lt (.var 4) (.lit (.int 0))), (.cmp .ge (.var 4) (.var 6)), (.cmp .inn (.var 4) (.var 3))]) [.ret (.lit (.bool false))] [],
.set (.n 7) (.call f_hands_left [(.var 1), (.var 3)]),
.ife (.not (.var 7)) [.ret (.lit (.bool false))] [],
.set (.n 8) (.call f_count_with [(.var 7), (.var 4)]),
.ife (.cmp .isB (.var 5) (.lit (.bool true))) [.ret (.cmp .eq (.var 8) (.prim .len [(.var 7)]))] [],
.ret (.and [(.cmp .isB (.var 5) (.lit (.bool false))), (.cmp .eq (.var 8) (.lit (.int 0)))])] }
def F_turned : FDef := { params := 2, slots := 7, body := [.exp (.call f_check_setting [(.var 0)]),
.set (.t [2, 3, 4]) (.var 0),
.ife (.cmp .le (.var 2) (.var 4)) [.raise 6 [(.lit (.str ⟨#[116, 104, 101, 32, 115, 101, 116, 116, 105, 110, 103, 32, 104, 97, 115, 32, 110, 111, 32, 116, 117, 114, 110, 101, 100, 32, 111, 110, 101]⟩))]] [],
.exp (.call f_check_lot [(.var 0), (.var 1)]),
.set (.n 5) (.lc (.call f_others [(.var 0), (.var 6)]) (.n 6) .seq [(.var 1)] [] [6]),
.ret (.tup [(.tup [(.bin .add (.var 3) (.var 4)), (.bin .sub (.var 2) (.var 4)), (.var 4)]), (.prim .tuple [(.prim .sorted [(.var 5)])])])] }
def F_known_cards : FDef := { params := 3, slots := 9, body := [.exp (.call f_check_lot [(.var 0), (.var 1)]),
.exp (.call f_check_cards [(.var 0), (.var 2), (.lit (.int 0)), (.bin .add (.idx (.var 0) (.lit (.int 1))) (.idx (.var 0) (.lit (.int 2))))]),
.set (.n 3) (.call f_some_hands [(.var 0), (.var 1), (.var 2)]),
.set (.n 4) (.lc (.tup [(.var 5), (.call f_count_with [(.var 3), (.var 5)])]) (.n 5) .seq [(.call f_others [(.var 0), (.var 2)])] [] [5]),
.set (.n 6) (.lc (.var 5) (.t [5, 7]) .seq [(.var 4)] [(.cmp .eq (.var 7) (.prim .len [(.var 3)]))] [5, 7]),
.set (.n 8) (.lc (.var 5) (.t [5, 7]) .seq [(.var 4)] [(.cmp .eq (.var 7) (.lit (.int 0)))] [5, 7]),
.ret (.tup [(.prim .tuple [(.var 6)]), (.prim .tuple [(.var 8)])])] }
def F_unevenness : FDef := { params := 2, slots := 11, body := [.exp (.call f_check_lot [(.var 0), (.var 1)]),
.par 2 3 (.idx (.var 0) (.lit (.int 0))) (.bin .add (.idx (.var 0) (.lit (.int 0))) (.idx (.var 0) (.lit (.int 1)))),
.par 4 5 (.lit (.int 0)) (.lit (.int 1)),
.for (.t [6, 7]) .seq [(.call f_rows_missed [(.var 0), (.var 1), (.idx (.var 0) (.lit (.int 2)))])] [.set (.n 8) (.bin .mul (.prim .len [(.var 7)]) (.var 3)),
.for (.n 9) .seq [(.call f_others [(.var 0), (.var 6)])] [.set (.n 10) (.prim .abs [(.bin .sub (.bin .mul (.call f_count_with [(.var 7), (.var 9)]) (.var 3)) (.bin .mul (.prim .len [(.var 7)]) (.var 2)))]),
.ife (.cmp .gt (.bin .mul (.var 10) (.var 5)) (.bin .mul (.var 4) (.var 8))) [.par 4 5 (.var 10) (.var 8)] []]],
.ret (.call f_lowest [(.var 4), (.var 5)])] }
def F_balanced : FDef := { params := 3, slots := 6, body := [.exp (.call f_check_lot [(.var 0), (.var 1)]),
.exp (.call f_check_size [(.var 0), (.var 2), (.bin .add (.idx (.var 0) (.lit (.int 1))) (.idx (.var 0) (.lit (.int 2))))]),
.set (.n 3) (.lit (.none)),
.for (.n 4) .seq [(.call f_rows_out_of [(.prim .listRange [(.prim .sum [(.var 0)])]), (.var 2)])] [.set (.n 5) (.prim .len [(.call f_hands_left [(.var 1), (.var 4)])]),
.ife (.cmp .isN (.var 3) (.lit (.none))) [.set (.n 3) (.var 5)] [],
.ife (.cmp .ne (.var 5) (.var 3)) [.ret (.lit (.none))] []],
.ret (.var 3)] }
def F_even_floor : FDef := { params := 1, slots := 2, body := [.exp (.call f_check_setting [(.var 0)]),
.set (.n 1) (.call f_count_rows [(.bin .add (.idx (.var 0) (.lit (.int 1))) (.idx (.var 0) (.lit (.int 2)))), (.bin .add (.idx (.var 0) (.lit (.int 2))) (.lit (.int 1)))]),
.ret (.idx (.call f_lowest [(.var 1), (.call f_count_rows [(.prim .sum [(.var 0)]), (.bin .add (.idx (.var 0) (.lit (.int 2))) (.lit (.int 1)))])]) (.lit (.int 1)))] }
def F_blocks_in : FDef := { params := 2, slots := 8, body := [.set (.n 2) (.call f_groups_of [(.var 0), (.var 1)]),
.own 3 (.dct [] []),
.own 4 (.lst []),
.for (.n 5) .seq [(.var 0)] [.ife (.cmp .nin (.var 5) (.var 3)) [.set (.n 6) (.call f_spread [(.var 2), (.var 1), (.var 5)]),
.for (.n 7) .seq [(.var 6)] [.seti 3 (.var 7) (.lit (.bool true))],
.app 4 (.var 6)] []],
.ret (.var 4)] }
def F_block_of : FDef := { params := 4, slots := 4, body := [.exp (.call f_check_lot [(.var 0), (.var 1)]),
.exp (.call f_check_people [(.var 2)]),
.exp (.call f_check_deal [(.var 0), (.var 3)]),
.exp (.call f_few_deals [(.var 0), (.var 1)]),
.ife (.cmp .nin (.idx (.var 3) (.lit (.int 0))) (.var 1)) [.raise 11 [(.lit (.str ⟨#[116, 104, 101, 32, 104, 97, 110, 100, 32, 111, 102, 32, 116, 104, 101, 32, 100, 101, 97, 108, 32, 105, 115, 32, 110, 111, 116, 32, 105, 110, 32, 116, 104, 101, 32, 108, 111, 116]⟩))]] [],
.ret (.call f_block_in [(.call f_deals_of_lot [(.var 0), (.var 1)]), (.var 2), (.var 3)])] }
def F_count_blocks : FDef := { params := 3, slots := 3, body := [.exp (.call f_check_lot [(.var 0), (.var 1)]),
.exp (.call f_check_people [(.var 2)]),
.ret (.prim .len [(.call f_blocks_in [(.call f_deals_of_lot [(.var 0), (.var 1)]), (.var 2)])])] }
def F_common_cards : FDef := { params := 4, slots := 10, body := [.set (.n 4) (.call f_block_of [(.var 0), (.var 1), (.var 2), (.var 3)]),
.own 5 (.lst []),
.for (.t [6, 7]) .enum [(.gl 3 c_PEOPLE)] [.for (.n 8) .seq [(.idx (.var 3) (.var 6))] [.ife (.prim .all [(.lc (.cmp .inn (.var 8) (.idx (.var 9) (.var 6))) (.n 9) .seq [(.var 4)] [] [9])]) [.app 5 (.tup [(.var 8), (.var 7)])] []]],
.ret (.prim .tuple [(.prim .sorted [(.var 5)])])] }
def F_law_source : FDef := { params := 1, slots := 1, body := [.ret (.lst [(.prim .list [(.var 0)]), (.lit (.int 0)), (.lit (.int 0)), (.lit (.int 0)), (.lit (.int 0))])] }
def F_law_pick : FDef := { params := 2, slots := 5, body := [.seti 0 (.lit (.int 3)) (.bin .add (.idx (.var 0) (.lit (.int 3))) (.lit (.int 1))),
.ife (.and [(.cmp .eq (.idx (.var 0) (.lit (.int 2))) (.lit (.int 0))), (.cmp .lt (.idx (.var 0) (.lit (.int 1))) (.prim .len [(.idx (.var 0) (.lit (.int 0)))]))]) [.set (.n 2) (.idx (.idx (.var 0) (.lit (.int 0))) (.idx (.var 0) (.lit (.int 1)))),
.seti 0 (.lit (.int 1)) (.bin .add (.idx (.var 0) (.lit (.int 1))) (.lit (.int 1))),
.ife (.cmp .ge (.var 2) (.bin .pow (.lit (.int 10)) (.lit (.int 18)))) [.seti 0 (.lit (.int 2)) (.var 2)] [.seti 0 (.lit (.int 4)) (.bin .mod (.prim .int [(.bin .add (.bin .add (.bin .mul (.idx (.var 0) (.lit (.int 4))) (.lit (.int 31))) (.var 2)) (.lit (.int 17)))]) (.lit (.int 1000000007)))]] [],
.ife (.cmp .gt (.idx (.var 0) (.lit (.int 2))) (.lit (.int 0))) [.set (.n 3) (.bin .mod (.prim .int [(.idx (.var 0) (.lit (.int 2)))]) (.var 1)),
.seti 0 (.lit (.int 2)) (.bin .fdiv (.idx (.var 0) (.lit (.int 2))) (.var 1)),
.ret (.var 3)] [],
.set (.n 4) (.bin .add (.bin .add (.idx (.var 0) (.lit (.int 4))) (.bin .mul (.bin .mul (.lit (.int 613)) (.idx (.var 0) (.lit (.int 3)))) (.idx (.var 0) (.lit (.int 3))))) (.lit (.int 29))),
.set (.n 4) (.bin .mod (.prim .int [(.bin .add (.bin .mul (.var 4) (.var 4)) (.bin .mul (.lit (.int 8191)) (.var 4)))]) (.lit (.int 1000003937))),
.set (.n 4) (.bin .mod (.prim .int [(.bin .mul (.bin .add (.var 4) (.idx (.var 0) (.lit (.int 3)))) (.bin .add (.var 4) (.lit (.int 977))))]) (.lit (.int 998244353))),
.ret (.bin .mod (.bin .fdiv (.var 4) (.lit (.int 5))) (.var 1))] }
def F_law_rows_k97 : FDef := { params := 2, slots := 7, body := [.set (.n 2) (.lst [(.tup [])]),
.for (.n 3) .range [(.var 1)] [.own 4 (.lst []),
.for (.n 5) .seq [(.prim .list [(.var 2)])] [.ext 4 (.lc (.bin .add (.var 5) (.tup [(.var 6)])) (.n 6) .seq [(.var 0)] [(.or [(.cmp .eq (.var 5) (.tup [])), (.cmp .gt (.var 6) (.idx (.var 5) (.neg (.lit (.int 1)))))])] [6])],
.frz 4,
.set (.n 2) (.var 4)],
.ret (.var 2)] }
def F_law_setting_k97 : FDef := { params := 2, slots := 5, body := [.set (.n 2) (.call f_law_pick [(.var 0), (.lit (.int 7))]),
.ife (.cmp .lt (.var 2) (.lit (.int 2))) [.ret (.tup [(.lit (.int 3)), (.lit (.int 3)), (.lit (.int 1))])] [],
.ife (.cmp .eq (.var 2) (.lit (.int 2))) [.ret (.tup [(.lit (.int 4)), (.lit (.int 2)), (.lit (.int 1))])] [],
.set (.n 3) (.bin .add (.lit (.int 1)) (.call f_law_pick [(.var 0), (.bin .sub (.var 1) (.lit (.int 2)))])),
.set (.n 4) (.bin .add (.lit (.int 1)) (.call f_law_pick [(.var 0), (.prim .min [(.lit (.int 3)), (.bin .sub (.bin .sub (.var 1) (.var 3)) (.lit (.int 1)))])])),
.ret (.tup [(.var 3), (.bin .add (.lit (.int 1)) (.call f_law_pick [(.var 0), (.bin .sub (.bin .sub (.var 1) (.var 3)) (.var 4))])), (.var 4)])] }
def F_law_fits : FDef := { params := 3, slots := 5, body := [.for (.n 3) .seq [(.var 0)] [.ife (.or [(.cmp .eq (.var 1) (.var 3)), (.cmp .ge (.prim .len [(.lc (.var 4) (.n 4) .seq [(.var 1)] [(.cmp .inn (.var 4) (.var 3))] [4])]) (.var 2))]) [.ret (.lit (.bool false))] []],
.ret (.lit (.bool true))] }
def F_law_lot_k97 : FDef := { params := 2, slots := 14, body := [.set (.n 2) (.prim .sum [(.var 1)]),
.set (.n 3) (.call f_law_rows_k97 [(.prim .listRange [(.var 2)]), (.idx (.var 1) (.lit (.int 0)))]),
.set (.n 4) (.call f_law_pick [(.var 0), (.lit (.int 8))]),
.own 5 (.lst []),
.ife (.cmp .eq (.var 4) (.lit (.int 0))) [.set (.n 6) (.call f_law_pick [(.var 0), (.var 2)]),
.own 5 (.lc (.var 7) (.n 7) .seq [(.var 3)] [(.cmp .eq (.bin .mod (.prim .int [(.prim .sum [(.var 7)])]) (.var 2)) (.var 6))] [7])] [],
.ife (.cmp .eq (.var 4) (.lit (.int 1))) [.set (.n 8) (.idx (.var 3) (.call f_law_pick [(.var 0), (.prim .len [(.var 3)])])),
.for (.n 9) .range [(.var 2)] [.app 5 (.prim .tuple [(.prim .sorted [(.lc (.bin .mod (.prim .int [(.bin .add (.var 10) (.var 9))]) (.var 2)) (.n 10) .seq [(.var 8)] [] [10])])])]] [],
.ife (.cmp .eq (.var 4) (.lit (.int 2))) [.for (.n 11) .range [(.bin .add (.lit (.int 1)) (.call f_law_pick [(.var 0), (.lit (.int 8))]))] [.app 5 (.idx (.var 3) (.call f_law_pick [(.var 0), (.prim .len [(.var 3)])]))]] [],
.ife (.cmp .gt (.var 4) (.lit (.int 2))) [.set (.n 12) (.call f_law_pick [(.var 0), (.prim .len [(.var 3)])]),
.set (.n 9) (.bin .add (.lit (.int 1)) (.call f_law_pick [(.var 0), (.prim .len [(.var 3)])])),
.for (.n 13) .range [(.prim .len [(.var 3)])] [.set (.n 7) (.idx (.var 3) (.bin .mod (.prim .int [(.bin .add (.var 12) (.bin .mul (.var 13) (.var 9)))]) (.prim .len [(.var 3)]))),
.ife (.call f_law_fits [(.var 5), (.var 7), (.bin .sub (.idx (.var 1) (.lit (.int 0))) (.idx (.var 1) (.lit (.int 2))))]) [.app 5 (.var 7)] []]] [],
.ife (.cmp .eq (.var 4) (.lit (.int 5))) [.app 5 (.idx (.var 3) (.call f_law_pick [(.var 0), (.prim .len [(.var 3)])]))] [],
.ife (.and [(.cmp .eq (.var 4) (.lit (.int 6))), (.cmp .gt (.prim .len [(.var 5)]) (.lit (.int 1)))]) [.pop 5 [(.call f_law_pick [(.var 0), (.prim .len [(.var 5)])])]] [],
.frz 5,
.ret (.call f_law_lot_of [(.var 5)])] }
def F_law_lot_of : FDef := { params := 1, slots := 3, body := [.own 1 (.lst []),
.for (.n 2) .seq [(.prim .sorted [(.var 0)])] [.ife (.or [(.cmp .eq (.var 1) (.lst [])), (.cmp .ne (.idx (.var 1) (.neg (.lit (.int 1)))) (.var 2))]) [.app 1 (.var 2)] []],
.ret (.prim .tuple [(.slc (.var 1) (.lit .none) (.lit (.int 60)))])] }
def F_law_k97 : FDef := { params := 1, slots := 11, body := [.set (.n 1) (.call f_law_source [(.var 0)]),
.set (.n 2) (.call f_law_setting_k97 [(.var 1), (.lit (.int 7))]),
.set (.n 3) (.call f_law_lot_k97 [(.var 1), (.var 2)]),
.set (.n 4) (.idx (.var 3) (.call f_law_pick [(.var 1), (.prim .len [(.var 3)])])),
.set (.n 5) (.lc (.var 6) (.n 6) .range [(.prim .sum [(.var 2)])] [(.cmp .nin (.var 6) (.var 4))] [6]),
.set (.n 7) (.tup [(.var 4), (.prim .tuple [(.slc (.var 5) (.lit .none) (.idx (.var 2) (.lit (.int 1))))]), (.prim .tuple [(.slc (.var 5) (.idx (.var 2) (.lit (.int 1))) (.lit .none))])]),
.set (.n 8) (.idx (.lst [(.call f_blur [(.var 2), (.var 3)]), (.call f_leak [(.var 2), (.var 3)]), (.lit (.none))]) (.call f_law_pick [(.var 1), (.lit (.int 3))])),
.set (.n 9) (.bin .add (.bin .add (.call f_law_settings [(.var 2), (.var 3), (.var 7)]) (.call f_law_checks [(.var 2), (.var 3), (.var 8)])) (.call f_law_views [(.var 2), (.var 3), (.var 7)])),
.ret (.cmp .eq (.lc (.var 10) (.n 10) .seq [(.var 9)] [(.cmp .ne (.idx (.var 10) (.lit (.int 0))) (.idx (.var 10) (.lit (.int 1))))] [10]) (.lst []))] }
def F_is_setting_k98 : FDef := { params := 1, slots := 2, body := [.ife (.or [(.not (.prim (.isTy .tup) [(.var 0)])), (.cmp .ne (.prim .len [(.var 0)]) (.lit (.int 3)))]) [.ret (.lit (.bool false))] [],
.for (.n 1) .seq [(.var 0)] [.ife (.or [(.not (.call f_is_integer [(.var 1)])), (.cmp .lt (.var 1) (.lit (.int 1)))]) [.ret (.lit (.bool false))] []],
.ret (.cmp .le (.prim .sum [(.var 0)]) (.gl 12 c_MOST_CARDS_settings))] }
def F_check_setting_k98 : FDef := { params := 1, slots := 1, body := [.ife (.not (.call f_is_setting_k98 [(.var 0)])) [.raise 1 [(.lit (.str ⟨#[110, 111, 116, 32, 97, 32, 115, 101, 116, 116, 105, 110, 103]⟩))]] []] }
def F_is_hand_k98 : FDef := { params := 2, slots := 2, body := [.exp (.call f_check_setting_k98 [(.var 0)]),
.ret (.and [(.call f_is_row [(.var 1), (.prim .sum [(.var 0)])]), (.cmp .eq (.prim .len [(.var 1)]) (.idx (.var 0) (.lit (.int 0))))])] }
def F_check_hand : FDef := { params := 2, slots := 2, body := [.ife (.not (.call f_is_hand_k98 [(.var 0), (.var 1)])) [.raise 2 [(.lit (.str ⟨#[110, 111, 116, 32, 97, 32, 104, 97, 110, 100, 32, 111, 102, 32, 116, 104, 101, 32, 115, 101, 116, 116, 105, 110, 103]⟩))]] []] }
def F_is_lot_k98 : FDef := { params := 2, slots := 5, body := [.exp (.call f_check_setting_k98 [(.var 0)]),
.ife (.or [(.not (.prim (.isTy .tup) [(.var 1)])), (.cmp .lt (.prim .len [(.var 1)]) (.lit (.int 1))), (.cmp .gt (.prim .len [(.var 1)]) (.gl 1 c_MOST_HANDS))]) [.ret (.lit (.bool false))] [],
.for (.n 2) .seq [(.var 1)] [.ife (.not (.call f_is_hand_k98 [(.var 0), (.var 2)])) [.ret (.lit (.bool false))] []],
.for (.t [3, 4]) .zip [(.var 1), (.slc (.var 1) (.lit (.int 1)) (.lit .none))] [.ife (.cmp .ge (.var 3) (.var 4)) [.ret (.lit (.bool false))] []],
.ret (.lit (.bool true))] }
def F_check_lot_k98 : FDef := { params := 2, slots := 2, body := [.ife (.not (.call f_is_lot_k98 [(.var 0), (.var 1)])) [.raise 4 [(.lit (.str ⟨#[110, 111, 116, 32, 97, 32, 108, 111, 116, 32, 111, 102, 32, 116, 104, 101, 32, 115, 101, 116, 116, 105, 110, 103]⟩))]] []] }
def F_count_hands_k98 : FDef := { params := 1, slots := 1, body := [.exp (.call f_check_setting_k98 [(.var 0)]),
.ret (.call f_count_rows [(.prim .sum [(.var 0)]), (.idx (.var 0) (.lit (.int 0)))])] }
def F_all_hands_k98 : FDef := { params := 1, slots := 1, body := [.exp (.call f_check_setting_k98 [(.var 0)]),
.ret (.prim .tuple [(.call f_rows_out_of [(.prim .listRange [(.prim .sum [(.var 0)])]), (.idx (.var 0) (.lit (.int 0)))])])] }
def F_count_deals_k98 : FDef := { params := 1, slots := 1, body := [.exp (.call f_check_setting_k98 [(.var 0)]),
.ret (.bin .mul (.call f_count_hands_k98 [(.var 0)]) (.call f_count_rows [(.bin .add (.idx (.var 0) (.lit (.int 1))) (.idx (.var 0) (.lit (.int 2)))), (.idx (.var 0) (.lit (.int 1)))]))] }
def F_blur_k98 : FDef := { params := 2, slots := 5, body := [.exp (.call f_check_lot_k98 [(.var 0), (.var 1)]),
.for (.t [2, 3]) .seq [(.call f_pairs_of [(.var 1)])] [.ife (.cmp .ge (.call f_count_common [(.var 2), (.var 3)]) (.bin .sub (.idx (.var 0) (.lit (.int 0))) (.idx (.var 0) (.lit (.int 2))))) [.set (.n 4) (.call f_others [(.var 0), (.bin .add (.var 2) (.var 3))]),
.ret (.tup [(.var 2), (.var 3), (.slc (.var 4) (.lit .none) (.idx (.var 0) (.lit (.int 1))))])] []],
.ret (.lit (.none))] }
def F_is_useful_k98 : FDef := { params := 2, slots := 2, body := [.ret (.cmp .isN (.call f_blur_k98 [(.var 0), (.var 1)]) (.lit (.none)))] }
def F_leak_of_k98 : FDef := { params := 3, slots := 6, body := [.for (.n 3) .seq [(.call f_rows_out_of [(.prim .listRange [(.prim .sum [(.var 0)])]), (.var 2)])] [.set (.n 4) (.call f_hands_left [(.var 1), (.var 3)]),
.ife (.var 4) [.set (.n 5) (.call f_least_agreed [(.var 0), (.var 4), (.var 3)]),
.ife (.cmp .notN (.var 5) (.lit (.none))) [.ret (.tup [(.var 3), (.idx (.var 5) (.lit (.int 0))), (.idx (.var 5) (.lit (.int 1)))])] []] []],
.ret (.lit (.none))] }
def F_leak_k98 : FDef := { params := 3, slots := 3, body := [.exp (.call f_check_lot_k98 [(.var 0), (.var 1)]),
.ife (.cmp .isN (.var 2) (.lit (.none))) [.set (.n 2) (.idx (.var 0) (.lit (.int 2)))] [],
.exp (.call f_check_size [(.var 0), (.var 2), (.bin .sub (.bin .add (.idx (.var 0) (.lit (.int 1))) (.idx (.var 0) (.lit (.int 2)))) (.lit (.int 1)))]),
.ret (.call f_leak_of_k98 [(.var 0), (.var 1), (.var 2)])] }
def F_is_good_k98 : FDef := { params := 2, slots := 2, body := [.ret (.and [(.call f_is_useful_k98 [(.var 0), (.var 1)]), (.call f_is_hiding_k98 [(.var 0), (.var 1)])])] }
def F_floor_of_k98 : FDef := { params := 1, slots := 6, body := [.exp (.call f_check_setting_k98 [(.var 0)]),
.set (.t [1, 2, 3]) (.var 0),
.set (.n 4) (.bin .add (.bin .add (.var 1) (.var 2)) (.var 3)),
.set (.n 5) (.bin .add (.bin .mul (.lit (.int 2)) (.var 3)) (.lit (.int 2))),
.whl (.cmp .lt (.bin .mul (.var 5) (.prim .min [(.var 1), (.bin .sub (.var 4) (.var 1))])) (.bin .mul (.var 4) (.bin .add (.var 3) (.lit (.int 1))))) [.aug 5 .add (.lit (.int 1))],
.ret (.var 5)] }
def F_ceiling_of_k98 : FDef := { params := 1, slots := 4, body := [.exp (.call f_check_setting_k98 [(.var 0)]),
.set (.t [1, 2, 3]) (.var 0),
.ife (.cmp .le (.var 1) (.var 3)) [.ret (.lit (.int 1))] [],
.ret (.prim .min [(.call f_most_useful [(.var 0)]), (.call f_most_useful [(.tup [(.bin .add (.var 2) (.var 3)), (.bin .sub (.var 1) (.var 3)), (.var 3)])])])] }
def F_rows_of_cards : FDef := { params := 2, slots := 2, body := [.exp (.call f_check_lot_k98 [(.var 0), (.var 1)]),
.ret (.call f_card_counts [(.prim .sum [(.var 0)]), (.var 1)])] }
def F_check_pool : FDef := { params := 2, slots := 2, body := [.exp (.call f_check_lot_k98 [(.var 0), (.var 1)]),
.ife (.cmp .gt (.prim .len [(.var 1)]) (.gl 13 c_MOST_IN_POOL)) [.raise 26 [(.lit (.str ⟨#[116, 111, 111, 32, 109, 97, 110, 121, 32, 104, 97, 110, 100, 115, 32, 102, 111, 114, 32, 97, 32, 112, 111, 111, 108]⟩))]] []] }
def F_least_good : FDef := { params := 2, slots := 3, body := [.set (.n 2) (.call f_good_within [(.var 0), (.var 1)]),
.ife (.not (.var 2)) [.ret (.lit (.none))] [],
.ret (.idx (.var 2) (.lit (.int 0)))] }
def F_greatest_good : FDef := { params := 2, slots := 4, body := [.set (.n 2) (.call f_good_within [(.var 0), (.var 1)]),
.ife (.not (.var 2)) [.ret (.lit (.none))] [],
.ret (.idx (.lc (.var 3) (.n 3) .seq [(.var 2)] [(.cmp .eq (.prim .len [(.var 3)]) (.prim .len [(.idx (.var 2) (.neg (.lit (.int 1))))]))] [3]) (.lit (.int 0)))] }
def F_can_strike : FDef := { params := 3, slots := 6, body := [.for (.n 3) .range [(.prim .sum [(.var 0)])] [.set (.n 4) (.lc (.var 5) (.n 5) .seq [(.var 1)] [(.and [(.cmp .ne (.var 5) (.var 2)), (.cmp .eq (.cmp .inn (.var 3) (.var 5)) (.cmp .inn (.var 3) (.var 2)))])] [5]),
.ife (.cmp .lt (.prim .len [(.var 4)]) (.idx (.var 0) (.lit (.int 2)))) [.ret (.lit (.bool true))] []],
.ret (.lit (.bool false))] }
def F_none_within : FDef := { params := 2, slots := 3, body := [.ife (.call f_good_within [(.var 0), (.var 1)]) [.ret (.lit (.none))] [],
.ife (.cmp .lt (.call f_ceiling_of_k98 [(.var 0)]) (.call f_floor_of_k98 [(.var 0)])) [.ret (.tup [(.lit (.str w_ceiling))])] [],
.set (.n 2) (.call f_strikings [(.var 0), (.var 1)]),
.ife (.cmp .eq (.prim .len [(.var 2)]) (.prim .len [(.var 1)])) [.ret (.tup [(.lit (.str w_struck)), (.prim .tuple [(.var 2)])])] [],
.ret (.tup [(.lit (.str w_search))])] }
def F_check_renaming : FDef := { params := 2, slots := 3, body := [.ife (.or [(.not (.prim (.isTy .tup) [(.var 1)])), (.cmp .ne (.prim .len [(.var 1)]) (.prim .sum [(.var 0)]))]) [.raise 18 [(.lit (.str ⟨#[110, 111, 116, 32, 97, 115, 32, 109, 97, 110, 121, 32, 112, 108, 97, 99, 101, 115, 32, 97, 115, 32, 99, 97, 114, 100, 115]⟩))]] [],
.for (.n 2) .seq [(.var 1)] [.ife (.not (.call f_is_integer [(.var 2)])) [.raise 18 [(.lit (.str ⟨#[110, 111, 116, 32, 97, 32, 99, 97, 114, 100]⟩))]] []],
.ife (.cmp .ne (.prim .sorted [(.var 1)]) (.prim .listRange [(.prim .sum [(.var 0)])])) [.raise 18 [(.lit (.str ⟨#[110, 111, 116, 32, 101, 97, 99, 104, 32, 99, 97, 114, 100, 32, 111, 110, 99, 101]⟩))]] []] }
def F_moved : FDef := { params := 2, slots := 4, body := [.ret (.prim .tuple [(.prim .sorted [(.lc (.prim .tuple [(.prim .sorted [(.lc (.idx (.var 1) (.var 2)) (.n 2) .seq [(.var 3)] [] [2])])]) (.n 3) .seq [(.var 0)] [] [3])])])] }
def F_renamed : FDef := { params := 3, slots := 3, body := [.exp (.call f_check_lot_k98 [(.var 0), (.var 1)]),
.exp (.call f_check_renaming [(.var 0), (.var 2)]),
.ret (.call f_moved [(.var 1), (.var 2)])] }
def F_check_small : FDef := { params := 1, slots := 1, body := [.ife (.cmp .gt (.prim .sum [(.var 0)]) (.gl 14 c_MOST_CARDS_renaming)) [.raise 26 [(.lit (.str ⟨#[116, 111, 111, 32, 109, 97, 110, 121, 32, 99, 97, 114, 100, 115, 32, 102, 111, 114, 32, 97, 108, 108, 32, 114, 101, 110, 97, 109, 105, 110, 103, 115]⟩))]] []] }
def F_first_alike : FDef := { params := 2, slots := 4, body := [.exp (.call f_check_lot_k98 [(.var 0), (.var 1)]),
.exp (.call f_check_small [(.var 0)]),
.set (.n 2) (.var 1),
.for (.n 3) .seq [(.call f_all_renamings [(.prim .sum [(.var 0)])])] [.set (.n 2) (.prim .min [(.var 2), (.call f_moved [(.var 1), (.var 3)])])],
.ret (.var 2)] }
def F_count_keeping : FDef := { params := 2, slots := 2, body := [.exp (.call f_check_lot_k98 [(.var 0), (.var 1)]),
.exp (.call f_check_small [(.var 0)]),
.ret (.prim .len [(.call f_ways_from [(.var 0), (.var 1), (.var 1)])])] }
def F_ways_from : FDef := { params := 3, slots := 10, body := [.ife (.cmp .ne (.prim .len [(.var 1)]) (.prim .len [(.var 2)])) [.ret (.lst [])] [],
.set (.n 3) (.call f_rows_of_cards [(.var 0), (.var 1)]),
.set (.n 4) (.call f_rows_of_cards [(.var 0), (.var 2)]),
.set (.n 5) (.lst [(.tup [])]),
.for (.n 6) .range [(.prim .sum [(.var 0)])] [.set (.n 7) (.lc (.var 8) (.n 8) .range [(.prim .sum [(.var 0)])] [(.cmp .eq (.idx (.var 4) (.var 8)) (.idx (.var 3) (.var 6)))] [8]),
.set (.n 5) (.lc2 (.bin .add (.var 9) (.tup [(.var 8)])) 9 (.var 5) 8 (.var 7) [(.cmp .nin (.var 8) (.var 9))] [9, 8])],
.ret (.lc (.var 9) (.n 9) .seq [(.var 5)] [(.cmp .eq (.call f_moved [(.var 1), (.var 9)]) (.var 2))] [9])] }
def F_renaming_to : FDef := { params := 3, slots := 4, body := [.exp (.call f_check_lot_k98 [(.var 0), (.var 1)]),
.exp (.call f_check_lot_k98 [(.var 0), (.var 2)]),
.exp (.call f_check_small [(.var 0)]),
.set (.n 3) (.call f_ways_from [(.var 0), (.var 1), (.var 2)]),
.ife (.not (.var 3)) [.ret (.lit (.none))] [],
.ret (.idx (.var 3) (.lit (.int 0)))] }
def F_check_lots : FDef := { params := 2, slots := 3, body := [.exp (.call f_check_setting_k98 [(.var 0)]),
.ife (.or [(.not (.prim (.isTy .lst) [(.var 1)])), (.cmp .gt (.prim .len [(.var 1)]) (.gl 15 c_MOST_LOTS_renaming))]) [.raise 19 [(.lit (.str ⟨#[110, 111, 116, 32, 97, 32, 108, 105, 115, 116, 32, 111, 102, 32, 115, 111, 32, 102, 101, 119, 32, 108, 111, 116, 115]⟩))]] [],
.for (.n 2) .seq [(.var 1)] [.ife (.not (.call f_is_lot_k98 [(.var 0), (.var 2)])) [.raise 19 [(.lit (.str ⟨#[110, 111, 116, 32, 97, 32, 108, 111, 116, 32, 111, 102, 32, 116, 104, 101, 32, 115, 101, 116, 116, 105, 110, 103]⟩))]] []]] }
def F_fitting_k98 : FDef := { params := 2, slots := 3, body := [.ret (.lc (.var 2) (.n 2) .seq [(.call f_all_hands_k98 [(.var 0)])] [(.and [(.cmp .nin (.var 2) (.var 1)), (.call f_fits_all [(.var 0), (.var 1), (.var 2)])])] [2])] }
def F_good_with_k98 : FDef := { params := 3, slots := 4, body := [.set (.n 3) (.prim .sorted [(.bin .add (.var 1) (.var 2))]),
.ret (.and [(.cmp .le (.prim .len [(.var 3)]) (.gl 1 c_MOST_HANDS)), (.call f_counts_allow [(.var 0), (.var 3)]), (.call f_is_good_k98 [(.var 0), (.prim .tuple [(.var 3)])])])] }
def F_may_add_k98 : FDef := { params := 2, slots := 3, body := [.ife (.not (.call f_is_useful_k98 [(.var 0), (.var 1)])) [.ret (.lst [])] [],
.ret (.lc (.var 2) (.n 2) .seq [(.call f_fitting_k98 [(.var 0), (.var 1)])] [(.call f_good_with_k98 [(.var 0), (.var 1), (.tup [(.var 2)])])] [2])] }
def F_may_strike_k98 : FDef := { params := 2, slots := 3, body := [.exp (.call f_check_lot_k98 [(.var 0), (.var 1)]),
.ret (.lc (.var 2) (.n 2) .seq [(.var 1)] [(.and [(.cmp .gt (.prim .len [(.var 1)]) (.lit (.int 1))), (.call f_is_good_k98 [(.var 0), (.call f_without [(.var 1), (.var 2)])])])] [2])] }
def F_least_mends : FDef := { params := 2, slots := 9, body := [.ife (.not (.call f_is_useful_k98 [(.var 0), (.var 1)])) [.raise 20 [(.lit (.str ⟨#[116, 104, 101, 32, 108, 111, 116, 32, 105, 115, 32, 110, 111, 116, 32, 117, 115, 101, 102, 117, 108]⟩))]] [],
.set (.n 2) (.call f_fitting_k98 [(.var 0), (.var 1)]),
.ife (.cmp .gt (.prim .len [(.var 2)]) (.gl 16 c_MOST_FITTING)) [.raise 26 [(.lit (.str ⟨#[116, 111, 111, 32, 109, 97, 110, 121, 32, 104, 97, 110, 100, 115, 32, 102, 105, 116, 32, 116, 104, 101, 32, 108, 111, 116]⟩))]] [],
.ife (.call f_is_good_k98 [(.var 0), (.var 1)]) [.ret (.lst [(.tup [])])] [],
.set (.n 3) (.lc (.tup [(.var 4)]) (.n 4) .seq [(.var 2)] [(.call f_good_with_k98 [(.var 0), (.var 1), (.tup [(.var 4)])])] [4]),
.ife (.var 3) [.ret (.var 3)] [],
.set (.n 5) (.lc2 (.tup [(.var 6), (.var 7)]) 6 (.var 2) 7 (.var 2) [(.cmp .lt (.var 6) (.var 7))] [6, 7]),
.ret (.lc (.var 8) (.n 8) .seq [(.var 5)] [(.call f_good_with_k98 [(.var 0), (.var 1), (.var 8)])] [8])] }
def F_parts_of : FDef := { params := 2, slots := 4, body := [.ife (.not (.call f_is_good_k98 [(.var 0), (.var 1)])) [.raise 21 [(.lit (.str ⟨#[116, 104, 101, 32, 108, 111, 116, 32, 105, 115, 32, 110, 111, 116, 32, 103, 111, 111, 100]⟩))]] [],
.ife (.cmp .gt (.prim .len [(.var 1)]) (.gl 13 c_MOST_IN_POOL)) [.raise 26 [(.lit (.str ⟨#[116, 111, 111, 32, 109, 97, 110, 121, 32, 104, 97, 110, 100, 115, 32, 102, 111, 114, 32, 97, 108, 108, 32, 112, 97, 114, 116, 115]⟩))]] [],
.set (.n 2) (.call f_good_within [(.var 0), (.var 1)]),
.ret (.prim .sorted [(.lc (.var 3) (.n 3) .seq [(.var 2)] [(.not (.call f_has_within [(.var 2), (.var 3)]))] [3])])] }
def F_has_within : FDef := { params := 2, slots := 4, body := [.for (.n 2) .seq [(.var 0)] [.ife (.and [(.cmp .lt (.prim .len [(.var 2)]) (.prim .len [(.var 1)])), (.prim .all [(.lc (.cmp .inn (.var 3) (.var 1)) (.n 3) .seq [(.var 2)] [] [3])])]) [.ret (.lit (.bool true))] []],
.ret (.lit (.bool false))] }
def F_is_rule : FDef := { params := 2, slots := 6, body := [.exp (.call f_check_setting_k98 [(.var 0)]),
.ife (.not (.prim (.isTy .tup) [(.var 1)])) [.ret (.lit (.bool false))] [],
.own 2 (.lst []),
.for (.n 3) .seq [(.var 1)] [.ife (.not (.call f_is_lot_k98 [(.var 0), (.var 3)])) [.ret (.lit (.bool false))] [],
.ext 2 (.var 3)],
.for (.t [4, 5]) .zip [(.var 1), (.slc (.var 1) (.lit (.int 1)) (.lit .none))] [.ife (.cmp .ge (.var 4) (.var 5)) [.ret (.lit (.bool false))] []],
.ret (.cmp .eq (.prim .sorted [(.var 2)]) (.prim .list [(.call f_all_hands_k98 [(.var 0)])]))] }
def F_check_rule : FDef := { params := 2, slots := 2, body := [.ife (.not (.call f_is_rule [(.var 0), (.var 1)])) [.raise 13 [(.lit (.str ⟨#[110, 111, 116, 32, 97, 32, 114, 117, 108, 101, 32, 111, 102, 32, 116, 104, 101, 32, 115, 101, 116, 116, 105, 110, 103]⟩))]] []] }
def F_lot_by : FDef := { params := 3, slots := 5, body := [.exp (.call f_check_rule [(.var 0), (.var 1)]),
.exp (.call f_check_hand [(.var 0), (.var 2)]),
.set (.n 3) (.idx (.var 1) (.lit (.int 0))),
.for (.n 4) .seq [(.var 1)] [.ife (.cmp .inn (.var 2) (.var 4)) [.set (.n 3) (.var 4)] []],
.ret (.var 3)] }
def F_bad_lots : FDef := { params := 2, slots := 4, body := [.exp (.call f_check_rule [(.var 0), (.var 1)]),
.ret (.lc (.var 2) (.t [2, 3]) .enum [(.var 1)] [(.not (.call f_is_good_k98 [(.var 0), (.var 3)]))] [2, 3])] }
def F_prime_of_k98 : FDef := { params := 1, slots := 3, body := [.exp (.call f_check_setting_k98 [(.var 0)]),
.set (.n 1) (.prim .sum [(.var 0)]),
.whl (.prim .any [(.lc (.cmp .eq (.bin .mul (.bin .fdiv (.var 1) (.var 2)) (.var 2)) (.var 1)) (.n 2) .range [(.lit (.int 2)), (.var 1)] [] [2])]) [.aug 1 .add (.lit (.int 1))],
.ret (.var 1)] }
def F_check_rests_k98 : FDef := { params := 2, slots := 4, body := [.set (.n 2) (.call f_prime_of_k98 [(.var 0)]),
.ife (.or [(.not (.prim (.isTy .tup) [(.var 1)])), (.cmp .ne (.prim .len [(.var 1)]) (.idx (.var 0) (.lit (.int 2))))]) [.raise 14 [(.lit (.str ⟨#[110, 111, 116, 32, 115, 111, 32, 109, 97, 110, 121, 32, 114, 101, 115, 116, 115, 32, 97, 115, 32, 67, 97, 116, 104, 32, 104, 97, 115, 32, 99, 97, 114, 100, 115]⟩))]] [],
.for (.n 3) .seq [(.var 1)] [.ife (.or [(.not (.call f_is_integer [(.var 3)])), (.cmp .lt (.var 3) (.lit (.int 0))), (.cmp .ge (.var 3) (.var 2))]) [.raise 14 [(.lit (.str ⟨#[110, 111, 116, 32, 97, 32, 114, 101, 115, 116, 32, 98, 121, 32, 116, 104, 101, 32, 112, 114, 105, 109, 101]⟩))]] []]] }
def F_rests_of : FDef := { params := 2, slots := 2, body := [.exp (.call f_check_hand [(.var 0), (.var 1)]),
.ret (.call f_powers_of [(.var 1), (.idx (.var 0) (.lit (.int 2))), (.call f_prime_of_k98 [(.var 0)])])] }
def F_power_lot_k98 : FDef := { params := 2, slots := 5, body := [.exp (.call f_check_rests_k98 [(.var 0), (.var 1)]),
.set (.n 2) (.call f_prime_of_k98 [(.var 0)]),
.set (.n 3) (.lc (.var 4) (.n 4) .seq [(.call f_all_hands_k98 [(.var 0)])] [(.cmp .eq (.call f_powers_of [(.var 4), (.idx (.var 0) (.lit (.int 2))), (.var 2)]) (.var 1))] [4]),
.ife (.not (.var 3)) [.raise 16 [(.lit (.str ⟨#[110, 111, 32, 104, 97, 110, 100, 32, 104, 97, 115, 32, 116, 104, 101, 115, 101, 32, 114, 101, 115, 116, 115]⟩))]] [],
.ife (.cmp .gt (.prim .len [(.var 3)]) (.gl 1 c_MOST_HANDS)) [.raise 26 [(.lit (.str ⟨#[116, 111, 111, 32, 109, 97, 110, 121, 32, 104, 97, 110, 100, 115, 32, 104, 97, 118, 101, 32, 116, 104, 101, 115, 101, 32, 114, 101, 115, 116, 115]⟩))]] [],
.ret (.prim .tuple [(.var 3)])] }
def F_reads : FDef := { params := 3, slots := 5, body := [.exp (.call f_check_rests_k98 [(.var 0), (.var 1)]),
.exp (.call f_check_cards [(.var 0), (.var 2), (.idx (.var 0) (.lit (.int 1))), (.idx (.var 0) (.lit (.int 1)))]),
.set (.n 3) (.call f_prime_of_k98 [(.var 0)]),
.for (.n 4) .seq [(.call f_rows_out_of [(.call f_others [(.var 0), (.var 2)]), (.idx (.var 0) (.lit (.int 0)))])] [.ife (.cmp .eq (.call f_powers_of [(.var 4), (.idx (.var 0) (.lit (.int 2))), (.var 3)]) (.var 1)) [.ret (.var 4)] []],
.ret (.lit (.none))] }
def F_moved_by : FDef := { params := 3, slots := 5, body := [.ret (.prim .tuple [(.prim .sorted [(.lc (.prim .tuple [(.prim .sorted [(.lc (.bin .mod (.bin .add (.prim .int [(.var 3)]) (.var 1)) (.var 2)) (.n 3) .seq [(.var 4)] [] [3])])]) (.n 4) .seq [(.var 0)] [] [4])])])] }
def F_shifted : FDef := { params := 3, slots := 4, body := [.exp (.call f_check_lot_k98 [(.var 0), (.var 1)]),
.set (.n 3) (.prim .sum [(.var 0)]),
.ife (.or [(.not (.call f_is_integer [(.var 2)])), (.cmp .lt (.var 2) (.lit (.int 0))), (.cmp .ge (.var 2) (.var 3))]) [.raise 15 [(.lit (.str ⟨#[110, 111, 116, 32, 97, 32, 110, 117, 109, 98, 101, 114, 32, 98, 101, 108, 111, 119, 32, 116, 104, 101, 32, 110, 117, 109, 98, 101, 114, 32, 111, 102, 32, 97, 108, 108, 32, 99, 97, 114, 100, 115]⟩))]] [],
.ret (.call f_moved_by [(.var 1), (.var 2), (.var 3)])] }
def F_is_weighted : FDef := { params := 2, slots := 2, body := [.ife (.or [(.not (.prim (.isTy .tup) [(.var 1)])), (.cmp .ne (.prim .len [(.var 1)]) (.lit (.int 2))), (.not (.call f_is_lot_k98 [(.var 0), (.idx (.var 1) (.lit (.int 0)))]))]) [.ret (.lit (.bool false))] [],
.ret (.and [(.call f_is_integer [(.idx (.var 1) (.lit (.int 1)))]), (.chain .le .le (.lit (.int 1)) (.idx (.var 1) (.lit (.int 1))) (.gl 19 c_MOST_WEIGHT))])] }
def F_check_choosing : FDef := { params := 2, slots := 2, body := [.ife (.not (.call f_is_choosing [(.var 0), (.var 1)])) [.raise 17 [(.lit (.str ⟨#[110, 111, 116, 32, 97, 32, 99, 104, 111, 111, 115, 105, 110, 103, 32, 111, 102, 32, 116, 104, 101, 32, 115, 101, 116, 116, 105, 110, 103]⟩))]] []] }
def F_choosing_of : FDef := { params := 2, slots := 3, body := [.exp (.call f_check_rule [(.var 0), (.var 1)]),
.ife (.cmp .gt (.prim .len [(.var 1)]) (.gl 17 c_MOST_LOTS_ways)) [.raise 26 [(.lit (.str ⟨#[116, 111, 111, 32, 109, 97, 110, 121, 32, 108, 111, 116, 115, 32, 102, 111, 114, 32, 97, 32, 99, 104, 111, 111, 115, 105, 110, 103]⟩))]] [],
.ret (.prim .tuple [(.lc (.tup [(.var 2), (.lit (.int 1))]) (.n 2) .seq [(.var 1)] [] [2])])] }
def F_weight_of : FDef := { params := 2, slots := 4, body := [.ret (.prim .sum [(.lc (.var 3) (.t [2, 3]) .seq [(.var 0)] [(.cmp .inn (.var 1) (.var 2))] [2, 3])])] }
def F_says : FDef := { params := 3, slots := 6, body := [.exp (.call f_check_choosing [(.var 0), (.var 1)]),
.exp (.call f_check_hand [(.var 0), (.var 2)]),
.set (.n 3) (.call f_weight_of [(.var 1), (.var 2)]),
.ret (.lc (.bin .add (.tup [(.var 4)]) (.call f_lowest [(.var 5), (.var 3)])) (.t [4, 5]) .seq [(.var 1)] [(.cmp .inn (.var 2) (.var 4))] [4, 5])] }
def F_likeliest : FDef := { params := 2, slots := 6, body := [.set (.n 2) (.lit (.int 0)),
.for (.n 3) .seq [(.var 1)] [.set (.n 4) (.prim .len [(.lc (.var 5) (.n 5) .seq [(.var 0)] [(.cmp .inn (.var 3) (.var 5))] [5])]),
.set (.n 2) (.prim .max [(.var 2), (.var 4), (.bin .sub (.prim .len [(.var 0)]) (.var 4))])],
.ret (.var 2)] }
def F_alone : FDef := { params := 2, slots := 2, body := [.ife (.cmp .eq (.prim .len [(.var 0)]) (.lit (.int 1))) [.ret (.lit (.int 1))] [],
.ret (.lit (.int 0))] }
def F_agreed : FDef := { params := 2, slots := 2, body := [.ife (.cmp .eq (.call f_likeliest [(.var 0), (.var 1)]) (.prim .len [(.var 0)])) [.ret (.prim .len [(.var 0)])] [],
.ret (.lit (.int 0))] }
def F_law_draws_k98 : FDef := { params := 2, slots := 6, body := [.set (.n 2) (.prim .int [(.var 0)]),
.ife (.cmp .lt (.var 2) (.bin .pow (.lit (.int 10)) (.lit (.int 18)))) [.set (.n 2) (.lit (.int 0))] [],
.own 3 (.lst []),
.for (.n 4) .range [(.var 1)] [.ife (.cmp .gt (.var 2) (.lit (.int 0))) [.app 3 (.bin .mod (.var 2) (.lit (.int 2003))),
.set (.n 2) (.bin .fdiv (.var 2) (.lit (.int 2003)))] [.set (.n 5) (.bin .add (.bin .add (.bin .mul (.bin .mod (.prim .int [(.var 0)]) (.lit (.int 1000000007))) (.lit (.int 31))) (.bin .mul (.lit (.int 7919)) (.var 4))) (.lit (.int 104729))),
.set (.n 5) (.bin .mod (.prim .int [(.bin .mul (.var 5) (.bin .add (.bin .add (.var 5) (.lit (.int 12345))) (.bin .mul (.lit (.int 977)) (.var 4))))]) (.lit (.int 2147483647))),
.app 3 (.bin .mod (.bin .mod (.prim .int [(.bin .mul (.var 5) (.var 5))]) (.lit (.int 2147483629))) (.lit (.int 2003)))]],
.ret (.var 3)] }
def F_law_rows_k98 : FDef := { params := 2, slots := 7, body := [.set (.n 2) (.lst [(.tup [])]),
.for (.n 3) .range [(.var 1)] [.own 4 (.lst []),
.for (.n 5) .seq [(.prim .list [(.var 2)])] [.ext 4 (.lc (.bin .add (.var 5) (.tup [(.var 6)])) (.n 6) .seq [(.var 0)] [(.or [(.cmp .eq (.var 5) (.tup [])), (.cmp .gt (.var 6) (.idx (.var 5) (.neg (.lit (.int 1)))))])] [6])],
.frz 4,
.set (.n 2) (.var 4)],
.ret (.var 2)] }
def F_law_setting_k98 : FDef := { params := 2, slots := 4, body := [.set (.n 2) (.bin .add (.lit (.int 1)) (.bin .mod (.idx (.var 0) (.lit (.int 0))) (.bin .sub (.var 1) (.lit (.int 2))))),
.set (.n 3) (.bin .add (.lit (.int 1)) (.bin .mod (.idx (.var 0) (.lit (.int 1))) (.bin .sub (.bin .sub (.var 1) (.lit (.int 1))) (.var 2)))),
.ret (.tup [(.var 2), (.var 3), (.bin .add (.lit (.int 1)) (.bin .mod (.idx (.var 0) (.lit (.int 2))) (.bin .sub (.bin .sub (.var 1) (.var 2)) (.var 3))))])] }
def F_law_order_k98 : FDef := { params := 2, slots := 4, body := [.own 2 (.lst []),
.for (.n 3) .range [(.var 1)] [.ins 2 (.bin .mod (.idx (.var 0) (.var 3)) (.bin .add (.prim .len [(.var 2)]) (.lit (.int 1)))) (.var 3)],
.ret (.var 2)] }
def F_law_placed_ways : FDef := { params := 5, slots := 8, body := [.set (.n 5) (.lst [(.call f_is_rule [(.var 0), (.tup [(.var 1)])]), (.call f_lot_by [(.var 0), (.tup [(.var 1)]), (.var 2)]), (.call f_bad_lots [(.var 0), (.tup [(.var 1)])]), (.call f_prime_of_k98 [(.var 0)]), (.call f_rests_of [(.var 0), (.var 2)])]),
.set (.n 6) (.call f_rests_of [(.var 0), (.var 2)]),
.set (.n 5) (.bin .add (.var 5) (.lst [(.call f_power_lot_k98 [(.var 0), (.var 6)]), (.call f_reads [(.var 0), (.var 6), (.var 4)]), (.call f_power_rule [(.var 0)]), (.call f_shifted [(.var 0), (.tup [(.var 2)]), (.var 3)])])),
.set (.n 7) (.tup [(.tup [(.var 1), (.lit (.int 2))])]),
.set (.n 5) (.bin .add (.var 5) (.lst [(.call f_shift_rule [(.var 0), (.tup [(.var 2)])]), (.call f_is_choosing [(.var 0), (.var 7)]), (.call f_choosing_of [(.var 0), (.tup [(.var 1)])]), (.call f_says [(.var 0), (.var 7), (.var 2)])])),
.ret (.bin .add (.var 5) (.lst [(.call f_guess [(.var 0), (.var 7)]), (.call f_bill_knows [(.var 0), (.var 7)]), (.call f_cath_knows [(.var 0), (.var 7)])]))] }
def F_law_placed_lots : FDef := { params := 4, slots := 5, body := [.set (.n 4) (.lst [(.call f_floor_of_k98 [(.var 0)]), (.call f_ceiling_of_k98 [(.var 0)]), (.call f_rows_of_cards [(.var 0), (.var 1)]), (.call f_good_within [(.var 0), (.var 1)]), (.call f_least_good [(.var 0), (.var 1)])]),
.set (.n 4) (.bin .add (.var 4) (.lst [(.call f_greatest_good [(.var 0), (.var 1)]), (.call f_good_sizes [(.var 0), (.var 1)]), (.call f_none_within [(.var 0), (.var 1)]), (.call f_renamed [(.var 0), (.var 1), (.var 2)])])),
.set (.n 4) (.bin .add (.var 4) (.lst [(.call f_first_alike [(.var 0), (.var 1)]), (.call f_count_keeping [(.var 0), (.var 1)]), (.call f_renaming_to [(.var 0), (.var 1), (.var 3)])])),
.ret (.bin .add (.var 4) (.lst [(.call f_kinds_of [(.var 0), (.lst [(.var 1), (.var 3)])]), (.call f_may_add_k98 [(.var 0), (.var 1)]), (.call f_may_strike_k98 [(.var 0), (.var 1)])]))] }
def F_law_draws_k99 : FDef := { params := 3, slots := 7, body := [.set (.n 3) (.bin .mod (.prim .int [(.bin .sub (.var 0) (.bin .pow (.lit (.int 10)) (.lit (.int 18))))]) (.bin .mul (.bin .pow (.lit (.int 10)) (.lit (.int 45))) (.bin .pow (.lit (.int 10)) (.lit (.int 45))))),
.own 4 (.lst []),
.for (.n 5) .range [(.var 1)] [.set (.n 6) (.bin .mod (.prim .int [(.bin .add (.bin .mul (.var 0) (.lit (.int 69621))) (.bin .mul (.bin .add (.bin .mul (.lit (.int 2)) (.var 5)) (.lit (.int 1))) (.lit (.int 48271))))]) (.lit (.int 2147483587))),
.set (.n 6) (.bin .mod (.prim .int [(.bin .add (.bin .mul (.var 6) (.var 6)) (.bin .mul (.lit (.int 7)) (.var 5)))]) (.lit (.int 2147483579))),
.set (.n 6) (.bin .add (.bin .mul (.bin .mod (.prim .int [(.bin .add (.bin .add (.bin .mul (.var 6) (.lit (.int 40014))) (.var 0)) (.var 5))]) (.lit (.int 2147483563))) (.lit (.int 1000003))) (.bin .fdiv (.var 6) (.lit (.int 5)))),
.ife (.cmp .ge (.var 0) (.bin .pow (.lit (.int 10)) (.lit (.int 18)))) [.set (.n 6) (.var 3),
.set (.n 3) (.bin .fdiv (.var 3) (.var 2))] [],
.app 4 (.bin .mod (.prim .int [(.var 6)]) (.var 2))],
.ret (.var 4)] }
def F_law_rows_k99 : FDef := { params := 2, slots := 5, body := [.set (.n 2) (.lst [(.tup [])]),
.for (.n 3) .seq [(.var 0)] [.set (.n 2) (.bin .add (.var 2) (.lc (.bin .add (.var 4) (.tup [(.var 3)])) (.n 4) .seq [(.var 2)] [(.cmp .lt (.prim .len [(.var 4)]) (.var 1))] [4]))],
.ret (.prim .sorted [(.lc (.var 4) (.n 4) .seq [(.var 2)] [(.cmp .eq (.prim .len [(.var 4)]) (.var 1))] [4])])] }
def F_law_choices : FDef := { params := 1, slots := 6, body := [.own 1 (.lst []),
.for (.n 2) .seq [(.var 0)] [.set (.n 3) (.lc (.var 4) (.n 4) .range [(.lit (.int 7))] [(.cmp .nin (.var 4) (.var 2))] [4]),
.for (.n 5) .seq [(.call f_law_rows_k99 [(.var 3), (.lit (.int 3))])] [.app 1 (.tup [(.var 2), (.var 5), (.prim .tuple [(.lc (.var 4) (.n 4) .seq [(.var 3)] [(.cmp .nin (.var 4) (.var 5))] [4])])])]],
.ret (.var 1)] }
def F_law_k99 : FDef := { params := 1, slots := 11, body := [.set (.n 1) (.tup [(.lit (.int 3)), (.lit (.int 3)), (.lit (.int 1))]),
.ife (.not (.call f_law_errors_apart [])) [.ret (.lit (.bool false))] [],
.for (.n 2) .seq [(.bin .add (.slc (.var 0) (.lit .none) (.lit (.int 5))) (.lst [(.call f_law_cell_at [(.var 0), (.lit (.int 5))])]))] [.set (.n 3) (.call f_law_draws_k99 [(.var 2), (.lit (.int 4)), (.lit (.int 5040))]),
.set (.n 4) (.lc (.var 5) (.n 5) .seq [(.call f_law_rows_k99 [(.prim .listRange [(.lit (.int 7))]), (.lit (.int 3))])] [(.cmp .eq (.bin .mod (.prim .int [(.prim .sum [(.var 5)])]) (.lit (.int 7))) (.bin .mod (.prim .int [(.idx (.var 3) (.lit (.int 0)))]) (.lit (.int 7))))] [5]),
.set (.n 4) (.prim .tuple [(.slc (.var 4) (.bin .mod (.prim .int [(.bin .fdiv (.idx (.var 3) (.lit (.int 0))) (.lit (.int 7)))]) (.lit (.int 2))) (.lit .none))]),
.set (.n 6) (.call f_law_choices [(.var 4)]),
.set (.n 7) (.idx (.var 6) (.bin .mod (.prim .int [(.idx (.var 3) (.lit (.int 1)))]) (.prim .len [(.var 6)]))),
.set (.n 8) (.tup [(.tup [(.lit (.str w_has)), (.lit (.str w_anne)), (.idx (.idx (.var 7) (.lit (.int 0))) (.bin .mod (.prim .int [(.idx (.var 3) (.lit (.int 2)))]) (.lit (.int 3))))])]),
.set (.n 9) (.idx (.lst [(.lit (.str w_anne)), (.lit (.str w_bill)), (.lit (.str w_cath))]) (.bin .mod (.prim .int [(.idx (.var 3) (.lit (.int 3)))]) (.lit (.int 3)))),
.set (.n 10) (.idx (.lst [(.tup [(.lit (.str w_anne))]), (.tup [(.lit (.str w_bill)), (.lit (.str w_cath))]), (.tup [(.lit (.str w_anne)), (.lit (.str w_bill)), (.lit (.str w_cath))])]) (.bin .mod (.prim .int [(.bin .fdiv (.idx (.var 3) (.lit (.int 3))) (.lit (.int 3)))]) (.lit (.int 3)))),
.ife (.or [(.not (.call f_law_sayings_alike [(.var 1), (.var 4), (.var 8), (.var 7), (.var 9), (.var 10)])), (.not (.call f_law_texts_alike [(.var 1), (.var 4), (.var 7)]))]) [.ret (.lit (.bool false))] [],
.ife (.not (.call f_law_talks_alike [(.var 1), (.var 4), (.var 8), (.var 7), (.var 9)])) [.ret (.lit (.bool false))] []],
.ret (.lit (.bool true))] }
def tbl : Nat → Option FDef := fun n => match n with
  | 0 => some F_is_integer
  | 1 => some F_is_setting_k75
  | 2 => some F_check_setting
  | 3 => some F_is_row
  | 4 => some F_is_hand
  | 5 => some F_is_lot
  | 6 => some F_check_lot
  | 7 => some F_rows_out_of
  | 8 => some F_others
  | 9 => some F_count_rows
  | 10 => some F_deals_of_hand
  | 11 => some F_place_of
  | 12 => some F_few_deals
  | 13 => some F_deals_of_lot
  | 14 => some F_known_to
  | 15 => some F_is_person
  | 16 => some F_check_word
  | 17 => some F_check_speakers
  | 18 => some F_held_groups
  | 19 => some F_sure_rows
  | 20 => some F_is_so
  | 21 => some F_told_by
  | 22 => some F_rounds
  | 23 => some F_law_cell_at
  | 24 => some F_law_draws_k75
  | 25 => some F_law_setting_k75
  | 26 => some F_law_hand
  | 27 => some F_law_lot_k75
  | 28 => some F_law_rows_k75
  | 29 => some F_law_many_hands
  | 30 => some F_law_deals
  | 31 => some F_law_whole
  | 32 => some F_law_at
  | 33 => some F_law_groups
  | 34 => some F_law_known
  | 35 => some F_law_holds_k75
  | 36 => some F_law_after
  | 37 => some F_law_people
  | 38 => some F_law_speakers
  | 39 => some F_law_rounds
  | 40 => some F_law_k75
  | 41 => some F_check_people
  | 42 => some F_is_saying
  | 43 => some F_check_talk
  | 44 => some F_after_talk
  | 45 => some F_deals_left
  | 46 => some F_quiet_part
  | 47 => some F_quiet
  | 48 => some F_law_is_row
  | 49 => some F_law_is_deal
  | 50 => some F_law_are_deals
  | 51 => some F_law_orders
  | 52 => some F_law_right_k76
  | 53 => some F_law_begun
  | 54 => some F_law_k76
  | 55 => some F_is_deal
  | 56 => some F_peeling
  | 57 => some F_is_step
  | 58 => some F_peels
  | 59 => some F_peeling_holds
  | 60 => some F_law_counts
  | 61 => some F_law_taken
  | 62 => some F_law_k77
  | 63 => some F_law_within
  | 64 => some F_law_k78
  | 65 => some F_law_peeling
  | 66 => some F_law_holds_k79
  | 67 => some F_law_spoilt_k79
  | 68 => some F_law_right_k79
  | 69 => some F_law_k79
  | 70 => some F_check_deal
  | 71 => some F_groups_of
  | 72 => some F_spread
  | 73 => some F_block_in
  | 74 => some F_check_person
  | 75 => some F_left_around
  | 76 => some F_common_knows
  | 77 => some F_law_saying
  | 78 => some F_law_opposite
  | 79 => some F_law_talk
  | 80 => some F_law_common
  | 81 => some F_law_k80
  | 82 => some F_law_parts
  | 83 => some F_law_right_k81
  | 84 => some F_law_k81
  | 85 => some F_law_right_k82
  | 86 => some F_law_k82
  | 87 => some F_sayings_of_knowledge
  | 88 => some F_still
  | 89 => some F_law_eighteen
  | 90 => some F_law_right_k83
  | 91 => some F_law_k83
  | 92 => some F_held_by
  | 93 => some F_words_now
  | 94 => some F_law_order_k84
  | 95 => some F_law_renamed
  | 96 => some F_law_moved
  | 97 => some F_law_said
  | 98 => some F_law_words
  | 99 => some F_law_right_k84
  | 100 => some F_law_k84
  | 101 => some F_law_right_k85
  | 102 => some F_law_k85
  | 105 => some F_law_due_k86
  | 106 => some F_law_deal
  | 108 => some F_law_k86
  | 110 => some F_law_odd_saying
  | 111 => some F_law_good_talk
  | 112 => some F_law_odd_talk
  | 113 => some F_law_right_k87
  | 114 => some F_law_doors
  | 115 => some F_law_many
  | 116 => some F_law_k87
  | 117 => some F_wall
  | 118 => some F_count_hands
  | 119 => some F_all_hands
  | 120 => some F_count_deals
  | 121 => some F_all_deals
  | 122 => some F_law_small_setting
  | 123 => some F_law_begin
  | 124 => some F_law_thing
  | 125 => some F_law_fewer
  | 126 => some F_law_word
  | 131 => some F_law_in_right
  | 132 => some F_law_looked
  | 139 => some F_law_lot_with
  | 145 => some F_law_places
  | 149 => some F_law_due_k92
  | 150 => some F_law_odd
  | 152 => some F_misses
  | 153 => some F_show_cards
  | 154 => some F_show_lot
  | 155 => some F_show_deal
  | 156 => some F_are_signs
  | 157 => some F_cards_of_signs
  | 158 => some F_read_lot
  | 159 => some F_goes_on
  | 160 => some F_read_deal
  | 161 => some F_law_shown
  | 162 => some F_law_first_hands
  | 163 => some F_law_are_rows
  | 164 => some F_law_same
  | 165 => some F_law_k93
  | 166 => some F_law_row_of
  | 167 => some F_law_lot_read
  | 168 => some F_law_deal_read
  | 169 => some F_law_spoilt_k94
  | 172 => some F_law_right_k94
  | 173 => some F_law_k94
  | 174 => some F_check_cards
  | 175 => some F_count_common
  | 176 => some F_pairs_of
  | 177 => some F_blur
  | 178 => some F_is_useful
  | 179 => some F_check_size
  | 180 => some F_hands_left
  | 181 => some F_count_with
  | 182 => some F_least_agreed
  | 183 => some F_leak_of
  | 184 => some F_leak
  | 186 => some F_strength
  | 187 => some F_is_good
  | 188 => some F_meetings
  | 189 => some F_good_settings
  | 190 => some F_floor_of
  | 191 => some F_most_useful
  | 192 => some F_ceiling_of
  | 193 => some F_card_counts
  | 194 => some F_counts_allow
  | 195 => some F_shares
  | 196 => some F_fits_all
  | 197 => some F_fitting
  | 198 => some F_good_with
  | 199 => some F_may_add
  | 200 => some F_without
  | 201 => some F_may_strike
  | 202 => some F_lowest
  | 203 => some F_hands_without
  | 204 => some F_some_hands
  | 205 => some F_chances
  | 206 => some F_rows_missed
  | 207 => some F_uneven
  | 208 => some F_is_even
  | 209 => some F_prime_of
  | 210 => some F_powers_of
  | 211 => some F_check_rests
  | 212 => some F_power_lot
  | 213 => some F_hands_or_none
  | 214 => some F_answer_good
  | 215 => some F_answer_floor
  | 216 => some F_answer_ceiling
  | 217 => some F_answer_strength
  | 218 => some F_answer_add
  | 219 => some F_answer_strike
  | 220 => some F_answer_meet
  | 221 => some F_answer_even
  | 222 => some F_answer_fits
  | 223 => some F_answer_show
  | 224 => some F_answer_left
  | 225 => some F_answer_chances
  | 226 => some F_number_of
  | 227 => some F_cards_of_word
  | 228 => some F_law_power_hands
  | 229 => some F_law_hands
  | 230 => some F_law_good
  | 231 => some F_law_chances
  | 232 => some F_law_plain
  | 233 => some F_law_row
  | 235 => some F_law_deed_k95
  | 239 => some F_law_due_k96
  | 240 => some F_law_odd_rows
  | 241 => some F_law_case_k96
  | 243 => some F_blur_holds
  | 244 => some F_leak_holds
  | 245 => some F_turned
  | 246 => some F_known_cards
  | 247 => some F_unevenness
  | 248 => some F_balanced
  | 249 => some F_even_floor
  | 250 => some F_blocks_in
  | 251 => some F_block_of
  | 252 => some F_count_blocks
  | 253 => some F_common_cards
  | 254 => some F_law_source
  | 255 => some F_law_pick
  | 256 => some F_law_rows_k97
  | 257 => some F_law_setting_k97
  | 258 => some F_law_fits
  | 259 => some F_law_lot_k97
  | 260 => some F_law_lot_of
  | 264 => some F_law_k97
  | 265 => some F_is_setting_k98
  | 266 => some F_check_setting_k98
  | 267 => some F_is_hand_k98
  | 268 => some F_check_hand
  | 269 => some F_is_lot_k98
  | 270 => some F_check_lot_k98
  | 271 => some F_count_hands_k98
  | 272 => some F_all_hands_k98
  | 273 => some F_count_deals_k98
  | 274 => some F_blur_k98
  | 275 => some F_is_useful_k98
  | 276 => some F_leak_of_k98
  | 277 => some F_leak_k98
  | 279 => some F_is_good_k98
  | 280 => some F_floor_of_k98
  | 281 => some F_ceiling_of_k98
  | 282 => some F_rows_of_cards
  | 283 => some F_check_pool
  | 285 => some F_least_good
  | 286 => some F_greatest_good
  | 288 => some F_can_strike
  | 290 => some F_none_within
  | 291 => some F_check_renaming
  | 292 => some F_moved
  | 293 => some F_renamed
  | 295 => some F_check_small
  | 296 => some F_first_alike
  | 297 => some F_count_keeping
  | 298 => some F_ways_from
  | 299 => some F_renaming_to
  | 300 => some F_check_lots
  | 302 => some F_fitting_k98
  | 303 => some F_good_with_k98
  | 304 => some F_may_add_k98
  | 305 => some F_may_strike_k98
  | 306 => some F_least_mends
  | 307 => some F_parts_of
  | 308 => some F_has_within
  | 309 => some F_is_rule
  | 310 => some F_check_rule
  | 311 => some F_lot_by
  | 312 => some F_bad_lots
  | 313 => some F_prime_of_k98
  | 314 => some F_check_rests_k98
  | 315 => some F_rests_of
  | 316 => some F_power_lot_k98
  | 317 => some F_reads
  | 319 => some F_moved_by
  | 320 => some F_shifted
  | 322 => some F_is_weighted
  | 324 => some F_check_choosing
  | 325 => some F_choosing_of
  | 326 => some F_weight_of
  | 327 => some F_says
  | 329 => some F_likeliest
  | 333 => some F_alone
  | 334 => some F_agreed
  | 335 => some F_law_draws_k98
  | 336 => some F_law_rows_k98
  | 337 => some F_law_setting_k98
  | 338 => some F_law_order_k98
  | 340 => some F_law_placed_ways
  | 342 => some F_law_placed_lots
  | 345 => some F_law_draws_k99
  | 346 => some F_law_rows_k99
  | 347 => some F_law_choices
  | 353 => some F_law_k99
  | _ => none
end OH
end

section
set_option autoImplicit false
set_option linter.all false
set_option Elab.async false
set_option maxRecDepth 100000
set_option maxHeartbeats 1000000
namespace OH
open PySem L2
abbrev Hp := L2.Hp
abbrev V := L2.V
mutual
def keyN : D → Option NestedKey
  | .int i => some (.num i)
  | .str x => some (.text x)
  | .tuple xs => (keyNs xs).map .tup
  | .none => none
  | .bool _ => none
  | .list _ => none
  | .dict _ => none
def keyNs : List D → Option (List NestedKey)
  | [] => some []
  | x :: xs => match keyN x, keyNs xs with | some k, some ks => some (k :: ks) | _, _ => none
end
abbrev hoD (a : Addr) (o : Obj) : HO := .ext fun h => h.get? a = some o
/-- the object o at a is a dict with the entries xs -/
structure DictO (P : Program) (w : World) (a : Addr) (o : Obj) (xs : List (NestedKey × Addr × Value)) : Prop where
  exact : o.ExactDict
  data : ∃ es ep, o.data = .dict es ep ∧ es.toList = xs.map (entryOfKey (nestedKind P w))
  nd : (xs.map (·.1)).Nodup
  sys : (a == sysModules) = false
  len : xs.length ≤ sizeLine
def keyD : Key → D
  | .inl i => .int i
  | .inr x => .str x
/-- a list, exactly: read in the abstract heap, or the program's own -/
def LstAt (K : PySem.W.Frag) (H : Hp) (a : Addr) (vs : List V) : Prop := Rd H a (.lst vs) ∨ ∃ (its : Array Value) (n : Nat), K.lookup a = some { cls := .type "list", data := .seq its n } ∧ its.size ≤ sizeLine ∧ Vals vs its.toList
theorem LstAt.sq {K : PySem.W.Frag} {H : Hp} {a : Addr} {vs : List V} (h : LstAt K H a vs) : SqL K H a vs := by
  rcases h with h | ⟨its, n, h1, h2, h3⟩
  · exact .inl h
  · exact .inr ⟨_, its, n, h1, rfl, rfl, rfl, h2, h3⟩
theorem LstAt.ok {X : Cx} {pins : List (Addr × Obj)} {σ : L2.St} {H : Hp} {s : Shared} {a : Addr} {vs : List V} (h : LstAt X.K H a vs) (I : Inv X pins σ H s) : vs.length ≤ sizeLine ∧ ∃ (its : List Value) (n : Nat), Vals vs its ∧ s.heap.get? a = some { cls := .type "list", data := .seq its.toArray n } := by
  rcases h with h | ⟨its, n, h1, h2, h3⟩
  · exact h.ok I.hok
  · have e := h3.length
    simp only [Array.length_toList] at e
    exact ⟨by omega, its.toList, n, h3, I.kIn a _ h1⟩
section
variable (P : Program) (w : World) (K : PySem.W.Frag)
mutual
inductive Rep (G : Hp) : V → D → Prop
  | non : Rep G .non .none
  | bl (b : Bool) : Rep G (.bl b) (.bool b)
  | int (i : Int) : Rep G (.int i) (.int i)
  | str (x : Str) : Rep G (.str x) (.str x)
  | lst {a : Addr} {vs : List V} {ds : List D} : LstAt K G a vs → Reps G vs ds → Rep G (.ref a) (.list ds)
  | tup {a : Addr} {vs : List V} {ds : List D} : SqT K G a vs → Reps G vs ds → Rep G (.ref a) (.tuple ds)
  | dic {a : Addr} {o : Obj} {xs : List (NestedKey × Addr × Value)} {kvs : List (D × D)} : G a = some (hoD a o) → DictO P w a o xs → RepX G xs kvs → Rep G (.ref a) (.dict kvs)
  | dk {a : Addr} {ks : List (Key × V)} {kvs : List (D × D)} : G a = some (.dK ks) → RepK G ks kvs → kvs ≠ [] → Rep G (.ref a) (.dict kvs)
inductive Reps (G : Hp) : List V → List D → Prop
  | nil : Reps G [] []
  | cons {v : V} {vs : List V} {d : D} {ds : List D} : Rep G v d → Reps G vs ds → Reps G (v :: vs) (d :: ds)
inductive RepX (G : Hp) : List (NestedKey × Addr × Value) → List (D × D) → Prop
  | nil : RepX G [] []
  | cons {nk : NestedKey} {b : Addr} {u : Value} {v : V} {k d : D} {xs : List (NestedKey × Addr × Value)} {kvs : List (D × D)} :
      keyN k = some nk → isKeyT k = true → Rep G (.ref b) k → RelV v u → Rep G v d → RepX G xs kvs → RepX G ((nk, b, u) :: xs) ((k, d) :: kvs)
inductive RepK (G : Hp) : List (Key × V) → List (D × D) → Prop
  | nil : RepK G [] []
  | cons {key : Key} {v : V} {d : D} {ks : List (Key × V)} {kvs : List (D × D)} : Rep G v d → RepK G ks kvs → RepK G ((key, v) :: ks) ((keyD key, d) :: kvs)
end
end
/-- what is known in G is so in H -/
def Sub (G H : Hp) : Prop := ∀ a o, G a = some o → H a = some o
theorem Sub.refl (G : Hp) : Sub G G := fun _ _ h => h
theorem Sub.trans {A B C : Hp} (a : Sub A B) (b : Sub B C) : Sub A C := fun x o h => b x o (a x o h)
theorem Sub.sqL {K : PySem.W.Frag} {G H : Hp} (s : Sub G H) {a : Addr} {vs : List V} (h : SqL K G a vs) : SqL K H a vs := by
  rcases h with (h | ⟨o, h⟩) | h
  · exact .inl (.inl (s _ _ h))
  · exact .inl (.inr ⟨o, s _ _ h⟩)
  · exact .inr h
theorem Sub.rd {G H : Hp} (s : Sub G H) {a : Addr} {u : HO} (h : Rd G a u) : Rd H a u := by
  rcases h with h | ⟨o, h⟩
  · exact .inl (s _ _ h)
  · exact .inr ⟨o, s _ _ h⟩
theorem Sub.la {K : PySem.W.Frag} {G H : Hp} (s : Sub G H) {a : Addr} {vs : List V} (h : LstAt K G a vs) : LstAt K H a vs := by
  rcases h with h | h
  · exact .inl (s.rd h)
  · exact .inr h
theorem Sub.sqT {K : PySem.W.Frag} {G H : Hp} (s : Sub G H) {a : Addr} {vs : List V} (h : SqT K G a vs) : SqT K H a vs := by
  rcases h with (h | ⟨o, h⟩) | h
  · exact .inl (.inl (s _ _ h))
  · exact .inl (.inr ⟨o, s _ _ h⟩)
  · exact .inr h
section
variable {P : Program} {w : World} {K : PySem.W.Frag} {G G' H H' : Hp}
mutual
theorem Rep.mono (s : Sub G G') : ∀ {v : V} {d : D}, Rep P w K G v d → Rep P w K G' v d
  | _, _, .non => .non
  | _, _, .bl b => .bl b
  | _, _, .int i => .int i
  | _, _, .str x => .str x
  | _, _, .lst h r => .lst (s.la h) (Reps.mono s r)
  | _, _, .tup h r => .tup (s.sqT h) (Reps.mono s r)
  | _, _, .dic h o r => .dic (s _ _ h) o (RepX.mono s r)
  | _, _, .dk h r n => .dk (s _ _ h) (RepK.mono s r) n
theorem Reps.mono (s : Sub G G') : ∀ {vs : List V} {ds : List D}, Reps P w K G vs ds → Reps P w K G' vs ds
  | _, _, .nil => .nil
  | _, _, .cons h r => .cons (Rep.mono s h) (Reps.mono s r)
theorem RepX.mono (s : Sub G G') : ∀ {xs : List (NestedKey × Addr × Value)} {kvs : List (D × D)}, RepX P w K G xs kvs → RepX P w K G' xs kvs
  | _, _, .nil => .nil
  | _, _, .cons a t b c d r => .cons a t (Rep.mono s b) c (Rep.mono s d) (RepX.mono s r)
theorem RepK.mono (s : Sub G G') : ∀ {xs : List (Key × V)} {kvs : List (D × D)}, RepK P w K G xs kvs → RepK P w K G' xs kvs
  | _, _, .nil => .nil
  | _, _, .cons b r => .cons (Rep.mono s b) (RepK.mono s r)
end
theorem Reps.length : ∀ {vs : List V} {ds : List D}, Reps P w K G vs ds → vs.length = ds.length
  | _, _, .nil => rfl
  | _, _, .cons _ r => congrArg (· + 1) (Reps.length r)
theorem Reps.get : ∀ {vs : List V} {ds : List D} {i : Nat} {d : D}, Reps P w K G vs ds → ds[i]? = some d → ∃ v, vs[i]? = some v ∧ Rep P w K G v d
  | _, _, _, _, .nil, e => by simp at e
  | _, _, 0, _, .cons h _, e => by simp at e; subst e; exact ⟨_, rfl, h⟩
  | _, _, i + 1, d, .cons _ r, e => by
    obtain ⟨v, h1, h2⟩ := Reps.get (i := i) (d := d) r (by simpa using e)
    exact ⟨v, by simpa using h1, h2⟩
theorem Reps.getV : ∀ {vs : List V} {ds : List D} {i : Nat} {v : V}, Reps P w K G vs ds → vs[i]? = some v → ∃ d, ds[i]? = some d ∧ Rep P w K G v d
  | _, _, _, _, .nil, e => by simp at e
  | _, _, 0, _, .cons h _, e => by simp at e; subst e; exact ⟨_, rfl, h⟩
  | _, _, i + 1, v, .cons _ r, e => by
    obtain ⟨d, h1, h2⟩ := Reps.getV (i := i) (v := v) r (by simpa using e)
    exact ⟨d, by simpa using h1, h2⟩
theorem Reps.append : ∀ {vs ws : List V} {ds es : List D}, Reps P w K G vs ds → Reps P w K G ws es → Reps P w K G (vs ++ ws) (ds ++ es)
  | _, _, _, _, .nil, s => s
  | _, _, _, _, .cons h r, s => .cons h (Reps.append r s)
theorem Reps.take : ∀ {vs : List V} {ds : List D} (n : Nat), Reps P w K G vs ds → Reps P w K G (vs.take n) (ds.take n)
  | _, _, 0, _ => .nil
  | _, _, _ + 1, .nil => .nil
  | _, _, n + 1, .cons h r => .cons h (Reps.take n r)
theorem Reps.drop : ∀ {vs : List V} {ds : List D} (n : Nat), Reps P w K G vs ds → Reps P w K G (vs.drop n) (ds.drop n)
  | _, _, 0, r => r
  | _, _, _ + 1, .nil => .nil
  | _, _, n + 1, .cons _ r => Reps.drop n r
theorem Reps.set : ∀ {vs : List V} {ds : List D} {v : V} {d : D} (i : Nat), Rep P w K G v d → Reps P w K G vs ds → Reps P w K G (vs.set i v) (ds.set i d)
  | _, _, _, _, _, _, .nil => .nil
  | _, _, _, _, 0, q, .cons _ r => .cons q r
  | _, _, _, _, i + 1, q, .cons h r => .cons h (Reps.set i q r)
theorem Reps.erase : ∀ {vs : List V} {ds : List D} (i : Nat), Reps P w K G vs ds → Reps P w K G (vs.eraseIdx i) (ds.eraseIdx i)
  | _, _, _, .nil => .nil
  | _, _, 0, .cons _ r => r
  | _, _, i + 1, .cons h r => .cons h (Reps.erase i r)
theorem Reps.reverse {vs : List V} {ds : List D} (h : Reps P w K G vs ds) : Reps P w K G vs.reverse ds.reverse := by
  induction vs generalizing ds with
  | nil => cases h; exact .nil
  | cons v vs ih =>
    cases h with
    | cons a b =>
      rw [List.reverse_cons, List.reverse_cons]
      exact (ih b).append (.cons a .nil)

inductive BRep (P : Program) (w : World) (K : PySem.W.Frag) (G H : Hp) : V → D → Prop
  | rep {v : V} {d : D} : Rep P w K G v d → BRep P w K G H v d
  | lst {a : Addr} {vs : List V} {ds : List D} : LstAt K H a vs → Reps P w K G vs ds → BRep P w K G H (.ref a) (.list ds)
  | dic {a : Addr} {o : Obj} {xs : List (NestedKey × Addr × Value)} {kvs : List (D × D)} : H a = some (hoD a o) → DictO P w a o xs → RepX P w K G xs kvs → BRep P w K G H (.ref a) (.dict kvs)
/-- what a run has done to the heaps: the kept grows, all stands, the newly kept is new -/
structure Ext (G H G' H' : Hp) : Prop where
  g : Sub G G'
  h : Same H H'
  sub : Sub G' H'
  new : ∀ a, G a = none → G' a ≠ none → H a = none
theorem Ext.refl (s : Sub G H) : Ext G H G H := ⟨Sub.refl _, Same.refl _, s, fun _ h n => absurd h n⟩
theorem Ext.trans {G1 H1 G2 H2 : Hp} (a : Ext G H G1 H1) (b : Ext G1 H1 G2 H2) : Ext G H G2 H2 := ⟨a.g.trans b.g, a.h.trans b.h, b.sub, fun x h n => by
  cases q : G1 x with
  | none => exact a.h.free (b.new x q n)
  | some o => exact a.new x h (by rw [q]; exact fun z => nomatch z)⟩
/-- a new object is laid, not kept -/
theorem Ext.alloc {p : Addr} {o : HO} (s : Sub G H) (hp : H p = none) : Ext G H G (upd H p o) :=
  ⟨Sub.refl _, fun b u e => by rw [upd_ne (ne_of_none e hp)]; exact e, fun b u e => by rw [upd_ne (ne_of_none (s b u e) hp)]; exact s b u e, fun _ h n => absurd h n⟩
/-- a new object is laid and kept -/
theorem Ext.allocG {p : Addr} {o : HO} (s : Sub G H) (hp : H p = none) : Ext G H (upd G p o) (upd H p o) := by
  have hg : G p = none := by
    cases q : G p with
    | none => rfl
    | some u => rw [s p u q] at hp; cases hp
  refine ⟨fun b u e => by rw [upd_ne (ne_of_none e hg)]; exact e, fun b u e => by rw [upd_ne (ne_of_none e hp)]; exact e, fun b u e => ?_, fun a h n => ?_⟩
  · by_cases hb : b = p
    · subst hb; rw [upd_same] at e ⊢; exact e
    · rw [upd_ne hb] at e ⊢; exact s b u e
  · by_cases hb : a = p
    · subst hb; exact hp
    · rw [upd_ne hb] at n; exact absurd h n
/-- an object that is new since H0 is kept from now on -/
theorem Ext.keepG {H0 : Hp} {p : Addr} {o : HO} (e : Ext G H0 G' H') (hp : H' p = some o) (h0 : H0 p = none) (hg : G' p = none) : Ext G H0 (upd G' p o) H' :=
  ⟨fun b u q => by rw [upd_ne (ne_of_none (e.g b u q) hg)]; exact e.g b u q, e.h, fun b u q => by
    by_cases hb : b = p
    · subst hb; rw [upd_same] at q; cases q; exact hp
    · rw [upd_ne hb] at q; exact e.sub b u q, fun a h n => by
    by_cases hb : a = p
    · subst hb; exact h0
    · rw [upd_ne hb] at n; exact e.new a h n⟩
theorem BRep.ext {v : V} {d : D} (h : BRep P w K G H v d) (e : Ext G H G' H') : BRep P w K G' H' v d := by
  cases h with
  | rep h => exact .rep (h.mono e.g)
  | lst h r => exact .lst (Sub.la e.h h) (r.mono e.g)
  | dic h o r => exact .dic (e.h _ _ h) o (r.mono e.g)
/-- the values of own groups: each an own list -/
inductive RepG (P : Program) (w : World) (K : PySem.W.Frag) (G H : Hp) : List (NestedKey × Addr × Value) → List Addr → List (D × List D) → Prop
  | nil : RepG P w K G H [] [] []
  | cons {nk : NestedKey} {b l : Addr} {vs : List V} {k : D} {ds : List D} {xs : List (NestedKey × Addr × Value)} {ls : List Addr} {kvs : List (D × List D)} :
      keyN k = some nk → isKeyT k = true → Rep P w K G (.ref b) k → H l = some (.lst vs) → Reps P w K G vs ds → RepG P w K G H xs ls kvs → RepG P w K G H ((nk, b, .ref l) :: xs) (l :: ls) ((k, ds) :: kvs)
/-- an own result r stands at v, its own objects at as -/
inductive OwnAt (P : Program) (w : World) (K : PySem.W.Frag) (G H : Hp) : RV → V → List Addr → Prop
  | fl {a : Addr} {vs : List V} {ds : List D} : H a = some (.lst vs) → Reps P w K G vs ds → OwnAt P w K G H (.fl ds) (.ref a) [a]
  | fd {a : Addr} {o : Obj} {xs : List (NestedKey × Addr × Value)} {kvs : List (D × D)} : H a = some (hoD a o) → DictO P w a o xs → RepX P w K G xs kvs → OwnAt P w K G H (.fd kvs) (.ref a) [a]
  | fg {a : Addr} {o : Obj} {xs : List (NestedKey × Addr × Value)} {ls : List Addr} {kvs : List (D × List D)} : H a = some (hoD a o) → DictO P w a o xs → RepG P w K G H xs ls kvs → OwnAt P w K G H (.fg kvs) (.ref a) (a :: ls)
/-- what a run's result stands for; H0: the heap ahead of it -/
inductive RepR (P : Program) (w : World) (K : PySem.W.Frag) (G H H0 : Hp) : RV → V → Prop
  | d {v : V} {x : D} : Rep P w K G v x → RepR P w K G H H0 (.d x) v
  | own {r : RV} {v : V} {as : List Addr} : OwnAt P w K G H r v as → as.Nodup → (∀ a ∈ as, H0 a = none ∧ G a = none) → RepR P w K G H H0 r v
  | b {v : V} {x : D} : BRep P w K G H v x → RepR P w K G H H0 (.b x) v
theorem RepR.older {H0 H1 : Hp} {r : RV} {v : V} (h : RepR P w K G H H1 r v) (s : Same H0 H1) : RepR P w K G H H0 r v := by
  cases h with
  | d h => exact .d h
  | own h nd n => exact .own h nd fun a ha => ⟨s.free (n a ha).1, (n a ha).2⟩
  | b h => exact .b h
end
end OH
end

section
set_option autoImplicit false
set_option linter.all false
set_option Elab.async false
set_option maxRecDepth 100000
set_option maxHeartbeats 1000000
namespace OH
open PySem L2
mutual
theorem eqv_eq : ∀ a b : D, eqv a b = PyData.eqv a b
  | .list xs, .list ys => by rw [eqv, PyData.eqv]; exact eqvAll_eq xs ys
  | .tuple xs, .tuple ys => by rw [eqv, PyData.eqv]; exact eqvAll_eq xs ys
  | .none, b => by cases b <;> simp [eqv, PyData.eqv]
  | .bool _, b => by cases b <;> simp [eqv, PyData.eqv]
  | .int _, b => by cases b <;> simp [eqv, PyData.eqv]
  | .str _, b => by cases b <;> simp [eqv, PyData.eqv]
  | .dict _, b => by cases b <;> simp [eqv, PyData.eqv]
  | .list _, .none => by simp [eqv, PyData.eqv]
  | .list _, .bool _ => by simp [eqv, PyData.eqv]
  | .list _, .int _ => by simp [eqv, PyData.eqv]
  | .list _, .str _ => by simp [eqv, PyData.eqv]
  | .list _, .tuple _ => by simp [eqv, PyData.eqv]
  | .list _, .dict _ => by simp [eqv, PyData.eqv]
  | .tuple _, .none => by simp [eqv, PyData.eqv]
  | .tuple _, .bool _ => by simp [eqv, PyData.eqv]
  | .tuple _, .int _ => by simp [eqv, PyData.eqv]
  | .tuple _, .str _ => by simp [eqv, PyData.eqv]
  | .tuple _, .list _ => by simp [eqv, PyData.eqv]
  | .tuple _, .dict _ => by simp [eqv, PyData.eqv]
theorem eqvAll_eq : ∀ a b : List D, eqvAll a b = PyData.eqvAll a b
  | [], [] => by simp [eqvAll, PyData.eqvAll]
  | [], _ :: _ => by simp [eqvAll, PyData.eqvAll]
  | _ :: _, [] => by simp [eqvAll, PyData.eqvAll]
  | x :: xs, y :: ys => by rw [eqvAll, PyData.eqvAll, eqv_eq x y, eqvAll_eq xs ys]
end
mutual
theorem shp_lay : ∀ (n : Nat) (d : D), shp n d = true → d.canLay0 = true ∧ d.depth ≤ n
  | n, .none, _ => by simp [PyData.canLay0, PyData.depth]
  | n, .bool _, _ => by simp [PyData.canLay0, PyData.depth]
  | n, .int _, _ => by simp [PyData.canLay0, PyData.depth]
  | n, .str x, h => by
    refine ⟨?_, by simp [PyData.depth]⟩
    rw [PyData.canLay0]
    cases n <;> (simp only [shp] at h; exact h)
  | 0, .list _, h => by simp [shp] at h
  | 0, .tuple _, h => by simp [shp] at h
  | n + 1, .list xs, h => by
    rw [shp] at h
    obtain ⟨a, b⟩ := shpAll_lay n xs h
    exact ⟨by rw [PyData.canLay0]; exact a, by rw [PyData.depth]; omega⟩
  | n + 1, .tuple xs, h => by
    rw [shp] at h
    obtain ⟨a, b⟩ := shpAll_lay n xs h
    exact ⟨by rw [PyData.canLay0]; exact a, by rw [PyData.depth]; omega⟩
  | 0, .dict _, h => by simp [shp] at h
  | n + 1, .dict _, h => by simp [shp] at h
theorem shpAll_lay : ∀ (n : Nat) (ds : List D), shpAll n ds = true → PyData.canLayAll0 ds = true ∧ PyData.depthAll ds ≤ n
  | n, [], _ => by simp [PyData.canLayAll0, PyData.depthAll]
  | n, x :: xs, h => by
    rw [shpAll, Bool.and_eq_true] at h
    obtain ⟨a, b⟩ := shp_lay n x h.1
    obtain ⟨c, d⟩ := shpAll_lay n xs h.2
    refine ⟨by rw [PyData.canLayAll0, a, c]; rfl, ?_⟩
    rw [PyData.depthAll]; omega
end
theorem shp_shaped {n : Nat} {d : D} (h : shp n d = true) (hn : n ≤ 60) : SeqAt.shaped d = true := by
  obtain ⟨a, b⟩ := shp_lay n d h
  unfold SeqAt.shaped
  rw [a, Bool.true_and, decide_eq_true_eq]
  omega
mutual
theorem alike_eq : ∀ a b : D, alikeD a b = PySem.W.alike a b
  | .list xs, .list ys => by rw [alikeD, PySem.W.alike]; exact alikeAll_eq xs ys
  | .tuple xs, .tuple ys => by rw [alikeD, PySem.W.alike]; exact alikeAll_eq xs ys
  | .none, b => by cases b <;> simp [alikeD, PySem.W.alike]
  | .bool _, b => by cases b <;> simp [alikeD, PySem.W.alike]
  | .int _, b => by cases b <;> simp [alikeD, PySem.W.alike]
  | .str _, b => by cases b <;> simp [alikeD, PySem.W.alike]
  | .dict _, b => by cases b <;> simp [alikeD, PySem.W.alike]
  | .list _, .none => by simp [alikeD, PySem.W.alike]
  | .list _, .bool _ => by simp [alikeD, PySem.W.alike]
  | .list _, .int _ => by simp [alikeD, PySem.W.alike]
  | .list _, .str _ => by simp [alikeD, PySem.W.alike]
  | .list _, .tuple _ => by simp [alikeD, PySem.W.alike]
  | .list _, .dict _ => by simp [alikeD, PySem.W.alike]
  | .tuple _, .none => by simp [alikeD, PySem.W.alike]
  | .tuple _, .bool _ => by simp [alikeD, PySem.W.alike]
  | .tuple _, .int _ => by simp [alikeD, PySem.W.alike]
  | .tuple _, .str _ => by simp [alikeD, PySem.W.alike]
  | .tuple _, .list _ => by simp [alikeD, PySem.W.alike]
  | .tuple _, .dict _ => by simp [alikeD, PySem.W.alike]
theorem alikeAll_eq : ∀ a b : List D, alikeAllD a b = PySem.W.alikeAll a b
  | [], _ => by simp [alikeAllD, PySem.W.alikeAll]
  | _ :: _, [] => by simp [alikeAllD, PySem.W.alikeAll]
  | x :: xs, y :: ys => by rw [alikeAllD, PySem.W.alikeAll, alike_eq x y, alikeAll_eq xs ys]
end
theorem lexNil (x : D) (xs : List D) : PyProof.Rows.lexLt PyProof.Rows.itemOrd (PySem.W.keyToksAll []) (PySem.W.keyToksAll (x :: xs)) = true := by
  rw [PySem.W.keyToksAll, PySem.W.keyToksAll, PySem.W.lex_atom (by simp), PySem.W.lex_one]
  rfl
theorem lexNil' (x : D) (xs : List D) : PyProof.Rows.lexLt PyProof.Rows.itemOrd (PySem.W.keyToksAll (x :: xs)) (PySem.W.keyToksAll []) = false := by
  rw [PySem.W.keyToksAll, PySem.W.keyToksAll, PySem.W.lex_atom (by simp), PySem.W.lex_one]
  rfl
mutual
theorem ltD_eq : ∀ a b : D, alikeD a b = true → ltD a b = PySem.W.dataLt a b
  | .list xs, .list ys, h => by rw [alikeD] at h; rw [ltD, PySem.W.dataLt_list]; exact ltAllD_eq xs ys h
  | .tuple xs, .tuple ys, h => by rw [alikeD] at h; rw [ltD, PySem.W.dataLt_tuple]; exact ltAllD_eq xs ys h
  | .none, .none, _ => by
    have e : PyProof.Rows.lexLt PyProof.Rows.itemOrd (PySem.W.keyToks .none) (PySem.W.keyToks .none) = false := PyProof.Rows.lex_irrefl _
    simp [ltD, PySem.W.dataLt, e]
  | .bool a, .bool b, _ => by rw [ltD, PySem.W.dataLt_bool]; cases a <;> cases b <;> decide
  | .int a, .int b, _ => by rw [ltD, PySem.W.dataLt_int]
  | .str a, .str b, _ => by rw [ltD, PySem.W.dataLt_str]
  | .dict _, b, h => by cases b <;> simp [alikeD] at h
  | .none, .bool _, h => by simp [alikeD] at h
  | .none, .int _, h => by simp [alikeD] at h
  | .none, .str _, h => by simp [alikeD] at h
  | .none, .list _, h => by simp [alikeD] at h
  | .none, .tuple _, h => by simp [alikeD] at h
  | .none, .dict _, h => by simp [alikeD] at h
  | .bool _, .none, h => by simp [alikeD] at h
  | .bool _, .int _, h => by simp [alikeD] at h
  | .bool _, .str _, h => by simp [alikeD] at h
  | .bool _, .list _, h => by simp [alikeD] at h
  | .bool _, .tuple _, h => by simp [alikeD] at h
  | .bool _, .dict _, h => by simp [alikeD] at h
  | .int _, .none, h => by simp [alikeD] at h
  | .int _, .bool _, h => by simp [alikeD] at h
  | .int _, .str _, h => by simp [alikeD] at h
  | .int _, .list _, h => by simp [alikeD] at h
  | .int _, .tuple _, h => by simp [alikeD] at h
  | .int _, .dict _, h => by simp [alikeD] at h
  | .str _, .none, h => by simp [alikeD] at h
  | .str _, .bool _, h => by simp [alikeD] at h
  | .str _, .int _, h => by simp [alikeD] at h
  | .str _, .list _, h => by simp [alikeD] at h
  | .str _, .tuple _, h => by simp [alikeD] at h
  | .str _, .dict _, h => by simp [alikeD] at h
  | .list _, .none, h => by simp [alikeD] at h
  | .list _, .bool _, h => by simp [alikeD] at h
  | .list _, .int _, h => by simp [alikeD] at h
  | .list _, .str _, h => by simp [alikeD] at h
  | .list _, .tuple _, h => by simp [alikeD] at h
  | .list _, .dict _, h => by simp [alikeD] at h
  | .tuple _, .none, h => by simp [alikeD] at h
  | .tuple _, .bool _, h => by simp [alikeD] at h
  | .tuple _, .int _, h => by simp [alikeD] at h
  | .tuple _, .str _, h => by simp [alikeD] at h
  | .tuple _, .list _, h => by simp [alikeD] at h
  | .tuple _, .dict _, h => by simp [alikeD] at h
theorem ltAllD_eq : ∀ a b : List D, alikeAllD a b = true → ltAllD a b = PyProof.Rows.lexLt PyProof.Rows.itemOrd (PySem.W.keyToksAll a) (PySem.W.keyToksAll b)
  | [], [], _ => by
    have e : PyProof.Rows.lexLt PyProof.Rows.itemOrd (PySem.W.keyToksAll []) (PySem.W.keyToksAll []) = false := PyProof.Rows.lex_irrefl _
    simp [ltAllD, e]
  | [], y :: ys, _ => by rw [lexNil]; simp [ltAllD]
  | x :: xs, [], _ => by rw [lexNil']; simp [ltAllD]
  | x :: xs, y :: ys, h => by
    rw [alikeAllD, Bool.and_eq_true] at h
    have ha : PySem.W.alike x y = true := by rw [← alike_eq]; exact h.1
    rw [ltAllD, PySem.W.dataLt_cons ha, eqv_eq, ltD_eq x y h.1, ltAllD_eq xs ys h.2]
end

section
variable {P : Program} {w : World} {K : PySem.W.Frag} {G H : Hp}
mutual
theorem Rep.dp (sb : Sub G H) : ∀ (d : D) (v : V) (n : Nat), Rep P w K G v d → shp n d = true → Dp K H v d
  | .none, _, _, h, _ => by cases h; exact .non
  | .bool _, _, _, h, _ => by cases h; exact .bl _
  | .int _, _, _, h, _ => by cases h; exact .int _
  | .str _, _, _, h, _ => by cases h; exact .str _
  | .list xs, _, 0, h, q => by simp [shp] at q
  | .list xs, _, n + 1, h, q => by
    rw [shp] at q
    cases h with
    | lst a b => exact .lst (Sub.la sb a).sq (Reps.dp sb xs _ n b q)
  | .tuple xs, _, 0, h, q => by simp [shp] at q
  | .tuple xs, _, n + 1, h, q => by
    rw [shp] at q
    cases h with
    | tup a b => exact .tup (sb.sqT a) (Reps.dp sb xs _ n b q)
  | .dict _, _, 0, _, q => by simp [shp] at q
  | .dict _, _, n + 1, _, q => by simp [shp] at q
theorem Reps.dp (sb : Sub G H) : ∀ (ds : List D) (vs : List V) (n : Nat), Reps P w K G vs ds → shpAll n ds = true → DpAll K H vs ds
  | [], _, _, h, _ => by cases h; exact .nil
  | d :: ds, _, n, h, q => by
    rw [shpAll, Bool.and_eq_true] at q
    cases h with
    | cons a b => exact .cons (Rep.dp sb d _ n a q.1) (Reps.dp sb ds _ n b q.2)
end
theorem BRep.dp {v : V} {d : D} {n : Nat} (sb : Sub G H) (h : BRep P w K G H v d) (q : shp n d = true) : Dp K H v d := by
  cases h with
  | rep h => exact h.dp sb d v n q
  | lst a b =>
    cases n with
    | zero => simp [shp] at q
    | succ n => rw [shp] at q; exact .lst a.sq (Reps.dp sb _ _ n b q)
  | dic a b c => cases n <;> simp [shp] at q
end
mutual
theorem eqv_comm : ∀ a b : D, eqv a b = eqv b a
  | .list xs, .list ys => by rw [eqv, eqv]; exact eqvAll_comm xs ys
  | .tuple xs, .tuple ys => by rw [eqv, eqv]; exact eqvAll_comm xs ys
  | .none, b => by cases b <;> simp [eqv]
  | .bool a, .bool b => by simp only [eqv]; exact Bool.beq_comm
  | .bool a, .int b => by simp only [eqv]; rw [Bool.beq_eq_decide_eq, Bool.beq_eq_decide_eq]; simp only [eq_comm]
  | .int a, .bool b => by simp only [eqv]; rw [Bool.beq_eq_decide_eq, Bool.beq_eq_decide_eq]; simp only [eq_comm]
  | .int a, .int b => by simp only [eqv]; rw [Bool.beq_eq_decide_eq, Bool.beq_eq_decide_eq]; simp only [eq_comm]
  | .str a, .str b => by simp only [eqv]; rw [Bool.beq_eq_decide_eq, Bool.beq_eq_decide_eq]; simp only [eq_comm]
  | .bool _, .none => by simp [eqv]
  | .bool _, .str _ => by simp [eqv]
  | .bool _, .list _ => by simp [eqv]
  | .bool _, .tuple _ => by simp [eqv]
  | .bool _, .dict _ => by simp [eqv]
  | .int _, .none => by simp [eqv]
  | .int _, .str _ => by simp [eqv]
  | .int _, .list _ => by simp [eqv]
  | .int _, .tuple _ => by simp [eqv]
  | .int _, .dict _ => by simp [eqv]
  | .str _, .none => by simp [eqv]
  | .str _, .bool _ => by simp [eqv]
  | .str _, .int _ => by simp [eqv]
  | .str _, .list _ => by simp [eqv]
  | .str _, .tuple _ => by simp [eqv]
  | .str _, .dict _ => by simp [eqv]
  | .dict _, b => by cases b <;> simp [eqv]
  | .list _, .none => by simp [eqv]
  | .list _, .bool _ => by simp [eqv]
  | .list _, .int _ => by simp [eqv]
  | .list _, .str _ => by simp [eqv]
  | .list _, .tuple _ => by simp [eqv]
  | .list _, .dict _ => by simp [eqv]
  | .tuple _, .none => by simp [eqv]
  | .tuple _, .bool _ => by simp [eqv]
  | .tuple _, .int _ => by simp [eqv]
  | .tuple _, .str _ => by simp [eqv]
  | .tuple _, .list _ => by simp [eqv]
  | .tuple _, .dict _ => by simp [eqv]
theorem eqvAll_comm : ∀ a b : List D, eqvAll a b = eqvAll b a
  | [], [] => rfl
  | [], _ :: _ => by simp [eqvAll]
  | _ :: _, [] => by simp [eqvAll]
  | x :: xs, y :: ys => by rw [eqvAll, eqvAll, eqv_comm x y, eqvAll_comm xs ys]
end
mutual
theorem ordOk_shp : ∀ (n : Nat) (d : D), ordOk n d = true → shp n d = true
  | n, .int _, _ => by simp [shp]
  | 0, .tuple _, h => by simp [ordOk] at h
  | n + 1, .tuple xs, h => by rw [ordOk] at h; rw [shp]; exact ordOkAll_shp n xs h
  | n, .none, h => by cases n <;> simp [ordOk] at h
  | n, .bool _, h => by cases n <;> simp [ordOk] at h
  | n, .str _, h => by cases n <;> simp [ordOk] at h
  | n, .list _, h => by cases n <;> simp [ordOk] at h
  | n, .dict _, h => by cases n <;> simp [ordOk] at h
theorem ordOkAll_shp : ∀ (n : Nat) (ds : List D), ordOkAll n ds = true → shpAll n ds = true
  | n, [], _ => by simp [shpAll]
  | n, x :: xs, h => by
    rw [ordOkAll, Bool.and_eq_true] at h
    rw [shpAll, ordOk_shp n x h.1, ordOkAll_shp n xs h.2]; rfl
end
inductive Ord4 | lt | le | gt | ge
def Ord4.op : Ord4 → CmpOp | .lt => .Lt | .le => .LtE | .gt => .Gt | .ge => .GtE
def Ord4.of : Ord4 → D → D → Bool
  | .lt, a, b => ltD a b | .le, a, b => !ltD b a | .gt, a, b => ltD b a | .ge, a, b => !ltD a b
def Ord4.ofAll : Ord4 → List D → List D → Bool
  | .lt, a, b => ltAllD a b | .le, a, b => !ltAllD b a | .gt, a, b => ltAllD b a | .ge, a, b => !ltAllD a b
def Ord4.len : Ord4 → Nat → Nat → Bool
  | .lt, a, b => decide (a < b) | .le, a, b => decide (a ≤ b) | .gt, a, b => decide (a > b) | .ge, a, b => decide (a ≥ b)
theorem lexAt_shift (e r : Nat → Bool) (z : Bool) : ∀ (k i : Nat), Ob.lexAt e r z (i + 1) k = Ob.lexAt (fun j => e (j + 1)) (fun j => r (j + 1)) z i k
  | 0, _ => rfl
  | k + 1, i => by rw [Ob.lexAt, Ob.lexAt, lexAt_shift e r z k (i + 1)]
theorem lex_all (o : Ord4) : ∀ xs ys : List D, Ob.lexAt (fun j => eqv (xs.getD j .none) (ys.getD j .none)) (fun j => o.of (xs.getD j .none) (ys.getD j .none)) (o.len xs.length ys.length) 0 (min xs.length ys.length) = o.ofAll xs ys
  | [], [] => by cases o <;> simp [Ob.lexAt, Ord4.len, Ord4.ofAll, ltAllD]
  | [], y :: ys => by cases o <;> simp [Ob.lexAt, Ord4.len, Ord4.ofAll, ltAllD]
  | x :: xs, [] => by cases o <;> simp [Ob.lexAt, Ord4.len, Ord4.ofAll, ltAllD]
  | x :: xs, y :: ys => by
    have e : min (x :: xs).length (y :: ys).length = min xs.length ys.length + 1 := by simp only [List.length_cons]; omega
    rw [e, Ob.lexAt, Nat.zero_add, lexAt_shift]
    have hl : o.len (x :: xs).length (y :: ys).length = o.len xs.length ys.length := by cases o <;> simp [Ord4.len]
    rw [hl]
    have ih := lex_all o xs ys
    simp only [List.getD_cons_zero, List.getD_cons_succ] at ih ⊢
    rw [ih]
    cases o <;> simp only [Ord4.of, Ord4.ofAll, ltAllD]
    · rw [eqv_comm y x]; split <;> simp_all
    · rw [eqv_comm y x]
    · split <;> simp_all
theorem Ord4.of_tup (o : Ord4) (xs ys : List D) : o.of (.tuple xs) (.tuple ys) = o.ofAll xs ys := by cases o <;> simp only [Ord4.of, Ord4.ofAll, ltD]
mutual
theorem rcOrd (o : Ord4) : ∀ (da db : D) (n : Nat) (A : Around) (s : Shared) (a b : Value) (as bs : List Addr), Reads s.heap a da as → Reads s.heap b db bs → alikeD da db = true → ordOk n da = true → ordOk n db = true → A.units + n < cLine → Ob.RcOp o.op A s a b (o.of da db)
  | .int i, db, n, A, s, a, b, as, bs, ra, rb, h, ha, hb, hu => by
    cases db with
    | int j =>
      cases ra; cases rb
      cases o
      · exact Ob.RcOp.lt_int _ _ _ _
      · have e : Ord4.of .le (.int i) (.int j) = decide (i ≤ j) := by simp only [Ord4.of, ltD]; exact PySem.W.not_lt_int i j
        rw [e]; exact Ob.RcOp.le_int _ _ _ _
      · exact Ob.RcOp.gt_int _ _ _ _
      · have e : Ord4.of .ge (.int i) (.int j) = decide (j ≤ i) := by simp only [Ord4.of, ltD]; exact PySem.W.not_lt_int j i
        rw [e]; exact Ob.RcOp.ge_int _ _ _ _
    | _ => simp [alikeD] at h
  | .tuple xs, db, 0, A, s, a, b, as, bs, ra, rb, h, ha, hb, hu => by simp [ordOk] at ha
  | .tuple xs, db, n + 1, A, s, a, b, as, bs, ra, rb, h, ha, hb, hu => by
    cases db with
    | tuple ys =>
      rw [ordOk] at ha hb
      rw [alikeD] at h
      cases ra with
      | @tuple l oo vs m _ as₁ h1 h2 h3 h4 =>
        cases rb with
        | @tuple l' oo' vs' m' _ bs₁ k1 k2 k3 k4 =>
          have n1 : vs.size = xs.length := by simpa using SeqAt.ReadsAll.length _ _ _ h4
          have n2 : vs'.size = ys.length := by simpa using SeqAt.ReadsAll.length _ _ _ k4
          have i1 : A.in1.units = A.units + 1 := rfl
          have dx := (shpAll_lay n xs (ordOkAll_shp n xs ha)).2
          have E : ∀ j (j1 : j < vs.size) (j2 : j < vs'.size), SeqAt.EqAt A.in1 s vs[j] vs'[j] (eqv (xs.getD j .none) (ys.getD j .none)) := fun j j1 j2 => by
            have := PySem.W.eqAt_alikeAll xs ys A.in1 s vs.toList vs'.toList _ _ h4 k4 (by rw [← alikeAll_eq]; exact h) (by omega) j (by simpa using j1) (by simpa using j2)
            have e : SeqAt.pairEq xs ys j = eqv (xs.getD j .none) (ys.getD j .none) := by unfold SeqAt.pairEq; rw [eqv_eq]
            rw [e] at this
            simpa using this
          have R : ∀ j (j1 : j < vs.size) (j2 : j < vs'.size), eqv (xs.getD j .none) (ys.getD j .none) = false → Ob.RcOp o.op A.in1 s vs[j] vs'[j] (o.of (xs.getD j .none) (ys.getD j .none)) := fun j j1 j2 _ => by
            have := rcOrdAll o xs ys n A.in1 s vs.toList vs'.toList _ _ h4 k4 h ha hb (by omega) j (by simpa using j1) (by simpa using j2)
            simpa using this
          rw [Ord4.of_tup, ← lex_all o xs ys, ← n1, ← n2]
          cases o
          · exact Ob.RcOp.tuples_lt ⟨_, h1, h2, _, h3⟩ ⟨_, k1, k2, _, k3⟩ (by omega) E R
          · exact Ob.RcOp.tuples_le ⟨_, h1, h2, _, h3⟩ ⟨_, k1, k2, _, k3⟩ (by omega) E R
          · exact Ob.RcOp.tuples_gt ⟨_, h1, h2, _, h3⟩ ⟨_, k1, k2, _, k3⟩ (by omega) E R
          · exact Ob.RcOp.tuples_ge ⟨_, h1, h2, _, h3⟩ ⟨_, k1, k2, _, k3⟩ (by omega) E R
    | _ => simp [alikeD] at h
  | .none, _, n, _, _, _, _, _, _, _, _, _, ha, _, _ => by cases n <;> simp [ordOk] at ha
  | .bool _, _, n, _, _, _, _, _, _, _, _, _, ha, _, _ => by cases n <;> simp [ordOk] at ha
  | .str _, _, n, _, _, _, _, _, _, _, _, _, ha, _, _ => by cases n <;> simp [ordOk] at ha
  | .list _, _, n, _, _, _, _, _, _, _, _, _, ha, _, _ => by cases n <;> simp [ordOk] at ha
  | .dict _, _, n, _, _, _, _, _, _, _, _, _, ha, _, _ => by cases n <;> simp [ordOk] at ha
theorem rcOrdAll (o : Ord4) : ∀ (xs ys : List D) (n : Nat) (A : Around) (s : Shared) (vs ws : List Value) (as bs : List Addr), ReadsAll s.heap vs xs as → ReadsAll s.heap ws ys bs → alikeAllD xs ys = true → ordOkAll n xs = true → ordOkAll n ys = true → A.units + n < cLine →
    ∀ j (h1 : j < vs.length) (h2 : j < ws.length), Ob.RcOp o.op A s vs[j] ws[j] (o.of (xs.getD j .none) (ys.getD j .none))
  | [], _, _, _, _, _, _, _, _, ra, _, _, _, _, _, j, h1, _ => by cases ra; exact absurd h1 (Nat.not_lt_zero _)
  | _ :: _, [], _, _, _, _, _, _, _, _, rb, _, _, _, _, j, _, h2 => by cases rb; exact absurd h2 (Nat.not_lt_zero _)
  | x :: xs, y :: ys, n, A, s, _, _, _, _, ra, rb, h, ha, hb, hu, j, h1, h2 => by
    rw [alikeAllD, Bool.and_eq_true] at h
    rw [ordOkAll, Bool.and_eq_true] at ha hb
    cases ra with
    | cons r rs =>
      cases rb with
      | cons r' rs' =>
        cases j with
        | zero => exact rcOrd o x y n A s _ _ _ _ r r' h.1 ha.1 hb.1 hu
        | succ j => exact rcOrdAll o xs ys n A s _ _ _ _ rs rs' h.2 ha.2 hb.2 hu j (Nat.lt_of_succ_lt_succ h1) (Nat.lt_of_succ_lt_succ h2)
end
end OH
end

section
set_option autoImplicit false
set_option linter.all false
set_option Elab.async false
set_option maxRecDepth 100000
set_option maxHeartbeats 1000000
namespace OH
open PySem L2
section
mutual
theorem keyN_eqv : ∀ (a b : D) (x y : NestedKey), keyN a = some x → keyN b = some y → eqv a b = decide (x = y)
  | .int i, b, x, y, ha, hb => by
    cases ha
    cases b <;> simp only [keyN, Option.some.injEq, reduceCtorEq] at hb
    · subst hb; simp [eqv, Bool.beq_eq_decide_eq]
    · subst hb; simp [eqv]
    · simp only [Option.map_eq_some_iff] at hb
      obtain ⟨_, _, rfl⟩ := hb
      simp [eqv]
  | .str i, b, x, y, ha, hb => by
    cases ha
    cases b <;> simp only [keyN, Option.some.injEq, reduceCtorEq] at hb
    · subst hb; simp [eqv]
    · subst hb; simp [eqv, Bool.beq_eq_decide_eq]
    · simp only [Option.map_eq_some_iff] at hb
      obtain ⟨_, _, rfl⟩ := hb
      simp [eqv]
  | .tuple xs, b, x, y, ha, hb => by
    simp only [keyN, Option.map_eq_some_iff] at ha
    obtain ⟨ks, hk, rfl⟩ := ha
    cases b <;> simp only [keyN, Option.some.injEq, reduceCtorEq] at hb
    · subst hb; simp [eqv]
    · subst hb; simp [eqv]
    · simp only [Option.map_eq_some_iff] at hb
      obtain ⟨ls, hl, rfl⟩ := hb
      rw [eqv, keyNs_eqv _ _ _ _ hk hl]
      simp
  | .none, _, _, _, ha, _ => by simp [keyN] at ha
  | .bool _, _, _, _, ha, _ => by simp [keyN] at ha
  | .list _, _, _, _, ha, _ => by simp [keyN] at ha
  | .dict _, _, _, _, ha, _ => by simp [keyN] at ha
theorem keyNs_eqv : ∀ (a b : List D) (x y : List NestedKey), keyNs a = some x → keyNs b = some y → eqvAll a b = decide (x = y)
  | [], b, x, y, ha, hb => by
    cases ha
    cases b with
    | nil => cases hb; simp [eqvAll]
    | cons c r =>
      simp only [keyNs] at hb
      split at hb
      · cases hb; simp [eqvAll]
      · cases hb
  | a :: as, b, x, y, ha, hb => by
    simp only [keyNs] at ha
    split at ha
    · rename_i k ks hk hks
      cases ha
      cases b with
      | nil => cases hb; simp [eqvAll]
      | cons c r =>
        simp only [keyNs] at hb
        split at hb
        · rename_i l ls hl hls
          cases hb
          rw [eqvAll, keyN_eqv _ _ _ _ hk hl, keyNs_eqv _ _ _ _ hks hls]
          simp
        · cases hb
    · cases ha
end
mutual
theorem keyN_depth : ∀ (n : Nat) (d : D) (k : NestedKey), isKey n d = true → keyN d = some k → k.depth ≤ n
  | n, .int _, k, _, e => by cases e; simp [NestedKey.depth]
  | n, .str _, k, _, e => by cases e; simp [NestedKey.depth]
  | 0, .tuple xs, k, h, e => by simp [isKey] at h
  | n + 1, .tuple xs, k, h, e => by
    simp only [keyN, Option.map_eq_some_iff] at e
    obtain ⟨ks, hk, rfl⟩ := e
    rw [isKey] at h
    have := keyNs_depth n xs ks h hk
    rw [NestedKey.depth]; omega
  | _, .none, _, _, e => by simp [keyN] at e
  | _, .bool _, _, _, e => by simp [keyN] at e
  | _, .list _, _, _, e => by simp [keyN] at e
  | _, .dict _, _, _, e => by simp [keyN] at e
theorem keyNs_depth : ∀ (n : Nat) (ds : List D) (ks : List NestedKey), isKeyAll n ds = true → keyNs ds = some ks → NestedKey.depthAll ks ≤ n
  | n, [], ks, _, e => by cases e; simp [NestedKey.depthAll]
  | n, d :: ds, ks, h, e => by
    simp only [keyNs] at e
    split at e
    · rename_i k ks' hk hks
      cases e
      rw [isKeyAll, Bool.and_eq_true] at h
      have h1 := keyN_depth n d k h.1 hk
      have h2 := keyNs_depth n ds ks' h.2 hks
      rw [NestedKey.depthAll]; omega
    · cases e
end
mutual
theorem keyN_some : ∀ (n : Nat) (d : D), isKey n d = true → ∃ k, keyN d = some k
  | _, .int _, _ => ⟨_, rfl⟩
  | _, .str _, _ => ⟨_, rfl⟩
  | 0, .tuple _, h => by simp [isKey] at h
  | n + 1, .tuple xs, h => by
    rw [isKey] at h
    obtain ⟨ks, e⟩ := keyNs_some n xs h
    exact ⟨.tup ks, by simp [keyN, e]⟩
  | n, .none, h => by cases n <;> simp [isKey] at h
  | n, .bool _, h => by cases n <;> simp [isKey] at h
  | n, .list _, h => by cases n <;> simp [isKey] at h
  | n, .dict _, h => by cases n <;> simp [isKey] at h
theorem keyNs_some : ∀ (n : Nat) (ds : List D), isKeyAll n ds = true → ∃ ks, keyNs ds = some ks
  | _, [], _ => ⟨_, rfl⟩
  | n, d :: ds, h => by
    rw [isKeyAll, Bool.and_eq_true] at h
    obtain ⟨k, e⟩ := keyN_some n d h.1
    obtain ⟨ks, e2⟩ := keyNs_some n ds h.2
    exact ⟨k :: ks, by simp [keyNs, e, e2]⟩
end
theorem isKeyT_key {d : D} (h : isKeyT d = true) : isKey 5 d = true ∧ ∃ xs, d = .tuple xs := by
  cases d <;> simp only [isKeyT, reduceCtorEq, Bool.false_eq_true] at h
  rename_i xs
  exact ⟨by rw [isKey]; exact h, xs, rfl⟩
end
section
variable {P : Program} {w : World} {K : PySem.W.Frag} {X : Cx} {pins : List (Addr × Obj)} {τ : L2.St} {G H : Hp} {s : Shared}
mutual
theorem Rep.nested (I : Inv X pins τ H s) (sb : Sub G H) : ∀ (d : D) (v : V) (u : Value) (k : NestedKey), Rep P w X.K G v d → keyN d = some k → RelV v u → NestedIs s.heap k u
  | .int i, _, _, _, h, e, r => by
    cases h; cases e
    obtain ⟨t, rfl⟩ := r
    exact .int i t
  | .str i, _, _, _, h, e, r => by
    cases h; cases e
    obtain ⟨t, rfl⟩ := r
    exact .text i t
  | .tuple xs, _, _, k, h, e, r => by
    simp only [keyN, Option.map_eq_some_iff] at e
    obtain ⟨ks, hk, rfl⟩ := e
    cases h with
    | tup a b =>
      cases r
      obtain ⟨its, rv, ⟨o, ho, hc, n, hd⟩, _⟩ := I.tuple (sb.sqT a)
      exact .tup ho hc hd (Reps.nested I sb xs _ its ks b hk rv)
  | .none, _, _, _, _, e, _ => by simp [keyN] at e
  | .bool _, _, _, _, _, e, _ => by simp [keyN] at e
  | .list _, _, _, _, _, e, _ => by simp [keyN] at e
  | .dict _, _, _, _, _, e, _ => by simp [keyN] at e
theorem Reps.nested (I : Inv X pins τ H s) (sb : Sub G H) : ∀ (ds : List D) (vs : List V) (us : List Value) (ks : List NestedKey), Reps P w X.K G vs ds → keyNs ds = some ks → Vals vs us → NestedAll s.heap ks us
  | [], _, _, _, h, e, r => by
    cases h; cases e; cases r; exact .nil
  | d :: ds, _, _, ks, h, e, r => by
    simp only [keyNs] at e
    split at e
    · rename_i k ks' hk hks
      cases e
      cases h with
      | cons a b =>
        cases r with
        | cons r1 r2 => exact .cons (Rep.nested I sb d _ _ k a hk r1) (Reps.nested I sb ds _ _ ks' b hks r2)
    · cases e
end
/-- a kept tuple of keys is the key that it is -/
theorem Rep.isKey (I : Inv X pins τ H s) (sb : Sub G H) {d : D} {b : Addr} {k : NestedKey} (h : Rep P w X.K G (.ref b) d) (e : keyN d = some k) (t : isKeyT d = true) : (nestedKind X.prog X.w).is s.heap k b :=
  ⟨Rep.nested I sb d _ _ k h e rfl, by
    have := keyN_depth 5 d k (isKeyT_key t).1 e
    omega⟩
theorem RepX.keys (I : Inv X pins τ H s) (sb : Sub G H) : ∀ {xs : List (NestedKey × Addr × Value)} {kvs : List (D × D)}, RepX P w X.K G xs kvs → ∀ x ∈ xs, (nestedKind X.prog X.w).is s.heap x.1 x.2.1
  | _, _, .nil, x, hx => by simp at hx
  | _, _, .cons a t b c d r, x, hx => by
    rcases List.mem_cons.mp hx with rfl | hx
    · exact Rep.isKey I sb b a t
    · exact RepX.keys I sb r x hx
theorem RepG.keys (I : Inv X pins τ H s) (sb : Sub G H) {H1 : Hp} : ∀ {xs : List (NestedKey × Addr × Value)} {ls : List Addr} {kvs : List (D × List D)}, RepG P w X.K G H1 xs ls kvs → ∀ x ∈ xs, (nestedKind X.prog X.w).is s.heap x.1 x.2.1
  | _, _, _, .nil, x, hx => by simp at hx
  | _, _, _, .cons a t b c d r, x, hx => by
    rcases List.mem_cons.mp hx with rfl | hx
    · exact Rep.isKey I sb b a t
    · exact RepG.keys I sb r x hx
/-- the dict at a, as the library's rules want it -/
theorem dictOf (I : Inv X pins τ H s) {a : Addr} {o : Obj} {xs : List (NestedKey × Addr × Value)} (e : H a = some (hoD a o)) (hd : DictO X.prog X.w a o xs) (hk : ∀ x ∈ xs, (nestedKind X.prog X.w).is s.heap x.1 x.2.1) : s.heap.DictOfH (nestedKind X.prog X.w) a xs := by
  obtain ⟨es, ep, d1, d2⟩ := hd.data
  have h0 : s.heap.get? a = some o := (I.hok a _ e).1
  exact ⟨o, es, ep, h0, hd.exact, d1, d2, hk, hd.nd⟩
theorem hoD_ok {a : Addr} {o : Obj} {h : Heap} {H : Hp} (e : h.get? a = some o) : ObjOk X.prog X.w H h a (hoD a o) := ⟨e, ⟨o, e⟩, fun _ _ p q => q o p⟩
/-- the dict at a was written -/
theorem dictWritten (I : Inv X pins τ H s) {a : Addr} {o : Obj} {h' : Heap} {xs xs' : List (NestedKey × Addr × Value)} {t : Nat} (e : H a = some (hoD a o)) (hd : DictO X.prog X.w a o xs) (hm : h'.DictOfH (nestedKind X.prog X.w) a xs') (hs : Heap.SameBut a s.heap h') (hl : xs'.length ≤ sizeLine) :
    ∃ o', DictO X.prog X.w a o' xs' ∧ Inv X pins τ (upd H a (hoD a o')) { s with heap := h', toks := t } := by
  obtain ⟨o', es, ep, h0, ex, d1, d2, _, nd⟩ := hm
  refine ⟨o', ⟨ex, ⟨es, ep, d1, d2⟩, nd, hd.sys, hl⟩, ?_⟩
  exact I.write (by rw [e]; trivial) (.inl rfl) (fun b u hb q => (hs.2 b hb).trans q) ⟨_, h0⟩ (hoD_ok h0)
theorem RepX.look (G : Hp) {nk : NestedKey} {k : D} (hk : keyN k = some nk) : ∀ {xs : List (NestedKey × Addr × Value)} {kvs : List (D × D)}, RepX P w K G xs kvs →
    (atKey xs nk = none ∧ look k kvs = none) ∨ ∃ b u v d, atKey xs nk = some (b, u) ∧ look k kvs = some d ∧ RelV v u ∧ Rep P w K G v d
  | _, _, .nil => .inl ⟨rfl, rfl⟩
  | _, _, .cons (nk := nk') (k := k') (d := d) (b := b) (u := u) (v := v) a t b' c d' r => by
    have e := keyN_eqv k' k nk' nk a hk
    by_cases q : nk' = nk
    · subst q
      refine .inr ⟨b, u, v, d, by simp [atKey], ?_, c, d'⟩
      rw [OH.look, e]; simp
    · have e' : eqv k' k = false := by rw [e]; exact decide_eq_false q
      rcases RepX.look G hk r with ⟨h1, h2⟩ | ⟨b1, u1, v1, d1, h1, h2, h3, h4⟩
      · refine .inl ⟨?_, by simp [OH.look, e', h2]⟩
        simpa [atKey, List.find?_cons, q] using h1
      · refine .inr ⟨b1, u1, v1, d1, ?_, by simp [OH.look, e', h2], h3, h4⟩
        simpa [atKey, List.find?_cons, q] using h1
theorem RepX.len : ∀ {xs : List (NestedKey × Addr × Value)} {kvs : List (D × D)}, RepX P w K G xs kvs → xs.length = kvs.length
  | _, _, .nil => rfl
  | _, _, .cons _ _ _ _ _ r => congrArg (· + 1) (RepX.len r)
theorem RepX.append : ∀ {xs ys : List (NestedKey × Addr × Value)} {kvs ls : List (D × D)}, RepX P w K G xs kvs → RepX P w K G ys ls → RepX P w K G (xs ++ ys) (kvs ++ ls)
  | _, _, _, _, .nil, s => s
  | _, _, _, _, .cons a t b c d r, s => .cons a t b c d (RepX.append r s)
theorem put_new {α : Type} {k : D} {v : α} : ∀ {kvs : List (D × α)}, look k kvs = none → put k v kvs = kvs ++ [(k, v)]
  | [], _ => rfl
  | p :: r, h => by
    rw [look] at h
    rw [put]
    cases e : eqv p.1 k with
    | true => rw [e] at h; simp at h
    | false =>
      rw [e] at h
      simp only [Bool.false_eq_true, if_false] at h ⊢
      rw [put_new h]; rfl
theorem RepX.map_put {nk : NestedKey} {k d : D} {v : V} {u : Value} (hk : keyN k = some nk) (rv : RelV v u) (hd : Rep P w K G v d) : ∀ {xs : List (NestedKey × Addr × Value)} {kvs : List (D × D)}, RepX P w K G xs kvs → (xs.map (·.1)).Nodup → (atKey xs nk).isSome → RepX P w K G (xs.map (putAt nk u)) (put k d kvs)
  | _, _, .nil, _, h => by simp [atKey] at h
  | _, _, .cons (nk := nk') (k := k') (d := d0) (b := b) (xs := xs) a t b' c d' r, nd, h => by
    rw [List.map_cons, List.nodup_cons] at nd
    have e := keyN_eqv k' k nk' nk a hk
    rw [List.map_cons]
    by_cases q : nk' = nk
    · subst q
      have e' : eqv k' k = true := by rw [e]; simp
      rw [put]; simp only [e', if_true]
      rw [map_putAt_of_not_mem xs nk' u nd.1, putAt]
      simp only [if_true]
      exact .cons a t b' rv hd r
    · have e' : eqv k' k = false := by rw [e]; exact decide_eq_false q
      rw [put]; simp only [e', Bool.false_eq_true, if_false]
      rw [putAt]; simp only [q, if_false]
      refine .cons a t b' c d' (RepX.map_put hk rv hd r nd.2 ?_)
      simpa [atKey, List.find?_cons, q] using h
theorem RepX.put {nk : NestedKey} {k d : D} {v : V} {u : Value} {b : Addr} (hk : keyN k = some nk) (t : isKeyT k = true) (hb : Rep P w K G (.ref b) k) (rv : RelV v u) (hd : Rep P w K G v d) {xs : List (NestedKey × Addr × Value)} {kvs : List (D × D)} (r : RepX P w K G xs kvs) (nd : (xs.map (·.1)).Nodup) :
    RepX P w K G (storedH xs nk b u) (OH.put k d kvs) := by
  rcases RepX.look G hk r with ⟨h1, h2⟩ | ⟨b1, u1, v1, d1, h1, h2, _, _⟩
  · rw [storedH_new h1, put_new h2]
    exact r.append (.cons hk t hb rv hd .nil)
  · rw [storedH_old h1]
    exact r.map_put hk rv hd nd (by rw [h1]; rfl)
theorem RepX.drp {nk : NestedKey} {k : D} (hk : keyN k = some nk) : ∀ {xs : List (NestedKey × Addr × Value)} {kvs : List (D × D)}, RepX P w K G xs kvs → (xs.map (·.1)).Nodup → RepX P w K G (withoutH xs nk) (drp k kvs)
  | _, _, .nil, _ => .nil
  | _, _, .cons (nk := nk') (k := k') (xs := xs) a t b c d r, nd => by
    rw [List.map_cons, List.nodup_cons] at nd
    have e := keyN_eqv k' k nk' nk a hk
    by_cases q : nk' = nk
    · subst q
      have e' : eqv k' k = true := by rw [e]; simp
      rw [OH.drp]; simp only [e', if_true]
      have hw : ∀ p, withoutH ((nk', p) :: xs) nk' = xs := fun p => by
        unfold withoutH
        rw [List.filter_cons]
        simp only [ne_eq, not_true_eq_false, decide_false, Bool.false_eq_true, if_false]
        refine List.filter_eq_self.mpr fun x hx => ?_
        have : x.1 ≠ nk' := fun z => nd.1 (List.mem_map.mpr ⟨x, hx, z⟩)
        simpa using this
      rw [hw]; exact r
    · have e' : eqv k' k = false := by rw [e]; exact decide_eq_false q
      rw [OH.drp]; simp only [e', Bool.false_eq_true, if_false]
      have hw : ∀ p, withoutH ((nk', p) :: xs) nk = (nk', p) :: withoutH xs nk := fun p => by
        unfold withoutH
        rw [List.filter_cons]
        simp [q]
      rw [hw]
      exact .cons a t b c d (RepX.drp hk r nd.2)
end
end OH
end

section
set_option autoImplicit false
set_option linter.all false
set_option Elab.async false
set_option maxRecDepth 100000
set_option maxHeartbeats 1000000
namespace OH
open PySem L2
theorem line_eq : LINE = sizeLine := by rw [sizeLine_eq]; rfl
section
variable {P : Program} {w : World} {K : PySem.W.Frag} {G H : Hp} {v : V}
theorem BRep.int_ {i : Int} (h : BRep P w K G H v (.int i)) : v = .int i := by cases h with | rep h => cases h; rfl
theorem BRep.str_ {x : Str} (h : BRep P w K G H v (.str x)) : v = .str x := by cases h with | rep h => cases h; rfl
theorem BRep.bl_ {b : Bool} (h : BRep P w K G H v (.bool b)) : v = .bl b := by cases h with | rep h => cases h; rfl
theorem BRep.non_ (h : BRep P w K G H v .none) : v = .non := by cases h with | rep h => cases h; rfl
theorem BRep.tup_ {ds : List D} (h : BRep P w K G H v (.tuple ds)) : ∃ a vs, v = .ref a ∧ SqT K G a vs ∧ Reps P w K G vs ds := by
  cases h with | rep h => cases h with | tup a b => exact ⟨_, _, rfl, a, b⟩
theorem BRep.lst_ {ds : List D} (sb : Sub G H) (h : BRep P w K G H v (.list ds)) : ∃ a vs, v = .ref a ∧ LstAt K H a vs ∧ Reps P w K G vs ds := by
  cases h with
  | rep h => cases h with | lst a b => exact ⟨_, _, rfl, Sub.la sb a, b⟩
  | lst a b => exact ⟨_, _, rfl, a, b⟩
theorem BRep.dic_ {kvs : List (D × D)} (sb : Sub G H) (h : BRep P w K G H v (.dict kvs)) : (∃ a o xs, v = .ref a ∧ H a = some (hoD a o) ∧ DictO P w a o xs ∧ RepX P w K G xs kvs) ∨ ∃ a ks, v = .ref a ∧ H a = some (.dK ks) ∧ RepK P w K G ks kvs ∧ kvs ≠ [] := by
  cases h with
  | rep h =>
    cases h with
    | dic a b c => exact .inl ⟨_, _, _, rfl, sb _ _ a, b, c⟩
    | dk a b c => exact .inr ⟨_, _, rfl, sb _ _ a, b, c⟩
  | dic a b c => exact .inl ⟨_, _, _, rfl, a, b, c⟩
theorem Sub.none {p : Addr} (sb : Sub G H) (hp : H p = Option.none) : G p = Option.none := by
  cases q : G p with
  | none => rfl
  | some u => rw [sb p u q] at hp; cases hp
theorem Reps.ints : ∀ {vs : List V} {ds : List D} {ns : List Int}, Reps P w K G vs ds → intsD ds = some ns → vs = ns.map V.int
  | _, _, _, .nil, e => by cases e; rfl
  | _, _, _, .cons (d := d) a b, e => by
    cases d <;> simp only [intsD, reduceCtorEq, Option.map_eq_some_iff] at e
    obtain ⟨ms, h, rfl⟩ := e
    cases a
    rw [Reps.ints b h]; rfl
theorem Reps.bools : ∀ {vs : List V} {ds : List D} {ns : List Bool}, Reps P w K G vs ds → boolsD ds = some ns → vs = ns.map V.bl
  | _, _, _, .nil, e => by cases e; rfl
  | _, _, _, .cons (d := d) a b, e => by
    cases d <;> simp only [boolsD, reduceCtorEq, Option.map_eq_some_iff] at e
    obtain ⟨ms, h, rfl⟩ := e
    cases a
    rw [Reps.bools b h]; rfl
theorem Reps.strs : ∀ {vs : List V} {ds : List D} {ns : List Str}, Reps P w K G vs ds → strsD ds = some ns → vs = ns.map V.str
  | _, _, _, .nil, e => by cases e; rfl
  | _, _, _, .cons (d := d) a b, e => by
    cases d <;> simp only [strsD, reduceCtorEq, Option.map_eq_some_iff] at e
    obtain ⟨ms, h, rfl⟩ := e
    cases a
    rw [Reps.strs b h]; rfl
end
section
variable {X : Cx}
/-- what is wanted of a result r, from the heap H on -/
abbrev Kont (X : Cx) (G H : Hp) (r : RV) (Q : VK) : Prop := ∀ G' H' v, Ext G H G' H' → RepR X.prog X.w X.K G' H' H r v → Q v H'
theorem Kont.d {G H : Hp} {x : D} {Q : VK} {v : V} (k : Kont X G H (.d x) Q) (sb : Sub G H) (h : Rep X.prog X.w X.K G v x) : Q v H := k G H v (Ext.refl sb) (.d h)
theorem Kont.tup {G H : Hp} {ds : List D} {vs : List V} {Q : VK} (k : Kont X G H (.d (.tuple ds)) Q) (sb : Sub G H) (h : Reps X.prog X.w X.K G vs ds) (p : Addr) (hp : H p = none) : Q (.ref p) (upd H p (.tup vs)) :=
  k _ _ _ (Ext.allocG sb hp) (.d (.tup (.inl (.inl upd_same)) (h.mono (Ext.allocG (o := .tup vs) sb hp).g)))
theorem Kont.lst {G H : Hp} {ds : List D} {vs : List V} {Q : VK} (k : Kont X G H (.fl ds) Q) (sb : Sub G H) (h : Reps X.prog X.w X.K G vs ds) (p : Addr) (hp : H p = none) : Q (.ref p) (upd H p (.lst vs)) :=
  k _ _ _ (Ext.alloc sb hp) (.own (.fl upd_same h) (by simp) fun a ha => by
    have e : a = p := by simpa using ha
    subst e; exact ⟨hp, sb.none hp⟩)
/-- a two-place operation on data -/
def rOp (X : Cx) (F : D → D → Res RV) : R2 := fun x y H Q => ∃ G a b r, Sub G H ∧ BRep X.prog X.w X.K G H x a ∧ BRep X.prog X.w X.K G H y b ∧ F a b = .ok r ∧ Kont X G H r Q
def rCmp (X : Cx) (F : D → D → Res Bool) : R2 := fun x y H Q => ∃ G a b c, Sub G H ∧ BRep X.prog X.w X.K G H x a ∧ BRep X.prog X.w X.K G H y b ∧ F a b = .ok c ∧ Q (.bl c) H
/-- list + list -/
theorem op_catR : OpR X (binaryOp .Add) (fun x y H Q => ∃ l b xs zs, x = .ref l ∧ y = .ref b ∧ LstAt X.K H l xs ∧ LstAt X.K H b zs ∧ xs.length + zs.length ≤ sizeLine ∧ ∀ p, H p = none → Q (.ref p) (upd H p (.lst (xs ++ zs)))) := by
  intro pins s σ H x y v u Q I rx ry h
  obtain ⟨l, b, xs, zs, rfl, rfl, hH, hB, hz, q⟩ := h
  cases rx
  cases ry
  obtain ⟨z, its, n, r, e⟩ := hH.ok I
  obtain ⟨z2, its2, n2, r2, e2⟩ := hB.ok I
  have hl := r.length
  have hl2 := r2.length
  refine PySem.P.add_list e e2 ?_ (by rw [List.size_toArray, List.size_toArray]; omega)
  have ea : its.toArray ++ its2.toArray = (its ++ its2).toArray := by simp
  rw [ea]
  exact ⟨.ref _, _, I.lnew (t' := s.toks) (r.append r2) (by rw [List.length_append]; omega), rfl, q _ I.fresh⟩
theorem op_binAdd : OpR X (binaryOp .Add) (rOp X (binD .add)) := by
  intro pins s τ H x y v u Q I rx ry h
  obtain ⟨G, a, b, r, sb, ha, hb, hf, k⟩ := h
  cases a <;> cases b <;> simp only [binD, reduceCtorEq] at hf
  · cases hf; have e1 := ha.int_; have e2 := hb.int_; subst e1 e2
    exact op_add pins s τ H _ _ v u Q I rx ry ⟨_, _, rfl, rfl, k.d sb (.int _)⟩
  · split at hf
    · cases hf; have e1 := ha.str_; have e2 := hb.str_; subst e1 e2
      exact op_add_str pins s τ H _ _ v u Q I rx ry ⟨_, _, rfl, rfl, by rw [← line_eq]; assumption, k.d sb (.str _)⟩
    · cases hf
  · split at hf
    · rename_i hl
      cases hf
      obtain ⟨p, vs, rfl, h1, h2⟩ := ha.lst_ sb
      obtain ⟨q, ws, rfl, h3, h4⟩ := hb.lst_ sb
      exact op_catR pins s τ H _ _ v u Q I rx ry ⟨p, q, vs, ws, rfl, rfl, h1, h3, by rw [h2.length, h4.length, ← line_eq]; exact hl, k.lst sb (h2.append h4)⟩
    · cases hf
  · split at hf
    · rename_i hl
      cases hf
      obtain ⟨p, vs, rfl, h1, h2⟩ := ha.tup_
      obtain ⟨q, ws, rfl, h3, h4⟩ := hb.tup_
      refine op_catA pins s τ H _ _ v u Q I rx ry ⟨p, q, vs, ws, rfl, rfl, sb.sqT h1, sb.sqT h3, by rw [h2.length, h4.length, ← line_eq]; exact hl, fun e => ?_, fun _ e => ?_, fun _ _ => k.tup sb (h2.append h4)⟩
      · subst e; cases h2; exact k.d sb (.tup h3 h4)
      · subst e; cases h4; rw [List.append_nil] at k; exact k.d sb (.tup h1 h2)
    · cases hf
theorem op_binSub : OpR X (binaryOp .Sub) (rOp X (binD .sub)) := by
  intro pins s τ H x y v u Q I rx ry h
  obtain ⟨G, a, b, r, sb, ha, hb, hf, k⟩ := h
  cases a <;> cases b <;> simp only [binD, reduceCtorEq] at hf
  cases hf; have e1 := ha.int_; have e2 := hb.int_; subst e1 e2
  exact op_sub pins s τ H _ _ v u Q I rx ry ⟨_, _, rfl, rfl, k.d sb (.int _)⟩
theorem op_repR : OpR X (binaryOp .Mult) (fun x y H Q => ∃ l k xs, x = .ref l ∧ y = .int k ∧ LstAt X.K H l xs ∧ 0 ≤ k ∧ k < 2 ^ 63 ∧ xs.length * k.toNat ≤ sizeLine ∧
  ∀ p, H p = none → Q (.ref p) (upd H p (.lst (List.replicate k.toNat xs).flatten))) := by
  intro pins s σ H x y v u Q I rx ry h
  obtain ⟨l, k, xs, rfl, rfl, hH, h1, h2, hz, q⟩ := h
  cases rx
  obtain ⟨t, rfl⟩ := ry
  obtain ⟨z, its, n, r, e⟩ := hH.ok I
  have hl := r.length
  have hlen : its.toArray.size * k.toNat ≤ sizeLine := by rw [List.size_toArray, ← hl]; exact hz
  have hcap : ¬ its.toArray.size * k.toNat > (2 ^ 63 - 1) / 8 := by
    have : (sizeLine : Nat) ≤ (2 ^ 63 - 1) / 8 := by decide
    omega
  have hfit : ¬ (!Builtin.List.listFitsIndex k) = true := by
    rw [fitsIndex_both (by omega) h2]
    exact Bool.false_ne_true
  have hlong : ¬ Builtin.List.listTooLong (its.toArray.size * k.toNat) = true := by
    rw [notLongL hlen]
    exact Bool.false_ne_true
  have hnew : List.foldl (fun x1 x2 => x1 ++ x2) #[] (List.replicate (if its.toArray.isEmpty = true then 0 else k.toNat) its.toArray) = (List.replicate k.toNat its).flatten.toArray := by
    have f0 := foldl_rep its (if its.toArray.isEmpty = true then 0 else k.toNat) []
    rw [List.nil_append] at f0
    refine f0.trans ?_
    cases its with
    | nil => simp
    | cons a r' => rw [if_neg (by simp)]
  refine wpAny_binaryOp_repeat_ref (T := "list") (U := "int") (by decide) ⟨_, e, rfl⟩ (fun s' => typeIs_int s' k t) noFill_list_mul F.fills_int_mul F.slot_int_rmul repeat_list F.slot_int_index.lookup
    (call_meets F.slot_int_rmul (typeIs_int s k t) F.entry_int_rmul (F.args_int_rmul_2 _ _) (int___rmul___int_list k t l its.toArray n)
      ⟨e, rfl, ⟨_, e, rfl⟩, call_meets F.slot_list_mul ⟨_, e, rfl⟩ F.entry_list_mul (F.args_list_mul_2 _ _) (AutoListH.list___mul___list_int_3 l its.toArray n k t hfit hcap hlong) ⟨e, ?_⟩⟩)
  rw [hnew]
  exact ⟨.ref _, _, I.lnew (t' := s.toks) (r.rep k.toNat) (by rw [PyProof.Rows.lm_len_rep_flat, Nat.mul_comm]; exact hz), rfl, q _ I.fresh⟩
theorem Reps.rep {P : Program} {w : World} {K : PySem.W.Frag} {G : Hp} {vs : List V} {ds : List D} (h : Reps P w K G vs ds) : ∀ n : Nat, Reps P w K G (List.replicate n vs).flatten (List.replicate n ds).flatten
  | 0 => .nil
  | n + 1 => by
    rw [List.replicate_succ, List.replicate_succ, List.flatten_cons, List.flatten_cons]
    exact h.append (Reps.rep h n)
theorem op_binMulF : OpR X (binaryOp .Mult) (rOp X (binD .mul)) := by
  intro pins s τ H x y v u Q I rx ry h
  obtain ⟨G, a, b, r, sb, ha, hb, hf, k⟩ := h
  cases a <;> cases b <;> simp only [binD, reduceCtorEq] at hf
  · split at hf
    · rename_i hm
      cases hf; have e1 := ha.int_; have e2 := hb.int_; subst e1 e2
      rcases hm with hm | hm | hm
      · exact op_mul pins s τ H _ _ v u Q I rx ry ⟨_, _, rfl, rfl, .inl hm, k.d sb (.int _)⟩
      · exact op_mul pins s τ H _ _ v u Q I rx ry ⟨_, _, rfl, rfl, .inr hm, k.d sb (.int _)⟩
      · exact op_mulW pins s τ H _ _ v u Q I rx ry ⟨_, _, rfl, rfl, hm, k.d sb (.int _)⟩
    · cases hf
  · split at hf
    · rename_i hm
      cases hf
      have e2 := hb.int_; subst e2
      obtain ⟨l, vs, rfl, hr, rr⟩ := ha.lst_ sb
      exact op_repR pins s τ H _ _ v u Q I rx ry ⟨l, _, vs, rfl, rfl, hr, hm.1, hm.2.1, by rw [rr.length, ← line_eq]; exact hm.2.2, k.lst sb (rr.rep _)⟩
    · cases hf
  · split at hf
    · rename_i hm
      cases hf
      have e2 := hb.int_; subst e2
      obtain ⟨l, vs, rfl, hr, rr⟩ := ha.tup_
      exact op_repT pins s τ H _ _ v u Q I rx ry ⟨l, _, vs, rfl, rfl, sb.sqT hr, fun e => hm.1 (by subst e; cases rr; rfl), hm.2.1, hm.2.2.1, by rw [rr.length]; exact hm.2.2.2, k.tup sb (rr.rep _)⟩
    · cases hf
theorem op_binDiv : OpR X (binaryOp .FloorDiv) (rOp X (binD .fdiv)) := by
  intro pins s τ H x y v u Q I rx ry h
  obtain ⟨G, a, b, r, sb, ha, hb, hf, k⟩ := h
  cases a <;> cases b <;> simp only [binD, reduceCtorEq] at hf
  split at hf
  · rename_i hm
    cases hf; have e1 := ha.int_; have e2 := hb.int_; subst e1 e2
    exact op_fdivW pins s τ H _ _ v u Q I rx ry ⟨_, _, rfl, rfl, hm, k.d sb (.int _)⟩
  · cases hf
theorem op_binMod : OpR X (binaryOp .Mod) (rOp X (binD .mod)) := by
  intro pins s τ H x y v u Q I rx ry h
  obtain ⟨G, a, b, r, sb, ha, hb, hf, k⟩ := h
  cases a <;> cases b <;> simp only [binD, reduceCtorEq] at hf
  split at hf
  · rename_i hm
    cases hf; have e1 := ha.int_; have e2 := hb.int_; subst e1 e2
    exact op_mod pins s τ H _ _ v u Q I rx ry ⟨_, _, rfl, rfl, hm, k.d sb (.int _)⟩
  · cases hf
theorem op_binPow : OpR X (binaryOp .Pow) (rOp X (binD .pow)) := by
  intro pins s τ H x y v u Q I rx ry h
  obtain ⟨G, a, b, r, sb, ha, hb, hf, k⟩ := h
  cases a <;> cases b <;> simp only [binD, reduceCtorEq] at hf
  split at hf
  · rename_i hm
    cases hf; have e1 := ha.int_; have e2 := hb.int_; subst e1 e2
    exact op_pow pins s τ H _ _ v u Q I rx ry ⟨_, _, rfl, rfl, hm, k.d sb (.int _)⟩
  · cases hf
theorem op_cmpEq (hu : X.A.units + 64 < cLine) : OpR X (compareOp .Eq) (rCmp X (cmpD .eq)) := by
  intro pins s τ H x y v u Q I rx ry h
  obtain ⟨G, a, b, c, sb, ha, hb, hf, k⟩ := h
  simp only [cmpD] at hf
  split at hf
  · rename_i hs
    rw [Bool.and_eq_true] at hs
    cases hf
    refine op_eqD hu pins s τ H _ _ v u Q I rx ry ⟨a, b, ha.dp sb hs.1, hb.dp sb hs.2, shp_shaped hs.1 (by decide), shp_shaped hs.2 (by decide), ?_⟩
    rw [← eqv_eq]; exact k
  · cases hf
theorem op_cmpNe (hu : X.A.units + 64 < cLine) : OpR X (compareOp .NotEq) (rCmp X (cmpD .ne)) := by
  intro pins s τ H x y v u Q I rx ry h
  obtain ⟨G, a, b, c, sb, ha, hb, hf, k⟩ := h
  simp only [cmpD] at hf
  split at hf
  · rename_i hs
    rw [Bool.and_eq_true] at hs
    cases hf
    refine op_neD hu pins s τ H _ _ v u Q I rx ry ⟨a, b, ha.dp sb hs.1, hb.dp sb hs.2, shp_shaped hs.1 (by decide), shp_shaped hs.2 (by decide), ?_⟩
    rw [← eqv_eq]; exact k
  · cases hf
def Ord4.c : Ord4 → COp | .lt => .lt | .le => .le | .gt => .gt | .ge => .ge
theorem op_cmpOrd (hu : X.A.units + 64 < cLine) (o : Ord4) : OpR X (compareOp o.op) (rCmp X (cmpD o.c)) := by
  intro pins s τ H x y v u Q I rx ry h
  obtain ⟨G, a, b, c, sb, ha, hb, hf, k⟩ := h
  have hf' : ltOk a b = true ∧ c = o.of a b := by
    cases o <;> (simp only [Ord4.c, cmpD] at hf; split at hf <;> first | (cases hf; exact ⟨by assumption, rfl⟩) | cases hf)
  obtain ⟨hok, rfl⟩ := hf'
  simp only [ltOk, Bool.and_eq_true] at hok
  obtain ⟨⟨h1, h2⟩, h3⟩ := hok
  obtain ⟨as, ra⟩ := Dp.reads I a x v (ha.dp sb (ordOk_shp _ _ h2)) rx
  obtain ⟨bs, rb⟩ := Dp.reads I b y u (hb.dp sb (ordOk_shp _ _ h3)) ry
  have R := rcOrd o a b 20 X.A s v u as bs ra rb h1 h2 h3 (by omega)
  have z := R X.prog X.w X.xe (EP X pins τ Q) ⟨.bl _, H, I, rfl, k⟩
  cases o <;> exact z
theorem op_cmpIsN : OpR X (compareOp .Is) (rCmp X (cmpD .isN)) := by
  intro pins s τ H x y v u Q I rx ry h
  obtain ⟨G, a, b, c, sb, ha, hb, hf, k⟩ := h
  cases b <;> simp only [cmpD, reduceCtorEq] at hf
  have e := hb.non_; subst e
  refine op_isN pins s τ H _ _ v u Q I rx ry ⟨rfl, ?_⟩
  have e : decide (x = V.non) = c := by
    cases hf
    cases a with
    | none => rw [ha.non_]; rfl
    | bool b => rw [ha.bl_]; rfl
    | int b => rw [ha.int_]; rfl
    | str b => rw [ha.str_]; rfl
    | list b => obtain ⟨_, _, e, _⟩ := ha.lst_ sb; rw [e]; rfl
    | tuple b => obtain ⟨_, _, e, _⟩ := ha.tup_; rw [e]; rfl
    | dict b => rcases ha.dic_ sb with ⟨_, _, _, e, _⟩ | ⟨_, _, e, _⟩ <;> (rw [e]; rfl)
  rw [e]; exact k
theorem op_cmpNotN : OpR X (compareOp .IsNot) (rCmp X (cmpD .notN)) := by
  intro pins s τ H x y v u Q I rx ry h
  obtain ⟨G, a, b, c, sb, ha, hb, hf, k⟩ := h
  cases b <;> simp only [cmpD, reduceCtorEq] at hf
  have e := hb.non_; subst e
  refine op_notN pins s τ H _ _ v u Q I rx ry ⟨rfl, ?_⟩
  have e : (!decide (x = V.non)) = c := by
    cases hf
    cases a with
    | none => rw [ha.non_]; rfl
    | bool b => rw [ha.bl_]; rfl
    | int b => rw [ha.int_]; rfl
    | str b => rw [ha.str_]; rfl
    | list b => obtain ⟨_, _, e, _⟩ := ha.lst_ sb; rw [e]; rfl
    | tuple b => obtain ⟨_, _, e, _⟩ := ha.tup_; rw [e]; rfl
    | dict b => rcases ha.dic_ sb with ⟨_, _, _, e, _⟩ | ⟨_, _, e, _⟩ <;> (rw [e]; rfl)
  rw [e]; exact k
theorem op_cmpIsB : OpR X (compareOp .Is) (rCmp X (cmpD .isB)) := by
  intro pins s τ H x y v u Q I rx ry h
  obtain ⟨G, a, b, c, sb, ha, hb, hf, k⟩ := h
  cases a <;> cases b <;> simp only [cmpD, reduceCtorEq] at hf
  cases hf; have e1 := ha.bl_; have e2 := hb.bl_; subst e1 e2
  refine op_is_bl pins s τ H _ _ v u Q I rx ry ⟨_, _, rfl, rfl, ?_⟩
  rw [← Bool.beq_eq_decide_eq]; exact k
theorem op_cmpNotB : OpR X (compareOp .IsNot) (rCmp X (cmpD .notB)) := by
  intro pins s τ H x y v u Q I rx ry h
  obtain ⟨G, a, b, c, sb, ha, hb, hf, k⟩ := h
  cases a <;> cases b <;> simp only [cmpD, reduceCtorEq] at hf
  cases hf; have e1 := ha.bl_; have e2 := hb.bl_; subst e1 e2
  refine op_isnot_bl pins s τ H _ _ v u Q I rx ry ⟨_, _, rfl, rfl, ?_⟩
  rw [← Bool.beq_eq_decide_eq]; exact k
theorem any_eq (d : D) (ds : List D) : (ds.any fun z => PyData.eqv z d) = ds.any fun z => eqv z d := by
  congr 1; funext z; rw [eqv_eq]
theorem lookF {nd : Bool} {P : Program} {w : World} {K : PySem.W.Frag} {G : Hp} {key : Key} : ∀ {ks : List (Key × V)} {kvs : List (D × D)}, RepK P w K G ks kvs → (valV ks key = none ∧ look (keyD key) kvs = none) ∨ ∃ v d, valV ks key = some v ∧ look (keyD key) kvs = some d ∧ Rep P w K G v d
  | _, _, .nil => .inl ⟨rfl, rfl⟩
  | _, _, .cons (key := k2) (v := v) (d := d) a r => by
    have e : eqv (keyD k2) (keyD key) = decide (k2 = key) := by
      cases k2 <;> cases key <;> simp [keyD, eqv, Bool.beq_eq_decide_eq]
    by_cases q : k2 = key
    · subst q
      refine .inr ⟨v, d, ?_, ?_, a⟩
      · simp [valV]
      · rw [look, e]; simp
    · rcases lookF (nd := nd) r with ⟨h1, h2⟩ | ⟨v1, d1, h1, h2, h3⟩
      · refine .inl ⟨?_, ?_⟩
        · simpa [valV, q] using h1
        · rw [look, e]; simpa [q] using h2
      · refine .inr ⟨v1, d1, ?_, ?_, h3⟩
        · simpa [valV, q] using h1
        · rw [look, e]; simpa [q] using h2
end
end OH
end

section
set_option autoImplicit false
set_option linter.all false
set_option Elab.async false
set_option maxRecDepth 100000
set_option maxHeartbeats 1000000
namespace OH
open PySem L2 PySem.Spec PyProof.Rows
section
variable {X : Cx}
theorem nk_room {A : Around} (hu : A.units + 64 < cLine) {P : Program} {w : World} : (nestedKind P w).room A.in1 := by
  show A.in1.units + 8 < cLine
  have i1 : A.in1.units = A.units + 1 := rfl
  omega
theorem isSome_look {G : Hp} {P : Program} {w : World} {K : PySem.W.Frag} {nk : NestedKey} {k : D} (hk : keyN k = some nk) {xs : List (NestedKey × Addr × Value)} {kvs : List (D × D)} (r : RepX P w K G xs kvs) : (atKey xs nk).isSome = (look k kvs).isSome := by
  rcases RepX.look G hk r with ⟨h1, h2⟩ | ⟨b, u, v, d, h1, h2, _⟩ <;> simp [h1, h2]
/-- a dict asked by a tuple: it is one with tuple keys, or none of its keys is a tuple -/
theorem lookOk_T {kvs : List (D × D)} {k : D} (h : lookOk k kvs = true) : (isKeyT k = true ∧ ∀ p ∈ kvs, isKeyT p.1 = true) ∨ (isKeyF k = true ∧ kvs ≠ [] ∧ ∀ p ∈ kvs, isKeyF p.1 = true) := by
  simp only [lookOk, Bool.or_eq_true, Bool.and_eq_true, List.all_eq_true] at h
  rcases h with ⟨a, b⟩ | ⟨⟨a, c⟩, b⟩
  · exact .inl ⟨a, b⟩
  · exact .inr ⟨a, by intro e; subst e; simp at c, b⟩
theorem keyT_F {d : D} (a : isKeyT d = true) (b : isKeyF d = true) : False := by cases d <;> simp [isKeyT, isKeyF] at a b
theorem isKeyF_key {d : D} (h : isKeyF d = true) : ∃ k : Key, keyD k = d := by
  cases d <;> simp only [isKeyF, reduceCtorEq, Bool.false_eq_true] at h
  · exact ⟨.inl _, rfl⟩
  · exact ⟨.inr _, rfl⟩
theorem keyD_F (k : Key) : isKeyF (keyD k) = true := by cases k <;> rfl
theorem RepX.allT {G : Hp} {P : Program} {w : World} {K : PySem.W.Frag} : ∀ {xs : List (NestedKey × Addr × Value)} {kvs : List (D × D)}, RepX P w K G xs kvs → ∀ p ∈ kvs, isKeyT p.1 = true
  | _, _, .nil, p, hp => by simp at hp
  | _, _, .cons _ t _ _ _ r, p, hp => by
    rcases List.mem_cons.mp hp with rfl | hp
    · exact t
    · exact RepX.allT r p hp
theorem RepK.allF {G : Hp} {P : Program} {w : World} {K : PySem.W.Frag} : ∀ {xs : List (Key × V)} {kvs : List (D × D)}, RepK P w K G xs kvs → ∀ p ∈ kvs, isKeyF p.1 = true
  | _, _, .nil, p, hp => by simp at hp
  | _, _, .cons (key := key) _ r, p, hp => by
    rcases List.mem_cons.mp hp with rfl | hp
    · exact keyD_F key
    · exact RepK.allF r p hp
/-- a dict that is asked by k, as one of the two -/
theorem dictAsk {G H : Hp} {v : V} {kvs : List (D × D)} {k : D} (sb : Sub G H) (h : BRep X.prog X.w X.K G H v (.dict kvs)) (ok : lookOk k kvs = true) :
    (∃ a o xs, v = .ref a ∧ H a = some (hoD a o) ∧ DictO X.prog X.w a o xs ∧ RepX X.prog X.w X.K G xs kvs ∧ isKeyT k = true) ∨ ∃ a ks key, v = .ref a ∧ H a = some (.dK ks) ∧ RepK X.prog X.w X.K G ks kvs ∧ keyD key = k := by
  rcases h.dic_ sb with ⟨a, o, xs, rfl, e, d, r⟩ | ⟨a, ks, rfl, e, r, ne⟩
  · rcases lookOk_T ok with ⟨t, _⟩ | ⟨_, ne, f⟩
    · exact .inl ⟨a, o, xs, rfl, e, d, r, t⟩
    · cases kvs with
      | nil => exact absurd rfl ne
      | cons p q => exact (keyT_F (r.allT p (by simp)) (f p (by simp))).elim
  · rcases lookOk_T ok with ⟨_, f⟩ | ⟨t, _, _⟩
    · cases kvs with
      | nil => exact absurd rfl ne
      | cons p q => exact (keyT_F (f p (by simp)) (r.allF p (by simp))).elim
    · obtain ⟨key, e'⟩ := isKeyF_key t
      exact .inr ⟨a, ks, key, rfl, e, r, e'⟩
theorem BRep.key_ {G H : Hp} {P : Program} {w : World} {K : PySem.W.Frag} {v : V} {k : D} (h : BRep P w K G H v k) (t : isKeyT k = true) : ∃ b nk, v = .ref b ∧ Rep P w K G (.ref b) k ∧ keyN k = some nk := by
  obtain ⟨i5, xs, rfl⟩ := isKeyT_key t
  obtain ⟨nk, e⟩ := keyN_some 5 _ i5
  obtain ⟨a, vs, rfl, h1, h2⟩ := h.tup_
  exact ⟨a, nk, rfl, .tup h1 h2, e⟩
theorem BRep.keyF_ {G H : Hp} {P : Program} {w : World} {K : PySem.W.Frag} {v : V} {k : Key} (h : BRep P w K G H v (keyD k)) : v = kV k := by
  cases k with
  | inl i => exact h.int_
  | inr x => exact h.str_
theorem oneC_eq {x : D} {c : Nat} (h : oneC x = some c) : x = .str ⟨#[c]⟩ := by
  cases x <;> simp only [oneC, reduceCtorEq] at h
  rename_i x
  split at h
  · rename_i a e
    cases h
    congr 1
    have : x.cps = #[c] := by
      have := congrArg List.toArray e
      simpa using this
    cases x; simp_all
  · cases h
theorem op_cmpIn (hu : X.A.units + 66 < cLine) : OpR X (compareOp .In) (rCmp X (cmpD .inn)) := by
  intro pins s τ H x y v u Q I rx ry h
  obtain ⟨G, a, b, c, sb, ha, hb, hf, k⟩ := h
  have hf' : inD a b = .ok c := by cases b <;> (first | exact hf | (cases a <;> exact hf))
  cases b with
  | list ys =>
    simp only [inD] at hf'
    split at hf'
    · rename_i hs
      rw [Bool.and_eq_true] at hs
      cases hf'
      have s2 : shp 31 (.list ys) = true := by rw [shp]; exact hs.2
      obtain ⟨as, r1⟩ := Dp.reads I a x v (ha.dp sb hs.1) rx
      obtain ⟨bs, r2⟩ := Dp.reads I _ y u (hb.dp sb s2) ry
      exact SeqAt.in_list_reads r2 r1 (shpAll_lay _ _ hs.2).1 (shp_lay _ _ hs.1).1 (by have := (shp_lay _ _ hs.1).2; omega) ⟨.bl _, H, I, rfl, by rw [any_eq]; exact k⟩
    · cases hf'
  | tuple ys =>
    simp only [inD] at hf'
    split at hf'
    · rename_i hs
      rw [Bool.and_eq_true] at hs
      cases hf'
      have s2 : shp 31 (.tuple ys) = true := by rw [shp]; exact hs.2
      obtain ⟨as, r1⟩ := Dp.reads I a x v (ha.dp sb hs.1) rx
      obtain ⟨bs, r2⟩ := Dp.reads I _ y u (hb.dp sb s2) ry
      exact SeqAt.in_tuple_reads r2 r1 (shpAll_lay _ _ hs.2).1 (shp_lay _ _ hs.1).1 (by have := (shp_lay _ _ hs.1).2; omega) ⟨.bl _, H, I, rfl, by rw [any_eq]; exact k⟩
    · cases hf'
  | dict kvs =>
    simp only [inD] at hf'
    split at hf'
    · rename_i hs
      cases hf'
      rcases dictAsk sb hb hs with ⟨p, o, xs, rfl, e, d, r, t⟩ | ⟨p, ks, key, rfl, e, r, rfl⟩
      · obtain ⟨b, nk, rfl, hr, hk⟩ := ha.key_ t
        cases rx; cases ry
        refine wpAny_in_heap (nk_room (by omega)) (Rep.isKey I sb hr hk t) d.sys (dictOf I e d (r.keys I sb)) ?_
        rw [isSome_look hk r]
        exact ⟨.bl _, H, I.tok _, rfl, k⟩
      · have e1 := ha.keyF_; subst e1
        cases ry
        refine d_in (by omega) I (DGet.k e) rx fun s' I' => ⟨.bl _, H, I', rfl, ?_⟩
        rcases lookF (nd := true) (key := key) r with ⟨h1, h2⟩ | ⟨v1, d1, h1, h2, _⟩ <;> (rw [h1]; rw [h2] at k; exact k)
    · cases hf'
  | str z =>
    cases a with
    | str w =>
      simp only [inD] at hf'
      split at hf'
      · rename_i c q
        have q := oneC_eq q
        rw [q] at ha
        have e1 := ha.str_; have e2 := hb.str_; subst e1 e2
        cases hf'
        exact op_in_sign pins s τ H _ _ v u Q I rx ry ⟨_, _, rfl, rfl, k⟩
      · cases hf'
    | _ => simp [inD, oneC] at hf'
  | _ => simp [inD] at hf'
theorem op_cmpNin (hu : X.A.units + 66 < cLine) : OpR X (compareOp .NotIn) (rCmp X (cmpD .nin)) := by
  intro pins s τ H x y v u Q I rx ry h
  obtain ⟨G, a, b, c0, sb, ha, hb, hf, k⟩ := h
  have hf' : ∃ c, inD a b = .ok c ∧ c0 = !c := by
    have e : cmpD .nin a b = (inD a b).bind fun c => .ok (!c) := by cases b <;> (first | rfl | (cases a <;> rfl))
    rw [e] at hf
    cases q : inD a b with
    | ok c => rw [q] at hf; cases hf; exact ⟨c, rfl, rfl⟩
    | err _ => rw [q] at hf; cases hf
    | bad => rw [q] at hf; cases hf
  obtain ⟨c, hf', rfl⟩ := hf'
  cases b with
  | list ys =>
    simp only [inD] at hf'
    split at hf'
    · rename_i hs
      rw [Bool.and_eq_true] at hs
      cases hf'
      have s2 : shp 31 (.list ys) = true := by rw [shp]; exact hs.2
      obtain ⟨as, r1⟩ := Dp.reads I a x v (ha.dp sb hs.1) rx
      obtain ⟨bs, r2⟩ := Dp.reads I _ y u (hb.dp sb s2) ry
      exact SeqAt.notIn_list_reads r2 r1 (shpAll_lay _ _ hs.2).1 (shp_lay _ _ hs.1).1 (by have := (shp_lay _ _ hs.1).2; omega) ⟨.bl _, H, I, rfl, by rw [any_eq]; exact k⟩
    · cases hf'
  | tuple ys =>
    simp only [inD] at hf'
    split at hf'
    · rename_i hs
      rw [Bool.and_eq_true] at hs
      cases hf'
      have s2 : shp 31 (.tuple ys) = true := by rw [shp]; exact hs.2
      obtain ⟨as, r1⟩ := Dp.reads I a x v (ha.dp sb hs.1) rx
      obtain ⟨bs, r2⟩ := Dp.reads I _ y u (hb.dp sb s2) ry
      exact SeqAt.notIn_tuple_reads r2 r1 (shpAll_lay _ _ hs.2).1 (shp_lay _ _ hs.1).1 (by have := (shp_lay _ _ hs.1).2; omega) ⟨.bl _, H, I, rfl, by rw [any_eq]; exact k⟩
    · cases hf'
  | dict kvs =>
    simp only [inD] at hf'
    split at hf'
    · rename_i hs
      cases hf'
      rcases dictAsk sb hb hs with ⟨p, o, xs, rfl, e, d, r, t⟩ | ⟨p, ks, key, rfl, e, r, rfl⟩
      · obtain ⟨b, nk, rfl, hr, hk⟩ := ha.key_ t
        cases rx; cases ry
        refine wpAny_notIn_heap (nk_room (by omega)) (Rep.isKey I sb hr hk t) d.sys (dictOf I e d (r.keys I sb)) ?_
        rw [isSome_look hk r]
        exact ⟨.bl _, H, I.tok _, rfl, k⟩
      · have e1 := ha.keyF_; subst e1
        cases ry
        refine d_notIn (by omega) I (DGet.k e) rx fun s' I' => ⟨.bl _, H, I', rfl, ?_⟩
        rcases lookF (nd := true) (key := key) r with ⟨h1, h2⟩ | ⟨v1, d1, h1, h2, _⟩ <;> (rw [h1]; rw [h2] at k; exact k)
    · cases hf'
  | str z =>
    cases a with
    | str w =>
      simp only [inD] at hf'
      split at hf'
      · rename_i c q
        have q := oneC_eq q
        rw [q] at ha
        have e1 := ha.str_; have e2 := hb.str_; subst e1 e2
        cases hf'
        exact op_notIn_sign pins s τ H _ _ v u Q I rx ry ⟨_, _, rfl, rfl, k⟩
      · cases hf'
    | _ => simp [inD, oneC] at hf'
  | _ => simp [inD] at hf'
def rGet (X : Cx) : R2 := fun x y H Q => ∃ G a b d, Sub G H ∧ BRep X.prog X.w X.K G H x a ∧ BRep X.prog X.w X.K G H y b ∧ getD a b = .ok d ∧ Kont X G H (.d d) Q
theorem ixD_eq (n : Nat) (i : Int) : ixD n i = ixN n i := rfl
theorem ixGet (hu : X.A.units + 66 < cLine) : IxR X (rGet X) := by
  intro value slice pins s τ H x y v u Q I rx ry h hs
  obtain ⟨G, a, b, d, sb, ha, hb, hf, k⟩ := h
  cases a with
  | list xs =>
    cases b with
    | int i =>
      simp only [getD] at hf
      obtain ⟨p, vs, rfl, h1, h2⟩ := ha.lst_ sb
      have e2 := hb.int_; subst e2
      split at hf
      · rename_i j hj
        split at hf
        · rename_i z hz
          cases hf
          obtain ⟨v1, e1, r1⟩ := h2.get hz
          exact ix_list value slice pins s τ H _ _ v u Q I rx ry ⟨p, vs, i, v1, rfl, rfl, h1.sq, by unfold atI; rw [← ixD_eq, h2.length, hj]; exact e1, k.d sb r1⟩ hs
        · cases hf
      · cases hf
    | _ => simp [getD] at hf
  | tuple xs =>
    cases b with
    | int i =>
      simp only [getD] at hf
      obtain ⟨p, vs, rfl, h1, h2⟩ := ha.tup_
      have e2 := hb.int_; subst e2
      split at hf
      · rename_i j hj
        split at hf
        · rename_i z hz
          cases hf
          obtain ⟨v1, e1, r1⟩ := h2.get hz
          exact ix_tup value slice pins s τ H _ _ v u Q I rx ry ⟨p, vs, i, v1, rfl, rfl, sb.sqT h1, by unfold atI; rw [← ixD_eq, h2.length, hj]; exact e1, k.d sb r1⟩ hs
        · cases hf
      · cases hf
    | _ => simp [getD] at hf
  | str z =>
    cases b with
    | int i =>
      simp only [getD] at hf
      have e1 := ha.str_; have e2 := hb.int_; subst e1 e2
      split at hf
      · rename_i hl
        split at hf
        · rename_i j hj
          cases hf
          have hj' := ixN_seq (by rw [← ixD_eq]; exact hj)
          refine ix_str value slice pins s τ H _ _ v u Q I rx ry ⟨z, i, z.cps.getD j 0, rfl, rfl, by rw [← line_eq]; exact hl, ?_, k.d sb (.str _)⟩ hs
          unfold atI
          have : z.cps.toList.length = z.length := by simp [Str.length]
          rw [this, ← ixD_eq, hj]
          show z.cps.toList[j]? = _
          have hlt : j < z.cps.size := hj'.2.1
          simp [Array.getElem?_toList, hlt]
        · cases hf
      · cases hf
    | _ => simp [getD] at hf
  | dict kvs =>
    have hf' : (if lookOk b kvs then (match look b kvs with | some v => (Res.ok v : Res D) | none => .bad) else .bad) = .ok d := by
      cases b <;> exact hf
    split at hf'
    · rename_i ok
      split at hf'
      · rename_i z hz
        cases hf'
        rcases dictAsk sb ha ok with ⟨p, o, xs, rfl, e, dd, r, t⟩ | ⟨p, ks, key, rfl, e, r, rfl⟩
        · obtain ⟨b', nk, rfl, hr, hk⟩ := hb.key_ t
          cases rx; cases ry
          rcases RepX.look G hk r with ⟨h1, h2⟩ | ⟨b1, u1, v1, d1, h1, h2, rv, rd⟩
          · rw [h2] at hz; cases hz
          · rw [h2] at hz; cases hz
            have dm := dictOf I e dd (r.keys I sb)
            exact subscriptTail_builtinR (x := u1) dm.typeIs slot_dict_getitem.lookup (wpAny_getItem_heap (Q := fun q s' => q = u1 ∧ EP X pins τ Q q s') (nk_room (by omega)) (Rep.isKey I sb hr hk t) dm h1 ⟨rfl, ⟨v1, H, I.tok _, rv, k.d sb rd⟩⟩) hs
        · have e1 := hb.keyF_; subst e1
          cases rx
          rcases lookF (nd := true) (key := key) r with ⟨h1, h2⟩ | ⟨v1, d1, h1, h2, rd⟩
          · rw [h2] at hz; cases hz
          · rw [h2] at hz; cases hz
            obtain ⟨z0, hd, vs, rel, dm⟩ := dk_of I.hok e
            obtain ⟨w', hw, rw'⟩ := RelO.some_of (v := v1) (o := valueAt vs key) (by rw [← h1]; exact rel.val key)
            exact subscriptTail_builtinR (x := w') dm.typeIs slot_dict_getitem.lookup (wpAny_getItem_of (Q := fun q s' => q = w' ∧ EP X pins τ Q q s') (kV_is ry) dm.mapOf hw ⟨rfl, ⟨v1, H, I.tok _, rw', k.d sb rd⟩⟩) hs
      · cases hf'
    · cases hf'
  | _ => cases b <;> simp [getD] at hf
def rCut (X : Cx) : V → Option Int → Option Int → Hp → VK → Prop := fun x lo hi H Q => ∃ G a r, Sub G H ∧ BRep X.prog X.w X.K G H x a ∧ slcD a lo hi = .ok r ∧ Kont X G H r Q
theorem clip_eq (n d : Nat) (o : Option Int) : clipO n d o = HT.sIx n d o := by
  cases o with
  | none => rfl
  | some i =>
    show clipD n i = if i < 0 then (i + (n : Int)).toNat else min i.toNat n
    unfold clipD
    by_cases h : 0 ≤ i
    · rw [if_pos h, if_neg (by omega)]
    · rw [if_neg h, if_pos (by omega)]
theorem cutL_eq {α : Type} (xs : List α) (lo hi : Option Int) : cutL xs lo hi = (xs.drop (HT.sIx xs.length 0 lo)).take (HT.sIx xs.length xs.length hi - HT.sIx xs.length 0 lo) := by
  unfold cutL
  simp only [clip_eq]
  rw [List.drop_take]
theorem Reps.cut {G : Hp} {P : Program} {w : World} {K : PySem.W.Frag} {vs : List V} {ds : List D} (h : Reps P w K G vs ds) (lo hi : Option Int) : Reps P w K G (cutV vs lo hi) (cutL ds lo hi) := by
  rw [cutL_eq]
  unfold cutV
  rw [h.length]
  exact (h.drop _).take _
theorem slCut : SlR X (rCut X) := by
  intro pins s σ H x v vl vu lo hi sl Q I rx hs pl pu h
  obtain ⟨G, a, r, sb, ha, hf, k⟩ := h
  cases a with
  | list xs =>
    simp only [slcD] at hf
    cases hf
    obtain ⟨p, vs, rfl, h1, h2⟩ := ha.lst_ sb
    exact sl_list pins s σ H _ v vl vu lo hi sl Q I rx hs pl pu ⟨p, vs, rfl, h1.sq, k.lst sb (h2.cut lo hi)⟩
  | tuple xs =>
    simp only [slcD] at hf
    cases hf
    obtain ⟨p, vs, rfl, h1, h2⟩ := ha.tup_
    refine sl_tupA pins s σ H _ v vl vu lo hi sl Q I rx hs pl pu ⟨p, vs, rfl, sb.sqT h1, fun ⟨q1, q2⟩ => ?_, fun _ => k.tup sb (h2.cut lo hi)⟩
    have e : cutL xs lo hi = xs := by
      rw [cutL_eq, ← h2.length, q1, q2]; simp [h2.length]
    rw [e] at k
    exact k.d sb (.tup h1 h2)
  | str z =>
    simp only [slcD] at hf
    split at hf
    · rename_i hl
      cases hf
      have e1 := ha.str_; subst e1
      refine sl_str pins s σ H _ v vl vu lo hi sl Q I rx hs pl pu ⟨z, rfl, by rw [← line_eq]; exact hl, ?_⟩
      have e : strL (cutL z.cps.toList lo hi) = .str (cutS z lo hi) := by
        unfold strL cutS
        rw [cutL_eq]
        have : z.cps.toList.length = z.length := by simp [Str.length]
        rw [this]
      rw [e] at k
      exact k.d sb (.str _)
    · cases hf
  | _ => simp [slcD] at hf
end
end OH
end

section
set_option autoImplicit false
set_option linter.all false
set_option Elab.async false
set_option maxRecDepth 100000
set_option maxHeartbeats 1000000
namespace OHS
open PySem PySem.W PySem.Calls PyProof.Rows
section
variable {prog : Program} {w : World} {A : Around} {E : Value → Shared → Prop} {s : Shared}
theorem collect_tuple {l : Addr} {vs : List Value} {Q : List Value → Shared → Prop} (hl : IsTup s.heap l vs.toArray)
    (h : Q vs { s with heap := (s.heap.push (seqObj "list" #[] 0)).update s.heap.objs.size (Obj.mapSeq (· ++ vs.toArray)) }) (hsz : vs.length ≤ sizeLine) :
    wpAny (model prog w) A (collect (.ref l)) Q E s := by
  obtain ⟨o, ho, hc, n, hd⟩ := id hl
  unfold collect
  refine wpAny_bind (wpAny_runValue (codeAny_builtin entry_proto_collect' ?_))
  show wpAny _ _ (do again (.builtin "list.__iadd__" ⟨[← newList [], .ref l], []⟩)) _ _ s
  refine wpAny_bind (wpAny_newList (wpAny_pure ⟨Code.quiet_builtin _ (by decide +kernel), codeAny_builtin entry_list_iadd' ?_⟩))
  show wpAny _ _ (Builtin.List.listExtendWith (.ref s.heap.objs.size) (.ref l) (.ref s.heap.objs.size)) _ _ { s with heap := s.heap.push (seqObj "list" #[] 0) }
  unfold Builtin.List.listExtendWith
  have ho' : (s.heap.push (seqObj "list" #[] 0)).get? l = some o := Heap.get?_push_of_some _ ho
  refine wpAny_bind (wpAny_typeOf (T := "tuple") ⟨o, ho', hc⟩ ?_)
  have ht : (Value.type "tuple" == Value.type "tuple") = true := by rfl
  rw [if_pos (by rw [ht]; simp)]
  refine wpAny_bind (listItems_at ho' hd ?_)
  refine wpAny_bind (listItems_at (xs := #[]) (n := 0) (Heap.get?_push_size _ rfl) rfl ?_)
  rw [if_neg (by simp)]
  refine wpAny_bind (listUpdate_at (xs := #[]) (n := 0) (Heap.get?_push_size _ rfl) rfl ?_ (Nat.zero_le _) (by show (#[] ++ vs.toArray).size ≤ sizeLine + 1; simp only [Array.size_append, List.size_toArray, List.length_nil]; omega))
  refine wpAny_pure ?_
  show wpAny (model prog w) A (do
      let o ← load s.heap.objs.size
      match o.data with
      | .seq xs _ => pure xs.toList
      | _ => unsupported "internal:collect") Q E { s with heap := (s.heap.push (seqObj "list" #[] 0)).update s.heap.objs.size (Obj.mapSeq (· ++ vs.toArray)) }
  refine wpAny_bind (wpAny_load (get?_update_seq (Heap.get?_push_size _ rfl) _) ?_)
  show wpAny _ _ (pure ((#[] : Array Value) ++ vs.toArray).toList) Q E _
  rw [show ((#[] : Array Value) ++ vs.toArray).toList = vs by simp]
  exact wpAny_pure h
theorem sorted_of_sortT {l : Addr} {vs : List Value} {kw : List (Str × Value)} {Q : Value → Shared → Prop} (hl : IsTup s.heap l vs.toArray) (hL : vs.length ≤ sizeLine) (ha1 : argsOk "sorted" ⟨[.ref l], kw⟩) (ha2 : ∀ x, argsOk "list.sort" ⟨[.ref x], kw⟩)
    (body : ∀ E' : Value → Shared → Prop, wpAny (model prog w) A.in1.in1 (Builtin.«list.sort» ⟨[.ref (s.heap.objs.size + 1)], kw⟩) (fun f s' => f = .done (.ret .none) ∧ Q (.ref (s.heap.objs.size + 1)) s') E' { s with heap := copyHeap s.heap vs }) :
    wpAny (model prog w) A (call (.builtin "sorted") [.ref l] kw) Q E s := by
  refine call_function_entry_kw kind_sorted plain_sorted entry_sorted ha1 ?_
  unfold Builtin.«sorted»
  refine wpAny_bind (m := checkCount "sorted" 1 1 _) (wpAny_pure ?_)
  refine wpAny_bind (collect_tuple hl ?_ hL)
  refine wpAny_bind (wpAny_newList ?_ hL)
  have hsz : ((s.heap.push (seqObj "list" #[] 0)).update s.heap.objs.size (Obj.mapSeq (· ++ vs.toArray))).objs.size = s.heap.objs.size + 1 := by
    rw [Heap.size_update, size_push']
  show wpAny _ _ _ _ _ { s with heap := copyHeap s.heap vs }
  rw [hsz]
  refine wpAny_bind (wpAny_holding (wpAny_call_entry_kw slot_list_sort ⟨_, copyHeap_at s.heap vs, rfl⟩ entry_list_sort ?body (ha2 _)))
  case body =>
    show wpAny (model prog w) A.in1.in1 (Builtin.«list.sort» ⟨[.ref (s.heap.objs.size + 1)], kw⟩) _ _ _
    refine wpAny_mono (body _) (fun f s' hf => ?_) fun _ _ e => e
    obtain ⟨rfl, hq⟩ := hf
    exact ⟨_, rfl, wpAny_pure ⟨_, rfl, hq⟩⟩
variable {β : Type} {R : Value → β → Prop} {enc : β → PyData} {bs : List β} {vs : List Value}
/-- sorted(t), t a tuple -/
theorem sorted_dataT {l : Addr} {Q : Value → Shared → Prop} (hl : IsTup s.heap l vs.toArray) (e : EachIs R vs bs) (er : EachIs (fun v b => ∃ as, Reads s.heap v (enc b) as) vs bs) (hal : AllAlike (bs.map enc)) (hk : Sortable (bs.map enc)) (hL : bs.length ≤ sizeLine)
    (hu : ∀ b, b ∈ bs → A.units + 2 + (enc b).depth < cLine) (h : ∀ out, out.length = bs.length → EachIs R out (bs.mergeSort (dataLe false enc)) → Q (.ref (s.heap.objs.size + 1)) { s with heap := sortedAll s.heap vs (List.toArray out) }) :
    wpAny (model prog w) A (call (.builtin "sorted") [.ref l]) Q E s := by
  have er' : EachIs (fun v b => ∃ as, Reads (sortingHeap (copyHeap s.heap vs) (s.heap.objs.size + 1) vs) v (enc b) as) vs bs := er.mono fun _ _ ⟨as, r⟩ => ⟨as, PyProof.Rows.Reads.keeps (fun _ _ => sorting_copy_old) r⟩
  have S := (SortsAt.data (prog := prog) (w := w) (A := A.in1.in1) (s := { s with heap := sortingHeap (copyHeap s.heap vs) (s.heap.objs.size + 1) vs }) (each_map (R := fun v d => ∃ as, Reads (sortingHeap (copyHeap s.heap vs) (s.heap.objs.size + 1) vs) v d as) enc er') hal hk (bound_map hu))
  exact sorted_of_sortT hl (by rw [e.length]; exact hL) (args_sorted1 _) (fun _ => args_list_sort _) fun _ => list_sort_vals (s := { s with heap := copyHeap s.heap vs }) (copyHeap_at s.heap vs) S (by rw [e.length]; exact hL) ⟨rfl, h _ (by rw [sortVals_length false rfl]; exact e.length) (sortVals_data false e er' hal)⟩
theorem preSum_take (ns : List Int) : ∀ n, preSum (fun i => ns.getD i 0) n = (ns.take n).sum
  | 0 => rfl
  | n + 1 => by
    rw [preSum, preSum_take ns n]
    by_cases h : n < ns.length
    · rw [List.take_succ_eq_append_getElem h, List.sum_append]
      simp [h]
    · have h1 : ns.take (n + 1) = ns := List.take_of_length_le (by omega)
      have h2 : ns.take n = ns := List.take_of_length_le (by omega)
      rw [h1, h2]
      simp [List.getD, List.getElem?_eq_none (Nat.le_of_not_lt h)]
/-- sum(t), t a tuple of ints -/
theorem sum_tuple {l : Addr} {its : List Value} {ns : List Int} {Q : Value → Shared → Prop} (hh : A.handled = none) (hl : s.heap.IsTuple l its.toArray) (hi : IntsAre its ns)
    (h : ∀ h' tk t', (∀ b o, s.heap.get? b = some o → h'.get? b = some o) → Q (.int ns.sum t') { s with heap := h', toks := tk }) : wpAny (model prog w) A (call (.builtin "sum") [.ref l]) Q E s := by
  have hlt : l < s.heap.objs.size := by obtain ⟨_, e, _⟩ := hl; exact Heap.lt_size e
  refine call_sum_walkG (wpAny_pyIter_tuple hl ?_)
  refine ⟨_, _, _, _, _, _, fun i => ns.getD i 0, rfl, Walks.tuple (A := A.in1) hh _ l (Nat.ne_of_lt hlt) its.toArray, ⟨⟨_, Heap.get?_push_size _ rfl, rfl, rfl⟩, hl.push _⟩, fun b hb => ?_, fun i v hv => ?_, fun h' tk t' hk => ?_⟩
  · show b < (s.heap.push _).objs.size
    rw [Heap.size_push]
    rcases List.mem_cons.mp hb with rfl | hb
    · exact Nat.lt_succ_self _
    · have : b = l := by simpa using hb
      subst this; exact Nat.lt_succ_of_lt hlt
  · exact PyProof.Rows.IntsAre.int_at hi i v (by simpa using hv)
  · have e : preSum (fun i => ns.getD i 0) its.toArray.size = ns.sum := by
      rw [preSum_take, List.take_of_length_le (by rw [List.size_toArray, hi.length]; exact Nat.le_refl _)]
    rw [e]
    refine h h' tk t' fun b o q => hk b o ?_ (Heap.get?_push_of_some _ q)
    intro hb
    have : b = s.heap.objs.size := by simpa using hb
    subst this
    exact absurd (Heap.lt_size q) (Nat.lt_irrefl _)
end
end OHS
end

section
set_option autoImplicit false
set_option linter.all false
set_option Elab.async false
set_option maxRecDepth 100000
set_option maxHeartbeats 1000000
namespace OH
open PySem L2 PySem.Spec PyProof.Rows
/-- arguments that are read -/
inductive BReps (P : Program) (w : World) (K : PySem.W.Frag) (G H : Hp) : List V → List D → Prop
  | nil : BReps P w K G H [] []
  | cons {v : V} {d : D} {vs : List V} {ds : List D} : BRep P w K G H v d → BReps P w K G H vs ds → BReps P w K G H (v :: vs) (d :: ds)
theorem BReps.one {P : Program} {w : World} {K : PySem.W.Frag} {G H : Hp} {vs : List V} {d : D} (h : BReps P w K G H vs [d]) : ∃ v, vs = [v] ∧ BRep P w K G H v d := by
  cases h with | cons a b => cases b; exact ⟨_, rfl, a⟩
theorem BReps.two {P : Program} {w : World} {K : PySem.W.Frag} {G H : Hp} {vs : List V} {d e : D} (h : BReps P w K G H vs [d, e]) : ∃ v u, vs = [v, u] ∧ BRep P w K G H v d ∧ BRep P w K G H u e := by
  cases h with | cons a b => obtain ⟨u, rfl, c⟩ := b.one; exact ⟨_, _, rfl, a, c⟩
theorem BReps.length {P : Program} {w : World} {K : PySem.W.Frag} {G H : Hp} : ∀ {vs : List V} {ds : List D}, BReps P w K G H vs ds → vs.length = ds.length
  | _, _, .nil => rfl
  | _, _, .cons _ r => congrArg (· + 1) (BReps.length r)
theorem BReps.ext {P : Program} {w : World} {K : PySem.W.Frag} {G H G' H' : Hp} (e : Ext G H G' H') : ∀ {vs : List V} {ds : List D}, BReps P w K G H vs ds → BReps P w K G' H' vs ds
  | _, _, .nil => .nil
  | _, _, .cons a r => .cons (a.ext e) (BReps.ext e r)
section
variable {X : Cx}
/-- a built-in function's question -/
def rPrim (X : Cx) (p : Prim) : List V → Hp → VK → Prop := fun xs H Q => ∃ G ds r, Sub G H ∧ BReps X.prog X.w X.K G H xs ds ∧ primD p ds = .ok r ∧ Kont X G H r Q
theorem one_of {p : Prim} {ds : List D} {r : RV} (h : primD p ds = .ok r) (hp : p ∈ [Prim.len, .sum, .sorted, .tuple, .list, .all, .any, .abs, .int, .str, .lenSet, .listRange, .tupleRange]) : ∃ d, ds = [d] := by
  match ds, h with
  | [], h => simp only [List.mem_cons, List.not_mem_nil, or_false] at hp; rcases hp with rfl | rfl | rfl | rfl | rfl | rfl | rfl | rfl | rfl | rfl | rfl | rfl | rfl <;> simp [primD] at h
  | [d], _ => exact ⟨d, rfl⟩
  | a :: b :: c, h => simp only [List.mem_cons, List.not_mem_nil, or_false] at hp; rcases hp with rfl | rfl | rfl | rfl | rfl | rfl | rfl | rfl | rfl | rfl | rfl | rfl | rfl <;> simp [primD] at h
theorem primLen : CallR X (.builtin "len") (rPrim X .len) := by
  intro pins s τ H xs us Q I rv h
  obtain ⟨G, ds, r, sb, hb, hf, k⟩ := h
  obtain ⟨d, rfl⟩ := one_of hf (by simp)
  replace hb := hb.one
  obtain ⟨v, rfl, hb⟩ := hb
  refine call_len pins s τ H _ us Q I rv ?_
  cases d <;> simp only [primD, reduceCtorEq] at hf
  · split at hf
    · rename_i hl
      cases hf; have e := hb.str_; subst e
      exact ⟨_, _, rfl, ⟨by rw [← line_eq]; exact hl, rfl⟩, k.d sb (.int _)⟩
    · cases hf
  · cases hf
    obtain ⟨a, vs, rfl, h1, h2⟩ := hb.lst_ sb
    refine ⟨_, vs.length, rfl, .inl ⟨vs, h1.sq, rfl⟩, ?_⟩
    rw [h2.length]; exact k.d sb (.int _)
  · cases hf
    obtain ⟨a, vs, rfl, h1, h2⟩ := hb.tup_
    refine ⟨_, vs.length, rfl, .inr ⟨vs, sb.sqT h1, rfl⟩, ?_⟩
    rw [h2.length]; exact k.d sb (.int _)
theorem seqD_cases {x : D} {xs : List D} (h : seqD x = .ok xs) : x = .list xs ∨ x = .tuple xs := by
  cases x <;> simp only [seqD, reduceCtorEq, Res.ok.injEq] at h
  · subst h; exact .inl rfl
  · subst h; exact .inr rfl
theorem bind_ok {α β : Type} {r : Res α} {f : α → Res β} {b : β} (h : r.bind f = .ok b) : ∃ a, r = .ok a ∧ f a = .ok b := by
  cases r with
  | ok a => exact ⟨a, rfl, h⟩
  | err _ => cases h
  | bad => cases h
theorem primSum (hc : X.calm = true) : CallR X (.builtin "sum") (rPrim X .sum) := by
  intro pins s τ H xs us Q I rv h
  obtain ⟨G, ds, r, sb, hb, hf, k⟩ := h
  obtain ⟨d, rfl⟩ := one_of hf (by simp)
  replace hb := hb.one
  obtain ⟨v, rfl, hb⟩ := hb
  simp only [primD] at hf
  obtain ⟨zs, h1, h2⟩ := bind_ok hf
  split at h2
  · rename_i ns hn
    cases h2
    rcases seqD_cases h1 with rfl | rfl
    · obtain ⟨a, vs, rfl, h3, h4⟩ := hb.lst_ sb
      exact cr_sum hc pins s τ H _ us Q I rv ⟨a, ns, rfl, (by rw [← h4.ints hn]; exact h3.sq), k.d sb (.int _)⟩
    · obtain ⟨a, vs, rfl, h3, h4⟩ := hb.tup_
      obtain ⟨its, rr, ht, _⟩ := I.tuple (sb.sqT h3)
      rw [Vals.ref1 rv]
      have : Vals (ns.map V.int) its := by rw [← h4.ints hn]; exact rr
      exact OHS.sum_tuple (I.ok.hd hc) ht this.ints fun h' tk t' hk => ⟨.int _, H, I.kept hk, ⟨_, rfl⟩, k.d sb (.int _)⟩
  · cases h2
theorem each_zip {G : Hp} {P : Program} {w : World} {K : PySem.W.Frag} : ∀ {vs : List V} {ds : List D} {us : List Value}, Reps P w K G vs ds → Vals vs us → PySem.W.EachIs (fun (u : Value) (b : D × V) => RelV b.2 u ∧ Rep P w K G b.2 b.1) us (ds.zip vs)
  | _, _, _, .nil, .nil => .nil
  | _, _, _, .cons a r, .cons b q => .cons ⟨b, a⟩ (each_zip r q)
theorem each_back {G : Hp} {P : Program} {w : World} {K : PySem.W.Frag} : ∀ {us : List Value} {bs : List (D × V)}, PySem.W.EachIs (fun (u : Value) (b : D × V) => RelV b.2 u ∧ Rep P w K G b.2 b.1) us bs → Reps P w K G (bs.map (·.2)) (bs.map (·.1)) ∧ Vals (bs.map (·.2)) us
  | _, _, .nil => ⟨.nil, .nil⟩
  | _, _, .cons ⟨a, b⟩ r => ⟨.cons b (each_back r).1, .cons a (each_back r).2⟩
theorem srtOk_sortable {xs : List D} (h : (xs.all tupNE || xs.all flatS) = true) : PySem.W.Sortable xs := by
  rw [Bool.or_eq_true, List.all_eq_true, List.all_eq_true] at h
  rcases h with h | h
  · refine .inl fun d hd => ?_
    have := h d hd
    cases d with
    | tuple ys => cases ys with
      | nil => simp [tupNE] at this
      | cons x r => exact ⟨x, r, rfl⟩
    | _ => simp [tupNE] at this
  · refine .inr fun d hd => ?_
    have := h d hd
    cases d <;> simp [flatS] at this ⊢
theorem primSorted (hu : X.A.units + 66 < cLine) : CallR X (.builtin "sorted") (rPrim X .sorted) := by
  intro pins s τ H xs us Q I rv h
  obtain ⟨G, ds, r, sb, hb, hf, k⟩ := h
  obtain ⟨d, rfl⟩ := one_of hf (by simp)
  replace hb := hb.one
  obtain ⟨v, rfl, hb⟩ := hb
  simp only [primD] at hf
  obtain ⟨zs, h1, h2⟩ := bind_ok hf
  split at h2
  · rename_i hs
    cases h2
    simp only [srtOk, Bool.and_eq_true] at hs
    obtain ⟨⟨hal, hsh⟩, hst⟩ := hs
    rw [List.all_eq_true] at hal hsh
    -- what all need
    have main : ∀ (a : Addr) (vs : List V) (its : List Value), Reps X.prog X.w X.K G vs zs → Vals vs its → vs.length ≤ sizeLine →
        (∀ (Q' : Value → Shared → Prop), PySem.W.EachIs (fun (u : Value) (b : D × V) => RelV b.2 u ∧ Rep X.prog X.w X.K G b.2 b.1) its (zs.zip vs) → PySem.W.EachIs (fun v (b : D × V) => ∃ as, Reads s.heap v b.1 as) its (zs.zip vs) → PySem.W.AllAlike ((zs.zip vs).map (·.1)) → PySem.W.Sortable ((zs.zip vs).map (·.1)) → (zs.zip vs).length ≤ sizeLine →
          (∀ b, b ∈ zs.zip vs → X.A.units + 2 + b.1.depth < cLine) →
          (∀ out, out.length = (zs.zip vs).length → PySem.W.EachIs (fun (u : Value) (b : D × V) => RelV b.2 u ∧ Rep X.prog X.w X.K G b.2 b.1) out ((zs.zip vs).mergeSort (PySem.W.dataLe false (·.1))) → Q' (.ref (s.heap.objs.size + 1)) { s with heap := sortedAll s.heap its (List.toArray out) }) →
          wpAny (model X.prog X.w) X.A (call (.builtin "sorted") [.ref a]) Q' X.xe s) →
        wpAny (model X.prog X.w) X.A (call (.builtin "sorted") [.ref a]) (EP X pins τ Q) X.xe s := by
      intro a vs its hr hv hl go
      have hlen := hr.length
      have e1 : (zs.zip vs).map (·.1) = zs := by rw [List.map_fst_zip (by omega)]
      have e2 := each_zip hr hv
      have hmem : ∀ b, b ∈ zs.zip vs → b.1 ∈ zs := fun b hb => by rw [← e1]; exact List.mem_map.mpr ⟨b, hb, rfl⟩
      have ersub : ∀ {us : List Value} {bs : List (D × V)}, (∀ b ∈ bs, b.1 ∈ zs) → PySem.W.EachIs (fun (u : Value) (b : D × V) => RelV b.2 u ∧ Rep X.prog X.w X.K G b.2 b.1) us bs → PySem.W.EachIs (fun v (b : D × V) => ∃ as, Reads s.heap v b.1 as) us bs := by
        intro us bs hm h
        induction h with
        | nil => exact .nil
        | cons a r ih =>
          rename_i u b us' bs'
          refine .cons ?_ (ih fun c hc => hm c (List.mem_cons_of_mem _ hc))
          exact Dp.reads I _ _ _ (a.2.dp sb _ _ 20 (hsh _ (hm b List.mem_cons_self))) a.1
      refine go _ e2 (ersub hmem e2) (by
        rw [e1]; intro d hd d' hd'
        have := hal d hd
        rw [List.all_eq_true] at this
        rw [← alike_eq]; exact this d' hd') (by rw [e1]; exact srtOk_sortable hst) (by simp; omega) (fun b hb => by
        have := (shp_lay 20 b.1 (hsh _ (hmem b hb))).2
        omega) fun out ho he => ?_
      obtain ⟨hr2, hv2⟩ := each_back he
      have e3 : ((zs.zip vs).mergeSort (PySem.W.dataLe false (·.1))).map (·.1) = sortD zs := by
        rw [List.map_mergeSort (s := fun a b => !ltD b a), e1]
        · rfl
        · intro x hx y hy
          have h1 := hal y.1 (hmem y hy)
          rw [List.all_eq_true] at h1
          rw [ltD_eq _ _ (h1 x.1 (hmem x hx))]
          rfl
      rw [e3] at hr2
      obtain ⟨n, hn⟩ := sortedAll_at s.heap its out.toArray
      have hp : H (s.heap.objs.size + 1) = none := I.hok.fresh (Nat.le_succ _)
      exact ⟨.ref (s.heap.objs.size + 1), _, I.laid (t' := s.toks) (o := .lst (((zs.zip vs).mergeSort (PySem.W.dataLe false (·.1))).map (·.2))) (fun b o q => sortedAll_old q) (Nat.le_succ _)
        ⟨by rw [List.length_map, List.length_mergeSort]; simp; omega, out, n, hv2, hn⟩, rfl, k.lst sb hr2 _ hp⟩
    have e := Vals.ref1 (a := 0) (us := us)
    rcases seqD_cases h1 with rfl | rfl
    · obtain ⟨a, vs, rfl, h3, h4⟩ := hb.lst_ sb
      obtain ⟨its, rr, hl, hz⟩ := I.list h3.sq
      rw [Vals.ref1 rv]
      exact main a vs its h4 rr hz fun Q' a1 a2 a3 a4 a5 a6 a7 => PySem.W.sorted_data (enc := (·.1)) hl.isList a1 a2 a3 a4 a5 a6 a7
    · obtain ⟨a, vs, rfl, h3, h4⟩ := hb.tup_
      obtain ⟨its, rr, hl, hz⟩ := I.tuple (sb.sqT h3)
      rw [Vals.ref1 rv]
      exact main a vs its h4 rr hz fun Q' a1 a2 a3 a4 a5 a6 a7 => OHS.sorted_dataT (enc := (·.1)) hl a1 a2 a3 a4 a5 a6 a7
  · cases h2
theorem primTuple : CallR X (.type "tuple") (rPrim X .tuple) := by
  intro pins s τ H xs us Q I rv h
  obtain ⟨G, ds, r, sb, hb, hf, k⟩ := h
  obtain ⟨d, rfl⟩ := one_of hf (by simp)
  replace hb := hb.one
  obtain ⟨v, rfl, hb⟩ := hb
  simp only [primD] at hf
  obtain ⟨zs, h1, h2⟩ := bind_ok hf
  cases h2
  refine call_tuple_of pins s τ H _ us Q I rv ?_
  rcases seqD_cases h1 with rfl | rfl
  · obtain ⟨a, vs, rfl, h3, h4⟩ := hb.lst_ sb
    exact ⟨a, vs, rfl, .inl ⟨h3.sq, k.tup sb h4⟩⟩
  · obtain ⟨a, vs, rfl, h3, h4⟩ := hb.tup_
    exact ⟨a, vs, rfl, .inr ⟨sb.sqT h3, k.d sb (.tup h3 h4)⟩⟩
theorem RepX.keyVals {P : Program} {w : World} {K : PySem.W.Frag} {G : Hp} : ∀ {xs : List (NestedKey × Addr × Value)} {kvs : List (D × D)}, RepX P w K G xs kvs → Reps P w K G (xs.map fun x => .ref x.2.1) (kvs.map (·.1))
  | _, _, .nil => .nil
  | _, _, .cons _ _ b _ _ r => .cons b (RepX.keyVals r)
theorem RepK.keyVals {P : Program} {w : World} {K : PySem.W.Frag} {G : Hp} : ∀ {xs : List (Key × V)} {kvs : List (D × D)}, RepK P w K G xs kvs → Reps P w K G (xs.map fun kv => kV kv.1) (kvs.map (·.1))
  | _, _, .nil => .nil
  | _, _, .cons (key := .inl i) _ r => .cons (.int i) (RepK.keyVals r)
  | _, _, .cons (key := .inr i) _ r => .cons (.str i) (RepK.keyVals r)
theorem primList (hc : X.calm = true) : CallR X (.type "list") (rPrim X .list) := by
  intro pins s τ H xs us Q I rv h
  obtain ⟨G, ds, r, sb, hb, hf, k⟩ := h
  obtain ⟨d, rfl⟩ := one_of hf (by simp)
  replace hb := hb.one
  obtain ⟨v, rfl, hb⟩ := hb
  cases d <;> simp only [primD, reduceCtorEq] at hf
  · cases hf
    obtain ⟨a, vs, rfl, h3, h4⟩ := hb.lst_ sb
    exact call_list_of pins s τ H _ us Q I rv ⟨a, vs, rfl, .inl h3.sq, k.lst sb h4⟩
  · cases hf
    obtain ⟨a, vs, rfl, h3, h4⟩ := hb.tup_
    exact call_list_of pins s τ H _ us Q I rv ⟨a, vs, rfl, .inr (sb.sqT h3), k.lst sb h4⟩
  · rename_i kvs
    cases hf
    rcases hb.dic_ sb with ⟨a, o, xs, rfl, e, dd, rr⟩ | ⟨a, ks, rfl, e, rr, _⟩
    · rw [Vals.ref1 rv]
      have dm := dictOf I e dd (rr.keys I sb)
      obtain ⟨es, ep, hraw, hsz, hat⟩ := dm.raw
      refine PySem.W.kdl_call (KdlSrc.rawDict (es := es) (ep := ep) dd.sys) (I.ok.hd hc) hraw (by rw [hsz]; exact dd.len) fun h' tk acc' c' hkeep hS hacc => ?_
      have hv : Vals (xs.map fun x => V.ref x.2.1) acc'.toList := by
        refine vals_of_at (by rw [List.length_map, Array.length_toList (xs := acc')]; have := hacc.1; omega) fun j x u h1 h2 => ?_
        rw [List.getElem?_map] at h1
        obtain ⟨y, hy, rfl⟩ := Option.map_eq_some_iff.mp h1
        obtain ⟨hi, rfl⟩ := hacc.2 j u (by rw [← h2, Array.getElem?_toList])
        obtain ⟨y', hy', hk, _⟩ := hat j hi
        rw [hy] at hy'; cases hy'
        rw [hk]; rfl
      refine ⟨.ref s.heap.objs.size, _, I.laid (o := .lst (xs.map fun x => V.ref x.2.1)) hkeep (Nat.le_refl _) ⟨?_, acc'.toList, c', hv, ?_⟩, rfl, k.lst sb rr.keyVals _ I.fresh⟩
      · rw [List.length_map]; exact dd.len
      · rw [Array.toArray_toList]; exact hS
    · refine call_list_dK hc pins s τ H _ us Q I rv ⟨a, ks, rfl, e, ?_⟩
      have : Reps X.prog X.w X.K G (ks.map fun kv => kV kv.1) (kvs.map fun x => x.1) := by
        exact rr.keyVals
      exact k.lst sb this
theorem primAll (hc : X.calm = true) : CallR X (.builtin "all") (rPrim X .all) := by
  intro pins s τ H xs us Q I rv h
  obtain ⟨G, ds, r, sb, hb, hf, k⟩ := h
  obtain ⟨d, rfl⟩ := one_of hf (by simp)
  replace hb := hb.one
  obtain ⟨v, rfl, hb⟩ := hb
  cases d <;> simp only [primD, reduceCtorEq] at hf
  split at hf
  · rename_i bs hn
    cases hf
    obtain ⟨a, vs, rfl, h3, h4⟩ := hb.lst_ sb
    exact cr_all hc pins s τ H _ us Q I rv ⟨a, bs, rfl, (by rw [← h4.bools hn]; exact h3.sq), k.d sb (.bl _)⟩
  · cases hf
theorem primAny (hc : X.calm = true) : CallR X (.builtin "any") (rPrim X .any) := by
  intro pins s τ H xs us Q I rv h
  obtain ⟨G, ds, r, sb, hb, hf, k⟩ := h
  obtain ⟨d, rfl⟩ := one_of hf (by simp)
  replace hb := hb.one
  obtain ⟨v, rfl, hb⟩ := hb
  cases d <;> simp only [primD, reduceCtorEq] at hf
  split at hf
  · rename_i bs hn
    cases hf
    obtain ⟨a, vs, rfl, h3, h4⟩ := hb.lst_ sb
    exact cr_any hc pins s τ H _ us Q I rv ⟨a, bs, rfl, (by rw [← h4.bools hn]; exact h3.sq), k.d sb (.bl _)⟩
  · cases hf
theorem primAbs : CallR X (.builtin "abs") (rPrim X .abs) := by
  intro pins s τ H xs us Q I rv h
  obtain ⟨G, ds, r, sb, hb, hf, k⟩ := h
  obtain ⟨d, rfl⟩ := one_of hf (by simp)
  replace hb := hb.one
  obtain ⟨v, rfl, hb⟩ := hb
  cases d <;> simp only [primD, reduceCtorEq] at hf
  cases hf; have e := hb.int_; subst e
  exact call_abs pins s τ H _ us Q I rv ⟨_, rfl, k.d sb (.int _)⟩
theorem primInt : CallR X (.type "int") (rPrim X .int) := by
  intro pins s τ H xs us Q I rv h
  obtain ⟨G, ds, r, sb, hb, hf, k⟩ := h
  obtain ⟨d, rfl⟩ := one_of hf (by simp)
  replace hb := hb.one
  obtain ⟨v, rfl, hb⟩ := hb
  cases d <;> simp only [primD, reduceCtorEq] at hf
  · cases hf; have e := hb.bl_; subst e
    exact call_int1 pins s τ H _ us Q I rv (.inr ⟨_, rfl, k.d sb (.int _)⟩)
  · cases hf; have e := hb.int_; subst e
    exact call_int1 pins s τ H _ us Q I rv (.inl ⟨_, rfl, k.d sb (.int _)⟩)
theorem strI_eq (i : Int) : strI i = (toString i : Str) := by
  unfold strI
  rw [Str.ofString_eq_toList]
theorem primStr : CallR X (.type "str") (rPrim X .str) := by
  intro pins s τ H xs us Q I rv h
  obtain ⟨G, ds, r, sb, hb, hf, k⟩ := h
  obtain ⟨d, rfl⟩ := one_of hf (by simp)
  replace hb := hb.one
  obtain ⟨v, rfl, hb⟩ := hb
  cases d <;> simp only [primD, reduceCtorEq] at hf
  split at hf
  · rename_i hl
    cases hf; have e := hb.int_; subst e
    exact call_str_int pins s τ H _ us Q I rv ⟨_, rfl, hl, by rw [← strI_eq]; exact k.d sb (.str _)⟩
  · cases hf
theorem primMax2 (hc : X.calm = true) : CallR X (.builtin "max") (rPrim X .max) → True := fun _ => trivial
/-- isinstance(x, T) -/
def tyName : Ty → String | .int => "int" | .bool => "bool" | .str => "str" | .tup => "tuple" | .lst => "list"
theorem tyOf (P : String) (d : D) (K : PySem.W.Frag) (t : Ty) (h : ∀ t, kitB P (tyName t) = some (isTy t d)) : PySem.W.kitOne K (.type P) (.type (tyName t)) = some (isTy t d) := kit_ty (h t)
theorem kNone : ∀ t, kitB "NoneType" (tyName t) = some (isTy t .none) := by intro t; cases t <;> decide +kernel
theorem kBool (b : Bool) : ∀ t, kitB "bool" (tyName t) = some (isTy t (.bool b)) := by
  have h : ∀ t, kitB "bool" (tyName t) = some (isTy t (.bool true)) := by intro t; cases t <;> decide +kernel
  intro t; rw [h t]; cases t <;> rfl
theorem kInt (b : Int) : ∀ t, kitB "int" (tyName t) = some (isTy t (.int b)) := by
  have h : ∀ t, kitB "int" (tyName t) = some (isTy t (.int 0)) := by intro t; cases t <;> decide +kernel
  intro t; rw [h t]; cases t <;> rfl
theorem kStr (b : Str) : ∀ t, kitB "str" (tyName t) = some (isTy t (.str b)) := by
  have h : ∀ t, kitB "str" (tyName t) = some (isTy t (.str ⟨#[]⟩)) := by intro t; cases t <;> decide +kernel
  intro t; rw [h t]; cases t <;> rfl
theorem kList (b : List D) : ∀ t, kitB "list" (tyName t) = some (isTy t (.list b)) := by
  have h : ∀ t, kitB "list" (tyName t) = some (isTy t (.list [])) := by intro t; cases t <;> decide +kernel
  intro t; rw [h t]; cases t <;> rfl
theorem kTup (b : List D) : ∀ t, kitB "tuple" (tyName t) = some (isTy t (.tuple b)) := by
  have h : ∀ t, kitB "tuple" (tyName t) = some (isTy t (.tuple [])) := by intro t; cases t <;> decide +kernel
  intro t; rw [h t]; cases t <;> rfl
theorem kDict (b : List (D × D)) : ∀ t, kitB "dict" (tyName t) = some (isTy t (.dict b)) := by
  have h : ∀ t, kitB "dict" (tyName t) = some (isTy t (.dict [])) := by intro t; cases t <;> decide +kernel
  intro t; rw [h t]; cases t <;> rfl
theorem primIsTy (t : Ty) : CallR X (.builtin "isinstance") (fun xs H Q => ∃ v, xs = [v, .ty (tyName t)] ∧ rPrim X (.isTy t) [v] H Q) := by
  intro pins s τ H xs us Q I rv h
  obtain ⟨v, rfl, G, ds, r, sb, hb, hf, k⟩ := h
  obtain ⟨u1, u2, rfl, r1, r2⟩ := vals2 rv
  obtain rfl : u2 = .type (tyName t) := r2
  obtain ⟨d, rfl⟩ : ∃ d, ds = [d] := by
    match ds, hb with
    | [d], _ => exact ⟨d, rfl⟩
    | [], hb => exact absurd hb.length (by simp)
    | a :: b :: c, hb => exact absurd hb.length (by simp)
  replace hb := hb.one
  obtain ⟨v', e, hb⟩ := hb
  cases e
  simp only [primD] at hf
  cases hf
  have fin : ∀ tk, EP X pins τ Q (.bool (isTy t d)) { s with toks := tk } := fun tk => ⟨.bl _, H, I.tok tk, rfl, k.d sb (.bl _)⟩
  cases d with
  | none =>
    have e := hb.non_; subst e
    obtain rfl : u1 = .none := r1
    refine PySem.W.kia_one PySem.W.kitx_none I.kIn True.intro ?_ (fun z => nomatch z) fin
    exact kit_ty (kNone t)
  | bool b =>
    have e := hb.bl_; subst e
    obtain rfl : u1 = .bool b := r1
    refine PySem.W.kia_one PySem.W.kitx_bool I.kIn True.intro ?_ (fun z => nomatch z) fin
    exact kit_ty (kBool b t)
  | int b =>
    have e := hb.int_; subst e
    obtain ⟨tk, rfl⟩ := r1
    refine PySem.W.kia_one PySem.W.kitx_int I.kIn True.intro ?_ (fun z => nomatch z) fin
    exact kit_ty (kInt b t)
  | str b =>
    have e := hb.str_; subst e
    obtain ⟨tk, rfl⟩ := r1
    refine PySem.W.kia_one PySem.W.kitx_str I.kIn True.intro ?_ (fun z => nomatch z) fin
    exact kit_ty (kStr b t)
  | list b =>
    obtain ⟨a, vs, rfl, h1, h2⟩ := hb.lst_ sb
    obtain rfl : u1 = .ref a := r1
    obtain ⟨_, its, n, _, e⟩ := h1.ok I
    refine PySem.W.kia_one PySem.W.kitx_list I.kIn ⟨_, e, rfl⟩ ?_ (fun z => nomatch z) fin
    exact kit_ty (kList b t)
  | tuple b =>
    obtain ⟨a, vs, rfl, h1, h2⟩ := hb.tup_
    obtain rfl : u1 = .ref a := r1
    obtain ⟨its, _, ⟨o, ho, hc, _⟩, _⟩ := I.tuple (sb.sqT h1)
    refine PySem.W.kia_one PySem.W.kitx_tuple I.kIn ⟨_, ho, hc⟩ ?_ (fun z => nomatch z) fin
    exact kit_ty (kTup b t)
  | dict b =>
    rcases hb.dic_ sb with ⟨a, o, xs, rfl, e, dd, rr⟩ | ⟨a, ks, rfl, e, rr, _⟩
    · obtain rfl : u1 = .ref a := r1
      have dm := (I.hok a _ e).1
      refine PySem.W.kia_one PySem.W.kitx_dict I.kIn ⟨_, dm, dd.exact.1⟩ ?_ (fun z => nomatch z) fin
      exact kit_ty (kDict b t)
    · obtain rfl : u1 = .ref a := r1
      obtain ⟨_, _, vs, _, o, _, _, h1, h2, _⟩ := (show ObjOk X.prog X.w H s.heap a (.dK ks) from I.hok a _ e)
      refine PySem.W.kia_one PySem.W.kitx_dict I.kIn ⟨_, h1, h2.1⟩ ?_ (fun z => nomatch z) fin
      exact kit_ty (kDict b t)
end
end OH
end

section
set_option autoImplicit false
set_option linter.all false
set_option Elab.async false
set_option maxRecDepth 100000
set_option maxHeartbeats 1000000
namespace OHS
open PySem PySem.Spec PyProof.Rows L2
open AutoSeq1 (wpAny_loadPart')
theorem meets_enumerate_newT (l : Addr) (items : Array Value) (n : Nat) (dct : Option Addr) (sl : Array (Option Value)) :
    Meets (Builtin.«enumerate.__new__» ⟨[.type "enumerate", .ref l], []⟩) (fun _ R s => s.heap.get? l = some { cls := .type "tuple", dict := dct, data := .seq items n, slots := sl } ∧
      R (.ok (.ret (.ref (s.heap.push { cls := .type "tuple_iterator", data := .fields #[.ref l, .int 0 0] }).objs.size)))
        { s with heap := (s.heap.push { cls := .type "tuple_iterator", data := .fields #[.ref l, .int 0 0] }).push { cls := .type "enumerate", data := .fields #[.none, .bool false, .ref s.heap.objs.size, rawInt 0, .none, .none] } }) :=
  .of_wp fun prog w A R s h => by
    obtain ⟨hp, g, d, tk, os⟩ := s; obtain ⟨hl, h⟩ := h
    have hsub := sub_enumerate
    have hL : Heap.IsTuple (Shared.heap ⟨hp, g, d, tk, os⟩) l items := ⟨_, hl, rfl, n, rfl⟩
    wp_walk using wpAny_loadPart' hl
    refine wpAny_stack_any fun st => wpAny_pure ?_
    split
    · rename_i c _ _ _ _ _
      cases (c == Value.type "enumerate")
      · wp_walk using wpAny_loadPart' hl, wpAny_pyIter_tuple hL
        exact ⟨_, rfl, h⟩
      · wp_walk using wpAny_loadPart' hl, wpAny_pyIter_tuple hL
        exact ⟨_, rfl, h⟩
    · wp_walk using wpAny_loadPart' hl, wpAny_pyIter_tuple hL
      exact ⟨_, rfl, h⟩
theorem call_enumerate_tuple {prog : Program} {w : World} {A : Around} {E : Value → Shared → Prop} {s : Shared} {l : Addr} {items : Array Value} {Q : Value → Shared → Prop} (hL : s.heap.IsTuple l items)
    (h : ∀ h', IsEnum h' (s.heap.objs.size + 1) s.heap.objs.size 0 .none → h'.IsTupleIter s.heap.objs.size l 0 → h'.objs.size = s.heap.objs.size + 2 →
      (∀ b o, s.heap.get? b = some o → h'.get? b = some o) → Q (.ref (s.heap.objs.size + 1)) { s with heap := h' }) :
    wpAny (model prog w) A (call (.type "enumerate") [.ref l]) Q E s := by
  obtain ⟨⟨c, dct, dt, sl⟩, hl, hc, n, hd⟩ := hL
  replace hc : c = .type "tuple" := hc
  replace hd : dt = .seq items n := hd
  subst hc hd
  refine callType_new F.called_enumerate (by decide) (F.typeCall_enumerate_1 _) (F.newCall_enumerate_1 _) (fun obj => F.args_object_init_2 obj _) F.entry_enumerate_new
    (meets_enumerate_newT l items n dct sl) ⟨hl, ?_⟩
  have hz : (s.heap.push { cls := .type "tuple_iterator", data := .fields #[.ref l, .int 0 0] }).objs.size = s.heap.objs.size + 1 := Heap.size_push ..
  show _ ∧ _
  rw [hz]
  have he : IsEnum ((s.heap.push { cls := .type "tuple_iterator", data := .fields #[.ref l, .int 0 0] }).push
      { cls := .type "enumerate", data := .fields #[.none, .bool false, .ref s.heap.objs.size, rawInt 0, .none, .none] }) (s.heap.objs.size + 1) s.heap.objs.size 0 .none := by
    have := Heap.get?_push_size (s.heap.push { cls := .type "tuple_iterator", data := .fields #[.ref l, .int 0 0] })
      (o := { cls := .type "enumerate", data := .fields #[.none, .bool false, .ref s.heap.objs.size, rawInt 0, .none, .none] }) rfl
    rw [hz] at this; exact this
  refine ⟨⟨_, he, rfl⟩, h _ he ⟨_, Heap.get?_push_of_some _ (Heap.get?_push_size _ rfl), rfl, rfl⟩ (by rw [Heap.size_push, hz]) fun b o x => Heap.get?_push_of_some _ (Heap.get?_push_of_some _ x)⟩
/-- the tuple at a, each item in a new pair -/
def IteT (K : PySem.W.Frag) (a : Addr) : It :=
  ⟨fun i H => ∃ (xs : List V) (x : V), SqT K H a xs ∧ xs[i]? = some x, fun i H v H' => ∃ T x, v = .ref T ∧ H T = none ∧ H' = upd H T (.tup [.int (i : Nat), x]) ∧ ∀ xs, SqT K H a xs → xs[i]? = some x, fun i H => ∃ xs : List V, SqT K H a xs ∧ xs.length = i⟩
theorem turn_enumT {P : Program} {w : World} {K : PySem.W.Frag} {elts : List Expr} {kk : Nat} {tpos : Pos} (a e it : Addr) (hae : a ≠ e) (hai : a ≠ it) :
    Turn P w K (.Tuple elts kk tpos) (IteT K a) [e, it] e (fun i h => (∃ old, IsEnum h e it ((i : Nat) : Int) old) ∧ h.IsTupleIter it a i ∧ e ≠ it) where
  mem := by simp
  obj := fun i h st b hb => by
    obtain ⟨⟨old, he⟩, ⟨o, ho, hc, hd⟩, _⟩ := st
    have e' : b = e ∨ b = it := by simpa using hb
    rcases e' with z | z
    · rw [z]; exact ⟨_, he, fun v q => nomatch q⟩
    · rw [z]; exact ⟨o, ho, fun v q => by rw [hd] at q; cases q⟩
  keep := fun i h h' st k => let ⟨⟨old, he⟩, hi, hne⟩ := st; ⟨⟨old, k e (by simp) _ he⟩, hi.at fun o q => k it (by simp) o q, hne⟩
  item := by
    intro X hP hw hK hc i pins s σ H E I hf st hg
    subst hP hw hK
    obtain ⟨⟨old, he⟩, hit, hne⟩ := st
    obtain ⟨xs, x, hq, hx⟩ := hg
    obtain ⟨its, rv, p, hz⟩ := I.tuple hq
    obtain ⟨u, hu, ru⟩ := rv.get hx
    have hel : e < s.heap.objs.size := Heap.lt_size he
    have hil : it < s.heap.objs.size := by obtain ⟨_, q, _⟩ := hit; exact Heap.lt_size q
    have hlt : i < its.toArray.size := by
      have := (List.getElem?_eq_some_iff.mp hu).1
      simpa using this
    refine wpAny_pyNext_enum_itemD (Draws.tuple (A := X.A.in1) (I.ok.hd hc) it a hai its.toArray) he ⟨hit, p⟩ hlt hne (by simp [hne, Ne.symm hae]) fun y h' tk hy ho st' hT hsz hk => ?_
    obtain ⟨hit', _⟩ := st'
    have hyu : y = u := by
      have : its.toArray[i]? = some u := by simpa using hu
      rw [this] at hy; exact (Option.some.inj hy).symm
    subst hyu
    refine ⟨_, rfl, wpAny_letOwnedTupleGo_enum (s := { s with heap := h', toks := tk + 1 }) ho fun h'' he' sb => ?_⟩
    have hT2 : h''.get? s.heap.objs.size = some { cls := .type "tuple", data := .seq #[.int i tk, y] } := (sb.2 _ (Nat.ne_of_gt hel)).trans hT
    have new : ObjOk X.prog X.w (upd H s.heap.objs.size (.tup [.int (i : Nat), x])) h'' s.heap.objs.size (.tup [.int (i : Nat), x]) :=
      ⟨by show 2 ≤ sizeLine; decide, [.int i tk, y], .cons ⟨_, rfl⟩ (.cons ru .nil), ⟨_, hT2, rfl, _, rfl⟩⟩
    have I1 : Inv X pins σ (upd H s.heap.objs.size (.tup [.int (i : Nat), x])) { s with heap := h'', toks := tk + 1 } :=
      I.turnedNew (ch := [e, it]) (fun b ob hb q => (sb.2 b (fun z => hb (by simp [z]))).trans (hk b ob (fun z => hb (by simp [z])) (fun z => hb (by simp [z])) q)) hf (Nat.le_refl _) new
    refine ⟨.ref s.heap.objs.size, _, I1, rfl, ⟨_, x, rfl, I.hok.fresh (Nat.le_refl _), rfl, fun ys hy => by rw [I.tuple_inj hy hq]; exact hx⟩, ⟨⟨y, ?_⟩, hit'.at fun o q => (sb.2 it (Ne.symm hne)).trans q, hne⟩, fun b hb => ?_⟩
    · have e1 : ((i + 1 : Nat) : Int) = (i : Int) + 1 := by omega
      rw [e1]; exact he'
    · have hb' : b < s.heap.objs.size := by
        have e' : b = e ∨ b = it := by simpa using hb
        rcases e' with z | z
        · rw [z]; exact hel
        · rw [z]; exact hil
      rw [upd_ne (Nat.ne_of_lt hb')]
      exact (hf b hb).1
  done := by
    intro X hP hw hK hc i pins s σ H E I hf st hg
    subst hP hw hK
    obtain ⟨⟨old, he⟩, hit, hne⟩ := st
    obtain ⟨xs, hq, hx⟩ := hg
    obtain ⟨its, rv, p, hz⟩ := I.tuple hq
    obtain ⟨f0, f1, f2, f3, f4, f5⟩ := hf it (by simp)
    have hl := rv.length
    have hid : i = its.toArray.size := by simp; omega
    subst hid
    exact wpAny_pyNext_enum_endD (Draws.tuple (A := X.A.in1) (I.ok.hd hc) it a hai its.toArray) he ⟨hit, p⟩ fun h' eb => ⟨rfl, I.turned (t' := s.toks) (fun b o hb q => eb b o hb q) f0 f1 f3 f4 f5⟩
  self := fun A i s Q E st h => let ⟨⟨_, he⟩, _⟩ := st; wpAny_pyIter_enum he h
def iEnumT (K : PySem.W.Frag) (ta : TA) : TI := fun σ H R => ta σ H fun vs H1 => ∃ a xs, vs = [.ref a] ∧ ((SqL K H1 a xs ∧ R (Ite K a) H1) ∨ (SqT K H1 a xs ∧ R (IteT K a) H1))
theorem pi_enumA {X : Cx} {e : Expr} {ta : TA} {p pos tpos : Pos} {elts : List Expr} {kk : Nat} (hg : Gl X "enumerate") (hm : X.mg "enumerate" = none) (ha : PA X [e] ta) (hs : starEach [e] X.env = [(false, eval e X.env)]) :
    PI X (.Tuple elts kk tpos) (.Call (.Name "enumerate" p) [e] [] pos) (iEnumT X.K ta) := by
  refine ⟨fun pins s σ H R I h => ?_⟩
  refine Call_ (ld_blt I hg hm boot_enumerate (PyProof.Rows.callWith_type1 (thn (ha.run pos pins s σ H _ I h) fun us s1 ⟨vs, H1, I1, r1, q1⟩ => ?_) hs rfl))
  obtain ⟨a, xs, ex, q⟩ := q1
  subst ex
  cases r1 with
  | cons r rr =>
    cases rr
    cases r
    rcases q with ⟨hq, q⟩ | ⟨hq, q⟩
    · obtain ⟨its, rv, p', hz⟩ := I1.list hq
      refine call_enumerate_list p'.isList fun h' he hit hsz hk => wpAny_pyIter_enum he ?_
      have I2 : Inv X pins σ H1 { s1 with heap := h' } := I1.kept (t' := s1.toks) hk
      refine ⟨s1.heap.objs.size + 1, [s1.heap.objs.size + 1, s1.heap.objs.size], _, _, H1, rfl, I2, turn_enum a (s1.heap.objs.size + 1) s1.heap.objs.size, ⟨⟨.none, he⟩, hit, Nat.succ_ne_self _⟩, fun b hb => ?_, q⟩
      have e' : b = s1.heap.objs.size + 1 ∨ b = s1.heap.objs.size := by simpa using hb
      have hle : s1.heap.objs.size ≤ b := by
        rcases e' with z | z
        · rw [z]; exact Nat.le_add_right _ _
        · rw [z]; exact Nat.le_refl _
      exact I1.fpOk hle (I1.hok.fresh hle)
    · obtain ⟨its, rv, p', hz⟩ := I1.tuple hq
      have hlt : a < s1.heap.objs.size := by obtain ⟨_, e, _⟩ := p'; exact Heap.lt_size e
      refine call_enumerate_tuple p' fun h' he hit hsz hk => wpAny_pyIter_enum he ?_
      have I2 : Inv X pins σ H1 { s1 with heap := h' } := I1.kept (t' := s1.toks) hk
      refine ⟨s1.heap.objs.size + 1, [s1.heap.objs.size + 1, s1.heap.objs.size], _, _, H1, rfl, I2, turn_enumT a (s1.heap.objs.size + 1) s1.heap.objs.size (Nat.ne_of_lt (Nat.lt_succ_of_lt hlt)) (Nat.ne_of_lt hlt), ⟨⟨.none, he⟩, hit, Nat.succ_ne_self _⟩, fun b hb => ?_, q⟩
      have e' : b = s1.heap.objs.size + 1 ∨ b = s1.heap.objs.size := by simpa using hb
      have hle : s1.heap.objs.size ≤ b := by
        rcases e' with z | z
        · rw [z]; exact Nat.le_add_right _ _
        · rw [z]; exact Nat.le_refl _
      exact I1.fpOk hle (I1.hok.fresh hle)
def ItRK (d : Addr) (o : Obj) (es : Array DictEntry) : It :=
  ⟨fun i H => H d = some (.ext fun h => h.get? d = some o) ∧ ∃ (hi : i < es.size) (x : V), RelV x es[i].key, fun i H x H' => H' = H ∧ ∃ hi : i < es.size, RelV x es[i].key, fun i H => H d = some (.ext fun h => h.get? d = some o) ∧ es.size ≤ i⟩
def ItRI (d : Addr) (o : Obj) (es : Array DictEntry) : It :=
  ⟨fun i H => H d = some (.ext fun h => h.get? d = some o) ∧ ∃ (hi : i < es.size) (x y : V), RelV x es[i].key ∧ RelV y es[i].val, fun i H v H' => ∃ T x y, v = .ref T ∧ H T = none ∧ H' = upd H T (.tup [x, y]) ∧ ∃ hi : i < es.size, RelV x es[i].key ∧ RelV y es[i].val, fun i H => H d = some (.ext fun h => h.get? d = some o) ∧ es.size ≤ i⟩
section
variable {P : Program} {w : World} {K : PySem.W.Frag} {tg : Expr} {d : Addr} {o : Obj} {es : Array DictEntry} {ep : Nat}
theorem raw_of {X : Cx} {pins : List (Addr × Obj)} {σ : L2.St} {H : Hp} {s : Shared} (I : Inv X pins σ H s) (hd : H d = some (.ext fun h => h.get? d = some o)) (hx : o.ExactDict) (hod : o.data = .dict es ep) : s.heap.DictRaw d es ep :=
  ⟨o, (I.hok d _ hd).1, hx, hod⟩
theorem turn_rawKeys (it : Addr) (hx : o.ExactDict) (hod : o.data = .dict es ep) : Turn P w K tg (ItRK d o es) [it] it (fun i h => h.IsKeyIter it d i es.size ep) where
  mem := by simp
  obj := fun i h st b hb => by
    have e : b = it := by simpa using hb
    subst e
    obtain ⟨oi, e, c, dd⟩ := st
    exact ⟨oi, e, fun v z => by rw [dd] at z; cases z⟩
  keep := fun i h h' st k => st.at fun oi e => k it (by simp) oi e
  item := by
    intro X hP hw hK hc i pins s σ H E I hf st hg
    subst hP hw hK
    obtain ⟨hd, hi, x, rx⟩ := hg
    obtain ⟨f0, f1, f2, f3, f4, f5⟩ := hf it (by simp)
    refine wpAny_pyNext_keys_item_raw st (raw_of I hd hx hod) hi fun h' st' sb => ?_
    have I1 : Inv X pins σ H { s with heap := h' } := I.turned (t' := s.toks) (fun b ob hb e => (sb.2 b hb).trans e) f0 f1 f3 f4 f5
    obtain ⟨oi, e, c, dd⟩ := id st'
    exact ⟨es[i].key, rfl, go_of (s := { s with heap := h' }) e c dd (by decide) ⟨x, H, I1, rx, ⟨rfl, hi, rx⟩, st', fun b hb => (hf b hb).1⟩⟩
  done := by
    intro X hP hw hK hc i pins s σ H E I hf st hg
    subst hP hw hK
    obtain ⟨hd, hi⟩ := hg
    obtain ⟨f0, f1, f2, f3, f4, f5⟩ := hf it (by simp)
    exact wpAny_pyNext_keys_end_raw (I.ok.hd hc) st (raw_of I hd hx hod) hi fun h' eb => ⟨rfl, I.turned (t' := s.toks) (fun b ob hb e => eb b ob hb e) f0 f1 f3 f4 f5⟩
  self := fun A i s Q E st h => by
    refine wpAny_pyIter_slot st.typeIs F.slot_dict_keyiterator_iter (wpAny_call_entry F.slot_dict_keyiterator_iter st.typeIs F.entry_dict_keyiterator_iter ?_ (F.args_dict_keyiterator_iter_1 _))
    show wpAny _ _ (ret (.ref it)) _ _ s
    exact wpAny_pure ⟨_, rfl, "dict_keyiterator", _, st.typeIs, F.slot_dict_keyiterator_next.lookup, h⟩
theorem turn_rawItems {elts : List Expr} {kk : Nat} {tpos : Pos} (it : Addr) (hx : o.ExactDict) (hod : o.data = .dict es ep) :
    Turn P w K (.Tuple elts kk tpos) (ItRI d o es) [it] it (fun i h => ∃ ok ov, IsItemIter h it d i es.size ep ok ov) where
  mem := by simp
  obj := fun i h st b hb => by
    have e : b = it := by simpa using hb
    subst e
    obtain ⟨ok, ov, e⟩ := st
    exact ⟨_, e, fun v z => nomatch z⟩
  keep := fun i h h' st k => let ⟨ok, ov, e⟩ := st; ⟨ok, ov, k it (by simp) _ e⟩
  item := by
    intro X hP hw hK hc i pins s σ H E I hf st hg
    subst hP hw hK
    obtain ⟨hd, hi, x, y, rx, ry⟩ := hg
    obtain ⟨ok, ov, he⟩ := st
    have hlt : it < s.heap.objs.size := Heap.lt_size he
    refine wpAny_pyNext_items_item_raw he (raw_of I hd hx hod) hi fun h' ho hT hz hk => ?_
    refine ⟨_, rfl, wpAny_letOwnedTupleGo_items (s := { s with heap := h' }) ho fun h'' he' sb => ?_⟩
    have hT2 : h''.get? s.heap.objs.size = some { cls := .type "tuple", data := .seq #[es[i].key, es[i].val] } := (sb.2 _ (Nat.ne_of_gt hlt)).trans hT
    have new : ObjOk X.prog X.w (upd H s.heap.objs.size (.tup [x, y])) h'' s.heap.objs.size (.tup [x, y]) :=
      ⟨by show 2 ≤ sizeLine; decide, [es[i].key, es[i].val], .cons rx (.cons ry .nil), ⟨_, hT2, rfl, _, rfl⟩⟩
    have I1 : Inv X pins σ (upd H s.heap.objs.size (.tup [x, y])) { s with heap := h'' } :=
      I.turnedNew (t' := s.toks) (ch := [it]) (fun b ob hb e => (sb.2 b (by simpa using hb)).trans (hk b ob (by simpa using hb) e)) hf (Nat.le_refl _) new
    refine ⟨.ref s.heap.objs.size, _, I1, rfl, ⟨_, x, y, rfl, I.hok.fresh (Nat.le_refl _), rfl, hi, rx, ry⟩, ⟨es[i].key, es[i].val, he'⟩, fun b hb => ?_⟩
    have e : b = it := by simpa using hb
    rw [e, upd_ne (Nat.ne_of_lt hlt)]
    exact (hf it (by simp)).1
  done := by
    intro X hP hw hK hc i pins s σ H E I hf st hg
    subst hP hw hK
    obtain ⟨hd, hi⟩ := hg
    obtain ⟨f0, f1, f2, f3, f4, f5⟩ := hf it (by simp)
    obtain ⟨ok, ov, he⟩ := st
    exact wpAny_pyNext_items_end_raw (I.ok.hd hc) he (raw_of I hd hx hod) hi fun h' eb => ⟨rfl, I.turned (t' := s.toks) (fun b ob hb e => eb b ob hb e) f0 f1 f3 f4 f5⟩
  self := fun A i s Q E st h => let ⟨_, _, e⟩ := st; PySem.W.kcp_self e h
end
def iRawKeys (td : TE) : TI := fun σ H R => td σ H fun x H1 => ∃ d o es ep, x = .ref d ∧ H1 d = some (.ext fun h => h.get? d = some o) ∧ (d == sysModules) = false ∧ o.ExactDict ∧ o.data = .dict es ep ∧ R (ItRK d o es) H1
def iRawItems (td : TE) : TI := fun σ H R => td σ H fun x H1 => ∃ d o es ep, x = .ref d ∧ H1 d = some (.ext fun h => h.get? d = some o) ∧ (d == sysModules) = false ∧ o.ExactDict ∧ o.data = .dict es ep ∧ R (ItRI d o es) H1
theorem pi_rawKeys {X : Cx} {tg e : Expr} {td : TE} (he : PE X e td) : PI X tg e (iRawKeys td) := by
  refine ⟨fun pins s σ H R I h => ?_⟩
  refine thn (he.run pins s σ H _ I h) fun u s1 ⟨x, H1, I1, rx, d, o, es, ep, ex, hd, hs, hx, hod, q⟩ => ?_
  subst ex
  obtain rfl : u = Value.ref d := rx
  exact wpAny_pyIter_dict_raw hs (raw_of I1 hd hx hod) (pi_one (tk := s1.toks) I1 _ (turn_rawKeys _ hx hod) ⟨_, Heap.get?_push_size _ rfl, rfl, rfl⟩ q)
theorem pi_rawItems {X : Cx} {e : Expr} {td : TE} {elts : List Expr} {kk : Nat} {tpos apos cpos : Pos} (he : PE X e td) (hbase : attributeBase e "items" X.env (eval e X.env) = eval e X.env) (hline : (apos.endLine == cpos.line) = true) :
    PI X (.Tuple elts kk tpos) (.Call (.Attribute e "items" apos) [] [] cpos) (iRawItems td) := by
  refine ⟨fun pins s σ H R I h => ?_⟩
  refine wpAny_Call_method (T := "dict") (id := "dict.items") hbase rfl hline F.plainAttrs_dict F.slot_dict_items F.type_dict_items (thn (he.run pins s σ H _ I h) fun u s1 ⟨x, H1, I1, rx, d, o, es, ep, ex, hd, hs, hx, hod, q⟩ => ?_)
  subst ex
  obtain rfl : u = Value.ref d := rx
  have hm := raw_of I1 hd hx hod
  refine ⟨hm.typeIs, fun a e => ?_, ?_⟩
  · cases e
    exact ⟨o, (I1.hok d _ hd).1, hx.2.1⟩
  have I2 : Inv X pins σ H1 { s1 with heap := s1.heap.push { cls := .type "dict_items", data := .fields #[.ref d] } } := I1.kept (t' := s1.toks) fun b ob q => Heap.get?_push_of_some _ q
  have fin : wpAny (model X.prog X.w) X.A (pyIter (.ref s1.heap.objs.size)) (PIE X pins σ (.Tuple elts kk tpos) R) X.xe { s1 with heap := s1.heap.push { cls := .type "dict_items", data := .fields #[.ref d] } } := by
    refine wpAny_pyIter_items_raw (d := d) ⟨_, Heap.get?_push_size _ rfl, rfl, rfl⟩ (hm.at fun o e => Heap.get?_push_of_some _ e) (pi_one (tk := s1.toks) I2 _ (turn_rawItems _ hx hod) ⟨.none, .none, ?_⟩ q)
    exact Heap.get?_push_size _ rfl
  show wpAny _ _ (callWith cpos (.builtin "dict.items") [.ref d] [] []) _ X.xe s1
  exact method_meetsIn F.slot_dict_items F.entry_dict_items rfl (PySem.evalArgs_none ⟨rfl, hm.typeIs, F.args_dict_items_1 _, _, meets_dict_items_raw d hs, ⟨⟨es, ep, hm⟩, fin⟩⟩)
end OHS
end

section
set_option autoImplicit false
set_option linter.all false
set_option Elab.async false
set_option maxRecDepth 100000
set_option maxHeartbeats 1000000
namespace OH
open PySem L2 PySem.Spec PyProof.Rows
section
variable (P : Program) (w : World) (K : PySem.W.Frag)
/-- a slot's content r stands at v, its own objects at as -/
def SlotR (G H : Hp) (r : RV) (v : V) (as : List Addr) : Prop := (∃ x, r = .d x ∧ as = [] ∧ Rep P w K G v x) ∨ OwnAt P w K G H r v as
/-- the slots σ against the frame's values τ; G0, H0: the heaps at the entry -/
structure AI (G0 H0 G H : Hp) (σ : ASt) (τ : L2.St) : Prop where
  e : Ext G0 H0 G H
  len : σ.length = τ.length
  own : ∃ own : Nat → List Addr, (∀ i r, σ[i]? = some (some r) → ∃ v, τ[i]? = some (some v) ∧ SlotR P w K G H r v (own i)) ∧
    (∀ i j a, a ∈ own i → a ∈ own j → i = j) ∧ (∀ i, (own i).Nodup) ∧ ∀ i a, a ∈ own i → H0 a = none ∧ G a = none
end
section
variable {P : Program} {w : World} {K : PySem.W.Frag} {G0 H0 G H G' H' : Hp} {σ : ASt} {τ : L2.St}
theorem RepG.keep (g : Sub G G') : ∀ {xs : List (NestedKey × Addr × Value)} {ls : List Addr} {kvs : List (D × List D)}, RepG P w K G H xs ls kvs → (∀ a ∈ ls, ∀ o, H a = some o → H' a = some o) → RepG P w K G' H' xs ls kvs
  | _, _, _, .nil, _ => .nil
  | _, _, _, .cons a t b c d r, h => .cons a t (b.mono g) (h _ (by simp) _ c) (d.mono g) (RepG.keep g r fun x hx => h x (List.mem_cons_of_mem _ hx))
theorem OwnAt.keep {r : RV} {v : V} {as : List Addr} (o : OwnAt P w K G H r v as) (g : Sub G G') (h : ∀ a ∈ as, ∀ o, H a = some o → H' a = some o) : OwnAt P w K G' H' r v as := by
  cases o with
  | fl a b => exact .fl (h _ (by simp) _ a) (b.mono g)
  | fd a b c => exact .fd (h _ (by simp) _ a) b (c.mono g)
  | fg a b c => exact .fg (h _ (by simp) _ a) b (c.keep g fun x hx => h x (List.mem_cons_of_mem _ hx))
theorem RepG.at : ∀ {xs : List (NestedKey × Addr × Value)} {ls : List Addr} {kvs : List (D × List D)}, RepG P w K G H xs ls kvs → ∀ a ∈ ls, ∃ o, H a = some o
  | _, _, _, .nil, a, ha => by simp at ha
  | _, _, _, .cons _ _ _ c _ r, a, ha => by
    rcases List.mem_cons.mp ha with rfl | ha
    · exact ⟨_, c⟩
    · exact RepG.at r a ha
theorem OwnAt.at {r : RV} {v : V} {as : List Addr} (o : OwnAt P w K G H r v as) : ∀ a ∈ as, ∃ o, H a = some o := by
  intro a ha
  cases o with
  | fl x _ => have := List.mem_singleton.mp ha; subst this; exact ⟨_, x⟩
  | fd x _ _ => have := List.mem_singleton.mp ha; subst this; exact ⟨_, x⟩
  | fg x _ c =>
    rcases List.mem_cons.mp ha with rfl | ha
    · exact ⟨_, x⟩
    · exact c.at a ha
theorem SlotR.keep {r : RV} {v : V} {as : List Addr} (o : SlotR P w K G H r v as) (g : Sub G G') (h : ∀ a ∈ as, ∀ o, H a = some o → H' a = some o) : SlotR P w K G' H' r v as := by
  rcases o with ⟨x, e1, e2, r⟩ | o
  · exact .inl ⟨x, e1, e2, r.mono g⟩
  · exact .inr (o.keep g h)
theorem SlotR.at {r : RV} {v : V} {as : List Addr} (o : SlotR P w K G H r v as) : ∀ a ∈ as, ∃ o, H a = some o := by
  rcases o with ⟨x, e1, e2, r⟩ | o
  · subst e2; intro a ha; simp at ha
  · exact o.at
/-- only slots that hold something own anything: we may take own so -/
theorem AI.own' (A : AI P w K G0 H0 G H σ τ) : ∃ own : Nat → List Addr, (∀ i r, σ[i]? = some (some r) → ∃ v, τ[i]? = some (some v) ∧ SlotR P w K G H r v (own i)) ∧
    (∀ i j a, a ∈ own i → a ∈ own j → i = j) ∧ (∀ i, (own i).Nodup) ∧ (∀ i a, a ∈ own i → H0 a = none ∧ G a = none ∧ ∃ o, H a = some o) := by
  obtain ⟨own, h1, h2, h3, h4⟩ := A.own
  refine ⟨fun i => match σ[i]? with | some (some _) => own i | _ => [], fun i r e => ?_, fun i j a hi hj => ?_, fun i => ?_, fun i a hi => ?_⟩
  · obtain ⟨v, e1, e2⟩ := h1 i r e
    exact ⟨v, e1, by simp only [e]; exact e2⟩
  · refine h2 i j a ?_ ?_
    · dsimp only at hi; split at hi; exact hi; simp at hi
    · dsimp only at hj; split at hj; exact hj; simp at hj
  · dsimp only; split; exact h3 i; exact List.nodup_nil
  · dsimp only at hi
    split at hi
    · rename_i r e
      obtain ⟨v, _, e2⟩ := h1 i r e
      exact ⟨(h4 i a hi).1, (h4 i a hi).2, e2.at a hi⟩
    · simp at hi
/-- more was made, more is kept -/
theorem AI.ext (A : AI P w K G0 H0 G H σ τ) (x : Ext G H G' H') : AI P w K G0 H0 G' H' σ τ := by
  obtain ⟨own, h1, h2, h3, h4⟩ := A.own'
  refine ⟨A.e.trans x, A.len, own, fun i r e => ?_, h2, h3, fun i a ha => ?_⟩
  · obtain ⟨v, e1, e2⟩ := h1 i r e
    exact ⟨v, e1, e2.keep x.g fun a _ o q => x.h a o q⟩
  · obtain ⟨q1, q2, o, q3⟩ := h4 i a ha
    refine ⟨q1, ?_⟩
    cases z : G' a with
    | none => rfl
    | some u =>
      have := x.new a q2 (by rw [z]; exact fun q => nomatch q)
      rw [this] at q3; cases q3
/-- a slot of data -/
theorem AI.d (A : AI P w K G0 H0 G H σ τ) {i : Nat} {x : D} (h : σ[i]? = some (some (.d x))) : ∃ v, τ[i]? = some (some v) ∧ Rep P w K G v x := by
  obtain ⟨own, h1, _⟩ := A.own
  obtain ⟨v, e1, e2⟩ := h1 i _ h
  refine ⟨v, e1, ?_⟩
  rcases e2 with ⟨y, e, _, r⟩ | o
  · cases e; exact r
  · cases o
/-- a slot that is read: what it gives -/
theorem AI.slotV (A : AI P w K G0 H0 G H σ τ) {i : Nat} {r : RV} (h : slotV σ i = .ok r) : ∃ v, τ[i]? = some (some v) ∧ RepR P w K G H H r v := by
  unfold OH.slotV at h
  split at h
  · rename_i x e
    cases h
    obtain ⟨v, e1, r⟩ := A.d e
    exact ⟨v, e1, .d r⟩
  · rename_i x e
    cases h
    obtain ⟨own, h1, _⟩ := A.own
    obtain ⟨v, e1, e2⟩ := h1 i _ e
    refine ⟨v, e1, ?_⟩
    rcases e2 with ⟨y, e', _, r⟩ | o
    · cases e'
    · generalize own i = as at o
      cases o with
      | fl a b => exact .b (.lst (.inl (.inl a)) b)
  · rename_i x e
    cases h
    obtain ⟨own, h1, _⟩ := A.own
    obtain ⟨v, e1, e2⟩ := h1 i _ e
    refine ⟨v, e1, ?_⟩
    rcases e2 with ⟨y, e', _, r⟩ | o
    · cases e'
    · generalize own i = as at o
      cases o with
      | fd a b c => exact .b (.dic a b c)
  · cases h
/-- fewer slots are known -/
theorem AI.set_none (A : AI P w K G0 H0 G H σ τ) (i : Nat) (τ' : L2.St) (hl : τ'.length = τ.length) (ht : ∀ j, j ≠ i → τ'[j]? = τ[j]?) : AI P w K G0 H0 G H (σ.set i none) τ' := by
  obtain ⟨own, h1, h2, h3, h4⟩ := A.own
  refine ⟨A.e, by rw [List.length_set, A.len, hl], own, fun j r e => ?_, h2, h3, h4⟩
  by_cases hj : i = j
  · subst hj
    by_cases hb : i < σ.length
    · rw [List.getElem?_set_self hb] at e; cases e
    · rw [List.getElem?_eq_none (by simpa using hb)] at e; cases e
  · rw [List.getElem?_set_ne hj] at e
    rw [ht j (Ne.symm hj)]
    exact h1 j r e
/-- a slot gets data -/
theorem AI.set_d (A : AI P w K G0 H0 G H σ τ) {i : Nat} {x : D} {v : V} (h : Rep P w K G v x) : AI P w K G0 H0 G H (σ.set i (some (.d x))) (τ.set i (some v)) := by
  obtain ⟨own, h1, h2, h3, h4⟩ := A.own
  refine ⟨A.e, by rw [List.length_set, List.length_set, A.len], fun j => if j = i then [] else own j, fun j r e => ?_, fun j k a hj hk => ?_, fun j => ?_, fun j a hj => ?_⟩
  · by_cases hj : i = j
    · subst hj
      have hb : i < σ.length := by
        have := (List.getElem?_eq_some_iff.mp e).1
        simpa using this
      rw [List.getElem?_set_self hb] at e
      cases e
      exact ⟨v, List.getElem?_set_self (by rw [← A.len]; exact hb), .inl ⟨x, rfl, by simp, h⟩⟩
    · rw [List.getElem?_set_ne hj] at e ⊢
      obtain ⟨v', e1, e2⟩ := h1 j r e
      exact ⟨v', e1, by show SlotR P w K G H r v' (if j = i then [] else own j); rw [if_neg (Ne.symm hj)]; exact e2⟩
  · dsimp only at hj hk
    split at hj
    · simp at hj
    · split at hk
      · simp at hk
      · exact h2 j k a hj hk
  · dsimp only; split; exact List.nodup_nil; exact h3 j
  · dsimp only at hj
    split at hj
    · simp at hj
    · exact h4 j a hj
/-- a slot gets an own result that is new -/
theorem AI.set_own (A : AI P w K G0 H0 G H σ τ) (x : Ext G H G' H') {i : Nat} {r : RV} {v : V} {as : List Addr} (o : OwnAt P w K G' H' r v as) (nd : as.Nodup) (n : ∀ a ∈ as, H a = none ∧ G' a = none) :
    AI P w K G0 H0 G' H' (σ.set i (some r)) (τ.set i (some v)) := by
  have A' := A.ext x
  obtain ⟨own, h1, h2, h3, h4⟩ := A.own'
  have hap : ∀ j a, a ∈ own j → a ∉ as := fun j a ha hb => by
    obtain ⟨_, _, o, q⟩ := h4 j a ha
    rw [(n a hb).1] at q; cases q
  have hG : ∀ j a, a ∈ own j → G' a = none := fun j a ha => by
    obtain ⟨_, q2, o, q3⟩ := h4 j a ha
    cases z : G' a with
    | none => rfl
    | some u =>
      have := x.new a q2 (by rw [z]; exact fun q => nomatch q)
      rw [this] at q3; cases q3
  refine ⟨A'.e, by rw [List.length_set, List.length_set, A.len], fun j => if j = i then as else own j, fun j r' e => ?_, fun j k a hj hk => ?_, fun j => ?_, fun j a hj => ?_⟩
  · by_cases hj : i = j
    · subst hj
      have hb : i < σ.length := by
        have := (List.getElem?_eq_some_iff.mp e).1
        simpa using this
      rw [List.getElem?_set_self hb] at e
      cases e
      refine ⟨v, List.getElem?_set_self (by rw [← A.len]; exact hb), ?_⟩
      show SlotR P w K G' H' r v (if i = i then as else own i)
      rw [if_pos rfl]
      exact .inr o
    · rw [List.getElem?_set_ne hj] at e ⊢
      obtain ⟨v', e1, e2⟩ := h1 j r' e
      refine ⟨v', e1, ?_⟩
      show SlotR P w K G' H' r' v' (if j = i then as else own j)
      rw [if_neg (Ne.symm hj)]
      exact e2.keep x.g fun a _ o q => x.h a o q
  · dsimp only at hj hk
    by_cases ej : j = i
    · rw [if_pos ej] at hj
      by_cases ek : k = i
      · rw [ej, ek]
      · rw [if_neg ek] at hk
        exact absurd hj (hap k a hk)
    · rw [if_neg ej] at hj
      by_cases ek : k = i
      · rw [if_pos ek] at hk
        exact absurd hk (hap j a hj)
      · rw [if_neg ek] at hk
        exact h2 j k a hj hk
  · dsimp only
    split
    · exact nd
    · exact h3 j
  · dsimp only at hj
    split at hj
    · exact ⟨A.e.h.free (n a hj).1, (n a hj).2⟩
    · exact ⟨(h4 j a hj).1, hG j a hj⟩
/-- an own slot's object is written -/
theorem AI.write (A : AI P w K G0 H0 G H σ τ) {i : Nat} {r : RV} (h : σ[i]? = some (some r)) (hr : ∀ x, r ≠ .d x) :
    ∃ v as, τ[i]? = some (some v) ∧ OwnAt P w K G H r v as ∧ as.Nodup ∧ (∀ a ∈ as, H0 a = none ∧ G a = none) ∧ ∀ r' G' H', Sub G G' → (∀ a, G a = none → G' a ≠ none → H a = none) → Sub G' H' → Same H0 H' → (∀ b o, b ∉ as → H b = some o → H' b = some o) → (∀ as', (∀ a ∈ as', a ∈ as ∨ H a = none) → as'.Nodup → OwnAt P w K G' H' r' v as' → (∀ a ∈ as', H0 a = none ∧ G' a = none) → AI P w K G0 H0 G' H' (σ.set i (some r')) τ) := by
  obtain ⟨own, h1, h2, h3, h4⟩ := A.own'
  obtain ⟨v, e1, e2⟩ := h1 i r h
  have o : OwnAt P w K G H r v (own i) := by
    rcases e2 with ⟨x, e, _⟩ | o
    · exact absurd e (hr x)
    · exact o
  refine ⟨v, own i, e1, o, h3 i, fun a ha => ⟨(h4 i a ha).1, (h4 i a ha).2.1⟩, fun r' G' H' sg nw sb sm kp as' hsub nd o' hn => ?_⟩
  have hap : ∀ j a, j ≠ i → a ∈ own j → a ∉ as' := fun j a hj ha hb => by
    rcases hsub a hb with q | q
    · exact hj (h2 j i a ha q)
    · obtain ⟨_, _, ob, z⟩ := h4 j a ha
      rw [q] at z; cases z
  refine ⟨⟨A.e.g.trans sg, sm, sb, fun x z q => by
    cases w : G x with
    | none => exact A.e.h.free (nw x w q)
    | some u => exact A.e.new x z (by rw [w]; exact fun q => nomatch q)⟩, by rw [List.length_set, A.len], fun j => if j = i then as' else own j, fun j r2 e => ?_, fun j k a hj hk => ?_, fun j => ?_, fun j a hj => ?_⟩
  · by_cases hj : i = j
    · subst hj
      have hb : i < σ.length := by
        have := (List.getElem?_eq_some_iff.mp e).1
        simpa using this
      rw [List.getElem?_set_self hb] at e
      cases e
      refine ⟨v, e1, ?_⟩
      show SlotR P w K G' H' r' v (if i = i then as' else own i)
      rw [if_pos rfl]
      exact .inr o'
    · rw [List.getElem?_set_ne hj] at e
      obtain ⟨v', e3, e4⟩ := h1 j r2 e
      refine ⟨v', e3, ?_⟩
      show SlotR P w K G' H' r2 v' (if j = i then as' else own j)
      rw [if_neg (Ne.symm hj)]
      exact e4.keep sg fun a ha o q => kp a o (fun z => (Ne.symm hj) (h2 j i a ha z)) q
  · dsimp only at hj hk
    by_cases ej : j = i
    · rw [if_pos ej] at hj
      by_cases ek : k = i
      · rw [ej, ek]
      · rw [if_neg ek] at hk
        exact absurd hj (hap k a ek hk)
    · rw [if_neg ej] at hj
      by_cases ek : k = i
      · rw [if_pos ek] at hk
        exact absurd hk (hap j a ej hj)
      · rw [if_neg ek] at hk
        exact h2 j k a hj hk
  · dsimp only
    split
    · exact nd
    · exact h3 j
  · dsimp only at hj
    split at hj
    · exact hn a hj
    · refine ⟨(h4 j a hj).1, ?_⟩
      cases q : G' a with
      | none => rfl
      | some u =>
        obtain ⟨_, z, ob, z2⟩ := h4 j a hj
        rw [nw a z (by rw [q]; exact fun q => nomatch q)] at z2
        cases z2
theorem RepG.freeze : ∀ {xs : List (NestedKey × Addr × Value)} {ls : List Addr} {kvs : List (D × List D)}, RepG P w K G H xs ls kvs → ls.Nodup → ∀ {Gs H1 G1 : Hp}, Ext Gs H1 G1 H → Sub G G1 → (∀ a ∈ ls, H1 a = none ∧ G1 a = none) →
    ∃ G2, Ext Gs H1 G2 H ∧ Sub G1 G2 ∧ RepX P w K G2 xs (grpD kvs) ∧ ∀ b, b ∉ ls → G1 b = none → G2 b = none
  | _, _, _, .nil, _, _, _, G1, e, _, _ => ⟨G1, e, Sub.refl _, .nil, fun _ _ h => h⟩
  | _, _, _, .cons (l := l) (vs := vs) (ls := ls) a t b c d r, nd, Gs, H1, G1, e, g, n => by
    rw [List.nodup_cons] at nd
    have hl := n l (by simp)
    have e2 : Ext Gs H1 (upd G1 l (.lst vs)) H := e.keepG c hl.1 hl.2
    have g2 : Sub G1 (upd G1 l (.lst vs)) := fun x o q => by rw [upd_ne (ne_of_none q hl.2)]; exact q
    obtain ⟨G2, e3, g3, r3, k3⟩ := RepG.freeze r nd.2 e2 (g.trans g2) fun x hx => ⟨(n x (List.mem_cons_of_mem _ hx)).1, by rw [upd_ne (fun z => nd.1 (by rw [← z]; exact hx))]; exact (n x (List.mem_cons_of_mem _ hx)).2⟩
    refine ⟨G2, e3, g2.trans g3, .cons (v := .ref l) a t (b.mono (g.trans (g2.trans g3))) rfl (.lst (.inl (.inl (g3 _ _ upd_same))) (d.mono (g.trans (g2.trans g3)))) r3, fun x hx hn => k3 x (fun z => hx (List.mem_cons_of_mem _ z)) (by rw [upd_ne (fun z => hx (by rw [z]; simp))]; exact hn)⟩
/-- own objects that are new since H1 become data -/
theorem OwnAt.freeze2 {r : RV} {v : V} {as : List Addr} (o : OwnAt P w K G H r v as) (nd : as.Nodup) {Gs H1 : Hp} (e : Ext Gs H1 G H) (n : ∀ a ∈ as, H1 a = none ∧ G a = none) :
    ∃ G2, Ext Gs H1 G2 H ∧ Sub G G2 ∧ Rep P w K G2 v r.val ∧ ∀ b, b ∉ as → G b = none → G2 b = none := by
  cases o with
  | @fl a vs ds h r =>
    have hl := n a (by simp)
    have g2 : Sub G (upd G a (.lst vs)) := fun x o q => by rw [upd_ne (ne_of_none q hl.2)]; exact q
    exact ⟨_, e.keepG h hl.1 hl.2, g2, .lst (.inl (.inl upd_same)) (r.mono g2), fun b hb hn => by rw [upd_ne (fun z => hb (by rw [z]; simp))]; exact hn⟩
  | @fd a o xs kvs h d r =>
    have hl := n a (by simp)
    have g2 : Sub G (upd G a (hoD a o)) := fun x o q => by rw [upd_ne (ne_of_none q hl.2)]; exact q
    exact ⟨_, e.keepG h hl.1 hl.2, g2, .dic upd_same d (r.mono g2), fun b hb hn => by rw [upd_ne (fun z => hb (by rw [z]; simp))]; exact hn⟩
  | @fg a o xs ls kvs h d r =>
    rw [List.nodup_cons] at nd
    obtain ⟨G2, e2, g2, r2, k2⟩ := r.freeze nd.2 e (Sub.refl _) fun x hx => n x (List.mem_cons_of_mem _ hx)
    have hl := n a (by simp)
    have hn := k2 a nd.1 hl.2
    have g3 : Sub G2 (upd G2 a (hoD a o)) := fun x o q => by rw [upd_ne (ne_of_none q hn)]; exact q
    exact ⟨_, e2.keepG h hl.1 hn, g2.trans g3, .dic upd_same d (r2.mono g3), fun b hb hn' => by
      simp only [List.mem_cons, not_or] at hb
      rw [upd_ne hb.1]
      exact k2 b hb.2 hn'⟩
theorem OwnAt.freeze {r : RV} {v : V} {as : List Addr} (o : OwnAt P w K G H r v as) (nd : as.Nodup) {Gs H1 : Hp} (e : Ext Gs H1 G H) (n : ∀ a ∈ as, H1 a = none ∧ G a = none) :
    ∃ G2, Ext Gs H1 G2 H ∧ Sub G G2 ∧ Rep P w K G2 v r.val := by
  obtain ⟨G2, a, b, c, _⟩ := o.freeze2 nd e n
  exact ⟨G2, a, b, c⟩
/-- a result that is looked at -/
theorem RepR.look {H1 Gs : Hp} {r : RV} {v : V} (h : RepR P w K G H H1 r v) (e : Ext Gs H1 G H) : ∃ G2, Ext Gs H1 G2 H ∧ Sub G G2 ∧ BRep P w K G2 H v r.val := by
  cases h with
  | d h => exact ⟨G, e, Sub.refl _, .rep h⟩
  | b h => exact ⟨G, e, Sub.refl _, h⟩
  | own o nd n =>
    obtain ⟨G2, a, b, c⟩ := o.freeze nd e n
    exact ⟨G2, a, b, .rep c⟩
/-- a result that is kept -/
theorem RepR.froz {H1 Gs : Hp} {r : RV} {v : V} {x : D} (h : RepR P w K G H H1 r v) (e : Ext Gs H1 G H) (hx : r.frz = .ok x) : ∃ G2, Ext Gs H1 G2 H ∧ Sub G G2 ∧ Rep P w K G2 v x := by
  cases h with
  | d h => cases hx; exact ⟨G, e, Sub.refl _, h⟩
  | b h => cases hx
  | own o nd n =>
    obtain ⟨G2, a, b, c⟩ := o.freeze nd e n
    have : x = r.val := by cases o <;> (cases hx; rfl)
    rw [this]
    exact ⟨G2, a, b, c⟩
end
end OH
end

section
set_option autoImplicit false
set_option linter.all false
set_option Elab.async false
set_option maxRecDepth 100000
set_option maxHeartbeats 1000000
namespace OH
open PySem L2 PySem.Spec PyProof.Rows
/-- a test's expression that isTrue has a road for -/
def okT : Expr → Bool
  | .IfExp _ _ _ _ => false
  | .UnaryOp .Not _ _ => true
  | .UnaryOp _ _ _ => false
  | _ => true
/-- an expression whose test is its value's truth -/
def plainT : Expr → Bool
  | .IfExp _ _ _ _ => false
  | .UnaryOp _ _ _ => false
  | .BoolOp _ _ _ => false
  | .Compare _ _ _ _ => false
  | _ => true
def plainE : Expr → Bool
  | .Starred _ _ => false
  | .Slice _ _ _ _ => false
  | .Set _ _ _ => false
  | _ => true
theorem isTrue_plainT {ex : Expr} (h : plainT ex = true) (env : Env) (whole : Sem Value) : isTrue ex env whole = (do let v ← whole; standAt ex.pos; holding [v] (truthy v)) := by
  cases ex <;> first | rfl | (exact absurd h (by simp [plainT]))
theorem star_plainE {e : Expr} (h : plainE e = true) (es : List Expr) (env : Env) : starEach (e :: es) env = (false, eval e env) :: starEach es env := by
  cases e <;> first | rfl | (exact absurd h (by simp [plainE]))
theorem plainIx_plainE {b : Expr} (h : plainE b = true) : PlainIx b := by
  intro o i
  cases b <;> first | rfl | (exact absurd h (by simp [plainE]))
theorem noMarks_plainE {b : Expr} (h : plainE b = true) (op : CmpOp) : behindInMarks op b = false := by
  cases b <;> first | rfl | (exact absurd h (by simp [plainE]))
theorem starAny : ∀ {es : List Expr} (h : es.all plainE = true) (env : Env) (pos : Pos), (backTo pos (starEach es env)).any (·.1) = false
  | [], _, _, _ => rfl
  | e :: es, h, env, pos => by
    simp only [List.all_cons, Bool.and_eq_true] at h
    rw [star_plainE h.1]
    show (false || (backTo pos (starEach es env)).any (·.1)) = false
    rw [starAny h.2]; rfl
def isName0 : Expr → Bool
  | .Call (.Name _ _) [] [] _ => true
  | _ => false
theorem attrBase {o : Expr} (h : isName0 o = false) (x : Str) (env : Env) (whole : Sem Value) : attributeBase o x env whole = whole := by
  unfold attributeBase
  split
  · simp [isName0] at h
  · rfl
def noComp : Expr → Bool
  | .ListComp _ _ _ _ => false
  | .SetComp _ _ _ _ => false
  | .DictComp _ _ _ _ _ => false
  | _ => true
theorem noSwap {v : Expr} (h : noComp v = true) (t : Option Expr) (l : Nat) (env : Env) : swapsWith v t l env = pure false := by
  cases v <;> first | rfl | (exact absurd h (by simp [noComp]))
variable {X : Cx} {cl : Nat → List D → Res RV}
theorem PE_imp {ex : Expr} {t t' : TE} (h : PE X ex t) (k : ∀ τ H Q, t' τ H Q → t τ H Q) : PE X ex t' := ⟨fun pins s σ H Q I q => h.run pins s σ H Q I (k _ _ _ q)⟩
theorem PT_imp {ex : Expr} {t t' : TT} (h : PT X ex t) (k : ∀ τ H Q, t' τ H Q → t τ H Q) : PT X ex t' := ⟨fun pins s σ H Q I q => h.run pins s σ H Q I (k _ _ _ q)⟩
theorem PW_imp {ex : Expr} {t t' : TT} (h : PW X ex t) (k : ∀ τ H Q, t' τ H Q → t τ H Q) : PW X ex t' := ⟨fun wh pins s σ H Q I q => h.run wh pins s σ H Q I (k _ _ _ q)⟩
theorem PA_imp {ex : List Expr} {t t' : TA} (h : PA X ex t) (k : ∀ τ H Q, t' τ H Q → t τ H Q) : PA X ex t' := ⟨fun pos pins s σ H Q I q => h.run pos pins s σ H Q I (k _ _ _ q)⟩
abbrev AIx (X : Cx) (G0 H0 G H : Hp) (σ : ASt) (τ : L2.St) : Prop := AI X.prog X.w X.K G0 H0 G H σ τ
/-- an expression's reading on data -/
def tE (X : Cx) (cl : Nat → List D → Res RV) (e : E) : TE := fun τ H Q => ∃ G0 H0 G σ r, AIx X G0 H0 G H σ τ ∧ denE cl e σ = .ok r ∧ Kont X G H r Q
def tT (X : Cx) (cl : Nat → List D → Res RV) (e : E) : TT := fun τ H Q => ∃ G0 H0 G σ r k, AIx X G0 H0 G H σ τ ∧ denE cl e σ = .ok r ∧ truthR r.val = .ok k ∧ ∀ G' H', Ext G H G' H' → Q k H'
def tF (X : Cx) (cl : Nat → List D → Res RV) (es : List E) : TA := fun τ H Q => ∃ G0 H0 G σ ds, AIx X G0 H0 G H σ τ ∧ denF cl es σ = .ok ds ∧ ∀ G' H' vs, Ext G H G' H' → Reps X.prog X.w X.K G' vs ds → Q vs H'
def tV (X : Cx) (cl : Nat → List D → Res RV) (es : List E) : TA := fun τ H Q => ∃ G0 H0 G σ p, AIx X G0 H0 G H σ τ ∧ denV cl es σ = .ok p ∧ ∀ G' H' vs, Ext G H G' H' → BReps X.prog X.w X.K G' H' vs p.2 → (p.1 = false → Reps X.prog X.w X.K G' vs p.2) → Q vs H'
/-- an expression's term is sound -/
structure Snd (X : Cx) (cl : Nat → List D → Res RV) (e : E) (ex : Expr) : Prop where
  pe : PE X ex (tE X cl e)
  pt : okT ex = true → PT X ex (tT X cl e)
  as : noComp ex = false → ∀ (i : Nat) (y : Str) (py spos : Pos), X.N[i]? = some y → X.env.scope.names.lookup y = some .local → swapsWith ex (some (.Name y py)) spos.line X.env = pure true → PS X (.Assign [.Name y py] ex spos) (tAsg (tE X cl e) (gName i)) := by intro h; cases h
inductive Snds (X : Cx) (cl : Nat → List D → Res RV) : List E → List Expr → Prop
  | nil : Snds X cl [] []
  | cons {e : E} {ex : Expr} {es : List E} {xs : List Expr} : Snd X cl e ex → Snds X cl es xs → Snds X cl (e :: es) (ex :: xs)
theorem Kont.ext {G H G' H' : Hp} {r : RV} {Q : VK} (k : Kont X G H r Q) (x : Ext G H G' H') : Kont X G' H' r Q := fun G2 H2 v y rr => k G2 H2 v (x.trans y) (rr.older x.h)
theorem RepR.both {P : Program} {w : World} {K : PySem.W.Frag} {G H H1 Gs : Hp} {r : RV} {v : V} (h : RepR P w K G H H1 r v) (e : Ext Gs H1 G H) : ∃ G2, Ext Gs H1 G2 H ∧ Sub G G2 ∧ BRep P w K G2 H v r.val ∧ (r.isB = false → Rep P w K G2 v r.val) := by
  cases h with
  | d h => exact ⟨G, e, Sub.refl _, .rep h, fun _ => h⟩
  | b h => exact ⟨G, e, Sub.refl _, h, fun z => by cases z⟩
  | own o nd n =>
    obtain ⟨G2, a, b, c⟩ := o.freeze nd e n
    exact ⟨G2, a, b, .rep c, fun _ => c⟩
theorem tE_val {e : E} {r : RV} {G0 H0 G H : Hp} {σ : ASt} {τ : L2.St} {Q : VK} (A : AIx X G0 H0 G H σ τ) (h : denE cl e σ = .ok r)
    (k : ∀ G' H' v, Ext G H G' H' → AIx X G0 H0 G' H' σ τ → BRep X.prog X.w X.K G' H' v r.val → Q v H') : tE X cl e τ H Q :=
  ⟨G0, H0, G, σ, r, A, h, fun G1 H1 v x rr => by
    obtain ⟨G2, x2, g2, b⟩ := rr.look x
    exact k G2 H1 v x2 (A.ext x2) b⟩
theorem tE_both {e : E} {r : RV} {G0 H0 G H : Hp} {σ : ASt} {τ : L2.St} {Q : VK} (A : AIx X G0 H0 G H σ τ) (h : denE cl e σ = .ok r)
    (k : ∀ G' H' v, Ext G H G' H' → AIx X G0 H0 G' H' σ τ → BRep X.prog X.w X.K G' H' v r.val → (r.isB = false → Rep X.prog X.w X.K G' v r.val) → Q v H') : tE X cl e τ H Q :=
  ⟨G0, H0, G, σ, r, A, h, fun G1 H1 v x rr => by
    obtain ⟨G2, x2, g2, b, c⟩ := rr.both x
    exact k G2 H1 v x2 (A.ext x2) b c⟩
theorem tE_frz {e : E} {r : RV} {d : D} {G0 H0 G H : Hp} {σ : ASt} {τ : L2.St} {Q : VK} (A : AIx X G0 H0 G H σ τ) (h : denE cl e σ = .ok r) (hf : r.frz = .ok d)
    (k : ∀ G' H' v, Ext G H G' H' → AIx X G0 H0 G' H' σ τ → Rep X.prog X.w X.K G' v d → Q v H') : tE X cl e τ H Q :=
  ⟨G0, H0, G, σ, r, A, h, fun G1 H1 v x rr => by
    obtain ⟨G2, x2, g2, b⟩ := rr.froz x hf
    exact k G2 H1 v x2 (A.ext x2) b⟩
theorem tT_ok {e : E} {r : RV} {c : Bool} {G0 H0 G H : Hp} {σ : ASt} {τ : L2.St} {Q : Bool → Hp → Prop} (A : AIx X G0 H0 G H σ τ) (h : denE cl e σ = .ok r) (hc : truthR r.val = .ok c)
    (k : ∀ G' H', Ext G H G' H' → AIx X G0 H0 G' H' σ τ → Q c H') : tT X cl e τ H Q :=
  ⟨G0, H0, G, σ, r, c, A, h, hc, fun G1 H1 x => k G1 H1 x (A.ext x)⟩
/-- a scalar result is data in any heap -/
theorem truV {G H : Hp} {v : V} {d : D} {k : Bool} (sb : Sub G H) (b : BRep X.prog X.w X.K G H v d) (h : truthR d = .ok k) : TruV X.K v H k := by
  cases d with
  | none => cases h; rw [b.non_]; rfl
  | bool c => cases h; rw [b.bl_]; rfl
  | int i => cases h; rw [b.int_]; rfl
  | str x =>
    rw [b.str_]
    replace h : (if x.length ≤ LINE then Res.ok (x.length != 0) else Res.bad) = Res.ok k := h
    split at h
    · rename_i hz
      cases h
      refine ⟨by rw [← line_eq]; exact hz, ?_⟩
      rw [Bool.eq_iff_iff]; simp
    · cases h
  | list xs =>
    obtain ⟨a, vs, rfl, hr, rr⟩ := b.lst_ sb
    cases h
    refine .inl ⟨vs, hr.sq, ?_⟩
    have := rr.length
    cases xs <;> cases vs <;> simp_all
  | tuple xs =>
    obtain ⟨a, vs, rfl, hr, rr⟩ := b.tup_
    cases h
    refine .inr (.inl ⟨vs, sb.sqT hr, ?_⟩)
    have := rr.length
    cases xs <;> cases vs <;> simp_all
  | dict kvs => cases h
theorem AI.sub {P : Program} {w : World} {K : PySem.W.Frag} {G0 H0 G H : Hp} {σ : ASt} {τ : L2.St} (A : AI P w K G0 H0 G H σ τ) : Sub G H := A.e.sub
/-- from a value's reading: its test -/
theorem Snd.ofE {e : E} {ex : Expr} (h : PE X ex (tE X cl e)) (hp : plainT ex = true) (hn : noComp ex = true := by rfl) : Snd X cl e ex := ⟨h, fun _ => PT_imp (pt_truth h (isTrue_plainT hp X.env)) fun τ H Q q => by
  obtain ⟨G0, H0, G, σ, r, k, A, h1, h2, q⟩ := q
  exact tE_val A h1 fun G' H' v x A' b => ⟨k, truV A'.sub b h2, q G' H' x⟩, fun z => by rw [hn] at z; cases z⟩

theorem Snd.pt_of {e : E} {ex : Expr} (h : PE X ex (tE X cl e)) (hp : plainT ex = true) : okT ex = true → PT X ex (tT X cl e) := fun _ => PT_imp (pt_truth h (isTrue_plainT hp X.env)) fun τ H Q q => by
  obtain ⟨G0, H0, G, σ, r, k, A, h1, h2, q⟩ := q
  exact tE_val A h1 fun G' H' v x A' b => ⟨k, truV A'.sub b h2, q G' H' x⟩

theorem snd_const {ex : Expr} {v : V} {d : D} (h : PE X ex (tC v)) (hr : ∀ G, Rep X.prog X.w X.K G v d) : PE X ex (tE X cl (.lit d)) := PE_imp h fun τ H Q q => by
  obtain ⟨G0, H0, G, σ, r, A, h1, k⟩ := q
  simp only [denE] at h1
  cases h1
  exact k G H v (Ext.refl A.sub) (.d (hr G))
theorem snd_gl {ex : Expr} {v : V} {d : D} {n : Nat} (h : PE X ex (tC v)) (hr : ∀ G, Rep X.prog X.w X.K G v d) : PE X ex (tE X cl (.gl n d)) := PE_imp h fun τ H Q q => by
  obtain ⟨G0, H0, G, σ, r, A, h1, k⟩ := q
  simp only [denE] at h1
  cases h1
  exact k G H v (Ext.refl A.sub) (.d (hr G))
theorem snd_var {x : Str} {i : Nat} {pos : Pos} (hN : X.N[i]? = some x) (hv : Vis X.env.scope x) (hd : (x == ("__debug__" : Str)) = false) (hcd : (x == ("__classdict__" : Str)) = false) : PE X (.Name x pos) (tE X cl (.var i)) := PE_imp (pe_var hN hv hd hcd) fun τ H Q q => by
  obtain ⟨G0, H0, G, σ, r, A, h1, k⟩ := q
  simp only [denE] at h1
  obtain ⟨v, e, rr⟩ := A.slotV h1
  exact ⟨v, e, k G H v (Ext.refl A.sub) rr⟩

theorem snd_V : ∀ {es : List E} {xs : List Expr}, Snds X cl es xs → xs.all plainE = true → PA X xs (tV X cl es)
  | _, _, .nil, _ => PA_imp pa_nil fun τ H Q q => by
    obtain ⟨G0, H0, G, σ, p, A, h1, k⟩ := q
    rw [denV] at h1; cases h1
    exact k G H [] (Ext.refl A.sub) .nil fun _ => .nil
  | _, _, .cons (e := e) (es := es) h r, hp => by
    simp only [List.all_cons, Bool.and_eq_true] at hp
    refine PA_imp (pa_cons h.pe (snd_V r hp.2) (star_plainE hp.1 _ _)) fun τ H Q q => ?_
    obtain ⟨G0, H0, G, σ, p, A, h1, k⟩ := q
    rw [denV] at h1
    obtain ⟨x, e1, h1⟩ := bind_ok h1
    obtain ⟨y, e2, h1⟩ := bind_ok h1
    cases h1
    refine tE_both A e1 fun G1 H1 v x1 A1 b1 c1 => ⟨G0, H0, G1, σ, y, A1, e2, fun G2 H2 vs x2 b2 c2 => ?_⟩
    refine k G2 H2 (v :: vs) (x1.trans x2) (.cons (b1.ext x2) b2) fun z => ?_
    rw [Bool.or_eq_false_iff] at z
    exact .cons ((c1 z.1).mono x2.g) (c2 z.2)
theorem snd_F : ∀ {es : List E} {xs : List Expr}, Snds X cl es xs → xs.all plainE = true → PA X xs (tF X cl es)
  | _, _, .nil, _ => PA_imp pa_nil fun τ H Q q => by
    obtain ⟨G0, H0, G, σ, p, A, h1, k⟩ := q
    rw [denF] at h1; cases h1
    exact k G H [] (Ext.refl A.sub) .nil
  | _, _, .cons (e := e) (es := es) h r, hp => by
    simp only [List.all_cons, Bool.and_eq_true] at hp
    refine PA_imp (pa_cons h.pe (snd_F r hp.2) (star_plainE hp.1 _ _)) fun τ H Q q => ?_
    obtain ⟨G0, H0, G, σ, p, A, h1, k⟩ := q
    rw [denF] at h1
    obtain ⟨x, e1, h1⟩ := bind_ok h1
    obtain ⟨d, ed, h1⟩ := bind_ok h1
    obtain ⟨y, e2, h1⟩ := bind_ok h1
    cases h1
    refine tE_frz A e1 ed fun G1 H1 v x1 A1 b1 => ⟨G0, H0, G1, σ, y, A1, e2, fun G2 H2 vs x2 b2 => ?_⟩
    exact k G2 H2 (v :: vs) (x1.trans x2) (.cons (b1.mono x2.g) b2)
theorem denF_len : ∀ {es : List E} {σ : ASt} {ds : List D}, denF cl es σ = .ok ds → ds.length = es.length
  | [], σ, ds, h => by rw [denF] at h; cases h; rfl
  | e :: es, σ, ds, h => by
    rw [denF] at h
    obtain ⟨x, e1, h1⟩ := bind_ok h
    obtain ⟨d, ed, h1⟩ := bind_ok h1
    obtain ⟨y, e2, h1⟩ := bind_ok h1
    cases h1
    simp [denF_len e2]
theorem denV_len : ∀ {es : List E} {σ : ASt} {p : Bool × List D}, denV cl es σ = .ok p → p.2.length = es.length
  | [], σ, ds, h => by rw [denV] at h; cases h; rfl
  | e :: es, σ, ds, h => by
    rw [denV] at h
    obtain ⟨x, e1, h1⟩ := bind_ok h
    obtain ⟨y, e2, h1⟩ := bind_ok h1
    cases h1
    simp [denV_len e2]
theorem le_line {n : Nat} (h : n ≤ 1000) : n ≤ sizeLine := by rw [sizeLine_eq]; omega
theorem snd_tup {es : List E} {xs : List Expr} {k : Nat} {pos : Pos} (h : Snds X cl es xs) (hp : xs.all plainE = true) (hl : es.length ≤ 1000) : PE X (.Tuple xs k pos) (tE X cl (.tup es)) := PE_imp (pe_tup (snd_F h hp)) fun τ H Q q => by
  obtain ⟨G0, H0, G, σ, r, A, h1, k⟩ := q
  simp only [denE] at h1
  obtain ⟨ds, e1, h1⟩ := bind_ok h1
  cases h1
  refine ⟨G0, H0, G, σ, ds, A, e1, fun G1 H1 vs x rr => ⟨by rw [rr.length, denF_len e1]; exact le_line hl, fun p hp => ?_⟩⟩
  exact (Kont.ext k x).tup x.sub rr p hp
theorem snd_lst {es : List E} {xs : List Expr} {pos : Pos} (h : Snds X cl es xs) (hp : xs.all plainE = true) (hl : es.length ≤ 1000) : PE X (.List xs pos) (tE X cl (.lst es)) := PE_imp (pe_lst (snd_F h hp)) fun τ H Q q => by
  obtain ⟨G0, H0, G, σ, r, A, h1, k⟩ := q
  simp only [denE] at h1
  obtain ⟨ds, e1, h1⟩ := bind_ok h1
  cases h1
  refine ⟨G0, H0, G, σ, ds, A, e1, fun G1 H1 vs x rr => ⟨by rw [rr.length, denF_len e1]; exact le_line hl, fun p hp => ?_⟩⟩
  exact (Kont.ext k x).lst x.sub rr p hp

theorem op_two {f : D → D → Res RV} {a b : E} {x y : RV} {r : RV} {G0 H0 G H : Hp} {σ : ASt} {τ : L2.St} {Q : VK} (A : AIx X G0 H0 G H σ τ) (e1 : denE cl a σ = .ok x) (e2 : denE cl b σ = .ok y) (e3 : f x.val y.val = .ok r) (k : Kont X G H r Q) :
    tOp (rOp X f) (tE X cl a) (tE X cl b) τ H Q :=
  tE_val A e1 fun G1 H1 v x1 A1 b1 => tE_val A1 e2 fun G2 H2 u x2 A2 b2 => ⟨G2, x.val, y.val, r, A2.sub, b1.ext x2, b2, e3, Kont.ext k (x1.trans x2)⟩
theorem snd_bin {o : BOp} {op : Operator} {a b : E} {xa xb : Expr} {pos : Pos} (ho : OpR X (binaryOp op) (rOp X (binD o))) (ha : Snd X cl a xa) (hb : Snd X cl b xb) : PE X (.BinOp xa op xb pos) (tE X cl (.bin o a b)) := PE_imp (pe_op ho ha.pe hb.pe) fun τ H Q q => by
  obtain ⟨G0, H0, G, σ, r, A, h1, k⟩ := q
  simp only [denE] at h1
  obtain ⟨x, e1, h1⟩ := bind_ok h1
  obtain ⟨y, e2, h1⟩ := bind_ok h1
  exact op_two A e1 e2 h1 k
theorem snd_cmp {o : COp} {op : CmpOp} {a b : E} {xa xb : Expr} {pos : Pos} (ho : OpR X (compareOp op) (rCmp X (cmpD o))) (ha : Snd X cl a xa) (hb : Snd X cl b xb) (hp : plainE xb = true) : Snd X cl (.cmp o a b) (.Compare xa [op] [xb] pos) := by
  refine ⟨PE_imp (pe_cmpR ho ha.pe hb.pe (noMarks_plainE hp op)) fun τ H Q q => ?_, fun _ => PT_imp (pt_cmpR ho ha.pe hb.pe (noMarks_plainE hp op)) fun τ H Q q => ?_, fun z => by cases z⟩
  · obtain ⟨G0, H0, G, σ, r, A, h1, k⟩ := q
    simp only [denE] at h1
    obtain ⟨x, e1, h1⟩ := bind_ok h1
    obtain ⟨y, e2, h1⟩ := bind_ok h1
    obtain ⟨c, e3, h1⟩ := bind_ok h1
    cases h1
    exact tE_val A e1 fun G1 H1 v x1 A1 b1 => tE_val A1 e2 fun G2 H2 u x2 A2 b2 => ⟨G2, x.val, y.val, c, A2.sub, b1.ext x2, b2, e3, k G2 H2 (.bl c) (x1.trans x2) (.d (.bl c))⟩
  · obtain ⟨G0, H0, G, σ, r, t, A, h1, h2, k⟩ := q
    simp only [denE] at h1
    obtain ⟨x, e1, h1⟩ := bind_ok h1
    obtain ⟨y, e2, h1⟩ := bind_ok h1
    obtain ⟨c, e3, h1⟩ := bind_ok h1
    cases h1
    cases h2
    exact tE_val A e1 fun G1 H1 v x1 A1 b1 => tE_val A1 e2 fun G2 H2 u x2 A2 b2 => ⟨G2, x.val, y.val, _, A2.sub, b1.ext x2, b2, e3, _, rfl, k G2 H2 (x1.trans x2)⟩
theorem chain_read {o1 o2 : COp} {a b c : E} {r : RV} {G0 H0 G H : Hp} {σ : ASt} {τ : L2.St} {Q : VK} (A : AIx X G0 H0 G H σ τ) (h1 : denE cl (.chain o1 o2 a b c) σ = .ok r)
    (k : ∀ G' H' z, Ext G H G' H' → r = .d (.bool z) → Q (.bl z) H') : tChain (rCmp X (cmpD o1)) (rCmp X (cmpD o2)) (tE X cl a) (tE X cl b) (tE X cl c) τ H Q := by
  simp only [denE] at h1
  obtain ⟨x, e1, h1⟩ := bind_ok h1
  obtain ⟨y, e2, h1⟩ := bind_ok h1
  obtain ⟨t, e3, h1⟩ := bind_ok h1
  refine tE_val A e1 fun G1 H1 v x1 A1 b1 => tE_val A1 e2 fun G2 H2 u x2 A2 b2 => ⟨G2, x.val, y.val, t, A2.sub, b1.ext x2, b2, e3, t, rfl, ?_⟩
  cases t with
  | false =>
    simp only [Bool.false_eq_true, if_false] at h1 ⊢
    cases h1
    exact k G2 H2 false (x1.trans x2) rfl
  | true =>
    simp only [if_true] at h1 ⊢
    obtain ⟨z, e4, h1⟩ := bind_ok h1
    obtain ⟨c', e5, h1⟩ := bind_ok h1
    cases h1
    exact tE_val A2 e4 fun G3 H3 w' x3 A3 b3 => ⟨G3, y.val, z.val, c', A3.sub, b2.ext x3, b3, e5, k G3 H3 c' ((x1.trans x2).trans x3) rfl⟩
theorem snd_chain {o1 o2 : COp} {p1 p2 : CmpOp} {a b c : E} {xa xb xc : Expr} {pos : Pos} (h1 : OpR X (compareOp p1) (rCmp X (cmpD o1))) (h2 : OpR X (compareOp p2) (rCmp X (cmpD o2))) (ha : Snd X cl a xa) (hb : Snd X cl b xb) (hc : Snd X cl c xc)
    (hp : plainE xc = true) : Snd X cl (.chain o1 o2 a b c) (.Compare xa [p1, p2] [xb, xc] pos) := by
  have hm : lastMarks [p1, p2] [xb, xc] = false := noMarks_plainE hp p2
  refine ⟨PE_imp (pe_chain h1 h2 ha.pe hb.pe hc.pe hm) fun τ H Q q => ?_, fun _ => PT_imp (pt_chain h1 h2 ha.pe hb.pe hc.pe hm) fun τ H Q q => ?_, fun z => by cases z⟩
  · obtain ⟨G0, H0, G, σ, r, A, e, k⟩ := q
    exact chain_read A e fun G' H' z x e => k G' H' _ x (by subst e; exact .d (.bl z))
  · obtain ⟨G0, H0, G, σ, r, t, A, e, ht, k⟩ := q
    exact chain_read A e fun G' H' z x e => ⟨z, rfl, by
      rw [e] at ht; cases ht
      exact k G' H' x⟩
theorem snd_not {a : E} {xa : Expr} {pos : Pos} (ha : Snd X cl a xa) (ht : okT xa = true) : Snd X cl (.not a) (.UnaryOp .Not xa pos) := by
  refine ⟨PE_imp (pe_notT ha.pe) fun τ H Q q => ?_, fun _ => PT_imp (pt_not (ha.pt ht)) fun τ H Q q => ?_, fun z => by cases z⟩
  · obtain ⟨G0, H0, G, σ, r, A, h1, k⟩ := q
    simp only [denE] at h1
    obtain ⟨x, e1, h1⟩ := bind_ok h1
    obtain ⟨c, e2, h1⟩ := bind_ok h1
    cases h1
    exact tE_val A e1 fun G1 H1 v x1 A1 b1 => ⟨c, truV A1.sub b1 e2, k G1 H1 _ x1 (.d (.bl _))⟩
  · obtain ⟨G0, H0, G, σ, r, t, A, h1, h2, k⟩ := q
    simp only [denE] at h1
    obtain ⟨x, e1, h1⟩ := bind_ok h1
    obtain ⟨c, e2, h1⟩ := bind_ok h1
    cases h1
    cases h2
    exact tT_ok A e1 e2 fun G1 H1 x1 A1 => k G1 H1 x1
theorem un_neg : UnR X (unaryOp .USub) (fun x H Q => ∃ i, x = .int i ∧ Q (.int (-i)) H) := by
  intro pins s σ H x v Q I rx q
  obtain ⟨i, rfl, q⟩ := q
  exact L2.un_neg pins s σ H (.int i) v Q I rx ⟨i, rfl, q⟩
theorem snd_neg {a : E} {xa : Expr} {pos : Pos} (ha : Snd X cl a xa) : Snd X cl (.neg a) (.UnaryOp .USub xa pos) := by
  refine ⟨PE_imp (pe_un un_neg ha.pe) fun τ H Q q => ?_, fun h => (by cases h), fun z => (by cases z)⟩
  obtain ⟨G0, H0, G, σ, r, A, h1, k⟩ := q
  simp only [denE] at h1
  obtain ⟨x, e1, h1⟩ := bind_ok h1
  split at h1
  · rename_i i e2
    cases h1
    exact tE_val A e1 fun G1 H1 v x1 A1 b1 => ⟨i, by rw [e2] at b1; exact b1.int_, k G1 H1 _ x1 (.d (.int _))⟩
  · cases h1
theorem snd_ife {c a b : E} {xc xa xb : Expr} {pos : Pos} (hc : Snd X cl c xc) (ht : okT xc = true) (ha : Snd X cl a xa) (hb : Snd X cl b xb) : Snd X cl (.ife c a b) (.IfExp xc xa xb pos) := by
  refine ⟨PE_imp (pe_ifExp (hc.pt ht) ha.pe hb.pe) fun τ H Q q => ?_, fun h => (by cases h), fun z => (by cases z)⟩
  obtain ⟨G0, H0, G, σ, r, A, h1, k⟩ := q
  simp only [denE] at h1
  obtain ⟨x, e1, h1⟩ := bind_ok h1
  obtain ⟨t, e2, h1⟩ := bind_ok h1
  refine tT_ok A e1 e2 fun G1 H1 x1 A1 => ?_
  cases t with
  | true => simp only [if_true] at h1 ⊢; exact ⟨G0, H0, G1, σ, r, A1, h1, Kont.ext k x1⟩
  | false => simp only [Bool.false_eq_true, if_false] at h1 ⊢; exact ⟨G0, H0, G1, σ, r, A1, h1, Kont.ext k x1⟩

def tEA (X : Cx) (cl : Nat → List D → Res RV) (es : List E) : TE := fun τ H Q => ∃ G0 H0 G σ r, AIx X G0 H0 G H σ τ ∧ denA cl es σ = .ok r ∧ Kont X G H r Q
def tEO (X : Cx) (cl : Nat → List D → Res RV) (es : List E) : TE := fun τ H Q => ∃ G0 H0 G σ r, AIx X G0 H0 G H σ τ ∧ denO cl es σ = .ok r ∧ Kont X G H r Q
def tTA (X : Cx) (cl : Nat → List D → Res RV) (es : List E) : TT := fun τ H Q => ∃ G0 H0 G σ r k, AIx X G0 H0 G H σ τ ∧ denA cl es σ = .ok r ∧ truthR r.val = .ok k ∧ ∀ G' H', Ext G H G' H' → Q k H'
def tTO (X : Cx) (cl : Nat → List D → Res RV) (es : List E) : TT := fun τ H Q => ∃ G0 H0 G σ r k, AIx X G0 H0 G H σ τ ∧ denO cl es σ = .ok r ∧ truthR r.val = .ok k ∧ ∀ G' H', Ext G H G' H' → Q k H'
/-- the result that a test leaves: looked at, and kept as it is -/
theorem RepR.test {P : Program} {w : World} {K : PySem.W.Frag} {G H H1 Gs : Hp} {r : RV} {v : V} (h : RepR P w K G H H1 r v) (e : Ext Gs H1 G H) : ∃ G2, Sub G G2 ∧ Sub G2 H ∧ BRep P w K G2 H v r.val := by
  obtain ⟨G2, x, g, b⟩ := h.look e
  exact ⟨G2, g, x.sub, b⟩
theorem snd_andE {pos : Pos} : ∀ {es : List E} {xs : List Expr}, Snds X cl es xs → es ≠ [] → PE X (.BoolOp .And xs pos) (tEA X cl es)
  | _, _, .nil, h => absurd rfl h
  | _, _, .cons (e := e) h .nil, _ => PE_imp (pe_one h.pe) fun τ H Q q => by
    obtain ⟨G0, H0, G, σ, r, A, h1, k⟩ := q
    rw [denA] at h1
    obtain ⟨x, e1, h1⟩ := bind_ok h1
    cases h1
    exact ⟨G0, H0, G, σ, _, A, e1, k⟩
  | _, _, .cons (e := e) h (.cons (e := e2) (es := es) h2 r), _ => PE_imp (pe_andT h.pe (snd_andE (.cons h2 r) (by simp))) fun τ H Q q => by
    obtain ⟨G0, H0, G, σ, r, A, h1, k⟩ := q
    rw [denA] at h1
    obtain ⟨x, e1, h1⟩ := bind_ok h1
    simp only [List.isEmpty_cons, Bool.false_eq_true, if_false] at h1
    obtain ⟨t, et, h1⟩ := bind_ok h1
    refine ⟨G0, H0, G, σ, x, A, e1, fun G1 H1 v x1 rr => ?_⟩
    obtain ⟨G2, x2, g2, b⟩ := rr.look x1
    refine ⟨t, truV x2.sub b et, ?_⟩
    cases t with
    | true => simp only [if_true] at h1 ⊢; exact ⟨G0, H0, G1, σ, r, A.ext x1, h1, Kont.ext k x1⟩
    | false => simp only [Bool.false_eq_true, if_false] at h1 ⊢; cases h1; exact k G1 H1 v x1 rr
theorem snd_orE {pos : Pos} : ∀ {es : List E} {xs : List Expr}, Snds X cl es xs → es ≠ [] → PE X (.BoolOp .Or xs pos) (tEO X cl es)
  | _, _, .nil, h => absurd rfl h
  | _, _, .cons (e := e) h .nil, _ => PE_imp (pe_one h.pe) fun τ H Q q => by
    obtain ⟨G0, H0, G, σ, r, A, h1, k⟩ := q
    rw [denO] at h1
    obtain ⟨x, e1, h1⟩ := bind_ok h1
    cases h1
    exact ⟨G0, H0, G, σ, _, A, e1, k⟩
  | _, _, .cons (e := e) h (.cons (e := e2) (es := es) h2 r), _ => PE_imp (pe_orT h.pe (snd_orE (.cons h2 r) (by simp))) fun τ H Q q => by
    obtain ⟨G0, H0, G, σ, r, A, h1, k⟩ := q
    rw [denO] at h1
    obtain ⟨x, e1, h1⟩ := bind_ok h1
    simp only [List.isEmpty_cons, Bool.false_eq_true, if_false] at h1
    obtain ⟨t, et, h1⟩ := bind_ok h1
    refine ⟨G0, H0, G, σ, x, A, e1, fun G1 H1 v x1 rr => ?_⟩
    obtain ⟨G2, x2, g2, b⟩ := rr.look x1
    refine ⟨t, truV x2.sub b et, ?_⟩
    cases t with
    | false => simp only [Bool.false_eq_true, if_false] at h1 ⊢; exact ⟨G0, H0, G1, σ, r, A.ext x1, h1, Kont.ext k x1⟩
    | true => simp only [if_true] at h1 ⊢; cases h1; exact k G1 H1 v x1 rr
theorem snd_andT {pos : Pos} : ∀ {es : List E} {xs : List Expr}, Snds X cl es xs → xs.all okT = true → es ≠ [] → PW X (.BoolOp .And xs pos) (tTA X cl es)
  | _, _, .nil, _, h => absurd rfl h
  | _, _, .cons (e := e) h .nil, ht, _ => PW_imp (pw_and1 (h.pt (by simpa using ht))) fun τ H Q q => by
    obtain ⟨G0, H0, G, σ, r, t, A, h1, h2, k⟩ := q
    rw [denA] at h1
    obtain ⟨x, e1, h1⟩ := bind_ok h1
    cases h1
    exact ⟨G0, H0, G, σ, _, t, A, e1, h2, k⟩
  | _, _, .cons (e := e) h (.cons (e := e2) (es := es) h2 r), ht, _ => by
    rw [List.all_cons, Bool.and_eq_true] at ht
    refine PW_imp (pw_and (h.pt ht.1) (snd_andT (.cons h2 r) ht.2 (by simp))) fun τ H Q q => ?_
    obtain ⟨G0, H0, G, σ, r, t2, A, h1, hr, k⟩ := q
    rw [denA] at h1
    obtain ⟨x, e1, h1⟩ := bind_ok h1
    simp only [List.isEmpty_cons, Bool.false_eq_true, if_false] at h1
    obtain ⟨t, et, h1⟩ := bind_ok h1
    refine tT_ok A e1 et fun G1 H1 x1 A1 => ?_
    cases t with
    | true => simp only [if_true] at h1 ⊢; exact ⟨G0, H0, G1, σ, r, t2, A1, h1, hr, fun G2 H2 x2 => k G2 H2 (x1.trans x2)⟩
    | false => simp only [Bool.false_eq_true, if_false] at h1 ⊢; cases h1; rw [hr] at et; cases et; exact k G1 H1 x1
theorem snd_orT {pos : Pos} : ∀ {es : List E} {xs : List Expr}, Snds X cl es xs → xs.all okT = true → es ≠ [] → PW X (.BoolOp .Or xs pos) (tTO X cl es)
  | _, _, .nil, _, h => absurd rfl h
  | _, _, .cons (e := e) h .nil, ht, _ => PW_imp (pw_or1 (h.pt (by simpa using ht))) fun τ H Q q => by
    obtain ⟨G0, H0, G, σ, r, t, A, h1, h2, k⟩ := q
    rw [denO] at h1
    obtain ⟨x, e1, h1⟩ := bind_ok h1
    cases h1
    exact ⟨G0, H0, G, σ, _, t, A, e1, h2, k⟩
  | _, _, .cons (e := e) h (.cons (e := e2) (es := es) h2 r), ht, _ => by
    rw [List.all_cons, Bool.and_eq_true] at ht
    refine PW_imp (pw_or (h.pt ht.1) (snd_orT (.cons h2 r) ht.2 (by simp))) fun τ H Q q => ?_
    obtain ⟨G0, H0, G, σ, r, t2, A, h1, hr, k⟩ := q
    rw [denO] at h1
    obtain ⟨x, e1, h1⟩ := bind_ok h1
    simp only [List.isEmpty_cons, Bool.false_eq_true, if_false] at h1
    obtain ⟨t, et, h1⟩ := bind_ok h1
    refine tT_ok A e1 et fun G1 H1 x1 A1 => ?_
    cases t with
    | false => simp only [Bool.false_eq_true, if_false] at h1 ⊢; exact ⟨G0, H0, G1, σ, r, t2, A1, h1, hr, fun G2 H2 x2 => k G2 H2 (x1.trans x2)⟩
    | true => simp only [if_true] at h1 ⊢; cases h1; rw [hr] at et; cases et; exact k G1 H1 x1
theorem snd_and {es : List E} {xs : List Expr} {pos : Pos} (h : Snds X cl es xs) (ht : xs.all okT = true) (hn : es ≠ []) : Snd X cl (.and es) (.BoolOp .And xs pos) := by
  refine ⟨PE_imp (snd_andE h hn) fun τ H Q q => ?_, fun _ => PT_imp (snd_andT h ht hn).pt fun τ H Q q => ?_, fun z => by cases z⟩
  · obtain ⟨G0, H0, G, σ, r, A, h1, k⟩ := q
    simp only [denE] at h1
    exact ⟨G0, H0, G, σ, r, A, h1, k⟩
  · obtain ⟨G0, H0, G, σ, r, t, A, h1, k⟩ := q
    simp only [denE] at h1
    exact ⟨G0, H0, G, σ, r, t, A, h1, k⟩
theorem snd_or {es : List E} {xs : List Expr} {pos : Pos} (h : Snds X cl es xs) (ht : xs.all okT = true) (hn : es ≠ []) : Snd X cl (.or es) (.BoolOp .Or xs pos) := by
  refine ⟨PE_imp (snd_orE h hn) fun τ H Q q => ?_, fun _ => PT_imp (snd_orT h ht hn).pt fun τ H Q q => ?_, fun z => by cases z⟩
  · obtain ⟨G0, H0, G, σ, r, A, h1, k⟩ := q
    simp only [denE] at h1
    exact ⟨G0, H0, G, σ, r, A, h1, k⟩
  · obtain ⟨G0, H0, G, σ, r, t, A, h1, k⟩ := q
    simp only [denE] at h1
    exact ⟨G0, H0, G, σ, r, t, A, h1, k⟩

theorem snd_idx (hu : X.A.units + 66 < cLine) {a b : E} {xa xb : Expr} {pos : Pos} (ha : Snd X cl a xa) (hb : Snd X cl b xb) (hp : plainE xb = true) : PE X (.Subscript xa xb pos) (tE X cl (.idx a b)) := PE_imp (pe_ix (ixGet hu) ha.pe hb.pe (plainIx_plainE hp)) fun τ H Q q => by
  obtain ⟨G0, H0, G, σ, r, A, h1, k⟩ := q
  simp only [denE] at h1
  obtain ⟨x, e1, h1⟩ := bind_ok h1
  obtain ⟨y, e2, h1⟩ := bind_ok h1
  obtain ⟨d, e3, h1⟩ := bind_ok h1
  cases h1
  exact tE_val A e1 fun G1 H1 v x1 A1 b1 => tE_val A1 e2 fun G2 H2 u x2 A2 b2 => ⟨G2, x.val, y.val, d, A2.sub, b1.ext x2, b2, e3, Kont.ext k (x1.trans x2)⟩
/-- a slice's part: an int or None -/
def tPartN (te : TE) : TO := fun σ H Q => te σ H fun x H1 => (∃ i, x = .int i ∧ Q (some i) H1) ∨ (x = .non ∧ Q none H1)
theorem po_someN {e : Expr} {te : TE} (h : PE X e te) : PO X (some e) (tPartN te) := by
  refine ⟨fun pins s σ H Q I hw => ?_⟩
  rw [evalPart_some]
  refine thn (h.run pins s σ H _ I hw) fun u s1 ⟨x, H1, I1, r1, q1⟩ => ?_
  rcases q1 with ⟨i, rfl, q⟩ | ⟨rfl, q⟩
  · obtain ⟨t, rfl⟩ := r1
    exact ⟨some i, H1, I1, .int i t, q⟩
  · cases r1
    exact ⟨none, H1, I1, .none, q⟩
def tPt (X : Cx) (cl : Nat → List D → Res RV) (e : E) : TO := fun τ H Q => ∃ G0 H0 G σ r o, AIx X G0 H0 G H σ τ ∧ denE cl e σ = .ok r ∧ bndD r.val = .ok o ∧ ∀ G' H', Ext G H G' H' → Q o H'
def PartOk (X : Cx) (cl : Nat → List D → Res RV) (e : E) (o : Option Expr) : Prop := PO X o (tPt X cl e)
theorem part_none : PartOk X cl (.lit .none) none := ⟨fun pins s σ H Q I h => by
  refine po_none.run pins s σ H Q I ?_
  obtain ⟨G0, H0, G, σ, r, o, A, h1, h2, k⟩ := h
  simp only [denE] at h1
  cases h1
  cases h2
  exact k G H (Ext.refl A.sub)⟩
theorem part_some {e : E} {ex : Expr} (h : Snd X cl e ex) : PartOk X cl e (some ex) := ⟨fun pins s σ H Q I q => by
  refine (po_someN h.pe).run pins s σ H Q I ?_
  obtain ⟨G0, H0, G, σ, r, o, A, h1, h2, k⟩ := q
  refine tE_val A h1 fun G1 H1 v x1 A1 b1 => ?_
  unfold bndD at h2
  split at h2
  · rename_i e; cases h2; rw [e] at b1; exact .inr ⟨b1.non_, k G1 H1 x1⟩
  · rename_i i e; cases h2; rw [e] at b1; exact .inl ⟨i, b1.int_, k G1 H1 x1⟩
  · cases h2⟩
theorem snd_slc {a l h : E} {xa : Expr} {lo hi : Option Expr} {p2 pos : Pos} (ha : Snd X cl a xa) (hl : PartOk X cl l lo) (hh : PartOk X cl h hi) : PE X (.Subscript xa (.Slice lo hi none p2) pos) (tE X cl (.slc a l h)) := PE_imp (pe_slice slCut ha.pe hl hh) fun τ H Q q => by
  obtain ⟨G0, H0, G, σ, r, A, h1, k⟩ := q
  simp only [denE] at h1
  obtain ⟨x, e1, h1⟩ := bind_ok h1
  obtain ⟨y, e2, h1⟩ := bind_ok h1
  obtain ⟨z, e3, h1⟩ := bind_ok h1
  obtain ⟨ly, e4, h1⟩ := bind_ok h1
  obtain ⟨hz, e5, h1⟩ := bind_ok h1
  refine tE_val A e1 fun G1 H1 v x1 A1 b1 => ⟨G0, H0, G1, σ, y, ly, A1, e2, e4, fun G2 H2 x2 => ⟨G0, H0, G2, σ, z, hz, A1.ext x2, e3, e5, fun G3 H3 x3 => ?_⟩⟩
  exact ⟨G3, x.val, r, x3.sub, b1.ext (x2.trans x3), h1, Kont.ext k ((x1.trans x2).trans x3)⟩
end OH
end

section
set_option autoImplicit false
set_option linter.all false
set_option Elab.async false
set_option maxRecDepth 100000
set_option maxHeartbeats 1000000
namespace OH
open PySem L2 PySem.Spec PyProof.Rows
/-- a def's promise on data -/
def spF (P : Program) (w : World) (K : PySem.W.Frag) (cl : Nat → List D → Res RV) (f : Nat) : Sp := fun vs H Q E => ∃ G ds r, Sub G H ∧ Reps P w K G vs ds ∧ cl f ds = .ok r ∧ ∀ G' H' v, Ext G H G' H' → RepR P w K G' H' H r v → Q v H'
/-- the def f stands at the name x of the module -/
def FnAt (X : Cx) (cl : Nat → List D → Res RV) (f : Nat) (x : Str) : Prop :=
  ∃ (k : Nat) (fa : Addr) (fd : FuncData) (ps : List Str), FnOk X.prog X.w X.K X.mg X.base CX0 k fa fd ps (spF X.prog X.w X.K cl f) ∧ Room k X.A ∧ X.mg x = some (.ref fa) ∧ PySem.W.keepIn X.K (.ref fa) = true ∧ Binds X.K fd ps []
theorem BReps.all {P : Program} {w : World} {K : PySem.W.Frag} {G H : Hp} (sb : Sub G H) : ∀ {vs : List V} {ds : List D}, BReps P w K G H vs ds → Reps P w K H vs ds
  | _, _, .nil => .nil
  | _, _, .cons a r => .cons (by
    cases a with
    | rep h => exact h.mono sb
    | lst h r => exact .lst h (r.mono sb)
    | dic h o r => exact .dic h o (r.mono sb)) (BReps.all sb r)
theorem scal_any {P : Program} {w : World} {K : PySem.W.Frag} {G G' H H1 H2 : Hp} {r : RV} {v : V} (hs : isScal r = true) (h : RepR P w K G H H1 r v) : RepR P w K G' H H2 r v := by
  cases r with
  | d x =>
    cases h with
    | d h =>
      cases x with
      | none => cases h; exact .d .non
      | bool b => cases h; exact .d (.bl _)
      | int i => cases h; exact .d (.int _)
      | str s => cases h; exact .d (.str _)
      | _ => simp [isScal] at hs
    | own o _ _ => cases o
  | _ => simp [isScal] at hs
variable {X : Cx} {cl : Nat → List D → Res RV}
theorem call_read {f : Nat} {es : List E} {τ : L2.St} {H : Hp} {Q : VK} (q : tE X cl (.call f es) τ H Q) : tV X cl es τ H fun vs H1 => spF X.prog X.w X.K cl f (vs ++ []) H1 Q fun _ _ _ => False := by
  obtain ⟨G0, H0, G, σ, r, A, h1, k⟩ := q
  simp only [denE] at h1
  obtain ⟨p, e1, h1⟩ := bind_ok h1
  obtain ⟨r0, e2, h1⟩ := bind_ok h1
  refine ⟨G0, H0, G, σ, p, A, e1, fun G1 H1 vs x b c => ?_⟩
  show spF X.prog X.w X.K cl f (vs ++ []) H1 Q fun _ _ _ => False
  rw [List.append_nil]
  unfold callB at h1
  by_cases hp : p.1 = true
  · rw [hp, Bool.true_and] at h1
    by_cases hs : isScal r0 = true
    · rw [hs] at h1
      cases h1
      refine ⟨H1, p.2, _, Sub.refl _, b.all x.sub, e2, fun G2 H2 v x2 rr => ?_⟩
      refine k G1 H2 v (x.trans ⟨Sub.refl _, x2.h, fun a o q => x2.h a o (x.sub a o q), fun _ h n => absurd h n⟩) (scal_any hs rr)
    · rw [Bool.not_eq_true] at hs; rw [hs] at h1; cases h1
  · rw [Bool.not_eq_true] at hp
    rw [hp] at h1
    cases h1
    exact ⟨G1, p.2, _, x.sub, c hp, e2, fun G2 H2 v x2 rr => Kont.ext k x G2 H2 v x2 rr⟩
theorem snd_call {f : Nat} {x : Str} {es : List E} {xs : List Expr} {p pos : Pos} (F : FnAt X cl f x) (hg : Gl X x) (hdb : (x == ("__debug__" : Str)) = false) (h : Snds X cl es xs) (hp : xs.all plainE = true) : PE X (.Call (.Name x p) xs [] pos) (tE X cl (.call f es)) := by
  obtain ⟨k, fa, fd, ps, F, hr, hm, hk, hb⟩ := F
  have hx : Passes CX0 X fun _ _ _ => False := fun _ _ _ _ _ _ _ h => h.elim
  cases xs with
  | nil =>
    refine PE_imp (pe_call0 F hr hg hm hk hb .nil hx hdb) fun τ H Q q => ?_
    have := call_read q
    cases h
    obtain ⟨G0, H0, G, σ, p, A, h1, k⟩ := this
    simp only [denV] at h1; cases h1
    exact k G H [] (Ext.refl A.sub) .nil fun _ => .nil
  | cons e xs =>
    have hp' := hp
    simp only [List.all_cons, Bool.and_eq_true] at hp'
    exact PE_imp (pe_call F hr hg hm hk hb .nil hx (snd_V h hp) hdb (star_plainE hp'.1 _ _) (starAny hp'.2 _ _)) fun τ H Q q => call_read q

theorem prim_read {o : Prim} {es : List E} {τ : L2.St} {H : Hp} {Q : VK} (q : tE X cl (.prim o es) τ H Q) : tV X cl es τ H fun vs H1 => rPrim X o vs H1 Q := by
  obtain ⟨G0, H0, G, σ, r, A, h1, k⟩ := q
  simp only [denE] at h1
  obtain ⟨p, e1, h1⟩ := bind_ok h1
  exact ⟨G0, H0, G, σ, p, A, e1, fun G1 H1 vs x b c => ⟨G1, p.2, r, x.sub, b, h1, Kont.ext k x⟩⟩
theorem snd_primB {o : Prim} {id : String} {x : Str} {es : List E} {xs : List Expr} {p pos : Pos} (hc : CallR X (.builtin id) (rPrim X o)) (hg : Gl X x) (hm : X.mg x = none) (hv : bootBuiltins x = some (.builtin id)) (hn : x ≠ "__name__") (hdb : (x == ("__debug__" : Str)) = false)
    (h : Snds X cl es xs) (hp : xs.all plainE = true) (he : es ≠ []) : PE X (.Call (.Name x p) xs [] pos) (tE X cl (.prim o es)) := by
  cases h with
  | nil => exact absurd rfl he
  | cons h r =>
    have hp' := hp
    simp only [List.all_cons, Bool.and_eq_true] at hp'
    exact PE_imp (pe_callB hc hg hm hv (snd_V (.cons h r) hp) hn hdb (star_plainE hp'.1 _ _) (starAny hp'.2 _ _)) fun τ H Q q => prim_read q
theorem snd_primT {o : Prim} {id : String} {x : Str} {es : List E} {xs : List Expr} {p pos : Pos} (hc : CallR X (.type id) (rPrim X o)) (hg : Gl X x) (hm : X.mg x = none) (hv : bootBuiltins x = some (.type id)) (hn : x ≠ "__name__") (hdb : (x == ("__debug__" : Str)) = false)
    (h : Snds X cl es xs) (hp : xs.all plainE = true) (he : es ≠ []) : PE X (.Call (.Name x p) xs [] pos) (tE X cl (.prim o es)) := by
  cases h with
  | nil => exact absurd rfl he
  | cons h r =>
    have hp' := hp
    simp only [List.all_cons, Bool.and_eq_true] at hp'
    exact PE_imp (pe_callTy hc hg hm hv (snd_V (.cons h r) hp) hn hdb (star_plainE hp'.1 _ _) (starAny hp'.2 _ _)) fun τ H Q q => prim_read q
def tyStr : Ty → Str | .int => "int" | .bool => "bool" | .str => "str" | .tup => "tuple" | .lst => "list"
theorem tyStr_boot (t : Ty) : bootBuiltins (tyStr t) = some (.type (tyName t)) := by cases t <;> decide +kernel
theorem tyStr_ok (t : Ty) : tyStr t ≠ "__name__" ∧ (tyStr t == ("__debug__" : Str)) = false := by cases t <;> decide +kernel
theorem snd_isTy {t : Ty} {a : E} {xa : Expr} {p p2 pos : Pos} (hg : Gl X "isinstance") (hm : X.mg "isinstance" = none) (hg2 : Gl X (tyStr t)) (hm2 : X.mg (tyStr t) = none) (ha : Snd X cl a xa) (hp : plainE xa = true) :
    PE X (.Call (.Name "isinstance" p) [xa, .Name (tyStr t) p2] [] pos) (tE X cl (.prim (.isTy t) [a])) := by
  have ht := pe_bltn (pos := p2) (v := V.ty (tyName t)) hg2 hm2 (tyStr_boot t) rfl (tyStr_ok t).1 (tyStr_ok t).2
  have hr : PA X [xa, .Name (tyStr t) p2] _ := pa_cons ha.pe (pa_cons ht pa_nil rfl) (star_plainE hp _ _)
  refine PE_imp (pe_callB (primIsTy t) hg hm (by decide +kernel) hr (by decide) (by decide) (star_plainE hp _ _) rfl) fun τ H Q q => ?_
  obtain ⟨G0, H0, G, σ, r, A, h1, k⟩ := q
  simp only [denE, denV] at h1
  obtain ⟨p, e1, h1⟩ := bind_ok h1
  obtain ⟨x, e2, e1⟩ := bind_ok e1
  simp only [Res.bind_ok] at e1
  cases e1
  exact tE_val A e2 fun G1 H1 v x1 A1 b1 => ⟨v, rfl, G1, _, r, x1.sub, .cons b1 .nil, h1, Kont.ext k x1⟩
theorem rg_reps {G : Hp} {P : Program} {w : World} {K : PySem.W.Frag} (a : Int) : ∀ (l : List Nat), Reps P w K G (l.map fun i => V.int (a + (i : Nat))) (l.map fun k => .int (a + (k : Nat)))
  | [] => .nil
  | _ :: r => .cons (.int _) (rg_reps a r)
theorem range_read {o : Prim} (ho : o = .listRange ∨ o = .tupleRange) {a : E} {τ : L2.St} {H : Hp} {Q : VK} (q : tE X cl (.prim o [a]) τ H Q) :
    tE X cl a τ H fun x H1 => ∃ n : Int, x = .int n ∧ RgOk 0 n ∧ ∃ G, Sub G H1 ∧ (o = .listRange → Kont X G H1 (.fl (rangeD 0 n)) Q) ∧ (o = .tupleRange → Kont X G H1 (.d (.tuple (rangeD 0 n))) Q) := by
  obtain ⟨G0, H0, G, σ, r, A, h1, k⟩ := q
  simp only [denE, denV] at h1
  obtain ⟨p, e1, h1⟩ := bind_ok h1
  obtain ⟨x, e2, e1⟩ := bind_ok e1
  simp only [Res.bind_ok] at e1
  cases e1
  refine tE_val A e2 fun G1 H1 v x1 A1 b1 => ?_
  have lr : ∀ n : Int, n ≤ LINE ∧ -(2 ^ 62) ≤ n → RgOk 0 n := fun n h => by
    have : (LINE : Int) = 16777216 := rfl
    refine ⟨by omega, by omega, by omega, by omega, by omega⟩
  generalize hv : x.val = d at h1 b1
  rcases ho with rfl | rfl
  · cases d <;> simp only [primD, reduceCtorEq] at h1
    rename_i n
    split at h1
    · rename_i hn
      cases h1
      exact ⟨n, b1.int_, lr n hn, G1, x1.sub, fun _ => Kont.ext k x1, fun h => by cases h⟩
    · cases h1
  · cases d <;> simp only [primD, reduceCtorEq] at h1
    rename_i n
    split at h1
    · rename_i hn
      cases h1
      exact ⟨n, b1.int_, lr n hn, G1, x1.sub, fun h => (by cases h), fun _ => Kont.ext k x1⟩
    · cases h1
theorem snd_listRange {a : E} {xa : Expr} {p p2 pos q : Pos} (hc : X.calm = true) (hg : Gl X "list") (hm : X.mg "list" = none) (hg2 : Gl X "range") (hm2 : X.mg "range" = none) (ha : Snd X cl a xa) (hp : plainE xa = true) :
    PE X (.Call (.Name "list" p) [.Call (.Name "range" p2) [xa] [] q] [] pos) (tE X cl (.prim .listRange [a])) := PE_imp (pe_listRg hc hg hm (prg_1 hg2 hm2 ha.pe (star_plainE hp _ _))) fun τ H Q q => by
  obtain ⟨G0, H0, G, σ, r, A, h1, k⟩ := range_read (.inl rfl) q
  refine ⟨G0, H0, G, σ, r, A, h1, fun G1 H1 v x rr => ?_⟩
  obtain ⟨n, e, rg, G2, sb, k1, k2⟩ := k G1 H1 v x rr
  refine ⟨n, e, rg, fun p hp => ?_⟩
  refine (k1 rfl).lst sb ?_ p hp
  unfold rgV rangeD
  exact rg_reps 0 _
theorem snd_tupleRange {a : E} {xa : Expr} {p p2 pos q : Pos} (hc : X.calm = true) (hg : Gl X "tuple") (hm : X.mg "tuple" = none) (hg2 : Gl X "range") (hm2 : X.mg "range" = none) (ha : Snd X cl a xa) (hp : plainE xa = true) :
    PE X (.Call (.Name "tuple" p) [.Call (.Name "range" p2) [xa] [] q] [] pos) (tE X cl (.prim .tupleRange [a])) := PE_imp (pe_tupRg hc hg hm (prg_1 hg2 hm2 ha.pe (star_plainE hp _ _))) fun τ H Q q => by
  obtain ⟨G0, H0, G, σ, r, A, h1, k⟩ := range_read (.inr rfl) q
  refine ⟨G0, H0, G, σ, r, A, h1, fun G1 H1 v x rr => ?_⟩
  obtain ⟨n, e, rg, G2, sb, k1, k2⟩ := k G1 H1 v x rr
  refine ⟨n, e, rg, fun p hp => ?_⟩
  refine (k2 rfl).tup sb ?_ p hp
  unfold rgV rangeD
  exact rg_reps 0 _

theorem dedupI_mem : ∀ (ns : List Int) (x : Int), x ∈ dedupI ns ↔ x ∈ ns
  | [], _ => Iff.rfl
  | y :: r, x => by
    unfold dedupI
    split
    · rename_i h
      rw [dedupI_mem r, List.mem_cons]
      exact ⟨.inr, fun z => z.elim (fun e => e ▸ h) id⟩
    · rw [List.mem_cons, dedupI_mem r, List.mem_cons]
theorem dedupI_nodup : ∀ ns : List Int, (dedupI ns).Nodup
  | [] => List.nodup_nil
  | y :: r => by
    unfold dedupI
    split
    · exact dedupI_nodup r
    · rename_i h
      exact List.nodup_cons.mpr ⟨fun z => h ((dedupI_mem r y).mp z), dedupI_nodup r⟩
theorem dedupI_count {ns ks : List Int} (hn : ks.Nodup) (hm : ∀ k, decide (k ∈ ns) = true ↔ k ∈ ks) : ks.length = (dedupI ns).length := by
  refine ((List.perm_ext_iff_of_nodup hn (dedupI_nodup ns)).mpr fun k => ?_).length_eq
  rw [dedupI_mem, ← hm, decide_eq_true_eq]
def tLenSetU (X : Cx) (ta : TE) : TE := fun σ H Q => ta σ H fun x H1 => ∃ (l : Addr) (ks : List Int), x = .ref l ∧ SqT X.K H1 l (ks.map V.int) ∧ ks.length ≤ 4000 ∧ Q (.int (dedupI ks).length) H1
theorem pe_lenSetU {a : Expr} {ta : TE} {p p2 q pos : Pos} (hc : X.calm = true) (g1 : Gl X "len") (m1 : X.mg "len" = none) (g2 : Gl X "set") (m2 : X.mg "set" = none) (ha : PE X a ta)
    (na : starEach [a] X.env = (false, eval a X.env) :: starEach [] X.env) : PE X (.Call (.Name "len" p) [.Call (.Name "set" p2) [a] [] q] [] pos) (tLenSetU X ta) := by
  constructor
  intro pins s σ H Q I h
  refine Call_ (ld_blt I g1 m1 boot_len (PyProof.Rows.callWith_builtin1 (PyProof.Rows.args_cons (Call_ (ld_blt I g2 m2 boot_set ?_)) rfl) rfl rfl))
  refine PyProof.Rows.callWith_type1 (PyProof.Rows.args_cons (thn (ha.run pins s σ H _ I h) fun v s1 z => PyProof.Rows.args_nil ?_) na) na rfl
  obtain ⟨x, H1, J, r1, l, ks, rfl, hq, hl, k1⟩ := z
  cases r1
  obtain ⟨its, r, pl, hz⟩ := J.tuple hq
  have il := r.length
  refine call_set_tupI ks (J.ok.hd hc) pl (by simpa using r.ints) (by unfold scanBound; omega) ?_
  intro h' tk c hS _ hk
  apply PyProof.Rows.args_nil
  obtain ⟨o, es, ep, t, ho, hex, hd, _, hnd, hmm, hb, hf, hn, _, _⟩ := hS
  have e : es.size = (dedupI ks).length := by
    rw [← dedupI_count hnd hmm, List.length_map, Array.length_toList]
  have J2 : Inv X pins σ H1 { s1 with heap := h', toks := tk } := J.kept hk
  have hb2 : (es.size : Int) < 2 ^ 63 := by unfold scanBound at hb; omega
  exact call_len_set ho hex hd hf hb2 ⟨.int (dedupI ks).length, H1, J2.tok _, ⟨_, by rw [e]⟩, k1⟩
theorem snd_lenSet {a : E} {xa : Expr} {p p2 pos q : Pos} (hc : X.calm = true) (g1 : Gl X "len") (m1 : X.mg "len" = none) (g2 : Gl X "set") (m2 : X.mg "set" = none) (ha : Snd X cl a xa) (hp : plainE xa = true) :
    PE X (.Call (.Name "len" p) [.Call (.Name "set" p2) [xa] [] q] [] pos) (tE X cl (.prim .lenSet [a])) := PE_imp (pe_lenSetU hc g1 m1 g2 m2 ha.pe (star_plainE hp _ _)) fun τ H Q q => by
  obtain ⟨G0, H0, G, σ, r, A, h1, k⟩ := q
  simp only [denE, denV] at h1
  obtain ⟨p, e1, h1⟩ := bind_ok h1
  obtain ⟨x, e2, e1⟩ := bind_ok e1
  simp only [Res.bind_ok] at e1
  cases e1
  refine tE_val A e2 fun G1 H1 v x1 A1 b1 => ?_
  generalize hv : x.val = d at h1 b1
  cases d <;> simp only [primD, reduceCtorEq] at h1
  rename_i ds
  split at h1
  · rename_i ks hk
    split at h1
    · rename_i hl
      cases h1
      obtain ⟨l, vs, rfl, h3, h4⟩ := b1.tup_
      exact ⟨l, ks, rfl, by rw [← h4.ints hk]; exact A1.sub.sqT h3, hl, k.ext x1 |>.d (A1.sub) (.int _)⟩
    · cases h1
  · cases h1
theorem emptyDict (h : Heap) (hb : sysModules < h.objs.size) (P : Program) (w : World) : DictO P w h.objs.size { cls := .type "dict", data := .dict #[] } [] :=
  ⟨⟨rfl, rfl, rfl⟩, ⟨#[], 0, rfl, rfl⟩, List.nodup_nil, beq_eq_false_iff_ne.mpr (Ne.symm (Nat.ne_of_lt hb)), Nat.zero_le _⟩
theorem snd_dct0 {pos : Pos} : PE X (.Dict [] [] pos) (tE X cl (.dct [] [])) := ⟨fun pins s τ H Q I q => by
  obtain ⟨G0, H0, G, σ, r, A, h1, k⟩ := q
  simp only [denE, denF, Res.bind_ok] at h1
  rw [if_pos (by rfl)] at h1
  cases h1
  have hn := I.hok.fresh (Nat.le_refl s.heap.objs.size)
  refine wpAny_Dict_empty ⟨.ref s.heap.objs.size, upd H s.heap.objs.size (hoD s.heap.objs.size { cls := .type "dict", data := .dict #[] }), I.laid (t' := s.toks) (fun _ _ q => Heap.get?_push_of_some _ q) (Nat.le_refl _) (hoD_ok (X := X) (Heap.get?_push_size _ rfl)), rfl, ?_⟩
  refine k G _ _ (Ext.alloc A.sub hn) (.own (.fd upd_same (emptyDict s.heap I.big X.prog X.w) .nil) (by simp) fun a ha => ?_)
  obtain rfl := List.mem_singleton.mp ha
  exact ⟨hn, A.sub.none hn⟩⟩
end OH
end

section
set_option autoImplicit false
set_option linter.all false
set_option Elab.async false
set_option maxRecDepth 100000
set_option maxHeartbeats 1000000
namespace OH
open PySem L2 PySem.Spec PyProof.Rows
variable {X : Cx} {cl : Nat → List D → Res RV}
/-- what the heap says of lengths -/
def LenOk (X : Cx) (H : Hp) : Prop := (∀ a xs, SqL X.K H a xs → xs.length ≤ sizeLine) ∧ ∀ a xs, SqT X.K H a xs → xs.length ≤ sizeLine
theorem lenOk {pins : List (Addr × Obj)} {τ : L2.St} {H : Hp} {s : Shared} (I : Inv X pins τ H s) : LenOk X H := ⟨fun a xs h => by
  obtain ⟨_, _, _, hz⟩ := I.list h; exact hz, fun a xs h => by
  obtain ⟨_, _, _, hz⟩ := I.tuple h; exact hz⟩
theorem PE_len {ex : Expr} {te : TE} (h : PE X ex te) : PE X ex (fun τ H Q => te τ H fun x H1 => LenOk X H1 → Q x H1) := ⟨fun pins s σ H Q I q =>
  thn (h.run pins s σ H _ I q) fun u s1 ⟨x, H1, I1, r1, q1⟩ => ⟨x, H1, I1, r1, q1 (lenOk I1)⟩⟩
theorem PA_len {xs : List Expr} {ta : TA} (h : PA X xs ta) : PA X xs (fun τ H Q => ta τ H fun vs H1 => LenOk X H1 → Q vs H1) := ⟨fun pos pins s σ H Q I q =>
  thn (h.run pos pins s σ H _ I q) fun u s1 ⟨x, H1, I1, r1, q1⟩ => ⟨x, H1, I1, r1, q1 (lenOk I1)⟩⟩
theorem PI_imp {tg ex : Expr} {t t' : TI} (h : PI X tg ex t) (k : ∀ τ H Q, t' τ H Q → t τ H Q) : PI X tg ex t' := ⟨fun pins s σ H Q I q => h.run pins s σ H Q I (k _ _ _ q)⟩
theorem PI_or {tg ex : Expr} {t u : TI} (h : PI X tg ex t) (h' : PI X tg ex u) : PI X tg ex (fun τ H Q => t τ H Q ∨ u τ H Q) := ⟨fun pins s σ H Q I q => by
  rcases q with q | q
  · exact h.run pins s σ H Q I q
  · exact h'.run pins s σ H Q I q⟩
/-- one item, data once it comes -/
def ItemOk (X : Cx) (G1 : Hp) (d : D) (H : Hp) (v : V) (H2 : Hp) : Prop := ∀ G, Sub G1 G → Sub G H → ∃ G2, Ext G H G2 H2 ∧ Rep X.prog X.w X.K G2 v d
structure ItOk (X : Cx) (J : It) (items : List D) (G1 Gp : Hp) : Prop where
  walk : Walk J items.length (fun H => Sub Gp H) (fun i H v H2 => ∃ d, items[i]? = some d ∧ ItemOk X G1 d H v H2)
  len : items.length ≤ sizeLine
/-- the reading of what is walked -/
def tI (X : Cx) (cl : Nat → List D → Res RV) (k : ItK) (src : List E) : TI := fun τ H R => ∃ G0 H0 G σ q items, AIx X G0 H0 G H σ τ ∧ denV cl src σ = .ok q ∧ itemsD k q.2 = .ok items ∧
  ∀ J G' H' Gp, Ext G H G' H' → Sub G' Gp → Sub Gp H' → (q.1 = false → Gp = G') → ItOk X J items G' Gp → R J H'
/-- where the walked objects stand: among the kept if nothing is borrowed -/
theorem gp_of {G' H' : Hp} (sb : Sub G' H') (b : Bool) : ∃ Gp, Sub G' Gp ∧ Sub Gp H' ∧ (b = false → Gp = G') ∧ (b = true → Gp = H') := by
  cases b with
  | false => exact ⟨G', Sub.refl _, sb, fun _ => rfl, fun h => by cases h⟩
  | true => exact ⟨H', sb, Sub.refl _, fun h => Bool.noConfusion h, fun _ => rfl⟩
theorem Reps.breps {P : Program} {w : World} {K : PySem.W.Frag} {G H : Hp} : ∀ {vs : List V} {ds : List D}, Reps P w K G vs ds → BReps P w K G H vs ds
  | _, _, .nil => .nil
  | _, _, .cons a r => .cons (.rep a) (Reps.breps r)
theorem snd_Vg {es : List E} {xs : List Expr} (h : Snds X cl es xs) (hp : xs.all plainE = true) : PA X xs (fun τ H Q => ∃ G0 H0 G σ p, AIx X G0 H0 G H σ τ ∧ denV cl es σ = .ok p ∧
    ∀ G' H' Gp vs, Ext G H G' H' → Sub G' Gp → Sub Gp H' → (p.1 = false → Gp = G') → BReps X.prog X.w X.K G' Gp vs p.2 → LenOk X H' → Q vs H') := PA_imp (PA_len (snd_V h hp)) fun τ H Q q => by
  obtain ⟨G0, H0, G, σ, p, A, h1, k⟩ := q
  refine ⟨G0, H0, G, σ, p, A, h1, fun G1 H1 vs x b c z => ?_⟩
  obtain ⟨Gp, s1, s2, s3, s4⟩ := gp_of x.sub p.1
  refine k G1 H1 Gp vs x s1 s2 s3 ?_ z
  by_cases hb : p.1 = true
  · rw [s4 hb]; exact b
  · rw [Bool.not_eq_true] at hb; exact (c hb).breps
theorem snd_Eg {e : E} {ex : Expr} (h : Snd X cl e ex) : PE X ex (fun τ H Q => ∃ G0 H0 G σ p, AIx X G0 H0 G H σ τ ∧ denV cl [e] σ = .ok p ∧
    ∀ G' H' Gp v, Ext G H G' H' → Sub G' Gp → Sub Gp H' → (p.1 = false → Gp = G') → BReps X.prog X.w X.K G' Gp [v] p.2 → LenOk X H' → Q v H') := PE_imp (PE_len h.pe) fun τ H Q q => by
  obtain ⟨G0, H0, G, σ, p, A, h1, k⟩ := q
  simp only [denV] at h1
  obtain ⟨r, e1, h1⟩ := bind_ok h1
  simp only [Res.bind_ok, Bool.or_false] at h1
  cases h1
  refine tE_both A e1 fun G1 H1 v x A1 b c z => ?_
  obtain ⟨Gp, s1, s2, s3, s4⟩ := gp_of x.sub r.isB
  refine k G1 H1 Gp v x s1 s2 s3 (.cons ?_ .nil) z
  by_cases hb : r.isB = true
  · rw [s4 hb]; exact b
  · rw [Bool.not_eq_true] at hb; exact .rep (c hb)
theorem item_same {G1 H : Hp} {v : V} {d : D} (r : Rep X.prog X.w X.K G1 v d) : ItemOk X G1 d H v H := fun G s1 s2 => ⟨G, Ext.refl s2, r.mono s1⟩
theorem item_pair {G1 H : Hp} {T : Addr} {x y : V} {d e : D} (hT : H T = none) (r : Rep X.prog X.w X.K G1 x d) (r' : Rep X.prog X.w X.K G1 y e) : ItemOk X G1 (.tuple [d, e]) H (.ref T) (upd H T (.tup [x, y])) := fun G s1 s2 => by
  have e := Ext.allocG (o := .tup [x, y]) s2 hT
  exact ⟨_, e, .tup (.inl (.inl upd_same)) (.cons ((r.mono s1).mono e.g) (.cons ((r'.mono s1).mono e.g) .nil))⟩
theorem walk_len {J : It} {n m : Nat} {G : Hp → Prop} {Y : Nat → Hp → V → Hp → Prop} (w : Walk J n G Y) (h : n = m) : Walk J m G Y := h ▸ w
theorem itok_list {G1 Gp : Hp} {a : Addr} {vs : List V} {ds : List D} (hr : LstAt X.K Gp a vs) (r : Reps X.prog X.w X.K G1 vs ds) (hl : ds.length ≤ sizeLine) : ItOk X (Itl X.K a) ds G1 Gp :=
  ⟨(walk_len walk_list r.length).mono (fun H s => (s.la hr).sq) fun i H x H' hi g y => by
    obtain ⟨e, y⟩ := y
    obtain ⟨d, h1, h2⟩ := r.getV y
    rw [e]
    exact ⟨d, h1, item_same h2⟩, hl⟩
theorem itok_tup {G1 Gp : Hp} {a : Addr} {vs : List V} {ds : List D} (hr : SqT X.K Gp a vs) (r : Reps X.prog X.w X.K G1 vs ds) (hl : ds.length ≤ sizeLine) : ItOk X (Itt X.K a) ds G1 Gp :=
  ⟨(walk_len walk_tup r.length).mono (fun H s => s.sqT hr) fun i H x H' hi g y => by
    obtain ⟨e, y⟩ := y
    obtain ⟨d, h1, h2⟩ := r.getV y
    rw [e]
    exact ⟨d, h1, item_same h2⟩, hl⟩
theorem itok_str {G1 Gp : Hp} {z : Str} (hl : z.length ≤ LINE) : ItOk X (Its z) (charsD z) G1 Gp :=
  ⟨(walk_len walk_str (by unfold charsD; simp)).mono (fun H s => trivial) fun i H x H' hi g y => by
    obtain ⟨e, c, h1, h2⟩ := y
    subst h2; rw [e]
    exact ⟨sign1 c, by unfold charsD; simp [h1], item_same (.str _)⟩, by rw [← line_eq]; unfold charsD; rw [List.length_map, Array.length_toList]; exact hl⟩
theorem itok_range {G1 Gp : Hp} {lo hi : Int} {n : Nat} (hn : (hi - lo).toNat = n) (hl : n ≤ LINE) : ItOk X (Itr lo n) (rangeD lo hi) G1 Gp :=
  ⟨(walk_len walk_range (by unfold rangeD; simp [hn])).mono (fun H s => trivial) fun i H x H' hi' g y => by
    obtain ⟨e, h2⟩ := y
    subst h2; rw [e]
    unfold rangeD at hi' ⊢
    simp at hi'
    exact ⟨.int (lo + (i : Nat)), by simp [hi'], item_same (.int _)⟩, by rw [← line_eq]; unfold rangeD; simpa [hn] using hl⟩
theorem itok_down {G1 Gp : Hp} {lo hi : Int} (hl : lo - hi ≤ LINE) : ItOk X (Itc lo (-1) (lo - hi).toNat) ((List.range (lo - hi).toNat).map fun k => .int (lo - (k : Nat))) G1 Gp :=
  ⟨(walk_len walk_rangeC (by simp)).mono (fun H s => trivial) fun i H x H' hi' g y => by
    obtain ⟨e, h2⟩ := y
    subst h2; rw [e]
    simp at hi'
    refine ⟨.int (lo - (i : Nat)), by simp [hi'], ?_⟩
    show ItemOk X G1 _ H (.int (lo + (i : Int) * (-1))) H
    rw [show lo + (i : Int) * (-1) = lo - (i : Nat) by omega]
    exact item_same (.int _), by
    rw [← line_eq]; simp only [List.length_map, List.length_range]
    have : (LINE : Int) = 16777216 := rfl
    have : LINE = 16777216 := rfl
    omega⟩
theorem RepX.at {P : Program} {w : World} {K : PySem.W.Frag} {G : Hp} : ∀ {xs : List (NestedKey × Addr × Value)} {kvs : List (D × D)} {i : Nat} {nk : NestedKey} {b : Addr} {u : Value}, RepX P w K G xs kvs → xs[i]? = some (nk, b, u) → ∃ k d v, kvs[i]? = some (k, d) ∧ Rep P w K G (.ref b) k ∧ RelV v u ∧ Rep P w K G v d
  | _, _, _, _, _, _, .nil, e => by simp at e
  | _, _, 0, _, _, _, .cons (k := k) (d := d) (v := v) _ _ b c d' _, e => by simp at e; obtain ⟨rfl, rfl, rfl⟩ := e; exact ⟨k, d, v, rfl, b, c, d'⟩
  | _, _, i + 1, _, _, _, .cons _ _ _ _ _ r, e => by
    obtain ⟨k, d, v, h⟩ := RepX.at (i := i) r (by simpa using e)
    exact ⟨k, d, v, by simpa using h.1, h.2⟩
theorem entry_at {P : Program} {w : World} {es : Array DictEntry} {xs : List (NestedKey × Addr × Value)} (h : es.toList = xs.map (entryOfKey (nestedKind P w))) {i : Nat} (hi : i < es.size) : ∃ nk b u, xs[i]? = some (nk, b, u) ∧ es[i].key = .ref b ∧ es[i].val = u := by
  have h1 : es.toList[i]? = some es[i] := by simp [hi]
  rw [h, List.getElem?_map] at h1
  obtain ⟨⟨nk, b, u⟩, e, q⟩ := Option.map_eq_some_iff.mp h1
  exact ⟨nk, b, u, e, by rw [← q]; rfl, by rw [← q]; rfl⟩
theorem itok_keys {G1 Gp : Hp} {d : Addr} {o : Obj} {xs : List (NestedKey × Addr × Value)} {kvs : List (D × D)} (hd : Gp d = some (hoD d o)) (dd : DictO X.prog X.w d o xs) (r : RepX X.prog X.w X.K G1 xs kvs) {es : Array DictEntry} {ep : Nat} (hes : o.data = .dict es ep) (hx : es.toList = xs.map (entryOfKey (nestedKind X.prog X.w))) :
    ItOk X (OHS.ItRK d o es) (kvs.map (·.1)) G1 Gp := by
  have hn : es.size = kvs.length := by rw [← r.len, ← List.length_map (f := entryOfKey (nestedKind X.prog X.w)), ← hx, Array.length_toList]
  refine ⟨⟨fun i H hi g => ?_, fun H g => ?_, fun i H x H' hi g y => ?_⟩, ?_⟩
  · rw [List.length_map] at hi
    obtain ⟨nk, b, u, e, e2, e3⟩ := entry_at hx (i := i) (by omega)
    exact ⟨g _ _ hd, by omega, .ref b, by rw [e2]; rfl⟩
  · rw [List.length_map, ← hn]
    exact ⟨g _ _ hd, Nat.le_refl _⟩
  · obtain ⟨e, hi2, rx⟩ := y
    obtain ⟨nk, b, u, e1, e2, e3⟩ := entry_at hx hi2
    rw [e2] at rx
    obtain ⟨k, d', v, q1, q2, q3, q4⟩ := r.at e1
    have : x = .ref b := rx.inj (y := .ref b) rfl
    subst this; rw [e]
    exact ⟨k, by simp [q1], item_same q2⟩
  · rw [List.length_map, ← r.len]; exact dd.len
theorem itok_items {G1 Gp : Hp} {d : Addr} {o : Obj} {xs : List (NestedKey × Addr × Value)} {kvs : List (D × D)} (hd : Gp d = some (hoD d o)) (dd : DictO X.prog X.w d o xs) (r : RepX X.prog X.w X.K G1 xs kvs) {es : Array DictEntry} {ep : Nat} (hes : o.data = .dict es ep) (hx : es.toList = xs.map (entryOfKey (nestedKind X.prog X.w))) :
    ItOk X (OHS.ItRI d o es) (kvs.map fun p => .tuple [p.1, p.2]) G1 Gp := by
  have hn : es.size = kvs.length := by rw [← r.len, ← List.length_map (f := entryOfKey (nestedKind X.prog X.w)), ← hx, Array.length_toList]
  refine ⟨⟨fun i H hi g => ?_, fun H g => ?_, fun i H x H' hi g y => ?_⟩, ?_⟩
  · rw [List.length_map] at hi
    obtain ⟨nk, b, u, e, e2, e3⟩ := entry_at hx (i := i) (by omega)
    obtain ⟨k, d', v, q1, q2, q3, q4⟩ := r.at e
    exact ⟨g _ _ hd, by omega, .ref b, v, by rw [e2]; rfl, by rw [e3]; exact q3⟩
  · rw [List.length_map, ← hn]
    exact ⟨g _ _ hd, Nat.le_refl _⟩
  · obtain ⟨T, x, y, e, hT, e', hi2, rx, ry⟩ := y
    obtain ⟨nk, b, u, e1, e2, e3⟩ := entry_at hx hi2
    rw [e2] at rx
    rw [e3] at ry
    obtain ⟨k, d', v, q1, q2, q3, q4⟩ := r.at e1
    have : x = .ref b := rx.inj (y := .ref b) rfl
    subst this
    have : y = v := ry.inj q3
    subst this
    subst e e'
    exact ⟨.tuple [k, d'], by simp [q1], item_pair hT q2 q4⟩
  · rw [List.length_map, ← r.len]; exact dd.len
theorem all_T_ne {kvs : List (D × D)} {ks : List (Key × V)} {G : Hp} {P : Program} {w : World} {K : PySem.W.Frag} (r : RepK P w K G ks kvs) (hn : kvs ≠ []) (h : (kvs.all fun p => isKeyT p.1) = true) : False := by
  cases kvs with
  | nil => exact hn rfl
  | cons p q =>
    simp only [List.all_cons, Bool.and_eq_true] at h
    exact keyT_F h.1 (r.allF p (by simp))
/-- for x in e, [.. for x in e]: a list, a tuple, a text, a dict's keys -/
theorem pi_seq {tg ex : Expr} {e : E} (h : Snd X cl e ex) : PI X tg ex (tI X cl .seq [e]) := by
  have g := snd_Eg h
  refine PI_imp (PI_or (pi_list g) (PI_or (pi_tup g) (PI_or (pi_str g) (OHS.pi_rawKeys g)))) fun τ H R q => ?_
  obtain ⟨G0, H0, G, σ, p, items, A, h1, h2, k⟩ := q
  obtain ⟨d, hd⟩ : ∃ d, p.2 = [d] := by
    have := denV_len h1
    match p.2, this with
    | [d], _ => exact ⟨d, rfl⟩
  rw [hd] at h2
  simp only [itemsD] at h2
  cases d with
  | list ds =>
    refine .inl ⟨G0, H0, G, σ, p, A, h1, fun G1 H1 Gp v x s1 s2 s3 b z => ?_⟩
    rw [hd] at b
    obtain ⟨v', e, b⟩ := b.one
    cases e
    cases h2
    obtain ⟨a, vs, rfl, hr, rr⟩ := b.lst_ s1
    have hq : SqL X.K H1 a vs := (s2.la hr).sq
    exact ⟨a, rfl, ⟨vs, hq⟩, k _ G1 H1 Gp x s1 s2 s3 (itok_list hr rr (by rw [← rr.length]; exact z.1 a vs hq))⟩
  | tuple ds =>
    refine .inr (.inl ⟨G0, H0, G, σ, p, A, h1, fun G1 H1 Gp v x s1 s2 s3 b z => ?_⟩)
    rw [hd] at b
    obtain ⟨v', e, b⟩ := b.one
    cases e
    cases h2
    obtain ⟨a, vs, rfl, hr, rr⟩ := b.tup_
    have hq : SqT X.K H1 a vs := (s1.trans s2).sqT hr
    exact ⟨a, rfl, ⟨vs, hq⟩, k _ G1 H1 Gp x s1 s2 s3 (itok_tup (s1.sqT hr) rr (by rw [← rr.length]; exact z.2 a vs hq))⟩
  | str y =>
    refine .inr (.inr (.inl ⟨G0, H0, G, σ, p, A, h1, fun G1 H1 Gp v x s1 s2 s3 b z => ?_⟩))
    rw [hd] at b
    obtain ⟨v', e, b⟩ := b.one
    cases e
    replace h2 : (if y.length ≤ LINE then Res.ok (charsD y) else .bad) = .ok items := h2
    split at h2
    · rename_i hl
      cases h2
      exact ⟨y, b.str_, k _ G1 H1 Gp x s1 s2 s3 (itok_str hl)⟩
    · cases h2
  | dict kvs =>
    refine .inr (.inr (.inr ⟨G0, H0, G, σ, p, A, h1, fun G1 H1 Gp v x s1 s2 s3 b z => ?_⟩))
    rw [hd] at b
    obtain ⟨v', e, b⟩ := b.one
    cases e
    replace h2 : (if (kvs.all fun p => isKeyT p.1) = true then Res.ok (kvs.map (·.1)) else .bad) = .ok items := h2
    split at h2
    · rename_i hl
      cases h2
      rcases b.dic_ s1 with ⟨a, o, xs, rfl, e, dd, rr⟩ | ⟨a, ks, rfl, e, rr, ne⟩
      · obtain ⟨es, ep, hes, hx⟩ := dd.data
        exact ⟨a, o, es, ep, rfl, s2 _ _ e, dd.sys, dd.exact, hes, k _ G1 H1 Gp x s1 s2 s3 (itok_keys e dd rr hes hx)⟩
      · exact (all_T_ne rr ne hl).elim
    · cases h2
  | _ => cases h2
def isTupTg : Expr → Bool
  | .Tuple _ _ _ => true
  | _ => false
theorem pi_items {tg ex : Expr} {e : E} {apos cpos : Pos} (ht : isTupTg tg = true) (h : Snd X cl e ex) (hb : isName0 ex = false) (hline : (apos.endLine == cpos.line) = true) : PI X tg (.Call (.Attribute ex "items" apos) [] [] cpos) (tI X cl .items [e]) := by
  cases tg with
  | Tuple elts kk tpos =>
    refine PI_imp (OHS.pi_rawItems (snd_Eg h) (attrBase hb _ _ _) hline) fun τ H R q => ?_
    obtain ⟨G0, H0, G, σ, p, items, A, h1, h2, k⟩ := q
    obtain ⟨d, hd⟩ : ∃ d, p.2 = [d] := by
      have := denV_len h1
      match p.2, this with
      | [d], _ => exact ⟨d, rfl⟩
    rw [hd] at h2
    refine ⟨G0, H0, G, σ, p, A, h1, fun G1 H1 Gp v x s1 s2 s3 b z => ?_⟩
    rw [hd] at b
    obtain ⟨v', e, b⟩ := b.one
    cases e
    cases d <;> simp only [itemsD, reduceCtorEq] at h2
    rename_i kvs
    split at h2
    · rename_i hl
      cases h2
      rcases b.dic_ s1 with ⟨a, o, xs, rfl, e, dd, rr⟩ | ⟨a, ks, rfl, e, rr, ne⟩
      · obtain ⟨es, ep, hes, hx⟩ := dd.data
        exact ⟨a, o, es, ep, rfl, s2 _ _ e, dd.sys, dd.exact, hes, k _ G1 H1 Gp x s1 s2 s3 (itok_items e dd rr hes hx)⟩
      · exact (all_T_ne rr ne hl).elim
    · cases h2
  | _ => simp [isTupTg] at ht
theorem pi_enum {tg ex : Expr} {e : E} {p pos : Pos} (ht : isTupTg tg = true) (hg : Gl X "enumerate") (hm : X.mg "enumerate" = none) (h : Snd X cl e ex) (hp : plainE ex = true) : PI X tg (.Call (.Name "enumerate" p) [ex] [] pos) (tI X cl .enum [e]) := by
  cases tg with
  | Tuple elts kk tpos =>
    refine PI_imp (OHS.pi_enumA hg hm (snd_Vg (.cons h .nil) (by simpa using hp)) (star_plainE hp [] X.env)) fun τ H R q => ?_
    obtain ⟨G0, H0, G, σ, p, items, A, h1, h2, k⟩ := q
    obtain ⟨d, hd⟩ : ∃ d, p.2 = [d] := by
      have := denV_len h1
      match p.2, this with
      | [d], _ => exact ⟨d, rfl⟩
    rw [hd] at h2
    refine ⟨G0, H0, G, σ, p, A, h1, fun G1 H1 Gp vs x s1 s2 s3 b z => ?_⟩
    rw [hd] at b
    replace b := b.one
    obtain ⟨v', rfl, b⟩ := b
    simp only [itemsD] at h2
    obtain ⟨ds, e1, h2⟩ := bind_ok h2
    cases h2
    have fin : ∀ {J : It} {n : Nat} {G : Hp → Prop} {ws : List V}, Walk J ws.length G (YPair (fun i => some (.int (i : Nat))) (fun i => ws[i]?)) → (∀ H, Sub Gp H → G H) → Reps X.prog X.w X.K G1 ws ds → ws.length ≤ sizeLine → ItOk X J (ds.mapIdx fun i y => .tuple [.int i, y]) G1 Gp := fun {J n G ws} w hG rr hl =>
      ⟨(walk_len w (by rw [List.length_mapIdx]; exact rr.length)).mono hG fun i H v H' hi g y => by
        obtain ⟨T, x, y, rfl, hT, rfl, e1, e2⟩ := y
        cases e1
        obtain ⟨d', q1, q2⟩ := rr.getV e2
        exact ⟨.tuple [.int i, d'], by simp [q1], item_pair hT (.int _) q2⟩, by rw [List.length_mapIdx, ← rr.length]; exact hl⟩
    rcases seqD_cases e1 with rfl | rfl
    · obtain ⟨a, ws, rfl, hr, rr⟩ := b.lst_ s1
      have hq : SqL X.K H1 a ws := (s2.la hr).sq
      exact ⟨a, ws, rfl, .inl ⟨hq, k _ G1 H1 Gp x s1 s2 s3 (fin (n := 0) walk_enum (fun H s => (s.la hr).sq) rr (z.1 a ws hq))⟩⟩
    · obtain ⟨a, ws, rfl, hr, rr⟩ := b.tup_
      have hq : SqT X.K H1 a ws := (s1.trans s2).sqT hr
      refine ⟨a, ws, rfl, .inr ⟨hq, k _ G1 H1 Gp x s1 s2 s3 (fin (n := 0) (G := fun H => SqT X.K H a ws) ?_ (fun H s => (s1.trans s).sqT hr) rr (z.2 a ws hq))⟩⟩
      refine ⟨fun i _ hi q => ⟨ws, ws[i], q, by simp [hi]⟩, fun _ q => ⟨ws, q, rfl⟩, fun i H v H' _ q y => ?_⟩
      obtain ⟨T, x, h1, h2, h3, h4⟩ := y
      exact ⟨T, .int (i : Nat), x, h1, h2, h3, rfl, h4 ws q⟩
  | _ => simp [isTupTg] at ht
theorem pi_zip {tg ex ex2 : Expr} {e e2 : E} {p pos : Pos} (ht : isTupTg tg = true) (hg : Gl X "zip") (hm : X.mg "zip" = none) (h : Snd X cl e ex) (h' : Snd X cl e2 ex2) (hp : plainE ex = true) (hp2 : plainE ex2 = true) :
    PI X tg (.Call (.Name "zip" p) [ex, ex2] [] pos) (tI X cl .zip [e, e2]) := by
  cases tg with
  | Tuple elts kk tpos =>
    refine PI_imp (RZ.pi_zipA hg hm (snd_Vg (.cons h (.cons h' .nil)) (by simp [hp, hp2])) (star_plainE hp _ X.env) (starAny (by simp [hp2]) _ _)) fun τ H R q => ?_
    obtain ⟨G0, H0, G, σ, p, items, A, h1, h2, k⟩ := q
    obtain ⟨d, d2, hd⟩ : ∃ d d2, p.2 = [d, d2] := by
      have := denV_len h1
      match p.2, this with
      | [d, d2], _ => exact ⟨d, d2, rfl⟩
    rw [hd] at h2
    refine ⟨G0, H0, G, σ, p, A, h1, fun G1 H1 Gp vs x s1 s2 s3 b z => ?_⟩
    rw [hd] at b
    obtain ⟨v1, v2, rfl, b1, b2⟩ := b.two
    have fin : ∀ {J : It} {G : Hp → Prop} {ws ws2 : List V} {ds ds2 : List D} {n : Nat}, Walk J n G (YPair (fun i => ws[i]?) (fun i => ws2[i]?)) → n = min ws.length ws2.length → (∀ H, Sub Gp H → G H) → Reps X.prog X.w X.K G1 ws ds → Reps X.prog X.w X.K G1 ws2 ds2 → ws.length ≤ sizeLine →
        ItOk X J ((ds.zip ds2).map fun p => .tuple [p.1, p.2]) G1 Gp := fun {J G ws ws2 ds ds2 n} w hn hG rr rr2 hl =>
      ⟨(walk_len w (by rw [hn, List.length_map, List.length_zip, rr.length, rr2.length])).mono hG fun i H v H' hi g y => by
        obtain ⟨T, x, y, rfl, hT, rfl, e1, e2⟩ := y
        obtain ⟨d', q1, q2⟩ := rr.getV e1
        obtain ⟨d2', q3, q4⟩ := rr2.getV e2
        exact ⟨.tuple [d', d2'], by simp [List.getElem?_zip_eq_some, q1, q3], item_pair hT q2 q4⟩, by
        rw [List.length_map, List.length_zip]
        have := rr.length
        omega⟩
    cases d <;> cases d2 <;> simp only [itemsD, reduceCtorEq] at h2
    · cases h2
      obtain ⟨a, ws, rfl, hr, rr⟩ := b1.lst_ s1
      obtain ⟨a2, ws2, rfl, hr2, rr2⟩ := b2.lst_ s1
      have hq : SqL X.K H1 a ws := (s2.la hr).sq
      have hq2 : SqL X.K H1 a2 ws2 := (s2.la hr2).sq
      exact ⟨a, a2, ws, ws2, rfl, .inl ⟨hq, hq2, k _ G1 H1 Gp x s1 s2 s3 (fin (walk_zip rfl) rfl (fun H s => ⟨(s.la hr).sq, (s.la hr2).sq⟩) rr rr2 (z.1 a ws hq))⟩⟩
    · cases h2
      obtain ⟨a, ws, rfl, hr, rr⟩ := b1.tup_
      obtain ⟨a2, ws2, rfl, hr2, rr2⟩ := b2.tup_
      have hq : SqT X.K H1 a ws := (s1.trans s2).sqT hr
      have hq2 : SqT X.K H1 a2 ws2 := (s1.trans s2).sqT hr2
      refine ⟨a, a2, ws, ws2, rfl, .inr ⟨hq, hq2, k _ G1 H1 Gp x s1 s2 s3 (fin (G := fun H => SqT X.K H a ws ∧ SqT X.K H a2 ws2) (n := min ws.length ws2.length) ?_ rfl (fun H s => ⟨(s1.trans s).sqT hr, (s1.trans s).sqT hr2⟩) rr rr2 (z.2 a ws hq))⟩⟩
      refine ⟨fun i _ hi q => ?_, fun _ q => ⟨ws, ws2, q.1, q.2, by omega⟩, fun i H v H' _ q y => ?_⟩
      · have h1 : i < ws.length := by omega
        have h2 : i < ws2.length := by omega
        exact ⟨ws, ws2, ws[i], ws2[i], q.1, q.2, by simp [h1], by simp [h2]⟩
      · obtain ⟨T, x, z, h1, h2, h3, h4, h5⟩ := y
        exact ⟨T, x, z, h1, h2, h3, h4 ws q.1, h5 ws2 q.2⟩
  | _ => simp [isTupTg] at ht
theorem pi_range {tg : Expr} {es : List E} {xs : List Expr} {p pos : Pos} (hg : Gl X "range") (hm : X.mg "range" = none) (h : Snds X cl es xs) (hp : xs.all plainE = true) : PI X tg (.Call (.Name "range" p) xs [] pos) (tI X cl .range es) := by
  have ln : (LINE : Int) = 16777216 := rfl
  have ln2 : LINE = 16777216 := rfl
  have nv : ∀ {xs : List Expr} {es : List E}, PI X tg (.Call (.Name "range" p) xs [] pos) (fun _ _ _ => False) := fun {xs es} => ⟨fun _ _ _ _ _ _ q => q.elim⟩
  match es, xs, h with
  | [], _, .nil =>
    refine PI_imp (nv (es := [])) fun τ H R q => ?_
    obtain ⟨G0, H0, G, σ, p, items, A, h1, h2, k⟩ := q
    simp only [denV] at h1; cases h1
    cases h2
  | [e1], [x1], h =>
    have hp' := hp
    simp only [List.all_cons, List.all_nil, Bool.and_true] at hp'
    refine PI_imp (pi_range1 hg hm (snd_Vg h hp) (star_plainE hp' [] _)) fun τ H R q => ?_
    obtain ⟨G0, H0, G, σ, p, items, A, h1, h2, k⟩ := q
    obtain ⟨d, hd⟩ : ∃ d, p.2 = [d] := by
      have := denV_len h1
      match p.2, this with
      | [d], _ => exact ⟨d, rfl⟩
    rw [hd] at h2
    refine ⟨G0, H0, G, σ, p, A, h1, fun G1 H1 Gp vs x s1 s2 s3 b z => ?_⟩
    rw [hd] at b
    replace b := b.one
    obtain ⟨v, rfl, b⟩ := b
    cases d <;> simp only [itemsD, reduceCtorEq] at h2
    rename_i n
    split at h2
    · rename_i hn
      cases h2
      exact ⟨n, by rw [b.int_], by omega, by omega, k _ G1 H1 Gp x s1 s2 s3 (itok_range (by simp) (by omega))⟩
    · cases h2
  | [e1, e2], [x1, x2], h =>
    have hp' := hp
    simp only [List.all_cons, List.all_nil, Bool.and_true, Bool.and_eq_true] at hp'
    refine PI_imp (pi_range2 hg hm (snd_Vg h hp) (by rw [star_plainE hp'.1, star_plainE hp'.2]; rfl) (star_plainE hp'.2 [] _)) fun τ H R q => ?_
    obtain ⟨G0, H0, G, σ, p, items, A, h1, h2, k⟩ := q
    obtain ⟨d, d2, hd⟩ : ∃ d d2, p.2 = [d, d2] := by
      have := denV_len h1
      match p.2, this with
      | [d, d2], _ => exact ⟨d, d2, rfl⟩
    rw [hd] at h2
    refine ⟨G0, H0, G, σ, p, A, h1, fun G1 H1 Gp vs x s1 s2 s3 b z => ?_⟩
    rw [hd] at b
    obtain ⟨v, v2, rfl, b1, b2⟩ := b.two
    cases d <;> cases d2 <;> simp only [itemsD, reduceCtorEq] at h2
    rename_i n m
    split at h2
    · rename_i hn
      cases h2
      exact ⟨n, m, by rw [b1.int_, b2.int_], ⟨hn.1.1, hn.1.2, hn.2.1.1, hn.2.1.2⟩, k _ G1 H1 Gp x s1 s2 s3 (itok_range rfl (by omega))⟩
    · cases h2
  | [e1, e2, e3], [x1, x2, x3], h =>
    have hp' := hp
    simp only [List.all_cons, List.all_nil, Bool.and_true, Bool.and_eq_true] at hp'
    refine PI_imp (pi_range3 hg hm (snd_Vg h hp) (star_plainE hp'.1 _ _) (starAny (by simp [hp'.2.1, hp'.2.2]) _ _)) fun τ H R q => ?_
    obtain ⟨G0, H0, G, σ, p, items, A, h1, h2, k⟩ := q
    obtain ⟨d, d2, d3, hd⟩ : ∃ d d2 d3, p.2 = [d, d2, d3] := by
      have := denV_len h1
      match p.2, this with
      | [d, d2, d3], _ => exact ⟨d, d2, d3, rfl⟩
    rw [hd] at h2
    refine ⟨G0, H0, G, σ, p, A, h1, fun G1 H1 Gp vs x s1 s2 s3 b z => ?_⟩
    rw [hd] at b
    obtain ⟨v, v2, v3, rfl, b1, b2, b3⟩ : ∃ v u t, vs = [v, u, t] ∧ BRep X.prog X.w X.K G1 Gp v d ∧ BRep X.prog X.w X.K G1 Gp u d2 ∧ BRep X.prog X.w X.K G1 Gp t d3 := by
      cases b with
      | cons a b => obtain ⟨u, t, rfl, c1, c2⟩ := b.two; exact ⟨_, _, _, rfl, a, c1, c2⟩
    cases d <;> cases d2 <;> cases d3 <;> try (simp only [itemsD, reduceCtorEq] at h2; done)
    rename_i n m c
    by_cases hc : c = -1
    · subst hc
      simp only [itemsD] at h2
      split at h2
      · rename_i hn
        cases h2
        exact ⟨n, m, -1, _, by rw [b1.int_, b2.int_, b3.int_], RgC.neg hn.1.1 hn.1.2 hn.2.1.1 hn.2.1.2, k _ G1 H1 Gp x s1 s2 s3 (itok_down (by omega))⟩
      · cases h2
    · exfalso
      unfold itemsD at h2
      split at h2 <;> simp_all
  | e1 :: e2 :: e3 :: e4 :: r, _, h =>
    refine PI_imp (nv (es := [])) fun τ H R q => ?_
    obtain ⟨G0, H0, G, σ, p, items, A, h1, h2, k⟩ := q
    have hl := denV_len h1
    obtain ⟨a, b, c, d, t, e⟩ : ∃ a b c d t, p.2 = a :: b :: c :: d :: t := by
      match p.2, hl with
      | a :: b :: c :: d :: t, _ => exact ⟨a, b, c, d, t, rfl⟩
    rw [e] at h2
    simp [itemsD] at h2
/-- what is kept is looked at -/
theorem denF_V : ∀ {es : List E} {σ : ASt} {ds : List D}, denF cl es σ = .ok ds → denV cl es σ = .ok (false, ds)
  | [], σ, ds, h => by simp only [denF] at h; cases h; simp only [denV]
  | e :: es, σ, ds, h => by
    simp only [denF] at h
    obtain ⟨r, e1, h⟩ := bind_ok h
    obtain ⟨d, e2, h⟩ := bind_ok h
    obtain ⟨t, e3, h⟩ := bind_ok h
    cases h
    simp only [denV, e1, denF_V e3, Res.bind_ok]
    cases r <;> cases e2 <;> rfl

/-- a target's reading -/
def tG (X : Cx) (t : Tgt) : TG := fun v τ H Q => ∃ G0 H0 G σ σ' d, AIx X G0 H0 G H σ τ ∧ Rep X.prog X.w X.K G v d ∧ setT t d σ = .ok σ' ∧ ∀ τ', AIx X G0 H0 G H σ' τ' → (∀ vs : List Nat, (∀ i, i ∈ (match t with | .n i => [i] | .t is => is | .star i j => [i, j]) → i ∈ vs) → wipe τ' vs = wipe τ vs) → Q τ' H
theorem PG_imp {ex : Expr} {t t' : TG} (h : PG X ex t) (k : ∀ v τ H Q, t' v τ H Q → t v τ H Q) : PG X ex t' := ⟨fun pins s σ H v u Q I r q => h.run pins s σ H v u Q I r (k _ _ _ _ q)⟩
theorem wipe_set {τ : L2.St} {i : Nat} {v : Option V} : ∀ {vs : List Nat}, i ∈ vs → wipe (τ.set i v) vs = wipe τ vs
  | j :: vs, h => by
    unfold wipe
    by_cases hi : i ∈ vs
    · rw [wipe_set hi]
    · obtain rfl : i = j := by simpa [hi] using h
      have : ∀ vs : List Nat, i ∉ vs → wipe (τ.set i v) vs = (wipe τ vs).set i v := by
        intro vs
        induction vs with
        | nil => intro _; rfl
        | cons k vs ih =>
          intro hk
          simp only [List.mem_cons, not_or] at hk
          unfold wipe
          rw [ih hk.2, List.set_comm _ _ hk.1]
      rw [this vs hi, List.set_set]
theorem pg_n {i : Nat} {x : Str} {pos : Pos} (hN : X.N.Nodup) (hi : X.N[i]? = some x) (hx : Loc X.env.scope x) (hf : X.fn x = true ∨ X.env.scope.names.lookup x = some .local) : PG X (.Name x pos) (tG X (.n i)) := PG_imp (pg_name hN hi hx hf) fun v τ H Q q => by
  obtain ⟨G0, H0, G, σ, σ', d, A, r, h, k⟩ := q
  cases h
  exact k _ (A.set_d r) fun vs hv => wipe_set (hv i (by simp))
/-- the slots of a tuple target, with the names -/
inductive TgNames (X : Cx) : List Nat → List Expr → Prop
  | nil : TgNames X [] []
  | cons {i : Nat} {x : Str} {pos : Pos} {is : List Nat} {xs : List Expr} : X.N[i]? = some x → Loc X.env.scope x → (X.fn x = true ∨ X.env.scope.names.lookup x = some .local) → TgNames X is xs → TgNames X (i :: is) (.Name x pos :: xs)
def gNames : List Nat → TGs
  | [] => gNil
  | i :: r => gCons (gName i) (gNames r)
theorem pgs_names (hN : X.N.Nodup) : ∀ {is : List Nat} {xs : List Expr}, TgNames X is xs → PGs X xs (gNames is)
  | _, _, .nil => pgs_nil
  | _, _, .cons a b c r => pgs_cons (pg_name hN a b c) (pgs_names hN r)
theorem TgNames.each : ∀ {is : List Nat} {xs : List Expr}, TgNames X is xs → (assignEach xs X.env).length = is.length ∧ (assignEach xs X.env).findIdx? (·.1) = none
  | _, _, .nil => ⟨rfl, rfl⟩
  | _, _, .cons (x := x) (pos := pos) (xs := xs) a b c r => by
    have e : assignEach (.Name x pos :: xs) X.env = (false, assign (.Name x pos) X.env) :: assignEach xs X.env := rfl
    obtain ⟨h1, h2⟩ := r.each
    rw [e]
    refine ⟨by simp [h1], ?_⟩
    rw [List.findIdx?_cons, h2]; rfl
theorem gNames_ok {G0 H0 G H : Hp} {Q : L2.St → Hp → Prop} : ∀ {is : List Nat} {vs : List V} {ds : List D} {σ : ASt} {τ : L2.St}, AIx X G0 H0 G H σ τ → Reps X.prog X.w X.K G vs ds → ds.length = is.length →
    (∀ τ', AIx X G0 H0 G H ((is.zip ds).foldl (fun s p => s.set p.1 (some (.d p.2))) σ) τ' → (∀ ws : List Nat, (∀ i, i ∈ is → i ∈ ws) → wipe τ' ws = wipe τ ws) → Q τ' H) → gNames is vs τ H Q
  | [], _, _, σ, τ, A, .nil, _, k => ⟨rfl, k τ A fun _ _ => rfl⟩
  | i :: is, _, _, σ, τ, A, .cons (v := v) (vs := vs) (d := d) (ds := ds) h r, hl, k => ⟨v, vs, rfl, gNames_ok (A.set_d (i := i) h) r (by simpa using hl) fun τ' A' hw => k τ' A' fun ws hi => by
    rw [hw ws fun j hj => hi j (by simp [hj]), wipe_set (hi i (by simp))]⟩
theorem pg_t {is : List Nat} {xs : List Expr} {k : Nat} {pos : Pos} (hc : X.calm = true) (hN : X.N.Nodup) (h : TgNames X is xs) : PG X (.Tuple xs k pos) (tG X (.t is)) := PG_imp (pg_tup hc (pgs_names hN h) h.each.1 h.each.2) fun v τ H Q q => by
  obtain ⟨G0, H0, G, σ, σ', d, A, r, hs, k⟩ := q
  simp only [setT] at hs
  obtain ⟨ds, e1, hs⟩ := bind_ok hs
  split at hs
  · rename_i hl
    cases hs
    cases d <;> cases e1
    cases r with
    | tup hq rr => exact ⟨_, _, rfl, A.sub.sqT hq, by rw [rr.length]; exact hl, gNames_ok A rr hl k⟩
  · cases hs
end OH
end

section
set_option autoImplicit false
set_option linter.all false
set_option Elab.async false
set_option maxRecDepth 100000
set_option maxHeartbeats 1000000
namespace OH
open PySem L2 PySem.Spec PyProof.Rows
def asMeth : Expr → Option (Expr × Str × List Expr)
  | .Call (.Attribute o m apos) xs [] cpos => if (apos.endLine == cpos.line) = true then some (o, m, xs) else none
  | _ => none
theorem asMeth_eq {ex o : Expr} {m : Str} {xs : List Expr} (h : asMeth ex = some (o, m, xs)) : ∃ apos cpos, ex = .Call (.Attribute o m apos) xs [] cpos ∧ (apos.endLine == cpos.line) = true := by
  unfold asMeth at h
  split at h
  · split at h
    · rename_i hl
      cases h
      exact ⟨_, _, rfl, hl⟩
    · cases h
  · cases h
variable {X : Cx} {cl : Nat → List D → Res RV}
theorem idxOf_at : ∀ {xs : List D} {x : D} {k n : Nat}, idxOf x xs k = some n → ∃ z, xs[n - k]? = some z ∧ k ≤ n ∧ eqv z x = true ∧ ∀ m z', m < n - k → xs[m]? = some z' → eqv z' x = false
  | [], x, k, n, h => by simp [idxOf] at h
  | y :: ys, x, k, n, h => by
    unfold idxOf at h
    by_cases e : eqv y x = true
    · rw [if_pos e] at h
      cases h
      exact ⟨y, by simp, Nat.le_refl _, e, fun m z' hm => by simp at hm⟩
    · rw [if_neg e] at h
      obtain ⟨z, h1, h2, h3, h4⟩ := idxOf_at h
      have en : n - k = (n - (k + 1)) + 1 := by omega
      refine ⟨z, by rw [en, List.getElem?_cons_succ]; exact h1, by omega, h3, fun m z' hm hz => ?_⟩
      cases m with
      | zero => simp at hz; subst hz; simpa using e
      | succ m => exact h4 m z' (by omega) (by simpa using hz)
end OH
namespace OH
open PySem L2 PySem.Spec PyProof.Rows
variable {X : Cx} {cl : Nat → List D → Res RV}
theorem few_of {xs : List Expr} (h : xs.all plainE = true) (hl : xs.length < 29) (env : Env) (pos : Pos) : ((backTo pos (starEach xs env)).all (fun x => !x.1) && (backToKw pos (keywordEach [] env)).all (fun x => x.1.isSome)
      && decide (xs.length + ([] : List Keyword).length + (if ([] : List Keyword).isEmpty then 0 else 1) < 30)) = true := by
  have h1 : ((backTo pos (starEach xs env)).all fun x => !x.1) = true := by
    have := starAny h env pos
    rw [List.any_eq_false] at this
    rw [List.all_eq_true]
    intro y hy
    have := this y hy
    simpa using this
  rw [h1]
  show (true && true && decide (xs.length + 0 + 0 < 30)) = true
  simp only [Bool.and_self, Bool.true_and, decide_eq_true_eq]
  omega
/-- [..].index(x) -/
theorem snd_indexL (hu : X.A.units + 66 < cLine) {es : List E} {b : E} {xo xb : Expr} {apos cpos : Pos} (ho : Snd X cl (.lst es) xo) (hb : Snd X cl b xb) (hn : isName0 xo = false) (hp : plainE xb = true) (hline : (apos.endLine == cpos.line) = true) :
    PE X (.Call (.Attribute xo "index" apos) [xb] [] cpos) (tE X cl (.meth .index (.lst es) [b])) :=
  PE_imp (pe_bm (T := "list") (id := "list.index") F.plainAttrs_list F.slot_list_index F.type_list_index (mt_indexD (by omega)) ho.pe (snd_V (.cons hb .nil) (by simpa using hp)) (attrBase hn _ _ _) (few_of (by simpa using hp) (by simp) _ _) hline (star_plainE hp _ _) rfl) fun τ H Q q => by
    obtain ⟨G0, H0, G, σ, r, A, h1, k⟩ := q
    simp only [denE] at h1
    obtain ⟨x, e1, h1⟩ := bind_ok h1
    obtain ⟨ds, e2, e1'⟩ := bind_ok e1
    cases e1'
    obtain ⟨y, e3, h1⟩ := bind_ok h1
    have e1o : denE cl (.lst es) σ = .ok (.fl ds) := by simp only [denE, e2, Res.bind_ok]
    refine tE_val A e1o fun G1 H1 v x1 A1 b1 => ?_
    obtain ⟨a, vs, rfl, hr, rr⟩ := b1.lst_ A1.sub
    refine ⟨.inl ⟨rfl, vs, hr.sq⟩, G0, H0, G1, σ, y, A1, e3, fun G2 H2 us x2 b2 c2 => ?_⟩
    obtain ⟨d, hd⟩ : ∃ d, y.2 = [d] := by
      have := denV_len e3
      match y.2, this with
      | [d], _ => exact ⟨d, rfl⟩
    rw [hd] at b2 h1
    obtain ⟨u, rfl, b3⟩ := b2.one
    simp only [RV.val_fl, methD] at h1
    split at h1
    · rename_i hs
      rw [Bool.and_eq_true] at hs
      split at h1
      · rename_i n hx
        cases h1
        obtain ⟨z, z1, z2, z3, z4⟩ := idxOf_at hx
        have hsl : shp 31 (.list ds) = true := by rw [shp]; exact hs.2
        refine ⟨a, u, d, ds, n, z, rfl, rfl, (b1.ext x2).dp x2.sub hsl, b3.dp x2.sub hs.1, shp_shaped hsl (by omega), shp_shaped hs.1 (by omega), by simpa using z1, by rw [← eqv_eq]; exact z3, fun m z' hm hz => by rw [← eqv_eq]; exact z4 m z' (by simpa using hm) hz, ?_⟩
        exact k G2 H2 _ (x1.trans x2) (.d (.int _))
      · cases h1
    · cases h1
/-- NAME.index(x), NAME a tuple of texts of the module -/
theorem strs_eqv {x : Str} {d : D} : eqv (.str x) d = true ↔ d = .str x := by
  cases d <;> simp [eqv]
  exact eq_comm
theorem snd_indexT {n : Nat} {ds : List D} {ys : List Str} (hy : strsD ds = some ys) {v : V} {b : E} {xo xb : Expr} {apos cpos : Pos} (ho : PE X xo (tC v)) (hr : ∀ G, Rep X.prog X.w X.K G v (.tuple ds)) (ht : ∀ H, tyV X.K "tuple" v H) (hb : Snd X cl b xb) (hn : isName0 xo = false) (hp : plainE xb = true) (hline : (apos.endLine == cpos.line) = true) :
    PE X (.Call (.Attribute xo "index" apos) [xb] [] cpos) (tE X cl (.meth .index (.gl n (.tuple ds)) [b])) :=
  PE_imp (pe_bm (T := "tuple") (id := "tuple.index") F.plainAttrs_tuple F.slot_tuple_index F.type_tuple_index mt_tup_index ho (snd_V (.cons hb .nil) (by simpa using hp)) (attrBase hn _ _ _) (few_of (by simpa using hp) (by simp) _ _) hline (star_plainE hp _ _) rfl) fun τ H Q q => by
    obtain ⟨G0, H0, G, σ, r, A, h1, k⟩ := q
    simp only [denE, Res.bind_ok] at h1
    obtain ⟨y, e3, h1⟩ := bind_ok h1
    refine ⟨ht H, G0, H0, G, σ, y, A, e3, fun G2 H2 us x2 b2 c2 => ?_⟩
    obtain ⟨d, hd⟩ : ∃ d, y.2 = [d] := by
      have := denV_len e3
      match y.2, this with
      | [d], _ => exact ⟨d, rfl⟩
    rw [hd] at b2 h1
    obtain ⟨u, rfl, b3⟩ := b2.one
    simp only [RV.val_d, methD] at h1
    split at h1
    · split at h1
      · rename_i m hx
        cases h1
        obtain ⟨z, z1, z2, z3, z4⟩ := idxOf_at hx
        have hall : ∀ {ds : List D} {ys : List Str}, strsD ds = some ys → ds = ys.map PyData.str := by
          intro ds
          induction ds with
          | nil => intro ys h; cases h; rfl
          | cons d ds ih =>
            intro ys h
            cases d <;> simp only [strsD, reduceCtorEq] at h
            obtain ⟨zs, h1, rfl⟩ := Option.map_eq_some_iff.mp h
            rw [ih h1]; rfl
        have hds := hall hy
        rw [hds, List.getElem?_map] at z1
        obtain ⟨w, hw, rfl⟩ := Option.map_eq_some_iff.mp z1
        have hdw := strs_eqv.mp z3
        subst hdw
        have := b3.str_; subst this
        cases hr G2 with
        | @tup a vs _ hq rr =>
          have hv : vs = ys.map V.str := rr.strs hy
          refine ⟨a, ys, w, m, rfl, rfl, by rw [← hv]; exact x2.sub.sqT hq, by simpa using hw, fun j hj e => ?_, k G2 H2 _ x2 (.d (.int _))⟩
          have := z4 j (.str w) (by simpa using hj) (by rw [hds, List.getElem?_map, e]; rfl)
          rw [strs_eqv.mpr rfl] at this
          cases this
      · cases h1
    · cases h1
end OH
end

section
set_option autoImplicit false
set_option linter.all false
set_option Elab.async false
set_option maxRecDepth 100000
set_option maxHeartbeats 1000000
namespace OH
open PySem L2 PySem.Spec PyProof.Rows
variable {X : Cx} {cl : Nat → List D → Res RV}
theorem AI.wipe {P : Program} {w : World} {K : PySem.W.Frag} {G0 H0 G H : Hp} {σ : ASt} {τ : L2.St} (A : AI P w K G0 H0 G H σ τ) : ∀ (vs : List Nat), AI P w K G0 H0 G H (wipeA σ vs) (L2.wipe τ vs)
  | [] => A
  | v :: vs => by
    have ih := AI.wipe A vs
    refine ih.set_none v _ (by simp only [L2.wipe, List.length_set]) fun j hj => ?_
    simp only [L2.wipe]
    rw [List.getElem?_set_ne (Ne.symm hj)]
/-- a new object, not kept, is written -/
theorem Ext.write {G H G' H' : Hp} {D : Addr} {o : HO} (e : Ext G H G' H') (hD : H D = none) (hG : G' D = none) : Ext G H G' (upd H' D o) :=
  ⟨e.g, fun b u q => by rw [upd_ne (ne_of_none q hD)]; exact e.h b u q, fun b u q => by rw [upd_ne (ne_of_none q hG)]; exact e.sub b u q, e.new⟩
def tC1 (X : Cx) (cl : Nat → List D → Res RV) (cond : List E) : TT := fun τ H Q => ∃ G0 H0 G σ c, AIx X G0 H0 G H σ τ ∧ denC cl cond σ = .ok c ∧ ∀ G' H', Ext G H G' H' → Q c H'
theorem PTs_imp {ex : List Expr} {t t' : TT} (h : PTs X ex t) (k : ∀ τ H Q, t' τ H Q → t τ H Q) : PTs X ex t' := ⟨fun pins s σ H Q I q => h.run pins s σ H Q I (k _ _ _ q)⟩
theorem cond_none : PTs X [] (tC1 X cl []) := PTs_imp pts_nil fun τ H Q q => by
  obtain ⟨G0, H0, G, σ, c, A, h, k⟩ := q
  simp only [denC] at h; cases h
  exact k G H (Ext.refl A.sub)
theorem cond_one {e : E} {ex : Expr} (h : Snd X cl e ex) (ht : okT ex = true) : PTs X [ex] (tC1 X cl [e]) := PTs_imp (pts_one (h.pt ht)) fun τ H Q q => by
  obtain ⟨G0, H0, G, σ, c, A, h, k⟩ := q
  simp only [denC] at h
  obtain ⟨r, e1, h⟩ := bind_ok h
  obtain ⟨b, e2, h⟩ := bind_ok h
  refine ⟨G0, H0, G, σ, r, b, A, e1, e2, fun G1 H1 x => ?_⟩
  cases b with
  | true => simp only [if_true] at h; cases h; exact k G1 H1 x
  | false => simp only [Bool.false_eq_true, if_false] at h; cases h; exact k G1 H1 x
theorem wipe_get (τ : L2.St) (i : Nat) : ∀ vs : List Nat, (wipe τ vs)[i]? = if i ∈ vs then (τ[i]?).map (fun _ => none) else τ[i]?
  | [] => by simp [wipe]
  | v :: vs => by
    unfold wipe
    rw [List.getElem?_set]
    have ih := wipe_get τ i vs
    have hl := wipe_length τ vs
    by_cases h : v = i
    · subst h
      simp only [if_true, List.mem_cons, true_or]
      by_cases hb : v < τ.length
      · simp [hl, hb]
      · simp [hl, hb]
    · rw [if_neg h, ih]
      have h' : ¬ i = v := fun e => h e.symm
      simp [h']
theorem wipe_wipe (τ : L2.St) (vs : List Nat) : wipe (wipe τ vs) vs = wipe τ vs := by
  apply List.ext_getElem?
  intro i
  rw [wipe_get (wipe τ vs) i vs, wipe_get τ i vs]
  split
  · cases τ[i]? <;> rfl
  · rfl
def tgSlots : Tgt → List Nat
  | .n i => [i]
  | .t is => is
  | .star i j => [i, j]
/-- a turn's work: what is kept of an item -/
abbrev lcF (cl : Nat → List D → Res RV) (e : E) (t : Tgt) (cond : List E) (σ : ASt) (d : D) : Res (Option D) :=
  (setT t d σ).bind fun σ1 => (denC cl cond σ1).bind fun c => if c then (denE cl e σ1).bind fun r => r.frz.bind fun z => .ok (some z) else .ok none
theorem drop_cons {α : Type} {xs : List α} {i : Nat} {x : α} (h : xs[i]? = some x) : xs.drop i = x :: xs.drop (i + 1) := by
  obtain ⟨hi, rfl⟩ := List.getElem?_eq_some_iff.mp h
  exact List.drop_eq_getElem_cons hi
/-- the loop over the items -/
theorem lc_loop {J : It} {items : List D} {e : E} {t : Tgt} {cond : List E} {own : List Nat} {G0 H0 G1 H1 Gp : Hp} {σ : ASt} {τ : L2.St} {L : Addr} {ds : List D} {Qd : Hp → Prop} (A : AIx X G0 H0 G1 H1 σ τ) (it : ItOk X J items G1 Gp) (sp : Sub Gp H1) (hD : H1 L = none)
    (ht : ∀ i ∈ tgSlots t, i ∈ own) (hc : collect (lcF cl e t cond (wipeA σ own)) items = .ok ds)
    (k : ∀ G' H', Ext G1 H1 G' H' → RepR X.prog X.w X.K G' H' H1 (.fl ds) (.ref L) → Qd H') :
    ∃ W : Nat → Nat → Hp → Prop, (∃ m, W 0 m (upd H1 L (.lst []))) ∧ ∀ i m H, W i m H →
      (J.stop i H ∧ Qd H) ∨ (J.go i H ∧ ∃ Nx : Hp → Prop, (∀ H', Nx H' → ∃ m', m' < m ∧ W (i + 1) m' H') ∧ ∀ x H', J.yld i H x H' → tG X t x (wipe τ own) H' fun σ2 H2 => wipe σ2 own = wipe τ own ∧ tC1 X cl cond σ2 H2 fun b H3 =>
        if b = true then tE X cl e σ2 H3 fun y H4 => ∃ acc, H4 L = some (.lst acc) ∧ acc.length < sizeLine ∧ Nx (upd H4 L (.lst (acc ++ [y]))) else Nx H3) := by
  have hG1 : G1 L = none := A.sub.none hD
  refine lc_it it.walk (fun i H => ∃ G acc as rs, Ext G1 H1 G H ∧ H L = some (.lst acc) ∧ G L = none ∧ Reps X.prog X.w X.K G acc as ∧ collect (lcF cl e t cond (wipeA σ own)) (items.drop i) = .ok rs ∧ as ++ rs = ds ∧ as.length ≤ i) ?_ ?_ ?_ ?_
  · exact ⟨G1, [], [], ds, Ext.alloc A.sub hD, upd_same, hG1, .nil, by simpa using hc, rfl, Nat.le_refl _⟩
  · rintro i H hi ⟨G, acc, as, rs, x, _⟩ b u q
    exact x.h b u (sp b u q)
  · rintro i v H H' hi ⟨G, acc, as, rs, x, hl, hg, rr, hcol, hds, hlen⟩ ⟨d, hd, io⟩
    obtain ⟨G2, x2, rv⟩ := io G (fun b u q => x.g b u q) x.sub
    rw [drop_cons hd] at hcol
    unfold collect at hcol
    obtain ⟨y, e1, hcol⟩ := bind_ok hcol
    obtain ⟨ys, e2, hcol⟩ := bind_ok hcol
    cases hcol
    obtain ⟨σ1, e3, e1⟩ := bind_ok e1
    obtain ⟨c, e4, e1⟩ := bind_ok e1
    have A2 : AIx X G0 H0 G2 H' σ τ := A.ext (x.trans x2)
    have hg2 : G2 L = none := by
      cases q : G2 L with
      | none => rfl
      | some u =>
        have := x2.new L hg (by rw [q]; exact fun z => nomatch z)
        rw [hl] at this; cases this
    refine ⟨G0, H0, G2, _, σ1, d, A2.wipe own, rv, e3, fun τ1 A3 hw => ⟨(hw own ht).trans (wipe_wipe τ own), ⟨G0, H0, G2, σ1, c, A3, e4, fun G3 H3 x3 => ?_⟩⟩⟩
    have hg3 : G3 L = none := by
      cases q : G3 L with
      | none => rfl
      | some u =>
        have := x3.new L hg2 (by rw [q]; exact fun z => nomatch z)
        rw [x2.h L _ hl] at this; cases this
    have hl3 : H3 L = some (.lst acc) := x3.h L _ (x2.h L _ hl)
    cases c with
    | false =>
      simp only [Bool.false_eq_true, if_false] at e1 ⊢
      cases e1
      exact ⟨G3, acc, as, ys, x.trans (x2.trans x3), hl3, hg3, rr.mono (x2.g.trans x3.g), e2, hds, by omega⟩
    | true =>
      simp only [if_true] at e1 ⊢
      obtain ⟨r, e5, e1⟩ := bind_ok e1
      obtain ⟨z, e6, e1⟩ := bind_ok e1
      cases e1
      refine tE_frz (A3.ext x3) e5 e6 fun G4 H4 v4 x4 A4 r4 => ?_
      have hl4 : H4 L = some (.lst acc) := x4.h L _ hl3
      have hg4 : G4 L = none := by
        cases q : G4 L with
        | none => rfl
        | some u =>
          have := x4.new L hg3 (by rw [q]; exact fun z => nomatch z)
          rw [hl3] at this; cases this
      refine ⟨acc, hl4, ?_, G4, acc ++ [v4], as ++ [z], ys, (x.trans (x2.trans (x3.trans x4))).write hD hg4, upd_same, hg4, (rr.mono (x2.g.trans (x3.g.trans x4.g))).append (.cons r4 .nil), e2, ?_, ?_⟩
      · rw [rr.length]
        have := it.len
        omega
      · rw [List.append_assoc]; exact hds
      · simp; omega
  · rintro H ⟨G, acc, as, rs, x, hl, hg, rr, hcol, hds, hlen⟩
    rw [List.drop_length] at hcol
    unfold collect at hcol
    cases hcol
    rw [List.append_nil] at hds
    subst hds
    refine k G H x (.own (.fl hl rr) (by simp) fun a ha => ?_)
    obtain rfl := List.mem_singleton.mp ha
    exact ⟨hD, hg⟩
section
variable {e : E} {t : Tgt} {k : ItK} {src cond : List E} {elt tg iter : Expr} {ifs : List Expr} {scope : Scope} {own : List (Str × Nat)} {pos : Pos}
theorem lc_read {τ : L2.St} {H : Hp} {Q : VK} (ht : ∀ i ∈ tgSlots t, i ∈ own.map (·.2)) (q : tE X cl (.lc e t k src cond (own.map (·.2))) τ H Q) : tLc (tI X cl k src) (tG X t) (tC1 X cl cond) (tE X cl e) (own.map (·.2)) τ H Q := by
  obtain ⟨G0, H0, G, σ, r, A, h1, kk⟩ := q
  simp only [denE] at h1
  obtain ⟨p, e1, h1⟩ := bind_ok h1
  obtain ⟨items, e2, h1⟩ := bind_ok h1
  obtain ⟨ds, e3, h1⟩ := bind_ok h1
  cases h1
  refine ⟨G0, H0, G, σ, p, items, A, e1, e2, fun J G1 H1 Gp x s1 s2 s3 it D hD => ?_⟩
  exact lc_loop (A.ext x) it s2 hD ht e3 fun G2 H2 x2 rr => Kont.ext kk x G2 H2 (.ref D) x2 rr
theorem foldedSet {ex : Expr} (h : plainE ex = true) (env : Env) (x : Value) : foldedSetIterable ex env x = pure x := by
  cases ex <;> first | rfl | (exact absurd h (by simp [plainE]))
theorem snd_lc (hc : X.calm = true) (hN : X.N.Nodup) (hi : PI X tg iter (tI X cl k src)) (ok : BlkOk X.N X.env.scope scope own) (hp : plainE iter = true) (ht : ∀ i ∈ tgSlots t, i ∈ own.map (·.2))
    (hg : ∀ (s : Shared) (H : Hp) (C : Addr) (cl : List (Str × Addr)) (fp : List Addr), PG (X.blk s H scope (compEnvC scope cl C X.env) fp) tg (tG X t)) (hcd : ∀ (s : Shared) (H : Hp) (C : Addr) (cll : List (Str × Addr)) (fp : List Addr), PTs (X.blk s H scope (compEnvC scope cll C X.env) fp) ifs (tC1 X cl cond))
    (he : ∀ (s : Shared) (H : Hp) (C : Addr) (cll : List (Str × Addr)) (fp : List Addr), PE (X.blk s H scope (compEnvC scope cll C X.env) fp) elt (tE X cl e)) :
    PE X (.ListComp elt [⟨tg, iter, ifs, 0⟩] scope pos) (tE X cl (.lc e t k src cond (own.map (·.2)))) := PE_imp (pe_lc hc hN hi ok hg hcd he (foldedSet hp X.env)) fun τ H Q q => lc_read ht q
theorem ps_setLcS {i : Nat} {y : Str} {py spos : Pos} (hy : X.N[i]? = some y) (hyl : X.env.scope.names.lookup y = some .local) (hsw : swapsWith (.ListComp elt [⟨tg, iter, ifs, 0⟩] scope pos) (some (.Name y py)) spos.line X.env = pure true)
    (hc : X.calm = true) (hN : X.N.Nodup) (hi : PI X tg iter (tI X cl k src)) (ok : BlkOk X.N X.env.scope scope own) (hp : plainE iter = true) (ht : ∀ i ∈ tgSlots t, i ∈ own.map (·.2))
    (hg : ∀ (s : Shared) (H : Hp) (C : Addr) (cl : List (Str × Addr)) (fp : List Addr), PG (X.blk s H scope (compEnvC scope cl C X.env) fp) tg (tG X t)) (hcd : ∀ (s : Shared) (H : Hp) (C : Addr) (cll : List (Str × Addr)) (fp : List Addr), PTs (X.blk s H scope (compEnvC scope cll C X.env) fp) ifs (tC1 X cl cond))
    (he : ∀ (s : Shared) (H : Hp) (C : Addr) (cll : List (Str × Addr)) (fp : List Addr), PE (X.blk s H scope (compEnvC scope cll C X.env) fp) elt (tE X cl e)) :
    PS X (.Assign [.Name y py] (.ListComp elt [⟨tg, iter, ifs, 0⟩] scope pos) spos) (tAsg (tE X cl (.lc e t k src cond (own.map (·.2)))) (gName i)) :=
  ⟨fun pins s σ H D I q => (ps_setLc hc hN hy hyl hsw hi ok hg hcd he (foldedSet hp X.env)).run pins s σ H D I (lc_read ht q)⟩
end
end OH
end

section
set_option autoImplicit false
set_option linter.all false
set_option Elab.async false
set_option maxRecDepth 100000
set_option maxHeartbeats 2000000
namespace OH
open PySem L2 PySem.Spec PyProof.Rows
variable {X : Cx} {cl : Nat → List D → Res RV}
/-- a pair is put into the dict at L -/
def DcPut (X : Cx) (L : Addr) (y z : V) (H : Hp) (Nx : Hp → Prop) : Prop := ∃ G kvs xs ob b nk k, y = .ref b ∧ Sub G H ∧ H L = some (hoD L ob) ∧ DictO X.prog X.w L ob xs ∧ RepX X.prog X.w X.K G xs kvs ∧ Rep X.prog X.w X.K G (.ref b) k ∧ keyN k = some nk ∧ isKeyT k = true ∧ xs.length < sizeLine ∧
  ∀ u ob', RelV z u → DictO X.prog X.w L ob' (storedH xs nk b u) → Nx (upd H L (hoD L ob'))
theorem dc_put {pins : List (Addr × Obj)} {τ : L2.St} {H : Hp} {s : Shared} {Er : Value → Shared → Prop} {L : Addr} {y z : V} {u r : Value} {Nx : Hp → Prop} {Qq : Unit → Shared → Prop} (hu : X.A.units + 66 < cLine) (I : Inv X pins τ H s) (q : DcPut X L y z H Nx) (ry : RelV y u) (rz : RelV z r)
    (fin : ∀ s' H', Inv X pins τ H' s' → Nx H' → Qq () s') : wpAny (model X.prog X.w) X.A (dictSet L u r) Qq Er s := by
  obtain ⟨G, kvs, xs, ob, b, nk, k, rfl, sb, hL, dd, rr, rb, hk, ht, hz, nx⟩ := q
  obtain rfl : u = Value.ref b := ry
  refine wpAny_dictSet_heap (knd := nestedKind X.prog X.w) (hsz := dd.len) (show X.A.units + 8 < cLine by omega) (rb.isKey I sb hk ht) (dictOf I hL dd (rr.keys I sb)) fun h' hm hs => ?_
  obtain ⟨ob', d', J⟩ := dictWritten (t := s.toks + (nestedKind X.prog X.w).draws nk) I hL dd hm hs (by
    have : ∀ {xs : List (NestedKey × Addr × Value)} {k : NestedKey} {b : Addr} {u : Value}, (storedH xs k b u).length ≤ xs.length + 1 := fun {xs k b u} => by
      unfold storedH
      split
      · rw [List.length_map]; omega
      · rw [List.length_append]; simp
    have := this (xs := xs) (k := nk) (b := b) (u := r)
    omega)
  exact fin _ _ J (nx r ob' rz d')
end OH

namespace OH
open PySem L2 PySem.Spec PyProof.Rows
variable {X : Cx} {cl : Nat → List D → Res RV}
/-- the reading of a dict comprehension -/
def tDcT (X : Cx) (wi : TI) (g : TG) (tt : TT) (tk tv : TE) (vs : List Nat) : TE := fun σ H Q => wi σ H fun J H1 => ∀ L ob, H1 L = none → DictO X.prog X.w L ob [] → ∃ W : Nat → Nat → Hp → Prop, (∃ m, W 0 m (upd H1 L (hoD L ob))) ∧ ∀ i m H, W i m H →
  (J.stop i H ∧ Q (.ref L) H) ∨ (J.go i H ∧ ∃ Nx : Hp → Prop, (∀ H', Nx H' → ∃ m', m' < m ∧ W (i + 1) m' H') ∧ ∀ x H', J.yld i H x H' → g x (wipe σ vs) H' fun σ2 H2 => wipe σ2 vs = wipe σ vs ∧ tt σ2 H2 fun b H3 =>
    if b = true then tk σ2 H3 fun y H4 => tv σ2 H4 fun z H5 => DcPut X L y z H5 Nx else Nx H3)
theorem dcT_core {pins : List (Addr × Obj)} {st0 : Shared} {τ : L2.St} {Hh : Hp} {Q : VK} {kx vx tg iter : Expr} {ifs : List Expr} {scope : Scope} {own : List (Str × Nat)} {pos pos' : Pos} {wi : TI} {g : TG} {tt : TT} {tk tv : TE} {use : Option (Value → Sem Unit)} {Qf : Value → Shared → Prop}
    (hu : X.A.units + 66 < cLine) (hc : X.calm = true) (hN : X.N.Nodup) (I : Inv X pins τ Hh st0) (hi : PI X tg iter wi) (ok : BlkOk X.N X.env.scope scope own)
    (hg : ∀ (s : Shared) (H : Hp) (C : Addr) (cl : List (Str × Addr)) (fp : List Addr), PG (X.blk s H scope (compEnvC scope cl C X.env) fp) tg g) (ht : ∀ (s : Shared) (H : Hp) (C : Addr) (cl : List (Str × Addr)) (fp : List Addr), PTs (X.blk s H scope (compEnvC scope cl C X.env) fp) ifs tt)
    (hk : ∀ (s : Shared) (H : Hp) (C : Addr) (cl : List (Str × Addr)) (fp : List Addr), PE (X.blk s H scope (compEnvC scope cl C X.env) fp) kx tk) (he : ∀ (s : Shared) (H : Hp) (C : Addr) (cl : List (Str × Addr)) (fp : List Addr), PE (X.blk s H scope (compEnvC scope cl C X.env) fp) vx tv) (hs : ∀ x, foldedSetIterable iter X.env x = pure x)
    (h : tDcT X wi g tt tk tv (own.map (·.2)) τ Hh Q)
    (hRR : ∀ Ld C s' m H', Inv X pins τ H' s' → Q (.ref Ld) H' → s'.heap.Ns C m → FpOk X pins H' C → compPost (model X.prog X.w) X.A X.xe use Qf (.ref Ld) C (.ok .next) s') :
    wpAny (model X.prog X.w) X.A (comprehension (.DictComp kx vx [⟨tg, iter, ifs, 0⟩] scope pos) scope X.env pos' newDict false (eval iter X.env) use) Qf X.xe st0 := by
  have hfree : ∀ y ∈ scope.names, y.2 = .free → ∃ c, X.env.cells.lookup y.1 = some c := fun y hy e => (ok.free y hy e).elim (fun k => I.ok.has _ (.inl k)) fun k => I.ok.has _ (.inr k)
  refine wpAny_comprehension_free (use := use) rfl hs (closure_ok hfree) ok.kind (fun y hy e => by rw [ok.uniq y hy, e]) (thn (hi.run pins st0 τ Hh _ I h) fun xv sA hx => thn hx fun itv sB hB => ?_)
  obtain ⟨it, fp, tn, J, HB, ee, IB, T, stB, fB, q⟩ := hB; subst ee
  refine wpAny_newObj_type (newEnv_comp ?_)
  generalize hD : sB.heap.objs.size = Ld
  have hDn : HB Ld = none := IB.hok.fresh (Nat.le_of_eq hD)
  have dE : DictO X.prog X.w Ld { cls := .type "dict", data := .dict #[] } [] := by rw [← hD]; exact ⟨⟨rfl, rfl, rfl⟩, ⟨#[], 0, rfl, rfl⟩, List.nodup_nil, beq_eq_false_iff_ne.mpr (Ne.symm (Nat.ne_of_lt IB.big)), Nat.zero_le _⟩
  obtain ⟨W, ⟨m0, w0⟩, turn⟩ := q Ld _ hDn dE
  generalize hsC : ({ sB with heap := sB.heap.push { cls := .type "dict", data := .dict #[] } } : Shared) = sC
  generalize hobj : (hoD Ld { cls := .type "dict", data := .dict #[] } : HO) = oE at w0
  have IC : Inv X pins τ (upd HB Ld oE) sC := by
    rw [← hsC, ← hobj]
    refine IB.laid (t' := sB.toks) (fun b o e => Heap.get?_push_of_some _ e) (Nat.le_of_eq hD) (hoD_ok (X := X) ?_)
    rw [← hD]; exact Heap.get?_push_size _ rfl
  have hpC : sC.heap = sB.heap.push { cls := .type "dict", data := .dict #[] } := by rw [← hsC]
  have szB : ∀ b ∈ fp, b < sB.heap.objs.size := fun b hb => let ⟨o, e, _⟩ := T.obj _ _ stB b hb; Heap.lt_size e
  have fC : ∀ b ∈ fp, FpOk X pins (upd HB Ld oE) b ∧ b < sC.heap.objs.size := fun b hb => by
    have hlt := szB b hb
    exact ⟨⟨by rw [upd_ne (by rw [← hD]; exact Nat.ne_of_lt hlt)]; exact (fB b hb).1, (fB b hb).2⟩, by rw [hpC, Heap.size_push]; exact Nat.lt_succ_of_lt hlt⟩
  have stC : tn 0 sC.heap := T.keep _ _ _ stB fun b _ o e => by rw [hpC]; exact Heap.get?_push_of_some _ e
  have ID := block_start IC ok hN fC
  generalize hcc : cellsFrom (sC.heap.objs.size + 1) scope.names (cloFrom X.env.cells scope.names []) = cc at ID
  have pg := hg sC (upd HB Ld oE) sC.heap.objs.size cc fp
  have pt := ht sC (upd HB Ld oE) sC.heap.objs.size cc fp
  have pk := hk sC (upd HB Ld oE) sC.heap.objs.size cc fp
  have pv := he sC (upd HB Ld oE) sC.heap.objs.size cc fp
  change codeAny (model X.prog X.w) X.A (.compStart (.DictComp kx vx [⟨tg, iter, ifs, 0⟩] scope pos) 0 (.ref it) (.ref Ld) (compEnvC scope cc sC.heap.objs.size X.env)) (compPost (model X.prog X.w) X.A X.xe use Qf (.ref Ld) sC.heap.objs.size) { sC with heap := pushCells (sC.heap.push { cls := .type "dict", data := .dict #[] }) scope.names }
  have nfp : ∀ b ∈ fp, (upd HB Ld oE) b = none := fun b hb => (fC b hb).1.1
  generalize hce : compEnvC scope cc sC.heap.objs.size X.env = ce at ID pg pt pk pv ⊢
  have cL : ce.locals = sC.heap.objs.size := by subst hce; rfl
  generalize hHC : upd HB Ld oE = HC at IC ID pg pt pk pv w0 nfp fC
  generalize hsD : ({ sC with heap := pushCells (sC.heap.push { cls := .type "dict", data := .dict #[] }) scope.names } : Shared) = sD at ID ⊢
  have stD : tn 0 sD.heap := T.keep _ _ _ stC fun b _ o e => by rw [← hsD]; exact pushCells_keeps _ _ _ _ (Heap.get?_push_of_some _ e)
  have stat : ∀ {σ' : L2.St} {H' : Hp} {s' : Shared}, Inv (X.blk sC HC scope ce fp) [] σ' H' s' → (∀ b ∈ fp, H' b = none) → ∀ b ∈ fp, FpOk (X.blk sC HC scope ce fp) [] H' b := fun J' hn b hb =>
    ⟨hn b hb, (J'.ok.exf b hb).1, J'.ok.exfs b hb, .inl hb, fun x c e => (J'.ok.exf b hb).2 x c e, fun p hp => by simp at hp⟩
  have loop : codeAny (model X.prog X.w) X.A (.compLoop (.DictComp kx vx [⟨tg, iter, ifs, 0⟩] scope pos) 0 (.ref it) (.ref Ld) ce) (compPost (model X.prog X.w) X.A X.xe use Qf (.ref Ld) sC.heap.objs.size) sD := by
    refine compLoop_anyD (fun n s' => ∃ i H', Inv (X.blk sC HC scope ce fp) [] (wipe τ (own.map (·.2))) H' s' ∧ tn i s'.heap ∧ (∀ b ∈ fp, H' b = none) ∧ W i n H') ?_ m0 ⟨0, HC, ID, stD, nfp, w0⟩
    rintro n sE ⟨i, HE, IE, stE, nE, wE⟩
    rcases turn i n HE wE with ⟨stop, qq⟩ | ⟨go, Nx, hNx, step⟩
    · refine thnF (T.done (X.blk sC HC scope ce fp) rfl rfl rfl hc i [] sE _ HE (fun _ _ => False) IE (stat IE nE) stE stop) fun r sF ⟨hr, IF⟩ => ?_
      subst hr
      have back : Inv X pins τ HE sF := IC.call' (ch := fp) IF.os IF.base IF.hok IF.bare fun b hb => let z := (fC b hb).1.2; ⟨z.2.2.1, z.1, z.2.2.2.1, z.2.2.2.2⟩
      have nC : HE sC.heap.objs.size = none := by rw [← cL]; exact IF.free
      obtain ⟨m, hn, _⟩ := IF.loc
      exact hRR Ld sC.heap.objs.size sF m HE back qq (by rw [← cL]; exact hn) (IC.fpOk (Nat.le_refl _) nC)
    · refine thnF (T.item (X.blk sC HC scope ce fp) rfl rfl rfl hc i [] sE _ HE (fun _ _ => False) IE (stat IE nE) stE go) fun r sF ⟨u, hr, hF⟩ => ?_
      subst hr
      refine thnF hF fun _ sG ⟨x, HG, IG, rG, yG, stG, nG⟩ => ?_
      have IGp := IG.pinned (stat IG nG) (T.obj _ _ stG)
      refine thnF (pg.run _ sG _ HG x u _ IGp rG (step x HG yG)) fun _ sK ⟨σK, HK, IK, hwK, qK⟩ => thnF (pt.run _ sK σK HK _ IK qK) fun b sM ⟨HM, IM, qM⟩ => ?_
      have fin : ∀ {s' : Shared} {H' : Hp}, Inv (X.blk sC HC scope ce fp) ([] ++ pinsAt fp sG.heap) σK H' s' → Nx H' → ∃ m, m < n ∧ ∃ i H', Inv (X.blk sC HC scope ce fp) [] (wipe τ (own.map (·.2))) H' s' ∧ tn i s'.heap ∧ (∀ b ∈ fp, H' b = none) ∧ W i m H' := fun {s' H'} J' nx => by
        obtain ⟨m', hm, w'⟩ := hNx H' nx
        have pinned : ∀ b ∈ fp, ∀ o, sG.heap.get? b = some o → s'.heap.get? b = some o ∧ H' b = none := fun b hb o e => let z := J'.pin (b, o) (List.mem_append_right _ (List.mem_append_right _ (mem_pinsAt hb e))); ⟨z.1, z.2.1⟩
        have hl : (wipe τ (own.map (·.2))).length = σK.length := by rw [← hwK, wipe_length]
        exact ⟨m', hm, i + 1, H', (J'.unpinned (pins := [])).weak hl (fun j v e => by rw [← hwK] at e; exact (wipe_some e).1), T.keep _ _ _ stG fun b hb o e => (pinned b hb o e).1, fun b hb => let ⟨o, e, _⟩ := T.obj _ _ stG b hb; (pinned b hb o e).2, w'⟩
      cases b with
      | false => simp only [Bool.false_eq_true, if_false] at qM ⊢; exact fin IM qM
      | true =>
        simp only [if_true] at qM ⊢
        refine thnF (pk.run _ sM σK HM _ IM qM) fun z1 sP ⟨yk, HP, IP, rP, qP⟩ => thnF (pv.run _ sP σK HP _ IP qP) fun z2 sR ⟨yv, HR, IR, rR, qR⟩ => ?_
        exact dc_put (X := X.blk sC HC scope ce fp) hu IR qR rP rR fun sS HS IS nx => fin IS nx
  exact codeAny_compStart_dict loop (T.self X.A 0 _ _ _ stD loop)
end OH
namespace OH
open PySem L2 PySem.Spec PyProof.Rows
variable {X : Cx} {cl : Nat → List D → Res RV}
theorem pe_dcT {kx vx tg iter : Expr} {ifs : List Expr} {scope : Scope} {own : List (Str × Nat)} {pos : Pos} {wi : TI} {g : TG} {tt : TT} {tk tv : TE} (hu : X.A.units + 66 < cLine) (hc : X.calm = true) (hN : X.N.Nodup) (hi : PI X tg iter wi) (ok : BlkOk X.N X.env.scope scope own)
    (hg : ∀ (s : Shared) (H : Hp) (C : Addr) (cl : List (Str × Addr)) (fp : List Addr), PG (X.blk s H scope (compEnvC scope cl C X.env) fp) tg g) (ht : ∀ (s : Shared) (H : Hp) (C : Addr) (cl : List (Str × Addr)) (fp : List Addr), PTs (X.blk s H scope (compEnvC scope cl C X.env) fp) ifs tt)
    (hk : ∀ (s : Shared) (H : Hp) (C : Addr) (cl : List (Str × Addr)) (fp : List Addr), PE (X.blk s H scope (compEnvC scope cl C X.env) fp) kx tk) (he : ∀ (s : Shared) (H : Hp) (C : Addr) (cl : List (Str × Addr)) (fp : List Addr), PE (X.blk s H scope (compEnvC scope cl C X.env) fp) vx tv) (hs : ∀ x, foldedSetIterable iter X.env x = pure x) :
    PE X (.DictComp kx vx [⟨tg, iter, ifs, 0⟩] scope pos) (tDcT X wi g tt tk tv (own.map (·.2))) := ⟨fun pins st0 τ H Q I h => by
  rw [arm_eval_DictComp]
  refine dcT_core hu hc hN I hi ok hg ht hk he hs h fun Ld C s' m H' J q hn f => ⟨m, hn, fun h2 sb => ?_⟩
  exact ⟨.ref Ld, H', J.turned (t' := s'.toks) (fun b o hb e => (sb.2 b hb).trans e) f.1 f.2.1 f.2.2.2.1 f.2.2.2.2.1 f.2.2.2.2.2, rfl, q⟩⟩
theorem ps_setDcT {i : Nat} {y : Str} {py : Pos} {kx vx tg iter : Expr} {ifs : List Expr} {scope : Scope} {own : List (Str × Nat)} {pos spos : Pos} {wi : TI} {g : TG} {tt : TT} {tk tv : TE} (hu : X.A.units + 66 < cLine) (hc : X.calm = true) (hN : X.N.Nodup) (hy : X.N[i]? = some y) (hyl : X.env.scope.names.lookup y = some .local)
    (hsw : swapsWith (.DictComp kx vx [⟨tg, iter, ifs, 0⟩] scope pos) (some (.Name y py)) spos.line X.env = pure true) (hi : PI X tg iter wi) (ok : BlkOk X.N X.env.scope scope own)
    (hg : ∀ (s : Shared) (H : Hp) (C : Addr) (cl : List (Str × Addr)) (fp : List Addr), PG (X.blk s H scope (compEnvC scope cl C X.env) fp) tg g) (ht : ∀ (s : Shared) (H : Hp) (C : Addr) (cl : List (Str × Addr)) (fp : List Addr), PTs (X.blk s H scope (compEnvC scope cl C X.env) fp) ifs tt)
    (hk : ∀ (s : Shared) (H : Hp) (C : Addr) (cl : List (Str × Addr)) (fp : List Addr), PE (X.blk s H scope (compEnvC scope cl C X.env) fp) kx tk) (he : ∀ (s : Shared) (H : Hp) (C : Addr) (cl : List (Str × Addr)) (fp : List Addr), PE (X.blk s H scope (compEnvC scope cl C X.env) fp) vx tv) (hs : ∀ x, foldedSetIterable iter X.env x = pure x) :
    PS X (.Assign [.Name y py] (.DictComp kx vx [⟨tg, iter, ifs, 0⟩] scope pos) spos) (tAsg (tDcT X wi g tt tk tv (own.map (·.2))) (gName i)) := ⟨fun pins st0 τ H D I h => by
  rw [exec_Assign_Name_used _ _ _ _ hsw]
  refine wpAny_bind (wpAny_standAt (wpAny_bind ?_))
  change wpAny _ X.A (do let _ ← comprehension (.DictComp kx vx [⟨tg, iter, ifs, 0⟩] scope pos) scope X.env (firstIterPos [⟨tg, iter, ifs, 0⟩] pos) newDict false (eval iter X.env) (some (assign (.Name y py) X.env))) _ _ st0
  replace h : tDcT X wi g tt tk tv (own.map (·.2)) τ H (fun x H1 => gName i x τ H1 D.nx) := h
  refine wpAny_bind (thn (dcT_core (Qf := fun _ s' => SP X pins D .next s') hu hc hN I hi ok hg ht hk he hs h fun Ld C s' m H' J q hn f => ?_) fun _ s' hq => wpAny_pure (wpAny_pure hq))
  change wpAny _ _ (assign (.Name y py) X.env (.ref Ld)) _ _ _
  refine wpAny_assign_Name (store_ok2 (v := V.ref Ld) J hN hy (.inl hyl) rfl (fun s2 J2 ⟨a, sb, ha⟩ => ?_) (.inr hyl))
  have hne : C ≠ a := ha.elim (fun z => by rw [z]; exact f.2.1) fun z e => f.2.2.2.2.1 y a z e.symm
  exact ⟨m, hn.sameBut sb hne, fun h3 sb3 => ⟨_, H', J2.turned (t' := s2.toks) (fun b o hb e => (sb3.2 b hb).trans e) f.1 f.2.1 f.2.2.2.1 f.2.2.2.2.1 f.2.2.2.2.2, q⟩⟩⟩
end OH
namespace OH
open PySem L2 PySem.Spec PyProof.Rows
variable {X : Cx} {cl : Nat → List D → Res RV}
abbrev dcF (cl : Nat → List D → Res RV) (key val : E) (t : Tgt) (cond : List E) (σ : ASt) (d : D) : Res (Option (D × D)) :=
  (setT t d σ).bind fun σ1 => (denC cl cond σ1).bind fun c => if c then (denE cl key σ1).bind fun kr => kr.frz.bind fun kz => (denE cl val σ1).bind fun r => r.frz.bind fun z => if isKeyT kz then .ok (some (kz, z)) else .bad else .ok none
theorem storedH_le {xs : List (NestedKey × Addr × Value)} {k : NestedKey} {b : Addr} {u : Value} : (storedH xs k b u).length ≤ xs.length + 1 := by
  unfold storedH
  split
  · rw [List.length_map]; omega
  · rw [List.length_append]; simp
theorem dc_loop {J : It} {items : List D} {key val : E} {t : Tgt} {cond : List E} {own : List Nat} {G0 H0 G1 H1 Gp : Hp} {σ : ASt} {τ : L2.St} {L : Addr} {ob0 : Obj} {ps : List (D × D)} {Qd : Hp → Prop} (A : AIx X G0 H0 G1 H1 σ τ) (it : ItOk X J items G1 Gp) (sp : Sub Gp H1) (hL : H1 L = none) (d0 : DictO X.prog X.w L ob0 [])
    (ht : ∀ i ∈ tgSlots t, i ∈ own) (hc : collect (dcF cl key val t cond (wipeA σ own)) items = .ok ps)
    (k : ∀ G' H', Ext G1 H1 G' H' → RepR X.prog X.w X.K G' H' H1 (.fd (putAll ps)) (.ref L) → Qd H') :
    ∃ W : Nat → Nat → Hp → Prop, (∃ m, W 0 m (upd H1 L (hoD L ob0))) ∧ ∀ i m H, W i m H →
      (J.stop i H ∧ Qd H) ∨ (J.go i H ∧ ∃ Nx : Hp → Prop, (∀ H', Nx H' → ∃ m', m' < m ∧ W (i + 1) m' H') ∧ ∀ x H', J.yld i H x H' → tG X t x (wipe τ own) H' fun σ2 H2 => wipe σ2 own = wipe τ own ∧ tC1 X cl cond σ2 H2 fun b H3 =>
        if b = true then tE X cl key σ2 H3 fun y H4 => tE X cl val σ2 H4 fun z H5 => DcPut X L y z H5 Nx else Nx H3) := by
  have hG1 : G1 L = none := A.sub.none hL
  let Pv : Nat → Hp → Prop := fun i H => ∃ G xs kvs ob rs, Ext G1 H1 G H ∧ H L = some (hoD L ob) ∧ G L = none ∧ DictO X.prog X.w L ob xs ∧ RepX X.prog X.w X.K G xs kvs ∧ collect (dcF cl key val t cond (wipeA σ own)) (items.drop i) = .ok rs ∧ rs.foldl (fun acc p => put p.1 p.2 acc) kvs = putAll ps ∧ xs.length ≤ i
  refine ⟨fun i m H => m = items.length - i ∧ i ≤ items.length ∧ Pv i H, ⟨items.length, by simp, Nat.zero_le _, G1, [], [], ob0, ps, Ext.alloc A.sub hL, upd_same, hG1, d0, .nil, by simpa using hc, rfl, Nat.le_refl _⟩, ?_⟩
  rintro i m H ⟨rfl, hi, G, xs, kvs, ob, rs, x, hl, hg, dd, rr, hcol, hds, hlen⟩
  have gd : Sub Gp H := fun b u q => x.h b u (sp b u q)
  by_cases hlt : i < items.length
  · refine .inr ⟨it.walk.goes i H hlt gd, Pv (i + 1), fun H' p' => ⟨items.length - (i + 1), by omega, rfl, hlt, p'⟩, fun v H' yy => ?_⟩
    obtain ⟨d, hd, io⟩ := it.walk.yields i H v H' hlt gd yy
    obtain ⟨G2, x2, rv⟩ := io G (fun b u q => x.g b u q) x.sub
    rw [drop_cons hd] at hcol
    unfold collect at hcol
    obtain ⟨y, e1, hcol⟩ := bind_ok hcol
    obtain ⟨ys, e2, hcol⟩ := bind_ok hcol
    cases hcol
    obtain ⟨σ1, e3, e1⟩ := bind_ok e1
    obtain ⟨c, e4, e1⟩ := bind_ok e1
    have A2 : AIx X G0 H0 G2 H' σ τ := A.ext (x.trans x2)
    have stay : ∀ {Ga Ha Gb Hb : Hp}, Ext Ga Ha Gb Hb → Ga L = none → Ha L ≠ none → Gb L = none := fun {Ga Ha Gb Hb} e h1 h2 => by
      cases q : Gb L with
      | none => rfl
      | some u => exact absurd (e.new L h1 (by rw [q]; exact fun z => nomatch z)) h2
    have hg2 : G2 L = none := stay x2 hg (by rw [hl]; exact fun z => nomatch z)
    refine ⟨G0, H0, G2, _, σ1, d, A2.wipe own, rv, e3, fun τ1 A3 hw => ⟨(hw own ht).trans (wipe_wipe τ own), ⟨G0, H0, G2, σ1, c, A3, e4, fun G3 H3 x3 => ?_⟩⟩⟩
    have hl2 := x2.h L _ hl
    have hg3 : G3 L = none := stay x3 hg2 (by rw [hl2]; exact fun z => nomatch z)
    have hl3 : H3 L = some (hoD L ob) := x3.h L _ hl2
    cases c with
    | false =>
      simp only [Bool.false_eq_true, if_false] at e1 ⊢
      cases e1
      exact ⟨G3, xs, kvs, ob, ys, x.trans (x2.trans x3), hl3, hg3, dd, rr.mono (x2.g.trans x3.g), e2, hds, by omega⟩
    | true =>
      simp only [if_true] at e1 ⊢
      obtain ⟨kr, e5, e1⟩ := bind_ok e1
      obtain ⟨kz, e6, e1⟩ := bind_ok e1
      obtain ⟨r, e7, e1⟩ := bind_ok e1
      obtain ⟨z, e8, e1⟩ := bind_ok e1
      split at e1
      · rename_i hkt
        cases e1
        refine tE_frz (A3.ext x3) e5 e6 fun G4 H4 v4 x4 A4 r4 => tE_frz A4 e7 e8 fun G5 H5 v5 x5 A5 r5 => ?_
        have hg4 : G4 L = none := stay x4 hg3 (by rw [hl3]; exact fun z => nomatch z)
        have hl4 := x4.h L _ hl3
        have hg5 : G5 L = none := stay x5 hg4 (by rw [hl4]; exact fun z => nomatch z)
        have hl5 : H5 L = some (hoD L ob) := x5.h L _ hl4
        obtain ⟨b, nk, rfl, rb, hnk⟩ := (BRep.rep (H := H4) r4).key_ hkt
        have gg := x2.g.trans (x3.g.trans (x4.g.trans x5.g))
        have rr5 := rr.mono gg
        refine ⟨G5, kvs, xs, ob, b, nk, kz, rfl, x5.sub, hl5, dd, rr5, rb.mono x5.g, hnk, hkt, by have := it.len; omega, fun u ob' ru d' => ?_⟩
        refine ⟨G5, storedH xs nk b u, put kz z kvs, ob', ys, (x.trans (x2.trans (x3.trans (x4.trans x5)))).write hL hg5, upd_same, hg5, d', rr5.put hnk hkt (rb.mono x5.g) ru r5 dd.nd, e2, hds, ?_⟩
        have := storedH_le (xs := xs) (k := nk) (b := b) (u := u)
        omega
      · cases e1
  · have e : i = items.length := by omega
    subst e
    rw [List.drop_length] at hcol
    unfold collect at hcol
    cases hcol
    simp only [List.foldl_nil] at hds
    subst hds
    refine .inl ⟨it.walk.stops H gd, k G H x (.own (.fd hl dd rr) (by simp) fun a ha => ?_)⟩
    obtain rfl := List.mem_singleton.mp ha
    exact ⟨hL, hg⟩
section
variable {key val : E} {t : Tgt} {k : ItK} {src cond : List E} {kx vx tg iter : Expr} {ifs : List Expr} {scope : Scope} {own : List (Str × Nat)} {pos : Pos}
theorem dc_read {τ : L2.St} {H : Hp} {Q : VK} (ht : ∀ i ∈ tgSlots t, i ∈ own.map (·.2)) (q : tE X cl (.dc key val t k src cond (own.map (·.2))) τ H Q) : tDcT X (tI X cl k src) (tG X t) (tC1 X cl cond) (tE X cl key) (tE X cl val) (own.map (·.2)) τ H Q := by
  obtain ⟨G0, H0, G, σ, r, A, h1, kk⟩ := q
  simp only [denE] at h1
  obtain ⟨p, e1, h1⟩ := bind_ok h1
  obtain ⟨items, e2, h1⟩ := bind_ok h1
  obtain ⟨ps, e3, h1⟩ := bind_ok h1
  cases h1
  refine ⟨G0, H0, G, σ, p, items, A, e1, e2, fun J G1 H1 Gp x s1 s2 s3 it L ob hL d0 => ?_⟩
  exact dc_loop (A.ext x) it s2 hL d0 ht e3 fun G2 H2 x2 rr => Kont.ext kk x G2 H2 (.ref L) x2 rr
end
end OH
end

section
set_option autoImplicit false
set_option linter.all false
set_option Elab.async false
set_option maxRecDepth 100000
set_option maxHeartbeats 2000000
namespace OH
open PySem L2 PySem.Spec PyProof.Rows
variable {X : Cx} {cl : Nat → List D → Res RV}
/-- a walk's turns, counted down -/
theorem walk_W {J : It} {n : Nat} {Gd : Hp → Prop} {Y : Nat → Hp → V → Hp → Prop} (w : Walk J n Gd Y) (Pv : Nat → Hp → Prop) {H1 : Hp} (h0 : Pv 0 H1) (hG : ∀ i H, i ≤ n → Pv i H → Gd H) :
    ∃ W : Nat → Nat → Hp → Prop, (∃ m, W 0 m H1) ∧ ∀ i m H, W i m H → (J.stop i H ∧ Pv n H) ∨ (i < n ∧ J.go i H ∧ Pv i H ∧ ∀ H', Pv (i + 1) H' → ∃ m', m' < m ∧ W (i + 1) m' H') := by
  refine ⟨fun i m H => m + i = n ∧ Pv i H, ⟨n, rfl, h0⟩, fun i m H h => ?_⟩
  obtain ⟨e, p⟩ := h
  have g := hG i H (by omega) p
  cases m with
  | zero =>
    have : i = n := by omega
    subst this
    exact .inl ⟨w.stops H g, p⟩
  | succ m => exact .inr ⟨by omega, w.goes i H (by omega) g, p, fun H' p' => ⟨m, Nat.lt_succ_self m, by omega, p'⟩⟩
theorem AI.drop {G0 H0 G H : Hp} {σ : ASt} {τ : L2.St} (A : AIx X G0 H0 G H σ τ) : AIx X G H G H (dropA σ) τ := by
  refine ⟨Ext.refl A.sub, by unfold dropA; rw [List.length_map, A.len], fun _ => [], fun i r h => ?_, fun i j a h => by simp at h, fun _ => List.nodup_nil, fun i a h => by simp at h⟩
  unfold dropA at h
  rw [List.getElem?_map] at h
  obtain ⟨o, ho, e⟩ := Option.map_eq_some_iff.mp h
  cases o with
  | none => cases e
  | some r' =>
    cases r' with
    | d x =>
      cases e
      obtain ⟨v, e1, e2⟩ := A.d ho
      exact ⟨v, e1, .inl ⟨x, rfl, rfl, e2⟩⟩
    | _ => cases e
/-- a state of data alone stands in any later heap -/
theorem AI.later {G0 H0 G H G' H' : Hp} {σ : ASt} {τ : L2.St} (A : AIx X G0 H0 G H σ τ) (h : ∀ (i : Nat) (r : RV), σ[i]? = some (some r) → ∃ x, r = RV.d x) (s : Sub G G') (s' : Sub G' H') : AIx X G' H' G' H' σ τ := by
  refine ⟨Ext.refl s', A.len, fun _ => [], fun i r e => ?_, fun i j a h => by simp at h, fun _ => List.nodup_nil, fun i a h => by simp at h⟩
  obtain ⟨x, rfl⟩ := h i r e
  obtain ⟨v, e1, e2⟩ := A.d e
  exact ⟨v, e1, .inl ⟨x, rfl, rfl, e2.mono s⟩⟩
theorem drop_d (σ : ASt) (t : Nat) (d : D) : ∀ (i : Nat) (r : RV), ((dropA σ).set t (some (.d d)))[i]? = some (some r) → ∃ x, r = RV.d x := fun i r h => by
  by_cases e : t = i
  · subst e
    have hb : t < (dropA σ).length := by
      have := (List.getElem?_eq_some_iff.mp h).1
      simpa using this
    rw [List.getElem?_set_self hb] at h
    cases h; exact ⟨d, rfl⟩
  · rw [List.getElem?_set_ne e] at h
    unfold dropA at h
    rw [List.getElem?_map] at h
    obtain ⟨o, ho, e⟩ := Option.map_eq_some_iff.mp h
    cases o with
    | none => cases e
    | some r' =>
      cases r' with
      | d x => cases e; exact ⟨x, rfl⟩
      | _ => cases e
abbrev lc2In (cl : Nat → List D → Res RV) (e : E) (t2 : Nat) (cond : List E) (σ1 : ASt) (d2 : D) : Res (Option D) :=
  (denC cl cond (σ1.set t2 (some (.d d2)))).bind fun c => if c then (denE cl e (σ1.set t2 (some (.d d2)))).bind fun r => r.frz.bind fun z => .ok (some z) else .ok none
abbrev lc2Out (cl : Nat → List D → Res RV) (e : E) (t1 : Nat) (src2 : E) (t2 : Nat) (cond : List E) (σw : ASt) (d : D) : Res (Option (List D)) :=
  (denE cl src2 (σw.set t1 (some (.d d)))).bind fun q2 => q2.frz.bind fun w2 => (walkD w2).bind fun items2 => (collect (lc2In cl e t2 cond (σw.set t1 (some (.d d)))) items2).bind fun zs => .ok (some zs)
theorem frz_isB {r : RV} {d : D} (h : r.frz = .ok d) : r.isB = false ∧ d = r.val := by
  cases r <;> simp only [RV.frz_d, RV.frz_fl, RV.frz_fd, RV.frz_fg, RV.frz_b, reduceCtorEq, Res.ok.injEq] at h
  all_goals exact ⟨rfl, h.symm⟩
theorem lc2_read {e src1 src2 : E} {t1 t2 : Nat} {cond : List E} {own : List Nat} {τ : L2.St} {H : Hp} {Q : VK} (h1 : t1 ∈ own) (q : tE X cl (.lc2 e t1 src1 t2 src2 cond own) τ H Q) :
    tLc2 (tI X cl .seq [src1]) (tG X (.n t1)) (tC1 X cl []) (tI X cl .seq [src2]) (tG X (.n t2)) (tC1 X cl cond) (tE X cl e) own [t2] τ H Q := by
  obtain ⟨G0, H0, G, σ, r, A, hd, kk⟩ := q
  simp only [denE] at hd
  obtain ⟨p, e1, hd⟩ := bind_ok hd
  obtain ⟨items, e2, hd⟩ := bind_ok hd
  obtain ⟨zss, e3, hd⟩ := bind_ok hd
  split at hd
  case isFalse => cases hd
  rename_i hlen
  cases hd
  replace e3 : collect (lc2Out cl e t1 src2 t2 cond (dropA (wipeA σ own))) items = .ok zss := e3
  refine ⟨G0, H0, G, σ, (p.isB || false, [p.val]), items, A, by simp only [denV, e1, Res.bind_ok], e2, fun J G1 H1 Gp x s1 s2 s3 it L hL => ?_⟩
  have A1 := A.ext x
  have hG1 : G1 L = none := A1.sub.none hL
  -- what holds ahead of the turn i
  obtain ⟨Pv, hPv⟩ : ∃ Pv : Nat → Hp → Prop, ∀ i H, Pv i H ↔ ∃ G acc as rs, Ext G1 H1 G H ∧ H L = some (.lst acc) ∧ G L = none ∧ Reps X.prog X.w X.K G acc as ∧ collect (lc2Out cl e t1 src2 t2 cond (dropA (wipeA σ own))) (items.drop i) = .ok rs ∧ as ++ rs.flatten = zss.flatten := ⟨_, fun _ _ => Iff.rfl⟩
  obtain ⟨W, W0, W1⟩ := walk_W it.walk Pv (H1 := upd H1 L (.lst [])) ((hPv _ _).mpr ⟨G1, [], [], zss, Ext.alloc A1.sub hL, upd_same, hG1, .nil, by simpa using e3, by simp⟩) (by
    intro i H hi hp
    obtain ⟨G, acc, as, rs, y, _⟩ := (hPv _ _).mp hp
    exact fun b u q => y.h b u (s2 b u q))
  refine ⟨W, W0, fun i m H hw => ?_⟩
  rcases W1 i m H hw with ⟨hstop, hp⟩ | ⟨hi, hgo, hp, hnx⟩
  · refine .inl ⟨hstop, ?_⟩
    obtain ⟨G, acc, as, rs, y, hl, hg, rr, hcol, hds⟩ := (hPv _ _).mp hp
    rw [List.drop_length] at hcol
    unfold collect at hcol
    cases hcol
    simp only [List.flatten_nil, List.append_nil] at hds
    subst hds
    refine Kont.ext kk x G H (.ref L) y (.own (.fl hl rr) (by simp) fun a ha => ?_)
    obtain rfl := List.mem_singleton.mp ha
    exact ⟨hL, hg⟩
  · refine .inr ⟨hgo, Pv (i + 1), hnx, fun v H' hy => ?_⟩
    obtain ⟨G, acc, as, rs, y, hl, hg, rr, hcol, hds⟩ := (hPv _ _).mp hp
    obtain ⟨d, hd, io⟩ := it.walk.yields i H v H' hi (fun b u q => y.h b u (s2 b u q)) hy
    obtain ⟨G2, x2, rv⟩ := io G (fun b u q => y.g b u q) y.sub
    rw [drop_cons hd] at hcol
    unfold collect at hcol
    obtain ⟨zo, e4, hcol⟩ := bind_ok hcol
    obtain ⟨rs2, e5, hcol⟩ := bind_ok hcol
    cases hcol
    obtain ⟨q2, e6, e4⟩ := bind_ok e4
    obtain ⟨w2, e6', e4⟩ := bind_ok e4
    obtain ⟨items2, e7, e4⟩ := bind_ok e4
    obtain ⟨zs, e8, e4⟩ := bind_ok e4
    cases e4
    obtain ⟨hnb, rfl⟩ := frz_isB e6'
    simp only [List.flatten_cons] at hds
    have keep : ∀ {Ga Ha Gb Hb : Hp}, Ext Ga Ha Gb Hb → Ga L = none → (∃ o, Ha L = some o) → Gb L = none := fun {Ga Ha Gb Hb} z z1 z2 => by
      cases w : Gb L with
      | none => rfl
      | some u =>
        have := z.new L z1 (by rw [w]; exact fun z => nomatch z)
        obtain ⟨o, z2⟩ := z2
        rw [z2] at this; cases this
    have A2 : AIx X G2 H' G2 H' (dropA (wipeA σ own)) (wipe τ own) := ((A1.ext (y.trans x2)).wipe own).drop
    have hg2 : G2 L = none := keep x2 hg ⟨_, hl⟩
    refine ⟨G2, H', G2, _, (dropA (wipeA σ own)).set t1 (some (.d d)), d, A2, rv, rfl, fun τ1 A3 hw1 => ⟨(hw1 own (by simpa [tgSlots] using h1)).trans (wipe_wipe τ own), ?_⟩⟩
    refine ⟨G2, H', G2, _, true, A3, by simp only [denC], fun G3 H3 x3 => ?_⟩
    simp only [if_true]
    have hl3 : H3 L = some (.lst acc) := x3.h L _ (x2.h L _ hl)
    have hg3 : G3 L = none := keep x3 hg2 ⟨_, x2.h L _ hl⟩
    refine ⟨G2, H', G3, _, (q2.isB || false, [q2.val]), items2, A3.ext x3, by simp only [denV, e6, Res.bind_ok], e7, fun J1 G4 H4 Gp4 x4 t1' t2' t3' it2 => ?_⟩
    have hl4 : H4 L = some (.lst acc) := x4.h L _ hl3
    have hg4 : G4 L = none := keep x4 hg3 ⟨_, hl3⟩
    have eGp : Gp4 = G4 := t3' (by rw [hnb]; rfl)
    subst eGp
    have s14 : Sub G2 Gp4 := x3.g.trans x4.g
    obtain ⟨Pw, hPw⟩ : ∃ Pw : Nat → Hp → Prop, ∀ j H, Pw j H ↔ ∃ G acc as' rs', Ext G1 H1 G H ∧ Sub Gp4 G ∧ H L = some (.lst acc) ∧ G L = none ∧ Reps X.prog X.w X.K G acc (as ++ as') ∧ collect (lc2In cl e t2 cond ((dropA (wipeA σ own)).set t1 (some (.d d)))) (items2.drop j) = .ok rs' ∧ as' ++ rs' = zs := ⟨_, fun _ _ => Iff.rfl⟩
    obtain ⟨V', V0, V1⟩ := walk_W it2.walk Pw (H1 := H4) ((hPw _ _).mpr ⟨Gp4, acc, [], zs, y.trans (x2.trans (x3.trans x4)), Sub.refl _, hl4, hg4, by rw [List.append_nil]; exact rr.mono (x2.g.trans s14), by simpa using e8, by simp⟩) (by
      intro j H hj hp
      obtain ⟨G, acc, as', rs', z, z2, _⟩ := (hPw _ _).mp hp
      exact fun b u q => z.sub b u (z2 b u q))
    refine ⟨V', V0, fun j k5 H5 hv => ?_⟩
    rcases V1 j k5 H5 hv with ⟨hstop, hp5⟩ | ⟨hj, hgo, hp5, hnx5⟩
    · refine .inl ⟨hstop, (hPv _ _).mpr ?_⟩
      obtain ⟨G5, acc5, as', rs', z, _, m1, m2, m3, m4, m5⟩ := (hPw _ _).mp hp5
      rw [List.drop_length] at m4
      unfold collect at m4
      cases m4
      rw [List.append_nil] at m5
      subst m5
      exact ⟨G5, acc5, as ++ as', rs2, z, m1, m2, m3, e5, by rw [List.append_assoc]; exact hds⟩
    · refine .inr ⟨hgo, Pw (j + 1), hnx5, fun v5 H5' hy5 => ?_⟩
      obtain ⟨G5, acc5, as', rs', z, z2, m1, m2, m3, m4, m5⟩ := (hPw _ _).mp hp5
      obtain ⟨d2, hd2, io2⟩ := it2.walk.yields j H5 v5 H5' hj (fun b u q => z.sub b u (z2 b u q)) hy5
      obtain ⟨G6, x6, rv6⟩ := io2 G5 z2 z.sub
      rw [drop_cons hd2] at m4
      unfold collect at m4
      obtain ⟨yo, e9, m4⟩ := bind_ok m4
      obtain ⟨ys, e10, m4⟩ := bind_ok m4
      cases m4
      obtain ⟨c, e11, e9⟩ := bind_ok e9
      have A6 : AIx X G6 H5' G6 H5' _ τ1 := A3.later (drop_d _ _ _) (s14.trans (z2.trans x6.g)) x6.sub
      have hg6 : G6 L = none := keep x6 m2 ⟨_, m1⟩
      have hset : (wipeA ((dropA (wipeA σ own)).set t1 (some (.d d))) [t2]).set t2 (some (.d d2)) = ((dropA (wipeA σ own)).set t1 (some (.d d))).set t2 (some (.d d2)) := by
        show ((((dropA (wipeA σ own)).set t1 (some (.d d))).set t2 none).set t2 (some (.d d2))) = _
        rw [List.set_set]
      refine ⟨G6, H5', G6, _, (wipeA ((dropA (wipeA σ own)).set t1 (some (.d d))) [t2]).set t2 (some (.d d2)), d2, A6.wipe [t2], rv6, rfl, fun τ2 A7 hw2 => ⟨(hw2 [t2] (by simp [tgSlots])).trans (wipe_wipe τ1 [t2]), ?_⟩⟩
      rw [hset] at A7
      refine ⟨G6, H5', G6, _, c, A7, e11, fun G8 H8 x8 => ?_⟩
      have hl8 : H8 L = some (.lst acc5) := x8.h L _ (x6.h L _ m1)
      have hg8 : G8 L = none := keep x8 hg6 ⟨_, x6.h L _ m1⟩
      cases c with
      | false =>
        simp only [Bool.false_eq_true, if_false] at e9 ⊢
        cases e9
        exact (hPw _ _).mpr ⟨G8, acc5, as', ys, z.trans (x6.trans x8), z2.trans (x6.g.trans x8.g), hl8, hg8, m3.mono (x6.g.trans x8.g), e10, m5⟩
      | true =>
        simp only [if_true] at e9 ⊢
        obtain ⟨r9, e12, e9⟩ := bind_ok e9
        obtain ⟨z9, e13, e9⟩ := bind_ok e9
        cases e9
        refine tE_frz (A7.ext x8) e12 e13 fun G9 H9 v9 x9 A9 r9' => ?_
        have hl9 : H9 L = some (.lst acc5) := x9.h L _ hl8
        have hg9 : G9 L = none := keep x9 hg8 ⟨_, hl8⟩
        refine ⟨acc5, hl9, ?_, (hPw _ _).mpr ⟨G9, acc5 ++ [v9], as' ++ [z9], ys, (z.trans (x6.trans (x8.trans x9))).write hL hg9, z2.trans (x6.g.trans (x8.g.trans x9.g)), upd_same, hg9, ?_, e10, by rw [List.append_assoc]; exact m5⟩⟩
        · rw [m3.length]
          have h5 : (as ++ (as' ++ z9 :: ys)).length ≤ zss.flatten.length := by
            have m6 : as' ++ z9 :: ys = zs := m5
            rw [m6, ← hds]
            simp only [List.length_append]; omega
          rw [← line_eq]
          simp only [List.length_append, List.length_cons] at h5 ⊢
          omega
        · rw [← List.append_assoc]
          exact (m3.mono (x6.g.trans (x8.g.trans x9.g))).append (.cons r9' .nil)
theorem merge_new : ∀ (more kvs : List (Key × V)), ((kvs ++ more).map (·.1)).Nodup → mergeK kvs more = kvs ++ more
  | [], kvs, _ => by simp [mergeK]
  | p :: r, kvs, h => by
    have hv : valV kvs p.1 = none := by
      unfold valV
      rw [Option.map_eq_none_iff, List.find?_eq_none]
      intro x hx e
      rw [List.map_append, List.nodup_append] at h
      exact h.2.2 x.1 (List.mem_map_of_mem (f := (·.1)) hx) p.1 (by simp) (by simpa using e)
    show mergeK (putK kvs p.1 p.2) r = _
    rw [putK_new p.2 hv, merge_new r (kvs ++ [(p.1, p.2)]) (by simpa [List.append_assoc] using h)]
    simp
abbrev D_str : Str → D := PyData.str
def txK (ps : List (Str × Str)) : List (Key × V) := ps.map fun p => (.inr p.1, .str p.2)
def txD (ps : List (Str × Str)) : List (D × D) := ps.map fun p => (.str p.1, .str p.2)
theorem txK_rep {P : Program} {w : World} {K : PySem.W.Frag} {G : Hp} : ∀ ps : List (Str × Str), RepK P w K G (txK ps) (txD ps)
  | [] => .nil
  | p :: r => .cons (.str p.2) (txK_rep r)
theorem txK_nodup : ∀ {ps : List (Str × Str)}, (ps.map (·.1)).Nodup → ((txK ps).map (·.1)).Nodup
  | [], _ => by simp [txK]
  | p :: r, h => by
    obtain ⟨h1, h2⟩ := List.nodup_cons.mp h
    refine List.nodup_cons.mpr ⟨fun hm => h1 ?_, txK_nodup h2⟩
    obtain ⟨x, hx, e⟩ := List.mem_map.mp hm
    obtain ⟨y, hy, rfl⟩ := List.mem_map.mp hx
    have e2 : y.1 = p.1 := Sum.inr.inj e
    exact List.mem_map.mpr ⟨y, hy, e2⟩
theorem look_tx {k : Str} : ∀ {l : List (Str × Str)}, k ∉ l.map (·.1) → look (.str k) (txD l) = none
  | [], _ => rfl
  | p :: r, h => by
    rw [List.map_cons, List.mem_cons, not_or] at h
    show look (.str k) ((.str p.1, .str p.2) :: txD r) = none
    rw [look]
    have : eqv (.str p.1) (.str k) = false := by simp [eqv]; exact fun e => h.1 e.symm
    simp only [this, Bool.false_eq_true, if_false]
    exact look_tx h.2
theorem putAll_tx (ps : List (Str × Str)) (h : (ps.map (·.1)).Nodup) : putAll (txD ps) = txD ps := by
  have key : ∀ (more pre : List (Str × Str)), ((pre ++ more).map (·.1)).Nodup → (txD more).foldl (fun acc p => put p.1 p.2 acc) (txD pre) = txD (pre ++ more) := by
    intro more
    induction more with
    | nil => intro pre _; simp [txD]
    | cons p r ih =>
      intro pre hn
      show (txD r).foldl _ (put (.str p.1) (.str p.2) (txD pre)) = _
      have hnot : p.1 ∉ pre.map (·.1) := by
        rw [List.map_append, List.nodup_append] at hn
        exact fun hm => hn.2.2 _ hm p.1 (by simp) rfl
      rw [put_new (look_tx hnot)]
      have e : txD pre ++ [((.str p.1 : D), (.str p.2 : D))] = txD (pre ++ [p]) := by simp [txD]
      rw [e, ih (pre ++ [p]) (by simpa [List.append_assoc] using hn)]
      simp
  exact key ps [] (by simpa using h)
def txT (ps : List (Str × Str)) : List (TE × TE) := ps.map fun p => (tC (.str p.1), tC (.str p.2))
theorem txT_run {τ : L2.St} {R : List (V × V) → Hp → Prop} : ∀ (ps : List (Str × Str)) {H : Hp} {R : List (V × V) → Hp → Prop}, R (ps.map fun p => (.str p.1, .str p.2)) H → tPairs (txT ps) τ H R
  | [], _, _, h => h
  | p :: r, H, R, h => txT_run r (R := fun qs H3 => R ((.str p.1, .str p.2) :: qs) H3) h
theorem lits_F {σ : ASt} : ∀ xs : List Str, denF cl (xs.map fun x => .lit (.str x)) σ = .ok (xs.map .str)
  | [] => by simp only [List.map_nil, denF]
  | x :: r => by simp only [List.map_cons, denF, denE, Res.bind_ok, RV.frz_d, lits_F r]
theorem snd_dctS {ps : List (Str × Str)} {keys : List (Option Expr)} {values : List Expr} {pos : Pos} (h : PPs X pos keys values (txT ps)) (hall : keys.all (·.isSome) = true) (hl : keys.length = values.length) (hk : keys.length = ps.length) (h0 : ps ≠ []) (h15 : ps.length ≤ 15) (hn : (ps.map (·.1)).Nodup) :
    PE X (.Dict keys values pos) (tE X cl (.dct ((ps.map (·.1)).map fun x => .lit (.str x)) ((ps.map (·.2)).map fun x => .lit (.str x)))) := PE_imp (pe_disp h hall hl (by intro e; rw [e] at hk; exact h0 (List.length_eq_zero_iff.mp hk.symm)) (by omega)) fun τ H Q q => by
  obtain ⟨G0, H0, G, σ, r, A, hd, k⟩ := q
  simp only [denE, lits_F, Res.bind_ok] at hd
  have hz : ((ps.map (·.1)).map D_str).zip ((ps.map (·.2)).map D_str) = txD ps := by
    rw [List.map_map, List.map_map, List.zip_map']
    rfl
  have hp : ps ≠ [] := h0
  obtain ⟨p0, r0, rfl⟩ : ∃ p r, ps = p :: r := by cases ps with
    | nil => exact absurd rfl h0
    | cons p r => exact ⟨p, r, rfl⟩
  split at hd
  · rename_i c
    exfalso
    simp [isKeyT] at c
  · split at hd
    · cases hd
      intro p hp
      refine txT_run (R := fun _ _ => True) (p0 :: r0) ⟨upd_same, txK (p0 :: r0), by simp [txK, kV], by simpa [txK] using h15, ?_⟩
      rw [upd_upd, merge_new _ [] (by simpa using txK_nodup hn), List.nil_append]
      refine k _ _ _ (Ext.allocG A.sub hp) (.d ?_)
      have e : putAll (((List.map (·.1) (p0 :: r0)).map D_str).zip ((List.map (·.2) (p0 :: r0)).map D_str)) = txD (p0 :: r0) := by rw [hz, putAll_tx _ hn]
      have e' : putAll (((List.map (·.1) (p0 :: r0)).map PyData.str).zip ((List.map (·.2) (p0 :: r0)).map PyData.str)) = txD (p0 :: r0) := e
      rw [e']
      exact .dk upd_same (txK_rep _) (by simp [txD])
    · cases hd
end OH
end

section
set_option autoImplicit false
set_option linter.all false
set_option Elab.async false
set_option maxRecDepth 100000
set_option maxHeartbeats 4000000
namespace OH
open PySem L2 PySem.Spec PyProof.Rows
mutual
def beqD : D → D → Bool
  | .none, .none => true
  | .bool a, .bool b => a == b
  | .int i, .int j => i == j
  | .str x, .str y => decide (x = y)
  | .list xs, .list ys => beqDs xs ys
  | .tuple xs, .tuple ys => beqDs xs ys
  | .dict xs, .dict ys => beqKs xs ys
  | _, _ => false
def beqDs : List D → List D → Bool
  | [], [] => true
  | x :: xs, y :: ys => beqD x y && beqDs xs ys
  | _, _ => false
def beqKs : List (D × D) → List (D × D) → Bool
  | [], [] => true
  | (a, x) :: xs, (b, y) :: ys => beqD a b && beqD x y && beqKs xs ys
  | _, _ => false
end
mutual
theorem beqD_eq : ∀ (a b : D), beqD a b = true → a = b
  | .none, b, h => by cases b <;> simp_all [beqD]
  | .bool a, b, h => by cases b <;> simp_all [beqD]
  | .int a, b, h => by cases b <;> simp_all [beqD]
  | .str a, b, h => by cases b <;> simp_all [beqD]
  | .list xs, b, h => by
    cases b <;> simp only [beqD, Bool.false_eq_true] at h
    rw [beqDs_eq xs _ h]
  | .tuple xs, b, h => by
    cases b <;> simp only [beqD, Bool.false_eq_true] at h
    rw [beqDs_eq xs _ h]
  | .dict xs, b, h => by
    cases b <;> simp only [beqD, Bool.false_eq_true] at h
    rw [beqKs_eq xs _ h]
theorem beqDs_eq : ∀ (a b : List D), beqDs a b = true → a = b
  | [], b, h => by cases b <;> simp_all [beqDs]
  | x :: xs, b, h => by
    cases b <;> simp only [beqDs, Bool.false_eq_true, Bool.and_eq_true] at h
    rw [beqD_eq x _ h.1, beqDs_eq xs _ h.2]
theorem beqKs_eq : ∀ (a b : List (D × D)), beqKs a b = true → a = b
  | [], b, h => by cases b <;> simp_all [beqKs]
  | (k, x) :: xs, b, h => by
    match b, h with
    | [], h => simp [beqKs] at h
    | (k', y) :: ys, h =>
      simp only [beqKs, Bool.and_eq_true] at h
      rw [beqD_eq k _ h.1.1, beqD_eq x _ h.1.2, beqKs_eq xs _ h.2]
end
/-- what a def's text is read against: its names by slot, its scope, the names it may store, the constants, the defs' names -/
structure Ck where
  N : List Str
  sc : Scope
  asg : Str → Bool
  gl : Nat → Option (Str × D)
  fn : Nat → Option Str
def isGl (ck : Ck) (x : Str) : Bool := match ck.sc.names.lookup x with | some .globalImplicit => true | _ => false
def isVis (ck : Ck) (x : Str) : Bool := match ck.sc.names.lookup x with | some .local => true | some .cell => true | some .free => true | _ => false
def nameOk (x : Str) : Bool := !(x == ("__debug__" : Str)) && !(x == ("__classdict__" : Str))
def Ck.blk (ck : Ck) (scope : Scope) : Ck := { ck with sc := relS scope ck.sc, asg := fun x => match (relS scope ck.sc).names.lookup x with
  | some .local => true
  | some .cell => (match scope.names.lookup x with | some .cell => true | _ => false)
  | _ => false }
def constIs : Const → D → Bool
  | .none, .none => true
  | .bool a, .bool b => a == b
  | .int i, .int j => i == j
  | .str x, .str y => decide (x = y)
  | _, _ => false
def asName : Expr → Option Str
  | .Name x _ => some x
  | _ => none
def asCall : Expr → Option (Str × List Expr)
  | .Call f xs [] _ => (match asName f with | some x => some (x, xs) | none => none)
  | _ => none
theorem asName_eq {ex : Expr} {x : Str} (h : asName ex = some x) : ∃ p, ex = .Name x p := by
  cases ex <;> simp only [asName, reduceCtorEq] at h
  cases h; exact ⟨_, rfl⟩
theorem asCall_eq {ex : Expr} {x : Str} {xs : List Expr} (h : asCall ex = some (x, xs)) : ∃ p pos, ex = .Call (.Name x p) xs [] pos := by
  unfold asCall at h
  split at h
  · split at h
    · rename_i y e
      cases h
      obtain ⟨p, rfl⟩ := asName_eq e
      exact ⟨p, _, rfl⟩
    · cases h
  · cases h
def bltNames : List Str := ["len", "sum", "sorted", "tuple", "list", "all", "any", "abs", "int", "str", "isinstance", "bool", "set", "range", "zip", "enumerate", "max", "min"]
def primName : Prim → Option Str
  | .len => some "len" | .sum => some "sum" | .sorted => some "sorted" | .tuple => some "tuple" | .list => some "list" | .all => some "all" | .any => some "any" | .abs => some "abs" | .int => some "int" | .str => some "str"
  | _ => none
/-- a built-in's arguments -/
def primArgs (ck : Ck) (p : Prim) (ex : Expr) : Option (List Expr) :=
  match asCall ex with
  | none => none
  | some (x, xs) =>
    match p with
    | .isTy t => (match xs with
      | [a, b] => if decide (x = "isinstance") && isGl ck x && isGl ck (tyStr t) && decide (asName b = some (tyStr t)) then some [a] else none
      | _ => none)
    | .listRange => (match xs with
      | [r] => (match asCall r with | some (y, [a]) => if decide (x = "list") && isGl ck x && decide (y = "range") && isGl ck y then some [a] else none | _ => none)
      | _ => none)
    | .tupleRange => (match xs with
      | [r] => (match asCall r with | some (y, [a]) => if decide (x = "tuple") && isGl ck x && decide (y = "range") && isGl ck y then some [a] else none | _ => none)
      | _ => none)
    | .lenSet => (match xs with
      | [r] => (match asCall r with | some (y, [a]) => if decide (x = "len") && isGl ck x && decide (y = "set") && isGl ck y then some [a] else none | _ => none)
      | _ => none)
    | p => (match primName p with
      | some y => if decide (x = y) && isGl ck x && !xs.isEmpty then some xs else none
      | none => none)
def itArgs (ck : Ck) (tg : Expr) : ItK → Expr → Option (List Expr)
  | .seq, ex => some [ex]
  | .range, ex => (match asCall ex with | some (x, xs) => if decide (x = "range") && isGl ck x then some xs else none | none => none)
  | .enum, ex => (match asCall ex with | some (x, [a]) => if decide (x = "enumerate") && isGl ck x && isTupTg tg then some [a] else none | _ => none)
  | .zip, ex => (match asCall ex with | some (x, [a, b]) => if decide (x = "zip") && isGl ck x && isTupTg tg then some [a, b] else none | _ => none)
  | .items, ex => (match ex with
    | .Call (.Attribute e m apos) [] [] cpos => if decide (m = "items") && !isName0 e && (apos.endLine == cpos.line) && isTupTg tg then some [e] else none
    | _ => none)
def tgNames (ck : Ck) : List Nat → List Expr → Bool
  | [], [] => true
  | i :: is, .Name x _ :: xs => decide (ck.N[i]? = some x) && ck.asg x && tgNames ck is xs
  | _, _ => false
def chkTg (ck : Ck) : Tgt → Expr → Bool
  | .n i, .Name x _ => decide (ck.N[i]? = some x) && ck.asg x
  | .t is, .Tuple xs _ _ => tgNames ck is xs
  | _, _ => false
def ownN (ck : Ck) (own : List Nat) : List (Str × Nat) := own.map fun i => (ck.N.getD i "", i)
def cmpOp : COp → CmpOp
  | .eq => .Eq | .ne => .NotEq | .lt => .Lt | .le => .LtE | .gt => .Gt | .ge => .GtE | .isN => .Is | .notN => .IsNot | .inn => .In | .nin => .NotIn | .isB => .Is | .notB => .IsNot
def binOp : BOp → Operator
  | .add => .Add | .sub => .Sub | .mul => .Mult | .fdiv => .FloorDiv | .mod => .Mod | .pow => .Pow
def glIs (ck : Ck) (n : Nat) (d : D) (ex : Expr) : Bool := match asName ex, ck.gl n with | some x, some (y, d') => decide (x = y) && beqD d d' && isGl ck x && nameOk x | _, _ => false
def litStr : E → Option Str
  | .lit (.str x) => some x
  | _ => none
def litStrs : List E → Option (List Str)
  | [] => some []
  | e :: r => match litStr e, litStrs r with | some x, some xs => some (x :: xs) | _, _ => none
def conStr : Expr → Option Str
  | .Constant (.str x) _ _ => some x
  | _ => none
def conStrs : List Expr → Option (List Str)
  | [] => some []
  | e :: r => match conStr e, conStrs r with | some x, some xs => some (x :: xs) | _, _ => none
def keyStrs : List (Option Expr) → Option (List Str)
  | [] => some []
  | some e :: r => (match conStr e, keyStrs r with | some x, some xs => some (x :: xs) | _, _ => none)
  | none :: _ => none
/-- a display of texts under unlike texts -/
def dctS (ks vs : List E) (ex : Expr) : Bool := match litStrs ks, litStrs vs, ex with
  | some a, some b, .Dict keys values _ => decide (keyStrs keys = some a) && decide (conStrs values = some b) && decide (a.length = b.length) && !a.isEmpty && decide (a.length ≤ 15) && decide a.Nodup
  | _, _, _ => false
mutual
def chkE (ck : Ck) : E → Expr → Bool
  | .lit d, ex => (match ex with | .Constant c _ _ => constIs c d | _ => false)
  | .gl n d, ex => (match asName ex, ck.gl n with | some x, some (y, d') => decide (x = y) && beqD d d' && isGl ck x && nameOk x | _, _ => false)
  | .var i, ex => (match asName ex with | some x => decide (ck.N[i]? = some x) && isVis ck x && nameOk x | none => false)
  | .tup es, ex => (match ex with | .Tuple xs _ _ => chkEs ck es xs && xs.all plainE && decide (es.length ≤ 1000) | _ => false)
  | .lst es, ex => (match ex with | .List xs _ => chkEs ck es xs && xs.all plainE && decide (es.length ≤ 1000) | _ => false)
  | .dct ks vs, ex => (ks.isEmpty && vs.isEmpty && (match ex with | .Dict [] [] _ => true | _ => false)) || dctS ks vs ex
  | .neg a, ex => (match ex with | .UnaryOp .USub xa _ => chkE ck a xa | _ => false)
  | .not a, ex => (match ex with | .UnaryOp .Not xa _ => chkE ck a xa && okT xa | _ => false)
  | .bin o a b, ex => (match ex with | .BinOp xa op xb _ => decide (op = binOp o) && chkE ck a xa && chkE ck b xb | _ => false)
  | .cmp o a b, ex => (match ex with | .Compare xa [op] [xb] _ => decide (op = cmpOp o) && plainE xb && chkE ck a xa && chkE ck b xb | _ => false)
  | .chain o1 o2 a b c, ex => (match ex with | .Compare xa [p1, p2] [xb, xc] _ => decide (p1 = cmpOp o1) && decide (p2 = cmpOp o2) && plainE xc && chkE ck a xa && chkE ck b xb && chkE ck c xc | _ => false)
  | .and es, ex => (match ex with | .BoolOp .And xs _ => chkEs ck es xs && xs.all okT && !es.isEmpty | _ => false)
  | .or es, ex => (match ex with | .BoolOp .Or xs _ => chkEs ck es xs && xs.all okT && !es.isEmpty | _ => false)
  | .ife c a b, ex => (match ex with | .IfExp xc xa xb _ => okT xc && chkE ck c xc && chkE ck a xa && chkE ck b xb | _ => false)
  | .idx a i, ex => (match ex with | .Subscript xa xi _ => plainE xi && chkE ck a xa && chkE ck i xi | _ => false)
  | .slc a lo hi, ex => (match ex with | .Subscript xa (.Slice l h none _) _ => chkE ck a xa && (match l with | none => (match lo with | .lit .none => true | _ => false) | some xl => chkE ck lo xl) && (match h with | none => (match hi with | .lit .none => true | _ => false) | some xh => chkE ck hi xh) | _ => false)
  | .step a s, ex => false
  | .call f es, ex => (match asCall ex, ck.fn f with | some (x, xs), some y => decide (x = y) && isGl ck x && nameOk x && xs.all plainE && chkEs ck es xs | _, _ => false)
  | .prim p es, ex => (match primArgs ck p ex with | some xs => xs.all plainE && chkEs ck es xs | none => false)
  | .meth m a es, ex => (match asMeth ex with
    | some (o, nm, [x]) => (match m with
      | .index => decide (nm = "index") && plainE x && chkEs ck es [x] && !isName0 o && (match a with
        | .lst _ => chkE ck a o
        | .gl n d => (match d with
          | .tuple ds => (strsD ds).isSome && glIs ck n d o
          | _ => false)
        | _ => false)
      | _ => false)
    | _ => false)
  | .lc elt t k src cond own, ex => (match ex with
    | .ListComp xe [⟨tg, iter, ifs, 0⟩] scope _ => (match itArgs ck tg k iter with
      | some xs => xs.all plainE && chkEs ck src xs && plainE iter && blkC ck.N ck.sc scope (ownN ck own) && ((tgSlots t).all fun i => own.contains i) && chkTg (ck.blk scope) t tg && chkEs (ck.blk scope) cond ifs && decide (ifs.length ≤ 1) && ifs.all okT && chkE (ck.blk scope) elt xe
      | none => false)
    | _ => false)
  | .dc key val t k src cond own, ex => (match ex with
    | .DictComp xk xv [⟨tg, iter, ifs, 0⟩] scope _ => (match itArgs ck tg k iter with
      | some xs => xs.all plainE && chkEs ck src xs && plainE iter && blkC ck.N ck.sc scope (ownN ck own) && ((tgSlots t).all fun i => own.contains i) && chkTg (ck.blk scope) t tg && chkEs (ck.blk scope) cond ifs && decide (ifs.length ≤ 1) && ifs.all okT && chkE (ck.blk scope) key xk && chkE (ck.blk scope) val xv
      | none => false)
    | _ => false)
  | .lc2 elt t1 src1 t2 src2 cond own, ex => (match ex with
    | .ListComp xe [⟨tg, iter, [], 0⟩, ⟨tg1, iter1, ifs1, 0⟩] scope _ => plainE iter && chkE ck src1 iter && plainE iter1 && chkE (ck.blk scope) src2 iter1 && blkC ck.N ck.sc scope (ownN ck own) && own.contains t1 && own.contains t2 && chkTg (ck.blk scope) (.n t1) tg && chkTg (ck.blk scope) (.n t2) tg1 && chkEs (ck.blk scope) cond ifs1 && decide (ifs1.length ≤ 1) && ifs1.all okT && chkE (ck.blk scope) elt xe
    | _ => false)
  | .fstr es, ex => false
def chkEs (ck : Ck) : List E → List Expr → Bool
  | [], xs => xs.isEmpty
  | e :: es, xs => (match xs with | x :: xs => chkE ck e x && chkEs ck es xs | [] => false)
end
/-- the context keeps what the checker asks -/
structure SX (cl : Nat → List D → Res RV) (ck : Ck) (X : Cx) : Prop where
  N : X.N = ck.N
  sc : X.env.scope = ck.sc
  nd : X.N.Nodup
  calm : X.calm = true
  hu : X.A.units + 66 < cLine
  gl : ∀ n x d, ck.gl n = some (x, d) → ∃ v u, X.mg x = some u ∧ RelV v u ∧ (∀ G, Rep X.prog X.w X.K G v d) ∧ ∀ ds, d = .tuple ds → ∀ H, tyV X.K "tuple" v H
  fn : ∀ f x, ck.fn f = some x → FnAt X cl f x
  blt : ∀ x ∈ bltNames, X.mg x = none
  asg : ∀ x, ck.asg x = true → Loc X.env.scope x ∧ (X.fn x = true ∨ X.env.scope.names.lookup x = some .local)
variable {cl : Nat → List D → Res RV} {ck : Ck} {X : Cx}
theorem SX.blk (h : SX cl ck X) (scope : Scope) (s : Shared) (H : Hp) (C : Addr) (cll : List (Str × Addr)) (fp : List Addr) : SX cl (ck.blk scope) (X.blk s H scope (compEnvC scope cll C X.env) fp) where
  N := h.N
  sc := by show relS scope X.env.scope = relS scope ck.sc; rw [h.sc]
  nd := h.nd
  calm := h.calm
  hu := h.hu
  gl := h.gl
  fn := h.fn
  blt := h.blt
  asg := fun x hx => by
    have e : (compEnvC scope cll C X.env).scope = relS scope X.env.scope := rfl
    unfold Ck.blk at hx
    simp only at hx
    show Loc (relS scope X.env.scope) x ∧ ((scope.names.lookup x == some .cell) = true ∨ (relS scope X.env.scope).names.lookup x = some .local)
    rw [h.sc]
    split at hx
    · rename_i q; exact ⟨.inl q, .inr q⟩
    · rename_i q
      split at hx
      · rename_i q2; exact ⟨.inr q, .inl (by rw [q2]; rfl)⟩
      · cases hx
    · cases hx
theorem SX.isGl (h : SX cl ck X) {x : Str} (g : isGl ck x = true) : Gl X x := by
  unfold OH.isGl at g
  split at g
  · rename_i q; show X.env.scope.names.lookup x = _; rw [h.sc]; exact q
  · cases g
theorem SX.isVis (h : SX cl ck X) {x : Str} (g : isVis ck x = true) : Vis X.env.scope x := by
  unfold OH.isVis at g
  rw [h.sc]
  split at g
  · rename_i q; exact .inl q
  · rename_i q; exact .inr (.inl q)
  · rename_i q; exact .inr (.inr q)
  · cases g
theorem nameOk_ {x : Str} (h : nameOk x = true) : (x == ("__debug__" : Str)) = false ∧ (x == ("__classdict__" : Str)) = false := by
  unfold nameOk at h
  simpa using h
theorem bin_op (o : BOp) : OpR X (binaryOp (binOp o)) (rOp X (binD o)) := by
  cases o with
  | add => exact op_binAdd
  | sub => exact op_binSub
  | mul => exact op_binMulF
  | fdiv => exact op_binDiv
  | mod => exact op_binMod
  | pow => exact op_binPow
theorem cmp_op (hu : X.A.units + 66 < cLine) (o : COp) : OpR X (compareOp (cmpOp o)) (rCmp X (cmpD o)) := by
  cases o with
  | eq => exact op_cmpEq (by omega)
  | ne => exact op_cmpNe (by omega)
  | lt => exact op_cmpOrd (by omega) .lt
  | le => exact op_cmpOrd (by omega) .le
  | gt => exact op_cmpOrd (by omega) .gt
  | ge => exact op_cmpOrd (by omega) .ge
  | isN => exact op_cmpIsN
  | notN => exact op_cmpNotN
  | inn => exact op_cmpIn hu
  | nin => exact op_cmpNin hu
  | isB => exact op_cmpIsB
  | notB => exact op_cmpNotB
theorem tgNames_ok (S : SX cl ck X) : ∀ {is : List Nat} {xs : List Expr}, tgNames ck is xs = true → TgNames X is xs
  | [], [], _ => .nil
  | [], _ :: _, h => by simp [tgNames] at h
  | i :: is, xs, h => by
    match xs, h with
    | .Name x p :: xs, h =>
      simp only [tgNames, Bool.and_eq_true, decide_eq_true_eq] at h
      obtain ⟨a, b⟩ := S.asg x h.1.2
      exact .cons (by rw [S.N]; exact h.1.1) a b (tgNames_ok S h.2)
    | [], h => simp [tgNames] at h
theorem chkTg_ok (S : SX cl ck X) {t : Tgt} {tg : Expr} (h : chkTg ck t tg = true) : PG X tg (tG X t) := by
  unfold chkTg at h
  split at h
  · simp only [Bool.and_eq_true, decide_eq_true_eq] at h
    obtain ⟨a, b⟩ := S.asg _ h.2
    exact pg_n S.nd (by rw [S.N]; exact h.1) a b
  · exact pg_t S.calm S.nd (tgNames_ok S h)
  · cases h
theorem itArgs_ok (S : SX cl ck X) {tg iter : Expr} {k : ItK} {es : List E} {xs : List Expr} (h : itArgs ck tg k iter = some xs) (hp : xs.all plainE = true) (hs : Snds X cl es xs) : PI X tg iter (tI X cl k es) := by
  cases k with
  | seq =>
    cases h
    cases hs with
    | cons h r => cases r; exact pi_seq h
  | range =>
    simp only [itArgs] at h
    split at h
    · rename_i x ys e
      split at h
      · rename_i c
        cases h
        simp only [Bool.and_eq_true, decide_eq_true_eq] at c
        obtain ⟨p, pos, rfl⟩ := asCall_eq e
        obtain ⟨rfl, c2⟩ := c
        exact pi_range (S.isGl c2) (S.blt _ (by simp [bltNames])) hs hp
      · cases h
    · cases h
  | zip =>
    simp only [itArgs] at h
    split at h
    · rename_i x a b e
      split at h
      · rename_i c
        cases h
        simp only [Bool.and_eq_true, decide_eq_true_eq] at c
        obtain ⟨p, pos, rfl⟩ := asCall_eq e
        obtain ⟨⟨rfl, c2⟩, c3⟩ := c
        simp only [List.all_cons, List.all_nil, Bool.and_true, Bool.and_eq_true] at hp
        cases hs with
        | cons h1 r => cases r with
          | cons h2 r2 => cases r2; exact pi_zip c3 (S.isGl c2) (S.blt _ (by simp [bltNames])) h1 h2 hp.1 hp.2
      · cases h
    · cases h
  | enum =>
    simp only [itArgs] at h
    split at h
    · rename_i x a e
      split at h
      · rename_i c
        cases h
        simp only [Bool.and_eq_true, decide_eq_true_eq] at c
        obtain ⟨p, pos, rfl⟩ := asCall_eq e
        obtain ⟨⟨rfl, c2⟩, c3⟩ := c
        simp only [List.all_cons, List.all_nil, Bool.and_true] at hp
        cases hs with
        | cons h1 r => cases r; exact pi_enum c3 (S.isGl c2) (S.blt _ (by simp [bltNames])) h1 hp
      · cases h
    · cases h
  | items =>
    simp only [itArgs] at h
    split at h
    · split at h
      · rename_i c
        cases h
        simp only [Bool.and_eq_true, decide_eq_true_eq, Bool.not_eq_true'] at c
        obtain ⟨⟨⟨rfl, c2⟩, c3⟩, c4⟩ := c
        cases hs with
        | cons h1 r => cases r; exact pi_items c4 h1 c2 c3
      · cases h
    · cases h
theorem prim_ok (S : SX cl ck X) {p : Prim} {ex : Expr} {es : List E} {xs : List Expr} (h : primArgs ck p ex = some xs) (hp : xs.all plainE = true) (hs : Snds X cl es xs) : PE X ex (tE X cl (.prim p es)) := by
  unfold primArgs at h
  split at h
  · cases h
  rename_i x ys e
  obtain ⟨q, pos, rfl⟩ := asCall_eq e
  have hc := S.calm
  have hu := S.hu
  have B : ∀ {o : Prim} {id : String} {y : Str}, CallR X (.builtin id) (rPrim X o) → y ∈ bltNames → bootBuiltins y = some (.builtin id) → y ≠ "__name__" → (y == ("__debug__" : Str)) = false → (if (decide (x = y) && isGl ck x && !ys.isEmpty) = true then some ys else none) = some xs →
      PE X (.Call (.Name x q) ys [] pos) (tE X cl (.prim o es)) := fun {o id y} h1 h2 h3 h4 h5 h6 => by
    split at h6
    · rename_i c
      cases h6
      simp only [Bool.and_eq_true, decide_eq_true_eq, Bool.not_eq_true'] at c
      obtain ⟨⟨rfl, c2⟩, c3⟩ := c
      exact snd_primB h1 (S.isGl c2) (S.blt _ h2) h3 h4 h5 hs hp (by rintro rfl; cases hs; cases c3)
    · cases h6
  have T : ∀ {o : Prim} {id : String} {y : Str}, CallR X (.type id) (rPrim X o) → y ∈ bltNames → bootBuiltins y = some (.type id) → y ≠ "__name__" → (y == ("__debug__" : Str)) = false → (if (decide (x = y) && isGl ck x && !ys.isEmpty) = true then some ys else none) = some xs →
      PE X (.Call (.Name x q) ys [] pos) (tE X cl (.prim o es)) := fun {o id y} h1 h2 h3 h4 h5 h6 => by
    split at h6
    · rename_i c
      cases h6
      simp only [Bool.and_eq_true, decide_eq_true_eq, Bool.not_eq_true'] at c
      obtain ⟨⟨rfl, c2⟩, c3⟩ := c
      exact snd_primT h1 (S.isGl c2) (S.blt _ h2) h3 h4 h5 hs hp (by rintro rfl; cases hs; cases c3)
    · cases h6
  cases p with
  | len => exact B primLen (by simp [bltNames]) (by decide +kernel) (by decide +kernel) (by decide +kernel) h
  | sum => exact B (primSum hc) (by simp [bltNames]) (by decide +kernel) (by decide +kernel) (by decide +kernel) h
  | sorted => exact B (primSorted hu) (by simp [bltNames]) (by decide +kernel) (by decide +kernel) (by decide +kernel) h
  | tuple => exact T primTuple (by simp [bltNames]) (by decide +kernel) (by decide +kernel) (by decide +kernel) h
  | list => exact T (primList hc) (by simp [bltNames]) (by decide +kernel) (by decide +kernel) (by decide +kernel) h
  | all => exact B (primAll hc) (by simp [bltNames]) (by decide +kernel) (by decide +kernel) (by decide +kernel) h
  | any => exact B (primAny hc) (by simp [bltNames]) (by decide +kernel) (by decide +kernel) (by decide +kernel) h
  | abs => exact B primAbs (by simp [bltNames]) (by decide +kernel) (by decide +kernel) (by decide +kernel) h
  | int => exact T primInt (by simp [bltNames]) (by decide +kernel) (by decide +kernel) (by decide +kernel) h
  | str => exact T primStr (by simp [bltNames]) (by decide +kernel) (by decide +kernel) (by decide +kernel) h
  | isTy t =>
    simp only at h
    split at h
    · rename_i a b
      split at h
      · rename_i c
        cases h
        simp only [Bool.and_eq_true, decide_eq_true_eq] at c
        obtain ⟨⟨⟨rfl, c2⟩, c3⟩, c4⟩ := c
        obtain ⟨p2, rfl⟩ := asName_eq c4
        simp only [List.all_cons, List.all_nil, Bool.and_true] at hp
        have : tyStr t ∈ bltNames := by cases t <;> simp [bltNames, tyStr]
        cases hs with
        | cons h1 r => cases r; exact snd_isTy (S.isGl c2) (S.blt _ (by simp [bltNames])) (S.isGl c3) (S.blt _ this) h1 hp
      · cases h
    · cases h
  | listRange =>
    simp only at h
    split at h
    · split at h
      · rename_i y a e2
        split at h
        · rename_i c
          cases h
          simp only [Bool.and_eq_true, decide_eq_true_eq] at c
          obtain ⟨⟨⟨rfl, c2⟩, rfl⟩, c4⟩ := c
          obtain ⟨p2, pos2, rfl⟩ := asCall_eq e2
          simp only [List.all_cons, List.all_nil, Bool.and_true] at hp
          cases hs with
          | cons h1 r => cases r; exact snd_listRange hc (S.isGl c2) (S.blt _ (by simp [bltNames])) (S.isGl c4) (S.blt _ (by simp [bltNames])) h1 hp
        · cases h
      · cases h
    · cases h
  | tupleRange =>
    simp only at h
    split at h
    · split at h
      · rename_i y a e2
        split at h
        · rename_i c
          cases h
          simp only [Bool.and_eq_true, decide_eq_true_eq] at c
          obtain ⟨⟨⟨rfl, c2⟩, rfl⟩, c4⟩ := c
          obtain ⟨p2, pos2, rfl⟩ := asCall_eq e2
          simp only [List.all_cons, List.all_nil, Bool.and_true] at hp
          cases hs with
          | cons h1 r => cases r; exact snd_tupleRange hc (S.isGl c2) (S.blt _ (by simp [bltNames])) (S.isGl c4) (S.blt _ (by simp [bltNames])) h1 hp
        · cases h
      · cases h
    · cases h
  | lenSet =>
    simp only at h
    split at h
    · split at h
      · rename_i y a e2
        split at h
        · rename_i c
          cases h
          simp only [Bool.and_eq_true, decide_eq_true_eq] at c
          obtain ⟨⟨⟨rfl, c2⟩, rfl⟩, c4⟩ := c
          obtain ⟨p2, pos2, rfl⟩ := asCall_eq e2
          simp only [List.all_cons, List.all_nil, Bool.and_true] at hp
          cases hs with
          | cons h1 r => cases r; exact snd_lenSet hc (S.isGl c2) (S.blt _ (by simp [bltNames])) (S.isGl c4) (S.blt _ (by simp [bltNames])) h1 hp
        · cases h
      · cases h
    · cases h
  | _ => simp [primName] at h
end OH
namespace OH
open PySem L2 PySem.Spec PyProof.Rows
variable {cl : Nat → List D → Res RV}
theorem litStrs_eq : ∀ {es : List E} {xs : List Str}, litStrs es = some xs → es = xs.map fun x => .lit (.str x)
  | [], _, h => by cases h; rfl
  | e :: r, xs, h => by
    simp only [litStrs] at h
    split at h
    · rename_i x ys h1 h2
      cases h
      have e1 : e = .lit (.str x) := by
        unfold litStr at h1
        split at h1
        · cases h1; rfl
        · cases h1
      rw [e1, litStrs_eq h2, List.map_cons]
    · cases h
theorem conStr_eq {ex : Expr} {x : Str} (h : conStr ex = some x) : ∃ j pos, ex = .Constant (.str x) j pos := by
  unfold conStr at h
  split at h
  · cases h; exact ⟨_, _, rfl⟩
  · cases h
theorem pps_texts {X : Cx} {pos : Pos} : ∀ {keys : List (Option Expr)} {values : List Expr} {a b : List Str}, keyStrs keys = some a → conStrs values = some b → a.length = b.length → PPs X pos keys values (txT (a.zip b)) ∧ keys.all (·.isSome) = true ∧ keys.length = a.length ∧ values.length = b.length
  | [], values, a, b, h1, h2, hl => by
    cases h1
    cases b with
    | cons => simp at hl
    | nil =>
      cases values with
      | nil => exact ⟨pps_nil, rfl, rfl, rfl⟩
      | cons v r =>
        simp only [conStrs] at h2
        split at h2 <;> cases h2
  | none :: r, _, _, _, h1, _, _ => by cases h1
  | some ke :: r, values, a, b, h1, h2, hl => by
    simp only [keyStrs] at h1
    split at h1
    · rename_i x xs q1 q2
      cases h1
      cases values with
      | nil => cases h2; simp at hl
      | cons v vr =>
        simp only [conStrs] at h2
        split at h2
        · rename_i y ys q3 q4
          cases h2
          obtain ⟨j, p1, rfl⟩ := conStr_eq q1
          obtain ⟨j2, p2, rfl⟩ := conStr_eq q3
          obtain ⟨i1, i2, i3, i4⟩ := pps_texts (X := X) (pos := pos) q2 q4 (by simpa using hl)
          exact ⟨pps_cons pe_str pe_str i1, by simpa using i2, by simp [i3], by simp [i4]⟩
        · cases h2
    · cases h1
theorem dctS_ok {X : Cx} {ks vs : List E} {ex : Expr} (h : dctS ks vs ex = true) : PE X ex (tE X cl (.dct ks vs)) ∧ ∃ a b c, ex = .Dict a b c := by
  unfold dctS at h
  split at h
  · rename_i a b keys values pos h1 h2
    simp only [Bool.and_eq_true, decide_eq_true_eq, Bool.not_eq_true'] at h
    obtain ⟨⟨⟨⟨⟨g1, g2⟩, g3⟩, g4⟩, g5⟩, g6⟩ := h
    obtain ⟨i1, i2, i3, i4⟩ := pps_texts (X := X) (pos := pos) g1 g2 g3
    have e1 : (a.zip b).map (·.1) = a := List.map_fst_zip (by omega)
    have e2 : (a.zip b).map (·.2) = b := List.map_snd_zip (by omega)
    have e3 : (a.zip b).length = a.length := by rw [List.length_zip]; omega
    refine ⟨?_, _, _, _, rfl⟩
    rw [litStrs_eq h1, litStrs_eq h2]
    have key := snd_dctS (cl := cl) i1 i2 (by omega) (by omega) (by intro e; rw [e] at e3; simp at e3; rw [List.isEmpty_eq_false_iff] at g4; exact g4 (List.length_eq_zero_iff.mp e3.symm)) (by omega) (by rw [e1]; exact g6)
    rw [e1, e2] at key
    exact key
  · cases h
theorem part_ok {ck : Ck} {X : Cx} {e : E} {o : Option Expr} (h : ∀ ex, o = some ex → Snd X cl e ex) (hn : o = none → e = .lit .none) : PartOk X cl e o := by
  cases o with
  | none => rw [hn rfl]; exact part_none
  | some ex => exact part_some (h ex rfl)
theorem conds_ok {X : Cx} {cond : List E} {ifs : List Expr} (h : Snds X cl cond ifs) (hl : ifs.length ≤ 1) (ht : ifs.all okT = true) : PTs X ifs (tC1 X cl cond) := by
  cases h with
  | nil => exact cond_none
  | cons h r =>
    cases r with
    | nil => exact cond_one h (by simpa using ht)
    | cons _ _ => simp at hl
set_option maxHeartbeats 8000000 in
mutual
theorem soundE : ∀ (e : E) (ck : Ck) (X : Cx) (ex : Expr), SX cl ck X → chkE ck e ex = true → Snd X cl e ex
  | .lit d, ck, X, ex, S, h => by
    simp only [chkE] at h
    split at h
    · rename_i c j pos
      refine .ofE ?_ rfl
      unfold constIs at h
      split at h
      · exact snd_const pe_non fun _ => .non
      · rename_i a b; rw [beq_iff_eq] at h; subst h; exact snd_const pe_bl fun _ => .bl _
      · rename_i a b; rw [beq_iff_eq] at h; subst h; exact snd_const pe_int fun _ => .int _
      · rename_i a b; rw [decide_eq_true_eq] at h; subst h; exact snd_const pe_str fun _ => .str _
      · cases h
    · cases h
  | .gl n d, ck, X, ex, S, h => by
    simp only [chkE] at h
    split at h
    · rename_i x y d' e1 e2
      simp only [Bool.and_eq_true, decide_eq_true_eq] at h
      obtain ⟨⟨⟨rfl, h2⟩, h3⟩, h4⟩ := h
      obtain rfl := beqD_eq _ _ h2
      obtain ⟨p, rfl⟩ := asName_eq e1
      obtain ⟨v, u, q1, q2, q3, _⟩ := S.gl _ _ _ e2
      exact .ofE (snd_gl (pe_glob (S.isGl h3) q1 q2 (nameOk_ h4).1) q3) rfl
    · cases h
  | .var i, ck, X, ex, S, h => by
    simp only [chkE] at h
    split at h
    · rename_i x e1
      simp only [Bool.and_eq_true, decide_eq_true_eq] at h
      obtain ⟨⟨h1, h2⟩, h3⟩ := h
      obtain ⟨p, rfl⟩ := asName_eq e1
      exact .ofE (snd_var (by rw [S.N]; exact h1) (S.isVis h2) (nameOk_ h3).1 (nameOk_ h3).2) rfl
    · cases h
  | .tup es, ck, X, ex, S, h => by
    simp only [chkE] at h
    split at h
    · simp only [Bool.and_eq_true, decide_eq_true_eq] at h
      exact .ofE (snd_tup (soundEs es ck X _ S h.1.1) h.1.2 h.2) rfl
    · cases h
  | .lst es, ck, X, ex, S, h => by
    simp only [chkE] at h
    split at h
    · simp only [Bool.and_eq_true, decide_eq_true_eq] at h
      exact .ofE (snd_lst (soundEs es ck X _ S h.1.1) h.1.2 h.2) rfl
    · cases h
  | .dct ks vs, ck, X, ex, S, h => by
    simp only [chkE, Bool.or_eq_true, Bool.and_eq_true] at h
    rcases h with h | h
    · obtain ⟨⟨h1, h2⟩, h3⟩ := h
      rw [List.isEmpty_iff] at h1 h2
      subst h1 h2
      split at h3
      · exact .ofE snd_dct0 rfl
      · cases h3
    · obtain ⟨k, a, b, c, rfl⟩ := dctS_ok (X := X) (cl := cl) h
      exact .ofE k rfl
  | .neg a, ck, X, ex, S, h => by
    simp only [chkE] at h
    split at h
    · exact snd_neg (soundE a ck X _ S h)
    · cases h
  | .not a, ck, X, ex, S, h => by
    simp only [chkE] at h
    split at h
    · rw [Bool.and_eq_true] at h
      exact snd_not (soundE a ck X _ S h.1) h.2
    · cases h
  | .bin o a b, ck, X, ex, S, h => by
    simp only [chkE] at h
    split at h
    · simp only [Bool.and_eq_true, decide_eq_true_eq] at h
      obtain ⟨⟨rfl, h2⟩, h3⟩ := h
      exact .ofE (snd_bin (bin_op o) (soundE a ck X _ S h2) (soundE b ck X _ S h3)) rfl
    · cases h
  | .cmp o a b, ck, X, ex, S, h => by
    simp only [chkE] at h
    split at h
    · simp only [Bool.and_eq_true, decide_eq_true_eq] at h
      obtain ⟨⟨⟨rfl, h1⟩, h2⟩, h3⟩ := h
      exact snd_cmp (cmp_op S.hu o) (soundE a ck X _ S h2) (soundE b ck X _ S h3) h1
    · cases h
  | .chain o1 o2 a b c, ck, X, ex, S, h => by
    simp only [chkE] at h
    split at h
    · simp only [Bool.and_eq_true, decide_eq_true_eq] at h
      obtain ⟨⟨⟨⟨⟨rfl, rfl⟩, h1⟩, h2⟩, h3⟩, h4⟩ := h
      exact snd_chain (cmp_op S.hu o1) (cmp_op S.hu o2) (soundE a ck X _ S h2) (soundE b ck X _ S h3) (soundE c ck X _ S h4) h1
    · cases h
  | .and es, ck, X, ex, S, h => by
    simp only [chkE] at h
    split at h
    · simp only [Bool.and_eq_true, Bool.not_eq_true'] at h
      exact snd_and (soundEs es ck X _ S h.1.1) h.1.2 (by rintro rfl; simp at h)
    · cases h
  | .or es, ck, X, ex, S, h => by
    simp only [chkE] at h
    split at h
    · simp only [Bool.and_eq_true, Bool.not_eq_true'] at h
      exact snd_or (soundEs es ck X _ S h.1.1) h.1.2 (by rintro rfl; simp at h)
    · cases h
  | .ife c a b, ck, X, ex, S, h => by
    simp only [chkE] at h
    split at h
    · simp only [Bool.and_eq_true] at h
      obtain ⟨⟨⟨h1, h2⟩, h3⟩, h4⟩ := h
      exact snd_ife (soundE c ck X _ S h2) h1 (soundE a ck X _ S h3) (soundE b ck X _ S h4)
    · cases h
  | .idx a i, ck, X, ex, S, h => by
    simp only [chkE] at h
    split at h
    · simp only [Bool.and_eq_true] at h
      exact .ofE (snd_idx S.hu (soundE a ck X _ S h.1.2) (soundE i ck X _ S h.2) h.1.1) rfl
    · cases h
  | .slc a lo hi, ck, X, ex, S, h => by
    simp only [chkE] at h
    split at h
    · rename_i xa l hh p1 p2
      simp only [Bool.and_eq_true] at h
      obtain ⟨⟨h1, h2⟩, h3⟩ := h
      refine .ofE (snd_slc (soundE a ck X _ S h1) ?_ ?_) rfl
      · cases l with
        | none =>
          simp only at h2
          split at h2
          · exact part_none
          · cases h2
        | some xl => exact part_some (soundE lo ck X _ S h2)
      · cases hh with
        | none =>
          simp only at h3
          split at h3
          · exact part_none
          · cases h3
        | some xl => exact part_some (soundE hi ck X _ S h3)
    · cases h
  | .step a s, ck, X, ex, S, h => by simp [chkE] at h
  | .call f es, ck, X, ex, S, h => by
    simp only [chkE] at h
    split at h
    · rename_i x xs y e1 e2
      simp only [Bool.and_eq_true, decide_eq_true_eq] at h
      obtain ⟨⟨⟨⟨rfl, h2⟩, h3⟩, h4⟩, h5⟩ := h
      obtain ⟨p, pos, rfl⟩ := asCall_eq e1
      exact .ofE (snd_call (S.fn _ _ e2) (S.isGl h2) (nameOk_ h3).1 (soundEs es ck X _ S h5) h4) rfl
    · cases h
  | .prim p es, ck, X, ex, S, h => by
    simp only [chkE] at h
    split at h
    · rename_i xs e1
      simp only [Bool.and_eq_true] at h
      have hx : plainT ex = true ∧ noComp ex = true := by
        unfold primArgs at e1
        split at e1
        · cases e1
        · rename_i e
          obtain ⟨q, pos, rfl⟩ := asCall_eq e
          exact ⟨rfl, rfl⟩
      exact .ofE (prim_ok S e1 h.1 (soundEs es ck X _ S h.2)) hx.1 hx.2
    · cases h
  | .meth m a es, ck, X, ex, S, h => by
    simp only [chkE] at h
    split at h
    · rename_i o nm x e1
      obtain ⟨apos, cpos, rfl, hl⟩ := asMeth_eq e1
      split at h
      · simp only [Bool.and_eq_true, decide_eq_true_eq, Bool.not_eq_true'] at h
        obtain ⟨⟨⟨⟨rfl, h2⟩, h3⟩, h4⟩, h5⟩ := h
        have hs := soundEs es ck X _ S h3
        cases hs with
        | cons hb hr =>
          cases hr
          split at h5
          · rename_i l
            exact .ofE (snd_indexL S.hu (soundE (.lst l) ck X o S h5) hb h4 h2 hl) rfl
          · rename_i n d
            split at h5
            · rename_i ds
              rw [Bool.and_eq_true] at h5
              obtain ⟨ys, hy⟩ := Option.isSome_iff_exists.mp h5.1
              have h6 := h5.2
              unfold glIs at h6
              split at h6
              · rename_i y z d' q1 q2
                simp only [Bool.and_eq_true, decide_eq_true_eq] at h6
                obtain ⟨⟨⟨rfl, g2⟩, g3⟩, g4⟩ := h6
                obtain rfl := beqD_eq _ _ g2
                obtain ⟨p, rfl⟩ := asName_eq q1
                obtain ⟨v, u, r1, r2, r3, r4⟩ := S.gl _ _ _ q2
                exact .ofE (snd_indexT hy (pe_glob (S.isGl g3) r1 r2 (nameOk_ g4).1) r3 (r4 ds rfl) hb rfl h2 hl) rfl
              · cases h6
            · cases h5
          · cases h5
      · cases h
    · cases h
  | .lc elt t k src cond own, ck, X, ex, S, h => by
    simp only [chkE] at h
    split at h
    · rename_i xe tg iter ifs scope pos
      split at h
      · rename_i xs e1
        simp only [Bool.and_eq_true, decide_eq_true_eq] at h
        obtain ⟨⟨⟨⟨⟨⟨⟨⟨⟨h1, h2⟩, h3⟩, h4⟩, h5⟩, h6⟩, h7⟩, h8⟩, h9⟩, h10⟩ := h
        have eo : (ownN ck own).map (·.2) = own := by unfold ownN; rw [List.map_map]; exact List.map_id' own
        have key := snd_lc (X := X) (cl := cl) (e := elt) (t := t) (k := k) (src := src) (cond := cond) (elt := xe) (tg := tg) (iter := iter) (ifs := ifs) (scope := scope) (own := ownN ck own) (pos := pos) S.calm S.nd (itArgs_ok S e1 h1 (soundEs src ck X _ S h2)) (blkOk_by (by rw [S.N, S.sc]; exact h4)) h3
          (by rw [eo]; intro i hi; have := List.all_eq_true.mp h5 i hi; simpa using this)
          (fun s H C cll fp => chkTg_ok (S.blk scope s H C cll fp) h6)
          (fun s H C cll fp => conds_ok (soundEs cond (ck.blk scope) _ _ (S.blk scope s H C cll fp) h7) h8 h9)
          (fun s H C cll fp => (soundE elt (ck.blk scope) _ _ (S.blk scope s H C cll fp) h10).pe)
        have ka := fun (i : Nat) (y : Str) (py spos : Pos) (h1' : X.N[i]? = some y) (h2' : X.env.scope.names.lookup y = some .local) (h3' : swapsWith (.ListComp xe [⟨tg, iter, ifs, 0⟩] scope pos) (some (.Name y py)) spos.line X.env = pure true) =>
          ps_setLcS (X := X) (cl := cl) (e := elt) (t := t) (k := k) (src := src) (cond := cond) (elt := xe) (tg := tg) (iter := iter) (ifs := ifs) (scope := scope) (own := ownN ck own) (pos := pos) h1' h2' h3' S.calm S.nd (itArgs_ok S e1 h1 (soundEs src ck X _ S h2)) (blkOk_by (by rw [S.N, S.sc]; exact h4)) h3
          (by rw [eo]; intro i hi; have := List.all_eq_true.mp h5 i hi; simpa using this)
          (fun s H C cll fp => chkTg_ok (S.blk scope s H C cll fp) h6)
          (fun s H C cll fp => conds_ok (soundEs cond (ck.blk scope) _ _ (S.blk scope s H C cll fp) h7) h8 h9)
          (fun s H C cll fp => (soundE elt (ck.blk scope) _ _ (S.blk scope s H C cll fp) h10).pe)
        rw [eo] at key ka
        exact ⟨key, (Snd.pt_of key rfl), fun _ => ka⟩
      · cases h
    · cases h
  | .dc key val t k src cond own, ck, X, ex, S, h => by
    simp only [chkE] at h
    split at h
    · rename_i xk xv tg iter ifs scope pos
      split at h
      · rename_i xs e1
        simp only [Bool.and_eq_true, decide_eq_true_eq] at h
        obtain ⟨⟨⟨⟨⟨⟨⟨⟨⟨⟨h1, h2⟩, h3⟩, h4⟩, h5⟩, h6⟩, h7⟩, h8⟩, h9⟩, h10⟩, h11⟩ := h
        have eo : (ownN ck own).map (·.2) = own := by unfold ownN; rw [List.map_map]; exact List.map_id' own
        have hin : ∀ i ∈ tgSlots t, i ∈ (ownN ck own).map (·.2) := by rw [eo]; intro i hi; have := List.all_eq_true.mp h5 i hi; simpa using this
        have pi := itArgs_ok S e1 h1 (soundEs src ck X _ S h2)
        have bo : BlkOk X.N X.env.scope scope (ownN ck own) := blkOk_by (by rw [S.N, S.sc]; exact h4)
        have pg := fun (s : Shared) (H : Hp) (C : Addr) (cll : List (Str × Addr)) (fp : List Addr) => chkTg_ok (S.blk scope s H C cll fp) h6
        have pt := fun (s : Shared) (H : Hp) (C : Addr) (cll : List (Str × Addr)) (fp : List Addr) => conds_ok (soundEs cond (ck.blk scope) _ _ (S.blk scope s H C cll fp) h7) h8 h9
        have pk := fun (s : Shared) (H : Hp) (C : Addr) (cll : List (Str × Addr)) (fp : List Addr) => (soundE key (ck.blk scope) _ _ (S.blk scope s H C cll fp) h10).pe
        have pv := fun (s : Shared) (H : Hp) (C : Addr) (cll : List (Str × Addr)) (fp : List Addr) => (soundE val (ck.blk scope) _ _ (S.blk scope s H C cll fp) h11).pe
        have key1 : PE X (.DictComp xk xv [⟨tg, iter, ifs, 0⟩] scope pos) (tE X cl (.dc key val t k src cond ((ownN ck own).map (·.2)))) := PE_imp (pe_dcT S.hu S.calm S.nd pi bo pg pt pk pv (foldedSet h3 X.env)) fun τ H Q q => dc_read hin q
        have ka : ∀ (i : Nat) (y : Str) (py spos : Pos), X.N[i]? = some y → X.env.scope.names.lookup y = some .local → swapsWith (.DictComp xk xv [⟨tg, iter, ifs, 0⟩] scope pos) (some (.Name y py)) spos.line X.env = pure true →
            PS X (.Assign [.Name y py] (.DictComp xk xv [⟨tg, iter, ifs, 0⟩] scope pos) spos) (tAsg (tE X cl (.dc key val t k src cond ((ownN ck own).map (·.2)))) (gName i)) := fun i y py spos h1' h2' h3' =>
          ⟨fun pins s σ H D I q => (ps_setDcT S.hu S.calm S.nd h1' h2' h3' pi bo pg pt pk pv (foldedSet h3 X.env)).run pins s σ H D I (dc_read hin q)⟩
        rw [eo] at key1 ka
        exact ⟨key1, Snd.pt_of key1 rfl, fun _ => ka⟩
      · cases h
    · cases h
  | .lc2 elt t1 src1 t2 src2 cond own, ck, X, ex, S, h => by
    simp only [chkE] at h
    split at h
    · rename_i xe tg iter tg1 iter1 ifs1 scope pos
      simp only [Bool.and_eq_true, decide_eq_true_eq] at h
      obtain ⟨⟨⟨⟨⟨⟨⟨⟨⟨⟨⟨⟨h1, h2⟩, h3⟩, h4⟩, h5⟩, h6⟩, h7⟩, h8⟩, h9⟩, h10⟩, h11⟩, h12⟩, h13⟩ := h
      have eo : (ownN ck own).map (·.2) = own := by unfold ownN; rw [List.map_map]; exact List.map_id' own
      have bo : BlkOk X.N X.env.scope scope (ownN ck own) := blkOk_by (by rw [S.N, S.sc]; exact h5)
      have w1 : t1 ∈ own := by simpa using h6
      have w2 : ∀ i ∈ [t2], i ∈ (ownN ck own).map (·.2) := by rw [eo]; intro i hi; have : i = t2 := by simpa using hi
                                                              subst this; simpa using h7
      have pi := pi_seq (tg := tg) (soundE src1 ck X _ S h2)
      have pj := fun (s : Shared) (H : Hp) (C : Addr) (cll : List (Str × Addr)) (fp : List Addr) => (PI_imp (pi_seq (tg := tg1) (soundE src2 (ck.blk scope) _ _ (S.blk scope s H C cll fp) h4)) fun τ H2 R q => by
        obtain ⟨G0, H0, G, σ, q, items, A, e1, e2, k⟩ := q
        exact ⟨G0, H0, G, σ, q, items, A, e1, e2, fun J G' H' Gp x a b c it => k J G' H' Gp x a b c ⟨it.walk, it.len⟩⟩ : PI (X.blk s H scope (compEnvC scope cll C X.env) fp) tg1 iter1 (tI X cl .seq [src2]))
      have pg := fun (s : Shared) (H : Hp) (C : Addr) (cll : List (Str × Addr)) (fp : List Addr) => chkTg_ok (S.blk scope s H C cll fp) h8
      have ph := fun (s : Shared) (H : Hp) (C : Addr) (cll : List (Str × Addr)) (fp : List Addr) => chkTg_ok (S.blk scope s H C cll fp) h9
      have pt := fun (s : Shared) (H : Hp) (C : Addr) (cll : List (Str × Addr)) (fp : List Addr) => conds_ok (soundEs cond (ck.blk scope) _ _ (S.blk scope s H C cll fp) h10) h11 h12
      have pe := fun (s : Shared) (H : Hp) (C : Addr) (cll : List (Str × Addr)) (fp : List Addr) => (soundE elt (ck.blk scope) _ _ (S.blk scope s H C cll fp) h13).pe
      have key : PE X (.ListComp xe [⟨tg, iter, [], 0⟩, ⟨tg1, iter1, ifs1, 0⟩] scope pos) (tE X cl (.lc2 elt t1 src1 t2 src2 cond own)) := PE_imp (pe_lc2 S.calm S.nd pi bo w2 pg (fun _ _ _ _ _ => cond_none (cl := cl)) pj ph pt pe (foldedSet h1 X.env) (fun env x => foldedSet h3 env x)) fun τ H Q q => by rw [eo]; exact lc2_read w1 q
      have ka : ∀ (i : Nat) (y : Str) (py spos : Pos), X.N[i]? = some y → X.env.scope.names.lookup y = some .local → swapsWith (.ListComp xe [⟨tg, iter, [], 0⟩, ⟨tg1, iter1, ifs1, 0⟩] scope pos) (some (.Name y py)) spos.line X.env = pure true →
          PS X (.Assign [.Name y py] (.ListComp xe [⟨tg, iter, [], 0⟩, ⟨tg1, iter1, ifs1, 0⟩] scope pos) spos) (tAsg (tE X cl (.lc2 elt t1 src1 t2 src2 cond own)) (gName i)) := fun i y py spos h1' h2' h3' =>
        ⟨fun pins s σ H D I q => (ps_setLc2 S.calm S.nd h1' h2' h3' pi bo w2 pg (fun _ _ _ _ _ => cond_none (cl := cl)) pj ph pt pe (foldedSet h1 X.env) (fun env x => foldedSet h3 env x)).run pins s σ H D I (by rw [eo]; exact lc2_read w1 q)⟩
      exact ⟨key, Snd.pt_of key rfl, fun _ => ka⟩
    · cases h
  | .fstr es, ck, X, ex, S, h => by simp [chkE] at h
theorem soundEs : ∀ (es : List E) (ck : Ck) (X : Cx) (xs : List Expr), SX cl ck X → chkEs ck es xs = true → Snds X cl es xs
  | [], ck, X, xs, S, h => by
    simp only [chkEs, List.isEmpty_iff] at h
    subst h; exact .nil
  | e :: es, ck, X, xs, S, h => by
    simp only [chkEs] at h
    split at h
    · rw [Bool.and_eq_true] at h
      exact .cons (soundE e ck X _ S h.1) (soundEs es ck X _ S h.2)
    · cases h
end
end OH
end

section
set_option autoImplicit false
set_option linter.all false
set_option Elab.async false
set_option maxRecDepth 100000
set_option maxHeartbeats 1000000
namespace OH
open PySem L2 PySem.Spec PyProof.Rows
variable {X : Cx} {cl : Nat → List D → Res RV}
/-- what is wanted of an outcome -/
def OutK (X : Cx) (D : Ends) (G0 H0 G : Hp) : Out → Prop
  | .nx σ' => ∀ τ' G' H', AIx X G0 H0 G' H' σ' τ' → Sub G G' → D.nx τ' H'
  | .rt r => ∀ v G' H', Ext G0 H0 G' H' → RepR X.prog X.w X.K G' H' H0 r v → D.rt v H'
  | .bk σ' => ∀ τ' G' H', AIx X G0 H0 G' H' σ' τ' → Sub G G' → D.bk τ' H'
  | _ => False
def tS (X : Cx) (o : ASt → Out) : TS := fun D τ H => ∃ G0 H0 G σ, AIx X G0 H0 G H σ τ ∧ OutK X D G0 H0 G (o σ)
theorem OutK.sub {D : Ends} {G0 H0 G G' : Hp} (s : Sub G G') : ∀ {o : Out}, OutK X D G0 H0 G o → OutK X D G0 H0 G' o
  | .nx _, h => fun τ' G2 H2 A s2 => h τ' G2 H2 A (s.trans s2)
  | .rt _, h => h
  | .bk _, h => fun τ' G2 H2 A s2 => h τ' G2 H2 A (s.trans s2)
theorem PS_imp {st : Stmt} {t t' : TS} (h : PS X st t) (k : ∀ D τ H, t' D τ H → t D τ H) : PS X st t' := ⟨fun pins s σ H D I q => h.run pins s σ H D I (k _ _ _ q)⟩
theorem PSs_imp {st : List Stmt} {t t' : TS} (h : PSs X st t) (k : ∀ D τ H, t' D τ H → t D τ H) : PSs X st t' := ⟨fun pins s σ H D I q => h.run pins s σ H D I (k _ _ _ q)⟩
/-- a result goes on -/
theorem out_ok {α : Type} {D : Ends} {G0 H0 G : Hp} {r : Res α} {f : α → Out} (h : OutK X D G0 H0 G (r.out f)) : ∃ a, r = .ok a ∧ OutK X D G0 H0 G (f a) := by
  cases r with
  | ok a => exact ⟨a, rfl, h⟩
  | err e => exact False.elim h
  | bad => exact False.elim h
theorem pss_nilS : PSs X [] (tS X .nx) := PSs_imp pss_nil fun D τ H q => by
  obtain ⟨G0, H0, G, σ, A, k⟩ := q
  exact k τ G H A (Sub.refl _)
theorem seq_read {o p : ASt → Out} {D : Ends} {τ : L2.St} {H : Hp} (q : tS X (fun σ => (o σ).then p) D τ H) : tS X o { D with nx := tS X p D } τ H := by
  obtain ⟨G0, H0, G, σ, A, k⟩ := q
  refine ⟨G0, H0, G, σ, A, ?_⟩
  replace k : OutK X D G0 H0 G ((o σ).then p) := k
  cases e : o σ with
  | nx σ' =>
    rw [e] at k
    exact fun τ' G' H' A' s => ⟨G0, H0, G', σ', A', OutK.sub s k⟩
  | rt r => rw [e] at k; exact k
  | bk σ' => rw [e] at k; exact k
  | er r => rw [e] at k; exact k
  | bad => rw [e] at k; exact k
theorem pss_consS {st : Stmt} {rest : List Stmt} {o p : ASt → Out} (h1 : PS X st (tS X o)) (h2 : PSs X rest (tS X p)) : PSs X (st :: rest) (tS X fun σ => (o σ).then p) := PSs_imp (pss_cons h1 h2) fun D τ H q => seq_read q
theorem AI.frz {G0 H0 G H : Hp} {σ : ASt} {τ : L2.St} (A : AIx X G0 H0 G H σ τ) (i : Nat) : ∃ G', Sub G G' ∧ AIx X G0 H0 G' H (frzSlot σ i) τ := by
  unfold frzSlot
  split
  · rename_i r e
    have main : ∀ r, σ[i]? = some (some r) → (∀ x, r ≠ .d x) → ∃ G', Sub G G' ∧ AIx X G0 H0 G' H (σ.set i (some (.d r.val))) τ := fun r e hr => by
      obtain ⟨own, h1, h2, h3, h4⟩ := A.own'
      obtain ⟨v, e1, e2⟩ := h1 i r e
      have o : OwnAt X.prog X.w X.K G H r v (own i) := by
        rcases e2 with ⟨x, e, _⟩ | o
        · exact absurd e (hr x)
        · exact o
      obtain ⟨G2, x2, s2, rp, kn⟩ := o.freeze2 (h3 i) A.e fun a ha => ⟨(h4 i a ha).1, (h4 i a ha).2.1⟩
      refine ⟨G2, s2, x2, by rw [List.length_set, A.len], fun j => if j = i then [] else own j, fun j r' e => ?_, fun j k a hj hk => ?_, fun j => ?_, fun j a hj => ?_⟩
      · by_cases hj : i = j
        · subst hj
          have hb : i < σ.length := by
            have := (List.getElem?_eq_some_iff.mp e).1
            simpa using this
          rw [List.getElem?_set_self hb] at e
          cases e
          exact ⟨v, e1, .inl ⟨_, rfl, by simp, rp⟩⟩
        · rw [List.getElem?_set_ne hj] at e
          obtain ⟨v', e3, e4⟩ := h1 j r' e
          refine ⟨v', e3, ?_⟩
          show SlotR _ _ _ G2 H r' v' (if j = i then [] else own j)
          rw [if_neg (Ne.symm hj)]
          exact e4.keep s2 fun a _ o q => q
      · dsimp only at hj hk
        split at hj
        · simp at hj
        · split at hk
          · simp at hk
          · exact h2 j k a hj hk
      · dsimp only; split; exact List.nodup_nil; exact h3 j
      · dsimp only at hj
        split at hj
        · simp at hj
        · rename_i hji
          exact ⟨(h4 j a hj).1, kn a (fun z => hji (h2 j i a hj z)) (h4 j a hj).2.1⟩
    cases r with
    | d x => exact ⟨G, Sub.refl _, A⟩
    | b x => exact ⟨G, Sub.refl _, A⟩
    | fl x => exact main _ e fun _ z => by cases z
    | fd x => exact main _ e fun _ z => by cases z
    | fg x => exact main _ e fun _ z => by cases z
  · exact ⟨G, Sub.refl _, A⟩
end OH
namespace OH
open PySem L2 PySem.Spec PyProof.Rows
variable {X : Cx} {cl : Nat → List D → Res RV} {ck : Ck}
/-- the context of a def's body -/
structure SXS (cl : Nat → List D → Res RV) (ck : Ck) (X : Cx) : Prop where
  x : SX cl ck X
  own : PassesOwn (model X.prog X.w) X.A X.env X.xe
  bk : X.env.blockKind = .function
theorem set_read {i : Nat} {e : E} {D : Ends} {τ : L2.St} {H : Hp} (q : tS X (denS cl (.set (.n i) e)) D τ H) : tAsg (tE X cl e) (gName i) D τ H := by
  obtain ⟨G0, H0, G, σ, A, k⟩ := q
  simp only [denS] at k
  obtain ⟨r, e1, k⟩ := out_ok k
  obtain ⟨d, e2, k⟩ := out_ok k
  exact tE_frz A e1 e2 fun G1 H1 v x A1 rv => k _ G1 H1 (A1.set_d rv) x.g
theorem own_read {i : Nat} {e : E} {D : Ends} {τ : L2.St} {H : Hp} (q : tS X (denS cl (.own i e)) D τ H) : tAsg (tE X cl e) (gName i) D τ H := by
  obtain ⟨G0, H0, G, σ, A, k⟩ := q
  simp only [denS] at k
  obtain ⟨r, e1, k⟩ := out_ok k
  obtain ⟨d, e2, k2⟩ := out_ok k
  refine ⟨G0, H0, G, σ, r, A, e1, fun G1 H1 v x rr => ?_⟩
  cases rr with
  | d h => cases e2; exact k2 _ G1 H1 ((A.ext x).set_d h) x.g
  | b h => cases e2
  | own o nd n =>
    have : d = r := by cases o <;> (cases e2; rfl)
    subst this
    exact k2 _ G1 H1 (A.set_own x o nd n) x.g
/-- a name's slot, seen -/
structure NameAt (X : Cx) (i : Nat) (x : Str) : Prop where
  ix : X.N[i]? = some x
  loc : Loc X.env.scope x
  fn : X.fn x = true ∨ X.env.scope.names.lookup x = some .local
theorem ps_assign (S : SXS cl ck X) {i : Nat} {x : Str} {e : E} {ex : Expr} {p pos : Pos} (h : NameAt X i x) (he : Snd X cl e ex) (hc : noComp ex = true) : PS X (.Assign [.Name x p] ex pos) (tAsg (tE X cl e) (gName i)) :=
  ps_set S.x.nd h.ix h.loc he.pe (noSwap hc _ _ _) h.fn
theorem ps_setTup (S : SXS cl ck X) {t : Tgt} {tg : Expr} {e : E} {ex : Expr} {pos : Pos} (hg : PG X tg (tG X t)) (he : Snd X cl e ex) (hc : noComp ex = true) (hw : swappedStores [tg] ex X.env = pure none) (h1 : (assignEach [tg] X.env).map (·.2) = [assign tg X.env]) :
    PS X (.Assign [tg] ex pos) (tS X (denS cl (.set t e))) := PS_imp (ps_asg he.pe hg (noSwap hc _ _ _) hw h1) fun D τ H q => by
  obtain ⟨G0, H0, G, σ, A, k⟩ := q
  simp only [denS] at k
  obtain ⟨r, e1, k⟩ := out_ok k
  obtain ⟨d, e2, k⟩ := out_ok k
  obtain ⟨σ', e3, k⟩ := out_ok k
  exact tE_frz A e1 e2 fun G1 H1 v x A1 rv => ⟨G0, H0, G1, σ, σ', d, A1, rv, e3, fun τ' A2 _ => k τ' G1 H1 A2 x.g⟩
theorem ps_ret1 {e : E} {ex : Expr} {pos : Pos} (he : Snd X cl e ex) (hv : ∀ i, e ≠ .var i) : PS X (.Return (some ex) pos) (tS X (denS cl (.ret e))) := PS_imp (ps_ret he.pe) fun D τ H q => by
  obtain ⟨G0, H0, G, σ, A, k⟩ := q
  have e0 : denS cl (.ret e) σ = (denE cl e σ).out fun r => r.keep.out fun r => .rt r := by
    cases e <;> first | rfl | exact absurd rfl (hv _)
  rw [e0] at k
  obtain ⟨r, e1, k⟩ := out_ok k
  obtain ⟨r', e2, k2⟩ := out_ok k
  refine ⟨G0, H0, G, σ, r, A, e1, fun G1 H1 v x rr => ?_⟩
  have : r' = r := by cases r <;> cases e2 <;> rfl
  subst this
  exact k2 v G1 H1 (A.e.trans x) (rr.older A.e.h)
theorem ps_retV {i : Nat} {x : Str} {p pos : Pos} (hN : X.N[i]? = some x) (hv : Vis X.env.scope x) (hd : (x == ("__debug__" : Str)) = false) (hcd : (x == ("__classdict__" : Str)) = false) : PS X (.Return (some (.Name x p)) pos) (tS X (denS cl (.ret (.var i)))) := PS_imp (ps_ret (pe_var hN hv hd hcd)) fun D τ H q => by
  obtain ⟨G0, H0, G, σ, A, k⟩ := q
  simp only [denS] at k
  obtain ⟨r, e1, k⟩ := out_ok k
  have e1' : σ[i]? = some (some r) := by
    unfold slotR at e1
    split at e1
    · cases e1; assumption
    · cases e1
  obtain ⟨own, h1, h2, h3, h4⟩ := A.own
  obtain ⟨v, q1, q2⟩ := h1 i r e1'
  refine ⟨v, q1, k v G H A.e ?_⟩
  rcases q2 with ⟨y, e, _, rp⟩ | o
  · subst e; exact .d rp
  · exact .own o (h3 i) fun a ha => h4 i a ha
theorem ps_ret0 {pos : Pos} : PS X (.Return none pos) (tS X (denS cl .retn)) := PS_imp ps_retN fun D τ H q => by
  obtain ⟨G0, H0, G, σ, A, k⟩ := q
  simp only [denS] at k
  exact k .non G H A.e (.d .non)
theorem ps_exp {e : E} {ex : Expr} {pos : Pos} (he : Snd X cl e ex) (hc : noComp ex = true) : PS X (.Expr ex pos) (tS X (denS cl (.exp e))) := PS_imp (ps_expr he.pe (noSwap hc _ _ _)) fun D τ H q => by
  obtain ⟨G0, H0, G, σ, A, k⟩ := q
  simp only [denS] at k
  obtain ⟨r, e1, k⟩ := out_ok k
  exact tE_val A e1 fun G1 H1 v x A1 b => k τ G1 H1 A1 x.g
theorem ps_passS {pos : Pos} : PS X (.Pass pos) (tS X (denS cl .pass)) := PS_imp ps_pass fun D τ H q => by
  obtain ⟨G0, H0, G, σ, A, k⟩ := q
  simp only [denS] at k
  exact k τ G H A (Sub.refl _)
theorem ps_brkS {pos : Pos} : PS X (.Break pos) (tS X (denS cl .brk)) := PS_imp ps_break fun D τ H q => by
  obtain ⟨G0, H0, G, σ, A, k⟩ := q
  simp only [denS] at k
  exact k τ G H A (Sub.refl _)
theorem ps_raise {st : Stmt} {c : Nat} {es : List E} : PS X st (tS X (denS cl (.raise c es))) := PS_imp ps_never fun D τ H q => by
  obtain ⟨G0, H0, G, σ, A, k⟩ := q
  simp only [denS] at k
  obtain ⟨ds, _, k⟩ := out_ok k
  exact k
theorem ps_ifS {c : E} {a b : List S} {xc : Expr} {xa xb : List Stmt} {pos : Pos} (hc : Snd X cl c xc) (ht : okT xc = true) (ha : PSs X xa (tS X (denSs cl a))) (hb : PSs X xb (tS X (denSs cl b))) : PS X (.If xc xa xb pos) (tS X (denS cl (.ife c a b))) := PS_imp (ps_if (hc.pt ht) ha hb) fun D τ H q => by
  obtain ⟨G0, H0, G, σ, A, k⟩ := q
  simp only [denS] at k
  obtain ⟨r, e1, k⟩ := out_ok k
  obtain ⟨t, e2, k⟩ := out_ok k
  refine tT_ok A e1 e2 fun G1 H1 x A1 => ?_
  cases t with
  | true => simp only [if_true] at k ⊢; exact ⟨G0, H0, G1, σ, A1, OutK.sub x.g k⟩
  | false => simp only [Bool.false_eq_true, if_false] at k ⊢; exact ⟨G0, H0, G1, σ, A1, OutK.sub x.g k⟩
theorem ps_whl (SS : SXS cl ck X) {c : E} {a : List S} {xc : Expr} {xa : List Stmt} {pos : Pos} (hc : Snd X cl c xc) (ht : okT xc = true) (ha : PSs X xa (tS X (denSs cl a))) : PS X (.While xc xa [] pos) (tS X (denS cl (.whl c a))) := PS_imp (ps_while SS.own (hc.pt ht) ha) fun D τ H q => by
  obtain ⟨G0, H0, G, σ, A, k⟩ := q
  simp only [denS] at k
  generalize FUEL = n at k
  refine ⟨fun m τ H => ∃ G σ, AIx X G0 H0 G H σ τ ∧ OutK X D G0 H0 G (whlN (fun σ => (denE cl c σ).bind fun r => truthR r.val) (fun σ => denSs cl a σ) m σ), ⟨n, G, σ, A, k⟩, ?_⟩
  rintro m τ H ⟨G, σ, A, k⟩
  cases m with
  | zero => exact False.elim k
  | succ m =>
    unfold whlN at k
    obtain ⟨t, e, k⟩ := out_ok k
    obtain ⟨r, e1, e2⟩ := bind_ok e
    refine tT_ok A e1 e2 fun G1 H1 x A1 => ?_
    cases t with
    | false =>
      simp only [Bool.false_eq_true, if_false] at k ⊢
      exact k τ G1 H1 A1 x.g
    | true =>
      simp only [if_true] at k ⊢
      refine ⟨fun τ H => ∃ G σ, AIx X G0 H0 G H σ τ ∧ OutK X D G0 H0 G (whlN (fun σ => (denE cl c σ).bind fun r => truthR r.val) (fun σ => denSs cl a σ) m σ), fun τ' H' h => ⟨m, Nat.lt_succ_self _, h⟩, G0, H0, G1, σ, A1, ?_⟩
      cases e3 : denSs cl a σ with
      | nx σ' => rw [e3] at k; exact fun τ' G' H' A' s => ⟨G', σ', A', OutK.sub (x.g.trans s) k⟩
      | rt r => rw [e3] at k; exact k
      | bk σ' => rw [e3] at k; exact fun τ' G' H' A' s => k τ' G' H' A' (x.g.trans s)
      | er r => rw [e3] at k; exact k
      | bad => rw [e3] at k; exact k
theorem ps_forS (SS : SXS cl ck X) {t : Tgt} {kd : ItK} {src : List E} {a : List S} {tg iter : Expr} {xa : List Stmt} {pos : Pos} (hi : PI X tg iter (tI X cl kd src)) (hg : PG X tg (tG X t)) (hp : plainE iter = true) (ha : PSs X xa (tS X (denSs cl a))) : PS X (.For tg iter xa [] pos) (tS X (denS cl (.for t kd src a))) := PS_imp (ps_for SS.own SS.x.calm hi hg ha (foldedSet hp X.env)) fun D τ H q => by
  obtain ⟨G0, H0, G, σ, A, k⟩ := q
  simp only [denS] at k
  obtain ⟨ds, e1, k⟩ := out_ok k
  obtain ⟨items, e2, k⟩ := out_ok k
  refine ⟨G0, H0, G, σ, (false, ds), items, A, denF_V e1, e2, fun J G1 H1 Gp x s1 s2 s3 it => ?_⟩
  have z : Gp = G1 := s3 rfl
  subst z
  refine for_it it.walk (fun i τ H => ∃ G σ, AIx X G0 H0 G H σ τ ∧ Sub Gp G ∧ OutK X D G0 H0 G (forL (fun d σ => (setT t d σ).out fun σ1 => denSs cl a σ1) (items.drop i) σ)) ⟨Gp, σ, A.ext x, Sub.refl _, by rw [List.drop_zero]; exact OutK.sub x.g k⟩ ?_ ?_ ?_
  · rintro i τ H hi ⟨G, σ, A, s, k⟩
    exact fun b u q => A.sub b u (s b u q)
  · rintro i v τ H H' hi ⟨G, σ, A, s, k⟩ ⟨d, hd, io⟩
    obtain ⟨G2, x2, rv⟩ := io G s A.sub
    rw [drop_cons hd] at k
    have A2 := A.ext x2
    unfold forL at k
    cases e3 : setT t d σ with
    | err z => rw [e3] at k; exact False.elim k
    | bad => rw [e3] at k; exact False.elim k
    | ok σ1 =>
      rw [e3] at k
      simp only [Res.out_ok] at k
      refine ⟨G0, H0, G2, σ, σ1, d, A2, rv, e3, fun τ2 A3 _ => ⟨G0, H0, G2, σ1, A3, ?_⟩⟩
      cases e4 : denSs cl a σ1 with
      | nx σ' => rw [e4] at k; exact fun τ' G' H' A' s' => ⟨G', σ', A', s.trans (x2.g.trans s'), OutK.sub (x2.g.trans s') k⟩
      | rt r => rw [e4] at k; exact k
      | bk σ' => rw [e4] at k; exact fun τ' G' H' A' s' => k τ' G' H' A' (x2.g.trans s')
      | er r => rw [e4] at k; exact k
      | bad => rw [e4] at k; exact k
  · rintro τ H ⟨G, σ, A, s, k⟩
    rw [List.drop_length] at k
    exact k τ G H A (Sub.refl _)
theorem AI.writeL {G0 H0 G H : Hp} {σ : ASt} {τ : L2.St} (A : AIx X G0 H0 G H σ τ) {i : Nat} {xs : List D} (h : σ[i]? = some (some (.fl xs))) :
    ∃ a vs, τ[i]? = some (some (.ref a)) ∧ H a = some (.lst vs) ∧ Reps X.prog X.w X.K G vs xs ∧ H0 a = none ∧ G a = none ∧
      ∀ vs' xs', Reps X.prog X.w X.K G vs' xs' → AIx X G0 H0 G (upd H a (.lst vs')) (σ.set i (some (.fl xs'))) τ := by
  obtain ⟨v, as, e1, o, nd, n, k⟩ := AI.write A h (fun x z => by cases z)
  cases o with
  | @fl a vs _ ha rr =>
    refine ⟨a, vs, e1, ha, rr, (n a (by simp)).1, (n a (by simp)).2, fun vs' xs' rr' => ?_⟩
    refine k (.fl xs') G (upd H a (.lst vs')) (Sub.refl _) (fun _ z q => absurd z q) (fun b u q => ?_) (fun b u q => ?_) (fun b u hb q => ?_) [a] (fun b hb => .inl hb) (by simp) (.fl upd_same rr') n
    · rw [upd_ne (ne_of_none q (n a (by simp)).2)]; exact A.sub b u q
    · rw [upd_ne (ne_of_none q (n a (by simp)).1)]; exact A.e.h b u q
    · rw [upd_ne (by simpa using hb)]; exact q
theorem ownL_ {σ : ASt} {i : Nat} {xs : List D} (h : ownL σ i = .ok xs) : σ[i]? = some (some (.fl xs)) := by
  unfold ownL at h
  split at h
  · cases h; assumption
  · cases h
theorem slotR_ {σ : ASt} {i : Nat} {r : RV} (h : slotR σ i = .ok r) : σ[i]? = some (some r) := by
  unfold slotR at h
  split at h
  · cases h; assumption
  · cases h
/-- a name's method is called for its effect -/
theorem ps_meth {i : Nat} {x : Str} {name : Str} {T id : String} {r : V → List V → Hp → VK → Prop} {e : Expr} {es : List Expr} {t : TA} {p apos cpos : Pos} (pa : PlainAttrs T) (slot : Slot T name id) (hty : typeOf (.builtin id) = pure (.type "method_descriptor")) (hm : MtR X id r)
    (hN : X.N[i]? = some x) (hv : Vis X.env.scope x) (hd : (x == ("__debug__" : Str)) = false) (hcd : (x == ("__classdict__" : Str)) = false) (ha : PA X (e :: es) t) (hp : (e :: es).all plainE = true) (hl : (e :: es).length < 29) (hline : (apos.endLine == cpos.line) = true) :
    PE X (.Call (.Attribute (.Name x p) name apos) (e :: es) [] cpos) (tBM X.K T r (tVar i) t) := by
  have hp' := hp
  simp only [List.all_cons, Bool.and_eq_true] at hp'
  refine pe_bm pa slot hty hm (pe_var hN hv hd hcd) ha (attrBase rfl _ _ _) ?_ hline (star_plainE hp'.1 _ _) (starAny hp'.2 _ _)
  have h1 : ((backTo cpos (starEach (e :: es) X.env)).all fun x => !x.1) = true := by
    have := starAny hp X.env cpos
    rw [List.any_eq_false] at this
    rw [List.all_eq_true]
    intro y hy
    have := this y hy
    simpa using this
  rw [h1]
  show (true && true && decide ((e :: es).length + 0 + 0 < 30)) = true
  simp only [Bool.and_self, Bool.true_and, decide_eq_true_eq]
  omega
theorem ps_app {i : Nat} {x : Str} {e : E} {ex : Expr} {p apos cpos pos : Pos} (hN : X.N[i]? = some x) (hv : Vis X.env.scope x) (hd : (x == ("__debug__" : Str)) = false) (hcd : (x == ("__classdict__" : Str)) = false) (he : Snd X cl e ex) (hp : plainE ex = true) (hline : (apos.endLine == cpos.line) = true) :
    PS X (.Expr (.Call (.Attribute (.Name x p) "append" apos) [ex] [] cpos) pos) (tS X (denS cl (.app i e))) :=
  PS_imp (ps_expr (ps_meth (T := "list") (id := "list.append") F.plainAttrs_list F.slot_list_append F.type_list_append mt_append hN hv hd hcd (snd_F (.cons he .nil) (by simpa using hp)) (by simpa using hp) (by simp) hline) rfl) fun D τ H q => by
    obtain ⟨G0, H0, G, σ, A, k⟩ := q
    simp only [denS] at k
    obtain ⟨r, e1, k⟩ := out_ok k
    obtain ⟨d, e2, k⟩ := out_ok k
    obtain ⟨xs, e3, k⟩ := out_ok k
    split at k
    · rename_i hl
      obtain ⟨a, vs, t1, ha, rr, n1, n2, _⟩ := A.writeL (ownL_ e3)
      refine ⟨.ref a, t1, .inl ⟨rfl, vs, SqL.of ha⟩, G0, H0, G, σ, [d], A, by simp only [denF, e1, e2, Res.bind_ok], fun G1 H1 us x ru => ?_⟩
      have A1 := A.ext x
      obtain ⟨a', vs', t1', ha', rr', n1', n2', w⟩ := A1.writeL (ownL_ e3)
      rw [t1] at t1'
      cases t1'
      cases ru with
      | cons rv rn =>
        cases rn
        refine ⟨a, vs', _, rfl, rfl, ha', by rw [rr'.length, ← line_eq]; exact hl, ?_⟩
        exact k _ G1 _ (w _ _ (rr'.append (.cons rv .nil))) x.g
    · exact False.elim k
end OH
end

section
set_option autoImplicit false
set_option linter.all false
set_option Elab.async false
set_option maxRecDepth 100000
set_option maxHeartbeats 1000000
namespace OH
open PySem L2 PySem.Spec PyProof.Rows
variable {X : Cx} {cl : Nat → List D → Res RV} {ck : Ck}
theorem PE_or {ex : Expr} {t u : TE} (h : PE X ex t) (h' : PE X ex u) : PE X ex (fun τ H Q => t τ H Q ∨ u τ H Q) := ⟨fun pins s σ H Q I q => by
  rcases q with q | q
  · exact h.run pins s σ H Q I q
  · exact h'.run pins s σ H Q I q⟩
theorem mt_extendR : MtR X "list.extend" (fun x vs H Q => ∃ l b xs zs, x = .ref l ∧ vs = [.ref b] ∧ H l = some (.lst xs) ∧ LstAt X.K H b zs ∧ xs.length + zs.length ≤ sizeLine ∧ Q .non (upd H l (.lst (xs ++ zs)))) := by
  intro pins s σ H x vs v us Q I rx rv h
  obtain ⟨l, b, xs, zs, rfl, rfl, hH, hB, hz, q⟩ := h
  cases rx
  obtain ⟨u, rfl, ru⟩ := rv.one
  cases ru
  obtain ⟨z, its, n, r, hl, e⟩ := I.lstM hH
  obtain ⟨z2, its2, n2, r2, e2⟩ := hB.ok I
  have hl2 := r2.length
  have hsz : its.toArray.size + its2.toArray.size ≤ sizeLine := by rw [List.size_toArray, List.size_toArray]; omega
  have hlong : ¬ (!its.toArray.isEmpty && Builtin.List.listTooLong (its.toArray.size + its2.toArray.size)) = true := by
    rw [notLongL hsz, Bool.and_false]
    exact Bool.false_ne_true
  refine call_meets F.slot_list_extend ⟨_, e, rfl⟩ F.entry_list_extend (F.args_list_extend_2 _ _)
    (AutoSeq1.list_extend_list_list_0 l its.toArray n b its2.toArray n2 hlong (by simp only [List.size_toArray]; omega) (by simp only [List.size_toArray] at *; omega)) ⟨e, e2, ?_⟩
  refine ⟨.non, _, I.lset (its' := its ++ its2) hH e (by simp) (r.append r2) ?_, rfl, q⟩
  rw [List.length_append]
  omega
theorem ps_ext {i : Nat} {x : Str} {e : E} {ex : Expr} {p apos cpos pos : Pos} (hN : X.N[i]? = some x) (hv : Vis X.env.scope x) (hd : (x == ("__debug__" : Str)) = false) (hcd : (x == ("__classdict__" : Str)) = false) (he : Snd X cl e ex) (hp : plainE ex = true) (hline : (apos.endLine == cpos.line) = true) :
    PS X (.Expr (.Call (.Attribute (.Name x p) "extend" apos) [ex] [] cpos) pos) (tS X (denS cl (.ext i e))) :=
  PS_imp (ps_expr (ps_meth (T := "list") (id := "list.extend") F.plainAttrs_list F.slot_list_extend F.type_list_extend mt_extendR hN hv hd hcd (snd_V (.cons he .nil) (by simpa using hp)) (by simpa using hp) (by simp) hline) rfl) fun D τ H q => by
    obtain ⟨G0, H0, G, σ, A, k⟩ := q
    simp only [denS] at k
    obtain ⟨r, e1, k⟩ := out_ok k
    obtain ⟨xs, e3, k⟩ := out_ok k
    obtain ⟨a, vs, t1, ha, rr, n1, n2, _⟩ := A.writeL (ownL_ e3)
    refine ⟨.ref a, t1, .inl ⟨rfl, vs, SqL.of ha⟩, G0, H0, G, σ, (r.isB || false, [r.val]), A, by simp only [denV, e1, Res.bind_ok], fun G1 H1 us x b c => ?_⟩
    replace b := b.one
    obtain ⟨v, rfl, b⟩ := b
    have A1 := A.ext x
    obtain ⟨a', vs', t1', ha', rr', n1', n2', w⟩ := A1.writeL (ownL_ e3)
    rw [t1] at t1'
    cases t1'
    split at k
    · rename_i ys ey
      rw [ey] at b
      split at k
      · rename_i hl
        obtain ⟨l, zs, rfl, hr, rz⟩ := b.lst_ A1.sub
        refine ⟨a, l, vs', zs, rfl, rfl, ha', hr, by rw [rr'.length, rz.length, ← line_eq]; exact hl, ?_⟩
        exact k _ G1 _ (w _ _ (rr'.append rz)) x.g
      · exact False.elim k
    · exact False.elim k
theorem AI.writeD {G0 H0 G H : Hp} {σ : ASt} {τ : L2.St} (A : AIx X G0 H0 G H σ τ) {i : Nat} {kvs : List (D × D)} (h : σ[i]? = some (some (.fd kvs))) :
    ∃ a o xs, τ[i]? = some (some (.ref a)) ∧ H a = some (hoD a o) ∧ DictO X.prog X.w a o xs ∧ RepX X.prog X.w X.K G xs kvs ∧ H0 a = none ∧ G a = none ∧
      ∀ o' xs' kvs', DictO X.prog X.w a o' xs' → RepX X.prog X.w X.K G xs' kvs' → AIx X G0 H0 G (upd H a (hoD a o')) (σ.set i (some (.fd kvs'))) τ := by
  obtain ⟨v, as, e1, o, nd, n, k⟩ := AI.write A h (fun x z => by cases z)
  cases o with
  | @fd a ob xs _ ha hd rr =>
    refine ⟨a, ob, xs, e1, ha, hd, rr, (n a (by simp)).1, (n a (by simp)).2, fun o' xs' kvs' d' r' => ?_⟩
    refine k (.fd kvs') G (upd H a (hoD a o')) (Sub.refl _) (fun _ z q => absurd z q) (fun b u q => ?_) (fun b u q => ?_) (fun b u hb q => ?_) [a] (fun b hb => .inl hb) (by simp) (.fd upd_same d' r') n
    · rw [upd_ne (ne_of_none q (n a (by simp)).2)]; exact A.sub b u q
    · rw [upd_ne (ne_of_none q (n a (by simp)).1)]; exact A.e.h b u q
    · rw [upd_ne (by simpa using hb)]; exact q
/-- a dict's method, the dict with tuple keys -/
theorem pe_dm {o e : Expr} {es : List Expr} {to : TE} {t : TA} {name : Str} {apos cpos : Pos} {id : String} {r : V → List V → Hp → VK → Prop} (slot : Slot "dict" name id) (hty : typeOf (.builtin id) = pure (.type "method_descriptor")) (hm : MtR X id r) (ho : PE X o to) (ha : PA X (e :: es) t)
    (hb : isName0 o = false) (hp : (e :: es).all plainE = true) (hl : (e :: es).length < 29) (hline : (apos.endLine == cpos.line) = true) :
    PE X (.Call (.Attribute o name apos) (e :: es) [] cpos) (fun σ H Q => to σ H fun x H1 => (∃ d ob, x = .ref d ∧ H1 d = some (hoD d ob) ∧ ob.ExactDict) ∧ t σ H1 fun xs H2 => r x xs H2 Q) := by
  have hp' := hp
  simp only [List.all_cons, Bool.and_eq_true] at hp'
  have hs := star_plainE hp'.1 es X.env
  have hplain := starAny hp'.2 X.env cpos
  refine ⟨fun pins s σ H Q I h => ?_⟩
  have hfew : ((backTo cpos (starEach (e :: es) X.env)).all (fun x => !x.1) && (backToKw cpos (keywordEach [] X.env)).all (fun x => x.1.isSome)
      && decide ((e :: es).length + ([] : List Keyword).length + (if ([] : List Keyword).isEmpty then 0 else 1) < 30)) = true := by
    have h1 : ((backTo cpos (starEach (e :: es) X.env)).all fun x => !x.1) = true := by
      have := starAny hp X.env cpos
      rw [List.any_eq_false] at this
      rw [List.all_eq_true]
      intro y hy
      have := this y hy
      simpa using this
    rw [h1]
    show (true && true && decide ((e :: es).length + 0 + 0 < 30)) = true
    simp only [Bool.and_self, Bool.true_and, decide_eq_true_eq]
    omega
  refine wpAny_Call_method_late (attrBase hb _ _ _) hfew hline rfl (thn (ho.run pins s σ H _ I h) fun v s1 ⟨x, H1, I1, r1, ty, q1⟩ => ?_)
  obtain ⟨d, ob, rfl, hd, hx⟩ := ty
  obtain rfl : v = Value.ref d := r1
  have e0 : s1.heap.get? d = some ob := (I1.hok d _ hd).1
  refine ⟨"dict", id, F.plainAttrs_dict, slot, hty, ⟨ob, e0, hx.1⟩, fun a e => ?_, ?_⟩
  · cases e; exact ⟨ob, e0, hx.2.1⟩
  have hA := ha.run cpos pins s1 σ H1 _ I1 q1
  rw [hs] at hA ⊢
  refine Calls.callWith_builtin (by show (false || (backTo cpos (starEach es X.env)).any (·.1)) = false; rw [hplain] <;> rfl) (Calls.evalArgs_plain ?_)
  exact thn hA fun us s2 ⟨vs, H2, I2, r2, q2⟩ => hm pins s2 σ H2 (V.ref d) vs (Value.ref d) us Q I2 rfl r2 q2
def tPut (X : Cx) : TSet := fun o i v H Q =>
  (∃ a vs n j, o = .ref a ∧ i = .int n ∧ H a = some (.lst vs) ∧ ixD vs.length n = some j ∧ Q (upd H a (.lst (vs.set j v)))) ∨
  (∃ a ob xs G kvs b nk k, o = .ref a ∧ i = .ref b ∧ Sub G H ∧ H a = some (hoD a ob) ∧ DictO X.prog X.w a ob xs ∧ RepX X.prog X.w X.K G xs kvs ∧ Rep X.prog X.w X.K G (.ref b) k ∧ keyN k = some nk ∧ isKeyT k = true ∧ xs.length < sizeLine ∧
    ∀ u ob', RelV v u → DictO X.prog X.w a ob' (storedH xs nk b u) → Q (upd H a (hoD a ob')))
theorem storedH_len {xs : List (NestedKey × Addr × Value)} {k : NestedKey} {b : Addr} {u : Value} : (storedH xs k b u).length ≤ xs.length + 1 := by
  unfold storedH
  split
  · rw [List.length_map]; omega
  · rw [List.length_append]; simp
theorem set_put (hu : X.A.units + 66 < cLine) : PSet X (tPut X) := by
  intro pins s σ H x y z vx vy vz Q I rx ry rz h
  rcases h with ⟨a, vs, n, j, rfl, rfl, hH, hj, q⟩ | ⟨a, ob, xs, G, kvs, b, nk, k, rfl, rfl, sb, hH, hd, hr, hb, hk, ht, hz, q⟩
  · exact set_list pins s σ H _ _ z vx vy vz Q I rx ry rz ⟨a, vs, n, j, rfl, rfl, hH, hj, q⟩
  · obtain rfl : vx = Value.ref a := rx
    obtain rfl : vy = Value.ref b := ry
    have dm := dictOf I hH hd (hr.keys I sb)
    refine wpAny_setItem_heap (hsz := hd.len) (nk_room (by omega)) (hb.isKey I sb hk ht) dm fun h' hm hs => ?_
    obtain ⟨ob', d', I'⟩ := dictWritten (t := s.toks + (nestedKind X.prog X.w).draws nk) I hH hd hm hs (by have := storedH_len (xs := xs) (k := nk) (b := b) (u := vz); omega)
    exact ⟨_, I', q vz ob' rz d'⟩
end OH
namespace OH
open PySem L2 PySem.Spec PyProof.Rows
variable {X : Cx} {cl : Nat → List D → Res RV} {ck : Ck}
theorem assign_sub {i : Expr} (h : plainE i = true) (o : Expr) (pos : Pos) (env : Env) (v : Value) : assign (.Subscript o i pos) env v = (do
      let ov ← holding [v] (eval o env)
      let iv ← holding [v, ov] (eval i env)
      standAt pos
      holding [v, ov, iv] (setItem ov iv v)
      release [v, ov, iv] []) := by
  cases i <;> first | rfl | (exact absurd h (by simp [plainE]))
theorem noSwapSub (v : Expr) (o i : Expr) (p : Pos) (l : Nat) (env : Env) : swapsWith v (some (.Subscript o i p)) l env = pure false := by
  cases v <;> rfl
theorem Rep.int_ {P : Program} {w : World} {K : PySem.W.Frag} {G : Hp} {v : V} {n : Int} (h : Rep P w K G v (.int n)) : v = .int n := by cases h; rfl
theorem ps_seti (hu : X.A.units + 66 < cLine) {i : Nat} {x : Str} {e k : E} {ex xk : Expr} {p tpos pos : Pos} (hN : X.N[i]? = some x) (hv : Vis X.env.scope x) (hd : (x == ("__debug__" : Str)) = false) (hcd : (x == ("__classdict__" : Str)) = false) (he : Snd X cl e ex) (hk : Snd X cl k xk) (hp : plainE xk = true) :
    PS X (.Assign [.Subscript (.Name x p) xk tpos] ex pos) (tS X (denS cl (.seti i k e))) :=
  PS_imp (ps_asg he.pe (pg_sub (pe_var hN hv hd hcd) hk.pe (set_put hu) (assign_sub hp _ _ _)) (noSwapSub ex (.Name x p) xk tpos pos.line X.env) rfl rfl) fun D τ H q => by
    obtain ⟨G0, H0, G, σ, A, k⟩ := q
    simp only [denS] at k
    obtain ⟨r, e1, k⟩ := out_ok k
    obtain ⟨d, e2, k⟩ := out_ok k
    obtain ⟨kr, e3, k⟩ := out_ok k
    obtain ⟨kd, e4, k⟩ := out_ok k
    obtain ⟨s, e5, k⟩ := out_ok k
    obtain ⟨s', e6, k⟩ := out_ok k
    refine tE_frz A e1 e2 fun G1 H1 v x1 A1 rv => ?_
    cases s with
    | fl xs =>
      obtain ⟨a, vs, t1, _⟩ := A1.writeL (slotR_ e5)
      refine ⟨.ref a, t1, tE_frz A1 e3 e4 fun G2 H2 kv x2 A2 rk => ?_⟩
      obtain ⟨a2, vs2, t2, ha, rr, n1, n2, w⟩ := A2.writeL (slotR_ e5)
      rw [t1] at t2; cases t2
      obtain ⟨n, hn⟩ : ∃ n, kd = .int n := by
        cases kd <;> first | exact ⟨_, rfl⟩ | cases e6
      subst hn
      unfold putD at e6
      simp only at e6
      split at e6
      · rename_i j hj
        cases e6
        exact .inl ⟨a, vs2, n, j, rfl, rk.int_, ha, by rw [rr.length]; exact hj, k _ G2 _ (w _ _ (rr.set j (rv.mono x2.g))) (x1.g.trans x2.g)⟩
      · cases e6
    | fd kvs =>
      obtain ⟨a, ob, xs, t1, _⟩ := A1.writeD (slotR_ e5)
      refine ⟨.ref a, t1, tE_frz A1 e3 e4 fun G2 H2 kv x2 A2 rk => ?_⟩
      obtain ⟨a2, ob2, xs2, t2, ha, dd, rr, n1, n2, w⟩ := A2.writeD (slotR_ e5)
      rw [t1] at t2; cases t2
      replace e6 : (if (isKeyT kd && decide (kvs.length < LINE)) = true then Res.ok (RV.fd (put kd d kvs)) else .bad) = .ok s' := e6
      split at e6
      · rename_i hc
        cases e6
        simp only [Bool.and_eq_true, decide_eq_true_eq] at hc
        obtain ⟨b, nk, rfl, rb, hnk⟩ := (BRep.rep (H := H2) rk).key_ hc.1
        refine .inr ⟨a, ob2, xs2, G2, kvs, b, nk, kd, rfl, rfl, A2.sub, ha, dd, rr, rb, hnk, hc.1, by rw [rr.len, ← line_eq]; exact hc.2, fun u ob' ru d' => ?_⟩
        exact k _ G2 _ (w ob' _ _ d' (rr.put hnk hc.1 rb ru (rv.mono x2.g) dd.nd)) (x1.g.trans x2.g)
      · cases e6
    | _ => cases e6
theorem getElem?_set_other {α : Type} {l : List α} {i j : Nat} {a : α} (h : i ≠ j) : (l.set i a)[j]? = l[j]? := List.getElem?_set_ne h
theorem ps_apppop {i j : Nat} {x y : Str} {k : E} {xk : Expr} {p p2 apos cpos apos2 cpos2 pos : Pos} (hNj : X.N[j]? = some x) (hvj : Vis X.env.scope x) (hdj : (x == ("__debug__" : Str)) = false) (hcdj : (x == ("__classdict__" : Str)) = false)
    (hN : X.N[i]? = some y) (hv : Vis X.env.scope y) (hd : (y == ("__debug__" : Str)) = false) (hcd : (y == ("__classdict__" : Str)) = false) (hk : Snd X cl k xk) (hp : plainE xk = true) (hline : (apos.endLine == cpos.line) = true) (hline2 : (apos2.endLine == cpos2.line) = true) :
    PS X (.Expr (.Call (.Attribute (.Name x p) "append" apos) [.Call (.Attribute (.Name y p2) "pop" apos2) [xk] [] cpos2] [] cpos) pos) (tS X (denS cl (.apppop j i k))) := by
  have h1 := ps_meth (T := "list") (id := "list.pop") (p := p2) (apos := apos2) (cpos := cpos2) F.plainAttrs_list F.slot_list_pop F.type_list_pop mt_popAt hN hv hd hcd (snd_V (.cons hk .nil) (by simpa using hp)) (by simpa using hp) (by simp) hline2
  have h2 := ps_meth (T := "list") (id := "list.append") (p := p) (apos := apos) (cpos := cpos) F.plainAttrs_list F.slot_list_append F.type_list_append mt_append hNj hvj hdj hcdj (pa_cons h1 pa_nil rfl) (by rfl) (by simp) hline
  refine PS_imp (ps_expr h2 rfl) fun D τ H q => ?_
  obtain ⟨G0, H0, G, σ, A, k⟩ := q
  simp only [denS] at k
  obtain ⟨kr, e1, k⟩ := out_ok k
  obtain ⟨ys, e2, k⟩ := out_ok k
  obtain ⟨pp, e3, k⟩ := out_ok k
  obtain ⟨xs, e4, k⟩ := out_ok k
  split at k
  · rename_i hl
    obtain ⟨aj, vj, tj, haj, _⟩ := A.writeL (ownL_ e4)
    refine ⟨.ref aj, tj, .inl ⟨rfl, vj, SqL.of haj⟩, ?_⟩
    obtain ⟨ai, vi, ti, hai, _⟩ := A.writeL (ownL_ e2)
    refine ⟨.ref ai, ti, .inl ⟨rfl, vi, SqL.of hai⟩, G0, H0, G, σ, (kr.isB || false, [kr.val]), A, by simp only [denV, e1, Res.bind_ok], fun G1 H1 us x b c => ?_⟩
    replace b := b.one
    obtain ⟨v, rfl, b⟩ := b
    have A1 := A.ext x
    obtain ⟨ai', vi', ti', hai', rri, n1, n2, w⟩ := A1.writeL (ownL_ e2)
    rw [ti] at ti'; cases ti'
    unfold popD popAt at e3
    simp only at e3
    generalize hkv : kr.val = kd at e3 b
    obtain ⟨n, hn0⟩ : ∃ n, kd = .int n := by
      cases kd <;> first | exact ⟨_, rfl⟩ | (exfalso; revert e3; simp)
    subst hn0
    simp only at e3
    by_cases hn : -(2 ^ 62) < n ∧ n < 2 ^ 62
    · rw [if_pos hn] at e3
      cases hix : ixD ys.length n with
      | none => rw [hix] at e3; cases e3
      | some m =>
        rw [hix] at e3
        simp only at e3
        cases hy : ys[m]? with
        | none => rw [hy] at e3; cases e3
        | some z =>
          rw [hy] at e3
          cases e3
          obtain ⟨u, hu, ru⟩ := rri.get hy
          have hseq : seqIndex? n vi'.length = some m := by rw [rri.length]; exact (ixN_seq hix).1
          refine ⟨ai, vi', n, m, u, rfl, by rw [b.int_], hai', by omega, by omega, hseq, hu, ?_⟩
          have A2 := w _ _ (rri.erase m)
          have ej : (σ.set i (some (.fl (ys.eraseIdx m))))[j]? = some (some (.fl xs)) := by rw [getElem?_set_other hl.2]; exact ownL_ e4
          obtain ⟨aj2, vj2, tj2, haj2, rrj, _, _, w2⟩ := A2.writeL ej
          rw [tj] at tj2; cases tj2
          refine ⟨aj, vj2, u, rfl, rfl, haj2, by rw [rrj.length, ← line_eq]; exact hl.1, ?_⟩
          exact k _ G1 _ (w2 _ _ (rrj.append (.cons ru .nil))) x.g
    · rw [if_neg hn] at e3; cases e3
  · exact False.elim k
end OH
end

section
set_option autoImplicit false
set_option linter.all false
set_option Elab.async false
set_option maxRecDepth 100000
set_option maxHeartbeats 1000000
namespace OH
open PySem L2 PySem.Spec PyProof.Rows
variable {X : Cx} {cl : Nat → List D → Res RV} {ck : Ck}
/-- the groups that a slot owns -/
def grpOf : RV → Option (List (D × List D))
  | .fd [] => some []
  | .fg kvs => some kvs
  | _ => none
/-- what a slot of groups stands for -/
structure GrpAt (X : Cx) (G H : Hp) (kvs : List (D × List D)) (a : Addr) (ob : Obj) (xs : List (NestedKey × Addr × Value)) (ls : List Addr) : Prop where
  h : H a = some (hoD a ob)
  d : DictO X.prog X.w a ob xs
  r : RepG X.prog X.w X.K G H xs ls kvs
  nd : (a :: ls).Nodup
theorem AI.grp {G0 H0 G H : Hp} {σ : ASt} {τ : L2.St} (A : AIx X G0 H0 G H σ τ) {i : Nat} {s : RV} {kvs : List (D × List D)} (h : σ[i]? = some (some s)) (hg : grpOf s = some kvs) :
    ∃ a ob xs ls, τ[i]? = some (some (.ref a)) ∧ GrpAt X G H kvs a ob xs ls ∧ (∀ l ∈ a :: ls, H0 l = none ∧ G l = none) ∧
      ∀ G' H' ob' xs' ls' kvs', Sub G G' → (∀ a, G a = none → G' a ≠ none → H a = none) → Sub G' H' → Same H0 H' → (∀ b o, b ∉ a :: ls → H b = some o → H' b = some o) → GrpAt X G' H' kvs' a ob' xs' ls' → (∀ l ∈ ls', l ∈ ls ∨ H l = none) → (∀ l ∈ a :: ls', H0 l = none ∧ G' l = none) →
        AIx X G0 H0 G' H' (σ.set i (some (.fg kvs'))) τ := by
  unfold grpOf at hg
  split at hg
  · cases hg
    obtain ⟨v, as, e1, o, nd, n, k⟩ := AI.write A h (fun x z => by cases z)
    cases o with
    | @fd a ob xs _ ha hd rr =>
      cases rr
      exact ⟨a, ob, [], [], e1, ⟨ha, hd, .nil, by simp⟩, n, fun G' H' ob' xs' ls' kvs' s0 nw s1 s2 s3 g' hls hn => k (.fg kvs') G' H' s0 nw s1 s2 s3 (a :: ls') (fun l hl => by
        rcases List.mem_cons.mp hl with rfl | hl
        · exact .inl (by simp)
        · rcases hls l hl with z | z
          · cases z
          · exact .inr z) g'.nd (.fg g'.h g'.d g'.r) hn⟩
  · cases hg
    obtain ⟨v, as, e1, o, nd, n, k⟩ := AI.write A h (fun x z => by cases z)
    cases o with
    | @fg a ob xs ls _ ha hd rr =>
      exact ⟨a, ob, xs, ls, e1, ⟨ha, hd, rr, nd⟩, n, fun G' H' ob' xs' ls' kvs' s0 nw s1 s2 s3 g' hls hn => k (.fg kvs') G' H' s0 nw s1 s2 s3 (a :: ls') (fun l hl => by
        rcases List.mem_cons.mp hl with rfl | hl
        · exact .inl (by simp)
        · rcases hls l hl with z | z
          · exact .inl (List.mem_cons_of_mem _ z)
          · exact .inr z) g'.nd (.fg g'.h g'.d g'.r) hn⟩
  · cases hg
end OH
namespace OH
open PySem L2 PySem.Spec PyProof.Rows
variable {X : Cx} {cl : Nat → List D → Res RV} {ck : Ck}
section
variable {P : Program} {w : World} {K : PySem.W.Frag} {G G' H H' : Hp}
theorem RepG.lenE : ∀ {xs : List (NestedKey × Addr × Value)} {ls : List Addr} {kvs : List (D × List D)}, RepG P w K G H xs ls kvs → xs.length = kvs.length
  | _, _, _, .nil => rfl
  | _, _, _, .cons _ _ _ _ _ r => congrArg (· + 1) (RepG.lenE r)
theorem RepG.look {nk : NestedKey} {k : D} (hk : keyN k = some nk) : ∀ {xs : List (NestedKey × Addr × Value)} {ls : List Addr} {kvs : List (D × List D)}, RepG P w K G H xs ls kvs →
    (atKey xs nk = none ∧ OH.look k kvs = none) ∨ ∃ b l vs ds, atKey xs nk = some (b, .ref l) ∧ OH.look k kvs = some ds ∧ H l = some (.lst vs) ∧ Reps P w K G vs ds ∧ l ∈ ls
  | _, _, _, .nil => .inl ⟨rfl, rfl⟩
  | _, _, _, .cons (nk := nk') (k := k') (b := b') (l := l') (vs := vs') (ds := ds') (xs := xs) (ls := ls) (kvs := kvs) a t b c d r => by
    have e := keyN_eqv k' k nk' nk a hk
    by_cases q : nk' = nk
    · subst q
      refine .inr ⟨b', l', vs', ds', by simp [atKey], ?_, c, d, by simp⟩
      unfold OH.look
      rw [if_pos (by rw [e]; simp)]
    · rcases RepG.look hk r with ⟨h1, h2⟩ | ⟨b1, l1, v1, d1, h1, h2, h3, h4, h5⟩
      · refine .inl ⟨?_, ?_⟩
        · simp only [atKey] at h1 ⊢; simpa [q] using h1
        · unfold OH.look; rw [if_neg (by rw [e]; simpa using q)]; exact h2
      · refine .inr ⟨b1, l1, v1, d1, ?_, ?_, h3, h4, List.mem_cons_of_mem _ h5⟩
        · simp only [atKey] at h1 ⊢; simpa [q] using h1
        · unfold OH.look; rw [if_neg (by rw [e]; simpa using q)]; exact h2
/-- one group's list is written -/
theorem RepG.upd {nk : NestedKey} {k : D} (hk : keyN k = some nk) {l : Addr} {b : Addr} {vs' : List V} {ds' : List D} (hl' : H' l = some (.lst vs')) (rr : Reps P w K G' vs' ds') (sg : Sub G G') : ∀ {xs : List (NestedKey × Addr × Value)} {ls : List Addr} {kvs : List (D × List D)}, RepG P w K G H xs ls kvs →
    ls.Nodup → atKey xs nk = some (b, .ref l) → (∀ a ∈ ls, a ≠ l → ∀ o, H a = some o → H' a = some o) → RepG P w K G' H' xs ls (OH.put k ds' kvs)
  | _, _, _, .nil, _, h, _ => by simp [atKey] at h
  | _, _, _, .cons (nk := nk') (k := k') (b := b') (l := l') (vs := vs0) (ds := ds0) (xs := xs) (ls := ls) (kvs := kvs) a t bb c d r, nd, h, kp => by
    have e := keyN_eqv k' k nk' nk a hk
    rw [List.nodup_cons] at nd
    by_cases q : nk' = nk
    · subst q
      have : l' = l := by simp [atKey] at h; exact h.2
      subst this
      unfold OH.put
      rw [if_pos (by rw [e]; simp)]
      exact .cons a t (bb.mono sg) hl' rr (r.keep sg fun x hx o q => kp x (List.mem_cons_of_mem _ hx) (fun z => nd.1 (by rw [← z]; exact hx)) o q)
    · unfold OH.put
      rw [if_neg (by rw [e]; simpa using q)]
      have h' : atKey xs nk = some (b, .ref l) := by simp only [atKey] at h ⊢; simpa [q] using h
      have hne : l' ≠ l := by
        rintro rfl
        rcases RepG.look hk r with ⟨h1, _⟩ | ⟨b1, l1, v1, d1, h1, _, _, _, h5⟩
        · rw [h1] at h'; cases h'
        · rw [h1] at h'; cases h'; exact nd.1 h5
      exact .cons a t (bb.mono sg) (kp l' (by simp) hne _ c) (d.mono sg) (RepG.upd hk hl' rr sg r nd.2 h' fun x hx => kp x (List.mem_cons_of_mem _ hx))
theorem RepG.append : ∀ {xs ys : List (NestedKey × Addr × Value)} {ls ms : List Addr} {kvs kvs' : List (D × List D)}, RepG P w K G H xs ls kvs → RepG P w K G H ys ms kvs' → RepG P w K G H (xs ++ ys) (ls ++ ms) (kvs ++ kvs')
  | _, _, _, _, _, _, .nil, s => s
  | _, _, _, _, _, _, .cons a t b c d r, s => .cons a t b c d (RepG.append r s)
end
/-- what setdefault(k, []) asks -/
def rSetdG (X : Cx) : V → List V → Hp → VK → Prop := fun x vs H Q => ∃ a b L G ob xs ls kvs nk k, x = .ref a ∧ vs = [.ref b, .ref L] ∧ Sub G H ∧ H a = some (hoD a ob) ∧ DictO X.prog X.w a ob xs ∧ RepG X.prog X.w X.K G H xs ls kvs ∧ Rep X.prog X.w X.K G (.ref b) k ∧ keyN k = some nk ∧ isKeyT k = true ∧
  (atKey xs nk = none → xs.length < sizeLine) ∧ (∀ b' l, atKey xs nk = some (b', .ref l) → Q (.ref l) H) ∧ (atKey xs nk = none → ∀ ob', DictO X.prog X.w a ob' (xs ++ [(nk, b, .ref L)]) → Q (.ref L) (upd H a (hoD a ob')))
theorem mt_setdG (hu : X.A.units + 66 < cLine) : MtR X "dict.setdefault" (rSetdG X) := by
  intro pins s σ H x vs v us Q I rx rv h
  obtain ⟨a, b, L, G, ob, xs, ls, kvs, nk, k, rfl, rfl, sb, hH, hd, hr, hb, hk, ht, hz, q1, q2⟩ := h
  obtain rfl : v = Value.ref a := rx
  obtain ⟨u1, u2, rfl, r1, r2⟩ := vals2 rv
  obtain rfl : u1 = Value.ref b := r1
  obtain rfl : u2 = Value.ref L := r2
  have dm := dictOf I hH hd (hr.keys I sb)
  refine call_setdefault_heap (hsz := hd.len) (nk_room (by omega)) (hb.isKey I sb hk ht) hd.sys dm (fun p hp => ?_) fun hn h' hm hs => ?_
  · rcases hr.look hk with ⟨h1, _⟩ | ⟨b1, l1, v1, d1, h1, _⟩
    · rw [h1] at hp; cases hp
    · rw [h1] at hp; cases hp
      exact ⟨.ref l1, H, I.tok _, rfl, q1 b1 l1 h1⟩
  · rw [storedH_new hn] at hm
    obtain ⟨ob', d', I'⟩ := dictWritten (t := s.toks + (nestedKind X.prog X.w).draws nk) I hH hd hm hs (by rw [List.length_append]; have := hz hn; simp; omega)
    exact ⟨.ref L, _, I', rfl, q2 hn ob' d'⟩
theorem gput_cases {s s' : RV} {k d : D} (h : gputD s k d = .ok s') : ∃ kvs, grpOf s = some kvs ∧ isKeyT k = true ∧ ((∃ xs, look k kvs = some xs ∧ xs.length < LINE ∧ s' = .fg (put k (xs ++ [d]) kvs)) ∨ (look k kvs = none ∧ kvs.length < LINE ∧ s' = .fg (put k [d] kvs))) := by
  unfold gputD at h
  split at h
  · split at h
    · rename_i ht
      cases h
      exact ⟨[], rfl, ht, .inr ⟨rfl, by show (0 : Nat) < 16777216; omega, rfl⟩⟩
    · cases h
  · rename_i kvs
    split at h
    · rename_i ht
      split at h
      · rename_i xs hl
        split at h
        · rename_i hz
          cases h
          exact ⟨kvs, rfl, ht, .inl ⟨xs, hl, hz, rfl⟩⟩
        · cases h
      · rename_i hl
        split at h
        · rename_i hz
          cases h
          exact ⟨kvs, rfl, ht, .inr ⟨hl, hz, rfl⟩⟩
        · cases h
    · cases h
  · cases h
/-- the reading of g.setdefault(k, []) as an expression -/
def tSetd (X : Cx) (cl : Nat → List D → Res RV) (i : Nat) (k : E) : TE := fun σ H Q => tVar i σ H fun x H1 => (∃ d ob, x = .ref d ∧ H1 d = some (hoD d ob) ∧ ob.ExactDict) ∧ tCons (tE X cl k) (tCons (tLst tNil) tNil) σ H1 fun xs H2 => rSetdG X x xs H2 Q
theorem pe_setd (hu : X.A.units + 66 < cLine) {i : Nat} {x : Str} {k : E} {xk : Expr} {p apos cpos lp : Pos} (hN : X.N[i]? = some x) (hv : Vis X.env.scope x) (hd : (x == ("__debug__" : Str)) = false) (hcd : (x == ("__classdict__" : Str)) = false) (hk : Snd X cl k xk) (hp : plainE xk = true) (hline : (apos.endLine == cpos.line) = true) :
    PE X (.Call (.Attribute (.Name x p) "setdefault" apos) [xk, .List [] lp] [] cpos) (tSetd X cl i k) :=
  pe_dm (id := "dict.setdefault") F.slot_dict_setdefault F.type_dict_setdefault (mt_setdG hu) (pe_var hN hv hd hcd) (pa_cons hk.pe (pa_cons (pe_lst pa_nil) pa_nil rfl) (star_plainE hp _ _)) rfl (by simp only [List.all_cons, List.all_nil, hp]; rfl) (by simp) hline
/-- the whole road: the key, the group found or made, and then its end -/
theorem grp_road {i : Nat} {k : E} {σ : ASt} {τ : L2.St} {G0 H0 G H : Hp} {kr : RV} {kd : D} {s : RV} {kvs : List (D × List D)} {Q : VK} (A : AIx X G0 H0 G H σ τ) (e1 : denE cl k σ = .ok kr) (e2 : kr.frz = .ok kd) (e3 : σ[i]? = some (some s)) (hg : grpOf s = some kvs) (ht : isKeyT kd = true) (hz : look kd kvs = none → kvs.length < LINE)
    (kk : ∀ l G1 H1 vs xs, Sub G G1 → H1 l = some (.lst vs) → Reps X.prog X.w X.K G1 vs xs → xs = (look kd kvs).getD [] → AIx X G0 H0 G1 H1 (σ.set i none) τ →
      (∀ G2 H2 vs' xs', Ext G1 H1 G2 H2 → Reps X.prog X.w X.K G2 vs' xs' → AIx X G0 H0 G2 (upd H2 l (.lst vs')) (σ.set i (some (.fg (put kd xs' kvs)))) τ) → Q (.ref l) H1) : tSetd X cl i k τ H Q := by
  obtain ⟨a0, ob0, xs0, ls0, t0, g0, _, _⟩ := A.grp e3 hg
  refine ⟨.ref a0, t0, ⟨a0, ob0, rfl, g0.h, g0.d.exact⟩, tE_frz A e1 e2 fun G1 H1 kv x1 A1 rk => ⟨Nat.zero_le _, fun L hL => ?_⟩⟩
  obtain ⟨a, ob, xs, ls, t1, g, n, w⟩ := A1.grp e3 hg
  rw [t0] at t1; cases t1
  obtain ⟨b, nk, rfl, rb, hnk⟩ := (BRep.rep (H := H1) rk).key_ ht
  have x2 : Ext G1 H1 G1 (upd H1 L (.lst [])) := Ext.alloc A1.sub hL
  have kp2 : ∀ c o, H1 c = some o → (upd H1 L (.lst [])) c = some o := x2.h
  have hLa : L ≠ a0 := fun z => by rw [z, g.h] at hL; cases hL
  have hLs : L ∉ ls := fun z => by
    obtain ⟨o, ho⟩ := g.r.at L z
    rw [hL] at ho; cases ho
  have hls : a0 ∉ ls ∧ ls.Nodup := List.nodup_cons.mp g.nd
  refine ⟨a0, b, L, G1, ob, xs, ls, kvs, nk, kd, rfl, rfl, x2.sub, kp2 _ _ g.h, g.d, g.r.keep (Sub.refl _) fun c _ o q => kp2 c o q, rb, hnk, ht, fun hn => ?_, fun b' l hat => ?_, fun hn ob' d' => ?_⟩
  · rcases g.r.look hnk with ⟨_, h2⟩ | ⟨b1, l1, v1, d1, h1, _⟩
    · rw [g.r.lenE, ← line_eq]; exact hz h2
    · rw [h1] at hn; cases hn
  · -- the group stands
    rcases g.r.look hnk with ⟨h1, _⟩ | ⟨b1, l1, v1, d1, h1, h2, h3, h4, h5⟩
    · rw [h1] at hat; cases hat
    · rw [h1] at hat; cases hat
      refine kk l G1 _ v1 d1 x1.g (kp2 _ _ h3) h4 (by rw [h2]; rfl) ((A1.ext x2).set_none i τ rfl fun _ _ => rfl) fun G2 H2 vs' xs' y rr => ?_
      have hla : l ≠ a0 := fun z => hls.1 (by rw [← z]; exact h5)
      have kp3 : ∀ c o, H1 c = some o → H2 c = some o := fun c o q => y.h c o (kp2 c o q)
      have fresh : ∀ c, G1 c = none → G2 c ≠ none → H1 c = none := fun c z q => x2.h.free (y.new c z q)
      have hG2 : ∀ c ∈ a0 :: ls, G2 c = none := fun c hc => by
        cases q : G2 c with
        | none => rfl
        | some u =>
          have z := fresh c (n c hc).2 (by rw [q]; exact fun q => nomatch q)
          rcases List.mem_cons.mp hc with rfl | hc
          · rw [g.h] at z; cases z
          · obtain ⟨o, ho⟩ := g.r.at c hc
            rw [ho] at z; cases z
      refine w G2 _ ob xs ls (put kd xs' kvs) y.g fresh (fun c u q => ?_) (fun c u q => ?_) (fun c o hc q => ?_) ⟨?_, g.d, RepG.upd hnk upd_same rr y.g g.r hls.2 h1 fun c hc hne o q => ?_, g.nd⟩ (fun c hc => .inl hc) fun c hc => ⟨(n c hc).1, hG2 c hc⟩
      · rw [upd_ne (fun z => by rw [z, hG2 l (List.mem_cons_of_mem _ h5)] at q; cases q)]; exact y.sub c u q
      · rw [upd_ne (fun z => by rw [z, (n l (List.mem_cons_of_mem _ h5)).1] at q; cases q)]; exact kp3 _ _ (A1.e.h c u q)
      · rw [upd_ne (fun z => hc (by rw [z]; exact List.mem_cons_of_mem _ h5))]; exact kp3 c o q
      · rw [upd_ne (Ne.symm hla)]; exact kp3 _ _ g.h
      · rw [upd_ne hne]; exact kp3 c o q
  · -- the group is made
    have h2 : look kd kvs = none := by
      rcases g.r.look hnk with ⟨h1, h2⟩ | ⟨b1, l1, v1, d1, h1, _⟩
      · exact h2
      · rw [h1] at hn; cases hn
    have hG1L : G1 L = none := A1.sub.none hL
    have hH0L : H0 L = none := A1.e.h.free hL
    -- the state in between
    have hml : (upd (upd H1 L (.lst [])) a0 (hoD a0 ob')) L = some (.lst []) := by rw [upd_ne hLa]; exact upd_same
    have kpm : ∀ c o, c ≠ a0 → H1 c = some o → (upd (upd H1 L (.lst [])) a0 (hoD a0 ob')) c = some o := fun c o hc q => by rw [upd_ne hc]; exact kp2 c o q
    have mid : AIx X G0 H0 G1 (upd (upd H1 L (.lst [])) a0 (hoD a0 ob')) (σ.set i (some (.fg (put kd [] kvs)))) τ := by
      refine w G1 _ ob' (xs ++ [(nk, b, .ref L)]) (ls ++ [L]) (put kd [] kvs) (Sub.refl _) (fun _ z q => absurd z q) (fun c u q => kpm c u (fun z => by rw [z, (n a0 (by simp)).2] at q; cases q) (A1.sub c u q)) (fun c u q => kpm c u (fun z => by rw [z, (n a0 (by simp)).1] at q; cases q) (A1.e.h c u q)) (fun c o hc q => kpm c o (fun z => hc (by rw [z]; simp)) q) ⟨upd_same, d', ?_, ?_⟩ (fun c hc => ?_) fun c hc => ?_
      · rw [put_new h2]
        exact (g.r.keep (Sub.refl _) fun c hc o q => kpm c o (fun z => hls.1 (by rw [← z]; exact hc)) q).append (.cons hnk ht rb hml .nil .nil)
      · rw [← List.cons_append, List.nodup_append]
        exact ⟨g.nd, by simp, fun c hc d hd z => by
          obtain rfl := List.mem_singleton.mp hd
          subst z
          rcases List.mem_cons.mp hc with z | z
          · exact hLa z
          · exact hLs z⟩
      · rcases List.mem_append.mp hc with z | z
        · exact .inl z
        · obtain rfl := List.mem_singleton.mp z; exact .inr hL
      · rcases List.mem_cons.mp hc with rfl | z
        · exact n _ (by simp)
        · rcases List.mem_append.mp z with z | z
          · exact n c (List.mem_cons_of_mem _ z)
          · obtain rfl := List.mem_singleton.mp z; exact ⟨hH0L, hG1L⟩
    refine kk L G1 _ [] [] x1.g hml .nil (by rw [h2]; rfl) ?_ fun G2 H2 vs' xs' y rr => ?_
    · have := mid.set_none i τ rfl fun _ _ => rfl
      rw [List.set_set] at this
      exact this
    · have kp3 : ∀ c o, c ≠ a0 → H1 c = some o → H2 c = some o := fun c o hc q => y.h c o (kpm c o hc q)
      have hm0 : ∀ c, (upd (upd H1 L (.lst [])) a0 (hoD a0 ob')) c = none → H1 c = none := fun c q => by
        cases z : H1 c with
        | none => rfl
        | some o =>
          by_cases hc : c = a0
          · subst hc; rw [upd_same] at q; cases q
          · rw [kpm c o hc z] at q; cases q
      have fresh : ∀ c, G1 c = none → G2 c ≠ none → H1 c = none := fun c z q => hm0 c (y.new c z q)
      have hG2 : ∀ c, G1 c = none → (upd (upd H1 L (.lst [])) a0 (hoD a0 ob')) c ≠ none → G2 c = none := fun c h1 h2 => by
        cases q : G2 c with
        | none => rfl
        | some u => exact absurd (y.new c h1 (by rw [q]; exact fun q => nomatch q)) h2
      have hG2a : G2 a0 = none := hG2 a0 (n a0 (by simp)).2 (by rw [upd_same]; exact fun q => nomatch q)
      have hG2L : G2 L = none := hG2 L hG1L (by rw [hml]; exact fun q => nomatch q)
      refine w G2 _ ob' (xs ++ [(nk, b, .ref L)]) (ls ++ [L]) (put kd xs' kvs) y.g fresh (fun c u q => ?_) (fun c u q => ?_) (fun c o hc q => ?_) ⟨?_, d', ?_, ?_⟩ (fun c hc => ?_) fun c hc => ?_
      · rw [upd_ne (fun z => by rw [z, hG2L] at q; cases q)]; exact y.sub c u q
      · rw [upd_ne (fun z => by rw [z, hH0L] at q; cases q)]; exact kp3 c u (fun z => by rw [z, (n a0 (by simp)).1] at q; cases q) (A1.e.h c u q)
      · rw [upd_ne (fun z => by rw [z, hL] at q; cases q)]; exact kp3 c o (fun z => hc (by rw [z]; simp)) q
      · rw [upd_ne (Ne.symm hLa)]; exact y.h _ _ upd_same
      · rw [put_new h2]
        refine (g.r.keep y.g fun c hc o q => ?_).append (.cons hnk ht (rb.mono y.g) upd_same rr .nil)
        rw [upd_ne (fun z => hLs (by rw [← z]; exact hc))]
        exact kp3 c o (fun z => hls.1 (by rw [← z]; exact hc)) q
      · rw [← List.cons_append, List.nodup_append]
        exact ⟨g.nd, by simp, fun c hc d hd z => by
          obtain rfl := List.mem_singleton.mp hd
          subst z
          rcases List.mem_cons.mp hc with z | z
          · exact hLa z
          · exact hLs z⟩
      · rcases List.mem_append.mp hc with z | z
        · exact .inl z
        · obtain rfl := List.mem_singleton.mp z; exact .inr hL
      · rcases List.mem_cons.mp hc with rfl | z
        · exact ⟨(n _ (by simp)).1, hG2a⟩
        · rcases List.mem_append.mp z with z | z
          · refine ⟨(n c (List.mem_cons_of_mem _ z)).1, hG2 c (n c (List.mem_cons_of_mem _ z)).2 ?_⟩
            obtain ⟨o, ho⟩ := g.r.at c z
            rw [kpm c o (fun q => hls.1 (by rw [← q]; exact z)) ho]
            exact fun q => nomatch q
          · obtain rfl := List.mem_singleton.mp z; exact ⟨hH0L, hG2L⟩
theorem ps_gapp (hu : X.A.units + 66 < cLine) {i : Nat} {x : Str} {k e : E} {xk ex : Expr} {p apos cpos lp apos2 cpos2 pos : Pos} (hN : X.N[i]? = some x) (hv : Vis X.env.scope x) (hd : (x == ("__debug__" : Str)) = false) (hcd : (x == ("__classdict__" : Str)) = false) (hk : Snd X cl k xk) (hp : plainE xk = true) (he : Snd X cl e ex) (hpe : plainE ex = true)
    (hline : (apos.endLine == cpos.line) = true) (hline2 : (apos2.endLine == cpos2.line) = true) :
    PS X (.Expr (.Call (.Attribute (.Call (.Attribute (.Name x p) "setdefault" apos) [xk, .List [] lp] [] cpos) "append" apos2) [ex] [] cpos2) pos) (tS X (denS cl (.gapp i k e))) := by
  have hfew : ((backTo cpos2 (starEach [ex] X.env)).all (fun x => !x.1) && (backToKw cpos2 (keywordEach [] X.env)).all (fun x => x.1.isSome)
      && decide (([ex] : List Expr).length + ([] : List Keyword).length + (if ([] : List Keyword).isEmpty then 0 else 1) < 30)) = true := by
    rw [star_plainE hpe []]; rfl
  refine PS_imp (ps_expr (pe_bm (T := "list") (id := "list.append") F.plainAttrs_list F.slot_list_append F.type_list_append mt_append (pe_setd hu hN hv hd hcd hk hp hline) (snd_F (.cons he .nil) (by simpa using hpe)) (attrBase rfl _ _ _) hfew hline2 (star_plainE hpe _ _) rfl) rfl) fun D τ H q => ?_
  obtain ⟨G0, H0, G, σ, A, k⟩ := q
  simp only [denS] at k
  obtain ⟨kr, e1, k⟩ := out_ok k
  obtain ⟨kd, e2, k⟩ := out_ok k
  obtain ⟨r, e3, k⟩ := out_ok k
  obtain ⟨d, e4, k⟩ := out_ok k
  obtain ⟨s, e5, k⟩ := out_ok k
  obtain ⟨s', e6, k⟩ := out_ok k
  obtain ⟨kvs, hg, ht, hc⟩ := gput_cases e6
  refine grp_road A e1 e2 (slotR_ e5) hg ht (fun hn => ?_) fun l G1 H1 vs xs sg hl rr ex A1 w => ⟨.inl ⟨rfl, vs, SqL.of hl⟩, G0, H0, G1, _, [d], A1, by simp only [denF, e3, e4, Res.bind_ok], fun G2 H2 us x2 ru => ?_⟩
  · rcases hc with ⟨xs, h1, _⟩ | ⟨_, h2, _⟩
    · rw [h1] at hn; cases hn
    · exact h2
  · cases ru with
    | cons rv rn =>
      cases rn
      have hx : xs.length < LINE ∧ s' = .fg (put kd (xs ++ [d]) kvs) := by
        rcases hc with ⟨ys, h1, h2, h3⟩ | ⟨h1, _, h3⟩
        · rw [h1] at ex; cases ex; exact ⟨h2, h3⟩
        · rw [h1] at ex; cases ex; exact ⟨by show (0 : Nat) < 16777216; omega, h3⟩
      refine ⟨l, vs, _, rfl, rfl, x2.h _ _ hl, by rw [rr.length, ← line_eq]; exact hx.1, ?_⟩
      rw [hx.2] at k
      exact k _ G2 _ (w G2 H2 _ _ x2 ((rr.mono x2.g).append (.cons rv .nil))) (sg.trans x2.g)
end OH

namespace OH
open PySem L2 PySem.Spec PyProof.Rows
variable {X : Cx} {cl : Nat → List D → Res RV} {ck : Ck}
theorem Res.out_then {α : Type} (r : Res α) (f : α → Out) (p : ASt → Out) : (r.out f).then p = r.out fun a => (f a).then p := by cases r <;> rfl
theorem pss_gapp2 (SS : SXS cl ck X) {i j : Nat} {x y : Str} {k e : E} {xk ex : Expr} {p p0 p3 apos cpos lp apos2 cpos2 pos pos2 : Pos} {rest : List Stmt} {pp : ASt → Out} (hN : X.N[i]? = some x) (hv : Vis X.env.scope x) (hd : (x == ("__debug__" : Str)) = false) (hcd : (x == ("__classdict__" : Str)) = false)
    (hj : NameAt X j y) (hvj : Vis X.env.scope y) (hdj : (y == ("__debug__" : Str)) = false) (hcdj : (y == ("__classdict__" : Str)) = false) (hk : Snd X cl k xk) (hp : plainE xk = true) (he : Snd X cl e ex) (hpe : plainE ex = true)
    (hline : (apos.endLine == cpos.line) = true) (hline2 : (apos2.endLine == cpos2.line) = true) (hr : PSs X rest (tS X pp)) :
    PSs X (.Assign [.Name y p0] (.Call (.Attribute (.Name x p) "setdefault" apos) [xk, .List [] lp] [] cpos) pos :: .Expr (.Call (.Attribute (.Name y p3) "append" apos2) [ex] [] cpos2) pos2 :: rest) (tS X fun σ => (denS cl (.gapp2 j i k e) σ).then pp) := by
  have h1 : PS X (.Assign [.Name y p0] (.Call (.Attribute (.Name x p) "setdefault" apos) [xk, .List [] lp] [] cpos) pos) _ := ps_set SS.x.nd hj.ix hj.loc (pe_setd SS.x.hu hN hv hd hcd hk hp hline) (noSwap rfl _ _ _) hj.fn
  have h2 := ps_meth (T := "list") (id := "list.append") (p := p3) (apos := apos2) (cpos := cpos2) F.plainAttrs_list F.slot_list_append F.type_list_append mt_append hj.ix hvj hdj hcdj (snd_F (.cons he .nil) (by simpa using hpe)) (by simpa using hpe) (by simp) hline2
  refine PSs_imp (pss_cons h1 (pss_cons (ps_expr (pos := pos2) h2 rfl) hr)) fun D τ H q => ?_
  obtain ⟨G0, H0, G, σ, A, k⟩ := q
  replace k : OutK X D G0 H0 G ((denS cl (.gapp2 j i _ e) σ).then pp) := k
  simp only [denS, Res.out_then] at k
  obtain ⟨kr, e1, k⟩ := out_ok k
  obtain ⟨kd, e2, k⟩ := out_ok k
  obtain ⟨r, e3, k⟩ := out_ok k
  obtain ⟨d, e4, k⟩ := out_ok k
  obtain ⟨s, e5, k⟩ := out_ok k
  obtain ⟨s', e6, k⟩ := out_ok k
  obtain ⟨kvs, hg, ht, hc⟩ := gput_cases e6
  by_cases hij0 : i = j ∨ σ.length ≤ j
  · rw [if_pos hij0] at k; exact k.elim
  rw [if_neg hij0] at k
  have hij : i ≠ j := fun z => hij0 (.inl z)
  have hjN : j < σ.length := Nat.lt_of_not_le fun z => hij0 (.inr z)
  simp only [Out.then_nx] at k
  refine grp_road A e1 e2 (slotR_ e5) hg ht (fun hn => ?_) fun l G1 H1 vs xs sg hl rr ex A1 w => ?_
  · rcases hc with ⟨xs, h1, _⟩ | ⟨_, h2, _⟩
    · rw [h1] at hn; cases hn
    · exact h2
  · have hjl : j < τ.length := by
      rw [← A.len]
      exact hjN
    have tj : (τ.set j (some (.ref l)))[j]? = some (some (.ref l)) := List.getElem?_set_self hjl
    refine ⟨.ref l, tj, .inl ⟨rfl, vs, SqL.of hl⟩, G0, H0, G1, (σ.set j none).set i none, [d], ?_, by simp only [denF, e3, e4, Res.bind_ok], fun G2 H2 us x2 ru => ?_⟩
    · rw [List.set_comm _ _ (Ne.symm hij)]
      exact A1.set_none j _ (by simp) fun m hm => by rw [List.getElem?_set_ne (Ne.symm hm)]
    · cases ru with
      | cons rv rn =>
        cases rn
        have hx : xs.length < LINE ∧ s' = .fg (put kd (xs ++ [d]) kvs) := by
          rcases hc with ⟨ys, h1, h2, h3⟩ | ⟨h1, _, h3⟩
          · rw [h1] at ex; cases ex; exact ⟨h2, h3⟩
          · rw [h1] at ex; cases ex; exact ⟨by show (0 : Nat) < 16777216; omega, h3⟩
        refine ⟨l, vs, _, rfl, rfl, x2.h _ _ hl, by rw [rr.length, ← line_eq]; exact hx.1, ?_⟩
        refine ⟨G0, H0, G2, _, ?_, OutK.sub (sg.trans x2.g) k⟩
        rw [hx.2, List.set_comm _ _ (Ne.symm hij)]
        exact (w G2 H2 _ _ x2 ((rr.mono x2.g).append (.cons rv .nil))).set_none j _ (by simp) fun m hm => by rw [List.getElem?_set_ne (Ne.symm hm)]
end OH
end

section
set_option autoImplicit false
set_option linter.all false
set_option Elab.async false
set_option maxRecDepth 100000
set_option maxHeartbeats 4000000
namespace OH
open PySem L2 PySem.Spec PyProof.Rows
variable {cl : Nat → List D → Res RV} {ck : Ck} {X : Cx}
theorem swap_some {ex : Expr} (h : noComp ex = false) (t : Str) (q : Pos) (l : Nat) (env : Env) : ∃ b, swapsWith ex (some (.Name t q)) l env = pure b ∧ (b = true → env.kindOf t = some .local) := by
  cases ex <;> first
    | (simp [noComp] at h; done)
    | (refine ⟨_, rfl, fun hb => ?_⟩
       simp only [Bool.and_eq_true] at hb
       exact eq_of_beq hb.1.1.2)
theorem ps_asgAny (SS : SXS cl ck X) {i : Nat} {x : Str} {e : E} {ex : Expr} {p pos : Pos} (h : NameAt X i x) (he : Snd X cl e ex) : PS X (.Assign [.Name x p] ex pos) (tAsg (tE X cl e) (gName i)) := by
  cases hn : noComp ex with
  | true => exact ps_assign SS h he hn
  | false =>
    obtain ⟨b, hb, hl⟩ := swap_some hn x p pos.line X.env
    cases b with
    | true => exact he.as hn i x p pos h.ix (hl rfl) hb
    | false => exact ps_set SS.x.nd h.ix h.loc he.pe hb h.fn
def noTup : Expr → Bool
  | .Tuple _ _ _ => false
  | _ => true
theorem swapped_none {ex : Expr} (h : noTup ex = true) (tg : Expr) (env : Env) : swappedStores [tg] ex env = pure none := by
  unfold swappedStores
  cases ex <;> first
    | (simp [noTup] at h; done)
    | (cases tg <;> rfl)
theorem assignEach_tup (es : List Expr) (k : Nat) (p : Pos) (env : Env) : (assignEach [.Tuple es k p] env).map (·.2) = [assign (.Tuple es k p) env] := rfl
/-- a name that is read -/
def nmV (ck : Ck) (i : Nat) (ex : Expr) : Bool := match asName ex with | some x => decide (ck.N[i]? = some x) && isVis ck x && nameOk x | none => false
/-- a name that is stored -/
def nmS (ck : Ck) (i : Nat) (ex : Expr) : Bool := match asName ex with | some x => decide (ck.N[i]? = some x) && ck.asg x | none => false
theorem nmV_ok (S : SX cl ck X) {i : Nat} {ex : Expr} (h : nmV ck i ex = true) : ∃ x p, ex = .Name x p ∧ X.N[i]? = some x ∧ Vis X.env.scope x ∧ (x == ("__debug__" : Str)) = false ∧ (x == ("__classdict__" : Str)) = false := by
  unfold nmV at h
  split at h
  · rename_i x e
    obtain ⟨p, rfl⟩ := asName_eq e
    simp only [Bool.and_eq_true, decide_eq_true_eq] at h
    exact ⟨x, p, rfl, by rw [S.N]; exact h.1.1, S.isVis h.1.2, (nameOk_ h.2).1, (nameOk_ h.2).2⟩
  · cases h
theorem nmS_ok (S : SX cl ck X) {i : Nat} {ex : Expr} (h : nmS ck i ex = true) : ∃ x p, ex = .Name x p ∧ NameAt X i x := by
  unfold nmS at h
  split at h
  · rename_i x e
    obtain ⟨p, rfl⟩ := asName_eq e
    simp only [Bool.and_eq_true, decide_eq_true_eq] at h
    obtain ⟨a, b⟩ := S.asg x h.2
    exact ⟨x, p, rfl, by rw [S.N]; exact h.1, a, b⟩
  · cases h
def isFrz : S → Option Nat
  | .frz i => some i
  | _ => none
def asGapp2 : S → Option (Nat × Nat × E × E)
  | .gapp2 j i k e => some (j, i, k, e)
  | _ => none
def isVarE : E → Option Nat
  | .var i => some i
  | _ => none
mutual
def chkS (ck : Ck) : S → Stmt → Bool
  | .set t e, st => (match st with
    | .Assign [tg] ex _ => chkE ck e ex && (match t with | .n i => nmS ck i tg | t => chkTg ck t tg && noComp ex && noTup ex && isTupTg tg)
    | _ => false)
  | .own i e, st => (match st with | .Assign [tg] ex _ => chkE ck e ex && nmS ck i tg | _ => false)
  | .par i j a b, st => false
  | .frz i, st => false
  | .app i e, st => (match st with | .Expr c _ => (match asMeth c with | some (o, m, [x]) => decide (m = "append") && nmV ck i o && plainE x && chkE ck e x | _ => false) | _ => false)
  | .ext i e, st => (match st with | .Expr c _ => (match asMeth c with | some (o, m, [x]) => decide (m = "extend") && nmV ck i o && plainE x && chkE ck e x | _ => false) | _ => false)
  | .ins i k e, st => false
  | .pop i ks, st => false
  | .setpop j i ks, st => false
  | .apppop j i k, st => (match st with
    | .Expr c _ => (match asMeth c with
    | some (o, m, [c2]) => (match asMeth c2 with | some (o2, m2, [xk]) => decide (m = "append") && nmV ck j o && decide (m2 = "pop") && nmV ck i o2 && plainE xk && chkE ck k xk | _ => false)
    | _ => false)
    | _ => false)
  | .seti i k e, st => (match st with | .Assign [.Subscript o xk _] ex _ => nmV ck i o && plainE xk && chkE ck k xk && chkE ck e ex | _ => false)
  | .augi i o k e, st => false
  | .del i k, st => false
  | .gapp i k e, st => (match st with
    | .Expr c _ => (match asMeth c with
    | some (c1, m, [x]) => (match asMeth c1 with | some (o, m2, [xk, .List [] _]) => decide (m = "append") && decide (m2 = "setdefault") && nmV ck i o && plainE xk && chkE ck k xk && plainE x && chkE ck e x | _ => false)
    | _ => false)
    | _ => false)
  | .gapp2 j i k e, st => false
  | .aug i o e, st => false
  | .ife c a b, st => (match st with | .If xc xa xb _ => okT xc && chkE ck c xc && chkSs ck a xa && chkSs ck b xb | _ => false)
  | .whl c a, st => (match st with | .While xc xa [] _ => okT xc && chkE ck c xc && chkSs ck a xa | _ => false)
  | .for t k src a, st => (match st with
    | .For tg iter xa [] _ => (match itArgs ck tg k iter with
      | some xs => xs.all plainE && chkEs ck src xs && plainE iter && chkTg ck t tg && chkSs ck a xa
      | none => false)
    | _ => false)
  | .ret e, st => (match st with | .Return (some ex) _ => (match isVarE e with | some i => nmV ck i ex | none => chkE ck e ex) | _ => false)
  | .retn, st => (match st with | .Return none _ => true | _ => false)
  | .brk, st => (match st with | .Break _ => true | _ => false)
  | .pass, st => (match st with | .Pass _ => true | _ => false)
  | .exp e, st => (match st with | .Expr ex _ => chkE ck e ex && noComp ex | _ => false)
  | .raise c es, st => true
def chkSs (ck : Ck) : List S → List Stmt → Bool
  | [], xs => xs.isEmpty
  | s :: r, xs => match isFrz s with
    | some _ => chkSs ck r xs
    | none => match asGapp2 s with
      | some (j, i, k, e) => (match xs with
        | .Assign [y] c1 _ :: .Expr c2 _ :: rest => (match asMeth c1, asMeth c2 with
          | some (o, m, [xk, .List [] _]), some (o2, m2, [x]) => decide (m = "setdefault") && decide (m2 = "append") && nmV ck i o && nmS ck j y && nmV ck j o2 && decide (asName y = asName o2) && plainE xk && chkE ck k xk && plainE x && chkE ck e x && chkSs ck r rest
          | _, _ => false)
        | _ => false)
      | none => (match xs with | x :: xs => chkS ck s x && chkSs ck r xs | [] => false)
end
theorem isFrz_eq {s : S} {i : Nat} (h : isFrz s = some i) : s = .frz i := by cases s <;> simp only [isFrz, reduceCtorEq] at h; cases h; rfl
theorem asGapp2_eq {s : S} {j i : Nat} {k e : E} (h : asGapp2 s = some (j, i, k, e)) : s = .gapp2 j i k e := by cases s <;> simp only [asGapp2, reduceCtorEq] at h; cases h; rfl
theorem isVarE_eq {e : E} {i : Nat} (h : isVarE e = some i) : e = .var i := by cases e <;> simp only [isVarE, reduceCtorEq] at h; cases h; rfl
theorem isVarE_no {e : E} (h : isVarE e = none) : ∀ i, e ≠ .var i := by rintro i rfl; cases h
set_option maxHeartbeats 8000000 in
mutual
theorem soundS : ∀ (s : S) (ck : Ck) (X : Cx) (st : Stmt), SXS cl ck X → chkS ck s st = true → PS X st (tS X (denS cl s))
  | .set t e, ck, X, st, SS, h => by
    simp only [chkS] at h
    split at h
    · rename_i tg ex pos
      rw [Bool.and_eq_true] at h
      have he := soundE e ck X ex SS.x h.1
      have h2 := h.2
      split at h2
      · obtain ⟨x, p, rfl, nm⟩ := nmS_ok SS.x h2
        exact PS_imp (ps_asgAny SS nm he) fun D τ H q => set_read q
      · simp only [Bool.and_eq_true] at h2
        obtain ⟨⟨⟨g1, g2⟩, g3⟩, g4⟩ := h2
        have hg := chkTg_ok SS.x g1
        cases tg <;> first | (simp [isTupTg] at g4; done) | exact ps_setTup SS hg he g2 (swapped_none g3 _ _) (assignEach_tup _ _ _ _)
    · cases h
  | .own i e, ck, X, st, SS, h => by
    simp only [chkS] at h
    split at h
    · rw [Bool.and_eq_true] at h
      obtain ⟨x, p, rfl, nm⟩ := nmS_ok SS.x h.2
      exact PS_imp (ps_asgAny SS nm (soundE e ck X _ SS.x h.1)) fun D τ H q => own_read q
    · cases h
  | .par i j a b, ck, X, st, SS, h => by simp [chkS] at h
  | .frz i, ck, X, st, SS, h => by simp [chkS] at h
  | .app i e, ck, X, st, SS, h => by
    simp only [chkS] at h
    split at h
    · split at h
      · rename_i c pos o m x e1
        simp only [Bool.and_eq_true, decide_eq_true_eq] at h
        obtain ⟨⟨⟨rfl, h2⟩, h3⟩, h4⟩ := h
        obtain ⟨apos, cpos, rfl, hl⟩ := asMeth_eq e1
        obtain ⟨y, p, rfl, hN, hv, hd, hcd⟩ := nmV_ok SS.x h2
        exact ps_app hN hv hd hcd (soundE e ck X _ SS.x h4) h3 hl
      · cases h
    · cases h
  | .ext i e, ck, X, st, SS, h => by
    simp only [chkS] at h
    split at h
    · split at h
      · rename_i c pos o m x e1
        simp only [Bool.and_eq_true, decide_eq_true_eq] at h
        obtain ⟨⟨⟨rfl, h2⟩, h3⟩, h4⟩ := h
        obtain ⟨apos, cpos, rfl, hl⟩ := asMeth_eq e1
        obtain ⟨y, p, rfl, hN, hv, hd, hcd⟩ := nmV_ok SS.x h2
        exact ps_ext hN hv hd hcd (soundE e ck X _ SS.x h4) h3 hl
      · cases h
    · cases h
  | .ins i k e, ck, X, st, SS, h => by simp [chkS] at h
  | .pop i ks, ck, X, st, SS, h => by simp [chkS] at h
  | .setpop j i ks, ck, X, st, SS, h => by simp [chkS] at h
  | .apppop j i k, ck, X, st, SS, h => by
    simp only [chkS] at h
    split at h
    · split at h
      · rename_i c pos o m c2 e1
        split at h
        · rename_i o2 m2 xk e2
          simp only [Bool.and_eq_true, decide_eq_true_eq] at h
          obtain ⟨⟨⟨⟨⟨rfl, h2⟩, rfl⟩, h4⟩, h5⟩, h6⟩ := h
          obtain ⟨apos, cpos, rfl, hl⟩ := asMeth_eq e1
          obtain ⟨apos2, cpos2, rfl, hl2⟩ := asMeth_eq e2
          obtain ⟨y, p, rfl, hN, hv, hd, hcd⟩ := nmV_ok SS.x h2
          obtain ⟨y2, p2, rfl, hN2, hv2, hd2, hcd2⟩ := nmV_ok SS.x h4
          exact ps_apppop hN hv hd hcd hN2 hv2 hd2 hcd2 (soundE k ck X _ SS.x h6) h5 hl hl2
        · cases h
      · cases h
    · cases h
  | .seti i k e, ck, X, st, SS, h => by
    simp only [chkS] at h
    split at h
    · simp only [Bool.and_eq_true] at h
      obtain ⟨⟨⟨h1, h2⟩, h3⟩, h4⟩ := h
      obtain ⟨y, p, rfl, hN, hv, hd, hcd⟩ := nmV_ok SS.x h1
      exact ps_seti SS.x.hu hN hv hd hcd (soundE e ck X _ SS.x h4) (soundE k ck X _ SS.x h3) h2
    · cases h
  | .augi i o k e, ck, X, st, SS, h => by simp [chkS] at h
  | .del i k, ck, X, st, SS, h => by simp [chkS] at h
  | .gapp i k e, ck, X, st, SS, h => by
    simp only [chkS] at h
    split at h
    · split at h
      · rename_i c pos c1 m x e1
        split at h
        · rename_i o m2 xk lp e2
          simp only [Bool.and_eq_true, decide_eq_true_eq] at h
          obtain ⟨⟨⟨⟨⟨⟨rfl, rfl⟩, h3⟩, h4⟩, h5⟩, h6⟩, h7⟩ := h
          obtain ⟨apos, cpos, rfl, hl⟩ := asMeth_eq e1
          obtain ⟨apos2, cpos2, rfl, hl2⟩ := asMeth_eq e2
          obtain ⟨y, p, rfl, hN, hv, hd, hcd⟩ := nmV_ok SS.x h3
          exact ps_gapp SS.x.hu hN hv hd hcd (soundE k ck X _ SS.x h5) h4 (soundE e ck X _ SS.x h7) h6 hl2 hl
        · cases h
      · cases h
    · cases h
  | .gapp2 j i k e, ck, X, st, SS, h => by simp [chkS] at h
  | .aug i o e, ck, X, st, SS, h => by simp [chkS] at h
  | .ife c a b, ck, X, st, SS, h => by
    simp only [chkS] at h
    split at h
    · simp only [Bool.and_eq_true] at h
      obtain ⟨⟨⟨h1, h2⟩, h3⟩, h4⟩ := h
      exact ps_ifS (soundE c ck X _ SS.x h2) h1 (soundSs a ck X _ SS h3) (soundSs b ck X _ SS h4)
    · cases h
  | .whl c a, ck, X, st, SS, h => by
    simp only [chkS] at h
    split at h
    · simp only [Bool.and_eq_true] at h
      exact ps_whl SS (soundE c ck X _ SS.x h.1.2) h.1.1 (soundSs a ck X _ SS h.2)
    · cases h
  | .for t k src a, ck, X, st, SS, h => by
    simp only [chkS] at h
    split at h
    · split at h
      · rename_i xs e1
        simp only [Bool.and_eq_true] at h
        obtain ⟨⟨⟨⟨h1, h2⟩, h3⟩, h4⟩, h5⟩ := h
        exact ps_forS SS (itArgs_ok SS.x e1 h1 (soundEs src ck X _ SS.x h2)) (chkTg_ok SS.x h4) h3 (soundSs a ck X _ SS h5)
      · cases h
    · cases h
  | .ret e, ck, X, st, SS, h => by
    simp only [chkS] at h
    split at h
    · split at h
      · rename_i i e1
        obtain rfl := isVarE_eq e1
        obtain ⟨y, p, rfl, hN, hv, hd, hcd⟩ := nmV_ok SS.x h
        exact ps_retV hN hv hd hcd
      · rename_i e1
        exact ps_ret1 (soundE e ck X _ SS.x h) (isVarE_no e1)
    · cases h
  | .retn, ck, X, st, SS, h => by
    simp only [chkS] at h
    split at h
    · exact ps_ret0
    · cases h
  | .brk, ck, X, st, SS, h => by
    simp only [chkS] at h
    split at h
    · exact ps_brkS
    · cases h
  | .pass, ck, X, st, SS, h => by
    simp only [chkS] at h
    split at h
    · exact ps_passS
    · cases h
  | .exp e, ck, X, st, SS, h => by
    simp only [chkS] at h
    split at h
    · rw [Bool.and_eq_true] at h
      exact ps_exp (soundE e ck X _ SS.x h.1) h.2
    · cases h
  | .raise c es, ck, X, st, SS, h => ps_raise
theorem soundSs : ∀ (ss : List S) (ck : Ck) (X : Cx) (sts : List Stmt), SXS cl ck X → chkSs ck ss sts = true → PSs X sts (tS X (denSs cl ss))
  | [], ck, X, sts, SS, h => by
    simp only [chkSs, List.isEmpty_iff] at h
    subst h
    have e : denSs cl [] = .nx := by funext σ; simp only [denSs]
    rw [e]; exact pss_nilS
  | s :: r, ck, X, sts, SS, h => by
    have e : denSs cl (s :: r) = fun σ => (denS cl s σ).then fun σ' => denSs cl r σ' := by funext σ; simp only [denSs]
    rw [e]
    simp only [chkSs] at h
    split at h
    · rename_i i e1
      obtain rfl := isFrz_eq e1
      refine PSs_imp (soundSs r ck X sts SS h) fun D τ H q => ?_
      obtain ⟨G0, H0, G, σ, A, k⟩ := q
      obtain ⟨G', s', A'⟩ := AI.frz A i
      simp only [denS, Out.then_nx] at k
      exact ⟨G0, H0, G', _, A', OutK.sub s' k⟩
    · split at h
      · rename_i j i k e1 e2
        obtain rfl := asGapp2_eq e2
        split at h
        · split at h
          · rename_i y c1 pos c2 pos2 rest _ _ o m xk lp o2 m2 x q1 q2
            simp only [Bool.and_eq_true, decide_eq_true_eq] at h
            obtain ⟨⟨⟨⟨⟨⟨⟨⟨⟨⟨rfl, rfl⟩, h3⟩, h4⟩, h5⟩, h6⟩, h7⟩, h8⟩, h9⟩, h10⟩, h11⟩ := h
            obtain ⟨apos, cpos, rfl, hl⟩ := asMeth_eq q1
            obtain ⟨apos2, cpos2, rfl, hl2⟩ := asMeth_eq q2
            obtain ⟨z, p, rfl, hN, hv, hd, hcd⟩ := nmV_ok SS.x h3
            obtain ⟨z2, p2, rfl, nm⟩ := nmS_ok SS.x h4
            obtain ⟨z3, p3, rfl, hN3, hv3, hd3, hcd3⟩ := nmV_ok SS.x h5
            cases h6
            exact pss_gapp2 SS hN hv hd hcd nm hv3 hd3 hcd3 (soundE _ ck X _ SS.x h8) h7 (soundE _ ck X _ SS.x h10) h9 hl hl2 (soundSs r ck X _ SS h11)
          · cases h
        · cases h
      · split at h
        · rw [Bool.and_eq_true] at h
          exact pss_consS (soundS s ck X _ SS h.1) (soundSs r ck X _ SS h.2)
        · cases h
end
end OH
end

section
set_option autoImplicit false
set_option linter.all false
set_option Elab.async false
set_option maxRecDepth 100000
set_option maxHeartbeats 1000000
namespace OH
open PySem L2 PySem.Spec PyProof.Rows
/-- a def as the module's text has it: its number, its name, its statement, its parameters, its names by slot -/
structure DefE where
  f : Nat
  x : Str
  st : Stmt
  ps : List Str
  N : List Str
def asgOf (sc : Scope) (x : Str) : Bool := match sc.names.lookup x with | some .local => true | some .cell => true | _ => false
/-- the checker's context of a def -/
def ckOf (N : List Str) (sc : Scope) (gl : Nat → Option (Str × D)) (fn : Nat → Option Str) : Ck := ⟨N, sc, asgOf sc, gl, fn⟩
def chkD (gl : Nat → Option (Str × D)) (fn : Nat → Option Str) (tbl : Nat → Option FDef) (d : DefE) : Bool :=
  match tbl d.f with
  | some fd => decide (d.ps.length = fd.params) && decide (d.N.length = fd.slots) && C8.scC d.N d.ps (C8.fnScope d.st) && chkSs (ckOf d.N (C8.fnScope d.st) gl fn) fd.body (C8.fnBody d.st)
  | none => false
section
variable {P : Program} {w : World} {K : PySem.W.Frag} {mg : Str → Option Value} {base : Heap}
/-- the module's side: constants and built-ins -/
structure ModOk (P : Program) (w : World) (K : PySem.W.Frag) (mg : Str → Option Value) (gl : Nat → Option (Str × D)) : Prop where
  gl : ∀ n x d, gl n = some (x, d) → ∃ v u, mg x = some u ∧ RelV v u ∧ (∀ G, Rep P w K G v d) ∧ ∀ ds, d = .tuple ds → ∀ H, tyV K "tuple" v H
  blt : ∀ x ∈ bltNames, mg x = none
/-- a def stands under its name and its parameters are bound -/
def DefAt (K : PySem.W.Frag) (mg : Str → Option Value) (d : DefE) : Prop := ∃ (fa : Addr) (fd : FuncData), C8.Def K mg d.x d.st fa fd ∧ ∀ us : List Value, us.length = d.ps.length → bindArgs fd ⟨us, []⟩ = pure (d.ps.zip us)
theorem ai_start {N : List Str} {G H : Hp} (sb : Sub G H) {vs : List V} {ds : List D} (r : Reps P w K G vs ds) {n : Nat} (hn : N.length = n) : AI P w K G H G H (startA n ds) (L2.start N vs) := by
  have hl := r.length
  refine ⟨Ext.refl sb, by unfold startA L2.start; simp [hl, hn], fun _ => [], fun i r' e => ?_, fun i j a h => by simp at h, fun _ => List.nodup_nil, fun i a h => by simp at h⟩
  unfold startA at e
  by_cases hi : i < ds.length
  · rw [List.getElem?_append_left (by simpa using hi), List.getElem?_map] at e
    obtain ⟨d, hd, e⟩ := Option.map_eq_some_iff.mp e
    cases e
    obtain ⟨v, hv, rv⟩ := r.get hd
    refine ⟨v, ?_, .inl ⟨d, rfl, rfl, rv⟩⟩
    unfold L2.start
    rw [List.getElem?_append_left (by rw [List.length_map, hl]; exact hi), List.getElem?_map, hv]
    rfl
  · rw [List.getElem?_append_right (by simpa using hi), List.getElem?_replicate] at e
    split at e <;> cases e
theorem fn_step {tbl : Nat → Option FDef} {gl : Nat → Option (Str × D)} {fn : Nat → Option Str} {d : DefE} {k : Nat} {fa : Addr} {fd : FuncData} (hc : chkD gl fn tbl d = true) (M : ModOk P w K mg gl) (F : C8.Def K mg d.x d.st fa fd)
    (callees : ∀ f x, fn f = some x → ∃ (fa : Addr) (fd : FuncData) (ps : List Str), FnOk P w K mg base CX0 k fa fd ps (spF P w K (run tbl k) f) ∧ mg x = some (.ref fa) ∧ PySem.W.keepIn K (.ref fa) = true ∧ Binds K fd ps []) :
    FnOk P w K mg base CX0 (k + 1) fa fd d.ps (spF P w K (run tbl (k + 1)) d.f) := by
  unfold chkD at hc
  split at hc
  · rename_i t ht
    simp only [Bool.and_eq_true, decide_eq_true_eq] at hc
    obtain ⟨⟨⟨h1, h2⟩, h3⟩, h4⟩ := hc
    have S := C8.fnScope_by h3
    refine C8.fn0 (N := d.N) F.fn S (fun vs H Q E h => ?_) fun cdv A outer s H vs Q E hr h => ?_
    · obtain ⟨G, ds, r, sb, rr, e, _⟩ := h
      simp only [run, ht] at e
      split at e
      · rename_i hl
        rw [rr.length, hl, h1]
      · cases e
    · obtain ⟨G, ds, r, sb, rr, e, q⟩ := h
      simp only [run, ht] at e
      split at e
      · rename_i hl
        refine ⟨_, soundSs (cl := run tbl k) t.body (ckOf d.N (C8.fnScope d.st) gl fn) _ _ ⟨⟨rfl, rfl, S.nd, rfl, ?_, M.gl, fun f x hf => ?_, M.blt, fun x hx => ⟨?_, .inl rfl⟩⟩, PassesOwn.never, ?_⟩ h4, ?_⟩
        · have := hr.un
          show (A.deeper _).units + 66 < cLine
          omega
        · obtain ⟨fa', fd', ps', q1, q2, q3, q4⟩ := callees f x hf
          exact ⟨k, fa', fd', ps', q1, hr, q2, q3, q4⟩
        · have hx' : asgOf (C8.fnScope d.st) x = true := hx
          unfold asgOf at hx'
          split at hx'
          · rename_i z; exact .inl z
          · rename_i z; exact .inr z
          · cases hx'
        · show (if (C8.fnScope d.st).kind.isAnnotationScope then ScopeKind.function else (C8.fnScope d.st).kind) = .function
          rw [S.kind]; rfl
        · refine ⟨G, H, G, startA t.slots ds, ai_start sb rr h2, ?_⟩
          cases e2 : denSs (run tbl k) t.body (startA t.slots ds) with
          | nx σ' =>
            rw [e2] at e; cases e
            exact fun τ' G' H' A' s' => q G' H' .non A'.e (.d .non)
          | rt r' => rw [e2] at e; cases e; exact fun v G' H' x rr' => q G' H' v x rr'
          | bk σ' => rw [e2] at e; cases e
          | er z => rw [e2] at e; cases e
          | bad => rw [e2] at e; cases e
      · cases e
  · cases hc
/-- all the defs of a law's text -/
theorem fns_ok {tbl : Nat → Option FDef} {gl : Nat → Option (Str × D)} {fn : Nat → Option Str} {L : List DefE} (hc : L.all (chkD gl fn tbl) = true) (M : ModOk P w K mg gl) (hfn : ∀ f x, fn f = some x → ∃ d ∈ L, d.f = f ∧ d.x = x) (hd : ∀ d ∈ L, DefAt K mg d) :
    ∀ k, ∀ d ∈ L, ∃ (fa : Addr) (fd : FuncData), C8.Def K mg d.x d.st fa fd ∧ Binds K fd d.ps [] ∧ FnOk P w K mg base CX0 k fa fd d.ps (spF P w K (run tbl k) d.f)
  | 0, d, hm => by
    obtain ⟨fa, fd, D, B⟩ := hd d hm
    refine ⟨fa, fd, D, .all B, fun vs H Q E h => ?_, fun A outer s H args us vs Q E _ _ _ _ h => ?_⟩
    · obtain ⟨G, ds, r, sb, rr, e, _⟩ := h
      simp only [run] at e; cases e
    · obtain ⟨G, ds, r, sb, rr, e, _⟩ := h
      simp only [run] at e; cases e
  | k + 1, d, hm => by
    obtain ⟨fa, fd, D, B⟩ := hd d hm
    refine ⟨fa, fd, D, .all B, fn_step (List.all_eq_true.mp hc d hm) M D fun f x hf => ?_⟩
    obtain ⟨d', hm', rfl, rfl⟩ := hfn f x hf
    obtain ⟨fa', fd', D', B', F'⟩ := fns_ok hc M hfn hd k d' hm'
    exact ⟨fa', fd', d'.ps, F', D'.mgf, D'.kp, B'⟩
end
end OH
end

section
set_option autoImplicit false
set_option linter.all false
set_option Elab.async false
set_option maxRecDepth 100000
set_option maxHeartbeats 1000000
namespace OH
open PySem L2 PySem.Spec PyProof.Rows
theorem reps_ints {P : Program} {w : World} {K : PySem.W.Frag} {G : Hp} : ∀ ns : List Int, Reps P w K G (ns.map V.int) (ns.map PyData.int)
  | [] => .nil
  | _ :: r => .cons (.int _) (reps_ints r)
theorem defAt_mk {K : PySem.W.Frag} {h : Heap} {mg : Str → Option Value} (X : K.In h) (G : h.Ns mainGlobals mg) {d : DefE} {f : Addr} {od an : Option Addr} {sl : Array (Option Value)} {oc kV dc pm cd ct : Value}
    (a : PySem.W.nsIn K mainGlobals d.x = some (some (.ref f))) (l : K.lookup f = some ⟨oc, od, .func (PySem.W.fnOf d.x d.x (C8.fnArgs d.st) (C8.fnBody d.st) (C8.fnScope d.st) .none kV dc pm an cd ct), sl⟩)
    (c : PySem.W.codeIn K cd d.x = true) (k : PySem.W.keepIn K (.ref f) = true)
    (hb : ∀ (kV doc pm : Value) (an : Option Addr) (cdv ct : Value) (us : List Value), us.length = d.ps.length → bindArgs (PySem.W.fnOf d.x d.x (C8.fnArgs d.st) (C8.fnBody d.st) (C8.fnScope d.st) .none kV doc pm an cdv ct) ⟨us, []⟩ = pure (d.ps.zip us)) : DefAt K mg d :=
  ⟨f, _, ⟨⟨oc, od, .none, kV, dc, pm, an, cd, ct, sl, rfl, l, c⟩, PySem.W.mg_of X G a, k⟩, hb kV dc pm an cd ct⟩
theorem walk_run {l : PySem.W.OpenLaw} {n k : Nat} {q : Program} {loose : List Str} {XP : (Str → Option Value) → Heap → Prop} {YP : World → Heap → Prop} {r : DefRec} {K : Params → PySem.W.Frag} {tbl : Nat → Option FDef} {gl : Nat → Option (Str × D)} {fn : Nat → Option Str} {L : List DefE} {d : DefE}
    (hn : l.most = some n) (hn2 : n ≤ sizeLine) (hdf : r.params.defaults = []) (hr : Room k callerA) (hY : ∀ (w : World) (h : Heap), YP w h → (K w.params).In h)
    (hc : L.all (chkD gl fn tbl) = true) (hfn : ∀ f x, fn f = some x → ∃ d ∈ L, d.f = f ∧ d.x = x) (hd : d ∈ L) (hx : d.x = r.name) {x : Str} (hps : d.ps = [x])
    (M : ∀ (w : World) (mg : Str → Option Value) (h : Heap), (K w.params).In h → h.Ns mainGlobals mg → ModOk l.prog w (K w.params) mg gl)
    (F : ∀ (w : World) (mg : Str → Option Value) (h : Heap), (K w.params).In h → h.Ns mainGlobals mg → ∀ d ∈ L, DefAt (K w.params) mg d)
    (pure : ∀ ns : List Int, ns.length ≤ n → (∀ z ∈ ns, Builtin.Int.intBits z ≤ 1048576) → run tbl k d.f [.list (ns.map .int)] = .ok (.d (.bool true))) :
    PySem.W.WalkO q loose XP YP l.row.toRowW r [] (fun f vs => PySem.call f vs) := by
  refine Att.attach_callB hn hdf fun w s₀ s₁ mg mb fa o pm cd doc a vs ns G Y ho hd' hcd hmg hobj hints hlen hbits hg => ?_
  have KX := hY w _ Y
  have key := fun base => fns_ok (P := l.prog) (w := w) (base := base) hc (M w mg _ KX G.T.g) hfn (F w mg _ KX G.T.g) k d hd
  obtain ⟨fa1, fd1, D1, B1⟩ := F w mg _ KX G.T.g d hd
  have e1 : fa1 = fa := by
    have := D1.mgf
    rw [hx, hmg] at this
    cases this; rfl
  subst e1
  refine law_call (k := k) (x := x) (fd := fd1) (sp := spF l.prog w (K w.params) (run tbl k) d.f) (CX := CX0) KX G.T.g G.T.b G.T.builtins G.T.nolimit hg hobj hints (Nat.le_trans hlen hn2) hr (fun base _ _ => ?_) (fun s u => ?_) (fun H hO hS => ?_) fun H e s' z => z
  · obtain ⟨fa2, fd2, D2, B2, F2⟩ := key base
    have e2 : fa2 = fa1 := by
      have h1 := D1.mgf
      have h2 := D2.mgf
      rw [h1] at h2; cases h2; rfl
    subst e2
    have e3 : fd2 = fd1 := by
      obtain ⟨_, _, _, _, _, _, _, _, _, _, _, q1, _⟩ := D1.fn.ex
      obtain ⟨_, _, _, _, _, _, _, _, _, _, _, q2, _⟩ := D2.fn.ex
      rw [q1] at q2; cases q2; rfl
    subst e3
    rw [← hps]; exact F2
  · have := B1 [u] (by rw [hps]; rfl)
    rw [hps] at this
    exact .of_eq this
  · refine ⟨H, [.list (ns.map .int)], _, Sub.refl _, .cons (.lst ?_ (reps_ints ns)) .nil, pure ns hlen hbits, fun G' H' v _ rr => ?_⟩
    · rcases hS with h | ⟨ob, its, m, hk, h1, h2, h3, h4, h5⟩
      · exact .inl h
      · have e0 := KX a ob hk
        rw [hobj] at e0
        cases e0
        cases h3
        exact .inr ⟨_, _, hk, h4, h5⟩
    · cases rr with
      | d h => cases h; rfl
      | own o _ _ => cases o
end OH
namespace OH
open PySem L2 PySem.Spec PyProof.Rows
/-- the names of the defs of a text -/
def fnL (L : List DefE) (f : Nat) : Option Str := (L.find? fun d => d.f == f).map (·.x)
theorem fnL_ok {L : List DefE} : ∀ f x, fnL L f = some x → ∃ d ∈ L, d.f = f ∧ d.x = x := fun f x h => by
  unfold fnL at h
  obtain ⟨d, hd, rfl⟩ := Option.map_eq_some_iff.mp h
  exact ⟨d, List.mem_of_find?_eq_some hd, by simpa using List.find?_some hd, rfl⟩
theorem defs_nil {K : PySem.W.Frag} {mg : Str → Option Value} : ∀ d ∈ ([] : List DefE), DefAt K mg d := fun _ h => by simp at h
theorem defs_cons {K : PySem.W.Frag} {mg : Str → Option Value} {a : DefE} {l : List DefE} (h : DefAt K mg a) (r : ∀ d ∈ l, DefAt K mg d) : ∀ d ∈ a :: l, DefAt K mg d := fun d hd => by
  rcases List.mem_cons.mp hd with rfl | hd
  · exact h
  · exact r d hd
/-- a module's int -/
theorem gl_int {P : Program} {w : World} {K : PySem.W.Frag} {h : Heap} {mg : Str → Option Value} (X : K.In h) (G : h.Ns mainGlobals mg) {x : Str} {i : Int} {t : Tok} (a : PySem.W.nsIn K mainGlobals x = some (some (.int i t))) :
    ∃ v u, mg x = some u ∧ RelV v u ∧ (∀ G, Rep P w K G v (.int i)) ∧ ∀ ds, PyData.int i = .tuple ds → ∀ H, tyV K "tuple" v H := ⟨.int i, _, PySem.W.mg_of X G a, ⟨t, rfl⟩, fun _ => .int _, fun _ e => by cases e⟩
/-- a module's tuple of texts -/
theorem gl_tup {P : Program} {w : World} {K : PySem.W.Frag} {h : Heap} {mg : Str → Option Value} (X : K.In h) (G : h.Ns mainGlobals mg) {x : Str} {p : Addr} {ys : List Str} {its : Array Value} {n : Nat} {sl : Array (Option Value)} (a : PySem.W.nsIn K mainGlobals x = some (some (.ref p)))
    (l : K.lookup p = some ⟨.type "tuple", none, .seq its n, sl⟩) (hz : its.size ≤ sizeLine) (hv : Vals (ys.map V.str) its.toList) :
    ∃ v u, mg x = some u ∧ RelV v u ∧ (∀ G, Rep P w K G v (.tuple (ys.map PyData.str))) ∧ ∀ ds, PyData.tuple (ys.map PyData.str) = .tuple ds → ∀ H, tyV K "tuple" v H := by
  have rs : ∀ (G : Hp) (zs : List Str), Reps P w K G (zs.map V.str) (zs.map PyData.str) := fun G zs => by
    induction zs with
    | nil => exact .nil
    | cons z zs ih => exact .cons (.str z) ih
  exact ⟨.ref p, _, PySem.W.mg_of X G a, rfl, fun G => .tup (.inr ⟨_, its, n, l, rfl, rfl, hz, hv⟩) (rs G ys), fun _ _ _ => .inr (.inl ⟨rfl, _, l, rfl, rfl⟩)⟩
theorem blt_nil {mg : Str → Option Value} : ∀ x ∈ ([] : List Str), mg x = none := fun _ h => by simp at h
theorem blt_cons {mg : Str → Option Value} {a : Str} {l : List Str} (h : mg a = none) (r : ∀ x ∈ l, mg x = none) : ∀ x ∈ a :: l, mg x = none := fun d hd => by
  rcases List.mem_cons.mp hd with rfl | hd
  · exact h
  · exact r d hd
end OH
end

section
set_option autoImplicit false
set_option linter.all false
set_option maxRecDepth 100000
namespace OH
def Out.sat (o : Out) (N B : ASt → Prop) (T : RV → Prop) : Prop :=
  match o with
  | .nx σ => N σ
  | .bk σ => B σ
  | .rt r => T r
  | _ => False
section
variable {N B : ASt → Prop} {T : RV → Prop}
@[simp] theorem sat_nx (σ : ASt) : (Out.nx σ).sat N B T = N σ := rfl
@[simp] theorem sat_bk (σ : ASt) : (Out.bk σ).sat N B T = B σ := rfl
@[simp] theorem sat_rt (r : RV) : (Out.rt r).sat N B T = T r := rfl
/-- what follows, as one name: simp does not look into it -/
def satK (f : ASt → Out) (N B : ASt → Prop) (T : RV → Prop) (σ : ASt) : Prop := (f σ).sat N B T
@[simp] theorem satK_app (f : ASt → Out) (σ : ASt) : satK f N B T σ = (f σ).sat N B T := rfl
@[simp] theorem sat_then (o : Out) (f : ASt → Out) : (o.then f).sat N B T = o.sat (satK f N B T) B T := by cases o <;> rfl
theorem sat_mono {o : Out} {N' B' : ASt → Prop} {T' : RV → Prop} (h : o.sat N B T) (hN : ∀ σ, N σ → N' σ) (hB : ∀ σ, B σ → B' σ) (hT : ∀ r, T r → T' r) : o.sat N' B' T' := by
  cases o with
  | nx σ => exact hN _ h
  | bk σ => exact hB _ h
  | rt r => exact hT _ h
  | er e => exact h
  | bad => exact h
/-- what holds in between -/
theorem sat_cut {o : Out} (Q : ASt → Prop) (h : o.sat Q (fun _ => False) (fun _ => False)) (hN : ∀ σ, Q σ → N σ) : o.sat N B T := sat_mono h hN (fun _ h => h.elim) (fun _ h => h.elim)
theorem sat_if {c : Prop} [Decidable c] {a b : Out} (h1 : c → a.sat N B T) (h2 : ¬c → b.sat N B T) : (if c then a else b).sat N B T := by
  split
  · exact h1 ‹_›
  · exact h2 ‹_›
theorem for_sat {α : Type} {enc : α → D} {xs : List α} {body : D → ASt → Out} {σ : ASt} (I : List α → ASt → Prop) (h0 : I [] σ)
    (hs : ∀ pre x post σ, xs = pre ++ x :: post → I pre σ → (body (enc x) σ).sat (I (pre ++ [x])) N T) (hN : ∀ σ, I xs σ → N σ) : (forL body (xs.map enc) σ).sat N B T := by
  have key : ∀ post pre σ, xs = pre ++ post → I pre σ → (forL body (post.map enc) σ).sat N B T := by
    intro post
    induction post with
    | nil => intro pre σ e i; simp at e; subst e; exact hN _ i
    | cons x post ih =>
      intro pre σ e i
      have := hs pre x post σ e i
      simp only [List.map_cons, forL]
      cases hb : body (enc x) σ with
      | nx σ' => rw [hb] at this; exact ih (pre ++ [x]) σ' (by simp [e]) this
      | bk σ' => rw [hb] at this; exact this
      | rt r => rw [hb] at this; exact this
      | er e => rw [hb] at this; exact this
      | bad => rw [hb] at this; exact this
  exact key xs [] σ rfl h0
/-- a loop without break and return -/
theorem for_nx {α : Type} {enc : α → D} {xs : List α} {body : D → ASt → Out} {σ : ASt} (I : List α → ASt → Prop) (h0 : I [] σ)
    (hs : ∀ pre x post σ, xs = pre ++ x :: post → I pre σ → (body (enc x) σ).sat (I (pre ++ [x])) (fun _ => False) (fun _ => False)) (hN : ∀ σ, I xs σ → N σ) : (forL body (xs.map enc) σ).sat N B T :=
  for_sat I h0 (fun pre x post σ e h => sat_mono (hs pre x post σ e h) (fun _ h => h) (fun _ h => h.elim) (fun _ h => h.elim)) hN
theorem whl_sat {test : ASt → Res Bool} {body : ASt → Out} (I : Nat → ASt → Prop)
    (hs : ∀ m σ, I m σ → ∃ c, test σ = .ok c ∧ (c = true → (body σ).sat (fun σ' => ∃ m', m' < m ∧ I m' σ') N T) ∧ (c = false → N σ)) {m fuel : Nat} {σ : ASt} (hf : m < fuel) (h : I m σ) : (whlN test body fuel σ).sat N B T := by
  induction fuel generalizing m σ with
  | zero => omega
  | succ n ih =>
    obtain ⟨c, e, h1, h2⟩ := hs m σ h
    simp only [whlN, e, Res.out_ok]
    cases c with
    | false => exact h2 rfl
    | true =>
      have := h1 rfl
      simp only [if_true]
      cases hb : body σ with
      | nx σ' => rw [hb] at this; obtain ⟨m', l, i⟩ := this; exact ih (by omega) i
      | bk σ' => rw [hb] at this; exact this
      | rt r => rw [hb] at this; exact this
      | er e => rw [hb] at this; exact this
      | bad => rw [hb] at this; exact this
end
/-- a claim that simp leaves whole -/
def Hide {α : Type} (p : α → Prop) (x : α) : Prop := p x
theorem endF_sat {o : Out} {r : RV} (h : o.sat (fun _ => r = .d .none) (fun _ => False) (fun r' => r' = r)) : endF o = .ok r := by
  cases o with
  | nx σ => have : r = .d .none := h; rw [this]; rfl
  | bk σ => exact h.elim
  | rt r' => have : r' = r := h; rw [this]; rfl
  | er e => exact h.elim
  | bad => exact h.elim
theorem run_sat {k f : Nat} {ds : List D} {fd : FDef} {r : RV} (h1 : tbl f = some fd) (h2 : ds.length = fd.params)
    (h : (denSs (run tbl k) fd.body (startA fd.slots ds)).sat (fun _ => r = .d .none) (fun _ => False) (fun r' => r' = r)) : run tbl (k + 1) f ds = .ok r := by
  simp only [run, h1, h2, if_true]
  exact endF_sat h
theorem run_ex {k f : Nat} {ds : List D} {fd : FDef} {P : RV → Prop} (h1 : tbl f = some fd) (h2 : ds.length = fd.params)
    (h : (denSs (run tbl k) fd.body (startA fd.slots ds)).sat (fun _ => P (.d .none)) (fun _ => False) P) : ∃ r, run tbl (k + 1) f ds = .ok r ∧ P r := by
  simp only [run, h1, h2, if_true]
  revert h
  cases denSs (run tbl k) fd.body (startA fd.slots ds) with
  | nx σ => exact fun h => ⟨_, rfl, h⟩
  | bk σ => exact fun h => h.elim
  | rt r' => exact fun h => ⟨_, rfl, h⟩
  | er e => exact fun h => h.elim
  | bad => exact fun h => h.elim
theorem run_hid {k f : Nat} {ds : List D} {fd : FDef} (P : RV → Prop) (h1 : tbl f = some fd) (h2 : ds.length = fd.params)
    (h : (denSs (run tbl k) fd.body (startA fd.slots ds)).sat (fun _ => Hide P (.d .none)) (fun _ => False) (Hide P)) : ∃ r, run tbl (k + 1) f ds = .ok r ∧ P r := run_ex (P := P) h1 h2 h
theorem collect_map {α β : Type} {enc : α → D} {f : D → Res (Option β)} (g : α → Option β) {xs : List α} (h : ∀ x ∈ xs, f (enc x) = .ok (g x)) : collect f (xs.map enc) = .ok (xs.filterMap g) := by
  induction xs with
  | nil => rfl
  | cons x xs ih =>
    simp only [List.map_cons, collect, h x (by simp), Res.bind_ok, ih (fun y hy => h y (by simp [hy]))]
    cases hg : g x <;> simp [List.filterMap_cons, hg]
theorem collect_fm {α β : Type} {enc : α → D} {f : D → Res (Option β)} (p : α → Bool) (e : α → β) {xs : List α} (h : ∀ x ∈ xs, f (enc x) = .ok (if p x then some (e x) else none)) : collect f (xs.map enc) = .ok ((xs.filter p).map e) := by
  rw [collect_map (fun x => if p x then some (e x) else none) h]
  congr 1
  clear h
  induction xs with
  | nil => rfl
  | cons x xs ih => by_cases hp : p x <;> simp [List.filterMap_cons, List.filter_cons, hp, ih]
theorem collect_all {α β : Type} {enc : α → D} {f : D → Res (Option β)} (e : α → β) {xs : List α} (h : ∀ x ∈ xs, f (enc x) = .ok (some (e x))) : collect f (xs.map enc) = .ok (xs.map e) := by
  rw [collect_fm (fun _ => true) e (by simpa using h), List.filter_eq_self.mpr (by simp)]
def bin2 (f : D → D → Res RV) (X Y : Res RV) : Res RV := X.bind fun x => Y.bind fun y => f x.val y.val
@[simp] theorem bin2_ok (f : D → D → Res RV) (x y : RV) : bin2 f (.ok x) (.ok y) = f x.val y.val := rfl
def boolR (X : Res Bool) : Res RV := X.bind fun c => .ok (.d (.bool c))
@[simp] theorem boolR_ok (c : Bool) : boolR (.ok c) = .ok (.d (.bool c)) := rfl
def cmp2 (o : COp) (X Y : Res RV) : Res RV := X.bind fun x => Y.bind fun y => boolR (cmpD o x.val y.val)
@[simp] theorem cmp2_ok (o : COp) (x y : RV) : cmp2 o (.ok x) (.ok y) = boolR (cmpD o x.val y.val) := rfl
def notB (X : Res Bool) : Res Bool := X.bind fun c => .ok (!c)
@[simp] theorem notB_ok (c : Bool) : notB (.ok c) = .ok (!c) := rfl
def tupR (X : Res (List D)) : Res RV := X.bind fun ds => .ok (.d (.tuple ds))
@[simp] theorem tupR_ok (ds : List D) : tupR (.ok ds) = .ok (.d (.tuple ds)) := rfl
def lstR (X : Res (List D)) : Res RV := X.bind fun ds => .ok (.fl ds)
@[simp] theorem lstR_ok (ds : List D) : lstR (.ok ds) = .ok (.fl ds) := rfl
def negR (X : Res RV) : Res RV := X.bind fun x => match x.val with | .int i => .ok (.d (.int (-i))) | _ => .bad
@[simp] theorem negR_ok (i : Int) : negR (.ok (.d (.int i))) = .ok (.d (.int (-i))) := rfl
def truthOf (X : Res RV) : Res Bool := X.bind fun x => truthR x.val
@[simp] theorem truthOf_ok (x : RV) : truthOf (.ok x) = truthR x.val := rfl
def notR (X : Res RV) : Res RV := boolR (notB (truthOf X))
def chain2 (K : Res Bool) (o : COp) (y : RV) (C : Res RV) : Res RV := K.bind fun k => if k then cmp2 o (.ok y) C else .ok (.d (.bool false))
@[simp] theorem chain2_ok (k : Bool) (o : COp) (y : RV) (C : Res RV) : chain2 (.ok k) o y C = if k then cmp2 o (.ok y) C else .ok (.d (.bool false)) := rfl
def chainR (o1 o2 : COp) (A B C : Res RV) : Res RV := A.bind fun x => B.bind fun y => chain2 (cmpD o1 x.val y.val) o2 y C
@[simp] theorem chainR_ok (o1 o2 : COp) (x y : RV) (C : Res RV) : chainR o1 o2 (.ok x) (.ok y) C = chain2 (cmpD o1 x.val y.val) o2 y C := rfl
def andR (X Y : Res RV) : Res RV := X.bind fun x => (truthR x.val).bind fun k => if k then Y else .ok x
@[simp] theorem andR_t (Y : Res RV) : andR (.ok (.d (.bool true))) Y = Y := rfl
@[simp] theorem andR_f (Y : Res RV) : andR (.ok (.d (.bool false))) Y = .ok (.d (.bool false)) := rfl
@[simp] theorem andR_b (b c : Bool) : andR (.ok (.d (.bool b))) (.ok (.d (.bool c))) = .ok (.d (.bool (b && c))) := by cases b <;> rfl
def orR (X Y : Res RV) : Res RV := X.bind fun x => (truthR x.val).bind fun k => if k then .ok x else Y
@[simp] theorem orR_t (Y : Res RV) : orR (.ok (.d (.bool true))) Y = .ok (.d (.bool true)) := rfl
@[simp] theorem orR_f (Y : Res RV) : orR (.ok (.d (.bool false))) Y = Y := rfl
@[simp] theorem orR_b (b c : Bool) : orR (.ok (.d (.bool b))) (.ok (.d (.bool c))) = .ok (.d (.bool (b || c))) := by cases b <;> rfl
def ifeR (C A B : Res RV) : Res RV := (truthOf C).bind fun k => if k then A else B
@[simp] theorem ifeR_b (b : Bool) (A B : Res RV) : ifeR (.ok (.d (.bool b))) A B = if b then A else B := rfl
def dR (X : Res D) : Res RV := X.bind fun z => .ok (.d z)
@[simp] theorem dR_ok (z : D) : dR (.ok z) = .ok (.d z) := rfl
def idxR (X Y : Res RV) : Res RV := X.bind fun x => Y.bind fun y => dR (getD x.val y.val)
@[simp] theorem idxR_ok (x y : RV) : idxR (.ok x) (.ok y) = dR (getD x.val y.val) := rfl
def slc3 (a : D) (L H : Res (Option Int)) : Res RV := L.bind fun l => H.bind fun h => slcD a l h
@[simp] theorem slc3_ok (a : D) (l h : Option Int) : slc3 a (.ok l) (.ok h) = slcD a l h := rfl
def slcR (A L H : Res RV) : Res RV := A.bind fun x => L.bind fun y => H.bind fun z => slc3 x.val (bndD y.val) (bndD z.val)
@[simp] theorem slcR_ok (x y z : RV) : slcR (.ok x) (.ok y) (.ok z) = slc3 x.val (bndD y.val) (bndD z.val) := rfl
def callK (b : Bool) (X : Res RV) : Res RV := X.bind fun r => callB b r
@[simp] theorem callK_ok (b : Bool) (r : RV) : callK b (.ok r) = callB b r := rfl
def callR (cl : Nat → List D → Res RV) (f : Nat) (X : Res (Bool × List D)) : Res RV := X.bind fun p => callK p.1 (cl f p.2)
@[simp] theorem callR_ok (cl : Nat → List D → Res RV) (f : Nat) (b : Bool) (l : List D) : callR cl f (.ok (b, l)) = callK b (cl f l) := rfl
def consV (X : Res RV) (Y : Res (Bool × List D)) : Res (Bool × List D) := X.bind fun r => Y.bind fun p => .ok (r.isB || p.1, r.val :: p.2)
@[simp] theorem consV_ok (r : RV) (b : Bool) (l : List D) : consV (.ok r) (.ok (b, l)) = .ok (r.isB || b, r.val :: l) := rfl
def consD (X : Res D) (Y : Res (List D)) : Res (List D) := X.bind fun r => Y.bind fun p => .ok (r :: p)
@[simp] theorem consD_ok (r : D) (l : List D) : consD (.ok r) (.ok l) = .ok (r :: l) := rfl
def frzOf (X : Res RV) : Res D := X.bind fun r => r.frz
@[simp] theorem frzOf_ok (r : RV) : frzOf (.ok r) = r.frz := rfl
def primR (p : Prim) (X : Res (Bool × List D)) : Res RV := X.bind fun q => primD p q.2
@[simp] theorem primR_ok (p : Prim) (b : Bool) (l : List D) : primR p (.ok (b, l)) = primD p l := rfl
def methR (m : Meth) (A : Res RV) (X : Res (Bool × List D)) : Res RV := A.bind fun x => X.bind fun q => methD m x.val q.2
@[simp] theorem methR_ok (m : Meth) (x : RV) (b : Bool) (l : List D) : methR m (.ok x) (.ok (b, l)) = methD m x.val l := rfl
def someR (X : Res D) : Res (Option D) := X.bind fun z => .ok (some z)
@[simp] theorem someR_ok (z : D) : someR (.ok z) = .ok (some z) := rfl
def lcK (C : Res Bool) (X : Res (Option D)) : Res (Option D) := C.bind fun c => if c then X else .ok none
@[simp] theorem lcK_ok (c : Bool) (X : Res (Option D)) : lcK (.ok c) X = if c then X else .ok none := rfl
def lcC (cl : Nat → List D → Res RV) (elt : E) (cond : List E) (σ : ASt) : Res (Option D) := lcK (denC cl cond σ) (someR (frzOf (denE cl elt σ)))
def lcS (X : Res ASt) (f : ASt → Res (Option D)) : Res (Option D) := X.bind f
@[simp] theorem lcS_ok (σ : ASt) (f : ASt → Res (Option D)) : lcS (.ok σ) f = f σ := rfl
def lcB (cl : Nat → List D → Res RV) (elt : E) (t : Tgt) (cond : List E) (own : List Nat) (σ : ASt) (d : D) : Res (Option D) := lcS (setT t d (wipeA σ own)) (lcC cl elt cond)
def flR (X : Res (List D)) : Res RV := X.bind fun ds => .ok (.fl ds)
@[simp] theorem flR_ok (ds : List D) : flR (.ok ds) = .ok (.fl ds) := rfl
def lcI (X : Res (List D)) (f : D → Res (Option D)) : Res RV := X.bind fun items => flR (collect f items)
@[simp] theorem lcI_ok (items : List D) (f : D → Res (Option D)) : lcI (.ok items) f = flR (collect f items) := rfl
def lcR (X : Res (Bool × List D)) (k : ItK) (f : D → Res (Option D)) : Res RV := X.bind fun q => lcI (itemsD k q.2) f
@[simp] theorem lcR_ok (b : Bool) (l : List D) (k : ItK) (f : D → Res (Option D)) : lcR (.ok (b, l)) k f = lcI (itemsD k l) f := rfl
def keyV (K V : Res D) : Res (Option (D × D)) := K.bind fun kz => V.bind fun z => if isKeyT kz then .ok (some (kz, z)) else .bad
@[simp] theorem keyV_ok (k v : D) : keyV (.ok k) (.ok v) = if isKeyT k then .ok (some (k, v)) else .bad := rfl
def dcK (C : Res Bool) (X : Res (Option (D × D))) : Res (Option (D × D)) := C.bind fun c => if c then X else .ok none
@[simp] theorem dcK_ok (c : Bool) (X : Res (Option (D × D))) : dcK (.ok c) X = if c then X else .ok none := rfl
def dcC (cl : Nat → List D → Res RV) (key val : E) (cond : List E) (σ : ASt) : Res (Option (D × D)) := dcK (denC cl cond σ) (keyV (frzOf (denE cl key σ)) (frzOf (denE cl val σ)))
def dcS (X : Res ASt) (f : ASt → Res (Option (D × D))) : Res (Option (D × D)) := X.bind f
@[simp] theorem dcS_ok (σ : ASt) (f : ASt → Res (Option (D × D))) : dcS (.ok σ) f = f σ := rfl
def dcB (cl : Nat → List D → Res RV) (key val : E) (t : Tgt) (cond : List E) (own : List Nat) (σ : ASt) (d : D) : Res (Option (D × D)) := dcS (setT t d (wipeA σ own)) (dcC cl key val cond)
def fdR (X : Res (List (D × D))) : Res RV := X.bind fun ps => .ok (.fd (putAll ps))
@[simp] theorem fdR_ok (ps : List (D × D)) : fdR (.ok ps) = .ok (.fd (putAll ps)) := rfl
def dcI (X : Res (List D)) (f : D → Res (Option (D × D))) : Res RV := X.bind fun items => fdR (collect f items)
@[simp] theorem dcI_ok (items : List D) (f : D → Res (Option (D × D))) : dcI (.ok items) f = fdR (collect f items) := rfl
def dcR (X : Res (Bool × List D)) (k : ItK) (f : D → Res (Option (D × D))) : Res RV := X.bind fun q => dcI (itemsD k q.2) f
@[simp] theorem dcR_ok (b : Bool) (l : List D) (k : ItK) (f : D → Res (Option (D × D))) : dcR (.ok (b, l)) k f = dcI (itemsD k l) f := rfl
section
variable (cl : Nat → List D → Res RV) (σ : ASt)
@[simp] theorem e_lit (d : D) : denE cl (.lit d) σ = .ok (.d d) := by simp only [denE]
@[simp] theorem e_gl (x : Nat) (d : D) : denE cl (.gl x d) σ = .ok (.d d) := by simp only [denE]
@[simp] theorem e_var (i : Nat) : denE cl (.var i) σ = slotV σ i := by simp only [denE]
@[simp] theorem e_tup (es : List E) : denE cl (.tup es) σ = tupR (denF cl es σ) := by simp only [denE, tupR]
@[simp] theorem e_lst (es : List E) : denE cl (.lst es) σ = lstR (denF cl es σ) := by simp only [denE, lstR]
@[simp] theorem e_dct0 : denE cl (.dct [] []) σ = .ok (.fd []) := by simp [denE, denF]
@[simp] theorem e_neg (a : E) : denE cl (.neg a) σ = negR (denE cl a σ) := by simp only [denE]; rfl
@[simp] theorem e_not (a : E) : denE cl (.not a) σ = notR (denE cl a σ) := by simp only [denE]; cases denE cl a σ <;> simp [notR, boolR, notB, truthOf]; rename_i x; cases truthR x.val <;> rfl
@[simp] theorem e_bin (o : BOp) (a b : E) : denE cl (.bin o a b) σ = bin2 (binD o) (denE cl a σ) (denE cl b σ) := by simp only [denE]; rfl
@[simp] theorem e_cmp (o : COp) (a b : E) : denE cl (.cmp o a b) σ = cmp2 o (denE cl a σ) (denE cl b σ) := by simp only [denE]; rfl
@[simp] theorem e_chain (o1 o2 : COp) (a b c : E) : denE cl (.chain o1 o2 a b c) σ = chainR o1 o2 (denE cl a σ) (denE cl b σ) (denE cl c σ) := by simp only [denE]; rfl
@[simp] theorem e_and (es : List E) : denE cl (.and es) σ = denA cl es σ := by simp only [denE]
@[simp] theorem e_or (es : List E) : denE cl (.or es) σ = denO cl es σ := by simp only [denE]
@[simp] theorem e_ife (c a b : E) : denE cl (.ife c a b) σ = ifeR (denE cl c σ) (denE cl a σ) (denE cl b σ) := by simp only [denE]; cases denE cl c σ <;> rfl
@[simp] theorem e_idx (a i : E) : denE cl (.idx a i) σ = idxR (denE cl a σ) (denE cl i σ) := by simp only [denE]; rfl
@[simp] theorem e_slc (a l h : E) : denE cl (.slc a l h) σ = slcR (denE cl a σ) (denE cl l σ) (denE cl h σ) := by simp only [denE]; rfl
@[simp] theorem e_step (a s : E) : denE cl (.step a s) σ = bin2 stepD (denE cl a σ) (denE cl s σ) := by simp only [denE]; rfl
@[simp] theorem e_call (f : Nat) (es : List E) : denE cl (.call f es) σ = callR cl f (denV cl es σ) := by simp only [denE]; rfl
@[simp] theorem e_prim (p : Prim) (es : List E) : denE cl (.prim p es) σ = primR p (denV cl es σ) := by simp only [denE]; rfl
@[simp] theorem e_meth (m : Meth) (a : E) (es : List E) : denE cl (.meth m a es) σ = methR m (denE cl a σ) (denV cl es σ) := by simp only [denE]; rfl
theorem lcB_eq (elt : E) (t : Tgt) (cond : List E) (own : List Nat) (d : D) : lcB cl elt t cond own σ d = (setT t d (wipeA σ own)).bind fun σ1 => (denC cl cond σ1).bind fun c => if c then (denE cl elt σ1).bind fun r => r.frz.bind fun z => .ok (some z) else .ok none := by
  unfold lcB lcS
  cases setT t d (wipeA σ own) with
  | ok σ1 =>
    simp only [Res.bind_ok, lcC, lcK]
    cases denC cl cond σ1 with
    | ok c => cases c <;> simp [someR, frzOf]; cases denE cl elt σ1 <;> rfl
    | err => rfl
    | bad => rfl
  | err => rfl
  | bad => rfl
@[simp] theorem e_lc (elt : E) (t : Tgt) (k : ItK) (src cond : List E) (own : List Nat) : denE cl (.lc elt t k src cond own) σ = lcR (denV cl src σ) k (lcB cl elt t cond own σ) := by
  simp only [denE, lcR, lcI, flR]
  congr; funext q; congr; funext items; congr; funext d
  rw [lcB_eq]
theorem dcB_eq (key val : E) (t : Tgt) (cond : List E) (own : List Nat) (d : D) : dcB cl key val t cond own σ d = (setT t d (wipeA σ own)).bind fun σ1 => (denC cl cond σ1).bind fun c => if c then (denE cl key σ1).bind fun kr => kr.frz.bind fun kz => (denE cl val σ1).bind fun r => r.frz.bind fun z => if isKeyT kz then .ok (some (kz, z)) else .bad else .ok none := by
  unfold dcB dcS
  cases setT t d (wipeA σ own) with
  | ok σ1 =>
    simp only [Res.bind_ok, dcC, dcK]
    cases denC cl cond σ1 with
    | ok c =>
      cases c <;> simp [keyV, frzOf]
      cases denE cl key σ1 with
      | ok r => simp only [Res.bind_ok]; cases r.frz <;> try rfl
                simp only [Res.bind_ok]; cases denE cl val σ1 <;> rfl
      | err => rfl
      | bad => rfl
    | err => rfl
    | bad => rfl
  | err => rfl
  | bad => rfl
@[simp] theorem e_dc (key val : E) (t : Tgt) (k : ItK) (src cond : List E) (own : List Nat) : denE cl (.dc key val t k src cond own) σ = dcR (denV cl src σ) k (dcB cl key val t cond own σ) := by
  simp only [denE, dcR, dcI, fdR]
  congr; funext q; congr; funext items; congr; funext d
  rw [dcB_eq]
@[simp] theorem a_one (e : E) : denA cl [e] σ = denE cl e σ := by simp only [denA]; cases denE cl e σ <;> rfl
@[simp] theorem a_cons (e f : E) (es : List E) : denA cl (e :: f :: es) σ = andR (denE cl e σ) (denA cl (f :: es) σ) := by rw [denA]; rfl
@[simp] theorem o_one (e : E) : denO cl [e] σ = denE cl e σ := by simp only [denO]; cases denE cl e σ <;> rfl
@[simp] theorem o_cons (e f : E) (es : List E) : denO cl (e :: f :: es) σ = orR (denE cl e σ) (denO cl (f :: es) σ) := by rw [denO]; rfl
@[simp] theorem f_nil : denF cl [] σ = .ok [] := by simp only [denF]
@[simp] theorem f_cons (e : E) (es : List E) : denF cl (e :: es) σ = consD (frzOf (denE cl e σ)) (denF cl es σ) := by simp only [denF]; cases denE cl e σ <;> rfl
@[simp] theorem v_nil : denV cl [] σ = .ok (false, []) := by simp only [denV]
@[simp] theorem v_cons (e : E) (es : List E) : denV cl (e :: es) σ = consV (denE cl e σ) (denV cl es σ) := by simp only [denV]; rfl
@[simp] theorem c_nil : denC cl [] σ = .ok true := by simp only [denC]
@[simp] theorem c_one (e : E) : denC cl [e] σ = truthOf (denE cl e σ) := by
  simp only [denC, truthOf]
  cases denE cl e σ with
  | ok r =>
    simp only [Res.bind_ok]
    cases truthR r.val with
    | ok b => cases b <;> rfl
    | err => rfl
    | bad => rfl
  | err => rfl
  | bad => rfl
def nxR (X : Res ASt) : Out := X.out .nx
@[simp] theorem nxR_ok (σ : ASt) : nxR (.ok σ) = .nx σ := rfl
def setR (t : Tgt) (X : Res D) (σ : ASt) : Out := X.out fun d => nxR (setT t d σ)
@[simp] theorem setR_ok (t : Tgt) (d : D) (σ : ASt) : setR t (.ok d) σ = nxR (setT t d σ) := rfl
@[simp] theorem s_set (t : Tgt) (e : E) : denS cl (.set t e) σ = setR t (frzOf (denE cl e σ)) σ := by simp only [denS]; cases denE cl e σ <;> rfl
def keepOf (X : Res RV) : Res RV := X.bind RV.keep
@[simp] theorem keepOf_ok (r : RV) : keepOf (.ok r) = r.keep := rfl
def ownR (i : Nat) (X : Res RV) (σ : ASt) : Out := X.out fun r => .nx (σ.set i (some r))
@[simp] theorem ownR_ok (i : Nat) (r : RV) (σ : ASt) : ownR i (.ok r) σ = .nx (σ.set i (some r)) := rfl
@[simp] theorem s_own (i : Nat) (e : E) : denS cl (.own i e) σ = ownR i (keepOf (denE cl e σ)) σ := by simp only [denS]; cases denE cl e σ <;> rfl
def parR (i j : Nat) (X Y : Res D) (σ : ASt) : Out := X.out fun x => Y.out fun y => .nx ((σ.set i (some (.d x))).set j (some (.d y)))
@[simp] theorem parR_ok (i j : Nat) (x y : D) (σ : ASt) : parR i j (.ok x) (.ok y) σ = .nx ((σ.set i (some (.d x))).set j (some (.d y))) := rfl
@[simp] theorem s_par (i j : Nat) (a b : E) : denS cl (.par i j a b) σ = parR i j (frzOf (denE cl a σ)) (frzOf (denE cl b σ)) σ := by
  simp only [denS, parR]
  cases denE cl a σ with
  | ok x => simp only [Res.out_ok, frzOf, Res.bind_ok]; cases x.frz <;> try rfl
            simp only [Res.out_ok]; cases denE cl b σ <;> rfl
  | err => rfl
  | bad => rfl
@[simp] theorem s_frz (i : Nat) : denS cl (.frz i) σ = .nx (frzSlot σ i) := by simp only [denS]
def appR (i : Nat) (X : Res D) (L : Res (List D)) (σ : ASt) : Out := X.out fun d => L.out fun xs => if xs.length < LINE then .nx (σ.set i (some (.fl (xs ++ [d])))) else .bad
@[simp] theorem appR_ok (i : Nat) (d : D) (xs : List D) (σ : ASt) : appR i (.ok d) (.ok xs) σ = if xs.length < LINE then .nx (σ.set i (some (.fl (xs ++ [d])))) else .bad := rfl
@[simp] theorem s_app (i : Nat) (e : E) : denS cl (.app i e) σ = appR i (frzOf (denE cl e σ)) (ownL σ i) σ := by simp only [denS]; cases denE cl e σ <;> rfl
def extR (i : Nat) (X : Res RV) (L : Res (List D)) (σ : ASt) : Out := X.out fun r => L.out fun xs => match r.val with
      | .list ys => if xs.length + ys.length ≤ LINE then .nx (σ.set i (some (.fl (xs ++ ys)))) else .bad
      | _ => .bad
@[simp] theorem extR_fl (i : Nat) (ys xs : List D) (σ : ASt) : extR i (.ok (.fl ys)) (.ok xs) σ = if xs.length + ys.length ≤ LINE then .nx (σ.set i (some (.fl (xs ++ ys)))) else .bad := rfl
@[simp] theorem extR_d (i : Nat) (ys xs : List D) (σ : ASt) : extR i (.ok (.d (.list ys))) (.ok xs) σ = if xs.length + ys.length ≤ LINE then .nx (σ.set i (some (.fl (xs ++ ys)))) else .bad := rfl
@[simp] theorem s_ext (i : Nat) (e : E) : denS cl (.ext i e) σ = extR i (denE cl e σ) (ownL σ i) σ := by simp only [denS]; rfl
def app2R (j i : Nat) (K : Res RV) (Y X : Res (List D)) (σ : ASt) : Out := K.out fun kr => Y.out fun ys => (popD (.fl ys) [kr.val]).out fun p => X.out fun xs => if xs.length < LINE ∧ i ≠ j then .nx ((σ.set i (some p.2)).set j (some (.fl (xs ++ [p.1])))) else .bad
theorem app2R_ok (j i : Nat) (kr : RV) (ys xs : List D) (σ : ASt) (p : D × RV) (h : popD (.fl ys) [kr.val] = .ok p) : app2R j i (.ok kr) (.ok ys) (.ok xs) σ = if xs.length < LINE ∧ i ≠ j then .nx ((σ.set i (some p.2)).set j (some (.fl (xs ++ [p.1])))) else .bad := by
  simp only [app2R, Res.out_ok, h]
@[simp] theorem s_apppop (j i : Nat) (k : E) : denS cl (.apppop j i k) σ = app2R j i (denE cl k σ) (ownL σ i) (ownL σ j) σ := by simp only [denS]; rfl
def setiR (i : Nat) (V K : Res D) (S : Res RV) (σ : ASt) : Out := V.out fun d => K.out fun k => S.out fun s => (putD s k d).out fun s' => .nx (σ.set i (some s'))
def nxS (i : Nat) (X : Res RV) (σ : ASt) : Out := X.out fun s' => .nx (σ.set i (some s'))
@[simp] theorem nxS_ok (i : Nat) (r : RV) (σ : ASt) : nxS i (.ok r) σ = .nx (σ.set i (some r)) := rfl
@[simp] theorem setiR_ok (i : Nat) (v k : D) (s : RV) (σ : ASt) : setiR i (.ok v) (.ok k) (.ok s) σ = nxS i (putD s k v) σ := rfl
@[simp] theorem s_seti (i : Nat) (k e : E) : denS cl (.seti i k e) σ = setiR i (frzOf (denE cl e σ)) (frzOf (denE cl k σ)) (slotR σ i) σ := by
  simp only [denS, setiR]
  cases denE cl e σ with
  | ok x => simp only [Res.out_ok, frzOf, Res.bind_ok]; cases x.frz <;> try rfl
            simp only [Res.out_ok]; cases denE cl k σ <;> rfl
  | err => rfl
  | bad => rfl
def delR (i : Nat) (K : Res RV) (S : Res RV) (σ : ASt) : Out := K.out fun kr => S.out fun s => nxS i (delD s kr.val) σ
@[simp] theorem delR_ok (i : Nat) (k s : RV) (σ : ASt) : delR i (.ok k) (.ok s) σ = nxS i (delD s k.val) σ := rfl
@[simp] theorem s_del (i : Nat) (k : E) : denS cl (.del i k) σ = delR i (denE cl k σ) (slotR σ i) σ := by simp only [denS]; rfl
def gappR (i : Nat) (K V : Res D) (S : Res RV) (σ : ASt) : Out := K.out fun k => V.out fun d => S.out fun s => nxS i (gputD s k d) σ
@[simp] theorem gappR_ok (i : Nat) (k v : D) (s : RV) (σ : ASt) : gappR i (.ok k) (.ok v) (.ok s) σ = nxS i (gputD s k v) σ := rfl
@[simp] theorem s_gapp (i : Nat) (k e : E) : denS cl (.gapp i k e) σ = gappR i (frzOf (denE cl k σ)) (frzOf (denE cl e (σ.set i none))) (slotR σ i) σ := by
  simp only [denS, gappR]
  cases denE cl k σ with
  | ok x => simp only [Res.out_ok, frzOf, Res.bind_ok]; cases x.frz <;> try rfl
            simp only [Res.out_ok]; cases denE cl e (σ.set i none) <;> rfl
  | err => rfl
  | bad => rfl
def gapp2R (j i : Nat) (K V : Res D) (S : Res RV) (σ : ASt) : Out := K.out fun k => V.out fun d => S.out fun s => (gputD s k d).out fun s' => if i = j ∨ σ.length ≤ j then .bad else .nx ((σ.set j none).set i (some s'))
def nxS2 (j i : Nat) (X : Res RV) (σ : ASt) : Out := X.out fun s' => if i = j ∨ σ.length ≤ j then .bad else .nx ((σ.set j none).set i (some s'))
@[simp] theorem nxS2_ok (j i : Nat) (r : RV) (σ : ASt) : nxS2 j i (.ok r) σ = if i = j ∨ σ.length ≤ j then .bad else .nx ((σ.set j none).set i (some r)) := rfl
@[simp] theorem gapp2R_ok (j i : Nat) (k v : D) (s : RV) (σ : ASt) : gapp2R j i (.ok k) (.ok v) (.ok s) σ = nxS2 j i (gputD s k v) σ := rfl
@[simp] theorem s_gapp2 (j i : Nat) (k e : E) : denS cl (.gapp2 j i k e) σ = gapp2R j i (frzOf (denE cl k σ)) (frzOf (denE cl e ((σ.set j none).set i none))) (slotR σ i) σ := by
  simp only [denS, gapp2R]
  cases denE cl k σ with
  | ok x => simp only [Res.out_ok, frzOf, Res.bind_ok]; cases x.frz <;> try rfl
            simp only [Res.out_ok]; cases denE cl e ((σ.set j none).set i none) <;> rfl
  | err => rfl
  | bad => rfl
def ifeS (C : Res Bool) (A B : ASt → Out) (σ : ASt) : Out := C.out fun k => if k then A σ else B σ
@[simp] theorem ifeS_ok (k : Bool) (A B : ASt → Out) (σ : ASt) : ifeS (.ok k) A B σ = if k then A σ else B σ := rfl
@[simp] theorem s_ife (c : E) (a b : List S) : denS cl (.ife c a b) σ = ifeS (truthOf (denE cl c σ)) (denSs cl a) (denSs cl b) σ := by simp only [denS]; cases denE cl c σ <;> rfl
def whlT (cl : Nat → List D → Res RV) (c : E) (σ : ASt) : Res Bool := truthOf (denE cl c σ)
@[simp] theorem s_whl (c : E) (a : List S) : denS cl (.whl c a) σ = whlN (whlT cl c) (denSs cl a) FUEL σ := by simp only [denS]; rfl
def outS (X : Res ASt) (f : ASt → Out) : Out := X.out f
@[simp] theorem outS_ok (σ : ASt) (f : ASt → Out) : outS (.ok σ) f = f σ := rfl
def forB (cl : Nat → List D → Res RV) (t : Tgt) (a : List S) (d : D) (σ : ASt) : Out := outS (setT t d σ) (denSs cl a)
def forI (X : Res (List D)) (f : D → ASt → Out) (σ : ASt) : Out := X.out fun items => forL f items σ
@[simp] theorem forI_ok (items : List D) (f : D → ASt → Out) (σ : ASt) : forI (.ok items) f σ = forL f items σ := rfl
def forR (k : ItK) (X : Res (List D)) (f : D → ASt → Out) (σ : ASt) : Out := X.out fun ds => forI (itemsD k ds) f σ
@[simp] theorem forR_ok (k : ItK) (ds : List D) (f : D → ASt → Out) (σ : ASt) : forR k (.ok ds) f σ = forI (itemsD k ds) f σ := rfl
@[simp] theorem s_for (t : Tgt) (k : ItK) (src : List E) (a : List S) : denS cl (.for t k src a) σ = forR k (denF cl src σ) (forB cl t a) σ := by simp only [denS]; rfl
def E.isVar : E → Bool
  | .var _ => true
  | _ => false
def retR (X : Res RV) : Out := X.out .rt
@[simp] theorem retR_ok (r : RV) : retR (.ok r) = .rt r := rfl
@[simp] theorem s_retv (i : Nat) : denS cl (.ret (.var i)) σ = retR (slotR σ i) := by simp only [denS]; rfl
theorem s_ret (e : E) (h : e.isVar = false) : denS cl (.ret e) σ = retR (keepOf (denE cl e σ)) := by
  cases e <;> first | (simp [E.isVar] at h; done) | (rw [denS]; (cases denE cl _ σ <;> rfl); (intro _ h; cases h))
@[simp] theorem s_retn : denS cl .retn σ = .rt (.d .none) := by simp only [denS]
@[simp] theorem s_brk : denS cl .brk σ = .bk σ := by simp only [denS]
@[simp] theorem s_pass : denS cl .pass σ = .nx σ := by simp only [denS]
def expR (X : Res RV) (σ : ASt) : Out := X.out fun _ => .nx σ
@[simp] theorem expR_ok (r : RV) (σ : ASt) : expR (.ok r) σ = .nx σ := rfl
@[simp] theorem s_exp (e : E) : denS cl (.exp e) σ = expR (denE cl e σ) σ := by simp only [denS]; rfl
@[simp] theorem ss_nil : denSs cl [] σ = .nx σ := by simp only [denSs]
@[simp] theorem ss_cons (s : S) (r : List S) : denSs cl (s :: r) σ = (denS cl s σ).then (denSs cl r) := by simp only [denSs]
end
@[simp] theorem s_ret_lit (cl : Nat → List D → Res RV) (σ : ASt) (d : D) : denS cl (.ret (.lit d)) σ = retR (keepOf (denE cl (.lit d) σ)) := s_ret cl σ _ rfl
@[simp] theorem s_ret_gl (cl : Nat → List D → Res RV) (σ : ASt) (x : Nat) (d : D) : denS cl (.ret (.gl x d)) σ = retR (keepOf (denE cl (.gl x d) σ)) := s_ret cl σ _ rfl
@[simp] theorem s_ret_tup (cl : Nat → List D → Res RV) (σ : ASt) (es : List E) : denS cl (.ret (.tup es)) σ = retR (keepOf (denE cl (.tup es) σ)) := s_ret cl σ _ rfl
@[simp] theorem s_ret_lst (cl : Nat → List D → Res RV) (σ : ASt) (es : List E) : denS cl (.ret (.lst es)) σ = retR (keepOf (denE cl (.lst es) σ)) := s_ret cl σ _ rfl
@[simp] theorem s_ret_dct (cl : Nat → List D → Res RV) (σ : ASt) (a b : List E) : denS cl (.ret (.dct a b)) σ = retR (keepOf (denE cl (.dct a b) σ)) := s_ret cl σ _ rfl
@[simp] theorem s_ret_neg (cl : Nat → List D → Res RV) (σ : ASt) (a : E) : denS cl (.ret (.neg a)) σ = retR (keepOf (denE cl (.neg a) σ)) := s_ret cl σ _ rfl
@[simp] theorem s_ret_not (cl : Nat → List D → Res RV) (σ : ASt) (a : E) : denS cl (.ret (.not a)) σ = retR (keepOf (denE cl (.not a) σ)) := s_ret cl σ _ rfl
@[simp] theorem s_ret_bin (cl : Nat → List D → Res RV) (σ : ASt) (o : BOp) (a b : E) : denS cl (.ret (.bin o a b)) σ = retR (keepOf (denE cl (.bin o a b) σ)) := s_ret cl σ _ rfl
@[simp] theorem s_ret_cmp (cl : Nat → List D → Res RV) (σ : ASt) (o : COp) (a b : E) : denS cl (.ret (.cmp o a b)) σ = retR (keepOf (denE cl (.cmp o a b) σ)) := s_ret cl σ _ rfl
@[simp] theorem s_ret_chain (cl : Nat → List D → Res RV) (σ : ASt) (o p : COp) (a b c : E) : denS cl (.ret (.chain o p a b c)) σ = retR (keepOf (denE cl (.chain o p a b c) σ)) := s_ret cl σ _ rfl
@[simp] theorem s_ret_and (cl : Nat → List D → Res RV) (σ : ASt) (es : List E) : denS cl (.ret (.and es)) σ = retR (keepOf (denE cl (.and es) σ)) := s_ret cl σ _ rfl
@[simp] theorem s_ret_or (cl : Nat → List D → Res RV) (σ : ASt) (es : List E) : denS cl (.ret (.or es)) σ = retR (keepOf (denE cl (.or es) σ)) := s_ret cl σ _ rfl
@[simp] theorem s_ret_ife (cl : Nat → List D → Res RV) (σ : ASt) (a b c : E) : denS cl (.ret (.ife a b c)) σ = retR (keepOf (denE cl (.ife a b c) σ)) := s_ret cl σ _ rfl
@[simp] theorem s_ret_idx (cl : Nat → List D → Res RV) (σ : ASt) (a b : E) : denS cl (.ret (.idx a b)) σ = retR (keepOf (denE cl (.idx a b) σ)) := s_ret cl σ _ rfl
@[simp] theorem s_ret_slc (cl : Nat → List D → Res RV) (σ : ASt) (a b c : E) : denS cl (.ret (.slc a b c)) σ = retR (keepOf (denE cl (.slc a b c) σ)) := s_ret cl σ _ rfl
@[simp] theorem s_ret_step (cl : Nat → List D → Res RV) (σ : ASt) (a b : E) : denS cl (.ret (.step a b)) σ = retR (keepOf (denE cl (.step a b) σ)) := s_ret cl σ _ rfl
@[simp] theorem s_ret_call (cl : Nat → List D → Res RV) (σ : ASt) (f : Nat) (es : List E) : denS cl (.ret (.call f es)) σ = retR (keepOf (denE cl (.call f es) σ)) := s_ret cl σ _ rfl
@[simp] theorem s_ret_prim (cl : Nat → List D → Res RV) (σ : ASt) (p : Prim) (es : List E) : denS cl (.ret (.prim p es)) σ = retR (keepOf (denE cl (.prim p es) σ)) := s_ret cl σ _ rfl
@[simp] theorem s_ret_meth (cl : Nat → List D → Res RV) (σ : ASt) (m : Meth) (a : E) (es : List E) : denS cl (.ret (.meth m a es)) σ = retR (keepOf (denE cl (.meth m a es) σ)) := s_ret cl σ _ rfl
@[simp] theorem s_ret_lc (cl : Nat → List D → Res RV) (σ : ASt) (e : E) (t : Tgt) (k : ItK) (src cond : List E) (own : List Nat) : denS cl (.ret (.lc e t k src cond own)) σ = retR (keepOf (denE cl (.lc e t k src cond own) σ)) := s_ret cl σ _ rfl
@[simp] theorem s_ret_dc (cl : Nat → List D → Res RV) (σ : ASt) (e f : E) (t : Tgt) (k : ItK) (src cond : List E) (own : List Nat) : denS cl (.ret (.dc e f t k src cond own)) σ = retR (keepOf (denE cl (.dc e f t k src cond own) σ)) := s_ret cl σ _ rfl
@[simp] theorem s_ret_fstr (cl : Nat → List D → Res RV) (σ : ASt) (es : List E) : denS cl (.ret (.fstr es)) σ = retR (keepOf (denE cl (.fstr es) σ)) := s_ret cl σ _ rfl
@[simp] theorem res_ite {α : Type} {c : Prop} [Decidable c] {a b : α} : (if c then Res.ok a else Res.ok b) = Res.ok (if c then a else b) := by split <;> rfl
@[simp] theorem then_nx' (σ : ASt) (f : ASt → Out) : (Out.nx σ).then f = f σ := rfl
@[simp] theorem keep_d (x : D) : (RV.d x).keep = .ok (.d x) := rfl
@[simp] theorem keep_fl (x : List D) : (RV.fl x).keep = .ok (.fl x) := rfl
@[simp] theorem keep_fd (x : List (D × D)) : (RV.fd x).keep = .ok (.fd x) := rfl
@[simp] theorem keep_fg (x : List (D × List D)) : (RV.fg x).keep = .ok (.fg x) := rfl
@[simp] theorem callB_f (r : RV) : callB false r = .ok r := rfl
@[simp] theorem callB_s (b : Bool) (x : Bool) : callB b (.d (.bool x)) = .ok (.d (.bool x)) := by cases b <;> rfl
@[simp] theorem callB_n (b : Bool) : callB b (.d .none) = .ok (.d .none) := by cases b <;> rfl
@[simp] theorem callB_i (b : Bool) (x : Int) : callB b (.d (.int x)) = .ok (.d (.int x)) := by cases b <;> rfl
@[simp] theorem callB_t (b : Bool) (x : Str) : callB b (.d (.str x)) = .ok (.d (.str x)) := by cases b <;> rfl
@[simp] theorem isB_d (x : D) : (RV.d x).isB = false := rfl
@[simp] theorem isB_fl (x : List D) : (RV.fl x).isB = false := rfl
@[simp] theorem isB_fd (x : List (D × D)) : (RV.fd x).isB = false := rfl
@[simp] theorem isB_fg (x : List (D × List D)) : (RV.fg x).isB = false := rfl
@[simp] theorem isB_b (x : D) : (RV.b x).isB = true := rfl
section
open PySem (PyData)
@[simp] theorem add_i (i j : Int) : binD .add (.int i) (.int j) = .ok (.d (.int (i + j))) := rfl
@[simp] theorem sub_i (i j : Int) : binD .sub (.int i) (.int j) = .ok (.d (.int (i - j))) := rfl
@[simp] theorem mul_i (i j : Int) : binD .mul (.int i) (.int j) = if mulOk i j then .ok (.d (.int (i * j))) else .bad := rfl
@[simp] theorem fdiv_i (i j : Int) : binD .fdiv (.int i) (.int j) = if divOk j then .ok (.d (.int (i / j))) else .bad := rfl
@[simp] theorem mod_i (i j : Int) : binD .mod (.int i) (.int j) = if 0 < j then .ok (.d (.int (i % j))) else .bad := rfl
@[simp] theorem pow_i (i j : Int) : binD .pow (.int i) (.int j) = if 0 ≤ j ∧ j ≤ 1000000 ∧ i.natAbs < 2 ^ 64 then .ok (.d (.int (i ^ j.toNat))) else .bad := rfl
@[simp] theorem add_t (x y : List D) : binD .add (.tuple x) (.tuple y) = if x.length + y.length ≤ LINE then .ok (.d (.tuple (x ++ y))) else .bad := rfl
@[simp] theorem add_l (x y : List D) : binD .add (.list x) (.list y) = if x.length + y.length ≤ LINE then .ok (.fl (x ++ y)) else .bad := rfl
@[simp] theorem lt_i (i j : Int) : cmpD .lt (.int i) (.int j) = .ok (decide (i < j)) := rfl
@[simp] theorem gt_i (i j : Int) : cmpD .gt (.int i) (.int j) = .ok (decide (i > j)) := rfl
@[simp] theorem le_i (i j : Int) : cmpD .le (.int i) (.int j) = .ok (decide (i ≤ j)) := by
  show Res.ok (!decide (j < i)) = _
  congr 1; rw [← decide_not]; simp [Int.not_lt]
@[simp] theorem ge_i (i j : Int) : cmpD .ge (.int i) (.int j) = .ok (decide (i ≥ j)) := by
  show Res.ok (!decide (i < j)) = _
  congr 1; rw [← decide_not]; simp [Int.not_lt]
@[simp] theorem eq_i (i j : Int) : cmpD .eq (.int i) (.int j) = .ok (decide (i = j)) := by
  simp [cmpD, shp, eqv]; rfl
@[simp] theorem ne_i (i j : Int) : cmpD .ne (.int i) (.int j) = .ok (decide (i ≠ j)) := by
  simp [cmpD, shp, eqv]; by_cases h : i = j <;> simp [h]
@[simp] theorem eq_b (i j : Bool) : cmpD .eq (.bool i) (.bool j) = .ok (i == j) := by
  simp [cmpD, shp, eqv]
@[simp] theorem inn_d (a b : D) : cmpD .inn a b = inD a b := rfl
@[simp] theorem nin_d (a b : D) : cmpD .nin a b = notB (inD a b) := rfl
@[simp] theorem len_l (x : List D) : primD .len [.list x] = .ok (.d (.int x.length)) := rfl
@[simp] theorem len_t (x : List D) : primD .len [.tuple x] = .ok (.d (.int x.length)) := rfl
@[simp] theorem tuple_l (x : List D) : primD .tuple [.list x] = .ok (.d (.tuple x)) := rfl
@[simp] theorem tuple_t (x : List D) : primD .tuple [.tuple x] = .ok (.d (.tuple x)) := rfl
@[simp] theorem sorted_l (x : List D) : primD .sorted [.list x] = if srtOk x then .ok (.fl (sortD x)) else .bad := rfl
@[simp] theorem sorted_t (x : List D) : primD .sorted [.tuple x] = if srtOk x then .ok (.fl (sortD x)) else .bad := rfl
@[simp] theorem list_l (x : List D) : primD .list [.list x] = .ok (.fl x) := rfl
@[simp] theorem list_t (x : List D) : primD .list [.tuple x] = .ok (.fl x) := rfl
@[simp] theorem list_dd (x : List (D × D)) : primD .list [.dict x] = .ok (.fl (x.map (·.1))) := rfl
@[simp] theorem int_i (x : Int) : primD .int [.int x] = .ok (.d (.int x)) := rfl
theorem intsD_map (xs : List Int) : intsD (xs.map .int) = some xs := by induction xs <;> simp [intsD, *]
theorem boolsD_map {α : Type} (f : α → Bool) (xs : List α) : boolsD (xs.map fun x => .bool (f x)) = some (xs.map f) := by induction xs <;> simp [boolsD, *]
@[simp] theorem all_b {α : Type} (f : α → Bool) (xs : List α) : primD .all [.list (xs.map fun x => .bool (f x))] = .ok (.d (.bool (xs.all f))) := by
  simp only [primD, boolsD_map]; rw [List.all_map]; rfl
@[simp] theorem any_b {α : Type} (f : α → Bool) (xs : List α) : primD .any [.list (xs.map fun x => .bool (f x))] = .ok (.d (.bool (xs.any f))) := by
  simp only [primD, boolsD_map]; rw [List.any_map]; rfl
@[simp] theorem sum_l (xs : List Int) : primD .sum [.list (xs.map .int)] = .ok (.d (.int xs.sum)) := by simp only [primD, seqD, Res.bind_ok, intsD_map]
@[simp] theorem sum_t (xs : List Int) : primD .sum [.tuple (xs.map .int)] = .ok (.d (.int xs.sum)) := by simp only [primD, seqD, Res.bind_ok, intsD_map]
@[simp] theorem sum_3 (a b c : Int) : primD .sum [.tuple [.int a, .int b, .int c]] = .ok (.d (.int (a + b + c))) := by rw [show [PyData.int a, .int b, .int c] = [a, b, c].map .int from rfl, sum_t]; simp; omega
@[simp] theorem isTy_d (t : Ty) (x : D) : primD (.isTy t) [x] = .ok (.d (.bool (isTy t x))) := rfl
@[simp] theorem getD_l (xs : List D) (i : Int) (x : D) (h : 0 ≤ i) (h2 : xs[i.toNat]? = some x) : getD (.list xs) (.int i) = .ok x := by
  have : i < xs.length := by have := (List.getElem?_eq_some_iff.mp h2).1; omega
  simp only [getD, ixD, if_pos h, if_pos this, h2]
@[simp] theorem getD_t (xs : List D) (i : Int) (x : D) (h : 0 ≤ i) (h2 : xs[i.toNat]? = some x) : getD (.tuple xs) (.int i) = .ok x := by
  have : i < xs.length := by have := (List.getElem?_eq_some_iff.mp h2).1; omega
  simp only [getD, ixD, if_pos h, if_pos this, h2]
@[simp] theorem setT_n (i : Nat) (d : D) (σ : ASt) : setT (.n i) d σ = .ok (σ.set i (some (.d d))) := rfl
@[simp] theorem setT_2 (i j : Nat) (a b : D) (σ : ASt) : setT (.t [i, j]) (.tuple [a, b]) σ = .ok ((σ.set i (some (.d a))).set j (some (.d b))) := rfl
@[simp] theorem wipe_nil (σ : ASt) : wipeA σ [] = σ := rfl
@[simp] theorem wipe_cons (σ : ASt) (v : Nat) (vs : List Nat) : wipeA σ (v :: vs) = (wipeA σ vs).set v none := rfl
@[simp] theorem it_seq (x : D) : itemsD .seq [x] = walkD x := rfl
@[simp] theorem bnd_n : bndD .none = .ok none := rfl
@[simp] theorem bnd_i (i : Int) : bndD (.int i) = .ok (some i) := rfl
@[simp] theorem slc_l (xs : List D) (l h : Option Int) : slcD (.list xs) l h = .ok (.fl (cutL xs l h)) := rfl
@[simp] theorem slc_t (xs : List D) (l h : Option Int) : slcD (.tuple xs) l h = .ok (.d (.tuple (cutL xs l h))) := rfl
end
end OH
end

section
set_option autoImplicit false
set_option linter.all false
set_option maxRecDepth 100000
namespace OH
open PySem (PyData)
theorem eqvAll_int : ∀ r s : List Int, eqvAll (r.map .int) (s.map .int) = decide (r = s)
  | [], [] => rfl
  | [], _ :: _ => rfl
  | _ :: _, [] => rfl
  | x :: r, y :: s => by simp [eqvAll, eqv, eqvAll_int r s]; by_cases h : x = y <;> simp [h]
theorem eqv_row (r s : List Int) : eqv ((PySem.PyData.tuple (List.map PySem.PyData.int r))) ((PySem.PyData.tuple (List.map PySem.PyData.int s))) = decide (r = s) := by simp [eqv, eqvAll_int]
theorem shpAll_int (n : Nat) : ∀ r : List Int, shpAll n (r.map .int) = true
  | [] => by simp [shpAll]
  | x :: r => by simp [shpAll, shp, shpAll_int n r]
theorem shp_row (n : Nat) (r : List Int) : shp (n + 1) ((PySem.PyData.tuple (List.map PySem.PyData.int r))) = true := by simp [shp, shpAll_int]
theorem shpAll_map {α : Type} {n : Nat} {f : α → D} {xs : List α} (h : ∀ x ∈ xs, shp n (f x) = true) : shpAll n (xs.map f) = true := by
  induction xs with
  | nil => simp [shpAll]
  | cons x xs ih => simp [shpAll, h x (by simp), ih (fun y hy => h y (by simp [hy]))]
theorem alikeAll_int : ∀ r s : List Int, alikeAllD (r.map .int) (s.map .int) = true
  | [], [] => by simp [alikeAllD]
  | [], _ :: _ => by simp [alikeAllD]
  | _ :: _, [] => by simp [alikeAllD]
  | x :: r, y :: s => by simp [alikeAllD, alikeD, alikeAll_int r s]
theorem alike_row (r s : List Int) : alikeD ((PySem.PyData.tuple (List.map PySem.PyData.int r))) ((PySem.PyData.tuple (List.map PySem.PyData.int s))) = true := by simp [alikeD, alikeAll_int]
theorem ordOkAll_int (n : Nat) : ∀ r : List Int, ordOkAll n (r.map .int) = true
  | [] => by simp [ordOkAll]
  | x :: r => by simp [ordOkAll, ordOk, ordOkAll_int n r]
theorem ordOk_row (n : Nat) (r : List Int) : ordOk (n + 1) ((PySem.PyData.tuple (List.map PySem.PyData.int r))) = true := by simp [ordOk, ordOkAll_int]
theorem ltAll_int : ∀ r s : List Int, ltAllD (r.map .int) (s.map .int) = decide (r < s)
  | [], [] => by simp [ltAllD]
  | [], _ :: _ => by simp [ltAllD]
  | _ :: _, [] => by simp [ltAllD]
  | x :: r, y :: s => by
    simp [ltAllD, eqv, ltD, ltAll_int r s, List.cons_lt_cons_iff]
    by_cases h : x = y
    · subst h; simp
    · simp [h]
theorem lt_row (r s : List Int) : ltD ((PySem.PyData.tuple (List.map PySem.PyData.int r))) ((PySem.PyData.tuple (List.map PySem.PyData.int s))) = decide (r < s) := by simp [ltD, ltAll_int]
theorem ltOk_row (r s : List Int) : ltOk ((PySem.PyData.tuple (List.map PySem.PyData.int r))) ((PySem.PyData.tuple (List.map PySem.PyData.int s))) = true := by simp [ltOk, alike_row, ordOk_row]
theorem ge_row (r s : List Int) : cmpD .ge ((PySem.PyData.tuple (List.map PySem.PyData.int r))) ((PySem.PyData.tuple (List.map PySem.PyData.int s))) = .ok (!decide (r < s)) := by simp [cmpD, ltOk_row, lt_row]
theorem eq_row (r s : List Int) : cmpD .eq ((PySem.PyData.tuple (List.map PySem.PyData.int r))) ((PySem.PyData.tuple (List.map PySem.PyData.int s))) = .ok (decide (r = s)) := by simp [cmpD, shp_row, eqv_row]
theorem ne_row (r s : List Int) : cmpD .ne ((PySem.PyData.tuple (List.map PySem.PyData.int r))) ((PySem.PyData.tuple (List.map PySem.PyData.int s))) = .ok (!decide (r = s)) := by simp [cmpD, shp_row, eqv_row]
theorem ne_row0 (r : List Int) : cmpD .ne ((PySem.PyData.tuple (List.map PySem.PyData.int r))) (.tuple []) = .ok (!decide (r = [])) := ne_row r []
theorem eq_row0 (r : List Int) : cmpD .eq ((PySem.PyData.tuple (List.map PySem.PyData.int r))) (.tuple []) = .ok (decide (r = [])) := eq_row r []
theorem anyEqv {α : Type} [DecidableEq α] {f : α → D} (hf : ∀ x y, eqv (f x) (f y) = decide (x = y)) (x : α) (xs : List α) : (xs.map f).any (fun z => eqv z (f x)) = decide (x ∈ xs) := by
  induction xs with
  | nil => simp
  | cons y ys ih => simp [hf, ih, eq_comm]
theorem in_row (c : Int) (r : List Int) : inD (.int c) ((PySem.PyData.tuple (List.map PySem.PyData.int r))) = .ok (decide (c ∈ r)) := by
  simp only [inD, shpAll_int, shp, Bool.and_self, if_true]
  rw [anyEqv (f := PyData.int) (fun x y => by simp [eqv]; rfl)]
theorem in_rowl (c : Int) (r : List Int) : inD (.int c) (.list (r.map .int)) = .ok (decide (c ∈ r)) := by
  simp only [inD, shpAll_int, shp, Bool.and_self, if_true]
  rw [anyEqv (f := PyData.int) (fun x y => by simp [eqv]; rfl)]
theorem in_rows (r : List Int) (rs : List (List Int)) : inD ((PySem.PyData.tuple (List.map PySem.PyData.int r))) (.list (rs.map fun r => (PySem.PyData.tuple (List.map PySem.PyData.int r)))) = .ok (decide (r ∈ rs)) := by
  simp only [inD, shp_row, shpAll_map (n := 30) (f := fun r : List Int => (PySem.PyData.tuple (List.map PySem.PyData.int r))) (xs := rs) (fun x _ => shp_row 29 x), Bool.and_self, if_true]
  rw [anyEqv (f := fun r : List Int => (PySem.PyData.tuple (List.map PySem.PyData.int r))) eqv_row]; congr
theorem cutL_from {α : Type} (xs : List α) (k : Nat) : cutL xs (some (k : Int)) none = xs.drop k := by
  simp [cutL, clipO, clipD]
theorem cutL_to {α : Type} (xs : List α) (k : Nat) : cutL xs none (some (k : Int)) = xs.take k := by
  simp [cutL, clipO, clipD]
def isInt : D → Bool
  | .int _ => true
  | _ => false
theorem r_is_integer (k : Nat) (d : D) : run tbl (k + 1) f_is_integer [d] = .ok (.d (.bool (isInt d))) := by
  refine run_sat rfl rfl ?_
  cases d <;> simp -implicitDefEqProofs [-List.length_flatMap, slotV, slotR, ownL, frzSlot, isTy, startA, notR, F_is_integer, startA, isInt]
structure SetOk (a b c : Int) : Prop where
  ha : 1 ≤ a
  hb : 1 ≤ b
  hc : 1 ≤ c
  hn : a + b + c ≤ 13
abbrev stg (a b c : Int) : D := .tuple [.int a, .int b, .int c]
set_option linter.all false in
theorem r_is_setting {a b c : Int} (k : Nat) (h : SetOk a b c) : run tbl (k + 2) f_is_setting_k75 [stg a b c] = .ok (.d (.bool true)) := by
  obtain ⟨h1, h2, h3, h4⟩ := h
  refine run_sat rfl rfl ?_
  simp -implicitDefEqProofs [-List.length_flatMap, slotV, slotR, ownL, frzSlot, isTy, startA, notR, F_is_setting_k75]
  refine for_sat (enc := PyData.int) (xs := [a, b, c]) (fun _ σ => ∃ x, σ = [some (.d (stg a b c)), x]) ⟨_, rfl⟩ ?_ ?_
  · rintro pre x post σ e ⟨t, rfl⟩
    have hx : x ∈ [a, b, c] := by rw [e]; simp
    have : ¬ x < 1 := by simp at hx; omega
    simp -implicitDefEqProofs [-List.length_flatMap, slotV, slotR, ownL, frzSlot, isTy, startA, notR, forB, r_is_integer, isInt, this]
  · rintro σ ⟨x, rfl⟩
    simp -implicitDefEqProofs [-List.length_flatMap, slotV, slotR, ownL, frzSlot, isTy, startA, notR, c_MOST_CARDS, h4]
theorem r_check_setting {a b c : Int} (k : Nat) (h : SetOk a b c) : run tbl (k + 3) f_check_setting [stg a b c] = .ok (.d .none) := by
  refine run_sat rfl rfl ?_
  simp -implicitDefEqProofs [-List.length_flatMap, slotV, slotR, ownL, frzSlot, isTy, startA, notR, F_check_setting, r_is_setting, h]
/-- an ascending row of cards below n -/
def RowOk (n : Int) (r : List Int) : Prop := r.Pairwise (· < ·) ∧ ∀ c ∈ r, 0 ≤ c ∧ c < n
theorem r_is_row {n : Int} {r : List Int} (k : Nat) (h : RowOk n r) : run tbl (k + 2) f_is_row [(PySem.PyData.tuple (List.map PySem.PyData.int r)), .int n] = .ok (.d (.bool true)) := by
  obtain ⟨h1, h2⟩ := h
  refine run_sat rfl rfl ?_
  simp -implicitDefEqProofs [-List.length_flatMap, slotV, slotR, ownL, frzSlot, isTy, startA, notR, F_is_row, walkD_tuple]
  refine for_sat (fun pre σ => ∃ x, σ = [some (.d ((PySem.PyData.tuple (List.map PySem.PyData.int r)))), some (.d (.int n)), some (.d (.int ((pre.getLast?).getD (-1)))), x]) ⟨_, rfl⟩ ?_ ?_
  · rintro pre x post σ rfl ⟨t, rfl⟩
    have hx := h2 x (by simp)
    have : ¬ x ≤ (pre.getLast?).getD (-1) := by
      cases hp : pre.getLast? with
      | none => simp; omega
      | some y =>
        have hy : y ∈ pre := List.mem_of_getLast? hp
        have := (List.pairwise_append.mp h1).2.2 y hy x (by simp)
        simp; omega
    have h3 : ¬ n ≤ x := by omega
    simp -implicitDefEqProofs [-List.length_flatMap, slotV, slotR, ownL, frzSlot, isTy, startA, notR, forB, r_is_integer, isInt, this, h3]
  · rintro σ ⟨x, rfl⟩
    simp -implicitDefEqProofs [-List.length_flatMap, slotV, slotR, ownL, frzSlot, isTy, startA, notR]
theorem r_is_hand {a b c : Int} {r : List Int} (k : Nat) (h : SetOk a b c) (hr : RowOk (a + b + c) r) (hl : (r.length : Int) = a) : run tbl (k + 4) f_is_hand [stg a b c, (PySem.PyData.tuple (List.map PySem.PyData.int r))] = .ok (.d (.bool true)) := by
  refine run_sat rfl rfl ?_
  simp -implicitDefEqProofs [-List.length_flatMap, slotV, slotR, ownL, frzSlot, isTy, startA, notR, F_is_hand, r_check_setting, h, r_is_row, hr, hl]
structure LotOk (a n : Int) (lot : List (List Int)) : Prop where
  ne : lot ≠ []
  most : lot.length ≤ 60
  rows : ∀ r ∈ lot, RowOk n r ∧ (r.length : Int) = a
  asc : lot.Pairwise (· < ·)
abbrev rowsL (l : List (List Int)) : List D := l.map fun r => (PySem.PyData.tuple (List.map PySem.PyData.int r))
theorem zip_adj {α : Type} {R : α → α → Prop} : ∀ {l : List α}, l.Pairwise R → ∀ p ∈ l.zip (l.drop 1), R p.1 p.2
  | [], _, _, hp => by simp at hp
  | [_], _, _, hp => by simp at hp
  | x :: y :: l, h, p, hp => by
    simp at hp
    rcases hp with rfl | hp
    · exact (List.pairwise_cons.mp h).1 y (by simp)
    · exact zip_adj (List.pairwise_cons.mp h).2 p (by simpa using hp)
theorem it_zip_t {α β : Type} (f : α → D) (g : β → D) (xs : List α) (ys : List β) : itemsD .zip [.tuple (xs.map f), .tuple (ys.map g)] = .ok ((xs.zip ys).map fun p => .tuple [f p.1, g p.2]) := by
  simp only [itemsD, List.zip_map, List.map_map]; rfl
theorem r_is_lot {a b c : Int} {lot : List (List Int)} (k : Nat) (h : SetOk a b c) (hl : LotOk a (a + b + c) lot) : run tbl (k + 5) f_is_lot [stg a b c, .tuple (rowsL lot)] = .ok (.d (.bool true)) := by
  refine run_sat rfl rfl ?_
  have h1 : ¬ ((lot.length : Int) < 1) := by have := List.length_pos_iff.mpr hl.ne; omega
  have h2 : ¬ ((60 : Int) < lot.length) := by have := hl.most; omega
  simp -implicitDefEqProofs [-List.length_flatMap, slotV, slotR, ownL, frzSlot, isTy, startA, notR, F_is_lot, r_check_setting, h, c_MOST_HANDS, h1, h2, hl.ne]
  refine for_sat (fun pre σ => ∃ x y z, σ = [some (.d (stg a b c)), some (.d (.tuple (rowsL lot))), x, y, z]) ⟨_, _, _, rfl⟩ ?_ ?_
  · rintro pre x post σ e ⟨t, y, z, rfl⟩
    have hx := hl.rows x (by rw [e]; simp)
    simp -implicitDefEqProofs [-List.length_flatMap, slotV, slotR, ownL, frzSlot, isTy, startA, notR, forB, r_is_hand, h, hx.1, hx.2]
  · rintro σ ⟨x, y, z, rfl⟩
    simp -implicitDefEqProofs [-List.length_flatMap, slotV, slotR, ownL, frzSlot, isTy, startA, notR]
    rw [show cutL (rowsL lot) (some 1) none = rowsL (lot.drop 1) from by rw [show (1 : Int) = ((1 : Nat) : Int) from rfl, cutL_from]; simp [rowsL]]
    rw [it_zip_t]
    simp -implicitDefEqProofs [-List.length_flatMap, slotV, slotR, ownL, frzSlot, isTy, startA, notR]
    refine for_sat (fun pre σ => ∃ x y z, σ = [some (.d (stg a b c)), some (.d (.tuple (rowsL lot))), x, y, z]) ⟨_, _, _, rfl⟩ ?_ ?_
    · rintro pre ⟨p, q⟩ post σ e ⟨t, y, z, rfl⟩
      have hx : p < q := zip_adj hl.asc (p, q) (by rw [List.drop_one, e]; simp)
      simp -implicitDefEqProofs [-List.length_flatMap, slotV, slotR, ownL, frzSlot, isTy, startA, notR, forB, ge_row, hx]
    · rintro σ ⟨x, y, z, rfl⟩
      simp -implicitDefEqProofs [-List.length_flatMap, slotV, slotR, ownL, frzSlot, isTy, startA, notR]
theorem r_check_lot {a b c : Int} {lot : List (List Int)} (k : Nat) (h : SetOk a b c) (hl : LotOk a (a + b + c) lot) : run tbl (k + 6) f_check_lot [stg a b c, .tuple (rowsL lot)] = .ok (.d .none) := by
  refine run_sat rfl rfl ?_
  simp -implicitDefEqProofs [-List.length_flatMap, slotV, slotR, ownL, frzSlot, isTy, startA, notR, F_check_lot, r_is_lot, h, hl]
end OH
end

section
set_option autoImplicit false
set_option linter.all false
set_option maxRecDepth 100000
namespace OH
open PySem (PyData)
def rowsN : List Int → Nat → List (List Int)
  | _, 0 => [[]]
  | [], _ + 1 => []
  | x :: l, k + 1 => (rowsN l k).map (x :: ·) ++ rowsN l (k + 1)
theorem rowsN_zero (l : List Int) : rowsN l 0 = [[]] := by cases l <;> rfl
theorem mem_rowsN : ∀ {l : List Int} {k : Nat} {r : List Int}, r ∈ rowsN l k ↔ r.Sublist l ∧ r.length = k
  | l, 0, r => by
    rw [rowsN_zero]; simp
    intro h; subst h; exact List.nil_sublist l
  | [], k + 1, r => by
    simp [rowsN]
    intro h; subst h; simp
  | x :: l, k + 1, r => by
    simp only [rowsN, List.mem_append, List.mem_map, mem_rowsN, List.sublist_cons_iff]
    constructor
    · rintro (⟨s, ⟨h1, h2⟩, rfl⟩ | ⟨h1, h2⟩)
      · exact ⟨.inr ⟨s, rfl, h1⟩, by simp [h2]⟩
      · exact ⟨.inl h1, h2⟩
    · rintro ⟨h | ⟨s, rfl, h⟩, h2⟩
      · exact .inr ⟨h, h2⟩
      · exact .inl ⟨s, ⟨h, by simpa using h2⟩, rfl⟩
theorem rowsN_len : ∀ (l : List Int) (k : Nat), (rowsN l k).length ≤ 2 ^ l.length
  | l, 0 => by rw [rowsN_zero]; simpa using Nat.one_le_two_pow
  | [], k + 1 => by simp [rowsN]
  | x :: l, k + 1 => by
    have h1 := rowsN_len l k
    have h2 := rowsN_len l (k + 1)
    simp [rowsN, Nat.pow_succ]; omega
theorem rowsN_asc : ∀ {l : List Int} (k : Nat), l.Pairwise (· < ·) → (rowsN l k).Pairwise (· < ·)
  | l, 0, _ => by rw [rowsN_zero]; simp
  | [], k + 1, _ => by simp [rowsN]
  | x :: l, k + 1, h => by
    have hc := List.pairwise_cons.mp h
    rw [rowsN, List.pairwise_append]
    refine ⟨?_, rowsN_asc (k + 1) hc.2, ?_⟩
    · rw [List.pairwise_map]
      exact (rowsN_asc k hc.2).imp fun {a b} hab => by rw [List.cons_lt_cons_iff]; exact .inr ⟨rfl, hab⟩
    · intro a ha b hb
      obtain ⟨s, hs, rfl⟩ := List.mem_map.mp ha
      obtain ⟨hb1, hb2⟩ := mem_rowsN.mp hb
      cases b with
      | nil => simp at hb2
      | cons y b => rw [List.cons_lt_cons_iff]; exact .inl (hc.1 y (hb1.subset (by simp)))
/-- may c stand behind the row -/
def okc (row : List Int) (c : Int) : Bool := match row.getLast? with | none => true | some y => decide (y < c)
def extN (cards : List Int) (row : List Int) : List (List Int) := (cards.filter (okc row)).map fun c => row ++ [c]
theorem okc_cons (x : Int) (r : List Int) (h : r ≠ []) : okc (x :: r) = okc r := by
  funext c
  unfold okc
  rw [List.getLast?_cons]
  cases hr : r.getLast? with
  | none => exact absurd (List.getLast?_eq_none_iff.mp hr) h
  | some y => simp
theorem okc_gt {r : List Int} {c : Int} (h : r ≠ []) (hl : ∀ y ∈ r, c < y) : okc r c = false := by
  unfold okc
  cases hr : r.getLast? with
  | none => exact absurd (List.getLast?_eq_none_iff.mp hr) h
  | some y => have := hl y (List.mem_of_getLast? hr); simp; omega
theorem okc_nil (c : Int) : okc [] c = true := rfl
theorem flatMap_cg {α β : Type} {f g : α → List β} : ∀ {l : List α}, (∀ x ∈ l, f x = g x) → l.flatMap f = l.flatMap g
  | [], _ => rfl
  | x :: l, h => by simp only [List.flatMap_cons]; rw [h x (by simp), flatMap_cg fun y hy => h y (by simp [hy])]
theorem step_rowsN : ∀ {l : List Int} (k : Nat), l.Pairwise (· < ·) → (rowsN l k).flatMap (extN l) = rowsN l (k + 1)
  | [], 0, _ => by simp [rowsN_zero, extN, rowsN]
  | [], k + 1, _ => by simp [rowsN]
  | x :: l, 0, h => by
    have hc := List.pairwise_cons.mp h
    have := step_rowsN 0 hc.2
    rw [rowsN_zero] at this ⊢
    simp [extN, okc_nil] at this ⊢
    rw [rowsN, rowsN_zero, ← this]
    simp [List.filter_cons, okc_nil]
  | x :: l, k + 1, h => by
    have hc := List.pairwise_cons.mp h
    have e1 := step_rowsN k hc.2
    have e2 := step_rowsN (k + 1) hc.2
    conv => lhs; rw [rowsN]
    conv => rhs; rw [rowsN]
    rw [List.flatMap_append]
    congr 1
    · rw [List.flatMap_map, ← e1, List.map_flatMap]
      refine flatMap_cg fun r hr => ?_
      obtain ⟨h1, _⟩ := mem_rowsN.mp hr
      show extN (x :: l) (x :: r) = (extN l r).map (x :: ·)
      unfold extN
      by_cases h0 : r = []
      · subst h0
        have : okc [x] x = false := by simp [okc]
        rw [List.filter_cons_of_neg (by simp [this])]
        rw [List.filter_eq_self.mpr (fun c hc' => by simp [okc, hc.1 c hc']), List.filter_eq_self.mpr (fun c _ => okc_nil c)]
        simp
      · rw [okc_cons x r h0, List.filter_cons_of_neg (by rw [okc_gt h0 fun y hy => hc.1 y (h1.subset hy)]; simp)]
        simp
    · refine (flatMap_cg fun r hr => ?_).trans e2
      obtain ⟨h1, h2⟩ := mem_rowsN.mp hr
      unfold extN
      have h0 : r ≠ [] := by intro h; subst h; simp at h2
      rw [List.filter_cons_of_neg (by rw [okc_gt h0 fun y hy => hc.1 y (h1.subset hy)]; simp)]
def irange (n : Int) : List Int := (List.range n.toNat).map fun k : Nat => (k : Int)
theorem mem_irange {n x : Int} : x ∈ irange n ↔ 0 ≤ x ∧ x < n := by
  unfold irange
  simp
  constructor
  · rintro ⟨k, h, rfl⟩; omega
  · rintro ⟨h1, h2⟩; exact ⟨x.toNat, by omega, by omega⟩
theorem irange_asc (n : Int) : (irange n).Pairwise (· < ·) := by
  unfold irange
  rw [List.pairwise_map]
  exact List.pairwise_lt_range.imp fun h => by omega
theorem irange_len (n : Int) : (irange n).length = n.toNat := by simp [irange]
theorem rangeD_irange (n : Int) : rangeD 0 n = (irange n).map .int := by
  simp [rangeD, irange]
theorem it_range {n : Int} (h1 : -(2 ^ 62) ≤ n) (h2 : n ≤ LINE) : itemsD .range [.int n] = .ok ((irange n).map .int) := by
  simp only [itemsD, if_pos (And.intro h1 h2), rangeD_irange]
theorem getD_last {r : List Int} {y : Int} (h : r.getLast? = some y) : getD ((PySem.PyData.tuple (List.map PySem.PyData.int r))) (.int (-1)) = .ok (.int y) := by
  have h0 : r ≠ [] := by intro h'; subst h'; simp at h
  have h1 := List.length_pos_iff.mpr h0
  have h3 : (r.map PyData.int)[((-1 : Int) + (r.length : Int)).toNat]? = some (.int y) := by
    rw [List.getElem?_map, show ((-1 : Int) + (r.length : Int)).toNat = r.length - 1 from by omega, ← List.getLast?_eq_getElem?, h]; rfl
  simp only [getD, ixD, List.length_map]
  rw [if_neg (by omega), if_pos (by omega)]
  simp only [h3]
theorem nil_rows : ([] : List D) = rowsL [] := rfl
theorem r_rows_out_of {cards : List Int} {n : Int} (k : Nat) (ha : cards.Pairwise (· < ·)) (hc : cards.length ≤ 13) (h1 : -(2 ^ 62) ≤ n) (h2 : n ≤ LINE) :
    run tbl (k + 1) f_rows_out_of [(PySem.PyData.tuple (List.map PySem.PyData.int cards)), .int n] = .ok (.d (.list (rowsL (rowsN cards n.toNat)))) := by
  refine run_sat rfl rfl ?_
  simp -implicitDefEqProofs [-List.length_flatMap, slotV, slotR, ownL, frzSlot, isTy, startA, notR, F_rows_out_of]
  rw [it_range h1 h2]
  simp -implicitDefEqProofs [-List.length_flatMap, slotV, slotR, ownL, frzSlot, isTy, startA, notR]
  refine for_nx (fun pre σ => ∃ x y z u, σ = [some (.d ((PySem.PyData.tuple (List.map PySem.PyData.int cards)))), some (.d (.int n)), some (.d (.list (rowsL (rowsN cards pre.length)))), x, y, z, u]) ⟨_, _, _, _, by rw [List.length_nil, rowsN_zero]; rfl⟩ ?_ ?_
  · rintro pre t post σ - ⟨x, y, z, u, rfl⟩
    have hb : ∀ m, (rowsN cards m).length ≤ 8192 := fun m => Nat.le_trans (rowsN_len cards m) (Nat.le_trans (Nat.pow_le_pow_right (by omega) hc) (by decide))
    have hL : 8192 < LINE := by decide
    simp -implicitDefEqProofs [-List.length_flatMap, slotV, slotR, ownL, frzSlot, isTy, startA, notR, forB]
    refine for_nx (fun pr σ => ∃ z u, σ = [some (.d ((PySem.PyData.tuple (List.map PySem.PyData.int cards)))), some (.d (.int n)), some (.d (.list (rowsL (rowsN cards pre.length)))), some (.d (.int t)), some (.fl (rowsL (pr.flatMap (extN cards)))), z, u]) ⟨_, _, rfl⟩ ?_ ?_
    · rintro pr row po σ e ⟨z, u, rfl⟩
      simp -implicitDefEqProofs [-List.length_flatMap, slotV, slotR, ownL, frzSlot, isTy, startA, notR, forB]
      refine for_nx (fun pc σ => ∃ u, σ = [some (.d ((PySem.PyData.tuple (List.map PySem.PyData.int cards)))), some (.d (.int n)), some (.d (.list (rowsL (rowsN cards pre.length)))), some (.d (.int t)), some (.fl (rowsL (pr.flatMap (extN cards) ++ (pc.filter (okc row)).map fun c => row ++ [c]))), some (.d ((PySem.PyData.tuple (List.map PySem.PyData.int row)))), u]) ⟨_, by simp; rfl⟩ ?_ ?_
      · rintro pc c po2 σ e2 ⟨u, rfl⟩
        have hl : (pr.flatMap (extN cards)).length + (pc.filter (okc row)).length < LINE := by
          have h3 := hb (pre.length + 1)
          rw [← step_rowsN pre.length ha, e, List.flatMap_append, List.flatMap_cons] at h3
          rw [List.length_append, List.length_append] at h3
          have h4 : (extN cards row).length = (pc.filter (okc row)).length + ((c :: po2).filter (okc row)).length := by
            unfold extN; rw [List.length_map]; conv => lhs; rw [e2]
            rw [List.filter_append, List.length_append]
          omega
        have ho : (okc row c) = (decide (row = []) || decide (c > row.getLast?.getD 0)) := by
          unfold okc
          cases h : row.getLast? with
          | none => simp [List.getLast?_eq_none_iff.mp h]
          | some y => have : row ≠ [] := by intro h'; subst h'; simp at h
                      simp [this]
        have he : orR (.ok (.d (.bool (decide (row = []))))) (cmp2 COp.gt (Res.ok (RV.d (PyData.int c))) (dR (getD ((PySem.PyData.tuple (List.map PySem.PyData.int row))) (.int (-1))))) = .ok (.d (.bool (okc row c))) := by
          by_cases h0 : row = []
          · subst h0; rfl
          · cases h : row.getLast? with
            | none => exact absurd (List.getLast?_eq_none_iff.mp h) h0
            | some y => rw [getD_last h, ho, h]; simp [h0, dR_ok, cmp2_ok, gt_i, boolR_ok, orR_f]
        simp -implicitDefEqProofs [-List.length_flatMap, slotV, slotR, ownL, frzSlot, isTy, startA, notR, forB, eq_row0, he]
        have hr : row.length + 1 ≤ LINE := by
          have : row ∈ rowsN cards pre.length := by rw [e]; simp
          have := (mem_rowsN.mp this).1.length_le
          omega
        by_cases h5 : okc row c = true
        · simp -implicitDefEqProofs [-List.length_flatMap, slotV, slotR, ownL, frzSlot, isTy, startA, notR, h5, hl, hr]
        · simp -implicitDefEqProofs [-List.length_flatMap, slotV, slotR, ownL, frzSlot, isTy, startA, notR, h5]
      · rintro σ ⟨u, rfl⟩
        simp -implicitDefEqProofs [-List.length_flatMap, slotV, slotR, ownL, frzSlot, isTy, startA, notR, extN]
    · rintro σ ⟨z, u, rfl⟩
      simp -implicitDefEqProofs [-List.length_flatMap, slotV, slotR, ownL, frzSlot, isTy, startA, notR]
      rw [← step_rowsN pre.length ha]
  · rintro σ ⟨x, y, z, u, rfl⟩
    simp -implicitDefEqProofs [-List.length_flatMap, slotV, slotR, ownL, frzSlot, isTy, startA, notR, irange_len]
def othersN (n : Int) (hand : List Int) : List Int := (irange n).filter fun x => !decide (x ∈ hand)
theorem othersN_asc (n : Int) (hand : List Int) : (othersN n hand).Pairwise (· < ·) := (irange_asc _).filter _
theorem othersN_len {n : Int} (hand : List Int) : (othersN n hand).length ≤ n.toNat := Nat.le_trans (List.length_filter_le _ _) (by rw [irange_len]; omega)
theorem r_others {a b c : Int} {r : List Int} (k : Nat) (h : SetOk a b c) : run tbl (k + 1) f_others [stg a b c, (PySem.PyData.tuple (List.map PySem.PyData.int r))] = .ok (.d ((PySem.PyData.tuple (List.map PySem.PyData.int (othersN (a + b + c) r))))) := by
  obtain ⟨h1, h2, h3, h4⟩ := h
  refine run_sat rfl rfl ?_
  simp -implicitDefEqProofs [-List.length_flatMap, slotV, slotR, ownL, frzSlot, isTy, startA, notR, F_others]
  rw [it_range (by omega) (by simp [LINE]; omega)]
  simp -implicitDefEqProofs [-List.length_flatMap, slotV, slotR, ownL, frzSlot, isTy, startA, notR]
  rw [collect_fm (fun x => !decide (x ∈ r)) PyData.int]
  · simp -implicitDefEqProofs [-List.length_flatMap, slotV, slotR, ownL, frzSlot, isTy, startA, notR, othersN]
  · intro x _
    simp -implicitDefEqProofs [-List.length_flatMap, slotV, slotR, ownL, frzSlot, isTy, startA, notR, lcB, lcC, in_row]
def cntN (m : Int) (k : Nat) : Int := (List.range k).foldl (fun acc (s : Nat) => acc * (m - s) / (s + 1)) 1
theorem r_count_rows {m n : Int} (k : Nat) (h1 : 0 ≤ n) (h2 : n ≤ 13) (h3 : 0 ≤ m) (h4 : m ≤ 13) : run tbl (k + 1) f_count_rows [.int m, .int n] = .ok (.d (.int (cntN m n.toNat))) := by
  refine run_sat rfl rfl ?_
  simp -implicitDefEqProofs [-List.length_flatMap, slotV, slotR, ownL, frzSlot, isTy, startA, notR, F_count_rows]
  rw [it_range (by omega) (by simp [LINE]; omega)]
  simp -implicitDefEqProofs [-List.length_flatMap, slotV, slotR, ownL, frzSlot, isTy, startA, notR]
  refine for_nx (fun pre σ => ∃ z, σ = [some (.d (.int m)), some (.d (.int n)), some (.d (.int (pre.foldl (fun acc s => acc * (m - s) / (s + 1)) 1))), z]) ⟨_, rfl⟩ ?_ ?_
  · rintro pre x post σ e ⟨t, rfl⟩
    have hx : x ∈ irange n := by rw [e]; simp
    rw [mem_irange] at hx
    have q1 : mulOk (pre.foldl (fun acc s => acc * (m - s) / (s + 1)) 1) (m - x) := .inr (.inl (by omega))
    have q2 : divOk (x + 1) := ⟨by omega, by
      have : (x + 1).natAbs < 2 ^ 8 := by omega
      have := (Nat.log2_lt (by omega)).mpr this
      omega⟩
    simp -implicitDefEqProofs [-List.length_flatMap, slotV, slotR, ownL, frzSlot, isTy, startA, notR, forB, q1, q2]
  · rintro σ ⟨z, rfl⟩
    simp -implicitDefEqProofs [-List.length_flatMap, slotV, slotR, ownL, frzSlot, isTy, startA, notR, cntN, irange]
    rw [List.foldl_map]
structure Deal where
  h : List Int
  b : List Int
  c : List Int
  deriving DecidableEq
def encD (x : Deal) : D := .tuple [(PySem.PyData.tuple (List.map PySem.PyData.int x.h)), (PySem.PyData.tuple (List.map PySem.PyData.int x.b)), (PySem.PyData.tuple (List.map PySem.PyData.int x.c))]
def dealsHand (n b : Int) (hand : List Int) : List Deal :=
  (rowsN (othersN n hand) b.toNat).map fun bill => ⟨hand, bill, (othersN n hand).filter fun x => !decide (x ∈ bill)⟩
theorem dealsHand_len {n b : Int} (hand : List Int) (h : n ≤ 13) : (dealsHand n b hand).length ≤ 8192 := by
  simp only [dealsHand, List.length_map]
  exact Nat.le_trans (rowsN_len _ _) (Nat.le_trans (Nat.pow_le_pow_right (by omega) (Nat.le_trans (othersN_len hand) (by omega : n.toNat ≤ 13))) (by decide))
theorem r_deals_of_hand {a b c : Int} {hand : List Int} (k : Nat) (h : SetOk a b c) : run tbl (k + 2) f_deals_of_hand [stg a b c, (PySem.PyData.tuple (List.map PySem.PyData.int hand))] = .ok (.fl ((dealsHand (a + b + c) b hand).map encD)) := by
  refine run_sat rfl rfl ?_
  obtain ⟨h1, h2, h3, h4⟩ := id h
  simp -implicitDefEqProofs [-List.length_flatMap, slotV, slotR, ownL, frzSlot, isTy, startA, notR, F_deals_of_hand, r_others, h]
  rw [r_rows_out_of k (othersN_asc _ _) (Nat.le_trans (othersN_len hand) (by omega)) (by omega) (by simp [LINE]; omega)]
  simp -implicitDefEqProofs [-List.length_flatMap, slotV, slotR, ownL, frzSlot, isTy, startA, notR]
  refine for_nx (fun pre σ => ∃ x y z, σ = [some (.d (stg a b c)), some (.d ((PySem.PyData.tuple (List.map PySem.PyData.int hand)))), some (.d ((PySem.PyData.tuple (List.map PySem.PyData.int (othersN (a + b + c) hand))))), some (.fl ((pre.map fun bill => (⟨hand, bill, (othersN (a + b + c) hand).filter fun x => !decide (x ∈ bill)⟩ : Deal)).map encD)), x, y, z]) ⟨_, _, _, rfl⟩ ?_ ?_
  · rintro pre bill post σ e ⟨x, y, z, rfl⟩
    have hl : pre.length < LINE := by
      have h5 := dealsHand_len hand h4 (b := b)
      simp only [dealsHand, List.length_map, e, List.length_append, List.length_cons] at h5
      simp [LINE]; omega
    simp -implicitDefEqProofs [-List.length_flatMap, slotV, slotR, ownL, frzSlot, isTy, startA, notR, forB]
    rw [collect_fm (fun x => !decide (x ∈ bill)) PyData.int]
    · simp -implicitDefEqProofs [-List.length_flatMap, slotV, slotR, ownL, frzSlot, isTy, startA, notR, hl, encD]
    · intro x _
      simp -implicitDefEqProofs [-List.length_flatMap, slotV, slotR, ownL, frzSlot, isTy, startA, notR, lcB, lcC, in_row]
  · rintro σ ⟨x, y, z, rfl⟩
    simp -implicitDefEqProofs [-List.length_flatMap, slotV, slotR, ownL, frzSlot, isTy, startA, notR, dealsHand]
end OH
end

section
set_option autoImplicit false
set_option linter.all false
set_option maxRecDepth 100000
namespace OH
open PySem (PyData)
inductive W where | anne | bill | cath | knows | lacks | card | blind | sees | has | misses
  deriving DecidableEq
def W.w : W → Str
  | .anne => w_anne | .bill => w_bill | .cath => w_cath | .knows => w_knows | .lacks => w_lacks | .card => w_card | .blind => w_blind | .sees => w_sees | .has => w_has | .misses => w_misses
abbrev wd (u : W) : D := .str u.w
@[simp] theorem lw_anne : w_anne = W.anne.w := rfl
@[simp] theorem lw_bill : w_bill = W.bill.w := rfl
@[simp] theorem lw_cath : w_cath = W.cath.w := rfl
@[simp] theorem lw_knows : w_knows = W.knows.w := rfl
@[simp] theorem lw_lacks : w_lacks = W.lacks.w := rfl
@[simp] theorem lw_card : w_card = W.card.w := rfl
@[simp] theorem lw_blind : w_blind = W.blind.w := rfl
@[simp] theorem lw_sees : w_sees = W.sees.w := rfl
@[simp] theorem lw_has : w_has = W.has.w := rfl
@[simp] theorem lw_misses : w_misses = W.misses.w := rfl
theorem okW (u : W) : u.w.cps.all (· < 0x110000) = true := by cases u <;> decide +kernel
theorem eqW (u v : W) : (u.w == v.w) = decide (u = v) := by cases u <;> cases v <;> decide +kernel
theorem shp_w (n : Nat) (u : W) : shp n (wd u) = true := by simp only [shp]; exact okW u
theorem eqv_w (u v : W) : eqv (wd u) (wd v) = decide (u = v) := by simp only [eqv]; exact eqW u v
@[simp] theorem eq_w (u v : W) : cmpD .eq (.str u.w) (.str v.w) = .ok (decide (u = v)) := by
  have h1 := shp_w 30 u; have h2 := shp_w 30 v; have h3 := eqv_w u v
  simp only [cmpD, h1, h2, h3, Bool.and_self, if_true]
@[simp] theorem ne_w (u v : W) : cmpD .ne (.str u.w) (.str v.w) = .ok (!decide (u = v)) := by
  have h1 := shp_w 30 u; have h2 := shp_w 30 v; have h3 := eqv_w u v
  simp only [cmpD, h1, h2, h3, Bool.and_self, if_true]
@[simp] theorem in_wt (u : W) (us : List W) : inD (.str u.w) (.tuple (us.map wd)) = .ok (decide (u ∈ us)) := by
  have h1 := shp_w 30 u
  have h2 := shpAll_map (n := 30) (f := wd) (xs := us) fun x _ => shp_w 30 x
  simp only [inD, h1, h2, Bool.and_self, if_true]
  rw [anyEqv (f := wd) eqv_w]
@[simp] theorem in_wl (u : W) (us : List W) : inD (.str u.w) (.list (us.map wd)) = .ok (decide (u ∈ us)) := by
  have h1 := shp_w 30 u
  have h2 := shpAll_map (n := 30) (f := wd) (xs := us) fun x _ => shp_w 30 x
  simp only [inD, h1, h2, Bool.and_self, if_true]
  rw [anyEqv (f := wd) eqv_w]
def W.ix : W → Int
  | .anne => 0
  | .bill => 1
  | _ => 2
def PN : List W := [.anne, .bill, .cath]
theorem idx_people (p : W) (h : p ∈ PN) : methD .index (.tuple (PN.map wd)) [.str p.w] = .ok (.d (.int p.ix)) := by
  have h1 := shp_w 30 p
  have h2 := shpAll_map (n := 30) (f := wd) (xs := PN) fun x _ => shp_w 30 x
  simp only [methD, h1, h2, Bool.and_self, if_true]
  simp [PN] at h
  rcases h with rfl | rfl | rfl <;> simp [PN, idxOf, eqv_w, W.ix]
theorem idx_peoplel (p : W) (h : p ∈ PN) : methD .index (.list (PN.map wd)) [.str p.w] = .ok (.d (.int p.ix)) := by
  have h1 := shp_w 30 p
  have h2 := shpAll_map (n := 30) (f := wd) (xs := PN) fun x _ => shp_w 30 x
  simp only [methD, h1, h2, Bool.and_self, if_true]
  simp [PN] at h
  rcases h with rfl | rfl | rfl <;> simp [PN, idxOf, eqv_w, W.ix]
def OWN : List W := [.knows, .lacks, .card, .blind]
def CW : List W := [.has, .misses]
@[simp] theorem PEOPLE_eq : c_PEOPLE = .tuple (PN.map wd) := rfl
@[simp] theorem OWN_eq : c_OWN_WORDS = .tuple (OWN.map wd) := rfl
@[simp] theorem CARDW_eq : c_CARD_WORDS = .tuple (CW.map wd) := rfl
def Deal.at (d : Deal) : W → List Int
  | .anne => d.h
  | .bill => d.b
  | _ => d.c
@[simp] theorem getD_at (d : Deal) (p : W) : getD (encD d) (.int p.ix) = .ok ((PySem.PyData.tuple (List.map PySem.PyData.int (d.at p)))) := by
  cases p <;> rw [encD, getD_t _ _ _ (by decide) (by rfl)] <;> rfl
theorem r_place_of (k : Nat) {p : W} (h : p ∈ PN) : run tbl (k + 1) f_place_of [.str p.w] = .ok (.d (.int p.ix)) := by
  refine run_sat rfl rfl ?_
  simp -implicitDefEqProofs [-List.length_flatMap, slotV, slotR, ownL, frzSlot, isTy, startA, notR, F_place_of, idx_people, h]
theorem r_law_at (k : Nat) {p : W} (h : p ∈ PN) : run tbl (k + 1) f_law_at [.str p.w] = .ok (.d (.int p.ix)) := by
  refine run_sat rfl rfl ?_
  simp -implicitDefEqProofs [-List.length_flatMap, slotV, slotR, ownL, frzSlot, isTy, startA, notR, F_law_at]
  have := idx_peoplel p h
  simp [PN] at this
  simp -implicitDefEqProofs [-List.length_flatMap, slotV, slotR, ownL, frzSlot, isTy, startA, notR, this]
theorem r_is_person (k : Nat) (p : W) : run tbl (k + 1) f_is_person [.str p.w] = .ok (.d (.bool (decide (p ∈ PN)))) := by
  refine run_sat rfl rfl ?_
  simp -implicitDefEqProofs [-List.length_flatMap, slotV, slotR, ownL, frzSlot, isTy, startA, notR, F_is_person]
theorem r_check_word (k : Nat) {u : W} (h : u ∈ OWN) : run tbl (k + 1) f_check_word [.str u.w] = .ok (.d .none) := by
  refine run_sat rfl rfl ?_
  simp -implicitDefEqProofs [-List.length_flatMap, slotV, slotR, ownL, frzSlot, isTy, startA, notR, F_check_word, h]
abbrev ppl (us : List W) : D := .tuple (us.map wd)
theorem mapIdx_zip {α β : Type} (f : Nat → α → β) (xs : List α) : xs.mapIdx f = xs.zipIdx.map fun p => f p.2 p.1 := by
  rw [List.mapIdx_eq_zipIdx_map]
theorem it_enum_t {α : Type} (f : α → D) (xs : List α) : itemsD .enum [.tuple (xs.map f)] = .ok (xs.zipIdx.map fun p => .tuple [.int p.2, f p.1]) := by
  simp only [itemsD, seqD, Res.bind_ok, mapIdx_zip, List.zipIdx_map, List.map_map]; rfl
theorem zipIdx_pre {α : Type} {xs : List α} {pre post : List (α × Nat)} {p : α × Nat} (e : xs.zipIdx = pre ++ p :: post) : p.2 = pre.length ∧ xs.take pre.length = pre.map (·.1) ∧ xs[pre.length]? = some p.1 := by
  have h1 : xs = (pre ++ p :: post).map (·.1) := by rw [← e, List.zipIdx_map_fst]
  have h2 : (xs.zipIdx)[pre.length]? = some p := by rw [e]; simp
  rw [List.getElem?_zipIdx] at h2
  obtain ⟨y, hy, rfl⟩ := Option.map_eq_some_iff.mp h2
  refine ⟨by simp, ?_, hy⟩
  rw [h1]; simp
theorem r_check_speakers (k : Nat) {us : List W} (h : ∀ u ∈ us, u ∈ PN) (h0 : us ≠ []) (hn : us.Nodup) : run tbl (k + 2) f_check_speakers [ppl us] = .ok (.d .none) := by
  have h1 : eqv (ppl us) (.tuple []) = false := by cases us <;> simp_all [eqv, eqvAll]
  have h2 : shp 30 (ppl us) = true := by simp only [shp]; exact shpAll_map fun x _ => shp_w _ x
  have h3 : cmpD .eq (ppl us) (.tuple []) = .ok false := by
    simp only [cmpD, h1, h2]; rfl
  refine run_sat rfl rfl ?_
  simp -implicitDefEqProofs [-List.length_flatMap, slotV, slotR, ownL, frzSlot, isTy, startA, notR, F_check_speakers, h3]
  rw [it_enum_t]
  simp -implicitDefEqProofs [-List.length_flatMap, slotV, slotR, ownL, frzSlot, isTy, startA, notR]
  refine for_nx (fun pre σ => ∃ x y, σ = [some (.d (ppl us)), x, y]) ⟨_, _, rfl⟩ ?_ ?_
  · rintro pre ⟨u, i⟩ post σ e ⟨x, y, rfl⟩
    obtain ⟨e1, e2, e3⟩ := zipIdx_pre e
    simp only at e1 e3
    subst e1
    have hu : u ∈ PN := h u (List.mem_of_getElem? e3)
    have hm : u ∉ us.take pre.length := by
      intro hm
      obtain ⟨j, hj, ej⟩ := List.getElem_of_mem hm
      rw [List.getElem_take] at ej
      have hj2 : j < pre.length := by simp at hj; omega
      have h5 := (List.getElem?_eq_some_iff.mp e3)
      obtain ⟨h6, h7⟩ := h5
      exact (List.pairwise_iff_getElem.mp hn) j pre.length (by omega) h6 hj2 (by rw [ej, h7])
    have h4 : inD (.str u.w) (.tuple (cutL (us.map wd) none (some (pre.length : Int)))) = .ok false := by
      rw [cutL_to, ← List.map_take, in_wt]; simp [hm]
    simp -implicitDefEqProofs [-List.length_flatMap, slotV, slotR, ownL, frzSlot, isTy, startA, notR, forB, r_is_person, hu, h4]
  · rintro σ ⟨x, y, rfl⟩
    simp -implicitDefEqProofs [-List.length_flatMap, slotV, slotR, ownL, frzSlot, isTy, startA, notR]
theorem pw_mono {α : Type} {R : α → α → Bool} (xs : List α) (h : ∀ x y, R x y = true) : (xs.all fun x => xs.all fun y => R x y) = true := by
  simp [h]
theorem map_ms {α : Type} {f : α → D} {r : α → α → Bool} (xs : List α) (h : ∀ a b, ltD (f a) (f b) = r a b) : sortD (xs.map f) = (xs.mergeSort fun a b => !r b a).map f := by
  unfold sortD
  rw [List.map_mergeSort (s := fun a b => !ltD b a)]
  intro a _ b _; simp [h]
def sortI (xs : List Int) : List Int := xs.mergeSort fun a b => !decide (b < a)
def sortR (xs : List (List Int)) : List (List Int) := xs.mergeSort fun a b => !decide (b < a)
theorem srt_i (xs : List Int) : srtOk (xs.map .int) = true := by
  simp [srtOk, alikeD, shp, flatS]
theorem sort_i (xs : List Int) : sortD (xs.map .int) = (sortI xs).map .int := map_ms xs fun a b => by simp [ltD]
theorem srt_r (xs : List (List Int)) (h : ∀ r ∈ xs, r ≠ []) : srtOk (rowsL xs) = true := by
  have : ∀ r ∈ xs, tupNE ((PySem.PyData.tuple (List.map PySem.PyData.int r))) = true := fun r hr => by
    cases r with
    | nil => exact absurd rfl (h _ hr)
    | cons => rfl
  simp [srtOk, alike_row, shp_row]
  exact .inl this
theorem sort_r (xs : List (List Int)) : sortD (rowsL xs) = rowsL (sortR xs) := map_ms xs fun a b => lt_row a b
def kp (held : List Deal) (p q : W) (card : Int) : Bool := !decide (q.ix = p.ix) && held.all fun d => decide (card ∈ d.at q)
theorem kp_fold (held : List Deal) (p q : W) (card : Int) : (!decide (q.ix = p.ix) && held.all fun d => decide (card ∈ d.at q)) = kp held p q card := rfl
def rawKnown (x : Deal) (held : List Deal) (p : W) : List Int := PN.flatMap fun q => (x.at q).filter (kp held p q)
def knownN (held : List Deal) (p : W) : List Int := match held with | [] => [] | x :: r => sortI (rawKnown x (x :: r) p)
/-- the rows are short -/
def DOk (d : Deal) : Prop := ∀ p, (d.at p).length ≤ 13
theorem rawKnown_len {x : Deal} {held : List Deal} {p : W} (h : DOk x) : (rawKnown x held p).length ≤ 39 := by
  have h1 := h .anne; have h2 := h .bill; have h3 := h .cath
  simp only [rawKnown, PN, List.flatMap_cons, List.flatMap_nil, List.length_append, List.append_nil]
  have hq := fun q => List.length_filter_le (kp held p q) (x.at q)
  have h4 := hq .anne; have h5 := hq .bill; have h6 := hq .cath
  omega
theorem it_enum_deal (x : Deal) : itemsD .enum [encD x] = .ok (PN.map fun q => .tuple [.int q.ix, (PySem.PyData.tuple (List.map PySem.PyData.int (x.at q)))]) := rfl
theorem r_known_to (k : Nat) {p : W} (h : p ∈ PN) {x : Deal} {S r : List Deal} (hS : S = x :: r) (hd : DOk x) : run tbl (k + 2) f_known_to [.list (S.map encD), .str p.w] = .ok (.d ((PySem.PyData.tuple (List.map PySem.PyData.int (knownN S p))))) := by
  have hb := rawKnown_len (x := x) (held := S) (p := p) hd
  have hk : knownN S p = sortI (rawKnown x S p) := by subst hS; rfl
  have h0 : getD (.list (S.map encD)) (.int 0) = .ok (encD x) := by rw [getD_l _ _ _ (by decide)]; subst hS; rfl
  refine run_sat rfl rfl ?_
  simp -implicitDefEqProofs [-List.length_flatMap, slotV, slotR, ownL, frzSlot, isTy, startA, notR, F_known_to, r_place_of, h, h0]
  rw [it_enum_deal]
  simp -implicitDefEqProofs [-List.length_flatMap, slotV, slotR, ownL, frzSlot, isTy, startA, notR]
  refine for_nx (fun pre σ => ∃ x1 x2 x3 x4, σ = [some (.d (.list (S.map encD))), some (.d (.str p.w)), some (.d (.int p.ix)), some (.fl ((pre.flatMap fun q => (x.at q).filter (kp S p q)).map .int)), x1, x2, x3, x4]) ⟨_, _, _, _, rfl⟩ ?_ ?_
  · rintro pre q post σ e ⟨x1, x2, x3, x4, rfl⟩
    simp -implicitDefEqProofs [-List.length_flatMap, slotV, slotR, ownL, frzSlot, isTy, startA, notR, forB]
    refine for_nx (fun pc σ => ∃ x3 x4, σ = [some (.d (.list (S.map encD))), some (.d (.str p.w)), some (.d (.int p.ix)), some (.fl ((pre.flatMap (fun q => (x.at q).filter (kp S p q)) ++ pc.filter (kp S p q)).map .int)), some (.d (.int q.ix)), some (.d ((PySem.PyData.tuple (List.map PySem.PyData.int (x.at q))))), x3, x4]) ⟨_, _, by rw [List.filter_nil, List.append_nil]⟩ ?_ ?_
    · rintro pc c po σ e2 ⟨x3, x4, rfl⟩
      have hl : (pre.flatMap (fun q => (x.at q).filter (kp S p q))).length + (pc.filter (kp S p q)).length < LINE := by
        have h5 : (rawKnown x S p).length ≤ 39 := hb
        unfold rawKnown at h5
        rw [e, List.flatMap_append, List.flatMap_cons, List.length_append, List.length_append] at h5
        have h6 : ((x.at q).filter (kp S p q)).length = (pc.filter (kp S p q)).length + ((c :: po).filter (kp S p q)).length := by
          conv => lhs; rw [e2]
          rw [List.filter_append, List.length_append]
        simp only [LINE]; omega
      simp -implicitDefEqProofs [-List.length_flatMap, slotV, slotR, ownL, frzSlot, isTy, startA, notR, forB]
      rw [collect_all (fun d => .bool (decide (c ∈ d.at q)))]
      · simp -implicitDefEqProofs [-List.length_flatMap, slotV, slotR, ownL, frzSlot, isTy, startA, notR, kp_fold]
        by_cases hc : kp S p q c = true
        · simp -implicitDefEqProofs [-List.length_flatMap, slotV, slotR, ownL, frzSlot, isTy, startA, notR, kp_fold, hc, hl]
        · simp -implicitDefEqProofs [-List.length_flatMap, slotV, slotR, ownL, frzSlot, isTy, startA, notR, kp_fold, hc]
      · intro d _
        simp -implicitDefEqProofs [-List.length_flatMap, slotV, slotR, ownL, frzSlot, isTy, startA, notR, lcB, lcC, in_row]
    · rintro σ ⟨x3, x4, rfl⟩
      simp -implicitDefEqProofs [-List.length_flatMap, slotV, slotR, ownL, frzSlot, isTy, startA, notR]
  · rintro σ ⟨x1, x2, x3, x4, rfl⟩
    simp -implicitDefEqProofs [-List.length_flatMap, slotV, slotR, ownL, frzSlot, isTy, startA, notR, srt_i, sort_i, hk, rawKnown]
end OH
end

section
set_option autoImplicit false
set_option linter.all false
set_option maxRecDepth 100000
namespace OH
open PySem (PyData)
theorem it_three : itemsD .range [.int 3] = .ok (PN.map fun q => .int q.ix) := rfl
theorem r_law_known (k : Nat) {p : W} (h : p ∈ PN) {x : Deal} {S r : List Deal} (hS : S = x :: r) (hd : DOk x) : run tbl (k + 2) f_law_known [.list (S.map encD), .str p.w] = .ok (.d ((PySem.PyData.tuple (List.map PySem.PyData.int (knownN S p))))) := by
  have hb := rawKnown_len (x := x) (held := S) (p := p) hd
  have hk : knownN S p = sortI (rawKnown x S p) := by subst hS; rfl
  have h0 : getD (.list (S.map encD)) (.int 0) = .ok (encD x) := by rw [getD_l _ _ _ (by decide)]; subst hS; rfl
  refine run_sat rfl rfl ?_
  simp -implicitDefEqProofs [-List.length_flatMap, slotV, slotR, ownL, frzSlot, isTy, startA, notR, F_law_known, r_law_at, h, it_three]
  refine for_nx (fun pre σ => ∃ x1 x2 x3, σ = [some (.d (.list (S.map encD))), some (.d (.str p.w)), some (.d (.int p.ix)), some (.fl ((pre.flatMap fun q => (x.at q).filter (kp S p q)).map .int)), x1, x2, x3]) ⟨_, _, _, rfl⟩ ?_ ?_
  · rintro pre q post σ e ⟨x1, x2, x3, rfl⟩
    simp -implicitDefEqProofs [-List.length_flatMap, slotV, slotR, ownL, frzSlot, isTy, startA, notR, forB, h0]
    refine for_nx (fun pc σ => ∃ x3 x4, σ = [some (.d (.list (S.map encD))), some (.d (.str p.w)), some (.d (.int p.ix)), some (.fl ((pre.flatMap (fun q => (x.at q).filter (kp S p q)) ++ pc.filter (kp S p q)).map .int)), some (.d (.int q.ix)), x3, x4]) ⟨_, _, by rw [List.filter_nil, List.append_nil]⟩ ?_ ?_
    · rintro pc c po σ e2 ⟨x3, x4, rfl⟩
      have hl : (pre.flatMap (fun q => (x.at q).filter (kp S p q))).length + (pc.filter (kp S p q)).length < LINE := by
        have h5 : (rawKnown x S p).length ≤ 39 := hb
        unfold rawKnown at h5
        rw [e, List.flatMap_append, List.flatMap_cons, List.length_append, List.length_append] at h5
        have h6 : ((x.at q).filter (kp S p q)).length = (pc.filter (kp S p q)).length + ((c :: po).filter (kp S p q)).length := by
          conv => lhs; rw [e2]
          rw [List.filter_append, List.length_append]
        simp only [LINE]; omega
      simp -implicitDefEqProofs [-List.length_flatMap, slotV, slotR, ownL, frzSlot, isTy, startA, notR, forB]
      rw [collect_all (fun d => .bool (decide (c ∈ d.at q)))]
      · simp -implicitDefEqProofs [-List.length_flatMap, slotV, slotR, ownL, frzSlot, isTy, startA, notR, kp_fold]
        by_cases hc : kp S p q c = true
        · simp -implicitDefEqProofs [-List.length_flatMap, slotV, slotR, ownL, frzSlot, isTy, startA, notR, kp_fold, hc, hl]
        · simp -implicitDefEqProofs [-List.length_flatMap, slotV, slotR, ownL, frzSlot, isTy, startA, notR, kp_fold, hc]
      · intro d _
        simp -implicitDefEqProofs [-List.length_flatMap, slotV, slotR, ownL, frzSlot, isTy, startA, notR, lcB, lcC, in_row]
    · rintro σ ⟨x3, x4, rfl⟩
      simp -implicitDefEqProofs [-List.length_flatMap, slotV, slotR, ownL, frzSlot, isTy, startA, notR]
  · rintro σ ⟨x1, x2, x3, rfl⟩
    simp -implicitDefEqProofs [-List.length_flatMap, slotV, slotR, ownL, frzSlot, isTy, startA, notR, srt_i, sort_i, hk, rawKnown]
/-- is one of the first four words so, of a person who holds these deals possible -/
def isSoN (w p : W) (held : List Deal) : Bool :=
  match w with
  | .knows => held.length == 1
  | .lacks => !(held.length == 1)
  | .card => !decide (knownN held p = [])
  | _ => decide (knownN held p = [])
theorem r_is_so (k : Nat) {w p : W} (hw : w ∈ OWN) (h : p ∈ PN) {x : Deal} {S r : List Deal} (hS : S = x :: r) (hd : DOk x) : run tbl (k + 3) f_is_so [.list (S.map encD), .str w.w, .str p.w] = .ok (.d (.bool (isSoN w p S))) := by
  have hk := r_known_to k h hS hd
  have hl : S.length = r.length + 1 := by rw [hS]; rfl
  refine run_sat rfl rfl ?_
  simp [OWN] at hw
  rcases hw with rfl | rfl | rfl | rfl
  · simp -implicitDefEqProofs [-List.length_flatMap, slotV, slotR, ownL, frzSlot, isTy, startA, notR, F_is_so, isSoN, hl]; cases r <;> simp; omega
  · simp -implicitDefEqProofs [-List.length_flatMap, slotV, slotR, ownL, frzSlot, isTy, startA, notR, F_is_so, isSoN, hl]; cases r <;> simp; omega
  · simp -implicitDefEqProofs [-List.length_flatMap, slotV, slotR, ownL, frzSlot, isTy, startA, notR, F_is_so, isSoN, hk, ne_row0]
  · simp -implicitDefEqProofs [-List.length_flatMap, slotV, slotR, ownL, frzSlot, isTy, startA, notR, F_is_so, isSoN, hk, ne_row0]
theorem r_law_holds (k : Nat) {w p : W} (hw : w ∈ OWN) (h : p ∈ PN) {x : Deal} {S r : List Deal} (hS : S = x :: r) (hd : DOk x) : run tbl (k + 3) f_law_holds_k75 [.list (S.map encD), .str w.w, .str p.w] = .ok (.d (.bool (isSoN w p S))) := by
  have hk := r_law_known k h hS hd
  have hl : S.length = r.length + 1 := by rw [hS]; rfl
  refine run_sat rfl rfl ?_
  simp [OWN] at hw
  rcases hw with rfl | rfl | rfl | rfl
  · simp -implicitDefEqProofs [-List.length_flatMap, slotV, slotR, ownL, frzSlot, isTy, startA, notR, F_law_holds_k75, isSoN, hl]; cases r <;> simp; omega
  · simp -implicitDefEqProofs [-List.length_flatMap, slotV, slotR, ownL, frzSlot, isTy, startA, notR, F_law_holds_k75, isSoN, hl]; cases r <;> simp; omega
  · simp -implicitDefEqProofs [-List.length_flatMap, slotV, slotR, ownL, frzSlot, isTy, startA, notR, F_law_holds_k75, isSoN, hk, ne_row0]
  · simp -implicitDefEqProofs [-List.length_flatMap, slotV, slotR, ownL, frzSlot, isTy, startA, notR, F_law_holds_k75, isSoN, hk, ne_row0]
abbrev Grp := List (List Int × List Deal)
def putT (k : List Int) (x : Deal) : Grp → Grp
  | [] => [(k, [x])]
  | p :: g => if p.1 = k then (p.1, p.2 ++ [x]) :: g else p :: putT k x g
def lookT (k : List Int) : Grp → Option (List Deal)
  | [] => none
  | p :: g => if p.1 = k then some p.2 else lookT k g
def grp (f : Deal → List Int) (xs : List Deal) : Grp := xs.foldl (fun g x => putT (f x) x g) []
theorem grp_snoc (f : Deal → List Int) (xs : List Deal) (x : Deal) : grp f (xs ++ [x]) = putT (f x) x (grp f xs) := by simp [grp]
theorem lookT_put (k k' : List Int) (x : Deal) : ∀ g : Grp, lookT k' (putT k x g) = if k = k' then some ((lookT k g).getD [] ++ [x]) else lookT k' g
  | [] => by simp [putT, lookT]
  | p :: g => by
    simp only [putT]
    by_cases h : p.1 = k
    · simp only [h, if_true, lookT]
      by_cases h2 : k = k' <;> simp [h2]
    · simp only [h, if_false, lookT, lookT_put k k' x g]
      by_cases h2 : k = k'
      · subst h2; simp [h]
      · simp only [h2, if_false]
theorem list_snoc_ind {α : Type} {P : List α → Prop} (h0 : P []) (h1 : ∀ xs x, P xs → P (xs ++ [x])) (xs : List α) : P xs := by
  have : ∀ ys : List α, P ys.reverse := fun ys => by
    induction ys with
    | nil => exact h0
    | cons y ys ih => rw [List.reverse_cons]; exact h1 _ _ ih
  have := this xs.reverse
  rwa [List.reverse_reverse] at this
theorem lookT_grp (f : Deal → List Int) (k : List Int) (xs : List Deal) : lookT k (grp f xs) = if xs.filter (fun x => decide (f x = k)) = [] then none else some (xs.filter fun x => decide (f x = k)) := by
  induction xs using list_snoc_ind with
  | h0 => rfl
  | h1 xs x ih =>
    rw [grp_snoc, lookT_put, List.filter_append]
    by_cases h : f x = k
    · subst h
      rw [ih]
      simp
      split <;> simp_all
    · simp [h, ih]
theorem putT_len (k : List Int) (x : Deal) : ∀ g : Grp, (putT k x g).length ≤ g.length + 1
  | [] => by simp [putT]
  | p :: g => by
    simp only [putT]
    have := putT_len k x g
    split <;> simp <;> omega
theorem grp_len (f : Deal → List Int) (xs : List Deal) : (grp f xs).length ≤ xs.length := by
  induction xs using list_snoc_ind with
  | h0 => simp [grp]
  | h1 xs x ih => rw [grp_snoc]; have := putT_len (f x) x (grp f xs); simp; omega
theorem putT_keys (k : List Int) (x : Deal) : ∀ g : Grp, (putT k x g).map (·.1) = if k ∈ g.map (·.1) then g.map (·.1) else g.map (·.1) ++ [k]
  | [] => by simp [putT]
  | p :: g => by
    simp only [putT]
    by_cases h : p.1 = k
    · simp [h]
    · have h' : ¬ k = p.1 := fun e => h e.symm
      simp only [h, if_false, List.map_cons, putT_keys k x g, List.mem_cons, h', false_or]
      split <;> simp
theorem grp_keys (f : Deal → List Int) (xs : List Deal) : ∀ k, k ∈ (grp f xs).map (·.1) ↔ k ∈ xs.map f := by
  induction xs using list_snoc_ind with
  | h0 => simp [grp]
  | h1 xs x ih =>
    intro k
    rw [grp_snoc, putT_keys]
    by_cases h : f x ∈ (grp f xs).map (·.1)
    · rw [if_pos h, ih k, List.map_append, List.mem_append]
      rw [ih] at h
      constructor
      · exact .inl
      · rintro (h2 | h2)
        · exact h2
        · simp at h2; subst h2; exact h
    · rw [if_neg h, List.mem_append, ih k, List.map_append, List.mem_append]; simp
theorem grp_nodup (f : Deal → List Int) (xs : List Deal) : ((grp f xs).map (·.1)).Nodup := by
  induction xs using list_snoc_ind with
  | h0 => simp [grp]
  | h1 xs x ih =>
    rw [grp_snoc, putT_keys]
    split
    · exact ih
    · rename_i h
      rw [List.nodup_append]
      exact ⟨ih, by simp, by intro a ha b hb; simp at hb; subst hb; intro e; subst e; exact h ha⟩
theorem lookT_mem : ∀ {g : Grp} {k : List Int} {v : List Deal}, (g.map (·.1)).Nodup → (k, v) ∈ g → lookT k g = some v
  | [], _, _, _, h => by simp at h
  | p :: g, k, v, hn, h => by
    simp only [List.map_cons, List.nodup_cons] at hn
    simp only [lookT]
    rcases List.mem_cons.mp h with rfl | h
    · simp
    · have : p.1 ≠ k := fun e => hn.1 (by rw [e]; exact List.mem_map_of_mem (f := (·.1)) h)
      simp [this, lookT_mem hn.2 h]
theorem mem_grp {f : Deal → List Int} {xs : List Deal} {k : List Int} {v : List Deal} (h : (k, v) ∈ grp f xs) : v = xs.filter (fun x => decide (f x = k)) ∧ v ≠ [] := by
  have h1 := lookT_mem (grp_nodup f xs) h
  rw [lookT_grp] at h1
  split at h1
  · cases h1
  · cases h1; exact ⟨rfl, ‹_›⟩
def encG (g : Grp) : List (D × List D) := g.map fun p => ((PySem.PyData.tuple (List.map PySem.PyData.int p.1)), p.2.map encD)
def grpR (g : Grp) : RV := if g = [] then .fd [] else .fg (encG g)
def grpV (g : Grp) : D := .dict (g.map fun p => ((PySem.PyData.tuple (List.map PySem.PyData.int p.1)), .list (p.2.map encD)))
theorem grpR_frz (g : Grp) : (grpR g).frz = .ok (grpV g) := by
  unfold grpR grpV
  split
  · subst g; rfl
  · simp [encG, grpD, List.map_map]
theorem grpR_val (g : Grp) : (grpR g).val = grpV g := by
  unfold grpR grpV
  split
  · subst g; rfl
  · simp [encG, grpD, List.map_map]
theorem grpR_isB (g : Grp) : (grpR g).isB = false := by unfold grpR; split <;> rfl
theorem key_row (r : List Int) : isKeyT ((PySem.PyData.tuple (List.map PySem.PyData.int r))) = true := by
  simp only [isKeyT]
  induction r with
  | nil => simp [isKeyAll]
  | cons x r ih => simp [isKeyAll, isKey, ih]
theorem look_enc {β γ : Type} (g : List (List Int × β)) (F : β → γ) (k : List Int) : look ((PySem.PyData.tuple (List.map PySem.PyData.int k))) (g.map fun p => ((PySem.PyData.tuple (List.map PySem.PyData.int p.1)), F p.2)) = (g.find? fun p => decide (p.1 = k)).map fun p => F p.2 := by
  induction g with
  | nil => rfl
  | cons p g ih =>
    simp only [List.map_cons, look, eqv_row, ih, List.find?_cons]
    by_cases h : p.1 = k <;> simp [h]
theorem lookT_find (k : List Int) (g : Grp) : lookT k g = (g.find? fun p => decide (p.1 = k)).map (·.2) := by
  induction g with
  | nil => rfl
  | cons p g ih =>
    simp only [lookT, ih, List.find?_cons]
    by_cases h : p.1 = k <;> simp [h]
theorem put_enc (k : List Int) (x : Deal) (g : Grp) : put ((PySem.PyData.tuple (List.map PySem.PyData.int k))) ((((lookT k g).getD []).map encD) ++ [encD x]) (encG g) = encG (putT k x g) := by
  induction g with
  | nil => simp [encG, put, putT, lookT]
  | cons p g ih =>
    simp only [encG, List.map_cons, put, eqv_row, putT, lookT] at ih ⊢
    by_cases h : p.1 = k
    · simp [h]
    · simp only [h, decide_false, if_false, List.map_cons, Bool.false_eq_true]
      rw [ih]
theorem gput_grp (k : List Int) (x : Deal) (g : Grp) (h1 : g.length < LINE) (h2 : ((lookT k g).getD []).length < LINE) : gputD (grpR g) ((PySem.PyData.tuple (List.map PySem.PyData.int k))) (encD x) = .ok (grpR (putT k x g)) := by
  have hne : putT k x g ≠ [] := by cases g <;> simp [putT]; split <;> simp
  have hR : grpR (putT k x g) = .fg (encG (putT k x g)) := by simp [grpR, hne]
  rw [hR]
  unfold grpR
  split
  · subst g
    simp [gputD, key_row, encG, putT]
  · have hk := key_row k
    have hlook : look ((PySem.PyData.tuple (List.map PySem.PyData.int k))) (encG g) = (lookT k g).map (·.map encD) := by
      unfold encG; rw [look_enc, lookT_find, Option.map_map]; rfl
    simp only [gputD, hk, if_true, hlook]
    have hp := put_enc k x g
    cases hl : lookT k g with
    | none =>
      rw [hl] at hp
      simp at hp
      simp [encG, h1] at hp ⊢
      exact hp
    | some v =>
      rw [hl] at hp h2
      simp at hp h2
      simp [h2, hp]
theorem grp_room (f : Deal → List Int) (pre : List Deal) (k : List Int) (h : pre.length < LINE) : (grp f pre).length < LINE ∧ ((lookT k (grp f pre)).getD []).length < LINE := by
  refine ⟨Nat.lt_of_le_of_lt (grp_len f pre) h, ?_⟩
  rw [lookT_grp]
  split
  · simp [LINE]
  · exact Nat.lt_of_le_of_lt (List.length_filter_le _ _) h
theorem r_held_groups (k : Nat) {p : W} (h : p ∈ PN) {S : List Deal} (hS : S.length ≤ LINE) : run tbl (k + 2) f_held_groups [.list (S.map encD), .str p.w] = .ok (grpR (grp (·.at p) S)) := by
  refine run_sat rfl rfl ?_
  simp -implicitDefEqProofs [-List.length_flatMap, slotV, slotR, ownL, frzSlot, isTy, startA, notR, F_held_groups, r_place_of, h]
  refine for_nx (fun pre σ => ∃ x1, σ = [some (.d (.list (S.map encD))), some (.d (.str p.w)), some (.d (.int p.ix)), some (grpR (grp (·.at p) pre)), x1]) ⟨_, rfl⟩ ?_ ?_
  · rintro pre x post σ e ⟨x1, rfl⟩
    have hl : pre.length < LINE := by
      rw [e] at hS; simp at hS; omega
    obtain ⟨q1, q2⟩ := grp_room (·.at p) pre (x.at p) hl
    simp -implicitDefEqProofs [-List.length_flatMap, slotV, slotR, ownL, frzSlot, isTy, startA, notR, forB, gput_grp, q1, q2, grp_snoc]
  · rintro σ ⟨x1, rfl⟩
    simp -implicitDefEqProofs [-List.length_flatMap, slotV, slotR, ownL, frzSlot, isTy, startA, notR]
theorem r_law_groups (k : Nat) {p : W} (h : p ∈ PN) {S : List Deal} (hS : S.length ≤ LINE) : run tbl (k + 2) f_law_groups [.list (S.map encD), .str p.w] = .ok (grpR (grp (·.at p) S)) := by
  refine run_sat rfl rfl ?_
  simp -implicitDefEqProofs [-List.length_flatMap, slotV, slotR, ownL, frzSlot, isTy, startA, notR, F_law_groups, r_law_at, h]
  refine for_nx (fun pre σ => ∃ x1 x2, σ = [some (.d (.list (S.map encD))), some (.d (.str p.w)), some (.d (.int p.ix)), some (grpR (grp (·.at p) pre)), x1, x2]) ⟨_, _, rfl⟩ ?_ ?_
  · rintro pre x post σ e ⟨x1, x2, rfl⟩
    have hl : pre.length < LINE := by
      rw [e] at hS; simp at hS; omega
    obtain ⟨q1, q2⟩ := grp_room (·.at p) pre (x.at p) hl
    simp -implicitDefEqProofs [-List.length_flatMap, slotV, slotR, ownL, frzSlot, isTy, startA, notR, forB, gput_grp, q1, q2, grp_snoc]
  · rintro σ ⟨x1, x2, rfl⟩
    simp -implicitDefEqProofs [-List.length_flatMap, slotV, slotR, ownL, frzSlot, isTy, startA, notR]
theorem slotR_grp (g : Grp) : (grpR g).keep = .ok (grpR g) := by unfold grpR; split <;> rfl
end OH
end

section
set_option autoImplicit false
set_option linter.all false
set_option maxRecDepth 100000
namespace OH
open PySem (PyData)
inductive Say where
  | own (w p : W)
  | sees (p q : W)
  | card (w p : W) (c : Int)
  deriving DecidableEq
def encS : Say → D
  | .own w p => .tuple [.str w.w, .str p.w]
  | .sees p q => .tuple [.str W.sees.w, .str p.w, .str q.w]
  | .card w p c => .tuple [.str w.w, .str p.w, .int c]
def SayOk (n : Int) : Say → Prop
  | .own w p => w ∈ OWN ∧ p ∈ PN
  | .sees p q => p ∈ PN ∧ q ∈ PN ∧ p ≠ q
  | .card w p c => w ∈ CW ∧ p ∈ PN ∧ 0 ≤ c ∧ c < n
/-- the deals that are like d to p -/
def like (S : List Deal) (p : W) (d : Deal) : List Deal := S.filter fun e => decide (e.at p = d.at p)
theorem like_fold (S : List Deal) (p : W) (d : Deal) : (S.filter fun e => decide (e.at p = d.at p)) = like S p d := rfl
theorem like_mem {S : List Deal} {p : W} {d : Deal} (h : d ∈ S) : d ∈ like S p d := by simp [like, h]
theorem like_cons {S : List Deal} {p : W} {d : Deal} (h : d ∈ S) : ∃ x r, like S p d = x :: r ∧ x ∈ S := by
  cases hl : like S p d with
  | nil => have := like_mem (p := p) h; rw [hl] at this; cases this
  | cons x r => exact ⟨x, r, rfl, by have : x ∈ like S p d := by rw [hl]; simp
                                     exact (List.mem_filter.mp this).1⟩
def sure (S : List Deal) (q : W) (e : Deal) : Bool := (like S q e).length == 1
def seesN (S : List Deal) (q : W) (held : List Deal) : Bool := held.all fun e => sure S q e
def cardN (w p : W) (c : Int) (d : Deal) : Bool := decide (c ∈ d.at p) == decide (w = .has)
def toldBy (S : List Deal) : Say → List Deal
  | .own w p => S.filter fun d => isSoN w p (like S p d)
  | .sees p q => S.filter fun d => seesN S q (like S p d)
  | .card w p c => S.filter (cardN w p c)
theorem putP_new {β : Type} (k : D) (v : β) : ∀ acc : List (D × β), (∀ q ∈ acc, eqv q.1 k = false) → put k v acc = acc ++ [(k, v)]
  | [], _ => rfl
  | q :: acc, h => by
    simp only [put, h q (by simp), Bool.false_eq_true, if_false, putP_new k v acc fun x hx => h x (by simp [hx]), List.cons_append]
theorem putAll_new {β : Type} (F : List Int × β → D) (g : List (List Int × β)) (h : (g.map (·.1)).Nodup) : putAll (g.map fun p => ((PySem.PyData.tuple (List.map PySem.PyData.int p.1)), F p)) = g.map fun p => ((PySem.PyData.tuple (List.map PySem.PyData.int p.1)), F p) := by
  induction g using list_snoc_ind with
  | h0 => rfl
  | h1 g p ih =>
    rw [List.map_append, List.nodup_append] at h
    have ih := ih h.1
    unfold putAll at ih ⊢
    rw [List.map_append, List.foldl_append, ih]
    simp only [List.map_cons, List.map_nil, List.foldl_cons, List.foldl_nil]
    rw [putP_new]
    intro q hq
    obtain ⟨r, hr, rfl⟩ := List.mem_map.mp hq
    rw [eqv_row]
    have := h.2.2 r.1 (List.mem_map_of_mem (f := (·.1)) hr) p.1 (by simp)
    simpa using this
theorem look_grp {β : Type} (V : List Deal → β) {S : List Deal} {p : W} {d : Deal} (h : d ∈ S) : look ((PySem.PyData.tuple (List.map PySem.PyData.int (d.at p)))) ((grp (·.at p) S).map fun q => ((PySem.PyData.tuple (List.map PySem.PyData.int q.1)), V q.2)) = some (V (like S p d)) := by
  have h1 := lookT_grp (·.at p) (d.at p) S
  rw [like_fold] at h1
  have h2 : like S p d ≠ [] := by intro e; have := like_mem (p := p) h; rw [e] at this; cases this
  rw [if_neg h2, lookT_find] at h1
  rw [look_enc]
  obtain ⟨q, e1, e2⟩ := Option.map_eq_some_iff.mp h1
  rw [e1, ← e2]; rfl
theorem lookOk_rows {β γ : Type} (r : List Int) (F : List Int × β → γ) (g : List (List Int × β)) : lookOk ((PySem.PyData.tuple (List.map PySem.PyData.int r))) (g.map fun p => ((PySem.PyData.tuple (List.map PySem.PyData.int p.1)), F p)) = true := by
  simp [lookOk, key_row]
theorem getD_dict {k : D} {kvs : List (D × D)} {v : D} (h : lookOk k kvs = true) (h2 : look k kvs = some v) : getD (.dict kvs) k = .ok v := by
  simp only [getD, h, h2, if_true]
theorem getD_grp (V : List Deal → D) {S : List Deal} {p : W} {d : Deal} (h : d ∈ S) : getD (.dict ((grp (·.at p) S).map fun q => ((PySem.PyData.tuple (List.map PySem.PyData.int q.1)), V q.2))) ((PySem.PyData.tuple (List.map PySem.PyData.int (d.at p)))) = .ok (V (like S p d)) :=
  getD_dict (lookOk_rows _ (fun q : List Int × List Deal => V q.2) _) (look_grp V h)
theorem items_grp (g : Grp) : itemsD .items [grpV g] = .ok (g.map fun p => .tuple [(PySem.PyData.tuple (List.map PySem.PyData.int p.1)), .list (p.2.map encD)]) := by
  simp [itemsD, grpV, key_row, List.map_map]
theorem grp_DOk {S : List Deal} (hd : ∀ d ∈ S, DOk d) {f : Deal → List Int} {q : List Int × List Deal} (h : q ∈ grp f S) : ∃ x r, q.2 = x :: r ∧ DOk x := by
  obtain ⟨k, v⟩ := q
  obtain ⟨e, ne⟩ := mem_grp h
  cases v with
  | nil => exact absurd rfl ne
  | cons x r => exact ⟨x, r, rfl, hd x (List.mem_filter.mp (by rw [← e]; simp : x ∈ S.filter _)).1⟩
theorem grp_len_le {S : List Deal} {f : Deal → List Int} {q : List Int × List Deal} (h : q ∈ grp f S) : ∀ x ∈ q.2, x ∈ S := by
  obtain ⟨k, v⟩ := q
  obtain ⟨e, ne⟩ := mem_grp h
  intro x hx
  simp only at hx
  rw [e] at hx
  exact (List.mem_filter.mp hx).1
def sureD (S : List Deal) (q : W) : List (D × D) := ((grp (·.at q) S).filter fun p => p.2.length == 1).map fun p => ((PySem.PyData.tuple (List.map PySem.PyData.int p.1)), .bool true)
theorem look_none {β : Type} (k : D) (l : List (D × β)) (h : ∀ q ∈ l, eqv q.1 k = false) : look k l = none := by
  induction l with
  | nil => rfl
  | cons p l ih => simp only [look, h p (by simp), Bool.false_eq_true, if_false, ih fun q hq => h q (by simp [hq])]
theorem in_sure {S : List Deal} {q : W} {d : Deal} (h : d ∈ S) : inD ((PySem.PyData.tuple (List.map PySem.PyData.int (d.at q)))) (.dict (sureD S q)) = .ok (sure S q d) := by
  have hk : lookOk ((PySem.PyData.tuple (List.map PySem.PyData.int (d.at q)))) (sureD S q) = true := lookOk_rows _ (fun _ : List Int × List Deal => PyData.bool true) _
  simp only [inD, hk, if_true]
  have h1 := lookT_grp (·.at q) (d.at q) S
  rw [like_fold] at h1
  have h2 : like S q d ≠ [] := by intro e; have := like_mem (p := q) h; rw [e] at this; cases this
  rw [if_neg h2, lookT_find] at h1
  obtain ⟨p, e1, e2⟩ := Option.map_eq_some_iff.mp h1
  have hp := List.find?_some e1
  have hm := List.mem_of_find?_eq_some e1
  simp only [decide_eq_true_eq] at hp
  unfold sureD sure
  rw [look_enc _ (fun _ => PyData.bool true), ← e2]
  congr 1
  by_cases hl : p.2.length = 1
  · have : (List.filter (fun p : List Int × List Deal => p.2.length == 1) (grp (·.at q) S)).find? (fun p => decide (p.1 = d.at q)) ≠ none := by
      intro e
      have := List.find?_eq_none.mp e p (List.mem_filter.mpr ⟨hm, by simp [hl]⟩)
      simp [hp] at this
    cases hf : (List.filter (fun p : List Int × List Deal => p.2.length == 1) (grp (·.at q) S)).find? (fun p => decide (p.1 = d.at q)) with
    | none => exact absurd hf this
    | some y => simp [hl]
  · have : (List.filter (fun p : List Int × List Deal => p.2.length == 1) (grp (·.at q) S)).find? (fun p => decide (p.1 = d.at q)) = none := by
      rw [List.find?_eq_none]
      intro y hy
      obtain ⟨hy1, hy2⟩ := List.mem_filter.mp hy
      intro hy3
      simp only [decide_eq_true_eq] at hy3
      obtain ⟨yk, yv⟩ := y
      obtain ⟨pk, pv⟩ := p
      simp only at hy3 hp
      subst hy3; subst hp
      have a1 := lookT_mem (grp_nodup _ _) hy1
      have a2 := lookT_mem (grp_nodup _ _) hm
      rw [a1] at a2; cases a2
      simp at hy2; exact hl hy2
    rw [this]; simp [hl]
theorem r_sure_rows (k : Nat) {p : W} (h : p ∈ PN) {S : List Deal} (hS : S.length ≤ LINE) : run tbl (k + 3) f_sure_rows [.list (S.map encD), .str p.w] = .ok (.fd (sureD S p)) := by
  refine run_sat rfl rfl ?_
  simp -implicitDefEqProofs [-List.length_flatMap, slotV, slotR, ownL, frzSlot, isTy, startA, notR, F_sure_rows, r_held_groups, h, hS, grpR_val, grpR_isB]
  rw [items_grp]
  simp -implicitDefEqProofs [-List.length_flatMap, slotV, slotR, ownL, frzSlot, isTy, startA, notR]
  rw [collect_fm (fun q : List Int × List Deal => q.2.length == 1) (fun q => ((PySem.PyData.tuple (List.map PySem.PyData.int q.1)), PyData.bool true))]
  · simp -implicitDefEqProofs [-List.length_flatMap, slotV, slotR, ownL, frzSlot, isTy, startA, notR, sureD]
    exact putAll_new (fun _ => PyData.bool true) _ (List.Sublist.nodup (List.Sublist.map _ List.filter_sublist) (grp_nodup _ _))
  · rintro ⟨r, held⟩ hq
    simp -implicitDefEqProofs [-List.length_flatMap, slotV, slotR, ownL, frzSlot, isTy, startA, notR, dcB, dcC, key_row]
    by_cases hl : held.length = 1 <;> simp [hl] <;> omega
theorem cut_2 (a b : D) : cutL [a, b] none (some 2) = [a, b] := rfl
theorem cut_3 (a b c : D) : cutL [a, b, c] none (some 2) = [a, b] := rfl
theorem cardN_has (p : W) (c : Int) (d : Deal) : cardN .has p c d = decide (c ∈ d.at p) := by simp [cardN]
theorem cardN_misses (p : W) (c : Int) (d : Deal) : cardN .misses p c d = !decide (c ∈ d.at p) := by simp [cardN]
def SFits (S : List Deal) : Prop := S.length ≤ LINE ∧ ∀ d ∈ S, DOk d
theorem getD_0 (a : D) (l : List D) : getD (.tuple (a :: l)) (.int 0) = .ok a := getD_t _ _ _ (by decide) rfl
theorem getD_1 (a b : D) (l : List D) : getD (.tuple (a :: b :: l)) (.int 1) = .ok b := getD_t _ _ _ (by decide) rfl
theorem getD_2 (a b c : D) (l : List D) : getD (.tuple (a :: b :: c :: l)) (.int 2) = .ok c := getD_t _ _ _ (by decide) rfl
theorem own_cw {w : W} (h : w ∈ OWN) : w ∉ CW ∧ w ≠ .sees ∧ w ≠ .has ∧ w ≠ .misses := by
  simp [OWN] at h; rcases h with rfl | rfl | rfl | rfl <;> decide
theorem r_told_by (k : Nat) {S : List Deal} (hS : SFits S) {s : Say} {n : Int} (hs : SayOk n s) : run tbl (k + 5) f_told_by [.list (S.map encD), encS s] = .ok (.fl ((toldBy S s).map encD)) := by
  obtain ⟨hl, hd⟩ := hS
  refine run_sat rfl rfl ?_
  cases s with
  | own w p =>
    obtain ⟨hw, hp⟩ := hs
    obtain ⟨c1, c2, c3, c4⟩ := own_cw hw
    simp -implicitDefEqProofs [-List.length_flatMap, slotV, slotR, ownL, frzSlot, isTy, startA, notR, F_told_by, encS, cut_2, r_place_of, hp, c1, r_held_groups, hl, grpR_frz, c2]
    rw [items_grp]
    simp -implicitDefEqProofs [-List.length_flatMap, slotV, slotR, ownL, frzSlot, isTy, startA, notR]
    rw [collect_all (fun q : List Int × List Deal => ((PySem.PyData.tuple (List.map PySem.PyData.int q.1)), PyData.bool (isSoN w p q.2)))]
    · simp -implicitDefEqProofs [-List.length_flatMap, slotV, slotR, ownL, frzSlot, isTy, startA, notR]
      rw [putAll_new (fun q => PyData.bool (isSoN w p q.2)) _ (grp_nodup _ _)]
      rw [collect_fm (fun d => isSoN w p (like S p d)) encD]
      · simp -implicitDefEqProofs [-List.length_flatMap, slotV, slotR, ownL, frzSlot, isTy, startA, notR, toldBy]
      · intro d hdS
        have := getD_grp (fun v => PyData.bool (isSoN w p v)) (p := p) hdS
        simp -implicitDefEqProofs [-List.length_flatMap, slotV, slotR, ownL, frzSlot, isTy, startA, notR, lcB, lcC, this]
    · rintro ⟨r, held⟩ hq
      obtain ⟨x, t, e1, e2⟩ := grp_DOk hd hq
      have := fun k => r_is_so k hw hp e1 e2
      simp -implicitDefEqProofs [-List.length_flatMap, slotV, slotR, ownL, frzSlot, isTy, startA, notR, dcB, dcC, key_row, this]
  | sees p q =>
    obtain ⟨hp, hq, hpq⟩ := hs
    have c1 : W.sees ∉ CW := by decide
    simp -implicitDefEqProofs [-List.length_flatMap, slotV, slotR, ownL, frzSlot, isTy, startA, notR, F_told_by, encS, cut_3, r_place_of, hp, hq, c1, r_held_groups, hl, grpR_frz, getD_2, r_sure_rows]
    rw [items_grp]
    simp -implicitDefEqProofs [-List.length_flatMap, slotV, slotR, ownL, frzSlot, isTy, startA, notR]
    rw [collect_all (fun v : List Int × List Deal => ((PySem.PyData.tuple (List.map PySem.PyData.int v.1)), PyData.bool (seesN S q v.2)))]
    · simp -implicitDefEqProofs [-List.length_flatMap, slotV, slotR, ownL, frzSlot, isTy, startA, notR]
      rw [putAll_new (fun v => PyData.bool (seesN S q v.2)) _ (grp_nodup _ _)]
      rw [collect_fm (fun d => seesN S q (like S p d)) encD]
      · simp -implicitDefEqProofs [-List.length_flatMap, slotV, slotR, ownL, frzSlot, isTy, startA, notR, toldBy]
      · intro d hdS
        have := getD_grp (fun v => PyData.bool (seesN S q v)) (p := p) hdS
        simp -implicitDefEqProofs [-List.length_flatMap, slotV, slotR, ownL, frzSlot, isTy, startA, notR, lcB, lcC, this]
    · rintro ⟨r, held⟩ hv
      have hm := grp_len_le hv
      simp -implicitDefEqProofs [-List.length_flatMap, slotV, slotR, ownL, frzSlot, isTy, startA, notR, dcB, dcC, key_row]
      rw [collect_all (fun d => PyData.bool (sure S q d))]
      · simp -implicitDefEqProofs [-List.length_flatMap, slotV, slotR, ownL, frzSlot, isTy, startA, notR, seesN, key_row]
      · intro d hdh
        simp -implicitDefEqProofs [-List.length_flatMap, slotV, slotR, ownL, frzSlot, isTy, startA, notR, lcB, lcC, in_sure (hm d hdh)]
  | card w p c =>
    obtain ⟨hw, hp, h0, hn⟩ := hs
    simp -implicitDefEqProofs [-List.length_flatMap, slotV, slotR, ownL, frzSlot, isTy, startA, notR, F_told_by, encS, cut_3, r_place_of, hp, hw, getD_2]
    rw [collect_fm (cardN w p c) encD]
    · simp -implicitDefEqProofs [-List.length_flatMap, slotV, slotR, ownL, frzSlot, isTy, startA, notR, toldBy]
    · intro d hdS
      simp -implicitDefEqProofs [-List.length_flatMap, slotV, slotR, ownL, frzSlot, isTy, startA, notR, lcB, lcC, in_row, cardN]
theorem len_one (n : Nat) : decide ((n : Int) = 1) = (n == 1) := by rw [Bool.eq_iff_iff]; simp; omega
def goodV (S : List Deal) : Say → List Deal → Bool
  | .own w p => isSoN w p
  | .sees p q => seesN S q
  | .card _ _ _ => fun _ => true
def goodP (V : List Deal → Bool) (pre : Grp) : List (D × D) := pre.map fun q => ((PySem.PyData.tuple (List.map PySem.PyData.int q.1)), .bool (V q.2))
theorem getD_key {S : List Deal} {f : Deal → List Int} {q : List Int × List Deal} (h : q ∈ grp f S) : getD (grpV (grp f S)) ((PySem.PyData.tuple (List.map PySem.PyData.int q.1))) = .ok (.list (q.2.map encD)) := by
  obtain ⟨r, v⟩ := q
  have h1 := lookT_mem (grp_nodup f S) h
  rw [lookT_find] at h1
  refine getD_dict (lookOk_rows _ (fun q : List Int × List Deal => PyData.list (q.2.map encD)) _) ?_
  rw [look_enc _ (fun v : List Deal => PyData.list (v.map encD))]
  obtain ⟨y, e1, e2⟩ := Option.map_eq_some_iff.mp h1
  rw [e1, ← e2]; rfl
theorem walk_grp (g : Grp) : walkD (grpV g) = .ok (g.map fun q => (PySem.PyData.tuple (List.map PySem.PyData.int q.1))) := by
  simp [walkD, grpV, key_row, List.map_map]
theorem good_put (V : List Deal → Bool) (pre : Grp) (q : List Int × List Deal) (h : ((pre ++ [q]).map (·.1)).Nodup) (hl : pre.length < LINE) : putD (.fd (goodP V pre)) ((PySem.PyData.tuple (List.map PySem.PyData.int q.1))) (.bool (V q.2)) = .ok (.fd (goodP V (pre ++ [q]))) := by
  have hk := key_row q.1
  have hl' : (goodP V pre).length < LINE := by simpa [goodP] using hl
  simp only [putD, hk, hl', decide_true, Bool.and_self, if_true]
  rw [putP_new]
  · simp [goodP]
  · intro y hy
    obtain ⟨r, hr, rfl⟩ := List.mem_map.mp hy
    rw [eqv_row]
    rw [List.map_append, List.nodup_append] at h
    have := h.2.2 r.1 (List.mem_map_of_mem (f := (·.1)) hr) q.1 (by simp)
    simpa using this
theorem r_law_after (k : Nat) {S : List Deal} (hS : SFits S) {s : Say} {n : Int} (hs : SayOk n s) : run tbl (k + 5) f_law_after [.list (S.map encD), encS s] = .ok (.fl ((toldBy S s).map encD)) := by
  obtain ⟨hl, hd⟩ := hS
  have hg : ∀ f : Deal → List Int, ∀ pre q post, grp f S = pre ++ q :: post → ((pre ++ [q]).map (·.1)).Nodup ∧ pre.length < LINE := fun f pre q post e => by
    constructor
    · have := grp_nodup f S
      rw [e, show pre ++ q :: post = (pre ++ [q]) ++ post by simp, List.map_append, List.nodup_append] at this
      exact this.1
    · have := grp_len f S
      rw [e] at this; simp at this; omega
  refine run_sat rfl rfl ?_
  cases s with
  | own w p =>
    obtain ⟨hw, hp⟩ := hs
    obtain ⟨c1, c2, c3, c4⟩ := own_cw hw
    simp -implicitDefEqProofs [-List.length_flatMap, slotV, slotR, ownL, frzSlot, isTy, startA, notR, F_law_after, encS, getD_0, getD_1, r_law_at, hp, c2, c3, c4, r_law_groups, hl, grpR_frz]
    rw [walk_grp]
    simp -implicitDefEqProofs [-List.length_flatMap, slotV, slotR, ownL, frzSlot, isTy, startA, notR]
    refine for_nx (fun pre σ => ∃ x1 x2 x3, σ = [some (.d (.list (S.map encD))), some (.d (.tuple [.str w.w, .str p.w])), some (.d (.str w.w)), some (.d (.str p.w)), some (.d (.int p.ix)), x1, some (.d (grpV (grp (·.at p) S))), some (.d (.dict [])), x2, some (.fd (goodP (isSoN w p) pre)), x3]) ⟨_, _, _, rfl⟩ ?_ ?_
    · rintro pre q post σ e ⟨x1, x2, x3, rfl⟩
      have hq : q ∈ grp (·.at p) S := by rw [e]; simp
      obtain ⟨x, t, e1, e2⟩ := grp_DOk hd hq
      have hh := fun k => r_law_holds k hw hp e1 e2
      obtain ⟨g1, g2⟩ := hg _ _ _ _ e
      have hput := good_put (isSoN w p) pre q g1 g2
      simp -implicitDefEqProofs [-List.length_flatMap, slotV, slotR, ownL, frzSlot, isTy, startA, notR, forB, c2, getD_key hq, hh, hput]
    · rintro σ ⟨x1, x2, x3, rfl⟩
      simp -implicitDefEqProofs [-List.length_flatMap, slotV, slotR, ownL, frzSlot, isTy, startA, notR]
      rw [collect_fm (fun d => isSoN w p (like S p d)) encD]
      · simp -implicitDefEqProofs [-List.length_flatMap, slotV, slotR, ownL, frzSlot, isTy, startA, notR, toldBy]
      · intro d hdS
        have := getD_grp (fun v => PyData.bool (isSoN w p v)) (p := p) hdS
        simp -implicitDefEqProofs [-List.length_flatMap, slotV, slotR, ownL, frzSlot, isTy, startA, notR, lcB, lcC, goodP, this]
  | sees p q =>
    obtain ⟨hp, hq, hpq⟩ := hs
    simp -implicitDefEqProofs [-List.length_flatMap, slotV, slotR, ownL, frzSlot, isTy, startA, notR, F_law_after, encS, getD_0, getD_1, getD_2, r_law_at, hp, hq, r_law_groups, hl, grpR_frz]
    rw [walk_grp]
    simp -implicitDefEqProofs [-List.length_flatMap, slotV, slotR, ownL, frzSlot, isTy, startA, notR]
    refine for_nx (fun pre σ => ∃ x1 x3, σ = [some (.d (.list (S.map encD))), some (.d (.tuple [.str W.sees.w, .str p.w, .str q.w])), some (.d (.str W.sees.w)), some (.d (.str p.w)), some (.d (.int p.ix)), x1, some (.d (grpV (grp (·.at p) S))), some (.d (grpV (grp (·.at q) S))), some (.d (.int q.ix)), some (.fd (goodP (seesN S q) pre)), x3]) ⟨_, _, rfl⟩ ?_ ?_
    · rintro pre v post σ e ⟨x1, x3, rfl⟩
      have hv : v ∈ grp (·.at p) S := by rw [e]; simp
      have hm := grp_len_le hv
      obtain ⟨g1, g2⟩ := hg _ _ _ _ e
      have hput := good_put (seesN S q) pre v g1 g2
      simp -implicitDefEqProofs [-List.length_flatMap, slotV, slotR, ownL, frzSlot, isTy, startA, notR, forB, getD_key hv]
      rw [collect_all (fun d => PyData.bool (sure S q d))]
      · simp -implicitDefEqProofs [-List.length_flatMap, slotV, slotR, ownL, frzSlot, isTy, startA, notR]
        rw [show (v.2.all fun d => sure S q d) = seesN S q v.2 from rfl, hput]
        simp -implicitDefEqProofs [-List.length_flatMap, slotV, slotR, ownL, frzSlot, isTy, startA, notR]
      · intro d hdh
        have := getD_grp (fun v => PyData.list (v.map encD)) (p := q) (hm d hdh)
        simp -implicitDefEqProofs [-List.length_flatMap, slotV, slotR, ownL, frzSlot, isTy, startA, notR, lcB, lcC, grpV, this, sure]
        exact len_one _
    · rintro σ ⟨x1, x3, rfl⟩
      simp -implicitDefEqProofs [-List.length_flatMap, slotV, slotR, ownL, frzSlot, isTy, startA, notR]
      rw [collect_fm (fun d => seesN S q (like S p d)) encD]
      · simp -implicitDefEqProofs [-List.length_flatMap, slotV, slotR, ownL, frzSlot, isTy, startA, notR, toldBy]
      · intro d hdS
        have := getD_grp (fun v => PyData.bool (seesN S q v)) (p := p) hdS
        simp -implicitDefEqProofs [-List.length_flatMap, slotV, slotR, ownL, frzSlot, isTy, startA, notR, lcB, lcC, goodP, this]
  | card w p c =>
    obtain ⟨hw, hp, h0, hn⟩ := hs
    have hw' : (decide (w = W.has) || decide (w = W.misses)) = true := by simp [CW] at hw; rcases hw with rfl | rfl <;> rfl
    simp -implicitDefEqProofs [-List.length_flatMap, slotV, slotR, ownL, frzSlot, isTy, startA, notR, F_law_after, encS, getD_0, getD_1, getD_2, r_law_at, hp, hw']
    rw [collect_fm (cardN w p c) encD]
    · simp -implicitDefEqProofs [-List.length_flatMap, slotV, slotR, ownL, frzSlot, isTy, startA, notR, toldBy]
    · intro d hdS
      simp -implicitDefEqProofs [-List.length_flatMap, slotV, slotR, ownL, frzSlot, isTy, startA, notR, lcB, lcC, in_row, cardN]
end OH
end

section
set_option autoImplicit false
set_option linter.all false
set_option maxRecDepth 100000
namespace OH
open PySem (PyData)
theorem lt_of_sortR {xs : List (List Int)} (hn : xs.Nodup) : (sortR xs).Pairwise (· < ·) := by
  have h1 : (sortR xs).Pairwise fun a b => (!decide (b < a)) = true := List.pairwise_mergeSort (fun a b c h1 h2 => by
    simp [List.not_lt] at h1 h2 ⊢; exact List.le_trans h1 h2) (fun a b => by
    simp [List.not_lt]; exact List.le_total a b) xs
  have h2 : (sortR xs).Nodup := (List.Perm.nodup_iff (List.mergeSort_perm _ _)).mpr hn
  refine (h1.and h2).imp fun {a b} h => ?_
  simp at h
  rcases List.le_total a b with h3 | h3
  · by_cases h4 : a < b
    · exact h4
    · exact absurd (List.le_antisymm h3 (List.not_lt.mp h4)) h.2
  · by_cases h4 : a < b
    · exact h4
    · exact absurd (List.le_antisymm (by simpa using h.1) h3) h.2
theorem lt_of_sortI {xs : List Int} (hn : xs.Nodup) : (sortI xs).Pairwise (· < ·) := by
  have h1 : (sortI xs).Pairwise fun a b => (!decide (b < a)) = true := List.pairwise_mergeSort (fun a b c h1 h2 => by
    simp at h1 h2 ⊢; omega) (fun a b => by
    simp; omega) xs
  have h2 : (sortI xs).Nodup := (List.Perm.nodup_iff (List.mergeSort_perm _ _)).mpr hn
  refine (h1.and h2).imp fun {a b} h => ?_
  simp at h
  omega
theorem nodup_of_ltR {xs : List (List Int)} (h : xs.Pairwise (· < ·)) : xs.Nodup := h.imp fun {a b} h e => by subst e; exact List.lt_irrefl _ h
theorem nodup_of_ltI {xs : List Int} (h : xs.Pairwise (· < ·)) : xs.Nodup := h.imp fun {a b} h e => by omega
theorem eq_of_ltR {xs ys : List (List Int)} (h1 : xs.Pairwise (· < ·)) (h2 : ys.Pairwise (· < ·)) (h : ∀ r, r ∈ xs ↔ r ∈ ys) : xs = ys :=
  List.Perm.eq_of_pairwise (le := (· < ·)) (fun a b _ _ h1 h2 => absurd (List.lt_trans h1 h2) (List.lt_irrefl a)) h1 h2 ((List.perm_ext_iff_of_nodup (nodup_of_ltR h1) (nodup_of_ltR h2)).mpr h)
theorem mem_sortR {xs : List (List Int)} {r : List Int} : r ∈ sortR xs ↔ r ∈ xs := (List.mergeSort_perm _ _).mem_iff
theorem mem_sortI {xs : List Int} {r : Int} : r ∈ sortI xs ↔ r ∈ xs := (List.mergeSort_perm _ _).mem_iff
def lrows (size : Int) : List Int → List (List Int) := fun cards => cards.foldl (fun rows card => rows ++ (rows.filter fun r => decide ((r.length : Int) < size)).map (· ++ [card])) [[]]
theorem lrows_snoc (size : Int) (l : List Int) (c : Int) : lrows size (l ++ [c]) = lrows size l ++ ((lrows size l).filter fun r => decide ((r.length : Int) < size)).map (· ++ [c]) := by simp [lrows]
theorem mem_lrows {size : Int} (h0 : 0 ≤ size) (l : List Int) : ∀ r, r ∈ lrows size l ↔ r.Sublist l ∧ (r.length : Int) ≤ size := by
  induction l using list_snoc_ind with
  | h0 => intro r; simp [lrows]; intro h; subst h; simpa using h0
  | h1 l c ih =>
    intro r
    rw [lrows_snoc, List.mem_append, ih]
    simp only [List.mem_map, List.mem_filter, ih, decide_eq_true_eq, List.sublist_append_iff]
    constructor
    · rintro (⟨h1, h2⟩ | ⟨s, ⟨⟨h1, h2⟩, h3⟩, rfl⟩)
      · exact ⟨⟨r, [], by simp, h1, by simp⟩, h2⟩
      · exact ⟨⟨s, [c], rfl, h1, List.Sublist.refl _⟩, by simp; omega⟩
    · rintro ⟨⟨s, t, rfl, h1, h2⟩, h3⟩
      rcases List.sublist_cons_iff.mp h2 with h4 | ⟨t', rfl, h4⟩
      · have : t = [] := by simpa using h4
        subst this
        simp at h3 ⊢
        exact .inl ⟨h1, h3⟩
      · have : t' = [] := by simpa using h4
        subst this
        simp at h3
        exact .inr ⟨s, ⟨⟨h1, by omega⟩, by omega⟩, rfl⟩
theorem lrows_nodup {size : Int} (h0 : 0 ≤ size) (l : List Int) : l.Nodup → (lrows size l).Nodup := by
  induction l using list_snoc_ind with
  | h0 => intro _; simp [lrows]
  | h1 l c ih =>
    intro hn
    rw [List.nodup_append] at hn
    rw [lrows_snoc, List.nodup_append]
    refine ⟨ih hn.1, ?_, ?_⟩
    · refine List.pairwise_map.mpr (((ih hn.1).filter _).imp fun {a b} h e => h (List.append_cancel_right e))
    · intro a ha b hb e
      subst e
      obtain ⟨s, hs, rfl⟩ := List.mem_map.mp hb
      have h1 := ((mem_lrows h0 l _).mp ha).1
      have : c ∈ l := h1.subset (by simp)
      exact hn.2.2 c this c (by simp) rfl
theorem lrows_len (size : Int) (l : List Int) : (lrows size l).length ≤ 2 ^ l.length := by
  induction l using list_snoc_ind with
  | h0 => simp [lrows]
  | h1 l c ih =>
    rw [lrows_snoc]
    have := List.length_filter_le (fun r : List Int => decide ((r.length : Int) < size)) (lrows size l)
    simp [Nat.pow_succ]; omega
theorem sort_lrows {size : Int} (h0 : 0 ≤ size) {l : List Int} (h : l.Pairwise (· < ·)) : sortR ((lrows size l).filter fun r => decide ((r.length : Int) = size)) = rowsN l size.toNat := by
  refine eq_of_ltR (lt_of_sortR ((lrows_nodup h0 l (nodup_of_ltI h)).filter _)) (rowsN_asc _ h) fun r => ?_
  rw [mem_sortR, List.mem_filter, mem_lrows h0, mem_rowsN]
  simp
  constructor
  · rintro ⟨⟨h1, h2⟩, h3⟩; exact ⟨h1, by omega⟩
  · rintro ⟨h1, h2⟩; exact ⟨⟨h1, by omega⟩, by omega⟩
theorem r_law_rows {cards : List Int} {n : Int} (k : Nat) (ha : cards.Pairwise (· < ·)) (hc : cards.length ≤ 13) (h1 : 1 ≤ n) :
    run tbl (k + 1) f_law_rows_k75 [.list (cards.map .int), .int n] = .ok (.fl (rowsL (rowsN cards n.toNat))) := by
  refine run_sat rfl rfl ?_
  simp -implicitDefEqProofs [-List.length_flatMap, slotV, slotR, ownL, frzSlot, isTy, startA, notR, F_law_rows_k75]
  refine for_nx (fun pre σ => ∃ x y, σ = [some (.d (.list (cards.map .int))), some (.d (.int n)), some (.d (.list (rowsL (lrows n pre)))), x, y]) ⟨_, _, rfl⟩ ?_ ?_
  · rintro pre c post σ e ⟨x, y, rfl⟩
    simp -implicitDefEqProofs [-List.length_flatMap, slotV, slotR, ownL, frzSlot, isTy, startA, notR, forB]
    rw [collect_fm (fun r : List Int => decide ((r.length : Int) < n)) (fun r => (PySem.PyData.tuple (List.map PySem.PyData.int (r ++ [c]))))]
    · have hl : (lrows n pre).length + ((lrows n pre).filter fun r => decide ((r.length : Int) < n)).length ≤ LINE := by
        have h5 := lrows_len n (pre ++ [c])
        rw [lrows_snoc, List.length_append, List.length_map] at h5
        refine Nat.le_trans h5 (Nat.le_trans (Nat.pow_le_pow_right (by omega) (?_ : _ ≤ 13)) (by decide))
        rw [e] at hc; simp at hc ⊢; omega
      simp -implicitDefEqProofs [-List.length_flatMap, slotV, slotR, ownL, frzSlot, isTy, startA, notR, hl]
      rw [lrows_snoc]; simp
    · intro r hr
      have : r.length + 1 ≤ LINE := by
        have h6 := ((mem_lrows (by omega) pre r).mp hr).1.length_le
        rw [e] at hc; simp at hc; simp [LINE]; omega
      simp -implicitDefEqProofs [-List.length_flatMap, slotV, slotR, ownL, frzSlot, isTy, startA, notR, lcB, lcC, this]
  · rintro σ ⟨x, y, rfl⟩
    simp -implicitDefEqProofs [-List.length_flatMap, slotV, slotR, ownL, frzSlot, isTy, startA, notR]
    rw [collect_fm (fun r : List Int => decide ((r.length : Int) = n)) (fun r => (PySem.PyData.tuple (List.map PySem.PyData.int r)))]
    · simp -implicitDefEqProofs [-List.length_flatMap, slotV, slotR, ownL, frzSlot, isTy, startA, notR]
      have h7 : srtOk (rowsL ((lrows n cards).filter fun r => decide ((r.length : Int) = n))) = true := srt_r _ fun r hr e => by
        have := (List.mem_filter.mp hr).2
        subst e; simp at this; omega
      rw [if_pos h7]
      simp -implicitDefEqProofs [-List.length_flatMap, slotV, slotR, ownL, frzSlot, isTy, startA, notR]
      rw [sort_r, sort_lrows (by omega) ha]
    · intro r hr
      simp -implicitDefEqProofs [-List.length_flatMap, slotV, slotR, ownL, frzSlot, isTy, startA, notR, lcB, lcC]
def dealsLot (n b : Int) (lot : List (List Int)) : List Deal := lot.flatMap (dealsHand n b)
def FewOk (b c : Int) (lot : List (List Int)) : Prop := (lot.length : Int) * cntN (b + c) b.toNat ≤ 2000
theorem r_few_deals {a b c : Int} {lot : List (List Int)} (k : Nat) (h : SetOk a b c) (hl : lot.length ≤ 60) (hf : FewOk b c lot) : run tbl (k + 2) f_few_deals [stg a b c, .tuple (rowsL lot)] = .ok (.d .none) := by
  obtain ⟨h1, h2, h3, h4⟩ := h
  refine run_sat rfl rfl ?_
  have q : mulOk (lot.length : Int) (cntN (b + c) b.toNat) := .inl (by omega)
  have hf' : ¬ (2000 < (lot.length : Int) * cntN (b + c) b.toNat) := by unfold FewOk at hf; omega
  simp -implicitDefEqProofs [-List.length_flatMap, slotV, slotR, ownL, frzSlot, isTy, startA, notR, F_few_deals, getD_1, getD_2, r_count_rows k (show 0 ≤ b by omega) (by omega) (show 0 ≤ b + c by omega) (by omega), q, c_MOST_DEALS, hf']
theorem dealsLot_len {n b : Int} {lot : List (List Int)} (h : n ≤ 13) (hl : lot.length ≤ 60) : (dealsLot n b lot).length ≤ 491520 := by
  have : ∀ l : List (List Int), (dealsLot n b l).length ≤ l.length * 8192 := fun l => by
    induction l with
    | nil => simp [dealsLot]
    | cons x l ih =>
      have := dealsHand_len x h (b := b)
      simp only [dealsLot, List.flatMap_cons, List.length_append, List.length_cons] at ih ⊢
      rw [Nat.succ_mul]; omega
  have := this lot
  have : lot.length * 8192 ≤ 60 * 8192 := Nat.mul_le_mul_right _ hl
  omega
theorem r_deals_of_lot {a b c : Int} {lot : List (List Int)} (k : Nat) (h : SetOk a b c) (hl : lot.length ≤ 60) (hf : FewOk b c lot) : run tbl (k + 3) f_deals_of_lot [stg a b c, .tuple (rowsL lot)] = .ok (.fl ((dealsLot (a + b + c) b lot).map encD)) := by
  refine run_sat rfl rfl ?_
  simp -implicitDefEqProofs [-List.length_flatMap, slotV, slotR, ownL, frzSlot, isTy, startA, notR, F_deals_of_lot, r_few_deals, h, hl, hf]
  refine for_nx (fun pre σ => ∃ x, σ = [some (.d (stg a b c)), some (.d (.tuple (rowsL lot))), some (.fl ((dealsLot (a + b + c) b pre).map encD)), x]) ⟨_, rfl⟩ ?_ ?_
  · rintro pre hand post σ e ⟨x, rfl⟩
    have h5 : (dealsLot (a + b + c) b pre).length + (dealsHand (a + b + c) b hand).length ≤ LINE := by
      have h6 := dealsLot_len (b := b) (lot := pre ++ [hand]) h.hn (by rw [e] at hl; simp at hl ⊢; omega)
      simp only [dealsLot, List.flatMap_append, List.length_append, List.flatMap_cons, List.flatMap_nil, List.append_nil] at h6 ⊢
      simp only [LINE]; omega
    simp -implicitDefEqProofs [-List.length_flatMap, slotV, slotR, ownL, frzSlot, isTy, startA, notR, forB, r_deals_of_hand, h, h5]
    simp [dealsLot]
  · rintro σ ⟨x, rfl⟩
    simp -implicitDefEqProofs [-List.length_flatMap, slotV, slotR, ownL, frzSlot, isTy, startA, notR]
theorem r_law_deals {a b c : Int} {lot : List (List Int)} (k : Nat) (h : SetOk a b c) (hl : lot.length ≤ 60) : run tbl (k + 2) f_law_deals [stg a b c, .tuple (rowsL lot)] = .ok (.fl ((dealsLot (a + b + c) b lot).map encD)) := by
  obtain ⟨h1, h2, h3, h4⟩ := id h
  refine run_sat rfl rfl ?_
  simp -implicitDefEqProofs [-List.length_flatMap, slotV, slotR, ownL, frzSlot, isTy, startA, notR, F_law_deals]
  refine for_nx (fun pre σ => ∃ x y z u, σ = [some (.d (stg a b c)), some (.d (.tuple (rowsL lot))), some (.fl ((dealsLot (a + b + c) b pre).map encD)), x, y, z, u]) ⟨_, _, _, _, rfl⟩ ?_ ?_
  · rintro pre hand post σ e ⟨x, y, z, u, rfl⟩
    have hdl : (dealsLot (a + b + c) b pre).length + (dealsHand (a + b + c) b hand).length < LINE := by
      have h6 := dealsLot_len (b := b) (lot := pre ++ [hand]) h.hn (by rw [e] at hl; simp at hl ⊢; omega)
      simp only [dealsLot, List.flatMap_append, List.length_append, List.flatMap_cons, List.flatMap_nil, List.append_nil] at h6 ⊢
      simp only [LINE]; omega
    simp -implicitDefEqProofs [-List.length_flatMap, slotV, slotR, ownL, frzSlot, isTy, startA, notR, forB]
    rw [it_range (by omega) (by simp [LINE]; omega)]
    simp -implicitDefEqProofs [-List.length_flatMap, slotV, slotR, ownL, frzSlot, isTy, startA, notR]
    rw [collect_fm (fun x => !decide (x ∈ hand)) PyData.int]
    · rw [show (irange (a + b + c)).filter (fun x => !decide (x ∈ hand)) = othersN (a + b + c) hand from rfl]
      simp -implicitDefEqProofs [-List.length_flatMap, slotV, slotR, ownL, frzSlot, isTy, startA, notR, getD_1]
      rw [r_law_rows k (othersN_asc _ _) (Nat.le_trans (othersN_len hand) (by omega)) h2]
      simp -implicitDefEqProofs [-List.length_flatMap, slotV, slotR, ownL, frzSlot, isTy, startA, notR]
      refine for_nx (fun pr σ => ∃ z u, σ = [some (.d (stg a b c)), some (.d (.tuple (rowsL lot))), some (.fl ((dealsLot (a + b + c) b pre ++ pr.map fun bill => (⟨hand, bill, (othersN (a + b + c) hand).filter fun x => !decide (x ∈ bill)⟩ : Deal)).map encD)), some (.d ((PySem.PyData.tuple (List.map PySem.PyData.int hand)))), some (.d (.list ((othersN (a + b + c) hand).map .int))), z, u]) ⟨_, _, by rw [List.map_nil, List.append_nil]⟩ ?_ ?_
      · rintro pr bill po σ e2 ⟨z, u, rfl⟩
        have hl2 : (dealsLot (a + b + c) b pre).length + pr.length < LINE := by
          simp only [dealsHand, List.length_map, e2, List.length_append, List.length_cons] at hdl
          omega
        simp -implicitDefEqProofs [-List.length_flatMap, slotV, slotR, ownL, frzSlot, isTy, startA, notR, forB]
        rw [collect_fm (fun x => !decide (x ∈ bill)) PyData.int]
        · simp -implicitDefEqProofs [-List.length_flatMap, slotV, slotR, ownL, frzSlot, isTy, startA, notR, hl2, encD]
        · intro x _
          simp -implicitDefEqProofs [-List.length_flatMap, slotV, slotR, ownL, frzSlot, isTy, startA, notR, lcB, lcC, in_row]
      · rintro σ ⟨z, u, rfl⟩
        simp -implicitDefEqProofs [-List.length_flatMap, slotV, slotR, ownL, frzSlot, isTy, startA, notR, dealsLot, dealsHand]
    · intro x _
      simp -implicitDefEqProofs [-List.length_flatMap, slotV, slotR, ownL, frzSlot, isTy, startA, notR, lcB, lcC, in_row]
  · rintro σ ⟨x, y, z, u, rfl⟩
    simp -implicitDefEqProofs [-List.length_flatMap, slotV, slotR, ownL, frzSlot, isTy, startA, notR]
end OH
end

section
set_option autoImplicit false
set_option linter.all false
set_option maxRecDepth 100000
namespace OH
open PySem (PyData)
theorem r_cell_at (k : Nat) (ns : List Int) (i : Nat) : run tbl (k + 1) f_law_cell_at [.list (ns.map .int), .int i] = .ok (.d (.int (ns[i]?.getD 0))) := by
  refine run_sat rfl rfl ?_
  by_cases h : i < ns.length
  · have hg : getD (.list (ns.map PyData.int)) (.int i) = .ok (.int (ns[i]?.getD 0)) := by
      rw [getD_l _ _ _ (by omega)]
      simp [List.getElem?_map, h]
    simp -implicitDefEqProofs [-List.length_flatMap, slotV, slotR, ownL, frzSlot, isTy, startA, notR, F_law_cell_at, h, hg]
  · have : ns[i]? = none := by simp; omega
    simp -implicitDefEqProofs [-List.length_flatMap, slotV, slotR, ownL, frzSlot, isTy, startA, notR, F_law_cell_at, h, this]
theorem divOk_small {j : Int} (h1 : 0 < j) (h2 : j < 2 ^ 64) : divOk j := ⟨h1, by
  have : j.natAbs < 2 ^ 64 := by omega
  have := (Nat.log2_lt (by omega)).mpr this
  omega⟩
theorem mulOk_right {i j : Int} (h1 : -(2 ^ 64) < j) (h2 : j < 2 ^ 64) : mulOk i j := .inr (.inl ⟨h1, h2⟩)
theorem mulOk_left {i j : Int} (h1 : -(2 ^ 64) < i) (h2 : i < 2 ^ 64) : mulOk i j := .inl ⟨h1, h2⟩
theorem mulOk_45 : mulOk (10 ^ 45) (10 ^ 45) := .inr (.inr (by decide +kernel))
theorem r_law_draws (k : Nat) (cell many base : Int) (h1 : 0 ≤ many) (h2 : many ≤ 100) (h3 : 0 < base) (h4 : base < 2 ^ 62) :
    ∃ ns : List Int, run tbl (k + 1) f_law_draws_k75 [.int cell, .int many, .int base] = .ok (.fl (ns.map .int)) ∧ (ns.length : Int) = many ∧ ∀ x ∈ ns, 0 ≤ x ∧ x < base := by
  have key := run_hid (k := k) (f := f_law_draws_k75) (ds := [.int cell, .int many, .int base]) (fd := F_law_draws_k75) (fun r => ∃ ns : List Int, r = .fl (ns.map .int) ∧ (ns.length : Int) = many ∧ ∀ x ∈ ns, 0 ≤ x ∧ x < base) rfl rfl ?_
  · obtain ⟨r, e, ns, rfl, h5, h6⟩ := key
    exact ⟨ns, e, h5, h6⟩
  have m45 := mulOk_45
  simp at m45
  simp -implicitDefEqProofs [-List.length_flatMap, slotV, slotR, ownL, frzSlot, isTy, startA, notR, F_law_draws_k75, m45]
  rw [it_range (by omega) (by simp [LINE]; omega)]
  simp -implicitDefEqProofs [-List.length_flatMap, slotV, slotR, ownL, frzSlot, isTy, startA, notR]
  obtain ⟨I, hI⟩ : ∃ I : List Int → ASt → Prop, ∀ pre σ, I pre σ ↔ ∃ (rest : Int) (ns : List Int) (x y : Option RV), σ = [some (.d (.int cell)), some (.d (.int many)), some (.d (.int base)), some (.d (.int rest)), some (.fl (ns.map .int)), x, y] ∧ ns.length = pre.length ∧ ∀ x ∈ ns, 0 ≤ x ∧ x < base := ⟨_, fun _ _ => Iff.rfl⟩
  refine for_nx I ((hI _ _).mpr ⟨_, [], _, _, rfl, rfl, by simp⟩) ?_ ?_
  · intro pre x post σ e hIp
    obtain ⟨rest, ns, y, z, rfl, hn, hb⟩ := (hI _ _).mp hIp
    have hx : x ∈ irange many := by rw [e]; simp
    rw [mem_irange] at hx
    have hl : ns.length < LINE := by
      have h5 : (irange many).length = many.toNat := irange_len many
      rw [e] at h5; simp at h5; simp only [LINE]; omega
    have m1 : mulOk cell 69621 := mulOk_right (by omega) (by omega)
    have m2 : mulOk 2 x := mulOk_left (by omega) (by omega)
    have m3 : mulOk (2 * x + 1) 48271 := mulOk_right (by omega) (by omega)
    have m4 : mulOk 7 x := mulOk_left (by omega) (by omega)
    have m5 : ∀ t : Int, mulOk (t % 2147483587) (t % 2147483587) := fun t => mulOk_right (by omega) (by omega)
    have m6 : ∀ t : Int, mulOk t 40014 := fun t => mulOk_right (by omega) (by omega)
    have m7 : ∀ t : Int, mulOk t 1000003 := fun t => mulOk_right (by omega) (by omega)
    have d1 : divOk 5 := divOk_small (by omega) (by omega)
    have d2 : divOk base := divOk_small h3 (by omega)
    by_cases hc : 1000000000000000000 ≤ cell
    · simp -implicitDefEqProofs [-List.length_flatMap, slotV, slotR, ownL, frzSlot, isTy, startA, notR, forB, m1, m2, m3, m4, m5, m6, m7, d1, d2, hc, h3, hl]
      refine (hI _ _).mpr ⟨_, ns ++ [_], _, _, by rw [List.map_append]; rfl, by simp [hn], ?_⟩
      intro y hy
      rcases List.mem_append.mp hy with hy | hy
      · exact hb y hy
      · simp at hy; subst hy; exact ⟨Int.emod_nonneg _ (by omega), Int.emod_lt_of_pos _ h3⟩
    · simp -implicitDefEqProofs [-List.length_flatMap, slotV, slotR, ownL, frzSlot, isTy, startA, notR, forB, m1, m2, m3, m4, m5, m6, m7, d1, d2, hc, h3, hl]
      refine (hI _ _).mpr ⟨_, ns ++ [_], _, _, by rw [List.map_append]; rfl, by simp [hn], ?_⟩
      intro y hy
      rcases List.mem_append.mp hy with hy | hy
      · exact hb y hy
      · simp at hy; subst hy; exact ⟨Int.emod_nonneg _ (by omega), Int.emod_lt_of_pos _ h3⟩
  · intro σ hIp
    obtain ⟨rest, ns, y, z, rfl, hn, hb⟩ := (hI _ _).mp hIp
    simp -implicitDefEqProofs [-List.length_flatMap, slotV, slotR, ownL, frzSlot, isTy, startA, notR]
    exact ⟨ns, rfl, by rw [irange_len] at hn; omega, hb⟩
/-- a setting that the law draws -/
structure Drawn (a b c : Int) : Prop where
  ok : SetOk a b c
  few : cntN (b + c) b.toNat ≤ 20
theorem few_dec : ∀ b : Fin 9, ∀ c : Fin 9, (b.val ≤ 3 ∧ c.val ≤ 3) ∨ c.val = 1 ∨ b.val = 1 → cntN ((b.val : Int) + (c.val : Int)) b.val ≤ 20 := by decide +kernel
theorem few_cnt {b c : Int} (hb : 1 ≤ b) (hc : 1 ≤ c) (h : (b ≤ 3 ∧ c ≤ 3) ∨ (b ≤ 8 ∧ c = 1) ∨ (b = 1 ∧ c ≤ 8)) : cntN (b + c) b.toNat ≤ 20 := by
  have := few_dec ⟨b.toNat, by omega⟩ ⟨c.toNat, by omega⟩ (by simp; omega)
  simp only at this
  rw [show ((b.toNat : Int)) = b by omega, show ((c.toNat : Int)) = c by omega] at this
  exact this
theorem r_law_setting (k : Nat) (n : Int) : ∃ a b c : Int, run tbl (k + 1) f_law_setting_k75 [.int n] = .ok (.d (stg a b c)) ∧ Drawn a b c := by
  have key := run_hid (k := k) (f := f_law_setting_k75) (ds := [.int n]) (fd := F_law_setting_k75) (fun r => ∃ a b c : Int, r = .d (stg a b c) ∧ Drawn a b c) rfl rfl ?_
  · obtain ⟨r, e, a, b, c, rfl, h⟩ := key
    exact ⟨a, b, c, e, h⟩
  have d8 : divOk 8 := divOk_small (by omega) (by omega)
  have d32 : divOk 32 := divOk_small (by omega) (by omega)
  have d96 : divOk 96 := divOk_small (by omega) (by omega)
  simp -implicitDefEqProofs [-List.length_flatMap, slotV, slotR, ownL, frzSlot, isTy, startA, notR, F_law_setting_k75, d8, d32, d96]
  by_cases h5 : n % 8 = 5
  · simp -implicitDefEqProofs [-List.length_flatMap, slotV, slotR, ownL, frzSlot, isTy, startA, notR, h5]
    exact ⟨_, _, _, rfl, ⟨by omega, by omega, by omega, by omega⟩, few_cnt (by omega) (by omega) (by omega)⟩
  by_cases h6 : n % 8 = 6
  · simp -implicitDefEqProofs [-List.length_flatMap, slotV, slotR, ownL, frzSlot, isTy, startA, notR, h6]
    exact ⟨_, _, _, rfl, ⟨by omega, by omega, by omega, by omega⟩, few_cnt (by omega) (by omega) (by omega)⟩
  by_cases h7 : n % 8 = 7
  · simp -implicitDefEqProofs [-List.length_flatMap, slotV, slotR, ownL, frzSlot, isTy, startA, notR, h7]
    exact ⟨_, _, _, rfl, ⟨by omega, by omega, by omega, by omega⟩, few_cnt (by omega) (by omega) (by omega)⟩
  · simp -implicitDefEqProofs [-List.length_flatMap, slotV, slotR, ownL, frzSlot, isTy, startA, notR, h5, h6, h7]
    exact ⟨_, _, _, rfl, ⟨by omega, by omega, by omega, by omega⟩, few_cnt (by omega) (by omega) (by omega)⟩
theorem popD_i (xs : List D) (ks : List D) (j : Nat) (x : D) (h : popAt xs.length ks = some j) (h2 : xs[j]? = some x) : popD (.fl xs) ks = .ok (x, .fl (xs.eraseIdx j)) := by
  simp only [popD, h, h2]
theorem popAt_i (n : Nat) (i : Int) : popAt n [.int i] = if -(2 ^ 62) < i ∧ i < 2 ^ 62 then ixD n i else none := rfl
theorem pop_at {α : Type} {f : α → D} {ys : List α} {i : Nat} (h : i < ys.length) (hL : ys.length < 2 ^ 62) : popD (.fl (ys.map f)) [.int i] = .ok (f ys[i], .fl ((ys.eraseIdx i).map f)) := by
  have h1 : -(2 ^ 62) < (i : Int) ∧ (i : Int) < 2 ^ 62 := by omega
  have h2 : (0 : Int) ≤ i := by omega
  have h3 : (i : Int) < ys.length := by omega
  have h4 : (ys.map f)[((i : Int)).toNat]? = some (f ys[i]) := by simp [h]
  have h5 : ixD ys.length (i : Int) = some i := by unfold ixD; rw [if_pos h2, if_pos h3]; rfl
  have h6 : popAt (ys.map f).length [.int i] = some i := by
    rw [popAt_i, if_pos h1, List.length_map, h5]
  have h7 : (ys.map f)[i]? = some (f ys[i]) := by simp [h]
  have h8 : (ys.map f).eraseIdx i = (ys.eraseIdx i).map f := by
    rw [List.eraseIdx_eq_take_drop_succ, List.eraseIdx_eq_take_drop_succ, List.map_append, List.map_take, List.map_drop]
  rw [popD_i _ _ i _ h6 h7, h8]
theorem perm_erase {α : Type} {ys : List α} {i : Nat} (h : i < ys.length) : List.Perm (ys[i] :: ys.eraseIdx i) ys := by
  rw [List.eraseIdx_eq_take_drop_succ]
  refine (List.perm_middle (a := ys[i])).symm.trans ?_
  rw [← List.drop_eq_getElem_cons h, List.take_append_drop]
theorem r_law_hand {a b c : Int} (k : Nat) (h : SetOk a b c) (n : Int) : ∃ r : List Int, run tbl (k + 1) f_law_hand [.int n, stg a b c] = .ok (.d ((PySem.PyData.tuple (List.map PySem.PyData.int r)))) ∧ RowOk (a + b + c) r ∧ (r.length : Int) = a := by
  have key := run_hid (k := k) (f := f_law_hand) (ds := [.int n, stg a b c]) (fd := F_law_hand) (fun x => ∃ r : List Int, x = .d ((PySem.PyData.tuple (List.map PySem.PyData.int r))) ∧ RowOk (a + b + c) r ∧ (r.length : Int) = a) rfl rfl ?_
  · obtain ⟨x, e, r, rfl, h⟩ := key
    exact ⟨r, e, h⟩
  obtain ⟨h1, h2, h3, h4⟩ := h
  have hr : primD .listRange [.int (a + b + c)] = .ok (.fl ((irange (a + b + c)).map .int)) := by
    simp only [primD]
    rw [if_pos ⟨by simp [LINE]; omega, by omega⟩, rangeD_irange]
  simp -implicitDefEqProofs [-List.length_flatMap, slotV, slotR, ownL, frzSlot, isTy, startA, notR, F_law_hand, getD_0, hr]
  rw [it_range (by omega) (by simp [LINE]; omega)]
  simp -implicitDefEqProofs [-List.length_flatMap, slotV, slotR, ownL, frzSlot, isTy, startA, notR]
  obtain ⟨I, hI⟩ : ∃ I : List Int → ASt → Prop, ∀ pre σ, I pre σ ↔ ∃ (m : Int) (cards hand : List Int) (x y : Option RV), σ = [some (.d (.int m)), some (.d (stg a b c)), some (.fl (cards.map .int)), some (.fl (hand.map .int)), x, y] ∧ hand.length = pre.length ∧ List.Perm (hand ++ cards) (irange (a + b + c)) := ⟨_, fun _ _ => Iff.rfl⟩
  refine for_nx I ((hI _ _).mpr ⟨n, _, [], _, _, rfl, rfl, by simp⟩) ?_ ?_
  · intro pre x post σ e hIp
    obtain ⟨m, cards, hand, y, z, rfl, hl, hp⟩ := (hI _ _).mp hIp
    have hx : (irange a).length = a.toNat := irange_len a
    rw [e] at hx; simp at hx
    have hy := hp.length_eq
    rw [irange_len] at hy; simp at hy
    have hc : 0 < cards.length := by omega
    have hc2 : (0 : Int) < cards.length := by omega
    have d1 : divOk cards.length := divOk_small (by omega) (by omega)
    obtain ⟨i, hi⟩ : ∃ i : Nat, (i : Int) = m % cards.length := ⟨(m % cards.length).toNat, by have := Int.emod_nonneg m (show (cards.length : Int) ≠ 0 by omega); omega⟩
    have hi2 : i < cards.length := by have := Int.emod_lt_of_pos m hc2; omega
    have hpop := pop_at (f := PyData.int) hi2 (by omega)
    have hL : hand.length < LINE := by simp only [LINE]; omega
    have happ := app2R_ok 3 2 (.d (.int i)) (cards.map .int) (hand.map .int) [some (.d (.int m)), some (.d (stg a b c)), some (.fl (cards.map .int)), some (.fl (hand.map .int)), some (.d (.int x)), some (.d (.int cards.length))] _ hpop
    simp -implicitDefEqProofs [-List.length_flatMap, slotV, slotR, ownL, frzSlot, isTy, startA, notR, forB, hc, ← hi, happ, hL, d1]
    refine (hI _ _).mpr ⟨_, cards.eraseIdx i, hand ++ [cards[i]], _, _, by rw [List.map_append]; rfl, by simp [hl], ?_⟩
    have := (perm_erase hi2).append_left hand
    rw [List.append_assoc]
    exact this.trans hp
  · intro σ hIp
    obtain ⟨m, cards, hand, y, z, rfl, hl, hp⟩ := (hI _ _).mp hIp
    simp -implicitDefEqProofs [-List.length_flatMap, slotV, slotR, ownL, frzSlot, isTy, startA, notR, srt_i, sort_i]
    have hn : (hand ++ cards).Nodup := hp.nodup_iff.mpr (nodup_of_ltI (irange_asc _))
    rw [List.nodup_append] at hn
    refine ⟨_, rfl, ⟨lt_of_sortI hn.1, fun x hx => ?_⟩, ?_⟩
    · rw [mem_sortI] at hx
      have := hp.mem_iff.mp (List.mem_append_left cards hx)
      rwa [mem_irange] at this
    · have : (sortI hand).length = hand.length := (List.mergeSort_perm _ _).length_eq
      rw [irange_len] at hl; omega
end OH
end

section
set_option autoImplicit false
set_option linter.all false
set_option maxRecDepth 100000
namespace OH
open PySem (PyData)
theorem cutL_mid {α : Type} (xs : List α) (lo hi : Nat) (h : lo ≤ xs.length) : cutL xs (some (lo : Int)) (some (hi : Int)) = (xs.take hi).drop lo := by
  have h1 : clipO xs.length 0 (some (lo : Int)) = lo := by simp [clipO, clipD]; omega
  have h2 : xs.take (clipO xs.length xs.length (some (hi : Int))) = xs.take hi := by
    simp only [clipO, clipD]
    rw [if_pos (by omega)]
    by_cases h : hi ≤ xs.length
    · rw [Nat.min_eq_left (by omega)]; rfl
    · rw [Nat.min_eq_right (by omega), List.take_of_length_le (by omega : xs.length ≤ hi), List.take_of_length_le (by omega : xs.length ≤ xs.length)]
  unfold cutL
  rw [h1, h2]
theorem in_rows' (r : List Int) (rs : List (List Int)) : inD ((PySem.PyData.tuple (List.map PySem.PyData.int r))) (.list (rowsL rs)) = .ok (decide (r ∈ rs)) := in_rows r rs
theorem r_law_lot {a b c : Int} (k : Nat) (h : SetOk a b c) (cell most : Int) (hm : 1 ≤ most) (hm2 : most ≤ 60) : ∃ lot : List (List Int), run tbl (k + 2) f_law_lot_k75 [.int cell, stg a b c, .int most] = .ok (.d (.tuple (rowsL lot))) ∧ LotOk a (a + b + c) lot ∧ (lot.length : Int) ≤ most := by
  have key := run_hid (k := k + 1) (f := f_law_lot_k75) (ds := [.int cell, stg a b c, .int most]) (fd := F_law_lot_k75) (fun x => ∃ lot : List (List Int), x = .d (.tuple (rowsL lot)) ∧ LotOk a (a + b + c) lot ∧ (lot.length : Int) ≤ most) rfl rfl ?_
  · obtain ⟨x, e, lot, rfl, h⟩ := key
    exact ⟨lot, e, h⟩
  obtain ⟨ns, e1, e2, e3⟩ := r_law_draws k cell (most + 1) 8648640 (by omega) (by omega) (by omega) (by omega)
  have hm0 : 0 < most := by omega
  have h0 : getD (.list (ns.map PyData.int)) (.int 0) = .ok (.int (ns[0]'(by omega))) := getD_l _ _ _ (by decide) (by simp)
  generalize ns[0]'(by omega) = n0 at h0
  obtain ⟨t, ht⟩ : ∃ t : Nat, (t : Int) = n0 % most := ⟨(n0 % most).toNat, by have := Int.emod_nonneg n0 (show most ≠ 0 by omega); omega⟩
  have ht2 : (t : Int) < most := by have := Int.emod_lt_of_pos n0 hm0; omega
  obtain ⟨N, hcut, hlen⟩ : ∃ N : List Int, cutL (ns.map PyData.int) (some 1) (some (2 + (t : Int))) = N.map .int ∧ N.length = 1 + t := by
    refine ⟨(ns.take (2 + t)).drop 1, ?_, by simp; omega⟩
    rw [show (1 : Int) = ((1 : Nat) : Int) from rfl, show (2 + (t : Int)) = ((2 + t : Nat) : Int) by omega, cutL_mid _ _ _ (by simp; omega), ← List.map_take, ← List.map_drop]
  simp -implicitDefEqProofs [-List.length_flatMap, slotV, slotR, ownL, frzSlot, isTy, startA, notR, F_law_lot_k75, e1, h0, hm0, ← ht, hcut]
  obtain ⟨I, hI⟩ : ∃ I : List Int → ASt → Prop, ∀ pre σ, I pre σ ↔ ∃ (hs : List (List Int)) (x y : Option RV), σ = [some (.d (.int cell)), some (.d (stg a b c)), some (.d (.int most)), some (.d (.list (ns.map .int))), some (.fl (rowsL hs)), x, y] ∧ hs.length ≤ pre.length ∧ (pre ≠ [] → hs ≠ []) ∧ hs.Nodup ∧ ∀ r ∈ hs, RowOk (a + b + c) r ∧ (r.length : Int) = a := ⟨_, fun _ _ => Iff.rfl⟩
  refine for_nx I ((hI _ _).mpr ⟨[], _, _, rfl, by simp, by simp, by simp, by simp⟩) ?_ ?_
  · intro pre x post σ e hIp
    obtain ⟨hs, y, z, rfl, g1, g2, g3, g4⟩ := (hI _ _).mp hIp
    obtain ⟨r, q1, q2, q3⟩ := r_law_hand k h x
    have hL : hs.length < LINE := by
      rw [e] at hlen; simp at hlen; simp only [LINE]; omega
    by_cases hr : r ∈ hs
    · simp -implicitDefEqProofs [-List.length_flatMap, slotV, slotR, ownL, frzSlot, isTy, startA, notR, forB, q1, in_rows', hr]
      refine (hI _ _).mpr ⟨hs, _, _, rfl, by simp; omega, fun _ hh => (by rw [hh] at hr; cases hr), g3, g4⟩
    · simp -implicitDefEqProofs [-List.length_flatMap, slotV, slotR, ownL, frzSlot, isTy, startA, notR, forB, q1, in_rows', hr, hL]
      refine (hI _ _).mpr ⟨hs ++ [r], _, _, by simp; exact ⟨rfl, rfl⟩, by simp; omega, by simp, ?_, ?_⟩
      · rw [List.nodup_append]
        exact ⟨g3, by simp, by intro u hu v hv; simp at hv; subst hv; intro e; subst e; exact hr hu⟩
      · intro u hu
        rcases List.mem_append.mp hu with hu | hu
        · exact g4 u hu
        · simp at hu; subst hu; exact ⟨q2, q3⟩
  · intro σ hIp
    obtain ⟨hs, y, z, rfl, g1, g2, g3, g4⟩ := (hI _ _).mp hIp
    have hne : ∀ r ∈ hs, r ≠ [] := fun r hr e => by
      have := (g4 r hr).2
      rw [e] at this; simp at this; have := h.ha; omega
    simp -implicitDefEqProofs [-List.length_flatMap, slotV, slotR, ownL, frzSlot, isTy, startA, notR, srt_r _ hne, sort_r]
    have hl : (sortR hs).length = hs.length := (List.mergeSort_perm _ _).length_eq
    have hN0 : N ≠ [] := by intro e; rw [e] at hlen; simp at hlen; omega
    refine ⟨_, rfl, ⟨fun e => ?_, by omega, fun r hr => g4 r (mem_sortR.mp hr), lt_of_sortR g3⟩, by omega⟩
    rw [e] at hl
    exact g2 hN0 (List.length_eq_zero_iff.mp hl.symm)
theorem asc_pick {hands : List (List Int)} (h : hands.Pairwise (· < ·)) {ks : List Nat} (hk : ks.Pairwise (· < ·)) (hb : ∀ k ∈ ks, k < hands.length) : (ks.map fun k => hands.getD k []).Pairwise (· < ·) := by
  rw [List.pairwise_map]
  refine List.Pairwise.imp_of_mem (fun {a b} ha hb' hab => ?_) hk
  have h1 := hb a ha; have h2 := hb b hb'
  have := (List.pairwise_iff_getElem.mp h) a b h1 h2 hab
  simpa [List.getD, h1, h2] using this
theorem rows6_len : (rowsN (irange 6) 2).length = 15 ∧ (rowsN (irange 6) 3).length = 20 ∧ (rowsN (irange 6) 4).length = 15 := by decide +kernel
theorem cnt6 : cntN 3 2 = 3 ∧ cntN 3 1 = 3 ∧ cntN 4 2 = 6 ∧ cntN 2 1 = 2 ∧ cntN 4 3 = 4 := by decide +kernel
def five : List (Int × Int × Int) := [(3, 2, 1), (3, 1, 2), (2, 2, 2), (4, 1, 1), (2, 3, 1)]
theorem five_ok {p : Int × Int × Int} (h : p ∈ five) : SetOk p.1 p.2.1 p.2.2 ∧ p.1 + p.2.1 + p.2.2 = 6 ∧ 2 ≤ p.1 ∧ p.1 ≤ 4 ∧ ((rowsN (irange 6) p.1.toNat).length : Int) * cntN (p.2.1 + p.2.2) p.2.1.toNat ≤ 2000 ∧ (rowsN (irange 6) p.1.toNat).length ≤ 20 ∧ 0 < (rowsN (irange 6) p.1.toNat).length := by
  obtain ⟨r2, r3, r4⟩ := rows6_len
  obtain ⟨c1, c2, c3, c4, c5⟩ := cnt6
  simp only [five, List.mem_cons, List.not_mem_nil, or_false] at h
  rcases h with rfl | rfl | rfl | rfl | rfl <;> refine ⟨⟨by decide, by decide, by decide, by decide⟩, by decide, by decide, by decide, ?_, ?_, ?_⟩ <;> simp [r2, r3, r4, c1, c2, c3, c4, c5]
theorem fiveD (t : Nat) (ht : t < 5) : ∃ p, p ∈ five ∧ getD (.list [.tuple [.int 3, .int 2, .int 1], .tuple [.int 3, .int 1, .int 2], .tuple [.int 2, .int 2, .int 2], .tuple [.int 4, .int 1, .int 1], .tuple [.int 2, .int 3, .int 1]]) (.int t) = .ok (stg p.1 p.2.1 p.2.2) := by
  have : t = 0 ∨ t = 1 ∨ t = 2 ∨ t = 3 ∨ t = 4 := by omega
  rcases this with rfl | rfl | rfl | rfl | rfl
  · exact ⟨(3, 2, 1), by decide, rfl⟩
  · exact ⟨(3, 1, 2), by decide, rfl⟩
  · exact ⟨(2, 2, 2), by decide, rfl⟩
  · exact ⟨(4, 1, 1), by decide, rfl⟩
  · exact ⟨(2, 3, 1), by decide, rfl⟩
theorem range6 : primD .listRange [.int 6] = .ok (.fl ((irange 6).map .int)) := rfl
/-- a setting, a lot -/
structure Cell (a b c : Int) (lot : List (List Int)) : Prop where
  sok : SetOk a b c
  lok : LotOk a (a + b + c) lot
  few : FewOk b c lot
theorem r_many_hands (k : Nat) (n : Int) : ∃ (a b c : Int) (lot : List (List Int)), run tbl (k + 2) f_law_many_hands [.int n] = .ok (.d (.tuple [stg a b c, .tuple (rowsL lot)])) ∧ Cell a b c lot := by
  have key := run_hid (k := k + 1) (f := f_law_many_hands) (ds := [.int n]) (fd := F_law_many_hands) (fun x => ∃ (a b c : Int) (lot : List (List Int)), x = .d (.tuple [stg a b c, .tuple (rowsL lot)]) ∧ Cell a b c lot) rfl rfl ?_
  · obtain ⟨x, e, a, b, c, lot, rfl, h⟩ := key
    exact ⟨a, b, c, lot, e, h⟩
  obtain ⟨t, ht⟩ : ∃ t : Nat, (t : Int) = n % 5 := ⟨(n % 5).toNat, by omega⟩
  obtain ⟨⟨a, b, c⟩, hp, hg⟩ := fiveD t (by omega)
  obtain ⟨q1, q2, q3, q4, q5, q6, q7⟩ := five_ok hp
  simp only at q1 q2 q3 q4 q5 q6 q7 hg
  have d5 : divOk 5 := divOk_small (by omega) (by omega)
  simp -implicitDefEqProofs [-List.length_flatMap, slotV, slotR, ownL, frzSlot, isTy, startA, notR, F_law_many_hands, range6, ← ht, hg, getD_0]
  rw [r_law_rows k (irange_asc 6) (by rw [irange_len]; decide) (by omega)]
  generalize hH : rowsN (irange 6) a.toNat = H at q5 q6 q7
  have hasc : H.Pairwise (· < ·) := by rw [← hH]; exact rowsN_asc _ (irange_asc _)
  simp -implicitDefEqProofs [-List.length_flatMap, slotV, slotR, ownL, frzSlot, isTy, startA, notR, d5]
  rw [it_range (by omega) (by simp [LINE]; omega)]
  simp -implicitDefEqProofs [-List.length_flatMap, slotV, slotR, ownL, frzSlot, isTy, startA, notR]
  rw [collect_fm (fun x => decide (x = 0) || !decide (n / 5 / (x + 1) % 7 = 3)) (fun x => (PySem.PyData.tuple (List.map PySem.PyData.int (H.getD x.toNat []))))]
  · simp -implicitDefEqProofs [-List.length_flatMap, slotV, slotR, ownL, frzSlot, isTy, startA, notR]
    have hK : ((irange H.length).filter fun x => decide (x = 0) || !decide (n / 5 / (x + 1) % 7 = 3)).map (fun x => (PySem.PyData.tuple (List.map PySem.PyData.int (H.getD x.toNat [])))) = rowsL ((((irange H.length).filter fun x => decide (x = 0) || !decide (n / 5 / (x + 1) % 7 = 3)).map Int.toNat).map fun k => H.getD k []) := by
      simp [rowsL, List.map_map]
    generalize hks : ((irange H.length).filter fun x => decide (x = 0) || !decide (n / 5 / (x + 1) % 7 = 3)) = ks at hK
    have hks1 : ∀ x ∈ ks, 0 ≤ x ∧ x < H.length := fun x hx => by
      rw [← hks] at hx
      exact mem_irange.mp (List.mem_filter.mp hx).1
    have hks2 : (ks.map Int.toNat).Pairwise (· < ·) := by
      rw [List.pairwise_map]
      have : ks.Pairwise (· < ·) := by rw [← hks]; exact (irange_asc _).filter _
      refine List.Pairwise.imp_of_mem (fun {a b} ha hb hab => ?_) this
      have := hks1 a ha; have := hks1 b hb; omega
    have hks3 : (0 : Int) ∈ ks := by rw [← hks, List.mem_filter, mem_irange]; simp; omega
    have hks4 : ks.length ≤ H.length := by
      rw [← hks]; refine Nat.le_trans (List.length_filter_le _ _) (by rw [irange_len]; omega)
    refine ⟨a, b, c, (ks.map Int.toNat).map fun k => H.getD k [], ?_, q1, ⟨?_, ?_, ?_, asc_pick hasc hks2 ?_⟩, ?_⟩
    · rw [← hK]; simp
    · intro e
      have : ks = [] := by simpa using e
      rw [this] at hks3; cases hks3
    · simp; omega
    · intro r hr
      obtain ⟨k, hk, rfl⟩ := List.mem_map.mp hr
      obtain ⟨x, hx, rfl⟩ := List.mem_map.mp hk
      have hx2 := hks1 x hx
      have hm : H.getD x.toNat [] ∈ H := by
        have : x.toNat < H.length := by omega
        simp [List.getD, this]
      rw [← hH] at hm
      rw [hH] at hm
      have hm2 : H.getD x.toNat [] ∈ rowsN (irange 6) a.toNat := by rw [hH]; exact hm
      obtain ⟨g1, g2⟩ := mem_rowsN.mp hm2
      refine ⟨⟨List.Pairwise.sublist g1 (irange_asc 6), fun y hy => ?_⟩, by omega⟩
      have := mem_irange.mp (g1.subset hy)
      omega
    · intro k hk
      obtain ⟨x, hx, rfl⟩ := List.mem_map.mp hk
      have := hks1 x hx; omega
    · unfold FewOk
      have h1 : (((ks.map Int.toNat).map fun k => H.getD k []).length : Int) ≤ H.length := by simp; omega
      have h2 : 0 ≤ cntN (b + c) b.toNat := by
        simp only [five, List.mem_cons, List.not_mem_nil, or_false] at hp
        rcases hp with hp | hp | hp | hp | hp <;> cases hp <;> decide +kernel
      exact Int.le_trans (Int.mul_le_mul_of_nonneg_right h1 h2) q5
  · intro x hx
    have hx2 := mem_irange.mp hx
    have hg2 : getD (.list (rowsL H)) (.int x) = .ok ((PySem.PyData.tuple (List.map PySem.PyData.int (H.getD x.toNat [])))) := by
      rw [getD_l _ _ _ (by omega)]
      have : x.toNat < H.length := by omega
      simp [rowsL, List.getD, this]
    have d6 : divOk (x + 1) := divOk_small (by omega) (by omega)
    simp -implicitDefEqProofs [-List.length_flatMap, slotV, slotR, ownL, frzSlot, isTy, startA, notR, lcB, lcC, d5, d6, hg2]
theorem cell_idx {α : Type} {f : α → D} {xs : List α} {i : Nat} (h : i < xs.length) : getD (.list (xs.map f)) (.int i) = .ok (f xs[i]) := by
  rw [getD_l _ _ _ (by omega)]; simp [h]
theorem r_speakers (k : Nat) (n : Int) : ∃ us : List W, run tbl (k + 1) f_law_speakers [.int n] = .ok (.d (ppl us)) ∧ us ≠ [] ∧ us.Nodup ∧ (∀ u ∈ us, u ∈ PN) ∧ us.length ≤ 3 := by
  have key := run_hid (k := k) (f := f_law_speakers) (ds := [.int n]) (fd := F_law_speakers) (fun x => ∃ us : List W, x = .d (ppl us) ∧ us ≠ [] ∧ us.Nodup ∧ (∀ u ∈ us, u ∈ PN) ∧ us.length ≤ 3) rfl rfl ?_
  · obtain ⟨x, e, us, rfl, h⟩ := key
    exact ⟨us, e, h⟩
  simp -implicitDefEqProofs [-List.length_flatMap, slotV, slotR, ownL, frzSlot, isTy, startA, notR, F_law_speakers]
  rw [it_range (by omega) (by simp [LINE]; omega)]
  simp -implicitDefEqProofs [-List.length_flatMap, slotV, slotR, ownL, frzSlot, isTy, startA, notR]
  obtain ⟨I, hI⟩ : ∃ I : List Int → ASt → Prop, ∀ pre σ, I pre σ ↔ ∃ (rest us : List W) (x : Option RV), σ = [some (.d (.int n)), some (.fl (rest.map wd)), some (.fl (us.map wd)), x] ∧ us.length = pre.length ∧ List.Perm (us ++ rest) PN := ⟨_, fun _ _ => Iff.rfl⟩
  refine for_nx I ((hI _ _).mpr ⟨PN, [], _, rfl, rfl, by simp⟩) ?_ ?_
  · intro pre x post σ e hIp
    obtain ⟨rest, us, y, rfl, h1, h2⟩ := (hI _ _).mp hIp
    have hx : x ∈ irange (1 + n % 3) := by rw [e]; simp
    rw [mem_irange] at hx
    have hl := irange_len (1 + n % 3)
    rw [e] at hl; simp at hl
    have hp := h2.length_eq
    simp [PN] at hp
    have hr : 0 < rest.length := by omega
    obtain ⟨d, hd, hd2⟩ : ∃ d : Int, getD (.list [.int 3, .int 9, .int 18]) (.int x) = .ok (.int d) ∧ divOk d := by
      have : x = 0 ∨ x = 1 ∨ x = 2 := by omega
      rcases this with rfl | rfl | rfl
      · exact ⟨3, rfl, divOk_small (by omega) (by omega)⟩
      · exact ⟨9, rfl, divOk_small (by omega) (by omega)⟩
      · exact ⟨18, rfl, divOk_small (by omega) (by omega)⟩
    obtain ⟨i, hi⟩ : ∃ i : Nat, (i : Int) = n / d % rest.length := ⟨(n / d % rest.length).toNat, by have := Int.emod_nonneg (n / d) (show (rest.length : Int) ≠ 0 by omega); omega⟩
    have hi2 : i < rest.length := by have := Int.emod_lt_of_pos (n / d) (show (0 : Int) < rest.length by omega); omega
    have hpop := pop_at (f := wd) hi2 (by omega)
    have hL : us.length < LINE := by simp only [LINE]; omega
    have happ := app2R_ok 2 1 (.d (.int i)) (rest.map wd) (us.map wd) [some (.d (.int n)), some (.fl (rest.map wd)), some (.fl (us.map wd)), some (.d (.int x))] _ hpop
    simp -implicitDefEqProofs [-List.length_flatMap, slotV, slotR, ownL, frzSlot, isTy, startA, notR, forB, hr, hd, hd2, ← hi, happ, hL]
    refine (hI _ _).mpr ⟨rest.eraseIdx i, us ++ [rest[i]], _, by rw [List.map_append]; rfl, by simp [h1], ?_⟩
    have := (perm_erase hi2).append_left us
    rw [List.append_assoc]
    exact this.trans h2
  · intro σ hIp
    obtain ⟨rest, us, y, rfl, h1, h2⟩ := (hI _ _).mp hIp
    simp -implicitDefEqProofs [-List.length_flatMap, slotV, slotR, ownL, frzSlot, isTy, startA, notR]
    have hn : (us ++ rest).Nodup := h2.nodup_iff.mpr (by decide)
    rw [List.nodup_append] at hn
    have hl := irange_len (1 + n % 3)
    refine ⟨us, rfl, ?_, hn.1, fun u hu => h2.mem_iff.mp (List.mem_append_left _ hu), by omega⟩
    intro e; subst e; simp at h1; omega
end OH
end

section
set_option autoImplicit false
set_option linter.all false
set_option maxRecDepth 100000
namespace OH
open PySem (PyData)
def chooseN : Nat → Nat → Nat
  | _, 0 => 1
  | 0, _ + 1 => 0
  | m + 1, k + 1 => chooseN m k + chooseN m (k + 1)
theorem chooseN_zero (m : Nat) : chooseN m 0 = 1 := by cases m <;> rfl
theorem rowsN_count : ∀ (l : List Int) (k : Nat), (rowsN l k).length = chooseN l.length k
  | l, 0 => by rw [rowsN_zero, chooseN_zero]; rfl
  | [], k + 1 => rfl
  | x :: l, k + 1 => by simp [rowsN, chooseN, rowsN_count l]
theorem cnt_dec : ∀ m : Fin 14, ∀ k : Fin 14, cntN m.val k.val = chooseN m.val k.val := by decide +kernel
theorem cnt_choose {m k : Nat} (hm : m ≤ 13) (hk : k ≤ 13) : cntN m k = chooseN m k := cnt_dec ⟨m, by omega⟩ ⟨k, by omega⟩
theorem others_perm {n : Int} {hand : List Int} (h : RowOk n hand) : List.Perm (hand ++ othersN n hand) (irange n) := by
  refine (List.perm_ext_iff_of_nodup ?_ (nodup_of_ltI (irange_asc n))).mpr fun x => ?_
  · rw [List.nodup_append]
    refine ⟨nodup_of_ltI h.1, nodup_of_ltI (othersN_asc n hand), fun u hu v hv e => ?_⟩
    subst e
    simp [othersN, hu] at hv
  · simp only [List.mem_append, othersN, List.mem_filter, Bool.not_eq_true', decide_eq_false_iff_not]
    constructor
    · rintro (hx | ⟨hx, _⟩)
      · rw [mem_irange]; exact h.2 x hx
      · exact hx
    · intro hx
      by_cases hm : x ∈ hand
      · exact .inl hm
      · exact .inr ⟨hx, hm⟩
theorem others_count {n : Int} {hand : List Int} (h : RowOk n hand) : hand.length + (othersN n hand).length = n.toNat := by
  have := (others_perm h).length_eq
  rw [irange_len, List.length_append] at this
  exact this
theorem dealsHand_count {a b c : Int} {hand : List Int} (h : SetOk a b c) (hr : RowOk (a + b + c) hand) (hl : (hand.length : Int) = a) : ((dealsHand (a + b + c) b hand).length : Int) = cntN (b + c) b.toNat := by
  obtain ⟨h1, h2, h3, h4⟩ := h
  have := others_count hr
  simp only [dealsHand, List.length_map, rowsN_count]
  rw [show b + c = ((othersN (a + b + c) hand).length : Int) by omega, cnt_choose (by omega) (by omega)]
theorem dealsLot_count {a b c : Int} (h : SetOk a b c) : ∀ lot : List (List Int), (∀ r ∈ lot, RowOk (a + b + c) r ∧ (r.length : Int) = a) → ((dealsLot (a + b + c) b lot).length : Int) = lot.length * cntN (b + c) b.toNat
  | [], _ => by simp [dealsLot]
  | r :: lot, hl => by
    have h1 := dealsLot_count h lot fun r hr => hl r (by simp [hr])
    have h2 := dealsHand_count h (hl r (by simp)).1 (hl r (by simp)).2
    simp only [dealsLot, List.flatMap_cons, List.length_append, List.length_cons] at h1 ⊢
    rw [Int.natCast_add, h1, h2, Int.natCast_add, Int.add_mul]; omega
theorem deal_DOk {a b c : Int} (h : SetOk a b c) {lot : List (List Int)} (hl : ∀ r ∈ lot, (r.length : Int) = a) : ∀ d ∈ dealsLot (a + b + c) b lot, DOk d := by
  obtain ⟨h1, h2, h3, h4⟩ := h
  intro d hd p
  obtain ⟨hand, hh, hd⟩ := List.mem_flatMap.mp hd
  obtain ⟨bill, hb, rfl⟩ := List.mem_map.mp hd
  have e1 := hl hand hh
  have e2 := (mem_rowsN.mp hb).1.length_le
  have e3 : (othersN (a + b + c) hand).length ≤ 13 := Nat.le_trans (othersN_len hand) (by omega)
  have e4 := List.length_filter_le (fun x => !decide (x ∈ bill)) (othersN (a + b + c) hand)
  cases p <;> simp only [Deal.at] <;> omega
theorem cell_deals {a b c : Int} {lot : List (List Int)} (h : Cell a b c lot) : (dealsLot (a + b + c) b lot).length ≤ 2000 ∧ ∀ d ∈ dealsLot (a + b + c) b lot, DOk d := by
  refine ⟨?_, deal_DOk h.sok fun r hr => (h.lok.rows r hr).2⟩
  have := dealsLot_count h.sok lot h.lok.rows
  have := h.few
  unfold FewOk at this
  omega
/-- the deals are few, their rows short -/
def SFew (S : List Deal) : Prop := S.length ≤ 2000 ∧ ∀ d ∈ S, DOk d
theorem SFew.fits {S : List Deal} (h : SFew S) : SFits S := ⟨Nat.le_trans h.1 (by decide), h.2⟩
theorem toldBy_sub (S : List Deal) (s : Say) : (toldBy S s).Sublist S := by cases s <;> exact List.filter_sublist
theorem SFew.sub {S T : List Deal} (h : SFew S) (hs : T.Sublist S) : SFew T := ⟨Nat.le_trans hs.length_le h.1, fun d hd => h.2 d (hs.subset hd)⟩
section
variable (w : W) (us : List W) (S : List Deal)
def seqN : Nat → List Deal
  | 0 => S
  | t + 1 => toldBy (seqN t) (.own w (us.getD (t % us.length) .anne))
def telN : Nat → Nat
  | 0 => 0
  | t + 1 => if (seqN w us S (t + 1)).length < (seqN w us S t).length then t + 1 else telN t
def cntsN (T : Nat) : List Int := (List.range T).map fun i => ((seqN w us S (i + 1)).length : Int)
def FinalN (T : Nat) : Prop := ∀ i, T ≤ i → (seqN w us S (i + 1)).length = (seqN w us S i).length
def rowN (T : Nat) : List Int := (cntsN w us S T).take (telN w us S T)
end
section
variable {w : W} {us : List W} {S : List Deal}
theorem seqN_le (t : Nat) : (seqN w us S (t + 1)).length ≤ (seqN w us S t).length := (toldBy_sub _ _).length_le
theorem seqN_sub : ∀ t, (seqN w us S t).Sublist S
  | 0 => List.Sublist.refl _
  | t + 1 => (toldBy_sub _ _).trans (seqN_sub t)
theorem seqN_eq {t : Nat} (h : (seqN w us S (t + 1)).length = (seqN w us S t).length) : seqN w us S (t + 1) = seqN w us S t := (toldBy_sub _ _).eq_of_length h
theorem telN_le : ∀ t, telN w us S t ≤ t
  | 0 => Nat.le_refl _
  | t + 1 => by
    simp only [telN]
    have := telN_le t
    split <;> omega
theorem rowN_eq (T : Nat) : rowN w us S T = (List.range (telN w us S T)).map fun i => ((seqN w us S (i + 1)).length : Int) := by
  unfold rowN cntsN
  rw [← List.map_take, List.take_range, Nat.min_eq_left (telN_le T)]
theorem telN_final {T : Nat} (h : FinalN w us S T) : ∀ d, telN w us S (T + d) = telN w us S T
  | 0 => rfl
  | d + 1 => by
    rw [← Nat.add_assoc, telN, if_neg (by rw [h (T + d) (by omega)]; omega), telN_final h d]
theorem rowN_final {T T' : Nat} (h : FinalN w us S T) (h' : FinalN w us S T') : rowN w us S T = rowN w us S T' := by
  rw [rowN_eq, rowN_eq]
  have : telN w us S T = telN w us S T' := by
    rcases Nat.le_total T T' with hl | hl
    · rw [← telN_final h (T' - T)]; congr 1; omega
    · rw [← telN_final h' (T - T')]; congr 1; omega
  rw [this]
theorem final_nil {T : Nat} (h : seqN w us S T = []) : FinalN w us S T := by
  have : ∀ d, seqN w us S (T + d) = [] := fun d => by
    induction d with
    | zero => exact h
    | succ d ih =>
      have := seqN_le (w := w) (us := us) (S := S) (T + d)
      rw [ih] at this
      exact List.length_eq_zero_iff.mp (Nat.le_zero.mp this)
  intro i hi
  rw [show i = T + (i - T) by omega, this, show T + (i - T) + 1 = T + (i - T + 1) by omega, this]
theorem final_quiet {T : Nat} (hm : us.length ≤ T) (h0 : us ≠ []) (h : ∀ i, T - us.length ≤ i → i < T → (seqN w us S (i + 1)).length = (seqN w us S i).length) : FinalN w us S T := by
  have hp : 0 < us.length := List.length_pos_iff.mpr h0
  -- the deals are the same from T - m on
  have e1 : ∀ d, d ≤ us.length → seqN w us S (T - us.length + d) = seqN w us S (T - us.length) := fun d hd => by
    induction d with
    | zero => rfl
    | succ d ih =>
      rw [← Nat.add_assoc, seqN_eq (h _ (by omega) (by omega)), ih (by omega)]
  have e2 : ∀ j, toldBy (seqN w us S (T - us.length)) (.own w (us.getD (j % us.length) .anne)) = seqN w us S (T - us.length) := fun j => by
    -- a place in the round with the same speaker
    have hj : ∃ d, d < us.length ∧ (T - us.length + d) % us.length = j % us.length := by
      refine ⟨(j % us.length + us.length - (T - us.length) % us.length) % us.length, Nat.mod_lt _ hp, ?_⟩
      have h1 := Nat.mod_lt (T - us.length) hp
      have h2 := Nat.mod_lt j hp
      rw [Nat.add_mod, Nat.mod_mod, ← Nat.add_mod]
      have h3 : (T - us.length) + (j % us.length + us.length - (T - us.length) % us.length) = j % us.length + us.length * ((T - us.length) / us.length + 1) := by
        have := Nat.div_add_mod (T - us.length) us.length
        rw [Nat.mul_add]; omega
      rw [h3, Nat.add_mul_mod_self_left, Nat.mod_mod]
    obtain ⟨d, hd, hj⟩ := hj
    have := e1 (d + 1) (by omega)
    rw [← Nat.add_assoc, seqN, e1 d (by omega), hj] at this
    exact this
  have e3 : ∀ d, seqN w us S (T - us.length + d) = seqN w us S (T - us.length) := fun d => by
    induction d with
    | zero => rfl
    | succ d ih => rw [← Nat.add_assoc, seqN, ih, e2]
  intro i hi
  rw [show i + 1 = T - us.length + (i + 1 - (T - us.length)) by omega, e3, show i = T - us.length + (i - (T - us.length)) by omega, e3]
theorem final_ex (w : W) (us : List W) (S : List Deal) : ∃ T, FinalN w us S T := by
  have : ∀ n t, (seqN w us S t).length ≤ n → ∃ T, FinalN w us S T := by
    intro n
    induction n with
    | zero => intro t h; exact ⟨t, final_nil (List.length_eq_zero_iff.mp (by omega))⟩
    | succ n ih =>
      intro t h
      by_cases hx : ∃ d, (seqN w us S (t + d + 1)).length < (seqN w us S (t + d)).length
      · obtain ⟨d, hd⟩ := hx
        refine ih (t + d + 1) ?_
        have : ∀ e, (seqN w us S (t + e)).length ≤ (seqN w us S t).length := fun e => by
          induction e with
          | zero => exact Nat.le_refl _
          | succ e ih => exact Nat.le_trans (seqN_le (t + e)) ih
        have := this d
        omega
      · refine ⟨t, fun i hi => ?_⟩
        have h1 := seqN_le (w := w) (us := us) (S := S) i
        by_cases h2 : (seqN w us S (i + 1)).length < (seqN w us S i).length
        · exact absurd ⟨i - t, by rw [show t + (i - t) = i by omega]; exact h2⟩ hx
        · omega
  exact this _ 0 (Nat.le_refl _)
end
noncomputable def rndN (w : W) (us : List W) (S : List Deal) : List Int := rowN w us S (Classical.choose (final_ex w us S))
theorem rndN_eq {w : W} {us : List W} {S : List Deal} {T : Nat} (h : FinalN w us S T) : rndN w us S = rowN w us S T := rowN_final (Classical.choose_spec (final_ex w us S)) h
end OH
end

section
set_option autoImplicit false
set_option linter.all false
set_option maxRecDepth 100000
namespace OH
open PySem (PyData)
abbrev dl (S : List Deal) : D := .list (S.map encD)
theorem shp_deal (n : Nat) (d : Deal) : shp (n + 2) (encD d) = true := by
  simp only [encD, shp, shpAll, shpAll_int, Bool.and_self]
theorem ne_nil_dl (S : List Deal) : cmpD .ne (dl S) (.list []) = .ok (!decide (S = [])) := by
  have h1 : shp 30 (dl S) = true := by simp only [shp]; exact shpAll_map fun x _ => shp_deal _ x
  have h2 : shp 30 (.list []) = true := by simp [shp, shpAll]
  have h3 : eqv (dl S) (.list []) = decide (S = []) := by cases S <;> simp [eqv, eqvAll]
  simp only [cmpD, h1, h2, h3, Bool.and_self, if_true]
theorem eq_nil_dl (S : List Deal) : cmpD .eq (dl S) (.list []) = .ok (decide (S = [])) := by
  have h1 : shp 30 (dl S) = true := by simp only [shp]; exact shpAll_map fun x _ => shp_deal _ x
  have h2 : shp 30 (.list []) = true := by simp [shp, shpAll]
  have h3 : eqv (dl S) (.list []) = decide (S = []) := by cases S <;> simp [eqv, eqvAll]
  simp only [cmpD, h1, h2, h3, Bool.and_self, if_true]
theorem getD_us (us : List W) (t : Nat) (h : t < us.length) : getD (ppl us) (.int t) = .ok (.str (us.getD t .anne).w) := by
  rw [getD_t _ _ _ (by omega)]
  simp [List.getD, h]
section
variable {w : W} {us : List W} {S : List Deal}
theorem cntsN_succ (t : Nat) : cntsN w us S (t + 1) = cntsN w us S t ++ [((seqN w us S (t + 1)).length : Int)] := by simp [cntsN, List.range_succ]
theorem cntsN_len (t : Nat) : (cntsN w us S t).length = t := by simp [cntsN]
theorem telN_quiet : ∀ t i, telN w us S t ≤ i → i < t → (seqN w us S (i + 1)).length = (seqN w us S i).length
  | 0, _, _, h => by omega
  | t + 1, i, h1, h2 => by
    simp only [telN] at h1
    split at h1
    · omega
    · rename_i h3
      by_cases h4 : i = t
      · subst h4
        have := seqN_le (w := w) (us := us) (S := S) i
        omega
      · exact telN_quiet t i h1 (by omega)
theorem take_cut {α : Type} (xs : List α) (n : Nat) : cutL xs none (some (n : Int)) = xs.take n := cutL_to xs n
theorem r_law_rounds (k : Nat) (hw : w ∈ OWN) (hu : ∀ u ∈ us, u ∈ PN) (h0 : us ≠ []) (h3 : us.length ≤ 3) (hS : SFew S) :
    run tbl (k + 6) f_law_rounds [dl S, .str w.w, ppl us] = .ok (.fl ((rndN w us S).map .int)) := by
  have hp : 0 < us.length := List.length_pos_iff.mpr h0
  have hp2 : (0 : Int) < us.length := by omega
  have hm : ∀ t, (t % us.length) < us.length := fun t => Nat.mod_lt t hp
  refine run_sat rfl rfl ?_
  simp -implicitDefEqProofs [-List.length_flatMap, slotV, slotR, ownL, frzSlot, isTy, startA, notR, F_law_rounds]
  obtain ⟨st, hst⟩ : ∃ st : Nat → Option RV → ASt, ∀ t x, st t x = [some (.d (dl (seqN w us S t))), some (.d (.str w.w)), some (.d (ppl us)), some (.fl ((cntsN w us S t).map .int)), some (.d (.int (telN w us S t))), some (.d (.int ((t - telN w us S t : Nat) : Int))), some (.d (.int ((t % us.length : Nat) : Int))), x] := ⟨_, fun _ _ => rfl⟩
  obtain ⟨I, hI⟩ : ∃ I : Nat → ASt → Prop, ∀ M σ, I M σ ↔ ∃ (t : Nat) (x : Option RV), σ = st t x ∧ M = (seqN w us S t).length * 4 + (us.length - (t - telN w us S t)) ∧ t + M ≤ 8003 := ⟨_, fun _ _ => Iff.rfl⟩
  refine whl_sat I ?_ (m := S.length * 4 + us.length) (by have := hS.1; simp only [FUEL]; omega) ((hI _ _).mpr ⟨0, none, by rw [hst]; simp [seqN, cntsN, telN], by simp [seqN, telN], by have := hS.1; omega⟩)
  intro M σ hIm
  obtain ⟨t, x, rfl, hM, ht⟩ := (hI _ _).mp hIm
  refine ⟨!decide (seqN w us S t = []) && decide (t - telN w us S t < us.length), ?_, ?_, ?_⟩
  · rw [hst]
    simp -implicitDefEqProofs [-List.length_flatMap, slotV, slotR, ownL, frzSlot, isTy, startA, notR, whlT, ne_nil_dl]
  · intro hc
    simp only [Bool.and_eq_true, Bool.not_eq_true', decide_eq_false_iff_not, decide_eq_true_eq] at hc
    obtain ⟨c1, c2⟩ := hc
    have hF := (hS.sub (seqN_sub (w := w) (us := us) t)).fits
    have hsay : SayOk 0 (.own w (us.getD (t % us.length) .anne)) := ⟨hw, hu _ (by have := hm t; simp [List.getD, this])⟩
    have hg := getD_us us _ (hm t)
    obtain ⟨p, hp'⟩ : ∃ p, us.getD (t % us.length) .anne = p := ⟨_, rfl⟩
    rw [hp'] at hsay hg
    have hsq : toldBy (seqN w us S t) (.own w p) = seqN w us S (t + 1) := by rw [← hp']; rfl
    have hcall := fun k => r_law_after k hF hsay
    rw [hsq] at hcall
    have hle := seqN_le (w := w) (us := us) (S := S) t
    have htl := telN_le (w := w) (us := us) (S := S) t
    have hmod : ((t : Int) % us.length + 1) % us.length = (((t + 1) % us.length : Nat) : Int) := by
      rw [Int.natCast_emod, Int.natCast_add, Int.emod_add_emod]; rfl
    have hL : (cntsN w us S t).length < LINE := by rw [cntsN_len]; simp only [LINE]; omega
    simp only [encS] at hcall
    rw [Int.natCast_emod] at hg
    have hN : ∀ y, st (t + 1) y = [some (.d (dl (seqN w us S (t + 1)))), some (.d (.str w.w)), some (.d (ppl us)), some (.fl ((cntsN w us S t).map .int ++ [.int (seqN w us S (t + 1)).length])), some (.d (.int (telN w us S (t + 1)))), some (.d (.int ((t + 1 - telN w us S (t + 1) : Nat) : Int))), some (.d (.int (((t : Int) + 1) % us.length))), y] := fun y => by
      rw [hst, cntsN_succ, List.map_append]; simp
    rw [hst]
    by_cases hd : (seqN w us S (t + 1)).length < (seqN w us S t).length
    · have e1 : telN w us S (t + 1) = t + 1 := by simp only [telN]; rw [if_pos hd]
      rw [e1] at hN
      simp -implicitDefEqProofs [-List.length_flatMap, slotV, slotR, ownL, frzSlot, isTy, startA, notR, hg, hcall, hL, hd, hp]
      refine ⟨(seqN w us S (t + 1)).length * 4 + (us.length - (t + 1 - telN w us S (t + 1))), by omega, (hI _ _).mpr ⟨t + 1, some (.d (dl (seqN w us S (t + 1)))), ?_, rfl, by omega⟩⟩
      rw [hN]
      simp [cntsN_len]
    · have e1 : telN w us S (t + 1) = telN w us S t := by simp only [telN]; rw [if_neg hd]
      rw [e1] at hN
      simp -implicitDefEqProofs [-List.length_flatMap, slotV, slotR, ownL, frzSlot, isTy, startA, notR, hg, hcall, hL, hd, hp]
      refine ⟨(seqN w us S (t + 1)).length * 4 + (us.length - (t + 1 - telN w us S (t + 1))), by omega, (hI _ _).mpr ⟨t + 1, some (.d (dl (seqN w us S (t + 1)))), ?_, rfl, by omega⟩⟩
      rw [hN]
      simp [cntsN_len]
      omega
  · intro hc
    have hfin : FinalN w us S t := by
      by_cases h1 : seqN w us S t = []
      · exact final_nil h1
      · simp [h1] at hc
        exact final_quiet (by omega) h0 fun i h2 h3 => telN_quiet t i (by omega) h3
    rw [rndN_eq hfin, hst]
    simp -implicitDefEqProofs [-List.length_flatMap, slotV, slotR, ownL, frzSlot, isTy, startA, notR, take_cut, rowN]
theorem seqN_mono (t : Nat) : ∀ d, (seqN w us S (t + d)).length ≤ (seqN w us S t).length
  | 0 => Nat.le_refl _
  | d + 1 => Nat.le_trans (seqN_le (t + d)) (seqN_mono t d)
theorem r_rounds {a b c : Int} {lot : List (List Int)} (k : Nat) (hC : Cell a b c lot) (hS' : S = dealsLot (a + b + c) b lot) (hw : w ∈ OWN) (hu : ∀ u ∈ us, u ∈ PN) (h0 : us ≠ []) (hn : us.Nodup) (h3 : us.length ≤ 3) :
    run tbl (k + 7) f_rounds [stg a b c, .tuple (rowsL lot), .str w.w, ppl us] = .ok (.fl ((rndN w us S).map .int)) := by
  have hS : SFew S := by rw [hS']; exact cell_deals hC
  have hp : 0 < us.length := List.length_pos_iff.mpr h0
  refine run_sat rfl rfl ?_
  simp -implicitDefEqProofs [-List.length_flatMap, slotV, slotR, ownL, frzSlot, isTy, startA, notR, F_rounds, r_check_lot, hC.sok, hC.lok, r_check_word, hw, r_check_speakers k.succ hu h0 hn, fun k => r_check_speakers k hu h0 hn, r_deals_of_lot, hC.lok.most, hC.few]
  rw [← hS']
  obtain ⟨st, hst⟩ : ∃ st : Nat → Int → Option RV → Option RV → ASt, ∀ t B x y, st t B x y = [some (.d (stg a b c)), some (.d (.tuple (rowsL lot))), some (.d (.str w.w)), some (.d (ppl us)), some (.d (dl (seqN w us S t))), some (.fl ((cntsN w us S t).map .int)), some (.d (.int (telN w us S t))), some (.d (.int B)), x, y] := ⟨_, fun _ _ _ _ => rfl⟩
  obtain ⟨I, hI⟩ : ∃ I : Nat → ASt → Prop, ∀ M σ, I M σ ↔ ∃ (t : Nat) (B : Int) (x y : Option RV), σ = st t B x y ∧ (seqN w us S t = [] ∨ t % us.length = 0) ∧ t + 3 * M ≤ 6003 ∧ ((B = (seqN w us S t).length ∧ M = 0 ∧ FinalN w us S t) ∨ (B ≠ (seqN w us S t).length ∧ M = (seqN w us S t).length + 1)) := ⟨_, fun _ _ => Iff.rfl⟩
  refine whl_sat I ?_ (m := S.length + 1) (by have := hS.1; simp only [FUEL]; omega) ((hI _ _).mpr ⟨0, -1, none, none, by rw [hst]; simp [seqN, cntsN, telN], .inr (by simp), by have := hS.1; omega, .inr ⟨by omega, rfl⟩⟩)
  intro M σ hIm
  obtain ⟨t, B, x, y, rfl, hz, ht, hM⟩ := (hI _ _).mp hIm
  refine ⟨!decide (B = (seqN w us S t).length) && !decide (seqN w us S t = []), ?_, ?_, ?_⟩
  · rw [hst]
    simp -implicitDefEqProofs [-List.length_flatMap, slotV, slotR, ownL, frzSlot, isTy, startA, notR, whlT, ne_nil_dl]
  · intro hc
    simp only [Bool.and_eq_true, Bool.not_eq_true', decide_eq_false_iff_not] at hc
    obtain ⟨c1, c2⟩ := hc
    have hz : t % us.length = 0 := hz.resolve_left c2
    have hM : M = (seqN w us S t).length + 1 := (hM.resolve_left fun h => c1 h.1).2
    rw [hst]
    simp -implicitDefEqProofs [-List.length_flatMap, slotV, slotR, ownL, frzSlot, isTy, startA, notR]
    obtain ⟨J, hJ⟩ : ∃ J : List W → ASt → Prop, ∀ pre σ, J pre σ ↔ ∃ (x y : Option RV), σ = st (t + pre.length) ((seqN w us S t).length : Int) x y := ⟨_, fun _ _ => Iff.rfl⟩
    refine for_sat J ((hJ _ _).mpr ⟨x, y, by rw [hst]; rfl⟩) ?_ ?_
    · intro pre p post σ e hJp
      obtain ⟨x, y, rfl⟩ := (hJ _ _).mp hJp
      have hlen : pre.length < us.length := by rw [e]; simp
      rw [hst]
      by_cases hE : seqN w us S (t + pre.length) = []
      · simp -implicitDefEqProofs [-List.length_flatMap, slotV, slotR, ownL, frzSlot, isTy, startA, notR, forB, eq_nil_dl, hE]
        refine ⟨1, ?_, (hI _ _).mpr ⟨t + pre.length, (seqN w us S t).length, some (.d (.str p.w)), y, ?_, .inl hE, ?_, .inr ⟨?_, ?_⟩⟩⟩
        · have := List.length_pos_iff.mpr c2; omega
        · rw [hst, hE]
        · have := List.length_pos_iff.mpr c2; omega
        · rw [hE]; have := List.length_pos_iff.mpr c2; simp; exact c2
        · rw [hE]; rfl
      · have hpu : us.getD ((t + pre.length) % us.length) .anne = p := by
          rw [Nat.add_mod, hz, Nat.zero_add, Nat.mod_mod, Nat.mod_eq_of_lt hlen, e]; simp
        have hF := (hS.sub (seqN_sub (w := w) (us := us) (t + pre.length))).fits
        have hsay : SayOk 0 (.own w p) := ⟨hw, hu p (by rw [e]; simp)⟩
        have hcall := fun k => r_told_by k hF hsay
        rw [show toldBy (seqN w us S (t + pre.length)) (.own w p) = seqN w us S (t + pre.length + 1) by rw [← hpu]; rfl] at hcall
        simp only [encS] at hcall
        have hL : (cntsN w us S (t + pre.length)).length < LINE := by rw [cntsN_len]; simp only [LINE]; omega
        have hN : ∀ B x y, st (t + (pre ++ [p]).length) B x y = [some (.d (stg a b c)), some (.d (.tuple (rowsL lot))), some (.d (.str w.w)), some (.d (ppl us)), some (.d (dl (seqN w us S (t + pre.length + 1)))), some (.fl ((cntsN w us S (t + pre.length)).map .int ++ [.int (seqN w us S (t + pre.length + 1)).length])), some (.d (.int (telN w us S (t + pre.length + 1)))), some (.d (.int B)), x, y] := fun B x y => by
          rw [hst, List.length_append, List.length_singleton, ← Nat.add_assoc, cntsN_succ, List.map_append]; rfl
        by_cases hd : (seqN w us S (t + pre.length + 1)).length < (seqN w us S (t + pre.length)).length
        · have e1 : telN w us S (t + pre.length + 1) = t + pre.length + 1 := by simp only [telN]; rw [if_pos hd]
          rw [e1] at hN
          simp -implicitDefEqProofs [-List.length_flatMap, slotV, slotR, ownL, frzSlot, isTy, startA, notR, forB, eq_nil_dl, hE, hcall, hL, hd]
          refine (hJ _ _).mpr ⟨some (.d (.str p.w)), some (.d (dl (seqN w us S (t + pre.length + 1)))), ?_⟩
          rw [hN]; simp [cntsN_len]
        · have e1 : telN w us S (t + pre.length + 1) = telN w us S (t + pre.length) := by simp only [telN]; rw [if_neg hd]
          rw [e1] at hN
          simp -implicitDefEqProofs [-List.length_flatMap, slotV, slotR, ownL, frzSlot, isTy, startA, notR, forB, eq_nil_dl, hE, hcall, hL, hd]
          refine (hJ _ _).mpr ⟨some (.d (.str p.w)), some (.d (dl (seqN w us S (t + pre.length + 1)))), ?_⟩
          rw [hN]
    · intro σ hJp
      obtain ⟨x, y, rfl⟩ := (hJ _ _).mp hJp
      simp -implicitDefEqProofs [-List.length_flatMap, slotV, slotR, ownL, frzSlot, isTy, startA, notR]
      have hz' : (t + us.length) % us.length = 0 := by simp [hz]
      have hm := seqN_mono (w := w) (us := us) (S := S) t us.length
      by_cases hq : (seqN w us S (t + us.length)).length = (seqN w us S t).length
      · refine ⟨0, by omega, (hI _ _).mpr ⟨t + us.length, _, x, y, rfl, .inr hz', by omega, .inl ⟨by rw [hq], rfl, ?_⟩⟩⟩
        refine final_quiet (by omega) h0 fun i h1 h2 => ?_
        have e1 := seqN_mono (w := w) (us := us) (S := S) t (i - t)
        have e2 := seqN_mono (w := w) (us := us) (S := S) (i + 1) (t + us.length - (i + 1))
        have e3 := seqN_le (w := w) (us := us) (S := S) i
        rw [show t + (i - t) = i by omega] at e1
        rw [show i + 1 + (t + us.length - (i + 1)) = t + us.length by omega] at e2
        omega
      · exact ⟨(seqN w us S (t + us.length)).length + 1, by omega, (hI _ _).mpr ⟨t + us.length, _, x, y, rfl, .inr hz', by omega, .inr ⟨by omega, rfl⟩⟩⟩
  · intro hc
    have hfin : FinalN w us S t := by
      by_cases h1 : seqN w us S t = []
      · exact final_nil h1
      · simp [h1] at hc
        rcases hM with h | h
        · exact h.2.2
        · exact absurd hc h.1
    rw [rndN_eq hfin, hst]
    simp -implicitDefEqProofs [-List.length_flatMap, slotV, slotR, ownL, frzSlot, isTy, startA, notR, take_cut, rowN]
theorem final_bound (h0 : us ≠ []) (h3 : us.length ≤ 3) : ∃ T, T ≤ S.length * 4 + us.length + 1 ∧ FinalN w us S T := by
  have key : ∀ t, (∃ T, T ≤ t ∧ FinalN w us S T) ∨ (t + ((seqN w us S t).length * 4 + (us.length - (t - telN w us S t))) ≤ S.length * 4 + us.length ∧ t - telN w us S t ≤ us.length) := by
    intro t
    induction t with
    | zero => right; simp [seqN, telN]
    | succ t ih =>
      rcases ih with ⟨T, h1, h2⟩ | ⟨h1, h2⟩
      · exact .inl ⟨T, by omega, h2⟩
      · by_cases hf : FinalN w us S t
        · exact .inl ⟨t, by omega, hf⟩
        · right
          have h4 : t - telN w us S t < us.length := by
            refine Nat.lt_of_not_le fun h => hf (final_quiet (by omega) h0 fun i h2 h3 => telN_quiet t i (by omega) h3)
          have h5 := telN_le (w := w) (us := us) (S := S) t
          by_cases hd : (seqN w us S (t + 1)).length < (seqN w us S t).length
          · have e1 : telN w us S (t + 1) = t + 1 := by simp only [telN]; rw [if_pos hd]
            rw [e1]; omega
          · have e1 : telN w us S (t + 1) = telN w us S t := by simp only [telN]; rw [if_neg hd]
            have := seqN_le (w := w) (us := us) (S := S) t
            rw [e1]; omega
  rcases key (S.length * 4 + us.length + 1) with h | h
  · exact h
  · omega
theorem rndN_len (h0 : us ≠ []) (h3 : us.length ≤ 3) (hS : SFew S) : (rndN w us S).length ≤ 8004 := by
  obtain ⟨T, h1, h2⟩ := final_bound (w := w) (S := S) h0 h3
  rw [rndN_eq h2, rowN, List.length_take, cntsN_len]
  have := hS.1
  omega
end
end OH
end

section
set_option autoImplicit false
set_option linter.all false
set_option maxRecDepth 100000
namespace OH
open PySem (PyData)
theorem r_check_people (k : Nat) {us : List W} (h : ∀ u ∈ us, u ∈ PN) (h0 : us ≠ []) (h3 : us.length ≤ 3) (ha : us.Pairwise fun u v => u.ix < v.ix) : run tbl (k + 2) f_check_people [ppl us] = .ok (.d .none) := by
  refine run_sat rfl rfl ?_
  have h1 : ¬ ((us.length : Int) < 1) := by have := List.length_pos_iff.mpr h0; omega
  have h2 : ¬ ((3 : Int) < us.length) := by omega
  simp -implicitDefEqProofs [-List.length_flatMap, slotV, slotR, ownL, frzSlot, isTy, startA, notR, F_check_people, h0, h1, h2]
  refine for_nx (fun pre σ => ∃ x, σ = [some (.d (ppl us)), some (.d (.int ((pre.getLast?.map W.ix).getD (-1)))), x]) ⟨_, rfl⟩ ?_ ?_
  · rintro pre u post σ rfl ⟨x, rfl⟩
    have hu : u ∈ PN := h u (by simp)
    have hix : 0 ≤ u.ix := by cases u <;> decide
    have h4 : ¬ u.ix ≤ (pre.getLast?.map W.ix).getD (-1) := by
      cases hp : pre.getLast? with
      | none => simp; omega
      | some v =>
        have hv : v ∈ pre := List.mem_of_getLast? hp
        have := (List.pairwise_append.mp ha).2.2 v hv u (by simp)
        simp; omega
    simp -implicitDefEqProofs [-List.length_flatMap, slotV, slotR, ownL, frzSlot, isTy, startA, notR, forB, hu, r_place_of, h4]
  · rintro σ ⟨x, rfl⟩
    simp -implicitDefEqProofs [-List.length_flatMap, slotV, slotR, ownL, frzSlot, isTy, startA, notR]
theorem r_is_saying {a b c : Int} (k : Nat) (h : SetOk a b c) {s : Say} (hs : SayOk (a + b + c) s) : run tbl (k + 2) f_is_saying [stg a b c, encS s] = .ok (.d (.bool true)) := by
  refine run_sat rfl rfl ?_
  cases s with
  | own w p =>
    obtain ⟨hw, hp⟩ := hs
    simp -implicitDefEqProofs [-List.length_flatMap, slotV, slotR, ownL, frzSlot, isTy, startA, notR, F_is_saying, encS, getD_0, getD_1, getD_2, r_is_person, hw, hp]
  | sees p q =>
    obtain ⟨hp, hq, hpq⟩ := hs
    have : ¬ q = p := fun e => hpq e.symm
    simp -implicitDefEqProofs [-List.length_flatMap, slotV, slotR, ownL, frzSlot, isTy, startA, notR, F_is_saying, encS, getD_0, getD_1, getD_2, r_is_person, hp, hq, this]
  | card w p x =>
    obtain ⟨hw, hp, h0, hn⟩ := hs
    have h1 : w ≠ .sees := by simp [CW] at hw; rcases hw with rfl | rfl <;> decide
    simp -implicitDefEqProofs [-List.length_flatMap, slotV, slotR, ownL, frzSlot, isTy, startA, notR, F_is_saying, encS, getD_0, getD_1, getD_2, r_is_person, r_is_integer, isInt, hw, hp, h0, hn, h1]
structure TalkOk (n : Int) (talk : List Say) : Prop where
  most : talk.length ≤ 6
  says : ∀ s ∈ talk, SayOk n s
abbrev encT (talk : List Say) : D := .tuple (talk.map encS)
theorem r_check_talk {a b c : Int} (k : Nat) (h : SetOk a b c) {talk : List Say} (ht : TalkOk (a + b + c) talk) : run tbl (k + 3) f_check_talk [stg a b c, encT talk] = .ok (.d .none) := by
  refine run_sat rfl rfl ?_
  have h1 : ¬ ((6 : Int) < talk.length) := by have := ht.most; omega
  simp -implicitDefEqProofs [-List.length_flatMap, slotV, slotR, ownL, frzSlot, isTy, startA, notR, F_check_talk, c_MOST_SAYINGS, h1]
  refine for_nx (fun pre σ => ∃ x, σ = [some (.d (stg a b c)), some (.d (encT talk)), x]) ⟨_, rfl⟩ ?_ ?_
  · rintro pre s post σ e ⟨x, rfl⟩
    have hs := ht.says s (by rw [e]; simp)
    simp -implicitDefEqProofs [-List.length_flatMap, slotV, slotR, ownL, frzSlot, isTy, startA, notR, forB, r_is_saying, h, hs]
  · rintro σ ⟨x, rfl⟩
    simp -implicitDefEqProofs [-List.length_flatMap, slotV, slotR, ownL, frzSlot, isTy, startA, notR]
def afterN (S : List Deal) (talk : List Say) : List Deal := talk.foldl toldBy S
theorem afterN_sub : ∀ (talk : List Say) (S : List Deal), (afterN S talk).Sublist S
  | [], S => List.Sublist.refl _
  | s :: talk, S => (afterN_sub talk (toldBy S s)).trans (toldBy_sub S s)
theorem afterN_snoc (S : List Deal) (talk : List Say) (s : Say) : afterN S (talk ++ [s]) = toldBy (afterN S talk) s := by simp [afterN]
theorem r_after_talk (k : Nat) {S : List Deal} (hS : SFew S) {talk : List Say} {n : Int} (ht : TalkOk n talk) : ∃ r, run tbl (k + 6) f_after_talk [dl S, encT talk] = .ok r ∧ r = .d (dl (afterN S talk)) := by
  refine ⟨_, ?_, rfl⟩
  refine run_sat rfl rfl ?_
  simp -implicitDefEqProofs [-List.length_flatMap, slotV, slotR, ownL, frzSlot, isTy, startA, notR, F_after_talk]
  refine for_nx (fun pre σ => ∃ x, σ = [some (.d (dl (afterN S pre))), some (.d (encT talk)), x]) ⟨_, rfl⟩ ?_ ?_
  · rintro pre s post σ e ⟨x, rfl⟩
    have hs := ht.says s (by rw [e]; simp)
    have hF := (hS.sub (afterN_sub pre S)).fits
    have hcall := fun k => r_told_by k hF hs
    simp -implicitDefEqProofs [-List.length_flatMap, slotV, slotR, ownL, frzSlot, isTy, startA, notR, forB, hcall, afterN_snoc]
  · rintro σ ⟨x, rfl⟩
    simp -implicitDefEqProofs [-List.length_flatMap, slotV, slotR, ownL, frzSlot, isTy, startA, notR]
theorem r_deals_left {a b c : Int} {lot : List (List Int)} (k : Nat) (hC : Cell a b c lot) {talk : List Say} (ht : TalkOk (a + b + c) talk) : run tbl (k + 7) f_deals_left [stg a b c, .tuple (rowsL lot), encT talk] = .ok (.d (dl (afterN (dealsLot (a + b + c) b lot) talk))) := by
  refine run_sat rfl rfl ?_
  have h1 := fun k => r_check_talk k hC.sok ht
  have h2 : ∀ k, run tbl (k + 6) f_after_talk [dl (dealsLot (a + b + c) b lot), encT talk] = _ := fun k => by
    obtain ⟨r, e1, e2⟩ := r_after_talk k (S := dealsLot (a + b + c) b lot) (cell_deals hC) ht
    rw [e1, e2]
  simp -implicitDefEqProofs [-List.length_flatMap, slotV, slotR, ownL, frzSlot, isTy, startA, notR, F_deals_left, r_check_lot, hC.sok, hC.lok, h1, r_deals_of_lot, hC.lok.most, hC.few, h2]
theorem seqN_stay {w : W} {us : List W} {S : List Deal} {T : Nat} (h : FinalN w us S T) : ∀ d, seqN w us S (T + d) = seqN w us S T
  | 0 => rfl
  | d + 1 => by rw [← Nat.add_assoc, seqN_eq (h (T + d) (by omega)), seqN_stay h d]
theorem seqN_final {w : W} {us : List W} {S : List Deal} {T T' : Nat} (h : FinalN w us S T) (h' : FinalN w us S T') : seqN w us S T = seqN w us S T' := by
  rcases Nat.le_total T T' with hl | hl
  · rw [← seqN_stay h (T' - T)]; congr 1; omega
  · rw [← seqN_stay h' (T - T')]; congr 1; omega
noncomputable def quietN (us : List W) (S : List Deal) : List Deal := seqN .lacks us S (Classical.choose (final_ex .lacks us S))
theorem quietN_eq {us : List W} {S : List Deal} {T : Nat} (h : FinalN .lacks us S T) : quietN us S = seqN .lacks us S T := seqN_final (Classical.choose_spec (final_ex .lacks us S)) h
theorem quietN_sub (us : List W) (S : List Deal) : (quietN us S).Sublist S := seqN_sub _
theorem r_quiet_part (k : Nat) {us : List W} {S : List Deal} (hu : ∀ u ∈ us, u ∈ PN) (h0 : us ≠ []) (h3 : us.length ≤ 3) (hS : SFew S) : run tbl (k + 6) f_quiet_part [dl S, ppl us] = .ok (.d (dl (quietN us S))) := by
  have hp : 0 < us.length := List.length_pos_iff.mpr h0
  refine run_sat rfl rfl ?_
  simp -implicitDefEqProofs [-List.length_flatMap, slotV, slotR, ownL, frzSlot, isTy, startA, notR, F_quiet_part]
  obtain ⟨st, hst⟩ : ∃ st : Nat → Int → Option RV → ASt, ∀ t B x, st t B x = [some (.d (dl (seqN .lacks us S t))), some (.d (ppl us)), some (.d (.int B)), x] := ⟨_, fun _ _ _ => rfl⟩
  obtain ⟨I, hI⟩ : ∃ I : Nat → ASt → Prop, ∀ M σ, I M σ ↔ ∃ (t : Nat) (B : Int) (x : Option RV), σ = st t B x ∧ t % us.length = 0 ∧ ((B = (seqN .lacks us S t).length ∧ M = 0 ∧ FinalN .lacks us S t) ∨ (B ≠ (seqN .lacks us S t).length ∧ M = (seqN .lacks us S t).length + 1)) := ⟨_, fun _ _ => Iff.rfl⟩
  refine whl_sat I ?_ (m := S.length + 1) (by have := hS.1; simp only [FUEL]; omega) ((hI _ _).mpr ⟨0, -1, none, by rw [hst]; simp [seqN], by simp, .inr ⟨by omega, rfl⟩⟩)
  intro M σ hIm
  obtain ⟨t, B, x, rfl, hz, hM⟩ := (hI _ _).mp hIm
  refine ⟨!decide (B = (seqN .lacks us S t).length), ?_, ?_, ?_⟩
  · rw [hst]
    simp -implicitDefEqProofs [-List.length_flatMap, slotV, slotR, ownL, frzSlot, isTy, startA, notR, whlT]
  · intro hc
    have c1 : ¬ B = (seqN .lacks us S t).length := by simpa using hc
    have hM : M = (seqN .lacks us S t).length + 1 := (hM.resolve_left fun h => c1 h.1).2
    rw [hst]
    simp -implicitDefEqProofs [-List.length_flatMap, slotV, slotR, ownL, frzSlot, isTy, startA, notR]
    obtain ⟨J, hJ⟩ : ∃ J : List W → ASt → Prop, ∀ pre σ, J pre σ ↔ ∃ (x : Option RV), σ = st (t + pre.length) ((seqN .lacks us S t).length : Int) x := ⟨_, fun _ _ => Iff.rfl⟩
    refine for_nx J ((hJ _ _).mpr ⟨x, by rw [hst]; rfl⟩) ?_ ?_
    · intro pre p post σ e hJp
      obtain ⟨x, rfl⟩ := (hJ _ _).mp hJp
      have hlen : pre.length < us.length := by rw [e]; simp
      have hpu : us.getD ((t + pre.length) % us.length) .anne = p := by
        rw [Nat.add_mod, hz, Nat.zero_add, Nat.mod_mod, Nat.mod_eq_of_lt hlen, e]; simp
      have hF := (hS.sub (seqN_sub (w := .lacks) (us := us) (t + pre.length))).fits
      have hsay : SayOk 0 (.own .lacks p) := ⟨by decide, hu p (by rw [e]; simp)⟩
      have hcall := fun k => r_told_by k hF hsay
      rw [show toldBy (seqN .lacks us S (t + pre.length)) (.own .lacks p) = seqN .lacks us S (t + pre.length + 1) by rw [← hpu]; rfl] at hcall
      simp only [encS] at hcall
      rw [hst]
      simp -implicitDefEqProofs [-List.length_flatMap, slotV, slotR, ownL, frzSlot, isTy, startA, notR, forB, hcall]
      refine (hJ _ _).mpr ⟨some (.d (.str p.w)), ?_⟩
      rw [hst]; simp [Nat.add_assoc]
    · intro σ hJp
      obtain ⟨x, rfl⟩ := (hJ _ _).mp hJp
      simp -implicitDefEqProofs [-List.length_flatMap, slotV, slotR, ownL, frzSlot, isTy, startA, notR]
      have hz' : (t + us.length) % us.length = 0 := by simp [hz]
      have hm := seqN_mono (w := .lacks) (us := us) (S := S) t us.length
      by_cases hq : (seqN .lacks us S (t + us.length)).length = (seqN .lacks us S t).length
      · refine ⟨0, by omega, (hI _ _).mpr ⟨t + us.length, _, x, rfl, hz', .inl ⟨by rw [hq], rfl, ?_⟩⟩⟩
        refine final_quiet (by omega) h0 fun i h1 h2 => ?_
        have e1 := seqN_mono (w := .lacks) (us := us) (S := S) t (i - t)
        have e2 := seqN_mono (w := .lacks) (us := us) (S := S) (i + 1) (t + us.length - (i + 1))
        have e3 := seqN_le (w := .lacks) (us := us) (S := S) i
        rw [show t + (i - t) = i by omega] at e1
        rw [show i + 1 + (t + us.length - (i + 1)) = t + us.length by omega] at e2
        omega
      · exact ⟨(seqN .lacks us S (t + us.length)).length + 1, by omega, (hI _ _).mpr ⟨t + us.length, _, x, rfl, hz', .inr ⟨by omega, rfl⟩⟩⟩
  · intro hc
    have hfin : FinalN .lacks us S t := by
      have : B = (seqN .lacks us S t).length := by simpa using hc
      rcases hM with h | h
      · exact h.2.2
      · exact absurd this h.1
    rw [quietN_eq hfin, hst]
    simp -implicitDefEqProofs [-List.length_flatMap, slotV, slotR, ownL, frzSlot, isTy, startA, notR]
theorem r_quiet {a b c : Int} {lot : List (List Int)} (k : Nat) (hC : Cell a b c lot) {us : List W} (hu : ∀ u ∈ us, u ∈ PN) (h0 : us ≠ []) (h3 : us.length ≤ 3) (ha : us.Pairwise fun u v => u.ix < v.ix) : run tbl (k + 7) f_quiet [stg a b c, .tuple (rowsL lot), ppl us] = .ok (.d (dl (quietN us (dealsLot (a + b + c) b lot)))) := by
  refine run_sat rfl rfl ?_
  have h1 := fun k => r_check_people k hu h0 h3 ha
  have h2 := fun k => r_quiet_part k hu h0 h3 (S := dealsLot (a + b + c) b lot) (cell_deals hC)
  simp -implicitDefEqProofs [-List.length_flatMap, slotV, slotR, ownL, frzSlot, isTy, startA, notR, F_quiet, r_check_lot, hC.sok, hC.lok, h1, r_deals_of_lot, hC.lok.most, hC.few, h2]
theorem ne_li (xs ys : List Int) : cmpD .ne (.list (xs.map .int)) (.list (ys.map .int)) = .ok (!decide (xs = ys)) := by
  have h1 : shp 30 (.list (xs.map PyData.int)) = true := by simp only [shp]; exact shpAll_int _ _
  have h2 : shp 30 (.list (ys.map PyData.int)) = true := by simp only [shp]; exact shpAll_int _ _
  have h3 : eqv (.list (xs.map PyData.int)) (.list (ys.map PyData.int)) = decide (xs = ys) := by simp only [eqv]; exact eqvAll_int _ _
  simp only [cmpD, h1, h2, h3, Bool.and_self, if_true]
theorem r_law_whole (k : Nat) (d : D) : run tbl (k + 1) f_law_whole [d] = .ok (.d (.bool (isInt d))) := by
  refine run_sat rfl rfl ?_
  cases d <;> simp -implicitDefEqProofs [-List.length_flatMap, slotV, slotR, ownL, frzSlot, isTy, startA, notR, F_law_whole, isInt]
theorem r_is_row_l (k : Nat) (r : List Int) : run tbl (k + 2) f_law_is_row [(PySem.PyData.tuple (List.map PySem.PyData.int r))] = .ok (.d (.bool true)) := by
  refine run_sat rfl rfl ?_
  simp -implicitDefEqProofs [-List.length_flatMap, slotV, slotR, ownL, frzSlot, isTy, startA, notR, F_law_is_row]
  rw [collect_all (fun _ => PyData.bool true)]
  · have hall := all_b (fun _ : Int => true) r
    simp -implicitDefEqProofs [-List.length_flatMap, slotV, slotR, ownL, frzSlot, isTy, startA, notR, hall]
  · intro x _
    simp -implicitDefEqProofs [-List.length_flatMap, slotV, slotR, ownL, frzSlot, isTy, startA, notR, lcB, lcC, r_law_whole, isInt]
theorem r_is_deal_l (k : Nat) (d : Deal) : run tbl (k + 3) f_law_is_deal [encD d] = .ok (.d (.bool true)) := by
  refine run_sat rfl rfl ?_
  simp -implicitDefEqProofs [-List.length_flatMap, slotV, slotR, ownL, frzSlot, isTy, startA, notR, F_law_is_deal, encD]
  have h3 : [(PySem.PyData.tuple (List.map PySem.PyData.int d.h)), (PySem.PyData.tuple (List.map PySem.PyData.int d.b)), (PySem.PyData.tuple (List.map PySem.PyData.int d.c))] = [d.h, d.b, d.c].map fun r => (PySem.PyData.tuple (List.map PySem.PyData.int r)) := rfl
  rw [h3, collect_all (fun _ => PyData.bool true)]
  · have hall := all_b (fun _ : List Int => true) [d.h, d.b, d.c]
    simp at hall
    simp -implicitDefEqProofs [-List.length_flatMap, slotV, slotR, ownL, frzSlot, isTy, startA, notR, hall]
  · intro x _
    simp -implicitDefEqProofs [-List.length_flatMap, slotV, slotR, ownL, frzSlot, isTy, startA, notR, lcB, lcC, r_is_row_l]
theorem r_are_deals (k : Nat) (S : List Deal) : run tbl (k + 4) f_law_are_deals [dl S] = .ok (.d (.bool true)) := by
  refine run_sat rfl rfl ?_
  simp -implicitDefEqProofs [-List.length_flatMap, slotV, slotR, ownL, frzSlot, isTy, startA, notR, F_law_are_deals]
  rw [collect_all (fun _ => PyData.bool true)]
  · have hall := all_b (fun _ : Deal => true) S
    simp -implicitDefEqProofs [-List.length_flatMap, slotV, slotR, ownL, frzSlot, isTy, startA, notR, hall]
  · intro x _
    simp -implicitDefEqProofs [-List.length_flatMap, slotV, slotR, ownL, frzSlot, isTy, startA, notR, lcB, lcC, r_is_deal_l]
theorem eqv_deal (x y : Deal) : eqv (encD x) (encD y) = decide (x = y) := by
  obtain ⟨a, b, c⟩ := x
  obtain ⟨d, e, f⟩ := y
  have : eqv (encD ⟨a, b, c⟩) (encD ⟨d, e, f⟩) = (eqv ((PySem.PyData.tuple (List.map PySem.PyData.int a))) ((PySem.PyData.tuple (List.map PySem.PyData.int d))) && (eqv ((PySem.PyData.tuple (List.map PySem.PyData.int b))) ((PySem.PyData.tuple (List.map PySem.PyData.int e))) && (eqv ((PySem.PyData.tuple (List.map PySem.PyData.int c))) ((PySem.PyData.tuple (List.map PySem.PyData.int f))) && true))) := by simp only [encD, eqv, eqvAll]
  rw [this, eqv_row, eqv_row, eqv_row]
  simp [Deal.mk.injEq]
theorem eqvAll_map {α : Type} [DecidableEq α] {f : α → D} (hf : ∀ x y, eqv (f x) (f y) = decide (x = y)) : ∀ xs ys : List α, eqvAll (xs.map f) (ys.map f) = decide (xs = ys)
  | [], [] => rfl
  | [], _ :: _ => rfl
  | _ :: _, [] => rfl
  | x :: xs, y :: ys => by simp [eqvAll, hf, eqvAll_map hf xs ys]
theorem shp_dl (S : List Deal) : shp 30 (dl S) = true := by simp only [shp]; exact shpAll_map fun x _ => shp_deal _ x
theorem eq_dl (S T : List Deal) : cmpD .eq (dl S) (dl T) = .ok (decide (S = T)) := by
  simp only [cmpD, shp_dl, Bool.and_self, if_true, eqv]
  rw [eqvAll_map eqv_deal]
theorem ne_dl (S T : List Deal) : cmpD .ne (dl S) (dl T) = .ok (!decide (S = T)) := by
  simp only [cmpD, shp_dl, Bool.and_self, if_true, eqv]
  rw [eqvAll_map eqv_deal]
theorem key_deal (d : Deal) : isKeyT (encD d) = true := by
  have h : ∀ (n : Nat) (r : List Int), isKeyAll n (r.map PyData.int) = true := fun n r => by
    induction r with
    | nil => simp [isKeyAll]
    | cons x r ih => simp [isKeyAll, isKey, ih]
  simp [isKeyT, encD, isKeyAll, isKey, h]
section
variable {κ β : Type} [DecidableEq κ]
def putK (k : κ) (v : β) : List (κ × β) → List (κ × β)
  | [] => [(k, v)]
  | p :: r => if p.1 = k then (p.1, v) :: r else p :: putK k v r
def lookK (k : κ) : List (κ × β) → Option β
  | [] => none
  | p :: r => if p.1 = k then some p.2 else lookK k r
def encK (f : κ → D) (g : β → D) (l : List (κ × β)) : List (D × D) := l.map fun p => (f p.1, g p.2)
theorem putK_enc {f : κ → D} {g : β → D} (hf : ∀ x y, eqv (f x) (f y) = decide (x = y)) (k : κ) (v : β) : ∀ l : List (κ × β), put (f k) (g v) (encK f g l) = encK f g (putK k v l)
  | [] => rfl
  | p :: r => by
    have ih := putK_enc (g := g) hf k v r
    simp only [encK] at ih
    simp only [encK, List.map_cons, put, hf, putK]
    by_cases h : p.1 = k
    · simp [h]
    · simp [h, ih]
theorem lookK_enc {f : κ → D} {g : β → D} (hf : ∀ x y, eqv (f x) (f y) = decide (x = y)) (k : κ) : ∀ l : List (κ × β), look (f k) (encK f g l) = (lookK k l).map g
  | [] => rfl
  | p :: r => by
    have ih := lookK_enc (g := g) hf k r
    simp only [encK] at ih
    simp only [encK, List.map_cons, look, hf, lookK]
    by_cases h : p.1 = k
    · simp [h]
    · simp [h, ih]
theorem lookK_put (k k' : κ) (v : β) : ∀ l : List (κ × β), lookK k' (putK k v l) = if k = k' then some v else lookK k' l
  | [] => by simp [putK, lookK]
  | p :: r => by
    simp only [putK]
    by_cases h : p.1 = k
    · simp only [h, if_true, lookK]; split <;> rfl
    · simp only [h, if_false, lookK, lookK_put k k' v r]
      by_cases h2 : k = k'
      · subst h2; simp [h]
      · simp [h2]
theorem putK_len (k : κ) (v : β) : ∀ l : List (κ × β), (putK k v l).length ≤ l.length + 1
  | [] => by simp [putK]
  | p :: r => by
    simp only [putK]
    have := putK_len k v r
    split <;> simp <;> omega
theorem encK_key {f : κ → D} {g : β → D} (hk : ∀ x, isKeyT (f x) = true) (l : List (κ × β)) : ((encK f g l).all fun p => isKeyT p.1) = true := by
  simp [encK, hk]
theorem lookOk_enc {f : κ → D} {g : β → D} (hk : ∀ x, isKeyT (f x) = true) (k : κ) (l : List (κ × β)) : lookOk (f k) (encK f g l) = true := by
  simp [lookOk, hk, encK_key hk l]
theorem putD_enc {f : κ → D} {g : β → D} (hf : ∀ x y, eqv (f x) (f y) = decide (x = y)) (hk : ∀ x, isKeyT (f x) = true) (k : κ) (v : β) (l : List (κ × β)) (hl : l.length < LINE) : putD (.fd (encK f g l)) (f k) (g v) = .ok (.fd (encK f g (putK k v l))) := by
  have h1 := hk k
  have h2 : (encK f g l).length < LINE := by simpa [encK] using hl
  simp only [putD, h1, h2, decide_true, Bool.and_self, if_true, putK_enc hf]
theorem inD_enc {f : κ → D} {g : β → D} (hf : ∀ x y, eqv (f x) (f y) = decide (x = y)) (hk : ∀ x, isKeyT (f x) = true) (k : κ) (l : List (κ × β)) : inD (f k) (.dict (encK f g l)) = .ok (lookK k l).isSome := by
  simp only [inD, lookOk_enc hk, if_true, lookK_enc hf, Option.isSome_map]
theorem getD_enc {f : κ → D} {g : β → D} (hf : ∀ x y, eqv (f x) (f y) = decide (x = y)) (hk : ∀ x, isKeyT (f x) = true) {k : κ} {v : β} {l : List (κ × β)} (h : lookK k l = some v) : getD (.dict (encK f g l)) (f k) = .ok (g v) :=
  getD_dict (lookOk_enc hk k l) (by rw [lookK_enc hf, h]; rfl)
/-- a set -/
def setK (l : List κ) : List (κ × Bool) := l.foldl (fun acc x => putK x true acc) []
theorem setK_snoc (l : List κ) (x : κ) : setK (l ++ [x]) = putK x true (setK l) := by simp [setK]
theorem setK_len (l : List κ) : (setK l).length ≤ l.length := by
  induction l using list_snoc_ind with
  | h0 => simp [setK]
  | h1 l x ih => rw [setK_snoc]; have := putK_len x true (setK l); simp; omega
theorem setK_mem (l : List κ) (x : κ) : (lookK x (setK l)).isSome = decide (x ∈ l) := by
  induction l using list_snoc_ind with
  | h0 => simp [setK, lookK]
  | h1 l y ih =>
    rw [setK_snoc, lookK_put]
    by_cases h : y = x
    · simp [h]
    · have : ¬ x = y := fun e => h e.symm
      simp [h, this, ih]
end
theorem dict_nil {κ β : Type} (f : κ → D) (g : β → D) : ([] : List (D × D)) = encK f g [] := rfl
theorem r_within (k : Nat) (X Y : List Deal) (hY : Y.length ≤ LINE) : run tbl (k + 1) f_law_within [dl X, dl Y] = .ok (.d (.bool (X.all fun d => decide (d ∈ Y)))) := by
  refine run_sat rfl rfl ?_
  simp -implicitDefEqProofs [-List.length_flatMap, slotV, slotR, ownL, frzSlot, isTy, startA, notR, F_law_within]
  refine for_nx (fun pre σ => ∃ x, σ = [some (.d (dl X)), some (.d (dl Y)), some (.fd (encK encD .bool (setK pre))), x]) ⟨_, rfl⟩ ?_ ?_
  · rintro pre d post σ e ⟨x, rfl⟩
    have hl : (setK pre).length < LINE := by
      have := setK_len pre
      rw [e] at hY; simp at hY; omega
    have hp := putD_enc (g := PyData.bool) eqv_deal key_deal d true (setK pre) hl
    simp -implicitDefEqProofs [-List.length_flatMap, slotV, slotR, ownL, frzSlot, isTy, startA, notR, forB, hp, setK_snoc]
  · rintro σ ⟨x, rfl⟩
    simp -implicitDefEqProofs [-List.length_flatMap, slotV, slotR, ownL, frzSlot, isTy, startA, notR]
    rw [collect_fm (fun d => !decide (d ∈ Y)) encD]
    · simp -implicitDefEqProofs [-List.length_flatMap, slotV, slotR, ownL, frzSlot, isTy, startA, notR, eq_nil_dl]
      rw [Bool.eq_iff_iff]
      simp
    · intro d _
      have hi := inD_enc (g := PyData.bool) eqv_deal key_deal d (setK Y)
      simp -implicitDefEqProofs [-List.length_flatMap, slotV, slotR, ownL, frzSlot, isTy, startA, notR, lcB, lcC, hi, setK_mem]
end OH
end

section
set_option autoImplicit false
set_option linter.all false
set_option maxRecDepth 100000
namespace OH
open PySem (PyData)
theorem sub_antisymm {X Y : List Deal} (h1 : X.Sublist Y) (h2 : Y.Sublist X) : X = Y := h1.eq_of_length (Nat.le_antisymm h1.length_le h2.length_le)
/-- none of the people is alone with a deal -/
def Stable (us : List W) (Y : List Deal) : Prop := ∀ p ∈ us, ∀ d ∈ Y, (like Y p d).length ≠ 1
theorem like_le {Y Z : List Deal} (h : Y.Sublist Z) (p : W) (d : Deal) : (like Y p d).Sublist (like Z p d) := h.filter _
theorem like_pos {Y : List Deal} {p : W} {d : Deal} (h : d ∈ Y) : 1 ≤ (like Y p d).length := List.length_pos_of_mem (like_mem h)
theorem lacks_eq (S : List Deal) (p : W) : toldBy S (.own .lacks p) = S.filter fun d => !((like S p d).length == 1) := rfl
theorem stable_step {us : List W} {Y Z : List Deal} (h : Y.Sublist Z) (hs : Stable us Y) {p : W} (hp : p ∈ us) : Y.Sublist (toldBy Z (.own .lacks p)) := by
  rw [lacks_eq]
  have e : Y.filter (fun d => !((like Z p d).length == 1)) = Y := by
    rw [List.filter_eq_self]
    intro d hd
    have h1 := hs p hp d hd
    have h2 := like_pos (p := p) hd
    have h3 := (like_le h p d).length_le
    simp; omega
  rw [← e]
  exact h.filter _
theorem stable_seq {us us' : List W} {Y S : List Deal} (h : Y.Sublist S) (hs : Stable us Y) (hu : ∀ u ∈ us', u ∈ us) (h0 : us' ≠ []) : ∀ t, Y.Sublist (seqN .lacks us' S t)
  | 0 => h
  | t + 1 => by
    refine stable_step (stable_seq h hs hu h0 t) hs (hu _ ?_)
    have : t % us'.length < us'.length := Nat.mod_lt _ (List.length_pos_iff.mpr h0)
    simp [List.getD, this]
theorem final_stable {us : List W} {S : List Deal} {T : Nat} (h : FinalN .lacks us S T) : Stable us (seqN .lacks us S T) := by
  intro p hp d hd
  obtain ⟨j, hj, ej⟩ := List.getElem_of_mem hp
  have hm : (T * us.length + j) % us.length = j := by rw [Nat.mul_comm, Nat.mul_add_mod, Nat.mod_eq_of_lt hj]
  have hle : T ≤ T * us.length + j := Nat.le_trans (Nat.le_mul_of_pos_right T (by omega)) (Nat.le_add_right _ _)
  have e1 : seqN .lacks us S (T * us.length + j) = seqN .lacks us S T := by
    have := seqN_stay h (T * us.length + j - T)
    rwa [show T + (T * us.length + j - T) = T * us.length + j by omega] at this
  have e2 := seqN_eq (h (T * us.length + j) hle)
  rw [seqN, e1, hm, show us.getD j .anne = p by simp [List.getD, hj, ej], lacks_eq, List.filter_eq_self] at e2
  have := e2 d hd
  simpa using this
theorem quietN_stable (us : List W) (S : List Deal) : Stable us (quietN us S) := final_stable (Classical.choose_spec (final_ex .lacks us S))
theorem quietN_greatest {us us' : List W} {Y S : List Deal} (h : Y.Sublist S) (hs : Stable us Y) (hu : ∀ u ∈ us', u ∈ us) (h0 : us' ≠ []) : Y.Sublist (quietN us' S) := stable_seq h hs hu h0 _
theorem quietN_same {us us' : List W} (S : List Deal) (h : ∀ u, u ∈ us ↔ u ∈ us') (h0 : us ≠ []) (h0' : us' ≠ []) : quietN us S = quietN us' S :=
  sub_antisymm (quietN_greatest (quietN_sub us S) (quietN_stable us S) (fun u hu => (h u).mpr hu) h0') (quietN_greatest (quietN_sub us' S) (quietN_stable us' S) (fun u hu => (h u).mp hu) h0)
theorem quietN_part {us : List W} {S' S : List Deal} (h : S'.Sublist S) (h0 : us ≠ []) : (quietN us S').Sublist (quietN us S) :=
  quietN_greatest ((quietN_sub us S').trans h) (quietN_stable us S') (fun _ hu => hu) h0
theorem quietN_fewer {us us' : List W} (S : List Deal) (h : ∀ u ∈ us', u ∈ us) (h0 : us' ≠ []) : (quietN us S).Sublist (quietN us' S) :=
  quietN_greatest (quietN_sub us S) (quietN_stable us S) h h0
theorem lacks_stable (S : List Deal) (p : W) : Stable [p] (toldBy S (.own .lacks p)) := by
  intro q hq d hd
  have : q = p := by simpa using hq
  subst this
  have hd2 : (like S q d).length ≠ 1 := by
    rw [lacks_eq] at hd
    simpa using (List.mem_filter.mp hd).2
  have e : like (toldBy S (.own .lacks q)) q d = like S q d := by
    rw [lacks_eq]
    unfold like
    rw [List.filter_filter]
    apply List.filter_congr
    intro e he
    by_cases h : e.at q = d.at q
    · simp only [h, decide_true, Bool.true_and]
      simpa [like] using hd2
    · simp [h]
  rw [e]; exact hd2
theorem quietN_single (S : List Deal) (p : W) : quietN [p] S = toldBy S (.own .lacks p) :=
  sub_antisymm (stable_step (quietN_sub [p] S) (quietN_stable [p] S) (p := p) (by simp)) (quietN_greatest (toldBy_sub S _) (lacks_stable S p) (fun _ h => h) (by simp))
theorem within_talk {us : List W} {S : List Deal} {ps : List W} (h : ∀ p ∈ ps, p ∈ us) : (quietN us S).Sublist (afterN S (ps.map fun p => .own .lacks p)) := by
  have key : ∀ (ps : List W) (S' : List Deal), (∀ p ∈ ps, p ∈ us) → (quietN us S).Sublist S' → (quietN us S).Sublist (afterN S' (ps.map fun p => .own .lacks p)) := by
    intro ps
    induction ps with
    | nil => intro S' _ h; exact h
    | cons p ps ih =>
      intro S' hp h
      exact ih _ (fun q hq => hp q (by simp [hq])) (stable_step h (quietN_stable us S) (hp p (by simp)))
  exact key ps S h (quietN_sub us S)
theorem within_of {X Y : List Deal} (h : X.Sublist Y) : (X.all fun d => decide (d ∈ Y)) = true := by
  simp only [List.all_eq_true, decide_eq_true_eq]
  exact fun d hd => h.subset hd
theorem choose_two {m k : Nat} (h1 : 1 ≤ k) (h2 : k < m) : 2 ≤ chooseN m k := by
  have pos : ∀ m k, k ≤ m → 1 ≤ chooseN m k := by
    intro m
    induction m with
    | zero => intro k h; have : k = 0 := by omega
              subst this; exact Nat.le_refl _
    | succ m ih =>
      intro k h
      cases k with
      | zero => exact Nat.le_refl _
      | succ k => have := ih k (by omega); simp only [chooseN]; omega
  cases m with
  | zero => omega
  | succ m =>
    cases k with
    | zero => omega
    | succ k => have := pos m k (by omega); have := pos m (k + 1) (by omega); simp only [chooseN]; omega
theorem hand_stable {a b c : Int} {lot : List (List Int)} (h : SetOk a b c) (hl : ∀ r ∈ lot, RowOk (a + b + c) r ∧ (r.length : Int) = a) : Stable [.anne] (dealsLot (a + b + c) b lot) := by
  intro p hp d hd
  have : p = .anne := by simpa using hp
  subst this
  obtain ⟨hand, hh, hd2⟩ := List.mem_flatMap.mp hd
  have hd3 : ∀ e ∈ dealsHand (a + b + c) b hand, e.h = hand := fun e he => by
    obtain ⟨bill, _, rfl⟩ := List.mem_map.mp he; rfl
  have hs : (dealsHand (a + b + c) b hand).Sublist (dealsLot (a + b + c) b lot) := by
    obtain ⟨pre, post, rfl⟩ := List.append_of_mem hh
    simp only [dealsLot, List.flatMap_append, List.flatMap_cons]
    exact (List.sublist_append_left _ _).trans (List.sublist_append_right _ _)
  have h2 := like_le hs .anne d
  have e2 : like (dealsHand (a + b + c) b hand) .anne d = dealsHand (a + b + c) b hand := by
    unfold like
    rw [List.filter_eq_self]
    intro e he
    have : e.at .anne = d.at .anne := (hd3 e he).trans (hd3 d hd2).symm
    simp [this]
  rw [e2] at h2
  have h3 := h2.length_le
  have h4 : 2 ≤ (dealsHand (a + b + c) b hand).length := by
    obtain ⟨g1, g2, g3, g4⟩ := h
    have := others_count (hl hand hh).1
    have := (hl hand hh).2
    simp only [dealsHand, List.length_map, rowsN_count]
    exact choose_two (by omega) (by omega)
  omega
theorem quiet_anne {a b c : Int} {lot : List (List Int)} (h : Cell a b c lot) : quietN [.anne] (dealsLot (a + b + c) b lot) = dealsLot (a + b + c) b lot :=
  sub_antisymm (quietN_sub _ _) (quietN_greatest (List.Sublist.refl _) (hand_stable h.sok h.lok.rows) (fun _ h => h) (by simp))
theorem seq_tel {w : W} {us : List W} {S : List Deal} (T : Nat) : (seqN w us S (telN w us S T)).length = (seqN w us S T).length := by
  have : ∀ d, telN w us S T + d ≤ T → (seqN w us S (telN w us S T + d)).length = (seqN w us S (telN w us S T)).length := fun d => by
    induction d with
    | zero => intro _; rfl
    | succ d ih => intro h; rw [← Nat.add_assoc, telN_quiet T _ (by omega) (by omega), ih (by omega)]
  have h := this (T - telN w us S T) (by have := telN_le (w := w) (us := us) (S := S) T; omega)
  rw [show telN w us S T + (T - telN w us S T) = T by have := telN_le (w := w) (us := us) (S := S) T; omega] at h
  exact h.symm
theorem row_last {w : W} {us : List W} {S : List Deal} (T : Nat) : (([(S.length : Int)] ++ rowN w us S T).getLast?) = some ((seqN w us S T).length : Int) := by
  rw [rowN_eq, ← seq_tel]
  cases h : telN w us S T with
  | zero => rfl
  | succ n => rw [List.range_succ, List.map_append, ← List.append_assoc, List.map_singleton, List.getLast?_append]; rfl
theorem ix_mono : PN.Pairwise fun u v => u.ix < v.ix := by decide
def pwN : W → Int
  | .anne => 1
  | .bill => 2
  | _ => 4
theorem r_people (k : Nat) (n : Int) : ∃ us : List W, run tbl (k + 1) f_law_people [.int n] = .ok (.d (ppl us)) ∧ us ≠ [] ∧ (∀ u ∈ us, u ∈ PN) ∧ us.length ≤ 3 ∧ us.Pairwise fun u v => u.ix < v.ix := by
  refine ⟨PN.filter fun q => decide ((1 + n % 7) / pwN q % 2 = 1), ?_, ?_, fun u hu => (List.mem_filter.mp hu).1, List.length_filter_le _ PN, ix_mono.filter _⟩
  · refine run_sat rfl rfl ?_
    simp -implicitDefEqProofs [-List.length_flatMap, slotV, slotR, ownL, frzSlot, isTy, startA, notR, F_law_people, it_three]
    rw [collect_fm (fun q => decide ((1 + n % 7) / pwN q % 2 = 1)) wd]
    · simp -implicitDefEqProofs [-List.length_flatMap, slotV, slotR, ownL, frzSlot, isTy, startA, notR]
    · intro q hq
      have g1 : getD (.list [.str W.anne.w, .str W.bill.w, .str W.cath.w]) (.int q.ix) = .ok (.str q.w) := by
        simp [PN] at hq; rcases hq with rfl | rfl | rfl <;> rfl
      have g2 : getD (.list [.int 1, .int 2, .int 4]) (.int q.ix) = .ok (.int (pwN q)) := by
        cases q <;> rfl
      have d1 : divOk (pwN q) := by cases q <;> exact divOk_small (by decide) (by decide)
      simp -implicitDefEqProofs [-List.length_flatMap, slotV, slotR, ownL, frzSlot, isTy, startA, notR, lcB, lcC, g1, g2, d1]
  · intro h
    rw [List.filter_eq_nil_iff] at h
    have h1 : ¬ ((1 + n % 7) / 1 % 2 = 1) := fun e => h .anne (by decide) (decide_eq_true e)
    have h2 : ¬ ((1 + n % 7) / 2 % 2 = 1) := fun e => h .bill (by decide) (decide_eq_true e)
    have h3 : ¬ ((1 + n % 7) / 4 % 2 = 1) := fun e => h .cath (by decide) (decide_eq_true e)
    omega
end OH
end

section
set_option autoImplicit false
set_option linter.all false
set_option maxRecDepth 100000
namespace OH
open PySem (PyData)
theorem cut_to4 (xs : List Int) : cutL (xs.map PyData.int) none (some 4) = (xs.take 4).map .int := by
  rw [show (4 : Int) = ((4 : Nat) : Int) from rfl, cutL_to, List.map_take]
theorem getD_li {ns : List Int} {i : Nat} (h : i < ns.length) : getD (.list (ns.map PyData.int)) (.int i) = .ok (.int (ns.getD i 0)) := by
  rw [getD_l _ _ _ (by omega)]; simp [List.getD, h]
theorem drawn_cell {a b c : Int} {lot : List (List Int)} (h : Drawn a b c) (hl : LotOk a (a + b + c) lot) (h8 : (lot.length : Int) ≤ 8) : Cell a b c lot := by
  refine ⟨h.ok, hl, ?_⟩
  have h1 := h.few
  unfold FewOk
  have h2 : (lot.length : Int) * cntN (b + c) b.toNat ≤ lot.length * 20 := Int.mul_le_mul_of_nonneg_left h1 (by omega)
  omega
theorem getD_l0 (a : D) (l : List D) : getD (.list (a :: l)) (.int 0) = .ok a := getD_l _ _ _ (by decide) rfl
theorem getD_l1 (a b : D) (l : List D) : getD (.list (a :: b :: l)) (.int 1) = .ok b := getD_l _ _ _ (by decide) rfl
theorem getD_l2 (a b c : D) (l : List D) : getD (.list (a :: b :: c :: l)) (.int 2) = .ok c := getD_l _ _ _ (by decide) rfl
theorem lot_idx {lot : List (List Int)} {x : Int} (h0 : 0 ≤ x) (h : x < lot.length) : getD (.tuple (rowsL lot)) (.int x) = .ok ((PySem.PyData.tuple (List.map PySem.PyData.int (lot.getD x.toNat [])))) := by
  rw [getD_t _ _ _ (by omega)]
  have : x.toNat < lot.length := by omega
  simp [rowsL, List.getD, this]
theorem irange_get (lot : List (List Int)) : (irange lot.length).map (fun x => lot.getD x.toNat []) = lot := by
  apply List.ext_getElem
  · simp [irange]
  · intro i h1 h2
    simp [irange, List.getD, h2]
theorem bits8 {x : Int} (h0 : 0 ≤ x) (h : x < 8) : ∃ d : Int, getD (.list [.int 1, .int 2, .int 4, .int 8, .int 16, .int 32, .int 64, .int 128]) (.int x) = .ok (.int d) ∧ divOk d := by
  have : x = 0 ∨ x = 1 ∨ x = 2 ∨ x = 3 ∨ x = 4 ∨ x = 5 ∨ x = 6 ∨ x = 7 := by omega
  rcases this with rfl | rfl | rfl | rfl | rfl | rfl | rfl | rfl <;> exact ⟨_, rfl, divOk_small (by decide) (by decide)⟩
theorem lotPart_ok {a b c : Int} {lot : List (List Int)} (hC : Cell a b c lot) {part : List (List Int)} (hs : part.Sublist lot) (h0 : part ≠ []) : Cell a b c part := by
  refine ⟨hC.sok, ⟨h0, Nat.le_trans hs.length_le hC.lok.most, fun r hr => hC.lok.rows r (hs.subset hr), List.Pairwise.sublist hs hC.lok.asc⟩, ?_⟩
  have h1 := hC.few
  unfold FewOk at h1 ⊢
  have h2 : 0 ≤ cntN (b + c) b.toNat := by
    obtain ⟨g1, g2, g3, g4⟩ := hC.sok
    have := cnt_choose (m := (b + c).toNat) (k := b.toNat) (by omega) (by omega)
    rw [show (((b + c).toNat : Nat) : Int) = b + c by omega] at this
    rw [this]; omega
  have h3 := hs.length_le
  exact Int.le_trans (Int.mul_le_mul_of_nonneg_right (by omega) h2) h1
theorem flatMap_sub {α β : Type} (f : α → List β) {l l' : List α} (h : l.Sublist l') : (l.flatMap f).Sublist (l'.flatMap f) := by
  induction h with
  | slnil => exact List.Sublist.refl _
  | cons a _ ih => rw [List.flatMap_cons]; exact ih.trans (List.sublist_append_right _ _)
  | cons_cons a _ ih => rw [List.flatMap_cons, List.flatMap_cons]; exact (List.Sublist.refl _).append ih
theorem cutL_fromN {α : Type} (xs : List α) (k : Nat) : cutL xs (some (k : Int)) none = xs.drop k := cutL_from xs k
theorem getD_words {i : Nat} (h : i < 4) : ∃ w, w ∈ OWN ∧ getD (.list [.str W.knows.w, .str W.lacks.w, .str W.card.w, .str W.blind.w]) (.int i) = .ok (.str w.w) := by
  have : i = 0 ∨ i = 1 ∨ i = 2 ∨ i = 3 := by omega
  rcases this with rfl | rfl | rfl | rfl
  · exact ⟨.knows, by decide, rfl⟩
  · exact ⟨.lacks, by decide, rfl⟩
  · exact ⟨.card, by decide, rfl⟩
  · exact ⟨.blind, by decide, rfl⟩
end OH
end

section
set_option autoImplicit false
set_option linter.all false
set_option maxRecDepth 100000
namespace OH
open PySem (PyData)
theorem back_sub0 {α : Type} [DecidableEq α] : ∀ {o us : List α}, o.Nodup → (∀ u ∈ o, u ∈ us) → us.length ≤ o.length → ∀ u ∈ us, u ∈ o
  | [], us, _, _, h, u, hu => by
    have : us = [] := List.length_eq_zero_iff.mp (by simpa using h)
    rw [this] at hu; exact hu
  | x :: o, us, hn, hs, h, u, hu => by
    have hx : x ∈ us := hs x (by simp)
    obtain ⟨h1, h2⟩ := List.nodup_cons.mp hn
    have hp := List.perm_cons_erase hx
    rcases List.mem_cons.mp (hp.mem_iff.mp hu) with e | hu'
    · rw [e]; simp
    · refine List.mem_cons_of_mem _ (back_sub0 (us := us.erase x) h2 (fun v hv => ?_) ?_ u hu')
      · have hv2 := hp.mem_iff.mp (hs v (by simp [hv]))
        rcases List.mem_cons.mp hv2 with e | h3
        · subst e; exact absurd hv h1
        · exact h3
      · have := hp.length_eq
        simp at this h; omega
mutual
theorem eqv_self : ∀ (n : Nat) (d : D), shp n d = true → eqv d d = true
  | _, .none, _ => by simp [eqv]
  | _, .bool b, _ => by simp [eqv]
  | _, .int i, _ => by simp [eqv]
  | _, .str x, _ => by simp [eqv]
  | 0, .list xs, h => by simp [shp] at h
  | n + 1, .list xs, h => by rw [eqv]; exact eqvAll_self n xs (by simpa [shp] using h)
  | 0, .tuple xs, h => by simp [shp] at h
  | n + 1, .tuple xs, h => by rw [eqv]; exact eqvAll_self n xs (by simpa [shp] using h)
  | n, .dict _, h => by cases n <;> simp [shp] at h
theorem eqvAll_self : ∀ (n : Nat) (xs : List D), shpAll n xs = true → eqvAll xs xs = true
  | _, [], _ => by simp [eqvAll]
  | n, x :: xs, h => by
    simp only [shpAll, Bool.and_eq_true] at h
    simp [eqvAll, eqv_self n x h.1, eqvAll_self n xs h.2]
end
theorem eq_self {d : D} (h : shp 30 d = true) : cmpD .eq d d = .ok true := by
  simp only [cmpD, h, Bool.and_self, if_true, eqv_self 30 d h]
structure DealOk (a b c : Int) (d : Deal) : Prop where
  rh : RowOk (a + b + c) d.h
  rb : RowOk (a + b + c) d.b
  rc : RowOk (a + b + c) d.c
  lh : (d.h.length : Int) = a
  lb : (d.b.length : Int) = b
  lc : (d.c.length : Int) = c
  all : List.Perm (d.h ++ d.b ++ d.c) (irange (a + b + c))
theorem split_perm (l bill : List Int) (hn : l.Nodup) (hs : bill.Sublist l) : List.Perm (bill ++ l.filter fun x => !decide (x ∈ bill)) l := by
  refine (List.perm_ext_iff_of_nodup ?_ hn).mpr fun x => ?_
  · rw [List.nodup_append]
    refine ⟨hs.nodup hn, hn.filter _, fun u hu v hv e => ?_⟩
    subst e
    simp [hu] at hv
  · simp only [List.mem_append, List.mem_filter, Bool.not_eq_true', decide_eq_false_iff_not]
    constructor
    · rintro (hx | ⟨hx, _⟩)
      · exact hs.subset hx
      · exact hx
    · intro hx
      by_cases hm : x ∈ bill
      · exact .inl hm
      · exact .inr ⟨hx, hm⟩
theorem deal_ok {a b c : Int} (h : SetOk a b c) {lot : List (List Int)} (hl : ∀ r ∈ lot, RowOk (a + b + c) r ∧ (r.length : Int) = a) {d : Deal} (hd : d ∈ dealsLot (a + b + c) b lot) : DealOk a b c d ∧ d.h ∈ lot := by
  obtain ⟨h1, h2, h3, h4⟩ := h
  obtain ⟨hand, hh, hd⟩ := List.mem_flatMap.mp hd
  obtain ⟨bill, hb, rfl⟩ := List.mem_map.mp hd
  obtain ⟨g1, g2⟩ := mem_rowsN.mp hb
  have e0 := hl hand hh
  have ho := others_perm e0.1
  have hon : (othersN (a + b + c) hand).Nodup := nodup_of_ltI (othersN_asc _ _)
  have hsp := split_perm (othersN (a + b + c) hand) bill hon g1
  have hin : ∀ x ∈ othersN (a + b + c) hand, 0 ≤ x ∧ x < a + b + c := fun x hx => mem_irange.mp (List.mem_filter.mp hx).1
  have l1 := others_count e0.1
  have l2 := hsp.length_eq
  rw [List.length_append] at l2
  refine ⟨⟨e0.1, ⟨List.Pairwise.sublist g1 (othersN_asc _ _), fun x hx => hin x (g1.subset hx)⟩, ⟨(othersN_asc _ _).filter _, fun x hx => hin x (List.mem_filter.mp hx).1⟩, e0.2, (show (bill.length : Int) = b by omega), (show ((((othersN (a + b + c) hand).filter fun x => !decide (x ∈ bill)).length : Nat) : Int) = c by omega), ?_⟩, hh⟩
  · simp only [List.append_assoc]
    exact (hsp.append_left hand).trans ho
theorem dedup_nodup : ∀ {l : List Int}, l.Nodup → dedupI l = l
  | [], _ => rfl
  | x :: l, h => by
    obtain ⟨h1, h2⟩ := List.nodup_cons.mp h
    simp [dedupI, h1, dedup_nodup h2]
@[simp] theorem lenSet_t (xs : List Int) (h : xs.length ≤ 4000) : primD .lenSet [.tuple (xs.map .int)] = .ok (.d (.int (dedupI xs).length)) := by
  simp only [primD, intsD_map, if_pos h]
theorem r_is_deal {a b c : Int} (k : Nat) (h : SetOk a b c) {d : Deal} (hd : DealOk a b c d) : run tbl (k + 4) f_is_deal [stg a b c, encD d] = .ok (.d (.bool true)) := by
  obtain ⟨h1, h2, h3, h4⟩ := id h
  obtain ⟨g1, g2, g3, g4, g5, g6, g7⟩ := hd
  have hl := g7.length_eq
  rw [irange_len, List.length_append, List.length_append] at hl
  have hn : (d.h ++ d.b ++ d.c).Nodup := g7.nodup_iff.mpr (nodup_of_ltI (irange_asc _))
  have hls : (dedupI (d.h ++ d.b ++ d.c)).length = d.h.length + d.b.length + d.c.length := by rw [dedup_nodup hn]; simp [Nat.add_assoc]
  refine run_sat rfl rfl ?_
  simp -implicitDefEqProofs [-List.length_flatMap, slotV, slotR, ownL, frzSlot, isTy, startA, notR, F_is_deal, r_check_setting, h, encD]
  rw [show itemsD .zip [.tuple [(PySem.PyData.tuple (List.map PySem.PyData.int d.h)), (PySem.PyData.tuple (List.map PySem.PyData.int d.b)), (PySem.PyData.tuple (List.map PySem.PyData.int d.c))], stg a b c] = .ok ([(d.h, a), (d.b, b), (d.c, c)].map fun p : List Int × Int => .tuple [(PySem.PyData.tuple (List.map PySem.PyData.int p.1)), .int p.2]) from rfl]
  simp -implicitDefEqProofs [-List.length_flatMap, slotV, slotR, ownL, frzSlot, isTy, startA, notR]
  refine for_nx (enc := fun p : List Int × Int => .tuple [(PySem.PyData.tuple (List.map PySem.PyData.int p.1)), .int p.2]) (xs := [(d.h, a), (d.b, b), (d.c, c)]) (fun pre σ => ∃ x y, σ = [some (.d (stg a b c)), some (.d (encD d)), some (.d (.int (a + b + c))), x, y]) ⟨_, _, rfl⟩ ?_ ?_
  · rintro pre ⟨r, m⟩ post σ e ⟨x, y, rfl⟩
    have hm : (r, m) ∈ [(d.h, a), (d.b, b), (d.c, c)] := by rw [e]; simp
    have : RowOk (a + b + c) r ∧ (r.length : Int) = m := by
      simp at hm
      rcases hm with ⟨rfl, rfl⟩ | ⟨rfl, rfl⟩ | ⟨rfl, rfl⟩
      · exact ⟨g1, g4⟩
      · exact ⟨g2, g5⟩
      · exact ⟨g3, g6⟩
    simp -implicitDefEqProofs [-List.length_flatMap, slotV, slotR, ownL, frzSlot, isTy, startA, notR, forB, r_is_row, this.1, this.2]
  · rintro σ ⟨x, y, rfl⟩
    have q1 : d.h.length + d.b.length ≤ LINE := by simp only [LINE]; omega
    have q2 : d.h.length + d.b.length + d.c.length ≤ LINE := by simp only [LINE]; omega
    have q3 : d.h.length + (d.b.length + d.c.length) ≤ LINE := by simp only [LINE]; omega
    have q4 := lenSet_t (d.h ++ d.b ++ d.c) (by simp; omega)
    rw [hls] at q4
    simp only [List.map_append] at q4
    simp -implicitDefEqProofs [-List.length_flatMap, slotV, slotR, ownL, frzSlot, isTy, startA, notR, getD_0, getD_1, getD_2, encD, q1, q2, q3]
    simp only [List.append_assoc] at q4
    simp -implicitDefEqProofs [-List.length_flatMap, slotV, slotR, ownL, frzSlot, isTy, startA, notR, q4]
    omega
theorem r_check_deal {a b c : Int} (k : Nat) (h : SetOk a b c) {d : Deal} (hd : DealOk a b c d) : run tbl (k + 5) f_check_deal [stg a b c, encD d] = .ok (.d .none) := by
  refine run_sat rfl rfl ?_
  simp -implicitDefEqProofs [-List.length_flatMap, slotV, slotR, ownL, frzSlot, isTy, startA, notR, F_check_deal, r_is_deal, h, hd]
theorem r_held_by (k : Nat) (S : List Deal) (d : Deal) {p : W} (hp : p ∈ PN) : run tbl (k + 2) f_held_by [dl S, encD d, .str p.w] = .ok (.fl ((like S p d).map encD)) := by
  refine run_sat rfl rfl ?_
  simp -implicitDefEqProofs [-List.length_flatMap, slotV, slotR, ownL, frzSlot, isTy, startA, notR, F_held_by, r_place_of, hp]
  rw [collect_fm (fun e => decide (e.at p = d.at p)) encD]
  · simp -implicitDefEqProofs [-List.length_flatMap, slotV, slotR, ownL, frzSlot, isTy, startA, notR, like]
  · intro e _
    simp -implicitDefEqProofs [-List.length_flatMap, slotV, slotR, ownL, frzSlot, isTy, startA, notR, lcB, lcC, eq_row]
theorem in_dl (d : Deal) (S : List Deal) : inD (encD d) (dl S) = .ok (decide (d ∈ S)) := by
  have h1 := shp_deal 28 d
  have h2 := shpAll_map (n := 30) (f := encD) (xs := S) fun x _ => shp_deal 28 x
  simp only [inD, h1, h2, Bool.and_self, if_true]
  rw [anyEqv (f := encD) eqv_deal]
theorem in_lot (r : List Int) (lot : List (List Int)) : inD ((PySem.PyData.tuple (List.map PySem.PyData.int r))) (.tuple (rowsL lot)) = .ok (decide (r ∈ lot)) := by
  simp only [inD, shp_row, shpAll_map (n := 30) (f := fun r : List Int => (PySem.PyData.tuple (List.map PySem.PyData.int r))) (xs := lot) (fun x _ => shp_row 29 x), Bool.and_self, if_true]
  rw [anyEqv (f := fun r : List Int => (PySem.PyData.tuple (List.map PySem.PyData.int r))) eqv_row]; congr
theorem r_left_around {a b c : Int} {lot : List (List Int)} (k : Nat) (hC : Cell a b c lot) {talk : List Say} (ht : TalkOk (a + b + c) talk) {d : Deal} (hd : d ∈ afterN (dealsLot (a + b + c) b lot) talk) :
    run tbl (k + 7) f_left_around [stg a b c, .tuple (rowsL lot), encT talk, encD d] = .ok (.d (dl (afterN (dealsLot (a + b + c) b lot) talk))) := by
  have h1 := fun k => r_check_talk k hC.sok ht
  have h2 : ∀ k, run tbl (k + 6) f_after_talk [dl (dealsLot (a + b + c) b lot), encT talk] = _ := fun k => by
    obtain ⟨r, e1, e2⟩ := r_after_talk k (S := dealsLot (a + b + c) b lot) (cell_deals hC) ht
    rw [e1, e2]
  have hdS := (afterN_sub talk _).subset hd
  obtain ⟨g1, g2⟩ := deal_ok hC.sok hC.lok.rows hdS
  have h3 := fun k => r_check_deal k hC.sok g1
  have h4 : getD (encD d) (.int 0) = .ok ((PySem.PyData.tuple (List.map PySem.PyData.int d.h))) := getD_at d .anne
  refine run_sat rfl rfl ?_
  simp -implicitDefEqProofs [-List.length_flatMap, slotV, slotR, ownL, frzSlot, isTy, startA, notR, F_left_around, r_check_lot, hC.sok, hC.lok, h1, h3, r_few_deals, hC.lok.most, hC.few, h4, in_lot, g2, r_deals_of_lot, h2, in_dl, hd]
def wordD (L : List Deal) (d : Deal) (p : W) : D := .tuple [.bool (sure L p d), (PySem.PyData.tuple (List.map PySem.PyData.int (knownN (like L p d) p)))]
theorem r_words_now {a b c : Int} {lot : List (List Int)} (k : Nat) (hC : Cell a b c lot) {talk : List Say} (ht : TalkOk (a + b + c) talk) {d : Deal} (hd : d ∈ afterN (dealsLot (a + b + c) b lot) talk) :
    run tbl (k + 8) f_words_now [stg a b c, .tuple (rowsL lot), encT talk, encD d] = .ok (.d (.tuple (PN.map (wordD (afterN (dealsLot (a + b + c) b lot) talk) d)))) := by
  have h1 := fun k => r_left_around k hC ht hd
  have hS : SFew (afterN (dealsLot (a + b + c) b lot) talk) := SFew.sub (cell_deals hC) (afterN_sub _ _)
  generalize afterN (dealsLot (a + b + c) b lot) talk = L at *
  refine run_sat rfl rfl ?_
  simp -implicitDefEqProofs [-List.length_flatMap, slotV, slotR, ownL, frzSlot, isTy, startA, notR, F_words_now, h1]
  refine for_nx (fun pre σ => ∃ x y, σ = [some (.d (stg a b c)), some (.d (.tuple (rowsL lot))), some (.d (encT talk)), some (.d (encD d)), some (.d (dl L)), some (.fl (pre.map (wordD L d))), x, y]) ⟨_, _, rfl⟩ ?_ ?_
  · rintro pre p post σ e ⟨x, y, rfl⟩
    have hp : p ∈ PN := by rw [e]; simp
    obtain ⟨z, r, e1, e2⟩ := like_cons (S := L) (p := p) hd
    have hk := fun k => r_known_to k hp e1 (hS.2 z e2)
    have hpl : pre.length < LINE := by
      have := congrArg List.length e
      simp [PN] at this; simp only [LINE]; omega
    simp -implicitDefEqProofs [-List.length_flatMap, slotV, slotR, ownL, frzSlot, isTy, startA, notR, forB, r_held_by, hp, hk, hpl, wordD, sure, len_one]
  · rintro σ ⟨x, y, rfl⟩
    simp -implicitDefEqProofs [-List.length_flatMap, slotV, slotR, ownL, frzSlot, isTy, startA, notR]
end OH
end

section
set_option autoImplicit false
set_option linter.all false
set_option maxRecDepth 100000
namespace OH
open PySem (PyData)
theorem eqv_say (s t : Say) : eqv (encS s) (encS t) = decide (s = t) := by
  cases s <;> cases t <;> simp [encS, eqv, eqvAll, eqW]
  all_goals (rw [Bool.eq_iff_iff]; simp)
theorem shp_say (n : Nat) (s : Say) : shp (n + 1) (encS s) = true := by
  have h := fun u => okW u
  cases s <;> simp only [encS, shp, shpAll, h, Bool.and_self]
theorem in_says (s : Say) (l : List Say) : inD (encS s) (.list (l.map encS)) = .ok (decide (s ∈ l)) := by
  have h1 := shp_say 29 s
  have h2 := shpAll_map (n := 30) (f := encS) (xs := l) fun x _ => shp_say 29 x
  simp only [inD, h1, h2, Bool.and_self, if_true]
  rw [anyEqv (f := encS) eqv_say]
def pnAt (i : Nat) : W := PN.getD i .anne
theorem pnAt_mem {i : Nat} (h : i < 3) : pnAt i ∈ PN := by
  have : i = 0 ∨ i = 1 ∨ i = 2 := by omega
  rcases this with rfl | rfl | rfl <;> decide
theorem getD_pn {i : Nat} (h : i < 3) : getD (.list [.str W.anne.w, .str W.bill.w, .str W.cath.w]) (.int i) = .ok (.str (pnAt i).w) := by
  have : i = 0 ∨ i = 1 ∨ i = 2 := by omega
  rcases this with rfl | rfl | rfl <;> rfl
theorem pnAt_ne {i j : Nat} (hi : i < 3) (hj : j < 3) (h : i ≠ j) : pnAt i ≠ pnAt j := by
  have : i = 0 ∨ i = 1 ∨ i = 2 := by omega
  have : j = 0 ∨ j = 1 ∨ j = 2 := by omega
  rcases ‹i = 0 ∨ _› with rfl | rfl | rfl <;> rcases ‹j = 0 ∨ _› with rfl | rfl | rfl <;> first | exact absurd rfl h | decide
theorem getD_seven {i : Nat} (h : i < 7) : ∃ w, (w ∈ OWN ∨ w = .sees ∨ w ∈ CW) ∧ getD (.list [.str W.knows.w, .str W.lacks.w, .str W.card.w, .str W.blind.w, .str W.sees.w, .str W.has.w, .str W.misses.w]) (.int i) = .ok (.str w.w) := by
  have : i = 0 ∨ i = 1 ∨ i = 2 ∨ i = 3 ∨ i = 4 ∨ i = 5 ∨ i = 6 := by omega
  rcases this with rfl | rfl | rfl | rfl | rfl | rfl | rfl
  · exact ⟨.knows, by decide, rfl⟩
  · exact ⟨.lacks, by decide, rfl⟩
  · exact ⟨.card, by decide, rfl⟩
  · exact ⟨.blind, by decide, rfl⟩
  · exact ⟨.sees, by decide, rfl⟩
  · exact ⟨.has, by decide, rfl⟩
  · exact ⟨.misses, by decide, rfl⟩
theorem r_law_saying (k : Nat) (n total : Int) (h0 : 0 < total) : ∃ s, run tbl (k + 1) f_law_saying [.int n, .int total] = .ok (.d (encS s)) ∧ SayOk total s := by
  have key := run_hid (k := k) (f := f_law_saying) (ds := [.int n, .int total]) (fd := F_law_saying) (fun r => ∃ s, r = .d (encS s) ∧ SayOk total s) rfl rfl ?_
  · obtain ⟨r, e, s, rfl, h⟩ := key
    exact ⟨s, e, h⟩
  obtain ⟨i, hi⟩ : ∃ i : Nat, (i : Int) = n % 3 := ⟨(n % 3).toNat, by omega⟩
  obtain ⟨j, hj⟩ : ∃ j : Nat, (j : Int) = (n + 1 + n / 3 % 2) % 3 := ⟨((n + 1 + n / 3 % 2) % 3).toNat, by omega⟩
  obtain ⟨l, hl⟩ : ∃ l : Nat, (l : Int) = n / 6 % 7 := ⟨(n / 6 % 7).toNat, by omega⟩
  have g1 := getD_pn (i := i) (by omega)
  have g2 := getD_pn (i := j) (by omega)
  obtain ⟨w, hw, g3⟩ := getD_seven (i := l) (by omega)
  have d3 : divOk 3 := divOk_small (by omega) (by omega)
  have d6 : divOk 6 := divOk_small (by omega) (by omega)
  have d42 : divOk 42 := divOk_small (by omega) (by omega)
  have m1 := pnAt_mem (i := i) (by omega)
  have m2 := pnAt_mem (i := j) (by omega)
  have m3 : pnAt i ≠ pnAt j := pnAt_ne (by omega) (by omega) (by omega)
  simp -implicitDefEqProofs [-List.length_flatMap, slotV, slotR, ownL, frzSlot, isTy, startA, notR, F_law_saying, d3, d6, ← hi, ← hj, ← hl, g1, g2, g3]
  by_cases h1 : w = .sees
  · subst h1
    simp -implicitDefEqProofs [-List.length_flatMap, slotV, slotR, ownL, frzSlot, isTy, startA, notR]
    exact ⟨.sees (pnAt i) (pnAt j), rfl, m1, m2, m3⟩
  · by_cases h2 : w = .has ∨ w = .misses
    · have h2' : (decide (w = .has) || decide (w = .misses)) = true := by simpa using h2
      simp -implicitDefEqProofs [-List.length_flatMap, slotV, slotR, ownL, frzSlot, isTy, startA, notR, h1, h2, h0, d42]
      exact ⟨.card w (pnAt i) (n / 42 % total), rfl, by rcases h2 with rfl | rfl <;> decide, m1, Int.emod_nonneg _ (by omega), Int.emod_lt_of_pos _ h0⟩
    · simp -implicitDefEqProofs [-List.length_flatMap, slotV, slotR, ownL, frzSlot, isTy, startA, notR, h1, h2]
      refine ⟨.own w (pnAt i), rfl, ?_, m1⟩
      rcases hw with hw | hw | hw
      · exact hw
      · exact absurd hw h1
      · simp [CW] at hw; exact absurd hw h2
def turnW : W → W
  | .knows => .lacks
  | .lacks => .knows
  | .card => .blind
  | .blind => .card
  | .has => .misses
  | .misses => .has
  | w => w
def oppS : Say → Say
  | .own w p => .own (turnW w) p
  | .sees p q => .own .lacks q
  | .card w p c => .card (turnW w) p c
def turnL : List (W × W) := [(.knows, .lacks), (.lacks, .knows), (.card, .blind), (.blind, .card), (.has, .misses), (.misses, .has)]
theorem putAll_encK {κ β : Type} [DecidableEq κ] {f : κ → D} {g : β → D} (hf : ∀ x y, eqv (f x) (f y) = decide (x = y)) (l : List (κ × β)) : putAll (encK f g l) = encK f g (l.foldl (fun acc p => putK p.1 p.2 acc) []) := by
  induction l using list_snoc_ind with
  | h0 => rfl
  | h1 l p ih =>
    unfold putAll at ih ⊢
    rw [show encK f g (l ++ [p]) = encK f g l ++ [(f p.1, g p.2)] by simp [encK], List.foldl_append, ih, List.foldl_append]
    exact putK_enc hf p.1 p.2 _
theorem e_turn (cl : Nat → List D → Res RV) (σ : ASt) : denE cl (.dct [.lit (.str W.knows.w), .lit (.str W.lacks.w), .lit (.str W.card.w), .lit (.str W.blind.w), .lit (.str W.has.w), .lit (.str W.misses.w)] [.lit (.str W.lacks.w), .lit (.str W.knows.w), .lit (.str W.blind.w), .lit (.str W.card.w), .lit (.str W.misses.w), .lit (.str W.has.w)]) σ = .ok (.d (.dict (encK wd wd turnL))) := by
  have e : putAll (encK wd wd turnL) = encK wd wd turnL := by rw [putAll_encK eqv_w]; rfl
  simp only [denE, denF, Res.bind_ok, RV.frz_d, List.all_cons, isKeyT, Bool.false_and, Bool.false_eq_true, if_false, isKeyF, List.all_nil, Bool.and_self, Bool.true_and, List.length_cons, List.length_nil]
  rw [if_pos (by decide)]
  exact congrArg (fun x => Res.ok (RV.d (.dict x))) e
theorem getD_turn {w : W} (h : w ∈ OWN ∨ w ∈ CW) : getD (.dict (encK wd wd turnL)) (.str w.w) = .ok (.str (turnW w).w) := by
  refine getD_dict (k := wd w) ?_ ?_
  · simp [lookOk, isKeyF, isKeyT, encK, turnL]
  · rw [lookK_enc eqv_w]
    simp [OWN, CW] at h
    rcases h with (rfl | rfl | rfl | rfl) | rfl | rfl <;> rfl
theorem opp_ok {n : Int} {s : Say} (h : SayOk n s) : SayOk n (oppS s) := by
  cases s with
  | own w p => obtain ⟨h1, h2⟩ := h; refine ⟨?_, h2⟩; simp [OWN] at h1; rcases h1 with rfl | rfl | rfl | rfl <;> decide
  | sees p q => exact ⟨by decide, h.2.1⟩
  | card w p c => obtain ⟨h1, h2⟩ := h; refine ⟨?_, h2⟩; simp [CW] at h1; rcases h1 with rfl | rfl <;> decide
theorem cut1_2 (a b : D) : cutL [a, b] (some 1) none = [b] := rfl
theorem cut1_3 (a b c : D) : cutL [a, b, c] (some 1) none = [b, c] := rfl
theorem r_law_opposite (k : Nat) {n : Int} {s : Say} (h : SayOk n s) : run tbl (k + 1) f_law_opposite [encS s] = .ok (.d (encS (oppS s))) := by
  refine run_sat rfl rfl ?_
  have l1 : (1 : Nat) + 1 ≤ LINE := by decide
  have l2 : (1 : Nat) + 2 ≤ LINE := by decide
  have l3 : (2 : Nat) ≤ LINE := by decide
  have l4 : (3 : Nat) ≤ LINE := by decide
  cases s with
  | own w p =>
    obtain ⟨h1, h2⟩ := h
    obtain ⟨c1, c2, c3, c4⟩ := own_cw h1
    have g := getD_turn (w := w) (.inl h1)
    simp -implicitDefEqProofs [-List.length_flatMap, slotV, slotR, ownL, frzSlot, isTy, startA, notR, F_law_opposite, e_turn, encS, getD_0, getD_2, c2, g, cut1_2, oppS, l1, l3]
  | sees p q =>
    simp -implicitDefEqProofs [-List.length_flatMap, slotV, slotR, ownL, frzSlot, isTy, startA, notR, F_law_opposite, e_turn, encS, getD_0, getD_2, oppS]
  | card w p c =>
    obtain ⟨h1, h2⟩ := h
    have g := getD_turn (w := w) (.inr h1)
    have c2 : w ≠ .sees := by simp [CW] at h1; rcases h1 with rfl | rfl <;> decide
    simp -implicitDefEqProofs [-List.length_flatMap, slotV, slotR, ownL, frzSlot, isTy, startA, notR, F_law_opposite, e_turn, encS, getD_0, getD_2, c2, g, cut1_3, oppS, l2, l4]
def keyDl (d : Deal) : List (List Int) := [d.h, d.b, d.c]
theorem lt_dl (x y : Deal) : ltD (encD x) (encD y) = decide (keyDl x < keyDl y) := by
  have : ltD (encD x) (encD y) = (if eqv ((PySem.PyData.tuple (List.map PySem.PyData.int x.h))) ((PySem.PyData.tuple (List.map PySem.PyData.int y.h))) then (if eqv ((PySem.PyData.tuple (List.map PySem.PyData.int x.b))) ((PySem.PyData.tuple (List.map PySem.PyData.int y.b))) then (if eqv ((PySem.PyData.tuple (List.map PySem.PyData.int x.c))) ((PySem.PyData.tuple (List.map PySem.PyData.int y.c))) then false else ltD ((PySem.PyData.tuple (List.map PySem.PyData.int x.c))) ((PySem.PyData.tuple (List.map PySem.PyData.int y.c)))) else ltD ((PySem.PyData.tuple (List.map PySem.PyData.int x.b))) ((PySem.PyData.tuple (List.map PySem.PyData.int y.b)))) else ltD ((PySem.PyData.tuple (List.map PySem.PyData.int x.h))) ((PySem.PyData.tuple (List.map PySem.PyData.int y.h)))) := by
    simp only [encD, ltD, ltAllD]
  rw [this]
  simp only [eqv_row, lt_row, keyDl, decide_eq_true_eq]
  rw [Bool.eq_iff_iff]
  simp only [decide_eq_true_eq, List.cons_lt_cons_iff]
  by_cases h1 : x.h = y.h <;> by_cases h2 : x.b = y.b <;> by_cases h3 : x.c = y.c <;> simp [h1, h2, h3, List.lt_irrefl]
def sortDl (xs : List Deal) : List Deal := xs.mergeSort fun a b => !decide (keyDl b < keyDl a)
theorem sort_dl (xs : List Deal) : sortD (xs.map encD) = (sortDl xs).map encD := map_ms xs fun a b => lt_dl a b
theorem alike_dl (x y : Deal) : alikeD (encD x) (encD y) = true := by
  simp only [encD, alikeD, alikeAllD, alikeAll_int, Bool.and_self]
theorem srt_dl (xs : List Deal) : srtOk (xs.map encD) = true := by
  have h1 : ∀ x ∈ xs.map encD, ∀ y ∈ xs.map encD, alikeD x y = true := fun x hx y hy => by
    obtain ⟨a, _, rfl⟩ := List.mem_map.mp hx
    obtain ⟨b, _, rfl⟩ := List.mem_map.mp hy
    exact alike_dl a b
  have h2 : ∀ x ∈ xs.map encD, shp 20 x = true := fun x hx => by
    obtain ⟨a, _, rfl⟩ := List.mem_map.mp hx
    exact shp_deal 18 a
  have h3 : ∀ x ∈ xs.map encD, tupNE x = true := fun x hx => by
    obtain ⟨a, _, rfl⟩ := List.mem_map.mp hx
    rfl
  simp only [srtOk, Bool.and_eq_true, Bool.or_eq_true, List.all_eq_true]
  exact ⟨⟨h1, h2⟩, .inl h3⟩
def AscDl (xs : List Deal) : Prop := xs.Pairwise fun a b => keyDl a < keyDl b
theorem asc_deals {a b c : Int} {lot : List (List Int)} (hl : lot.Pairwise (· < ·)) : AscDl (dealsLot (a + b + c) b lot) := by
  unfold AscDl
  induction lot with
  | nil => simp [dealsLot]
  | cons r lot ih =>
    obtain ⟨h1, h2⟩ := List.pairwise_cons.mp hl
    simp only [dealsLot, List.flatMap_cons] at ih ⊢
    rw [List.pairwise_append]
    refine ⟨?_, ih h2, ?_⟩
    · unfold dealsHand
      rw [List.pairwise_map]
      exact (rowsN_asc _ (othersN_asc _ _)).imp fun {x y} hxy => by
        simp only [keyDl, List.cons_lt_cons_iff]
        exact .inr ⟨trivial, .inl hxy⟩
    · intro x hx y hy
      obtain ⟨bill, _, rfl⟩ := List.mem_map.mp hx
      obtain ⟨r', hr', hy2⟩ := List.mem_flatMap.mp hy
      obtain ⟨bill', _, rfl⟩ := List.mem_map.mp hy2
      simp only [keyDl, List.cons_lt_cons_iff]
      exact .inl (h1 r' hr')
theorem sortDl_perm {xs ys : List Deal} (h : List.Perm xs ys) (ha : AscDl ys) : sortDl xs = ys := by
  have h1 : (sortDl xs).Pairwise fun a b => (!decide (keyDl b < keyDl a)) = true := List.pairwise_mergeSort (fun a b c h1 h2 => by
    simp [List.not_lt] at h1 h2 ⊢; exact List.le_trans h1 h2) (fun a b => by
    simp [List.not_lt]; exact List.le_total _ _) xs
  have h2 : ys.Pairwise fun a b => (!decide (keyDl b < keyDl a)) = true := ha.imp fun {a b} h => by
    simp
    exact fun h' => List.lt_irrefl _ (List.lt_trans h h')
  refine List.Perm.eq_of_pairwise (le := fun a b => (!decide (keyDl b < keyDl a)) = true) (fun a b _ _ q1 q2 => ?_) h1 h2 ((List.mergeSort_perm _ _).trans h)
  simp [List.not_lt] at q1 q2
  have := List.le_antisymm q1 q2
  obtain ⟨a1, a2, a3⟩ := a
  obtain ⟨b1, b2, b3⟩ := b
  simp only [keyDl, List.cons.injEq, and_true] at this
  obtain ⟨rfl, rfl, rfl⟩ := this
  rfl
theorem split_filter {α : Type} (P : α → Bool) (xs : List α) : List.Perm (xs.filter P ++ xs.filter fun x => !P x) xs := List.filter_append_perm P xs
theorem like_kept {P : List Deal → Bool} {L : List Deal} {p : W} {d : Deal} (hd : d ∈ L.filter fun d => P (like L p d)) : like (L.filter fun d => P (like L p d)) p d = like L p d := by
  obtain ⟨h1, h2⟩ := List.mem_filter.mp hd
  unfold like
  rw [List.filter_filter]
  apply List.filter_congr
  intro e he
  by_cases h : e.at p = d.at p
  · simp only [h, decide_true, Bool.true_and]
    simpa [like] using h2
  · simp [h]
theorem told_twice (L : List Deal) (s : Say) : toldBy (toldBy L s) s = toldBy L s := by
  cases s with
  | own w p =>
    simp only [toldBy]
    rw [List.filter_eq_self]
    intro d hd
    rw [like_kept hd]
    exact (List.mem_filter.mp hd).2
  | sees p q =>
    simp only [toldBy]
    rw [List.filter_eq_self]
    intro d hd
    rw [like_kept hd]
    have h2 : (like L p d).all (fun e => sure L q e) = true := (List.mem_filter.mp hd).2
    show (like L p d).all (fun e => sure (L.filter fun d => seesN L q (like L p d)) q e) = true
    rw [List.all_eq_true] at h2 ⊢
    intro e he
    have h3 := h2 e he
    have he' : e ∈ L.filter fun d => seesN L q (like L p d) := by
      rw [← like_kept hd] at he
      exact (List.mem_filter.mp he).1
    have h4 := (like_le (List.filter_sublist (p := fun d => seesN L q (like L p d)) (l := L)) q e).length_le
    have h5 := like_pos (p := q) he'
    have h6 : (like L q e).length = 1 := by simpa [sure] using h3
    have h7 : (like (L.filter fun d => seesN L q (like L p d)) q e).length = 1 := by omega
    show ((like (L.filter fun d => seesN L q (like L p d)) q e).length == 1) = true
    rw [h7]; rfl
  | card w p c =>
    simp only [toldBy]
    rw [List.filter_eq_self]
    intro d hd
    exact (List.mem_filter.mp hd).2
theorem told_opp {n : Int} {s : Say} (h : SayOk n s) (hs : ∀ p q, s ≠ .sees p q) (L : List Deal) : ∃ P : Deal → Bool, toldBy L s = L.filter P ∧ toldBy L (oppS s) = L.filter fun d => !P d := by
  cases s with
  | sees p q => exact absurd rfl (hs p q)
  | own w p =>
    refine ⟨fun d => isSoN w p (like L p d), rfl, ?_⟩
    have h1 := h.1
    simp [OWN] at h1
    simp only [oppS, toldBy]
    rcases h1 with rfl | rfl | rfl | rfl <;> simp [turnW, isSoN]
  | card w p c =>
    refine ⟨cardN w p c, rfl, ?_⟩
    have h1 := h.1
    simp [CW] at h1
    simp only [oppS, toldBy]
    rcases h1 with rfl | rfl
    · apply List.filter_congr; intro d _; rw [show turnW .has = .misses from rfl, cardN_has, cardN_misses]
    · apply List.filter_congr; intro d _; rw [show turnW .misses = .has from rfl, cardN_has, cardN_misses, Bool.not_not]
def ownAll (ws : List W) : List Say := ws.flatMap fun w => PN.map fun p => .own w p
def seesAll : List Say := PN.flatMap fun p => (PN.filter fun q => !decide (q = p)).map fun q => .sees p q
theorem mem_own {ws : List W} {s : Say} : s ∈ ownAll ws ↔ ∃ w p, s = .own w p ∧ w ∈ ws ∧ p ∈ PN := by
  simp only [ownAll, List.mem_flatMap, List.mem_map]
  constructor
  · rintro ⟨w, hw, p, hp, rfl⟩; exact ⟨w, p, rfl, hw, hp⟩
  · rintro ⟨w, p, rfl, hw, hp⟩; exact ⟨w, hw, p, hp, rfl⟩
theorem mem_sees {s : Say} : s ∈ seesAll ↔ ∃ p q, s = .sees p q ∧ p ∈ PN ∧ q ∈ PN ∧ q ≠ p := by
  simp only [seesAll, List.mem_flatMap, List.mem_map, List.mem_filter]
  constructor
  · rintro ⟨p, hp, q, ⟨hq, hn⟩, rfl⟩; exact ⟨p, q, rfl, hp, hq, by simpa using hn⟩
  · rintro ⟨p, q, rfl, hp, hq, hn⟩; exact ⟨p, hp, q, ⟨hq, by simpa using hn⟩, rfl⟩
def know17 : List Say := ownAll OWN ++ seesAll
theorem know_ok {n : Int} {s : Say} (h : s ∈ know17) : SayOk n s := by
  rcases List.mem_append.mp h with h | h
  · obtain ⟨w, p, rfl, hw, hp⟩ := mem_own.mp h; exact ⟨hw, hp⟩
  · obtain ⟨p, q, rfl, hp, hq, hn⟩ := mem_sees.mp h; exact ⟨hp, hq, fun e => hn e.symm⟩
theorem know_mem {n : Int} {s : Say} (h : SayOk n s) (hc : ∀ w p c, s ≠ .card w p c) : s ∈ know17 := by
  cases s with
  | own w p => exact List.mem_append_left _ (mem_own.mpr ⟨w, p, rfl, h.1, h.2⟩)
  | sees p q => exact List.mem_append_right _ (mem_sees.mpr ⟨p, q, rfl, h.1, h.2.1, fun e => h.2.2 e.symm⟩)
  | card w p c => exact absurd rfl (hc w p c)
def ltS (s t : Say) : Bool := ltD (encS s) (encS t)
def sortS (xs : List Say) : List Say := xs.mergeSort fun a b => !ltS b a
theorem mem_sortS {xs : List Say} {s : Say} : s ∈ sortS xs ↔ s ∈ xs := (List.mergeSort_perm _ _).mem_iff
theorem sort_say (xs : List Say) : sortD (xs.map encS) = (sortS xs).map encS := map_ms xs fun a b => rfl
theorem srt_say {xs : List Say} (h : ∀ s ∈ xs, s ∈ know17) : srtOk (xs.map encS) = true := by
  have h1 : ∀ x ∈ xs.map encS, ∀ y ∈ xs.map encS, alikeD x y = true := fun x hx y hy => by
    obtain ⟨a, ha, rfl⟩ := List.mem_map.mp hx
    obtain ⟨b, hb, rfl⟩ := List.mem_map.mp hy
    have ha := h a ha; have hb := h b hb
    rcases List.mem_append.mp ha with ha | ha <;> rcases List.mem_append.mp hb with hb | hb
    · obtain ⟨w, p, rfl, _, _⟩ := mem_own.mp ha; obtain ⟨w, p, rfl, _, _⟩ := mem_own.mp hb; simp [encS, alikeD, alikeAllD]
    · obtain ⟨w, p, rfl, _, _⟩ := mem_own.mp ha; obtain ⟨w, p, rfl, _, _⟩ := mem_sees.mp hb; simp [encS, alikeD, alikeAllD]
    · obtain ⟨w, p, rfl, _, _⟩ := mem_sees.mp ha; obtain ⟨w, p, rfl, _, _⟩ := mem_own.mp hb; simp [encS, alikeD, alikeAllD]
    · obtain ⟨w, p, rfl, _, _⟩ := mem_sees.mp ha; obtain ⟨w, p, rfl, _, _⟩ := mem_sees.mp hb; simp [encS, alikeD, alikeAllD]
  have h2 : ∀ x ∈ xs.map encS, shp 20 x = true := fun x hx => by
    obtain ⟨a, _, rfl⟩ := List.mem_map.mp hx
    exact shp_say 19 a
  have h3 : ∀ x ∈ xs.map encS, tupNE x = true := fun x hx => by
    obtain ⟨a, _, rfl⟩ := List.mem_map.mp hx
    cases a <;> rfl
  simp only [srtOk, Bool.and_eq_true, Bool.or_eq_true, List.all_eq_true]
  exact ⟨⟨h1, h2⟩, .inl h3⟩
/-- a comprehension with two fors, as far as it is to be reached -/
def lc2B (cl : Nat → List D → Res RV) (elt : E) (t1 : Nat) (src2 : E) (t2 : Nat) (cond : List E) (σw : ASt) (d : D) : Res (Option (List D)) :=
  (denE cl src2 (σw.set t1 (some (.d d)))).bind fun q2 => q2.frz.bind fun w2 => (walkD w2).bind fun items2 =>
        (collect (fun d2 => (denC cl cond ((σw.set t1 (some (.d d))).set t2 (some (.d d2)))).bind fun c => if c then (denE cl elt ((σw.set t1 (some (.d d))).set t2 (some (.d d2)))).bind fun r => r.frz.bind fun z => .ok (some z) else .ok none) items2).bind fun zs => .ok (some zs)
theorem e_lc2 (cl : Nat → List D → Res RV) (σ : ASt) {elt src1 : E} {t1 : Nat} {src2 : E} {t2 : Nat} {cond : List E} {own : List Nat} {r1 : RV} {items : List D} {zss : List (List D)} (h1 : denE cl src1 σ = .ok r1) (h2 : walkD r1.val = .ok items)
    (h3 : collect (lc2B cl elt t1 src2 t2 cond (dropA (wipeA σ own))) items = .ok zss) (h4 : zss.flatten.length ≤ LINE) : denE cl (.lc2 elt t1 src1 t2 src2 cond own) σ = .ok (.fl zss.flatten) := by
  simp only [denE, h1, h2, Res.bind_ok]
  have h3' : collect (fun d => (denE cl src2 ((dropA (wipeA σ own)).set t1 (some (.d d)))).bind fun q2 => q2.frz.bind fun w2 => (walkD w2).bind fun items2 =>
        (collect (fun d2 => (denC cl cond (((dropA (wipeA σ own)).set t1 (some (.d d))).set t2 (some (.d d2)))).bind fun c => if c then (denE cl elt (((dropA (wipeA σ own)).set t1 (some (.d d))).set t2 (some (.d d2)))).bind fun r => r.frz.bind fun z => .ok (some z) else .ok none) items2).bind fun zs => .ok (some zs)) items = .ok zss := h3
  rw [h3', Res.bind_ok, if_pos h4]
theorem r_sayings (k : Nat) : run tbl (k + 1) f_sayings_of_knowledge [] = .ok (.fl ((sortS know17).map encS)) := by
  refine run_sat rfl rfl ?_
  have e1 : denE (run tbl k) (.lc2 (.tup [.var 1, .var 2]) 1 (.gl 4 (.tuple (OWN.map wd))) 2 (.gl 3 (.tuple (PN.map wd))) [] [1, 2]) [none, none, none, none] = .ok (.fl ((ownAll OWN).map encS)) := by
    have h := e_lc2 (run tbl k) [none, none, none, none] (elt := .tup [.var 1, .var 2]) (src1 := .gl 4 (.tuple (OWN.map wd))) (t1 := 1) (src2 := .gl 3 (.tuple (PN.map wd))) (t2 := 2) (cond := []) (own := [1, 2]) (zss := OWN.map fun w => PN.map fun p => encS (.own w p)) (e_gl _ _ _ _) rfl ?_ (by decide)
    · rw [h]; simp [ownAll, List.flatMap, List.map_flatten, List.map_map]; rfl
    · rw [collect_all (fun w => PN.map fun p => encS (.own w p))]
      intro w _
      unfold lc2B
      rw [show dropA (wipeA [none, none, none, none] [1, 2]) = [none, none, none, none] from rfl, e_gl]
      simp only [Res.bind_ok, RV.frz_d, walkD_tuple]
      rw [collect_all (fun p => encS (.own w p))]
      · rfl
      · intro p _
        simp -implicitDefEqProofs [-List.length_flatMap, slotV, slotR, ownL, frzSlot, isTy, startA, notR, encS]
  have e2 : ∀ xs, denE (run tbl k) (.lc2 (.tup [.lit (.str W.sees.w), .var 2, .var 3]) 2 (.gl 3 (.tuple (PN.map wd))) 3 (.gl 3 (.tuple (PN.map wd))) [.cmp .ne (.var 3) (.var 2)] [2, 3]) [some (.fl xs), none, none, none] = .ok (.fl (seesAll.map encS)) := fun xs => by
    have h := e_lc2 (run tbl k) [some (.fl xs), none, none, none] (elt := .tup [.lit (.str W.sees.w), .var 2, .var 3]) (src1 := .gl 3 (.tuple (PN.map wd))) (t1 := 2) (src2 := .gl 3 (.tuple (PN.map wd))) (t2 := 3) (cond := [.cmp .ne (.var 3) (.var 2)]) (own := [2, 3]) (zss := PN.map fun p => (PN.filter fun q => !decide (q = p)).map fun q => encS (.sees p q)) (e_gl _ _ _ _) rfl ?_ (by decide)
    · rw [h]; simp [seesAll, List.flatMap, List.map_flatten, List.map_map]; rfl
    · rw [collect_all (fun p => (PN.filter fun q => !decide (q = p)).map fun q => encS (.sees p q))]
      intro p _
      unfold lc2B
      rw [show dropA (wipeA [some (.fl xs), none, none, none] [2, 3]) = [none, none, none, none] from rfl, e_gl]
      simp only [Res.bind_ok, RV.frz_d, walkD_tuple]
      rw [collect_fm (fun q => !decide (q = p)) (fun q => encS (.sees p q))]
      · rfl
      · intro q _
        simp -implicitDefEqProofs [-List.length_flatMap, slotV, slotR, ownL, frzSlot, isTy, startA, notR, encS]
  have hL : (ownAll OWN).length + seesAll.length ≤ LINE := by decide
  have hs : srtOk ((ownAll OWN).map encS ++ seesAll.map encS) = true := by rw [← List.map_append]; exact srt_say fun s hs => hs
  have hq : sortD ((ownAll OWN).map encS ++ seesAll.map encS) = (sortS know17).map encS := by rw [← List.map_append]; exact sort_say know17
  simp -implicitDefEqProofs [-List.length_flatMap, slotV, slotR, ownL, frzSlot, isTy, startA, notR, F_sayings_of_knowledge, e1, e2, hL, hs, hq]
def stillN (L : List Deal) : List Say := (sortS know17).filter fun s => decide ((toldBy L s).length = L.length)
theorem r_still {a b c : Int} {lot : List (List Int)} (k : Nat) (hC : Cell a b c lot) {talk : List Say} (ht : TalkOk (a + b + c) talk) : run tbl (k + 8) f_still [stg a b c, .tuple (rowsL lot), encT talk] = .ok (.fl ((stillN (afterN (dealsLot (a + b + c) b lot) talk)).map encS)) := by
  have q1 := fun k => r_deals_left k hC ht
  have hS : SFew (afterN (dealsLot (a + b + c) b lot) talk) := SFew.sub (cell_deals hC) (afterN_sub _ _)
  generalize afterN (dealsLot (a + b + c) b lot) talk = L at *
  refine run_sat rfl rfl ?_
  simp -implicitDefEqProofs [-List.length_flatMap, slotV, slotR, ownL, frzSlot, isTy, startA, notR, F_still, q1, r_sayings]
  rw [collect_fm (fun s => decide ((toldBy L s).length = L.length)) encS]
  · simp -implicitDefEqProofs [-List.length_flatMap, slotV, slotR, ownL, frzSlot, isTy, startA, notR, stillN]
  · intro s hs
    have hsay : SayOk (a + b + c) s := know_ok (mem_sortS.mp hs)
    have hcall := fun k => r_told_by k hS.fits hsay
    simp -implicitDefEqProofs [-List.length_flatMap, slotV, slotR, ownL, frzSlot, isTy, startA, notR, lcB, lcC, hcall]
    by_cases h : (toldBy L s).length = L.length
    · simp [h]
    · have : ¬ ((toldBy L s).length : Int) = L.length := by omega
      simp [h, this]
def WE : List W := [.blind, .card, .knows, .lacks]
def law18 : List Say := ownAll WE ++ seesAll
theorem law18_ok {n : Int} {s : Say} (h : s ∈ law18) : SayOk n s := by
  rcases List.mem_append.mp h with h | h
  · obtain ⟨w, p, rfl, hw, hp⟩ := mem_own.mp h
    refine ⟨?_, hp⟩
    simp [WE] at hw; rcases hw with rfl | rfl | rfl | rfl <;> decide
  · obtain ⟨p, q, rfl, hp, hq, hn⟩ := mem_sees.mp h; exact ⟨hp, hq, fun e => hn e.symm⟩
theorem ownAll_snoc (pre : List W) (w : W) : ownAll (pre ++ [w]) = ownAll pre ++ PN.map fun p => .own w p := by simp [ownAll]
def seesPre (pre : List W) : List Say := pre.flatMap fun p => (PN.filter fun q => !decide (q = p)).map fun q => .sees p q
theorem seesPre_snoc (pre : List W) (p : W) : seesPre (pre ++ [p]) = seesPre pre ++ (PN.filter fun q => !decide (q = p)).map fun q => .sees p q := by simp [seesPre]
theorem own_len (pre : List W) : (ownAll pre).length = pre.length * 3 := by
  induction pre with
  | nil => rfl
  | cons w pre ih => simp only [ownAll, List.flatMap_cons, List.length_append, List.length_cons, List.length_map] at ih ⊢; rw [ih]; simp [PN]; omega
theorem sees_len (pre : List W) : (seesPre pre).length ≤ pre.length * 3 := by
  induction pre with
  | nil => simp [seesPre]
  | cons w pre ih =>
    have h := List.length_filter_le (fun q => !decide (q = w)) PN
    rw [show PN.length = 3 from rfl] at h
    simp only [seesPre, List.flatMap_cons, List.length_append, List.length_cons, List.length_map] at ih ⊢
    omega
theorem r_eighteen (k : Nat) : run tbl (k + 1) f_law_eighteen [] = .ok (.d (.list (law18.map encS))) := by
  refine run_sat rfl rfl ?_
  simp -implicitDefEqProofs [-List.length_flatMap, slotV, slotR, ownL, frzSlot, isTy, startA, notR, F_law_eighteen]
  rw [show [PyData.str W.blind.w, .str W.card.w, .str W.knows.w, .str W.lacks.w] = WE.map wd from rfl, show [PyData.str W.anne.w, .str W.bill.w, .str W.cath.w] = PN.map wd from rfl]
  refine for_nx (fun pre σ => ∃ y z u, σ = [some (.d (.list (PN.map wd))), some (.d (.list ((ownAll pre).map encS))), y, z, u]) ⟨_, _, _, rfl⟩ ?_ ?_
  · rintro pre w post σ e ⟨y, z, u, rfl⟩
    have hl : (ownAll pre).length + PN.length ≤ LINE := by
      have h1 := congrArg List.length e
      rw [own_len]
      simp [WE] at h1; simp [PN, LINE]; omega
    simp -implicitDefEqProofs [-List.length_flatMap, slotV, slotR, ownL, frzSlot, isTy, startA, notR, forB]
    rw [collect_all (fun p => encS (.own w p))]
    · simp -implicitDefEqProofs [-List.length_flatMap, slotV, slotR, ownL, frzSlot, isTy, startA, notR, hl, ownAll_snoc]
    · intro p _
      simp -implicitDefEqProofs [-List.length_flatMap, slotV, slotR, ownL, frzSlot, isTy, startA, notR, lcB, lcC, encS]
  · rintro σ ⟨y, z, u, rfl⟩
    simp -implicitDefEqProofs [-List.length_flatMap, slotV, slotR, ownL, frzSlot, isTy, startA, notR]
    refine for_nx (fun pre σ => ∃ y z u, σ = [some (.d (.list (PN.map wd))), some (.d (.list ((ownAll WE ++ seesPre pre).map encS))), y, z, u]) ⟨y, z, u, by rw [show ownAll WE ++ seesPre [] = ownAll WE by simp [seesPre]]⟩ ?_ ?_
    · rintro pre p post σ e ⟨y, z, u, rfl⟩
      have hl : (ownAll WE).length + (seesPre pre).length + (PN.filter fun q => !decide (q = p)).length ≤ LINE := by
        have h1 := congrArg List.length e
        have h2 := sees_len pre
        have h3 := List.length_filter_le (fun q => !decide (q = p)) PN
        rw [own_len]
        simp [PN] at h1 h3; simp [WE, PN, LINE]; omega
      simp -implicitDefEqProofs [-List.length_flatMap, slotV, slotR, ownL, frzSlot, isTy, startA, notR, forB]
      rw [collect_fm (fun q => !decide (q = p)) (fun q => encS (.sees p q))]
      · simp -implicitDefEqProofs [-List.length_flatMap, slotV, slotR, ownL, frzSlot, isTy, startA, notR, hl, seesPre_snoc]
      · intro q _
        simp -implicitDefEqProofs [-List.length_flatMap, slotV, slotR, ownL, frzSlot, isTy, startA, notR, lcB, lcC, encS]
    · rintro σ ⟨y, z, u, rfl⟩
      simp -implicitDefEqProofs [-List.length_flatMap, slotV, slotR, ownL, frzSlot, isTy, startA, notR, law18, seesAll, seesPre]
theorem eq_nil0 : cmpD .eq (.list []) (.list []) = .ok true := eq_nil_dl []
theorem r_law_talk (k : Nat) (cell total most : Int) {S : List Deal} (hS : SFew S) (h0 : 0 < total) (h1 : 0 ≤ most) (h2 : most ≤ 50) : ∃ talk : List Say, run tbl (k + 6) f_law_talk [.int cell, dl S, .int total, .int most] = .ok (.d (encT talk)) ∧ (talk.length : Int) ≤ most ∧ ∀ s ∈ talk, SayOk total s := by
  have key := run_hid (k := k + 5) (f := f_law_talk) (ds := [.int cell, dl S, .int total, .int most]) (fd := F_law_talk) (fun x => ∃ talk : List Say, x = .d (encT talk) ∧ (talk.length : Int) ≤ most ∧ ∀ s ∈ talk, SayOk total s) rfl rfl ?_
  · obtain ⟨x, e, talk, rfl, h⟩ := key
    exact ⟨talk, e, h⟩
  obtain ⟨ns, e1, e2, e3⟩ := r_law_draws (k + 4) cell (most + 1) 2522520 (by omega) (by omega) (by omega) (by omega)
  have hm0 : 0 < most + 1 := by omega
  have h0' : getD (.list (ns.map PyData.int)) (.int 0) = .ok (.int (ns[0]'(by omega))) := getD_l _ _ _ (by decide) (by simp)
  generalize ns[0]'(by omega) = n0 at h0'
  obtain ⟨t, ht⟩ : ∃ t : Nat, (t : Int) = n0 % (most + 1) := ⟨(n0 % (most + 1)).toNat, by have := Int.emod_nonneg n0 (show most + 1 ≠ 0 by omega); omega⟩
  have ht2 : (t : Int) < most + 1 := by have := Int.emod_lt_of_pos n0 hm0; omega
  obtain ⟨N, hcut, hlen⟩ : ∃ N : List Int, cutL (ns.map PyData.int) (some 1) (some (1 + (t : Int))) = N.map .int ∧ N.length = t := by
    refine ⟨(ns.take (1 + t)).drop 1, ?_, by simp; omega⟩
    rw [show (1 : Int) + (t : Int) = ((1 + t : Nat) : Int) by omega, show (1 : Int) = ((1 : Nat) : Int) from rfl, cutL_mid _ _ _ (by simp; omega), ← List.map_take, ← List.map_drop]
  simp -implicitDefEqProofs [-List.length_flatMap, slotV, slotR, ownL, frzSlot, isTy, startA, notR, F_law_talk, e1, h0', hm0, ← ht, hcut]
  obtain ⟨I, hI⟩ : ∃ I : List Int → ASt → Prop, ∀ pre σ, I pre σ ↔ ∃ (talk : List Say) (S' : List Deal) (x y z : Option RV), σ = [some (.d (.int cell)), some (.d (dl S')), some (.d (.int total)), some (.d (.int most)), some (.d (.list (ns.map .int))), some (.fl (talk.map encS)), x, y, z] ∧ talk.length = pre.length ∧ (∀ s ∈ talk, SayOk total s) ∧ SFew S' := ⟨_, fun _ _ => Iff.rfl⟩
  refine for_nx I ((hI _ _).mpr ⟨[], S, _, _, _, rfl, rfl, by simp, hS⟩) ?_ ?_
  · intro pre x post σ e hIp
    obtain ⟨talk, S', y1, y2, y3, rfl, g1, g2, g3⟩ := (hI _ _).mp hIp
    obtain ⟨s, q1, q2⟩ := r_law_saying (k + 4) x total h0
    have q3 := fun k => r_law_after k g3.fits q2
    have q4 := fun k => r_law_opposite k q2
    have q5 := fun k => r_law_after k g3.fits (opp_ok q2)
    have d5 : divOk 546 := divOk_small (by omega) (by omega)
    have hL : talk.length < LINE := by
      have h3 := congrArg List.length e
      simp at h3; simp only [LINE]; omega
    by_cases hc : (decide (toldBy S' s = []) && decide (x / 546 % 5 > 0)) = true
    · have hc' : toldBy S' s = [] ∧ 0 < x / 546 % 5 := by simpa using hc
      simp -implicitDefEqProofs [-List.length_flatMap, slotV, slotR, ownL, frzSlot, isTy, startA, notR, forB, q1, q3, eq_nil_dl, eq_nil0, d5, hc'.1, hc'.2, q4, q5, hL]
      refine (hI _ _).mpr ⟨talk ++ [oppS s], toldBy S' (oppS s), some (.d (.int x)), some (.d (encS (oppS s))), some (.d (dl (toldBy S' (oppS s)))), by simp, by simp [g1], fun u hu => ?_, g3.sub (toldBy_sub _ _)⟩
      rcases List.mem_append.mp hu with hu | hu
      · exact g2 u hu
      · simp at hu; subst hu; exact opp_ok q2
    · have hc' : ¬ (toldBy S' s = [] ∧ 0 < x / 546 % 5) := by simpa using hc
      simp -implicitDefEqProofs [-List.length_flatMap, slotV, slotR, ownL, frzSlot, isTy, startA, notR, forB, q1, q3, eq_nil_dl, d5, hc', hL]
      refine (hI _ _).mpr ⟨talk ++ [s], toldBy S' s, some (.d (.int x)), some (.d (encS s)), some (.d (dl (toldBy S' s))), by simp, by simp [g1], fun u hu => ?_, g3.sub (toldBy_sub _ _)⟩
      rcases List.mem_append.mp hu with hu | hu
      · exact g2 u hu
      · simp at hu; subst hu; exact q2
  · intro σ hIp
    obtain ⟨talk, S', y1, y2, y3, rfl, g1, g2, g3⟩ := (hI _ _).mp hIp
    simp -implicitDefEqProofs [-List.length_flatMap, slotV, slotR, ownL, frzSlot, isTy, startA, notR]
    exact ⟨talk, rfl, by omega, g2⟩
end OH
end

section
set_option autoImplicit false
set_option linter.all false
set_option maxRecDepth 100000
namespace OH
open PySem (PyData)
theorem talk_app {n : Int} {talk : List Say} {m : Nat} (ht : talk.length ≤ m) (hs : ∀ s ∈ talk, SayOk n s) {more : List Say} (hm : m + more.length ≤ 6) (hs' : ∀ s ∈ more, SayOk n s) : TalkOk n (talk ++ more) := by
  refine ⟨by simp; omega, fun s h => ?_⟩
  rcases List.mem_append.mp h with h | h
  · exact hs s h
  · exact hs' s h
theorem after_app (S : List Deal) (t u : List Say) : afterN S (t ++ u) = afterN (afterN S t) u := by simp [afterN]
def Say.word : Say → W
  | .own w _ => w
  | .sees _ _ => .sees
  | .card w _ _ => w
theorem getD_say0 (s : Say) : getD (encS s) (.int 0) = .ok (.str s.word.w) := by cases s <;> exact getD_0 _ _
theorem r_right83 {a b c : Int} {lot : List (List Int)} (k : Nat) (hC : Cell a b c lot) {talk : List Say} (ht : talk.length ≤ 4) (hs : ∀ s ∈ talk, SayOk (a + b + c) s) {s : Say} (h : SayOk (a + b + c) s) :
    run tbl (k + 9) f_law_right_k83 [stg a b c, .tuple (rowsL lot), encT talk, dl (afterN (dealsLot (a + b + c) b lot) talk), encS s] = .ok (.d (.bool true)) := by
  have t1 : TalkOk (a + b + c) (talk ++ [s]) := talk_app ht hs (by simp) (by simpa using h)
  have t2 : TalkOk (a + b + c) (talk ++ [s, s]) := talk_app ht hs (by simp) (by simp [h])
  have t3 : TalkOk (a + b + c) (talk ++ [oppS s]) := talk_app ht hs (by simp) (by simpa using opp_ok h)
  have q1 := fun k => r_deals_left k hC t1
  have q2 := fun k => r_deals_left k hC t2
  have q3 := fun k => r_deals_left k hC t3
  have q4 := fun k => r_still k hC t1
  have q5 := fun k => r_law_opposite k h
  have hS : SFew (dealsLot (a + b + c) b lot) := cell_deals hC
  have hasc : AscDl (dealsLot (a + b + c) b lot) := asc_deals hC.lok.asc
  generalize dealsLot (a + b + c) b lot = S at *
  have a1 : afterN S (talk ++ [s]) = toldBy (afterN S talk) s := by rw [after_app]; rfl
  have a2 : afterN S (talk ++ [s, s]) = toldBy (afterN S talk) s := by
    rw [after_app]; show toldBy (toldBy (afterN S talk) s) s = _; rw [told_twice]
  have a3 : afterN S (talk ++ [oppS s]) = toldBy (afterN S talk) (oppS s) := by rw [after_app]; rfl
  rw [a1] at q1 q4
  rw [a2] at q2
  rw [a3] at q3
  have hLs : (afterN S talk).Sublist S := afterN_sub _ _
  have hL : SFew (afterN S talk) := hS.sub hLs
  have hLa : AscDl (afterN S talk) := List.Pairwise.sublist hLs hasc
  generalize afterN S talk = L at *
  simp only [encT, List.map_append, List.map_cons, List.map_nil] at q1 q2 q3 q4
  have l1 : talk.length + 1 ≤ LINE := by simp only [LINE]; omega
  have l2 : talk.length + 2 ≤ LINE := by simp only [LINE]; omega
  have hst : (∀ w p c, s ≠ .card w p c) → s ∈ stillN (toldBy L s) := fun hc => by
    unfold stillN
    rw [List.mem_filter, mem_sortS]
    exact ⟨know_mem h hc, by rw [told_twice]; simp⟩
  refine run_sat rfl rfl ?_
  have hrest : ∀ (hns : ∀ p q, s ≠ .sees p q), (toldBy L s).length + (toldBy L (oppS s)).length ≤ LINE ∧ srtOk ((toldBy L s).map encD ++ (toldBy L (oppS s)).map encD) = true ∧ sortD ((toldBy L s).map encD ++ (toldBy L (oppS s)).map encD) = L.map encD := fun hns => by
    obtain ⟨P, p1, p2⟩ := told_opp h hns L
    refine ⟨?_, by rw [← List.map_append]; exact srt_dl _, ?_⟩
    · have h1 := (toldBy_sub L s).length_le
      have h2 := (toldBy_sub L (oppS s)).length_le
      have := hL.1
      simp only [LINE]; omega
    · rw [← List.map_append, sort_dl, p1, p2, sortDl_perm (split_filter P L) hLa]
  by_cases hsees : ∃ p q, s = .sees p q
  · have hw : s.word = .sees := by obtain ⟨p, q, rfl⟩ := hsees; rfl
    have hin := hst (by obtain ⟨p, q, rfl⟩ := hsees; intro w p c e; cases e)
    simp -implicitDefEqProofs [-List.length_flatMap, slotV, slotR, ownL, frzSlot, isTy, startA, notR, F_law_right_k83, l1, l2, q1, q2, r_are_deals, ne_dl, getD_say0, q4, in_says, hin, hw]
    refine for_nx (fun pre σ => ∃ x7 x8, σ = [some (.d (stg a b c)), some (.d (.tuple (rowsL lot))), some (.d (encT talk)), some (.d (dl L)), some (.d (encS s)), some (.d (dl (toldBy L s))), some (.fd (encK encD .bool (setK pre))), x7, x8]) ⟨_, _, rfl⟩ ?_ ?_
    · rintro pre d post σ e ⟨x7, x8, rfl⟩
      have hl : (setK pre).length < LINE := by
        have h1 := setK_len pre
        have h2 := hL.1
        rw [e] at h2; simp at h2; simp only [LINE]; omega
      have hp := putD_enc (g := PyData.bool) eqv_deal key_deal d true (setK pre) hl
      simp -implicitDefEqProofs [-List.length_flatMap, slotV, slotR, ownL, frzSlot, isTy, startA, notR, forB, hp, setK_snoc]
    · rintro σ ⟨x7, x8, rfl⟩
      simp -implicitDefEqProofs [-List.length_flatMap, slotV, slotR, ownL, frzSlot, isTy, startA, notR]
      rw [collect_fm (fun d => !decide (d ∈ L)) encD]
      · simp -implicitDefEqProofs [-List.length_flatMap, slotV, slotR, ownL, frzSlot, isTy, startA, notR, eq_nil_dl]
        exact fun d hd => (toldBy_sub L s).subset hd
      · intro d _
        have hi := inD_enc (g := PyData.bool) eqv_deal key_deal d (setK L)
        simp -implicitDefEqProofs [-List.length_flatMap, slotV, slotR, ownL, frzSlot, isTy, startA, notR, lcB, lcC, hi, setK_mem]
  · have hns : ∀ p q, s ≠ .sees p q := fun p q e => hsees ⟨p, q, e⟩
    obtain ⟨r1, r2, r3⟩ := hrest hns
    have hw : s.word ≠ .sees := fun e => by
      cases s with
      | own w p => exact (own_cw h.1).2.1 e
      | sees p q => exact hns p q rfl
      | card w p c => have := h.1; have e : w = .sees := e; subst e; revert this; decide
    have hand : (!decide (s.word = .has) && (!decide (s.word = .misses) && !decide (s ∈ stillN (toldBy L s)))) = false := by
      cases s with
      | own w p =>
        have := hst (by intro w p c e; cases e)
        simp [this]
      | sees p q => exact absurd rfl (hns p q)
      | card w p c =>
        have := h.1
        simp [CW] at this
        rcases this with rfl | rfl <;> simp [Say.word]
    have hand' : s.word = .has ∨ s.word = .misses ∨ s ∈ stillN (toldBy L s) := by
      by_cases g1 : s.word = .has
      · exact .inl g1
      · by_cases g2 : s.word = .misses
        · exact .inr (.inl g2)
        · simp [g1, g2] at hand; exact .inr (.inr hand)
    have hif : ¬ (¬ s.word = .has ∧ ¬ s.word = .misses ∧ ¬ s ∈ stillN (toldBy L s)) := fun ⟨g1, g2, g3⟩ => by
      rcases hand' with g | g | g
      · exact g1 g
      · exact g2 g
      · exact g3 g
    simp -implicitDefEqProofs [-List.length_flatMap, slotV, slotR, ownL, frzSlot, isTy, startA, notR, F_law_right_k83, l1, l2, q1, q2, r_are_deals, ne_dl, getD_say0, q4, in_says, hw, hif, q5, q3, r1, r2, r3, eq_dl]
theorem cutL_map {α β : Type} (f : α → β) (xs : List α) (lo hi : Option Int) : cutL (xs.map f) lo hi = (cutL xs lo hi).map f := by
  simp only [cutL, List.length_map, List.map_drop, List.map_take]
theorem cutL_len {α : Type} (xs : List α) (lo hi : Option Int) : (cutL xs lo hi).length ≤ xs.length := by
  simp only [cutL, List.length_drop, List.length_take]; omega
theorem getD_two {i : Nat} (h : i < 2) : ∃ w, w ∈ CW ∧ getD (.list [.str W.has.w, .str W.misses.w]) (.int i) = .ok (.str w.w) := by
  have : i = 0 ∨ i = 1 := by omega
  rcases this with rfl | rfl
  · exact ⟨.has, by decide, rfl⟩
  · exact ⟨.misses, by decide, rfl⟩
theorem law18_len : law18.length ≤ 30 := by decide
theorem pure_k83 (k : Nat) (ns : List Int) (hns : ns.length ≤ 63) : run tbl (k + 60) f_law_k83 [.list (ns.map .int)] = .ok (.d (.bool true)) := by
  refine run_sat rfl rfl ?_
  have hc0 : ∀ k, run tbl (k + 1) f_law_cell_at [.list (ns.map .int), .int 0] = .ok (.d (.int (ns[0]?.getD 0))) := fun k => r_cell_at k ns 0
  have hc1 : ∀ k, run tbl (k + 1) f_law_cell_at [.list (ns.map .int), .int 1] = .ok (.d (.int (ns[1]?.getD 0))) := fun k => r_cell_at k ns 1
  generalize ns[0]?.getD 0 = z0 at hc0
  generalize ns[1]?.getD 0 = z1 at hc1
  obtain ⟨nn, g1, g2, g3⟩ := r_law_draws (k + 58) z0 1 1440 (by omega) (by omega) (by omega) (by omega)
  have d0 := getD_li (ns := nn) (i := 0) (by omega)
  simp only [Int.natCast_zero] at d0
  generalize nn.getD 0 0 = n0 at d0
  obtain ⟨a, b, c, s1, s2⟩ := r_law_setting (k + 58) n0
  obtain ⟨lot, l1, l2, l3⟩ := r_law_lot (k + 57) s2.ok z1 6 (by omega) (by omega)
  have hC := drawn_cell s2 l2 (by omega)
  have q1 := fun k => r_law_deals k hC.sok hC.lok.most (b := b)
  have hS : SFew (dealsLot (a + b + c) b lot) := cell_deals hC
  have hlen : (cutL ns (some 2) (some 4)).length + 1 ≤ LINE := by
    have := cutL_len ns (some 2) (some 4)
    simp only [LINE]; omega
  obtain ⟨hsa, hsb, hsc, hsn⟩ := id hC.sok
  have hpos : 0 < a + b + c := by omega
  simp -implicitDefEqProofs [-List.length_flatMap, slotV, slotR, ownL, frzSlot, isTy, startA, notR, F_law_k83, hc0, hc1, g1, d0, s1, l1, q1, cutL_map, hlen]
  rw [show List.map PyData.int (cutL ns (some 2) (some 4)) ++ [PyData.int (z1 + 8)] = (cutL ns (some 2) (some 4) ++ [z1 + 8]).map .int by simp]
  obtain ⟨I, hI⟩ : ∃ I : List Int → ASt → Prop, ∀ pre σ, I pre σ ↔ ∃ x4 x5 x6 x7 x8 x9 x10, σ = [some (.d (.list (ns.map .int))), some (.d (stg a b c)), some (.d (.tuple (rowsL lot))), some (.d (dl (dealsLot (a + b + c) b lot))), x4, x5, x6, x7, x8, x9, x10] := ⟨_, fun _ _ => Iff.rfl⟩
  refine for_nx I ((hI _ _).mpr ⟨_, _, _, _, _, _, _, rfl⟩) ?_ ?_
  · intro pre cell post σ e hIp
    obtain ⟨x4, x5, x6, x7, x8, x9, x10, rfl⟩ := (hI _ _).mp hIp
    obtain ⟨talk, t1, t2, t3⟩ := r_law_talk (k + 53) cell (a + b + c) 4 hS hpos (by omega) (by omega)
    obtain ⟨mm, m1, m2, m3⟩ := r_law_draws (k + 58) (cell / 3 + cell) 1 720720 (by omega) (by omega) (by omega) (by omega)
    have e0 := getD_li (ns := mm) (i := 0) (by omega)
    simp only [Int.natCast_zero] at e0
    generalize mm.getD 0 0 = m0 at e0
    have v3 : divOk 3 := divOk_small (by omega) (by omega)
    have v39 : divOk 39 := divOk_small (by omega) (by omega)
    obtain ⟨i, hi⟩ : ∃ i : Nat, (i : Int) = m0 / 39 % 2 := ⟨(m0 / 39 % 2).toNat, by omega⟩
    obtain ⟨j, hj⟩ : ∃ j : Nat, (j : Int) = m0 % 3 := ⟨(m0 % 3).toNat, by omega⟩
    obtain ⟨w, hw, hgw⟩ := getD_two (i := i) (by omega)
    have hgp := getD_pn (i := j) (by omega)
    have hpm := pnAt_mem (i := j) (by omega)
    have htalk : TalkOk (a + b + c) talk := ⟨by omega, t3⟩
    have q2 := fun k => r_deals_left k hC htalk
    have hcard : SayOk (a + b + c) (.card w (pnAt j) (m0 / 3 % (a + b + c))) := ⟨hw, hpm, Int.emod_nonneg _ (by omega), Int.emod_lt_of_pos _ hpos⟩
    have q3 := fun k s hs => r_right83 k hC (talk := talk) (by omega) t3 (s := s) hs
    have hl18 : law18.length + 1 ≤ LINE := by have := law18_len; simp only [LINE]; omega
    generalize dealsLot (a + b + c) b lot = S at *
    simp -implicitDefEqProofs [-List.length_flatMap, slotV, slotR, ownL, frzSlot, isTy, startA, notR, forB, t1, m1, e0, v3, v39, ← hi, ← hj, hgw, hgp, hpos, q2, r_are_deals, r_eighteen, hl18]
    rw [show List.map encS law18 ++ [PyData.tuple [PyData.str w.w, PyData.str (pnAt j).w, PyData.int (m0 / 3 % (a + b + c))]] = (law18 ++ [Say.card w (pnAt j) (m0 / 3 % (a + b + c))]).map encS by simp [encS]]
    have hall : ∀ s ∈ law18 ++ [Say.card w (pnAt j) (m0 / 3 % (a + b + c))], SayOk (a + b + c) s := fun s hs => by
      rcases List.mem_append.mp hs with hs | hs
      · exact law18_ok hs
      · simp at hs; subst hs; exact hcard
    obtain ⟨J, hJ⟩ : ∃ J : List Say → ASt → Prop, ∀ pre σ, J pre σ ↔ ∃ x10, σ = [some (.d (.list (ns.map .int))), some (.d (stg a b c)), some (.d (.tuple (rowsL lot))), some (.d (dl S)), some (.d (.int cell)), some (.d (encT talk)), some (.d (.int m0)), some (.d (.str w.w)), some (.d (.tuple [PyData.str w.w, PyData.str (pnAt j).w, PyData.int (m0 / 3 % (a + b + c))])), some (.d (dl (afterN S talk))), x10] := ⟨_, fun _ _ => Iff.rfl⟩
    refine for_nx J ((hJ _ _).mpr ⟨_, rfl⟩) ?_ ?_
    · intro pr s po σ e2 hJp
      obtain ⟨x10, rfl⟩ := (hJ _ _).mp hJp
      have q4 := fun k => q3 k s (hall s (by rw [e2]; simp))
      simp -implicitDefEqProofs [-List.length_flatMap, slotV, slotR, ownL, frzSlot, isTy, startA, notR, forB, q4]
      exact (hJ _ _).mpr ⟨_, rfl⟩
    · intro σ hJp
      obtain ⟨x10, rfl⟩ := (hJ _ _).mp hJp
      simp -implicitDefEqProofs [-List.length_flatMap, slotV, slotR, ownL, frzSlot, isTy, startA, notR]
      exact (hI _ _).mpr ⟨_, _, _, _, _, _, _, rfl⟩
  · intro σ hIp
    obtain ⟨x4, x5, x6, x7, x8, x9, x10, rfl⟩ := (hI _ _).mp hIp
    simp -implicitDefEqProofs [-List.length_flatMap, slotV, slotR, ownL, frzSlot, isTy, startA, notR]
end OH
end

section
theorem OHk83.pure (ns : List Int) (_h1 : ns.length ≤ 63) (_h2 : ∀ z ∈ ns, PySem.Builtin.Int.intBits z ≤ 1048576) : OH.run OH.tbl 60 OH.f_law_k83 [.list (ns.map .int)] = .ok (.d (.bool true)) := OH.pure_k83 0 ns _h1

set_option maxHeartbeats 1000000
namespace OHk83
open PySem L2 OH PySem.Spec PyProof.Rows
def top (i : Nat) : Stmt := PySem.Challenge.pw_openhands_k83_whole_said_twice.main.body.getD i (.Pass ⟨0, 0, 0, 0⟩)
def d0 : DefE := ⟨0, "is_integer", top 10, ["thing"], ["thing"]⟩
def d1 : DefE := ⟨1, "is_setting", top 11, ["thing"], ["thing", "many"]⟩
def d2 : DefE := ⟨2, "check_setting", top 12, ["setting"], ["setting"]⟩
def d3 : DefE := ⟨3, "is_row", top 13, ["thing", "total"], ["thing", "total", "last", "card"]⟩
def d4 : DefE := ⟨4, "is_hand", top 14, ["setting", "thing"], ["setting", "thing"]⟩
def d5 : DefE := ⟨5, "is_lot", top 15, ["setting", "thing"], ["setting", "thing", "hand", "first", "second"]⟩
def d6 : DefE := ⟨6, "check_lot", top 16, ["setting", "lot"], ["setting", "lot"]⟩
def d7 : DefE := ⟨7, "rows_out_of", top 17, ["cards", "size"], ["cards", "size", "rows", "turn", "longer", "row", "card"]⟩
def d8 : DefE := ⟨8, "others", top 18, ["setting", "cards"], ["setting", "cards", "card"]⟩
def d9 : DefE := ⟨9, "count_rows", top 19, ["many", "size"], ["many", "size", "count", "step"]⟩
def d10 : DefE := ⟨10, "deals_of_hand", top 20, ["setting", "hand"], ["setting", "hand", "rest", "found", "bill", "cath", "card"]⟩
def d11 : DefE := ⟨11, "place_of", top 23, ["person"], ["person"]⟩
def d12 : DefE := ⟨12, "few_deals", top 24, ["setting", "lot"], ["setting", "lot"]⟩
def d13 : DefE := ⟨13, "deals_of_lot", top 25, ["setting", "lot"], ["setting", "lot", "deals", "hand"]⟩
def d14 : DefE := ⟨14, "known_to", top 26, ["held", "person"], ["held", "person", "place", "known", "at", "row", "card", "deal"]⟩
def d15 : DefE := ⟨15, "is_person", top 31, ["thing"], ["thing"]⟩
def d16 : DefE := ⟨42, "is_saying", top 32, ["setting", "thing"], ["setting", "thing", "word"]⟩
def d17 : DefE := ⟨43, "check_talk", top 33, ["setting", "talk"], ["setting", "talk", "saying"]⟩
def d18 : DefE := ⟨18, "held_groups", top 34, ["deals", "person"], ["deals", "person", "place", "groups", "deal"]⟩
def d19 : DefE := ⟨19, "sure_rows", top 35, ["deals", "person"], ["deals", "person", "row", "held"]⟩
def d20 : DefE := ⟨20, "is_so", top 36, ["held", "word", "person"], ["held", "word", "person"]⟩
def d21 : DefE := ⟨21, "told_by", top 37, ["deals", "saying"], ["deals", "saying", "word", "person", "place", "deal", "groups", "at", "sure", "so", "row", "held"]⟩
def d22 : DefE := ⟨44, "after_talk", top 38, ["deals", "talk"], ["deals", "talk", "saying"]⟩
def d23 : DefE := ⟨45, "deals_left", top 39, ["setting", "lot", "talk"], ["setting", "lot", "talk"]⟩
def d24 : DefE := ⟨87, "sayings_of_knowledge", top 40, [], ["sayings", "word", "person", "other"]⟩
def d25 : DefE := ⟨88, "still", top 41, ["setting", "lot", "talk"], ["setting", "lot", "talk", "left", "saying"]⟩
def d26 : DefE := ⟨23, "_law_cell_at", top 43, ["script", "k"], ["script", "k"]⟩
def d27 : DefE := ⟨24, "_law_draws", top 44, ["cell", "many", "base"], ["cell", "many", "base", "rest", "row", "k", "stir"]⟩
def d28 : DefE := ⟨25, "_law_setting", top 45, ["number"], ["number", "kind", "a", "b", "c"]⟩
def d29 : DefE := ⟨26, "_law_hand", top 46, ["number", "setting"], ["number", "setting", "cards", "hand", "k", "many"]⟩
def d30 : DefE := ⟨27, "_law_lot", top 47, ["cell", "setting", "most"], ["cell", "setting", "most", "numbers", "hands", "number", "hand"]⟩
def d31 : DefE := ⟨28, "_law_rows", top 48, ["cards", "size"], ["cards", "size", "rows", "card", "row"]⟩
def d32 : DefE := ⟨30, "_law_deals", top 49, ["setting", "lot"], ["setting", "lot", "deals", "hand", "rest", "card", "bill"]⟩
def d33 : DefE := ⟨31, "_law_whole", top 50, ["found"], ["found"]⟩
def d34 : DefE := ⟨48, "_law_is_row", top 51, ["found"], ["found", "card"]⟩
def d35 : DefE := ⟨49, "_law_is_deal", top 52, ["found"], ["found", "row"]⟩
def d36 : DefE := ⟨50, "_law_are_deals", top 53, ["found"], ["found", "one"]⟩
def d37 : DefE := ⟨32, "_law_at", top 54, ["person"], ["person"]⟩
def d38 : DefE := ⟨33, "_law_groups", top 55, ["deals", "person"], ["deals", "person", "at", "groups", "one", "row"]⟩
def d39 : DefE := ⟨34, "_law_known", top 56, ["held", "person"], ["held", "person", "at", "cards", "place", "card", "one"]⟩
def d40 : DefE := ⟨35, "_law_holds", top 57, ["held", "word", "person"], ["held", "word", "person"]⟩
def d41 : DefE := ⟨36, "_law_after", top 58, ["deals", "saying"], ["deals", "saying", "word", "person", "at", "one", "groups", "others_v", "there", "good", "row"]⟩
def d42 : DefE := ⟨77, "_law_saying", top 59, ["number", "total"], ["number", "total", "people", "person", "other", "word"]⟩
def d43 : DefE := ⟨78, "_law_opposite", top 60, ["saying"], ["saying", "turned"]⟩
def d44 : DefE := ⟨79, "_law_talk", top 61, ["cell", "deals", "total", "most"], ["cell", "deals", "total", "most", "numbers", "talk", "number", "saying", "fewer"]⟩
def d45 : DefE := ⟨89, "_law_eighteen", top 62, [], ["people", "sayings", "word", "person", "other"]⟩
def d46 : DefE := ⟨90, "_law_right", top 63, ["setting", "lot", "talk", "rest", "saying"], ["setting", "lot", "talk", "rest", "saying", "once", "known", "one", "other"]⟩
def d47 : DefE := ⟨91, "law", top 64, ["script"], ["script", "setting", "lot", "deals", "cell", "talk", "number", "word", "card", "rest", "saying"]⟩
def L : List DefE := [d0, d1, d2, d3, d4, d5, d6, d7, d8, d9, d10, d11, d12, d13, d14, d15, d16, d17, d18, d19, d20, d21, d22, d23, d24, d25, d26, d27, d28, d29, d30, d31, d32, d33, d34, d35, d36, d37, d38, d39, d40, d41, d42, d43, d44, d45, d46, d47]
def gl : Nat → Option (OH.Str × D)
  | 5 => some ("CARD_WORDS", c_CARD_WORDS)
  | 0 => some ("MOST_CARDS", c_MOST_CARDS)
  | 2 => some ("MOST_DEALS", c_MOST_DEALS)
  | 1 => some ("MOST_HANDS", c_MOST_HANDS)
  | 6 => some ("MOST_SAYINGS", c_MOST_SAYINGS)
  | 4 => some ("OWN_WORDS", c_OWN_WORDS)
  | 3 => some ("PEOPLE", c_PEOPLE)
  | _ => none
theorem chk : L.all (chkD gl (fnL L) tbl) = true := by decide +kernel
set_option maxHeartbeats 0 in
theorem F_mk {K : PySem.W.Frag} {h : Heap} {mg : OH.Str → Option Value} (X : K.In h) (G : h.Ns mainGlobals mg)
  {f0 : Addr} {od0 an0 : Option Addr} {sl0 : Array (Option Value)} {oc0 kV0 dc0 pm0 cd0 ct0 : Value}
  {f1 : Addr} {od1 an1 : Option Addr} {sl1 : Array (Option Value)} {oc1 kV1 dc1 pm1 cd1 ct1 : Value}
  {f2 : Addr} {od2 an2 : Option Addr} {sl2 : Array (Option Value)} {oc2 kV2 dc2 pm2 cd2 ct2 : Value}
  {f3 : Addr} {od3 an3 : Option Addr} {sl3 : Array (Option Value)} {oc3 kV3 dc3 pm3 cd3 ct3 : Value}
  {f4 : Addr} {od4 an4 : Option Addr} {sl4 : Array (Option Value)} {oc4 kV4 dc4 pm4 cd4 ct4 : Value}
  {f5 : Addr} {od5 an5 : Option Addr} {sl5 : Array (Option Value)} {oc5 kV5 dc5 pm5 cd5 ct5 : Value}
  {f6 : Addr} {od6 an6 : Option Addr} {sl6 : Array (Option Value)} {oc6 kV6 dc6 pm6 cd6 ct6 : Value}
  {f7 : Addr} {od7 an7 : Option Addr} {sl7 : Array (Option Value)} {oc7 kV7 dc7 pm7 cd7 ct7 : Value}
  {f8 : Addr} {od8 an8 : Option Addr} {sl8 : Array (Option Value)} {oc8 kV8 dc8 pm8 cd8 ct8 : Value}
  {f9 : Addr} {od9 an9 : Option Addr} {sl9 : Array (Option Value)} {oc9 kV9 dc9 pm9 cd9 ct9 : Value}
  {f10 : Addr} {od10 an10 : Option Addr} {sl10 : Array (Option Value)} {oc10 kV10 dc10 pm10 cd10 ct10 : Value}
  {f11 : Addr} {od11 an11 : Option Addr} {sl11 : Array (Option Value)} {oc11 kV11 dc11 pm11 cd11 ct11 : Value}
  {f12 : Addr} {od12 an12 : Option Addr} {sl12 : Array (Option Value)} {oc12 kV12 dc12 pm12 cd12 ct12 : Value}
  {f13 : Addr} {od13 an13 : Option Addr} {sl13 : Array (Option Value)} {oc13 kV13 dc13 pm13 cd13 ct13 : Value}
  {f14 : Addr} {od14 an14 : Option Addr} {sl14 : Array (Option Value)} {oc14 kV14 dc14 pm14 cd14 ct14 : Value}
  {f15 : Addr} {od15 an15 : Option Addr} {sl15 : Array (Option Value)} {oc15 kV15 dc15 pm15 cd15 ct15 : Value}
  {f16 : Addr} {od16 an16 : Option Addr} {sl16 : Array (Option Value)} {oc16 kV16 dc16 pm16 cd16 ct16 : Value}
  {f17 : Addr} {od17 an17 : Option Addr} {sl17 : Array (Option Value)} {oc17 kV17 dc17 pm17 cd17 ct17 : Value}
  {f18 : Addr} {od18 an18 : Option Addr} {sl18 : Array (Option Value)} {oc18 kV18 dc18 pm18 cd18 ct18 : Value}
  {f19 : Addr} {od19 an19 : Option Addr} {sl19 : Array (Option Value)} {oc19 kV19 dc19 pm19 cd19 ct19 : Value}
  {f20 : Addr} {od20 an20 : Option Addr} {sl20 : Array (Option Value)} {oc20 kV20 dc20 pm20 cd20 ct20 : Value}
  {f21 : Addr} {od21 an21 : Option Addr} {sl21 : Array (Option Value)} {oc21 kV21 dc21 pm21 cd21 ct21 : Value}
  {f22 : Addr} {od22 an22 : Option Addr} {sl22 : Array (Option Value)} {oc22 kV22 dc22 pm22 cd22 ct22 : Value}
  {f23 : Addr} {od23 an23 : Option Addr} {sl23 : Array (Option Value)} {oc23 kV23 dc23 pm23 cd23 ct23 : Value}
  {f24 : Addr} {od24 an24 : Option Addr} {sl24 : Array (Option Value)} {oc24 kV24 dc24 pm24 cd24 ct24 : Value}
  {f25 : Addr} {od25 an25 : Option Addr} {sl25 : Array (Option Value)} {oc25 kV25 dc25 pm25 cd25 ct25 : Value}
  {f26 : Addr} {od26 an26 : Option Addr} {sl26 : Array (Option Value)} {oc26 kV26 dc26 pm26 cd26 ct26 : Value}
  {f27 : Addr} {od27 an27 : Option Addr} {sl27 : Array (Option Value)} {oc27 kV27 dc27 pm27 cd27 ct27 : Value}
  {f28 : Addr} {od28 an28 : Option Addr} {sl28 : Array (Option Value)} {oc28 kV28 dc28 pm28 cd28 ct28 : Value}
  {f29 : Addr} {od29 an29 : Option Addr} {sl29 : Array (Option Value)} {oc29 kV29 dc29 pm29 cd29 ct29 : Value}
  {f30 : Addr} {od30 an30 : Option Addr} {sl30 : Array (Option Value)} {oc30 kV30 dc30 pm30 cd30 ct30 : Value}
  {f31 : Addr} {od31 an31 : Option Addr} {sl31 : Array (Option Value)} {oc31 kV31 dc31 pm31 cd31 ct31 : Value}
  {f32 : Addr} {od32 an32 : Option Addr} {sl32 : Array (Option Value)} {oc32 kV32 dc32 pm32 cd32 ct32 : Value}
  {f33 : Addr} {od33 an33 : Option Addr} {sl33 : Array (Option Value)} {oc33 kV33 dc33 pm33 cd33 ct33 : Value}
  {f34 : Addr} {od34 an34 : Option Addr} {sl34 : Array (Option Value)} {oc34 kV34 dc34 pm34 cd34 ct34 : Value}
  {f35 : Addr} {od35 an35 : Option Addr} {sl35 : Array (Option Value)} {oc35 kV35 dc35 pm35 cd35 ct35 : Value}
  {f36 : Addr} {od36 an36 : Option Addr} {sl36 : Array (Option Value)} {oc36 kV36 dc36 pm36 cd36 ct36 : Value}
  {f37 : Addr} {od37 an37 : Option Addr} {sl37 : Array (Option Value)} {oc37 kV37 dc37 pm37 cd37 ct37 : Value}
  {f38 : Addr} {od38 an38 : Option Addr} {sl38 : Array (Option Value)} {oc38 kV38 dc38 pm38 cd38 ct38 : Value}
  {f39 : Addr} {od39 an39 : Option Addr} {sl39 : Array (Option Value)} {oc39 kV39 dc39 pm39 cd39 ct39 : Value}
  {f40 : Addr} {od40 an40 : Option Addr} {sl40 : Array (Option Value)} {oc40 kV40 dc40 pm40 cd40 ct40 : Value}
  {f41 : Addr} {od41 an41 : Option Addr} {sl41 : Array (Option Value)} {oc41 kV41 dc41 pm41 cd41 ct41 : Value}
  {f42 : Addr} {od42 an42 : Option Addr} {sl42 : Array (Option Value)} {oc42 kV42 dc42 pm42 cd42 ct42 : Value}
  {f43 : Addr} {od43 an43 : Option Addr} {sl43 : Array (Option Value)} {oc43 kV43 dc43 pm43 cd43 ct43 : Value}
  {f44 : Addr} {od44 an44 : Option Addr} {sl44 : Array (Option Value)} {oc44 kV44 dc44 pm44 cd44 ct44 : Value}
  {f45 : Addr} {od45 an45 : Option Addr} {sl45 : Array (Option Value)} {oc45 kV45 dc45 pm45 cd45 ct45 : Value}
  {f46 : Addr} {od46 an46 : Option Addr} {sl46 : Array (Option Value)} {oc46 kV46 dc46 pm46 cd46 ct46 : Value}
  {f47 : Addr} {od47 an47 : Option Addr} {sl47 : Array (Option Value)} {oc47 kV47 dc47 pm47 cd47 ct47 : Value}
  (a0 : PySem.W.nsIn K mainGlobals d0.x = some (some (.ref f0))) (l0 : K.lookup f0 = some ⟨oc0, od0, .func (PySem.W.fnOf d0.x d0.x (C8.fnArgs d0.st) (C8.fnBody d0.st) (C8.fnScope d0.st) .none kV0 dc0 pm0 an0 cd0 ct0), sl0⟩) (c0 : PySem.W.codeIn K cd0 d0.x = true) (k0 : PySem.W.keepIn K (.ref f0) = true)
  (a1 : PySem.W.nsIn K mainGlobals d1.x = some (some (.ref f1))) (l1 : K.lookup f1 = some ⟨oc1, od1, .func (PySem.W.fnOf d1.x d1.x (C8.fnArgs d1.st) (C8.fnBody d1.st) (C8.fnScope d1.st) .none kV1 dc1 pm1 an1 cd1 ct1), sl1⟩) (c1 : PySem.W.codeIn K cd1 d1.x = true) (k1 : PySem.W.keepIn K (.ref f1) = true)
  (a2 : PySem.W.nsIn K mainGlobals d2.x = some (some (.ref f2))) (l2 : K.lookup f2 = some ⟨oc2, od2, .func (PySem.W.fnOf d2.x d2.x (C8.fnArgs d2.st) (C8.fnBody d2.st) (C8.fnScope d2.st) .none kV2 dc2 pm2 an2 cd2 ct2), sl2⟩) (c2 : PySem.W.codeIn K cd2 d2.x = true) (k2 : PySem.W.keepIn K (.ref f2) = true)
  (a3 : PySem.W.nsIn K mainGlobals d3.x = some (some (.ref f3))) (l3 : K.lookup f3 = some ⟨oc3, od3, .func (PySem.W.fnOf d3.x d3.x (C8.fnArgs d3.st) (C8.fnBody d3.st) (C8.fnScope d3.st) .none kV3 dc3 pm3 an3 cd3 ct3), sl3⟩) (c3 : PySem.W.codeIn K cd3 d3.x = true) (k3 : PySem.W.keepIn K (.ref f3) = true)
  (a4 : PySem.W.nsIn K mainGlobals d4.x = some (some (.ref f4))) (l4 : K.lookup f4 = some ⟨oc4, od4, .func (PySem.W.fnOf d4.x d4.x (C8.fnArgs d4.st) (C8.fnBody d4.st) (C8.fnScope d4.st) .none kV4 dc4 pm4 an4 cd4 ct4), sl4⟩) (c4 : PySem.W.codeIn K cd4 d4.x = true) (k4 : PySem.W.keepIn K (.ref f4) = true)
  (a5 : PySem.W.nsIn K mainGlobals d5.x = some (some (.ref f5))) (l5 : K.lookup f5 = some ⟨oc5, od5, .func (PySem.W.fnOf d5.x d5.x (C8.fnArgs d5.st) (C8.fnBody d5.st) (C8.fnScope d5.st) .none kV5 dc5 pm5 an5 cd5 ct5), sl5⟩) (c5 : PySem.W.codeIn K cd5 d5.x = true) (k5 : PySem.W.keepIn K (.ref f5) = true)
  (a6 : PySem.W.nsIn K mainGlobals d6.x = some (some (.ref f6))) (l6 : K.lookup f6 = some ⟨oc6, od6, .func (PySem.W.fnOf d6.x d6.x (C8.fnArgs d6.st) (C8.fnBody d6.st) (C8.fnScope d6.st) .none kV6 dc6 pm6 an6 cd6 ct6), sl6⟩) (c6 : PySem.W.codeIn K cd6 d6.x = true) (k6 : PySem.W.keepIn K (.ref f6) = true)
  (a7 : PySem.W.nsIn K mainGlobals d7.x = some (some (.ref f7))) (l7 : K.lookup f7 = some ⟨oc7, od7, .func (PySem.W.fnOf d7.x d7.x (C8.fnArgs d7.st) (C8.fnBody d7.st) (C8.fnScope d7.st) .none kV7 dc7 pm7 an7 cd7 ct7), sl7⟩) (c7 : PySem.W.codeIn K cd7 d7.x = true) (k7 : PySem.W.keepIn K (.ref f7) = true)
  (a8 : PySem.W.nsIn K mainGlobals d8.x = some (some (.ref f8))) (l8 : K.lookup f8 = some ⟨oc8, od8, .func (PySem.W.fnOf d8.x d8.x (C8.fnArgs d8.st) (C8.fnBody d8.st) (C8.fnScope d8.st) .none kV8 dc8 pm8 an8 cd8 ct8), sl8⟩) (c8 : PySem.W.codeIn K cd8 d8.x = true) (k8 : PySem.W.keepIn K (.ref f8) = true)
  (a9 : PySem.W.nsIn K mainGlobals d9.x = some (some (.ref f9))) (l9 : K.lookup f9 = some ⟨oc9, od9, .func (PySem.W.fnOf d9.x d9.x (C8.fnArgs d9.st) (C8.fnBody d9.st) (C8.fnScope d9.st) .none kV9 dc9 pm9 an9 cd9 ct9), sl9⟩) (c9 : PySem.W.codeIn K cd9 d9.x = true) (k9 : PySem.W.keepIn K (.ref f9) = true)
  (a10 : PySem.W.nsIn K mainGlobals d10.x = some (some (.ref f10))) (l10 : K.lookup f10 = some ⟨oc10, od10, .func (PySem.W.fnOf d10.x d10.x (C8.fnArgs d10.st) (C8.fnBody d10.st) (C8.fnScope d10.st) .none kV10 dc10 pm10 an10 cd10 ct10), sl10⟩) (c10 : PySem.W.codeIn K cd10 d10.x = true) (k10 : PySem.W.keepIn K (.ref f10) = true)
  (a11 : PySem.W.nsIn K mainGlobals d11.x = some (some (.ref f11))) (l11 : K.lookup f11 = some ⟨oc11, od11, .func (PySem.W.fnOf d11.x d11.x (C8.fnArgs d11.st) (C8.fnBody d11.st) (C8.fnScope d11.st) .none kV11 dc11 pm11 an11 cd11 ct11), sl11⟩) (c11 : PySem.W.codeIn K cd11 d11.x = true) (k11 : PySem.W.keepIn K (.ref f11) = true)
  (a12 : PySem.W.nsIn K mainGlobals d12.x = some (some (.ref f12))) (l12 : K.lookup f12 = some ⟨oc12, od12, .func (PySem.W.fnOf d12.x d12.x (C8.fnArgs d12.st) (C8.fnBody d12.st) (C8.fnScope d12.st) .none kV12 dc12 pm12 an12 cd12 ct12), sl12⟩) (c12 : PySem.W.codeIn K cd12 d12.x = true) (k12 : PySem.W.keepIn K (.ref f12) = true)
  (a13 : PySem.W.nsIn K mainGlobals d13.x = some (some (.ref f13))) (l13 : K.lookup f13 = some ⟨oc13, od13, .func (PySem.W.fnOf d13.x d13.x (C8.fnArgs d13.st) (C8.fnBody d13.st) (C8.fnScope d13.st) .none kV13 dc13 pm13 an13 cd13 ct13), sl13⟩) (c13 : PySem.W.codeIn K cd13 d13.x = true) (k13 : PySem.W.keepIn K (.ref f13) = true)
  (a14 : PySem.W.nsIn K mainGlobals d14.x = some (some (.ref f14))) (l14 : K.lookup f14 = some ⟨oc14, od14, .func (PySem.W.fnOf d14.x d14.x (C8.fnArgs d14.st) (C8.fnBody d14.st) (C8.fnScope d14.st) .none kV14 dc14 pm14 an14 cd14 ct14), sl14⟩) (c14 : PySem.W.codeIn K cd14 d14.x = true) (k14 : PySem.W.keepIn K (.ref f14) = true)
  (a15 : PySem.W.nsIn K mainGlobals d15.x = some (some (.ref f15))) (l15 : K.lookup f15 = some ⟨oc15, od15, .func (PySem.W.fnOf d15.x d15.x (C8.fnArgs d15.st) (C8.fnBody d15.st) (C8.fnScope d15.st) .none kV15 dc15 pm15 an15 cd15 ct15), sl15⟩) (c15 : PySem.W.codeIn K cd15 d15.x = true) (k15 : PySem.W.keepIn K (.ref f15) = true)
  (a16 : PySem.W.nsIn K mainGlobals d16.x = some (some (.ref f16))) (l16 : K.lookup f16 = some ⟨oc16, od16, .func (PySem.W.fnOf d16.x d16.x (C8.fnArgs d16.st) (C8.fnBody d16.st) (C8.fnScope d16.st) .none kV16 dc16 pm16 an16 cd16 ct16), sl16⟩) (c16 : PySem.W.codeIn K cd16 d16.x = true) (k16 : PySem.W.keepIn K (.ref f16) = true)
  (a17 : PySem.W.nsIn K mainGlobals d17.x = some (some (.ref f17))) (l17 : K.lookup f17 = some ⟨oc17, od17, .func (PySem.W.fnOf d17.x d17.x (C8.fnArgs d17.st) (C8.fnBody d17.st) (C8.fnScope d17.st) .none kV17 dc17 pm17 an17 cd17 ct17), sl17⟩) (c17 : PySem.W.codeIn K cd17 d17.x = true) (k17 : PySem.W.keepIn K (.ref f17) = true)
  (a18 : PySem.W.nsIn K mainGlobals d18.x = some (some (.ref f18))) (l18 : K.lookup f18 = some ⟨oc18, od18, .func (PySem.W.fnOf d18.x d18.x (C8.fnArgs d18.st) (C8.fnBody d18.st) (C8.fnScope d18.st) .none kV18 dc18 pm18 an18 cd18 ct18), sl18⟩) (c18 : PySem.W.codeIn K cd18 d18.x = true) (k18 : PySem.W.keepIn K (.ref f18) = true)
  (a19 : PySem.W.nsIn K mainGlobals d19.x = some (some (.ref f19))) (l19 : K.lookup f19 = some ⟨oc19, od19, .func (PySem.W.fnOf d19.x d19.x (C8.fnArgs d19.st) (C8.fnBody d19.st) (C8.fnScope d19.st) .none kV19 dc19 pm19 an19 cd19 ct19), sl19⟩) (c19 : PySem.W.codeIn K cd19 d19.x = true) (k19 : PySem.W.keepIn K (.ref f19) = true)
  (a20 : PySem.W.nsIn K mainGlobals d20.x = some (some (.ref f20))) (l20 : K.lookup f20 = some ⟨oc20, od20, .func (PySem.W.fnOf d20.x d20.x (C8.fnArgs d20.st) (C8.fnBody d20.st) (C8.fnScope d20.st) .none kV20 dc20 pm20 an20 cd20 ct20), sl20⟩) (c20 : PySem.W.codeIn K cd20 d20.x = true) (k20 : PySem.W.keepIn K (.ref f20) = true)
  (a21 : PySem.W.nsIn K mainGlobals d21.x = some (some (.ref f21))) (l21 : K.lookup f21 = some ⟨oc21, od21, .func (PySem.W.fnOf d21.x d21.x (C8.fnArgs d21.st) (C8.fnBody d21.st) (C8.fnScope d21.st) .none kV21 dc21 pm21 an21 cd21 ct21), sl21⟩) (c21 : PySem.W.codeIn K cd21 d21.x = true) (k21 : PySem.W.keepIn K (.ref f21) = true)
  (a22 : PySem.W.nsIn K mainGlobals d22.x = some (some (.ref f22))) (l22 : K.lookup f22 = some ⟨oc22, od22, .func (PySem.W.fnOf d22.x d22.x (C8.fnArgs d22.st) (C8.fnBody d22.st) (C8.fnScope d22.st) .none kV22 dc22 pm22 an22 cd22 ct22), sl22⟩) (c22 : PySem.W.codeIn K cd22 d22.x = true) (k22 : PySem.W.keepIn K (.ref f22) = true)
  (a23 : PySem.W.nsIn K mainGlobals d23.x = some (some (.ref f23))) (l23 : K.lookup f23 = some ⟨oc23, od23, .func (PySem.W.fnOf d23.x d23.x (C8.fnArgs d23.st) (C8.fnBody d23.st) (C8.fnScope d23.st) .none kV23 dc23 pm23 an23 cd23 ct23), sl23⟩) (c23 : PySem.W.codeIn K cd23 d23.x = true) (k23 : PySem.W.keepIn K (.ref f23) = true)
  (a24 : PySem.W.nsIn K mainGlobals d24.x = some (some (.ref f24))) (l24 : K.lookup f24 = some ⟨oc24, od24, .func (PySem.W.fnOf d24.x d24.x (C8.fnArgs d24.st) (C8.fnBody d24.st) (C8.fnScope d24.st) .none kV24 dc24 pm24 an24 cd24 ct24), sl24⟩) (c24 : PySem.W.codeIn K cd24 d24.x = true) (k24 : PySem.W.keepIn K (.ref f24) = true)
  (a25 : PySem.W.nsIn K mainGlobals d25.x = some (some (.ref f25))) (l25 : K.lookup f25 = some ⟨oc25, od25, .func (PySem.W.fnOf d25.x d25.x (C8.fnArgs d25.st) (C8.fnBody d25.st) (C8.fnScope d25.st) .none kV25 dc25 pm25 an25 cd25 ct25), sl25⟩) (c25 : PySem.W.codeIn K cd25 d25.x = true) (k25 : PySem.W.keepIn K (.ref f25) = true)
  (a26 : PySem.W.nsIn K mainGlobals d26.x = some (some (.ref f26))) (l26 : K.lookup f26 = some ⟨oc26, od26, .func (PySem.W.fnOf d26.x d26.x (C8.fnArgs d26.st) (C8.fnBody d26.st) (C8.fnScope d26.st) .none kV26 dc26 pm26 an26 cd26 ct26), sl26⟩) (c26 : PySem.W.codeIn K cd26 d26.x = true) (k26 : PySem.W.keepIn K (.ref f26) = true)
  (a27 : PySem.W.nsIn K mainGlobals d27.x = some (some (.ref f27))) (l27 : K.lookup f27 = some ⟨oc27, od27, .func (PySem.W.fnOf d27.x d27.x (C8.fnArgs d27.st) (C8.fnBody d27.st) (C8.fnScope d27.st) .none kV27 dc27 pm27 an27 cd27 ct27), sl27⟩) (c27 : PySem.W.codeIn K cd27 d27.x = true) (k27 : PySem.W.keepIn K (.ref f27) = true)
  (a28 : PySem.W.nsIn K mainGlobals d28.x = some (some (.ref f28))) (l28 : K.lookup f28 = some ⟨oc28, od28, .func (PySem.W.fnOf d28.x d28.x (C8.fnArgs d28.st) (C8.fnBody d28.st) (C8.fnScope d28.st) .none kV28 dc28 pm28 an28 cd28 ct28), sl28⟩) (c28 : PySem.W.codeIn K cd28 d28.x = true) (k28 : PySem.W.keepIn K (.ref f28) = true)
  (a29 : PySem.W.nsIn K mainGlobals d29.x = some (some (.ref f29))) (l29 : K.lookup f29 = some ⟨oc29, od29, .func (PySem.W.fnOf d29.x d29.x (C8.fnArgs d29.st) (C8.fnBody d29.st) (C8.fnScope d29.st) .none kV29 dc29 pm29 an29 cd29 ct29), sl29⟩) (c29 : PySem.W.codeIn K cd29 d29.x = true) (k29 : PySem.W.keepIn K (.ref f29) = true)
  (a30 : PySem.W.nsIn K mainGlobals d30.x = some (some (.ref f30))) (l30 : K.lookup f30 = some ⟨oc30, od30, .func (PySem.W.fnOf d30.x d30.x (C8.fnArgs d30.st) (C8.fnBody d30.st) (C8.fnScope d30.st) .none kV30 dc30 pm30 an30 cd30 ct30), sl30⟩) (c30 : PySem.W.codeIn K cd30 d30.x = true) (k30 : PySem.W.keepIn K (.ref f30) = true)
  (a31 : PySem.W.nsIn K mainGlobals d31.x = some (some (.ref f31))) (l31 : K.lookup f31 = some ⟨oc31, od31, .func (PySem.W.fnOf d31.x d31.x (C8.fnArgs d31.st) (C8.fnBody d31.st) (C8.fnScope d31.st) .none kV31 dc31 pm31 an31 cd31 ct31), sl31⟩) (c31 : PySem.W.codeIn K cd31 d31.x = true) (k31 : PySem.W.keepIn K (.ref f31) = true)
  (a32 : PySem.W.nsIn K mainGlobals d32.x = some (some (.ref f32))) (l32 : K.lookup f32 = some ⟨oc32, od32, .func (PySem.W.fnOf d32.x d32.x (C8.fnArgs d32.st) (C8.fnBody d32.st) (C8.fnScope d32.st) .none kV32 dc32 pm32 an32 cd32 ct32), sl32⟩) (c32 : PySem.W.codeIn K cd32 d32.x = true) (k32 : PySem.W.keepIn K (.ref f32) = true)
  (a33 : PySem.W.nsIn K mainGlobals d33.x = some (some (.ref f33))) (l33 : K.lookup f33 = some ⟨oc33, od33, .func (PySem.W.fnOf d33.x d33.x (C8.fnArgs d33.st) (C8.fnBody d33.st) (C8.fnScope d33.st) .none kV33 dc33 pm33 an33 cd33 ct33), sl33⟩) (c33 : PySem.W.codeIn K cd33 d33.x = true) (k33 : PySem.W.keepIn K (.ref f33) = true)
  (a34 : PySem.W.nsIn K mainGlobals d34.x = some (some (.ref f34))) (l34 : K.lookup f34 = some ⟨oc34, od34, .func (PySem.W.fnOf d34.x d34.x (C8.fnArgs d34.st) (C8.fnBody d34.st) (C8.fnScope d34.st) .none kV34 dc34 pm34 an34 cd34 ct34), sl34⟩) (c34 : PySem.W.codeIn K cd34 d34.x = true) (k34 : PySem.W.keepIn K (.ref f34) = true)
  (a35 : PySem.W.nsIn K mainGlobals d35.x = some (some (.ref f35))) (l35 : K.lookup f35 = some ⟨oc35, od35, .func (PySem.W.fnOf d35.x d35.x (C8.fnArgs d35.st) (C8.fnBody d35.st) (C8.fnScope d35.st) .none kV35 dc35 pm35 an35 cd35 ct35), sl35⟩) (c35 : PySem.W.codeIn K cd35 d35.x = true) (k35 : PySem.W.keepIn K (.ref f35) = true)
  (a36 : PySem.W.nsIn K mainGlobals d36.x = some (some (.ref f36))) (l36 : K.lookup f36 = some ⟨oc36, od36, .func (PySem.W.fnOf d36.x d36.x (C8.fnArgs d36.st) (C8.fnBody d36.st) (C8.fnScope d36.st) .none kV36 dc36 pm36 an36 cd36 ct36), sl36⟩) (c36 : PySem.W.codeIn K cd36 d36.x = true) (k36 : PySem.W.keepIn K (.ref f36) = true)
  (a37 : PySem.W.nsIn K mainGlobals d37.x = some (some (.ref f37))) (l37 : K.lookup f37 = some ⟨oc37, od37, .func (PySem.W.fnOf d37.x d37.x (C8.fnArgs d37.st) (C8.fnBody d37.st) (C8.fnScope d37.st) .none kV37 dc37 pm37 an37 cd37 ct37), sl37⟩) (c37 : PySem.W.codeIn K cd37 d37.x = true) (k37 : PySem.W.keepIn K (.ref f37) = true)
  (a38 : PySem.W.nsIn K mainGlobals d38.x = some (some (.ref f38))) (l38 : K.lookup f38 = some ⟨oc38, od38, .func (PySem.W.fnOf d38.x d38.x (C8.fnArgs d38.st) (C8.fnBody d38.st) (C8.fnScope d38.st) .none kV38 dc38 pm38 an38 cd38 ct38), sl38⟩) (c38 : PySem.W.codeIn K cd38 d38.x = true) (k38 : PySem.W.keepIn K (.ref f38) = true)
  (a39 : PySem.W.nsIn K mainGlobals d39.x = some (some (.ref f39))) (l39 : K.lookup f39 = some ⟨oc39, od39, .func (PySem.W.fnOf d39.x d39.x (C8.fnArgs d39.st) (C8.fnBody d39.st) (C8.fnScope d39.st) .none kV39 dc39 pm39 an39 cd39 ct39), sl39⟩) (c39 : PySem.W.codeIn K cd39 d39.x = true) (k39 : PySem.W.keepIn K (.ref f39) = true)
  (a40 : PySem.W.nsIn K mainGlobals d40.x = some (some (.ref f40))) (l40 : K.lookup f40 = some ⟨oc40, od40, .func (PySem.W.fnOf d40.x d40.x (C8.fnArgs d40.st) (C8.fnBody d40.st) (C8.fnScope d40.st) .none kV40 dc40 pm40 an40 cd40 ct40), sl40⟩) (c40 : PySem.W.codeIn K cd40 d40.x = true) (k40 : PySem.W.keepIn K (.ref f40) = true)
  (a41 : PySem.W.nsIn K mainGlobals d41.x = some (some (.ref f41))) (l41 : K.lookup f41 = some ⟨oc41, od41, .func (PySem.W.fnOf d41.x d41.x (C8.fnArgs d41.st) (C8.fnBody d41.st) (C8.fnScope d41.st) .none kV41 dc41 pm41 an41 cd41 ct41), sl41⟩) (c41 : PySem.W.codeIn K cd41 d41.x = true) (k41 : PySem.W.keepIn K (.ref f41) = true)
  (a42 : PySem.W.nsIn K mainGlobals d42.x = some (some (.ref f42))) (l42 : K.lookup f42 = some ⟨oc42, od42, .func (PySem.W.fnOf d42.x d42.x (C8.fnArgs d42.st) (C8.fnBody d42.st) (C8.fnScope d42.st) .none kV42 dc42 pm42 an42 cd42 ct42), sl42⟩) (c42 : PySem.W.codeIn K cd42 d42.x = true) (k42 : PySem.W.keepIn K (.ref f42) = true)
  (a43 : PySem.W.nsIn K mainGlobals d43.x = some (some (.ref f43))) (l43 : K.lookup f43 = some ⟨oc43, od43, .func (PySem.W.fnOf d43.x d43.x (C8.fnArgs d43.st) (C8.fnBody d43.st) (C8.fnScope d43.st) .none kV43 dc43 pm43 an43 cd43 ct43), sl43⟩) (c43 : PySem.W.codeIn K cd43 d43.x = true) (k43 : PySem.W.keepIn K (.ref f43) = true)
  (a44 : PySem.W.nsIn K mainGlobals d44.x = some (some (.ref f44))) (l44 : K.lookup f44 = some ⟨oc44, od44, .func (PySem.W.fnOf d44.x d44.x (C8.fnArgs d44.st) (C8.fnBody d44.st) (C8.fnScope d44.st) .none kV44 dc44 pm44 an44 cd44 ct44), sl44⟩) (c44 : PySem.W.codeIn K cd44 d44.x = true) (k44 : PySem.W.keepIn K (.ref f44) = true)
  (a45 : PySem.W.nsIn K mainGlobals d45.x = some (some (.ref f45))) (l45 : K.lookup f45 = some ⟨oc45, od45, .func (PySem.W.fnOf d45.x d45.x (C8.fnArgs d45.st) (C8.fnBody d45.st) (C8.fnScope d45.st) .none kV45 dc45 pm45 an45 cd45 ct45), sl45⟩) (c45 : PySem.W.codeIn K cd45 d45.x = true) (k45 : PySem.W.keepIn K (.ref f45) = true)
  (a46 : PySem.W.nsIn K mainGlobals d46.x = some (some (.ref f46))) (l46 : K.lookup f46 = some ⟨oc46, od46, .func (PySem.W.fnOf d46.x d46.x (C8.fnArgs d46.st) (C8.fnBody d46.st) (C8.fnScope d46.st) .none kV46 dc46 pm46 an46 cd46 ct46), sl46⟩) (c46 : PySem.W.codeIn K cd46 d46.x = true) (k46 : PySem.W.keepIn K (.ref f46) = true)
  (a47 : PySem.W.nsIn K mainGlobals d47.x = some (some (.ref f47))) (l47 : K.lookup f47 = some ⟨oc47, od47, .func (PySem.W.fnOf d47.x d47.x (C8.fnArgs d47.st) (C8.fnBody d47.st) (C8.fnScope d47.st) .none kV47 dc47 pm47 an47 cd47 ct47), sl47⟩) (c47 : PySem.W.codeIn K cd47 d47.x = true) (k47 : PySem.W.keepIn K (.ref f47) = true) : ∀ d ∈ L, DefAt K mg d :=
  defs_cons (defAt_mk (d := d0) X G a0 l0 c0 k0 fun _ _ _ _ _ _ us hl => match us, hl with | [_], _ => rfl)
    (defs_cons (defAt_mk (d := d1) X G a1 l1 c1 k1 fun _ _ _ _ _ _ us hl => match us, hl with | [_], _ => rfl)
    (defs_cons (defAt_mk (d := d2) X G a2 l2 c2 k2 fun _ _ _ _ _ _ us hl => match us, hl with | [_], _ => rfl)
    (defs_cons (defAt_mk (d := d3) X G a3 l3 c3 k3 fun _ _ _ _ _ _ us hl => match us, hl with | [_, _], _ => rfl)
    (defs_cons (defAt_mk (d := d4) X G a4 l4 c4 k4 fun _ _ _ _ _ _ us hl => match us, hl with | [_, _], _ => rfl)
    (defs_cons (defAt_mk (d := d5) X G a5 l5 c5 k5 fun _ _ _ _ _ _ us hl => match us, hl with | [_, _], _ => rfl)
    (defs_cons (defAt_mk (d := d6) X G a6 l6 c6 k6 fun _ _ _ _ _ _ us hl => match us, hl with | [_, _], _ => rfl)
    (defs_cons (defAt_mk (d := d7) X G a7 l7 c7 k7 fun _ _ _ _ _ _ us hl => match us, hl with | [_, _], _ => rfl)
    (defs_cons (defAt_mk (d := d8) X G a8 l8 c8 k8 fun _ _ _ _ _ _ us hl => match us, hl with | [_, _], _ => rfl)
    (defs_cons (defAt_mk (d := d9) X G a9 l9 c9 k9 fun _ _ _ _ _ _ us hl => match us, hl with | [_, _], _ => rfl)
    (defs_cons (defAt_mk (d := d10) X G a10 l10 c10 k10 fun _ _ _ _ _ _ us hl => match us, hl with | [_, _], _ => rfl)
    (defs_cons (defAt_mk (d := d11) X G a11 l11 c11 k11 fun _ _ _ _ _ _ us hl => match us, hl with | [_], _ => rfl)
    (defs_cons (defAt_mk (d := d12) X G a12 l12 c12 k12 fun _ _ _ _ _ _ us hl => match us, hl with | [_, _], _ => rfl)
    (defs_cons (defAt_mk (d := d13) X G a13 l13 c13 k13 fun _ _ _ _ _ _ us hl => match us, hl with | [_, _], _ => rfl)
    (defs_cons (defAt_mk (d := d14) X G a14 l14 c14 k14 fun _ _ _ _ _ _ us hl => match us, hl with | [_, _], _ => rfl)
    (defs_cons (defAt_mk (d := d15) X G a15 l15 c15 k15 fun _ _ _ _ _ _ us hl => match us, hl with | [_], _ => rfl)
    (defs_cons (defAt_mk (d := d16) X G a16 l16 c16 k16 fun _ _ _ _ _ _ us hl => match us, hl with | [_, _], _ => rfl)
    (defs_cons (defAt_mk (d := d17) X G a17 l17 c17 k17 fun _ _ _ _ _ _ us hl => match us, hl with | [_, _], _ => rfl)
    (defs_cons (defAt_mk (d := d18) X G a18 l18 c18 k18 fun _ _ _ _ _ _ us hl => match us, hl with | [_, _], _ => rfl)
    (defs_cons (defAt_mk (d := d19) X G a19 l19 c19 k19 fun _ _ _ _ _ _ us hl => match us, hl with | [_, _], _ => rfl)
    (defs_cons (defAt_mk (d := d20) X G a20 l20 c20 k20 fun _ _ _ _ _ _ us hl => match us, hl with | [_, _, _], _ => rfl)
    (defs_cons (defAt_mk (d := d21) X G a21 l21 c21 k21 fun _ _ _ _ _ _ us hl => match us, hl with | [_, _], _ => rfl)
    (defs_cons (defAt_mk (d := d22) X G a22 l22 c22 k22 fun _ _ _ _ _ _ us hl => match us, hl with | [_, _], _ => rfl)
    (defs_cons (defAt_mk (d := d23) X G a23 l23 c23 k23 fun _ _ _ _ _ _ us hl => match us, hl with | [_, _, _], _ => rfl)
    (defs_cons (defAt_mk (d := d24) X G a24 l24 c24 k24 fun _ _ _ _ _ _ us hl => match us, hl with | [], _ => rfl)
    (defs_cons (defAt_mk (d := d25) X G a25 l25 c25 k25 fun _ _ _ _ _ _ us hl => match us, hl with | [_, _, _], _ => rfl)
    (defs_cons (defAt_mk (d := d26) X G a26 l26 c26 k26 fun _ _ _ _ _ _ us hl => match us, hl with | [_, _], _ => rfl)
    (defs_cons (defAt_mk (d := d27) X G a27 l27 c27 k27 fun _ _ _ _ _ _ us hl => match us, hl with | [_, _, _], _ => rfl)
    (defs_cons (defAt_mk (d := d28) X G a28 l28 c28 k28 fun _ _ _ _ _ _ us hl => match us, hl with | [_], _ => rfl)
    (defs_cons (defAt_mk (d := d29) X G a29 l29 c29 k29 fun _ _ _ _ _ _ us hl => match us, hl with | [_, _], _ => rfl)
    (defs_cons (defAt_mk (d := d30) X G a30 l30 c30 k30 fun _ _ _ _ _ _ us hl => match us, hl with | [_, _, _], _ => rfl)
    (defs_cons (defAt_mk (d := d31) X G a31 l31 c31 k31 fun _ _ _ _ _ _ us hl => match us, hl with | [_, _], _ => rfl)
    (defs_cons (defAt_mk (d := d32) X G a32 l32 c32 k32 fun _ _ _ _ _ _ us hl => match us, hl with | [_, _], _ => rfl)
    (defs_cons (defAt_mk (d := d33) X G a33 l33 c33 k33 fun _ _ _ _ _ _ us hl => match us, hl with | [_], _ => rfl)
    (defs_cons (defAt_mk (d := d34) X G a34 l34 c34 k34 fun _ _ _ _ _ _ us hl => match us, hl with | [_], _ => rfl)
    (defs_cons (defAt_mk (d := d35) X G a35 l35 c35 k35 fun _ _ _ _ _ _ us hl => match us, hl with | [_], _ => rfl)
    (defs_cons (defAt_mk (d := d36) X G a36 l36 c36 k36 fun _ _ _ _ _ _ us hl => match us, hl with | [_], _ => rfl)
    (defs_cons (defAt_mk (d := d37) X G a37 l37 c37 k37 fun _ _ _ _ _ _ us hl => match us, hl with | [_], _ => rfl)
    (defs_cons (defAt_mk (d := d38) X G a38 l38 c38 k38 fun _ _ _ _ _ _ us hl => match us, hl with | [_, _], _ => rfl)
    (defs_cons (defAt_mk (d := d39) X G a39 l39 c39 k39 fun _ _ _ _ _ _ us hl => match us, hl with | [_, _], _ => rfl)
    (defs_cons (defAt_mk (d := d40) X G a40 l40 c40 k40 fun _ _ _ _ _ _ us hl => match us, hl with | [_, _, _], _ => rfl)
    (defs_cons (defAt_mk (d := d41) X G a41 l41 c41 k41 fun _ _ _ _ _ _ us hl => match us, hl with | [_, _], _ => rfl)
    (defs_cons (defAt_mk (d := d42) X G a42 l42 c42 k42 fun _ _ _ _ _ _ us hl => match us, hl with | [_, _], _ => rfl)
    (defs_cons (defAt_mk (d := d43) X G a43 l43 c43 k43 fun _ _ _ _ _ _ us hl => match us, hl with | [_], _ => rfl)
    (defs_cons (defAt_mk (d := d44) X G a44 l44 c44 k44 fun _ _ _ _ _ _ us hl => match us, hl with | [_, _, _, _], _ => rfl)
    (defs_cons (defAt_mk (d := d45) X G a45 l45 c45 k45 fun _ _ _ _ _ _ us hl => match us, hl with | [], _ => rfl)
    (defs_cons (defAt_mk (d := d46) X G a46 l46 c46 k46 fun _ _ _ _ _ _ us hl => match us, hl with | [_, _, _, _, _], _ => rfl)
    (defs_cons (defAt_mk (d := d47) X G a47 l47 c47 k47 fun _ _ _ _ _ _ us hl => match us, hl with | [_], _ => rfl)
    (defs_nil))))))))))))))))))))))))))))))))))))))))))))))))
theorem M_mk {P : Program} {w : World} {K : PySem.W.Frag} {h : Heap} {mg : OH.Str → Option Value} (X : K.In h) (G : h.Ns mainGlobals mg)
  {p0 : Addr} {n0 : Nat} {s0 : Array (Option Value)} {t0_0 t0_1 : Tok}
  {t1 : Tok}
  {t2 : Tok}
  {t3 : Tok}
  {t4 : Tok}
  {p5 : Addr} {n5 : Nat} {s5 : Array (Option Value)} {t5_0 t5_1 t5_2 t5_3 : Tok}
  {p6 : Addr} {n6 : Nat} {s6 : Array (Option Value)} {t6_0 t6_1 t6_2 : Tok}
  (g0 : PySem.W.nsIn K mainGlobals "CARD_WORDS" = some (some (.ref p0))) (h0 : K.lookup p0 = some ⟨.type "tuple", none, .seq #[.str w_has t0_0, .str w_misses t0_1] n0, s0⟩)
  (g1 : PySem.W.nsIn K mainGlobals "MOST_CARDS" = some (some (.int 13 t1)))
  (g2 : PySem.W.nsIn K mainGlobals "MOST_DEALS" = some (some (.int 2000 t2)))
  (g3 : PySem.W.nsIn K mainGlobals "MOST_HANDS" = some (some (.int 60 t3)))
  (g4 : PySem.W.nsIn K mainGlobals "MOST_SAYINGS" = some (some (.int 6 t4)))
  (g5 : PySem.W.nsIn K mainGlobals "OWN_WORDS" = some (some (.ref p5))) (h5 : K.lookup p5 = some ⟨.type "tuple", none, .seq #[.str w_knows t5_0, .str w_lacks t5_1, .str w_card t5_2, .str w_blind t5_3] n5, s5⟩)
  (g6 : PySem.W.nsIn K mainGlobals "PEOPLE" = some (some (.ref p6))) (h6 : K.lookup p6 = some ⟨.type "tuple", none, .seq #[.str w_anne t6_0, .str w_bill t6_1, .str w_cath t6_2] n6, s6⟩)
  (z0 : PySem.W.nsIn K mainGlobals "len" = some none) (z1 : PySem.W.nsIn K mainGlobals "sum" = some none) (z2 : PySem.W.nsIn K mainGlobals "sorted" = some none) (z3 : PySem.W.nsIn K mainGlobals "tuple" = some none) (z4 : PySem.W.nsIn K mainGlobals "list" = some none) (z5 : PySem.W.nsIn K mainGlobals "all" = some none) (z6 : PySem.W.nsIn K mainGlobals "any" = some none) (z7 : PySem.W.nsIn K mainGlobals "abs" = some none) (z8 : PySem.W.nsIn K mainGlobals "int" = some none) (z9 : PySem.W.nsIn K mainGlobals "str" = some none) (z10 : PySem.W.nsIn K mainGlobals "isinstance" = some none) (z11 : PySem.W.nsIn K mainGlobals "bool" = some none) (z12 : PySem.W.nsIn K mainGlobals "set" = some none) (z13 : PySem.W.nsIn K mainGlobals "range" = some none) (z14 : PySem.W.nsIn K mainGlobals "zip" = some none) (z15 : PySem.W.nsIn K mainGlobals "enumerate" = some none) (z16 : PySem.W.nsIn K mainGlobals "max" = some none) (z17 : PySem.W.nsIn K mainGlobals "min" = some none) : ModOk P w K mg gl where
  gl := fun n x d e => by
    unfold gl at e
    split at e <;> cases e
    · exact gl_tup (ys := [w_has, w_misses]) X G g0 h0 (by rw [sizeLine_eq]; simp) (.cons ⟨t0_0, rfl⟩ (.cons ⟨t0_1, rfl⟩ (.nil)))
    · exact gl_int X G g1
    · exact gl_int X G g2
    · exact gl_int X G g3
    · exact gl_int X G g4
    · exact gl_tup (ys := [w_knows, w_lacks, w_card, w_blind]) X G g5 h5 (by rw [sizeLine_eq]; simp) (.cons ⟨t5_0, rfl⟩ (.cons ⟨t5_1, rfl⟩ (.cons ⟨t5_2, rfl⟩ (.cons ⟨t5_3, rfl⟩ (.nil)))))
    · exact gl_tup (ys := [w_anne, w_bill, w_cath]) X G g6 h6 (by rw [sizeLine_eq]; simp) (.cons ⟨t6_0, rfl⟩ (.cons ⟨t6_1, rfl⟩ (.cons ⟨t6_2, rfl⟩ (.nil))))
  blt := blt_cons (PySem.W.mg_none_of X G z0) (blt_cons (PySem.W.mg_none_of X G z1) (blt_cons (PySem.W.mg_none_of X G z2) (blt_cons (PySem.W.mg_none_of X G z3) (blt_cons (PySem.W.mg_none_of X G z4) (blt_cons (PySem.W.mg_none_of X G z5) (blt_cons (PySem.W.mg_none_of X G z6) (blt_cons (PySem.W.mg_none_of X G z7) (blt_cons (PySem.W.mg_none_of X G z8) (blt_cons (PySem.W.mg_none_of X G z9) (blt_cons (PySem.W.mg_none_of X G z10) (blt_cons (PySem.W.mg_none_of X G z11) (blt_cons (PySem.W.mg_none_of X G z12) (blt_cons (PySem.W.mg_none_of X G z13) (blt_cons (PySem.W.mg_none_of X G z14) (blt_cons (PySem.W.mg_none_of X G z15) (blt_cons (PySem.W.mg_none_of X G z16) (blt_cons (PySem.W.mg_none_of X G z17) (blt_nil))))))))))))))))))
theorem walk {q : Program} {loose : List OH.Str} {XP : (OH.Str → Option Value) → Heap → Prop} {YP : World → Heap → Prop} {r : DefRec} {K : Params → PySem.W.Frag}
    (hdf : r.params.defaults = []) (hx : r.name = "law") (hY : ∀ (w : World) (h : Heap), YP w h → (K w.params).In h)
    (M : ∀ (w : World) (mg : OH.Str → Option Value) (h : Heap), (K w.params).In h → h.Ns mainGlobals mg → ModOk PySem.Challenge.rw_openhands_k83_whole_said_twice.prog w (K w.params) mg gl)
    (F : ∀ (w : World) (mg : OH.Str → Option Value) (h : Heap), (K w.params).In h → h.Ns mainGlobals mg → ∀ d ∈ L, DefAt (K w.params) mg d) :
    PySem.W.WalkO q loose XP YP PySem.Challenge.rw_openhands_k83_whole_said_twice.row.toRowW r [] (fun f vs => PySem.call f vs) :=
  walk_run (tbl := tbl) (fn := fnL L) (d := d47) (n := 63) (k := 60) (x := "script") rfl (by decide) hdf ⟨rfl, by decide, by decide⟩ hY chk fnL_ok (List.mem_of_getElem? (i := 47) rfl) (by rw [hx]; rfl) rfl M F pure
end OHk83

end
open PySem PySem.W PyProof.Rows
set_option maxRecDepth 100000 in
set_option maxHeartbeats 0 in
theorem PySem.Challenge.cw_openhands_k83_whole_said_twice_holds : PySem.Challenge.rw_openhands_k83_whole_said_twice.Holds := by
  w_on; o_law; k_head; (case hw => w_witness2)
  k_fill
  refine OHk83.walk rfl rfl (fun w h Y => PySem.W.kIn_of Y) ?M1 ?F1
  case M1 =>
    intro w mg h KX G
    refine' OHk83.M_mk KX G ?yg0 ?yh0 ?yg1 ?yg2 ?yg3 ?yg4 ?yg5 ?yh5 ?yg6 ?yh6 ?yz0 ?yz1 ?yz2 ?yz3 ?yz4 ?yz5 ?yz6 ?yz7 ?yz8 ?yz9 ?yz10 ?yz11 ?yz12 ?yz13 ?yz14 ?yz15 ?yz16 ?yz17
    (case yg0 => k_is)
    (case yh0 => k_is)
    (case yg1 => k_is)
    (case yg2 => k_is)
    (case yg3 => k_is)
    (case yg4 => k_is)
    (case yg5 => k_is)
    (case yh5 => k_is)
    (case yg6 => k_is)
    (case yh6 => k_is)
    (case yz0 => k_is)
    (case yz1 => k_is)
    (case yz2 => k_is)
    (case yz3 => k_is)
    (case yz4 => k_is)
    (case yz5 => k_is)
    (case yz6 => k_is)
    (case yz7 => k_is)
    (case yz8 => k_is)
    (case yz9 => k_is)
    (case yz10 => k_is)
    (case yz11 => k_is)
    (case yz12 => k_is)
    (case yz13 => k_is)
    (case yz14 => k_is)
    (case yz15 => k_is)
    (case yz16 => k_is)
    (case yz17 => k_is)
  case F1 =>
    intro w mg h KX G
    refine' OHk83.F_mk KX G ?ya0 ?yl0 ?yc0 ?yk0 ?ya1 ?yl1 ?yc1 ?yk1 ?ya2 ?yl2 ?yc2 ?yk2 ?ya3 ?yl3 ?yc3 ?yk3 ?ya4 ?yl4 ?yc4 ?yk4 ?ya5 ?yl5 ?yc5 ?yk5 ?ya6 ?yl6 ?yc6 ?yk6 ?ya7 ?yl7 ?yc7 ?yk7 ?ya8 ?yl8 ?yc8 ?yk8 ?ya9 ?yl9 ?yc9 ?yk9 ?ya10 ?yl10 ?yc10 ?yk10 ?ya11 ?yl11 ?yc11 ?yk11 ?ya12 ?yl12 ?yc12 ?yk12 ?ya13 ?yl13 ?yc13 ?yk13 ?ya14 ?yl14 ?yc14 ?yk14 ?ya15 ?yl15 ?yc15 ?yk15 ?ya16 ?yl16 ?yc16 ?yk16 ?ya17 ?yl17 ?yc17 ?yk17 ?ya18 ?yl18 ?yc18 ?yk18 ?ya19 ?yl19 ?yc19 ?yk19 ?ya20 ?yl20 ?yc20 ?yk20 ?ya21 ?yl21 ?yc21 ?yk21 ?ya22 ?yl22 ?yc22 ?yk22 ?ya23 ?yl23 ?yc23 ?yk23 ?ya24 ?yl24 ?yc24 ?yk24 ?ya25 ?yl25 ?yc25 ?yk25 ?ya26 ?yl26 ?yc26 ?yk26 ?ya27 ?yl27 ?yc27 ?yk27 ?ya28 ?yl28 ?yc28 ?yk28 ?ya29 ?yl29 ?yc29 ?yk29 ?ya30 ?yl30 ?yc30 ?yk30 ?ya31 ?yl31 ?yc31 ?yk31 ?ya32 ?yl32 ?yc32 ?yk32 ?ya33 ?yl33 ?yc33 ?yk33 ?ya34 ?yl34 ?yc34 ?yk34 ?ya35 ?yl35 ?yc35 ?yk35 ?ya36 ?yl36 ?yc36 ?yk36 ?ya37 ?yl37 ?yc37 ?yk37 ?ya38 ?yl38 ?yc38 ?yk38 ?ya39 ?yl39 ?yc39 ?yk39 ?ya40 ?yl40 ?yc40 ?yk40 ?ya41 ?yl41 ?yc41 ?yk41 ?ya42 ?yl42 ?yc42 ?yk42 ?ya43 ?yl43 ?yc43 ?yk43 ?ya44 ?yl44 ?yc44 ?yk44 ?ya45 ?yl45 ?yc45 ?yk45 ?ya46 ?yl46 ?yc46 ?yk46 ?ya47 ?yl47 ?yc47 ?yk47
    (case ya0 => k_is); (case yl0 => k_is); (case yc0 => k_is); (case yk0 => k_is)
    (case ya1 => k_is); (case yl1 => k_is); (case yc1 => k_is); (case yk1 => k_is)
    (case ya2 => k_is); (case yl2 => k_is); (case yc2 => k_is); (case yk2 => k_is)
    (case ya3 => k_is); (case yl3 => k_is); (case yc3 => k_is); (case yk3 => k_is)
    (case ya4 => k_is); (case yl4 => k_is); (case yc4 => k_is); (case yk4 => k_is)
    (case ya5 => k_is); (case yl5 => k_is); (case yc5 => k_is); (case yk5 => k_is)
    (case ya6 => k_is); (case yl6 => k_is); (case yc6 => k_is); (case yk6 => k_is)
    (case ya7 => k_is); (case yl7 => k_is); (case yc7 => k_is); (case yk7 => k_is)
    (case ya8 => k_is); (case yl8 => k_is); (case yc8 => k_is); (case yk8 => k_is)
    (case ya9 => k_is); (case yl9 => k_is); (case yc9 => k_is); (case yk9 => k_is)
    (case ya10 => k_is); (case yl10 => k_is); (case yc10 => k_is); (case yk10 => k_is)
    (case ya11 => k_is); (case yl11 => k_is); (case yc11 => k_is); (case yk11 => k_is)
    (case ya12 => k_is); (case yl12 => k_is); (case yc12 => k_is); (case yk12 => k_is)
    (case ya13 => k_is); (case yl13 => k_is); (case yc13 => k_is); (case yk13 => k_is)
    (case ya14 => k_is); (case yl14 => k_is); (case yc14 => k_is); (case yk14 => k_is)
    (case ya15 => k_is); (case yl15 => k_is); (case yc15 => k_is); (case yk15 => k_is)
    (case ya16 => k_is); (case yl16 => k_is); (case yc16 => k_is); (case yk16 => k_is)
    (case ya17 => k_is); (case yl17 => k_is); (case yc17 => k_is); (case yk17 => k_is)
    (case ya18 => k_is); (case yl18 => k_is); (case yc18 => k_is); (case yk18 => k_is)
    (case ya19 => k_is); (case yl19 => k_is); (case yc19 => k_is); (case yk19 => k_is)
    (case ya20 => k_is); (case yl20 => k_is); (case yc20 => k_is); (case yk20 => k_is)
    (case ya21 => k_is); (case yl21 => k_is); (case yc21 => k_is); (case yk21 => k_is)
    (case ya22 => k_is); (case yl22 => k_is); (case yc22 => k_is); (case yk22 => k_is)
    (case ya23 => k_is); (case yl23 => k_is); (case yc23 => k_is); (case yk23 => k_is)
    (case ya24 => k_is); (case yl24 => k_is); (case yc24 => k_is); (case yk24 => k_is)
    (case ya25 => k_is); (case yl25 => k_is); (case yc25 => k_is); (case yk25 => k_is)
    (case ya26 => k_is); (case yl26 => k_is); (case yc26 => k_is); (case yk26 => k_is)
    (case ya27 => k_is); (case yl27 => k_is); (case yc27 => k_is); (case yk27 => k_is)
    (case ya28 => k_is); (case yl28 => k_is); (case yc28 => k_is); (case yk28 => k_is)
    (case ya29 => k_is); (case yl29 => k_is); (case yc29 => k_is); (case yk29 => k_is)
    (case ya30 => k_is); (case yl30 => k_is); (case yc30 => k_is); (case yk30 => k_is)
    (case ya31 => k_is); (case yl31 => k_is); (case yc31 => k_is); (case yk31 => k_is)
    (case ya32 => k_is); (case yl32 => k_is); (case yc32 => k_is); (case yk32 => k_is)
    (case ya33 => k_is); (case yl33 => k_is); (case yc33 => k_is); (case yk33 => k_is)
    (case ya34 => k_is); (case yl34 => k_is); (case yc34 => k_is); (case yk34 => k_is)
    (case ya35 => k_is); (case yl35 => k_is); (case yc35 => k_is); (case yk35 => k_is)
    (case ya36 => k_is); (case yl36 => k_is); (case yc36 => k_is); (case yk36 => k_is)
    (case ya37 => k_is); (case yl37 => k_is); (case yc37 => k_is); (case yk37 => k_is)
    (case ya38 => k_is); (case yl38 => k_is); (case yc38 => k_is); (case yk38 => k_is)
    (case ya39 => k_is); (case yl39 => k_is); (case yc39 => k_is); (case yk39 => k_is)
    (case ya40 => k_is); (case yl40 => k_is); (case yc40 => k_is); (case yk40 => k_is)
    (case ya41 => k_is); (case yl41 => k_is); (case yc41 => k_is); (case yk41 => k_is)
    (case ya42 => k_is); (case yl42 => k_is); (case yc42 => k_is); (case yk42 => k_is)
    (case ya43 => k_is); (case yl43 => k_is); (case yc43 => k_is); (case yk43 => k_is)
    (case ya44 => k_is); (case yl44 => k_is); (case yc44 => k_is); (case yk44 => k_is)
    (case ya45 => k_is); (case yl45 => k_is); (case yc45 => k_is); (case yk45 => k_is)
    (case ya46 => k_is); (case yl46 => k_is); (case yc46 => k_is); (case yk46 => k_is)
    (case ya47 => k_is); (case yl47 => k_is); (case yc47 => k_is); (case yk47 => k_is)

