import PyProof.Rows.All
import Wide.All
import OpenK.AllK
import Wide.FinOn
import KE.KStateDown
import Lean
import HandS.ForMost
import HandS.IsInst
import HandS.RaiseMore
import HandS.TupAny
import HandS.TupMul
import HandS.Style
import HandS.Zip
import HandS.Codes
import HandS.Defaults
import HandS.HeadEnd
import HandS.Wide
import HandS.Dict
import HandS.Deep
import PyProof.Rows.StrRev
import PyProof.ReprRoads
import HandS.SortInts
import HandS.More
import HandS.Iter
import HandS.DictComp
import PyProof.StrLaws
import KE.GoesEnum
import KE.GoesZip
import HandS.Head0
import HandS.Head1
import HandS.Head2
import HandS.HeadHook1
import HandS.HeadHook2
import HandS.HeadHook3
import HandS.HeadHook4
import PySem.Challenge.RW_tightstreams_k04_whole_signs_put_and_got
set_option Elab.async false
set_option linter.all false
set_option maxRecDepth 100000
/-! Z: a small interpreter over plain values for the part of Python that the laws use (no heap: tuples, lists, dicts by value; containers that a def changes live in a store). Core Lean only. -/
namespace Z

/-- a value; lists and dicts here are such that nobody changes any more -/
inductive PV where
  | non | bl (b : Bool) | int (i : Int) | str (s : List Nat)
  | tup (xs : List PV) | lst (xs : List PV)
  | dct (ks : List (PV × PV)) | set (xs : List PV)
  | fn (f : Nat) | cls (c : Nat) | frz (xs : List PV) | dcf (ks : List (PV × PV))
deriving Inhabited

/-- what an expression gives: a value, a container just made that nobody else holds, a container of the store -/
inductive RV where
  | v (p : PV) | new (p : PV) | loc (n : Nat)
deriving Inhabited

abbrev Sto := List PV
abbrev Lcs := List (Option RV)

structure Exc where
  cls : Nat
  fs : List PV

inductive R (α : Type) where
  | ok (a : α) (μ : Sto) | ex (x : Exc) (μ : Sto) | no

def R.bind {α β : Type} : R α → (α → Sto → R β) → R β
  | .ok a μ, f => f a μ
  | .ex x μ, _ => .ex x μ
  | .no, _ => .no

@[simp] theorem R.bind_ok {α β : Type} (a : α) (μ : Sto) (f : α → Sto → R β) : (R.ok a μ).bind f = f a μ := (rfl)
@[simp] theorem R.bind_ex {α β : Type} (x : Exc) (μ : Sto) (f : α → Sto → R β) : (R.ex x μ : R α).bind f = .ex x μ := (rfl)
@[simp] theorem R.bind_no {α β : Type} (f : α → Sto → R β) : (R.no : R α).bind f = .no := (rfl)

/-- an optional value as a result -/
def opt {α : Type} (o : Option α) (μ : Sto) : R α := match o with
  | some a => .ok a μ
  | none => .no
@[simp] theorem opt_some {α : Type} (a : α) (μ : Sto) : opt (some a) μ = .ok a μ := (rfl)
@[simp] theorem opt_none {α : Type} (μ : Sto) : opt (none : Option α) μ = .no := (rfl)

/-- the value as it stands now -/
def rd (μ : Sto) : RV → Option PV
  | .v p => some p
  | .new p => some p
  | .loc n => μ[n]?
@[simp] theorem rd_v (μ : Sto) (p : PV) : rd μ (.v p) = some p := (rfl)
@[simp] theorem rd_new (μ : Sto) (p : PV) : rd μ (.new p) = some p := (rfl)
@[simp] theorem rd_loc (μ : Sto) (n : Nat) : rd μ (.loc n) = μ[n]? := (rfl)

/-- a value that may be kept within another -/
def kp : RV → Option PV
  | .v p => some p
  | .new p => some p
  | .loc _ => none
@[simp] theorem kp_v (p : PV) : kp (.v p) = some p := (rfl)
@[simp] theorem kp_new (p : PV) : kp (.new p) = some p := (rfl)
def kps : List RV → Option (List PV)
  | [] => some []
  | r :: rs => match kp r, kps rs with
    | some p, some ps => some (p :: ps)
    | _, _ => none
@[simp] theorem kps_nil : kps [] = some [] := (rfl)
@[simp] theorem kps_v (p : PV) (rs : List RV) : kps (.v p :: rs) = (match kps rs with | some ps => some (p :: ps) | none => none) := by
  cases h : kps rs <;> simp [kps, h]
@[simp] theorem kps_new (p : PV) (rs : List RV) : kps (.new p :: rs) = (match kps rs with | some ps => some (p :: ps) | none => none) := by
  cases h : kps rs <;> simp [kps, h]

/-! ### operators by values -/
inductive Op2 where
  | add | sub | mul | fdiv | mod | pow | xor
deriving DecidableEq
inductive OpC where
  | eq | ne | lt | le | gt | ge | isin | notin | is | isnot
deriving DecidableEq
inductive Ty where
  | int | bool | str | tup | lst | cls (c : Nat)
deriving DecidableEq
/-- built-in functions and types, called -/
inductive Bi where
  | len | all | any | sum | min1 | max1 | min2 | max2 | abs | int | str | tuple | list | isi (t : Ty) | sorted | repr | set | dict
deriving DecidableEq
/-- methods of built-in types -/
inductive Me where
  | append | pop0 | pop1 | get1 | get2 | join | startswith | items | values
deriving DecidableEq

def SZ : Nat := 16777216
def sml (i : Int) : Bool := decide (-(2 ^ 64) < i) && decide (i < 2 ^ 64)

def rep {α : Type} (xs : List α) (k : Int) : List α := (List.replicate k.toNat xs).flatten

def bin : Op2 → PV → PV → Option RV
  | .add, .int i, .int j => some (.v (.int (i + j)))
  | .add, .str a, .str b => if a.length + b.length ≤ SZ then some (.v (.str (a ++ b))) else none
  | .add, .lst a, .lst b => if a.length + b.length ≤ SZ then some (.new (.lst (a ++ b))) else none
  | .add, .tup a, .tup b => if a.length + b.length ≤ SZ then some (.v (.tup (a ++ b))) else none
  | .sub, .int i, .int j => some (.v (.int (i - j)))
  | .mul, .int i, .int j => if sml i || sml j then some (.v (.int (i * j))) else none
  | .mul, .str a, .int k => if decide (-(2 ^ 63) ≤ k) && decide (k < 2 ^ 63) && decide (a.length * k.toNat ≤ SZ) then some (.v (.str (rep a k))) else none
  | .mul, .lst a, .int k => if decide (-(2 ^ 63) ≤ k) && decide (k < 2 ^ 63) && decide (a.length * k.toNat ≤ SZ) then some (.new (.lst (rep a k))) else none
  | .mul, .tup a, .int k => if decide (-(2 ^ 63) ≤ k) && decide (k < 2 ^ 63) && decide (a.length * k.toNat ≤ SZ) then some (.v (.tup (rep a k))) else none
  | .fdiv, .int i, .int j => if decide (0 < j) && decide (j < 18446744073709551616) then some (.v (.int (i / j))) else none
  | .xor, .int i, .int j => if decide (0 ≤ i) && decide (0 ≤ j) then some (.v (.int ((i.toNat ^^^ j.toNat : Nat) : Int))) else none
  | .mod, .int i, .int j => if 0 < j then some (.v (.int (i % j))) else none
  | .pow, .int i, .int j => if decide (0 ≤ j) && decide (j ≤ 1000000) && decide (i.natAbs < 2 ^ 64) then some (.v (.int (i ^ j.toNat))) else none
  | _, _, _ => none

/-- scalars -/
def flat : PV → Bool
  | .non => true
  | .bl _ => true
  | .int _ => true
  | .str _ => true
  | _ => false
/-! == of plain data -/
mutual
def peq : PV → PV → Bool
  | .non, .non => true
  | .bl a, .bl b => a == b
  | .bl a, .int j => (if a then 1 else 0) == j
  | .int i, .bl b => i == (if b then 1 else 0)
  | .int i, .int j => i == j
  | .str a, .str b => a == b
  | .lst xs, .lst ys => peqs xs ys
  | .tup xs, .tup ys => peqs xs ys
  | _, _ => false
def peqs : List PV → List PV → Bool
  | [], [] => true
  | x :: xs, y :: ys => peq x y && peqs xs ys
  | _, _ => false
end
/-! plain data that == is asked of: no defs, classes, dicts; texts of true signs; not too deep -/
mutual
def pok : Nat → PV → Bool
  | _, .non => true
  | _, .bl _ => true
  | _, .int _ => true
  | _, .str s => s.all (· < 0x110000)
  | n + 1, .lst xs => poks n xs
  | n + 1, .tup xs => poks n xs
  | _, _ => false
def poks : Nat → List PV → Bool
  | _, [] => true
  | n, x :: xs => pok n x && poks n xs
end
/-- == as the model says it, where it is told -/
def eqB (p q : PV) : Option Bool :=
  match p, q with
  | .int i, .int j => some (i == j)
  | .str a, .str b => some (a == b)
  | .bl a, .bl b => some (a == b)
  | _, _ => if pok 60 p && pok 60 q then some (peq p q) else none

def isB (p q : PV) : Option Bool :=
  match p, q with
  | .non, .non => some true
  | .bl a, .bl b => some (a == b)
  | _, .non => some false
  | _, _ => none

/-! dicts whose keys are ints and texts -/
def isK : PV → Bool
  | .int _ => true
  | .str _ => true
  | _ => false
def keq : PV → PV → Bool
  | .int i, .int j => i == j
  | .str a, .str b => a == b
  | _, _ => false
def dget (ks : List (PV × PV)) (k : PV) : Option PV := (ks.find? fun kv => keq kv.1 k).map (·.2)
def dhas (ks : List (PV × PV)) (k : PV) : Bool := ks.any fun kv => keq kv.1 k
def dput (ks : List (PV × PV)) (k v : PV) : List (PV × PV) := if dhas ks k = true then ks.map (fun kv => if keq kv.1 k = true then (kv.1, v) else kv) else ks ++ [(k, v)]
/-- what a walk of a dict gives: pairs, or keys -/
def dwk (b : Bool) (ks : List (PV × PV)) : List PV := if b = true then ks.map fun kv => .tup [kv.1, kv.2] else ks.map (·.1)

def inB (p q : PV) : Option Bool :=
  match p, q with
  | .str [c], .str b => some (decide (c ∈ b))
  | p, .lst xs => if flat p && xs.all flat then some (xs.any fun y => peq y p) else if pok 59 p && poks 59 xs then some (xs.any fun y => peq y p) else none
  | p, .tup xs => if flat p && xs.all flat then some (xs.any fun y => peq y p) else if pok 59 p && poks 59 xs then some (xs.any fun y => peq y p) else none
  | p, .dct ks => if isK p = true then some (dhas ks p) else none
  | p, .dcf ks => if isK p = true then some (dhas ks p) else none
  | _, _ => none

def cmp : OpC → PV → PV → Option Bool
  | .eq, p, q => eqB p q
  | .ne, p, q => (eqB p q).map (!·)
  | .lt, .int i, .int j => some (decide (i < j))
  | .le, .int i, .int j => some (decide (i ≤ j))
  | .gt, .int i, .int j => some (decide (j < i))
  | .ge, .int i, .int j => some (decide (j ≤ i))
  | .is, p, q => isB p q
  | .isnot, p, q => (isB p q).map (!·)
  | .isin, p, q => inB p q
  | .notin, p, q => (inB p q).map (!·)
  | _, _, _ => none

/-- the place that an index tells -/
def ixN (n : Nat) (i : Int) : Option Nat := if 0 ≤ i then (if i < n then some i.toNat else none) else if -(n : Int) ≤ i then some (i + n).toNat else none
def atI {α : Type} (xs : List α) (i : Int) : Option α := (ixN xs.length i).bind fun j => xs[j]?

def idx : PV → PV → Option PV
  | .lst xs, .int i => atI xs i
  | .tup xs, .int i => atI xs i
  | .str s, .int i => if s.length ≤ SZ then (atI s i).map fun c => .str [c] else none
  | .dct ks, k => if isK k = true then dget ks k else none
  | .dcf ks, k => if isK k = true then dget ks k else none
  | _, _ => none

/-- slices: a place clipped -/
def clip (n d : Nat) : Option Int → Nat
  | none => d
  | some i => if i < 0 then (i + (n : Int)).toNat else min i.toNat n
def cut {α : Type} (xs : List α) (lo hi : Option Int) : List α := (xs.drop (clip xs.length 0 lo)).take (clip xs.length xs.length hi - clip xs.length 0 lo)
def slc : PV → Option Int → Option Int → Option RV
  | .lst xs, lo, hi => some (.new (.lst (cut xs lo hi)))
  | .tup xs, lo, hi => some (.v (.tup (cut xs lo hi)))
  | .str s, lo, hi => if s.length ≤ SZ then some (.v (.str (cut s lo hi))) else none
  | _, _, _ => none
def rvs : PV → Option RV
  | .lst xs => some (.new (.lst xs.reverse))
  | .tup xs => some (.v (.tup xs.reverse))
  | .str s => if s.length ≤ SZ then some (.v (.str s.reverse)) else none
  | _ => none

def blsO : List PV → Option (List Bool)
  | [] => some []
  | .bl b :: r => match blsO r with
    | some bs => some (b :: bs)
    | none => none
  | _ => none
def intsO : List PV → Option (List Int)
  | [] => some []
  | .int b :: r => match intsO r with
    | some bs => some (b :: bs)
    | none => none
  | _ => none
def strsO : List PV → Option (List (List Nat))
  | [] => some []
  | .str b :: r => match strsO r with
    | some bs => some (b :: bs)
    | none => none
  | _ => none
def pairsO : List PV → Option (List (Int × Int))
  | [] => some []
  | .tup [.int a, .int b] :: r => match pairsO r with
    | some bs => some ((a, b) :: bs)
    | none => none
  | _ => none
/-- a dict of pairs: a key that comes again takes the last value -/
def dmerge (ks : List (PV × PV)) : List PV → Option (List (PV × PV))
  | [] => some ks
  | .tup [k, v] :: r => if isK k = true then dmerge (dput ks k v) r else none
  | _ => none
def dpairs (xs : List PV) : Option (List (PV × PV)) := dmerge [] xs
/-- laid in its place -/
def insB {α : Type} (le : α → α → Bool) (x : α) : List α → List α
  | [] => [x]
  | y :: r => if le x y = true then x :: y :: r else y :: insB le x r
def srt {α : Type} (le : α → α → Bool) : List α → List α
  | [] => []
  | x :: r => insB le x (srt le r)
def leI (a b : Int) : Bool := decide (a ≤ b)
def leP (p q : Int × Int) : Bool := decide (p.1 < q.1) || (decide (p.1 = q.1) && decide (p.2 ≤ q.2))
def pairV (p : Int × Int) : PV := .tup [.int p.1, .int p.2]
def foldMin : Int → List Int → Int
  | m, [] => m
  | m, x :: xs => foldMin (if x < m then x else m) xs
def foldMax : Int → List Int → Int
  | m, [] => m
  | m, x :: xs => foldMax (if m < x then x else m) xs
/-- the texts one behind another, the first between them -/
def joined (sep : List Nat) : List (List Nat) → List Nat
  | [] => []
  | [a] => a
  | a :: b :: r => a ++ (sep ++ joined sep (b :: r))

def isi : Ty → PV → Bool
  | .int, .int _ => true
  | .int, .bl _ => true
  | .bool, .bl _ => true
  | .str, .str _ => true
  | .tup, .tup _ => true
  | .lst, .lst _ => true
  | _, _ => false

/-- what a walk goes over, as values -/
def items : PV → Option (List PV)
  | .lst xs => some xs
  | .tup xs => some xs
  | .str s => some (s.map fun c => .str [c])
  | _ => none

/-- an int's text -/
def dgt (i : Int) : List Nat := (toString i).toList.map Char.toNat
/-! repr of plain data: None, bools, ints, tuples -/
mutual
def rpr : PV → List Nat
  | .non => [78, 111, 110, 101]
  | .bl b => if b then [84, 114, 117, 101] else [70, 97, 108, 115, 101]
  | .int i => dgt i
  | .tup xs => 40 :: (joined [44, 32] (rprs xs) ++ (if xs.length = 1 then [44, 41] else [41]))
  | _ => []
def rprs : List PV → List (List Nat)
  | [] => []
  | x :: xs => rpr x :: rprs xs
end
mutual
def rok : Nat → PV → Bool
  | _, .non => true
  | _, .bl _ => true
  | _, .int i => decide (i.natAbs < 2 ^ 1024)
  | n + 1, .tup xs => roks n xs
  | _, _ => false
def roks : Nat → List PV → Bool
  | _, [] => true
  | n, x :: xs => rok n x && roks n xs
end
def bi : Bi → List PV → Option RV
  | .len, [.lst xs] => some (.v (.int xs.length))
  | .len, [.tup xs] => some (.v (.int xs.length))
  | .len, [.str xs] => if xs.length ≤ SZ then some (.v (.int xs.length)) else none
  | .len, [.dct ks] => some (.v (.int ks.length))
  | .len, [.dcf ks] => some (.v (.int ks.length))
  | .all, [.lst xs] => (blsO xs).map fun bs => .v (.bl (bs.all id))
  | .any, [.lst xs] => (blsO xs).map fun bs => .v (.bl (bs.any id))
  | .sum, [.lst xs] => (intsO xs).map fun bs => .v (.int bs.sum)
  | .sum, [.tup xs] => (intsO xs).map fun bs => .v (.int bs.sum)
  | .min1, [.tup xs] => match intsO xs with
    | some (a :: r) => some (.v (.int (foldMin a r)))
    | _ => none
  | .max1, [.tup xs] => match intsO xs with
    | some (a :: r) => some (.v (.int (foldMax a r)))
    | _ => none
  | .min1, [.lst xs] => match intsO xs with
    | some (a :: r) => some (.v (.int (foldMin a r)))
    | _ => none
  | .max1, [.lst xs] => match intsO xs with
    | some (a :: r) => some (.v (.int (foldMax a r)))
    | _ => none
  | .min2, [.int i, .int j] => some (.v (.int (if j < i then j else i)))
  | .max2, [.int i, .int j] => some (.v (.int (if j > i then j else i)))
  | .abs, [.int i] => some (.v (.int (if i < 0 then -i else i)))
  | .int, [.int i] => some (.v (.int i))
  | .int, [.bl b] => some (.v (.int (if b then 1 else 0)))
  | .int, [.str [c]] => if decide (48 ≤ c) && decide (c ≤ 57) then some (.v (.int ((c : Int) - 48))) else none
  | .str, [.str s] => some (.v (.str s))
  | .str, [.int i] => if decide (i.natAbs < 2 ^ 1024) then some (.v (.str (dgt i))) else none
  | .repr, [p] => if rok 60 p && decide ((rpr p).length ≤ SZ) then some (.v (.str (rpr p))) else none
  | .dict, [.lst xs] => (dpairs xs).map fun ks => .new (.dct ks)
  | .sorted, [.dct ks] => match intsO (ks.map (·.1)) with
    | some is => if is.length < 64 then some (.new (.lst ((srt leI is).map .int))) else none
    | none => none
  | .sorted, [.lst xs] => match intsO xs with
    | some is => some (.new (.lst ((srt leI is).map .int)))
    | none => match pairsO xs with
      | some ps => some (.new (.lst ((srt leP ps).map pairV)))
      | none => none
  | .tuple, [.lst xs] => some (.v (.tup xs))
  | .tuple, [.tup xs] => some (.v (.tup xs))
  | .list, [.lst xs] => some (.new (.lst xs))
  | .list, [.tup xs] => some (.new (.lst xs))
  | .list, [.frz xs] => some (.new (.lst xs))
  | .list, [.str s] => if s.length ≤ SZ then some (.new (.lst (s.map fun c => .str [c]))) else none
  | .isi t, [p] => match p with
    | .fn _ => none
    | .cls _ => none
    | .dct _ => none
    | .dcf _ => none
    | .set _ => none
    | .frz _ => none
    | p => some (.v (.bl (isi t p)))
  | _, _ => none

def meG (ks : List (PV × PV)) (k d : PV) : Option RV := if isK k = true then some (.v ((dget ks k).getD d)) else none
/-- a method of a built-in type: what it gives, and what the receiver then holds -/
def me : Me → PV → List PV → Option (RV × PV)
  | .append, .lst xs, [p] => if xs.length < SZ then some (.v .non, .lst (xs ++ [p])) else none
  | .pop0, .lst xs, [] => match xs[xs.length - 1]? with
    | some y => some (.v y, .lst xs.dropLast)
    | none => none
  | .pop1, .lst xs, [.int i] => match ixN xs.length i with
    | some k => match xs[k]? with
      | some y => some (.v y, .lst (xs.eraseIdx k))
      | none => none
    | none => none
  | .join, .str sep, [.lst xs] => match strsO xs with
    | some ss => if (ss.map (·.length)).sum + ss.length * sep.length ≤ SZ then some (.v (.str (joined sep ss)), .str sep) else none
    | none => none
  | .startswith, .str s, [.str t] => some (.v (.bl (t.isPrefixOf s)), .str s)
  | .get1, .dct ks, [k] => (meG ks k .non).map fun r => (r, .non)
  | .get1, .dcf ks, [k] => (meG ks k .non).map fun r => (r, .non)
  | .get2, .dct ks, [k, d] => (meG ks k d).map fun r => (r, .non)
  | .get2, .dcf ks, [k, d] => (meG ks k d).map fun r => (r, .non)
  | _, _, _ => none
/-- the methods that change their receiver: lists -/
def Me.chg : Me → Bool
  | .append => true
  | .pop0 => true
  | .pop1 => true
  | _ => false

/-! ### expressions, statements -/
/-- targets of a for, an assignment -/
inductive Tg where
  | nm (i : Nat) | nil | cons (a b : Tg)

inductive E where
  | var (i : Nat) | int (i : Int) | bl (b : Bool) | non | str (s : List Nat)
  | con (c : Nat) | fnv (f : Nat) | clv (c : Nat)
  | bin (o : Op2) (a b : E) | neg (a : E)
  | cmp (o : OpC) (a b : E) | chn (o o' : OpC) (a b c : E)
  | and (a b : E) | or (a b : E) | not (a : E) | ite (c a b : E)
  | tup (as : E) | lst (as : E)
  | idx (a b : E) | slc (a lo hi : E) | rvs (a : E)
  | call (f : Nat) (as : E) | bi (f : Bi) (as : E) | me (m : Me) (o as : E)
  | rng (lo hi : E) | rng3 (lo hi st : E) | enum (a : E) | zip (a b : E) | ezip (a b : E)
  | lc (elt : E) (tg : Tg) (it : E) (cond : E)
  | dnew | lcd (b : Bool) (elt : E) (tg : Tg) (it : E) (cond : E)
  | dc (b : Bool) (kx vx : E) (tg : Tg) (it : E) (cond : E)
  | nil | cons (a as : E)

inductive S where
  | skip | seq (a b : S)
  | asg (i : Nat) (e : E) | mk (i : Nat) (e : E)
  | tgt (tg : Tg) (e : E) | par (is : List (Nat × Bool)) (as : E)
  | setI (o i e : E) | aug (i : Nat) (o : Op2) (e : E)
  | expr (e : E) | ret (e : E) | retN | ife (c : E) (a b : S)
  | for (tg : Tg) (it : E) (b : S) | whl (c : E) (b : S) | brk | cont
  | raise (c : Nat) (as : E)

structure Cxt where
  call : Nat → List RV → Sto → R RV
  con : Nat → PV
  fuel : Nat

inductive Out where
  | nx | brk | cont | ret (r : RV)

/-- the places of a target's names -/
def tgN : Tg → List Nat
  | .nm i => [i]
  | .nil => []
  | .cons a b => tgN a ++ tgN b
def wipeL (ls : Lcs) : List Nat → Lcs
  | [] => ls
  | v :: vs => (wipeL ls vs).set v none
mutual
def asgT : Tg → PV → Lcs → Option Lcs
  | .nm i, p, ls => some (ls.set i (some (.v p)))
  | .nil, .tup [], ls => some ls
  | .cons a b, .tup xs, ls => asgTs (.cons a b) xs ls
  | _, _, _ => none
def asgTs : Tg → List PV → Lcs → Option Lcs
  | .nil, [], ls => some ls
  | .cons a b, x :: xs, ls => match asgT a x ls with
    | some ls1 => asgTs b xs ls1
    | none => none
  | _, _, _ => none
end

/-- a turn's end -/
def turn (r : R (Out × Lcs)) (k : Lcs → Sto → R (Out × Lcs)) : R (Out × Lcs) := r.bind fun r μ1 => match r.1 with
  | .nx => k r.2 μ1
  | .cont => k r.2 μ1
  | .brk => .ok (.nx, r.2) μ1
  | .ret v => .ok (.ret v, r.2) μ1
/-- a walk over values that stay -/
def loopL (body : PV → Lcs → Sto → R (Out × Lcs)) : List PV → Lcs → Sto → R (Out × Lcs)
  | [], ls, μ => .ok (.nx, ls) μ
  | x :: xs, ls, μ => turn (body x ls μ) fun ls1 μ1 => loopL body xs ls1 μ1
/-- a walk over a list of the store, as it stands at each turn; n: how many there were at the start -/
def loopS (a : Nat) (body : PV → Lcs → Sto → R (Out × Lcs)) : Nat → Nat → Lcs → Sto → R (Out × Lcs)
  | 0, i, ls, μ => match μ[a]? with
    | some (.lst xs) => if xs.length ≤ i then .ok (.nx, ls) μ else .no
    | _ => .no
  | n + 1, i, ls, μ => match μ[a]? with
    | some (.lst xs) => match xs[i]? with
      | some x => turn (body x ls μ) fun ls1 μ1 => loopS a body n (i + 1) ls1 μ1
      | none => .no
    | _ => .no
def loop (rv : RV) (body : PV → Lcs → Sto → R (Out × Lcs)) (ls : Lcs) (μ : Sto) : R (Out × Lcs) := match rv with
  | .v p => match items p with
    | some xs => loopL body xs ls μ
    | none => .no
  | .new p => match items p with
    | some xs => loopL body xs ls μ
    | none => .no
  | .loc a => match μ[a]? with
    | some (.lst xs) => loopS a body xs.length 0 ls μ
    | _ => .no
def snoc (acc : List PV) (r : Option PV) : Option (List PV) := match r with
  | some y => if acc.length < SZ then some (acc ++ [y]) else none
  | none => some acc
def lclL (body : PV → Sto → R (Option PV)) : List PV → List PV → Sto → R (List PV)
  | [], acc, μ => .ok acc μ
  | x :: xs, acc, μ => (body x μ).bind fun r μ1 => match snoc acc r with
    | some acc' => lclL body xs acc' μ1
    | none => .no
def lclS (a : Nat) (body : PV → Sto → R (Option PV)) : Nat → Nat → List PV → Sto → R (List PV)
  | 0, i, acc, μ => match μ[a]? with
    | some (.lst xs) => if xs.length ≤ i then .ok acc μ else .no
    | _ => .no
  | n + 1, i, acc, μ => match μ[a]? with
    | some (.lst xs) => match xs[i]? with
      | some x => (body x μ).bind fun r μ1 => match snoc acc r with
        | some acc' => lclS a body n (i + 1) acc' μ1
        | none => .no
      | none => .no
    | _ => .no
def lcl (rv : RV) (body : PV → Sto → R (Option PV)) (μ : Sto) : R RV := (match rv with
  | .v p => match items p with
    | some xs => lclL body xs [] μ
    | none => .no
  | .new p => match items p with
    | some xs => lclL body xs [] μ
    | none => .no
  | .loc a => match μ[a]? with
    | some (.lst xs) => lclS a body xs.length 0 [] μ
    | _ => .no).bind fun ys μ3 => .ok (.new (.lst ys)) μ3
/-- a comprehension over a dict: it stands locked meanwhile -/
def lcdR (b : Bool) (rv : RV) (body : PV → Sto → R (Option PV)) (μ : Sto) : R RV := match rv with
  | .v (.dct ks) => (lclL body (dwk b ks) [] μ).bind fun ys μ3 => .ok (.new (.lst ys)) μ3
  | .loc n => match μ[n]? with
    | some (.dct ks) => (lclL body (dwk b ks) [] (μ.set n (.dcf ks))).bind fun ys μ3 => match μ3[n]? with
      | some (.dcf ks') => .ok (.new (.lst ys)) (μ3.set n (.dct ks'))
      | _ => .no
    | _ => .no
  | _ => .no
/-- a dict grown by a comprehension over a dict that nobody changes any more -/
def dsnoc (acc : List (PV × PV)) (r : Option (PV × PV)) : Option (List (PV × PV)) := match r with
  | some (k, v) => if isK k && decide (acc.length < SZ) then some (dput acc k v) else none
  | none => some acc
def dclL (body : PV → Sto → R (Option (PV × PV))) : List PV → List (PV × PV) → Sto → R (List (PV × PV))
  | [], acc, μ => .ok acc μ
  | x :: xs, acc, μ => (body x μ).bind fun r μ1 => match dsnoc acc r with
    | some acc' => dclL body xs acc' μ1
    | none => .no
def dcR (b : Bool) (rv : RV) (body : PV → Sto → R (Option (PV × PV))) (μ : Sto) : R RV := match rv with
  | .v (.dct ks) => (dclL body (dwk b ks) [] μ).bind fun ys μ3 => .ok (.new (.dct ys)) μ3
  | _ => .no
def dcP (rk r : RV) : Option (Option (PV × PV)) := match kp rk, kp r with
  | some k, some v => some (some (k, v))
  | _, _ => none
def whl (c : Lcs → Sto → R Bool) (body : Lcs → Sto → R (Out × Lcs)) : Nat → Lcs → Sto → R (Out × Lcs)
  | 0, _, _ => .no
  | n + 1, ls, μ => (c ls μ).bind fun b μ1 => if b = true then turn (body ls μ1) fun ls1 μ2 => whl c body n ls1 μ2 else .ok (.nx, ls) μ1

def toB : RV → Sto → R Bool
  | .v (.bl b), μ => .ok b μ
  | _, _ => .no
def toI : RV → Option Int
  | .v (.int i) => some i
  | _ => none
def rng (i j : Int) : PV := .lst ((List.range (j - i).toNat).map fun k : Nat => .int (i + (k : Int)))
def rngN (i j st : Int) : Nat := (if 0 < st then (if i < j then (j - i - 1) / st + 1 else 0) else (if j < i then (i - j - 1) / (-st) + 1 else 0)).toNat
def rng3 (i j st : Int) : PV := .lst ((List.range (rngN i j st)).map fun k : Nat => .int (i + (k : Int) * st))
def r62 (i : Int) : Bool := decide (-(2 ^ 62) ≤ i) && decide (i < 2 ^ 62)
def enumL : Nat → List PV → List PV
  | _, [] => []
  | k, x :: xs => .tup [.int k, x] :: enumL (k + 1) xs
def rds (μ : Sto) : List RV → Option (List PV)
  | [] => some []
  | r :: rs => match rd μ r, rds μ rs with
    | some p, some ps => some (p :: ps)
    | _, _ => none

/-! the last steps of the expressions, by values -/
def opt2 (f : PV → PV → Option RV) (x y : RV) (μ : Sto) : R RV := match rd μ x, rd μ y with
  | some p, some q => opt (f p q) μ
  | _, _ => .no
def opt1 (f : PV → Option RV) (x : RV) (μ : Sto) : R RV := match rd μ x with
  | some p => opt (f p) μ
  | _ => .no
def cmpR (o : OpC) (p q : PV) : Option RV := (cmp o p q).map fun c => .v (.bl c)
def idxR (p q : PV) : Option RV := (idx p q).map .v
def negR : PV → Option RV
  | .int i => some (.v (.int (-i)))
  | _ => none
def iteB {α : Type} (b : Bool) (x y : R α) : R α := if b = true then x else y
@[simp] theorem iteB_t {α : Type} (x y : R α) : iteB true x y = x := (rfl)
@[simp] theorem iteB_f {α : Type} (x y : R α) : iteB false x y = y := (rfl)
def tupR (rs : List RV) (μ : Sto) : R RV := match kps rs with
  | some ps => if ps.length ≤ SZ then .ok (.v (.tup ps)) μ else .no
  | none => .no
def lstR (rs : List RV) (μ : Sto) : R RV := match kps rs with
  | some ps => if ps.length ≤ SZ then .ok (.new (.lst ps)) μ else .no
  | none => .no
def biR (f : Bi) (rs : List RV) (μ : Sto) : R RV := match rds μ rs with
  | some ps => opt (bi f ps) μ
  | none => .no
/-- the receiver, ahead of the arguments -/
def meK (m : Me) (x : RV) (μ : Sto) : Bool := match x with
  | .loc n => (match μ[n]? with
    | some (.lst _) => m.chg
    | some (.dct _) => !m.chg
    | some (.dcf _) => !m.chg
    | _ => false)
  | _ => true
/-- arguments that may be kept -/
def keepA {α : Type} (m : Me) (rs : List RV) (r : R α) : R α := match m with
  | .join => r
  | _ => match kps rs with
    | some _ => r
    | none => .no
def keepL {α : Type} (m : Me) (rs : List RV) (r : R α) : R α := match m with
  | .join => .no
  | .startswith => .no
  | _ => match kps rs with
    | some _ => r
    | none => .no
def meR (m : Me) (x : RV) (rs : List RV) (μ : Sto) : R RV := match x, rds μ rs with
  | .loc n, some ps => (match μ[n]? with
    | some p => (match me m p ps with
      | some (r, p') => if m.chg then (match kps rs with
        | some _ => .ok r (μ.set n p')
        | none => .no) else keepL m rs (.ok r μ)
      | none => .no)
    | none => .no)
  | .v p, some ps => if m.chg then .no else (match me m p ps with
    | some (r, _) => keepA m rs (.ok r μ)
    | none => .no)
  | _, _ => .no
def rngR (x y : RV) (μ : Sto) : R RV := match toI x, toI y with
  | some i, some j => if r62 i && r62 j then .ok (.v (rng i j)) μ else .no
  | _, _ => .no
def rng3R (x y z : RV) (μ : Sto) : R RV := match toI x, toI y, toI z with
  | some i, some j, some st => if r62 i && r62 j && (decide (st = -1) || (decide (0 < st) && decide (st < 1073741824))) then .ok (.v (rng3 i j st)) μ else .no
  | _, _, _ => .no
def enumR (x : RV) (μ : Sto) : R RV := match kp x with
  | some (.lst xs) => .ok (.v (.lst (enumL 0 xs))) μ
  | some (.tup xs) => .ok (.v (.lst (enumL 0 xs))) μ
  | some (.str s) => .ok (.v (.lst (enumL 0 (s.map fun c => .str [c])))) μ
  | _ => .no
/-- the signs of two texts side by side -/
def zipS (s t : List Nat) : List PV := (s.zip t).map fun p => .tup [.str [p.1], .str [p.2]]
def ezipR (x y : RV) (μ : Sto) : R RV := match kp x, kp y with
  | some (.str s), some (.str t) => if s.length = t.length then .ok (.v (.lst (enumL 0 (zipS s t)))) μ else .no
  | _, _ => .no
def zipR (x y : RV) (μ : Sto) : R RV := match kp x, kp y with
  | some (.lst xs), some (.lst ys) => .ok (.v (.lst ((xs.zip ys).map fun p => .tup [p.1, p.2]))) μ
  | some (.tup xs), some (.tup ys) => .ok (.v (.lst ((xs.zip ys).map fun p => .tup [p.1, p.2]))) μ
  | some (.lst xs), some (.tup ys) => .ok (.v (.lst ((xs.zip ys).map fun p => .tup [p.1, p.2]))) μ
  | _, _ => .no
def lvR (ls : Lcs) (i : Nat) (μ : Sto) : R RV := match ls[i]? with
  | some (some r) => .ok r μ
  | _ => .no

mutual
def ev (C : Cxt) : E → Lcs → Sto → R RV
  | .var i, ls, μ => lvR ls i μ
  | .int i, _, μ => .ok (.v (.int i)) μ
  | .bl b, _, μ => .ok (.v (.bl b)) μ
  | .non, _, μ => .ok (.v .non) μ
  | .str s, _, μ => .ok (.v (.str s)) μ
  | .con c, _, μ => .ok (.v (C.con c)) μ
  | .fnv f, _, μ => .ok (.v (.fn f)) μ
  | .clv f, _, μ => .ok (.v (.cls f)) μ
  | .bin o a b, ls, μ => (ev C a ls μ).bind fun x μ1 => (ev C b ls μ1).bind fun y μ2 => opt2 (bin o) x y μ2
  | .neg a, ls, μ => (ev C a ls μ).bind fun x μ1 => opt1 negR x μ1
  | .cmp o a b, ls, μ => (ev C a ls μ).bind fun x μ1 => (ev C b ls μ1).bind fun y μ2 => opt2 (cmpR o) x y μ2
  | .chn o o' a b c, ls, μ => (ev C a ls μ).bind fun x μ1 => (ev C b ls μ1).bind fun y μ2 => (opt2 (cmpR o) x y μ2).bind fun r μ3 => (toB r μ3).bind fun t μ4 =>
      iteB t ((ev C c ls μ4).bind fun z μ5 => opt2 (cmpR o') y z μ5) (.ok (.v (.bl false)) μ4)
  | .and a b, ls, μ => (ev C a ls μ).bind fun x μ1 => (toB x μ1).bind fun t μ2 => iteB t (ev C b ls μ2) (.ok (.v (.bl false)) μ2)
  | .or a b, ls, μ => (ev C a ls μ).bind fun x μ1 => (toB x μ1).bind fun t μ2 => iteB t (.ok (.v (.bl true)) μ2) (ev C b ls μ2)
  | .not a, ls, μ => (ev C a ls μ).bind fun x μ1 => (toB x μ1).bind fun t μ2 => .ok (.v (.bl (!t))) μ2
  | .ite c a b, ls, μ => (ev C c ls μ).bind fun x μ1 => (toB x μ1).bind fun t μ2 => iteB t (ev C a ls μ2) (ev C b ls μ2)
  | .tup as, ls, μ => (evs C as ls μ).bind fun rs μ1 => tupR rs μ1
  | .lst as, ls, μ => (evs C as ls μ).bind fun rs μ1 => lstR rs μ1
  | .idx a b, ls, μ => (ev C a ls μ).bind fun x μ1 => (ev C b ls μ1).bind fun y μ2 => opt2 idxR x y μ2
  | .slc a lo hi, ls, μ => (ev C a ls μ).bind fun x μ1 => (evo C lo ls μ1).bind fun l μ2 => (evo C hi ls μ2).bind fun h μ3 => opt1 (fun p => slc p l h) x μ3
  | .rvs a, ls, μ => (ev C a ls μ).bind fun x μ1 => opt1 rvs x μ1
  | .call f as, ls, μ => (evs C as ls μ).bind fun rs μ1 => C.call f rs μ1
  | .bi f as, ls, μ => (evs C as ls μ).bind fun rs μ1 => biR f rs μ1
  | .me m o as, ls, μ => (ev C o ls μ).bind fun x μ1 => iteB (meK m x μ1) ((evs C as ls μ1).bind fun rs μ2 => meR m x rs μ2) .no
  | .rng lo hi, ls, μ => (ev C lo ls μ).bind fun x μ1 => (ev C hi ls μ1).bind fun y μ2 => rngR x y μ2
  | .rng3 lo hi st, ls, μ => (ev C lo ls μ).bind fun x μ1 => (ev C hi ls μ1).bind fun y μ2 => (ev C st ls μ2).bind fun z μ3 => rng3R x y z μ3
  | .enum a, ls, μ => (ev C a ls μ).bind fun x μ1 => enumR x μ1
  | .zip a b, ls, μ => (ev C a ls μ).bind fun x μ1 => (ev C b ls μ1).bind fun y μ2 => zipR x y μ2
  | .ezip a b, ls, μ => (ev C a ls μ).bind fun x μ1 => (ev C b ls μ1).bind fun y μ2 => ezipR x y μ2
  | .lc elt tg it cond, ls, μ => (ev C it ls μ).bind fun rv μ1 => lcl rv (fun x μ => match asgT tg x (wipeL ls (tgN tg)) with
      | some ls' => (evc C cond ls' μ).bind fun b μ1 => iteB b ((ev C elt ls' μ1).bind fun r μ2 => opt ((kp r).map some) μ2) (.ok none μ1)
      | none => .no) μ1
  | .dnew, _, μ => .ok (.new (.dct [])) μ
  | .lcd b elt tg it cond, ls, μ => (ev C it ls μ).bind fun rv μ1 => lcdR b rv (fun x μ => match asgT tg x (wipeL ls (tgN tg)) with
      | some ls' => (evc C cond ls' μ).bind fun b μ1 => iteB b ((ev C elt ls' μ1).bind fun r μ2 => opt ((kp r).map some) μ2) (.ok none μ1)
      | none => .no) μ1
  | .dc b kx vx tg it cond, ls, μ => (ev C it ls μ).bind fun rv μ1 => dcR b rv (fun x μ => match asgT tg x (wipeL ls (tgN tg)) with
      | some ls' => (evc C cond ls' μ).bind fun b μ1 => iteB b ((ev C kx ls' μ1).bind fun rk μ2 => (ev C vx ls' μ2).bind fun r μ3 => opt (dcP rk r) μ3) (.ok none μ1)
      | none => .no) μ1
  | .nil, _, _ => .no
  | .cons _ _, _, _ => .no
def evs (C : Cxt) : E → Lcs → Sto → R (List RV)
  | .nil, _, μ => .ok [] μ
  | .cons a as, ls, μ => (ev C a ls μ).bind fun r μ1 => (evs C as ls μ1).bind fun rs μ2 => .ok (r :: rs) μ2
  | _, _, _ => .no
/-- a bound of a slice, told or not -/
def evo (C : Cxt) : E → Lcs → Sto → R (Option Int)
  | .nil, _, μ => .ok none μ
  | .cons a _, ls, μ => (ev C a ls μ).bind fun r μ1 => opt ((toI r).map some) μ1
  | _, _, _ => .no
/-- a test of a comprehension, told or not -/
def evc (C : Cxt) : E → Lcs → Sto → R Bool
  | .nil, _, μ => .ok true μ
  | .cons a _, ls, μ => (ev C a ls μ).bind fun r μ1 => toB r μ1
  | _, _, _ => .no
end

/-- the values given to names, fresh containers laid in the store where so told -/
def parA : List (Nat × Bool) → List RV → Lcs → Sto → R (Out × Lcs)
  | [], [], ls, μ => .ok (.nx, ls) μ
  | (i, k) :: is, r :: rs, ls, μ => match k, r with
    | true, .new p => parA is rs (ls.set i (some (.loc μ.length))) (μ ++ [p])
    | false, .new p => parA is rs (ls.set i (some (.v p))) μ
    | _, .v p => parA is rs (ls.set i (some (.v p))) μ
    | _, .loc n => parA is rs (ls.set i (some (.loc n))) μ
  | _, _, _, _ => .no

def setP : PV → PV → PV → Option PV
  | .lst xs, .int i, v => (ixN xs.length i).map fun j => .lst (xs.set j v)
  | .dct ks, k, v => if isK k && decide (ks.length < SZ) then some (.dct (dput ks k v)) else none
  | _, _, _ => none

/-- a plain store to a name -/
def asgR (i : Nat) (r : RV) (ls : Lcs) (μ : Sto) : R (Out × Lcs) := match r with
  | .new p => .ok (.nx, ls.set i (some (.v p))) μ
  | r => .ok (.nx, ls.set i (some r)) μ
/-- a container just made, given to a name that changes it -/
def mkR (i : Nat) (r : RV) (ls : Lcs) (μ : Sto) : R (Out × Lcs) := match r with
  | .new p => .ok (.nx, ls.set i (some (.loc μ.length))) (μ ++ [p])
  | _ => .no
def tgtR (tg : Tg) (r : RV) (ls : Lcs) (μ : Sto) : R (Out × Lcs) := match kp r with
  | some p => (match asgT tg p ls with
    | some ls' => .ok (.nx, ls') μ
    | none => .no)
  | none => .no
def setR (x y r : RV) (ls : Lcs) (μ : Sto) : R (Out × Lcs) := match x, kp y, kp r with
  | .loc n, some q, some p => (match μ[n]? with
    | some c => (match setP c q p with
      | some c' => .ok (.nx, ls) (μ.set n c')
      | none => .no)
    | none => .no)
  | _, _, _ => .no
def augR (i : Nat) (o : Op2) (x : RV) (r : RV) (ls : Lcs) (μ : Sto) : R (Out × Lcs) := match x with
  | .v p => (match p, kp r with
    | .lst _, _ => .no
    | p, some q => (match bin o p q with
      | some (.v z) => .ok (.nx, ls.set i (some (.v z))) μ
      | _ => .no)
    | _, none => .no)
  | .loc n => (match o, μ[n]?, rd μ r with
    | .add, some (.lst xs), some (.lst ys) => if xs.length + ys.length ≤ SZ then .ok (.nx, ls) (μ.set n (.lst (xs ++ ys))) else .no
    | _, _, _ => .no)
  | .new _ => .no

def seqR (r : R (Out × Lcs)) (k : Lcs → Sto → R (Out × Lcs)) : R (Out × Lcs) := r.bind fun r μ1 => match r.1 with
  | .nx => k r.2 μ1
  | .brk => .ok (.brk, r.2) μ1
  | .cont => .ok (.cont, r.2) μ1
  | .ret v => .ok (.ret v, r.2) μ1

def ex (C : Cxt) : S → Lcs → Sto → R (Out × Lcs)
  | .skip, ls, μ => .ok (.nx, ls) μ
  | .seq a b, ls, μ => seqR (ex C a ls μ) fun ls1 μ1 => ex C b ls1 μ1
  | .asg i e, ls, μ => (ev C e ls μ).bind fun r μ1 => asgR i r ls μ1
  | .mk i e, ls, μ => (ev C e ls μ).bind fun r μ1 => mkR i r ls μ1
  | .tgt tg e, ls, μ => (ev C e ls μ).bind fun r μ1 => tgtR tg r ls μ1
  | .par is as, ls, μ => (evs C as ls μ).bind fun rs μ1 => parA is rs ls μ1
  | .setI o i e, ls, μ => (ev C e ls μ).bind fun r μ1 => (ev C o ls μ1).bind fun x μ2 => (ev C i ls μ2).bind fun y μ3 => setR x y r ls μ3
  | .aug i o e, ls, μ => (lvR ls i μ).bind fun x μ1 => (ev C e ls μ1).bind fun r μ2 => augR i o x r ls μ2
  | .expr e, ls, μ => (ev C e ls μ).bind fun _ μ1 => .ok (.nx, ls) μ1
  | .ret e, ls, μ => (ev C e ls μ).bind fun r μ1 => .ok (.ret r, ls) μ1
  | .retN, ls, μ => .ok (.ret (.v .non), ls) μ
  | .ife c a b, ls, μ => (ev C c ls μ).bind fun r μ1 => (toB r μ1).bind fun t μ2 => iteB t (ex C a ls μ2) (ex C b ls μ2)
  | .for tg it b, ls, μ => (ev C it ls μ).bind fun rv μ1 => loop rv (fun x ls μ => match asgT tg x ls with
    | some ls' => ex C b ls' μ
    | none => .no) ls μ1
  | .whl c b, ls, μ => whl (fun ls μ => (ev C c ls μ).bind toB) (fun ls μ => ex C b ls μ) C.fuel ls μ
  | .brk, ls, μ => .ok (.brk, ls) μ
  | .cont, ls, μ => .ok (.cont, ls) μ
  | .raise c as, ls, μ => (evs C as ls μ).bind fun rs μ1 => match kps rs with
    | some ps => .ex ⟨c, ps⟩ μ1
    | none => .no

/-- a def: how many parameters, how many names, its body -/
structure Fn where
  ps : Nat
  ns : Nat
  body : S

/-- what a call leaves: containers that it made are dropped but the one that it hands back -/
def leave (n0 : Nat) : RV → Sto → R RV
  | .loc n, μ => if n < n0 then .ok (.loc n) (μ.take n0) else match μ[n]? with
    | some (.dcf _) => .no
    | some p => .ok (.new p) (μ.take n0)
    | none => .no
  | r, μ => .ok r (μ.take n0)

/-- arguments as a def's names hold them -/
def argL : RV → Option RV
  | .new p => some (.v p)
  | r => some r

def run (T : Nat → Option Fn) (con : Nat → PV) (fuel : Nat) : Nat → Nat → List RV → Sto → R RV
  | 0, _, _, _ => .no
  | k + 1, f, rs, μ => match T f with
    | none => .no
    | some F => if rs.length = F.ps then
        (match ex ⟨run T con fuel k, con, fuel⟩ F.body (rs.map argL ++ List.replicate (F.ns - F.ps) none) μ with
        | .ok (.ret r, _) μ1 => leave μ.length r μ1
        | .ok (.nx, _) μ1 => .ok (.v .non) (μ1.take μ.length)
        | .ok _ _ => .no
        | .ex x μ1 => .ex x (μ1.take μ.length)
        | .no => .no)
      else .no

end Z

set_option maxHeartbeats 2000000
/-! Z over the hand layer: what values of the interpreter stand for. -/
namespace Z
open PySem PySem.Spec L2

/-- the addresses of the store's containers; those of others that may be written meanwhile -/
structure Pr where
  st : List Addr
  fo : List Addr
abbrev Pr.W (ρ : Pr) : List Addr := ρ.st ++ ρ.fo
/-- where the module's defs and classes stand -/
structure GE where
  fn : Nat → Addr
  cls : Nat → Addr

/-- the key that a value is -/
inductive KeyR : PV → Key → Prop
  | int (i : Int) : KeyR (.int i) (.inl i)
  | str (s : List Nat) : KeyR (.str s) (.inr ⟨s.toArray⟩)
mutual
/-- p is what v stands for; W: the addresses that may be written -/
inductive Rep (K : PySem.W.Frag) (G : GE) (W : List Addr) (H : Hp) : PV → V → Prop
  | non : Rep K G W H .non .non
  | bl (b : Bool) : Rep K G W H (.bl b) (.bl b)
  | int (i : Int) : Rep K G W H (.int i) (.int i)
  | str (s : List Nat) : Rep K G W H (.str s) (.str ⟨s.toArray⟩)
  | tup {a : Addr} {xs : List V} {ps : List PV} : H a = some (.tup xs) → a ∉ W → Reps K G W H ps xs → Rep K G W H (.tup ps) (.ref a)
  | lst {a : Addr} {xs : List V} {ps : List PV} : H a = some (.lst xs) → a ∉ W → Reps K G W H ps xs → Rep K G W H (.lst ps) (.ref a)
  | frz {a : Addr} {o : Obj} {xs : List V} {ps : List PV} : H a = some (.frz o (.lst xs)) → a ∉ W → Reps K G W H ps xs → Rep K G W H (.frz ps) (.ref a)
  | tupK {a : Addr} {o : Obj} {its : Array Value} {n : Nat} {xs : List V} {ps : List PV} : K.lookup a = some o → o.cls = .type "tuple" → o.data = .seq its n → its.size ≤ sizeLine → Vals xs its.toList → Reps K G W H ps xs → Rep K G W H (.tup ps) (.ref a)
  | frzK {a : Addr} {o : Obj} {its : Array Value} {n : Nat} {xs : List V} {ps : List PV} : K.lookup a = some o → o.cls = .type "list" → o.dict = none → o.data = .seq its n → its.size ≤ sizeLine → Vals xs its.toList → Reps K G W H ps xs → Rep K G W H (.frz ps) (.ref a)
  | fn (f : Nat) : Rep K G W H (.fn f) (.ref (G.fn f))
  | cls (f : Nat) : Rep K G W H (.cls f) (.ref (G.cls f))
  | dct {a : Addr} {ds : List (Key × V)} {ks : List (PV × PV)} : Rd H a (.dK ds) → a ∉ W → RepD K G W H ks ds → Rep K G W H (.dct ks) (.ref a)
inductive Reps (K : PySem.W.Frag) (G : GE) (W : List Addr) (H : Hp) : List PV → List V → Prop
  | nil : Reps K G W H [] []
  | cons {p : PV} {v : V} {ps : List PV} {vs : List V} : Rep K G W H p v → Reps K G W H ps vs → Reps K G W H (p :: ps) (v :: vs)
inductive RepD (K : PySem.W.Frag) (G : GE) (W : List Addr) (H : Hp) : List (PV × PV) → List (Key × V) → Prop
  | nil : RepD K G W H [] []
  | cons {k p : PV} {q : Key} {v : V} {ks : List (PV × PV)} {ds : List (Key × V)} : KeyR k q → Rep K G W H p v → RepD K G W H ks ds → RepD K G W H ((k, p) :: ks) ((q, v) :: ds)
end

def isF : HO → Bool
  | .frz _ _ => true
  | _ => false
/-- all that is told but what may be written stays; what is locked stays -/
def Frame (W : List Addr) (H H' : Hp) : Prop := ∀ b o, H b = some o → b ∉ W ∨ isF o = true → H' b = some o
def Dom (H H' : Hp) : Prop := ∀ b, H b ≠ none → H' b ≠ none

section
variable {K : PySem.W.Frag} {G : GE} {W W' : List Addr} {H H' : Hp}
theorem rd_ne {a : Addr} {u : HO} (h : H a = some u) : H a ≠ none := by
  rw [h]; simp
theorem Rd.ne {a : Addr} {u : HO} (h : Rd H a u) : H a ≠ none := h.elim rd_ne fun ⟨_, h⟩ => rd_ne h
theorem Rd.fr {a : Addr} {u : HO} (f : Frame W H H') (h : Rd H a u) (n : a ∉ W) : Rd H' a u := h.elim (fun h => .inl (f _ _ h (.inl n))) fun ⟨o, h⟩ => .inr ⟨o, f _ _ h (.inl n)⟩
mutual
theorem Rep.ext (f : Frame W H H') (w : ∀ a ∈ W', a ∈ W ∨ H a = none) : ∀ {p : PV} {v : V}, Rep K G W H p v → Rep K G W' H' p v
  | _, _, .non => .non
  | _, _, .bl b => .bl b
  | _, _, .int b => .int b
  | _, _, .str b => .str b
  | _, _, .tup h n r => .tup (f _ _ h (.inl n)) (fun z => (w _ z).elim n (rd_ne h)) (Reps.ext f w r)
  | _, _, .lst h n r => .lst (f _ _ h (.inl n)) (fun z => (w _ z).elim n (rd_ne h)) (Reps.ext f w r)
  | _, _, .frz h n r => .frz (f _ _ h (.inl n)) (fun z => (w _ z).elim n (rd_ne h)) (Reps.ext f w r)
  | _, _, .tupK h1 h2 h3 h4 h5 r => .tupK h1 h2 h3 h4 h5 (Reps.ext f w r)
  | _, _, .frzK h1 h2 h3 h4 h5 h6 r => .frzK h1 h2 h3 h4 h5 h6 (Reps.ext f w r)
  | _, _, .fn b => .fn b
  | _, _, .cls b => .cls b
  | _, _, .dct h n r => .dct (Rd.fr f h n) (fun z => (w _ z).elim n (Rd.ne h)) (RepD.ext f w r)
theorem Reps.ext (f : Frame W H H') (w : ∀ a ∈ W', a ∈ W ∨ H a = none) : ∀ {p : List PV} {v : List V}, Reps K G W H p v → Reps K G W' H' p v
  | _, _, .nil => .nil
  | _, _, .cons r rs => .cons (Rep.ext f w r) (Reps.ext f w rs)
theorem RepD.ext (f : Frame W H H') (w : ∀ a ∈ W', a ∈ W ∨ H a = none) : ∀ {p : List (PV × PV)} {v : List (Key × V)}, RepD K G W H p v → RepD K G W' H' p v
  | _, _, .nil => .nil
  | _, _, .cons k r rs => .cons k (Rep.ext f w r) (RepD.ext f w rs)
end
theorem RepD.length : ∀ {p : List (PV × PV)} {v : List (Key × V)}, RepD K G W H p v → p.length = v.length
  | _, _, .nil => rfl
  | _, _, .cons _ _ rs => by simp [RepD.length rs]
theorem Reps.length : ∀ {p : List PV} {v : List V}, Reps K G W H p v → p.length = v.length
  | _, _, .nil => rfl
  | _, _, .cons _ rs => by simp [Reps.length rs]
theorem Reps.get : ∀ {ps : List PV} {vs : List V} {i : Nat} {p : PV}, Reps K G W H ps vs → ps[i]? = some p → ∃ v, vs[i]? = some v ∧ Rep K G W H p v
  | _, _, _, _, .nil, e => by simp at e
  | _, _, 0, _, .cons r _, e => by simp at e; subst e; exact ⟨_, rfl, r⟩
  | _, _, i + 1, _, .cons _ rs, e => by
    obtain ⟨v, h1, h2⟩ := Reps.get (i := i) rs (by simpa using e)
    exact ⟨v, by simpa using h1, h2⟩
theorem Reps.append : ∀ {ps qs : List PV} {vs us : List V}, Reps K G W H ps vs → Reps K G W H qs us → Reps K G W H (ps ++ qs) (vs ++ us)
  | _, _, _, _, .nil, s => s
  | _, _, _, _, .cons r rs, s => .cons r (Reps.append rs s)
theorem Reps.take : ∀ {ps : List PV} {vs : List V} (n : Nat), Reps K G W H ps vs → Reps K G W H (ps.take n) (vs.take n)
  | _, _, 0, _ => .nil
  | _, _, _ + 1, .nil => .nil
  | _, _, n + 1, .cons r rs => .cons r (Reps.take n rs)
theorem Reps.drop : ∀ {ps : List PV} {vs : List V} (n : Nat), Reps K G W H ps vs → Reps K G W H (ps.drop n) (vs.drop n)
  | _, _, 0, r => r
  | _, _, _ + 1, .nil => .nil
  | _, _, n + 1, .cons _ rs => Reps.drop n rs
theorem Reps.reverse : ∀ {ps : List PV} {vs : List V}, Reps K G W H ps vs → Reps K G W H ps.reverse vs.reverse
  | _, _, .nil => .nil
  | _, _, .cons r rs => by
    simp only [List.reverse_cons]
    exact (Reps.reverse rs).append (.cons r .nil)
theorem Reps.set {p : PV} {v : V} (r : Rep K G W H p v) : ∀ {ps : List PV} {vs : List V} (i : Nat), Reps K G W H ps vs → Reps K G W H (ps.set i p) (vs.set i v)
  | _, _, _, .nil => .nil
  | _, _, 0, .cons _ t => .cons r t
  | _, _, i + 1, .cons q t => .cons q (Reps.set r i t)
theorem Reps.eraseIdx : ∀ {ps : List PV} {vs : List V} (i : Nat), Reps K G W H ps vs → Reps K G W H (ps.eraseIdx i) (vs.eraseIdx i)
  | _, _, _, .nil => .nil
  | _, _, 0, .cons _ t => t
  | _, _, i + 1, .cons q t => .cons q (Reps.eraseIdx i t)
theorem Reps.dropLast : ∀ {ps : List PV} {vs : List V}, Reps K G W H ps vs → Reps K G W H ps.dropLast vs.dropLast
  | _, _, .nil => .nil
  | _, _, .cons r .nil => .nil
  | _, _, .cons r (.cons q t) => .cons r (Reps.dropLast (.cons q t))
theorem Reps.rep {ps : List PV} {vs : List V} (r : Reps K G W H ps vs) : ∀ n : Nat, Reps K G W H (List.replicate n ps).flatten (List.replicate n vs).flatten
  | 0 => .nil
  | n + 1 => by
    simp only [List.replicate_succ, List.flatten_cons]
    exact r.append (Reps.rep r n)

/-- p is what v is now read as -/
inductive Rr (K : PySem.W.Frag) (G : GE) (W : List Addr) (H : Hp) : PV → V → Prop
  | non : Rr K G W H .non .non
  | bl (b : Bool) : Rr K G W H (.bl b) (.bl b)
  | int (i : Int) : Rr K G W H (.int i) (.int i)
  | str (s : List Nat) : Rr K G W H (.str s) (.str ⟨s.toArray⟩)
  | tup {a : Addr} {xs : List V} {ps : List PV} : SqT K H a xs → Reps K G W H ps xs → Rep K G W H (.tup ps) (.ref a) → Rr K G W H (.tup ps) (.ref a)
  | lst {a : Addr} {xs : List V} {ps : List PV} : H a = some (.lst xs) → Reps K G W H ps xs → Rr K G W H (.lst ps) (.ref a)
  | frz {a : Addr} {xs : List V} {ps : List PV} : SqL K H a xs → Reps K G W H ps xs → Rr K G W H (.frz ps) (.ref a)
  | fn (f : Nat) : Rr K G W H (.fn f) (.ref (G.fn f))
  | cls (f : Nat) : Rr K G W H (.cls f) (.ref (G.cls f))
  | dct {a : Addr} {ds : List (Key × V)} {ks : List (PV × PV)} : Rd H a (.dK ds) → RepD K G W H ks ds → Rr K G W H (.dct ks) (.ref a)
  | dcf {a : Addr} {ds : List (Key × V)} {ks : List (PV × PV)} : Rd H a (.dK ds) → RepD K G W H ks ds → Rr K G W H (.dcf ks) (.ref a)
theorem Rep.rr {p : PV} {v : V} (r : Rep K G W H p v) : Rr K G W H p v := by
  cases r with
  | non => exact .non
  | bl b => exact .bl b
  | int b => exact .int b
  | str b => exact .str b
  | tup h n r => exact .tup (.inl (.inl h)) r (.tup h n r)
  | lst h n r => exact .lst h r
  | frz h n r => exact .frz (.inl (.inr ⟨_, h⟩)) r
  | frzK h1 h2 h3 h4 h5 h6 r => exact .frz (.inr ⟨_, _, _, h1, h2, h3, h4, h5, h6⟩) r
  | tupK h1 h2 h3 h4 h5 r => exact .tup (.inr ⟨_, _, _, h1, h2, h3, h4, h5⟩) r (.tupK h1 h2 h3 h4 h5 r)
  | fn f => exact .fn f
  | cls f => exact .cls f
  | dct h n r => exact .dct h r
end
/-- what a container that is changed holds -/
inductive Con (K : PySem.W.Frag) (G : GE) (W : List Addr) (H : Hp) : PV → HO → Prop
  | lst {ps : List PV} {xs : List V} : Reps K G W H ps xs → Con K G W H (.lst ps) (.lst xs)
  | dct {ks : List (PV × PV)} {ds : List (Key × V)} : RepD K G W H ks ds → Con K G W H (.dct ks) (.dK ds)
  | dcf {ks : List (PV × PV)} {ds : List (Key × V)} {o : Obj} : RepD K G W H ks ds → Con K G W H (.dcf ks) (.frz o (.dK ds))
section
variable {K : PySem.W.Frag} {G : GE} {W W' : List Addr} {H H' : Hp}
theorem Con.ext (f : Frame W H H') (w : ∀ a ∈ W', a ∈ W ∨ H a = none) {p : PV} {o : HO} (c : Con K G W H p o) : Con K G W' H' p o := by
  cases c with
  | lst r => exact .lst (r.ext f w)
  | dct r => exact .dct (r.ext f w)
  | dcf r => exact .dcf (r.ext f w)
theorem Con.sub {p : PV} {o : HO} (c : Con K G W H p o) (h : ∀ a ∈ W', a ∈ W) : Con K G W' H p o := c.ext (fun _ _ e _ => e) fun a ha => .inl (h a ha)
theorem Con.rr {p : PV} {o : HO} {a : Addr} (c : Con K G W H p o) (h : H a = some o) : Rr K G W H p (.ref a) := by
  cases c with
  | lst r => exact .lst h r
  | dct r => exact .dct (.inl h) r
  | dcf r => exact .dcf (.inr ⟨_, h⟩) r
theorem Con.rep {p : PV} {o : HO} {a : Addr} (c : Con K G W H p o) (h : H a = some o) (n : a ∉ W) (f : isF o = false) : Rep K G W H p (.ref a) := by
  cases c with
  | lst r => exact .lst h n r
  | dct r => exact .dct (.inl h) n r
  | dcf r => cases f
end

/-! ### the store, the names -/
def StO (K : PySem.W.Frag) (G : GE) (W : List Addr) (H : Hp) (a : Addr) (p : PV) : Prop := ∃ o, H a = some o ∧ Con K G W H p o
structure RelSt (K : PySem.W.Frag) (G : GE) (ρ : Pr) (μ : Sto) (H : Hp) : Prop where
  nd : ρ.st.Nodup
  pr : Paired (StO K G ρ.W H) ρ.st μ
  fl : ∀ a ∈ ρ.fo, H a ≠ none ∧ a ∉ ρ.st
structure Ext (ρ : Pr) (H : Hp) (ρ' : Pr) (H' : Hp) : Prop where
  more : ∃ new, ρ'.st = ρ.st ++ new ∧ ∀ a ∈ new, H a = none
  fo : ρ'.fo = ρ.fo
  frame : Frame ρ.st H H'
  dom : Dom H H'
def Pr.add (ρ : Pr) (a : Addr) : Pr := ⟨ρ.st, a :: ρ.fo⟩
def RepL (K : PySem.W.Frag) (G : GE) (ρ : Pr) (H : Hp) : RV → V → Prop
  | .v p, v => Rep K G ρ.W H p v
  | .loc n, v => ∃ a, ρ.st[n]? = some a ∧ v = .ref a
  | .new _, _ => False
/-- an expression's value, while others are run -/
def RepP (K : PySem.W.Frag) (G : GE) (ρ : Pr) (H : Hp) : RV → V → Prop
  | .v p, v => Rep K G ρ.W H p v
  | .loc n, v => ∃ a, ρ.st[n]? = some a ∧ v = .ref a
  | .new p, v => ∃ a o, v = .ref a ∧ a ∉ ρ.W ∧ H a = some o ∧ isF o = false ∧ Con K G ρ.W H p o
/-- an expression's value; H₀: ahead of it; a container just made is nobody else's -/
def RepR (K : PySem.W.Frag) (G : GE) (H₀ : Hp) (ρ : Pr) (μ : Sto) (H : Hp) : RV → V → Prop
  | .v p, v => Rep K G ρ.W H p v
  | .loc n, v => ∃ a, ρ.st[n]? = some a ∧ v = .ref a
  | .new p, v => ∃ a o, v = .ref a ∧ H₀ a = none ∧ a ∉ ρ.W ∧ H a = some o ∧ isF o = false ∧ Con K G (ρ.add a).W H p o ∧ RelSt K G (ρ.add a) μ H
def RelL (K : PySem.W.Frag) (G : GE) (ρ : Pr) (H : Hp) (ls : Lcs) (σ : St) : Prop := Paired (fun (o : Option RV) (w : Option V) => ∀ r, o = some r → ∃ v, w = some v ∧ RepL K G ρ H r v) ls σ

section
variable {K : PySem.W.Frag} {G : GE} {ρ ρ₁ ρ₂ : Pr} {H H₀ H₁ H₂ : Hp} {μ μ₁ : Sto}
theorem Ext.refl (ρ : Pr) (H : Hp) : Ext ρ H ρ H := ⟨⟨[], by simp, by simp⟩, rfl, fun _ _ h _ => h, fun _ h => h⟩
theorem Ext.trans (a : Ext ρ H ρ₁ H₁) (b : Ext ρ₁ H₁ ρ₂ H₂) : Ext ρ H ρ₂ H₂ := by
  obtain ⟨n1, e1, f1⟩ := a.more
  obtain ⟨n2, e2, f2⟩ := b.more
  refine ⟨⟨n1 ++ n2, by rw [e2, e1, List.append_assoc], fun x hx => ?_⟩, b.fo.trans a.fo, fun x o h hn => ?_, fun x h => b.dom x (a.dom x h)⟩
  · rcases List.mem_append.mp hx with h | h
    · exact f1 x h
    · cases q : H x with
      | none => rfl
      | some o => exact absurd (f2 x h) (a.dom x (by rw [q]; simp))
  · refine b.frame x o (a.frame x o h hn) (hn.imp (fun hn z => ?_) id)
    rw [e1] at z
    rcases List.mem_append.mp z with z | z
    · exact hn z
    · rw [f1 x z] at h; cases h
theorem Ext.memS (a : Ext ρ H ρ₁ H₁) : ∀ x ∈ ρ₁.st, x ∈ ρ.st ∨ H x = none := fun x hx => by
  obtain ⟨n1, e1, f1⟩ := a.more
  rw [e1] at hx
  exact (List.mem_append.mp hx).imp id (f1 x)
theorem Ext.mem (a : Ext ρ H ρ₁ H₁) : ∀ x ∈ ρ₁.W, x ∈ ρ.W ∨ H x = none := fun x hx => by
  rcases List.mem_append.mp hx with h | h
  · exact (a.memS x h).imp (fun z => List.mem_append_left _ z) id
  · rw [a.fo] at h
    exact .inl (List.mem_append_right _ h)
theorem Ext.frW (a : Ext ρ H ρ₁ H₁) : Frame ρ.W H H₁ := fun b o h hn => a.frame b o h (hn.imp (fun hn z => hn (List.mem_append_left _ z)) id)
theorem Ext.rep (e : Ext ρ H ρ₁ H₁) {p : PV} {v : V} (r : Rep K G ρ.W H p v) : Rep K G ρ₁.W H₁ p v := r.ext e.frW e.mem
theorem Ext.reps (e : Ext ρ H ρ₁ H₁) {p : List PV} {v : List V} (r : Reps K G ρ.W H p v) : Reps K G ρ₁.W H₁ p v := r.ext e.frW e.mem
theorem Ext.get (e : Ext ρ H ρ₁ H₁) {n : Nat} {a : Addr} (h : ρ.st[n]? = some a) : ρ₁.st[n]? = some a := by
  obtain ⟨n1, e1, f1⟩ := e.more
  rw [e1, List.getElem?_append_left (List.getElem?_eq_some_iff.mp h).1, h]
theorem Ext.repL (e : Ext ρ H ρ₁ H₁) : ∀ {r : RV} {v : V}, RepL K G ρ H r v → RepL K G ρ₁ H₁ r v
  | .v _, _, h => e.rep h
  | .loc _, _, ⟨a, h, q⟩ => ⟨a, e.get h, q⟩
  | .new _, _, h => h
theorem Ext.free (e : Ext ρ H ρ₁ H₁) {a : Addr} (h : H₁ a = none) : H a = none := by
  cases q : H a with
  | none => rfl
  | some o => exact absurd h (e.dom a (by rw [q]; simp))
theorem Ext.repP (e : Ext ρ₁ H₁ ρ₂ H₂) : ∀ {r : RV} {v : V}, RepP K G ρ₁ H₁ r v → RepP K G ρ₂ H₂ r v
  | .v _, _, h => e.rep h
  | .loc _, _, ⟨a, h, q⟩ => ⟨a, e.get h, q⟩
  | .new _, _, ⟨a, o, h1, h4, h5, hf, h6⟩ => ⟨a, o, h1, fun z => (e.mem a z).elim h4 (fun q => by rw [h5] at q; exact nomatch q), e.frW _ _ h5 (.inl h4), hf, h6.ext e.frW e.mem⟩
theorem sub_add {ρ : Pr} {a x : Addr} (h : x ∈ ρ.W) : x ∈ (ρ.add a).W := by
  rcases List.mem_append.mp h with h | h
  · exact List.mem_append_left _ h
  · exact List.mem_append_right _ (List.mem_cons_of_mem _ h)
theorem mem_add {ρ : Pr} {a x : Addr} (h : x ∈ (ρ.add a).W) : x = a ∨ x ∈ ρ.W := by
  rcases List.mem_append.mp h with h | h
  · exact .inr (List.mem_append_left _ h)
  · rcases List.mem_cons.mp h with h | h
    · exact .inl h
    · exact .inr (List.mem_append_right _ h)
theorem Reps.sub {W W' : List Addr} {ps : List PV} {vs : List V} (r : Reps K G W H ps vs) (h : ∀ a ∈ W', a ∈ W) : Reps K G W' H ps vs := r.ext (fun _ _ e _ => e) fun a ha => .inl (h a ha)
theorem Rep.sub {W W' : List Addr} {ps : PV} {vs : V} (r : Rep K G W H ps vs) (h : ∀ a ∈ W', a ∈ W) : Rep K G W' H ps vs := r.ext (fun _ _ e _ => e) fun a ha => .inl (h a ha)
theorem RepR.p : ∀ {r : RV} {v : V}, RepR K G H₀ ρ μ H r v → RepP K G ρ H r v
  | .v _, _, h => h
  | .loc _, _, h => h
  | .new _, _, ⟨a, o, h1, h3, h4, h5, hf, h6, h7⟩ => ⟨a, o, h1, h4, h5, hf, h6.sub fun _ z => sub_add z⟩
/-- fresh ahead of an earlier heap -/
theorem RepR.back (e : Ext ρ H ρ₁ H₁) : ∀ {r : RV} {v : V}, RepR K G H₁ ρ₂ μ H₂ r v → RepR K G H ρ₂ μ H₂ r v
  | .v _, _, h => h
  | .loc _, _, h => h
  | .new _, _, ⟨a, o, h1, h3, h4⟩ => ⟨a, o, h1, e.free h3, h4⟩
theorem Ext.relL (e : Ext ρ H ρ₁ H₁) {ls : Lcs} {σ : St} (r : RelL K G ρ H ls σ) : RelL K G ρ₁ H₁ ls σ := Paired.mapP r fun o w h q hq => by
  obtain ⟨v, e1, e2⟩ := h q hq
  exact ⟨v, e1, e.repL e2⟩
theorem RelL.get : ∀ {ls : Lcs} {σ : St} {i : Nat} {r : RV}, RelL K G ρ H ls σ → ls[i]? = some (some r) → ∃ v, σ[i]? = some (some v) ∧ RepL K G ρ H r v
  | _, _, _, _, .nil, e => by simp at e
  | _, _, 0, _, .cons h _, e => by
    simp at e
    obtain ⟨v, e1, e2⟩ := h _ e
    exact ⟨v, by simp [e1], e2⟩
  | _, _, i + 1, _, .cons _ t, e => by
    obtain ⟨v, h1, h2⟩ := RelL.get (i := i) t (by simpa using e)
    exact ⟨v, by simpa using h1, h2⟩
theorem RelL.set {r : RV} {v : V} (h : RepL K G ρ H r v) : ∀ {ls : Lcs} {σ : St} (i : Nat), RelL K G ρ H ls σ → RelL K G ρ H (ls.set i (some r)) (σ.set i (some v))
  | _, _, _, .nil => .nil
  | _, _, 0, .cons _ t => .cons (fun q hq => ⟨v, rfl, by cases hq; exact h⟩) t
  | _, _, i + 1, .cons q t => .cons q (RelL.set h i t)
theorem RelL.length {ls : Lcs} {σ : St} (r : RelL K G ρ H ls σ) : ls.length = σ.length := Paired.length r
theorem pair_get {α β : Type} {F : α → β → Prop} : ∀ {xs : List α} {ys : List β} {i : Nat} {x : α}, Paired F xs ys → xs[i]? = some x → ∃ y, ys[i]? = some y ∧ F x y
  | _, _, _, _, .nil, e => by simp at e
  | _, _, 0, _, .cons r _, e => by simp at e; subst e; exact ⟨_, rfl, r⟩
  | _, _, i + 1, _, .cons _ t, e => by
    obtain ⟨u, h1, h2⟩ := pair_get (i := i) t (by simpa using e)
    exact ⟨u, by simpa using h1, h2⟩
theorem pair_getR {α β : Type} {F : α → β → Prop} : ∀ {xs : List α} {ys : List β} {i : Nat} {y : β}, Paired F xs ys → ys[i]? = some y → ∃ x, xs[i]? = some x ∧ F x y
  | _, _, _, _, .nil, e => by simp at e
  | _, _, 0, _, .cons r _, e => by simp at e; subst e; exact ⟨_, rfl, r⟩
  | _, _, i + 1, _, .cons _ t, e => by
    obtain ⟨u, h1, h2⟩ := pair_getR (i := i) t (by simpa using e)
    exact ⟨u, by simpa using h1, h2⟩
theorem RelSt.at_ (s : RelSt K G ρ μ H) {n : Nat} {a : Addr} (h : ρ.st[n]? = some a) : ∃ p o, μ[n]? = some p ∧ H a = some o ∧ Con K G ρ.W H p o := by
  obtain ⟨p, e, o, h1, h2⟩ := pair_get s.pr h
  exact ⟨p, o, e, h1, h2⟩
theorem RelSt.atL (s : RelSt K G ρ μ H) {n : Nat} {a : Addr} {ps : List PV} (h : ρ.st[n]? = some a) (hm : μ[n]? = some (.lst ps)) : ∃ xs, H a = some (.lst xs) ∧ Reps K G ρ.W H ps xs := by
  obtain ⟨p, o, e1, e2, c⟩ := s.at_ h
  rw [hm] at e1
  cases e1
  cases c with
  | lst r => exact ⟨_, e2, r⟩
theorem RelSt.atD (s : RelSt K G ρ μ H) {n : Nat} {a : Addr} {ks : List (PV × PV)} (h : ρ.st[n]? = some a) (hm : μ[n]? = some (.dct ks)) : ∃ ds, H a = some (.dK ds) ∧ RepD K G ρ.W H ks ds := by
  obtain ⟨p, o, e1, e2, c⟩ := s.at_ h
  rw [hm] at e1
  cases e1
  cases c with
  | dct r => exact ⟨_, e2, r⟩
theorem RelSt.atF (s : RelSt K G ρ μ H) {n : Nat} {a : Addr} {ks : List (PV × PV)} (h : ρ.st[n]? = some a) (hm : μ[n]? = some (.dcf ks)) : ∃ ds o, H a = some (.frz o (.dK ds)) ∧ RepD K G ρ.W H ks ds := by
  obtain ⟨p, o, e1, e2, c⟩ := s.at_ h
  rw [hm] at e1
  cases e1
  cases c with
  | dcf r => exact ⟨_, _, e2, r⟩
theorem RelSt.mem (s : RelSt K G ρ μ H) {a : Addr} (h : a ∈ ρ.st) : ∃ o, H a = some o := by
  obtain ⟨n, hn, e⟩ := List.mem_iff_getElem.mp h
  obtain ⟨p, o, _, h1, _⟩ := s.at_ (n := n) (a := a) (by rw [List.getElem?_eq_getElem hn, e])
  exact ⟨o, h1⟩
theorem RelSt.read (s : RelSt K G ρ μ H) : ∀ {r : RV} {v : V} {p : PV}, RepP K G ρ H r v → rd μ r = some p → Rr K G ρ.W H p v
  | .v _, _, _, h, e => by cases e; exact Rep.rr h
  | .new _, _, _, ⟨a, o, h1, h4, h5, hf, h6⟩, e => by
    subst h1
    cases e
    exact h6.rr h5
  | .loc n, _, _, ⟨a, h1, h2⟩, e => by
    subst h2
    obtain ⟨p, o, e1, e2, e3⟩ := s.at_ h1
    have e' : μ[n]? = some _ := e
    rw [e1] at e'
    cases e'
    exact e3.rr e2
/-- all that is told stays: a step that makes new things alone -/
theorem Ext.same {H' : Hp} (h : L2.Same H H') : Ext ρ H ρ H' := ⟨⟨[], by simp, by simp⟩, rfl, fun b o e _ => h b o e, fun b e => by
  cases q : H b with
  | none => exact absurd q e
  | some o => rw [h b o q]; simp⟩
theorem RelSt.same {H' : Hp} (s : RelSt K G ρ μ H) (h : L2.Same H H') : RelSt K G ρ μ H' :=
  ⟨s.nd, Paired.mapP s.pr fun a p ⟨o, e2, e3⟩ => ⟨o, h _ _ e2, e3.ext (Ext.same h).frW (Ext.same h).mem⟩, fun a ha => ⟨(Ext.same (ρ := ρ) h).dom a (s.fl a ha).1, (s.fl a ha).2⟩⟩
theorem same_upd {a : Addr} {o : HO} (h : H a = none) : L2.Same H (upd H a o) := fun b u e => by
  rw [upd_ne (ne_of_none e h)]; exact e
theorem RepP.kp : ∀ {r : RV} {v : V} {p : PV}, RepP K G ρ H r v → Z.kp r = some p → Rep K G ρ.W H p v
  | .v _, _, _, h, e => by cases e; exact h
  | .new _, _, _, ⟨a, o, h1, h4, h5, hf, h6⟩, e => by
    subst h1
    cases e
    exact h6.rep h5 h4 hf
  | .loc _, _, _, _, e => by cases e
theorem RepP.argL : ∀ {r : RV} {v : V}, RepP K G ρ H r v → ∃ r', Z.argL r = some r' ∧ RepL K G ρ H r' v
  | .v p, _, h => ⟨_, rfl, h⟩
  | .new p, _, h => ⟨_, rfl, h.kp rfl⟩
  | .loc p, _, h => ⟨_, rfl, h⟩
/-- one more address is kept apart -/
theorem RelSt.add {H' : Hp} {a : Addr} (s : RelSt K G ρ μ H) (h : L2.Same H H') (n : H a = none) (n' : H' a ≠ none) : RelSt K G (ρ.add a) μ H' := by
  have hm : ∀ x ∈ (ρ.add a).W, x ∈ ρ.W ∨ H x = none := fun x hx => (mem_add hx).elim (fun z => .inr (z ▸ n)) .inl
  refine ⟨s.nd, Paired.mapP s.pr fun b p ⟨o, e2, e3⟩ => ⟨o, h _ _ e2, e3.ext (fun b o q _ => h b o q) hm⟩, fun b hb => ?_⟩
  rcases List.mem_cons.mp (show b ∈ a :: ρ.fo from hb) with z | z
  · subst z
    refine ⟨n', fun q => ?_⟩
    obtain ⟨xs, e⟩ := s.mem q
    rw [n] at e
    exact nomatch e
  · exact ⟨(Ext.same (ρ := ρ) h).dom b (s.fl b z).1, (s.fl b z).2⟩
/-- addresses kept apart are let go -/
theorem RelSt.drop {fo : List Addr} (s : RelSt K G ρ μ H) (h : ∀ a ∈ fo, a ∈ ρ.fo) : RelSt K G ⟨ρ.st, fo⟩ μ H := by
  refine ⟨s.nd, Paired.mapP s.pr fun b p ⟨o, e2, e3⟩ => ⟨o, e2, e3.sub fun x hx => ?_⟩, fun b hb => s.fl b (h b hb)⟩
  rcases List.mem_append.mp hx with z | z
  · exact List.mem_append_left _ z
  · exact List.mem_append_right _ (h x z)
theorem RelSt.length (s : RelSt K G ρ μ H) : ρ.st.length = μ.length := Paired.length s.pr
end
end Z

set_option maxHeartbeats 4000000
/-! Z over the hand layer: tuple * int, any int. -/
namespace Z
open PySem PySem.Spec PyProof.Rows L2
theorem tmul_same (l : Addr) (items : Array Value) (n : Nat) (x : Int) (u : Tok) (c0 : (decide (x < -(2 ^ 63)) || decide (x ≥ 2 ^ 63)) = false) (c1 : (items.isEmpty || x == 1) = true) (dd : Option Addr) (sl : Array (Option Value)) :
    Meets (Builtin.«tuple.__mul__» ⟨[.ref l, .int x u], []⟩) (fun _ R s => s.heap.get? l = some { cls := .type "tuple", dict := dd, data := .seq items n, slots := sl } ∧ R (.ok (.ret (Value.ref l))) s) :=
  .of_wp fun prog w A R s h => by
    obtain ⟨hp, g, d, tk, os⟩ := s
    obtain ⟨hl, h⟩ := h
    have f1 := AutoSeq1.idx_int
    wp_walk using wpAny_loadPart' hl
    repeat (first
      | (refine wpAny_ite_false (decide_eq_false (by rw [c0]; exact Bool.false_ne_true)) ?_; wp_walk using wpAny_loadPart' hl)
      | (refine wpAny_ite_true (decide_eq_true c1) ?_; wp_walk using wpAny_loadPart' hl))
    exact ⟨_, rfl, h⟩
theorem tmul_zero (l : Addr) (items : Array Value) (n : Nat) (x : Int) (u : Tok) (c0 : (decide (x < -(2 ^ 63)) || decide (x ≥ 2 ^ 63)) = false) (c1 : (items.isEmpty || x == 1) = false) (c2 : (decide (x ≤ 0) || items.isEmpty) = true) (dd : Option Addr) (sl : Array (Option Value)) :
    Meets (Builtin.«tuple.__mul__» ⟨[.ref l, .int x u], []⟩) (fun _ R s => s.heap.get? l = some { cls := .type "tuple", dict := dd, data := .seq items n, slots := sl } ∧ R (.ok (.ret (Value.ref s.heap.objs.size))) { s with heap := s.heap.push { cls := Value.type "tuple", data := Data.seq #[] }, toks := s.toks }) :=
  .of_wp fun prog w A R s h => by
    obtain ⟨hp, g, d, tk, os⟩ := s
    obtain ⟨hl, h⟩ := h
    have f1 := AutoSeq1.idx_int
    wp_walk using wpAny_loadPart' hl
    repeat (first
      | (refine wpAny_ite_false (decide_eq_false (by rw [c0]; exact Bool.false_ne_true)) ?_; wp_walk using wpAny_loadPart' hl)
      | (refine wpAny_ite_false (decide_eq_false (by rw [c1]; exact Bool.false_ne_true)) ?_; wp_walk using wpAny_loadPart' hl)
      | (refine wpAny_ite_true (decide_eq_true c2) ?_; wp_walk using wpAny_loadPart' hl))
    exact ⟨_, rfl, h⟩
def rMulT (K : PySem.W.Frag) : R2 := fun x y H Q => ∃ l k xs, x = .ref l ∧ y = .int k ∧ SqT K H l xs ∧ -(2 ^ 63) ≤ k ∧ k < 2 ^ 63 ∧ xs.length * k.toNat ≤ sizeLine ∧ ((xs = [] ∨ k = 1) → Q x H) ∧ (xs ≠ [] → k ≠ 1 → ∀ p, H p = none → Q (.ref p) (upd H p (.tup (List.replicate k.toNat xs).flatten)))
section
variable {X : Cx}
theorem op_mulT : OpR X (binaryOp .Mult) (rMulT X.K) := by
  intro pins s σ H x y v u Q I rx ry h
  obtain ⟨l, k, xs, rfl, rfl, hT, h1, h2, hz, q1, q2⟩ := h
  cases rx
  obtain ⟨t, rfl⟩ := ry
  obtain ⟨its, r, ⟨⟨cls, dd, data, sl⟩, ho, hc, n, hd⟩, hs⟩ := I.tuple hT
  simp only at hc hd
  subst hc hd
  have hle : its.length = xs.length := r.length.symm
  have hsz0 : its.toArray.size = xs.length := by rw [List.size_toArray, hle]
  have c0 : (decide (k < -(2 ^ 63)) || decide (k ≥ 2 ^ 63)) = false := by
    rw [decide_eq_false (by omega), decide_eq_false (by omega)] <;> rfl
  by_cases hsame : xs = [] ∨ k = 1
  · have c1 : (its.toArray.isEmpty || k == 1) = true := by
      rcases hsame with e | e
      · have : its = [] := List.eq_nil_of_length_eq_zero (by rw [hle, e]; rfl)
        rw [this]; rfl
      · rw [e]; simp
    refine wpAny_binaryOp_repeat_ref (T := "tuple") (U := "int") (by decide) ⟨_, ho, rfl⟩ (fun s' => typeIs_int s' k t) noFill_tuple_mul PySem.F.fills_int_mul PySem.F.slot_int_rmul repeat_tuple PySem.F.slot_int_index.lookup
      (call_meets PySem.F.slot_int_rmul (typeIs_int s k t) PySem.F.entry_int_rmul (PySem.F.args_int_rmul_2 _ _) (int_rmul_tuple k t l its.toArray n dd sl)
        ⟨ho, rfl, ⟨_, ho, rfl⟩, call_meets PySem.F.slot_tuple_mul ⟨_, ho, rfl⟩ PySem.F.entry_tuple_mul (PySem.F.args_tuple_mul_2 _ _) (tmul_same l its.toArray n k t c0 c1 dd sl) ⟨ho, ?_⟩⟩)
    exact ⟨.ref l, H, I, rfl, q1 hsame⟩
  · have hne : xs ≠ [] := fun e => hsame (.inl e)
    have hk1 : k ≠ 1 := fun e => hsame (.inr e)
    have hi : its.toArray.isEmpty = false := by
      cases its with
      | nil => exact absurd (List.eq_nil_of_length_eq_zero hle.symm) hne
      | cons a b => rfl
    have c1 : (its.toArray.isEmpty || k == 1) = false := by
      rw [hi, Bool.false_or]
      exact beq_eq_false_iff_ne.mpr hk1
    have flen : (List.replicate k.toNat its).flatten.length ≤ sizeLine := by
      rw [PyProof.Rows.lm_len_rep_flat, hle, Nat.mul_comm]
      exact hz
    have flen2 : (List.replicate k.toNat xs).flatten.length ≤ sizeLine := by
      rw [PyProof.Rows.lm_len_rep_flat, Nat.mul_comm]
      exact hz
    by_cases h0 : k ≤ 0
    · have c2 : (decide (k ≤ 0) || its.toArray.isEmpty) = true := by rw [decide_eq_true h0]; rfl
      refine wpAny_binaryOp_repeat_ref (T := "tuple") (U := "int") (by decide) ⟨_, ho, rfl⟩ (fun s' => typeIs_int s' k t) noFill_tuple_mul PySem.F.fills_int_mul PySem.F.slot_int_rmul repeat_tuple PySem.F.slot_int_index.lookup
        (call_meets PySem.F.slot_int_rmul (typeIs_int s k t) PySem.F.entry_int_rmul (PySem.F.args_int_rmul_2 _ _) (int_rmul_tuple k t l its.toArray n dd sl)
          ⟨ho, rfl, ⟨_, ho, rfl⟩, call_meets PySem.F.slot_tuple_mul ⟨_, ho, rfl⟩ PySem.F.entry_tuple_mul (PySem.F.args_tuple_mul_2 _ _) (tmul_zero l its.toArray n k t c0 c1 c2 dd sl) ⟨ho, ?_⟩⟩)
      have e : k.toNat = 0 := by omega
      have q3 := q2 hne hk1
      rw [e] at q3
      refine ⟨.ref s.heap.objs.size, _, I.laid (t' := s.toks) (o := .tup []) (fun b ob q => Heap.get?_push_of_some _ q) (Nat.le_refl _) ?_, rfl, q3 _ (I.hok.fresh (Nat.le_refl _))⟩
      exact ⟨Nat.zero_le _, [], .nil, IsTup.new _ _⟩
    · have c2 : (decide (k ≤ 0) || its.toArray.isEmpty) = false := by
        rw [hi, Bool.or_false]
        exact decide_eq_false h0
      have hm : ((its.toArray.size : Nat) : Int) * k ≤ 16777216 := by
        have a1 : ((xs.length * k.toNat : Nat) : Int) ≤ ((16777216 : Nat) : Int) := by
          have := hz
          rw [sizeLine_eq] at this
          exact Int.ofNat_le.mpr this
        rw [Int.natCast_mul, Int.toNat_of_nonneg (by omega)] at a1
        rw [hsz0]
        exact a1
      have c4 : Builtin.Tuple.tupleTooMany (((its.toArray.size : Nat) : Int) * k) = false := by
        unfold Builtin.Tuple.tupleTooMany
        rw [sizeLine_eq]
        exact decide_eq_false (by omega)
      refine wpAny_binaryOp_repeat_ref (T := "tuple") (U := "int") (by decide) ⟨_, ho, rfl⟩ (fun s' => typeIs_int s' k t) noFill_tuple_mul PySem.F.fills_int_mul PySem.F.slot_int_rmul repeat_tuple PySem.F.slot_int_index.lookup
        (call_meets PySem.F.slot_int_rmul (typeIs_int s k t) PySem.F.entry_int_rmul (PySem.F.args_int_rmul_2 _ _) (int_rmul_tuple k t l its.toArray n dd sl)
          ⟨ho, rfl, ⟨_, ho, rfl⟩, call_meets PySem.F.slot_tuple_mul ⟨_, ho, rfl⟩ PySem.F.entry_tuple_mul (PySem.F.args_tuple_mul_2 _ _) (tuple_mulW l its.toArray n dd sl k t c0 c1 c2 (by omega) c4 (by rw [size_rep, List.size_toArray]; exact flen)) ⟨ho, ?_⟩⟩)
      rw [size_rep]
      refine ⟨.ref s.heap.objs.size, _, I.laid (t' := s.toks) (o := .tup (List.replicate k.toNat xs).flatten) (fun b ob q => Heap.get?_push_of_some _ q) (Nat.le_refl _) ?_, rfl, q2 hne hk1 _ (I.hok.fresh (Nat.le_refl _))⟩
      exact ⟨flen2, _, r.rep k.toNat, IsTup.new _ _⟩
end
end Z

set_option maxHeartbeats 4000000
/-! Z over the hand layer: a promise of a def that may know what is under way (gd: no look at a value is). -/
namespace Z
open PySem PySem.Spec PyProof.Rows L2

structure FnG (gd : Bool) (P : Program) (w : World) (K : PySem.W.Frag) (mg : Str → Option Value) (base : Heap) (CX : CXT) (k : Nat) (f : Addr) (fd : FuncData) (ps : List Str) (sp : Sp) : Prop where
  len : ∀ vs H Q E, sp vs H Q E → vs.length = ps.length
  go : ∀ (A : Around) (outer : List Env) (s : Shared) (H : Hp) (args : Args) (us : List Value) (vs : List V) (Q : VK) (E : XK), Room k A → (gd = true → A.guards = some []) → Env0 P w K mg base A outer s H → BindsTo s fd args (ps.zip us) → Vals vs us → sp vs H Q E →
    codeAny (model P w) A (.call (.ref f) args) (CR CX outer P w H s Q E) s
theorem FnG.mono {gd : Bool} {P : Program} {w : World} {K : PySem.W.Frag} {mg : Str → Option Value} {base : Heap} {CX : CXT} {j k : Nat} {f : Addr} {fd : FuncData} {ps : List Str} {sp : Sp} (F : FnG gd P w K mg base CX j f fd ps sp) (h : j ≤ k) : FnG gd P w K mg base CX k f fd ps sp :=
  ⟨F.len, fun A outer s H args us vs Q E hr => F.go A outer s H args us vs Q E (hr.mono h)⟩
section
variable {X : Cx} {gd : Bool} {CX : CXT} {k : Nat} {f : Addr} {fd : FuncData} {ps : List Str} {sp : Sp} {E : XK} {x : Str} {p pos : Pos} {e : Expr} {es : List Expr} {t : TA}
theorem go_fn {pins : List (Addr × Obj)} {σ : L2.St} {H : Hp} {s : Shared} {Q : VK} {us : List Value} {vs : List V} (F : FnG gd X.prog X.w X.K X.mg X.base CX k f fd ps sp) (hr : Room k X.A) (hg : gd = true → X.A.guards = some []) (hb : Binds X.K fd ps []) (hx : Passes CX X E)
    (I : Inv X pins σ H s) (r : Vals vs us) (h : sp vs H Q E) : wpAny (model X.prog X.w) X.A (call (.ref f) us) (EP X pins σ Q) X.xe s := by
  have hl : (us ++ ([] : List Value)).length = ps.length := by rw [List.append_nil, ← r.length]; exact F.len _ _ _ _ h
  have b := hb s us I.kIn hl
  rw [List.append_nil] at b
  refine wpAny_call (codeAny_mono (F.go X.A X.stack s H ⟨us, []⟩ us vs Q E hr hg I.env0 b r h) fun r s' hq => ?_)
  match r, hq with
  | .error e, hq => exact hx pins σ H s e s' I hq
  | .ok (.ret u), hq => exact I.after hq
theorem pe_callG (F : FnG gd X.prog X.w X.K X.mg X.base CX k f fd ps sp) (hr : Room k X.A) (hgd : gd = true → X.A.guards = some []) (hg : L2.Gl X x) (hm : X.mg x = some (.ref f)) (hk : PySem.W.keepIn X.K (.ref f) = true) (hb : Binds X.K fd ps []) (hx : Passes CX X E)
    (ha : PA X (e :: es) t) (hdb : (x == ("__debug__" : Str)) = false) (he : starEach (e :: es) X.env = (false, eval e X.env) :: starEach es X.env) (hpl : (backTo pos (starEach es X.env)).any (·.1) = false) :
    PE X (.Call (.Name x p) (e :: es) [] pos) (tCall sp [] E t) := by
  refine ⟨fun pins s σ H Q I h => wpAny_Call_Name_kw (ld_glob I hg hm ?_ hdb)⟩
  refine PySem.W.callWith_K (h₀ := X.base) I.ok.mod.kin hk (thn (ha.run pos pins s σ H _ I h) fun us s1 ⟨vs, H1, I1, r, q⟩ => ⟨I1.kIn, ?_⟩) he hpl
  have q' : sp (vs ++ []) H1 Q E := q
  rw [List.append_nil] at q'
  exact go_fn F hr hgd hb hx I1 r q'
theorem pe_callG0 (F : FnG gd X.prog X.w X.K X.mg X.base CX k f fd ps sp) (hr : Room k X.A) (hgd : gd = true → X.A.guards = some []) (hg : L2.Gl X x) (hm : X.mg x = some (.ref f)) (hk : PySem.W.keepIn X.K (.ref f) = true) (hb : Binds X.K fd ps []) (hx : Passes CX X E)
    (hdb : (x == ("__debug__" : Str)) = false) : PE X (.Call (.Name x p) [] [] pos) (tCall sp [] E tNil) := by
  refine ⟨fun pins s σ H Q I h => wpAny_Call_Name_kw (ld_glob I hg hm ?_ hdb)⟩
  exact PySem.W.callWith_K0 I.kIn hk (go_fn (us := []) F hr hgd hb hx I .nil h)
end
/-- a def of the text by its body -/
theorem fnG_of {gd : Bool} {CX : CXT} {P : Program} {w : World} {K : PySem.W.Frag} {mg : Str → Option Value} {base : Heap} {k : Nat} {f : Addr} {name qual : Str} {params : Arguments} {body : List Stmt} {scope : Scope} {fd : FuncData} {N ps : List Str} {sp : Sp}
    (F : FunD K name qual params body scope [] [] f fd) (S : FnScope N ps scope) (len : ∀ vs H Q E, sp vs H Q E → vs.length = ps.length)
    (hbody : ∀ (cdv : Value) (A : Around) (outer : List Env) (s : Shared) (H : Hp) (vs : List V) (Q : VK) (E : XK), Room k (A.deeper (envOfC qual scope s.heap.objs.size f cdv)) → (gd = true → A.guards = some []) → sp vs H Q E →
      ∃ t, PSs (cxOf CX P w K mg base N qual scope f cdv A outer s H E) body t ∧ t { nx := fun _ H' => Q .non H', rt := Q } (L2.start N vs) H) :
    FnG gd P w K mg base CX (k + 1) f fd ps sp := by
  obtain ⟨oc, od, dV, kV, doc, pm, an, cdv, ct, osl, rfl, lk, hcd, _, _⟩ := F.ex
  refine ⟨len, fun A outer s H args us vs Q E hr hgd e0 hb r hsp => ?_⟩
  have hl := len _ _ _ _ hsp
  have KX : K.In s.heap := e0.mod.kin.keeps fun b o e => (e0.bs b o e).1
  have lim : s.heap.NoLimit := e0.mod.nolimit.keeps fun b o e => (e0.bs b o e).1
  have hkind : ∀ y ∈ ps.zip us, scope.names.lookup y.1 = some .local ∨ (scope.names.lookup y.1 = some .cell ∧ ((cellsFrom (s.heap.objs.size + 1) scope.names []).lookup y.1).isSome = true) := fun y hy =>
    (S.par y.1 (List.of_mem_zip (a := y.1) (b := y.2) hy).1).imp id fun q => ⟨q, PySem.W.cellsFrom_some _ _ _ (.inl q)⟩
  refine codeAny_call_function hr.depth (KX _ _ lk) rfl S.co S.gen rfl (PySem.W.codeRec_of KX hcd) (hb _ _ _ _ (wpAny_newFunctionEnv_cells S.kind hkind fun env he s1 x => ?_))
  subst he
  obtain ⟨t, ht, hq⟩ := hbody cdv A outer s H vs Q E (hr.deeper _) hgd hsp
  have I : Inv (cxOf CX P w K mg base N qual scope f cdv A outer s H E) [] (L2.start N vs) H s1 := inv_start S hr.hd e0 hl r x
  refine ⟨lim.keeps x.toInCall.keep, codeAny_func (wpAny_mono (ht.run [] s1 (L2.start N vs) H _ I hq) (fun fl s' hs => ?_) fun e s' hs => hs)⟩
  match fl, hs with
  | .ret u, ⟨v, σ', H', J, rv, q⟩ => exact ⟨v, H', J.os, J.bare, J.base, J.hok, rv, q⟩
  | .next, ⟨σ', H', J, q⟩ => exact ⟨V.non, H', J.os, J.bare, J.base, J.hok, rfl, q⟩
  | .brk, ⟨_, _, _, q⟩ => exact q.elim
  | .cont, ⟨_, _, _, q⟩ => exact q.elim

/-! ### a law's end -/
/-- the law's call, over the heap behind the top: nothing but the script is tracked -/
theorem law_callG {gd : Bool} {P : Program} {w : World} {K : PySem.W.Frag} {mg mb : Str → Option Value} {CX : CXT} {k : Nat} {fa a : Addr} {fd : FuncData} {x : Str} {sp : Sp} {s₁ : Shared} {vs : List Value} {ns : List Int}
    (KX : K.In s₁.heap) (hns : s₁.heap.Ns mainGlobals mg) (hb : s₁.heap.Ns builtinsNs mb) (hbb : ∀ x : Str, x ≠ "__name__" → mb x = bootBuiltins x) (hlim : s₁.heap.NoLimit) (hg : s₁.gens = #[])
    (ha : s₁.heap.get? a = some { cls := .type "list", data := .seq vs.toArray }) (hi : IntsAre vs ns) (hl : ns.length ≤ sizeLine) (hr : Room k callerA)
    (F : ∀ base : Heap, K.In base → base.Ns mainGlobals mg → FnG gd P w K mg base CX k fa fd [x] sp) (hbind : ∀ (s : Shared) (u : Value), BindsTo s fd ⟨[u], []⟩ [(x, u)])
    (hsp : ∀ H : Hp, Only H → SqL K H a (ns.map V.int) → sp [.ref a] H (fun v _ => v = .bl true) fun _ _ _ => False)
    (hCX : ∀ H e s', CX [] H s₁ (fun _ _ _ => False) e s' → False) :
    codeAny (model P w) callerA (.call (.ref fa) ⟨[.ref a], []⟩) (fun r s' => r = .ok (.ret (.bool true)) ∧ OldK s₁.heap s'.heap ∧ s'.os = s₁.os ∧ AllBare s'.gens) s₁ := by
  have rv := vals_ints hi
  have lenV := hi.length
  have core : ∀ H : Hp, (∀ b u, H b = some u → b = a ∧ K.lookup a = none ∧ u = .frz { cls := .type "list", data := .seq vs.toArray } (.lst (ns.map V.int))) → SqL K H a (ns.map V.int) → HOk P w H s₁.heap →
      codeAny (model P w) callerA (.call (.ref fa) ⟨[.ref a], []⟩) (fun r s' => r = .ok (.ret (.bool true)) ∧ OldK s₁.heap s'.heap ∧ s'.os = s₁.os ∧ AllBare s'.gens) s₁ := by
    intro H hA hS hok
    have free : ∀ b, (b = a → K.lookup a ≠ none) → H b = none := fun b h => by
      cases q : H b with
      | none => rfl
      | some u =>
        obtain ⟨e1, e2, _⟩ := hA b u q
        exact absurd e2 (h e1)
    have hO : Only H := fun b => by
      cases q : H b with
      | none => exact .inl rfl
      | some u =>
        obtain ⟨e1, _, e3⟩ := hA b u q
        exact .inr ⟨_, _, by rw [e3]⟩
    have noA : ∀ {b : Addr} {o : Obj} {es : Array DictEntry} {ep : Nat}, s₁.heap.get? b = some o → o.data = .dict es ep → H b = none := fun {b o es ep} e d => free b fun z => by
      subst z
      rw [ha] at e
      cases e
      exact (nomatch (show Data.seq vs.toArray _ = Data.dict es ep from d))
    have nsK : ∀ {b : Addr} {m : Str → Option Value}, s₁.heap.Ns b m → (hidT s₁.heap H).Ns b m := fun ⟨o, es, ep, e, d, r⟩ => ⟨o, es, ep, hidT_get e (noA e d), d, r⟩
    have hKb : K.In (hidT s₁.heap H) := fun b o e => hidT_get (KX b o e) (free b fun z => by subst z; rw [e]; simp)
    have hM : Mod K mg (hidT s₁.heap H) := ⟨hKb, nsK hns, ⟨mb, nsK hb, hbb⟩, hlim.elim fun mc h => ⟨mc, nsK h.1, h.2⟩⟩
    have e0 : Env0 P w K mg (hidT s₁.heap H) callerA [] s₁ H := ⟨rfl, hM, fun b o e => of_hidT e, Nat.le_of_eq (hidT_size _ _), trivial, (fun b hb => nomatch hb), hok, .of_eq hg⟩
    refine codeAny_mono ((F _ hKb (nsK hns)).go callerA [] s₁ H ⟨[.ref a], []⟩ [.ref a] [.ref a] _ _ hr (fun _ => rfl) e0 (hbind s₁ (.ref a)) (.cons rfl .nil) (hsp H hO hS)) fun r s' h => ?_
    match r, h with
    | .error e, h => exact (hCX H e s' h).elim
    | .ok (.ret u), ⟨v, H', os, bare, un, hok', r', q⟩ =>
      have q' : v = .bl true := q
      subst q'
      obtain rfl : u = Value.bool true := r'
      refine ⟨rfl, OldK.of_keep fun b o e => ?_, os, bare⟩
      cases q : H b with
      | none => exact un.keep b o e q (fun z => nomatch z) (fun z => nomatch z)
      | some u =>
        obtain ⟨_, _, e3⟩ := hA b u q
        rw [e3] at q
        have e1 := (hok b _ q).1
        have e2 := (hok' b _ (un.frzs b _ _ q)).1
        rw [e] at e1
        cases e1
        exact e2
  cases hk : K.lookup a with
  | some o =>
    have e := KX a o hk
    rw [ha] at e
    cases e
    exact core (fun _ => none) (fun b u z => nomatch z) (.inr ⟨_, vs.toArray, _, hk, rfl, rfl, rfl, by rw [List.size_toArray, lenV]; exact hl, by simpa using rv⟩) (fun b u z => nomatch z)
  | none =>
    refine core (fun b => if b = a then some (.frz { cls := .type "list", data := .seq vs.toArray } (.lst (ns.map V.int))) else none) (fun b u z => ?_) (.inl (.inr ⟨{ cls := .type "list", data := .seq vs.toArray }, if_pos rfl⟩)) (fun b u z => ?_)
    · by_cases hb : b = a
      · exact ⟨hb, hk, (Option.some.inj ((if_pos hb).symm.trans z)).symm⟩
      · exact (nomatch (if_neg hb).symm.trans z)
    · by_cases hb : b = a
      · have z' := (if_pos hb).symm.trans z
        cases z'
        subst hb
        exact ⟨ha, by rw [List.length_map]; exact hl, vs, _, rv, ha⟩
      · exact (nomatch (if_neg hb).symm.trans z)
theorem walk_ofG {gd : Bool} {l : PySem.W.OpenLaw} {n k : Nat} {q : Program} {loose : List Str} {XP : (Str → Option Value) → Heap → Prop} {YP : World → Heap → Prop} {d : DefRec} {CX : World → CXT} {x : Str}
    (hn : l.most = some n) (hn2 : n ≤ sizeLine) (hdf : d.params.defaults = []) (hr : Room k callerA)
    (F : ∀ (w : World) (mg : Str → Option Value) (fa : Addr) (h : Heap), YP w h → h.Ns mainGlobals mg → mg d.name = some (.ref fa) →
      ∃ (K : PySem.W.Frag) (fd : FuncData) (sp : Sp), K.In h ∧ (∀ (s : Shared) (u : Value), BindsTo s fd ⟨[u], []⟩ [(x, u)]) ∧
        (∀ (H : Hp) (a : Addr) (ns : List Int), ns.length ≤ n → Only H → SqL K H a (ns.map V.int) → sp [.ref a] H (fun v _ => v = .bl true) fun _ _ _ => False) ∧
        ∀ base : Heap, K.In base → base.Ns mainGlobals mg → FnG gd l.prog w K mg base (CX w) k fa fd [x] sp)
    (hCX : ∀ (w : World) (H : Hp) (s : Shared) (e : Value) (s' : Shared), CX w [] H s (fun _ _ _ => False) e s' → False) :
    PySem.W.WalkO q loose XP YP l.row.toRowW d [] (fun f vs => PySem.call f vs) := by
  refine Att.attach_call hn hdf fun w s₀ s₁ mg mb fa o pm cd doc a vs ns G Y ho hd hcd hmg hobj hints hlen hg => ?_
  obtain ⟨K, fd, sp, KX, hb, hsp, hF⟩ := F w mg fa _ Y G.T.g hmg
  exact law_callG KX G.T.g G.T.b G.T.builtins G.T.nolimit hg hobj hints (Nat.le_trans hlen hn2) hr hF hb (fun H hO hS => hsp H a ns hlen hO hS) fun H e s' => hCX w H s₁ e s'
end Z

set_option maxHeartbeats 4000000
/-! Z over the hand layer: operators, comparisons, indices, slices. -/
namespace Z
open PySem PySem.Spec L2

/-- what follows a step by values: new things alone may have been made -/
def Fin (K : PySem.W.Frag) (G : GE) (ρ : Pr) (μ : Sto) (H : Hp) (r : RV) (Q : VK) : Prop := ∀ H' v, Same H H' → RepR K G H ρ μ H' r v → Q v H'
def rB (K : PySem.W.Frag) (G : GE) (f : PV → PV → Option RV) : R2 := fun x y H Q => ∃ (ρ : Pr) (μ : Sto), ∃ p q r, RelSt K G ρ μ H ∧ Rr K G ρ.W H p x ∧ Rr K G ρ.W H q y ∧ f p q = some r ∧ Fin K G ρ μ H r Q
def rU1 (K : PySem.W.Frag) (G : GE) (f : PV → Option RV) : V → Hp → VK → Prop := fun x H Q => ∃ (ρ : Pr) (μ : Sto), ∃ p r, RelSt K G ρ μ H ∧ Rr K G ρ.W H p x ∧ f p = some r ∧ Fin K G ρ μ H r Q
def opOf : Op2 → Operator
  | .add => .Add | .sub => .Sub | .mul => .Mult | .fdiv => .FloorDiv | .mod => .Mod | .pow => .Pow | .xor => .BitXor
def cmOf : OpC → CmpOp
  | .eq => .Eq | .ne => .NotEq | .lt => .Lt | .le => .LtE | .gt => .Gt | .ge => .GtE | .isin => .In | .notin => .NotIn | .is => .Is | .isnot => .IsNot

section
variable {K : PySem.W.Frag} {G : GE} {ρ : Pr} {μ : Sto} {H : Hp} {Q : VK}
theorem Fin.val {p : PV} {v : V} (h : Fin K G ρ μ H (.v p) Q) (r : Rep K G ρ.W H p v) : Q v H := h H v (Same.refl H) r
theorem not_W (l : RelSt K G ρ μ H) {p : Addr} (hp : H p = none) : p ∉ ρ.W := fun z => by
  rcases List.mem_append.mp z with z | z
  · obtain ⟨xs, e⟩ := l.mem z
    rw [hp] at e
    exact nomatch e
  · exact (l.fl p z).1 hp
theorem Fin.tup {ps : List PV} {xs : List V} (h : Fin K G ρ μ H (.v (.tup ps)) Q) (l : RelSt K G ρ μ H) (r : Reps K G ρ.W H ps xs) : ∀ p, H p = none → Q (.ref p) (upd H p (.tup xs)) := fun p hp =>
  h _ _ (same_upd hp) (.tup upd_same (not_W l hp) ((Ext.same (ρ := ρ) (same_upd hp)).reps r))
theorem Fin.new {ps : List PV} {xs : List V} (h : Fin K G ρ μ H (.new (.lst ps)) Q) (l : RelSt K G ρ μ H) (r : Reps K G ρ.W H ps xs) : ∀ p, H p = none → Q (.ref p) (upd H p (.lst xs)) := fun p hp =>
  h _ _ (same_upd hp) ⟨p, _, rfl, hp, not_W l hp, upd_same, rfl, .lst (r.ext (fun b o q _ => same_upd hp b o q) (fun x hx => (mem_add hx).elim (fun z => .inr (z ▸ hp)) .inl)), l.add (same_upd hp) hp (by rw [upd_same]; simp)⟩
theorem Fin.newD (h : Fin K G ρ μ H (.new (.dct [])) Q) (l : RelSt K G ρ μ H) : ∀ p, H p = none → Q (.ref p) (upd H p (.dK [])) := fun p hp =>
  h _ _ (same_upd hp) ⟨p, _, rfl, hp, not_W l hp, upd_same, rfl, .dct .nil, l.add (same_upd hp) hp (by rw [upd_same]; simp)⟩
theorem Fin.newD2 {ks : List (PV × PV)} {ds : List (Key × V)} (h : Fin K G ρ μ H (.new (.dct ks)) Q) (l : RelSt K G ρ μ H) (r : RepD K G ρ.W H ks ds) : ∀ p, H p = none → Q (.ref p) (upd H p (.dK ds)) := fun p hp =>
  h _ _ (same_upd hp) ⟨p, _, rfl, hp, not_W l hp, upd_same, rfl, .dct (r.ext (fun b o q _ => same_upd hp b o q) (fun x hx => (mem_add hx).elim (fun z => .inr (z ▸ hp)) .inl)), l.add (same_upd hp) hp (by rw [upd_same]; simp)⟩
theorem S_len' (a : List Nat) : (⟨a.toArray⟩ : Str).length = a.length := SX.S_len a
theorem S_cat' (a b : List Nat) : (⟨a.toArray⟩ : Str) ++ ⟨b.toArray⟩ = ⟨(a ++ b).toArray⟩ := SX.S_cat a b
theorem sz_eq : (SZ : Nat) = sizeLine := by decide
end

section
variable {X : Cx} {G : GE}
theorem add_ok : OpR X (binaryOp .Add) (rB X.K G (bin .add)) := by
  rintro pins s σ H x y v u Q I rx ry ⟨ρ, μ, p, q, r, hl, hp, hq, e, hQ⟩
  cases hp with
  | int i =>
    cases hq with
    | int j =>
      cases (show some (RV.v (.int (i + j))) = some r from e)
      exact op_add pins s σ H _ _ v u Q I rx ry ⟨i, j, rfl, rfl, hQ.val (.int _)⟩
    | _ => simp [bin] at e
  | str a =>
    cases hq with
    | str b =>
      have e' : (if a.length + b.length ≤ SZ then some (RV.v (.str (a ++ b))) else none) = some r := e
      split at e'
      · rename_i h
        cases e'
        refine op_add_str pins s σ H _ _ v u Q I rx ry ⟨_, _, rfl, rfl, ?_, ?_⟩
        · rw [S_len', S_len', ← sz_eq]; exact h
        · rw [S_cat']; exact hQ.val (.str _)
      · cases e'
    | _ => simp [bin] at e
  | lst ha ra =>
    cases hq with
    | lst hb rb =>
      rename_i a xs ps b ys qs
      have e' : (if ps.length + qs.length ≤ SZ then some (RV.new (.lst (ps ++ qs))) else none) = some r := e
      split at e'
      · rename_i h
        cases e'
        refine op_cat pins s σ H _ _ v u Q I rx ry ⟨a, b, xs, ys, rfl, rfl, ha, hb, ?_, hQ.new hl (ra.append rb)⟩
        rw [← ra.length, ← rb.length, ← sz_eq]; exact h
      · cases e'
    | _ => simp [bin] at e
  | tup ha ra wa =>
    cases hq with
    | tup hb rb wb =>
      rename_i a xs ps b ys qs
      have e' : (if ps.length + qs.length ≤ SZ then some (RV.v (.tup (ps ++ qs))) else none) = some r := e
      split at e'
      · rename_i h
        cases e'
        refine op_catA pins s σ H _ _ v u Q I rx ry ⟨a, b, xs, ys, rfl, rfl, ha, hb, ?_, fun h1 => ?_, fun h1 h2 => ?_, fun h1 h2 => hQ.tup hl (ra.append rb)⟩
        · rw [← ra.length, ← rb.length, ← sz_eq]; exact h
        · subst h1
          cases ra
          exact hQ.val wb
        · subst h2
          cases rb
          rw [List.append_nil] at hQ
          exact hQ.val wa
      · cases e'
    | _ => simp [bin] at e
  | _ => simp [bin] at e
theorem sub_ok : OpR X (binaryOp .Sub) (rB X.K G (bin .sub)) := by
  rintro pins s σ H x y v u Q I rx ry ⟨ρ, μ, p, q, r, hl, hp, hq, e, hQ⟩
  cases hp with
  | int i =>
    cases hq with
    | int j =>
      cases (show some (RV.v (.int (i - j))) = some r from e)
      exact op_sub pins s σ H _ _ v u Q I rx ry ⟨i, j, rfl, rfl, hQ.val (.int _)⟩
    | _ => simp [bin] at e
  | _ => simp [bin] at e
theorem fdiv_ok : OpR X (binaryOp .FloorDiv) (rB X.K G (bin .fdiv)) := by
  rintro pins s σ H x y v u Q I rx ry ⟨ρ, μ, p, q, r, hl, hp, hq, e, hQ⟩
  cases hp with
  | int i =>
    cases hq with
    | int j =>
      have e' : (if decide (0 < j) && decide (j < 18446744073709551616) then some (RV.v (.int (i / j))) else none) = some r := e
      split at e'
      · rename_i h
        cases e'
        simp only [Bool.and_eq_true, decide_eq_true_eq] at h
        exact op_fdivW pins s σ H _ _ v u Q I rx ry ⟨i, j, rfl, rfl, wide_div (b := 64) h.1 (by omega) (by decide) (by decide), hQ.val (.int _)⟩
      · cases e'
    | _ => simp [bin] at e
  | _ => simp [bin] at e
theorem mod_ok : OpR X (binaryOp .Mod) (rB X.K G (bin .mod)) := by
  rintro pins s σ H x y v u Q I rx ry ⟨ρ, μ, p, q, r, hl, hp, hq, e, hQ⟩
  cases hp with
  | int i =>
    cases hq with
    | int j =>
      have e' : (if 0 < j then some (RV.v (.int (i % j))) else none) = some r := e
      split at e'
      · rename_i h
        cases e'
        exact op_mod pins s σ H _ _ v u Q I rx ry ⟨i, j, rfl, rfl, h, hQ.val (.int _)⟩
      · cases e'
    | _ => simp [bin] at e
  | _ => simp [bin] at e
theorem pow_ok : OpR X (binaryOp .Pow) (rB X.K G (bin .pow)) := by
  rintro pins s σ H x y v u Q I rx ry ⟨ρ, μ, p, q, r, hl, hp, hq, e, hQ⟩
  cases hp with
  | int i =>
    cases hq with
    | int j =>
      have e' : (if decide (0 ≤ j) && decide (j ≤ 1000000) && decide (i.natAbs < 2 ^ 64) then some (RV.v (.int (i ^ j.toNat))) else none) = some r := e
      split at e'
      · rename_i h
        cases e'
        simp only [Bool.and_eq_true, decide_eq_true_eq] at h
        exact op_pow pins s σ H _ _ v u Q I rx ry ⟨i, j, rfl, rfl, ⟨h.1.1, h.1.2, h.2⟩, hQ.val (.int _)⟩
      · cases e'
    | _ => simp [bin] at e
  | _ => simp [bin] at e
theorem sml_iff {i : Int} : sml i = true ↔ -(2 ^ 64) < i ∧ i < 2 ^ 64 := by
  unfold sml
  rw [Bool.and_eq_true, decide_eq_true_eq, decide_eq_true_eq]

theorem rep_S (a : List Nat) (k : Nat) : ((⟨(List.replicate k a.toArray).foldl (· ++ ·) #[]⟩ : Str)) = ⟨((List.replicate k a).flatten).toArray⟩ := by
  have h : ∀ (m : Nat) (acc : List Nat), List.foldl (fun x1 x2 => x1 ++ x2) acc.toArray (List.replicate m a.toArray) = (acc ++ (List.replicate m a).flatten).toArray := by
    intro m
    induction m with
    | zero => intro acc; simp
    | succ m ih => intro acc; simp only [List.replicate_succ, List.foldl_cons, List.flatten_cons]; rw [List.append_toArray, ih, List.append_assoc]
  have := h k []
  rw [List.nil_append] at this
  exact congrArg Str.mk this
theorem mul_ok : OpR X (binaryOp .Mult) (rB X.K G (bin .mul)) := by
  rintro pins s σ H x y v u Q I rx ry ⟨ρ, μ, p, q, r, hl, hp, hq, e, hQ⟩
  cases hp with
  | int i =>
    cases hq with
    | int j =>
      have e' : (if sml i || sml j then some (RV.v (.int (i * j))) else none) = some r := e
      split at e'
      · rename_i h
        cases e'
        rw [Bool.or_eq_true, sml_iff, sml_iff] at h
        exact op_mul pins s σ H _ _ v u Q I rx ry ⟨i, j, rfl, rfl, h, hQ.val (.int _)⟩
      · cases e'
    | _ => simp [bin] at e
  | str a =>
    cases hq with
    | int k =>
      have e' : (if decide (-(2 ^ 63) ≤ k) && decide (k < 2 ^ 63) && decide (a.length * k.toNat ≤ SZ) then some (RV.v (.str (rep a k))) else none) = some r := e
      split at e'
      · rename_i h
        cases e'
        simp only [Bool.and_eq_true, decide_eq_true_eq] at h
        obtain ⟨⟨h1, h2⟩, h3⟩ := h
        rw [sz_eq, sizeLine_eq] at h3
        obtain ⟨t, rfl⟩ := rx
        obtain ⟨t', rfl⟩ := ry
        have q := hQ.val (v := .str _) (.str _)
        have hz : k < 1 → rep a k = [] := fun hk => by
          unfold rep
          have : k.toNat = 0 := by omega
          rw [this]
          rfl
        refine PySem.P.mul_str ?_ ?_ ?_ ?_
        · rw [decide_eq_false (by omega), decide_eq_false (by omega)]; rfl
        · intro k1 k2
          rw [S_len'] at k2 ⊢
          have k3 : 0 < k := by omega
          have k4 : (a.length : Int) * k ≤ 16777216 := by
            have : ((a.length * k.toNat : Nat) : Int) ≤ 16777216 := by omega
            rw [Int.natCast_mul, Int.toNat_of_nonneg (by omega)] at this
            exact this
          intro z
          have : (2 ^ 63 - 1) / k < (a.length : Int) := z
          rw [Int.ediv_lt_iff_lt_mul k3] at this
          omega
        · intro k1 k2
          rw [S_len']
          unfold Builtin.Str.tooLong
          exact decide_eq_false (by rw [sizeLine_eq]; omega)
        · by_cases hk : k < 1
          · rw [if_pos hk]
            have z : Q (.str Str.empty) H := by
              rw [hz hk] at q
              exact q
            exact ⟨by decide, ⟨.str _, H, I.tok _, ⟨_, rfl⟩, z⟩⟩
          · rw [if_neg hk]
            by_cases hk2 : (k == 1 || (⟨a.toArray⟩ : Str).length == 0) = true
            · rw [if_pos hk2]
              have : rep a k = a := by
                rw [Bool.or_eq_true, beq_iff_eq, beq_iff_eq, S_len'] at hk2
                rcases hk2 with hk2 | hk2
                · subst hk2; simp [rep]
                · have : a = [] := List.eq_nil_of_length_eq_zero hk2
                  subst this
                  simp [rep]
              rw [this] at q
              exact ⟨.str _, H, I, ⟨_, rfl⟩, q⟩
            · rw [if_neg hk2]
              have e2 := rep_S a k.toNat
              refine ⟨?_, ⟨.str _, H, I.tok _, ⟨_, congrArg (fun z => Value.str z s.toks) e2⟩, q⟩⟩
              rw [e2, S_len', PyProof.Rows.lm_len_rep_flat, sizeLine_eq, Nat.mul_comm]
              exact h3
      · cases e'
    | _ => simp [bin] at e
  | lst ha ra =>
    cases hq with
    | int k =>
      rename_i a xs ps
      have e' : (if decide (-(2 ^ 63) ≤ k) && decide (k < 2 ^ 63) && decide (ps.length * k.toNat ≤ SZ) then some (RV.new (.lst (rep ps k))) else none) = some r := e
      split at e'
      · rename_i h
        cases e'
        simp only [Bool.and_eq_true, decide_eq_true_eq] at h
        obtain ⟨⟨h1, h2⟩, h3⟩ := h
        exact op_rep pins s σ H _ _ v u Q I rx ry ⟨a, k, xs, rfl, rfl, ha, h1, h2, by rw [← ra.length, ← sz_eq]; exact h3, hQ.new hl (ra.rep _)⟩
      · cases e'
    | _ => simp [bin] at e
  | tup ha ra wa =>
    cases hq with
    | int k =>
      rename_i a xs ps
      have e' : (if decide (-(2 ^ 63) ≤ k) && decide (k < 2 ^ 63) && decide (ps.length * k.toNat ≤ SZ) then some (RV.v (.tup (rep ps k))) else none) = some r := e
      split at e'
      · rename_i h
        cases e'
        simp only [Bool.and_eq_true, decide_eq_true_eq] at h
        obtain ⟨⟨h1, h2⟩, h3⟩ := h
        refine op_mulT pins s σ H _ _ v u Q I rx ry ⟨a, k, xs, rfl, rfl, ha, h1, h2, by rw [← ra.length, ← sz_eq]; exact h3, fun hs => ?_, fun _ _ => hQ.tup hl (ra.rep _)⟩
        have he : rep ps k = ps := by
          unfold rep
          rcases hs with z | z
          · have : ps = [] := by subst z; cases ra; rfl
            rw [this]; simp
          · rw [z]; simp
        rw [he] at hQ
        exact hQ.val wa
      · cases e'
    | _ => simp [bin] at e
  | _ => simp [bin] at e
theorem or_xor_and : ∀ (n a b : Nat), a < 2 ^ n → (a ||| b) = (a ^^^ b) + (a &&& b)
  | 0, a, b, h => by
    have : a = 0 := by simpa using h
    subst this
    simp
  | n + 1, a, b, h => by
    have ih := or_xor_and n (a / 2) (b / 2) (by rw [Nat.pow_succ] at h; omega)
    have e1 : (a ||| b) / 2 = a / 2 ||| b / 2 := Nat.or_div_two
    have e2 : (a ^^^ b) / 2 = a / 2 ^^^ b / 2 := Nat.xor_div_two
    have e3 : (a &&& b) / 2 = a / 2 &&& b / 2 := Nat.and_div_two
    have m1 : (a ||| b) % 2 = 1 ↔ (a % 2 = 1 ∨ b % 2 = 1) := Nat.or_mod_two_eq_one
    have m2 := @Nat.xor_mod_two_eq_one a b
    have m3 : (a &&& b) % 2 = 1 ↔ (a % 2 = 1 ∧ b % 2 = 1) := Nat.and_mod_two_eq_one
    rw [← e1, ← e2, ← e3] at ih
    generalize (a ||| b) = x at *
    generalize (a ^^^ b) = y at *
    generalize (a &&& b) = z at *
    omega
theorem bitXor_nat (i j : Int) (hi : 0 ≤ i) (hj : 0 ≤ j) : Builtin.bitXor i j = ((i.toNat ^^^ j.toNat : Nat) : Int) := by
  obtain ⟨a, rfl⟩ := Int.eq_ofNat_of_zero_le hi
  obtain ⟨b, rfl⟩ := Int.eq_ofNat_of_zero_le hj
  have e1 : Builtin.bitAnd (a : Int) (b : Int) = ((a &&& b : Nat) : Int) := by
    unfold Builtin.bitAnd
    simp
  have e2 : Builtin.bitOr (a : Int) (b : Int) = ((a ||| b : Nat) : Int) := by
    unfold Builtin.bitOr Builtin.bitAnd Builtin.bitNot
    have h1 : decide (0 ≤ -(a : Int) - 1) = false := decide_eq_false (by omega)
    have h2 : decide (0 ≤ -(b : Int) - 1) = false := decide_eq_false (by omega)
    simp only [h1, h2]
    have h3 : (-(-(a : Int) - 1) - 1).toNat = a := by omega
    have h4 : (-(-(b : Int) - 1) - 1).toNat = b := by omega
    rw [h3, h4]
    omega
  unfold Builtin.bitXor
  rw [e1, e2]
  have := or_xor_and a a b Nat.lt_two_pow_self
  simp only [Int.toNat_natCast]
  omega
theorem xor_ok : OpR X (binaryOp .BitXor) (rB X.K G (bin .xor)) := by
  rintro pins s σ H x y v u Q I rx ry ⟨ρ, μ, p, q, r, hl, hp, hq, e, hQ⟩
  cases hp with
  | int i =>
    cases hq with
    | int j =>
      have e' : (if decide (0 ≤ i) && decide (0 ≤ j) then some (RV.v (.int ((i.toNat ^^^ j.toNat : Nat) : Int))) else none) = some r := e
      split at e'
      · rename_i h
        cases e'
        simp only [Bool.and_eq_true, decide_eq_true_eq] at h
        refine op_xor pins s σ H _ _ v u Q I rx ry ⟨i, j, rfl, rfl, ?_⟩
        show Q (V.int (Builtin.bitXor i j)) H
        rw [bitXor_nat i j h.1 h.2]
        exact hQ.val (.int _)
      · cases e'
    | _ => simp [bin] at e
  | _ => simp [bin] at e
theorem bin_ok : ∀ o : Op2, OpR X (binaryOp (opOf o)) (rB X.K G (bin o))
  | .add => add_ok
  | .sub => sub_ok
  | .mul => mul_ok
  | .fdiv => fdiv_ok
  | .mod => mod_ok
  | .pow => pow_ok
  | .xor => xor_ok
end
end Z

set_option maxHeartbeats 4000000
/-! Z over the hand layer: dicts whose keys are ints and texts. -/
namespace Z
open PySem PySem.Spec L2 PyProof.Rows

section
variable {K : PySem.W.Frag} {G : GE} {W : List Addr} {H : Hp}
theorem str_mk_inj {a b : List Nat} (h : (⟨a.toArray⟩ : Str) = ⟨b.toArray⟩) : a = b := by
  have := congrArg (fun s : Str => s.cps.toList) h
  simpa using this
theorem KeyR.eqv {k k' : PV} {q q' : Key} (a : KeyR k q) (b : KeyR k' q') : keq k k' = decide (q = q') := by
  cases a with
  | int i =>
    cases b with
    | int j =>
      show (i == j) = _
      by_cases h : i = j
      · subst h; simp
      · rw [decide_eq_false (fun z => h (Sum.inl.inj z))]
        simpa using h
    | str t => exact (decide_eq_false (fun z => nomatch z)).symm
  | str s =>
    cases b with
    | int j => exact (decide_eq_false (fun z => nomatch z)).symm
    | str t =>
      show (s == t) = _
      by_cases h : s = t
      · subst h; simp
      · rw [decide_eq_false (fun z => h (str_mk_inj (Sum.inr.inj z)))]
        simpa using h
theorem KeyR.of {k : PV} {y : V} (h : isK k = true) (r : Rr K G W H k y) : ∃ q, KeyR k q ∧ y = kV q := by
  cases r <;> first | exact ⟨_, .int _, rfl⟩ | exact ⟨_, .str _, rfl⟩ | (simp [isK] at h)
theorem KeyR.rep {k : PV} {q : Key} (a : KeyR k q) : Rep K G W H k (kV q) := by
  cases a with
  | int i => exact .int i
  | str s => exact .str s
theorem RepD.get {k : PV} {q : Key} (a : KeyR k q) : ∀ {ks : List (PV × PV)} {ds : List (Key × V)} {p : PV}, RepD K G W H ks ds → dget ks k = some p → ∃ v, valV ds q = some v ∧ Rep K G W H p v
  | _, _, p, .nil, e => by simp [dget] at e
  | _, _, p, .cons (k := k2) (p := p2) (q := q2) (ks := ks) (ds := ds) b r t, e => by
    have h := b.eqv a
    by_cases hq : q2 = q
    · rw [decide_eq_true hq] at h
      have : some p2 = some p := by simpa [dget, List.find?_cons, h] using e
      cases this
      exact ⟨_, valV_pos hq, r⟩
    · rw [decide_eq_false hq] at h
      have e' : dget ks k = some p := by simpa [dget, List.find?_cons, h] using e
      obtain ⟨v, h1, h2⟩ := RepD.get a t e'
      exact ⟨v, by rw [valV_neg hq]; exact h1, h2⟩
theorem RepD.has {k : PV} {q : Key} (a : KeyR k q) : ∀ {ks : List (PV × PV)} {ds : List (Key × V)}, RepD K G W H ks ds → dhas ks k = ds.any fun kv => decide (kv.1 = q)
  | _, _, .nil => rfl
  | _, _, .cons b r t => by
    have ih := RepD.has a t
    unfold dhas at ih ⊢
    rw [List.any_cons, List.any_cons, ih, b.eqv a]
theorem RepD.hasV {k : PV} {q : Key} (a : KeyR k q) {ks : List (PV × PV)} {ds : List (Key × V)} (d : RepD K G W H ks ds) : dhas ks k = (valV ds q).isSome := by rw [d.has a, valV_any]
theorem RepD.nope {k : PV} {q : Key} (a : KeyR k q) : ∀ {ks : List (PV × PV)} {ds : List (Key × V)}, RepD K G W H ks ds → dget ks k = none → valV ds q = none
  | _, _, .nil, _ => rfl
  | _, _, .cons (q := q2) (ks := ks) b r t, e => by
    have h := b.eqv a
    by_cases hq : q2 = q
    · rw [decide_eq_true hq] at h
      simp [dget, List.find?_cons, h] at e
    · rw [decide_eq_false hq] at h
      have e' : dget ks k = none := by simpa [dget, List.find?_cons, h] using e
      rw [valV_neg hq]
      exact RepD.nope a t e'
theorem RepD.append : ∀ {ks ks2 : List (PV × PV)} {ds ds2 : List (Key × V)}, RepD K G W H ks ds → RepD K G W H ks2 ds2 → RepD K G W H (ks ++ ks2) (ds ++ ds2)
  | _, _, _, _, .nil, s => s
  | _, _, _, _, .cons b r t, s => .cons b r (RepD.append t s)
theorem RepD.repl {k p : PV} {q : Key} {v : V} (a : KeyR k q) (rp : Rep K G W H p v) : ∀ {ks : List (PV × PV)} {ds : List (Key × V)}, RepD K G W H ks ds → RepD K G W H (ks.map fun kv => if keq kv.1 k = true then (kv.1, p) else kv) (ds.map fun kv => if kv.1 = q then (kv.1, v) else kv)
  | _, _, .nil => .nil
  | _, _, .cons (q := q2) b r t => by
    have h := b.eqv a
    simp only [List.map_cons]
    by_cases hq : q2 = q
    · rw [decide_eq_true hq] at h
      rw [if_pos h, if_pos hq]
      exact .cons b rp (RepD.repl a rp t)
    · rw [decide_eq_false hq] at h
      rw [if_neg (by rw [h]; decide), if_neg hq]
      exact .cons b r (RepD.repl a rp t)
theorem RepD.put {k p : PV} {q : Key} {v : V} (a : KeyR k q) (rp : Rep K G W H p v) {ks : List (PV × PV)} {ds : List (Key × V)} (d : RepD K G W H ks ds) : RepD K G W H (dput ks k p) (putK ds q v) := by
  unfold dput putK
  rw [d.has a]
  by_cases h : (ds.any fun kv => decide (kv.1 = q)) = true
  · rw [if_pos h, if_pos h]
    exact d.repl a rp
  · rw [if_neg h, if_neg h]
    exact d.append (.cons a rp .nil)
theorem RepD.at_ : ∀ {ks : List (PV × PV)} {ds : List (Key × V)} {i : Nat} {k p : PV}, RepD K G W H ks ds → ks[i]? = some (k, p) → ∃ q v, ds[i]? = some (q, v) ∧ KeyR k q ∧ Rep K G W H p v
  | _, _, _, _, _, .nil, e => by simp at e
  | _, _, 0, _, _, .cons b r _, e => by simp at e; obtain ⟨rfl, rfl⟩ := e; exact ⟨_, _, rfl, b, r⟩
  | _, _, i + 1, _, _, .cons _ _ t, e => by
    obtain ⟨q, v, h1, h2, h3⟩ := RepD.at_ (i := i) t (by simpa using e)
    exact ⟨q, v, by simpa using h1, h2, h3⟩
end
section
variable {X : Cx} {G : GE}
/-- d[y] by values -/
theorem tail_dict {value slice : Expr} {pins : List (Addr × Obj)} {s : Shared} {σ : L2.St} {H : Hp} {a : Addr} {kvs : List (Key × V)} {q : Key} {v : V} {u : Value} {Q : VK} (hu : X.A.units + 1 < cLine) (I : Inv X pins σ H s) (hd : Rd H a (.dK kvs)) (hv : valV kvs q = some v) (ry : RelV (kV q) u) (hQ : Q v H)
    (hs : subscripted slice false (.ref a) u = operate [.ref a, u] (getItem (.ref a) u)) : wpAny (model X.prog X.w) X.A (subscriptTail value slice (.ref a) u) (EP X pins σ Q) X.xe s := by
  have g : DGet H a (kV q) (some v) := .inl ⟨kvs, q, hd, rfl, hv.symm⟩
  have hT := dict_typeIs I g
  have h2 : wpAny (model X.prog X.w) X.A (getItem (.ref a) u) (EP X pins σ Q) X.xe s := d_getItem hu I g ry fun w' s3 I3 rw' => ⟨v, H, I3, rw', hQ⟩
  unfold subscriptTail
  refine wpAny_bind ?_
  rw [getitemInPython_of_ne hT.not_modules]
  refine wpAny_bind (wpAny_specialOf hT PySem.F.slot_dict_getitem.lookup ?_)
  have fin : wpAny (model X.prog X.w) X.A (subscripted slice false (.ref a) u) (fun r s₃ => wpAny (model X.prog X.w) X.A (letTemporaryGo value (.ref a) r >>= fun _ => pure r) (EP X pins σ Q) X.xe s₃) X.xe s := by
    rw [hs]
    exact wpAny_operating (wpAny_mono h2 (fun r s₃ h₃ => wpAny_bind (wpAny_letTemporaryGo (wpAny_pure h₃))) fun _ _ x => x)
  first
    | exact wpAny_pure (wpAny_bind fin)
    | exact wpAny_bind (wpAny_pure (wpAny_bind fin))
    | exact wpAny_bind fin
/-- xs[i] = v, d[y] = v -/
def rSetA : V → V → V → Hp → (Hp → Prop) → Prop := fun o i v H Q => rSetL o i v H Q ∨ ∃ a H', o = .ref a ∧ DPut H a i v H' ∧ Q H'
theorem set_any (hu : X.A.units + 1 < cLine) : PSet X rSetA := by
  intro pins s σ H o i v ov iv u Q I ro ri rv h
  rcases h with h | ⟨a, H', rfl, g, q⟩
  · exact set_list pins s σ H o i v ov iv u Q I ro ri rv h
  · cases ro
    exact d_setItem hu I g ri rv fun s4 I4 => ⟨_, I4, q⟩
end
end Z

set_option maxHeartbeats 4000000
/-! Z over the hand layer: comparisons, indices, slices. -/
namespace Z
open PySem PySem.Spec L2

/-! ### plain data as the library's data -/
mutual
def toD : PV → PyData
  | .non => .none
  | .bl b => .bool b
  | .int i => .int i
  | .str s => .str ⟨s.toArray⟩
  | .lst xs => .list (toDs xs)
  | .tup xs => .tuple (toDs xs)
  | _ => .none
def toDs : List PV → List PyData
  | [] => []
  | x :: xs => toD x :: toDs xs
end
theorem str_beq (a b : List Nat) : ((⟨a.toArray⟩ : Str) == ⟨b.toArray⟩) = (a == b) := SX.S_beq a b
mutual
theorem pok_lay : ∀ (p : PV) (n : Nat), pok n p = true → (toD p).canLay0 = true ∧ (toD p).depth ≤ n
  | .non, _, _ => by simp [toD, PyData.canLay0, PyData.depth]
  | .bl b, _, _ => by simp [toD, PyData.canLay0, PyData.depth]
  | .int b, _, _ => by simp [toD, PyData.canLay0, PyData.depth]
  | .str s, n, h => by
    have h' : s.all (· < 0x110000) = true := by simpa [pok] using h
    simpa [toD, PyData.canLay0, PyData.depth, PyData.strOk] using h'
  | .lst xs, 0, h => by simp [pok] at h
  | .lst xs, n + 1, h => by
    obtain ⟨h1, h2⟩ := poks_lay xs n (by simpa [pok] using h)
    simp only [toD, PyData.canLay0, PyData.depth]
    exact ⟨h1, by omega⟩
  | .tup xs, 0, h => by simp [pok] at h
  | .tup xs, n + 1, h => by
    obtain ⟨h1, h2⟩ := poks_lay xs n (by simpa [pok] using h)
    simp only [toD, PyData.canLay0, PyData.depth]
    exact ⟨h1, by omega⟩
  | .dct _, 0, h => by simp [pok] at h
  | .dct _, n + 1, h => by simp [pok] at h
  | .set _, 0, h => by simp [pok] at h
  | .set _, n + 1, h => by simp [pok] at h
  | .fn _, 0, h => by simp [pok] at h
  | .fn _, n + 1, h => by simp [pok] at h
  | .cls _, 0, h => by simp [pok] at h
  | .cls _, n + 1, h => by simp [pok] at h
  | .frz _, 0, h => by simp [pok] at h
  | .dcf _, 0, h => by simp [pok] at h
  | .frz _, n + 1, h => by simp [pok] at h
  | .dcf _, n + 1, h => by simp [pok] at h
theorem poks_lay : ∀ (xs : List PV) (n : Nat), poks n xs = true → PyData.canLayAll0 (toDs xs) = true ∧ PyData.depthAll (toDs xs) ≤ n
  | [], _, _ => by simp [toDs, PyData.canLayAll0, PyData.depthAll]
  | x :: xs, n, h => by
    have h' : pok n x = true ∧ poks n xs = true := by simpa [poks] using h
    obtain ⟨a1, a2⟩ := pok_lay x n h'.1
    obtain ⟨b1, b2⟩ := poks_lay xs n h'.2
    simp only [toDs, PyData.canLayAll0, PyData.depthAll, a1, b1, Bool.and_self, true_and]
    omega
end
mutual
theorem peq_eqv : ∀ (p q : PV) (n : Nat), pok n p = true → pok n q = true → PyData.eqv (toD p) (toD q) = peq p q
  | .lst xs, .lst ys, n + 1, hp, hq => by
    simp only [toD, PyData.eqv, peq]
    exact peqs_eqv xs ys n (by simpa [pok] using hp) (by simpa [pok] using hq)
  | .tup xs, .tup ys, n + 1, hp, hq => by
    simp only [toD, PyData.eqv, peq]
    exact peqs_eqv xs ys n (by simpa [pok] using hp) (by simpa [pok] using hq)
  | .str a, .str b, n, hp, hq => by
    simp only [toD, PyData.eqv, peq]
    exact str_beq a b
  | .lst xs, .lst ys, 0, hp, hq => by simp [pok] at hp
  | .tup xs, .tup ys, 0, hp, hq => by simp [pok] at hp
  | .non, q, n, hp, hq => by cases q <;> first | rfl | (simp [pok] at hq) | (cases n <;> simp [pok] at hq)
  | .bl a, q, n, hp, hq => by cases q <;> first | rfl | (simp [pok] at hq) | (cases n <;> simp [pok] at hq)
  | .int a, q, n, hp, hq => by cases q <;> first | rfl | (simp [pok] at hq) | (cases n <;> simp [pok] at hq)
  | .str a, .non, n, hp, hq => rfl
  | .str a, .bl _, n, hp, hq => rfl
  | .str a, .int _, n, hp, hq => rfl
  | .str a, .lst _, n, hp, hq => rfl
  | .str a, .tup _, n, hp, hq => rfl
  | .str a, .dct _, n, hp, hq => by cases n <;> simp [pok] at hq
  | .str a, .set _, n, hp, hq => by cases n <;> simp [pok] at hq
  | .str a, .fn _, n, hp, hq => by cases n <;> simp [pok] at hq
  | .str a, .cls _, n, hp, hq => by cases n <;> simp [pok] at hq
  | .str a, .frz _, n, hp, hq => by cases n <;> simp [pok] at hq
  | .str a, .dcf _, n, hp, hq => by cases n <;> simp [pok] at hq
  | .lst a, .non, n, hp, hq => rfl
  | .lst a, .bl _, n, hp, hq => rfl
  | .lst a, .int _, n, hp, hq => rfl
  | .lst a, .str _, n, hp, hq => rfl
  | .lst a, .tup _, n, hp, hq => rfl
  | .lst a, .dct _, n, hp, hq => by cases n <;> simp [pok] at hq
  | .lst a, .set _, n, hp, hq => by cases n <;> simp [pok] at hq
  | .lst a, .fn _, n, hp, hq => by cases n <;> simp [pok] at hq
  | .lst a, .cls _, n, hp, hq => by cases n <;> simp [pok] at hq
  | .lst a, .frz _, n, hp, hq => by cases n <;> simp [pok] at hq
  | .lst a, .dcf _, n, hp, hq => by cases n <;> simp [pok] at hq
  | .tup a, .non, n, hp, hq => rfl
  | .tup a, .bl _, n, hp, hq => rfl
  | .tup a, .int _, n, hp, hq => rfl
  | .tup a, .str _, n, hp, hq => rfl
  | .tup a, .lst _, n, hp, hq => rfl
  | .tup a, .dct _, n, hp, hq => by cases n <;> simp [pok] at hq
  | .tup a, .set _, n, hp, hq => by cases n <;> simp [pok] at hq
  | .tup a, .fn _, n, hp, hq => by cases n <;> simp [pok] at hq
  | .tup a, .cls _, n, hp, hq => by cases n <;> simp [pok] at hq
  | .tup a, .frz _, n, hp, hq => by cases n <;> simp [pok] at hq
  | .tup a, .dcf _, n, hp, hq => by cases n <;> simp [pok] at hq
  | .dct _, _, n, hp, hq => by cases n <;> simp [pok] at hp
  | .set _, _, n, hp, hq => by cases n <;> simp [pok] at hp
  | .fn _, _, n, hp, hq => by cases n <;> simp [pok] at hp
  | .cls _, _, n, hp, hq => by cases n <;> simp [pok] at hp
  | .frz _, _, n, hp, hq => by cases n <;> simp [pok] at hp
  | .dcf _, _, n, hp, hq => by cases n <;> simp [pok] at hp
theorem peqs_eqv : ∀ (xs ys : List PV) (n : Nat), poks n xs = true → poks n ys = true → PyData.eqvAll (toDs xs) (toDs ys) = peqs xs ys
  | [], [], _, _, _ => rfl
  | [], y :: ys, _, _, _ => by simp [toDs, PyData.eqvAll, peqs]
  | x :: xs, [], _, _, _ => by simp [toDs, PyData.eqvAll, peqs]
  | x :: xs, y :: ys, n, hp, hq => by
    have hp' : pok n x = true ∧ poks n xs = true := by simpa [poks] using hp
    have hq' : pok n y = true ∧ poks n ys = true := by simpa [poks] using hq
    simp only [toDs, PyData.eqvAll, peqs, peq_eqv x y n hp'.1 hq'.1, peqs_eqv xs ys n hp'.2 hq'.2]
end

section
variable {K : PySem.W.Frag} {G : GE} {W : List Addr} {H : Hp}
mutual
theorem Rep.dp : ∀ {p : PV} {v : V} (n : Nat), Rep K G W H p v → pok n p = true → Dp K H v (toD p)
  | _, _, _, .non, _ => .non
  | _, _, _, .bl b, _ => .bl b
  | _, _, _, .int b, _ => .int b
  | _, _, _, .str b, _ => .str _
  | _, _, 0, .tup h n r, e => by simp [pok] at e
  | _, _, m + 1, .tup h n r, e => .tup (.inl (.inl h)) (Reps.dp m r (by simpa [pok] using e))
  | _, _, 0, .lst h n r, e => by simp [pok] at e
  | _, _, m + 1, .lst h n r, e => .lst (.inl (.inl h)) (Reps.dp m r (by simpa [pok] using e))
  | _, _, 0, .tupK h1 h2 h3 h4 h5 r, e => by simp [pok] at e
  | _, _, m + 1, .tupK h1 h2 h3 h4 h5 r, e => .tup (.inr ⟨_, _, _, h1, h2, h3, h4, h5⟩) (Reps.dp m r (by simpa [pok] using e))
  | _, _, n, .frz h _ r, e => by cases n <;> simp [pok] at e
  | _, _, n, .frzK _ _ _ _ _ _ r, e => by cases n <;> simp [pok] at e
  | _, _, n, .fn _, e => by cases n <;> simp [pok] at e
  | _, _, n, .cls _, e => by cases n <;> simp [pok] at e
  | _, _, n, .dct _ _ _, e => by cases n <;> simp [pok] at e
theorem Reps.dp : ∀ {p : List PV} {v : List V} (n : Nat), Reps K G W H p v → poks n p = true → DpAll K H v (toDs p)
  | _, _, _, .nil, _ => .nil
  | p :: ps, _, n, .cons r rs, e => by
    have e' : pok n p = true ∧ poks n ps = true := by simpa [poks] using e
    exact .cons (Rep.dp n r e'.1) (Reps.dp n rs e'.2)
end
theorem Rr.dp {p : PV} {v : V} (n : Nat) (r : Rr K G W H p v) (e : pok n p = true) : Dp K H v (toD p) := by
  cases r with
  | non => exact .non
  | bl b => exact .bl b
  | int b => exact .int b
  | str b => exact .str _
  | tup h r w => exact w.dp n e
  | lst h r =>
    cases n with
    | zero => simp [pok] at e
    | succ m => exact .lst (.inl (.inl h)) (r.dp m (by simpa [pok] using e))
  | frz h r => cases n <;> simp [pok] at e
  | fn _ => cases n <;> simp [pok] at e
  | cls _ => cases n <;> simp [pok] at e
  | dct _ _ => cases n <;> simp [pok] at e
  | dcf _ _ => cases n <;> simp [pok] at e
end

theorem shaped_of {p : PV} (h : pok 60 p = true) : SeqAt.shaped (toD p) = true := by
  obtain ⟨h1, h2⟩ := pok_lay p 60 h
  unfold SeqAt.shaped
  rw [h1, Bool.true_and]
  exact decide_eq_true (by omega)

/-- a comparison by values: a bool -/
def rC (K : PySem.W.Frag) (G : GE) (f : PV → PV → Option Bool) : R2 := fun x y H Q => ∃ ρ : Pr, ∃ p q b, Rr K G ρ.W H p x ∧ Rr K G ρ.W H q y ∧ f p q = some b ∧ Q (.bl b) H

section
variable {X : Cx} {G : GE}
theorem dec_str' (a b : List Nat) : decide (V.str ⟨a.toArray⟩ = V.str ⟨b.toArray⟩) = (a == b) := by rw [dec_str, str_beq]
theorem eq_ok (hu : X.A.units + 64 < cLine) : OpR X (compareOp .Eq) (rC X.K G (cmp .eq)) := by
  rintro pins s σ H x y v u Q I rx ry ⟨ρ, p, q, b, hp, hq, e, hQ⟩
  have gen : (if pok 60 p && pok 60 q then some (peq p q) else none) = some b → wpAny (model X.prog X.w) X.A (compareOp .Eq v u) (EP X pins σ Q) X.xe s := fun e' => by
    split at e'
    · rename_i h
      cases e'
      rw [Bool.and_eq_true] at h
      refine op_eqD hu pins s σ H x y v u Q I rx ry ⟨_, _, hp.dp 60 h.1, hq.dp 60 h.2, shaped_of h.1, shaped_of h.2, ?_⟩
      rw [peq_eqv p q 60 h.1 h.2]
      exact hQ
    · cases e'
  have e0 : eqB p q = some b := e
  unfold eqB at e0
  split at e0
  · cases e0
    cases hp; cases hq
    exact op_eq pins s σ H _ _ v u Q I rx ry ⟨rfl, by rw [dec_int]; exact hQ⟩
  · cases e0
    cases hp; cases hq
    exact op_eq pins s σ H _ _ v u Q I rx ry ⟨rfl, by rw [dec_str']; exact hQ⟩
  · cases e0
    cases hp; cases hq
    exact op_eq pins s σ H _ _ v u Q I rx ry ⟨rfl, by rw [dec_bl]; exact hQ⟩
  · exact gen e0
theorem ne_ok (hu : X.A.units + 64 < cLine) : OpR X (compareOp .NotEq) (rC X.K G (cmp .ne)) := by
  rintro pins s σ H x y v u Q I rx ry ⟨ρ, p, q, b, hp, hq, e, hQ⟩
  have e1 : (eqB p q).map (!·) = some b := e
  obtain ⟨c, e0, rfl⟩ := Option.map_eq_some_iff.mp e1
  have gen : (if pok 60 p && pok 60 q then some (peq p q) else none) = some c → wpAny (model X.prog X.w) X.A (compareOp .NotEq v u) (EP X pins σ Q) X.xe s := fun e' => by
    split at e'
    · rename_i h
      cases e'
      rw [Bool.and_eq_true] at h
      refine op_neD hu pins s σ H x y v u Q I rx ry ⟨_, _, hp.dp 60 h.1, hq.dp 60 h.2, shaped_of h.1, shaped_of h.2, ?_⟩
      rw [peq_eqv p q 60 h.1 h.2]
      exact hQ
    · cases e'
  unfold eqB at e0
  split at e0
  · cases e0
    cases hp; cases hq
    exact op_ne pins s σ H _ _ v u Q I rx ry ⟨rfl, by rw [dec_int]; exact hQ⟩
  · cases e0
    cases hp; cases hq
    exact op_ne pins s σ H _ _ v u Q I rx ry ⟨rfl, by rw [dec_str']; exact hQ⟩
  · cases e0
    cases hp; cases hq
    exact op_ne pins s σ H _ _ v u Q I rx ry ⟨rfl, by rw [dec_bl]; exact hQ⟩
  · exact gen e0
theorem lt_ok : OpR X (compareOp .Lt) (rC X.K G (cmp .lt)) := by
  rintro pins s σ H x y v u Q I rx ry ⟨ρ, p, q, b, hp, hq, e, hQ⟩
  cases hp <;> cases hq <;> first | (simp [cmp] at e; done) | (simp only [cmp] at e; cases e; exact op_lt pins s σ H _ _ v u Q I rx ry ⟨_, _, rfl, rfl, hQ⟩)
theorem le_ok : OpR X (compareOp .LtE) (rC X.K G (cmp .le)) := by
  rintro pins s σ H x y v u Q I rx ry ⟨ρ, p, q, b, hp, hq, e, hQ⟩
  cases hp <;> cases hq <;> first | (simp [cmp] at e; done) | (simp only [cmp] at e; cases e; exact op_le pins s σ H _ _ v u Q I rx ry ⟨_, _, rfl, rfl, hQ⟩)
theorem gt_ok : OpR X (compareOp .Gt) (rC X.K G (cmp .gt)) := by
  rintro pins s σ H x y v u Q I rx ry ⟨ρ, p, q, b, hp, hq, e, hQ⟩
  cases hp <;> cases hq <;> first | (simp [cmp] at e; done) | (simp only [cmp] at e; cases e; exact op_gt pins s σ H _ _ v u Q I rx ry ⟨_, _, rfl, rfl, hQ⟩)
theorem ge_ok : OpR X (compareOp .GtE) (rC X.K G (cmp .ge)) := by
  rintro pins s σ H x y v u Q I rx ry ⟨ρ, p, q, b, hp, hq, e, hQ⟩
  cases hp <;> cases hq <;> first | (simp [cmp] at e; done) | (simp only [cmp] at e; cases e; exact op_ge pins s σ H _ _ v u Q I rx ry ⟨_, _, rfl, rfl, hQ⟩)
theorem Rr.isN {K : PySem.W.Frag} {W : List Addr} {H : Hp} {p : PV} {v : V} (r : Rr K G W H p v) {b : Bool} (e : isB p .non = some b) : decide (v = .non) = b := by
  cases r <;> simp [isB] at e <;> subst e <;> simp
theorem is_ok : OpR X (compareOp .Is) (rC X.K G (cmp .is)) := by
  rintro pins s σ H x y v u Q I rx ry ⟨ρ, p, q, b, hp, hq, e, hQ⟩
  cases hq with
  | non =>
    have := hp.isN e
    subst this
    exact op_isN pins s σ H _ _ v u Q I rx ry ⟨rfl, hQ⟩
  | bl c =>
    cases hp with
    | bl a =>
      simp only [cmp, isB] at e
      cases e
      exact op_isBl pins s σ H _ _ v u Q I rx ry ⟨_, _, rfl, rfl, by rw [← Bool.beq_eq_decide_eq]; exact hQ⟩
    | _ => simp [cmp, isB] at e
  | _ => cases hp <;> simp [cmp, isB] at e
theorem isnot_ok : OpR X (compareOp .IsNot) (rC X.K G (cmp .isnot)) := by
  rintro pins s σ H x y v u Q I rx ry ⟨ρ, p, q, b, hp, hq, e, hQ⟩
  have e1 : (isB p q).map (!·) = some b := e
  obtain ⟨c, e0, rfl⟩ := Option.map_eq_some_iff.mp e1
  cases hq with
  | non =>
    have := hp.isN e0
    subst this
    exact op_notN pins s σ H _ _ v u Q I rx ry ⟨rfl, hQ⟩
  | bl d =>
    cases hp with
    | bl a =>
      simp only [isB] at e0
      cases e0
      exact op_notBl pins s σ H _ _ v u Q I rx ry ⟨_, _, rfl, rfl, by rw [← Bool.beq_eq_decide_eq]; exact hQ⟩
    | _ => simp [isB] at e0
  | _ => cases hp <;> simp [isB] at e0
theorem Rr.flat {K : PySem.W.Frag} {W : List Addr} {H : Hp} {p : PV} {v : V} (r : Rr K G W H p v) (h : Z.flat p = true) : flatV v = true := by
  cases r <;> first | rfl | (simp [Z.flat] at h)
theorem Reps.flat {K : PySem.W.Frag} {W : List Addr} {H : Hp} : ∀ {ps : List PV} {vs : List V}, Reps K G W H ps vs → ps.all Z.flat = true → vs.all flatV = true
  | _, _, .nil, _ => rfl
  | _, _, .cons r rs, h => by
    rw [List.all_cons, Bool.and_eq_true] at h ⊢
    exact ⟨r.rr.flat h.1, Reps.flat rs h.2⟩
theorem Rr.eqV {K : PySem.W.Frag} {W : List Addr} {H : Hp} {p q : PV} {v u : V} (r : Rr K G W H p v) (t : Rr K G W H q u) (h : Z.flat p = true) (h' : Z.flat q = true) : L2.eqV v u = peq p q := by
  cases r <;> first | (simp [Z.flat] at h; done) | (cases t <;> first | (simp [Z.flat] at h'; done) | (simp only [L2.eqV, peq]; done) | (simp only [L2.eqV, peq]; exact str_beq _ _))
theorem Reps.inV {K : PySem.W.Frag} {W : List Addr} {H : Hp} {p : PV} {v : V} (r : Rr K G W H p v) (h : Z.flat p = true) : ∀ {ps : List PV} {vs : List V}, Reps K G W H ps vs → ps.all Z.flat = true → L2.inV v vs = ps.any fun y => peq y p
  | _, _, .nil, _ => rfl
  | _, _, .cons t ts, e => by
    rw [List.all_cons, Bool.and_eq_true] at e
    have ih := Reps.inV r h ts e.2
    unfold L2.inV at ih ⊢
    rw [List.any_cons, List.any_cons, t.rr.eqV r e.1 h, ih]
theorem any_eqv {p : PV} (hp : pok 59 p = true) : ∀ {xs : List PV}, poks 59 xs = true → ((toDs xs).any fun z => PyData.eqv z (toD p)) = xs.any fun y => peq y p
  | [], _ => rfl
  | x :: xs, h => by
    have h' : pok 59 x = true ∧ poks 59 xs = true := by simpa [poks] using h
    simp only [toDs, List.any_cons, peq_eqv x p 59 h'.1 hp, any_eqv hp h'.2]
theorem shaped59 {p : PV} (h : pok 59 p = true) : SeqAt.shaped (toD p) = true := by
  obtain ⟨h1, h2⟩ := pok_lay p 59 h
  unfold SeqAt.shaped
  rw [h1, Bool.true_and]
  exact decide_eq_true (by omega)
theorem lst60 {xs : List PV} (h : poks 59 xs = true) : pok 60 (.lst xs) = true := by simpa [pok] using h
theorem tup60 {xs : List PV} (h : poks 59 xs = true) : pok 60 (.tup xs) = true := by simpa [pok] using h
/-- x in a tuple, deep -/
theorem in_tupD {pins : List (Addr × Obj)} {s : Shared} {σ : L2.St} {H : Hp} {x y : V} {v u : Value} {d : PyData} {ds : List PyData} {Q : VK} (hu : X.A.units + 65 < cLine) (I : Inv X pins σ H s) (rx : RelV x v) (ry : RelV y u) (hd : Dp X.K H x d) (he : Dp X.K H y (.tuple ds)) (sd : SeqAt.shaped d = true) (se : SeqAt.shaped (.tuple ds) = true) (q : Q (.bl (ds.any fun z => PyData.eqv z d)) H) :
    wpAny (model X.prog X.w) X.A (compareOp .In v u) (EP X pins σ Q) X.xe s := by
  obtain ⟨as, r1⟩ := Dp.reads I d x v hd rx
  obtain ⟨bs, r2⟩ := Dp.reads I (.tuple ds) y u he ry
  exact SeqAt.in_tuple_reads r2 r1 (SeqAt.canLay_of_shaped (d := .list ds) se) (SeqAt.canLay_of_shaped sd) (PyProof.Rows.room_in_shaped sd hu) ⟨.bl _, H, I, rfl, q⟩
theorem notIn_tupD {pins : List (Addr × Obj)} {s : Shared} {σ : L2.St} {H : Hp} {x y : V} {v u : Value} {d : PyData} {ds : List PyData} {Q : VK} (hu : X.A.units + 65 < cLine) (I : Inv X pins σ H s) (rx : RelV x v) (ry : RelV y u) (hd : Dp X.K H x d) (he : Dp X.K H y (.tuple ds)) (sd : SeqAt.shaped d = true) (se : SeqAt.shaped (.tuple ds) = true) (q : Q (.bl (!ds.any fun z => PyData.eqv z d)) H) :
    wpAny (model X.prog X.w) X.A (compareOp .NotIn v u) (EP X pins σ Q) X.xe s := by
  obtain ⟨as, r1⟩ := Dp.reads I d x v hd rx
  obtain ⟨bs, r2⟩ := Dp.reads I (.tuple ds) y u he ry
  exact SeqAt.notIn_tuple_reads r2 r1 (SeqAt.canLay_of_shaped (d := .list ds) se) (SeqAt.canLay_of_shaped sd) (PyProof.Rows.room_in_shaped sd hu) ⟨.bl _, H, I, rfl, q⟩
theorem in_ok (hu : X.A.units + 65 < cLine) : OpR X (compareOp .In) (rC X.K G (cmp .isin)) := by
  rintro pins s σ H x y v u Q I rx ry ⟨ρ, p, q, b, hp, hq, e, hQ⟩
  have e0 : inB p q = some b := e
  unfold inB at e0
  split at e0
  · cases e0
    cases hp; cases hq
    exact op_in_sign pins s σ H _ _ v u Q I rx ry ⟨_, _, rfl, rfl, by simpa using hQ⟩
  · rename_i p' xs
    split at e0
    · rename_i h
      cases e0
      rw [Bool.and_eq_true] at h
      cases hq with
      | lst ha ra =>
        refine op_in_seq pins s σ H _ _ v u Q I rx ry ⟨_, _, rfl, .inl (.inl (.inl ha)), hp.flat h.1, ra.flat h.2, ?_⟩
        rw [if_neg (by decide), Reps.inV hp h.1 ra h.2]
        exact hQ
    · split at e0
      · rename_i h
        cases e0
        rw [Bool.and_eq_true] at h
        refine op_inD (by omega) pins s σ H _ _ v u Q I rx ry ⟨_, toDs xs, hp.dp 59 h.1, hq.dp 60 (lst60 h.2), shaped59 h.1, shaped_of (lst60 h.2), ?_⟩
        rw [any_eqv h.1 h.2]
        exact hQ
      · cases e0
  · rename_i p' xs
    split at e0
    · rename_i h
      cases e0
      rw [Bool.and_eq_true] at h
      cases hq with
      | tup ha ra wa =>
        refine op_in_seq pins s σ H _ _ v u Q I rx ry ⟨_, _, rfl, .inr ha, hp.flat h.1, ra.flat h.2, ?_⟩
        rw [if_neg (by decide), Reps.inV hp h.1 ra h.2]
        exact hQ
    · split at e0
      · rename_i h
        cases e0
        rw [Bool.and_eq_true] at h
        refine in_tupD (by omega) I rx ry (hp.dp 59 h.1) (hq.dp 60 (tup60 h.2)) (shaped59 h.1) (shaped_of (tup60 h.2)) ?_
        rw [any_eqv h.1 h.2]
        exact hQ
      · cases e0
  · rename_i p' ks
    split at e0
    · rename_i h
      cases e0
      cases hq with
      | dct hd rd =>
        obtain ⟨q, hk, rfl⟩ := KeyR.of h hp
        cases ry
        refine d_in (by omega) I (.inl ⟨_, q, hd, rfl, rfl⟩) rx (fun s3 I3 => ⟨.bl _, H, I3, rfl, ?_⟩) 
        rw [← rd.hasV hk]
        exact hQ
    · cases e0
  · rename_i p' ks
    split at e0
    · rename_i h
      cases e0
      cases hq with
      | dcf hd rd =>
        obtain ⟨q, hk, rfl⟩ := KeyR.of h hp
        cases ry
        refine d_in (by omega) I (.inl ⟨_, q, hd, rfl, rfl⟩) rx (fun s3 I3 => ⟨.bl _, H, I3, rfl, ?_⟩) 
        rw [← rd.hasV hk]
        exact hQ
    · cases e0
  · cases e0
theorem notin_ok (hu : X.A.units + 65 < cLine) : OpR X (compareOp .NotIn) (rC X.K G (cmp .notin)) := by
  rintro pins s σ H x y v u Q I rx ry ⟨ρ, p, q, b, hp, hq, e, hQ⟩
  have e1 : (inB p q).map (!·) = some b := e
  obtain ⟨c, e0, rfl⟩ := Option.map_eq_some_iff.mp e1
  unfold inB at e0
  split at e0
  · cases e0
    cases hp; cases hq
    exact op_notIn_sign pins s σ H _ _ v u Q I rx ry ⟨_, _, rfl, rfl, by simpa using hQ⟩
  · rename_i p' xs
    split at e0
    · rename_i h
      cases e0
      rw [Bool.and_eq_true] at h
      cases hq with
      | lst ha ra =>
        refine op_notIn_seq pins s σ H _ _ v u Q I rx ry ⟨_, _, rfl, .inl (.inl (.inl ha)), hp.flat h.1, ra.flat h.2, ?_⟩
        rw [if_pos rfl, Reps.inV hp h.1 ra h.2]
        exact hQ
    · split at e0
      · rename_i h
        cases e0
        rw [Bool.and_eq_true] at h
        refine op_notInD (by omega) pins s σ H _ _ v u Q I rx ry ⟨_, toDs xs, hp.dp 59 h.1, hq.dp 60 (lst60 h.2), shaped59 h.1, shaped_of (lst60 h.2), ?_⟩
        rw [any_eqv h.1 h.2]
        exact hQ
      · cases e0
  · rename_i p' xs
    split at e0
    · rename_i h
      cases e0
      rw [Bool.and_eq_true] at h
      cases hq with
      | tup ha ra wa =>
        refine op_notIn_seq pins s σ H _ _ v u Q I rx ry ⟨_, _, rfl, .inr ha, hp.flat h.1, ra.flat h.2, ?_⟩
        rw [if_pos rfl, Reps.inV hp h.1 ra h.2]
        exact hQ
    · split at e0
      · rename_i h
        cases e0
        rw [Bool.and_eq_true] at h
        refine notIn_tupD (by omega) I rx ry (hp.dp 59 h.1) (hq.dp 60 (tup60 h.2)) (shaped59 h.1) (shaped_of (tup60 h.2)) ?_
        rw [any_eqv h.1 h.2]
        exact hQ
      · cases e0
  · rename_i p' ks
    split at e0
    · rename_i h
      cases e0
      cases hq with
      | dct hd rd =>
        obtain ⟨q, hk, rfl⟩ := KeyR.of h hp
        cases ry
        refine d_notIn (by omega) I (.inl ⟨_, q, hd, rfl, rfl⟩) rx (fun s3 I3 => ⟨.bl _, H, I3, rfl, ?_⟩) 
        rw [← rd.hasV hk]
        exact hQ
    · cases e0
  · rename_i p' ks
    split at e0
    · rename_i h
      cases e0
      cases hq with
      | dcf hd rd =>
        obtain ⟨q, hk, rfl⟩ := KeyR.of h hp
        cases ry
        refine d_notIn (by omega) I (.inl ⟨_, q, hd, rfl, rfl⟩) rx (fun s3 I3 => ⟨.bl _, H, I3, rfl, ?_⟩) 
        rw [← rd.hasV hk]
        exact hQ
    · cases e0
  · cases e0
theorem cmp_ok (hu : X.A.units + 65 < cLine) : ∀ o : OpC, OpR X (compareOp (cmOf o)) (rC X.K G (cmp o))
  | .eq => eq_ok (by omega)
  | .ne => ne_ok (by omega)
  | .lt => lt_ok
  | .le => le_ok
  | .gt => gt_ok
  | .ge => ge_ok
  | .is => is_ok
  | .isnot => isnot_ok
  | .isin => in_ok hu
  | .notin => notin_ok hu

/-! ### indices, slices -/
theorem atI_rel {K : PySem.W.Frag} {W : List Addr} {H : Hp} {ps : List PV} {vs : List V} (r : Reps K G W H ps vs) {i : Int} {p : PV} (h : Z.atI ps i = some p) : ∃ v, L2.atI vs i = some v ∧ Rep K G W H p v := by
  unfold Z.atI at h
  obtain ⟨j, e1, e2⟩ := Option.bind_eq_some_iff.mp h
  obtain ⟨v, e3, rv⟩ := r.get e2
  refine ⟨v, ?_, rv⟩
  unfold L2.atI
  rw [← r.length]
  have : L2.ixN ps.length i = some j := e1
  rw [this]
  exact e3
theorem idx_ok (hu : X.A.units + 64 < cLine) : IxR X (rB X.K G idxR) := by
  rintro ex1 ex2 pins s σ H x y v u Q I rx ry ⟨ρ, μ, p, q, r, hl, hp, hq, e, hQ⟩ hsb
  have e1 : (idx p q).map RV.v = some r := e
  obtain ⟨z, e0, rfl⟩ := Option.map_eq_some_iff.mp e1
  cases hp with
  | lst ha ra =>
    cases hq with
    | int i =>
      obtain ⟨w, h1, h2⟩ := atI_rel ra (show Z.atI _ i = some z from e0)
      exact ix_list ex1 ex2 pins s σ H _ _ v u Q I rx ry ⟨_, _, i, w, rfl, rfl, .inl (.inl ha), h1, hQ.val h2⟩ hsb
    | _ => simp [idx] at e0
  | tup ha ra wa =>
    cases hq with
    | int i =>
      obtain ⟨w, h1, h2⟩ := atI_rel ra (show Z.atI _ i = some z from e0)
      exact ix_tup ex1 ex2 pins s σ H _ _ v u Q I rx ry ⟨_, _, i, w, rfl, rfl, ha, h1, hQ.val h2⟩ hsb
    | _ => simp [idx] at e0
  | str a =>
    cases hq with
    | int i =>
      have e2 : (if a.length ≤ SZ then (Z.atI a i).map fun c => PV.str [c] else none) = some z := e0
      split at e2
      · rename_i h
        obtain ⟨c, e3, rfl⟩ := Option.map_eq_some_iff.mp e2
        refine ix_str ex1 ex2 pins s σ H _ _ v u Q I rx ry ⟨_, i, c, rfl, rfl, by rw [S_len', ← sz_eq]; exact h, ?_, hQ.val (.str [c])⟩ hsb
        exact e3
      · cases e2
    | _ => simp [idx] at e0
  | dct hd rd =>
    simp only [idx] at e0
    split at e0
    · rename_i h
      obtain ⟨q, hk, rfl⟩ := KeyR.of h hq
      obtain ⟨w, h1, h2⟩ := rd.get hk e0
      cases rx
      exact tail_dict (by omega) I hd h1 ry (hQ.val h2) hsb
    · cases e0
  | dcf hd rd =>
    simp only [idx] at e0
    split at e0
    · rename_i h
      obtain ⟨q, hk, rfl⟩ := KeyR.of h hq
      obtain ⟨w, h1, h2⟩ := rd.get hk e0
      cases rx
      exact tail_dict (by omega) I hd h1 ry (hQ.val h2) hsb
    · cases e0
  | _ => simp [idx] at e0

/-- a slice by values -/
def rS (K : PySem.W.Frag) (G : GE) : V → Option Int → Option Int → Hp → VK → Prop := fun x lo hi H Q => ∃ (ρ : Pr) (μ : Sto), ∃ p r, RelSt K G ρ μ H ∧ Rr K G ρ.W H p x ∧ slc p lo hi = some r ∧ Fin K G ρ μ H r Q
theorem cut_rel {K : PySem.W.Frag} {W : List Addr} {H : Hp} {ps : List PV} {vs : List V} (r : Reps K G W H ps vs) (lo hi : Option Int) : Reps K G W H (cut ps lo hi) (cutV vs lo hi) := by
  unfold cut cutV
  rw [← r.length]
  exact (r.drop _).take _
theorem slc_ok : SlR X (rS X.K G) := by
  intro pins s σ H x v vl vu lo hi sl Q I rx hs pl pu h
  obtain ⟨ρ, μ, p, r, hl, hp, e, hQ⟩ := h
  cases hp with
  | lst ha ra =>
    cases (show some (RV.new (.lst (cut _ lo hi))) = some r from e)
    exact sl_list pins s σ H _ v vl vu lo hi sl Q I rx hs pl pu ⟨_, _, rfl, .inl (.inl ha), hQ.new hl (cut_rel ra lo hi)⟩
  | tup ha ra wa =>
    cases (show some (RV.v (.tup (cut _ lo hi))) = some r from e)
    rename_i a xs ps
    refine sl_tupA pins s σ H _ v vl vu lo hi sl Q I rx hs pl pu ⟨_, _, rfl, ha, fun z => ?_, fun z => hQ.tup hl (cut_rel ra lo hi)⟩
    have : cut ps lo hi = ps := by
      unfold cut
      have h1 : clip ps.length 0 lo = 0 := by rw [ra.length]; exact z.1
      have h2 : clip ps.length ps.length hi = ps.length := by rw [ra.length]; exact z.2
      rw [h1, h2]
      simp
    rw [this] at hQ
    exact hQ.val wa
  | str a =>
    have e2 : (if a.length ≤ SZ then some (RV.v (.str (cut a lo hi))) else none) = some r := e
    split at e2
    · rename_i h
      cases e2
      refine sl_str pins s σ H _ v vl vu lo hi sl Q I rx hs pl pu ⟨_, rfl, by rw [S_len', ← sz_eq]; exact h, ?_⟩
      exact hQ.val (.str (cut a lo hi))
    · cases e2
  | _ => simp [slc] at e
end
end Z

set_option maxHeartbeats 4000000
/-! Z over the hand layer: built-in functions, methods of lists and texts. -/
namespace Z
open PySem PySem.Spec L2

/-- values as they are read now, one by one -/
abbrev Rrs (K : PySem.W.Frag) (G : GE) (W : List Addr) (H : Hp) : List PV → List V → Prop := Paired (Rr K G W H)
def rBi (K : PySem.W.Frag) (G : GE) (f : Bi) : List V → Hp → VK → Prop := fun xs H Q => ∃ (ρ : Pr) (μ : Sto), ∃ ps r, RelSt K G ρ μ H ∧ Rrs K G ρ.W H ps xs ∧ bi f ps = some r ∧ Fin K G ρ μ H r Q

section
variable {K : PySem.W.Frag} {G : GE} {W : List Addr} {H : Hp}
theorem bls_rel : ∀ {ps : List PV} {xs : List V} {bs : List Bool}, Reps K G W H ps xs → blsO ps = some bs → xs = bs.map V.bl
  | _, _, _, .nil, e => by cases e; rfl
  | p :: ps, _, bs, .cons r rs, e => by
    cases r with
    | bl b =>
      simp only [blsO] at e
      split at e
      · rename_i cs e2
        cases e
        rw [List.map_cons, ← bls_rel rs e2]
      · cases e
    | _ => simp [blsO] at e
theorem ints_rel : ∀ {ps : List PV} {xs : List V} {bs : List Int}, Reps K G W H ps xs → intsO ps = some bs → xs = bs.map V.int
  | _, _, _, .nil, e => by cases e; rfl
  | p :: ps, _, bs, .cons r rs, e => by
    cases r with
    | int b =>
      simp only [intsO] at e
      split at e
      · rename_i cs e2
        cases e
        rw [List.map_cons, ← ints_rel rs e2]
      · cases e
    | _ => simp [intsO] at e
theorem strs_rel : ∀ {ps : List PV} {xs : List V} {bs : List (List Nat)}, Reps K G W H ps xs → strsO ps = some bs → xs = (bs.map SX.S).map V.str
  | _, _, _, .nil, e => by cases e; rfl
  | p :: ps, _, bs, .cons r rs, e => by
    cases r with
    | str b =>
      simp only [strsO] at e
      split at e
      · rename_i cs e2
        cases e
        rw [List.map_cons, List.map_cons, ← strs_rel rs e2]
      · cases e
    | _ => simp [strsO] at e
theorem rrs1 {ps : List PV} {x : V} (r : Rrs K G W H ps [x]) : ∃ p, ps = [p] ∧ Rr K G W H p x := by
  cases r with
  | cons r t => cases t; exact ⟨_, rfl, r⟩
end
theorem foldMin_spec : ∀ (l : List Int) (m : Int), foldMin m l ∈ m :: l ∧ ∀ y ∈ m :: l, foldMin m l ≤ y
  | [], m => ⟨by simp [foldMin], by simp [foldMin]⟩
  | x :: l, m => by
    obtain ⟨h1, h2⟩ := foldMin_spec l (if x < m then x else m)
    have e : foldMin m (x :: l) = foldMin (if x < m then x else m) l := rfl
    rw [e]
    have hm := h2 _ (List.mem_cons_self ..)
    have hb : (if x < m then x else m) ≤ m ∧ (if x < m then x else m) ≤ x := by split <;> omega
    refine ⟨?_, fun y hy => ?_⟩
    · rcases List.mem_cons.mp h1 with h | h
      · rw [h]
        split
        · simp
        · simp
      · simp [h]
    · rcases List.mem_cons.mp hy with h | h
      · rw [h]; exact Int.le_trans hm hb.1
      · rcases List.mem_cons.mp h with h | h
        · rw [h]; exact Int.le_trans hm hb.2
        · exact h2 _ (by simp [h])
theorem foldMax_spec : ∀ (l : List Int) (m : Int), foldMax m l ∈ m :: l ∧ ∀ y ∈ m :: l, y ≤ foldMax m l
  | [], m => ⟨by simp [foldMax], by simp [foldMax]⟩
  | x :: l, m => by
    obtain ⟨h1, h2⟩ := foldMax_spec l (if m < x then x else m)
    have e : foldMax m (x :: l) = foldMax (if m < x then x else m) l := rfl
    rw [e]
    have hm := h2 _ (List.mem_cons_self ..)
    have hb : m ≤ (if m < x then x else m) ∧ x ≤ (if m < x then x else m) := by split <;> omega
    refine ⟨?_, fun y hy => ?_⟩
    · rcases List.mem_cons.mp h1 with h | h
      · rw [h]
        split
        · simp
        · simp
      · simp [h]
    · rcases List.mem_cons.mp hy with h | h
      · rw [h]; exact Int.le_trans hb.1 hm
      · rcases List.mem_cons.mp h with h | h
        · rw [h]; exact Int.le_trans hb.2 hm
        · exact h2 _ (by simp [h])

/-! the same over tuples of ints -/
section
open PyProof.Rows
variable {prog : Program} {w : World} {A : Around} {E : Value → Shared → Prop} {s : Shared} {l : Addr} {its : List Value} {ns : List Int} {Q : Value → Shared → Prop}
theorem iter_tupZ {xs : Array (Int × Tok)} (hl : s.heap.IsTuple l (intItems xs))
    (h : ∀ s₂ : Shared, s₂ = { s with heap := s.heap.push { cls := .type "tuple_iterator", data := .fields #[.ref l, .int 0 0] } } → (∃ o, s₂.heap.get? s.heap.objs.size = some o ∧ o.cls = .type "tuple_iterator" ∧ o.data = .fields #[.ref l, .int 0 0]) → s₂.heap.IsTuple l (intItems xs) →
      (∀ b ∈ [s.heap.objs.size, l], b < s₂.heap.objs.size) → l ≠ s.heap.objs.size → Q (.ref s.heap.objs.size) s₂) : wpAny (model prog w) A (pyIter (.ref l)) Q E s := by
  have hlt : l < s.heap.objs.size := by obtain ⟨_, e, _⟩ := hl; exact Heap.lt_size e
  refine wpAny_pyIter_tuple hl (h _ rfl ⟨_, Heap.get?_push_size _ rfl, rfl, rfl⟩ (hl.push _) (fun b hb => ?_) (Nat.ne_of_lt hlt))
  show b < (s.heap.push _).objs.size
  rw [Heap.size_push]
  have hb' : b = s.heap.objs.size ∨ b = l := by simpa using hb
  rcases hb' with e | e <;> rw [e]
  · exact Nat.lt_succ_self _
  · exact Nat.lt_succ_of_lt hlt
theorem old_keptT {h' : Heap} (hk : ∀ b o, b ∉ [s.heap.objs.size] → (s.heap.push { cls := .type "tuple_iterator", data := .fields #[.ref l, .int 0 0] }).get? b = some o → h'.get? b = some o) : ∀ b o, s.heap.get? b = some o → h'.get? b = some o := fun b o e =>
  hk b o (fun hm => by
    have : b = s.heap.objs.size := by simpa using hm
    exact absurd (this ▸ Heap.lt_size e) (Nat.lt_irrefl _)) (Heap.get?_push_of_some _ e)
theorem sum_rawT (hh : A.handled = none) (hl : s.heap.IsTuple l its.toArray) (hi : IntsAre its ns)
    (h : ∀ h' tk t', (∀ b o, s.heap.get? b = some o → h'.get? b = some o) → Q (.int ns.sum t') { s with heap := h', toks := tk }) : wpAny (model prog w) A (call (.builtin "sum") [.ref l]) Q E s := by
  obtain ⟨xs, e⟩ := hi.allInts.items
  have hn : numsOf (intItems xs).toList = ns := by rw [← e]; exact hi.numsOf
  rw [nums_intItems] at hn
  rw [e] at hl
  refine PySem.call_sum_walkG (iter_tupZ hl fun s₂ e it hlI hfp hne => ?_)
  subst e
  refine ⟨_, _, _, _, _, _, numAt xs, rfl, Walks.tuple (A := A.in1) hh _ l hne (intItems xs), ⟨it, hlI⟩, hfp, (fun _ _ => intItems_at), fun h' tk t' hk => ?_⟩
  have := h h' tk t' (old_keptT hk)
  have e2 : preSum (numAt xs) (intItems xs).size = ns.sum := by rw [preSum_eq, List.take_of_length_le (by simp [intItems]), hn]
  rw [e2]
  exact this
theorem max_rawT (hh : A.handled = none) (hl : s.heap.IsTuple l its.toArray) (hi : IntsAre its ns) (hne : 0 < ns.length)
    (h : ∀ h' tk M t', (∀ b o, s.heap.get? b = some o → h'.get? b = some o) → M ∈ ns → (∀ a, a ∈ ns → a ≤ M) → Q (.int M t') { s with heap := h', toks := tk }) : wpAny (model prog w) A (call (.builtin "max") [.ref l]) Q E s := by
  obtain ⟨xs, e⟩ := hi.allInts.items
  have hn : numsOf (intItems xs).toList = ns := by rw [← e]; exact hi.numsOf
  rw [nums_intItems] at hn
  subst hn
  rw [e] at hl
  have hsz : 0 < xs.size := by simpa using hne
  refine PySem.call_max_walk (iter_tupZ hl fun s₂ e it hlI hfp hne => ?_)
  subst e
  refine ⟨_, _, _, _, _, _, _, rfl, Walks.tuple (A := A.in1) hh _ l hne (intItems xs), ⟨it, hlI⟩, hfp, by simpa [intItems] using hsz, CmpOf.ints_gt (numAt xs) (fun _ _ => intItems_at), fun v h' tk hv hk => ?_⟩
  have hv : (intItems xs)[argBest (fun i j => decide (numAt xs i > numAt xs j)) (xs.size - 1)]? = some v := by simpa [intItems] using hv
  obtain ⟨t, rfl⟩ := intItems_at hv
  obtain ⟨h1, h2⟩ := argBest_gt (numAt xs) (xs.size - 1)
  refine h h' tk _ t (old_keptT hk) ?_ fun a ha => ?_
  · rw [numAt_eq]; exact PySem.getD_mem (by rw [List.length_map, Array.length_toList]; omega)
  · obtain ⟨j, hj, rfl⟩ := mem_getD ha
    rw [List.length_map, Array.length_toList] at hj
    rw [← numAt_eq]; exact h2 j (by omega)
theorem min_rawT (hh : A.handled = none) (hl : s.heap.IsTuple l its.toArray) (hi : IntsAre its ns) (hne : 0 < ns.length)
    (h : ∀ h' tk M t', (∀ b o, s.heap.get? b = some o → h'.get? b = some o) → M ∈ ns → (∀ a, a ∈ ns → M ≤ a) → Q (.int M t') { s with heap := h', toks := tk }) : wpAny (model prog w) A (call (.builtin "min") [.ref l]) Q E s := by
  obtain ⟨xs, e⟩ := hi.allInts.items
  have hn : numsOf (intItems xs).toList = ns := by rw [← e]; exact hi.numsOf
  rw [nums_intItems] at hn
  subst hn
  rw [e] at hl
  have hsz : 0 < xs.size := by simpa using hne
  refine PySem.call_min_walk (iter_tupZ hl fun s₂ e it hlI hfp hne => ?_)
  subst e
  refine ⟨_, _, _, _, _, _, _, rfl, Walks.tuple (A := A.in1) hh _ l hne (intItems xs), ⟨it, hlI⟩, hfp, by simpa [intItems] using hsz, CmpOf.ints_lt (numAt xs) (fun _ _ => intItems_at), fun v h' tk hv hk => ?_⟩
  have hv : (intItems xs)[argBest (fun i j => decide (numAt xs i < numAt xs j)) (xs.size - 1)]? = some v := by simpa [intItems] using hv
  obtain ⟨t, rfl⟩ := intItems_at hv
  obtain ⟨h1, h2⟩ := argBest_lt (numAt xs) (xs.size - 1)
  refine h h' tk _ t (old_keptT hk) ?_ fun a ha => ?_
  · rw [numAt_eq]; exact PySem.getD_mem (by rw [List.length_map, Array.length_toList]; omega)
  · obtain ⟨j, hj, rfl⟩ := mem_getD ha
    rw [List.length_map, Array.length_toList] at hj
    rw [← numAt_eq]; exact h2 j (by omega)
theorem tup_is {a : Addr} {xs : Array Value} (h : IsTup s.heap a xs) : s.heap.IsTuple a xs := by
  obtain ⟨o, e1, e2, n, e3⟩ := h
  exact ⟨o, e1, e2, n, e3⟩
end

section
variable {X : Cx} {G : GE}
theorem len_ok : CallR X (.builtin "len") (rBi X.K G .len) := by
  rintro pins s σ H xs us Q I r ⟨ρ, μ, ps, z, hl, hp, e, hQ⟩
  cases hp with
  | nil => simp [bi] at e
  | cons h1 t =>
    cases t with
    | cons h2 t => cases h1 <;> simp [bi] at e
    | nil =>
      cases h1 with
      | lst ha ra =>
        simp only [bi] at e
        cases e
        refine call_len_seq pins s σ H _ us Q I r ⟨_, _, rfl, .inl (.inl (.inl ha)), ?_⟩
        rw [← ra.length]
        exact hQ.val (.int _)
      | tup ha ra wa =>
        simp only [bi] at e
        cases e
        refine call_len_seq pins s σ H _ us Q I r ⟨_, _, rfl, .inr ha, ?_⟩
        rw [← ra.length]
        exact hQ.val (.int _)
      | str a =>
        have e2 : (if a.length ≤ SZ then some (RV.v (.int a.length)) else none) = some z := e
        split at e2
        · rename_i h
          cases e2
          refine call_len_str pins s σ H _ us Q I r ⟨_, rfl, by rw [S_len', ← sz_eq]; exact h, ?_⟩
          rw [S_len']
          exact hQ.val (.int _)
        · cases e2
      | dct hd rd =>
        simp only [bi] at e
        cases e
        obtain ⟨u, rfl, ru⟩ := vals1 r
        cases ru
        refine d_len I hd fun t s' I' => ⟨.int _, H, I', ⟨t, rfl⟩, ?_⟩
        rw [← rd.length]
        exact hQ.val (.int _)
      | dcf hd rd =>
        simp only [bi] at e
        cases e
        obtain ⟨u, rfl, ru⟩ := vals1 r
        cases ru
        refine d_len I hd fun t s' I' => ⟨.int _, H, I', ⟨t, rfl⟩, ?_⟩
        rw [← rd.length]
        exact hQ.val (.int _)
      | _ => simp [bi] at e
theorem all_ok (hc : X.calm = true) : CallR X (.builtin "all") (rBi X.K G .all) := by
  rintro pins s σ H xs us Q I r ⟨ρ, μ, ps, z, hl, hp, e, hQ⟩
  cases hp with
  | nil => simp [bi] at e
  | cons h1 t =>
    cases t with
    | cons h2 t => cases h1 <;> simp [bi] at e
    | nil =>
      cases h1 with
      | lst ha ra =>
        simp only [bi] at e
        obtain ⟨bs, e1, rfl⟩ := Option.map_eq_some_iff.mp e
        have e2 := bls_rel ra e1
        subst e2
        exact cr_all hc pins s σ H _ us Q I r ⟨_, bs, rfl, .inl (.inl ha), hQ.val (.bl _)⟩
      | _ => simp [bi] at e
theorem any_ok (hc : X.calm = true) : CallR X (.builtin "any") (rBi X.K G .any) := by
  rintro pins s σ H xs us Q I r ⟨ρ, μ, ps, z, hl, hp, e, hQ⟩
  cases hp with
  | nil => simp [bi] at e
  | cons h1 t =>
    cases t with
    | cons h2 t => cases h1 <;> simp [bi] at e
    | nil =>
      cases h1 with
      | lst ha ra =>
        simp only [bi] at e
        obtain ⟨bs, e1, rfl⟩ := Option.map_eq_some_iff.mp e
        have e2 := bls_rel ra e1
        subst e2
        exact cr_any hc pins s σ H _ us Q I r ⟨_, bs, rfl, .inl (.inl ha), hQ.val (.bl _)⟩
      | _ => simp [bi] at e
theorem sum_ok (hc : X.calm = true) : CallR X (.builtin "sum") (rBi X.K G .sum) := by
  rintro pins s σ H xs us Q I r ⟨ρ, μ, ps, z, hl, hp, e, hQ⟩
  cases hp with
  | nil => simp [bi] at e
  | cons h1 t =>
    cases t with
    | cons h2 t => cases h1 <;> simp [bi] at e
    | nil =>
      cases h1 with
      | lst ha ra =>
        simp only [bi] at e
        obtain ⟨bs, e1, rfl⟩ := Option.map_eq_some_iff.mp e
        have e2 := ints_rel ra e1
        subst e2
        exact cr_sum hc pins s σ H _ us Q I r ⟨_, bs, rfl, .inl (.inl ha), hQ.val (.int _)⟩
      | tup ha ra wa =>
        simp only [bi] at e
        obtain ⟨bs, e1, rfl⟩ := Option.map_eq_some_iff.mp e
        have e2 := ints_rel ra e1
        subst e2
        obtain ⟨its, rv, ht, _⟩ := I.tuple ha
        rw [Vals.ref1 r]
        exact sum_rawT (I.ok.hd hc) (tup_is ht) rv.ints fun h' tk t' hk => ⟨.int _, H, I.kept hk, ⟨_, rfl⟩, hQ.val (.int _)⟩
      | _ => simp [bi] at e
theorem min1_ok (hc : X.calm = true) : CallR X (.builtin "min") (rBi X.K G .min1) := by
  rintro pins s σ H xs us Q I r ⟨ρ, μ, ps, z, hl, hp, e, hQ⟩
  cases hp with
  | nil => simp [bi] at e
  | cons h1 t =>
    cases t with
    | cons h2 t => cases h1 <;> simp [bi] at e
    | nil =>
      cases h1 with
      | lst ha ra =>
        simp only [bi] at e
        split at e
        · rename_i a l e1
          cases e
          have e2 := ints_rel ra e1
          subst e2
          obtain ⟨s1, s2⟩ := foldMin_spec l a
          refine cr_min hc pins s σ H _ us Q I r ⟨_, a :: l, rfl, .inl (.inl ha), by simp, fun m hm hy => ?_⟩
          have : m = foldMin a l := Int.le_antisymm (hy _ s1) (s2 _ hm)
          subst this
          exact hQ.val (.int _)
        · cases e
      | tup ha ra wa =>
        simp only [bi] at e
        split at e
        · rename_i a l e1
          cases e
          have e2 := ints_rel ra e1
          subst e2
          obtain ⟨s1, s2⟩ := foldMin_spec l a
          obtain ⟨its, rv, ht, _⟩ := I.tuple ha
          rw [Vals.ref1 r]
          refine min_rawT (I.ok.hd hc) (tup_is ht) rv.ints (by simp) fun h' tk m t' hk hm hy => ⟨.int m, H, I.kept hk, ⟨_, rfl⟩, ?_⟩
          have : m = foldMin a l := Int.le_antisymm (hy _ s1) (s2 _ hm)
          subst this
          exact hQ.val (.int _)
        · cases e
      | _ => simp [bi] at e
theorem max1_ok (hc : X.calm = true) : CallR X (.builtin "max") (rBi X.K G .max1) := by
  rintro pins s σ H xs us Q I r ⟨ρ, μ, ps, z, hl, hp, e, hQ⟩
  cases hp with
  | nil => simp [bi] at e
  | cons h1 t =>
    cases t with
    | cons h2 t => cases h1 <;> simp [bi] at e
    | nil =>
      cases h1 with
      | lst ha ra =>
        simp only [bi] at e
        split at e
        · rename_i a l e1
          cases e
          have e2 := ints_rel ra e1
          subst e2
          obtain ⟨s1, s2⟩ := foldMax_spec l a
          refine cr_max hc pins s σ H _ us Q I r ⟨_, a :: l, rfl, .inl (.inl ha), by simp, fun m hm hy => ?_⟩
          have : m = foldMax a l := Int.le_antisymm (s2 _ hm) (hy _ s1)
          subst this
          exact hQ.val (.int _)
        · cases e
      | tup ha ra wa =>
        simp only [bi] at e
        split at e
        · rename_i a l e1
          cases e
          have e2 := ints_rel ra e1
          subst e2
          obtain ⟨s1, s2⟩ := foldMax_spec l a
          obtain ⟨its, rv, ht, _⟩ := I.tuple ha
          rw [Vals.ref1 r]
          refine max_rawT (I.ok.hd hc) (tup_is ht) rv.ints (by simp) fun h' tk m t' hk hm hy => ⟨.int m, H, I.kept hk, ⟨_, rfl⟩, ?_⟩
          have : m = foldMax a l := Int.le_antisymm (s2 _ hm) (hy _ s1)
          subst this
          exact hQ.val (.int _)
        · cases e
      | _ => simp [bi] at e
theorem two_ints {K : PySem.W.Frag} {W : List Addr} {H : Hp} {ps : List PV} {xs : List V} {f : Bi} {z : RV} (hp : Rrs K G W H ps xs) (e : bi f ps = some z) (hf : f = .min2 ∨ f = .max2) : ∃ i j, ps = [.int i, .int j] ∧ xs = [.int i, .int j] := by
  cases hp with
  | nil => rcases hf with rfl | rfl <;> simp [bi] at e
  | cons h1 t =>
    cases t with
    | nil => cases h1 <;> rcases hf with rfl | rfl <;> simp [bi] at e
    | cons h2 t =>
      cases t with
      | nil => cases h1 <;> cases h2 <;> first | exact ⟨_, _, rfl, rfl⟩ | (rcases hf with rfl | rfl <;> simp [bi] at e)
      | cons h3 t => cases h1 <;> cases h2 <;> rcases hf with rfl | rfl <;> simp [bi] at e
theorem min2_ok (hc : X.calm = true) : CallR X (.builtin "min") (rBi X.K G .min2) := by
  rintro pins s σ H xs us Q I r ⟨ρ, μ, ps, z, hl, hp, e, hQ⟩
  obtain ⟨i, j, rfl, rfl⟩ := two_ints hp e (.inl rfl)
  cases (show some (RV.v (.int (if j < i then j else i))) = some z from e)
  exact call_min2 hc pins s σ H _ us Q I r ⟨i, j, rfl, hQ.val (.int _)⟩
theorem max2_ok (hc : X.calm = true) : CallR X (.builtin "max") (rBi X.K G .max2) := by
  rintro pins s σ H xs us Q I r ⟨ρ, μ, ps, z, hl, hp, e, hQ⟩
  obtain ⟨i, j, rfl, rfl⟩ := two_ints hp e (.inr rfl)
  cases (show some (RV.v (.int (if j > i then j else i))) = some z from e)
  exact call_max2 hc pins s σ H _ us Q I r ⟨i, j, rfl, hQ.val (.int _)⟩
theorem abs_ok : CallR X (.builtin "abs") (rBi X.K G .abs) := by
  rintro pins s σ H xs us Q I r ⟨ρ, μ, ps, z, hl, hp, e, hQ⟩
  cases hp with
  | nil => simp [bi] at e
  | cons h1 t =>
    cases t with
    | cons h2 t => cases h1 <;> simp [bi] at e
    | nil =>
      cases h1 with
      | int i =>
        cases (show some (RV.v (.int (if i < 0 then -i else i))) = some z from e)
        exact call_abs pins s σ H _ us Q I r ⟨i, rfl, hQ.val (.int _)⟩
      | _ => simp [bi] at e
theorem digit_int {c : Nat} (h : 48 ≤ c) (h2 : c ≤ 57) : PySem.intText? ⟨[c].toArray⟩ = some ((c : Int) - 48) := by
  have key : ∀ n : _root_.Fin 10, PySem.intText? ⟨[(n : Nat) + 48].toArray⟩ = some (n : Int) := by decide +kernel
  have := key ⟨c - 48, by omega⟩
  rw [show c - 48 + 48 = c by omega] at this
  rw [this]
  congr 1
  show ((c - 48 : Nat) : Int) = _
  omega
theorem dgt_S (i : Int) : (Str.ofString (toString i) : Str) = ⟨(dgt i).toArray⟩ := by
  rw [Str.ofString_eq_byList]
  rfl
theorem log_ok {n : Nat} (h : n < 2 ^ 1024) : n.log2 < 1920 := by
  have := PySem.Flt.log2_lt_of (k := 1024) (by decide) h
  omega
theorem int_ok : CallR X (.type "int") (rBi X.K G .int) := by
  rintro pins s σ H xs us Q I r ⟨ρ, μ, ps, z, hl, hp, e, hQ⟩
  cases hp with
  | nil => simp [bi] at e
  | cons h1 t =>
    cases t with
    | cons h2 t => cases h1 <;> simp [bi] at e
    | nil =>
      cases h1 with
      | int i =>
        cases (show some (RV.v (.int i)) = some z from e)
        exact call_int1 pins s σ H _ us Q I r (.inl ⟨i, rfl, hQ.val (.int _)⟩)
      | bl b =>
        cases (show some (RV.v (.int (if b then 1 else 0))) = some z from e)
        exact call_int1 pins s σ H _ us Q I r (.inr ⟨b, rfl, hQ.val (.int _)⟩)
      | str b =>
        match b, e with
        | [], e => simp [bi] at e
        | [c], e =>
          have e' : (if decide (48 ≤ c) && decide (c ≤ 57) then some (RV.v (.int ((c : Int) - 48))) else none) = some z := e
          split at e'
          · rename_i hc
            cases e'
            simp only [Bool.and_eq_true, decide_eq_true_eq] at hc
            exact call_int_str pins s σ H _ us Q I r ⟨_, _, rfl, digit_int hc.1 hc.2, by rw [S_len']; simp, hQ.val (.int _)⟩
          · cases e'
        | _ :: _ :: _, e => simp [bi] at e
      | _ => simp [bi] at e
theorem str_ok : CallR X (.type "str") (rBi X.K G .str) := by
  rintro pins s σ H xs us Q I r ⟨ρ, μ, ps, z, hl, hp, e, hQ⟩
  cases hp with
  | nil => simp [bi] at e
  | cons h1 t =>
    cases t with
    | cons h2 t => cases h1 <;> simp [bi] at e
    | nil =>
      cases h1 with
      | str i =>
        cases (show some (RV.v (.str i)) = some z from e)
        exact SkE.call_str_str pins s σ H _ us Q I r ⟨_, rfl, hQ.val (.str _)⟩
      | int i =>
        have e' : (if decide (i.natAbs < 2 ^ 1024) then some (RV.v (.str (dgt i))) else none) = some z := e
        split at e'
        · rename_i hi
          cases e'
          refine call_str_int pins s σ H _ us Q I r ⟨i, rfl, log_ok (of_decide_eq_true hi), ?_⟩
          rw [dgt_S]
          exact hQ.val (.str _)
        · cases e'
      | _ => simp [bi] at e
/-! repr -/
mutual
theorem rok_pok : ∀ (p : PV) (n : Nat), rok n p = true → pok n p = true ∧ (toD p).showable = true ∧ (toD p).shown = ⟨(rpr p).toArray⟩
  | .non, n, _ => ⟨by cases n <;> rfl, rfl, by decide⟩
  | .bl b, n, _ => ⟨by cases n <;> rfl, rfl, by cases b <;> decide⟩
  | .int i, n, h => by
    have h' : i.natAbs < 2 ^ 1024 := by cases n <;> exact of_decide_eq_true h
    refine ⟨by cases n <;> rfl, ?_, ?_⟩
    · show decide (i.natAbs.log2 < 1920) = true
      exact decide_eq_true (log_ok h')
    · show (Str.ofString (toString i) : Str) = _
      rw [dgt_S]
      rfl
  | .tup xs, 0, h => by simp [rok] at h
  | .tup xs, n + 1, h => by
    obtain ⟨h1, h2, h3⟩ := roks_poks xs n (by simpa [rok] using h)
    refine ⟨by simpa [pok] using h1, by simpa [toD, PyData.showable] using h2, ?_⟩
    simp only [toD, PyData.shown, h3, rpr]
    unfold tupleText
    have e1 : (Str.join ((", " : String) : Str) ((rprs xs).map SX.S)) = SX.S (joined [44, 32] (rprs xs)) := by
      refine TL.ext_tl ?_
      rw [TL.tl_join, List.map_map]
      have e2 : (TL.tl ∘ SX.S) = id := by funext a; simp [SX.S, TL.tl]
      have e3 : TL.tl ((", " : String) : Str) = [44, 32] := by decide
      rw [e2, e3, List.map_id]
      have hj : ∀ l : List (List Nat), TL.joinL [44, 32] l = joined [44, 32] l := by
        intro l
        fun_induction joined [44, 32] l with
        | case1 => rfl
        | case2 a => rfl
        | case3 a b r ih => rw [TL.joinL, ih]
      rw [hj]
    have e4 : ((rprs xs).map SX.S).length = xs.length := by
      rw [List.length_map]
      have : ∀ xs : List PV, (rprs xs).length = xs.length := fun xs => by
        induction xs with
        | nil => rfl
        | cons x xs ih => simp [rprs, ih]
      exact this xs
    rw [e1, e4]
    have e5 : (("(" : String) : Str) = SX.S [40] := by decide
    rw [e5, SX.S_cat]
    by_cases hx : xs.length = 1
    · have e6 : (((if (xs.length == 1) = true then ",)" else ")") : String) : Str) = SX.S [44, 41] := by rw [hx]; decide
      rw [e6, SX.S_cat, if_pos hx]
      simp [SX.S]
    · have e6 : (((if (xs.length == 1) = true then ",)" else ")") : String) : Str) = SX.S [41] := by rw [if_neg (by simpa using hx)]; decide
      rw [e6, SX.S_cat, if_neg hx]
      simp [SX.S]
  | .str _, n, h => by cases n <;> simp [rok] at h
  | .lst _, n, h => by cases n <;> simp [rok] at h
  | .dct _, n, h => by cases n <;> simp [rok] at h
  | .set _, n, h => by cases n <;> simp [rok] at h
  | .fn _, n, h => by cases n <;> simp [rok] at h
  | .cls _, n, h => by cases n <;> simp [rok] at h
  | .frz _, n, h => by cases n <;> simp [rok] at h
theorem roks_poks : ∀ (xs : List PV) (n : Nat), roks n xs = true → poks n xs = true ∧ PyData.showableAll (toDs xs) = true ∧ PyData.shownAll (toDs xs) = (rprs xs).map SX.S
  | [], n, _ => ⟨by cases n <;> rfl, rfl, rfl⟩
  | x :: xs, n, h => by
    have h' : rok n x = true ∧ roks n xs = true := by simpa [roks] using h
    obtain ⟨a1, a2, a3⟩ := rok_pok x n h'.1
    obtain ⟨b1, b2, b3⟩ := roks_poks xs n h'.2
    refine ⟨by simp [poks, a1, b1], by simp [toDs, PyData.showableAll, a2, b2], ?_⟩
    simp only [toDs, PyData.shownAll, a3, b3, rprs, List.map_cons]
end
theorem repr_ok (hg : X.A.guards = some []) (hu : X.A.units + 65 < cLine) : CallR X (.builtin "repr") (rBi X.K G .repr) := by
  rintro pins s σ H xs us Q I r ⟨ρ, μ, ps, z, hl, hp, e, hQ⟩
  cases hp with
  | nil => simp [bi] at e
  | cons h1 t =>
    cases t with
    | cons h2 t => cases h1 <;> simp [bi] at e
    | nil =>
      rename_i p x
      have e' : (if rok 60 p && decide ((rpr p).length ≤ SZ) then some (RV.v (.str (rpr p))) else none) = some z := e
      split at e'
      · rename_i hh
        cases e'
        rw [Bool.and_eq_true, decide_eq_true_eq] at hh
        obtain ⟨k1, k2, k3⟩ := rok_pok p 60 hh.1
        have q := hQ.val (v := .str ⟨(rpr p).toArray⟩) (.str _)
        obtain ⟨l1, l2⟩ := pok_lay p 60 k1
        cases r with
        | cons r1 r2 =>
          cases r2
          have hd := h1.dp 60 k1
          cases h1 with
          | non =>
            cases r1
            exact PySem.P.repr_of_none ⟨.str ⟨(rpr .non).toArray⟩, H, I.tok _, ⟨_, congrArg (fun z => Value.str z s.toks) k3⟩, q⟩
          | bl b =>
            cases r1
            refine PySem.P.repr_of_bool ⟨.str ⟨(rpr (.bl b)).toArray⟩, H, I.tok _, ⟨_, congrArg (fun z => Value.str z s.toks) ?_⟩, q⟩
            exact k3
          | int i =>
            obtain ⟨t, rfl⟩ := r1
            have hi : i.natAbs < 2 ^ 1024 := of_decide_eq_true hh.1
            exact PySem.P.repr_of_int (log_ok hi) ⟨.str ⟨(rpr (.int i)).toArray⟩, H, I.tok _, ⟨_, congrArg (fun z => Value.str z s.toks) k3⟩, q⟩
          | tup h1 h2 h3 =>
            rename_i a _ _
            obtain ⟨as, rd⟩ := Dp.reads I _ _ _ hd r1
            obtain rfl := (show _ = Value.ref a from r1)
            have hdict := PyData.hasDict_of_canLay _ l1
            refine PySem.repr_of_reads' rd k2 (fun z => by rw [hdict] at z; cases z) hg (by omega) (fun b o e => e) (fun h' u tk hk => ?_) (by rw [k3, S_len', ← sz_eq]; exact hh.2)
            rw [k3]
            exact ⟨.str ⟨(rpr _).toArray⟩, H, I.kept hk, ⟨_, rfl⟩, q⟩
          | str b => simp [rok] at hh
          | lst _ _ => simp [rok] at hh
          | frz _ _ => simp [rok] at hh
          | fn _ => simp [rok] at hh
          | cls _ => simp [rok] at hh
          | dct _ _ => simp [rok] at hh
          | dcf _ _ => simp [rok] at hh
      · cases e'
theorem tuple_ok : CallR X (.type "tuple") (rBi X.K G .tuple) := by
  rintro pins s σ H xs us Q I r ⟨ρ, μ, ps, z, hl, hp, e, hQ⟩
  cases hp with
  | nil => simp [bi] at e
  | cons h1 t =>
    cases t with
    | cons h2 t => cases h1 <;> simp [bi] at e
    | nil =>
      cases h1 with
      | lst ha ra =>
        simp only [bi] at e
        cases e
        exact call_tuple_of pins s σ H _ us Q I r ⟨_, _, rfl, .inl ⟨.inl (.inl ha), hQ.tup hl ra⟩⟩
      | tup ha ra wa =>
        simp only [bi] at e
        cases e
        exact call_tuple_of pins s σ H _ us Q I r ⟨_, _, rfl, .inr ⟨ha, hQ.val wa⟩⟩
      | _ => simp [bi] at e
theorem reps_sgn {K : PySem.W.Frag} {G : GE} {W : List Addr} {H : Hp} : ∀ a : List Nat, Reps K G W H (a.map fun c => .str [c]) (a.map fun c => V.str ⟨#[c]⟩)
  | [] => .nil
  | c :: a => .cons (.str [c]) (reps_sgn a)
theorem list_ok (hc : X.calm = true) : CallR X (.type "list") (rBi X.K G .list) := by
  rintro pins s σ H xs us Q I r ⟨ρ, μ, ps, z, hl, hp, e, hQ⟩
  cases hp with
  | nil => simp [bi] at e
  | cons h1 t =>
    cases t with
    | cons h2 t => cases h1 <;> simp [bi] at e
    | nil =>
      cases h1 with
      | lst ha ra =>
        simp only [bi] at e
        cases e
        exact call_list_of pins s σ H _ us Q I r ⟨_, _, rfl, .inl (.inl (.inl ha)), hQ.new hl ra⟩
      | tup ha ra wa =>
        simp only [bi] at e
        cases e
        exact call_list_of pins s σ H _ us Q I r ⟨_, _, rfl, .inr ha, hQ.new hl ra⟩
      | frz ha ra =>
        simp only [bi] at e
        cases e
        exact call_list_of pins s σ H _ us Q I r ⟨_, _, rfl, .inl ha, hQ.new hl ra⟩
      | str a =>
        simp only [bi] at e
        split at e
        · rename_i hz
          cases e
          obtain ⟨u, rfl, t, rfl⟩ := vals1 r
          have hn : (⟨a.toArray⟩ : Str).cps.size ≤ sizeLine := by
            rw [← sz_eq]
            simpa using hz
          refine PySem.call_list_str (I.ok.hd hc) _ t (hn := hn) fun h' tk acc c' hk hS hacc => ?_
          refine ⟨.ref s.heap.objs.size, upd H s.heap.objs.size (.lst (a.map fun c => V.str ⟨#[c]⟩)), I.laid hk (Nat.le_refl _) ⟨by rw [List.length_map, ← sz_eq]; exact hz, acc.toList, c', ?_, by rw [Array.toArray_toList]; exact hS⟩, rfl, hQ.new hl (reps_sgn a) _ (I.hok.fresh (Nat.le_refl _))⟩
          refine vals_of_idx _ _ (by rw [List.length_map, Array.length_toList, hacc.1]; simp) fun j v hj => ?_
          obtain ⟨c, t', hcc, rfl⟩ := hacc.2 j v (by rw [← Array.getElem?_toList]; exact hj)
          refine ⟨.str ⟨#[c]⟩, ?_, ⟨_, rfl⟩⟩
          have : a[j]? = some c := by simpa using hcc
          simp [this]
        · cases e
      | _ => simp [bi] at e

/-! sorted: ints, pairs of ints -/
theorem insB_perm {α : Type} (le : α → α → Bool) (x : α) : ∀ l : List α, (insB le x l).Perm (x :: l)
  | [] => List.Perm.refl _
  | y :: r => by
    unfold insB
    split
    · exact List.Perm.refl _
    · exact ((insB_perm le x r).cons y).trans (List.Perm.swap x y r)
theorem srt_perm {α : Type} (le : α → α → Bool) : ∀ l : List α, (srt le l).Perm l
  | [] => List.Perm.refl _
  | x :: r => (insB_perm le x _).trans ((srt_perm le r).cons x)
theorem insB_pw {α : Type} {le : α → α → Bool} (tot : ∀ a b, le a b = true ∨ le b a = true) (tr : ∀ a b c, le a b = true → le b c = true → le a c = true) (x : α) : ∀ l : List α, l.Pairwise (fun a b => le a b = true) → (insB le x l).Pairwise fun a b => le a b = true
  | [], _ => by simp [insB]
  | y :: r, h => by
    obtain ⟨h1, h2⟩ := List.pairwise_cons.mp h
    unfold insB
    split
    · rename_i hxy
      exact List.pairwise_cons.mpr ⟨fun z hz => (List.mem_cons.mp hz).elim (fun q => q ▸ hxy) fun q => tr _ _ _ hxy (h1 z q), h⟩
    · rename_i hxy
      refine List.pairwise_cons.mpr ⟨fun z hz => ?_, insB_pw tot tr x r h2⟩
      rcases List.mem_cons.mp ((insB_perm le x r).mem_iff.mp hz) with q | q
      · subst q
        exact (tot z y).resolve_left hxy
      · exact h1 z q
theorem srt_pw {α : Type} {le : α → α → Bool} (tot : ∀ a b, le a b = true ∨ le b a = true) (tr : ∀ a b c, le a b = true → le b c = true → le a c = true) : ∀ l : List α, (srt le l).Pairwise fun a b => le a b = true
  | [] => .nil
  | x :: r => insB_pw tot tr x _ (srt_pw tot tr r)
theorem leI_iff {a b : Int} : leI a b = true ↔ a ≤ b := decide_eq_true_iff
theorem leP_iff {p q : Int × Int} : leP p q = true ↔ p.1 < q.1 ∨ (p.1 = q.1 ∧ p.2 ≤ q.2) := by
  unfold leP
  rw [Bool.or_eq_true, Bool.and_eq_true, decide_eq_true_eq, decide_eq_true_eq, decide_eq_true_eq]
theorem srtI_uniq {l m : List Int} (h : l.Perm m) (s : l.Pairwise (· ≤ ·)) : l = srt leI m :=
  List.Perm.eq_of_pairwise (le := fun a b => leI a b = true) (fun a b _ _ h1 h2 => by rw [leI_iff] at h1 h2; omega) (s.imp fun h => leI_iff.mpr h) (srt_pw (fun a b => by rw [leI_iff, leI_iff]; omega) (fun a b c => by rw [leI_iff, leI_iff, leI_iff]; omega) m) (h.trans (srt_perm leI m).symm)
theorem srtP_uniq {l m : List (Int × Int)} (h : l.Perm m) (s : l.Pairwise fun p q => leP p q = true) : l = srt leP m :=
  List.Perm.eq_of_pairwise (le := fun a b => leP a b = true) (fun a b _ _ h1 h2 => by
    rw [leP_iff] at h1 h2
    exact Prod.ext (by omega) (by omega)) s (srt_pw (fun a b => by rw [leP_iff, leP_iff]; omega) (fun a b c => by rw [leP_iff, leP_iff, leP_iff]; omega) m) (h.trans (srt_perm leP m).symm)
theorem isPair_inj {h : Heap} {v : Value} {x y x' y' : Int} (a : Srt.IsPair h v x y) (b : Srt.IsPair h v x' y') : x' = x ∧ y' = y := by
  obtain ⟨c, o, t, u, n, e, ho, _, hd⟩ := a
  obtain ⟨c', o', t', u', n', e', ho', _, hd'⟩ := b
  subst e
  cases e'
  rw [ho] at ho'
  cases ho'
  rw [hd] at hd'
  cases hd'
  exact ⟨rfl, rfl⟩
open Classical in
noncomputable def pairK (h : Heap) (v : Value) : Int × Int := if q : ∃ p : Int × Int, Srt.IsPair h v p.1 p.2 then q.choose else (0, 0)
theorem pairK_of {h : Heap} {v : Value} {x y : Int} (a : Srt.IsPair h v x y) : pairK h v = (x, y) := by
  have q : ∃ p : Int × Int, Srt.IsPair h v p.1 p.2 := ⟨(x, y), a⟩
  have := isPair_inj a q.choose_spec
  unfold pairK
  rw [dif_pos q]
  exact Prod.ext this.1 this.2
/-- the pairs one by one -/
theorem pairs_rel {K : PySem.W.Frag} {G : GE} {W : List Addr} {X : Cx} {pins : List (Addr × Obj)} {σ : L2.St} {H : Hp} {s : Shared} (I : Inv X pins σ H s) : ∀ {ps : List PV} {xs : List V} {its : List Value} {bs : List (Int × Int)}, Reps X.K G W H ps xs → Vals xs its → pairsO ps = some bs →
    its.map (pairK s.heap) = bs ∧ ∀ v ∈ its, Srt.IsPair s.heap v (pairK s.heap v).1 (pairK s.heap v).2 ∧ (∃ a, v = .ref a) ∧ Rep X.K G W H (pairV (pairK s.heap v)) (backV v)
  | _, _, _, _, .nil, .nil, e => by cases e; exact ⟨rfl, fun v h => by cases h⟩
  | p :: ps, x :: xs, u :: its, bs, .cons r rs, .cons rv rvs, e => by
    have hp : ∃ i j cs, p = .tup [.int i, .int j] ∧ pairsO ps = some cs ∧ bs = (i, j) :: cs := by
      unfold pairsO at e
      split at e
      · cases ‹_ :: _ = []›
      · rename_i a b r' q
        cases q
        split at e
        · rename_i cs hc
          cases e
          exact ⟨a, b, cs, rfl, hc, rfl⟩
        · cases e
      · cases e
    obtain ⟨i, j, cs, rfl, hc, rfl⟩ := hp
    obtain ⟨ih1, ih2⟩ := pairs_rel (K := K) I rs rvs hc
    have key : ∃ a, x = .ref a ∧ SqT X.K H a [.int i, .int j] := by
      cases r with
      | tup h1 h2 h3 =>
        cases h3 with
        | cons q1 q2 => cases q2 with
          | cons q3 q4 =>
            cases q1; cases q3; cases q4
            exact ⟨_, rfl, .inl (.inl h1)⟩
      | tupK h1 h2 h3 h4 h5 h6 =>
        cases h6 with
        | cons q1 q2 => cases q2 with
          | cons q3 q4 =>
            cases q1; cases q3; cases q4
            exact ⟨_, rfl, .inr ⟨_, _, _, h1, h2, h3, h4, h5⟩⟩
    obtain ⟨a, rfl, sq⟩ := key
    cases rv
    obtain ⟨its2, rv2, ⟨o, ho, hcl, n, hd⟩, _⟩ := I.tuple sq
    obtain ⟨u1, u2, rfl, ri, rj⟩ := vals2 rv2
    obtain ⟨t1, rfl⟩ := ri
    obtain ⟨t2, rfl⟩ := rj
    have hP : Srt.IsPair s.heap (.ref a) i j := ⟨a, o, t1, t2, n, rfl, ho, hcl, hd⟩
    have hk := pairK_of hP
    refine ⟨by rw [List.map_cons, ih1, hk], fun v hv => ?_⟩
    rcases List.mem_cons.mp hv with rfl | hv
    · rw [hk]
      exact ⟨hP, ⟨a, rfl⟩, r⟩
    · exact ih2 v hv
theorem reps_by {K : PySem.W.Frag} {G : GE} {W : List Addr} {H : Hp} {f : Value → PV} : ∀ {us : List Value}, (∀ v ∈ us, Rep K G W H (f v) (backV v)) → Reps K G W H (us.map f) (us.map backV)
  | [], _ => .nil
  | u :: us, h => .cons (h u (List.mem_cons_self ..)) (reps_by fun v hv => h v (List.mem_cons_of_mem _ hv))
theorem reps_ints {K : PySem.W.Frag} {G : GE} {W : List Addr} {H : Hp} : ∀ is : List Int, Reps K G W H (is.map .int) (is.map V.int)
  | [] => .nil
  | i :: is => .cons (.int i) (reps_ints is)
theorem keys_rel {K : PySem.W.Frag} {W : List Addr} {H : Hp} : ∀ {ks : List (PV × PV)} {ds : List (Key × V)} {is : List Int}, RepD K G W H ks ds → intsO (ks.map (·.1)) = some is → ds.map (·.1) = is.map Sum.inl
  | _, _, is, .nil, e => by cases e; rfl
  | _, _, is, .cons k r t, e => by
    cases k with
    | int i =>
      simp only [List.map_cons, intsO] at e
      split at e
      · rename_i cs e2
        cases e
        rw [List.map_cons, List.map_cons, keys_rel t e2]
      · cases e
    | str s => simp [intsO] at e
theorem sorted_ok (hc : X.calm = true) : CallR X (.builtin "sorted") (rBi X.K G .sorted) := by
  rintro pins s σ H xs us Q I r ⟨ρ, μ, ps, z, hl, hp, e, hQ⟩
  cases hp with
  | nil => simp [bi] at e
  | cons h1 t =>
    cases t with
    | cons h2 t => cases h1 <;> simp [bi] at e
    | nil =>
      cases h1 with
      | lst ha ra =>
        rename_i a vs qs
        simp only [bi] at e
        split at e
        · rename_i is e1
          cases e
          have e2 := ints_rel ra e1
          subst e2
          refine cr_sortedI pins s σ H _ us Q I r ⟨a, is, rfl, .inl (.inl ha), fun ns p hperm hs hp => ?_⟩
          have := srtI_uniq hperm hs
          subst this
          exact hQ.new hl (reps_ints _) p hp
        · split at e
          · rename_i bs e1
            cases e
            obtain ⟨its, rv, pl, hz⟩ := I.list (.inl (.inl ha))
            obtain ⟨k1, k2⟩ := pairs_rel (K := X.K) I ra rv e1
            rw [Vals.ref1 r]
            refine SrtO.sorted_pairsO (k := pairK s.heap) pl.isList (by rw [← rv.length]; exact hz) (fun v hv => (k2 v hv).1) fun h' d out hs hb hk hd hn => ?_
            have hm : ∀ v ∈ out, v ∈ its := fun v hv => hb.perm.mem_iff.mp hv
            have hu : (out.map (pairK s.heap)) = srt leP bs := srtP_uniq (by rw [← k1]; exact hb.perm.map _) (List.pairwise_map.mpr (hs.imp fun {x y} q => by
              rw [leP_iff]
              have := SrtO.lexB_no.mp q
              omega))
            have rr : Reps X.K G ρ.W H ((srt leP bs).map pairV) (out.map backV) := by
              rw [← hu, List.map_map]
              exact reps_by fun v hv => (k2 v (hm v hv)).2.2
            have hnone : H d = none := I.hok.fresh hd
            have hlen : (out.map backV).length ≤ sizeLine := by
              rw [List.length_map, hb.perm.length_eq, ← rv.length]
              exact hz
            obtain ⟨n, hn⟩ := hn
            exact ⟨.ref d, upd H d (.lst (out.map backV)), I.laid (t' := s.toks) hk hd ⟨hlen, out, n, vals_back fun v hv => (k2 v (hm v hv)).2.1, hn⟩, rfl, hQ.new hl rr d hnone⟩
          · cases e
      | dct hd rd =>
        rename_i a ds ks
        simp only [bi] at e
        split at e
        · rename_i is e1
          split at e
          · rename_i h64
            cases e
            have hk := keys_rel rd e1
            refine call_sortedDI hc pins s σ H _ us Q I r ⟨a, ds, is, rfl, hd, hk, h64, fun ns p hperm hs hp => ?_⟩
            have := srtI_uniq hperm hs
            subst this
            exact hQ.new hl (reps_ints _) p hp
          · cases e
        · cases e
      | _ => simp [bi] at e
/-- what the pairs of a list make -/
theorem dmerge_rel {K : PySem.W.Frag} {W : List Addr} {H : Hp} : ∀ {xs : List PV} {vs : List V} {acc ks : List (PV × PV)} {da : List (Key × V)}, Reps K G W H xs vs → RepD K G W H acc da → dmerge acc xs = some ks →
    ∃ (ps : List Addr) (kvs : List (Key × V)), vs = ps.map V.ref ∧ Paired (fun p kv => SqT K H p [kV kv.1, kv.2]) ps kvs ∧ RepD K G W H ks (mergeK da kvs)
  | _, _, acc, ks, da, .nil, d, e => by cases e; exact ⟨[], [], rfl, .nil, d⟩
  | x :: xs, v :: vs, acc, ks, da, .cons r rs, d, e => by
    have hp : ∃ k p, x = .tup [k, p] ∧ isK k = true ∧ dmerge (dput acc k p) xs = some ks := by
      unfold dmerge at e
      split at e
      · cases ‹_ :: _ = []›
      · rename_i k p r' q
        cases q
        split at e
        · rename_i hk
          exact ⟨k, p, rfl, hk, e⟩
        · cases e
      · cases e
    obtain ⟨k, p, rfl, hk, e2⟩ := hp
    have key : ∃ a u w, v = .ref a ∧ SqT K H a [u, w] ∧ Rep K G W H k u ∧ Rep K G W H p w := by
      cases r with
      | tup h1 h2 h3 =>
        cases h3 with
        | cons q1 q2 => cases q2 with
          | cons q3 q4 =>
            cases q4
            exact ⟨_, _, _, rfl, .inl (.inl h1), q1, q3⟩
      | tupK h1 h2 h3 h4 h5 h6 =>
        cases h6 with
        | cons q1 q2 => cases q2 with
          | cons q3 q4 =>
            cases q4
            exact ⟨_, _, _, rfl, .inr ⟨_, _, _, h1, h2, h3, h4, h5⟩, q1, q3⟩
    obtain ⟨a, u, w, rfl, sq, ru, rw'⟩ := key
    obtain ⟨q, hq, rfl⟩ := KeyR.of hk ru.rr
    obtain ⟨ps, kvs, h1, h2, h3⟩ := dmerge_rel rs (RepD.put hq rw' d) e2
    exact ⟨a :: ps, (q, w) :: kvs, by rw [h1]; rfl, .cons sq h2, h3⟩
theorem dict_ok (hc : X.calm = true) : CallR X (.type "dict") (rBi X.K G .dict) := by
  rintro pins s σ H xs us Q I r ⟨ρ, μ, ps, z, hl, hp, e, hQ⟩
  cases hp with
  | nil => simp [bi] at e
  | cons h1 t =>
    cases t with
    | cons h2 t => cases h1 <;> simp [bi] at e
    | nil =>
      cases h1 with
      | lst ha ra =>
        rename_i a vs qs
        simp only [bi] at e
        obtain ⟨ks, e1, rfl⟩ := Option.map_eq_some_iff.mp e
        obtain ⟨ps, kvs, rfl, h2, h3⟩ := dmerge_rel ra .nil e1
        exact call_dictP hc pins s σ H _ us Q I r ⟨a, ps, kvs, rfl, .inl (.inl ha), h2, fun p hp => hQ.newD2 hl h3 p hp⟩
      | _ => simp [bi] at e

/-! isinstance against a built-in type -/
def tyN : Ty → String
  | .int => "int" | .bool => "bool" | .str => "str" | .tup => "tuple" | .lst => "list" | .cls _ => "?"
theorem kits : ∀ (t : Ty) (ht : ∀ c, t ≠ .cls c),
    kitB "NoneType" (tyN t) = some (isi t .non) ∧ (∀ b, kitB "bool" (tyN t) = some (isi t (.bl b))) ∧ (∀ i, kitB "int" (tyN t) = some (isi t (.int i))) ∧ (∀ s, kitB "str" (tyN t) = some (isi t (.str s))) ∧
    (∀ xs, kitB "tuple" (tyN t) = some (isi t (.tup xs))) ∧ (∀ xs, kitB "list" (tyN t) = some (isi t (.lst xs)))
  | .int, _ => ⟨by decide +kernel, fun _ => by show _ = some true; decide +kernel, fun _ => by show _ = some true; decide +kernel, fun _ => by show _ = some false; decide +kernel, fun _ => by show _ = some false; decide +kernel, fun _ => by show _ = some false; decide +kernel⟩
  | .bool, _ => ⟨by decide +kernel, fun _ => by show _ = some true; decide +kernel, fun _ => by show _ = some false; decide +kernel, fun _ => by show _ = some false; decide +kernel, fun _ => by show _ = some false; decide +kernel, fun _ => by show _ = some false; decide +kernel⟩
  | .str, _ => ⟨by decide +kernel, fun _ => by show _ = some false; decide +kernel, fun _ => by show _ = some false; decide +kernel, fun _ => by show _ = some true; decide +kernel, fun _ => by show _ = some false; decide +kernel, fun _ => by show _ = some false; decide +kernel⟩
  | .tup, _ => ⟨by decide +kernel, fun _ => by show _ = some false; decide +kernel, fun _ => by show _ = some false; decide +kernel, fun _ => by show _ = some false; decide +kernel, fun _ => by show _ = some true; decide +kernel, fun _ => by show _ = some false; decide +kernel⟩
  | .lst, _ => ⟨by decide +kernel, fun _ => by show _ = some false; decide +kernel, fun _ => by show _ = some false; decide +kernel, fun _ => by show _ = some false; decide +kernel, fun _ => by show _ = some false; decide +kernel, fun _ => by show _ = some true; decide +kernel⟩
  | .cls c, h => absurd rfl (h c)
def rIs (K : PySem.W.Frag) (G : GE) (t : Ty) : List V → Hp → VK → Prop := fun xs H Q => ∃ (ρ : Pr) (μ : Sto), ∃ p x r, xs = [x, .ty (tyN t)] ∧ RelSt K G ρ μ H ∧ Rr K G ρ.W H p x ∧ bi (.isi t) [p] = some r ∧ Fin K G ρ μ H r Q
theorem isi_ok (t : Ty) (ht : ∀ c, t ≠ .cls c) : CallR X (.builtin "isinstance") (rIs X.K G t) := by
  rintro pins s σ H xs us Q I r ⟨ρ, μ, p, x, z, rfl, hl, hp, e, hQ⟩
  obtain ⟨k1, k2, k3, k4, k5, k6⟩ := kits t ht
  have go : ∀ {v : Value} {b : Bool}, TyX X.K H x v → PySem.W.kitOne X.K v (.type (tyN t)) = some b → Q (.bl b) H → wpAny (model X.prog X.w) X.A (call (.builtin "isinstance") us) (EP X pins σ Q) X.xe s := fun {v b} h1 h2 h3 =>
    call_isi pins s σ H _ us Q I r ⟨_, _, v, _, b, rfl, .ty _, h1, h2, h3⟩
  cases hp with
  | non => cases (show some (RV.v (.bl (isi t .non))) = some z from e); exact go (.base .non) (kit_ty k1) (hQ.val (.bl _))
  | bl b => cases (show some (RV.v (.bl (isi t (.bl b)))) = some z from e); exact go (.base (.bl b)) (kit_ty (k2 b)) (hQ.val (.bl _))
  | int b => cases (show some (RV.v (.bl (isi t (.int b)))) = some z from e); exact go (.base (.int b)) (kit_ty (k3 b)) (hQ.val (.bl _))
  | str b => cases (show some (RV.v (.bl (isi t (.str b)))) = some z from e); exact go (.base (.str _)) (kit_ty (k4 b)) (hQ.val (.bl _))
  | tup ha ra wa =>
    rename_i a ys ps
    cases (show some (RV.v (.bl (isi t (.tup ps)))) = some z from e)
    rcases ha with (ha | ⟨o, ha⟩) | ⟨o, its, n, ha, hc, _⟩
    · exact go (.base (.tup ha)) (kit_ty (k5 ps)) (hQ.val (.bl _))
    · exact go (.fTuple ha) (kit_ty (k5 ps)) (hQ.val (.bl _))
    · exact go (.kTuple ha hc) (kit_ty (k5 ps)) (hQ.val (.bl _))
  | lst ha ra =>
    rename_i a ys ps
    cases (show some (RV.v (.bl (isi t (.lst ps)))) = some z from e)
    exact go (.base (.lst ha)) (kit_ty (k6 ps)) (hQ.val (.bl _))
  | fn _ => simp [bi] at e
  | cls _ => simp [bi] at e
  | frz _ _ => simp [bi] at e
  | dct _ _ => simp [bi] at e
  | dcf _ _ => simp [bi] at e

/-! ### methods -/
/-- a method that changes nothing -/
def rMe (K : PySem.W.Frag) (G : GE) (m : Me) : V → List V → Hp → VK → Prop := fun x xs H Q => ∃ (ρ : Pr) (μ : Sto), ∃ p ps r p', RelSt K G ρ μ H ∧ Rr K G ρ.W H p x ∧ Rrs K G ρ.W H ps xs ∧ me m p ps = some (r, p') ∧ Fin K G ρ μ H r Q
theorem join_ok : MtR X "str.join" (rMe X.K G .join) := by
  rintro pins s σ H x xs v us Q I rx rs ⟨ρ, μ, p, ps, r, p', hl, hp, hps, e, hQ⟩
  cases hp with
  | str sep =>
    cases hps with
    | nil => simp [me] at e
    | cons h1 t =>
      cases t with
      | cons h2 t => cases h1 <;> simp [me] at e
      | nil =>
        cases h1 with
        | lst ha ra =>
          simp only [me] at e
          split at e
          · rename_i ss e1
            split at e
            · rename_i hz
              cases e
              have e2 := strs_rel ra e1
              subst e2
              refine mt_join pins s σ H _ _ v us Q I rx rs ⟨_, _, ss.map SX.S, rfl, rfl, .inl (.inl (.inl ha)), ?_, ?_⟩
              · rw [SX.lens, List.length_map, S_len']
                have := sz_eq
                rw [sizeLine_eq] at this
                rw [← this]
                exact hz
              · have : Txt.join (⟨sep.toArray⟩ : Str) (ss.map SX.S) = ⟨(joined sep ss).toArray⟩ := by
                  have h := SX.join_S sep ss
                  rw [show (⟨sep.toArray⟩ : Str) = SX.S sep from rfl, h]
                  have hj : ∀ l : List (List Nat), TL.joinL sep l = joined sep l := by
                    intro l
                    fun_induction joined sep l with
                    | case1 => rfl
                    | case2 a => rfl
                    | case3 a b r ih => rw [TL.joinL, ih]
                  rw [hj]
                rw [this]
                exact hQ.val (.str _)
            · cases e
          · cases e
        | _ => simp [me] at e
  | _ => cases hps with
    | nil => simp [me] at e
    | cons h1 t => cases h1 <;> cases t <;> simp [me] at e
end
end Z

set_option maxHeartbeats 4000000
/-! Z over the hand layer: expressions. A program's expression and the interpreter's are compared by chkE; where they fit, the interpreter's run is a reading of the expression. -/
namespace Z
open PySem PySem.Spec L2

/-! ### the readings -/
def tE (K : PySem.W.Frag) (G : GE) (C : Cxt) (e : E) : TE := fun σ H Q => ∃ ρ : Pr, ∃ μ ls r μ', RelSt K G ρ μ H ∧ RelL K G ρ H ls σ ∧ ev C e ls μ = .ok r μ' ∧
  ∀ ρ' H' v, Ext ρ H ρ' H' → RelSt K G ρ' μ' H' → RepR K G H ρ' μ' H' r v → Q v H'
/-- values one by one; as: the containers just made among them -/
inductive RepI (K : PySem.W.Frag) (G : GE) (st W : List Addr) (H : Hp) : List RV → List V → List Addr → Prop
  | nil : RepI K G st W H [] [] []
  | v {p : PV} {v : V} {rs : List RV} {vs : List V} {as : List Addr} : Rep K G W H p v → RepI K G st W H rs vs as → RepI K G st W H (.v p :: rs) (v :: vs) as
  | loc {n : Nat} {a : Addr} {rs : List RV} {vs : List V} {as : List Addr} : st[n]? = some a → RepI K G st W H rs vs as → RepI K G st W H (.loc n :: rs) (.ref a :: vs) as
  | new {a : Addr} {p : PV} {o : HO} {rs : List RV} {vs : List V} {as : List Addr} : H a = some o ∧ isF o = false → Con K G W H p o → RepI K G st W H rs vs as → RepI K G st W H (.new p :: rs) (.ref a :: vs) (a :: as)
structure RepA (K : PySem.W.Frag) (G : GE) (H₀ : Hp) (ρ : Pr) (μ : Sto) (H : Hp) (rs : List RV) (vs : List V) : Prop where
  ex : ∃ as, RepI K G ρ.st (⟨ρ.st, as ++ ρ.fo⟩ : Pr).W H rs vs as ∧ RelSt K G ⟨ρ.st, as ++ ρ.fo⟩ μ H ∧ as.Nodup ∧ ∀ a ∈ as, H₀ a = none ∧ a ∉ ρ.fo
def tA (K : PySem.W.Frag) (G : GE) (C : Cxt) (e : E) : TA := fun σ H Q => ∃ ρ : Pr, ∃ μ ls rs μ', RelSt K G ρ μ H ∧ RelL K G ρ H ls σ ∧ evs C e ls μ = .ok rs μ' ∧
  ∀ ρ' H' vs, Ext ρ H ρ' H' → RelSt K G ρ' μ' H' → RepA K G H ρ' μ' H' rs vs → Q vs H'
def tT (K : PySem.W.Frag) (G : GE) (C : Cxt) (e : E) : TT := fun σ H Q => ∃ ρ : Pr, ∃ μ ls b μ', RelSt K G ρ μ H ∧ RelL K G ρ H ls σ ∧ ev C e ls μ = .ok (.v (.bl b)) μ' ∧
  ∀ ρ' H', Ext ρ H ρ' H' → RelSt K G ρ' μ' H' → Q b H'
def tOp' (K : PySem.W.Frag) (G : GE) (C : Cxt) (e : E) : TO := fun σ H Q => ∃ ρ : Pr, ∃ μ ls b μ', RelSt K G ρ μ H ∧ RelL K G ρ H ls σ ∧ evo C e ls μ = .ok b μ' ∧
  ∀ ρ' H', Ext ρ H ρ' H' → RelSt K G ρ' μ' H' → Q b H'
/-- what a def promises: it does what the interpreter's call does -/
def spF (K : PySem.W.Frag) (G : GE) (call : Nat → List RV → Sto → R RV) (f : Nat) : Sp := fun vs H Q _ => ∃ ρ : Pr, ∃ μ rs r μ', RelSt K G ρ μ H ∧ Paired (fun r v => ∃ r', argL r = some r' ∧ RepL K G ρ H r' v) rs vs ∧
  call f rs μ = .ok r μ' ∧ ∀ H' v, Ext ρ H ρ H' → RelSt K G ρ μ' H' → RepR K G H ρ μ' H' r v → Q v H'

theorem _root_.L2.PE.imp {X : Cx} {e : Expr} {t t' : TE} (h : PE X e t) (i : ∀ σ H Q, t' σ H Q → t σ H Q) : PE X e t' := ⟨fun pins s σ H Q I w => h.run pins s σ H Q I (i σ H Q w)⟩
theorem _root_.L2.PT.imp {X : Cx} {e : Expr} {t t' : TT} (h : PT X e t) (i : ∀ σ H Q, t' σ H Q → t σ H Q) : PT X e t' := ⟨fun pins s σ H Q I w => h.run pins s σ H Q I (i σ H Q w)⟩
theorem _root_.L2.PA.imp {X : Cx} {e : List Expr} {t t' : TA} (h : PA X e t) (i : ∀ σ H Q, t' σ H Q → t σ H Q) : PA X e t' := ⟨fun pos pins s σ H Q I w => h.run pos pins s σ H Q I (i σ H Q w)⟩
theorem _root_.L2.PO.imp {X : Cx} {e : Option Expr} {t t' : TO} (h : PO X e t) (i : ∀ σ H Q, t' σ H Q → t σ H Q) : PO X e t' := ⟨fun pins s σ H Q I w => h.run pins s σ H Q I (i σ H Q w)⟩
theorem bind_eq {α β : Type} {r : R α} {f : α → Sto → R β} {b : β} {μ : Sto} (h : r.bind f = .ok b μ) : ∃ a μ1, r = .ok a μ1 ∧ f a μ1 = .ok b μ := by
  cases r with
  | ok a μ1 => exact ⟨a, μ1, rfl, h⟩
  | ex x μ1 => cases h
  | no => cases h
theorem opt_eq {α : Type} {o : Option α} {a : α} {μ μ' : Sto} (h : opt o μ = .ok a μ') : o = some a ∧ μ' = μ := by
  cases o with
  | none => cases h
  | some x => cases h; exact ⟨rfl, rfl⟩
theorem opt2_eq {f : PV → PV → Option RV} {x y r : RV} {μ μ' : Sto} (h : opt2 f x y μ = .ok r μ') : ∃ p q, rd μ x = some p ∧ rd μ y = some q ∧ f p q = some r ∧ μ' = μ := by
  unfold opt2 at h
  split at h
  · rename_i p q e1 e2
    obtain ⟨e3, e4⟩ := opt_eq h
    exact ⟨p, q, e1, e2, e3, e4⟩
  · cases h
theorem opt1_eq {f : PV → Option RV} {x r : RV} {μ μ' : Sto} (h : opt1 f x μ = .ok r μ') : ∃ p, rd μ x = some p ∧ f p = some r ∧ μ' = μ := by
  unfold opt1 at h
  split at h
  · rename_i p e1
    obtain ⟨e3, e4⟩ := opt_eq h
    exact ⟨p, e1, e3, e4⟩
  · cases h
theorem toB_eq {r : RV} {b : Bool} {μ μ' : Sto} (h : toB r μ = .ok b μ') : r = .v (.bl b) ∧ μ' = μ := by
  unfold toB at h
  split at h
  · cases h; exact ⟨rfl, rfl⟩
  · cases h
theorem tst_eq {α : Type} {x : RV} {μ μ' : Sto} {f : Bool → Sto → R α} {r : α} (h : (toB x μ).bind f = .ok r μ') : ∃ t, x = .v (.bl t) ∧ f t μ = .ok r μ' := by
  obtain ⟨t, μ1, e1, e2⟩ := bind_eq h
  obtain ⟨rfl, rfl⟩ := toB_eq e1
  exact ⟨t, rfl, e2⟩
theorem toI_eq {r : RV} {i : Int} (h : toI r = some i) : r = .v (.int i) := by
  unfold toI at h
  split at h
  · cases h; rfl
  · cases h

section
variable {K : PySem.W.Frag} {G : GE} {ρ : Pr} {μ : Sto} {H : Hp}
theorem fin_of {ρ₁ : Pr} {H₁ : Hp} {r : RV} {Q : VK} {μ1 : Sto} (s : RelSt K G ρ₁ μ1 H₁) (e : Ext ρ H ρ₁ H₁)
    (h : ∀ ρ' H' v, Ext ρ H ρ' H' → RelSt K G ρ' μ1 H' → RepR K G H ρ' μ1 H' r v → Q v H') : Fin K G ρ₁ μ1 H₁ r Q := fun H' v sm rv =>
  h ρ₁ H' v (e.trans (Ext.same sm)) (s.same sm) (rv.back e)
theorem bl_of {H₀ : Hp} {b : Bool} {v : V} (h : RepR K G H₀ ρ μ H (.v (.bl b)) v) : v = .bl b := by
  have h : Rep K G ρ.W H (.bl b) v := h
  cases h
  rfl
theorem int_of {H₀ : Hp} {b : Int} {v : V} (h : RepR K G H₀ ρ μ H (.v (.int b)) v) : v = .int b := by
  have h : Rep K G ρ.W H (.int b) v := h
  cases h
  rfl
end

/-! ### the text's names -/
/-- what the module's names stand for: defs, classes, constants; the built-in names that are free -/
structure Gl where
  fn : List (Str × Nat)
  cl : List (Str × Nat)
  co : List (Str × Nat)
  free : List Str
  gd : Bool
structure CC where
  N : List Str
  sc : Scope
  gl : Gl
  fn : Bool
def nmB (x : Str) : Bool := !(x == ("__debug__" : Str)) && !(x == ("__classdict__" : Str)) && !decide (x = ("__name__" : Str))
def visB (sc : Scope) (x : Str) : Bool := match sc.names.lookup x with
  | some .local => true
  | some .cell => true
  | some .free => true
  | _ => false
def locB (sc : Scope) (x : Str) : Bool := match sc.names.lookup x with
  | some .local => true
  | _ => false
def celB (sc : Scope) (x : Str) : Bool := match sc.names.lookup x with
  | some .cell => true
  | _ => false
/-- a name that is stored to: a local one; in a def's own block one that its blocks read -/
def stB (c : CC) (x : Str) : Bool := locB c.sc x || (c.fn && celB c.sc x)
def glB (sc : Scope) (x : Str) : Bool := match sc.names.lookup x with
  | some .globalImplicit => true
  | _ => false
def starB : Expr → Bool
  | .Starred .. => true
  | _ => false
def sliceB : Expr → Bool
  | .Slice .. => true
  | _ => false
def lcB : Expr → Bool
  | .ListComp .. => true
  | .SetComp .. => true
  | .DictComp .. => true
  | _ => false
def opB : Operator → Op2 → Bool
  | .Add, .add => true
  | .Sub, .sub => true
  | .Mult, .mul => true
  | .FloorDiv, .fdiv => true
  | .Mod, .mod => true
  | .Pow, .pow => true
  | .BitXor, .xor => true
  | _, _ => false
def cmB : CmpOp → OpC → Bool
  | .Eq, .eq => true
  | .NotEq, .ne => true
  | .Lt, .lt => true
  | .LtE, .le => true
  | .Gt, .gt => true
  | .GtE, .ge => true
  | .In, .isin => true
  | .NotIn, .notin => true
  | .Is, .is => true
  | .IsNot, .isnot => true
  | _, _ => false
/-- a built-in's name, and whether it is a type -/
def biN : Bi → Option (String × Bool)
  | .len => some ("len", false)
  | .all => some ("all", false)
  | .any => some ("any", false)
  | .sum => some ("sum", false)
  | .min1 => some ("min", false)
  | .max1 => some ("max", false)
  | .min2 => some ("min", false)
  | .max2 => some ("max", false)
  | .abs => some ("abs", false)
  | .int => some ("int", true)
  | .str => some ("str", true)
  | .tuple => some ("tuple", true)
  | .list => some ("list", true)
  | .repr => some ("repr", false)
  | .sorted => some ("sorted", false)
  | .dict => some ("dict", true)
  | _ => none
def meN : Me → Option (String × String × String)
  | .append => some ("append", "list", "list.append")
  | .pop1 => some ("pop", "list", "list.pop")
  | .join => some ("join", "str", "str.join")
  | .startswith => some ("startswith", "str", "str.startswith")
  | .get1 => some ("get", "dict", "dict.get")
  | .get2 => some ("get", "dict", "dict.get")
  | _ => none
def freeB (c : CC) (x : Str) : Bool := glB c.sc x && c.gl.free.contains x && nmB x

def chkA (f : Expr → E → Bool) : List Expr → E → Bool
  | [], .nil => true
  | e :: es, .cons a as => !starB e && f e a && chkA f es as
  | _, _ => false
def chkO (f : Expr → E → Bool) : Option Expr → E → Bool
  | none, .nil => true
  | some e, .cons a .nil => f e a
  | _, _ => false
mutual
def chkTg (c : CC) : Nat → Expr → Tg → Bool
  | _, .Name x _, .nm i => decide (c.N[i]? = some x) && stB c x
  | n + 1, .Tuple es _ _, tg => chkTgs c n es tg
  | _, _, _ => false
def chkTgs (c : CC) : Nat → List Expr → Tg → Bool
  | _, [], .nil => true
  | n + 1, e :: es, .cons a b => !starB e && chkTg c n e a && chkTgs c n es b
  | _, _, _ => false
end
/-- the comprehension's own names, by the target -/
def ownOf (N : List Str) (l : List Nat) : List (Str × Nat) := l.map fun i => (N.getD i Str.empty, i)

def dcE : Expr → Bool
  | .DictComp .. => true
  | _ => false
def tupB : Expr → Bool
  | .Tuple _ _ _ => true
  | _ => false
def chkI (f : Expr → E → Bool) (c : CC) (tg : Expr) : Expr → E → Bool
  | .Call (.Name x _) [b] [] _, .rng (.int i) b' => decide (x = ("range" : Str)) && freeB c x && decide (i = 0) && !starB b && f b b'
  | .Call (.Name x _) [a, b, d] [] _, .rng3 a' b' d' => decide (x = ("range" : Str)) && freeB c x && !starB a && !starB b && !starB d && f a a' && f b b' && f d d'
  | .Call (.Name x _) [a, b] [] _, .rng a' b' => decide (x = ("range" : Str)) && freeB c x && !starB a && !starB b && f a a' && f b b'
  | .Call (.Name x _) [.Call (.Name y _) [a, b] [] _] [] _, .ezip a' b' => decide (x = ("enumerate" : Str)) && freeB c x && decide (y = ("zip" : Str)) && freeB c y && tupB tg && !starB a && !starB b && f a a' && f b b'
  | .Call (.Name x _) [b] [] _, .enum b' => decide (x = ("enumerate" : Str)) && freeB c x && tupB tg && !starB b && f b b'
  | .Call (.Name x _) [a, b] [] _, .zip a' b' => decide (x = ("zip" : Str)) && freeB c x && tupB tg && !starB a && !starB b && f a a' && f b b'
  | e, e' => f e e'

/-- a dict that is walked, held by a name -/
def dIt (c : CC) (tg : Expr) : Bool → Expr → Nat → Bool
  | true, .Call (.Attribute (.Name x _) m ap) [] [] p, j => decide (m = ("items" : Str)) && (ap.endLine == p.line) && tupB tg && decide (c.N[j]? = some x) && visB c.sc x && nmB x
  | false, .Name x _, j => decide (c.N[j]? = some x) && visB c.sc x && nmB x
  | _, _, _ => false
def chkE : Nat → CC → Expr → E → Bool
  | 0, _, _, _ => false
  | n + 1, c, e, e' => match e, e' with
    | .Name x _, .var i => decide (c.N[i]? = some x) && visB c.sc x && nmB x
    | .Name x _, .con j => glB c.sc x && decide (c.gl.co.lookup x = some j) && nmB x
    | .Constant (.int i) _ _, .int j => decide (i = j)
    | .Constant (.bool b) _ _, .bl b' => b == b'
    | .Constant .none _ _, .non => true
    | .Constant (.str x) _ _, .str l => decide (x.cps.toList = l)
    | .BinOp a op b _, .bin o a' b' => opB op o && chkE n c a a' && chkE n c b b'
    | .UnaryOp .USub a _, .neg a' => chkE n c a a'
    | .UnaryOp .Not a _, .not a' => chkE n c a a'
    | .Compare a [op] [b] _, .cmp o a' b' => cmB op o && !behindInMarks op b && chkE n c a a' && chkE n c b b'
    | .Compare a [op, op'] [b, d] _, .chn o o' a' b' d' => cmB op o && cmB op' o' && !lastMarks [op, op'] [b, d] && chkE n c a a' && chkE n c b b' && chkE n c d d'
    | .BoolOp .And (a :: b :: r) p, .and a' b' => chkE n c a a' && chkE n c (.BoolOp .And (b :: r) p) b'
    | .BoolOp .Or (a :: b :: r) p, .or a' b' => chkE n c a a' && chkE n c (.BoolOp .Or (b :: r) p) b'
    | .BoolOp .And [a] _, e' => chkE n c a e'
    | .BoolOp .Or [a] _, e' => chkE n c a e'
    | .IfExp t a b _, .ite t' a' b' => chkE n c t t' && chkE n c a a' && chkE n c b b'
    | .Tuple es _ _, .tup as => chkA (chkE n c) es as
    | .List es _, .lst as => chkA (chkE n c) es as
    | .Subscript a (.Slice lo hi none _) _, .slc a' lo' hi' => chkE n c a a' && chkO (chkE n c) lo lo' && chkO (chkE n c) hi hi'
    | .Subscript a (.Slice none none (some (.UnaryOp .USub (.Constant (.int i) _ _) _)) _) _, .rvs a' => decide (i = 1) && chkE n c a a'
    | .Subscript a b _, .idx a' b' => !sliceB b && chkE n c a a' && chkE n c b b'
    | .Call (.Name x _) es [] _, .call f as => glB c.sc x && decide (c.gl.fn.lookup x = some f) && nmB x && chkA (chkE n c) es as
    | .Call (.Name x _) [a, .Name y _] [] _, .bi (.isi t) (.cons a' .nil) => decide (x = ("isinstance" : Str)) && freeB c x && freeB c y && decide (y = Str.ofString (tyN t)) && !starB a && (match t with | .cls _ => false | _ => true) && chkE n c a a'
    | .Call (.Name x _) (a :: es) [] _, .bi f as => (match biN f with
      | some (s, _) => decide (x = Str.ofString s) && freeB c x && (!decide (f = .repr) || c.gl.gd) && chkA (chkE n c) (a :: es) as
      | none => false)
    | .Call (.Attribute o m ap) (a :: es) [] p, .me m' o' as => (match meN m' with
      | some (s, _) => (match m' with
        | .get1 => es.isEmpty
        | .get2 => es.length == 1
        | _ => true) && decide (m = Str.ofString s) && (ap.endLine == p.line) && decide ((a :: es).length < 30) && (match o with | .Name .. => true | .Constant .. => true | _ => false) && chkE n c o o' && chkA (chkE n c) (a :: es) as
      | none => false)
    | .ListComp elt [⟨tg, it, ifs, 0⟩] scope _, .lc elt' tg' it' cond' =>
      let c' : CC := { c with sc := relS scope c.sc, fn := false }
      blkC c.N c.sc scope (ownOf c.N (tgN tg')) && decide ((tgN tg').Nodup) && (match it with | .Set .. => false | _ => true) && chkTg c' 8 tg tg' && chkI (chkE n c) c tg it it' && chkE n c' elt elt' &&
      (match ifs, cond' with
        | [], .nil => true
        | [d], .cons d' .nil => chkE n c' d d'
        | _, _ => false)
    | .ListComp elt [⟨tg, it, ifs, 0⟩] scope _, .lcd b elt' tg' (.var j) cond' =>
      let c' : CC := { c with sc := relS scope c.sc, fn := false }
      blkC c.N c.sc scope (ownOf c.N (tgN tg')) && decide ((tgN tg').Nodup) && chkTg c' 8 tg tg' && dIt c tg b it j && chkE n c' elt elt' &&
      (match ifs, cond' with
        | [], .nil => true
        | [d], .cons d' .nil => chkE n c' d d'
        | _, _ => false)
    | .DictComp kx vx [⟨tg, it, ifs, 0⟩] scope _, .dc b kx' vx' tg' (.var j) cond' =>
      let c' : CC := { c with sc := relS scope c.sc, fn := false }
      blkC c.N c.sc scope (ownOf c.N (tgN tg')) && decide ((tgN tg').Nodup) && chkTg c' 8 tg tg' && dIt c tg b it j && chkE n c' kx kx' && chkE n c' vx vx' &&
      (match ifs, cond' with
        | [], .nil => true
        | [d], .cons d' .nil => chkE n c' d d'
        | _, _ => false)
    | .Dict [] [] _, .dnew => true
    | _, _ => false

/-- the context of a body fits the interpreter's -/
structure OkX (X : Cx) (G : GE) (C : Cxt) (gl : Gl) : Prop where
  calm : X.calm = true
  nd : X.N.Nodup
  xe : X.xe = fun _ _ => False
  fn : ∀ x f, gl.fn.lookup x = some f → ∃ k fd ps, Room k X.A ∧ X.mg x = some (.ref (G.fn f)) ∧ PySem.W.keepIn X.K (.ref (G.fn f)) = true ∧ Binds X.K fd ps [] ∧ FnG gl.gd X.prog X.w X.K X.mg X.base CX0 k (G.fn f) fd ps (spF X.K G C.call f)
  free : ∀ x ∈ gl.free, X.mg x = none
  con : ∀ x c, gl.co.lookup x = some c → ∃ u v, X.mg x = some u ∧ RelV v u ∧ ∀ W H, Rep X.K G W H (C.con c) v
  un : X.A.units + 65 < cLine
  gd : gl.gd = true → X.A.guards = some []

/-! ### small facts of the model's trees -/
theorem star_ok {e : Expr} (h : starB e = false) (es : List Expr) (env : Env) : starEach (e :: es) env = (false, eval e env) :: starEach es env := by
  cases e <;> first | rfl | (simp [starB] at h)
theorem chkA_star {f : Expr → E → Bool} : ∀ {es : List Expr} {as : E}, chkA f es as = true → ∀ e ∈ es, starB e = false
  | [], _, _, _, h => by cases h
  | e :: es, .cons a as, h, x, hx => by
    simp only [chkA, Bool.and_eq_true, Bool.not_eq_true'] at h
    rcases List.mem_cons.mp hx with rfl | hx
    · exact h.1.1
    · exact chkA_star h.2 x hx
theorem star_all {es : List Expr} (h : ∀ e ∈ es, starB e = false) (env : Env) (pos : Pos) : (backTo pos (starEach es env)).any (·.1) = false := by
  induction es with
  | nil => rfl
  | cons e es ih =>
    rw [star_ok (h e (List.mem_cons_self ..))]
    exact ih fun x hx => h x (List.mem_cons_of_mem _ hx)
theorem star_few {es : List Expr} (h : ∀ e ∈ es, starB e = false) (env : Env) (pos : Pos) : (backTo pos (starEach es env)).all (fun x => !x.1) = true := by
  induction es with
  | nil => rfl
  | cons e es ih =>
    rw [star_ok (h e (List.mem_cons_self ..))]
    exact ih fun x hx => h x (List.mem_cons_of_mem _ hx)
theorem opB_eq {a : Operator} {o : Op2} (h : opB a o = true) : a = opOf o := by
  cases a <;> cases o <;> first | rfl | (simp [opB] at h)
theorem cmB_eq {a : CmpOp} {o : OpC} (h : cmB a o = true) : a = cmOf o := by
  cases a <;> cases o <;> first | rfl | (simp [cmB] at h)
theorem visB_ok {sc : Scope} {x : Str} (h : visB sc x = true) : Vis sc x := by
  unfold visB at h
  split at h
  · exact .inl (by assumption)
  · exact .inr (.inl (by assumption))
  · exact .inr (.inr (by assumption))
  · cases h
theorem glB_ok {X : Cx} {x : Str} (h : glB X.env.scope x = true) : L2.Gl X x := by
  unfold glB at h
  split at h
  · assumption
  · cases h
theorem nmB_ok {x : Str} (h : nmB x = true) : (x == ("__debug__" : Str)) = false ∧ (x == ("__classdict__" : Str)) = false ∧ x ≠ ("__name__" : Str) := by
  unfold nmB at h
  simp only [Bool.and_eq_true, Bool.not_eq_true', decide_eq_false_iff_not] at h
  exact ⟨h.1.1, h.1.2, h.2⟩

section
variable {X : Cx} {G : GE} {C : Cxt} {gl : Gl}
theorem free_ok (ok : OkX X G C gl) {c : CC} (hsc : X.env.scope = c.sc) (hgl : c.gl = gl) {x : Str} (h : freeB c x = true) : L2.Gl X x ∧ X.mg x = none ∧ (x == ("__debug__" : Str)) = false ∧ x ≠ ("__name__" : Str) := by
  unfold freeB at h
  simp only [Bool.and_eq_true] at h
  obtain ⟨⟨h1, h2⟩, h3⟩ := h
  obtain ⟨n1, n2, n3⟩ := nmB_ok h3
  refine ⟨glB_ok (by rw [hsc]; exact h1), ok.free x ?_, n1, n3⟩
  rw [← hgl]
  exact List.contains_iff_mem.mp h2

/-! ### the steps of the proof, one a form -/
theorem s_var {i : Nat} {x : Str} {pos : Pos} (hN : X.N[i]? = some x) (hv : visB X.env.scope x = true) (hn : nmB x = true) : PE X (.Name x pos) (tE X.K G C (.var i)) := by
  obtain ⟨n1, n2, n3⟩ := nmB_ok hn
  refine (pe_var hN (visB_ok hv) n1 n2).imp fun σ H Q h => ?_
  obtain ⟨ρ, μ, ls, r, μ', st, rl, e, k⟩ := h
  simp only [ev, lvR] at e
  split at e
  · rename_i r' e1
    cases e
    obtain ⟨v, h1, h2⟩ := rl.get e1
    refine ⟨v, h1, k ρ H v (Ext.refl _ _) st ?_⟩
    cases r with
    | v p => exact h2
    | loc n => exact h2
    | new p => exact h2.elim
  · cases e
theorem s_con (ok : OkX X G C gl) {c : Nat} {x : Str} {pos : Pos} (hv : glB X.env.scope x = true) (hc : gl.co.lookup x = some c) (hn : nmB x = true) : PE X (.Name x pos) (tE X.K G C (.con c)) := by
  obtain ⟨n1, n2, n3⟩ := nmB_ok hn
  obtain ⟨u, v, h1, h2, h3⟩ := ok.con x c hc
  refine (pe_glob (glB_ok hv) h1 h2 n1).imp fun σ H Q h => ?_
  obtain ⟨ρ, μ, ls, r, μ', st, rl, e, k⟩ := h
  simp only [ev] at e
  cases e
  exact k ρ H v (Ext.refl _ _) st (h3 ρ.W H)
theorem s_cst {e' : E} {p : PV} {v : V} {e : Expr} (h : PE X e (tC v)) (he : ∀ ls μ, ev C e' ls μ = .ok (.v p) μ) (hr : ∀ W H, Rep X.K G W H p v) : PE X e (tE X.K G C e') := by
  refine h.imp fun σ H Q h => ?_
  obtain ⟨ρ, μ, ls, r, μ', st, rl, e, k⟩ := h
  rw [he] at e
  cases e
  exact k ρ H v (Ext.refl _ _) st (hr ρ.W H)
/-- two expressions in a row, then a step by values -/
theorem two_of {a' b' : E} {ρ : Pr} {μ μ' : Sto} {ls : Lcs} {σ : L2.St} {H : Hp} {Q : VK} {r : RV} {f : PV → PV → Option RV} (st : RelSt X.K G ρ μ H) (rl : RelL X.K G ρ H ls σ)
    (e : ((ev C a' ls μ).bind fun x μ1 => (ev C b' ls μ1).bind fun y μ2 => opt2 f x y μ2) = .ok r μ')
    (k : ∀ ρ' H' v, Ext ρ H ρ' H' → RelSt X.K G ρ' μ' H' → RepR X.K G H ρ' μ' H' r v → Q v H') {R : V → V → Hp → Prop}
    (hR : ∀ x y H2, (∃ (ρ : Pr) (μ : Sto), ∃ p q r, RelSt X.K G ρ μ H2 ∧ Rr X.K G ρ.W H2 p x ∧ Rr X.K G ρ.W H2 q y ∧ f p q = some r ∧ Fin X.K G ρ μ H2 r Q) → R x y H2) :
    tE X.K G C a' σ H fun x H1 => tE X.K G C b' σ H1 fun y H2 => R x y H2 := by
  obtain ⟨x, μ1, e1, e⟩ := bind_eq e
  obtain ⟨y, μ2, e2, e⟩ := bind_eq e
  obtain ⟨p, q, h1, h2, h3, rfl⟩ := opt2_eq e
  refine ⟨ρ, μ, ls, x, μ1, st, rl, e1, fun ρ1 H1 vx x1 st1 rx => ?_⟩
  refine ⟨ρ1, μ1, ls, y, _, st1, x1.relL rl, e2, fun ρ2 H2 vy x2 st2 ry => ?_⟩
  exact hR vx vy H2 ⟨ρ2, _, p, q, r, st2, st2.read (x2.repP rx.p) h1, st2.read ry.p h2, h3, fin_of st2 (x1.trans x2) k⟩
theorem s_bin {o : Op2} {a b : Expr} {a' b' : E} {pos : Pos} (ha : PE X a (tE X.K G C a')) (hb : PE X b (tE X.K G C b')) : PE X (.BinOp a (opOf o) b pos) (tE X.K G C (.bin o a' b')) := by
  refine (pe_op (bin_ok (G := G) o) ha hb).imp fun σ H Q h => ?_
  obtain ⟨ρ, μ, ls, r, μ', st, rl, e, k⟩ := h
  simp only [ev] at e
  exact two_of st rl e k fun x y H2 h => h
theorem s_idx {a b : Expr} {a' b' : E} {pos : Pos} (hun : X.A.units + 64 < cLine) (hs : sliceB b = false) (ha : PE X a (tE X.K G C a')) (hb : PE X b (tE X.K G C b')) : PE X (.Subscript a b pos) (tE X.K G C (.idx a' b')) := by
  refine (pe_ix (idx_ok (G := G) hun) ha hb fun o i => ?_).imp fun σ H Q h => ?_
  · cases b <;> first | rfl | (simp [sliceB] at hs)
  obtain ⟨ρ, μ, ls, r, μ', st, rl, e, k⟩ := h
  simp only [ev] at e
  exact two_of st rl e k fun x y H2 h => h
theorem cmp_two {o : OpC} {a' b' : E} {ρ : Pr} {μ μ' : Sto} {ls : Lcs} {σ : L2.St} {H : Hp} {Q : VK} {r : RV} (st : RelSt X.K G ρ μ H) (rl : RelL X.K G ρ H ls σ)
    (e : ((ev C a' ls μ).bind fun x μ1 => (ev C b' ls μ1).bind fun y μ2 => opt2 (cmpR o) x y μ2) = .ok r μ')
    (k : ∀ ρ' H' v, Ext ρ H ρ' H' → RelSt X.K G ρ' μ' H' → RepR X.K G H ρ' μ' H' r v → Q v H') :
    tE X.K G C a' σ H fun x H1 => tE X.K G C b' σ H1 fun y H2 => rC X.K G (cmp o) x y H2 Q := by
  refine two_of st rl e k fun x y H2 h => ?_
  obtain ⟨ρ, μ, p, q, r, l, h1, h2, h3, h4⟩ := h
  obtain ⟨b, e1, rfl⟩ := Option.map_eq_some_iff.mp (show (cmp o p q).map (fun c => RV.v (.bl c)) = some r from h3)
  exact ⟨ρ, p, q, b, h1, h2, e1, h4.val (.bl b)⟩
theorem s_cmp (ok : OkX X G C gl) {o : OpC} {a b : Expr} {a' b' : E} {pos : Pos} (hm : behindInMarks (cmOf o) b = false) (ha : PE X a (tE X.K G C a')) (hb : PE X b (tE X.K G C b')) : PE X (.Compare a [cmOf o] [b] pos) (tE X.K G C (.cmp o a' b')) := by
  refine (pe_cmpR (cmp_ok (G := G) ok.un o) ha hb hm).imp fun σ H Q h => ?_
  obtain ⟨ρ, μ, ls, r, μ', st, rl, e, k⟩ := h
  simp only [ev] at e
  exact cmp_two st rl e k
theorem t_cmp (ok : OkX X G C gl) {o : OpC} {a b : Expr} {a' b' : E} {pos : Pos} (hm : behindInMarks (cmOf o) b = false) (ha : PE X a (tE X.K G C a')) (hb : PE X b (tE X.K G C b')) : PT X (.Compare a [cmOf o] [b] pos) (tT X.K G C (.cmp o a' b')) := by
  refine (pt_cmpR (cmp_ok (G := G) ok.un o) ha hb hm).imp fun σ H Q h => ?_
  obtain ⟨ρ, μ, ls, b, μ', st, rl, e, k⟩ := h
  simp only [ev] at e
  exact cmp_two st rl e fun ρ' H' v x s r => ⟨b, bl_of r, k ρ' H' x s⟩
theorem chn_two {o o' : OpC} {a' b' c' : E} {ρ : Pr} {μ μ' : Sto} {ls : Lcs} {σ : L2.St} {H : Hp} {Q : VK} {r : RV} (st : RelSt X.K G ρ μ H) (rl : RelL X.K G ρ H ls σ)
    (e : ev C (.chn o o' a' b' c') ls μ = .ok r μ')
    (k : ∀ ρ' H' v, Ext ρ H ρ' H' → RelSt X.K G ρ' μ' H' → RepR X.K G H ρ' μ' H' r v → Q v H') :
    tChain (rC X.K G (cmp o)) (rC X.K G (cmp o')) (tE X.K G C a') (tE X.K G C b') (tE X.K G C c') σ H Q := by
  simp only [ev] at e
  obtain ⟨x, μ1, e1, f1⟩ := bind_eq e
  clear e
  obtain ⟨y, μ2, e2, f2⟩ := bind_eq f1
  clear f1
  obtain ⟨z, μ3, e3, f3⟩ := bind_eq f2
  clear f2
  obtain ⟨t, μ4, e4, e⟩ := bind_eq f3
  clear f3
  obtain ⟨p, q, h1, h2, h3, rfl⟩ := opt2_eq e3
  obtain ⟨rfl, rfl⟩ := toB_eq e4
  refine ⟨ρ, μ, ls, x, μ1, st, rl, e1, fun ρ1 H1 vx x1 st1 rx => ?_⟩
  refine ⟨ρ1, μ1, ls, y, _, st1, x1.relL rl, e2, fun ρ2 H2 vy x2 st2 ry => ?_⟩
  obtain ⟨b, e5, e6⟩ := Option.map_eq_some_iff.mp (show (cmp o p q).map (fun c => RV.v (.bl c)) = some (.v (.bl t)) from h3)
  have e9 : b = t := by cases e6; rfl
  subst e9
  refine ⟨ρ2, p, q, b, st2.read (x2.repP rx.p) h1, st2.read ry.p h2, e5, b, rfl, ?_⟩
  cases b with
  | false =>
    rw [if_neg Bool.false_ne_true]
    rw [iteB_f] at e
    cases e
    exact k ρ2 H2 (.bl false) (x1.trans x2) st2 (.bl false)
  | true =>
    rw [if_pos rfl]
    rw [iteB_t] at e
    obtain ⟨w, μ5, e7, e⟩ := bind_eq e
    obtain ⟨q', r', g1, g2, g3, rfl⟩ := opt2_eq e
    obtain ⟨b', e8, rfl⟩ := Option.map_eq_some_iff.mp (show (cmp o' q' r').map (fun c => RV.v (.bl c)) = some r from g3)
    refine ⟨ρ2, _, ls, w, _, st2, (x1.trans x2).relL rl, e7, fun ρ3 H3 vz x3 st3 rz => ?_⟩
    exact ⟨ρ3, q', r', b', st3.read (x3.repP ry.p) g1, st3.read rz.p g2, e8, k ρ3 H3 (.bl b') ((x1.trans x2).trans x3) st3 (.bl b')⟩
theorem s_chn (ok : OkX X G C gl) {o o' : OpC} {a b c : Expr} {a' b' c' : E} {pos : Pos} (hm : lastMarks [cmOf o, cmOf o'] [b, c] = false) (ha : PE X a (tE X.K G C a')) (hb : PE X b (tE X.K G C b')) (hc : PE X c (tE X.K G C c')) :
    PE X (.Compare a [cmOf o, cmOf o'] [b, c] pos) (tE X.K G C (.chn o o' a' b' c')) := by
  refine (pe_chain (cmp_ok (G := G) ok.un o) (cmp_ok (G := G) ok.un o') ha hb hc hm).imp fun σ H Q h => ?_
  obtain ⟨ρ, μ, ls, r, μ', st, rl, e, k⟩ := h
  exact chn_two st rl e k
theorem t_chn (ok : OkX X G C gl) {o o' : OpC} {a b c : Expr} {a' b' c' : E} {pos : Pos} (hm : lastMarks [cmOf o, cmOf o'] [b, c] = false) (ha : PE X a (tE X.K G C a')) (hb : PE X b (tE X.K G C b')) (hc : PE X c (tE X.K G C c')) :
    PT X (.Compare a [cmOf o, cmOf o'] [b, c] pos) (tT X.K G C (.chn o o' a' b' c')) := by
  refine (pt_chain (cmp_ok (G := G) ok.un o) (cmp_ok (G := G) ok.un o') ha hb hc hm).imp fun σ H Q h => ?_
  obtain ⟨ρ, μ, ls, b, μ', st, rl, e, k⟩ := h
  exact chn_two st rl e fun ρ' H' v x s r => ⟨b, bl_of r, k ρ' H' x s⟩
theorem s_neg {a : Expr} {a' : E} {pos : Pos} (ha : PE X a (tE X.K G C a')) : PE X (.UnaryOp .USub a pos) (tE X.K G C (.neg a')) := by
  refine (pe_un un_neg ha).imp fun σ H Q h => ?_
  obtain ⟨ρ, μ, ls, r, μ', st, rl, e, k⟩ := h
  simp only [ev] at e
  obtain ⟨x, μ1, e1, e⟩ := bind_eq e
  obtain ⟨p, h1, h2, rfl⟩ := opt1_eq e
  refine ⟨ρ, μ, ls, x, _, st, rl, e1, fun ρ1 H1 vx x1 st1 rx => ?_⟩
  have rp := st1.read rx.p h1
  cases rp with
  | int i =>
    cases (show some (RV.v (.int (-i))) = some r from h2)
    exact ⟨i, rfl, k ρ1 H1 (.int (-i)) x1 st1 (.int _)⟩
  | _ => simp [negR] at h2
/-! tests -/
theorem t_val {e : Expr} {e' : E} (h : PE X e (tE X.K G C e')) (he : ∀ whole, isTrue e X.env whole = (do let v ← whole; standAt e.pos; holding [v] (truthy v))) : PT X e (tT X.K G C e') := by
  refine (pt_val h he).imp fun σ H Q h => ?_
  obtain ⟨ρ, μ, ls, b, μ', st, rl, e, k⟩ := h
  exact ⟨ρ, μ, ls, _, μ', st, rl, e, fun ρ' H' v x s r => ⟨b, bl_of r, k ρ' H' x s⟩⟩
theorem s_not {a : Expr} {a' : E} {pos : Pos} (ha : PE X a (tE X.K G C a')) : PE X (.UnaryOp .Not a pos) (tE X.K G C (.not a')) := by
  refine (pe_not ha).imp fun σ H Q h => ?_
  obtain ⟨ρ, μ, ls, r, μ', st, rl, e, k⟩ := h
  simp only [ev] at e
  obtain ⟨x, μ1, e1, f1⟩ := bind_eq e
  clear e
  obtain ⟨t, rfl, e⟩ := tst_eq f1
  clear f1
  cases e
  exact ⟨ρ, μ, ls, _, _, st, rl, e1, fun ρ1 H1 vx x1 st1 rx => ⟨t, bl_of rx, k ρ1 H1 (.bl (!t)) x1 st1 (.bl _)⟩⟩
theorem t_not {a : Expr} {a' : E} {pos : Pos} (ha : PT X a (tT X.K G C a')) : PT X (.UnaryOp .Not a pos) (tT X.K G C (.not a')) := by
  refine (pt_not ha).imp fun σ H Q h => ?_
  obtain ⟨ρ, μ, ls, r, μ', st, rl, e, k⟩ := h
  simp only [ev] at e
  obtain ⟨x, μ1, e1, f1⟩ := bind_eq e
  clear e
  obtain ⟨t, rfl, e⟩ := tst_eq f1
  clear f1
  cases e
  exact ⟨ρ, μ, ls, t, _, st, rl, e1, fun ρ1 H1 x1 st1 => k ρ1 H1 x1 st1⟩
theorem s_and {a b : Expr} {r : List Expr} {a' b' : E} {pos : Pos} (ha : PE X a (tE X.K G C a')) (hb : PE X (.BoolOp .And (b :: r) pos) (tE X.K G C b')) : PE X (.BoolOp .And (a :: b :: r) pos) (tE X.K G C (.and a' b')) := by
  refine (pe_and ha hb).imp fun σ H Q h => ?_
  obtain ⟨ρ, μ, ls, r, μ', st, rl, e, k⟩ := h
  simp only [ev] at e
  obtain ⟨x, μ1, e1, f1⟩ := bind_eq e
  clear e
  obtain ⟨t, rfl, e⟩ := tst_eq f1
  clear f1
  refine ⟨ρ, μ, ls, _, _, st, rl, e1, fun ρ1 H1 vx x1 st1 rx => ⟨t, bl_of rx, ?_⟩⟩
  cases t with
  | true =>
    rw [if_pos rfl]
    exact ⟨ρ1, _, ls, r, μ', st1, x1.relL rl, e, fun ρ2 H2 v x2 s2 r2 => k ρ2 H2 v (x1.trans x2) s2 (r2.back x1)⟩
  | false =>
    rw [if_neg Bool.false_ne_true]
    rw [iteB_f] at e
    cases e
    exact k ρ1 H1 (.bl false) x1 st1 (.bl _)
theorem s_or {a b : Expr} {r : List Expr} {a' b' : E} {pos : Pos} (ha : PE X a (tE X.K G C a')) (hb : PE X (.BoolOp .Or (b :: r) pos) (tE X.K G C b')) : PE X (.BoolOp .Or (a :: b :: r) pos) (tE X.K G C (.or a' b')) := by
  refine (pe_or ha hb).imp fun σ H Q h => ?_
  obtain ⟨ρ, μ, ls, r, μ', st, rl, e, k⟩ := h
  simp only [ev] at e
  obtain ⟨x, μ1, e1, f1⟩ := bind_eq e
  clear e
  obtain ⟨t, rfl, e⟩ := tst_eq f1
  clear f1
  refine ⟨ρ, μ, ls, _, _, st, rl, e1, fun ρ1 H1 vx x1 st1 rx => ⟨t, bl_of rx, ?_⟩⟩
  cases t with
  | true =>
    rw [if_pos rfl]
    rw [iteB_t] at e
    cases e
    exact k ρ1 H1 (.bl true) x1 st1 (.bl _)
  | false =>
    rw [if_neg Bool.false_ne_true]
    exact ⟨ρ1, _, ls, r, μ', st1, x1.relL rl, e, fun ρ2 H2 v x2 s2 r2 => k ρ2 H2 v (x1.trans x2) s2 (r2.back x1)⟩
theorem w_and {a b : Expr} {r : List Expr} {a' b' : E} {pos : Pos} (ha : PT X a (tT X.K G C a')) (hb : PW X (.BoolOp .And (b :: r) pos) (tT X.K G C b')) : PW X (.BoolOp .And (a :: b :: r) pos) (tT X.K G C (.and a' b')) := by
  refine ⟨fun wh pins s σ H Q I h => (pw_and ha hb).run wh pins s σ H Q I ?_⟩
  obtain ⟨ρ, μ, ls, r, μ', st, rl, e, k⟩ := h
  simp only [ev] at e
  obtain ⟨x, μ1, e1, f1⟩ := bind_eq e
  clear e
  obtain ⟨t, rfl, e⟩ := tst_eq f1
  clear f1
  refine ⟨ρ, μ, ls, t, _, st, rl, e1, fun ρ1 H1 x1 st1 => ?_⟩
  cases t with
  | true =>
    rw [if_pos rfl]
    exact ⟨ρ1, _, ls, r, μ', st1, x1.relL rl, e, fun ρ2 H2 x2 s2 => k ρ2 H2 (x1.trans x2) s2⟩
  | false =>
    rw [if_neg Bool.false_ne_true]
    rw [iteB_f] at e
    cases e
    exact k ρ1 H1 x1 st1
theorem w_or {a b : Expr} {r : List Expr} {a' b' : E} {pos : Pos} (ha : PT X a (tT X.K G C a')) (hb : PW X (.BoolOp .Or (b :: r) pos) (tT X.K G C b')) : PW X (.BoolOp .Or (a :: b :: r) pos) (tT X.K G C (.or a' b')) := by
  refine ⟨fun wh pins s σ H Q I h => (pw_or ha hb).run wh pins s σ H Q I ?_⟩
  obtain ⟨ρ, μ, ls, r, μ', st, rl, e, k⟩ := h
  simp only [ev] at e
  obtain ⟨x, μ1, e1, f1⟩ := bind_eq e
  clear e
  obtain ⟨t, rfl, e⟩ := tst_eq f1
  clear f1
  refine ⟨ρ, μ, ls, t, _, st, rl, e1, fun ρ1 H1 x1 st1 => ?_⟩
  cases t with
  | true =>
    rw [if_pos rfl]
    rw [iteB_t] at e
    cases e
    exact k ρ1 H1 x1 st1
  | false =>
    rw [if_neg Bool.false_ne_true]
    exact ⟨ρ1, _, ls, r, μ', st1, x1.relL rl, e, fun ρ2 H2 x2 s2 => k ρ2 H2 (x1.trans x2) s2⟩
theorem s_ite {c a b : Expr} {c' a' b' : E} {pos : Pos} (hc : PT X c (tT X.K G C c')) (ha : PE X a (tE X.K G C a')) (hb : PE X b (tE X.K G C b')) : PE X (.IfExp c a b pos) (tE X.K G C (.ite c' a' b')) := by
  refine (pe_ifExp hc ha hb).imp fun σ H Q h => ?_
  obtain ⟨ρ, μ, ls, r, μ', st, rl, e, k⟩ := h
  simp only [ev] at e
  obtain ⟨x, μ1, e1, f1⟩ := bind_eq e
  clear e
  obtain ⟨t, rfl, e⟩ := tst_eq f1
  clear f1
  refine ⟨ρ, μ, ls, t, _, st, rl, e1, fun ρ1 H1 x1 st1 => ?_⟩
  cases t with
  | true =>
    rw [if_pos rfl]
    exact ⟨ρ1, _, ls, r, μ', st1, x1.relL rl, e, fun ρ2 H2 v x2 s2 r2 => k ρ2 H2 v (x1.trans x2) s2 (r2.back x1)⟩
  | false =>
    rw [if_neg Bool.false_ne_true]
    exact ⟨ρ1, _, ls, r, μ', st1, x1.relL rl, e, fun ρ2 H2 v x2 s2 r2 => k ρ2 H2 v (x1.trans x2) s2 (r2.back x1)⟩
end
end Z

set_option maxHeartbeats 4000000
/-! Z over the hand layer: arguments, displays, calls, slices, methods, what is walked. -/
namespace Z
open PySem PySem.Spec L2

section
variable {K : PySem.W.Frag} {G : GE} {ρ : Pr} {μ : Sto} {H : Hp}
theorem RepI.p {st fo W : List Addr} {H : Hp} (hd : ∀ a ∈ fo, H a ≠ none) : ∀ {rs : List RV} {vs : List V} {as : List Addr}, RepI K G st W H rs vs as → (∀ a ∈ (⟨st, fo⟩ : Pr).W, a ∈ W) → (∀ a ∈ as, a ∉ (⟨st, fo⟩ : Pr).W) → Paired (RepP K G ⟨st, fo⟩ H) rs vs
  | _, _, _, .nil, _, _ => .nil
  | _, _, _, .v h t, h1, h2 => .cons (show Rep K G _ _ _ _ from h.sub h1) (RepI.p hd t h1 h2)
  | _, _, _, .loc h t, h1, h2 => .cons ⟨_, h, rfl⟩ (RepI.p hd t h1 h2)
  | _, _, _, .new h r t, h1, h2 => .cons ⟨_, _, rfl, h2 _ (List.mem_cons_self ..), h.1, h.2, r.sub h1⟩ (RepI.p hd t h1 fun a ha => h2 a (List.mem_cons_of_mem _ ha))
theorem RepA.p {H₀ : Hp} {rs : List RV} {vs : List V} (st : RelSt K G ρ μ H) (a : RepA K G H₀ ρ μ H rs vs) : Paired (RepP K G ρ H) rs vs := by
  obtain ⟨as, h1, h2, h3, h4⟩ := a.ex
  refine RepI.p (st := ρ.st) (fo := ρ.fo) (fun a ha => (st.fl a ha).1) h1 (fun x hx => ?_) fun x hx z => ?_
  · rcases List.mem_append.mp hx with q | q
    · exact List.mem_append_left _ q
    · exact List.mem_append_right _ (List.mem_append_right _ q)
  · rcases List.mem_append.mp z with q | q
    · exact (h2.fl x (List.mem_append_left _ hx)).2 q
    · exact (h4 x hx).2 q
theorem kps_rel : ∀ {rs : List RV} {vs : List V} {ps : List PV}, Paired (RepP K G ρ H) rs vs → kps rs = some ps → Reps K G ρ.W H ps vs
  | _, _, _, .nil, e => by cases e; exact .nil
  | r :: rs, _, ps, .cons h t, e => by
    simp only [kps] at e
    split at e
    · rename_i p qs e1 e2
      cases e
      exact .cons (h.kp e1) (kps_rel t e2)
    · cases e
theorem rds_rel (st : RelSt K G ρ μ H) : ∀ {rs : List RV} {vs : List V} {ps : List PV}, Paired (RepP K G ρ H) rs vs → rds μ rs = some ps → Rrs K G ρ.W H ps vs
  | _, _, _, .nil, e => by cases e; exact .nil
  | r :: rs, _, ps, .cons h t, e => by
    simp only [rds] at e
    split at e
    · rename_i p qs e1 e2
      cases e
      exact .cons (st.read h e1) (rds_rel st t e2)
    · cases e
theorem argL_rel : ∀ {rs : List RV} {vs : List V}, Paired (RepP K G ρ H) rs vs → Paired (fun r v => ∃ r', argL r = some r' ∧ RepL K G ρ H r' v) rs vs
  | _, _, .nil => .nil
  | _, _, .cons h t => .cons h.argL (argL_rel t)
theorem RepI.ext {st st' W W' : List Addr} {H' : Hp} (f : Frame W H H') (w : ∀ a ∈ W', a ∈ W ∨ H a = none) (hs : ∀ (n : Nat) a, st[n]? = some a → st'[n]? = some a) : ∀ {rs : List RV} {vs : List V} {as : List Addr}, RepI K G st W H rs vs as → (∀ a ∈ as, ∀ o, H a = some o → H' a = some o) → RepI K G st' W' H' rs vs as
  | _, _, _, .nil, _ => .nil
  | _, _, _, .v h t, k => .v (h.ext f w) (RepI.ext f w hs t k)
  | _, _, _, .loc h t, k => .loc (hs _ _ h) (RepI.ext f w hs t k)
  | _, _, _, .new h r t, k => .new ⟨k _ (List.mem_cons_self ..) _ h.1, h.2⟩ (r.ext f w) (RepI.ext f w hs t fun a ha => k a (List.mem_cons_of_mem _ ha))
theorem RepI.mem {st W : List Addr} : ∀ {rs : List RV} {vs : List V} {as : List Addr}, RepI K G st W H rs vs as → ∀ a ∈ as, ∃ o, H a = some o
  | _, _, _, .nil, a, h => by simp at h
  | _, _, _, .v _ t, a, h => RepI.mem t a h
  | _, _, _, .loc _ t, a, h => RepI.mem t a h
  | _, _, _, .new h r t, a, ha => by
    rcases List.mem_cons.mp ha with z | z
    · subst z; exact ⟨_, h.1⟩
    · exact RepI.mem t a z
/-- a container of the store is rewritten -/
theorem pair_mk {α β : Type} {F : α → β → Prop} : ∀ {xs : List α} {ys : List β}, xs.length = ys.length → (∀ (i : Nat) x y, xs[i]? = some x → ys[i]? = some y → F x y) → Paired F xs ys
  | [], [], _, _ => .nil
  | [], _ :: _, h, _ => by simp at h
  | _ :: _, [], h, _ => by simp at h
  | x :: xs, y :: ys, h, f => .cons (f 0 x y rfl rfl) (pair_mk (by simpa using h) fun i a b h1 h2 => f (i + 1) a b (by simpa using h1) (by simpa using h2))
theorem st_upd (st : RelSt K G ρ μ H) {n : Nat} {a : Addr} {p : PV} {o o0 : HO} (h : ρ.st[n]? = some a) (h0 : H a = some o0) (hf0 : isF o0 = false) (r : Con K G ρ.W H p o) : Ext ρ H ρ (upd H a o) ∧ RelSt K G ρ (μ.set n p) (upd H a o) := by
  have hm : a ∈ ρ.st := List.mem_of_getElem? h
  have x : Ext ρ H ρ (upd H a o) := by
    refine ⟨⟨[], by simp, by simp⟩, rfl, fun b o e hb => ?_, fun b e => ?_⟩
    · rw [upd_ne (fun z => hb.elim (fun hb => hb (by rw [z]; exact hm)) fun hf => by
        rw [z, h0] at e
        cases e
        rw [hf0] at hf
        cases hf)]
      exact e
    · by_cases hb : b = a
      · subst hb; rw [upd_same]; simp
      · rw [upd_ne hb]; exact e
  refine ⟨x, st.nd, pair_mk (by rw [List.length_set]; exact st.length) fun i b p h1 h2 => ?_, fun b hb => ⟨x.dom b (st.fl b hb).1, (st.fl b hb).2⟩⟩
  by_cases hi : i = n
  · subst hi
    rw [h] at h1
    cases h1
    rw [List.getElem?_set_self (by rw [← st.length]; exact (List.getElem?_eq_some_iff.mp h).1)] at h2
    cases h2
    exact ⟨_, upd_same, r.ext x.frW x.mem⟩
  · rw [List.getElem?_set_ne (Ne.symm hi)] at h2
    obtain ⟨q, u, e1, e2, e3⟩ := st.at_ h1
    rw [h2] at e1
    cases e1
    have hb : b ≠ a := fun z => by
      subst z
      exact hi ((List.getElem_inj (h₀ := (List.getElem?_eq_some_iff.mp h1).1) (h₁ := (List.getElem?_eq_some_iff.mp h).1) st.nd).mp (by rw [(List.getElem?_eq_some_iff.mp h1).2, (List.getElem?_eq_some_iff.mp h).2]))
    exact ⟨_, by rw [upd_ne hb]; exact e2, e3.ext x.frW x.mem⟩
/-- a container kept apart is laid in the store -/
theorem st_new {st fo : List Addr} {a : Addr} {p : PV} {o : HO} (s : RelSt K G ⟨st, a :: fo⟩ μ H) (h : H a = some o) (r : Con K G (⟨st, a :: fo⟩ : Pr).W H p o) (hn : a ∉ fo) : RelSt K G ⟨st ++ [a], fo⟩ (μ ++ [p]) H := by
  have w : ∀ x ∈ (⟨st ++ [a], fo⟩ : Pr).W, x ∈ (⟨st, a :: fo⟩ : Pr).W := fun x hx => by
    simp only [Pr.W, List.mem_append, List.mem_cons, List.mem_singleton] at hx ⊢
    rcases hx with (hx | hx) | hx
    · exact .inl hx
    · exact .inr (.inl (by simpa using hx))
    · exact .inr (.inr hx)
  have ha := s.fl a (List.mem_cons_self ..)
  have hl : st.length = μ.length := s.length
  refine ⟨?_, pair_mk (by rw [List.length_append, List.length_append, hl]; rfl) fun i b p h1 h2 => ?_, fun b hb => ⟨(s.fl b (List.mem_cons_of_mem _ hb)).1, fun z => ?_⟩⟩
  · exact List.nodup_append.mpr ⟨s.nd, by simp, fun x hx y hy => by
      have : y = a := by simpa using hy
      rw [this]
      intro z
      exact ha.2 (z ▸ hx)⟩
  · by_cases hi : i < st.length
    · rw [List.getElem?_append_left hi] at h1
      rw [List.getElem?_append_left (by rw [← hl]; exact hi)] at h2
      obtain ⟨q, u, e1, e2, e3⟩ := s.at_ (n := i) h1
      rw [h2] at e1
      cases e1
      exact ⟨_, e2, e3.sub w⟩
    · rw [List.getElem?_append_right (by omega)] at h1
      rw [List.getElem?_append_right (by rw [← hl]; omega)] at h2
      have hz : i - st.length = 0 := by
        cases q : i - st.length with
        | zero => rfl
        | succ m => rw [q] at h1; simp at h1
      rw [hz] at h1
      rw [← hl, hz] at h2
      cases h1
      cases h2
      exact ⟨_, h, r.sub w⟩
  · rcases List.mem_append.mp z with z | z
    · exact (s.fl b (List.mem_cons_of_mem _ hb)).2 z
    · have : b = a := by simpa using z
      subst this
      exact hn hb
end

section
variable {X : Cx} {G : GE} {C : Cxt} {gl : Gl}
theorem a_nil : PA X [] (tA X.K G C .nil) := by
  refine pa_nil.imp fun σ H Q h => ?_
  obtain ⟨ρ, μ, ls, rs, μ', st, rl, e, k⟩ := h
  simp only [evs] at e
  cases e
  exact k ρ H [] (Ext.refl _ _) st ⟨[], .nil, st, List.nodup_nil, by simp⟩
theorem a_cons {e : Expr} {es : List Expr} {e' as : E} (hs : starB e = false) (he : PE X e (tE X.K G C e')) (ha : PA X es (tA X.K G C as)) : PA X (e :: es) (tA X.K G C (.cons e' as)) := by
  refine (pa_cons he ha (star_ok hs es X.env)).imp fun σ H Q h => ?_
  obtain ⟨ρ, μ, ls, rs, μ', st, rl, e, k⟩ := h
  simp only [evs] at e
  obtain ⟨r, μ1, e1, f1⟩ := bind_eq e
  obtain ⟨rs', μ2, e2, f2⟩ := bind_eq f1
  cases f2
  refine ⟨ρ, μ, ls, r, μ1, st, rl, e1, fun ρ1 H1 v x1 s1 r1 => ?_⟩
  cases r with
  | v p =>
    refine ⟨ρ1, μ1, ls, rs', _, s1, x1.relL rl, e2, fun ρ2 H2 vs x2 s2 r2 => ?_⟩
    obtain ⟨as, h1, h2, h3, h4⟩ := r2.ex
    refine k ρ2 H2 (v :: vs) (x1.trans x2) s2 ⟨as, .v ?_ h1, h2, h3, fun a ha => ⟨x1.free (h4 a ha).1, (h4 a ha).2⟩⟩
    have r1' : Rep X.K G ρ1.W H1 p v := r1
    refine r1'.ext x2.frW fun a ha => ?_
    rcases List.mem_append.mp ha with z | z
    · exact x2.mem a (List.mem_append_left _ z)
    · rcases List.mem_append.mp z with z | z
      · exact .inr (h4 a z).1
      · exact x2.mem a (List.mem_append_right _ z)
  | loc n =>
    obtain ⟨a, ha, rfl⟩ := r1
    refine ⟨ρ1, μ1, ls, rs', _, s1, x1.relL rl, e2, fun ρ2 H2 vs x2 s2 r2 => ?_⟩
    obtain ⟨as, h1, h2, h3, h4⟩ := r2.ex
    exact k ρ2 H2 (.ref a :: vs) (x1.trans x2) s2 ⟨as, .loc (x2.get ha) h1, h2, h3, fun b hb => ⟨x1.free (h4 b hb).1, (h4 b hb).2⟩⟩
  | new p =>
    obtain ⟨a, o, rfl, g1, g2, g3, g3f, g4, g5⟩ := r1
    have x1a : Ext ρ1 H1 (ρ1.add a) H1 → True := fun _ => trivial
    have rl1 : RelL X.K G (ρ1.add a) H1 ls σ := Paired.mapP rl fun o w h q hq => by
      obtain ⟨u, e5, e6⟩ := h q hq
      refine ⟨u, e5, ?_⟩
      cases q with
      | v p =>
        have e6' : Rep X.K G ρ.W H p u := e6
        exact e6'.ext x1.frW fun b hb => (mem_add hb).elim (fun z => .inr (z ▸ g1)) (x1.mem b)
      | loc n =>
        obtain ⟨b, e7, e8⟩ := e6
        exact ⟨b, x1.get e7, e8⟩
      | new p => exact e6
    refine ⟨ρ1.add a, μ1, ls, rs', _, g5, rl1, e2, fun ρ2 H2 vs x2 s2 r2 => ?_⟩
    obtain ⟨as, h1, h2, h3, h4⟩ := r2.ex
    have f2 : ρ2.fo = a :: ρ1.fo := x2.fo
    have ha1 : a ∈ (ρ1.add a).W := List.mem_append_right _ (List.mem_cons_self ..)
    have hlive : H1 a ≠ none := by rw [g3]; simp
    have hst : a ∉ ρ1.st := fun z => g2 (List.mem_append_left _ z)
    have hH2 : H2 a = some o := x2.frame a _ g3 (.inl hst)
    have xx : Ext ρ1 H1 ⟨ρ2.st, ρ1.fo⟩ H2 := ⟨x2.more, rfl, x2.frame, x2.dom⟩
    have wsub : ∀ b ∈ (⟨ρ2.st, (a :: as) ++ ρ1.fo⟩ : Pr).W, b ∈ (⟨ρ2.st, as ++ ρ2.fo⟩ : Pr).W := fun b hb => by
      rw [f2]
      simp only [Pr.W, List.mem_append, List.mem_cons] at hb ⊢
      rcases hb with hb | ((hb | hb) | hb)
      · exact .inl hb
      · exact .inr (.inr (.inl hb))
      · exact .inr (.inl hb)
      · exact .inr (.inr (.inr hb))
    have w2 : ∀ b ∈ (⟨ρ2.st, (a :: as) ++ ρ1.fo⟩ : Pr).W, b ∈ (ρ1.add a).W ∨ H1 b = none := fun b hb => by
      rcases List.mem_append.mp (wsub b hb) with z | z
      · exact x2.mem b (List.mem_append_left _ z)
      · rcases List.mem_append.mp z with z | z
        · exact .inr (h4 b z).1
        · exact x2.mem b (List.mem_append_right _ z)
    refine k ⟨ρ2.st, ρ1.fo⟩ H2 (.ref a :: vs) (x1.trans xx) (s2.drop (ρ := ρ2) fun b hb => by rw [f2]; exact List.mem_cons_of_mem _ hb) ⟨a :: as, .new ⟨hH2, g3f⟩ (g4.ext x2.frW w2) ?_, ?_, ?_, ?_⟩
    · refine RepI.ext (H := H2) (fun _ _ e _ => e) (fun b hb => .inl (wsub b hb)) (fun _ _ h => h) h1 fun b _ ys h => h
    · exact h2.drop (ρ := ⟨ρ2.st, as ++ ρ2.fo⟩) fun b hb => by
        rw [f2]
        simp only [List.mem_append, List.mem_cons] at hb ⊢
        rcases hb with (hb | hb) | hb
        · exact .inr (.inl hb)
        · exact .inl hb
        · exact .inr (.inr hb)
    · refine List.nodup_cons.mpr ⟨fun z => (h4 a z).2 (by rw [f2]; exact List.mem_cons_self ..), h3⟩
    · intro b hb
      rcases List.mem_cons.mp hb with z | z
      · subst z
        exact ⟨g1, fun q => g2 (List.mem_append_right _ q)⟩
      · exact ⟨x1.free (h4 b z).1, fun q => (h4 b z).2 (by rw [f2]; exact List.mem_cons_of_mem _ q)⟩
theorem chkA_ok {f : Expr → E → Bool} (hf : ∀ e e', f e e' = true → PE X e (tE X.K G C e')) : ∀ {es : List Expr} {as : E}, chkA f es as = true → PA X es (tA X.K G C as)
  | [], .nil, _ => a_nil
  | e :: es, .cons a as, h => by
    simp only [chkA, Bool.and_eq_true, Bool.not_eq_true'] at h
    exact a_cons h.1.1 (hf _ _ h.1.2) (chkA_ok hf h.2)
theorem s_tup {es : List Expr} {as : E} {k : Nat} {pos : Pos} (ha : PA X es (tA X.K G C as)) : PE X (.Tuple es k pos) (tE X.K G C (.tup as)) := by
  refine (pe_tup ha).imp fun σ H Q h => ?_
  obtain ⟨ρ, μ, ls, r, μ', st, rl, e, k⟩ := h
  simp only [ev] at e
  obtain ⟨rs, μ1, e1, f1⟩ := bind_eq e
  unfold tupR at f1
  split at f1
  · rename_i ps e2
    split at f1
    · rename_i hz
      cases f1
      refine ⟨ρ, μ, ls, rs, _, st, rl, e1, fun ρ1 H1 vs x1 s1 r1 => ?_⟩
      have rp := kps_rel (r1.p s1) e2
      exact ⟨by rw [← rp.length, ← sz_eq]; exact hz, (fin_of s1 x1 k).tup s1 rp⟩
    · cases f1
  · cases f1
theorem s_lst {es : List Expr} {as : E} {pos : Pos} (ha : PA X es (tA X.K G C as)) : PE X (.List es pos) (tE X.K G C (.lst as)) := by
  refine (pe_lst ha).imp fun σ H Q h => ?_
  obtain ⟨ρ, μ, ls, r, μ', st, rl, e, k⟩ := h
  simp only [ev] at e
  obtain ⟨rs, μ1, e1, f1⟩ := bind_eq e
  unfold lstR at f1
  split at f1
  · rename_i ps e2
    split at f1
    · rename_i hz
      cases f1
      refine ⟨ρ, μ, ls, rs, _, st, rl, e1, fun ρ1 H1 vs x1 s1 r1 => ?_⟩
      have rp := kps_rel (r1.p s1) e2
      exact ⟨by rw [← rp.length, ← sz_eq]; exact hz, (fin_of s1 x1 k).new s1 rp⟩
    · cases f1
  · cases f1
theorem s_dnew {pos : Pos} : PE X (.Dict [] [] pos) (tE X.K G C .dnew) := by
  refine pe_dnewK.imp fun σ H Q h => ?_
  obtain ⟨ρ, μ, ls, r, μ', st, rl, e, k⟩ := h
  simp only [ev] at e
  cases e
  exact (fin_of st (Ext.refl _ _) k).newD st
/-! slices -/
theorem o_none : PO X none (tOp' X.K G C .nil) := by
  refine po_none.imp fun σ H Q h => ?_
  obtain ⟨ρ, μ, ls, rs, μ', st, rl, e, k⟩ := h
  simp only [evo] at e
  cases e
  exact k ρ H (Ext.refl _ _) st
theorem o_some {e : Expr} {a as : E} (he : PE X e (tE X.K G C a)) : PO X (some e) (tOp' X.K G C (.cons a as)) := by
  refine (po_some he).imp fun σ H Q h => ?_
  obtain ⟨ρ, μ, ls, rs, μ', st, rl, e, k⟩ := h
  simp only [evo] at e
  obtain ⟨r, μ1, e1, f1⟩ := bind_eq e
  obtain ⟨f2, rfl⟩ := opt_eq f1
  obtain ⟨i, f3, rfl⟩ := Option.map_eq_some_iff.mp f2
  have := toI_eq f3
  subst this
  exact ⟨ρ, μ, ls, _, _, st, rl, e1, fun ρ1 H1 v x1 s1 r1 => ⟨i, int_of r1, k ρ1 H1 x1 s1⟩⟩
theorem chkO_ok {f : Expr → E → Bool} (hf : ∀ e e', f e e' = true → PE X e (tE X.K G C e')) : ∀ {es : Option Expr} {as : E}, chkO f es as = true → PO X es (tOp' X.K G C as)
  | none, .nil, _ => o_none
  | some e, .cons a .nil, h => o_some (hf _ _ h)
theorem s_slc {a : Expr} {lo hi : Option Expr} {a' lo' hi' : E} {p2 pos : Pos} (ha : PE X a (tE X.K G C a')) (hl : PO X lo (tOp' X.K G C lo')) (hh : PO X hi (tOp' X.K G C hi')) : PE X (.Subscript a (.Slice lo hi none p2) pos) (tE X.K G C (.slc a' lo' hi')) := by
  refine (pe_slice (slc_ok (G := G)) ha hl hh).imp fun σ H Q h => ?_
  obtain ⟨ρ, μ, ls, r, μ', st, rl, e, k⟩ := h
  simp only [ev] at e
  obtain ⟨x, μ1, e1, f1⟩ := bind_eq e
  obtain ⟨l, μ2, e2, f2⟩ := bind_eq f1
  obtain ⟨h, μ3, e3, f3⟩ := bind_eq f2
  obtain ⟨p, h1, h2, rfl⟩ := opt1_eq f3
  refine ⟨ρ, μ, ls, x, μ1, st, rl, e1, fun ρ1 H1 vx x1 st1 rx => ?_⟩
  refine ⟨ρ1, μ1, ls, l, μ2, st1, x1.relL rl, e2, fun ρ2 H2 x2 st2 => ?_⟩
  refine ⟨ρ2, μ2, ls, h, _, st2, (x1.trans x2).relL rl, e3, fun ρ3 H3 x3 st3 => ?_⟩
  exact ⟨ρ3, _, p, r, st3, st3.read ((x2.trans x3).repP rx.p) h1, h2, fin_of st3 ((x1.trans x2).trans x3) k⟩
theorem rev_txt (a : List Nat) (u : Tok) : Txt.sliceBy (⟨a.toArray⟩ : Str) none none (-1, u) = ⟨a.reverse.toArray⟩ := by
  have h := PyProof.Rows.step_rev_list (⟨a.toArray⟩ : Str) u
  have e2 : ((List.range (⟨a.toArray⟩ : Str).length).map fun k => (⟨a.toArray⟩ : Str).cps.getD ((⟨a.toArray⟩ : Str).length - 1 - k) 0) = a.reverse := by
    rw [S_len']
    apply List.ext_getElem
    · simp
    · intro i h1 h2
      simp only [List.length_map, List.length_range] at h1
      have h3 : a.length - 1 - i < a.length := by omega
      simp [Array.getD, h3]
  rw [e2] at h
  cases q : Txt.sliceBy (⟨a.toArray⟩ : Str) none none (-1, u) with
  | mk c =>
    rw [q] at h
    have : c = a.reverse.toArray := by
      have h' : c.toList = a.reverse := h
      rw [← h']
    rw [this]
section
open PyProof.Rows HT
theorem fm_congr {α β : Type} {f g : α → Option β} : ∀ (l : List α), (∀ x ∈ l, f x = g x) → l.filterMap f = l.filterMap g
  | [], _ => rfl
  | x :: l, h => by
    rw [List.filterMap_cons, List.filterMap_cons, h x (List.mem_cons_self ..), fm_congr l fun y hy => h y (List.mem_cons_of_mem _ hy)]
/-- t[::-1] of a tuple: always a new one -/
theorem getItem_tuple_rev {prog : Program} {w : World} {A : Around} {E : Value → Shared → Prop} {s : Shared} {t sl : Addr} {items : Array Value} {vl vu vs : Value} {Q : Value → Shared → Prop} (ht : PyProof.Rows.IsTup s.heap t items) (hs : s.heap.IsSliceOf sl vl vu vs) (pl : IsPart vl none) (pu : IsPart vu none) (ps : IsPart vs (some (-1)))
    (h : Q (.ref s.heap.objs.size) { s with heap := s.heap.push { cls := .type "tuple", data := .seq items.toList.reverse.toArray } }) (hsz : items.size ≤ sizeLine) : wpAny (model prog w) A (getItem (.ref t) (.ref sl)) Q E s := by
  obtain ⟨os, hos, hcs, hds⟩ := id hs
  have hTs : s.TypeIs (.ref sl) "slice" := ⟨os, hos, hcs⟩
  have hap : ∀ {A : Around} {E : Value → Shared → Prop} {Q : Int × Int × Nat → Shared → Prop}, Q ((items.size : Int) - 1, -1, items.size) s → wpAny (model prog w) A (Builtin.Slice.sliceApplied (.ref sl) (pure (items.size : Int))) Q E s := fun {A E Q} hq => by
    unfold Builtin.Slice.sliceApplied Builtin.Slice.sliceFields
    refine wpAny_bind (wpAny_bind (wpAny_field hos hds (x := vl) rfl (wpAny_bind (wpAny_field hos hds (x := vu) rfl (wpAny_bind (wpAny_field hos hds (x := vs) rfl (wpAny_pure ?_)))))))
    refine wpAny_bind (HT.slicePart_ ps ?_)
    show wpAny _ _ (if ((-1 : Int) == 0) = true then _ else _) _ _ s
    rw [if_neg (by decide)]
    refine wpAny_bind (HT.slicePart_ pl (wpAny_bind (HT.slicePart_ pu (wpAny_bind (wpAny_pure ?_)))))
    have e1 : Builtin.Slice.sliceAdjust none none (-1) (items.size : Int) = ((items.size : Int) - 1, -1) := by unfold Builtin.Slice.sliceAdjust; simp
    have e2 : Builtin.Slice.slicePlaces ((items.size : Int) - 1) (-1) (-1) = items.size := by
      unfold Builtin.Slice.slicePlaces
      rw [if_neg (by decide)]
      split
      · rw [show (-(-1) : Int) = 1 by decide, Int.ediv_one]; omega
      · omega
    show wpAny _ _ (match Builtin.Slice.sliceAdjust none none (-1) (items.size : Int) with | (lo, hi) => pure (lo, (-1 : Int), Builtin.Slice.slicePlaces lo hi (-1))) _ _ s
    rw [e1]
    show wpAny _ _ (pure ((items.size : Int) - 1, (-1 : Int), Builtin.Slice.slicePlaces ((items.size : Int) - 1) (-1) (-1))) _ _ s
    rw [e2]
    exact wpAny_pure hq
  have hpick : ((List.range items.size).filterMap fun (k : Nat) => items[(((items.size : Int) - 1) + (k : Int) * (-1)).toNat]?).toArray = items.toList.reverse.toArray := by
    have e1 : (List.range items.size).filterMap (fun (k : Nat) => items[(((items.size : Int) - 1) + (k : Int) * (-1)).toNat]?) = ((List.range items.size).map fun k => items.size - 1 - k).filterMap (items[·]?) := by
      rw [List.filterMap_map]
      refine fm_congr _ fun k hk => ?_
      have hk := List.mem_range.mp hk
      have : (((items.size : Int) - 1) + (k : Int) * (-1)).toNat = items.size - 1 - k := by omega
      rw [this]
      rfl
    rw [e1, PySem.W.krv_range, List.filterMap_reverse, PySem.W.krv_all]
  unfold getItem
  try with_reducible refine wpAny_holding ?_
  first | refine wpAny_bind (wpAny_pure ?_) | skip
  refine wpAny_bind (wpAny_sequenceKey ht.typeIs (by decide) ?_)
  refine wpAny_bind (wpAny_callSpecial?_slot (name := Str.ofString "__getitem__") ht.typeIs PyProof.Rows.slot_tuple_getitem
    (wpAny_call_entry PyProof.Rows.slot_tuple_getitem ht.typeIs entry_tuple_getitem ?_ (args_tuple_getitem _ _)))
  show wpAny _ _ (Builtin.Tuple.tupleItemsOf (.ref t) >>= _) _ _ s
  refine wpAny_bind (tupleItemsOf_ ht (wpAny_bind (wpAny_typeOf hTs ?_)))
  rw [if_pos (by decide)]
  refine wpAny_bind (hap ?_)
  have hno : ¬ ((((items.size : Int) - 1) == 0 && (-1 : Int) == 1 && items.size == items.size) = true) := by simp
  show wpAny _ _ (if (((items.size : Int) - 1) == 0 && (-1 : Int) == 1 && items.size == items.size) = true then _ else _) _ _ s
  rw [if_neg hno, hpick]
  have hk : sizeOk (.seq items.toList.reverse.toArray) := by
    show items.toList.reverse.toArray.size ≤ sizeLine
    simpa using hsz
  first
    | exact wpAny_bind (m := Builtin.Tuple.tupleExact _) (wpAny_newObj_type (wpAny_pure ⟨_, rfl, wpAny_pure h⟩) hk)
    | exact wpAny_bind (m := Builtin.Tuple.tupleExact _) (wpAny_newObj_type (wpAny_bind (wpAny_pure (wpAny_pure ⟨_, rfl, wpAny_pure h⟩))) hk)
    | exact wpAny_bind (wpAny_bind (m := Builtin.Tuple.tupleExact _) (wpAny_newObj_type (wpAny_pure (wpAny_pure ⟨_, rfl, wpAny_pure h⟩)) hk))
    | exact wpAny_bind (wpAny_bind (m := Builtin.Tuple.tupleExact _) (wpAny_newObj_type (wpAny_pure ⟨_, rfl, wpAny_pure h⟩) hk))
end
theorem s_rvs {a : Expr} {a' : E} {k : Nat} {p1 p2 p3 pos : Pos} (ha : PE X a (tE X.K G C a')) : PE X (.Subscript a (.Slice none none (some (.UnaryOp .USub (.Constant (.int 1) k p1) p2)) p3) pos) (tE X.K G C (.rvs a')) := by
  refine ⟨fun pins s σ H Q I h => ?_⟩
  obtain ⟨ρ, μ, ls, r, μ', st, rl, e, kk⟩ := h
  simp only [ev] at e
  obtain ⟨x, μ1, e1, f1⟩ := bind_eq e
  obtain ⟨p, h1, h2, rfl⟩ := opt1_eq f1
  refine PyProof.Rows.Subscript_ (thn (ha.run pins s σ H (fun vx H1 => ∃ ρ1, Ext ρ H ρ1 H1 ∧ RelSt X.K G ρ1 μ' H1 ∧ RepP X.K G ρ1 H1 x vx) I ⟨ρ, μ, ls, x, _, st, rl, e1, fun ρ1 H1 vx x1 st1 rx => ⟨ρ1, x1, st1, rx.p⟩⟩) fun v s1 ⟨vx, H1, I1, r1, ρ1, x1, st1, rx⟩ => ?_)
  have rr := st1.read rx h1
  have hst : PO X (some (.UnaryOp .USub (.Constant (.int 1) k p1) p2)) (tPart (tUn (rU fun i => .int (-i)) (tC (.int 1)))) := po_some (pe_un un_neg pe_int)
  refine wpAny_Slice (thn (po_none.run pins s1 σ H1 (fun o H2 => o = none ∧ H2 = H1) I1 ⟨rfl, rfl⟩) fun vl s2 ⟨l, H2, I2, pl, el, e2⟩ => ?_)
  subst el e2
  refine thn (po_none.run pins s2 σ H2 (fun o H3 => o = none ∧ H3 = H2) I2 ⟨rfl, rfl⟩) fun vu s3 ⟨u, H3, I3, pu, eu, e3⟩ => ?_
  subst eu e3
  refine thn (hst.run pins s3 σ H3 (fun o H4 => o = some (-1) ∧ H4 = H3) I3 ⟨1, rfl, -1, rfl, rfl, rfl⟩) fun vs s4 ⟨o, H4, I4, ps, eo, e4⟩ => ?_
  subst eo e4
  have I5 : Inv X pins σ H4 { s4 with heap := s4.heap.push { cls := .type "slice", data := .fields #[vl, vu, vs] } } := I4.kept (t' := s4.toks) fun b ob q => Heap.get?_push_of_some _ q
  have fn := fin_of st1 x1 kk
  cases rr with
  | lst hx rp =>
    rename_i a0 xs qs
    cases (show some (RV.new (.lst qs.reverse)) = some r from h2)
    cases (show v = Value.ref a0 from r1)
    obtain ⟨its, r, ht, hz⟩ := I5.list (.inl (.inl hx))
    have hlen := r.length
    show wpAny (model X.prog X.w) X.A (PyProof.Rows.subscriptTail a (.Slice none none (some (.UnaryOp .USub (.Constant (.int 1) k p1) p2)) p3) (.ref a0) (.ref s4.heap.objs.size)) (EP X pins σ Q) X.xe { s4 with heap := s4.heap.push { cls := .type "slice", data := .fields #[vl, vu, vs] } }
    refine PyProof.Rows.tail_any (ops := [.ref a0, .ref s4.heap.objs.size]) ht.isList.typeIs (PySem.slot_list_getitem.lookup) ?_ (by with_unfolding_all rfl)
    refine wpAny_getItem_list_slice ht.isList (Heap.IsSliceOf.new _ vl vu vs) pl pu ps (by decide) ?_ (by rw [List.size_toArray]; omega)
    rw [PySem.W.krv_pick]
    refine ⟨.ref _, _, I5.laid (t' := s4.toks) (o := .lst xs.reverse) (fun b ob q => Heap.get?_push_of_some _ q) (Nat.le_refl _) ?_, rfl, fn.new st1 rp.reverse _ (I5.hok.fresh (Nat.le_refl _))⟩
    exact ⟨by rw [List.length_reverse]; exact hz, _, 0, r.reverse, Heap.get?_push_size _ rfl⟩
  | tup hx rp wa =>
    rename_i a0 xs qs
    cases (show some (RV.v (.tup qs.reverse)) = some r from h2)
    cases (show v = Value.ref a0 from r1)
    obtain ⟨its, r, ht, hz⟩ := I5.tuple hx
    show wpAny (model X.prog X.w) X.A (PyProof.Rows.subscriptTail a (.Slice none none (some (.UnaryOp .USub (.Constant (.int 1) k p1) p2)) p3) (.ref a0) (.ref s4.heap.objs.size)) (EP X pins σ Q) X.xe { s4 with heap := s4.heap.push { cls := .type "slice", data := .fields #[vl, vu, vs] } }
    refine PyProof.Rows.tail_any (ops := [.ref a0, .ref s4.heap.objs.size]) ht.typeIs (PyProof.Rows.slot_tuple_getitem.lookup) ?_ (by with_unfolding_all rfl)
    refine getItem_tuple_rev ht (Heap.IsSliceOf.new _ vl vu vs) pl pu ps ?_ (by rw [List.size_toArray, ← r.length]; exact hz)
    refine ⟨.ref _, _, I5.laid (t' := s4.toks) (o := .tup xs.reverse) (fun b ob q => Heap.get?_push_of_some _ q) (Nat.le_refl _) ?_, rfl, fn.tup st1 rp.reverse _ (I5.hok.fresh (Nat.le_refl _))⟩
    exact ⟨by rw [List.length_reverse]; exact hz, _, r.reverse, ⟨_, Heap.get?_push_size _ rfl, rfl, _, rfl⟩⟩
  | str z =>
    have h3 : (if z.length ≤ SZ then some (RV.v (.str z.reverse)) else none) = some r := h2
    split at h3
    · rename_i hz
      cases h3
      obtain ⟨t, rfl⟩ := r1
      obtain ⟨l', e5, e6⟩ := IsPart.raw pl
      obtain ⟨u', e7, e8⟩ := IsPart.raw pu
      obtain ⟨o', e9, e10⟩ := IsPart.raw ps
      cases l' with
      | some l' => cases e6
      | none =>
        cases u' with
        | some u' => cases e8
        | none =>
          cases o' with
          | none => cases e10
          | some o' =>
            obtain ⟨oi, ot⟩ := o'
            cases e10
            subst e5 e7 e9
            refine PyProof.Rows.tail_any (ops := [.str _ t, .ref s4.heap.objs.size]) (typeIs_str _ _ _) F.slot_str_getitem.lookup ?_ (by with_unfolding_all rfl)
            refine wpAny_getItem_str_slice (l := none) (u := none) (st := some (-1, ot)) ⟨_, Heap.get?_push_size _ rfl, rfl, rfl⟩ rfl ?_
            have e11 := rev_txt z ot
            have fq := fn.val (v := .str _) (.str z.reverse)
            refine ⟨?_, .str _, H4, I5.tok _, ⟨_, congrArg (fun q => Value.str q _) e11⟩, fq⟩
            show (Txt.sliceBy (⟨z.toArray⟩ : Str) none none (-1, ot)).length ≤ sizeLine
            rw [e11, S_len', List.length_reverse, ← sz_eq]
            exact hz
    · cases h3
  | _ => simp [rvs] at h2
end
end Z

set_option maxHeartbeats 4000000
/-! Z over the hand layer: calls, methods, what is walked, comprehensions. -/
namespace Z
open PySem PySem.Spec L2

section
variable {X : Cx} {G : GE} {C : Cxt} {gl : Gl}
theorem s_call (ok : OkX X G C gl) {f : Nat} {x : Str} {p pos : Pos} {es : List Expr} {as : E} (hg : glB X.env.scope x = true) (hf : gl.fn.lookup x = some f) (hn : nmB x = true) (hs : ∀ e ∈ es, starB e = false) (h0 : es = [] → as = .nil) (ha : PA X es (tA X.K G C as)) :
    PE X (.Call (.Name x p) es [] pos) (tE X.K G C (.call f as)) := by
  obtain ⟨n1, n2, n3⟩ := nmB_ok hn
  obtain ⟨k, fd, ps, hr, hm, hk, hb, F⟩ := ok.fn x f hf
  have fin : ∀ σ H Q, tE X.K G C (.call f as) σ H Q → tCall (spF X.K G C.call f) [] E0 (tA X.K G C as) σ H Q := fun σ H Q h => by
    obtain ⟨ρ, μ, ls, r, μ', st, rl, e, k⟩ := h
    simp only [ev] at e
    obtain ⟨rs, μ1, e1, f1⟩ := bind_eq e
    refine ⟨ρ, μ, ls, rs, μ1, st, rl, e1, fun ρ1 H1 vs x1 s1 r1 => ?_⟩
    show spF X.K G C.call f (vs ++ []) H1 Q E0
    rw [List.append_nil]
    exact ⟨ρ1, μ1, rs, r, μ', s1, argL_rel (r1.p s1), f1, fun H' v x2 s2 r2 => k ρ1 H' v (x1.trans x2) s2 (r2.back x1)⟩
  cases es with
  | nil =>
    refine (pe_callG0 F hr ok.gd (glB_ok hg) hm hk hb pass0 n1).imp fun σ H Q h => ?_
    have q := fin σ H Q h
    obtain ⟨ρ, μ, ls, rs, μ', st, rl, e, k⟩ := q
    rw [h0 rfl] at e
    simp only [evs] at e
    cases e
    exact k ρ H [] (Ext.refl _ _) st ⟨[], .nil, st, List.nodup_nil, by simp⟩
  | cons e es => exact (pe_callG F hr ok.gd (glB_ok hg) hm hk hb pass0 ha n1 (star_ok (hs e (List.mem_cons_self ..)) es X.env) (star_all (fun y hy => hs y (List.mem_cons_of_mem _ hy)) X.env pos)).imp fin
/-! built-in functions -/
theorem bi_fin {f : Bi} {as : E} : ∀ σ H Q, tE X.K G C (.bi f as) σ H Q → tCB (rBi X.K G f) (tA X.K G C as) σ H Q := fun σ H Q h => by
  obtain ⟨ρ, μ, ls, r, μ', st, rl, e, k⟩ := h
  simp only [ev] at e
  obtain ⟨rs, μ1, e1, f1⟩ := bind_eq e
  unfold biR at f1
  split at f1
  · rename_i ps e2
    obtain ⟨e3, rfl⟩ := opt_eq f1
    exact ⟨ρ, μ, ls, rs, _, st, rl, e1, fun ρ1 H1 vs x1 s1 r1 => ⟨ρ1, _, ps, r, s1, rds_rel s1 (r1.p s1) e2, e3, fin_of s1 x1 k⟩⟩
  · cases f1
theorem s_biF {f : Bi} {x : Str} {id : String} {p pos : Pos} {e : Expr} {es : List Expr} {as : E} (hc : CallR X (.builtin id) (rBi X.K G f)) (hv : bootBuiltins x = some (.builtin id)) (hg : L2.Gl X x) (hm : X.mg x = none) (hd : (x == ("__debug__" : Str)) = false) (hn : x ≠ ("__name__" : Str))
    (hs : ∀ y ∈ e :: es, starB y = false) (ha : PA X (e :: es) (tA X.K G C as)) : PE X (.Call (.Name x p) (e :: es) [] pos) (tE X.K G C (.bi f as)) :=
  (pe_callB hc hg hm hv ha hn hd (star_ok (hs e (List.mem_cons_self ..)) es X.env) (star_all (fun y hy => hs y (List.mem_cons_of_mem _ hy)) X.env pos)).imp bi_fin
theorem s_biT {f : Bi} {x : Str} {id : String} {p pos : Pos} {e : Expr} {es : List Expr} {as : E} (hc : CallR X (.type id) (rBi X.K G f)) (hv : bootBuiltins x = some (.type id)) (hg : L2.Gl X x) (hm : X.mg x = none) (hd : (x == ("__debug__" : Str)) = false) (hn : x ≠ ("__name__" : Str))
    (hs : ∀ y ∈ e :: es, starB y = false) (ha : PA X (e :: es) (tA X.K G C as)) : PE X (.Call (.Name x p) (e :: es) [] pos) (tE X.K G C (.bi f as)) :=
  (pe_callTy hc hg hm hv ha hn hd (star_ok (hs e (List.mem_cons_self ..)) es X.env) (star_all (fun y hy => hs y (List.mem_cons_of_mem _ hy)) X.env pos)).imp bi_fin
theorem s_bi (ok : OkX X G C gl) {f : Bi} {s : String} {b : Bool} (h : biN f = some (s, b)) (hrp : f = .repr → gl.gd = true) {p pos : Pos} {e : Expr} {es : List Expr} {as : E} (hg : L2.Gl X (Str.ofString s)) (hm : X.mg (Str.ofString s) = none) (hd : (Str.ofString s == ("__debug__" : Str)) = false) (hn : Str.ofString s ≠ ("__name__" : Str))
    (hs : ∀ y ∈ e :: es, starB y = false) (ha : PA X (e :: es) (tA X.K G C as)) : PE X (.Call (.Name (Str.ofString s) p) (e :: es) [] pos) (tE X.K G C (.bi f as)) := by
  cases f with
  | len => cases h; exact s_biF len_ok boot_len hg hm hd hn hs ha
  | all => cases h; exact s_biF (all_ok ok.calm) PyProof.Rows.boot_all hg hm hd hn hs ha
  | any => cases h; exact s_biF (any_ok ok.calm) PyProof.Rows.boot_any hg hm hd hn hs ha
  | sum => cases h; exact s_biF (sum_ok ok.calm) PyProof.Rows.boot_sum hg hm hd hn hs ha
  | min1 => cases h; exact s_biF (min1_ok ok.calm) PyProof.Rows.boot_min hg hm hd hn hs ha
  | max1 => cases h; exact s_biF (max1_ok ok.calm) PyProof.Rows.boot_max hg hm hd hn hs ha
  | min2 => cases h; exact s_biF (min2_ok ok.calm) PyProof.Rows.boot_min hg hm hd hn hs ha
  | max2 => cases h; exact s_biF (max2_ok ok.calm) PyProof.Rows.boot_max hg hm hd hn hs ha
  | abs => cases h; exact s_biF abs_ok PyProof.Rows.boot_abs hg hm hd hn hs ha
  | int => cases h; exact s_biT int_ok PyProof.Rows.boot_int hg hm hd hn hs ha
  | str => cases h; exact s_biT str_ok PyProof.Rows.boot_str hg hm hd hn hs ha
  | tuple => cases h; exact s_biT tuple_ok PyProof.Rows.boot_tuple hg hm hd hn hs ha
  | list => cases h; exact s_biT (list_ok ok.calm) PyProof.Rows.boot_list hg hm hd hn hs ha
  | dict => cases h; exact s_biT (dict_ok ok.calm) PyProof.Rows.boot_dict hg hm hd hn hs ha
  | sorted => cases h; exact s_biF (sorted_ok ok.calm) PyProof.Rows.boot_sorted hg hm hd hn hs ha
  | repr => cases h; exact s_biF (repr_ok (ok.gd (hrp rfl)) ok.un) PyProof.Rows.boot_repr hg hm hd hn hs ha
  | _ => simp [biN] at h
theorem boot_tyN : ∀ (t : Ty), (∀ c, t ≠ .cls c) → bootBuiltins (Str.ofString (tyN t)) = some (.type (tyN t))
  | .int, _ => PyProof.Rows.boot_int
  | .bool, _ => by decide +kernel
  | .str, _ => PyProof.Rows.boot_str
  | .tup, _ => PyProof.Rows.boot_tuple
  | .lst, _ => PyProof.Rows.boot_list
  | .cls c, h => absurd rfl (h c)
theorem s_isi {t : Ty} (ht : ∀ c, t ≠ .cls c) {p p2 pos : Pos} {a : Expr} {a' : E} (hg : L2.Gl X "isinstance") (hm : X.mg "isinstance" = none) (hg2 : L2.Gl X (Str.ofString (tyN t))) (hm2 : X.mg (Str.ofString (tyN t)) = none)
    (hd2 : (Str.ofString (tyN t) == ("__debug__" : Str)) = false) (hn2 : Str.ofString (tyN t) ≠ ("__name__" : Str)) (hs : starB a = false) (ha : PE X a (tE X.K G C a')) :
    PE X (.Call (.Name "isinstance" p) [a, .Name (Str.ofString (tyN t)) p2] [] pos) (tE X.K G C (.bi (.isi t) (.cons a' .nil))) := by
  have hty : PE X (.Name (Str.ofString (tyN t)) p2) (tC (.ty (tyN t))) := pe_bltn hg2 hm2 (boot_tyN t ht) rfl hn2 hd2
  refine (pe_callB (isi_ok (G := G) t ht) hg hm PyProof.Rows.boot_isinstance (pa_cons ha (pa_cons hty pa_nil) (star_ok hs _ X.env)) (by decide) (by decide) (star_ok hs _ X.env) (by rfl)).imp fun σ H Q h => ?_
  obtain ⟨ρ, μ, ls, r, μ', st, rl, e, k⟩ := h
  simp only [ev, evs] at e
  obtain ⟨rs, μ1, e1, f1⟩ := bind_eq e
  obtain ⟨x, μ2, e2, f2⟩ := bind_eq e1
  cases f2
  unfold biR at f1
  simp only [rds] at f1
  split at f1
  · rename_i ps e3
    split at e3
    · rename_i p qs e4 e5
      cases e5
      cases e3
      obtain ⟨e6, rfl⟩ := opt_eq f1
      refine ⟨ρ, μ, ls, x, _, st, rl, e2, fun ρ1 H1 v x1 s1 r1 => ?_⟩
      exact ⟨ρ1, _, p, v, r, rfl, s1, s1.read r1.p e4, e6, fin_of s1 x1 k⟩
    · cases e3
  · cases f1

/-! methods -/
def rMu (K : PySem.W.Frag) (G : GE) (m : Me) : V → List V → Hp → VK → Prop := fun x xs H Q => ∃ ρ : Pr, ∃ μ n a p ps r p', RelSt K G ρ μ H ∧ ρ.st[n]? = some a ∧ x = .ref a ∧ μ[n]? = some p ∧ Reps K G ρ.W H ps xs ∧ me m p ps = some (r, p') ∧
  ∀ H' v, Ext ρ H ρ H' → RelSt K G ρ (μ.set n p') H' → RepR K G H ρ (μ.set n p') H' r v → Q v H'
theorem append_ok : MtR X "list.append" (rMu X.K G .append) := by
  rintro pins s σ H x xs v us Q I rx rs ⟨ρ, μ, n, a, p, ps, r, p', st, hn, rfl, hp, hr, e, k⟩
  obtain ⟨qs, u, e1, e2, e3⟩ := st.at_ hn
  rw [hp] at e1
  cases e1
  cases hr with
  | nil => cases e3 <;> simp [me] at e
  | cons h1 t =>
    cases t with
    | cons h2 t => cases e3 <;> simp [me] at e
    | nil =>
      cases e3 with
      | dct _ => simp [me] at e
      | dcf _ => simp [me] at e
      | lst e3 =>
      simp only [me] at e
      split at e
      · rename_i hz
        cases e
        have hx := st_upd st hn e2 rfl (.lst (e3.append (.cons h1 .nil)))
        exact mt_append pins s σ H _ _ v us Q I rx rs ⟨a, _, _, rfl, rfl, e2, by rw [← e3.length, ← sz_eq]; exact hz, k _ _ hx.1 hx.2 .non⟩
      · cases e
theorem pop1_ok : MtR X "list.pop" (rMu X.K G .pop1) := by
  rintro pins s σ H x xs v us Q I rx rs ⟨ρ, μ, n, a, p, ps, r, p', st, hn, rfl, hp, hr, e, k⟩
  obtain ⟨qs, u, e1, e2, e3⟩ := st.at_ hn
  rw [hp] at e1
  cases e1
  cases e3 with
  | dct _ => simp [me] at e
  | dcf _ => simp [me] at e
  | lst e3 =>
  rename_i qs ys
  cases hr with
  | nil => simp [me] at e
  | cons h1 t =>
    cases t with
    | cons h2 t => cases h1 <;> simp [me] at e
    | nil =>
      cases h1 with
      | int i =>
        simp only [me] at e
        split at e
        · rename_i j hj
          split at e
          · rename_i y hy
            cases e
            obtain ⟨w, hw, rw⟩ := e3.get hy
            have hj' : L2.ixN ys.length i = some j := by rw [← e3.length]; exact hj
            obtain ⟨q1, q2, q3, q4⟩ := ixN_seq hj'
            have hl : ys.length ≤ sizeLine := (I.hok a _ e2).1
            rw [sizeLine_eq] at hl
            have hx := st_upd st hn e2 rfl (.lst (e3.eraseIdx j))
            exact mt_popAt pins s σ H _ _ v us Q I rx rs ⟨a, ys, i, j, w, rfl, rfl, e2, by omega, by omega, q1, hw, k _ _ hx.1 hx.2 (hx.1.rep rw)⟩
          · cases e
        · cases e
      | _ => simp [me] at e
theorem name_base {o : Expr} {env : Env} {m : Str} (h : (match o with | .Name .. => true | .Constant .. => true | _ => false) = true) : attributeBase o m env (eval o env) = eval o env := by
  cases o <;> first | rfl | (simp at h)
theorem few_ok {e : Expr} {es : List Expr} (hs : ∀ y ∈ e :: es, starB y = false) (hl : (e :: es).length < 30) (env : Env) (pos : Pos) :
    ((backTo pos (starEach (e :: es) env)).all (fun x => !x.1) && (backToKw pos (keywordEach [] env)).all (fun x => x.1.isSome) && decide ((e :: es).length + ([] : List Keyword).length + (if ([] : List Keyword).isEmpty then 0 else 1) < 30)) = true := by
  rw [star_few hs env pos]
  have : (e :: es).length + ([] : List Keyword).length + (if ([] : List Keyword).isEmpty then 0 else 1) < 30 := by
    have h0 : ([] : List Keyword).isEmpty = true := rfl
    rw [h0]
    simp only [List.length_nil, if_true]
    omega
  rw [decide_eq_true this]
  rfl
theorem s_mut {m : Me} {s id : String} (hm : MtR X id (rMu X.K G m)) (slot : Slot "list" (Str.ofString s) id) (hty : typeOf (.builtin id) = pure (.type "method_descriptor")) (hc : m.chg = true) {o e : Expr} {es : List Expr} {o' as : E} {ap p : Pos}
    (hb : (match o with | .Name .. => true | .Constant .. => true | _ => false) = true) (hl : (ap.endLine == p.line) = true) (hf : (e :: es).length < 30) (hs : ∀ y ∈ e :: es, starB y = false) (ho : PE X o (tE X.K G C o')) (ha : PA X (e :: es) (tA X.K G C as)) :
    PE X (.Call (.Attribute o (Str.ofString s) ap) (e :: es) [] p) (tE X.K G C (.me m o' as)) := by
  refine (pe_bm PySem.F.plainAttrs_list slot hty hm ho ha (name_base hb) (few_ok hs hf X.env p) hl (star_ok (hs e (List.mem_cons_self ..)) es X.env) (star_all (fun y hy => hs y (List.mem_cons_of_mem _ hy)) X.env p)).imp fun σ H Q h => ?_
  obtain ⟨ρ, μ, ls, r, μ', st, rl, e, k⟩ := h
  simp only [ev] at e
  obtain ⟨x, μ1, e1, f1⟩ := bind_eq e
  have mk : meK m x μ1 = true := by
    cases h : meK m x μ1 with
    | true => rfl
    | false => rw [h, iteB_f] at f1; cases f1
  rw [mk, iteB_t] at f1
  obtain ⟨rs, μ2, e2, f2⟩ := bind_eq f1
  unfold meR at f2
  split at f2
  · rename_i n ps e3
    split at f2
    · rename_i pp e4
      split at f2
      · rename_i r0 p' e5
        rw [if_pos hc] at f2
        split at f2
        · rename_i qs e6
          cases f2
          have e7 : qs = ps := by
            have : ∀ (l : List RV) (ps qs : List PV), rds μ2 l = some ps → kps l = some qs → qs = ps := by
              intro l
              induction l with
              | nil => intro ps qs h1 h2; cases h1; cases h2; rfl
              | cons a l ih =>
                intro ps qs h1 h2
                simp only [rds, kps] at h1 h2
                split at h1
                · rename_i p1 p2 h3 h4
                  split at h2
                  · rename_i q1 q2 h5 h6
                    cases h1
                    cases h2
                    rw [ih _ _ h4 h6]
                    cases a with
                    | v z => cases h3; cases h5; rfl
                    | new z => cases h3; cases h5; rfl
                    | loc z => cases h5
                  · cases h2
                · cases h1
            exact this rs ps qs e3 e6
          subst e7
          refine ⟨ρ, μ, ls, _, μ1, st, rl, e1, fun ρ1 H1 v x1 s1 r1 => ?_⟩
          obtain ⟨a, ha1, rfl⟩ := r1
          have ml : ∃ zs, μ1[n]? = some (.lst zs) := by
            unfold meK at mk
            simp only at mk
            split at mk
            · exact ⟨_, by assumption⟩
            · rw [hc] at mk; cases mk
            · rw [hc] at mk; cases mk
            · cases mk
          obtain ⟨zs, hz⟩ := ml
          obtain ⟨ys, ha2, _⟩ := s1.atL ha1 hz
          refine ⟨.inl ⟨rfl, ys, .inl (.inl ha2)⟩, ρ1, μ1, ls, rs, μ2, s1, x1.relL rl, e2, fun ρ2 H2 vs x2 s2 r2 => ?_⟩
          exact ⟨ρ2, μ2, n, a, pp, qs, r, p', s2, x2.get ha1, rfl, e4, kps_rel (r2.p s2) e6, e5, fun H' w x3 s3 r3 => k ρ2 H' w ((x1.trans x2).trans x3) s3 (r3.back (x1.trans x2))⟩
        · cases f2
      · cases f2
    · cases f2
  · rename_i pp ps e3
    rw [if_pos hc] at f2
    cases f2
  · cases f2
theorem s_join {o e : Expr} {es : List Expr} {o' as : E} {ap p : Pos}
    (hb : (match o with | .Name .. => true | .Constant .. => true | _ => false) = true) (hl : (ap.endLine == p.line) = true) (hf : (e :: es).length < 30) (hs : ∀ y ∈ e :: es, starB y = false) (ho : PE X o (tE X.K G C o')) (ha : PA X (e :: es) (tA X.K G C as)) :
    PE X (.Call (.Attribute o "join" ap) (e :: es) [] p) (tE X.K G C (.me .join o' as)) := by
  refine (pe_bm PySem.F.plainAttrs_str PySem.F.slot_str_join PySem.F.type_str_join (join_ok (G := G)) ho ha (name_base hb) (few_ok hs hf X.env p) hl (star_ok (hs e (List.mem_cons_self ..)) es X.env) (star_all (fun y hy => hs y (List.mem_cons_of_mem _ hy)) X.env p)).imp fun σ H Q h => ?_
  obtain ⟨ρ, μ, ls, r, μ', st, rl, e, k⟩ := h
  simp only [ev] at e
  obtain ⟨x, μ1, e1, f1⟩ := bind_eq e
  have mk : meK .join x μ1 = true := by
    cases h : meK .join x μ1 with
    | true => rfl
    | false => rw [h, iteB_f] at f1; cases f1
  rw [mk, iteB_t] at f1
  obtain ⟨rs, μ2, e2, f2⟩ := bind_eq f1
  have isS : ∀ {pp : PV} {ps : List PV} {z : RV × PV}, me .join pp ps = some z → ∃ sep, pp = .str sep := fun {pp ps z} h => by
    cases pp <;> first | exact ⟨_, rfl⟩ | (simp [me] at h)
  unfold meR at f2
  split at f2
  · rename_i n ps e3
    split at f2
    · rename_i pp e4
      split at f2
      · rename_i r0 p' e5
        rw [if_neg (by decide)] at f2
        cases f2
      · cases f2
    · cases f2
  · rename_i pp ps e3
    rw [if_neg (by decide)] at f2
    split at f2
    · rename_i r0 p' e5
      simp only [keepA] at f2
      cases f2
      obtain ⟨sep, rfl⟩ := isS e5
      refine ⟨ρ, μ, ls, _, μ1, st, rl, e1, fun ρ1 H1 v x1 s1 r1 => ?_⟩
      have r1' : Rep X.K G ρ1.W H1 (.str sep) v := r1
      cases r1'
      refine ⟨rfl, ρ1, μ1, ls, rs, _, s1, x1.relL rl, e2, fun ρ2 H2 vs x2 s2 r2 => ?_⟩
      exact ⟨ρ2, _, .str sep, ps, r, p', s2, .str sep, rds_rel s2 (r2.p s2) e3, e5, fin_of s2 (x1.trans x2) k⟩
    · cases f2
  · cases f2
/-! d.get(k), d.get(k, x) -/
theorem get_rel {K : PySem.W.Frag} {W : List Addr} {H : Hp} {ks : List (PV × PV)} {ds : List (Key × V)} {k p : PV} {q : Key} {w : V} (hk : KeyR k q) (d : RepD K G W H ks ds) (rp : Rep K G W H p w) : Rep K G W H ((dget ks k).getD p) ((valV ds q).getD w) := by
  cases e : dget ks k with
  | none => rw [d.nope hk e]; exact rp
  | some z =>
    obtain ⟨v, h1, h2⟩ := d.get hk e
    rw [h1]
    exact h2
/-- the dict of a receiver: at once, and later -/
theorem recv_dict {m : Me} {x : RV} {μ1 : Sto} {ρ1 : Pr} {H1 : Hp} {v : V} (hm : m.chg = false) (hn : ∀ p, x ≠ .new p) (hv : ∀ p, x = .v p → ∃ ks, p = .dct ks) (mk : meK m x μ1 = true) (s1 : RelSt X.K G ρ1 μ1 H1) (r1 : RepP X.K G ρ1 H1 x v) :
    ∃ a, v = .ref a ∧ IsD H1 a ∧ ∀ {ρ2 : Pr} {μ2 : Sto} {H2 : Hp} {p : PV}, Ext ρ1 H1 ρ2 H2 → RelSt X.K G ρ2 μ2 H2 → rd μ2 x = some p → (∃ ks, (p = .dct ks ∨ p = .dcf ks) → True) ∧ ∀ ks, (p = .dct ks ∨ p = .dcf ks) → ∃ ds, Rd H2 a (.dK ds) ∧ RepD X.K G ρ2.W H2 ks ds := by
  cases x with
  | new p => exact absurd rfl (hn p)
  | v p =>
    obtain ⟨ks, rfl⟩ := hv p rfl
    have r0 : Rep X.K G ρ1.W H1 (.dct ks) v := r1
    have r0' := r0
    cases r0 with
    | dct hd hnW rd =>
      refine ⟨_, rfl, .inl ⟨_, hd⟩, fun {ρ2 μ2 H2 p} x2 s2 e => ⟨⟨ks, fun _ => trivial⟩, fun ks' h => ?_⟩⟩
      cases e
      have r2 : Rep X.K G ρ2.W H2 (.dct ks) _ := x2.rep r0'
      rcases h with h | h
      · cases h
        cases r2 with
        | dct hd2 _ rd2 => exact ⟨_, hd2, rd2⟩
      · cases h
  | loc n =>
    obtain ⟨a, ha, rfl⟩ := r1
    refine ⟨a, rfl, ?_, fun {ρ2 μ2 H2 p} x2 s2 e => ⟨⟨[], fun _ => trivial⟩, fun ks' h => ?_⟩⟩
    · unfold meK at mk
      simp only at mk
      split at mk
      · rw [hm] at mk; cases mk
      · obtain ⟨ds, h1, _⟩ := s1.atD ha (by assumption)
        exact .inl ⟨ds, .inl h1⟩
      · obtain ⟨ds, o, h1, _⟩ := s1.atF ha (by assumption)
        exact .inl ⟨ds, .inr ⟨o, h1⟩⟩
      · cases mk
    · have e' : μ2[n]? = some p := e
      rcases h with h | h
      · subst h
        obtain ⟨ds, h1, h2⟩ := s2.atD (x2.get ha) e'
        exact ⟨ds, .inl h1, h2⟩
      · subst h
        obtain ⟨ds, o, h1, h2⟩ := s2.atF (x2.get ha) e'
        exact ⟨ds, .inr ⟨o, h1⟩, h2⟩
theorem me_get1 {p : PV} {ps : List PV} {r p' : _} (h : me .get1 p ps = some (r, p')) : ∃ ks k, (p = .dct ks ∨ p = .dcf ks) ∧ ps = [k] ∧ isK k = true ∧ r = .v ((dget ks k).getD .non) := by
  unfold me at h
  split at h <;> first | (cases ‹Me.get1 = _›; done) | skip
  · rename_i ks k _
    obtain ⟨r', h1, h2⟩ := Option.map_eq_some_iff.mp h
    unfold meG at h1
    split at h1
    · cases h1; cases h2
      exact ⟨ks, k, .inl rfl, rfl, by assumption, rfl⟩
    · cases h1
  · rename_i ks k _
    obtain ⟨r', h1, h2⟩ := Option.map_eq_some_iff.mp h
    unfold meG at h1
    split at h1
    · cases h1; cases h2
      exact ⟨ks, k, .inr rfl, rfl, by assumption, rfl⟩
    · cases h1
  · cases h
theorem me_get2 {p : PV} {ps : List PV} {r p' : _} (h : me .get2 p ps = some (r, p')) : ∃ ks k d, (p = .dct ks ∨ p = .dcf ks) ∧ ps = [k, d] ∧ isK k = true ∧ r = .v ((dget ks k).getD d) := by
  unfold me at h
  split at h <;> first | (cases ‹Me.get2 = _›; done) | skip
  · rename_i ks k d _
    obtain ⟨r', h1, h2⟩ := Option.map_eq_some_iff.mp h
    unfold meG at h1
    split at h1
    · cases h1; cases h2
      exact ⟨ks, k, d, .inl rfl, rfl, by assumption, rfl⟩
    · cases h1
  · rename_i ks k d _
    obtain ⟨r', h1, h2⟩ := Option.map_eq_some_iff.mp h
    unfold meG at h1
    split at h1
    · cases h1; cases h2
      exact ⟨ks, k, d, .inr rfl, rfl, by assumption, rfl⟩
    · cases h1
  · cases h
/-- a get's end: the value, the receiver, the arguments that may be kept -/
theorem get_end {m : Me} (hm : m = .get1 ∨ m = .get2) {x : RV} {rs : List RV} {r : RV} {μ2 μ' : Sto} (h : meR m x rs μ2 = .ok r μ') : μ' = μ2 ∧ (∀ p, x ≠ .new p) ∧ ∃ p ps z, rd μ2 x = some p ∧ kps rs = some ps ∧ me m p ps = some (r, z) := by
  have kr : ∀ {l : List RV} {ps qs : List PV}, rds μ2 l = some ps → kps l = some qs → qs = ps := by
    intro l
    induction l with
    | nil => intro ps qs h1 h2; cases h1; cases h2; rfl
    | cons a l ih =>
      intro ps qs h1 h2
      simp only [rds, kps] at h1 h2
      split at h1
      · rename_i p1 p2 h3 h4
        split at h2
        · rename_i q1 q2 h5 h6
          cases h1
          cases h2
          rw [ih h4 h6]
          cases a with
          | v z => cases h3; cases h5; rfl
          | new z => cases h3; cases h5; rfl
          | loc z => cases h5
        · cases h2
      · cases h1
  have hc : m.chg = false := by rcases hm with rfl | rfl <;> rfl
  unfold meR at h
  split at h
  · rename_i n ps e1
    split at h
    · rename_i p e2
      split at h
      · rename_i r0 p' e3
        rw [hc] at h
        simp only [Bool.false_eq_true, if_false] at h
        have h' : (match kps rs with | some _ => (R.ok r0 μ2 : R RV) | none => .no) = .ok r μ' := by
          rcases hm with rfl | rfl <;> exact h
        clear h
        split at h'
        · rename_i qs e4
          cases h'
          cases kr e1 e4
          exact ⟨rfl, (fun p z => by cases z), p, _, p', e2, e4, e3⟩
        · cases h'
      · cases h
    · cases h
  · rename_i p ps e1
    rw [hc] at h
    simp only [Bool.false_eq_true, if_false] at h
    split at h
    · rename_i r0 p' e3
      have h' : (match kps rs with | some _ => (R.ok r0 μ2 : R RV) | none => .no) = .ok r μ' := by
        rcases hm with rfl | rfl <;> exact h
      split at h'
      · rename_i qs e4
        cases h'
        cases kr e1 e4
        exact ⟨rfl, (fun p z => by cases z), p, _, p', rfl, e4, e3⟩
      · cases h'
    · cases h
  · cases h
theorem s_get1 (ok : OkX X G C gl) {o e : Expr} {o' a' : E} {ap p : Pos} (hb : (match o with | .Name .. => true | .Constant .. => true | _ => false) = true) (hl : (ap.endLine == p.line) = true) (hs : starB e = false) (ho : PE X o (tE X.K G C o')) (ha : PE X e (tE X.K G C a')) :
    PE X (.Call (.Attribute o "get" ap) [e] [] p) (tE X.K G C (.me .get1 o' (.cons a' .nil))) := by
  have hst : ∀ y ∈ [e], starB y = false := fun y hy => by
    have : y = e := by simpa using hy
    rw [this]; exact hs
  refine (pe_dget1 (by have := ok.un; omega) ho ha ⟨name_base hb, few_ok hst (by simp) X.env p, hl, by rw [star_ok hs]; rfl⟩).imp fun σ H Q h => ?_
  obtain ⟨ρ, μ, ls, r, μ', st, rl, e0, k⟩ := h
  simp only [ev] at e0
  obtain ⟨x, μ1, e1, f1⟩ := bind_eq e0
  have mk : meK .get1 x μ1 = true := by
    cases h : meK .get1 x μ1 with
    | true => rfl
    | false => rw [h, iteB_f] at f1; cases f1
  rw [mk, iteB_t] at f1
  obtain ⟨rs, μ2, e2, f2⟩ := bind_eq f1
  simp only [evs] at e2
  obtain ⟨y, μ3, e3, f3⟩ := bind_eq e2
  cases f3
  obtain ⟨rfl, hnew, pp, ps, z, h1, h2, h3⟩ := get_end (.inl rfl) f2
  obtain ⟨ks, kk, hp, rfl, hk, rfl⟩ := me_get1 h3
  refine ⟨ρ, μ, ls, x, μ1, st, rl, e1, fun ρ1 H1 v x1 s1 r1 => ?_⟩
  obtain ⟨a, rfl, isd, later⟩ := recv_dict (m := .get1) rfl hnew (fun q hq => by
    subst hq
    cases h1
    rcases hp with rfl | rfl
    · exact ⟨_, rfl⟩
    · have rr : Rep X.K G ρ1.W H1 (.dcf ks) v := r1.p
      cases rr) mk s1 r1.p
  refine ⟨a, rfl, isd, ρ1, μ1, ls, y, _, s1, x1.relL rl, e3, fun ρ2 H2 w x2 s2 r2 => ?_⟩
  obtain ⟨ds, g1, g2⟩ := (later x2 s2 h1).2 ks hp
  have hkp : kp y = some kk := by
    simp only [kps] at h2
    split at h2
    · rename_i p1 p2 h5 h6
      cases h6
      cases h2
      exact h5
    · cases h2
  have rk : Rep X.K G ρ2.W H2 kk w := r2.p.kp hkp
  obtain ⟨q, hq, rfl⟩ := KeyR.of hk rk.rr
  exact ⟨valV ds q, .inl ⟨ds, q, g1, rfl, rfl⟩, (fin_of s2 (x1.trans x2) k).val (get_rel hq g2 .non)⟩
theorem s_get2 (ok : OkX X G C gl) {o e f : Expr} {o' a' b' : E} {ap p : Pos} (hb : (match o with | .Name .. => true | .Constant .. => true | _ => false) = true) (hl : (ap.endLine == p.line) = true) (hs : starB e = false) (hs2 : starB f = false) (ho : PE X o (tE X.K G C o')) (ha : PE X e (tE X.K G C a')) (hf : PE X f (tE X.K G C b')) :
    PE X (.Call (.Attribute o "get" ap) [e, f] [] p) (tE X.K G C (.me .get2 o' (.cons a' (.cons b' .nil)))) := by
  have hst : ∀ y ∈ [e, f], starB y = false := fun y hy => by
    have : y = e ∨ y = f := by simpa using hy
    rcases this with rfl | rfl
    · exact hs
    · exact hs2
  refine (pe_dget2 (by have := ok.un; omega) ho ha hf ⟨name_base hb, few_ok hst (by simp) X.env p, hl, by rw [star_ok hs, star_ok hs2]; rfl⟩).imp fun σ H Q h => ?_
  obtain ⟨ρ, μ, ls, r, μ', st, rl, e0, k⟩ := h
  simp only [ev] at e0
  obtain ⟨x, μ1, e1, f1⟩ := bind_eq e0
  have mk : meK .get2 x μ1 = true := by
    cases h : meK .get2 x μ1 with
    | true => rfl
    | false => rw [h, iteB_f] at f1; cases f1
  rw [mk, iteB_t] at f1
  obtain ⟨rs, μ2, e2, f2⟩ := bind_eq f1
  simp only [evs] at e2
  obtain ⟨y, μ3, e3, f3⟩ := bind_eq e2
  obtain ⟨rs2, μ5, e5, f5⟩ := bind_eq f3
  cases f5
  obtain ⟨w0, μ6, e6, f6⟩ := bind_eq e5
  cases f6
  obtain ⟨rfl, hnew, pp, ps, z, h1, h2, h3⟩ := get_end (.inr rfl) f2
  obtain ⟨ks, kk, dd, hp, rfl, hk, rfl⟩ := me_get2 h3
  refine ⟨ρ, μ, ls, x, μ1, st, rl, e1, fun ρ1 H1 v x1 s1 r1 => ?_⟩
  obtain ⟨a, rfl, isd, later⟩ := recv_dict (m := .get2) rfl hnew (fun q hq => by
    subst hq
    cases h1
    rcases hp with rfl | rfl
    · exact ⟨_, rfl⟩
    · have rr : Rep X.K G ρ1.W H1 (.dcf ks) v := r1.p
      cases rr) mk s1 r1.p
  refine ⟨a, rfl, isd, ρ1, μ1, ls, y, μ3, s1, x1.relL rl, e3, fun ρ2 H2 w x2 s2 r2 => ?_⟩
  refine ⟨ρ2, μ3, ls, w0, _, s2, (x1.trans x2).relL rl, e6, fun ρ3 H3 w3 x3 s3 r3 => ?_⟩
  obtain ⟨ds, g1, g2⟩ := (later (x2.trans x3) s3 h1).2 ks hp
  have hkp : kp y = some kk ∧ kp w0 = some dd := by
    simp only [kps] at h2
    split at h2
    · rename_i p1 p2 h5 h6
      cases h2
      split at h6
      · rename_i p3 p4 h7 h8
        cases h8
        cases h6
        exact ⟨h5, h7⟩
      · cases h6
    · cases h2
  have rk : Rep X.K G ρ3.W H3 kk w := (x3.repP r2.p).kp hkp.1
  obtain ⟨q, hq, rfl⟩ := KeyR.of hk rk.rr
  exact ⟨valV ds q, .inl ⟨ds, q, g1, rfl, rfl⟩, (fin_of s3 ((x1.trans x2).trans x3) k).val (get_rel hq g2 (r3.p.kp hkp.2))⟩
end
end Z

set_option maxHeartbeats 4000000
/-! Z over the hand layer: what is walked, comprehensions. -/
namespace Z
open PySem PySem.Spec L2

structure ExtW (ρ : Pr) (H : Hp) (ρ' : Pr) (H' : Hp) : Prop where
  get : ∀ (n : Nat) a, ρ.st[n]? = some a → ρ'.st[n]? = some a
  mem : ∀ a ∈ ρ'.W, a ∈ ρ.W ∨ H a = none
  frW : Frame ρ.W H H'
theorem ExtW.rep {K : PySem.W.Frag} {G : GE} {ρ ρ₁ : Pr} {H H₁ : Hp} (e : ExtW ρ H ρ₁ H₁) {p : PV} {v : V} (r : Rep K G ρ.W H p v) : Rep K G ρ₁.W H₁ p v := r.ext e.frW e.mem
theorem Ext.w {ρ ρ₁ : Pr} {H H₁ : Hp} (e : Ext ρ H ρ₁ H₁) : ExtW ρ H ρ₁ H₁ := ⟨fun _ _ h => e.get h, e.mem, e.frW⟩
/-- J walks these values, whatever new things are made meanwhile -/
def Wks (K : PySem.W.Frag) (G : GE) (ρ : Pr) (H : Hp) (xs : List PV) (J : It) : Prop := ∀ (ρ2 : Pr) H2, ExtW ρ H ρ2 H2 → (∀ a ∈ ρ2.W, H2 a ≠ none) →
  (∀ i x, xs[i]? = some x → J.go i H2 ∧ ∀ v H3, J.yld i H2 v H3 → Same H2 H3 ∧ Rep K G ρ2.W H3 x v) ∧ ∀ i, xs.length ≤ i → J.stop i H2
theorem live {K : PySem.W.Frag} {G : GE} {ρ : Pr} {μ : Sto} {H : Hp} (s : RelSt K G ρ μ H) : ∀ a ∈ ρ.W, H a ≠ none := fun a ha => by
  rcases List.mem_append.mp ha with h | h
  · obtain ⟨xs, e⟩ := s.mem h
    rw [e]; simp
  · exact (s.fl a h).1
def Wlk (K : PySem.W.Frag) (G : GE) (ρ : Pr) (H : Hp) (rv : RV) (J : It) : Prop := match rv with
  | .loc n => ∃ a, ρ.st[n]? = some a ∧ J = Itl K a
  | .v p => ∀ xs, items p = some xs → Wks K G ρ H xs J
  | .new p => ∀ xs, items p = some xs → Wks K G ρ H xs J
def walkB (μ : Sto) (rv : RV) : Bool := match rv with
  | .loc n => (match μ[n]? with
    | some (.lst _) => true
    | _ => false)
  | .v p => (items p).isSome
  | .new p => (items p).isSome
def tI (K : PySem.W.Frag) (G : GE) (C : Cxt) (e : E) : TI := fun σ H R => ∃ ρ : Pr, ∃ μ ls r μ', RelSt K G ρ μ H ∧ RelL K G ρ H ls σ ∧ ev C e ls μ = .ok r μ' ∧ walkB μ' r = true ∧
  ∀ ρ' H' J, Ext ρ H ρ' H' → RelSt K G ρ' μ' H' → Wlk K G ρ' H' r J → R J H'
theorem _root_.L2.PI.imp {X : Cx} {tg e : Expr} {t t' : TI} (h : PI X tg e t) (i : ∀ σ H Q, t' σ H Q → t σ H Q) : PI X tg e t' := ⟨fun pins s σ H Q I w => h.run pins s σ H Q I (i σ H Q w)⟩

section
variable {K : PySem.W.Frag} {G : GE} {ρ : Pr} {μ : Sto} {H : Hp}
theorem wks_list {a : Addr} {vs : List V} {ps : List PV} (h : H a = some (.lst vs)) (hn : a ∉ ρ.W) (r : Reps K G ρ.W H ps vs) : Wks K G ρ H ps (Itl K a) := fun (ρ2 : Pr) H2 x _ => by
  have h2 : SqL K H2 a vs := .inl (.inl (x.frW _ _ h (.inl hn)))
  refine ⟨fun i p hp => ?_, fun i hi => ⟨vs, h2, by rw [← r.length]; exact hi⟩⟩
  obtain ⟨v, hv, rv⟩ := r.get hp
  refine ⟨⟨vs, v, h2, hv⟩, fun w H3 y => ?_⟩
  obtain ⟨rfl, y⟩ := y
  have := y vs h2
  rw [hv] at this
  cases this
  exact ⟨Same.refl _, x.rep rv⟩
theorem wks_tup {a : Addr} {vs : List V} {ps : List PV} (h : SqT K H a vs) (hn : (∃ o, K.lookup a = some o) ∨ a ∉ ρ.W) (r : Reps K G ρ.W H ps vs) (hs : ∀ (ρ2 : Pr) H2, ExtW ρ H ρ2 H2 → SqT K H2 a vs) : Wks K G ρ H ps (Itt K a) := fun (ρ2 : Pr) H2 x _ => by
  have h2 := hs ρ2 H2 x
  refine ⟨fun i p hp => ?_, fun i hi => ⟨vs, h2, by rw [← r.length]; exact hi⟩⟩
  obtain ⟨v, hv, rv⟩ := r.get hp
  refine ⟨⟨vs, v, h2, hv⟩, fun w H3 y => ?_⟩
  obtain ⟨rfl, y⟩ := y
  have := y vs h2
  rw [hv] at this
  cases this
  exact ⟨Same.refl _, x.rep rv⟩
theorem wks_str {s : List Nat} : Wks K G ρ H (s.map fun c => .str [c]) (Its ⟨s.toArray⟩) := fun (ρ2 : Pr) H2 x _ => by
  refine ⟨fun i p hp => ?_, fun i hi => by
    show (⟨s.toArray⟩ : Str).cps.size ≤ i
    simpa using hi⟩
  rw [List.getElem?_map] at hp
  obtain ⟨c, hc, rfl⟩ := Option.map_eq_some_iff.mp hp
  refine ⟨?_, fun w H3 y => ?_⟩
  · show i < (⟨s.toArray⟩ : Str).cps.size
    have := (List.getElem?_eq_some_iff.mp hc).1
    simpa using this
  · obtain ⟨rfl, c', hc', rfl⟩ := y
    have e : c' = c := by
      have : s[i]? = some c' := by simpa using hc'
      rw [hc] at this
      cases this
      rfl
    subst e
    exact ⟨Same.refl _, .str [c']⟩
theorem wks_rng {i j : Int} {n : Nat} (hn : n = (j - i).toNat) : Wks K G ρ H ((List.range (j - i).toNat).map fun k : Nat => .int (i + (k : Int))) (Itr i n) := fun (ρ2 : Pr) H2 x _ => by
  subst hn
  refine ⟨fun t p hp => ?_, fun t ht => by
    show _ ≤ t
    simpa using ht⟩
  rw [List.getElem?_map] at hp
  obtain ⟨c, hc, rfl⟩ := Option.map_eq_some_iff.mp hp
  obtain ⟨h1, h2⟩ := List.getElem?_eq_some_iff.mp hc
  simp only [List.length_range] at h1
  simp only [List.getElem_range] at h2
  subst h2
  refine ⟨h1, fun w H3 y => ?_⟩
  obtain ⟨rfl, rfl⟩ := y
  exact ⟨Same.refl _, .int _⟩
theorem wks_rngC {i j c : Int} {n : Nat} : Wks K G ρ H ((List.range n).map fun k : Nat => .int (i + (k : Int) * c)) (Itc i c n) := fun (ρ2 : Pr) H2 x _ => by
  refine ⟨fun t p hp => ?_, fun t ht => by
    show _ ≤ t
    simpa using ht⟩
  rw [List.getElem?_map] at hp
  obtain ⟨c, hc, rfl⟩ := Option.map_eq_some_iff.mp hp
  obtain ⟨h1, h2⟩ := List.getElem?_eq_some_iff.mp hc
  simp only [List.length_range] at h1
  simp only [List.getElem_range] at h2
  subst h2
  refine ⟨h1, fun w H3 y => ?_⟩
  obtain ⟨rfl, rfl⟩ := y
  exact ⟨Same.refl _, .int _⟩
end

section
variable {X : Cx} {G : GE} {C : Cxt} {gl : Gl} {tg : Expr}
theorem i_val {e : Expr} {e' : E} (he : PE X e (tE X.K G C e')) : PI X tg e (tI X.K G C e') := by
  refine ⟨fun pins s σ H R I h => ?_⟩
  obtain ⟨ρ, μ, ls, r, μ', st, rl, ee, wb, k⟩ := h
  refine thn (he.run pins s σ H (fun v H1 => ∃ ρ1, Ext ρ H ρ1 H1 ∧ RelSt X.K G ρ1 μ' H1 ∧ RepP X.K G ρ1 H1 r v) I ⟨ρ, μ, ls, r, μ', st, rl, ee, fun ρ1 H1 v x1 s1 r1 => ⟨ρ1, x1, s1, r1.p⟩⟩) fun v s1 ⟨x, H1, I1, rx, ρ1, x1, st1, rr⟩ => ?_
  have lst : ∀ {a : Addr} {vs : List V}, x = .ref a → H1 a = some (.lst vs) → (∀ J, J = Itl X.K a → R J H1) → wpAny (model X.prog X.w) X.A (pyIter v) (PIE X pins σ tg R) X.xe s1 := fun {a vs} ex h1 q => by
    subst ex
    cases (show v = Value.ref a from rx)
    obtain ⟨its, rv, p, hz⟩ := I1.list (.inl (.inl h1))
    refine wpAny_pyIter_list p.isList ?_
    exact pi_one (tk := s1.toks) I1 _ (turn_list a _) ⟨_, Heap.get?_push_size _ rfl, rfl, rfl⟩ (q _ rfl)
  have val : ∀ {p : PV}, Rr X.K G ρ1.W H1 p x → (items p).isSome = true → (∀ J, (∀ xs, items p = some xs → Wks X.K G ρ1 H1 xs J) → R J H1) → (∀ ps, p = .lst ps → ∀ a, x = .ref a → a ∉ ρ1.W) → wpAny (model X.prog X.w) X.A (pyIter v) (PIE X pins σ tg R) X.xe s1 := fun {p} r1 hi q hn => by
    cases r1 with
    | lst ha ra =>
      refine lst rfl ha fun J hJ => ?_
      subst hJ
      exact q _ fun xs hx => by
        cases hx
        exact wks_list ha (hn _ rfl _ rfl) ra
    | tup ha ra wa =>
      rename_i a vs ps
      cases (show v = Value.ref a from rx)
      obtain ⟨its, rv, p, hz⟩ := I1.tuple ha
      refine wpAny_pyIter_tuple (show s1.heap.IsTuple a its.toArray from p) ?_
      refine pi_one (tk := s1.toks) I1 _ (turn_tuple a _) ⟨_, Heap.get?_push_size _ rfl, rfl, rfl⟩ (q _ fun xs hx => ?_)
      cases hx
      have hs : ∀ ρ2 H2, ExtW ρ1 H1 ρ2 H2 → SqT X.K H2 a vs := fun ρ2 H2 x2 => by
        have w2 := x2.rep wa
        cases wa with
        | tup h1 h2 h3 =>
          have : vs = _ := I1.tuple_inj ha (.inl (.inl h1))
          subst this
          exact .inl (.inl (x2.frW _ _ h1 (.inl h2)))
        | tupK h1 h2 h3 h4 h5 h6 =>
          have : vs = _ := I1.tuple_inj ha (.inr ⟨_, _, _, h1, h2, h3, h4, h5⟩)
          subst this
          exact .inr ⟨_, _, _, h1, h2, h3, h4, h5⟩
      exact wks_tup ha (by
        cases wa with
        | tup h1 h2 h3 => exact .inr h2
        | tupK h1 h2 h3 h4 h5 h6 => exact .inl ⟨_, h1⟩) ra hs
    | str z =>
      obtain ⟨t, rfl⟩ := rx
      have q' : R (Its ⟨z.toArray⟩) H1 := q _ fun xs hx => by
        cases hx
        exact wks_str
      cases ha : (⟨z.toArray⟩ : Str).cps.all (· < 128)
      · exact wpAny_pyIter_wide ha (pi_one (tk := s1.toks) I1 _ (turn_str _ _ t "str_iterator" (.inr rfl)) ⟨_, Heap.get?_push_size _ rfl, rfl, rfl⟩ q')
      · exact wpAny_pyIter_ascii ha (pi_one (tk := s1.toks) I1 _ (turn_str _ _ t "str_ascii_iterator" (.inl rfl)) ⟨_, Heap.get?_push_size _ rfl, rfl, rfl⟩ q')
    | _ => simp [items] at hi
  cases r with
  | v p =>
    refine val (Rep.rr rr) wb (fun J hJ => k ρ1 H1 J x1 st1 hJ) fun ps hp a h2 => ?_
    subst h2 hp
    have rr' : Rep X.K G ρ1.W H1 (.lst ps) (.ref a) := rr
    cases rr' with
    | lst _ h3 _ => exact h3
  | new p =>
    have rr0 := rr
    obtain ⟨a, o, rfl, h1, h2, hf, h3⟩ := rr
    refine val (h3.rr h2) wb (fun J hJ => k ρ1 H1 J x1 st1 hJ) fun qs _ b e2 => ?_
    cases e2
    exact h1
  | loc n =>
    obtain ⟨a, ha, rfl⟩ := rr
    have ml : ∃ zs, μ'[n]? = some (.lst zs) := by
      unfold walkB at wb
      simp only at wb
      split at wb
      · exact ⟨_, by assumption⟩
      · cases wb
    obtain ⟨zs, hz⟩ := ml
    obtain ⟨ys, e2, e3⟩ := st1.atL ha hz
    exact lst rfl e2 fun J hJ => k ρ1 H1 J x1 st1 ⟨a, ha, hJ⟩
end
end Z

set_option maxHeartbeats 4000000
/-! Z over the hand layer: targets, comprehensions. -/
namespace Z
open PySem PySem.Spec L2

/-! ### targets -/
def Off (l : List Nat) (σ σ' : L2.St) : Prop := σ'.length = σ.length ∧ ∀ i, i ∉ l → σ'[i]? = σ[i]?
def tG (K : PySem.W.Frag) (G : GE) (tg : Tg) : TG := fun v σ H Q => ∃ (ρ : Pr) (p : PV) (ls ls' : Lcs), Rep K G ρ.W H p v ∧ RelL K G ρ H ls σ ∧ asgT tg p ls = some ls' ∧
  ∀ σ', RelL K G ρ H ls' σ' → Off (tgN tg) σ σ' → Q σ' H
def tGs (K : PySem.W.Frag) (G : GE) (tg : Tg) : TGs := fun vs σ H Q => ∃ (ρ : Pr) (ps : List PV) (ls ls' : Lcs), Reps K G ρ.W H ps vs ∧ RelL K G ρ H ls σ ∧ asgTs tg ps ls = some ls' ∧
  ∀ σ', RelL K G ρ H ls' σ' → Off (tgN tg) σ σ' → Q σ' H
theorem _root_.L2.PG.imp {X : Cx} {tg : Expr} {t t' : TG} (h : PG X tg t) (i : ∀ v σ H Q, t' v σ H Q → t v σ H Q) : PG X tg t' := ⟨fun pins s σ H v u Q I r w => h.run pins s σ H v u Q I r (i v σ H Q w)⟩
theorem _root_.L2.PGs.imp {X : Cx} {tg : List Expr} {t t' : TGs} (h : PGs X tg t) (i : ∀ v σ H Q, t' v σ H Q → t v σ H Q) : PGs X tg t' := ⟨fun pins s σ H v u Q I r w => h.run pins s σ H v u Q I r (i v σ H Q w)⟩
theorem asgEach_ok {e : Expr} (h : starB e = false) (es : List Expr) (env : Env) : assignEach (e :: es) env = (false, assign e env) :: assignEach es env := by
  cases e <;> first | rfl | (simp [starB] at h)
theorem locB_ok {sc : Scope} {x : Str} (h : locB sc x = true) : sc.names.lookup x = some .local := by
  unfold locB at h
  split at h
  · assumption
  · cases h
theorem chkTgs_star {c : CC} : ∀ {n : Nat} {es : List Expr} {tg : Tg}, chkTgs c n es tg = true → (∀ e ∈ es, starB e = false)
  | _, [], _, _, _, h => by cases h
  | 0, e :: es, tg, h, x, hx => by simp [chkTgs] at h
  | n + 1, e :: es, .cons a b, h, x, hx => by
    simp only [chkTgs, Bool.and_eq_true, Bool.not_eq_true'] at h
    rcases List.mem_cons.mp hx with rfl | hx
    · exact h.1.1
    · exact chkTgs_star h.2 x hx
  | n + 1, e :: es, .nm i, h, x, hx => by simp [chkTgs] at h
  | n + 1, e :: es, .nil, h, x, hx => by simp [chkTgs] at h
theorem asgEach_plain {es : List Expr} (h : ∀ e ∈ es, starB e = false) (env : Env) : (assignEach es env).length = es.length ∧ (assignEach es env).findIdx? (·.1) = none := by
  induction es with
  | nil => exact ⟨rfl, rfl⟩
  | cons e es ih =>
    rw [asgEach_ok (h e (List.mem_cons_self ..))]
    obtain ⟨h1, h2⟩ := ih fun x hx => h x (List.mem_cons_of_mem _ hx)
    exact ⟨by simp [h1], by simp [List.findIdx?_cons, h2]⟩
theorem asgTs_len : ∀ {ps : List PV} {tg : Tg} {ls ls' : Lcs} {c : CC} {n : Nat} {es : List Expr}, chkTgs c n es tg = true → asgTs tg ps ls = some ls' → ps.length = es.length
  | [], .nil, _, _, c, n, [], _, _ => rfl
  | [], .nil, _, _, c, n, e :: es, h, _ => by cases n <;> simp [chkTgs] at h
  | p :: ps, .cons a b, _, _, c, n, [], h, _ => by cases n <;> simp [chkTgs] at h
  | p :: ps, .cons a b, ls, ls', c, 0, e :: es, h, _ => by simp [chkTgs] at h
  | p :: ps, .cons a b, ls, ls', c, n + 1, e :: es, h, h2 => by
    simp only [chkTgs, Bool.and_eq_true] at h
    simp only [asgTs] at h2
    split at h2
    · simp [asgTs_len h.2 h2]
    · cases h2
  | [], .cons a b, _, _, _, _, _, _, h2 => by simp [asgTs] at h2
  | p :: ps, .nil, _, _, _, _, _, _, h2 => by simp [asgTs] at h2
  | [], .nm i, _, _, _, _, _, _, h2 => by simp [asgTs] at h2
  | p :: ps, .nm i, _, _, _, _, _, _, h2 => by simp [asgTs] at h2
theorem asgT_tup {tg : Tg} {p : PV} {ls ls' : Lcs} {c : CC} {n : Nat} {es : List Expr} (h : chkTgs c n es tg = true) (h2 : asgT tg p ls = some ls') : ∃ ps, p = .tup ps ∧ asgTs tg ps ls = some ls' := by
  cases tg with
  | nm i => cases n <;> cases es <;> simp [chkTgs] at h
  | nil =>
    cases p with
    | tup ps =>
      cases ps with
      | nil => exact ⟨[], rfl, by simpa [asgT, asgTs] using h2⟩
      | cons a b => simp [asgT] at h2
    | _ => simp [asgT] at h2
  | cons a b =>
    cases p with
    | tup ps => exact ⟨ps, rfl, by simpa [asgT] using h2⟩
    | _ => simp [asgT] at h2
section
variable {X : Cx} {G : GE} {c : CC}
theorem celB_ok {sc : Scope} {x : Str} (h : celB sc x = true) : sc.names.lookup x = some .cell := by
  unfold celB at h
  split at h
  · assumption
  · cases h
theorem stB_ok (hsc : X.env.scope = c.sc) (hf : c.fn = true → ∀ x, X.fn x = true) {x : Str} (h : stB c x = true) : Loc X.env.scope x ∧ (X.fn x = true ∨ X.env.scope.names.lookup x = some .local) := by
  simp only [stB, Bool.or_eq_true, Bool.and_eq_true] at h
  rcases h with h | ⟨h1, h2⟩
  · have := locB_ok h
    rw [← hsc] at this
    exact ⟨.inl this, .inr this⟩
  · have := celB_ok h2
    rw [← hsc] at this
    exact ⟨.inr this, .inl (hf h1 x)⟩
theorem g_both (hc : X.calm = true) (hnd : X.N.Nodup) (hN : X.N = c.N) (hsc : X.env.scope = c.sc) (hf : c.fn = true → ∀ x, X.fn x = true) : ∀ n : Nat, (∀ (e : Expr) (tg : Tg), chkTg c n e tg = true → PG X e (tG X.K G tg)) ∧ (∀ (es : List Expr) (tg : Tg), chkTgs c n es tg = true → PGs X es (tGs X.K G tg)) := by
  have nm : ∀ (n : Nat) (x : Str) (pos : Pos) (i : Nat), chkTg c n (.Name x pos) (.nm i) = true → PG X (.Name x pos) (tG X.K G (.nm i)) := fun n x pos i h => by
    have h' : c.N[i]? = some x ∧ stB c x = true := by
      cases n <;> simpa [chkTg] using h
    have hl := stB_ok hsc hf h'.2
    rw [← hN] at h'
    refine (pg_name hnd h'.1 hl.1 hl.2).imp fun v σ H Q h => ?_
    obtain ⟨ρ, p, ls, ls', r, rl, e, k⟩ := h
    simp only [asgT] at e
    cases e
    refine k _ (rl.set (r := .v p) r i) ⟨by simp, fun j hj => ?_⟩
    rw [List.getElem?_set_ne]
    intro z
    exact hj (by simp [tgN, z])
  have nilG : ∀ tg, (tg = .nil) → PGs X [] (tGs X.K G tg) := fun tg ht => by
    subst ht
    refine pgs_nil.imp fun vs σ H Q h => ?_
    obtain ⟨ρ, ps, ls, ls', r, rl, e, k⟩ := h
    cases r with
    | nil =>
      simp only [asgTs] at e
      cases e
      exact ⟨rfl, k σ rl ⟨rfl, fun _ _ => rfl⟩⟩
    | cons _ _ => simp [asgTs] at e
  intro n
  induction n with
  | zero =>
    refine ⟨fun e tg h => ?_, fun es tg h => ?_⟩
    · cases e <;> cases tg <;> first | exact nm 0 _ _ _ h | (simp [chkTg] at h)
    · cases es with
      | nil =>
        cases tg with
        | nil => exact nilG _ rfl
        | _ => simp [chkTgs] at h
      | cons e es => simp [chkTgs] at h
  | succ n ih =>
    refine ⟨fun e tg h => ?_, fun es tg h => ?_⟩
    · cases e with
      | Name x pos =>
        cases tg with
        | nm i => exact nm (n + 1) _ _ _ h
        | _ => simp [chkTg] at h
      | Tuple es kk pos =>
        have h' : chkTgs c n es tg = true := by simpa [chkTg] using h
        have hs := chkTgs_star h'
        obtain ⟨hl, hf⟩ := asgEach_plain hs X.env
        refine (pg_tup hc (ih.2 es tg h') rfl hf).imp fun v σ H Q q => ?_
        obtain ⟨ρ, p, ls, ls', r, rl, e, k⟩ := q
        obtain ⟨ps, rfl, e2⟩ := asgT_tup h' e
        have hlen := asgTs_len h' e2
        cases r with
        | tup h1 h2 h3 => exact ⟨_, _, rfl, .inl (.inl h1), by rw [← h3.length, hlen, hl], ρ, ps, ls, ls', h3, rl, e2, k⟩
        | tupK h1 h2 h3 h4 h5 h6 => exact ⟨_, _, rfl, .inr ⟨_, _, _, h1, h2, h3, h4, h5⟩, by rw [← h6.length, hlen, hl], ρ, ps, ls, ls', h6, rl, e2, k⟩
      | _ => simp [chkTg] at h
    · cases es with
      | nil =>
        cases tg with
        | nil => exact nilG _ rfl
        | _ => simp [chkTgs] at h
      | cons e es =>
        cases tg with
        | cons a b =>
          simp only [chkTgs, Bool.and_eq_true, Bool.not_eq_true'] at h
          refine (pgs_cons (ih.1 e a h.1.2) (ih.2 es b h.2) (by rw [asgEach_ok h.1.1]; rfl)).imp fun vs σ H Q q => ?_
          obtain ⟨ρ, ps, ls, ls', r, rl, e, k⟩ := q
          cases r with
          | nil => simp [asgTs] at e
          | cons r1 r2 =>
            simp only [asgTs] at e
            split at e
            · rename_i ls1 e1
              refine ⟨_, _, rfl, ρ, _, ls, ls1, r1, rl, e1, fun σ1 rl1 o1 => ?_⟩
              refine ⟨ρ, _, ls1, ls', r2, rl1, e, fun σ2 rl2 o2 => ?_⟩
              refine k σ2 rl2 ⟨o2.1.trans o1.1, fun i hi => ?_⟩
              simp only [tgN, List.mem_append, not_or] at hi
              rw [o2.2 i hi.2, o1.2 i hi.1]
            · cases e
        | _ => simp [chkTgs] at h
end

/-! ### comprehensions -/
section
variable {K : PySem.W.Frag} {G : GE} {ρ : Pr} {μ : Sto} {H : Hp}
theorem RelL.setN : ∀ {ls : Lcs} {σ : L2.St} (i : Nat), RelL K G ρ H ls σ → RelL K G ρ H (ls.set i none) (σ.set i none)
  | _, _, _, .nil => .nil
  | _, _, 0, .cons _ t => .cons (fun q hq => by cases hq) t
  | _, _, i + 1, .cons q t => .cons q (RelL.setN i t)
theorem RelL.wipe {ls : Lcs} {σ : L2.St} (r : RelL K G ρ H ls σ) : ∀ vs : List Nat, RelL K G ρ H (wipeL ls vs) (L2.wipe σ vs)
  | [] => r
  | v :: vs => by
    unfold wipeL L2.wipe
    exact (RelL.wipe r vs).setN v
theorem wipe_get {σ : L2.St} : ∀ {vs : List Nat} {i : Nat}, (L2.wipe σ vs)[i]? = if i ∈ vs ∧ i < σ.length then some none else σ[i]?
  | [], i => by simp [L2.wipe]
  | v :: vs, i => by
    unfold L2.wipe
    have ih := wipe_get (σ := σ) (vs := vs) (i := i)
    by_cases hv : v = i
    · subst hv
      by_cases hl : v < σ.length
      · rw [List.getElem?_set_self (by rw [L2.wipe_length]; exact hl), if_pos ⟨List.mem_cons_self .., hl⟩]
      · rw [if_neg (fun z => hl z.2), List.getElem?_eq_none (by simp [L2.wipe_length]; omega), List.getElem?_eq_none (by omega)]
    · rw [List.getElem?_set_ne hv, ih]
      have : (i ∈ v :: vs) ↔ i ∈ vs := by
        simp only [List.mem_cons]
        exact ⟨fun z => z.elim (fun q => absurd q.symm hv) id, .inr⟩
      simp only [this]
theorem wipe_off {σ σ' : L2.St} {l : List Nat} (o : Off l (L2.wipe σ l) σ') : L2.wipe σ' l = L2.wipe σ l := by
  apply List.ext_getElem?
  intro i
  rw [wipe_get, wipe_get]
  have hl : σ'.length = σ.length := by rw [o.1, L2.wipe_length]
  rw [hl]
  by_cases h : i ∈ l ∧ i < σ.length
  · rw [if_pos h, if_pos h]
  · rw [if_neg h, if_neg h]
    by_cases hi : i ∈ l
    · have : ¬ i < σ.length := fun z => h ⟨hi, z⟩
      rw [List.getElem?_eq_none (by omega), List.getElem?_eq_none (by omega)]
    · rw [o.2 i hi, wipe_get, if_neg fun z => hi z.1]
end
def tCn (K : PySem.W.Frag) (G : GE) (C : Cxt) (e : E) : TT := fun σ H Q => ∃ ρ : Pr, ∃ μ ls b μ', RelSt K G ρ μ H ∧ RelL K G ρ H ls σ ∧ evc C e ls μ = .ok b μ' ∧
  ∀ ρ' H', Ext ρ H ρ' H' → RelSt K G ρ' μ' H' → Q b H'
theorem _root_.L2.PTs.imp {X : Cx} {e : List Expr} {t t' : TT} (h : PTs X e t) (i : ∀ σ H Q, t' σ H Q → t σ H Q) : PTs X e t' := ⟨fun pins s σ H Q I w => h.run pins s σ H Q I (i σ H Q w)⟩
section
variable {X : Cx} {G : GE} {C : Cxt}
theorem c_nil : PTs X [] (tCn X.K G C .nil) := by
  refine pts_nil.imp fun σ H Q h => ?_
  obtain ⟨ρ, μ, ls, b, μ', st, rl, e, k⟩ := h
  simp only [evc] at e
  cases e
  exact k ρ H (Ext.refl _ _) st
theorem c_one {e : Expr} {e' as : E} (h : PT X e (tT X.K G C e')) : PTs X [e] (tCn X.K G C (.cons e' as)) := by
  refine (pts_one h).imp fun σ H Q h => ?_
  obtain ⟨ρ, μ, ls, b, μ', st, rl, e, k⟩ := h
  simp only [evc] at e
  obtain ⟨r, μ1, e1, f1⟩ := bind_eq e
  obtain ⟨rfl, rfl⟩ := toB_eq f1
  exact ⟨ρ, μ, ls, b, _, st, rl, e1, k⟩
/-- what stands between two turns: the new list at D is nobody else's -/
structure LcS (K : PySem.W.Frag) (G : GE) (ρ1 : Pr) (H1 : Hp) (D : Addr) (ls : Lcs) (σ : L2.St) (μ2 : Sto) (acc : List PV) (H' : Hp) : Prop where
  ex : ∃ st2 vs, Ext ρ1 H1 ⟨st2, ρ1.fo⟩ H' ∧ RelSt K G ⟨st2, D :: ρ1.fo⟩ μ2 H' ∧ H' D = some (.lst vs) ∧ Reps K G (⟨st2, D :: ρ1.fo⟩ : Pr).W H' acc vs ∧ RelL K G ⟨st2, D :: ρ1.fo⟩ H' ls σ
theorem upd_fo {K : PySem.W.Frag} {W : List Addr} {H : Hp} {a : Addr} {o o0 : HO} (h : a ∈ W) (h0 : H a = some o0) (hf : isF o0 = false) : Frame W H (upd H a o) := fun b u e hb => by
  rw [upd_ne (show b ≠ a from fun z => hb.elim (fun hb => hb (by rw [z]; exact h)) fun q => by
    rw [z, h0] at e
    cases e
    rw [hf] at q
    cases q)]
  exact e
theorem RelSt.updF {K : PySem.W.Frag} {ρ : Pr} {μ : Sto} {H : Hp} {a : Addr} {o o0 : HO} (s : RelSt K G ρ μ H) (h : a ∈ ρ.fo) (h0 : H a = some o0) (hf : isF o0 = false) : RelSt K G ρ μ (upd H a o) := by
  have f : Frame ρ.W H (upd H a o) := upd_fo (K := K) (List.mem_append_right _ h) h0 hf
  have hn := (s.fl a h).2
  refine ⟨s.nd, pair_mk s.length fun i b p h1 h2 => ?_, fun b hb => ⟨?_, (s.fl b hb).2⟩⟩
  · obtain ⟨q, u, e1, e2, e3⟩ := s.at_ h1
    rw [h2] at e1
    cases e1
    exact ⟨_, by rw [upd_ne (show b ≠ a from fun z => hn (by rw [← z]; exact List.mem_of_getElem? h1))]; exact e2, e3.ext f fun _ z => .inl z⟩
  · by_cases hb2 : b = a
    · subst hb2; rw [upd_same]; simp
    · rw [upd_ne hb2]; exact (s.fl b hb).1
theorem RelL.updF {K : PySem.W.Frag} {ρ : Pr} {H : Hp} {a : Addr} {o o0 : HO} {ls : Lcs} {σ : L2.St} (r : RelL K G ρ H ls σ) (h : a ∈ ρ.fo) (h0 : H a = some o0) (hf : isF o0 = false) : RelL K G ρ (upd H a o) ls σ := Paired.mapP r fun q w h1 z hz => by
  obtain ⟨v, e1, e2⟩ := h1 z hz
  refine ⟨v, e1, ?_⟩
  cases z with
  | v p =>
    have e2' : Rep K G ρ.W H p v := e2
    exact e2'.ext (upd_fo (K := K) (List.mem_append_right _ h) h0 hf) fun _ z => .inl z
  | loc n => exact e2
  | new p => exact e2
theorem lc_hW {ρ1 : Pr} {H1 H' : Hp} {D : Addr} {st2 : List Addr} (hD : H1 D = none) (x1 : Ext ρ1 H1 ⟨st2, ρ1.fo⟩ H') : ∀ a ∈ (⟨st2, D :: ρ1.fo⟩ : Pr).W, a ∈ ρ1.W ∨ H1 a = none := fun a ha => by
  rcases List.mem_append.mp ha with z | z
  · exact x1.mem a (List.mem_append_left _ z)
  · rcases List.mem_cons.mp z with z | z
    · exact .inr (z ▸ hD)
    · exact .inl (List.mem_append_right _ z)
theorem lc_turn {ρ1 : Pr} {H1 : Hp} {D : Addr} {ls : Lcs} {σ : L2.St} {μ2 μ3 : Sto} {acc acc' : List PV} {H' H3 : Hp} {elt' cond' : E} {tg' : Tg} {x : PV} {v : V} {ro : Option PV} {Nx : Hp → Prop} (hD : H1 D = none) (hDf : D ∉ ρ1.fo)
    {st2 : List Addr} {vs : List V} (x1 : Ext ρ1 H1 ⟨st2, ρ1.fo⟩ H') (s2 : RelSt X.K G ⟨st2, D :: ρ1.fo⟩ μ2 H') (hDv : H' D = some (.lst vs)) (ra : Reps X.K G (⟨st2, D :: ρ1.fo⟩ : Pr).W H' acc vs) (rl : RelL X.K G ⟨st2, D :: ρ1.fo⟩ H' ls σ)
    (sm : Same H' H3) (hx : Rep X.K G (⟨st2, D :: ρ1.fo⟩ : Pr).W H3 x v)
    (hb : (match asgT tg' x (wipeL ls (tgN tg')) with
      | some ls' => (evc C cond' ls' μ2).bind fun b μ1 => iteB b ((ev C elt' ls' μ1).bind fun r μ2 => opt ((kp r).map some) μ2) (.ok none μ1)
      | none => .no) = .ok ro μ3)
    (hn : snoc acc ro = some acc') (hN : ∀ H'', LcS X.K G ρ1 H1 D ls σ μ3 acc' H'' → Nx H'') :
    tG X.K G tg' v (L2.wipe σ (tgN tg')) H3 fun σ2 H2 => L2.wipe σ2 (tgN tg') = L2.wipe σ (tgN tg') ∧ tCn X.K G C cond' σ2 H2 fun b H3 =>
      if b = true then tE X.K G C elt' σ2 H3 fun y H4 => ∃ acc, H4 D = some (.lst acc) ∧ acc.length < sizeLine ∧ Nx (upd H4 D (.lst (acc ++ [y]))) else Nx H3 := by
  have es := Ext.same (ρ := (⟨st2, D :: ρ1.fo⟩ : Pr)) sm
  have hDst : D ∉ st2 := (s2.fl D (List.mem_cons_self ..)).2
  split at hb
  · rename_i ls' e1
    obtain ⟨b, μ4, e2, f2⟩ := bind_eq hb
    refine ⟨⟨st2, D :: ρ1.fo⟩, x, wipeL ls (tgN tg'), ls', hx, (es.relL rl).wipe _, e1, fun σ2 rl2 off => ⟨wipe_off off, ?_⟩⟩
    refine ⟨⟨st2, D :: ρ1.fo⟩, μ2, ls', b, μ4, s2.same sm, rl2, e2, fun ρ4 H4 x4 s4 => ?_⟩
    have f4 : ρ4.fo = D :: ρ1.fo := x4.fo
    have hD4 : H4 D = some (.lst vs) := x4.frame _ _ (sm _ _ hDv) (.inl hDst)
    have y4 : Ext ρ1 H1 ⟨ρ4.st, ρ1.fo⟩ H4 := x1.trans ((Ext.same (ρ := (⟨st2, ρ1.fo⟩ : Pr)) sm).trans ⟨x4.more, rfl, x4.frame, x4.dom⟩)
    obtain ⟨st4, fo4⟩ := ρ4
    simp only at f4 y4
    subst f4
    cases b with
    | false =>
      rw [iteB_f] at f2
      cases f2
      cases hn
      simp only [Bool.false_eq_true, if_false]
      exact hN _ ⟨st4, vs, y4, s4, hD4, x4.reps (es.reps ra), x4.relL (es.relL rl)⟩
    | true =>
      rw [iteB_t] at f2
      obtain ⟨r, μ5, e5, f5⟩ := bind_eq f2
      obtain ⟨f6, rfl⟩ := opt_eq f5
      obtain ⟨p, f7, rfl⟩ := Option.map_eq_some_iff.mp f6
      simp only [if_true]
      refine ⟨⟨st4, D :: ρ1.fo⟩, μ4, ls', r, _, s4, x4.relL rl2, e5, fun ρ5 H5 y x5 s5 r5 => ?_⟩
      have f5' : ρ5.fo = D :: ρ1.fo := x5.fo
      obtain ⟨st5, fo5⟩ := ρ5
      simp only at f5'
      subst f5'
      have hDst4 : D ∉ st4 := (s4.fl D (List.mem_cons_self ..)).2
      have hDst5 : D ∉ st5 := (s5.fl D (List.mem_cons_self ..)).2
      have hD5 : H5 D = some (.lst vs) := x5.frame _ _ hD4 (.inl hDst4)
      have y5 : Ext ρ1 H1 ⟨st5, ρ1.fo⟩ H5 := y4.trans ⟨x5.more, rfl, x5.frame, x5.dom⟩
      have hlen := ra.length
      have hz : acc.length < SZ ∧ acc' = acc ++ [p] := by
        unfold snoc at hn
        simp only at hn
        split at hn
        · rename_i h
          cases hn
          exact ⟨h, rfl⟩
        · cases hn
      obtain ⟨hz, rfl⟩ := hz
      have ra5 := x5.reps (x4.reps (es.reps ra))
      have rp : Rep X.K G (⟨st5, D :: ρ1.fo⟩ : Pr).W H5 p y := r5.p.kp f7
      have fr : Frame (⟨st5, D :: ρ1.fo⟩ : Pr).W H5 (upd H5 D (.lst (vs ++ [y]))) := upd_fo (K := X.K) (List.mem_append_right _ (List.mem_cons_self ..)) hD5 rfl
      refine ⟨vs, hD5, by rw [← hlen, ← sz_eq]; exact hz, hN _ ⟨st5, vs ++ [y], ⟨y5.more, rfl, fun b o e hb => ?_, fun b e => ?_⟩, s5.updF (List.mem_cons_self ..) hD5 rfl, upd_same, (ra5.append (.cons rp .nil)).ext fr fun _ z => .inl z, (x5.relL (x4.relL (es.relL rl))).updF (List.mem_cons_self ..) hD5 rfl⟩⟩
      · rw [upd_ne (ne_of_none e hD)]
        exact y5.frame b o e hb
      · have hb : b ≠ D := fun z => e (z ▸ hD)
        rw [upd_ne hb]
        exact y5.dom b e
  · cases hb

theorem s_lc {elt tg it : Expr} {ifs : List Expr} {scope : Scope} {own : List (Str × Nat)} {pos : Pos} {elt' it' cond' : E} {tg' : Tg} (hc : X.calm = true) (hN : X.N.Nodup) (ok : BlkOk X.N X.env.scope scope own) (hown : own.map (·.2) = tgN tg') (hi : PI X tg it (tI X.K G C it'))
    (hg : ∀ (s : Shared) (H : Hp) (A : Addr) (cl : List (Str × Addr)) (fp : List Addr), PG (X.blk s H scope (compEnvC scope cl A X.env) fp) tg (tG X.K G tg')) (ht : ∀ (s : Shared) (H : Hp) (A : Addr) (cl : List (Str × Addr)) (fp : List Addr), PTs (X.blk s H scope (compEnvC scope cl A X.env) fp) ifs (tCn X.K G C cond'))
    (he : ∀ (s : Shared) (H : Hp) (A : Addr) (cl : List (Str × Addr)) (fp : List Addr), PE (X.blk s H scope (compEnvC scope cl A X.env) fp) elt (tE X.K G C elt')) (hs : ∀ x, foldedSetIterable it X.env x = pure x) :
    ∀ σ H Q, tE X.K G C (.lc elt' tg' it' cond') σ H Q → tLc (tI X.K G C it') (tG X.K G tg') (tCn X.K G C cond') (tE X.K G C elt') (own.map (·.2)) σ H Q := by
  intro σ H Q h
  obtain ⟨ρ, μ, ls, r, μ', st, rl, e, k⟩ := h
  simp only [ev] at e
  obtain ⟨rv, μ1, e1, f1⟩ := bind_eq e
  unfold lcl at f1
  obtain ⟨ys, μ9, f2, f3⟩ := bind_eq f1
  cases f3
  rw [hown]
  -- the loop's end
  have fin : ∀ {ρ1 : Pr} {H1 : Hp} {D : Addr} {H' : Hp}, Ext ρ H ρ1 H1 → H1 D = none → D ∉ ρ1.fo → LcS X.K G ρ1 H1 D ls σ μ' ys H' → Q (.ref D) H' := fun {ρ1 H1 D H'} x1 hD hDf S => by
    obtain ⟨st2, vs, y1, s2, hDv, ra, rl⟩ := S.ex
    have hDst : D ∉ st2 := (s2.fl D (List.mem_cons_self ..)).2
    exact k ⟨st2, ρ1.fo⟩ H' _ (x1.trans y1) (s2.drop (ρ := ⟨st2, D :: ρ1.fo⟩) fun a ha => List.mem_cons_of_mem _ ha) ⟨D, _, rfl, x1.free hD, fun z => (List.mem_append.mp z).elim hDst hDf, hDv, rfl, .lst ra, s2⟩
  have start : ∀ {ρ1 : Pr} {H1 : Hp} {D : Addr}, Ext ρ H ρ1 H1 → RelSt X.K G ρ1 μ1 H1 → H1 D = none → D ∉ ρ1.fo ∧ LcS X.K G ρ1 H1 D ls σ μ1 [] (upd H1 D (.lst [])) := fun {ρ1 H1 D} x1 s1 hD => by
    refine ⟨fun z => (s1.fl D z).1 hD, ρ1.st, [], Ext.same (same_upd hD), s1.add (same_upd hD) hD (by rw [upd_same]; simp), upd_same, .nil, ?_⟩
    have := x1.relL rl
    refine Paired.mapP this fun o w h q hq => ?_
    obtain ⟨v, e5, e6⟩ := h q hq
    refine ⟨v, e5, ?_⟩
    cases q with
    | v p =>
      have e6' : Rep X.K G ρ1.W H1 p v := e6
      exact e6'.ext (fun b o q _ => same_upd hD b o q) fun b hb => (mem_add hb).elim (fun z => .inr (z ▸ hD)) .inl
    | loc n => exact e6
    | new p => exact e6
  have byv : ∀ xs, (∀ ρ1 H1 J, Wlk X.K G ρ1 H1 rv J → Wks X.K G ρ1 H1 xs J) → lclL (fun x μ => match asgT tg' x (wipeL ls (tgN tg')) with
      | some ls' => (evc C cond' ls' μ).bind fun b μ1 => iteB b ((ev C elt' ls' μ1).bind fun r μ2 => opt ((kp r).map some) μ2) (.ok none μ1)
      | none => .no) xs [] μ1 = .ok ys μ' → walkB μ1 rv = true → tLc (tI X.K G C it') (tG X.K G tg') (tCn X.K G C cond') (tE X.K G C elt') (tgN tg') σ H Q := fun xs wk f2 wb => by
    refine ⟨ρ, μ, ls, rv, μ1, st, rl, e1, wb, fun ρ1 H1 J x1 s1 w1 D hD => ?_⟩
    obtain ⟨hDf, S0⟩ := start x1 s1 hD
    have wks := wk ρ1 H1 J w1
    refine ⟨fun i m H' => m = xs.length - i ∧ i ≤ xs.length ∧ ∃ acc μ2, LcS X.K G ρ1 H1 D ls σ μ2 acc H' ∧ lclL (fun x μ => match asgT tg' x (wipeL ls (tgN tg')) with
      | some ls' => (evc C cond' ls' μ).bind fun b μ1 => iteB b ((ev C elt' ls' μ1).bind fun r μ2 => opt ((kp r).map some) μ2) (.ok none μ1)
      | none => .no) (xs.drop i) acc μ2 = .ok ys μ', ⟨_, rfl, Nat.zero_le _, [], μ1, S0, f2⟩, ?_⟩
    rintro i m H' ⟨rfl, hi, acc, μ2, S, fl⟩
    have S' := S.ex
    obtain ⟨st2, vs, y1, s2, hDv, ra, rl2⟩ := S'
    have xw := wks ⟨st2, ρ1.fo⟩ H' y1.w fun a ha => live s2 a ((List.mem_append.mp ha).elim (fun z => List.mem_append_left _ z) fun z => List.mem_append_right _ (List.mem_cons_of_mem _ z))
    by_cases hlt : i < xs.length
    · rw [List.drop_eq_getElem_cons hlt] at fl
      simp only [lclL] at fl
      obtain ⟨ro, μ3, g1, g2⟩ := bind_eq fl
      split at g2
      · rename_i acc' g3
        obtain ⟨go, yl⟩ := xw.1 i xs[i] (List.getElem?_eq_getElem hlt)
        refine .inr ⟨go, fun H'' => LcS X.K G ρ1 H1 D ls σ μ3 acc' H'', fun H'' S2 => ⟨xs.length - (i + 1), by omega, rfl, hlt, acc', μ3, S2, g2⟩, fun v H3 yy => ?_⟩
        obtain ⟨sm, rx⟩ := yl v H3 yy
        refine lc_turn hD hDf y1 s2 hDv ra rl2 sm ?_ g1 g3 fun _ h => h
        have w2 := wks ⟨st2, D :: ρ1.fo⟩ H' ⟨fun n a h => y1.get h, lc_hW hD y1, y1.frW⟩ (live s2)
        exact ((w2.1 i xs[i] (List.getElem?_eq_getElem hlt)).2 v H3 yy).2
      · cases g2
    · have hi' : xs.drop i = [] := List.drop_eq_nil_of_le (by omega)
      rw [hi'] at fl
      cases fl
      exact .inl ⟨xw.2 i (by omega), fin x1 hD hDf S⟩
  cases rv with
  | v p =>
    simp only at f2
    split at f2
    · rename_i xs e2
      exact byv xs (fun ρ1 H1 J w => w xs e2) f2 (by simp [walkB, e2])
    · cases f2
  | new p =>
    simp only at f2
    split at f2
    · rename_i xs e2
      exact byv xs (fun ρ1 H1 J w => w xs e2) f2 (by simp [walkB, e2])
    · cases f2
  | loc a =>
    simp only at f2
    split at f2
    · rename_i xs e2
      refine ⟨ρ, μ, ls, .loc a, μ1, st, rl, e1, by simp [walkB, e2], fun ρ1 H1 J x1 s1 w1 D hD => ?_⟩
      obtain ⟨hDf, S0⟩ := start x1 s1 hD
      obtain ⟨la, hla, rfl⟩ := w1
      refine ⟨fun i m H' => ∃ acc μ2, LcS X.K G ρ1 H1 D ls σ μ2 acc H' ∧ lclS a (fun x μ => match asgT tg' x (wipeL ls (tgN tg')) with
        | some ls' => (evc C cond' ls' μ).bind fun b μ1 => iteB b ((ev C elt' ls' μ1).bind fun r μ2 => opt ((kp r).map some) μ2) (.ok none μ1)
        | none => .no) m i acc μ2 = .ok ys μ', ⟨xs.length, [], μ1, S0, f2⟩, ?_⟩
      rintro i m H' ⟨acc, μ2, S, fl⟩
      have S' := S.ex
      obtain ⟨st2, vs, y1, s2, hDv, ra, rl2⟩ := S'
      have ml : ∃ ps, μ2[a]? = some (.lst ps) := by
        cases m with
        | zero =>
          simp only [lclS] at fl
          split at fl
          · exact ⟨_, by assumption⟩
          · cases fl
        | succ m =>
          simp only [lclS] at fl
          split at fl
          · exact ⟨_, by assumption⟩
          · cases fl
      obtain ⟨ps, p1⟩ := ml
      obtain ⟨zs, p2, p3⟩ := s2.atL (n := a) (y1.get hla) p1
      have hsq : SqL X.K H' la zs := .inl (.inl p2)
      cases m with
      | zero =>
        simp only [lclS, p1] at fl
        split at fl
        · rename_i hle
          cases fl
          exact .inl ⟨⟨zs, hsq, by rw [← p3.length]; exact hle⟩, fin x1 hD hDf S⟩
        · cases fl
      | succ m =>
        simp only [lclS, p1] at fl
        split at fl
        · rename_i x hx
          obtain ⟨ro, μ3, g1, g2⟩ := bind_eq fl
          split at g2
          · rename_i acc' g3
            obtain ⟨v, hv, rv⟩ := p3.get hx
            refine .inr ⟨⟨zs, v, hsq, hv⟩, fun H'' => LcS X.K G ρ1 H1 D ls σ μ3 acc' H'', fun H'' S2 => ⟨m, Nat.lt_succ_self _, acc', μ3, S2, g2⟩, fun w H3 yy => ?_⟩
            obtain ⟨rfl, yy⟩ := yy
            have := yy zs hsq
            rw [hv] at this
            cases this
            exact lc_turn hD hDf y1 s2 hDv ra rl2 (Same.refl _) rv g1 g3 fun _ h => h
          · cases g2
        · cases fl
    · cases f2
end
end Z

set_option maxHeartbeats 4000000
/-! Z over the hand layer: a dict walked, locked meanwhile. -/
namespace Z
open PySem PySem.Spec L2

/-- the dict at a is locked, or let go -/
structure Lk (H H2 : Hp) (a : Addr) (ds : List (Key × V)) : Prop where
  h1 : Rd H a (.dK ds)
  h2 : Rd H2 a (.dK ds)
  ne : ∀ b, b ≠ a → H2 b = H b
section
variable {K : PySem.W.Frag} {G : GE} {W : List Addr} {H H2 : Hp} {a : Addr} {ds : List (Key × V)}
theorem rd_inj {b : Addr} {u : HO} (r : Rd H b (.dK ds)) (h : H b = some u) : u = .dK ds ∨ ∃ o, u = .frz o (.dK ds) := by
  rcases r with r | ⟨o, r⟩
  · rw [h] at r; cases r; exact .inl rfl
  · rw [h] at r; cases r; exact .inr ⟨o, rfl⟩
theorem rd_injD {b : Addr} {ds2 : List (Key × V)} (r : Rd H b (.dK ds)) (h : Rd H b (.dK ds2)) : ds2 = ds := by
  rcases h with h | ⟨o, h⟩
  · rcases rd_inj r h with z | ⟨_, z⟩ <;> cases z; rfl
  · rcases rd_inj r h with z | ⟨_, z⟩ <;> cases z; rfl
theorem Lk.eq (L : Lk H H2 a ds) {b : Addr} {u : HO} (h : H b = some u) (n1 : u ≠ .dK ds) (n2 : ∀ o, u ≠ .frz o (.dK ds)) : H2 b = some u := by
  rw [L.ne b fun z => ?_]
  · exact h
  · subst z
    rcases rd_inj L.h1 h with z | ⟨o, z⟩
    · exact n1 z
    · exact n2 o z
theorem Lk.rd (L : Lk H H2 a ds) {b : Addr} {ds2 : List (Key × V)} (h : Rd H b (.dK ds2)) : Rd H2 b (.dK ds2) := by
  by_cases z : b = a
  · subst z
    rw [rd_injD L.h1 h]
    exact L.h2
  · rcases h with h | ⟨o, h⟩
    · exact .inl ((L.ne b z).trans h)
    · exact .inr ⟨o, (L.ne b z).trans h⟩
theorem Lk.live (L : Lk H H2 a ds) {b : Addr} (h : H b ≠ none) : H2 b ≠ none := by
  by_cases z : b = a
  · subst z; exact Rd.ne L.h2
  · rw [L.ne b z]; exact h
mutual
theorem Rep.lk (L : Lk H H2 a ds) : ∀ {p : PV} {v : V}, Rep K G W H p v → Rep K G W H2 p v
  | _, _, .non => .non
  | _, _, .bl b => .bl b
  | _, _, .int b => .int b
  | _, _, .str b => .str b
  | _, _, .tup h n r => .tup (L.eq h (fun z => nomatch z) (fun _ z => nomatch z)) n (Reps.lk L r)
  | _, _, .lst h n r => .lst (L.eq h (fun z => nomatch z) (fun _ z => nomatch z)) n (Reps.lk L r)
  | _, _, .frz h n r => .frz (L.eq h (fun z => nomatch z) (fun _ z => nomatch z)) n (Reps.lk L r)
  | _, _, .tupK h1 h2 h3 h4 h5 r => .tupK h1 h2 h3 h4 h5 (Reps.lk L r)
  | _, _, .frzK h1 h2 h3 h4 h5 h6 r => .frzK h1 h2 h3 h4 h5 h6 (Reps.lk L r)
  | _, _, .fn b => .fn b
  | _, _, .cls b => .cls b
  | _, _, .dct h n r => .dct (L.rd h) n (RepD.lk L r)
theorem Reps.lk (L : Lk H H2 a ds) : ∀ {p : List PV} {v : List V}, Reps K G W H p v → Reps K G W H2 p v
  | _, _, .nil => .nil
  | _, _, .cons r rs => .cons (Rep.lk L r) (Reps.lk L rs)
theorem RepD.lk (L : Lk H H2 a ds) : ∀ {p : List (PV × PV)} {v : List (Key × V)}, RepD K G W H p v → RepD K G W H2 p v
  | _, _, .nil => .nil
  | _, _, .cons k r rs => .cons k (Rep.lk L r) (RepD.lk L rs)
end
theorem RelL.lk {ρ : Pr} {ls : Lcs} {σ : L2.St} (L : Lk H H2 a ds) (r : RelL K G ρ H ls σ) : RelL K G ρ H2 ls σ := Paired.mapP r fun o w h q hq => by
  obtain ⟨v, e1, e2⟩ := h q hq
  refine ⟨v, e1, ?_⟩
  cases q with
  | v p => exact Rep.lk L (show Rep K G ρ.W H p v from e2)
  | loc n => exact e2
  | new p => exact e2
/-- a store none of whose containers it is -/
theorem RelSt.lkV {ρ : Pr} {μ : Sto} (L : Lk H H2 a ds) (s : RelSt K G ρ μ H) (n : a ∉ ρ.st) : RelSt K G ρ μ H2 :=
  ⟨s.nd, pair_mk s.length fun i b p h1 h2 => by
    obtain ⟨q, u, e1, e2, e3⟩ := s.at_ h1
    rw [h2] at e1
    cases e1
    refine ⟨u, ?_, ?_⟩
    · rw [L.ne b fun z => n (z ▸ List.mem_of_getElem? h1)]
      exact e2
    · cases e3 with
      | lst r => exact .lst (r.lk L)
      | dct r => exact .dct (r.lk L)
      | dcf r => exact .dcf (r.lk L), fun b hb => ⟨L.live (s.fl b hb).1, (s.fl b hb).2⟩⟩
/-- .. of which it is the n-th -/
theorem RelSt.lkS {ρ : Pr} {μ : Sto} {n : Nat} {p : PV} {u : HO} (L : Lk H H2 a ds) (s : RelSt K G ρ μ H) (h : ρ.st[n]? = some a) (hu : H2 a = some u) (c : Con K G ρ.W H2 p u) : RelSt K G ρ (μ.set n p) H2 := by
  refine ⟨s.nd, pair_mk (by rw [List.length_set]; exact s.length) fun i b q h1 h2 => ?_, fun b hb => ⟨L.live (s.fl b hb).1, (s.fl b hb).2⟩⟩
  by_cases hi : i = n
  · subst hi
    rw [h] at h1
    cases h1
    rw [List.getElem?_set_self (by rw [← s.length]; exact (List.getElem?_eq_some_iff.mp h).1)] at h2
    cases h2
    exact ⟨u, hu, c⟩
  · rw [List.getElem?_set_ne (Ne.symm hi)] at h2
    obtain ⟨q, u, e1, e2, e3⟩ := s.at_ h1
    rw [h2] at e1
    cases e1
    have hb : b ≠ a := fun z => by
      subst z
      exact hi ((List.getElem_inj (h₀ := (List.getElem?_eq_some_iff.mp h1).1) (h₁ := (List.getElem?_eq_some_iff.mp h).1) s.nd).mp (by rw [(List.getElem?_eq_some_iff.mp h1).2, (List.getElem?_eq_some_iff.mp h).2]))
    refine ⟨u, by rw [L.ne b hb]; exact e2, ?_⟩
    cases e3 with
    | lst r => exact .lst (r.lk L)
    | dct r => exact .dct (r.lk L)
    | dcf r => exact .dcf (r.lk L)
theorem RepD.i {ks : List (PV × PV)} {i : Nat} {x : PV} (d : RepD K G W H ks ds) (h : (ks.map (·.1))[i]? = some x) : ∃ q v, ds[i]? = some (q, v) ∧ KeyR x q := by
  rw [List.getElem?_map] at h
  obtain ⟨⟨k, p⟩, e1, rfl⟩ := Option.map_eq_some_iff.mp h
  obtain ⟨q, v, h1, h2, _⟩ := d.at_ e1
  exact ⟨q, v, h1, h2⟩
theorem wks_keys {ρ : Pr} {od : Obj} {ks : List (PV × PV)} (h : H a = some (.frz od (.dK ds))) (r : RepD K G ρ.W H ks ds) : Wks K G ρ H (dwk false ks) (Itk a od ds) := fun (ρ2 : Pr) H2 x lv => by
  have h2 : H2 a = some (.frz od (.dK ds)) := x.frW _ _ h (.inr rfl)
  refine ⟨fun i y hy => ?_, fun i hi => ⟨h2, by
    have : (ks.map (·.1)).length ≤ i := hi
    rw [List.length_map, r.length] at this
    exact this⟩⟩
  obtain ⟨q, v, e1, e2⟩ := r.i (show (ks.map (·.1))[i]? = some y from hy)
  refine ⟨⟨h2, (List.getElem?_eq_some_iff.mp e1).1⟩, fun w H3 yy => ?_⟩
  obtain ⟨rfl, k, v', e3, rfl⟩ := yy
  rw [e1] at e3
  cases e3
  exact ⟨Same.refl _, e2.rep⟩
theorem wks_items {ρ : Pr} {od : Obj} {ks : List (PV × PV)} (h : H a = some (.frz od (.dK ds))) (r : RepD K G ρ.W H ks ds) : Wks K G ρ H (dwk true ks) (Iti a od ds) := fun (ρ2 : Pr) H2 x lv => by
  have h2 : H2 a = some (.frz od (.dK ds)) := x.frW _ _ h (.inr rfl)
  have r2 : RepD K G ρ2.W H2 ks ds := r.ext x.frW x.mem
  refine ⟨fun i y hy => ?_, fun i hi => ⟨h2, by
    have : (ks.map fun kv => PV.tup [kv.1, kv.2]).length ≤ i := hi
    rw [List.length_map, r.length] at this
    exact this⟩⟩
  have hy' : (ks.map fun kv => PV.tup [kv.1, kv.2])[i]? = some y := hy
  rw [List.getElem?_map] at hy'
  obtain ⟨⟨k, p⟩, e1, rfl⟩ := Option.map_eq_some_iff.mp hy'
  obtain ⟨q, v, e3, e4, e5⟩ := r2.at_ e1
  refine ⟨⟨h2, (List.getElem?_eq_some_iff.mp e3).1⟩, fun w H3 yy => ?_⟩
  obtain ⟨T, k', v', g1, rfl, hT, rfl⟩ := yy
  rw [e3] at g1
  cases g1
  refine ⟨same_upd hT, ?_⟩
  have f : Frame ρ2.W H2 (upd H2 T (.tup [kV q, v])) := fun b u e _ => same_upd hT b u e
  exact .tup upd_same (fun z => lv T z hT) (.cons (e4.rep) (.cons (e5.ext f fun _ z => .inl z) .nil))
end

section
variable {X : Cx} {G : GE} {C : Cxt}
/-- a walk of values, from its start -/
theorem lc_walk {ρ1 : Pr} {H1 : Hp} {D : Addr} {ls : Lcs} {σ : L2.St} {μ1 μ' : Sto} {xs ys : List PV} {J : It} {Q : VK} {elt' cond' : E} {tg' : Tg} (s1 : RelSt X.K G ρ1 μ1 H1) (rl : RelL X.K G ρ1 H1 ls σ) (hD : H1 D = none) (wks : Wks X.K G ρ1 H1 xs J)
    (f2 : lclL (fun x μ => match asgT tg' x (wipeL ls (tgN tg')) with
      | some ls' => (evc C cond' ls' μ).bind fun b μ1 => iteB b ((ev C elt' ls' μ1).bind fun r μ2 => opt ((kp r).map some) μ2) (.ok none μ1)
      | none => .no) xs [] μ1 = .ok ys μ') (fin : ∀ H', LcS X.K G ρ1 H1 D ls σ μ' ys H' → Q (.ref D) H') :
    ∃ W : Nat → Nat → Hp → Prop, (∃ m, W 0 m (upd H1 D (.lst []))) ∧ ∀ i m H, W i m H →
      (J.stop i H ∧ Q (.ref D) H) ∨ (J.go i H ∧ ∃ Nx : Hp → Prop, (∀ H', Nx H' → ∃ m', m' < m ∧ W (i + 1) m' H') ∧ ∀ x H', J.yld i H x H' → tG X.K G tg' x (L2.wipe σ (tgN tg')) H' fun σ2 H2 => L2.wipe σ2 (tgN tg') = L2.wipe σ (tgN tg') ∧ tCn X.K G C cond' σ2 H2 fun b H3 =>
        if b = true then tE X.K G C elt' σ2 H3 fun y H4 => ∃ acc, H4 D = some (.lst acc) ∧ acc.length < sizeLine ∧ Nx (upd H4 D (.lst (acc ++ [y]))) else Nx H3) := by
  have hDf : D ∉ ρ1.fo := fun z => (s1.fl D z).1 hD
  have S0 : LcS X.K G ρ1 H1 D ls σ μ1 [] (upd H1 D (.lst [])) := by
    refine ⟨ρ1.st, [], Ext.same (same_upd hD), s1.add (same_upd hD) hD (by rw [upd_same]; simp), upd_same, .nil, ?_⟩
    refine Paired.mapP rl fun o w h q hq => ?_
    obtain ⟨v, e5, e6⟩ := h q hq
    refine ⟨v, e5, ?_⟩
    cases q with
    | v p =>
      have e6' : Rep X.K G ρ1.W H1 p v := e6
      exact e6'.ext (fun b o q _ => same_upd hD b o q) fun b hb => (mem_add hb).elim (fun z => .inr (z ▸ hD)) .inl
    | loc n => exact e6
    | new p => exact e6
  refine ⟨fun i m H' => m = xs.length - i ∧ i ≤ xs.length ∧ ∃ acc μ2, LcS X.K G ρ1 H1 D ls σ μ2 acc H' ∧ lclL (fun x μ => match asgT tg' x (wipeL ls (tgN tg')) with
    | some ls' => (evc C cond' ls' μ).bind fun b μ1 => iteB b ((ev C elt' ls' μ1).bind fun r μ2 => opt ((kp r).map some) μ2) (.ok none μ1)
    | none => .no) (xs.drop i) acc μ2 = .ok ys μ', ⟨_, rfl, Nat.zero_le _, [], μ1, S0, f2⟩, ?_⟩
  rintro i m H' ⟨rfl, hi, acc, μ2, S, fl⟩
  have S' := S.ex
  obtain ⟨st2, vs, y1, s2, hDv, ra, rl2⟩ := S'
  have xw := wks ⟨st2, ρ1.fo⟩ H' y1.w fun a ha => live s2 a ((List.mem_append.mp ha).elim (fun z => List.mem_append_left _ z) fun z => List.mem_append_right _ (List.mem_cons_of_mem _ z))
  by_cases hlt : i < xs.length
  · rw [List.drop_eq_getElem_cons hlt] at fl
    simp only [lclL] at fl
    obtain ⟨ro, μ3, g1, g2⟩ := bind_eq fl
    split at g2
    · rename_i acc' g3
      obtain ⟨go, yl⟩ := xw.1 i xs[i] (List.getElem?_eq_getElem hlt)
      refine .inr ⟨go, fun H'' => LcS X.K G ρ1 H1 D ls σ μ3 acc' H'', fun H'' S2 => ⟨xs.length - (i + 1), by omega, rfl, hlt, acc', μ3, S2, g2⟩, fun v H3 yy => ?_⟩
      obtain ⟨sm, rx⟩ := yl v H3 yy
      refine lc_turn hD hDf y1 s2 hDv ra rl2 sm ?_ g1 g3 fun _ h => h
      have w2 := wks ⟨st2, D :: ρ1.fo⟩ H' ⟨fun n a h => y1.get h, lc_hW hD y1, y1.frW⟩ (live s2)
      exact ((w2.1 i xs[i] (List.getElem?_eq_getElem hlt)).2 v H3 yy).2
    · cases g2
  · have hi' : xs.drop i = [] := List.drop_eq_nil_of_le (by omega)
    rw [hi'] at fl
    cases fl
    exact .inl ⟨xw.2 i (by omega), fin H' S⟩
/-- how a dict is walked -/
def iD (b : Bool) (td : TE) : TI := if b = true then iItems td else iKeys td
def itD (b : Bool) (d : Addr) (o : Obj) (ds : List (Key × V)) : It := if b = true then Iti d o ds else Itk d o ds
theorem wks_dwk {K : PySem.W.Frag} {H : Hp} {a : Addr} {ds : List (Key × V)} {b : Bool} {ρ : Pr} {od : Obj} {ks : List (PV × PV)} (h : H a = some (.frz od (.dK ds))) (r : RepD K G ρ.W H ks ds) : Wks K G ρ H (dwk b ks) (itD b a od ds) := by
  cases b with
  | true => exact wks_items h r
  | false => exact wks_keys h r
theorem iD_of {b : Bool} {j : Nat} {σ : L2.St} {H : Hp} {R : It → Hp → Prop} {d : Addr} {o : Obj} {ds : List (Key × V)} (h1 : σ[j]? = some (some (.ref d))) (h2 : H d = some (.frz o (.dK ds))) (h : R (itD b d o ds) H) : iD b (tVar j) σ H R := by
  cases b with
  | true => exact ⟨_, h1, d, o, ds, rfl, h2, h⟩
  | false => exact ⟨_, h1, d, o, rfl, .inl ⟨ds, h2, h⟩⟩
def tLcd (b : Bool) (K : PySem.W.Frag) (G : GE) (C : Cxt) (j : Nat) (elt' cond' : E) (tg' : Tg) : TE := tLc (iD b (tVar j)) (tG K G tg') (tCn K G C cond') (tE K G C elt') (tgN tg')
/-- the store ahead of a walk of the dict that stands at a, as it is afterwards -/
theorem s_lcd {b : Bool} {j : Nat} {elt' cond' : E} {tg' : Tg} : ∀ σ H Q, tE X.K G C (.lcd b elt' tg' (.var j) cond') σ H Q → tLockE (tLcd b X.K G C j elt' cond' tg') σ H Q ∨ tLcd b X.K G C j elt' cond' tg' σ H Q := by
  intro σ H Q h
  obtain ⟨ρ, μ, ls, r, μ', st, rl, e, k⟩ := h
  simp only [ev] at e
  obtain ⟨rv, μ1, e1, f1⟩ := bind_eq e
  simp only [lvR] at e1
  split at e1
  case h_2 => cases e1
  rename_i r0 e0
  cases e1
  obtain ⟨v0, hσ, rv0⟩ := rl.get e0
  -- the walk, in a heap where the dict at a stands locked
  have walk : ∀ {H2 : Hp} {μ2 μ3 : Sto} {a : Addr} {ds : List (Key × V)} {od : Obj} {ks : List (PV × PV)} {ys : List PV} {Q2 : VK}, v0 = .ref a → RelSt X.K G ρ μ2 H2 → RelL X.K G ρ H2 ls σ → H2 a = some (.frz od (.dK ds)) → RepD X.K G ρ.W H2 ks ds → lclL (fun x μ => match asgT tg' x (wipeL ls (tgN tg')) with
      | some ls' => (evc C cond' ls' μ).bind fun b μ1 => iteB b ((ev C elt' ls' μ1).bind fun r μ2 => opt ((kp r).map some) μ2) (.ok none μ1)
      | none => .no) (dwk b ks) [] μ2 = .ok ys μ3 →
      (∀ st2 vs D H', Ext ρ H2 ⟨st2, ρ.fo⟩ H' → RelSt X.K G ⟨st2, D :: ρ.fo⟩ μ3 H' → H2 D = none → D ∉ ρ.fo → H' D = some (.lst vs) → Reps X.K G (⟨st2, D :: ρ.fo⟩ : Pr).W H' ys vs → Q2 (.ref D) H') → tLcd b X.K G C j elt' cond' tg' σ H2 Q2 := fun {H2 μ2 μ3 a ds od ks ys Q2} ev0 s2 rl2 h2 rd2 f2 fin => by
    subst ev0
    refine iD_of hσ h2 fun D hD => ?_
    refine lc_walk (X := X) (Q := Q2) s2 rl2 hD (wks_dwk h2 rd2) f2 fun H' S => ?_
    obtain ⟨st2, vs, y1, s3, hDv, ra, _⟩ := S.ex
    exact fin st2 vs D H' y1 s3 hD (fun z => (s2.fl D z).1 hD) hDv ra
  -- what stands behind it
  have back : ∀ {a : Addr} {ds : List (Key × V)} {od : Obj} {H' : Hp} {st2 : List Addr} {vs : List V} {D : Addr} {ys : List PV} {μ3 μf : Sto}, H a = some (.dK ds) → Ext ρ (upd H a (.frz od (.dK ds))) ⟨st2, ρ.fo⟩ H' → RelSt X.K G ⟨st2, D :: ρ.fo⟩ μ3 H' → upd H a (.frz od (.dK ds)) D = none → D ∉ ρ.fo → H' D = some (.lst vs) → Reps X.K G (⟨st2, D :: ρ.fo⟩ : Pr).W H' ys vs →
      (Lk H' (upd H' a (.dK ds)) a ds → H' a = some (.frz od (.dK ds)) → RelSt X.K G ⟨st2, D :: ρ.fo⟩ μf (upd H' a (.dK ds))) → μ' = μf → r = .new (.lst ys) → H' a = some (.frz od (.dK ds)) ∧ Q (.ref D) (upd H' a (.dK ds)) := fun {a ds od H' st2 vs D ys μ3 μf} hd x1 s3 hD hDf hDv ra hs eμ er => by
    subst eμ er
    have ha : H' a = some (.frz od (.dK ds)) := x1.frame _ _ upd_same (.inr rfl)
    have L : Lk H' (upd H' a (.dK ds)) a ds := ⟨.inr ⟨od, ha⟩, .inl upd_same, fun b hb => upd_ne hb⟩
    have sf := hs L ha
    have hDa : D ≠ a := fun z => by rw [z, upd_same] at hD; cases hD
    have hD0 : H D = none := by rw [upd_ne hDa] at hD; exact hD
    have hDst : D ∉ st2 := (s3.fl D (List.mem_cons_self ..)).2
    refine ⟨ha, k ⟨st2, ρ.fo⟩ _ _ ⟨?_, rfl, fun b o e hb => ?_, fun b e => ?_⟩ (sf.drop (ρ := ⟨st2, D :: ρ.fo⟩) fun b hb => List.mem_cons_of_mem _ hb) ⟨D, _, rfl, hD0, fun z => (List.mem_append.mp z).elim hDst hDf, (upd_ne hDa).trans hDv, rfl, .lst (ra.lk L), sf⟩⟩
    · obtain ⟨nw, n1, n2⟩ := x1.more
      refine ⟨nw, n1, fun b hb => ?_⟩
      have := n2 b hb
      by_cases z : b = a
      · subst z; rw [upd_same] at this; cases this
      · rw [upd_ne z] at this; exact this
    · by_cases z : b = a
      · subst z
        rw [hd] at e
        cases e
        exact upd_same
      · rw [upd_ne z]
        exact x1.frame b o ((upd_ne z).trans e) hb
    · by_cases z : b = a
      · subst z; rw [upd_same]; simp
      · rw [upd_ne z]
        exact x1.dom b (by rw [upd_ne z]; exact e)
  unfold lcdR at f1
  split at f1
  · -- a value
    rename_i ks
    obtain ⟨ys, μ3, f2, f3⟩ := bind_eq f1
    cases f3
    have rv1 : Rep X.K G ρ.W H (.dct ks) v0 := rv0
    cases rv1 with
    | dct hd hn rd =>
      rename_i a ds
      rcases hd with hd | ⟨od, hd⟩
      · left
        refine ⟨a, .dK ds, hd, trivial, fun od => ?_⟩
        have L : Lk H (upd H a (.frz od (.dK ds))) a ds := ⟨.inl hd, .inr ⟨od, upd_same⟩, fun b hb => upd_ne hb⟩
        have na : a ∉ ρ.st := fun z => hn (List.mem_append_left _ z)
        refine walk rfl (st.lkV L na) (rl.lk L) upd_same (rd.lk L) f2 fun st2 vs D H' x1 s3 hD hDf hDv ra => ?_
        refine back hd x1 s3 hD hDf hDv ra (fun L2 ha => s3.lkV L2 fun z => ?_) rfl rfl
        rcases x1.memS a z with z | z
        · exact na z
        · rw [upd_same] at z; cases z
      · right
        refine walk rfl st rl hd rd f2 fun st2 vs D H' x1 s3 hD hDf hDv ra => ?_
        have hDst : D ∉ st2 := (s3.fl D (List.mem_cons_self ..)).2
        exact k ⟨st2, ρ.fo⟩ _ _ x1 (s3.drop (ρ := ⟨st2, D :: ρ.fo⟩) fun b hb => List.mem_cons_of_mem _ hb) ⟨D, _, rfl, hD, fun z => (List.mem_append.mp z).elim hDst hDf, hDv, rfl, .lst ra, s3⟩
  · -- a container of the store
    rename_i n
    split at f1
    · rename_i ks hk
      obtain ⟨ys, μ3, f2, f3⟩ := bind_eq f1
      split at f3
      · rename_i ks' hk'
        cases f3
        obtain ⟨a, han, rfl⟩ := rv0
        obtain ⟨ds, hd, rd⟩ := st.atD han hk
        left
        refine ⟨a, .dK ds, hd, trivial, fun od => ?_⟩
        have L : Lk H (upd H a (.frz od (.dK ds))) a ds := ⟨.inl hd, .inr ⟨od, upd_same⟩, fun b hb => upd_ne hb⟩
        refine walk rfl (st.lkS L han upd_same (.dcf (rd.lk L))) (rl.lk L) upd_same (rd.lk L) f2 fun st2 vs D H' x1 s3 hD hDf hDv ra => ?_
        refine back hd x1 s3 hD hDf hDv ra (fun L2 ha => ?_) rfl rfl
        have han2 : (⟨st2, D :: ρ.fo⟩ : Pr).st[n]? = some a := x1.get han
        obtain ⟨ds2, o2, g1, g2⟩ := s3.atF han2 hk'
        rw [ha] at g1
        cases g1
        exact s3.lkS L2 han2 upd_same (.dct (g2.lk L2))
      · cases f3
    · cases f1
  · cases f1
end
section
variable {X : Cx}
/-- one of two roads -/
theorem pe_or {e : Expr} {t u : TE} (h : PE X e t) (h' : PE X e u) : PE X e (fun σ H Q => t σ H Q ∨ u σ H Q) := ⟨fun pins s σ H Q I w => w.elim (h.run pins s σ H Q I) (h'.run pins s σ H Q I)⟩
theorem ps_or {st : Stmt} {t u : TS} (h : PS X st t) (h' : PS X st u) : PS X st (fun D σ H => t D σ H ∨ u D σ H) := ⟨fun pins s σ H D I w => w.elim (h.run pins s σ H D I) (h'.run pins s σ H D I)⟩
end
end Z

set_option maxHeartbeats 4000000
/-! Z over the hand layer: dict comprehensions over a dict. -/
namespace Z
open PySem PySem.Spec L2

/-- the body of a turn -/
abbrev dcB (C : Cxt) (kx' vx' cond' : E) (tg' : Tg) (ls : Lcs) (x : PV) (μ : Sto) : R (Option (PV × PV)) := match asgT tg' x (wipeL ls (tgN tg')) with
  | some ls' => (evc C cond' ls' μ).bind fun b μ1 => iteB b ((ev C kx' ls' μ1).bind fun rk μ2 => (ev C vx' ls' μ2).bind fun r μ3 => opt (dcP rk r) μ3) (.ok none μ1)
  | none => .no
/-- what stands between two turns: the new dict at D is nobody else's -/
structure DcS (K : PySem.W.Frag) (G : GE) (ρ1 : Pr) (H1 : Hp) (D : Addr) (ls : Lcs) (σ : L2.St) (μ2 : Sto) (acc : List (PV × PV)) (H' : Hp) : Prop where
  ex : ∃ st2 vs, Ext ρ1 H1 ⟨st2, ρ1.fo⟩ H' ∧ RelSt K G ⟨st2, D :: ρ1.fo⟩ μ2 H' ∧ H' D = some (.dK vs) ∧ RepD K G (⟨st2, D :: ρ1.fo⟩ : Pr).W H' acc vs ∧ RelL K G ⟨st2, D :: ρ1.fo⟩ H' ls σ
theorem key_of {K : PySem.W.Frag} {G : GE} {W : List Addr} {H : Hp} {k : PV} {y : V} (h : isK k = true) (r : Rep K G W H k y) : ∃ q, KeyR k q ∧ y = kV q := by
  cases r <;> first | exact ⟨_, .int _, rfl⟩ | exact ⟨_, .str _, rfl⟩ | (simp [isK] at h)
section
variable {X : Cx} {G : GE} {C : Cxt}
theorem dc_turn {ρ1 : Pr} {H1 : Hp} {D : Addr} {ls : Lcs} {σ : L2.St} {μ2 μ3 : Sto} {acc acc' : List (PV × PV)} {H' H3 : Hp} {kx' vx' cond' : E} {tg' : Tg} {x : PV} {v : V} {ro : Option (PV × PV)} {Nx : Hp → Prop} (hD : H1 D = none) (hDf : D ∉ ρ1.fo)
    {st2 : List Addr} {vs : List (Key × V)} (x1 : Ext ρ1 H1 ⟨st2, ρ1.fo⟩ H') (s2 : RelSt X.K G ⟨st2, D :: ρ1.fo⟩ μ2 H') (hDv : H' D = some (.dK vs)) (ra : RepD X.K G (⟨st2, D :: ρ1.fo⟩ : Pr).W H' acc vs) (rl : RelL X.K G ⟨st2, D :: ρ1.fo⟩ H' ls σ)
    (sm : Same H' H3) (hx : Rep X.K G (⟨st2, D :: ρ1.fo⟩ : Pr).W H3 x v) (hb : dcB C kx' vx' cond' tg' ls x μ2 = .ok ro μ3)
    (hn : dsnoc acc ro = some acc') (hN : ∀ H'', DcS X.K G ρ1 H1 D ls σ μ3 acc' H'' → Nx H'') :
    tG X.K G tg' v (L2.wipe σ (tgN tg')) H3 fun σ2 H2 => L2.wipe σ2 (tgN tg') = L2.wipe σ (tgN tg') ∧ tCn X.K G C cond' σ2 H2 fun b H3 =>
      if b = true then tE X.K G C kx' σ2 H3 fun y H4 => tE X.K G C vx' σ2 H4 fun z H5 => ∃ kvs k, y = kV k ∧ H5 D = some (.dK kvs) ∧ kvs.length < sizeLine ∧ Nx (upd H5 D (.dK (putK kvs k z))) else Nx H3 := by
  have es := Ext.same (ρ := (⟨st2, D :: ρ1.fo⟩ : Pr)) sm
  have hDst : D ∉ st2 := (s2.fl D (List.mem_cons_self ..)).2
  unfold dcB at hb
  split at hb
  · rename_i ls' e1
    obtain ⟨b, μ4, e2, f2⟩ := bind_eq hb
    refine ⟨⟨st2, D :: ρ1.fo⟩, x, wipeL ls (tgN tg'), ls', hx, (es.relL rl).wipe _, e1, fun σ2 rl2 off => ⟨wipe_off off, ?_⟩⟩
    refine ⟨⟨st2, D :: ρ1.fo⟩, μ2, ls', b, μ4, s2.same sm, rl2, e2, fun ρ4 H4 x4 s4 => ?_⟩
    have f4 : ρ4.fo = D :: ρ1.fo := x4.fo
    have hD4 : H4 D = some (.dK vs) := x4.frame _ _ (sm _ _ hDv) (.inl hDst)
    have y4 : Ext ρ1 H1 ⟨ρ4.st, ρ1.fo⟩ H4 := x1.trans ((Ext.same (ρ := (⟨st2, ρ1.fo⟩ : Pr)) sm).trans ⟨x4.more, rfl, x4.frame, x4.dom⟩)
    obtain ⟨st4, fo4⟩ := ρ4
    simp only at f4 y4
    subst f4
    have ra4 := (ra.ext es.w.frW es.w.mem).ext x4.w.frW x4.w.mem
    cases b with
    | false =>
      rw [iteB_f] at f2
      cases f2
      cases hn
      simp only [Bool.false_eq_true, if_false]
      exact hN _ ⟨st4, vs, y4, s4, hD4, ra4, x4.relL (es.relL rl)⟩
    | true =>
      rw [iteB_t] at f2
      obtain ⟨rk, μ5, e5, f5⟩ := bind_eq f2
      obtain ⟨r, μ6, e6, f6⟩ := bind_eq f5
      obtain ⟨f7, rfl⟩ := opt_eq f6
      obtain ⟨k, p, g1, g2, rfl⟩ : ∃ k p, kp rk = some k ∧ kp r = some p ∧ ro = some (k, p) := by
        unfold dcP at f7
        split at f7
        · rename_i k p g1 g2
          cases f7
          exact ⟨k, p, g1, g2, rfl⟩
        · cases f7
      simp only [if_true]
      refine ⟨⟨st4, D :: ρ1.fo⟩, μ4, ls', rk, _, s4, x4.relL rl2, e5, fun ρ5 H5 y x5 s5 r5 => ?_⟩
      have f5' : ρ5.fo = D :: ρ1.fo := x5.fo
      obtain ⟨st5, fo5⟩ := ρ5
      simp only at f5'
      subst f5'
      have hDst4 : D ∉ st4 := (s4.fl D (List.mem_cons_self ..)).2
      have hD5 : H5 D = some (.dK vs) := x5.frame _ _ hD4 (.inl hDst4)
      have y5 : Ext ρ1 H1 ⟨st5, ρ1.fo⟩ H5 := y4.trans ⟨x5.more, rfl, x5.frame, x5.dom⟩
      have rk5 : Rep X.K G (⟨st5, D :: ρ1.fo⟩ : Pr).W H5 k y := r5.p.kp g1
      refine ⟨⟨st5, D :: ρ1.fo⟩, _, ls', r, _, s5, x5.relL (x4.relL rl2), e6, fun ρ6 H6 z x6 s6 r6 => ?_⟩
      have f6' : ρ6.fo = D :: ρ1.fo := x6.fo
      obtain ⟨st6, fo6⟩ := ρ6
      simp only at f6'
      subst f6'
      have hDst5 : D ∉ st5 := (s5.fl D (List.mem_cons_self ..)).2
      have hDst6 : D ∉ st6 := (s6.fl D (List.mem_cons_self ..)).2
      have hD6 : H6 D = some (.dK vs) := x6.frame _ _ hD5 (.inl hDst5)
      have y6 : Ext ρ1 H1 ⟨st6, ρ1.fo⟩ H6 := y5.trans ⟨x6.more, rfl, x6.frame, x6.dom⟩
      have hlen := ra.length
      have hz : isK k = true ∧ acc.length < SZ ∧ acc' = dput acc k p := by
        unfold dsnoc at hn
        simp only at hn
        split at hn
        · rename_i h
          cases hn
          simp only [Bool.and_eq_true, decide_eq_true_eq] at h
          exact ⟨h.1, h.2, rfl⟩
        · cases hn
      obtain ⟨hk, hz, rfl⟩ := hz
      obtain ⟨q, kq, rfl⟩ := key_of hk rk5
      have ra6 := (ra4.ext x5.w.frW x5.w.mem).ext x6.w.frW x6.w.mem
      have rp : Rep X.K G (⟨st6, D :: ρ1.fo⟩ : Pr).W H6 p z := r6.p.kp g2
      have fr : Frame (⟨st6, D :: ρ1.fo⟩ : Pr).W H6 (upd H6 D (.dK (putK vs q z))) := upd_fo (K := X.K) (List.mem_append_right _ (List.mem_cons_self ..)) hD6 rfl
      refine ⟨vs, q, rfl, hD6, by rw [← hlen, ← sz_eq]; exact hz, hN _ ⟨st6, putK vs q z, ⟨y6.more, rfl, fun b o e hb => ?_, fun b e => ?_⟩, s6.updF (List.mem_cons_self ..) hD6 rfl, upd_same, (ra6.put kq rp).ext fr fun _ z => .inl z, (x6.relL (x5.relL (x4.relL (es.relL rl)))).updF (List.mem_cons_self ..) hD6 rfl⟩⟩
      · rw [upd_ne (ne_of_none e hD)]
        exact y6.frame b o e hb
      · have hb : b ≠ D := fun z => e (z ▸ hD)
        rw [upd_ne hb]
        exact y6.dom b e
  · cases hb
/-- a walk of values, from its start -/
theorem dc_walk {ρ1 : Pr} {H1 : Hp} {D : Addr} {ls : Lcs} {σ : L2.St} {μ1 μ' : Sto} {xs : List PV} {ys : List (PV × PV)} {J : It} {Q : VK} {kx' vx' cond' : E} {tg' : Tg} (s1 : RelSt X.K G ρ1 μ1 H1) (rl : RelL X.K G ρ1 H1 ls σ) (hD : H1 D = none) (wks : Wks X.K G ρ1 H1 xs J)
    (f2 : dclL (dcB C kx' vx' cond' tg' ls) xs [] μ1 = .ok ys μ') (fin : ∀ H', DcS X.K G ρ1 H1 D ls σ μ' ys H' → Q (.ref D) H') :
    ∃ W : Nat → Nat → Hp → Prop, (∃ m, W 0 m (upd H1 D (.dK []))) ∧ ∀ i m H, W i m H →
      (J.stop i H ∧ Q (.ref D) H) ∨ (J.go i H ∧ ∃ Nx : Hp → Prop, (∀ H', Nx H' → ∃ m', m' < m ∧ W (i + 1) m' H') ∧ ∀ x H', J.yld i H x H' → tG X.K G tg' x (L2.wipe σ (tgN tg')) H' fun σ2 H2 => L2.wipe σ2 (tgN tg') = L2.wipe σ (tgN tg') ∧ tCn X.K G C cond' σ2 H2 fun b H3 =>
        if b = true then tE X.K G C kx' σ2 H3 fun y H4 => tE X.K G C vx' σ2 H4 fun z H5 => ∃ kvs k, y = kV k ∧ H5 D = some (.dK kvs) ∧ kvs.length < sizeLine ∧ Nx (upd H5 D (.dK (putK kvs k z))) else Nx H3) := by
  have hDf : D ∉ ρ1.fo := fun z => (s1.fl D z).1 hD
  have S0 : DcS X.K G ρ1 H1 D ls σ μ1 [] (upd H1 D (.dK [])) := by
    refine ⟨ρ1.st, [], Ext.same (same_upd hD), s1.add (same_upd hD) hD (by rw [upd_same]; simp), upd_same, .nil, ?_⟩
    refine Paired.mapP rl fun o w h q hq => ?_
    obtain ⟨v, e5, e6⟩ := h q hq
    refine ⟨v, e5, ?_⟩
    cases q with
    | v p =>
      have e6' : Rep X.K G ρ1.W H1 p v := e6
      exact e6'.ext (fun b o q _ => same_upd hD b o q) fun b hb => (mem_add hb).elim (fun z => .inr (z ▸ hD)) .inl
    | loc n => exact e6
    | new p => exact e6
  refine ⟨fun i m H' => m = xs.length - i ∧ i ≤ xs.length ∧ ∃ acc μ2, DcS X.K G ρ1 H1 D ls σ μ2 acc H' ∧ dclL (dcB C kx' vx' cond' tg' ls) (xs.drop i) acc μ2 = .ok ys μ', ⟨_, rfl, Nat.zero_le _, [], μ1, S0, f2⟩, ?_⟩
  rintro i m H' ⟨rfl, hi, acc, μ2, S, fl⟩
  have S' := S.ex
  obtain ⟨st2, vs, y1, s2, hDv, ra, rl2⟩ := S'
  have xw := wks ⟨st2, ρ1.fo⟩ H' y1.w fun a ha => live s2 a ((List.mem_append.mp ha).elim (fun z => List.mem_append_left _ z) fun z => List.mem_append_right _ (List.mem_cons_of_mem _ z))
  by_cases hlt : i < xs.length
  · rw [List.drop_eq_getElem_cons hlt] at fl
    simp only [dclL] at fl
    obtain ⟨ro, μ3, g1, g2⟩ := bind_eq fl
    split at g2
    · rename_i acc' g3
      obtain ⟨go, yl⟩ := xw.1 i xs[i] (List.getElem?_eq_getElem hlt)
      refine .inr ⟨go, fun H'' => DcS X.K G ρ1 H1 D ls σ μ3 acc' H'', fun H'' S2 => ⟨xs.length - (i + 1), by omega, rfl, hlt, acc', μ3, S2, g2⟩, fun v H3 yy => ?_⟩
      obtain ⟨sm, rx⟩ := yl v H3 yy
      refine dc_turn hD hDf y1 s2 hDv ra rl2 sm ?_ g1 g3 fun _ h => h
      have w2 := wks ⟨st2, D :: ρ1.fo⟩ H' ⟨fun n a h => y1.get h, lc_hW hD y1, y1.frW⟩ (live s2)
      exact ((w2.1 i xs[i] (List.getElem?_eq_getElem hlt)).2 v H3 yy).2
    · cases g2
  · have hi' : xs.drop i = [] := List.drop_eq_nil_of_le (by omega)
    rw [hi'] at fl
    cases fl
    exact .inl ⟨xw.2 i (by omega), fin H' S⟩
def tDcd (b : Bool) (K : PySem.W.Frag) (G : GE) (C : Cxt) (j : Nat) (kx' vx' cond' : E) (tg' : Tg) : TE := tDc (iD b (tVar j)) (tG K G tg') (tCn K G C cond') (tE K G C kx') (tE K G C vx') (tgN tg')
/-- the store ahead of a walk of the dict that stands at a, as it is afterwards -/
theorem s_dc {b : Bool} {j : Nat} {kx' vx' cond' : E} {tg' : Tg} : ∀ σ H Q, tE X.K G C (.dc b kx' vx' tg' (.var j) cond') σ H Q → tLockE (tDcd b X.K G C j kx' vx' cond' tg') σ H Q ∨ tDcd b X.K G C j kx' vx' cond' tg' σ H Q := by
  intro σ H Q h
  obtain ⟨ρ, μ, ls, r, μ', st, rl, e, k⟩ := h
  simp only [ev] at e
  obtain ⟨rv, μ1, e1, f1⟩ := bind_eq e
  simp only [lvR] at e1
  split at e1
  case h_2 => cases e1
  rename_i r0 e0
  cases e1
  obtain ⟨v0, hσ, rv0⟩ := rl.get e0
  have walk : ∀ {H2 : Hp} {μ2 μ3 : Sto} {a : Addr} {ds : List (Key × V)} {od : Obj} {ks ys : List (PV × PV)} {Q2 : VK}, v0 = .ref a → RelSt X.K G ρ μ2 H2 → RelL X.K G ρ H2 ls σ → H2 a = some (.frz od (.dK ds)) → RepD X.K G ρ.W H2 ks ds → dclL (dcB C kx' vx' cond' tg' ls) (dwk b ks) [] μ2 = .ok ys μ3 →
      (∀ st2 vs D H', Ext ρ H2 ⟨st2, ρ.fo⟩ H' → RelSt X.K G ⟨st2, D :: ρ.fo⟩ μ3 H' → H2 D = none → D ∉ ρ.fo → H' D = some (.dK vs) → RepD X.K G (⟨st2, D :: ρ.fo⟩ : Pr).W H' ys vs → Q2 (.ref D) H') → tDcd b X.K G C j kx' vx' cond' tg' σ H2 Q2 := fun {H2 μ2 μ3 a ds od ks ys Q2} ev0 s2 rl2 h2 rd2 f2 fin => by
    subst ev0
    refine iD_of hσ h2 fun D hD => ?_
    refine dc_walk (X := X) (Q := Q2) s2 rl2 hD (wks_dwk h2 rd2) f2 fun H' S => ?_
    obtain ⟨st2, vs, y1, s3, hDv, ra, _⟩ := S.ex
    exact fin st2 vs D H' y1 s3 hD (fun z => (s2.fl D z).1 hD) hDv ra
  have back : ∀ {a : Addr} {ds : List (Key × V)} {od : Obj} {H' : Hp} {st2 : List Addr} {vs : List (Key × V)} {D : Addr} {ys : List (PV × PV)} {μ3 μf : Sto}, H a = some (.dK ds) → Ext ρ (upd H a (.frz od (.dK ds))) ⟨st2, ρ.fo⟩ H' → RelSt X.K G ⟨st2, D :: ρ.fo⟩ μ3 H' → upd H a (.frz od (.dK ds)) D = none → D ∉ ρ.fo → H' D = some (.dK vs) → RepD X.K G (⟨st2, D :: ρ.fo⟩ : Pr).W H' ys vs →
      (Lk H' (upd H' a (.dK ds)) a ds → H' a = some (.frz od (.dK ds)) → RelSt X.K G ⟨st2, D :: ρ.fo⟩ μf (upd H' a (.dK ds))) → μ' = μf → r = .new (.dct ys) → H' a = some (.frz od (.dK ds)) ∧ Q (.ref D) (upd H' a (.dK ds)) := fun {a ds od H' st2 vs D ys μ3 μf} hd x1 s3 hD hDf hDv ra hs eμ er => by
    subst eμ er
    have ha : H' a = some (.frz od (.dK ds)) := x1.frame _ _ upd_same (.inr rfl)
    have L : Lk H' (upd H' a (.dK ds)) a ds := ⟨.inr ⟨od, ha⟩, .inl upd_same, fun b hb => upd_ne hb⟩
    have sf := hs L ha
    have hDa : D ≠ a := fun z => by rw [z, upd_same] at hD; cases hD
    have hD0 : H D = none := by rw [upd_ne hDa] at hD; exact hD
    have hDst : D ∉ st2 := (s3.fl D (List.mem_cons_self ..)).2
    refine ⟨ha, k ⟨st2, ρ.fo⟩ _ _ ⟨?_, rfl, fun b o e hb => ?_, fun b e => ?_⟩ (sf.drop (ρ := ⟨st2, D :: ρ.fo⟩) fun b hb => List.mem_cons_of_mem _ hb) ⟨D, _, rfl, hD0, fun z => (List.mem_append.mp z).elim hDst hDf, (upd_ne hDa).trans hDv, rfl, .dct (ra.lk L), sf⟩⟩
    · obtain ⟨nw, n1, n2⟩ := x1.more
      refine ⟨nw, n1, fun b hb => ?_⟩
      have := n2 b hb
      by_cases z : b = a
      · subst z; rw [upd_same] at this; cases this
      · rw [upd_ne z] at this; exact this
    · by_cases z : b = a
      · subst z
        rw [hd] at e
        cases e
        exact upd_same
      · rw [upd_ne z]
        exact x1.frame b o ((upd_ne z).trans e) hb
    · by_cases z : b = a
      · subst z; rw [upd_same]; simp
      · rw [upd_ne z]
        exact x1.dom b (by rw [upd_ne z]; exact e)
  unfold dcR at f1
  split at f1
  · rename_i ks
    obtain ⟨ys, μ3, f2, f3⟩ := bind_eq f1
    cases f3
    have rv1 : Rep X.K G ρ.W H (.dct ks) v0 := rv0
    cases rv1 with
    | dct hd hn rd =>
      rename_i a ds
      rcases hd with hd | ⟨od, hd⟩
      · left
        refine ⟨a, .dK ds, hd, trivial, fun od => ?_⟩
        have L : Lk H (upd H a (.frz od (.dK ds))) a ds := ⟨.inl hd, .inr ⟨od, upd_same⟩, fun b hb => upd_ne hb⟩
        have na : a ∉ ρ.st := fun z => hn (List.mem_append_left _ z)
        refine walk rfl (st.lkV L na) (rl.lk L) upd_same (rd.lk L) f2 fun st2 vs D H' x1 s3 hD hDf hDv ra => ?_
        refine back hd x1 s3 hD hDf hDv ra (fun L2 ha => s3.lkV L2 fun z => ?_) rfl rfl
        rcases x1.memS a z with z | z
        · exact na z
        · rw [upd_same] at z; cases z
      · right
        refine walk rfl st rl hd rd f2 fun st2 vs D H' x1 s3 hD hDf hDv ra => ?_
        have hDst : D ∉ st2 := (s3.fl D (List.mem_cons_self ..)).2
        exact k ⟨st2, ρ.fo⟩ _ _ x1 (s3.drop (ρ := ⟨st2, D :: ρ.fo⟩) fun b hb => List.mem_cons_of_mem _ hb) ⟨D, _, rfl, hD, fun z => (List.mem_append.mp z).elim hDst hDf, hDv, rfl, .dct ra, s3⟩
  · cases f1
end
/-! s.startswith(t) -/
theorem starts_eq (s t : List Nat) : PySem.Txt.startswith (⟨s.toArray⟩ : Str) ⟨t.toArray⟩ = t.isPrefixOf s := by
  unfold PySem.Txt.startswith
  rw [PySem.StrLaws.subAt_eq]
  have h1 : (⟨s.toArray⟩ : Str).length = s.length := by simp [Str.length]
  have h2 : (⟨t.toArray⟩ : Str).length = t.length := by simp [Str.length]
  rw [h1, h2]
  rw [Bool.eq_iff_iff]
  simp only [Nat.zero_add, Bool.and_eq_true, decide_eq_true_eq, List.drop_zero, beq_iff_eq, List.isPrefixOf_iff_prefix]
  constructor
  · rintro ⟨_, h⟩
    exact List.prefix_iff_eq_take.mpr h.symm
  · intro h
    exact ⟨h.length_le, (List.prefix_iff_eq_take.mp h).symm⟩
section
variable {X : Cx} {G : GE} {C : Cxt}
theorem starts_ok : MtR X "str.startswith" (rMe X.K G .startswith) := by
  rintro pins s σ H x xs v us Q I rx rs ⟨ρ, μ, p, ps, r, p', hl, hp, hps, e, hQ⟩
  cases hp with
  | str sep =>
    cases hps with
    | nil => simp [me] at e
    | cons h1 t =>
      cases t with
      | cons h2 t => cases h1 <;> simp [me] at e
      | nil =>
        cases h1 with
        | str t =>
          simp only [me] at e
          cases e
          exact mt_startswith pins s σ H _ _ v us Q I rx rs ⟨_, _, rfl, rfl, by rw [starts_eq]; exact hQ.val (.bl _)⟩
        | _ => simp [me] at e
  | _ => cases hps with
    | nil => simp [me] at e
    | cons h1 t => cases h1 <;> cases t <;> simp [me] at e
theorem s_starts {o e : Expr} {es : List Expr} {o' as : E} {ap p : Pos}
    (hb : (match o with | .Name .. => true | .Constant .. => true | _ => false) = true) (hl : (ap.endLine == p.line) = true) (hf : (e :: es).length < 30) (hs : ∀ y ∈ e :: es, starB y = false) (ho : PE X o (tE X.K G C o')) (ha : PA X (e :: es) (tA X.K G C as)) :
    PE X (.Call (.Attribute o "startswith" ap) (e :: es) [] p) (tE X.K G C (.me .startswith o' as)) := by
  refine (pe_bm PySem.F.plainAttrs_str PySem.F.slot_str_startswith PySem.F.type_str_startswith (starts_ok (G := G)) ho ha (name_base hb) (few_ok hs hf X.env p) hl (star_ok (hs e (List.mem_cons_self ..)) es X.env) (star_all (fun y hy => hs y (List.mem_cons_of_mem _ hy)) X.env p)).imp fun σ H Q h => ?_
  obtain ⟨ρ, μ, ls, r, μ', st, rl, e, k⟩ := h
  simp only [ev] at e
  obtain ⟨x, μ1, e1, f1⟩ := bind_eq e
  have isS : ∀ {pp : PV} {ps : List PV} {z : RV × PV}, me .startswith pp ps = some z → ∃ sep, pp = .str sep := fun {pp ps z} h => by
    cases pp <;> first | exact ⟨_, rfl⟩ | (simp [me] at h)
  have mk : meK .startswith x μ1 = true := by
    cases h : meK .startswith x μ1 with
    | true => rfl
    | false => rw [h, iteB_f] at f1; cases f1
  rw [mk, iteB_t] at f1
  obtain ⟨rs, μ2, e2, f2⟩ := bind_eq f1
  unfold meR at f2
  split at f2
  · rename_i n ps e3
    split at f2
    · rename_i pp e4
      split at f2
      · rename_i r0 p' e5
        rw [if_neg (by decide)] at f2
        cases f2
      · cases f2
    · cases f2
  · rename_i pp ps e3
    rw [if_neg (by decide)] at f2
    split at f2
    · rename_i r0 p' e5
      have f3 : R.ok r0 μ2 = R.ok r μ' := by
        simp only [keepA] at f2
        split at f2
        · exact f2
        · cases f2
      cases f3
      obtain ⟨sep, rfl⟩ := isS e5
      refine ⟨ρ, μ, ls, _, μ1, st, rl, e1, fun ρ1 H1 v x1 s1 r1 => ?_⟩
      have r1' : Rep X.K G ρ1.W H1 (.str sep) v := r1
      cases r1'
      refine ⟨rfl, ρ1, μ1, ls, rs, _, s1, x1.relL rl, e2, fun ρ2 H2 vs x2 s2 r2 => ?_⟩
      exact ⟨ρ2, _, .str sep, ps, r, p', s2, .str sep, rds_rel s2 (r2.p s2) e3, e5, fin_of s2 (x1.trans x2) k⟩
    · cases f2
  · cases f2
end
end Z

set_option maxHeartbeats 4000000
/-! Z over the hand layer: enumerate over tuples, texts, a zip of two texts. -/
namespace ZI
open PySem PySem.Spec L2
section
variable {prog : Program} {w : World} {A : Around} {E : Value → Shared → Prop} {s : Shared}
theorem wpAny_alive {M : Model} {a : Addr} {r : Option Obj} {Q : Option Obj → Shared → Prop} (h : s.heap.get? a = r) (q : Q r s) : wpAny M A (loadIfAlive a) Q E s := fun Γ p hΓ => by
  unfold loadIfAlive
  rw [Sem.wp_loadIfAlive, h]
  exact wpAny_pure (M := M) (A := A) (E := E) q Γ p hΓ
/-- a zip, whether its own tuple is out or not -/
abbrev ZF (h : Heap) (z TI TO : Addr) (f0 : Value) (b : Bool) : Prop := h.get? z = some { cls := .type "zip", dict := none, data := .fields #[f0, .bool b, .bool false, .ref TI, .ref TO], slots := #[] }
def Fz (f0 : Value) : Prop := f0 = .none ∨ ∃ T : Addr, f0 = rawInt T
theorem zfree {z TI TO : Addr} {f0 : Value} {b : Bool} {Q : Bool → Shared → Prop} (hz : ZF s.heap z TI TO f0 b) (hf : Fz f0) (qt : Q true s)
    (qf : ∀ h', ZF h' z TI TO f0 true → Heap.SameBut z s.heap h' → Q false { s with heap := h' }) : wpAny (model prog w) A (Builtin.SmallTypes.ownedTupleIsFree (.ref z)) Q E s := by
  unfold Builtin.SmallTypes.ownedTupleIsFree
  refine wpAny_bind (wpAny_field hz rfl (x := f0) rfl ?_)
  rcases hf with rfl | ⟨T, rfl⟩
  · exact wpAny_pure qt
  show wpAny _ _ (loadIfAlive ((T : Int)).toNat >>= _) _ _ _
  rw [Int.toNat_natCast]
  refine wpAny_bind (wpAny_alive (r := s.heap.get? T) rfl ?_)
  cases hT : s.heap.get? T with
  | none =>
    simp only [Option.isNone_none, if_true]
    exact wpAny_pure qt
  | some oT =>
    simp only [Option.isNone_some, Bool.false_eq_true, if_false]
    refine wpAny_bind (wpAny_field hz rfl (x := .bool b) rfl ?_)
    cases b with
    | false =>
      rw [if_pos (by decide)]
      refine wpAny_bind (wpAny_setField_rec hz (by simp) fun h' hz' hs' => ?_)
      exact wpAny_pure (qf h' hz' hs')
    | true =>
      rw [if_neg (by decide)]
      exact wpAny_pure (qf s.heap hz (Heap.SameBut.refl _ _))
section
variable {z TI TO i1 i2 : Addr} {fp1 fp2 : List Addr} {n1 n2 i : Nat} {P1 P2 : Nat → Value → Prop} {St1 St2 : Nat → Heap → Prop} {f0 : Value} {b : Bool}
/-- zip's next item, whatever has become of the pair given out last -/
theorem zitem {Q : Value → Shared → Prop} (Z : ZipSep2 z TI TO i1 i2 fp1 fp2) (D1 : Draws prog w A i1 fp1 n1 P1 St1) (D2 : Draws prog w A i2 fp2 n2 P2 St2)
    (hz : ZF s.heap z TI TO f0 b) (hf : Fz f0) (hTI : IsTupOf2 s.heap TI (.ref i1) (.ref i2)) (hTO : ∃ p q, IsTupOf2 s.heap TO p q) (t1 : St1 i s.heap) (t2 : St2 i s.heap) (lt1 : i < n1) (lt2 : i < n2)
    (hQ : ∀ x y h' tk g0 c, P1 i x → P2 i y → ZF h' z TI TO g0 c → Fz g0 → (∃ p q, IsTupOf2 h' TO p q) → St1 (i + 1) h' → St2 (i + 1) h' → IsTupOf2 h' s.heap.objs.size x y → h'.objs.size = s.heap.objs.size + 1 →
      (∀ a o, a ≠ z → a ≠ TO → a ≠ i1 → a ≠ i2 → s.heap.get? a = some o → h'.get? a = some o) → Q (.ref s.heap.objs.size) { s with heap := h', toks := tk }) :
    wpAny (model prog w) A (Builtin.«zip.__next__» ⟨[.ref z], []⟩) (fun fin s' => ∃ v, fin = .done (.ret v) ∧ Q v s') E s := by
  obtain ⟨h0, gs, dr, k0, os⟩ := s
  obtain ⟨p0, q0, hTO⟩ := hTO
  show wpAny _ _ (field (.ref z) 2 >>= _) _ _ _
  refine wpAny_bind (wpAny_field hz rfl (x := .bool false) rfl ?_)
  show wpAny _ _ (field (.ref z) 3 >>= _) _ _ _
  refine wpAny_bind (wpAny_field hz rfl (x := .ref TI) rfl ?_)
  refine wpAny_bind (wpAny_seqItems hTI rfl ?_)
  refine wpAny_bind (zfree hz hf ?_ fun ha za sa => ?_)
  · -- the pair is free again
    simp only [if_true]
    refine wpAny_bind (wpAny_rule (wpAny_bind (wpAny_field hz rfl (x := .ref TO) rfl ?_)))
    refine wpAny_bind (wpAny_setField_rec hz (by simp) fun ha za sa => ?_)
    replace za : ZF ha z TI TO .ellipsis b := za
    replace sa : Heap.SameBut z h0 ha := sa
    refine wpAny_bind ?_
    simp only [List.zipIdx_cons, List.zipIdx_nil, List.forIn_cons, List.forIn_nil]
    refine wpAny_bind (wpAny_bind (wpAny_onRaise ?_))
    show wpAny _ _ (Builtin.SmallTypes.nextOf (.ref i1) >>= _) _ _ ⟨ha, gs, dr, k0, os⟩
    refine wpAny_bind (D1.item i _ _ _ lt1 (D1.over t1 sa Z.zf1) fun x hb kb px ub sb => wpAny_pure ?_)
    replace sb : Heap.SameBut i1 ha hb := sb
    have TOb : IsTupOf2 hb TO p0 q0 := sb.extBut _ _ Z.Ti1 (sa.extBut _ _ Z.TOz hTO)
    refine wpAny_bind (wpAny_seqItems (s := ⟨hb, gs, dr, kb, os⟩) TOb rfl ?_)
    refine wpAny_bind (updateSeq_IsTupOf2 (s := ⟨hb, gs, dr, kb, os⟩) TOb fun hc TOc sc => ?_)
    replace TOc : IsTupOf2 hc TO x q0 := TOc
    replace sc : Heap.SameBut TO hb hc := sc
    refine wpAny_bind (wpAny_letGo (wpAny_pure (wpAny_bind (wpAny_bind (wpAny_onRaise ?_)))))
    show wpAny _ _ (Builtin.SmallTypes.nextOf (.ref i2) >>= _) _ _ ⟨hc, gs, dr, kb, os⟩
    refine wpAny_bind (D2.item i _ _ _ lt2 (D2.over (D2.over (D2.over t2 sa Z.zf2) sb Z.sep1_2) sc Z.Tf2) fun y hd kd py ud sd => wpAny_pure ?_)
    replace sd : Heap.SameBut i2 hc hd := sd
    have TOd : IsTupOf2 hd TO x q0 := sd.extBut _ _ Z.Ti2 TOc
    refine wpAny_bind (wpAny_seqItems (s := ⟨hd, gs, dr, kd, os⟩) TOd rfl ?_)
    refine wpAny_bind (updateSeq_IsTupOf2 (s := ⟨hd, gs, dr, kd, os⟩) TOd fun he TOe se => ?_)
    replace TOe : IsTupOf2 he TO x y := TOe
    replace se : Heap.SameBut TO hd he := se
    refine wpAny_bind (wpAny_letGo (wpAny_pure (wpAny_pure (wpAny_bind (wpAny_seqItems (s := ⟨he, gs, dr, kd, os⟩) TOe rfl (wpAny_bind (wpAny_newTuple ?_)))))))
    have sz : he.objs.size = h0.objs.size := by rw [se.1, sd.1, sc.1, sb.1, sa.1]
    have ze : ZF he z TI TO .ellipsis b := se.extBut _ _ Z.TOz.symm (sd.extBut _ _ Z.zi2 (sc.extBut _ _ Z.TOz.symm (sb.extBut _ _ Z.zi1 za)))
    have ke : ∀ a o, a ≠ z → a ≠ TO → a ≠ i1 → a ≠ i2 → h0.get? a = some o → he.get? a = some o := fun a o n1 n2 n3 n4 q => se.extBut _ _ n2 (sd.extBut _ _ n4 (sc.extBut _ _ n2 (sb.extBut _ _ n3 (sa.extBut _ _ n1 q))))
    have u1 : St1 (i + 1) he := D1.over (D1.over (D1.over ub sc Z.Tf1) sd Z.sep2_1) se Z.Tf1
    have u2 : St2 (i + 1) he := D2.over ud se Z.Tf2
    have zl : z < he.objs.size := Heap.lt_size ze
    show wpAny _ _ (Builtin.SmallTypes.ownedTupleHandOut (.ref z) (.ref he.objs.size) >>= _) _ _ ⟨he.push { cls := .type "tuple", data := .seq #[x, y] }, gs, dr, kd, os⟩
    refine wpAny_bind ?_
    unfold Builtin.SmallTypes.ownedTupleHandOut
    have zp : ZF (he.push { cls := .type "tuple", data := .seq #[x, y] }) z TI TO .ellipsis b := Heap.get?_push_of_some _ ze
    refine wpAny_bind (wpAny_setField_rec zp (by simp) fun hg zg sg => ?_)
    replace zg : ZF hg z TI TO (rawInt he.objs.size) b := zg
    refine wpAny_setField_rec zg (by simp) fun hh zh sh => ?_
    replace zh : ZF hh z TI TO (rawInt he.objs.size) false := zh
    replace sg : Heap.SameBut z (he.push { cls := .type "tuple", data := .seq #[x, y] }) hg := sg
    replace sh : Heap.SameBut z hg hh := sh
    have up : ∀ a o, a ≠ z → he.get? a = some o → hh.get? a = some o := fun a o n q => sh.extBut _ _ n (sg.extBut _ _ n (Heap.get?_push_of_some _ q))
    have Th : IsTupOf2 hh he.objs.size x y := sh.extBut _ _ (Nat.ne_of_gt zl) (sg.extBut _ _ (Nat.ne_of_gt zl) (Heap.get?_push_size _ rfl))
    have szh : hh.objs.size = he.objs.size + 1 := by rw [sh.1, sg.1, Heap.size_push]
    refine wpAny_pure ⟨_, rfl, ?_⟩
    show Q (.ref he.objs.size) ⟨hh, gs, dr, kd, os⟩
    rw [sz] at zh Th szh ⊢
    exact hQ x y hh kd _ _ px py zh (.inr ⟨_, rfl⟩) ⟨_, _, up _ _ Z.TOz TOe⟩ (D1.frame _ _ _ u1 fun a ha o q => up a o (fun e => Z.zf1 (e ▸ ha)) q) (D2.frame _ _ _ u2 fun a ha o q => up a o (fun e => Z.zf2 (e ▸ ha)) q) Th szh
      fun a o n1 n2 n3 n4 q => up a o n1 (ke a o n1 n2 n3 n4 q)
  · -- the pair is held by another: a new one is made
    replace za : ZF ha z TI TO f0 true := za
    replace sa : Heap.SameBut z h0 ha := sa
    simp only [Bool.false_eq_true, if_false]
    refine wpAny_bind ?_
    simp only [← Array.forIn_toList, List.forIn_cons, List.forIn_nil]
    refine wpAny_bind (wpAny_bind (wpAny_holding ?_))
    show wpAny _ _ (Builtin.SmallTypes.nextOf (.ref i1) >>= _) _ _ ⟨ha, gs, dr, k0, os⟩
    refine wpAny_bind (D1.item i _ _ _ lt1 (D1.over t1 sa Z.zf1) fun x hb kb px ub sb => wpAny_pure ?_)
    replace sb : Heap.SameBut i1 ha hb := sb
    refine wpAny_pure (wpAny_bind (wpAny_bind (wpAny_holding ?_)))
    show wpAny _ _ (Builtin.SmallTypes.nextOf (.ref i2) >>= _) _ _ ⟨hb, gs, dr, kb, os⟩
    refine wpAny_bind (D2.item i _ _ _ lt2 (D2.over (D2.over t2 sa Z.zf2) sb Z.sep1_2) fun y hd kd py ud sd => wpAny_pure ?_)
    replace sd : Heap.SameBut i2 hb hd := sd
    refine wpAny_pure (wpAny_pure (wpAny_bind (wpAny_newTuple ?_ (by show 2 ≤ sizeLine; rw [sizeLine_eq]; omega))))
    have sz : hd.objs.size = h0.objs.size := by rw [sd.1, sb.1, sa.1]
    have zd : ZF hd z TI TO f0 true := sd.extBut _ _ Z.zi2 (sb.extBut _ _ Z.zi1 za)
    have kd' : ∀ a o, a ≠ z → a ≠ i1 → a ≠ i2 → h0.get? a = some o → hd.get? a = some o := fun a o n1 n3 n4 q => sd.extBut _ _ n4 (sb.extBut _ _ n3 (sa.extBut _ _ n1 q))
    have u1 : St1 (i + 1) hd := D1.over ub sd Z.sep2_1
    have up : ∀ a o, hd.get? a = some o → (hd.push { cls := .type "tuple", data := .seq #[x, y] }).get? a = some o := fun a o q => Heap.get?_push_of_some _ q
    have Th : IsTupOf2 (hd.push { cls := .type "tuple", data := .seq #[x, y] }) hd.objs.size x y := Heap.get?_push_size _ rfl
    have szh : (hd.push { cls := .type "tuple", data := .seq #[x, y] }).objs.size = hd.objs.size + 1 := Heap.size_push ..
    refine wpAny_pure ⟨_, rfl, ?_⟩
    show Q (.ref hd.objs.size) ⟨hd.push { cls := .type "tuple", data := .seq #[x, y] }, gs, dr, kd, os⟩
    rw [sz] at Th szh ⊢
    exact hQ x y _ kd _ _ px py (up _ _ zd) hf ⟨_, _, up _ _ (kd' _ _ Z.TOz Z.Ti1 Z.Ti2 hTO)⟩ (D1.frame _ _ _ u1 fun a ha o q => up a o q) (D2.frame _ _ _ ud fun a ha o q => up a o q) Th szh
      fun a o n1 n2 n3 n4 q => up a o (kd' a o n1 n3 n4 q)
/-- both end at once -/
theorem zend {Q : Fin → Shared → Prop} (Z : ZipSep2 z TI TO i1 i2 fp1 fp2) (D1 : Draws prog w A i1 fp1 n1 P1 St1)
    (hz : ZF s.heap z TI TO f0 b) (hf : Fz f0) (hTI : IsTupOf2 s.heap TI (.ref i1) (.ref i2)) (t1 : St1 n1 s.heap)
    (hE : ∀ h' tk e, (∀ a o, a ≠ z → a ≠ TO → a ≠ i1 → a ≠ i2 → s.heap.get? a = some o → h'.get? a = some o) → (∃ o, h'.get? e = some o ∧ o.cls = .type "StopIteration") → E (.ref e) { s with heap := h', toks := tk }) :
    wpAny (model prog w) A (Builtin.«zip.__next__» ⟨[.ref z], []⟩) Q E s := by
  obtain ⟨h0, gs, dr, k0, os⟩ := s
  show wpAny _ _ (field (.ref z) 2 >>= _) _ _ _
  refine wpAny_bind (wpAny_field hz rfl (x := .bool false) rfl ?_)
  show wpAny _ _ (field (.ref z) 3 >>= _) _ _ _
  refine wpAny_bind (wpAny_field hz rfl (x := .ref TI) rfl ?_)
  refine wpAny_bind (wpAny_seqItems hTI rfl ?_)
  refine wpAny_bind (zfree hz hf ?_ fun ha za sa => ?_)
  · simp only [if_true]
    refine wpAny_bind (wpAny_rule (wpAny_bind (wpAny_field hz rfl (x := .ref TO) rfl ?_)))
    refine wpAny_bind (wpAny_setField_rec hz (by simp) fun ha za sa => ?_)
    replace za : ZF ha z TI TO .ellipsis b := za
    replace sa : Heap.SameBut z h0 ha := sa
    refine wpAny_bind ?_
    simp only [List.zipIdx_cons, List.zipIdx_nil, List.forIn_cons, List.forIn_nil]
    refine wpAny_bind (wpAny_bind (wpAny_onRaise ?_))
    show wpAny _ _ (Builtin.SmallTypes.nextOf (.ref i1) >>= _) _ _ ⟨ha, gs, dr, k0, os⟩
    refine wpAny_bind (D1.done ⟨ha, gs, dr, k0, os⟩ _ _ (D1.over t1 sa Z.zf1) fun hb e sb xe => ?_)
    replace sb : Heap.ExtBut i1 ha hb := sb
    obtain ⟨oe, ge, ce⟩ := xe
    replace ge : hb.get? e = some oe := ge
    have zb : ZF hb z TI TO .ellipsis b := sb _ _ Z.zi1 za
    have ne : e ≠ z := fun q => by
      subst q
      rw [zb] at ge
      cases ge
      simp at ce
    refine wpAny_setField_rec (s := ⟨hb, gs, dr, k0, os⟩) zb (by simp) fun hc _ sc => ?_
    replace sc : Heap.SameBut z hb hc := sc
    exact hE hc k0 e (fun a o n1 n2 n3 n4 q => sc.extBut _ _ n1 (sb _ _ n3 (sa.extBut _ _ n1 q))) ⟨oe, sc.extBut _ _ ne ge, ce⟩
  · replace za : ZF ha z TI TO f0 true := za
    replace sa : Heap.SameBut z h0 ha := sa
    simp only [Bool.false_eq_true, if_false]
    refine wpAny_bind ?_
    simp only [← Array.forIn_toList, List.forIn_cons, List.forIn_nil]
    refine wpAny_bind (wpAny_bind (wpAny_holding ?_))
    show wpAny _ _ (Builtin.SmallTypes.nextOf (.ref i1) >>= _) _ _ ⟨ha, gs, dr, k0, os⟩
    refine wpAny_bind (D1.done ⟨ha, gs, dr, k0, os⟩ _ _ (D1.over t1 sa Z.zf1) fun hb e sb xe => ?_)
    replace sb : Heap.ExtBut i1 ha hb := sb
    exact hE hb k0 e (fun a o n1 n2 n3 n4 q => sb _ _ n3 (sa.extBut _ _ n1 q)) xe
theorem znext {Q : Value → Shared → Prop} (Z : ZipSep2 z TI TO i1 i2 fp1 fp2) (D1 : Draws prog w A.in1 i1 fp1 n1 P1 St1) (D2 : Draws prog w A.in1 i2 fp2 n2 P2 St2)
    (hz : ZF s.heap z TI TO f0 b) (hf : Fz f0) (hTI : IsTupOf2 s.heap TI (.ref i1) (.ref i2)) (hTO : ∃ p q, IsTupOf2 s.heap TO p q) (t1 : St1 i s.heap) (t2 : St2 i s.heap) (lt1 : i < n1) (lt2 : i < n2)
    (hQ : ∀ x y h' tk g0 c, P1 i x → P2 i y → ZF h' z TI TO g0 c → Fz g0 → (∃ p q, IsTupOf2 h' TO p q) → St1 (i + 1) h' → St2 (i + 1) h' → IsTupOf2 h' s.heap.objs.size x y → h'.objs.size = s.heap.objs.size + 1 →
      (∀ a o, a ≠ z → a ≠ TO → a ≠ i1 → a ≠ i2 → s.heap.get? a = some o → h'.get? a = some o) → Q (.ref s.heap.objs.size) { s with heap := h', toks := tk }) :
    wpAny (model prog w) A (Builtin.SmallTypes.nextOf (.ref z)) Q E s := by
  have hT : s.TypeIs (.ref z) "zip" := ⟨_, hz, rfl⟩
  unfold Builtin.SmallTypes.nextOf
  refine wpAny_bind (wpAny_callSpecial?_slot (name := Str.ofString "__next__") hT F.slot_zip_next (wpAny_call_entry F.slot_zip_next hT F.entry_zip_next
    (zitem Z D1 D2 hz hf hTI hTO t1 t2 lt1 lt2 fun x y h' tk g0 c a1 a2 a3 a4 a5 a6 a7 a8 a9 a10 => ?_) (F.args_zip_next_1 _)))
  exact wpAny_pure (hQ x y h' tk g0 c a1 a2 a3 a4 a5 a6 a7 a8 a9 a10)
theorem zstop {Q : Value → Shared → Prop} (Z : ZipSep2 z TI TO i1 i2 fp1 fp2) (D1 : Draws prog w A.in1 i1 fp1 n1 P1 St1)
    (hz : ZF s.heap z TI TO f0 b) (hf : Fz f0) (hTI : IsTupOf2 s.heap TI (.ref i1) (.ref i2)) (t1 : St1 n1 s.heap)
    (hE : ∀ h' tk e, (∀ a o, a ≠ z → a ≠ TO → a ≠ i1 → a ≠ i2 → s.heap.get? a = some o → h'.get? a = some o) → (∃ o, h'.get? e = some o ∧ o.cls = .type "StopIteration") → E (.ref e) { s with heap := h', toks := tk }) :
    wpAny (model prog w) A (Builtin.SmallTypes.nextOf (.ref z)) Q E s := by
  have hT : s.TypeIs (.ref z) "zip" := ⟨_, hz, rfl⟩
  unfold Builtin.SmallTypes.nextOf
  exact wpAny_bind (wpAny_callSpecial?_slot (name := Str.ofString "__next__") hT F.slot_zip_next (wpAny_call_entry F.slot_zip_next hT F.entry_zip_next (zend Z D1 hz hf hTI t1 hE) (F.args_zip_next_1 _)))
end
section
variable {e it : Addr} {i : Nat} {old : Value} {Gd : Value → Heap → Prop}
/-- enumerate's next item, by what its iterator gives -/
theorem enext {Q : Value → Shared → Prop} (he : IsEnum s.heap e it i old)
    (hin : ∀ (Q' : Value → Shared → Prop), (∀ x h1 tk, Gd x h1 → IsEnum h1 e it i old → s.heap.objs.size ≤ h1.objs.size → Q' x { s with heap := h1, toks := tk }) → wpAny (model prog w) A (Builtin.SmallTypes.nextOf (.ref it)) Q' E s)
    (hQ : ∀ x h1 h' tk, Gd x h1 → s.heap.objs.size ≤ h1.objs.size → IsEnumOut h' e it ((i : Int) + 1) x h1.objs.size → h'.get? h1.objs.size = some { cls := .type "tuple", data := .seq #[.int i tk, x] } → h'.objs.size = h1.objs.size + 1 →
      (∀ a o, a ≠ e → h1.get? a = some o → h'.get? a = some o) → Q (.ref h1.objs.size) { s with heap := h', toks := tk + 1 }) :
    wpAny (model prog w) A (Builtin.«enumerate.__next__» ⟨[.ref e], []⟩) (fun fin s' => ∃ v, fin = .done (.ret v) ∧ Q v s') E s := by
  obtain ⟨h0, gs, dr, k0, os⟩ := s
  show wpAny _ _ (field (.ref e) 2 >>= _) _ _ _
  refine wpAny_bind (wpAny_field he rfl (x := .ref it) rfl ?_)
  refine wpAny_bind (hin _ fun x ha tk hG ea sza => ?_)
  show wpAny _ _ (field (.ref e) 3 >>= _) _ _ ⟨ha, gs, dr, tk, os⟩
  refine wpAny_bind (wpAny_field ea rfl (x := rawInt i) rfl ?_)
  show wpAny _ _ (field (.ref e) 4 >>= _) _ _ ⟨ha, gs, dr, tk, os⟩
  refine wpAny_bind (wpAny_field ea rfl (x := .none) rfl ?_)
  show wpAny _ _ (mkInt i >>= _) _ _ ⟨ha, gs, dr, tk, os⟩
  refine wpAny_bind (wpAny_mkInt ?_)
  show wpAny _ _ (setField (.ref e) 3 (rawInt ((i : Int) + 1)) >>= _) _ _ ⟨ha, gs, dr, tk + 1, os⟩
  refine wpAny_bind (wpAny_setField_rec ea (by simp) fun hb eb sb => ?_)
  replace sb : Heap.SameBut e ha hb := sb
  replace eb : IsEnum hb e it ((i : Int) + 1) old := eb
  show wpAny _ _ (setField (.ref e) 4 .none >>= _) _ _ ⟨hb, gs, dr, tk + 1, os⟩
  refine wpAny_bind (wpAny_setField_rec eb (by simp) fun hc ec sc => ?_)
  replace sc : Heap.SameBut e hb hc := sc
  replace ec : IsEnum hc e it ((i : Int) + 1) old := ec
  show wpAny _ _ (newTuple [.int i tk, x] >>= _) _ _ ⟨hc, gs, dr, tk + 1, os⟩
  refine wpAny_bind (wpAny_newTuple ?_)
  have szc : hc.objs.size = ha.objs.size := by rw [sc.1, sb.1]
  have el : e < hc.objs.size := Heap.lt_size ec
  have ed : IsEnum (hc.push { cls := .type "tuple", data := .seq #[.int i tk, x] }) e it ((i : Int) + 1) old := Heap.get?_push_of_some _ ec
  have Td : (hc.push { cls := .type "tuple", data := .seq #[.int i tk, x] }).get? hc.objs.size = some { cls := .type "tuple", data := .seq #[.int i tk, x] } := Heap.get?_push_size _ rfl
  have szd : (hc.push { cls := .type "tuple", data := .seq #[.int i tk, x] }).objs.size = hc.objs.size + 1 := Heap.size_push ..
  have kd : ∀ a o, a ≠ e → ha.get? a = some o → (hc.push { cls := .type "tuple", data := .seq #[.int i tk, x] }).get? a = some o := fun a o n q => Heap.get?_push_of_some _ (sc.extBut _ _ n (sb.extBut _ _ n q))
  show wpAny _ _ (Builtin.SmallTypes.ownedTupleIsFree (.ref e) >>= _) _ _ ⟨hc.push { cls := .type "tuple", data := .seq #[.int i tk, x] }, gs, dr, tk + 1, os⟩
  generalize hc.push { cls := .type "tuple", data := .seq #[.int i tk, x] } = hd at ed Td szd kd
  refine wpAny_bind ?_
  unfold Builtin.SmallTypes.ownedTupleIsFree
  refine wpAny_bind (wpAny_field ed rfl (x := .none) rfl (wpAny_pure ?_))
  simp only [if_true]
  refine wpAny_bind (wpAny_rule (wpAny_bind (wpAny_field ed rfl (x := old) rfl ?_)))
  refine wpAny_bind (wpAny_setField_rec ed (by simp) fun hf ef sf => ?_)
  replace sf : Heap.SameBut e hd hf := sf
  replace ef : IsEnum hf e it ((i : Int) + 1) x := ef
  show wpAny _ _ (Builtin.SmallTypes.ownedTupleHandOut (.ref e) (.ref hc.objs.size) >>= _) _ _ ⟨hf, gs, dr, tk + 1, os⟩
  refine wpAny_bind ?_
  unfold Builtin.SmallTypes.ownedTupleHandOut
  refine wpAny_bind (wpAny_setField_rec ef (by simp) fun hg eg sg => ?_)
  replace sg : Heap.SameBut e hf hg := sg
  replace eg : IsEnumOut hg e it ((i : Int) + 1) x hc.objs.size := eg
  refine wpAny_setField_rec eg (by simp) fun hh eh sh => ?_
  replace sh : Heap.SameBut e hg hh := sh
  replace eh : IsEnumOut hh e it ((i : Int) + 1) x hc.objs.size := eh
  have up : ∀ a o, a ≠ e → hd.get? a = some o → hh.get? a = some o := fun a o n q => sh.extBut _ _ n (sg.extBut _ _ n (sf.extBut _ _ n q))
  refine wpAny_bind (wpAny_letGo (wpAny_pure ⟨_, rfl, ?_⟩))
  rw [szc] at eh ⊢
  refine hQ x ha hh tk hG sza eh ?_ ?_ fun a o n q => up a o n (kd a o n q)
  · rw [← szc]
    exact up _ _ (Nat.ne_of_gt el) Td
  · rw [sh.1, sg.1, sf.1, szd, szc]
end
end
end ZI

set_option maxHeartbeats 4000000
/-! Z over the hand layer: enumerate over tuples, texts, a zip of two texts: the turns. -/
namespace ZI
open PySem PySem.Spec L2
/-- a tuple's items, numbered, in new pairs -/
def IteT (K : PySem.W.Frag) (a : Addr) : It :=
  ⟨fun i H => ∃ (xs : List V) (x : V), SqT K H a xs ∧ xs[i]? = some x, fun i H v H' => ∃ T x, v = .ref T ∧ H T = none ∧ H' = upd H T (.tup [.int (i : Nat), x]) ∧ ∀ xs, SqT K H a xs → xs[i]? = some x, fun i H => ∃ xs : List V, SqT K H a xs ∧ xs.length ≤ i⟩
/-- a text's signs, numbered, in new pairs -/
def IteS (z : Str) : It :=
  ⟨fun i _ => i < z.cps.size, fun i H v H' => ∃ T c, v = .ref T ∧ H T = none ∧ H' = upd H T (.tup [.int (i : Nat), .str ⟨#[c]⟩]) ∧ z.cps[i]? = some c, fun i _ => z.cps.size ≤ i⟩
section
variable {P : Program} {w : World} {K : PySem.W.Frag} {elts : List Expr} {kk : Nat} {tpos : Pos} {e it : Addr}
/-- a pair made by enumerate is told from now on -/
theorem told_pair {X : Cx} {pins : List (Addr × Obj)} {σ : L2.St} {H : Hp} {s : Shared} {h' h'' : Heap} {ch : List Addr} {x : V} {u : Value} {i : Nat} {k t : Nat} (I : Inv X pins σ H s) (hf : ∀ b ∈ ch, FpOk X pins H b) (hec : e ∈ ch) (hel : e < s.heap.objs.size)
    (hk : ∀ b o, b ∉ ch → s.heap.get? b = some o → h'.get? b = some o) (sb : Heap.SameBut e h' h'') (hT : h'.get? s.heap.objs.size = some { cls := .type "tuple", data := .seq #[.int i k, u] }) (ru : RelV x u) :
    Inv X pins σ (upd H s.heap.objs.size (.tup [.int (i : Nat), x])) { s with heap := h'', toks := t } ∧ H s.heap.objs.size = none := by
  have T2 : h''.get? s.heap.objs.size = some { cls := .type "tuple", data := .seq #[.int i k, u] } := (sb.2 _ (Nat.ne_of_gt hel)).trans hT
  refine ⟨I.turnedNew (ch := ch) (fun b o hb q => (sb.2 b (fun z => hb (z ▸ hec))).trans (hk b o hb q)) hf (Nat.le_refl _) ?_, I.hok.fresh (Nat.le_refl _)⟩
  exact ⟨by show 2 ≤ sizeLine; rw [sizeLine_eq]; omega, [.int i k, u], .cons ⟨_, rfl⟩ (.cons ru .nil), ⟨_, T2, rfl, _, rfl⟩⟩
theorem turn_enumT (a : Addr) : Turn P w K (.Tuple elts kk tpos) (IteT K a) [e, it] e (fun i h => (∃ old, IsEnum h e it ((i : Nat) : Int) old) ∧ h.IsTupleIter it a i ∧ e ≠ it) where
  mem := List.mem_cons_self ..
  obj := fun i h ⟨⟨old, he⟩, ⟨o, ho, _, hd⟩, _⟩ b hb => by
    rcases List.mem_cons.mp hb with rfl | hb
    · exact ⟨_, he, fun v q => nomatch q⟩
    · have := List.mem_singleton.mp hb
      subst this
      exact ⟨o, ho, fun v q => by rw [hd] at q; cases q⟩
  keep := fun i h h' ⟨⟨old, he⟩, hi, hne⟩ k => ⟨⟨old, k e (by simp) _ he⟩, hi.at fun o q => k it (by simp) o q, hne⟩
  item := by
    intro X hP hw hK hc i pins s σ H E I hf st hg
    subst hP hw hK
    obtain ⟨⟨old, he⟩, hit, hne⟩ := st
    obtain ⟨xs, x, hq, hx⟩ := hg
    obtain ⟨its, rv, p, hz⟩ := I.tuple hq
    obtain ⟨u, hu, ru⟩ := rv.get hx
    have hel : e < s.heap.objs.size := Heap.lt_size he
    have hil : it < s.heap.objs.size := by obtain ⟨_, q, _⟩ := hit; exact Heap.lt_size q
    have pt : s.heap.IsTuple a its.toArray := p
    have nae : a ≠ e := fun z => by
      subst z
      obtain ⟨o, g1, g2, _⟩ := pt
      rw [he] at g1
      cases g1
      simp at g2
    have nai : a ≠ it := fun z => by
      subst z
      obtain ⟨o, g1, g2, _⟩ := pt
      obtain ⟨o', g3, g4, _⟩ := hit
      rw [g3] at g1
      cases g1
      rw [g4] at g2
      simp at g2
    have hlt : i < its.toArray.size := by
      have := (List.getElem?_eq_some_iff.mp hu).1
      simpa using this
    refine wpAny_pyNext_enum_itemD (Draws.tuple (show X.A.in1.handled = none from I.ok.hd hc) it a nai its.toArray) he ⟨hit, pt⟩ hlt hne (by simp [hne, nae.symm]) fun y h' tk hy ho st' hT hsz hk => ?_
    have ey : u = y := by
      have : its[i]? = some y := by simpa using hy
      rw [hu] at this
      cases this
      rfl
    subst ey
    refine ⟨_, rfl, wpAny_letOwnedTupleGo_enum (s := { s with heap := h', toks := tk + 1 }) ho fun h'' he' sb => ?_⟩
    obtain ⟨I1, nT⟩ := told_pair (t := tk + 1) (e := e) (ch := [e, it]) I hf (by simp) hel (fun b o hb q => hk b o (fun z => hb (by simp [z])) (fun z => hb (by simp [z])) q) sb hT ru
    refine ⟨.ref s.heap.objs.size, _, I1, rfl, ⟨_, x, rfl, nT, rfl, fun ys hy => by rw [I.tuple_inj hy hq]; exact hx⟩, ⟨⟨u, ?_⟩, st'.1.at fun o q => (sb.2 it (Ne.symm hne)).trans q, hne⟩, fun b hb => ?_⟩
    · have e1 : ((i + 1 : Nat) : Int) = (i : Int) + 1 := by omega
      rw [e1]; exact he'
    · have hb' : b < s.heap.objs.size := by
        rcases List.mem_cons.mp hb with rfl | hb
        · exact hel
        · rw [List.mem_singleton.mp hb]; exact hil
      rw [upd_ne (Nat.ne_of_lt hb')]
      exact (hf b hb).1
  done := by
    intro X hP hw hK hc i pins s σ H E I hf st hg
    subst hP hw hK
    obtain ⟨⟨old, he⟩, hit, hne⟩ := st
    obtain ⟨xs, hq, hx⟩ := hg
    obtain ⟨its, rv, p, hz⟩ := I.tuple hq
    obtain ⟨f0, f1, f2, f3, f4, f5⟩ := hf it (by simp)
    have hl := rv.length
    have pt : s.heap.IsTuple a its.toArray := p
    have hn : its.toArray[i]? = none := by simp; omega
    have hT : s.TypeIs (.ref e) "enumerate" := ⟨_, he, rfl⟩
    unfold pyNext
    refine wpAny_bind (wpAny_attempt (wpAny_callSpecial?_slot (name := Str.ofString "__next__") hT F.slot_enumerate_next (wpAny_call_entry F.slot_enumerate_next hT F.entry_enumerate_next ?_ (F.args_enumerate_next_1 _))))
    show wpAny _ _ (field (.ref e) 2 >>= _) _ _ _
    refine wpAny_bind (wpAny_field he rfl (x := .ref it) rfl (wpAny_bind (wpAny_nextOf_tuple_end (I.ok.hd hc) hit pt hn fun h' x eb xe => ?_)))
    obtain ⟨o, ho, co⟩ := xe
    exact wpAny_bind (wpAny_isInstance (T := "StopIteration") (b := true) ⟨o, ho, co⟩ isSubtype_stop (wpAny_pure ⟨rfl, I.turned (t' := s.toks) (fun b o hb q => eb b o hb q) f0 f1 f3 f4 f5⟩))
  self := fun A i s Q E ⟨⟨_, he⟩, _⟩ h => wpAny_pyIter_enum he h
theorem turn_enumS (z : Str) (t : Tok) : Turn P w K (.Tuple elts kk tpos) (IteS z) [e, it] e (fun i h => (∃ old, IsEnum h e it ((i : Nat) : Int) old) ∧ h.IsStrIter it (strIterType z) z t i ∧ e ≠ it) where
  mem := List.mem_cons_self ..
  obj := fun i h ⟨⟨old, he⟩, ⟨o, ho, _, hd⟩, _⟩ b hb => by
    rcases List.mem_cons.mp hb with rfl | hb
    · exact ⟨_, he, fun v q => nomatch q⟩
    · have := List.mem_singleton.mp hb
      subst this
      exact ⟨o, ho, fun v q => by rw [hd] at q; cases q⟩
  keep := fun i h h' ⟨⟨old, he⟩, ⟨o, ho, r⟩, hne⟩ k => ⟨⟨old, k e (by simp) _ he⟩, ⟨o, k it (by simp) o ho, r⟩, hne⟩
  item := by
    intro X hP hw hK hc i pins s σ H E I hf st hg
    subst hP hw hK
    obtain ⟨⟨old, he⟩, hit, hne⟩ := st
    have hel : e < s.heap.objs.size := Heap.lt_size he
    have hil : it < s.heap.objs.size := by obtain ⟨_, q, _⟩ := hit; exact Heap.lt_size q
    refine wpAny_pyNext_enum_itemD (Draws.text (show X.A.in1.handled = none from I.ok.hd hc) it z t) he hit hg hne (by simp [hne]) fun y h' tk hy ho st' hT hsz hk => ?_
    obtain ⟨c, u, hcz, rfl⟩ := hy
    refine ⟨_, rfl, wpAny_letOwnedTupleGo_enum (s := { s with heap := h', toks := tk + 1 }) ho fun h'' he' sb => ?_⟩
    obtain ⟨I1, nT⟩ := told_pair (t := tk + 1) (e := e) (ch := [e, it]) (x := .str ⟨#[c]⟩) I hf (by simp) hel (fun b o hb q => hk b o (fun z => hb (by simp [z])) (fun z => hb (by simp [z])) q) sb hT ⟨_, rfl⟩
    refine ⟨.ref s.heap.objs.size, _, I1, rfl, ⟨_, c, rfl, nT, rfl, hcz⟩, ⟨⟨.str ⟨#[c]⟩ u, ?_⟩, ?_, hne⟩, fun b hb => ?_⟩
    · have e1 : ((i + 1 : Nat) : Int) = (i : Int) + 1 := by omega
      rw [e1]; exact he'
    · obtain ⟨o, ho', r⟩ := st'
      exact ⟨o, (sb.2 it (Ne.symm hne)).trans ho', r⟩
    · have hb' : b < s.heap.objs.size := by
        rcases List.mem_cons.mp hb with rfl | hb
        · exact hel
        · rw [List.mem_singleton.mp hb]; exact hil
      rw [upd_ne (Nat.ne_of_lt hb')]
      exact (hf b hb).1
  done := by
    intro X hP hw hK hc i pins s σ H E I hf st hg
    subst hP hw hK
    obtain ⟨⟨old, he⟩, hit, hne⟩ := st
    obtain ⟨f0, f1, f2, f3, f4, f5⟩ := hf it (by simp)
    have hn : z.cps[i]? = none := Array.getElem?_eq_none hg
    have hT : s.TypeIs (.ref e) "enumerate" := ⟨_, he, rfl⟩
    unfold pyNext
    refine wpAny_bind (wpAny_attempt (wpAny_callSpecial?_slot (name := Str.ofString "__next__") hT F.slot_enumerate_next (wpAny_call_entry F.slot_enumerate_next hT F.entry_enumerate_next ?_ (F.args_enumerate_next_1 _))))
    show wpAny _ _ (field (.ref e) 2 >>= _) _ _ _
    refine wpAny_bind (wpAny_field he rfl (x := .ref it) rfl (wpAny_bind ?_))
    cases ha : z.cps.all (· < 128)
    · have hit' : s.heap.IsStrIter it "str_iterator" z t i := by simpa [strIterType, ha] using hit
      refine wpAny_nextOf_wide_end (I.ok.hd hc) hit' hn fun h' x eb xe => ?_
      obtain ⟨o, ho, co⟩ := xe
      exact wpAny_bind (wpAny_isInstance (T := "StopIteration") (b := true) ⟨o, ho, co⟩ isSubtype_stop (wpAny_pure ⟨rfl, I.turned (t' := s.toks) (fun b o hb q => eb b o hb q) f0 f1 f3 f4 f5⟩))
    · have hit' : s.heap.IsStrIter it "str_ascii_iterator" z t i := by simpa [strIterType, ha] using hit
      refine wpAny_nextOf_ascii_end (I.ok.hd hc) hit' hn fun h' x eb xe => ?_
      obtain ⟨o, ho, co⟩ := xe
      exact wpAny_bind (wpAny_isInstance (T := "StopIteration") (b := true) ⟨o, ho, co⟩ isSubtype_stop (wpAny_pure ⟨rfl, I.turned (t' := s.toks) (fun b o hb q => eb b o hb q) f0 f1 f3 f4 f5⟩))
  self := fun A i s Q E ⟨⟨_, he⟩, _⟩ h => wpAny_pyIter_enum he h
end
end ZI

set_option maxHeartbeats 4000000
/-! Z over the hand layer: enumerate over a zip of two texts; the calls that begin. -/
namespace ZI
open PySem PySem.Spec L2
/-- two texts' signs side by side, numbered -/
def IteZ (a b : Str) : It :=
  ⟨fun i _ => i < a.cps.size, fun i H v H' => ∃ T S c d, v = .ref T ∧ H S = none ∧ H T = none ∧ T ≠ S ∧ H' = upd (upd H S (.tup [.str ⟨#[c]⟩, .str ⟨#[d]⟩])) T (.tup [.int (i : Nat), .ref S]) ∧ a.cps[i]? = some c ∧ b.cps[i]? = some d, fun i _ => a.cps.size ≤ i⟩
def tnZ (a b : Str) (ta tb : Tok) (e z TI TO i1 i2 : Addr) (i : Nat) (h : Heap) : Prop :=
  (∃ old, IsEnum h e z ((i : Nat) : Int) old) ∧ (∃ g c, ZF h z TI TO g c ∧ Fz g) ∧ IsTupOf2 h TI (.ref i1) (.ref i2) ∧ (∃ p q, IsTupOf2 h TO p q) ∧ h.IsStrIter i1 (strIterType a) a ta i ∧ h.IsStrIter i2 (strIterType b) b tb i ∧ i ≤ a.cps.size
theorem strIter_at {h h' : Heap} {it : Addr} {T : String} {x : Str} {t : Tok} {i : Nat} (q : h.IsStrIter it T x t i) (k : ∀ o, h.get? it = some o → h'.get? it = some o) : h'.IsStrIter it T x t i := by
  obtain ⟨o, ho, r⟩ := q
  exact ⟨o, k o ho, r⟩
theorem turn_enumZ {P : Program} {w : World} {K : PySem.W.Frag} {elts : List Expr} {kk : Nat} {tpos : Pos} {a b : Str} {ta tb : Tok} {e z TI TO i1 i2 : Addr} (hab : a.cps.size = b.cps.size) (Z : ZipSep2 z TI TO i1 i2 [i1] [i2]) (ez : e ≠ z) (eT : e ≠ TI) (eO : e ≠ TO) (e1 : e ≠ i1) (e2 : e ≠ i2) :
    Turn P w K (.Tuple elts kk tpos) (IteZ a b) [e, z, TI, TO, i1, i2] e (tnZ a b ta tb e z TI TO i1 i2) where
  mem := List.mem_cons_self ..
  obj := fun i h st c hc => by
    obtain ⟨⟨old, he⟩, ⟨g, b', hz, _⟩, hTI, ⟨p, q, hTO⟩, ⟨o1, h1, _, d1⟩, ⟨o2, h2, _, d2⟩, _⟩ := st
    have m : c = e ∨ c = z ∨ c = TI ∨ c = TO ∨ c = i1 ∨ c = i2 := by simpa using hc
    rcases m with rfl | rfl | rfl | rfl | rfl | rfl
    · exact ⟨_, he, fun v q => nomatch q⟩
    · exact ⟨_, hz, fun v q => nomatch q⟩
    · exact ⟨_, hTI, fun v q => nomatch q⟩
    · exact ⟨_, hTO, fun v q => nomatch q⟩
    · exact ⟨o1, h1, fun v q => by rw [d1] at q; cases q⟩
    · exact ⟨o2, h2, fun v q => by rw [d2] at q; cases q⟩
  keep := fun i h h' st k => by
    obtain ⟨⟨old, he⟩, ⟨g, b', hz, hg⟩, hTI, ⟨p, q, hTO⟩, h1, h2, hi⟩ := st
    exact ⟨⟨old, k e (by simp) _ he⟩, ⟨g, b', k z (by simp) _ hz, hg⟩, k TI (by simp) _ hTI, ⟨p, q, k TO (by simp) _ hTO⟩, strIter_at h1 fun o q => k i1 (by simp) o q, strIter_at h2 fun o q => k i2 (by simp) o q, hi⟩
  item := by
    intro X hP hw hK hc i pins s σ H E I hf st hg
    subst hP hw hK
    obtain ⟨⟨old, he⟩, ⟨g, b', hz, hgz⟩, hTI, hTO, h1, h2, hi⟩ := st
    have hd : X.A.handled = none := I.ok.hd hc
    have D1 := Draws.text (prog := X.prog) (w := X.w) (A := X.A.in1.in1) (show X.A.in1.in1.handled = none from hd) i1 a ta
    have D2 := Draws.text (prog := X.prog) (w := X.w) (A := X.A.in1.in1) (show X.A.in1.in1.handled = none from hd) i2 b tb
    have hg' : i < a.cps.size := hg
    have lt : ∀ c ∈ [e, z, TI, TO, i1, i2], c < s.heap.objs.size := fun c hc => by
      obtain ⟨p, q, hTO⟩ := hTO
      have m : c = e ∨ c = z ∨ c = TI ∨ c = TO ∨ c = i1 ∨ c = i2 := by simpa using hc
      rcases m with rfl | rfl | rfl | rfl | rfl | rfl
      · exact Heap.lt_size he
      · exact Heap.lt_size hz
      · exact Heap.lt_size hTI
      · exact Heap.lt_size hTO
      · obtain ⟨o, ho, _⟩ := h1; exact Heap.lt_size ho
      · obtain ⟨o, ho, _⟩ := h2; exact Heap.lt_size ho
    have hT : s.TypeIs (.ref e) "enumerate" := ⟨_, he, rfl⟩
    unfold pyNext
    refine wpAny_bind (wpAny_attempt (wpAny_callSpecial?_slot (name := Str.ofString "__next__") hT F.slot_enumerate_next (wpAny_call_entry F.slot_enumerate_next hT F.entry_enumerate_next
      (enext (Gd := fun v h => v = .ref s.heap.objs.size ∧ h.objs.size = s.heap.objs.size + 1 ∧ ∃ c d u1 u2 g0 b0, a.cps[i]? = some c ∧ b.cps[i]? = some d ∧ ZF h z TI TO g0 b0 ∧ Fz g0 ∧ (∃ p q, IsTupOf2 h TO p q) ∧ h.IsStrIter i1 (strIterType a) a ta (i + 1) ∧ h.IsStrIter i2 (strIterType b) b tb (i + 1) ∧
          IsTupOf2 h s.heap.objs.size (.str ⟨#[c]⟩ u1) (.str ⟨#[d]⟩ u2) ∧ ∀ x o, x ≠ z → x ≠ TO → x ≠ i1 → x ≠ i2 → s.heap.get? x = some o → h.get? x = some o) he (fun Q' q' => ?_) fun v h1' h' tk hG hsz eo hT' szh kp => ?_) (F.args_enumerate_next_1 _))))
    · refine znext Z D1 D2 hz hgz hTI hTO h1 h2 hg' (by omega) fun x y h' tk g0 c p1 p2 z' g' O' s1' s2' N' sz' k' => ?_
      obtain ⟨cx, ux, ex, rfl⟩ := p1
      obtain ⟨cy, uy, ey, rfl⟩ := p2
      exact q' _ h' tk ⟨rfl, sz', cx, cy, ux, uy, g0, c, ex, ey, z', g', O', s1', s2', N', k'⟩ (k' e _ ez eO e1 e2 he) (by rw [sz']; omega)
    · obtain ⟨rfl, sz1, c, d, u1, u2, g0, b0, ec, ed, z', g', O', s1', s2', N', k'⟩ := hG
      refine wpAny_pure ⟨_, rfl, wpAny_letOwnedTupleGo_enum (s := { s with heap := h', toks := tk + 1 }) eo fun h'' he' sb => ?_⟩
      have nS : H s.heap.objs.size = none := I.hok.fresh (Nat.le_refl _)
      have I1 : Inv X pins σ (upd H s.heap.objs.size (.tup [.str ⟨#[c]⟩, .str ⟨#[d]⟩])) { s with heap := h1', toks := s.toks } :=
        I.turnedNew (ch := [z, TO, i1, i2]) (fun x o hx q => k' x o (fun r => hx (by simp [r])) (fun r => hx (by simp [r])) (fun r => hx (by simp [r])) (fun r => hx (by simp [r])) q) (fun x hx => hf x (by simp at hx ⊢; rcases hx with r | r | r | r <;> simp [r])) (Nat.le_refl _)
          ⟨by show 2 ≤ sizeLine; rw [sizeLine_eq]; omega, [.str ⟨#[c]⟩ u1, .str ⟨#[d]⟩ u2], .cons ⟨_, rfl⟩ (.cons ⟨_, rfl⟩ .nil), ⟨_, N', rfl, _, rfl⟩⟩
      have up : ∀ x o, x ≠ e → h1'.get? x = some o → h''.get? x = some o := fun x o n q => (sb.2 x n).trans (kp x o n q)
      have hel : e < s.heap.objs.size := lt e (by simp)
      have T2 : h''.get? h1'.objs.size = some { cls := .type "tuple", data := .seq #[.int i tk, .ref s.heap.objs.size] } := (sb.2 _ (by rw [sz1]; exact Nat.ne_of_gt (Nat.lt_succ_of_lt hel))).trans hT'
      have nT : upd H s.heap.objs.size (.tup [.str ⟨#[c]⟩, .str ⟨#[d]⟩]) h1'.objs.size = none := I1.hok.fresh (Nat.le_refl _)
      have I2 : Inv X pins σ (upd (upd H s.heap.objs.size (.tup [.str ⟨#[c]⟩, .str ⟨#[d]⟩])) h1'.objs.size (.tup [.int (i : Nat), .ref s.heap.objs.size])) { s with heap := h'', toks := tk + 1 } :=
        I1.turnedNew (ch := [e]) (fun x o hx q => up x o (by simpa using hx) q) (fun x hx => by
          have : x = e := by simpa using hx
          subst this
          refine ⟨?_, (hf x (by simp)).2⟩
          rw [upd_ne (Nat.ne_of_lt hel)]
          exact (hf x (by simp)).1) (Nat.le_refl _) ⟨by show 2 ≤ sizeLine; rw [sizeLine_eq]; omega, [.int i tk, .ref s.heap.objs.size], .cons ⟨_, rfl⟩ (.cons rfl .nil), ⟨_, T2, rfl, _, rfl⟩⟩
      have nTS : h1'.objs.size ≠ s.heap.objs.size := by rw [sz1]; exact Nat.succ_ne_self _
      have nT0 : H h1'.objs.size = none := by rw [upd_ne nTS] at nT; exact nT
      refine ⟨.ref h1'.objs.size, _, I2, rfl, ⟨_, _, c, d, rfl, nS, nT0, nTS, rfl, ec, ed⟩, ⟨⟨.ref s.heap.objs.size, ?_⟩, ⟨g0, b0, up _ _ (Ne.symm ez) z', g'⟩, up _ _ (Ne.symm eT) (k' _ _ Z.TIz Z.TITO Z.TIi1 Z.TIi2 hTI), ?_, strIter_at s1' fun o q => up _ _ (Ne.symm e1) q, strIter_at s2' fun o q => up _ _ (Ne.symm e2) q, hg'⟩, fun x hx => ?_⟩
      · have e1 : ((i + 1 : Nat) : Int) = (i : Int) + 1 := by omega
        rw [e1]; exact he'
      · obtain ⟨p, q, hO⟩ := O'
        exact ⟨p, q, up _ _ (Ne.symm eO) hO⟩
      · have := lt x hx
        rw [upd_ne (by rw [sz1]; exact Nat.ne_of_lt (Nat.lt_succ_of_lt this)), upd_ne (Nat.ne_of_lt this)]
        exact (hf x hx).1
  done := by
    intro X hP hw hK hc i pins s σ H E I hf st hg
    subst hP hw hK
    obtain ⟨⟨old, he⟩, ⟨g, b', hz, hgz⟩, hTI, hTO, h1, h2, hi⟩ := st
    have hd : X.A.handled = none := I.ok.hd hc
    have D1 := Draws.text (prog := X.prog) (w := X.w) (A := X.A.in1.in1) (show X.A.in1.in1.handled = none from hd) i1 a ta
    have hg' : a.cps.size ≤ i := hg
    have ei : i = a.cps.size := Nat.le_antisymm hi hg'
    subst ei
    have hT : s.TypeIs (.ref e) "enumerate" := ⟨_, he, rfl⟩
    unfold pyNext
    refine wpAny_bind (wpAny_attempt (wpAny_callSpecial?_slot (name := Str.ofString "__next__") hT F.slot_enumerate_next (wpAny_call_entry F.slot_enumerate_next hT F.entry_enumerate_next ?_ (F.args_enumerate_next_1 _))))
    show wpAny _ _ (field (.ref e) 2 >>= _) _ _ _
    refine wpAny_bind (wpAny_field he rfl (x := .ref z) rfl (wpAny_bind (zstop Z D1 hz hgz hTI h1 fun h' tk x k' xe => ?_)))
    obtain ⟨o, ho, co⟩ := xe
    refine wpAny_bind (wpAny_isInstance (T := "StopIteration") (b := true) ⟨o, ho, co⟩ isSubtype_stop (wpAny_pure ⟨rfl, I.turnedL (t' := tk) (ch := [z, TO, i1, i2]) (fun x o hx q => k' x o (fun r => hx (by simp [r])) (fun r => hx (by simp [r])) (fun r => hx (by simp [r])) (fun r => hx (by simp [r])) q) (fun x hx => hf x (by simp at hx ⊢; rcases hx with r | r | r | r <;> simp [r]))⟩))
  self := fun A i s Q E ⟨⟨_, he⟩, _⟩ h => wpAny_pyIter_enum he h

/-! ### the calls -/
section
variable {prog : Program} {w : World} {A : Around} {E : Value → Shared → Prop} {s : Shared}
/-- iter(v) gives it, the heap is then h -/
def IterTo (v : Value) (it : Value) (s : Shared) (h : Heap) : Prop := ∀ (prog : Program) (w : World) (A : Around) (E : Value → Shared → Prop) (Q : Value → Shared → Prop), Q it { s with heap := h } → wpAny (model prog w) A (pyIter v) Q E s
set_option maxHeartbeats 1000000 in
theorem meets_enum1 (v it : Value) (h : Shared → Heap) :
    Meets (Builtin.«enumerate.__new__» ⟨[.type "enumerate", v], []⟩) (fun _ R s => IterTo v it s (h s) ∧
      R (.ok (.ret (.ref (h s).objs.size))) { s with heap := (h s).push { cls := .type "enumerate", data := .fields #[.none, .bool false, it, rawInt 0, .none, .none] } }) :=
  .of_wp fun prog w A R s hh => by
    obtain ⟨hp, g, d, tk, os⟩ := s
    obtain ⟨h1, hh⟩ := hh
    have hsub := sub_enumerate
    have q1 : ∀ {A' : Around} {E : Value → Shared → Prop} {Q : Value → Shared → Prop}, Q it ⟨h ⟨hp, g, d, tk, os⟩, g, d, tk, os⟩ → wpAny (model prog w) A' (pyIter v) Q E ⟨hp, g, d, tk, os⟩ := fun q => h1 prog w _ _ _ q
    wp_walk using q1
    refine wpAny_stack_any fun st => wpAny_pure ?_
    split
    · rename_i c _ _ _ _ _
      cases (c == Value.type "enumerate")
      · wp_walk using q1
        exact ⟨_, rfl, hh⟩
      · wp_walk using q1
        exact ⟨_, rfl, hh⟩
    · wp_walk using q1
      exact ⟨_, rfl, hh⟩
/-- enumerate(v) -/
theorem call_enum1 {v : Value} {it : Addr} {h : Heap} {Q : Value → Shared → Prop} (hi : IterTo v (.ref it) s h)
    (q : ∀ h', IsEnum h' h.objs.size it 0 .none → h'.objs.size = h.objs.size + 1 → (∀ b o, h.get? b = some o → h'.get? b = some o) → Q (.ref h.objs.size) { s with heap := h' }) :
    wpAny (model prog w) A (call (.type "enumerate") [v]) Q E s := by
  refine callType_new F.called_enumerate (by decide) (F.typeCall_enumerate_1 _) (F.newCall_enumerate_1 _) (fun obj => F.args_object_init_2 obj _) F.entry_enumerate_new
    (meets_enum1 v (.ref it) fun _ => h) ⟨hi, ?_⟩
  have he : IsEnum (h.push { cls := .type "enumerate", data := .fields #[.none, .bool false, .ref it, rawInt 0, .none, .none] }) h.objs.size it 0 .none := Heap.get?_push_size _ rfl
  exact ⟨⟨_, he, rfl⟩, q _ he (Heap.size_push ..) fun b o x => Heap.get?_push_of_some _ x⟩
end
end ZI

set_option maxHeartbeats 4000000
/-! Z over the hand layer: enumerate over lists, tuples, texts, a zip of two texts: as they are walked. -/
namespace ZI
open PySem PySem.Spec PyProof.Rows L2
theorem iterTo_tup {a : Addr} {its : Array Value} {s : Shared} (h : s.heap.IsTuple a its) : IterTo (.ref a) (.ref s.heap.objs.size) s (s.heap.push { cls := .type "tuple_iterator", data := .fields #[.ref a, .int 0 0] }) := fun prog w A E Q q => wpAny_pyIter_tuple h q
theorem iterTo_str {x : Str} {t : Tok} {s : Shared} : IterTo (.str x t) (.ref s.heap.objs.size) s (s.heap.push { cls := .type (strIterType x), data := .fields #[.str x t, .int 0 0] }) := fun prog w A E Q q => wpAny_pyIter_strU q
theorem iterTo_zip {z TI TO : Addr} {f0 : Value} {s : Shared} (h : IsZip s.heap z TI TO f0) : IterTo (.ref z) (.ref z) s s.heap := fun prog w A E Q q => wpAny_pyIter_zip h q
def iEnumA (K : PySem.W.Frag) (ta : TA) : TI := fun σ H R => ta σ H fun vs H1 => ∃ v, vs = [v] ∧ ((∃ a xs, v = .ref a ∧ SqL K H1 a xs ∧ R (Ite K a) H1) ∨ (∃ a xs, v = .ref a ∧ SqT K H1 a xs ∧ R (IteT K a) H1) ∨ ∃ z, v = .str z ∧ R (IteS z) H1)
section
variable {X : Cx} {e e2 : Expr} {ta : TA} {p p2 pos pos2 tpos : Pos} {elts : List Expr} {kk : Nat}
theorem fresh2 {pins : List (Addr × Obj)} {σ : L2.St} {H : Hp} {s : Shared} (I : Inv X pins σ H s) : ∀ b ∈ [s.heap.objs.size + 1, s.heap.objs.size], FpOk X pins H b := fun b hb => by
  have hle : s.heap.objs.size ≤ b := by
    rcases List.mem_cons.mp hb with z | z
    · rw [z]; exact Nat.le_add_right _ _
    · rw [List.mem_singleton.mp z]; exact Nat.le_refl _
  exact I.fpOk hle (I.hok.fresh hle)
theorem pi_enumA (hg : Gl X "enumerate") (hm : X.mg "enumerate" = none) (ha : PA X [e] ta) (hs : starEach [e] X.env = [(false, eval e X.env)] := by rfl) :
    PI X (.Tuple elts kk tpos) (.Call (.Name "enumerate" p) [e] [] pos) (iEnumA X.K ta) := by
  refine ⟨fun pins s σ H R I h => ?_⟩
  refine Call_ (ld_blt I hg hm boot_enumerate (PyProof.Rows.callWith_type1 (thn (ha.run pos pins s σ H _ I h) fun us s1 ⟨vs, H1, I1, r1, q1⟩ => ?_) hs rfl))
  obtain ⟨v, rfl, q1⟩ := q1
  obtain ⟨u, rfl, ru⟩ := vals1 r1
  rcases q1 with ⟨a, xs, rfl, hq, q⟩ | ⟨a, xs, rfl, hq, q⟩ | ⟨z, rfl, q⟩
  · cases ru
    obtain ⟨its, rv, p', hz⟩ := I1.list hq
    refine call_enumerate_list p'.isList fun h' he hit hsz hk => wpAny_pyIter_enum he ?_
    exact ⟨s1.heap.objs.size + 1, [s1.heap.objs.size + 1, s1.heap.objs.size], _, _, H1, rfl, I1.kept (t' := s1.toks) hk, turn_enum a (s1.heap.objs.size + 1) s1.heap.objs.size, ⟨⟨.none, he⟩, hit, Nat.succ_ne_self _⟩, fresh2 I1, q⟩
  · cases ru
    obtain ⟨its, rv, p', hz⟩ := I1.tuple hq
    refine call_enum1 (iterTo_tup (show s1.heap.IsTuple a its.toArray from p')) fun h' he hsz hk => wpAny_pyIter_enum he ?_
    have ez : (s1.heap.push { cls := .type "tuple_iterator", data := .fields #[.ref a, .int 0 0] }).objs.size = s1.heap.objs.size + 1 := Heap.size_push ..
    rw [ez] at he ⊢
    refine ⟨s1.heap.objs.size + 1, [s1.heap.objs.size + 1, s1.heap.objs.size], _, _, H1, rfl, I1.kept (t' := s1.toks) fun b o x => hk b o (Heap.get?_push_of_some _ x), turn_enumT (e := s1.heap.objs.size + 1) (it := s1.heap.objs.size) a, ⟨⟨.none, he⟩, ⟨_, hk _ _ (Heap.get?_push_size _ rfl), rfl, rfl⟩, Nat.succ_ne_self _⟩, fresh2 I1, q⟩
  · obtain ⟨t, rfl⟩ := ru
    refine call_enum1 iterTo_str fun h' he hsz hk => wpAny_pyIter_enum he ?_
    have ez : (s1.heap.push { cls := .type (strIterType z), data := .fields #[.str z t, .int 0 0] }).objs.size = s1.heap.objs.size + 1 := Heap.size_push ..
    rw [ez] at he ⊢
    refine ⟨s1.heap.objs.size + 1, [s1.heap.objs.size + 1, s1.heap.objs.size], _, _, H1, rfl, I1.kept (t' := s1.toks) fun b o x => hk b o (Heap.get?_push_of_some _ x), turn_enumS (e := s1.heap.objs.size + 1) (it := s1.heap.objs.size) z t, ⟨⟨.none, he⟩, ⟨_, hk _ _ (Heap.get?_push_size _ rfl), rfl, rfl⟩, Nat.succ_ne_self _⟩, fresh2 I1, q⟩
def iEzip (ta : TA) : TI := fun σ H R => ta σ H fun vs H1 => ∃ x y, vs = [.str x, .str y] ∧ x.cps.size = y.cps.size ∧ R (IteZ x y) H1
theorem pi_ezip (hg : Gl X "enumerate") (hm : X.mg "enumerate" = none) (hg2 : Gl X "zip") (hm2 : X.mg "zip" = none) (ha : PA X [e, e2] ta)
    (hs : starEach [e, e2] X.env = (false, eval e X.env) :: starEach [e2] X.env) (hpl : (backTo pos2 (starEach [e2] X.env)).any (·.1) = false) :
    PI X (.Tuple elts kk tpos) (.Call (.Name "enumerate" p) [.Call (.Name "zip" p2) [e, e2] [] pos2] [] pos) (iEzip ta) := by
  refine ⟨fun pins s σ H R I h => ?_⟩
  refine Call_ (ld_blt I hg hm boot_enumerate (PyProof.Rows.callWith_type1 (PyProof.Rows.args_cons ?_ rfl) rfl rfl))
  refine Call_ (ld_blt I hg2 hm2 PyProof.Rows.boot_zip (PyProof.Rows.callWith_type1 (thn (ha.run pos2 pins s σ H _ I h) fun us s1 ⟨vs, H1, I1, r1, q1⟩ => ?_) hs hpl))
  obtain ⟨x, y, rfl, hxy, q⟩ := q1
  cases r1 with
  | cons r rr =>
    cases rr with
    | cons r' rr =>
      cases rr
      obtain ⟨t, rfl⟩ := r
      obtain ⟨u, rfl⟩ := r'
      refine zip_begins2 (begins_text x t) (begins_text y u) trivial trivial fun h' hz hTI hTO g1 g2 hsz hk => ?_
      refine PyProof.Rows.args_nil ?_
      refine call_enum1 (iterTo_zip (s := { s1 with heap := h' }) hz) fun h'' he hsz2 hk2 => wpAny_pyIter_enum he ?_
      rw [hsz] at he ⊢
      have I2 : Inv X pins σ H1 { s1 with heap := h'' } := I1.kept (t' := s1.toks) fun b o z => hk2 b o (hk b o z)
      have Z : ZipSep2 (s1.heap.objs.size + 4) (s1.heap.objs.size + 2) (s1.heap.objs.size + 3) s1.heap.objs.size (s1.heap.objs.size + 1) [s1.heap.objs.size] [s1.heap.objs.size + 1] := zip_sep2 (fp1 := []) (fp2 := []) (fun b hb => nomatch hb) fun b hb => nomatch hb
      have ne : ∀ k, k ≠ 5 → s1.heap.objs.size + 5 ≠ s1.heap.objs.size + k := fun k hk z => hk (Nat.add_left_cancel z).symm
      refine ⟨s1.heap.objs.size + 5, [s1.heap.objs.size + 5, s1.heap.objs.size + 4, s1.heap.objs.size + 2, s1.heap.objs.size + 3, s1.heap.objs.size, s1.heap.objs.size + 1], _, _, H1, rfl, I2,
        turn_enumZ (a := x) (b := y) (ta := t) (tb := u) hxy Z (ne 4 (by decide)) (ne 2 (by decide)) (ne 3 (by decide)) (ne 0 (by decide)) (ne 1 (by decide)),
        ⟨⟨.none, he⟩, ⟨.none, false, hk2 _ _ hz, .inl rfl⟩, hk2 _ _ hTI, ⟨_, _, hk2 _ _ hTO⟩, ⟨_, hk2 _ _ g1, rfl, rfl⟩, ⟨_, hk2 _ _ g2, rfl, rfl⟩, Nat.zero_le _⟩, fun c hc => ?_, q⟩
      have hle : s1.heap.objs.size ≤ c := by
        simp only [List.mem_cons, List.not_mem_nil, or_false] at hc
        rcases hc with z | z | z | z | z | z <;> rw [z] <;> first | exact Nat.le_add_right _ _ | exact Nat.le_refl _
      exact I1.fpOk hle (I1.hok.fresh hle)
end
end ZI

set_option maxHeartbeats 4000000
/-! Z over the hand layer: zip of a list and a tuple. -/
namespace ZI
open PySem PySem.Spec PyProof.Rows L2
/-- the list at a, the tuple at b, the items in new pairs -/
def ItM (K : PySem.W.Frag) (a b : Addr) (n1 n2 : Nat) : It :=
  ⟨fun i H => ∃ (xs ys : List V) (x y : V), SqL K H a xs ∧ SqT K H b ys ∧ xs.length = n1 ∧ ys.length = n2 ∧ xs[i]? = some x ∧ ys[i]? = some y,
    fun i H v H' => ∃ T x y, v = .ref T ∧ H T = none ∧ H' = upd H T (.tup [x, y]) ∧ (∀ xs, SqL K H a xs → xs[i]? = some x) ∧ ∀ ys, SqT K H b ys → ys[i]? = some y,
    fun i H => ∃ xs ys : List V, SqL K H a xs ∧ SqT K H b ys ∧ xs.length = n1 ∧ ys.length = n2 ∧ (n1 ≤ i ∨ n2 ≤ i)⟩
def tnM (a b z TI TO i1 i2 : Addr) (n1 n2 i : Nat) (h : Heap) : Prop :=
  IsZip h z TI TO .none ∧ IsTupOf2 h TI (.ref i1) (.ref i2) ∧ (∃ x y, IsTupOf2 h TO x y) ∧ h.IsListIter i1 a i ∧ h.IsTupleIter i2 b i ∧ i ≤ n1 ∧ i ≤ n2
theorem turn_zipM {P : Program} {w : World} {K : PySem.W.Frag} {elts : List Expr} {kk : Nat} {tpos : Pos} {a b z TI TO i1 i2 : Addr} {n1 n2 : Nat} (Z : ZipSep2 z TI TO i1 i2 [i1, a] [i2, b]) (ne1 : a ≠ i1) (ne2 : b ≠ i2) :
    Turn P w K (.Tuple elts kk tpos) (ItM K a b n1 n2) [z, TI, TO, i1, i2] z (tnM a b z TI TO i1 i2 n1 n2) where
  mem := by simp
  obj := fun i h st c hc => by
    obtain ⟨hz, hTI, ⟨x, y, hTO⟩, ⟨o1, e1, _, d1⟩, ⟨o2, e2, _, d2⟩, _⟩ := st
    have e' : c = z ∨ c = TI ∨ c = TO ∨ c = i1 ∨ c = i2 := by simpa using hc
    rcases e' with q | q | q | q | q
    · rw [q]; exact ⟨_, hz, fun v q => nomatch q⟩
    · rw [q]; exact ⟨_, hTI, fun v q => nomatch q⟩
    · rw [q]; exact ⟨_, hTO, fun v q => nomatch q⟩
    · rw [q]; exact ⟨o1, e1, fun v q => by rw [d1] at q; cases q⟩
    · rw [q]; exact ⟨o2, e2, fun v q => by rw [d2] at q; cases q⟩
  keep := fun i h h' st k => by
    obtain ⟨hz, hTI, ⟨x, y, hTO⟩, h1, h2, hi⟩ := st
    exact ⟨k z (by simp) _ hz, k TI (by simp) _ hTI, ⟨x, y, k TO (by simp) _ hTO⟩, h1.at fun o q => k i1 (by simp) o q, h2.at fun o q => k i2 (by simp) o q, hi⟩
  item := by
    intro X hP hw hK hc i pins s σ H E I hf st hg
    subst hP hw hK
    obtain ⟨hz, hTI, ⟨x0, y0, hTO⟩, h1, h2, hi1, hi2⟩ := st
    obtain ⟨xs, ys, x, y, hqx, hqy, l1, l2, hx, hy⟩ := hg
    obtain ⟨its, rv, p, _⟩ := I.list hqx
    obtain ⟨its2, rv2, p2, _⟩ := I.tuple hqy
    have hd : X.A.handled = none := I.ok.hd hc
    have hz1 : its.toArray.size = n1 := by rw [List.size_toArray, ← rv.length, l1]
    have hz2 : its2.toArray.size = n2 := by rw [List.size_toArray, ← rv2.length, l2]
    have lt1 : i < xs.length := (List.getElem?_eq_some_iff.mp hx).1
    have lt2 : i < ys.length := (List.getElem?_eq_some_iff.mp hy).1
    have D1 := Draws.list (prog := X.prog) (w := X.w) (A := X.A.in1) (show X.A.in1.handled = none from hd) i1 a ne1 its.toArray
    have D2 := Draws.tuple (prog := X.prog) (w := X.w) (A := X.A.in1) (show X.A.in1.handled = none from hd) i2 b ne2 its2.toArray
    obtain ⟨u, hu, ru⟩ := rv.get hx
    obtain ⟨u2, hu2, ru2⟩ := rv2.get hy
    have hzl : z < s.heap.objs.size := Heap.lt_size hz
    refine wpAny_pyNext_zipD2_item Z D1 D2 hz hTI hTO ⟨h1, p.isList⟩ ⟨h2, p2⟩ (by rw [hz1]; omega) (by rw [hz2]; omega) fun v1 v2 h' tk q1 q2 z' TO' s1' s2' hT hsz hk => ?_
    have e1 : v1 = u := by
      rw [List.getElem?_toArray, hu] at q1
      exact (Option.some.inj q1).symm
    have e2 : v2 = u2 := by
      rw [List.getElem?_toArray, hu2] at q2
      exact (Option.some.inj q2).symm
    subst e1 e2
    refine ⟨_, rfl, wpAny_letOwnedTupleGo_zip (s := { s with heap := h', toks := tk }) z' fun h'' z'' sb => ?_⟩
    have hT2 : h''.get? s.heap.objs.size = some { cls := .type "tuple", data := .seq #[v1, v2] } := (sb.2 _ (Nat.ne_of_gt hzl)).trans hT
    have new : ObjOk X.prog X.w (upd H s.heap.objs.size (.tup [x, y])) h'' s.heap.objs.size (.tup [x, y]) :=
      ⟨by show 2 ≤ sizeLine; decide, [v1, v2], .cons ru (.cons ru2 .nil), ⟨_, hT2, rfl, _, rfl⟩⟩
    have I1 : Inv X pins σ (upd H s.heap.objs.size (.tup [x, y])) { s with heap := h'', toks := tk } :=
      I.turnedNew (t' := tk) (ch := [z, TI, TO, i1, i2]) (fun c o hb q => (sb.2 c (fun q' => hb (by simp [q']))).trans (hk c o (fun q' => hb (by simp [q'])) (fun q' => hb (by simp [q'])) (fun q' => hb (by simp [q'])) (fun q' => hb (by simp [q'])) q)) hf (Nat.le_refl _) new
    refine ⟨.ref s.heap.objs.size, _, I1, rfl, ⟨_, x, y, rfl, I.hok.fresh (Nat.le_refl _), rfl, fun l hl => by rw [I.list_inj hl hqx]; exact hx, fun l hl => by rw [I.tuple_inj hl hqy]; exact hy⟩, ⟨z'', ?_, ⟨v1, v2, ?_⟩, ?_, ?_, by omega, by omega⟩, fun c hcm => ?_⟩
    · exact (sb.2 _ Z.TIz).trans (hk _ _ Z.TIz Z.TITO Z.TIi1 Z.TIi2 hTI)
    · exact (sb.2 _ Z.TOz).trans TO'
    · exact s1'.1.at fun o q => (sb.2 _ (Ne.symm Z.zi1)).trans q
    · exact s2'.1.at fun o q => (sb.2 _ (Ne.symm Z.zi2)).trans q
    · have hlt : c < s.heap.objs.size := by
        have e' : c = z ∨ c = TI ∨ c = TO ∨ c = i1 ∨ c = i2 := by simpa using hcm
        rcases e' with q | q | q | q | q
        · rw [q]; exact hzl
        · rw [q]; exact Heap.lt_size hTI
        · rw [q]; exact Heap.lt_size hTO
        · rw [q]; obtain ⟨_, e1, _⟩ := h1; exact Heap.lt_size e1
        · rw [q]; obtain ⟨_, e2, _⟩ := h2; exact Heap.lt_size e2
      rw [upd_ne (Nat.ne_of_lt hlt)]
      exact (hf c hcm).1
  done := by
    intro X hP hw hK hc i pins s σ H E I hf st hg
    subst hP hw hK
    obtain ⟨hz, hTI, ⟨x0, y0, hTO⟩, h1, h2, hi1, hi2⟩ := st
    obtain ⟨xs, ys, hqx, hqy, l1, l2, hend⟩ := hg
    obtain ⟨its, rv, p, _⟩ := I.list hqx
    obtain ⟨its2, rv2, p2, _⟩ := I.tuple hqy
    have hd : X.A.handled = none := I.ok.hd hc
    have hz1 : its.toArray.size = n1 := by rw [List.size_toArray, ← rv.length, l1]
    have hz2 : its2.toArray.size = n2 := by rw [List.size_toArray, ← rv2.length, l2]
    have D1 := Draws.list (prog := X.prog) (w := X.w) (A := X.A.in1) (show X.A.in1.handled = none from hd) i1 a ne1 its.toArray
    have D2 := Draws.tuple (prog := X.prog) (w := X.w) (A := X.A.in1) (show X.A.in1.handled = none from hd) i2 b ne2 its2.toArray
    exact wpAny_pyNext_zipD2_end Z D1 D2 hz hTI hTO ⟨h1, p.isList⟩ ⟨h2, p2⟩ (by rw [hz1]; exact hi1) (by rw [hz2]; exact hi2) (by rw [hz1, hz2]; omega) fun h' tk hk => ⟨rfl, I.turnedL (t' := tk) (ch := [z, TI, TO, i1, i2]) (fun c o hb q =>
      hk c o (fun q' => hb (by simp [q'])) (fun q' => hb (by simp [q'])) (fun q' => hb (by simp [q'])) (fun q' => hb (by simp [q'])) q) hf⟩
  self := fun A i s Q E st h => wpAny_pyIter_zip st.1 h
def iZipM (K : PySem.W.Frag) (ta : TA) : TI := fun σ H R => ta σ H fun vs H1 => ∃ a b xs ys, vs = [.ref a, .ref b] ∧ SqL K H1 a xs ∧ SqT K H1 b ys ∧ R (ItM K a b xs.length ys.length) H1
theorem pi_zipM {X : Cx} {e e2 : Expr} {ta : TA} {p pos tpos : Pos} {elts : List Expr} {kk : Nat} (hg : Gl X "zip") (hm : X.mg "zip" = none) (ha : PA X [e, e2] ta)
    (hs : starEach [e, e2] X.env = (false, eval e X.env) :: starEach [e2] X.env := by rfl) (hpl : (backTo pos (starEach [e2] X.env)).any (·.1) = false := by rfl) :
    PI X (.Tuple elts kk tpos) (.Call (.Name "zip" p) [e, e2] [] pos) (iZipM X.K ta) := by
  refine ⟨fun pins s σ H R I h => ?_⟩
  refine Call_ (ld_blt I hg hm PyProof.Rows.boot_zip (PyProof.Rows.callWith_type1 (thn (ha.run pos pins s σ H _ I h) fun us s1 ⟨vs, H1, I1, r1, q1⟩ => ?_) hs hpl))
  obtain ⟨a, b, xs, ys, ex, hqx, hqy, q⟩ := q1
  subst ex
  cases r1 with
  | cons r rr =>
    cases rr with
    | cons r' rr =>
      cases rr
      cases r
      cases r'
      obtain ⟨its, rv, p1, _⟩ := I1.list hqx
      obtain ⟨its2, rv2, p2, _⟩ := I1.tuple hqy
      obtain ⟨o2, ho2, _⟩ := id p2
      have lta : a < s1.heap.objs.size := p1.lt
      have ltb : b < s1.heap.objs.size := Heap.lt_size ho2
      refine zip_begins2 (begins_list a its.toArray) (begins_tuple b its2.toArray) p1.isList p2 fun h' hz hTI hTO g1 g2 hsz hk => wpAny_pyIter_zip hz ?_
      have I2 : Inv X pins σ H1 { s1 with heap := h' } := I1.kept (t' := s1.toks) hk
      have Z : ZipSep2 (s1.heap.objs.size + 4) (s1.heap.objs.size + 2) (s1.heap.objs.size + 3) s1.heap.objs.size (s1.heap.objs.size + 1) [s1.heap.objs.size, a] [s1.heap.objs.size + 1, b] := zip_sep2 (fp1 := [a]) (fp2 := [b]) (fun c hc => by rw [List.mem_singleton.mp hc]; exact lta) fun c hc => by rw [List.mem_singleton.mp hc]; exact ltb
      refine ⟨s1.heap.objs.size + 4, [s1.heap.objs.size + 4, s1.heap.objs.size + 2, s1.heap.objs.size + 3, s1.heap.objs.size, s1.heap.objs.size + 1], _, _, H1, rfl, I2,
        turn_zipM Z (Nat.ne_of_lt lta) (Nat.ne_of_lt (Nat.lt_succ_of_lt ltb)), ⟨hz, hTI, ⟨_, _, hTO⟩, ⟨_, g1, rfl, rfl⟩, ⟨_, g2, rfl, rfl⟩, Nat.zero_le _, Nat.zero_le _⟩, fun c hc => ?_, q⟩
      have hle : s1.heap.objs.size ≤ c := by
        simp only [List.mem_cons, List.not_mem_nil, or_false] at hc
        rcases hc with z | z | z | z | z <;> rw [z] <;> first | exact Nat.le_add_right _ _ | exact Nat.le_refl _
      exact I1.fpOk hle (I1.hok.fresh hle)
theorem pi_or {X : Cx} {tg e : Expr} {t u : TI} (h : PI X tg e t) (h' : PI X tg e u) : PI X tg e (fun σ H R => t σ H R ∨ u σ H R) := ⟨fun pins s σ H R I w => w.elim (h.run pins s σ H R I) (h'.run pins s σ H R I)⟩
end ZI

set_option maxHeartbeats 4000000
/-! Z over the hand layer: ranges; every expression that chkE admits. -/
namespace Z
open PySem PySem.Spec L2

section
variable {X : Cx} {G : GE} {C : Cxt} {gl : Gl} {tg : Expr}
theorem rngR_eq {x y r : RV} {μ μ' : Sto} (h : rngR x y μ = .ok r μ') : ∃ i j, x = .v (.int i) ∧ y = .v (.int j) ∧ (-(2 ^ 62) ≤ i ∧ i < 2 ^ 62 ∧ -(2 ^ 62) ≤ j ∧ j < 2 ^ 62) ∧ r = .v (rng i j) ∧ μ' = μ := by
  unfold rngR at h
  split at h
  · rename_i i j e1 e2
    split at h
    · rename_i h3
      cases h
      simp only [r62, Bool.and_eq_true, decide_eq_true_eq] at h3
      exact ⟨i, j, toI_eq e1, toI_eq e2, ⟨h3.1.1, h3.1.2, h3.2.1, h3.2.2⟩, rfl, rfl⟩
    · cases h
  · cases h
theorem rgC_pos {i j c : Int} (ha : -(2 ^ 62) ≤ i) (ha' : i < 2 ^ 62) (hb : -(2 ^ 62) ≤ j) (hb' : j < 2 ^ 62) (hc : 0 < c) (hc' : c < 1073741824) : RgC i j c (rngN i j c) := by
  have hn : (rngN i j c : Int) = Builtin.Range.rangeSize i j c := by
    unfold rngN Builtin.Range.rangeSize
    simp only [show c > 0 from hc, if_true]
    split
    · rw [Int.toNat_of_nonneg]
      have := Int.ediv_nonneg (show 0 ≤ j - i - 1 by omega) (Int.le_of_lt hc)
      omega
    · rfl
  refine ⟨by omega, by omega, ?_, hn.symm⟩
  have hle : Builtin.Range.rangeSize i j c ≤ 2 ^ 63 - 1 ∧ 0 ≤ Builtin.Range.rangeSize i j c := by
    refine ⟨?_, by rw [← hn]; omega⟩
    unfold Builtin.Range.rangeSize
    rw [if_pos (show c > 0 from hc)]
    split
    · have h0 : 0 ≤ j - i - 1 := by omega
      have := Int.ediv_le_self c h0
      omega
    · decide
  unfold Builtin.Range.small
  generalize Builtin.Range.rangeSize i j c = n at hle
  simp only [Builtin.Range.rangeFitsLong, Bool.and_eq_true, Bool.or_eq_true, decide_eq_true_eq, beq_iff_eq, show c > 0 from hc, if_true]
  omega
theorem rng3R_eq {x y z r : RV} {μ μ' : Sto} (h : rng3R x y z μ = .ok r μ') : ∃ i j c, x = .v (.int i) ∧ y = .v (.int j) ∧ z = .v (.int c) ∧ RgC i j c (rngN i j c) ∧ r = .v (rng3 i j c) ∧ μ' = μ := by
  unfold rng3R at h
  split at h
  · rename_i i j c e1 e2 e3
    split at h
    · rename_i h3
      cases h
      simp only [r62, Bool.and_eq_true, Bool.or_eq_true, decide_eq_true_eq] at h3
      refine ⟨i, j, c, toI_eq e1, toI_eq e2, toI_eq e3, ?_, rfl, rfl⟩
      rcases h3.2 with hc | hc
      · subst hc
        have : rngN i j (-1) = (i - j).toNat := by
          unfold rngN
          rw [if_neg (by decide)]
          split
          · rw [show (-(-1) : Int) = 1 from rfl, Int.ediv_one]; congr 1; omega
          · have : i - j ≤ 0 := by omega
            rw [Int.toNat_of_nonpos this]; rfl
        rw [this]
        exact RgC.neg h3.1.1.1 h3.1.1.2 h3.1.2.1 h3.1.2.2
      · exact rgC_pos h3.1.1.1 h3.1.1.2 h3.1.2.1 h3.1.2.2 hc.1 hc.2
    · cases h
  · cases h
theorem ints_of {ρ : Pr} {H : Hp} {K : PySem.W.Frag} {vs : List V} {i j : Int} (h : Paired (RepP K G ρ H) [.v (.int i), .v (.int j)] vs) : vs = [.int i, .int j] := by
  cases h with
  | cons a b =>
    cases b with
    | cons c d =>
      cases d
      have a' : Rep K G ρ.W H (.int i) _ := a
      have c' : Rep K G ρ.W H (.int j) _ := c
      cases a'
      cases c'
      rfl
theorem int1_of {ρ : Pr} {H : Hp} {K : PySem.W.Frag} {vs : List V} {j : Int} (h : Paired (RepP K G ρ H) [.v (.int j)] vs) : vs = [.int j] := by
  cases h with
  | cons a b =>
    cases b
    have a' : Rep K G ρ.W H (.int j) _ := a
    cases a'
    rfl
theorem i_rng1 (hg : L2.Gl X "range") (hm : X.mg "range" = none) {b : Expr} {b' : E} {p pos : Pos} (hs : starB b = false) (hb : PE X b (tE X.K G C b')) : PI X tg (.Call (.Name "range" p) [b] [] pos) (tI X.K G C (.rng (.int 0) b')) := by
  refine (pi_range1 hg hm (a_cons hs hb a_nil) (star_ok hs [] X.env)).imp fun σ H Q h => ?_
  obtain ⟨ρ, μ, ls, r, μ', st, rl, e, wb, k⟩ := h
  simp only [ev, R.bind_ok] at e
  obtain ⟨y, μ1, e1, f1⟩ := bind_eq e
  obtain ⟨i, j, e2, rfl, ⟨b1, b2, b3, b4⟩, rfl, rfl⟩ := rngR_eq f1
  cases e2
  refine ⟨ρ, μ, ls, [.v (.int j)], μ', st, rl, by simp only [evs, e1, R.bind_ok], fun ρ1 H1 vs x1 s1 ra => ?_⟩
  refine ⟨j, int1_of (ra.p s1), b3, b4, k ρ1 H1 _ x1 s1 fun xs hx => ?_⟩
  cases hx
  have := wks_rng (K := X.K) (G := G) (ρ := ρ1) (H := H1) (i := 0) (j := j) (n := j.toNat) (by simp)
  exact this
theorem i_rng2 (hg : L2.Gl X "range") (hm : X.mg "range" = none) {a b : Expr} {a' b' : E} {p pos : Pos} (hsa : starB a = false) (hs : starB b = false) (ha : PE X a (tE X.K G C a')) (hb : PE X b (tE X.K G C b')) : PI X tg (.Call (.Name "range" p) [a, b] [] pos) (tI X.K G C (.rng a' b')) := by
  refine (pi_range2 hg hm (a_cons hsa ha (a_cons hs hb a_nil)) (by rw [star_ok hsa, star_ok hs]; rfl) (by rw [star_ok hs]; rfl)).imp fun σ H Q h => ?_
  obtain ⟨ρ, μ, ls, r, μ', st, rl, e, wb, k⟩ := h
  simp only [ev] at e
  obtain ⟨x, μ1, e1, f1⟩ := bind_eq e
  obtain ⟨y, μ2, e2, f2⟩ := bind_eq f1
  obtain ⟨i, j, rfl, rfl, bb, rfl, rfl⟩ := rngR_eq f2
  refine ⟨ρ, μ, ls, [.v (.int i), .v (.int j)], μ', st, rl, by simp only [evs, e1, e2, R.bind_ok], fun ρ1 H1 vs x1 s1 ra => ?_⟩
  refine ⟨i, j, ints_of (ra.p s1), bb, k ρ1 H1 _ x1 s1 fun xs hx => ?_⟩
  cases hx
  exact wks_rng rfl
theorem ints3_of {ρ : Pr} {H : Hp} {K : PySem.W.Frag} {vs : List V} {i j l : Int} (h : Paired (RepP K G ρ H) [.v (.int i), .v (.int j), .v (.int l)] vs) : vs = [.int i, .int j, .int l] := by
  cases h with
  | cons a b =>
    have a' : Rep K G ρ.W H (.int i) _ := a
    cases a'
    rw [ints_of b]
theorem i_rng3 (hg : L2.Gl X "range") (hm : X.mg "range" = none) {a b d : Expr} {a' b' d' : E} {p pos : Pos} (hsa : starB a = false) (hs : starB b = false) (hd : starB d = false) (ha : PE X a (tE X.K G C a')) (hb : PE X b (tE X.K G C b')) (hdd : PE X d (tE X.K G C d')) :
    PI X tg (.Call (.Name "range" p) [a, b, d] [] pos) (tI X.K G C (.rng3 a' b' d')) := by
  refine (pi_range3 hg hm (a_cons hsa ha (a_cons hs hb (a_cons hd hdd a_nil))) (by rw [star_ok hsa]) (star_all (es := [b, d]) (by simp [hs, hd]) _ _)).imp fun σ H Q h => ?_
  obtain ⟨ρ, μ, ls, r, μ', st, rl, e, wb, k⟩ := h
  simp only [ev] at e
  obtain ⟨x, μ1, e1, f1⟩ := bind_eq e
  obtain ⟨y, μ2, e2, f2⟩ := bind_eq f1
  obtain ⟨z, μ3, e3, f3⟩ := bind_eq f2
  obtain ⟨i, j, l, rfl, rfl, rfl, bb, rfl, rfl⟩ := rng3R_eq f3
  refine ⟨ρ, μ, ls, [.v (.int i), .v (.int j), .v (.int l)], μ', st, rl, by simp only [evs, ev, e1, e2, e3, R.bind_ok], fun ρ1 H1 vs x1 s1 ra => ?_⟩
  refine ⟨i, j, l, _, ints3_of (ra.p s1), bb, k ρ1 H1 _ x1 s1 fun xs hx => ?_⟩
  cases hx
  exact wks_rngC (j := j)
theorem rep_sqT {K : PySem.W.Frag} {W : List Addr} {H : Hp} {ps : List PV} {v : V} (r : Rep K G W H (.tup ps) v) : ∃ a vs, v = .ref a ∧ SqT K H a vs ∧ Reps K G W H ps vs := by
  cases r with
  | tup h1 h2 h3 => exact ⟨_, _, rfl, .inl (.inl h1), h3⟩
  | tupK h1 h2 h3 h4 h5 h6 => exact ⟨_, _, rfl, .inr ⟨_, _, _, h1, h2, h3, h4, h5⟩, h6⟩
theorem enumL_get : ∀ {ps : List PV} {k i : Nat} {x : PV}, (enumL k ps)[i]? = some x → ∃ p, ps[i]? = some p ∧ x = .tup [.int ((k + i : Nat) : Int), p]
  | [], _, _, _, h => by simp [enumL] at h
  | p :: ps, k, 0, x, h => by
    simp [enumL] at h
    exact ⟨p, rfl, h.symm⟩
  | p :: ps, k, i + 1, x, h => by
    have h' : (enumL (k + 1) ps)[i]? = some x := by simpa [enumL] using h
    obtain ⟨q, h1, h2⟩ := enumL_get h'
    exact ⟨q, by simpa using h1, by rw [h2, show k + 1 + i = k + (i + 1) by omega]⟩
theorem enumL_len : ∀ (ps : List PV) (k : Nat), (enumL k ps).length = ps.length
  | [], _ => rfl
  | p :: ps, k => by simp [enumL, enumL_len ps]
/-- a new pair -/
theorem rep_pair {K : PySem.W.Frag} {ρ2 : Pr} {H2 : Hp} {T : Addr} {p q : PV} {x y : V} (hT : H2 T = none) (lv : ∀ a ∈ ρ2.W, H2 a ≠ none) (r1 : Rep K G ρ2.W H2 p x) (r2 : Rep K G ρ2.W H2 q y) : Rep K G ρ2.W (upd H2 T (.tup [x, y])) (.tup [p, q]) (.ref T) := by
  have f : Frame ρ2.W H2 (upd H2 T (.tup [x, y])) := fun b u e _ => same_upd hT b u e
  exact .tup upd_same (fun z => lv T z hT) (.cons (r1.ext f fun _ z => .inl z) (.cons (r2.ext f fun _ z => .inl z) .nil))
theorem wks_enum {K : PySem.W.Frag} {ρ : Pr} {H : Hp} {a : Addr} {vs : List V} {ps : List PV} (h : H a = some (.lst vs)) (hn : a ∉ ρ.W) (r : Reps K G ρ.W H ps vs) : Wks K G ρ H (enumL 0 ps) (Ite K a) := fun (ρ2 : Pr) H2 x lv => by
  have h2 : H2 a = some (.lst vs) := x.frW _ _ h (.inl hn)
  have r2 : Reps K G ρ2.W H2 ps vs := r.ext x.frW x.mem
  have sq : SqL K H2 a vs := .inl (.inl h2)
  refine ⟨fun i y hy => ?_, fun i hi => ⟨vs, sq, by rw [enumL_len] at hi; rw [← r.length]; exact hi⟩⟩
  obtain ⟨p, hp, rfl⟩ := enumL_get hy
  obtain ⟨v, hv, rv⟩ := r2.get hp
  refine ⟨⟨vs, v, sq, hv⟩, fun w H3 yy => ?_⟩
  obtain ⟨T, x', rfl, hT, rfl, hx⟩ := yy
  have := hx vs sq
  rw [hv] at this
  cases this
  rw [Nat.zero_add]
  exact ⟨same_upd hT, rep_pair hT lv (.int _) rv⟩
theorem kp_read {K : PySem.W.Frag} {ρ : Pr} {μ : Sto} {H : Hp} {x : RV} {p : PV} {v : V} (st : RelSt K G ρ μ H) (r : RepP K G ρ H x v) (h : kp x = some p) : (∀ xs, p = .lst xs → ∃ a vs, v = .ref a ∧ H a = some (.lst vs) ∧ a ∉ ρ.W ∧ Reps K G ρ.W H xs vs) := fun xs e => by
  subst e
  cases x with
  | v q =>
    cases h
    have r' : Rep K G ρ.W H (.lst xs) v := r
    cases r' with
    | lst h1 h2 h3 => exact ⟨_, _, rfl, h1, h2, h3⟩
  | new q =>
    cases h
    obtain ⟨a, o, rfl, h1, h2, hf, h3⟩ := r
    cases h3 with
    | lst h3 => exact ⟨a, _, rfl, h2, h1, h3⟩
  | loc n => cases h
theorem wks_enumT {K : PySem.W.Frag} {ρ : Pr} {H : Hp} {a : Addr} {ps : List PV} (r : Rep K G ρ.W H (.tup ps) (.ref a)) : Wks K G ρ H (enumL 0 ps) (ZI.IteT K a) := fun (ρ2 : Pr) H2 x lv => by
  obtain ⟨a', vs, ea, sq, r2⟩ := rep_sqT (x.rep r)
  cases ea
  refine ⟨fun i y hy => ?_, fun i hi => ⟨vs, sq, by rw [enumL_len] at hi; rw [← r2.length]; exact hi⟩⟩
  obtain ⟨p, hp, rfl⟩ := enumL_get hy
  obtain ⟨v, hv, rv⟩ := r2.get hp
  refine ⟨⟨vs, v, sq, hv⟩, fun w H3 yy => ?_⟩
  obtain ⟨T, x', rfl, hT, rfl, hx⟩ := yy
  have := hx vs sq
  rw [hv] at this
  cases this
  rw [Nat.zero_add]
  exact ⟨same_upd hT, rep_pair hT lv (.int _) rv⟩
theorem wks_enumS {K : PySem.W.Frag} {ρ : Pr} {H : Hp} {s : List Nat} : Wks K G ρ H (enumL 0 (s.map fun c => .str [c])) (ZI.IteS ⟨s.toArray⟩) := fun (ρ2 : Pr) H2 x lv => by
  refine ⟨fun i y hy => ?_, fun i hi => by
    show (⟨s.toArray⟩ : Str).cps.size ≤ i
    rw [enumL_len, List.length_map] at hi
    simpa using hi⟩
  obtain ⟨p, hp, rfl⟩ := enumL_get hy
  rw [List.getElem?_map] at hp
  obtain ⟨c, hc, rfl⟩ := Option.map_eq_some_iff.mp hp
  refine ⟨?_, fun w H3 yy => ?_⟩
  · show i < (⟨s.toArray⟩ : Str).cps.size
    have := (List.getElem?_eq_some_iff.mp hc).1
    simpa using this
  · obtain ⟨T, c', rfl, hT, rfl, hc'⟩ := yy
    have e : c' = c := by
      have : s[i]? = some c' := by simpa using hc'
      rw [hc] at this
      cases this
      rfl
    subst e
    rw [Nat.zero_add]
    exact ⟨same_upd hT, rep_pair hT lv (.int _) (.str [c'])⟩
theorem wks_ezip {K : PySem.W.Frag} {ρ : Pr} {H : Hp} {s t : List Nat} (hst : s.length = t.length) : Wks K G ρ H (enumL 0 (zipS s t)) (ZI.IteZ ⟨s.toArray⟩ ⟨t.toArray⟩) := fun (ρ2 : Pr) H2 x lv => by
  have hl : (enumL 0 (zipS s t)).length = s.length := by rw [enumL_len, zipS, List.length_map, List.length_zip, ← hst, Nat.min_self]
  refine ⟨fun i y hy => ?_, fun i hi => by
    show (⟨s.toArray⟩ : Str).cps.size ≤ i
    rw [hl] at hi
    simpa using hi⟩
  have hi : i < s.length := by
    rw [← hl]
    exact (List.getElem?_eq_some_iff.mp hy).1
  obtain ⟨p, hp, rfl⟩ := enumL_get hy
  rw [zipS, List.getElem?_map] at hp
  obtain ⟨⟨c, d⟩, hc, rfl⟩ := Option.map_eq_some_iff.mp hp
  obtain ⟨hc, hd⟩ := List.getElem?_zip_eq_some.mp hc
  refine ⟨?_, fun w H3 yy => ?_⟩
  · show i < (⟨s.toArray⟩ : Str).cps.size
    simpa using hi
  · obtain ⟨T, S, c', d', rfl, hS, hT, nTS, rfl, hc', hd'⟩ := yy
    have e : c' = c := by
      have : s[i]? = some c' := by simpa using hc'
      rw [this] at hc
      cases hc
      rfl
    have e2 : d' = d := by
      have : t[i]? = some d' := by simpa using hd'
      rw [this] at hd
      cases hd
      rfl
    subst e e2
    rw [Nat.zero_add]
    have hT' : upd H2 S (.tup [.str ⟨#[c']⟩, .str ⟨#[d']⟩]) T = none := by rw [upd_ne nTS]; exact hT
    refine ⟨(same_upd hS).trans (same_upd hT'), rep_pair hT' (fun a ha => ?_) (.int _) (rep_pair hS lv (.str [c']) (.str [d']))⟩
    by_cases h : a = S
    · subst h
      rw [upd_same]; simp
    · rw [upd_ne h]; exact lv a ha
theorem kp_tupE {K : PySem.W.Frag} {ρ : Pr} {H : Hp} {x : RV} {ps : List PV} {v : V} (r : RepP K G ρ H x v) (h : kp x = some (.tup ps)) : Rep K G ρ.W H (.tup ps) v := by
  cases x with
  | v q => cases h; exact r
  | new q =>
    cases h
    obtain ⟨a, o, rfl, _, _, _, c⟩ := r
    cases c
  | loc n => cases h
theorem kp_strE {K : PySem.W.Frag} {ρ : Pr} {H : Hp} {x : RV} {s : List Nat} {v : V} (r : RepP K G ρ H x v) (h : kp x = some (.str s)) : v = .str ⟨s.toArray⟩ := by
  cases x with
  | v q =>
    cases h
    have r' : Rep K G ρ.W H (.str s) v := r
    cases r'
    rfl
  | new q =>
    cases h
    obtain ⟨a, o, rfl, _, _, _, c⟩ := r
    cases c
  | loc n => cases h
theorem i_enum {elts : List Expr} {kk : Nat} {tpos : Pos} (hg : L2.Gl X "enumerate") (hm : X.mg "enumerate" = none) {b : Expr} {b' : E} {p pos : Pos} (hs : starB b = false) (hb : PE X b (tE X.K G C b')) : PI X (.Tuple elts kk tpos) (.Call (.Name "enumerate" p) [b] [] pos) (tI X.K G C (.enum b')) := by
  refine (ZI.pi_enumA hg hm (a_cons hs hb a_nil) (star_ok hs [] X.env)).imp fun σ H Q h => ?_
  obtain ⟨ρ, μ, ls, r, μ', st, rl, e, wb, k⟩ := h
  simp only [ev] at e
  obtain ⟨x, μ1, e1, f1⟩ := bind_eq e
  unfold enumR at f1
  split at f1
  · rename_i xs hx
    cases f1
    refine ⟨ρ, μ, ls, [x], μ', st, rl, by simp only [evs, e1, R.bind_ok], fun ρ1 H1 vs x1 s1 ra => ?_⟩
    have rp := ra.p s1
    cases rp with
    | cons r1 rr =>
      cases rr
      obtain ⟨a, ys, rfl, h1, h2, h3⟩ := kp_read s1 r1 hx xs rfl
      refine ⟨_, rfl, .inl ⟨a, ys, rfl, .inl (.inl h1), k ρ1 H1 _ x1 s1 fun zs hz => ?_⟩⟩
      cases hz
      exact wks_enum h1 h2 h3
  · rename_i xs hx
    cases f1
    refine ⟨ρ, μ, ls, [x], μ', st, rl, by simp only [evs, e1, R.bind_ok], fun ρ1 H1 vs x1 s1 ra => ?_⟩
    have rp := ra.p s1
    cases rp with
    | cons r1 rr =>
      cases rr
      have t1 := kp_tupE r1 hx
      obtain ⟨a1, vs1, rfl, h1, _⟩ := rep_sqT t1
      refine ⟨_, rfl, .inr (.inl ⟨a1, vs1, rfl, h1, k ρ1 H1 _ x1 s1 fun zs hz => ?_⟩)⟩
      cases hz
      exact wks_enumT t1
  · rename_i s hx
    cases f1
    refine ⟨ρ, μ, ls, [x], μ', st, rl, by simp only [evs, e1, R.bind_ok], fun ρ1 H1 vs x1 s1 ra => ?_⟩
    have rp := ra.p s1
    cases rp with
    | cons r1 rr =>
      cases rr
      have := kp_strE r1 hx
      subst this
      refine ⟨_, rfl, .inr (.inr ⟨_, rfl, k ρ1 H1 _ x1 s1 fun zs hz => ?_⟩)⟩
      cases hz
      exact wks_enumS
  · cases f1
theorem i_ezip {elts : List Expr} {kk : Nat} {tpos : Pos} (hg : L2.Gl X "enumerate") (hm : X.mg "enumerate" = none) (hg2 : L2.Gl X "zip") (hm2 : X.mg "zip" = none) {a b : Expr} {a' b' : E} {p p2 pos pos2 : Pos} (hsa : starB a = false) (hs : starB b = false) (ha : PE X a (tE X.K G C a')) (hb : PE X b (tE X.K G C b')) :
    PI X (.Tuple elts kk tpos) (.Call (.Name "enumerate" p) [.Call (.Name "zip" p2) [a, b] [] pos2] [] pos) (tI X.K G C (.ezip a' b')) := by
  refine (ZI.pi_ezip hg hm hg2 hm2 (a_cons hsa ha (a_cons hs hb a_nil)) (star_ok hsa _ X.env) (star_all (es := [b]) (by simp [hs]) _ _)).imp fun σ H Q h => ?_
  obtain ⟨ρ, μ, ls, r, μ', st, rl, e, wb, k⟩ := h
  simp only [ev] at e
  obtain ⟨x, μ1, e1, f1⟩ := bind_eq e
  obtain ⟨y, μ2, e2, f2⟩ := bind_eq f1
  unfold ezipR at f2
  split at f2
  · rename_i s t hx hy
    split at f2
    · rename_i hst
      cases f2
      refine ⟨ρ, μ, ls, [x, y], μ', st, rl, by simp only [evs, e1, e2, R.bind_ok], fun ρ1 H1 vs x1 s1 ra => ?_⟩
      have rp := ra.p s1
      cases rp with
      | cons r1 rr =>
        cases rr with
        | cons r2 rr =>
          cases rr
          have g1 := kp_strE r1 hx
          have g2 := kp_strE r2 hy
          subst g1 g2
          refine ⟨_, _, rfl, by simpa using hst, k ρ1 H1 _ x1 s1 fun zs hz => ?_⟩
          cases hz
          exact wks_ezip hst
    · cases f2
  · cases f2
theorem zip_get {xs ys : List PV} {i : Nat} {z : PV} (h : ((xs.zip ys).map fun p => PV.tup [p.1, p.2])[i]? = some z) : ∃ p q, xs[i]? = some p ∧ ys[i]? = some q ∧ z = .tup [p, q] := by
  rw [List.getElem?_map] at h
  obtain ⟨pq, h1, rfl⟩ := Option.map_eq_some_iff.mp h
  obtain ⟨h2, h3⟩ := List.getElem?_zip_eq_some.mp h1
  exact ⟨pq.1, pq.2, h2, h3, rfl⟩
theorem wks_zip {K : PySem.W.Frag} {ρ : Pr} {H : Hp} {a b : Addr} {vs ws : List V} {ps qs : List PV} (h : H a = some (.lst vs)) (hn : a ∉ ρ.W) (r : Reps K G ρ.W H ps vs) (h' : H b = some (.lst ws)) (hn' : b ∉ ρ.W) (r' : Reps K G ρ.W H qs ws) : Wks K G ρ H ((ps.zip qs).map fun p => .tup [p.1, p.2]) (Itz K a b) := fun (ρ2 : Pr) H2 x lv => by
  have h2 : SqL K H2 a vs := .inl (.inl (x.frW _ _ h (.inl hn)))
  have h3 : SqL K H2 b ws := .inl (.inl (x.frW _ _ h' (.inl hn')))
  have r2 : Reps K G ρ2.W H2 ps vs := r.ext x.frW x.mem
  have r3 : Reps K G ρ2.W H2 qs ws := r'.ext x.frW x.mem
  refine ⟨fun i y hy => ?_, fun i hi => ⟨vs, ws, h2, h3, ?_⟩⟩
  · obtain ⟨p, q, hp, hq, rfl⟩ := zip_get hy
    obtain ⟨v, hv, rv⟩ := r2.get hp
    obtain ⟨w, hw, rw'⟩ := r3.get hq
    refine ⟨⟨vs, ws, v, w, h2, h3, hv, hw⟩, fun u H3 yy => ?_⟩
    obtain ⟨T, v', w', rfl, hT, rfl, hx, hy'⟩ := yy
    have e1 := hx vs h2
    have e2 := hy' ws h3
    rw [hv] at e1
    rw [hw] at e2
    cases e1
    cases e2
    exact ⟨same_upd hT, rep_pair hT lv rv rw'⟩
  · rw [List.length_map, List.length_zip, r2.length, r3.length] at hi
    omega
theorem rep_sq {K : PySem.W.Frag} {W : List Addr} {H : Hp} {ps : List PV} {v : V} (r : Rep K G W H (.tup ps) v) : ∃ a vs, v = .ref a ∧ SqT K H a vs ∧ Reps K G W H ps vs := by
  cases r with
  | tup h1 h2 h3 => exact ⟨_, _, rfl, .inl (.inl h1), h3⟩
  | tupK h1 h2 h3 h4 h5 h6 => exact ⟨_, _, rfl, .inr ⟨_, _, _, h1, h2, h3, h4, h5⟩, h6⟩
theorem wks_zipT {K : PySem.W.Frag} {ρ : Pr} {H : Hp} {a b : Addr} {ps qs : List PV} (r : Rep K G ρ.W H (.tup ps) (.ref a)) (r' : Rep K G ρ.W H (.tup qs) (.ref b)) : Wks K G ρ H ((ps.zip qs).map fun p => .tup [p.1, p.2]) (RZ.ItzT K a b) := fun (ρ2 : Pr) H2 x lv => by
  obtain ⟨a', vs, ea, h2, r2⟩ := rep_sq (x.rep r)
  obtain ⟨b', ws, eb, h3, r3⟩ := rep_sq (x.rep r')
  cases ea
  cases eb
  refine ⟨fun i y hy => ?_, fun i hi => ⟨vs, ws, h2, h3, ?_⟩⟩
  · obtain ⟨p, q, hp, hq, rfl⟩ := zip_get hy
    obtain ⟨v, hv, rv⟩ := r2.get hp
    obtain ⟨w, hw, rw'⟩ := r3.get hq
    refine ⟨⟨vs, ws, v, w, h2, h3, hv, hw⟩, fun u H3 yy => ?_⟩
    obtain ⟨T, v', w', rfl, hT, rfl, hx, hy'⟩ := yy
    have e1 := hx vs h2
    have e2 := hy' ws h3
    rw [hv] at e1
    rw [hw] at e2
    cases e1
    cases e2
    exact ⟨same_upd hT, rep_pair hT lv rv rw'⟩
  · rw [List.length_map, List.length_zip, r2.length, r3.length] at hi
    omega
theorem wks_zipM {K : PySem.W.Frag} {ρ : Pr} {H : Hp} {a b : Addr} {vs ws : List V} {ps qs : List PV} (h : H a = some (.lst vs)) (hn : a ∉ ρ.W) (r : Reps K G ρ.W H ps vs) (hw : qs.length = ws.length) (r' : Rep K G ρ.W H (.tup qs) (.ref b)) : Wks K G ρ H ((ps.zip qs).map fun p => .tup [p.1, p.2]) (ZI.ItM K a b vs.length ws.length) := fun (ρ2 : Pr) H2 x lv => by
  have h2 : SqL K H2 a vs := .inl (.inl (x.frW _ _ h (.inl hn)))
  have r2 : Reps K G ρ2.W H2 ps vs := r.ext x.frW x.mem
  obtain ⟨b', ws', eb, h3, r3⟩ := rep_sq (x.rep r')
  cases eb
  have lw : ws'.length = ws.length := by rw [← hw]; exact r3.length.symm
  refine ⟨fun i y hy => ?_, fun i hi => ⟨vs, ws', h2, h3, rfl, lw, ?_⟩⟩
  · obtain ⟨p, q, hp, hq, rfl⟩ := zip_get hy
    obtain ⟨v, hv, rv⟩ := r2.get hp
    obtain ⟨w, hw, rw'⟩ := r3.get hq
    refine ⟨⟨vs, ws', v, w, h2, h3, rfl, lw, hv, hw⟩, fun u H3 yy => ?_⟩
    obtain ⟨T, v', w', rfl, hT, rfl, hx, hy'⟩ := yy
    have e1 := hx vs h2
    have e2 := hy' ws' h3
    rw [hv] at e1
    rw [hw] at e2
    cases e1
    cases e2
    exact ⟨same_upd hT, rep_pair hT lv rv rw'⟩
  · rw [List.length_map, List.length_zip, r2.length, hw] at hi
    omega
theorem kp_tup {K : PySem.W.Frag} {ρ : Pr} {H : Hp} {x : RV} {ps : List PV} {v : V} (r : RepP K G ρ H x v) (h : kp x = some (.tup ps)) : Rep K G ρ.W H (.tup ps) v := by
  cases x with
  | v q => cases h; exact r
  | new q =>
    cases h
    obtain ⟨a, o, rfl, _, _, _, c⟩ := r
    cases c
  | loc n => cases h
theorem i_zip {elts : List Expr} {kk : Nat} {tpos : Pos} (hg : L2.Gl X "zip") (hm : X.mg "zip" = none) {a b : Expr} {a' b' : E} {p pos : Pos} (hsa : starB a = false) (hs : starB b = false) (ha : PE X a (tE X.K G C a')) (hb : PE X b (tE X.K G C b')) : PI X (.Tuple elts kk tpos) (.Call (.Name "zip" p) [a, b] [] pos) (tI X.K G C (.zip a' b')) := by
  refine (ZI.pi_or (RZ.pi_zipA hg hm (a_cons hsa ha (a_cons hs hb a_nil)) (star_ok hsa _ X.env) (star_all (es := [b]) (by simp [hs]) _ _)) (ZI.pi_zipM hg hm (a_cons hsa ha (a_cons hs hb a_nil)) (star_ok hsa _ X.env) (star_all (es := [b]) (by simp [hs]) _ _))).imp fun σ H Q h => ?_
  obtain ⟨ρ, μ, ls, r, μ', st, rl, e, wb, k⟩ := h
  simp only [ev] at e
  obtain ⟨x, μ1, e1, f1⟩ := bind_eq e
  obtain ⟨y, μ2, e2, f2⟩ := bind_eq f1
  have ee : evs C (.cons a' (.cons b' .nil)) ls μ = .ok [x, y] μ2 := by simp only [evs, e1, e2, R.bind_ok]
  unfold zipR at f2
  split at f2
  · rename_i xs ys hx hy
    cases f2
    left
    refine ⟨ρ, μ, ls, [x, y], μ', st, rl, ee, fun ρ1 H1 vs x1 s1 ra => ?_⟩
    have rp := ra.p s1
    cases rp with
    | cons r1 rr =>
      cases rr with
      | cons r2 rr =>
        cases rr
        obtain ⟨a1, vs1, rfl, h1, h2, h3⟩ := kp_read s1 r1 hx xs rfl
        obtain ⟨b1, ws1, rfl, g1, g2, g3⟩ := kp_read s1 r2 hy ys rfl
        refine ⟨a1, b1, vs1, ws1, rfl, .inl ⟨.inl (.inl h1), .inl (.inl g1), k ρ1 H1 _ x1 s1 fun zs hz => ?_⟩⟩
        cases hz
        exact wks_zip h1 h2 h3 g1 g2 g3
  · rename_i xs ys hx hy
    cases f2
    left
    refine ⟨ρ, μ, ls, [x, y], μ', st, rl, ee, fun ρ1 H1 vs x1 s1 ra => ?_⟩
    have rp := ra.p s1
    cases rp with
    | cons r1 rr =>
      cases rr with
      | cons r2 rr =>
        cases rr
        have t1 := kp_tup r1 hx
        have t2 := kp_tup r2 hy
        obtain ⟨a1, vs1, rfl, h1, _⟩ := rep_sq t1
        obtain ⟨b1, ws1, rfl, g1, _⟩ := rep_sq t2
        refine ⟨a1, b1, vs1, ws1, rfl, .inr ⟨h1, g1, k ρ1 H1 _ x1 s1 fun zs hz => ?_⟩⟩
        cases hz
        exact wks_zipT t1 t2
  · rename_i xs ys hx hy
    cases f2
    right
    refine ⟨ρ, μ, ls, [x, y], μ', st, rl, ee, fun ρ1 H1 vs x1 s1 ra => ?_⟩
    have rp := ra.p s1
    cases rp with
    | cons r1 rr =>
      cases rr with
      | cons r2 rr =>
        cases rr
        obtain ⟨a1, vs1, rfl, h1, h2, h3⟩ := kp_read s1 r1 hx xs rfl
        have t2 := kp_tup r2 hy
        obtain ⟨b1, ws1, rfl, g1, g3⟩ := rep_sq t2
        refine ⟨a1, b1, vs1, ws1, rfl, .inl (.inl h1), g1, k ρ1 H1 _ x1 s1 fun zs hz => ?_⟩
        cases hz
        exact wks_zipM h1 h2 h3 g3.length t2
  · cases f2
end
end Z

set_option maxHeartbeats 8000000
/-! Z over the hand layer: every expression that chkE admits does what the interpreter says. -/
namespace Z
open PySem PySem.Spec L2

section
variable {X : Cx} {G : GE} {C : Cxt} {gl : Gl}
theorem _root_.L2.PW.impZ {e : Expr} {t t' : TT} (h : PW X e t) (i : ∀ σ H Q, t' σ H Q → t σ H Q) : PW X e t' := ⟨fun wh pins s σ H Q I w => h.run wh pins s σ H Q I (i σ H Q w)⟩
theorem t_ite {c a b : Expr} {c' a' b' : E} {pos : Pos} (hc : PT X c (tT X.K G C c')) (ha : PT X a (tT X.K G C a')) (hb : PT X b (tT X.K G C b')) : PT X (.IfExp c a b pos) (tT X.K G C (.ite c' a' b')) := by
  refine ⟨fun pins s σ H Q I h => ?_⟩
  obtain ⟨ρ, μ, ls, r, μ', st, rl, e, k⟩ := h
  simp only [ev] at e
  obtain ⟨x, μ1, e1, f1⟩ := bind_eq e
  clear e
  obtain ⟨t, rfl, e⟩ := tst_eq f1
  clear f1
  show wpAny _ _ (do if ← isTrue c X.env (eval c X.env) then isTrue a X.env (eval a X.env) else isTrue b X.env (eval b X.env)) _ _ _
  refine wpAny_bind (thn (hc.run pins s σ H (fun b H1 => b = t ∧ ∃ ρ1, Ext ρ H ρ1 H1 ∧ RelSt X.K G ρ1 μ1 H1) I ⟨ρ, μ, ls, t, _, st, rl, e1, fun ρ1 H1 x1 st1 => ⟨rfl, ρ1, x1, st1⟩⟩) fun u s1 ⟨H1, I1, q1⟩ => ?_)
  obtain ⟨rfl, ρ1, x1, st1⟩ := q1
  cases u with
  | true =>
    exact ha.run pins s1 σ H1 Q I1 ⟨ρ1, _, ls, r, μ', st1, x1.relL rl, e, fun ρ2 H2 x2 s2 => k ρ2 H2 (x1.trans x2) s2⟩
  | false =>
    exact hb.run pins s1 σ H1 Q I1 ⟨ρ1, _, ls, r, μ', st1, x1.relL rl, e, fun ρ2 H2 x2 s2 => k ρ2 H2 (x1.trans x2) s2⟩
theorem OkX.blk (ok : OkX X G C gl) (s : Shared) (H : Hp) (scope : Scope) (cenv : Env) (fp : List Addr) : OkX (X.blk s H scope cenv fp) G C gl := ⟨ok.calm, ok.nd, rfl, ok.fn, ok.free, ok.con, ok.un, ok.gd⟩
theorem own_map (N : List Str) (l : List Nat) : (ownOf N l).map (·.2) = l := by
  unfold ownOf
  rw [List.map_map]
  induction l with
  | nil => rfl
  | cons a l ih => simp only [List.map_cons, ih]; rfl
/-- what the checker's word gives -/
structure Srv (X : Cx) (G : GE) (C : Cxt) (e : Expr) (e' : E) : Prop where
  pe : PE X e (tE X.K G C e')
  pt : PT X e (tT X.K G C e')
  pw : ∀ op vs pos, e = .BoolOp op vs pos → PW X e (tT X.K G C e')
theorem Srv.val {e : Expr} {e' : E} (h : PE X e (tE X.K G C e')) (hb : ∀ op vs pos, e ≠ .BoolOp op vs pos) (he : ∀ whole, isTrue e X.env whole = (do let v ← whole; standAt e.pos; holding [v] (truthy v))) : Srv X G C e e' := ⟨h, t_val h he, fun op vs pos q => absurd q (hb op vs pos)⟩
theorem Srv.tst {e : Expr} {e' : E} (h : PE X e (tE X.K G C e')) (t : PT X e (tT X.K G C e')) (hb : ∀ op vs pos, e ≠ .BoolOp op vs pos) : Srv X G C e e' := ⟨h, t, fun op vs pos q => absurd q (hb op vs pos)⟩
theorem Srv.bop {e : Expr} {e' : E} (h : PE X e (tE X.K G C e')) (t : PW X e (tT X.K G C e')) : Srv X G C e e' := ⟨h, t.pt, fun _ _ _ _ => t⟩
theorem chkI_ok (ok : OkX X G C gl) {c : CC} (hsc : X.env.scope = c.sc) (hgl : c.gl = gl) {f : Expr → E → Bool} (hf : ∀ e e', f e e' = true → PE X e (tE X.K G C e')) {tg e : Expr} {e' : E} (h : chkI f c tg e e' = true) : PI X tg e (tI X.K G C e') := by
  unfold chkI at h
  split at h
  · rename_i x p b pos i b'
    simp only [Bool.and_eq_true, decide_eq_true_eq, Bool.not_eq_true'] at h
    obtain ⟨⟨⟨⟨hx, h1⟩, h2⟩, h3⟩, h4⟩ := h
    subst hx h2
    obtain ⟨g1, g2, _, _⟩ := free_ok ok hsc hgl h1
    exact i_rng1 g1 g2 h3 (hf _ _ h4)
  · rename_i x p a b d pos a' b' d'
    simp only [Bool.and_eq_true, decide_eq_true_eq, Bool.not_eq_true'] at h
    obtain ⟨⟨⟨⟨⟨⟨⟨hx, h1⟩, h2⟩, h3⟩, h4⟩, h5⟩, h6⟩, h7⟩ := h
    subst hx
    obtain ⟨g1, g2, _, _⟩ := free_ok ok hsc hgl h1
    exact i_rng3 g1 g2 h2 h3 h4 (hf _ _ h5) (hf _ _ h6) (hf _ _ h7)
  · rename_i x p a b pos a' b'
    simp only [Bool.and_eq_true, decide_eq_true_eq, Bool.not_eq_true'] at h
    obtain ⟨⟨⟨⟨⟨hx, h1⟩, h2⟩, h3⟩, h4⟩, h5⟩ := h
    subst hx
    obtain ⟨g1, g2, _, _⟩ := free_ok ok hsc hgl h1
    exact i_rng2 g1 g2 h2 h3 (hf _ _ h4) (hf _ _ h5)
  · rename_i x p y p2 a b pos2 pos a' b'
    simp only [Bool.and_eq_true, decide_eq_true_eq, Bool.not_eq_true'] at h
    obtain ⟨⟨⟨⟨⟨⟨⟨⟨hx, h1⟩, hy⟩, h2⟩, h3⟩, h4⟩, h5⟩, h6⟩, h7⟩ := h
    subst hx hy
    obtain ⟨g1, g2, _, _⟩ := free_ok ok hsc hgl h1
    obtain ⟨g3, g4, _, _⟩ := free_ok ok hsc hgl h2
    cases tg <;> first | exact i_ezip g1 g2 g3 g4 h4 h5 (hf _ _ h6) (hf _ _ h7) | (cases h3)
  · rename_i x p b pos b'
    simp only [Bool.and_eq_true, decide_eq_true_eq, Bool.not_eq_true'] at h
    obtain ⟨⟨⟨⟨hx, h1⟩, h2⟩, h3⟩, h4⟩ := h
    subst hx
    obtain ⟨g1, g2, _, _⟩ := free_ok ok hsc hgl h1
    cases tg <;> first | exact i_enum g1 g2 h3 (hf _ _ h4) | (cases h2)
  · rename_i x p a b pos a' b'
    simp only [Bool.and_eq_true, decide_eq_true_eq, Bool.not_eq_true'] at h
    obtain ⟨⟨⟨⟨⟨⟨hx, h1⟩, h2⟩, h3⟩, h4⟩, h5⟩, h6⟩ := h
    subst hx
    obtain ⟨g1, g2, _, _⟩ := free_ok ok hsc hgl h1
    cases tg <;> first | exact i_zip g1 g2 h3 h4 (hf _ _ h5) (hf _ _ h6) | (cases h2)
  · exact i_val (hf _ _ h)
end
section
variable {X : Cx} {G : GE} {C : Cxt} {gl : Gl}
theorem dIt_ok {c : CC} (hN : X.N = c.N) (hsc : X.env.scope = c.sc) {tg it : Expr} {b : Bool} {j : Nat} (h : dIt c tg b it j = true) : PI X tg it (iD b (tVar j)) := by
  unfold dIt at h
  split at h
  · rename_i x p m ap pos j
    simp only [Bool.and_eq_true, decide_eq_true_eq] at h
    obtain ⟨⟨⟨⟨⟨hm, h1⟩, h2⟩, h3⟩, h4⟩, h5⟩ := h
    subst hm
    obtain ⟨n1, n2, n3⟩ := nmB_ok h5
    cases tg <;> first | exact pi_items (pe_var (by rw [hN]; exact h3) (visB_ok (by rw [hsc]; exact h4)) n1 n2) rfl h1 | (cases h2)
  · rename_i x p j
    simp only [Bool.and_eq_true, decide_eq_true_eq] at h
    obtain ⟨⟨h3, h4⟩, h5⟩ := h
    obtain ⟨n1, n2, n3⟩ := nmB_ok h5
    exact pi_keys (pe_var (by rw [hN]; exact h3) (visB_ok (by rw [hsc]; exact h4)) n1 n2)
  · cases h
theorem dIt_fold {c : CC} {tg it : Expr} {b : Bool} {j : Nat} (h : dIt c tg b it j = true) (env : Env) : ∀ x, foldedSetIterable it env x = pure x := fun x => by
  cases it <;> first | rfl | (cases b <;> simp [dIt] at h)
end
theorem chkE_ok {G : GE} {C : Cxt} {gl : Gl} : ∀ (n : Nat) (X : Cx) (c : CC) (e : Expr) (e' : E), OkX X G C gl → X.N = c.N → X.env.scope = c.sc → c.gl = gl → chkE n c e e' = true → Srv X G C e e' := by
  intro n
  induction n with
  | zero => intro X c e e' _ _ _ _ h; simp [chkE] at h
  | succ n ih =>
    intro X c e e' ok hN hsc hgl h
    have sub : ∀ {e e'}, chkE n c e e' = true → Srv X G C e e' := fun {e e'} h => ih X c e e' ok hN hsc hgl h
    have subA : ∀ {es as}, chkA (chkE n c) es as = true → PA X es (tA X.K G C as) := fun {es as} h => chkA_ok (fun e e' h => (sub h).pe) h
    unfold chkE at h
    split at h
    · rename_i x p i
      simp only [Bool.and_eq_true, decide_eq_true_eq] at h
      exact .val (s_var (by rw [hN]; exact h.1.1) (by rw [hsc]; exact h.1.2) h.2) (by intros; intro z; cases z) (by intro; rfl)
    · rename_i x p j
      simp only [Bool.and_eq_true, decide_eq_true_eq] at h
      exact .val (s_con ok (by rw [hsc]; exact h.1.1) (by rw [← hgl]; exact h.1.2) h.2) (by intros; intro z; cases z) (by intro; rfl)
    · rename_i i k p j
      simp only [decide_eq_true_eq] at h
      subst h
      exact .val (s_cst pe_int (fun _ _ => rfl) fun _ _ => .int _) (by intros; intro z; cases z) (by intro; rfl)
    · rename_i b k p b'
      have h : b = b' := by simpa using h
      subst h
      exact .val (s_cst pe_bl (fun _ _ => rfl) fun _ _ => .bl _) (by intros; intro z; cases z) (by intro; rfl)
    · exact .val (s_cst pe_non (fun _ _ => rfl) fun _ _ => .non) (by intros; intro z; cases z) (by intro; rfl)
    · rename_i x k p l
      simp only [decide_eq_true_eq] at h
      have hx : x = ⟨l.toArray⟩ := by
        cases x
        simp only at h
        rw [← h]
      rw [hx]
      exact .val (s_cst pe_str (fun _ _ => rfl) fun _ _ => .str l) (by intros; intro z; cases z) (by intro; rfl)
    · rename_i a op b p o a' b'
      simp only [Bool.and_eq_true] at h
      rw [opB_eq h.1.1]
      exact .val (s_bin (sub h.1.2).pe (sub h.2).pe) (by intros; intro z; cases z) (by intro; rfl)
    · rename_i a p a'
      exact .val (s_neg (sub h).pe) (by intros; intro z; cases z) (by intro; rfl)
    · rename_i a p a'
      exact .tst (s_not (sub h).pe) (t_not (sub h).pt) (by intros; intro z; cases z)
    · rename_i a op b p o a' b'
      simp only [Bool.and_eq_true, Bool.not_eq_true'] at h
      obtain ⟨⟨⟨h1, h2⟩, h3⟩, h4⟩ := h
      have := cmB_eq h1
      subst this
      exact .tst (s_cmp ok h2 (sub h3).pe (sub h4).pe) (t_cmp ok h2 (sub h3).pe (sub h4).pe) (by intros; intro z; cases z)
    · rename_i a op op' b d p o o' a' b' d'
      simp only [Bool.and_eq_true, Bool.not_eq_true'] at h
      obtain ⟨⟨⟨⟨⟨h1, h2⟩, h3⟩, h4⟩, h5⟩, h6⟩ := h
      have := cmB_eq h1
      subst this
      have := cmB_eq h2
      subst this
      exact .tst (s_chn ok h3 (sub h4).pe (sub h5).pe (sub h6).pe) (t_chn ok h3 (sub h4).pe (sub h5).pe (sub h6).pe) (by intros; intro z; cases z)
    · rename_i a b r p a' b'
      simp only [Bool.and_eq_true] at h
      exact .bop (s_and (sub h.1).pe (sub h.2).pe) (w_and (sub h.1).pt ((sub h.2).pw _ _ _ rfl))
    · rename_i a b r p a' b'
      simp only [Bool.and_eq_true] at h
      exact .bop (s_or (sub h.1).pe (sub h.2).pe) (w_or (sub h.1).pt ((sub h.2).pw _ _ _ rfl))
    · rename_i a p e' 
      exact .bop (pe_one (sub h).pe) (pw_and1 (sub h).pt)
    · rename_i a p e'
      exact .bop (pe_one (sub h).pe) (pw_or1 (sub h).pt)
    · rename_i t a b p t' a' b'
      simp only [Bool.and_eq_true] at h
      exact .tst (s_ite (sub h.1.1).pt (sub h.1.2).pe (sub h.2).pe) (t_ite (sub h.1.1).pt (sub h.1.2).pt (sub h.2).pt) (by intros; intro z; cases z)
    · exact .val (s_tup (subA h)) (by intros; intro z; cases z) (by intro; rfl)
    · exact .val (s_lst (subA h)) (by intros; intro z; cases z) (by intro; rfl)
    · rename_i a lo hi p2 p a' lo' hi'
      simp only [Bool.and_eq_true] at h
      exact .val (s_slc (sub h.1.1).pe (chkO_ok (fun e e' h => (sub h).pe) h.1.2) (chkO_ok (fun e e' h => (sub h).pe) h.2)) (by intros; intro z; cases z) (by intro; rfl)
    · rename_i a i k p1 p2 p3 p a'
      simp only [Bool.and_eq_true, decide_eq_true_eq] at h
      obtain ⟨rfl, h⟩ := h
      exact .val (s_rvs (sub h).pe) (by intros; intro z; cases z) (by intro; rfl)
    · rename_i a b p a' b' _ _
      simp only [Bool.and_eq_true, Bool.not_eq_true'] at h
      exact .val (s_idx (by have := ok.un; omega) h.1.1 (sub h.1.2).pe (sub h.2).pe) (by intros; intro z; cases z) (by intro; rfl)
    · rename_i x p es pos f as
      simp only [Bool.and_eq_true, decide_eq_true_eq] at h
      obtain ⟨⟨⟨h1, h2⟩, h3⟩, h4⟩ := h
      refine .val (s_call ok (by rw [hsc]; exact h1) (by rw [← hgl]; exact h2) h3 (chkA_star h4) (fun z => ?_) (subA h4)) (by intros; intro z; cases z) (by intro; rfl)
      subst z
      cases as <;> first | rfl | (simp [chkA] at h4)
    · rename_i x p a y py pos t a'
      simp only [Bool.and_eq_true, decide_eq_true_eq, Bool.not_eq_true'] at h
      obtain ⟨⟨⟨⟨⟨⟨hx, h1⟩, h2⟩, hy⟩, h3⟩, h4⟩, h5⟩ := h
      subst hx hy
      obtain ⟨g1, g2, _, _⟩ := free_ok ok hsc hgl h1
      obtain ⟨k1, k2, k3, k4⟩ := free_ok ok hsc hgl h2
      refine .val (s_isi (fun d z => ?_) g1 g2 k1 k2 k3 k4 h3 (sub h5).pe) (by intros; intro z; cases z) (by intro; rfl)
      subst z
      cases h4
    · rename_i x p a es pos f as _
      split at h
      · rename_i s b hb
        simp only [Bool.and_eq_true, decide_eq_true_eq] at h
        obtain ⟨⟨⟨hx, h1⟩, hrp⟩, h2⟩ := h
        subst hx
        obtain ⟨g1, g2, g3, g4⟩ := free_ok ok hsc hgl h1
        have hrp' : f = .repr → gl.gd = true := fun z => by
          rw [← hgl]
          simpa [z] using hrp
        exact .val (s_bi ok hb hrp' g1 g2 g3 g4 (chkA_star h2) (subA h2)) (by intros; intro z; cases z) (by intro; rfl)
      · cases h
    · rename_i o m ap a es p m' o' as
      split at h
      · rename_i s t3 hb
        simp only [Bool.and_eq_true, decide_eq_true_eq] at h
        obtain ⟨⟨⟨⟨⟨⟨hges, hx⟩, h1⟩, h2⟩, h3⟩, h4⟩, h5⟩ := h
        subst hx
        cases m' with
        | append => cases hb; exact .val (s_mut append_ok PySem.F.slot_list_append PySem.F.type_list_append rfl h3 h1 h2 (chkA_star h5) (sub h4).pe (subA h5)) (by intros; intro z; cases z) (by intro; rfl)
        | pop1 => cases hb; exact .val (s_mut pop1_ok PySem.F.slot_list_pop PySem.F.type_list_pop rfl h3 h1 h2 (chkA_star h5) (sub h4).pe (subA h5)) (by intros; intro z; cases z) (by intro; rfl)
        | get1 =>
          cases hb
          have : es = [] := by simpa using hges
          subst this
          cases as with
          | cons a' as' =>
            cases as' with
            | nil =>
              simp only [chkA, Bool.and_eq_true, Bool.not_eq_true', and_true] at h5
              exact .val (s_get1 ok h3 h1 h5.1 (sub h4).pe (sub h5.2).pe) (by intros; intro z; cases z) (by intro; rfl)
            | _ => simp [chkA] at h5
          | _ => simp [chkA] at h5
        | get2 =>
          cases hb
          obtain ⟨f, rfl⟩ : ∃ f, es = [f] := by
            have : es.length = 1 := by simpa using hges
            match es, this with
            | [f], _ => exact ⟨f, rfl⟩
          cases as with
          | cons a' as' =>
            cases as' with
            | cons b' as2 =>
              cases as2 with
              | nil =>
                simp only [chkA, Bool.and_eq_true, Bool.not_eq_true', and_true] at h5
                exact .val (s_get2 ok h3 h1 h5.1.1 h5.2.1 (sub h4).pe (sub h5.1.2).pe (sub h5.2.2).pe) (by intros; intro z; cases z) (by intro; rfl)
              | _ => simp [chkA] at h5
            | _ => simp [chkA] at h5
          | _ => simp [chkA] at h5
        | startswith => cases hb; exact .val (s_starts h3 h1 h2 (chkA_star h5) (sub h4).pe (subA h5)) (by intros; intro z; cases z) (by intro; rfl)
        | join => cases hb; exact .val (s_join h3 h1 h2 (chkA_star h5) (sub h4).pe (subA h5)) (by intros; intro z; cases z) (by intro; rfl)
        | _ => simp [meN] at hb
      · cases h
    · rename_i elt tg it ifs scope pos elt' tg' it' cond'
      simp only [Bool.and_eq_true, decide_eq_true_eq] at h
      obtain ⟨⟨⟨⟨⟨⟨h1, h2⟩, h3⟩, h4⟩, h5⟩, h6⟩, h7⟩ := h
      have bk : BlkOk X.N X.env.scope scope (ownOf c.N (tgN tg')) := blkOk_by (by rw [hN, hsc]; exact h1)
      have fold : ∀ x, foldedSetIterable it X.env x = pure x := fun x => by
        cases it <;> first | rfl | (cases h3)
      refine .val ((pe_lc ok.calm ok.nd (chkI_ok ok hsc hgl (fun e e' h => (sub h).pe) h5) bk (fun s H A cl fp => ?_) (fun s H A cl fp => ?_) (fun s H A cl fp => ?_) fold).imp
        (s_lc (X := X) (tg := tg) (it := it) (elt := elt) (ifs := ifs) (pos := pos) (scope := scope) ok.calm ok.nd bk (own_map _ _) (chkI_ok ok hsc hgl (fun e e' h => (sub h).pe) h5) (fun s H A cl fp => ?_) (fun s H A cl fp => ?_) (fun s H A cl fp => ?_) fold)) (by intros; intro z; cases z) (by intro; rfl)
      all_goals have ok2 : OkX (X.blk s H scope (compEnvC scope cl A X.env) fp) G C gl := ok.blk _ _ _ _ _
      all_goals have hs2 : (X.blk s H scope (compEnvC scope cl A X.env) fp).env.scope = relS scope c.sc := by rw [← hsc]; rfl
      all_goals have sub2 : ∀ {e e'}, chkE n { c with sc := relS scope c.sc, fn := false } e e' = true → Srv (X.blk s H scope (compEnvC scope cl A X.env) fp) G C e e' := fun {e e'} h => ih _ { c with sc := relS scope c.sc, fn := false } e e' ok2 hN hs2 hgl h
      · exact (g_both (c := { c with sc := relS scope c.sc, fn := false }) ok2.calm ok2.nd hN hs2 (fun z => by cases z) 8).1 tg tg' h4
      · split at h7
        · exact c_nil
        · exact c_one (sub2 h7).pt
        · cases h7
      · exact (sub2 h6).pe
      · exact (g_both (c := { c with sc := relS scope c.sc, fn := false }) ok2.calm ok2.nd hN hs2 (fun z => by cases z) 8).1 tg tg' h4
      · split at h7
        · exact c_nil
        · exact c_one (sub2 h7).pt
        · cases h7
      · exact (sub2 h6).pe
    · rename_i elt tg it ifs scope pos b elt' tg' j cond'
      simp only [Bool.and_eq_true, decide_eq_true_eq] at h
      obtain ⟨⟨⟨⟨⟨h1, h2⟩, h4⟩, h5⟩, h6⟩, h7⟩ := h
      have bk : BlkOk X.N X.env.scope scope (ownOf c.N (tgN tg')) := blkOk_by (by rw [hN, hsc]; exact h1)
      have pl0 : PE X (.ListComp elt [⟨tg, it, ifs, 0⟩] scope pos) (tLc (iD b (tVar j)) (tG X.K G tg') (tCn X.K G C cond') (tE X.K G C elt') ((ownOf c.N (tgN tg')).map (·.2))) := by
        refine pe_lc ok.calm ok.nd (dIt_ok hN hsc h5) bk (fun s H A cl fp => ?_) (fun s H A cl fp => ?_) (fun s H A cl fp => ?_) (dIt_fold h5 _)
        all_goals have ok2 : OkX (X.blk s H scope (compEnvC scope cl A X.env) fp) G C gl := ok.blk _ _ _ _ _
        all_goals have hs2 : (X.blk s H scope (compEnvC scope cl A X.env) fp).env.scope = relS scope c.sc := by rw [← hsc]; rfl
        all_goals have sub2 : ∀ {e e'}, chkE n { c with sc := relS scope c.sc, fn := false } e e' = true → Srv (X.blk s H scope (compEnvC scope cl A X.env) fp) G C e e' := fun {e e'} h => ih _ { c with sc := relS scope c.sc, fn := false } e e' ok2 hN hs2 hgl h
        · exact (g_both (c := { c with sc := relS scope c.sc, fn := false }) ok2.calm ok2.nd hN hs2 (fun z => by cases z) 8).1 tg tg' h4
        · split at h7
          · exact c_nil
          · exact c_one (sub2 h7).pt
          · cases h7
        · exact (sub2 h6).pe
      rw [own_map] at pl0
      have pl : PE X (.ListComp elt [⟨tg, it, ifs, 0⟩] scope pos) (tLcd b X.K G C j elt' cond' tg') := pl0
      exact .val ((pe_or (pe_lock pl) pl).imp s_lcd) (by intros; intro z; cases z) (by intro; rfl)
    · rename_i kx vx tg it ifs scope pos b kx' vx' tg' j cond'
      simp only [Bool.and_eq_true, decide_eq_true_eq] at h
      obtain ⟨⟨⟨⟨⟨⟨h1, h2⟩, h4⟩, h5⟩, h6⟩, h8⟩, h7⟩ := h
      have bk : BlkOk X.N X.env.scope scope (ownOf c.N (tgN tg')) := blkOk_by (by rw [hN, hsc]; exact h1)
      have pl0 : PE X (.DictComp kx vx [⟨tg, it, ifs, 0⟩] scope pos) (tDc (iD b (tVar j)) (tG X.K G tg') (tCn X.K G C cond') (tE X.K G C kx') (tE X.K G C vx') ((ownOf c.N (tgN tg')).map (·.2))) := by
        refine pe_dc ok.calm ok.nd (dIt_ok hN hsc h5) bk (fun s H A cl fp => ?_) (fun s H A cl fp => ?_) (fun s H A cl fp => ?_) (fun s H A cl fp => ?_) (dIt_fold h5 _)
        all_goals have ok2 : OkX (X.blk s H scope (compEnvC scope cl A X.env) fp) G C gl := ok.blk _ _ _ _ _
        all_goals have hs2 : (X.blk s H scope (compEnvC scope cl A X.env) fp).env.scope = relS scope c.sc := by rw [← hsc]; rfl
        all_goals have sub2 : ∀ {e e'}, chkE n { c with sc := relS scope c.sc, fn := false } e e' = true → Srv (X.blk s H scope (compEnvC scope cl A X.env) fp) G C e e' := fun {e e'} h => ih _ { c with sc := relS scope c.sc, fn := false } e e' ok2 hN hs2 hgl h
        · exact (g_both (c := { c with sc := relS scope c.sc, fn := false }) ok2.calm ok2.nd hN hs2 (fun z => by cases z) 8).1 tg tg' h4
        · split at h7
          · exact c_nil
          · exact c_one (sub2 h7).pt
          · cases h7
        · exact (sub2 h6).pe
        · exact (sub2 h8).pe
      rw [own_map] at pl0
      have pl : PE X (.DictComp kx vx [⟨tg, it, ifs, 0⟩] scope pos) (tDcd b X.K G C j kx' vx' cond' tg') := pl0
      exact .val ((pe_or (pe_lock pl) pl).imp s_dc) (by intros; intro z; cases z) (by intro; rfl)
    · exact .val s_dnew (by intros; intro z; cases z) (by intro; rfl)
    · cases h
end Z

set_option maxHeartbeats 4000000
/-! Z over the hand layer: statements. -/
namespace Z
open PySem PySem.Spec L2

def EndZ (K : PySem.W.Frag) (G : GE) (ρ : Pr) (H : Hp) (μ' : Sto) (ls' : Lcs) (o : Out) (D : Ends) : Prop := match o with
  | .nx => ∀ ρ' H' σ', Ext ρ H ρ' H' → RelSt K G ρ' μ' H' → RelL K G ρ' H' ls' σ' → D.nx σ' H'
  | .brk => ∀ ρ' H' σ', Ext ρ H ρ' H' → RelSt K G ρ' μ' H' → RelL K G ρ' H' ls' σ' → D.bk σ' H'
  | .cont => ∀ ρ' H' σ', Ext ρ H ρ' H' → RelSt K G ρ' μ' H' → RelL K G ρ' H' ls' σ' → D.ct σ' H'
  | .ret r => ∀ ρ' H' v, Ext ρ H ρ' H' → RelSt K G ρ' μ' H' → RepR K G H ρ' μ' H' r v → D.rt v H'
def tS (K : PySem.W.Frag) (G : GE) (C : Cxt) (s : S) : TS := fun D σ H => ∃ ρ : Pr, ∃ μ ls o ls' μ', RelSt K G ρ μ H ∧ RelL K G ρ H ls σ ∧ ex C s ls μ = .ok (o, ls') μ' ∧ EndZ K G ρ H μ' ls' o D
theorem _root_.L2.PS.impZ {X : Cx} {e : Stmt} {t t' : TS} (h : PS X e t) (i : ∀ D σ H, t' D σ H → t D σ H) : PS X e t' := ⟨fun pins s σ H D I w => h.run pins s σ H D I (i D σ H w)⟩
theorem _root_.L2.PSs.impZ {X : Cx} {e : List Stmt} {t t' : TS} (h : PSs X e t) (i : ∀ D σ H, t' D σ H → t D σ H) : PSs X e t' := ⟨fun pins s σ H D I w => h.run pins s σ H D I (i D σ H w)⟩
theorem EndZ.ext {K : PySem.W.Frag} {G : GE} {ρ ρ1 : Pr} {H H1 : Hp} {μ' : Sto} {ls' : Lcs} {o : Out} {D : Ends} (x : Ext ρ H ρ1 H1) (h : EndZ K G ρ H μ' ls' o D) : EndZ K G ρ1 H1 μ' ls' o D := by
  cases o with
  | nx => exact fun ρ' H' σ' x' => h ρ' H' σ' (x.trans x')
  | brk => exact fun ρ' H' σ' x' => h ρ' H' σ' (x.trans x')
  | cont => exact fun ρ' H' σ' x' => h ρ' H' σ' (x.trans x')
  | ret r => exact fun ρ' H' v x' s' r' => h ρ' H' v (x.trans x') s' (r'.back x)
/-- the same but for what comes next, where nothing comes next -/
theorem EndZ.other {K : PySem.W.Frag} {G : GE} {ρ : Pr} {H : Hp} {μ' : Sto} {ls' : Lcs} {o : Out} {D : Ends} {n : L2.St → Hp → Prop} (ho : o ≠ .nx) (h : EndZ K G ρ H μ' ls' o D) : EndZ K G ρ H μ' ls' o { D with nx := n } := by
  cases o with
  | nx => exact absurd rfl ho
  | brk => exact h
  | cont => exact h
  | ret r => exact h

section
variable {X : Cx} {G : GE} {C : Cxt} {gl : Gl}
theorem u_skip : PSs X [] (tS X.K G C .skip) := by
  refine pss_nil.impZ fun D σ H h => ?_
  obtain ⟨ρ, μ, ls, o, ls', μ', st, rl, e, k⟩ := h
  simp only [ex] at e
  cases e
  exact k ρ H σ (Ext.refl _ _) st rl
theorem u_seq {st : Stmt} {sts : List Stmt} {a b : S} (ha : PS X st (tS X.K G C a)) (hb : PSs X sts (tS X.K G C b)) : PSs X (st :: sts) (tS X.K G C (.seq a b)) := by
  refine (pss_cons ha hb).impZ fun D σ H h => ?_
  obtain ⟨ρ, μ, ls, o, ls', μ', s0, rl, e, k⟩ := h
  simp only [ex, seqR] at e
  obtain ⟨⟨o1, ls1⟩, μ1, e1, f1⟩ := bind_eq e
  cases o1 with
  | nx => exact ⟨ρ, μ, ls, .nx, ls1, μ1, s0, rl, e1, fun ρ1 H1 σ1 x1 s1 rl1 => ⟨ρ1, μ1, ls1, o, ls', μ', s1, rl1, f1, k.ext x1⟩⟩
  | brk => cases f1; exact ⟨ρ, μ, ls, .brk, _, _, s0, rl, e1, k⟩
  | cont => cases f1; exact ⟨ρ, μ, ls, .cont, _, _, s0, rl, e1, k⟩
  | ret r => cases f1; exact ⟨ρ, μ, ls, .ret r, _, _, s0, rl, e1, k⟩
theorem u_pass {pos : Pos} : PS X (.Pass pos) (tS X.K G C .skip) := by
  refine ps_pass.impZ fun D σ H h => ?_
  obtain ⟨ρ, μ, ls, o, ls', μ', st, rl, e, k⟩ := h
  simp only [ex] at e
  cases e
  exact k ρ H σ (Ext.refl _ _) st rl
theorem u_brk {pos : Pos} : PS X (.Break pos) (tS X.K G C .brk) := by
  refine ps_break.impZ fun D σ H h => ?_
  obtain ⟨ρ, μ, ls, o, ls', μ', st, rl, e, k⟩ := h
  simp only [ex] at e
  cases e
  exact k ρ H σ (Ext.refl _ _) st rl
theorem u_cont {pos : Pos} : PS X (.Continue pos) (tS X.K G C .cont) := by
  refine ps_continue.impZ fun D σ H h => ?_
  obtain ⟨ρ, μ, ls, o, ls', μ', st, rl, e, k⟩ := h
  simp only [ex] at e
  cases e
  exact k ρ H σ (Ext.refl _ _) st rl
theorem u_raise {st : Stmt} {c : Nat} {as : E} : PS X st (tS X.K G C (.raise c as)) := by
  refine ps_never.impZ fun D σ H h => ?_
  obtain ⟨ρ, μ, ls, o, ls', μ', st, rl, e, k⟩ := h
  simp only [ex] at e
  obtain ⟨rs, μ1, e1, f1⟩ := bind_eq e
  split at f1 <;> cases f1
theorem u_expr {e : Expr} {e' : E} {pos : Pos} (he : PE X e (tE X.K G C e')) (hs : lcB e = false) : PS X (.Expr e pos) (tS X.K G C (.expr e')) := by
  refine (ps_expr he (by cases e <;> first | rfl | (cases hs))).impZ fun D σ H h => ?_
  obtain ⟨ρ, μ, ls, o, ls', μ', st, rl, e, k⟩ := h
  simp only [ex] at e
  obtain ⟨r, μ1, e1, f1⟩ := bind_eq e
  cases f1
  exact ⟨ρ, μ, ls, r, _, st, rl, e1, fun ρ1 H1 v x1 s1 r1 => k ρ1 H1 σ x1 s1 (x1.relL rl)⟩
theorem u_ret {e : Expr} {e' : E} {pos : Pos} (he : PE X e (tE X.K G C e')) : PS X (.Return (some e) pos) (tS X.K G C (.ret e')) := by
  refine (ps_ret he).impZ fun D σ H h => ?_
  obtain ⟨ρ, μ, ls, o, ls', μ', st, rl, e, k⟩ := h
  simp only [ex] at e
  obtain ⟨r, μ1, e1, f1⟩ := bind_eq e
  cases f1
  exact ⟨ρ, μ, ls, r, _, st, rl, e1, fun ρ1 H1 v x1 s1 r1 => k ρ1 H1 v x1 s1 r1⟩
theorem u_retN {pos : Pos} : PS X (.Return none pos) (tS X.K G C .retN) := by
  refine ps_retN.impZ fun D σ H h => ?_
  obtain ⟨ρ, μ, ls, o, ls', μ', st, rl, e, k⟩ := h
  simp only [ex] at e
  cases e
  exact k ρ H .non (Ext.refl _ _) st .non
theorem u_if {c : Expr} {a b : List Stmt} {c' : E} {a' b' : S} {pos : Pos} (hc : PT X c (tT X.K G C c')) (ha : PSs X a (tS X.K G C a')) (hb : PSs X b (tS X.K G C b')) : PS X (.If c a b pos) (tS X.K G C (.ife c' a' b')) := by
  refine (ps_if hc ha hb).impZ fun D σ H h => ?_
  obtain ⟨ρ, μ, ls, o, ls', μ', st, rl, e, k⟩ := h
  simp only [ex] at e
  obtain ⟨r, μ1, e1, f1⟩ := bind_eq e
  clear e
  obtain ⟨t, rfl, e⟩ := tst_eq f1
  refine ⟨ρ, μ, ls, t, μ1, st, rl, e1, fun ρ1 H1 x1 s1 => ?_⟩
  cases t with
  | true =>
    rw [if_pos rfl]
    exact ⟨ρ1, _, ls, o, ls', μ', s1, x1.relL rl, e, k.ext x1⟩
  | false =>
    rw [if_neg Bool.false_ne_true]
    exact ⟨ρ1, _, ls, o, ls', μ', s1, x1.relL rl, e, k.ext x1⟩
/-- what a store to a name leaves -/
theorem asg_end {i : Nat} {e' : E} {D : Ends} {σ : L2.St} {H : Hp} (h : tS X.K G C (.asg i e') D σ H) : tE X.K G C e' σ H fun x H1 => D.nx (σ.set i (some x)) H1 := by
  obtain ⟨ρ, μ, ls, o, ls', μ', st, rl, e, k⟩ := h
  simp only [ex] at e
  obtain ⟨r, μ1, e1, f1⟩ := bind_eq e
  refine ⟨ρ, μ, ls, r, μ1, st, rl, e1, fun ρ1 H1 v x1 s1 r1 => ?_⟩
  cases r with
  | v p =>
    cases f1
    exact k ρ1 H1 _ x1 s1 (RelL.set (r := .v p) r1 i (x1.relL rl))
  | new p =>
    cases f1
    exact k ρ1 H1 _ x1 s1 (RelL.set (r := .v p) (RepP.kp r1.p rfl) i (x1.relL rl))
  | loc n =>
    cases f1
    exact k ρ1 H1 _ x1 s1 (RelL.set (r := .loc n) r1 i (x1.relL rl))
theorem RelL.w {K : PySem.W.Frag} {ρ ρ' : Pr} {H H' : Hp} {ls : Lcs} {σ : L2.St} (x : ExtW ρ H ρ' H') (r : RelL K G ρ H ls σ) : RelL K G ρ' H' ls σ := Paired.mapP r fun q w h1 z hz => by
  obtain ⟨v, e1, e2⟩ := h1 z hz
  refine ⟨v, e1, ?_⟩
  cases z with
  | v p =>
    have e2' : Rep K G ρ.W H p v := e2
    exact x.rep e2'
  | loc n => obtain ⟨a, h, q⟩ := e2; exact ⟨a, x.get n a h, q⟩
  | new p => exact e2
theorem extW_new {st fo : List Addr} {a : Addr} {H : Hp} : ExtW ⟨st, a :: fo⟩ H ⟨st ++ [a], fo⟩ H := ⟨fun n b h => by
    have hl := (List.getElem?_eq_some_iff.mp h).1
    exact (List.getElem?_append_left hl).trans h, fun b hb => .inl (by
    simp only [Pr.W, List.mem_append, List.mem_cons, List.mem_singleton] at hb ⊢
    rcases hb with (hb | hb) | hb
    · exact .inl hb
    · exact .inr (.inl (by simpa using hb))
    · exact .inr (.inr hb)), fun _ _ h _ => h⟩
theorem extW_drop {st fo : List Addr} {a : Addr} {H : Hp} : ExtW ⟨st, a :: fo⟩ H ⟨st, fo⟩ H := ⟨fun n b h => h, fun b hb => .inl (by
    simp only [Pr.W, List.mem_append, List.mem_cons] at hb ⊢
    rcases hb with hb | hb
    · exact .inl hb
    · exact .inr (.inr hb)), fun _ _ h _ => h⟩
theorem extW_add {ρ ρ1 : Pr} {H H1 : Hp} (x : Ext ρ H ρ1 H1) {as : List Addr} (ha : ∀ a ∈ as, H a = none) : ExtW ρ H ⟨ρ1.st, as ++ ρ1.fo⟩ H1 := ⟨fun n a h => x.get h, fun b hb => by
    simp only [Pr.W, List.mem_append] at hb
    rcases hb with hb | hb | hb
    · exact x.mem b (List.mem_append_left _ hb)
    · exact .inr (ha b hb)
    · exact x.mem b (List.mem_append_right _ hb), x.frW⟩
theorem mk_end {i : Nat} {e' : E} {D : Ends} {σ : L2.St} {H : Hp} (h : tS X.K G C (.mk i e') D σ H) : tE X.K G C e' σ H fun x H1 => D.nx (σ.set i (some x)) H1 := by
  obtain ⟨ρ, μ, ls, o, ls', μ', st, rl, e, k⟩ := h
  simp only [ex] at e
  obtain ⟨r, μ1, e1, f1⟩ := bind_eq e
  refine ⟨ρ, μ, ls, r, μ1, st, rl, e1, fun ρ1 H1 v x1 s1 r1 => ?_⟩
  cases r with
  | v p => cases f1
  | loc n => cases f1
  | new p =>
    cases f1
    obtain ⟨a, o, rfl, h1, h2, h3, h3f, h4, h5⟩ := r1
    have hf : a ∉ ρ1.fo := fun z => h2 (List.mem_append_right _ z)
    obtain ⟨nw, n1, n2⟩ := x1.more
    have x2 : Ext ρ H ⟨ρ1.st ++ [a], ρ1.fo⟩ H1 := ⟨⟨nw ++ [a], by rw [n1, List.append_assoc], fun b hb => (List.mem_append.mp hb).elim (n2 b) fun z => by
      have : b = a := by simpa using z
      rw [this]; exact h1⟩, x1.fo, x1.frame, x1.dom⟩
    have hl : ρ1.st.length = μ1.length := s1.length
    refine k _ H1 _ x2 (st_new h5 h3 h4 hf) (RelL.set (r := .loc μ1.length) ⟨a, ?_, rfl⟩ i ((rl.w (extW_add x1 (as := [a]) fun b hb => ?_)).w extW_new))
    · rw [← hl, List.getElem?_append_right (Nat.le_refl _)]
      simp
    · have : b = a := by simpa using hb
      rw [this]; exact h1
def setL : L2.St → List Nat → List V → L2.St
  | σ, i :: is, v :: vs => setL (σ.set i (some v)) is vs
  | σ, _, _ => σ
theorem parA_rel {K : PySem.W.Frag} {fo W : List Addr} {H : Hp} {o : Out} {ls' : Lcs} {μ' : Sto} : ∀ {is : List (Nat × Bool)} {rs : List RV} {vs : List V} {as st : List Addr} {μ : Sto} {ls : Lcs} {σ : L2.St}, RepI K G st W H rs vs as → (∀ a ∈ (⟨st, as ++ fo⟩ : Pr).W, a ∈ W) → RelSt K G ⟨st, as ++ fo⟩ μ H → as.Nodup → (∀ a ∈ as, a ∉ fo) →
    RelL K G ⟨st, as ++ fo⟩ H ls σ → parA is rs ls μ = .ok (o, ls') μ' → ∃ t, o = .nx ∧ (∀ a ∈ t, a ∈ as) ∧ RelSt K G ⟨st ++ t, fo⟩ μ' H ∧ RelL K G ⟨st ++ t, fo⟩ H ls' (setL σ (is.map (·.1)) vs)
  | [], [], vs, as, st, μ, ls, σ, ri, hw, s, nd, hf, rl, e => by
    simp only [parA] at e
    cases e
    cases ri
    exact ⟨[], rfl, by simp, by simpa using s, by simpa [setL] using rl⟩
  | [], r :: rs, vs, as, st, μ, ls, σ, ri, hw, s, nd, hf, rl, e => by simp [parA] at e
  | (i, kk) :: is, [], vs, as, st, μ, ls, σ, ri, hw, s, nd, hf, rl, e => by simp [parA] at e
  | (i, kk) :: is, r :: rs, vs, as, st, μ, ls, σ, ri, hw, s, nd, hf, rl, e => by
    cases ri with
    | v r1 r2 =>
      rename_i p v vs
      have e' : parA is rs (ls.set i (some (.v p))) μ = .ok (o, ls') μ' := by cases kk <;> simpa [parA] using e
      have hr : RepL K G ⟨st, as ++ fo⟩ H (.v p) v := r1.sub hw
      exact parA_rel (is := is) r2 hw s nd hf (RelL.set hr i rl) e'
    | loc r1 r2 =>
      rename_i n a vs
      have e' : parA is rs (ls.set i (some (.loc n))) μ = .ok (o, ls') μ' := by cases kk <;> simpa [parA] using e
      have hr : RepL K G ⟨st, as ++ fo⟩ H (.loc n) (.ref a) := ⟨a, r1, rfl⟩
      exact parA_rel (is := is) r2 hw s nd hf (RelL.set hr i rl) e'
    | new h1 h2 r2 =>
      rename_i a p ob vs as'
      have hn : a ∉ as' ++ fo := fun z => (List.mem_append.mp z).elim (List.nodup_cons.mp nd).1 (hf a (List.mem_cons_self ..))
      have ha := s.fl a (List.mem_cons_self ..)
      have nd' := (List.nodup_cons.mp nd).2
      have hf' : ∀ b ∈ as', b ∉ fo := fun b hb => hf b (List.mem_cons_of_mem _ hb)
      cases kk with
      | true =>
        have e' : parA is rs (ls.set i (some (.loc μ.length))) (μ ++ [p]) = .ok (o, ls') μ' := by simpa [parA] using e
        have s' : RelSt K G ⟨st ++ [a], as' ++ fo⟩ (μ ++ [p]) H := st_new (fo := as' ++ fo) s h1.1 (h2.sub hw) hn
        have hl : st.length = μ.length := s.length
        have hr : RepL K G ⟨st ++ [a], as' ++ fo⟩ H (.loc μ.length) (.ref a) := ⟨a, by rw [← hl]; simp, rfl⟩
        have hw2 : ∀ b ∈ (⟨st ++ [a], as' ++ fo⟩ : Pr).W, b ∈ W := fun b hb => hw b (by
          simp only [Pr.W, List.mem_append, List.mem_cons, List.mem_singleton] at hb ⊢
          rcases hb with (hb | hb) | hb
          · exact .inl hb
          · exact .inr (.inl (.inl (by simpa using hb)))
          · exact .inr (hb.elim (fun z => .inl (.inr z)) .inr))
        obtain ⟨t, g1, g2, g3, g4⟩ := parA_rel (is := is) (W := W) (st := st ++ [a]) (as := as') (fo := fo) (μ := μ ++ [p]) (σ := σ.set i (some (.ref a)))
          (r2.ext (fun _ _ h _ => h) (fun _ h => .inl h) (fun n b h => by rw [List.getElem?_append_left (List.getElem?_eq_some_iff.mp h).1]; exact h) fun _ _ _ h => h)
          hw2 s' nd' hf' (RelL.set hr i (rl.w extW_new)) e'
        · refine ⟨a :: t, g1, fun b hb => ?_, by simpa using g3, by simpa [setL] using g4⟩
          rcases List.mem_cons.mp hb with z | z
          · rw [z]; exact List.mem_cons_self ..
          · exact List.mem_cons_of_mem _ (g2 b z)
      | false =>
        have e' : parA is rs (ls.set i (some (.v p))) μ = .ok (o, ls') μ' := by simpa [parA] using e
        have s' : RelSt K G ⟨st, as' ++ fo⟩ μ H := s.drop (ρ := ⟨st, (a :: as') ++ fo⟩) fun b hb => List.mem_cons_of_mem _ hb
        have hw' : ∀ b ∈ (⟨st, as' ++ fo⟩ : Pr).W, b ∈ W := fun b hb => hw b (by
          simp only [Pr.W, List.mem_append, List.mem_cons] at hb ⊢
          rcases hb with hb | hb | hb
          · exact .inl hb
          · exact .inr (.inl (.inr hb))
          · exact .inr (.inr hb))
        have hr : RepL K G ⟨st, as' ++ fo⟩ H (.v p) (.ref a) := (h2.sub hw').rep h1.1 (fun z => (List.mem_append.mp z).elim ha.2 hn) h1.2
        obtain ⟨t, g1, g2, g3, g4⟩ := parA_rel (is := is) r2 hw' s' nd' hf' (RelL.set hr i (rl.w extW_drop)) e'
        exact ⟨t, g1, fun b hb => List.mem_cons_of_mem _ (g2 b hb), g3, by simpa [setL] using g4⟩
theorem parA_len : ∀ {is : List (Nat × Bool)} {rs : List RV} {ls : Lcs} {μ : Sto} {q : Out × Lcs} {μ' : Sto}, parA is rs ls μ = .ok q μ' → rs.length = is.length
  | [], [], _, _, _, _, _ => rfl
  | [], r :: rs, _, _, _, _, e => by simp [parA] at e
  | (i, k) :: is, [], _, _, _, _, e => by simp [parA] at e
  | (i, true) :: is, .v p :: rs, ls, μ, _, _, e => by
    simp only [parA] at e
    rw [List.length_cons, List.length_cons, parA_len e]
  | (i, false) :: is, .v p :: rs, ls, μ, _, _, e => by
    simp only [parA] at e
    rw [List.length_cons, List.length_cons, parA_len e]
  | (i, true) :: is, .loc p :: rs, ls, μ, _, _, e => by
    simp only [parA] at e
    rw [List.length_cons, List.length_cons, parA_len e]
  | (i, false) :: is, .loc p :: rs, ls, μ, _, _, e => by
    simp only [parA] at e
    rw [List.length_cons, List.length_cons, parA_len e]
  | (i, true) :: is, .new p :: rs, ls, μ, _, _, e => by
    simp only [parA] at e
    rw [List.length_cons, List.length_cons, parA_len e]
  | (i, false) :: is, .new p :: rs, ls, μ, _, _, e => by
    simp only [parA] at e
    rw [List.length_cons, List.length_cons, parA_len e]
theorem par_end {is : List (Nat × Bool)} {as' : E} {D : Ends} {σ : L2.St} {H : Hp} (h : tS X.K G C (.par is as') D σ H) : tA X.K G C as' σ H fun vs H1 => vs.length = is.length ∧ D.nx (setL σ (is.map (·.1)) vs) H1 := by
  obtain ⟨ρ, μ, ls, o, ls', μ', st, rl, e, k⟩ := h
  simp only [ex] at e
  obtain ⟨rs, μ1, e1, f1⟩ := bind_eq e
  refine ⟨ρ, μ, ls, rs, μ1, st, rl, e1, fun ρ1 H1 vs x1 s1 ra => ?_⟩
  obtain ⟨as, ri, s2, nd, hf⟩ := ra.ex
  obtain ⟨t, rfl, g2, g3, g4⟩ := parA_rel (fo := ρ1.fo) ri (fun a h => h) s2 nd (fun a ha => (hf a ha).2) (rl.w (extW_add x1 fun a ha => (hf a ha).1)) f1
  obtain ⟨nw, n1, n2⟩ := x1.more
  have hl : vs.length = is.length := by rw [← (ra.p s1).length, parA_len f1]
  refine ⟨hl, k ⟨ρ1.st ++ t, ρ1.fo⟩ H1 _ ⟨⟨nw ++ t, by rw [n1, List.append_assoc], fun b hb => (List.mem_append.mp hb).elim (n2 b) fun z => (hf b (g2 b z)).1⟩, x1.fo, x1.frame, x1.dom⟩ g3 g4⟩
/-- the same by a tuple that is made and taken apart -/
theorem par_endT {is : List (Nat × Bool)} {as' : E} {D : Ends} {σ : L2.St} {H : Hp} (h : tS X.K G C (.par is as') D σ H) : tA X.K G C as' σ H fun vs H1 => vs.length = is.length ∧ ∀ p, H1 p = none → D.nx (setL σ (is.map (·.1)) vs) (upd H1 p (.tup vs)) := by
  obtain ⟨ρ, μ, ls, o, ls', μ', st, rl, e, k⟩ := h
  simp only [ex] at e
  obtain ⟨rs, μ1, e1, f1⟩ := bind_eq e
  refine ⟨ρ, μ, ls, rs, μ1, st, rl, e1, fun ρ1 H1 vs x1 s1 ra => ?_⟩
  obtain ⟨as, ri, s2, nd, hf⟩ := ra.ex
  obtain ⟨t, rfl, g2, g3, g4⟩ := parA_rel (fo := ρ1.fo) ri (fun a h => h) s2 nd (fun a ha => (hf a ha).2) (rl.w (extW_add x1 fun a ha => (hf a ha).1)) f1
  obtain ⟨nw, n1, n2⟩ := x1.more
  have hl : vs.length = is.length := by rw [← (ra.p s1).length, parA_len f1]
  refine ⟨hl, fun p hp => ?_⟩
  have x2 : Ext ρ H ⟨ρ1.st ++ t, ρ1.fo⟩ H1 := ⟨⟨nw ++ t, by rw [n1, List.append_assoc], fun b hb => (List.mem_append.mp hb).elim (n2 b) fun z => (hf b (g2 b z)).1⟩, x1.fo, x1.frame, x1.dom⟩
  have sm : Same H1 (upd H1 p (.tup vs)) := same_upd hp
  exact k ⟨ρ1.st ++ t, ρ1.fo⟩ _ _ (x2.trans (Ext.same sm)) (g3.same sm) ((Ext.same sm).relL g4)
end
end Z

set_option maxHeartbeats 4000000
/-! Z over the hand layer: targets, item stores, loops. -/
namespace Z
open PySem PySem.Spec L2

section
variable {X : Cx} {G : GE} {C : Cxt} {gl : Gl}
theorem tgt_end {tg : Tg} {e' : E} {D : Ends} {σ : L2.St} {H : Hp} (h : tS X.K G C (.tgt tg e') D σ H) : tAsg (tE X.K G C e') (tG X.K G tg) D σ H := by
  obtain ⟨ρ, μ, ls, o, ls', μ', st, rl, e, k⟩ := h
  simp only [ex] at e
  obtain ⟨r, μ1, e1, f1⟩ := bind_eq e
  refine ⟨ρ, μ, ls, r, μ1, st, rl, e1, fun ρ1 H1 v x1 s1 r1 => ?_⟩
  unfold tgtR at f1
  split at f1
  · rename_i p e2
    split at f1
    · rename_i ls2 e3
      cases f1
      exact ⟨ρ1, p, ls, ls', RepP.kp r1.p e2, x1.relL rl, e3, fun σ2 rl2 _ => k ρ1 H1 σ2 x1 s1 rl2⟩
    · cases f1
  · cases f1
theorem ixN_eq {n : Nat} {i : Int} : Z.ixN n i = L2.ixN n i := by
  unfold Z.ixN L2.ixN
  rfl
theorem setP_eq {c q p c' : PV} (h : setP c q p = some c') : (∃ xs i j, c = .lst xs ∧ q = .int i ∧ Z.ixN xs.length i = some j ∧ c' = .lst (xs.set j p)) ∨ ∃ ks, c = .dct ks ∧ isK q = true ∧ ks.length < SZ ∧ c' = .dct (dput ks q p) := by
  cases c with
  | lst xs =>
    cases q with
    | int i =>
      obtain ⟨j, h1, h2⟩ := Option.map_eq_some_iff.mp (show (Z.ixN xs.length i).map (fun j => PV.lst (xs.set j p)) = some c' from h)
      exact .inl ⟨xs, i, j, rfl, rfl, h1, h2.symm⟩
    | _ => simp [setP] at h
  | dct ks =>
    have h' : (if isK q && decide (ks.length < SZ) then some (PV.dct (dput ks q p)) else none) = some c' := h
    split at h'
    · rename_i hc
      cases h'
      simp only [Bool.and_eq_true, decide_eq_true_eq] at hc
      exact .inr ⟨ks, rfl, hc.1, hc.2, rfl⟩
    · cases h'
  | _ => simp [setP] at h
theorem Reps.setV {K : PySem.W.Frag} {G : GE} {W : List Addr} {H : Hp} {p : PV} {v : V} (r : Rep K G W H p v) : ∀ {ps : List PV} {vs : List V} (j : Nat), Reps K G W H ps vs → Reps K G W H (ps.set j p) (vs.set j v)
  | _, _, _, .nil => .nil
  | _, _, 0, .cons a b => .cons r b
  | _, _, j + 1, .cons a b => .cons a (Reps.setV r j b)
theorem set_end {o' i' e' : E} {D : Ends} {σ : L2.St} {H : Hp} (h : tS X.K G C (.setI o' i' e') D σ H) : tAsg (tE X.K G C e') (gSub (tE X.K G C o') (tE X.K G C i') rSetA) D σ H := by
  obtain ⟨ρ, μ, ls, o, ls', μ', st, rl, e, k⟩ := h
  simp only [ex] at e
  obtain ⟨r, μ1, e1, f1⟩ := bind_eq e
  obtain ⟨x, μ2, e2, f2⟩ := bind_eq f1
  obtain ⟨y, μ3, e3, f3⟩ := bind_eq f2
  clear e f1 f2
  refine ⟨ρ, μ, ls, r, μ1, st, rl, e1, fun ρ1 H1 v x1 s1 r1 => ?_⟩
  refine ⟨ρ1, μ1, ls, x, μ2, s1, x1.relL rl, e2, fun ρ2 H2 vx x2 s2 rx => ?_⟩
  refine ⟨ρ2, μ2, ls, y, μ3, s2, (x1.trans x2).relL rl, e3, fun ρ3 H3 vy x3 s3 ry => ?_⟩
  unfold setR at f3
  split at f3
  · rename_i n q p hq hp
    split at f3
    · rename_i c hc
      split at f3
      · rename_i c' hc'
        cases f3
        obtain ⟨a, ha, rfl⟩ := (x3.repP rx.p : RepP X.K G ρ3 H3 (.loc n) vx)
        have rp : Rep X.K G ρ3.W H3 p v := RepP.kp (x3.repP (x2.repP r1.p)) hp
        have rq : Rep X.K G ρ3.W H3 q vy := RepP.kp ry.p hq
        rcases setP_eq hc' with ⟨xs, i, j, rfl, rfl, hj, rfl⟩ | ⟨ks, rfl, hk, hl, rfl⟩
        · obtain ⟨ys, g2, g3⟩ := s3.atL ha hc
          cases rq
          have := st_upd s3 ha g2 rfl (.lst (Reps.setV rp j g3))
          refine .inl ⟨a, ys, i, j, rfl, rfl, g2, by rw [← g3.length, ← ixN_eq]; exact hj, ?_⟩
          have xx := ((x1.trans x2).trans x3).trans this.1
          exact k ρ3 _ σ xx this.2 (xx.relL rl)
        · obtain ⟨ds, g2, g3⟩ := s3.atD ha hc
          obtain ⟨kq, hq2, rfl⟩ := KeyR.of hk rq.rr
          have := st_upd s3 ha g2 rfl (.dct (RepD.put hq2 rp g3))
          refine .inr ⟨a, _, rfl, DPut.k g2 (by rw [← g3.length, ← sz_eq]; exact hl), ?_⟩
          have xx := ((x1.trans x2).trans x3).trans this.1
          exact k ρ3 _ σ xx this.2 (xx.relL rl)
      · cases f3
    · cases f3
  · cases f3
theorem noswap {e : Expr} {t : Option Expr} {l : Nat} {env : Env} (h : lcB e = false) : swapsWith e t l env = pure false := by
  cases e <;> first | rfl | (cases h)
/-- a store to a name whose value is a comprehension on its line: the list is not kept apart -/
def swB (sc : Scope) (x : Str) (px : Pos) : Expr → Bool
  | .ListComp _ _ s p => (sc.names.lookup x == some .local) && px.line == p.line && !(s.names.any fun (n, k) => n == x && (k == .local || k == .cell))
  | _ => false
theorem loopEnd {K : PySem.W.Frag} {ρ : Pr} {H : Hp} {μ' : Sto} {ls' : Lcs} {o : Out} {D : Ends} (h : EndZ K G ρ H μ' ls' o D) : True := trivial
theorem turn_eq {r : R (Out × Lcs)} {k : Lcs → Sto → R (Out × Lcs)} {q : Out × Lcs} {μ' : Sto} (h : turn r k = .ok q μ') : ∃ o ls μ1, r = .ok (o, ls) μ1 ∧ (((o = .nx ∨ o = .cont) ∧ k ls μ1 = .ok q μ') ∨ (o = .brk ∧ q = (.nx, ls) ∧ μ' = μ1) ∨ ∃ v, o = .ret v ∧ q = (.ret v, ls) ∧ μ' = μ1) := by
  unfold turn at h
  obtain ⟨⟨o, ls⟩, μ1, e1, f1⟩ := bind_eq h
  refine ⟨o, ls, μ1, e1, ?_⟩
  cases o with
  | nx => exact .inl ⟨.inl rfl, f1⟩
  | cont => exact .inl ⟨.inr rfl, f1⟩
  | brk => cases f1; exact .inr (.inl ⟨rfl, rfl, rfl⟩)
  | ret v => cases f1; exact .inr (.inr ⟨v, rfl, rfl, rfl⟩)
/-- one turn of a loop: N is what the body is to reach -/
theorem turn_end {K : PySem.W.Frag} {ρ1 : Pr} {H1 : Hp} {D : Ends} {r : R (Out × Lcs)} {kk : Lcs → Sto → R (Out × Lcs)} {o : Out} {ls' : Lcs} {μ' : Sto} (h : turn r kk = .ok (o, ls') μ') (ke : EndZ K G ρ1 H1 μ' ls' o D) :
    ∃ o1 ls3 μ3, r = .ok (o1, ls3) μ3 ∧ ∃ N : L2.St → Hp → Prop, (∀ σ'' H'', N σ'' H'' → kk ls3 μ3 = .ok (o, ls') μ' ∧ ∃ ρ3, Ext ρ1 H1 ρ3 H'' ∧ RelSt K G ρ3 μ3 H'' ∧ RelL K G ρ3 H'' ls3 σ'') ∧
      ∀ ρ2 H2, Ext ρ1 H1 ρ2 H2 → EndZ K G ρ2 H2 μ3 ls3 o1 { D with nx := N, ct := N, bk := D.nx } := by
  obtain ⟨o1, ls3, μ3, e1, c⟩ := turn_eq h
  refine ⟨o1, ls3, μ3, e1, ?_⟩
  rcases c with ⟨ho, g⟩ | ⟨rfl, g1, rfl⟩ | ⟨v, rfl, g1, rfl⟩
  · refine ⟨fun σ'' H'' => ∃ ρ3, Ext ρ1 H1 ρ3 H'' ∧ RelSt K G ρ3 μ3 H'' ∧ RelL K G ρ3 H'' ls3 σ'', fun σ'' H'' q => ⟨g, q⟩, fun ρ2 H2 x2 => ?_⟩
    rcases ho with rfl | rfl
    · exact fun ρ3 H3 σ3 x3 s3 rl3 => ⟨ρ3, x2.trans x3, s3, rl3⟩
    · exact fun ρ3 H3 σ3 x3 s3 rl3 => ⟨ρ3, x2.trans x3, s3, rl3⟩
  · cases g1
    exact ⟨fun _ _ => False, fun _ _ z => z.elim, fun ρ2 H2 x2 ρ3 H3 σ3 x3 s3 rl3 => ke ρ3 H3 σ3 (x2.trans x3) s3 rl3⟩
  · cases g1
    exact ⟨fun _ _ => False, fun _ _ z => z.elim, fun ρ2 H2 x2 ρ3 H3 v3 x3 s3 r3 => ke ρ3 H3 v3 (x2.trans x3) s3 (r3.back x2)⟩
theorem for_end {tg : Tg} {it' : E} {b' : S} {D : Ends} {σ : L2.St} {H : Hp} (h : tS X.K G C (.for tg it' b') D σ H) : tFor (tI X.K G C it') (tG X.K G tg) (tS X.K G C b') D σ H := by
  obtain ⟨ρ, μ, ls, o, ls', μ', st, rl, e, k⟩ := h
  simp only [ex] at e
  obtain ⟨rv, μ1, e1, f2⟩ := bind_eq e
  clear e
  have byv : ∀ xs, (∀ ρ1 H1 J, Wlk X.K G ρ1 H1 rv J → Wks X.K G ρ1 H1 xs J) → loopL (fun x ls μ => match asgT tg x ls with
    | some ls' => ex C b' ls' μ
    | none => .no) xs ls μ1 = .ok (o, ls') μ' → walkB μ1 rv = true → tFor (tI X.K G C it') (tG X.K G tg) (tS X.K G C b') D σ H := fun xs wk f2 wb => by
    refine ⟨ρ, μ, ls, rv, μ1, st, rl, e1, wb, fun ρ1 H1 J x1 s1 w1 => ?_⟩
    have wks := wk ρ1 H1 J w1
    have ke := k.ext x1
    refine ⟨fun i m σ' H' => m = xs.length - i ∧ i ≤ xs.length ∧ ∃ ρ2 μ2 ls2, Ext ρ1 H1 ρ2 H' ∧ RelSt X.K G ρ2 μ2 H' ∧ RelL X.K G ρ2 H' ls2 σ' ∧ loopL (fun x ls μ => match asgT tg x ls with
      | some ls' => ex C b' ls' μ
      | none => .no) (xs.drop i) ls2 μ2 = .ok (o, ls') μ', ⟨_, rfl, Nat.zero_le _, ρ1, μ1, ls, Ext.refl _ _, s1, x1.relL rl, f2⟩, ?_⟩
    rintro i m σ' H' ⟨rfl, hi, ρ2, μ2, ls2, y1, s2, rl2, fl⟩
    have xw := wks ρ2 H' y1.w (live s2)
    by_cases hlt : i < xs.length
    · rw [List.drop_eq_getElem_cons hlt] at fl
      simp only [loopL] at fl
      obtain ⟨o1, ls3, μ3, g1, N, hN, hE⟩ := turn_end fl ke
      obtain ⟨go, yl⟩ := xw.1 i xs[i] (List.getElem?_eq_getElem hlt)
      refine .inr ⟨go, N, fun σ'' H'' q => ?_, fun v H3 yy => ?_⟩
      · obtain ⟨q1, ρ3, q2, q3, q4⟩ := hN σ'' H'' q
        exact ⟨xs.length - (i + 1), by omega, rfl, hlt, ρ3, μ3, ls3, q2, q3, q4, q1⟩
      · obtain ⟨sm, rx⟩ := yl v H3 yy
        have es := Ext.same (ρ := ρ2) sm
        split at g1
        · rename_i ls4 g2
          exact ⟨ρ2, xs[i], ls2, ls4, rx, es.relL rl2, g2, fun σ4 rl4 _ => ⟨ρ2, μ2, ls4, o1, ls3, μ3, s2.same sm, rl4, g1, hE ρ2 H3 (y1.trans es)⟩⟩
        · cases g1
    · have hi' : xs.drop i = [] := List.drop_eq_nil_of_le (by omega)
      rw [hi'] at fl
      cases fl
      exact .inl ⟨xw.2 i (by omega), ke ρ2 H' σ' y1 s2 rl2⟩
  unfold loop at f2
  cases rv with
  | v p =>
    simp only at f2
    split at f2
    · rename_i xs e2
      exact byv xs (fun ρ1 H1 J w => w xs e2) f2 (by simp [walkB, e2])
    · cases f2
  | new p =>
    simp only at f2
    split at f2
    · rename_i xs e2
      exact byv xs (fun ρ1 H1 J w => w xs e2) f2 (by simp [walkB, e2])
    · cases f2
  | loc a =>
    simp only at f2
    split at f2
    · rename_i xs e2
      refine ⟨ρ, μ, ls, .loc a, μ1, st, rl, e1, by simp [walkB, e2], fun ρ1 H1 J x1 s1 w1 => ?_⟩
      obtain ⟨la, hla, rfl⟩ := w1
      have ke := k.ext x1
      refine ⟨fun i m σ' H' => ∃ ρ2 μ2 ls2, Ext ρ1 H1 ρ2 H' ∧ RelSt X.K G ρ2 μ2 H' ∧ RelL X.K G ρ2 H' ls2 σ' ∧ loopS a (fun x ls μ => match asgT tg x ls with
        | some ls' => ex C b' ls' μ
        | none => .no) m i ls2 μ2 = .ok (o, ls') μ', ⟨xs.length, ρ1, μ1, ls, Ext.refl _ _, s1, x1.relL rl, f2⟩, ?_⟩
      rintro i m σ' H' ⟨ρ2, μ2, ls2, y1, s2, rl2, fl⟩
      have ml : ∃ ps, μ2[a]? = some (.lst ps) := by
        cases m with
        | zero =>
          simp only [loopS] at fl
          split at fl
          · exact ⟨_, by assumption⟩
          · cases fl
        | succ m =>
          simp only [loopS] at fl
          split at fl
          · exact ⟨_, by assumption⟩
          · cases fl
      obtain ⟨ps, p1⟩ := ml
      obtain ⟨zs, p2, p3⟩ := s2.atL (n := a) (y1.get hla) p1
      have hsq : SqL X.K H' la zs := .inl (.inl p2)
      cases m with
      | zero =>
        simp only [loopS, p1] at fl
        split at fl
        · rename_i hle
          cases fl
          exact .inl ⟨⟨zs, hsq, by rw [← p3.length]; exact hle⟩, ke ρ2 H' σ' y1 s2 rl2⟩
        · cases fl
      | succ m =>
        simp only [loopS, p1] at fl
        split at fl
        · rename_i x hx
          obtain ⟨o1, ls3, μ3, g1, N, hN, hE⟩ := turn_end fl ke
          obtain ⟨v, hv, rv⟩ := p3.get hx
          refine .inr ⟨⟨zs, v, hsq, hv⟩, N, fun σ'' H'' q => ?_, fun w H3 yy => ?_⟩
          · obtain ⟨q1, ρ3, q2, q3, q4⟩ := hN σ'' H'' q
            exact ⟨m, Nat.lt_succ_self _, ρ3, μ3, ls3, q2, q3, q4, q1⟩
          · obtain ⟨rfl, yy⟩ := yy
            have := yy zs hsq
            rw [hv] at this
            cases this
            split at g1
            · rename_i ls4 g2
              exact ⟨ρ2, x, ls2, ls4, rv, rl2, g2, fun σ4 rl4 _ => ⟨ρ2, μ2, ls4, o1, ls3, μ3, s2, rl4, g1, hE ρ2 _ y1⟩⟩
            · cases g1
        · cases fl
    · cases f2
theorem whl_end {c' : E} {b' : S} {D : Ends} {σ : L2.St} {H : Hp} (h : tS X.K G C (.whl c' b') D σ H) : tWhile (tT X.K G C c') (tS X.K G C b') D σ H := by
  obtain ⟨ρ, μ, ls, o, ls', μ', st, rl, e, k⟩ := h
  simp only [ex] at e
  refine ⟨fun m σ' H' => ∃ ρ2 μ2 ls2, Ext ρ H ρ2 H' ∧ RelSt X.K G ρ2 μ2 H' ∧ RelL X.K G ρ2 H' ls2 σ' ∧ whl (fun ls μ => (ev C c' ls μ).bind toB) (fun ls μ => ex C b' ls μ) m ls2 μ2 = .ok (o, ls') μ', ⟨C.fuel, ρ, μ, ls, Ext.refl _ _, st, rl, e⟩, ?_⟩
  rintro m σ' H' ⟨ρ2, μ2, ls2, y1, s2, rl2, fl⟩
  cases m with
  | zero => simp [whl] at fl
  | succ m =>
    simp only [whl] at fl
    obtain ⟨b, μ3, g1, g2⟩ := bind_eq fl
    obtain ⟨r, μ4, g3, g4⟩ := bind_eq g1
    obtain ⟨rfl, rfl⟩ := toB_eq g4
    refine ⟨ρ2, μ2, ls2, b, _, s2, rl2, g3, fun ρ3 H3 x3 s3 => ?_⟩
    cases b with
    | true =>
      rw [if_pos rfl] at g2 ⊢
      obtain ⟨o1, ls3, μ5, q1, N, hN, hE⟩ := turn_end g2 k
      refine ⟨N, fun σ'' H'' q => ?_, ρ3, _, ls2, o1, ls3, μ5, s3, x3.relL rl2, q1, hE ρ3 H3 (y1.trans x3)⟩
      obtain ⟨q1, ρ4, q2, q3, q4⟩ := hN σ'' H'' q
      exact ⟨m, Nat.lt_succ_self _, ρ4, μ5, ls3, q2, q3, q4, q1⟩
    | false =>
      rw [if_neg Bool.false_ne_true] at g2 ⊢
      cases g2
      exact k ρ3 H3 σ' (y1.trans x3) s3 (x3.relL rl2)
end
end Z

set_option maxHeartbeats 8000000
/-! Z over the hand layer: every statement that chkS admits does what the interpreter says. -/
namespace Z
open PySem PySem.Spec L2

/-- the names of a pair or three of stores in one statement -/
def nmsOf : List Expr → Option (List (Str × Nat))
  | [] => some []
  | .Name x p :: r => match nmsOf r with
    | some l => some ((x, p.line) :: l)
    | none => none
  | _ => none
/-- the stores of a, b = .. come from the right -/
def swpB (sc : Scope) : Expr → Expr → Bool
  | .Tuple [.Name x px, .Name y py] _ _, .Tuple [a, b] _ _ => !starB a && !starB b && locB sc x && locB sc y && (py.line == px.line) && !(x == y) && !([a, b].all (foldedForSure 8)) && !([a, b].all (constantsAlone 8))
  | .Tuple [.Name x px, .Name y py, .Name z pz] _ _, .Tuple [a, b, d] _ _ => !starB a && !starB b && !starB d && locB sc x && locB sc y && locB sc z && (py.line == px.line) && (pz.line == px.line) && !(x == y) && !(x == z) && !(y == z) && !([a, b, d].all (foldedForSure 8)) && !([a, b, d].all (constantsAlone 8))
  | _, _ => false
def notLoc (sc : Scope) : Expr → Bool
  | .Name x _ => !locB sc x
  | _ => true
/-- the tuple is made, then taken apart -/
def swnB (sc : Scope) : Expr → Expr → Bool
  | .Tuple ts _ _, .Tuple vs _ _ => !(ts.length == 2 || ts.length == 3) || !(vs.length == ts.length) || (vs.all (foldedForSure 8) && vs.all fun v => !starB v) || ts.any (notLoc sc)
  | .Tuple _ _ _, _ => true
  | .Subscript _ _ _, _ => true
  | _, _ => false
theorem kind_of {X : Cx} {x : Str} (h : locB X.env.scope x = true) : X.env.kindOf x = some .local := locB_ok h
section
variable {X : Cx}
theorem bk_of (h : X.env.scope.kind = .function) : X.env.blockKind = .function := by
  unfold Env.blockKind
  rw [h]
  rfl
theorem star_any {vs : List Expr} (h : ∀ v ∈ vs, starB v = false) : (vs.any fun | .Starred .. => true | _ => false) = false := by
  induction vs with
  | nil => rfl
  | cons v vs ih =>
    rw [List.any_cons, ih fun x hx => h x (List.mem_cons_of_mem _ hx)]
    have := h v (List.mem_cons_self ..)
    cases v <;> first | rfl | (cases this)
theorem fm_lt {α β : Type} (f : α → Option β) : ∀ {ts : List α} {t : α}, t ∈ ts → f t = none → (ts.filterMap f).length < ts.length
  | a :: r, t, h, e => by
    have hr : (r.filterMap f).length ≤ r.length := List.length_filterMap_le ..
    rcases List.mem_cons.mp h with rfl | h
    · rw [List.filterMap_cons, e]
      simp only [List.length_cons]
      omega
    · have ih := fm_lt f h e
      rw [List.filterMap_cons]
      cases f a <;> simp only [List.length_cons] <;> omega
theorem swn_ok {sc : Scope} {t e : Expr} (hsc : X.env.scope = sc) (h : swnB sc t e = true) : swappedStores [t] e X.env = pure none := by
  unfold swnB at h
  split at h
  · rename_i ts k p vs k2 p2
    unfold swappedStores
    simp only [Bool.or_eq_true, Bool.and_eq_true, Bool.not_eq_true', List.all_eq_true] at h
    rcases h with ((h | h) | ⟨h, h3⟩) | h
    · simp [h]
    · have : (vs.length != ts.length) = true := by simpa [bne] using h
      simp [this]
    · have hf : vs.all (foldedForSure 8) = true := List.all_eq_true.mpr h
      have hs := star_any h3
      simp only [hs, hf, Bool.false_eq_true, if_false, if_true]
      repeat' split
      all_goals rfl
    · obtain ⟨t, ht, hn⟩ := List.any_eq_true.mp h
      have key : ∀ f : Expr → Option Str, f t = none → ((ts.filterMap f).length != ts.length) = true := fun f hf => by
        have := fm_lt f ht hf
        simp only [bne_iff_ne]
        omega
      simp only []
      split
      · rfl
      · split
        · rfl
        · rw [key _ ?_]
          · rfl
          · cases t with
            | Name x px =>
              have hl : locB X.env.scope x = false := by
                rw [hsc]
                simpa [notLoc] using hn
              have : (X.env.kindOf x == some .local) = false := by
                unfold locB at hl
                unfold Env.kindOf
                generalize X.env.scope.names.lookup x = o at hl ⊢
                cases o with
                | none => rfl
                | some k => cases k <;> first | rfl | (cases hl)
              simp [this]
            | _ => rfl
  · rename_i ts k p hh
    cases e <;> first | rfl | (exact absurd rfl (hh _ _ _))
  · cases e <;> rfl
  · cases h
theorem not_star {a : Expr} : starB a = false → ¬ (match a with
    | .Starred .. => true
    | _ => false) = true := by
  intro ha
  cases a <;> first | (intro h; cases h; done) | (cases ha)
theorem beq_flip {x y : Str} (hxy : (x == y) = false) : (y == x) = false := by
  rw [Bool.eq_false_iff] at hxy ⊢
  intro z
  exact hxy (by rw [LawfulBEq.eq_of_beq z]; exact BEq.rfl)
theorem swp2_ok {x y : Str} {px py p p2 : Pos} {a b : Expr} {k k2 : Nat} (hk : X.env.scope.kind = .function) (ha : starB a = false) (hb : starB b = false) (hx : locB X.env.scope x = true) (hy : locB X.env.scope y = true) (hl : py.line = px.line) (hxy : (x == y) = false)
    (hf : [a, b].all (foldedForSure 8) = false) (hc : [a, b].all (constantsAlone 8) = false) : swappedStores [.Tuple [.Name x px, .Name y py] k p] (.Tuple [a, b] k2 p2) X.env = pure (some [x, y]) := by
  have hxy' := beq_flip hxy
  unfold swappedStores
  simp only [hf, hc]
  simp [bk_of hk, kind_of hx, kind_of hy, Expr.pos, hl, List.eraseDups, List.eraseDupsBy, List.eraseDupsBy.loop, hxy, hxy']
  intro h
  rcases h with h | h
  · exact absurd h (not_star ha)
  · exact absurd h (not_star hb)
theorem swp3_ok {x y z : Str} {px py pz p p2 : Pos} {a b d : Expr} {k k2 : Nat} (hk : X.env.scope.kind = .function) (ha : starB a = false) (hb : starB b = false) (hd : starB d = false) (hx : locB X.env.scope x = true) (hy : locB X.env.scope y = true) (hz : locB X.env.scope z = true) (hl : py.line = px.line) (hl2 : pz.line = px.line) (hxy : (x == y) = false) (hxz : (x == z) = false) (hyz : (y == z) = false)
    (hf : [a, b, d].all (foldedForSure 8) = false) (hc : [a, b, d].all (constantsAlone 8) = false) : swappedStores [.Tuple [.Name x px, .Name y py, .Name z pz] k p] (.Tuple [a, b, d] k2 p2) X.env = pure (some [x, y, z]) := by
  have h1 := beq_flip hxy
  have h2 := beq_flip hxz
  have h3 := beq_flip hyz
  unfold swappedStores
  simp only [hf, hc]
  simp [bk_of hk, kind_of hx, kind_of hy, kind_of hz, Expr.pos, hl, hl2, List.eraseDups, List.eraseDupsBy, List.eraseDupsBy.loop, hxy, hxz, hyz, h1, h2, h3]
  intro h
  rcases h with h | h | h
  · exact absurd h (not_star ha)
  · exact absurd h (not_star hb)
  · exact absurd h (not_star hd)
end
/-- the statement checker -/
def eF : Nat := 40
def noSet : Expr → Bool
  | .Set .. => false
  | _ => true
def nmI (c : CC) (x : Str) (i : Nat) : Bool := decide (c.N[i]? = some x) && stB c x
/-- names that are stored to -/
def chkN (c : CC) : List Expr → List (Nat × Bool) → Bool
  | [], [] => true
  | .Name x _ :: es, (i, _) :: is => nmI c x i && chkN c es is
  | _, _ => false
def parB (c : CC) (t e : Expr) (as : E) : List Expr → List Expr → List (Nat × Bool) → Bool
  | [.Name x px, .Name y py], [a, b], [(i, _), (j, _)] => swpB c.sc t e && nmI c x i && nmI c y j && !(i == j) && chkA (chkE eF c) [a, b] as
  | [.Name x px, .Name y py, .Name z pz], [a, b, d], [(i, _), (j, _), (l, _)] =>
      swpB c.sc t e && nmI c x i && nmI c y j && nmI c z l && !(i == j) && !(i == l) && !(j == l) && chkA (chkE eF c) [a, b, d] as
  | _, _, _ => false
mutual
def chkS : Nat → CC → Stmt → S → Bool
  | 0, _, _, _ => false
  | n + 1, c, st, s => match st, s with
    | .Pass _, .skip => true
    | .Expr e _, .expr e' => !lcB e && chkE eF c e e'
    | .Return (some e) _, .ret e' => chkE eF c e e'
    | .Return none _, .retN => true
    | .Break _, .brk => true
    | .Continue _, .cont => true
    | .Raise _ _ _, .raise _ _ => true
    | .If t a b _, .ife t' a' b' => chkE eF c t t' && chkSs n c a a' && chkSs n c b b'
    | .For tg it body [] _, .for tg' it' b' => noSet it && chkTg c 8 tg tg' && chkI (chkE eF c) c tg it it' && chkSs n c body b'
    | .While t body [] _, .whl t' b' => chkE eF c t t' && chkSs n c body b'
    | .Assign [.Name x px] e _, .asg i e' => nmI c x i && !dcE e && chkE eF c e e'
    | .Assign [.Name x px] e _, .mk i e' => nmI c x i && !dcE e && chkE eF c e e'
    | .Assign [t] e _, .tgt tg e' => swnB c.sc t e && chkTg c 8 t tg && chkE eF c e e'
    | .Assign [.Subscript o i p] e _, .setI o' i' e' => !sliceB i && chkE eF c o o' && chkE eF c i i' && chkE eF c e e'
    | .Assign [.Tuple ts k p] (.Tuple vs k2 p2) _, .par is as => if (ts.any (notLoc c.sc) || !(ts.length == 2 || ts.length == 3)) = true then (chkN c ts is && decide (is.length < 100)) && chkA (chkE eF c) vs as else parB c (.Tuple ts k p) (.Tuple vs k2 p2) as ts vs is
    | _, _ => false
def chkSs : Nat → CC → List Stmt → S → Bool
  | _, _, [], .skip => true
  | n + 1, c, st :: r, .seq a b => chkS n c st a && chkSs n c r b
  | _, _, _, _ => false
end

section
variable {X : Cx} {G : GE} {C : Cxt} {gl : Gl}
def lcdB : E → Bool
  | .lcd .. => true
  | _ => false
theorem lc_parts {n : Nat} {c : CC} {elt : Expr} {gens : List Comprehension} {scope : Scope} {pos : Pos} {e' : E} (ok : OkX X G C gl) (hN : X.N = c.N) (hsc : X.env.scope = c.sc) (hgl : c.gl = gl) (hld : lcdB e' = false) (h : chkE n c (.ListComp elt gens scope pos) e' = true) :
    ∃ tg it ifs elt' tg' it' cond' own, gens = [⟨tg, it, ifs, 0⟩] ∧ e' = .lc elt' tg' it' cond' ∧ BlkOk X.N X.env.scope scope own ∧ own.map (·.2) = tgN tg' ∧ PI X tg it (tI X.K G C it') ∧
    (∀ (s : Shared) (H : Hp) (A : Addr) (cl : List (Str × Addr)) (fp : List Addr), PG (X.blk s H scope (compEnvC scope cl A X.env) fp) tg (tG X.K G tg')) ∧ (∀ (s : Shared) (H : Hp) (A : Addr) (cl : List (Str × Addr)) (fp : List Addr), PTs (X.blk s H scope (compEnvC scope cl A X.env) fp) ifs (tCn X.K G C cond')) ∧
    (∀ (s : Shared) (H : Hp) (A : Addr) (cl : List (Str × Addr)) (fp : List Addr), PE (X.blk s H scope (compEnvC scope cl A X.env) fp) elt (tE X.K G C elt')) ∧ (∀ x, foldedSetIterable it X.env x = pure x) := by
  cases n with
  | zero => simp [chkE] at h
  | succ n =>
    unfold chkE at h
    split at h
    all_goals first
      | (rename_i q _; cases q; done)
      | (rename_i q; cases q; done)
      | (cases h; done)
      | (cases hld; done)
      | skip
    rename_i elt2 tg it ifs scope2 pos2 elt' tg' it' cond' q
    cases q
    simp only [Bool.and_eq_true, decide_eq_true_eq] at h
    obtain ⟨⟨⟨⟨⟨⟨h1, h2⟩, h3⟩, h4⟩, h5⟩, h6⟩, h7⟩ := h
    have sub : ∀ {e e'}, chkE n c e e' = true → Srv X G C e e' := fun {e e'} h => chkE_ok n X c e e' ok hN hsc hgl h
    have bk : BlkOk X.N X.env.scope scope (ownOf c.N (tgN tg')) := blkOk_by (by rw [hN, hsc]; exact h1)
    have fold : ∀ x, foldedSetIterable it X.env x = pure x := fun x => by
      cases it <;> first | rfl | (cases h3)
    have ok2 : ∀ (s : Shared) (H : Hp) (A : Addr) (cl : List (Str × Addr)) (fp : List Addr), OkX (X.blk s H scope (compEnvC scope cl A X.env) fp) G C gl := fun s H A cl fp => ok.blk _ _ _ _ _
    have hs2 : ∀ (s : Shared) (H : Hp) (A : Addr) (cl : List (Str × Addr)) (fp : List Addr), (X.blk s H scope (compEnvC scope cl A X.env) fp).env.scope = relS scope c.sc := fun s H A cl fp => by rw [← hsc]; rfl
    have sub2 : ∀ (s : Shared) (H : Hp) (A : Addr) (cl : List (Str × Addr)) (fp : List Addr) {e e'}, chkE n { c with sc := relS scope c.sc, fn := false } e e' = true → Srv (X.blk s H scope (compEnvC scope cl A X.env) fp) G C e e' := fun s H A cl fp {e e'} h =>
      chkE_ok n _ { c with sc := relS scope c.sc, fn := false } e e' (ok2 s H A cl fp) hN (hs2 s H A cl fp) hgl h
    refine ⟨tg, it, ifs, elt', tg', it', cond', _, rfl, rfl, bk, own_map _ _, chkI_ok ok hsc hgl (fun e e' h => (sub h).pe) h5, fun s H A cl fp => (g_both (X := X.blk s H scope (compEnvC scope cl A X.env) fp) (c := { c with sc := relS scope c.sc, fn := false }) ok.calm ok.nd hN (hs2 s H A cl fp) (fun z => by cases z) 8).1 tg tg' h4, fun s H A cl fp => ?_, fun s H A cl fp => (sub2 s H A cl fp h6).pe, fold⟩
    split at h7
    · exact c_nil
    · exact c_one (sub2 s H A cl fp h7).pt
    · cases h7
theorem lcd_parts {n : Nat} {c : CC} {elt : Expr} {gens : List Comprehension} {scope : Scope} {pos : Pos} {e' : E} (ok : OkX X G C gl) (hN : X.N = c.N) (hsc : X.env.scope = c.sc) (hgl : c.gl = gl) (hld : lcdB e' = true) (h : chkE n c (.ListComp elt gens scope pos) e' = true) :
    ∃ tg it ifs b elt' tg' j cond' own, gens = [⟨tg, it, ifs, 0⟩] ∧ e' = .lcd b elt' tg' (.var j) cond' ∧ BlkOk X.N X.env.scope scope own ∧ own.map (·.2) = tgN tg' ∧ PI X tg it (iD b (tVar j)) ∧
    (∀ (s : Shared) (H : Hp) (A : Addr) (cl : List (Str × Addr)) (fp : List Addr), PG (X.blk s H scope (compEnvC scope cl A X.env) fp) tg (tG X.K G tg')) ∧ (∀ (s : Shared) (H : Hp) (A : Addr) (cl : List (Str × Addr)) (fp : List Addr), PTs (X.blk s H scope (compEnvC scope cl A X.env) fp) ifs (tCn X.K G C cond')) ∧
    (∀ (s : Shared) (H : Hp) (A : Addr) (cl : List (Str × Addr)) (fp : List Addr), PE (X.blk s H scope (compEnvC scope cl A X.env) fp) elt (tE X.K G C elt')) ∧ (∀ x, foldedSetIterable it X.env x = pure x) := by
  cases n with
  | zero => simp [chkE] at h
  | succ n =>
    unfold chkE at h
    split at h
    all_goals first
      | (rename_i q _; cases q; done)
      | (rename_i q; cases q; done)
      | (cases h; done)
      | (cases hld; done)
      | skip
    rename_i elt2 tg it ifs scope2 pos2 b elt' tg' j cond' q
    cases q
    simp only [Bool.and_eq_true, decide_eq_true_eq] at h
    obtain ⟨⟨⟨⟨⟨h1, h2⟩, h4⟩, h5⟩, h6⟩, h7⟩ := h
    have bk : BlkOk X.N X.env.scope scope (ownOf c.N (tgN tg')) := blkOk_by (by rw [hN, hsc]; exact h1)
    have ok2 : ∀ (s : Shared) (H : Hp) (A : Addr) (cl : List (Str × Addr)) (fp : List Addr), OkX (X.blk s H scope (compEnvC scope cl A X.env) fp) G C gl := fun s H A cl fp => ok.blk _ _ _ _ _
    have hs2 : ∀ (s : Shared) (H : Hp) (A : Addr) (cl : List (Str × Addr)) (fp : List Addr), (X.blk s H scope (compEnvC scope cl A X.env) fp).env.scope = relS scope c.sc := fun s H A cl fp => by rw [← hsc]; rfl
    have sub2 : ∀ (s : Shared) (H : Hp) (A : Addr) (cl : List (Str × Addr)) (fp : List Addr) {e e'}, chkE n { c with sc := relS scope c.sc, fn := false } e e' = true → Srv (X.blk s H scope (compEnvC scope cl A X.env) fp) G C e e' := fun s H A cl fp {e e'} h =>
      chkE_ok n _ { c with sc := relS scope c.sc, fn := false } e e' (ok2 s H A cl fp) hN (hs2 s H A cl fp) hgl h
    refine ⟨tg, it, ifs, b, elt', tg', j, cond', _, rfl, rfl, bk, own_map _ _, dIt_ok hN hsc h5, fun s H A cl fp => (g_both (X := X.blk s H scope (compEnvC scope cl A X.env) fp) (c := { c with sc := relS scope c.sc, fn := false }) ok.calm ok.nd hN (hs2 s H A cl fp) (fun z => by cases z) 8).1 tg tg' h4, fun s H A cl fp => ?_, fun s H A cl fp => (sub2 s H A cl fp h6).pe, dIt_fold h5 _⟩
    split at h7
    · exact c_nil
    · exact c_one (sub2 s H A cl fp h7).pt
    · cases h7
theorem noDC {n : Nat} {c : CC} {e : Expr} {e' : E} (hd : dcE e = false) (h : chkE n c e e' = true) (hl : lcB e = true) : ∃ elt gens scope pos, e = .ListComp elt gens scope pos := by
  cases e with
  | ListComp elt gens scope pos => exact ⟨_, _, _, _, rfl⟩
  | SetComp elt gens scope pos => cases n <;> simp [chkE] at h
  | DictComp k v gens scope pos => cases hd
  | _ => cases hl
/-- name = value -/
theorem u_set {n : Nat} {c : CC} {x : Str} {px pos : Pos} {i : Nat} {e : Expr} {e' : E} (hk : X.env.scope.kind = .function) (ok : OkX X G C gl) (hN : X.N = c.N) (hsc : X.env.scope = c.sc) (hgl : c.gl = gl) (hfn : c.fn = true → ∀ x, X.fn x = true) (hi : nmI c x i = true) (hdc : dcE e = false) (h : chkE n c e e' = true) :
    PS X (.Assign [.Name x px] e pos) (tAsg (tE X.K G C e') (gName i)) := by
  simp only [nmI, Bool.and_eq_true, decide_eq_true_eq] at hi
  obtain ⟨h1, h2⟩ := hi
  have hl := stB_ok hsc hfn h2
  have hx : X.N[i]? = some x := by rw [hN]; exact h1
  have pe := (chkE_ok n X c e e' ok hN hsc hgl h).pe
  by_cases hc : lcB e = true
  · obtain ⟨elt, gens, scope, p, rfl⟩ := noDC hdc h hc
    have hsw : swapsWith (.ListComp elt gens scope p) (some (.Name x px)) pos.line X.env = pure (X.env.blockKind == .function && X.env.kindOf x == some .local && px.line == p.line && !(scope.names.any fun (n, k) => n == x && (k == .local || k == .cell))) := rfl
    cases hb : (X.env.blockKind == .function && X.env.kindOf x == some .local && px.line == p.line && !(scope.names.any fun (n, k) => n == x && (k == .local || k == .cell))) with
    | false =>
      rw [hb] at hsw
      exact ps_set ok.nd hx hl.1 pe hsw hl.2
    | true =>
      rw [hb] at hsw
      simp only [Bool.and_eq_true] at hb
      have hll : X.env.scope.names.lookup x = some .local := eq_of_beq hb.1.1.2
      by_cases hld : lcdB e' = true
      · obtain ⟨tg, it, ifs, b, elt', tg', j, cond', own, rfl, rfl, bk, ho, hi, hg, ht, he, fold⟩ := lcd_parts ok hN hsc hgl hld h
        have pl := ps_setLc (pos := p) ok.calm ok.nd hx hll hsw hi bk hg ht he fold
        rw [ho] at pl
        exact (ps_or (ps_lock pl) pl).impZ fun D σ H h => (s_lcd (X := X) σ H _ h).imp (fun q => q) fun q => q
      have hld : lcdB e' = false := by simpa using hld
      obtain ⟨tg, it, ifs, elt', tg', it', cond', own, rfl, rfl, bk, ho, hi, hg, ht, he, fold⟩ := lc_parts ok hN hsc hgl hld h
      exact (ps_setLc ok.calm ok.nd hx hll hsw hi bk hg ht he fold).impZ fun D σ H h => s_lc (X := X) (pos := p) ok.calm ok.nd bk ho hi hg ht he fold σ H _ h
  · have hc : lcB e = false := by simpa using hc
    exact ps_set ok.nd hx hl.1 pe (noswap hc) hl.2
end
/-- the stores to names, one by one -/
def gN : List (Nat × Bool) → TGs
  | [] => gNil
  | (i, _) :: is => gCons (gName i) (gN is)
theorem gN_of : ∀ {is : List (Nat × Bool)} {vs : List V} {σ : L2.St} {H : Hp} {Q : L2.St → Hp → Prop}, vs.length = is.length → Q (setL σ (is.map (·.1)) vs) H → gN is vs σ H Q
  | [], [], _, _, _, _, q => ⟨rfl, q⟩
  | [], _ :: _, _, _, _, h, _ => by simp at h
  | _ :: _, [], _, _, _, h, _ => by simp at h
  | (i, b) :: is, v :: vs, σ, H, Q, h, q => ⟨v, vs, rfl, gN_of (is := is) (by simpa using h) q⟩
theorem chkN_star {c : CC} : ∀ {ts : List Expr} {is : List (Nat × Bool)}, chkN c ts is = true → ∀ e ∈ ts, starB e = false
  | [], _, _, e, h => by cases h
  | t :: ts, [], h, e, he => by cases t <;> simp [chkN] at h
  | t :: ts, (i, b) :: is, h, e, he => by
    cases t <;> first | (simp [chkN] at h; done) | skip
    simp only [chkN, Bool.and_eq_true] at h
    rcases List.mem_cons.mp he with rfl | he
    · rfl
    · exact chkN_star h.2 e he
theorem chkN_len {c : CC} : ∀ {ts : List Expr} {is : List (Nat × Bool)}, chkN c ts is = true → is.length = ts.length
  | [], [], _ => rfl
  | [], _ :: _, h => by simp [chkN] at h
  | t :: ts, [], h => by cases t <;> simp [chkN] at h
  | t :: ts, (i, b) :: is, h => by
    cases t <;> first | (simp [chkN] at h; done) | skip
    simp only [chkN, Bool.and_eq_true] at h
    simp [chkN_len h.2]
theorem chkN_ok {X : Cx} {G : GE} {C : Cxt} {gl : Gl} {c : CC} (ok : OkX X G C gl) (hN : X.N = c.N) (hsc : X.env.scope = c.sc) (hfn : c.fn = true → ∀ x, X.fn x = true) : ∀ {ts : List Expr} {is : List (Nat × Bool)}, chkN c ts is = true → PGs X ts (gN is)
  | [], [], _ => pgs_nil
  | [], _ :: _, h => by simp [chkN] at h
  | t :: ts, [], h => by cases t <;> simp [chkN] at h
  | t :: ts, (i, b) :: is, h => by
    cases t <;> first | (simp [chkN] at h; done) | skip
    simp only [chkN, Bool.and_eq_true, nmI, decide_eq_true_eq] at h
    have hl := stB_ok hsc hfn h.1.2
    exact pgs_cons (pg_name ok.nd (by rw [hN]; exact h.1.1) hl.1 hl.2) (chkN_ok ok hN hsc hfn h.2) rfl
theorem list2 {vs : List V} (h : vs.length = 2) : ∃ v w, vs = [v, w] := by
  cases vs with
  | nil => cases h
  | cons v vs =>
    cases vs with
    | nil => cases h
    | cons w vs =>
      cases vs with
      | nil => exact ⟨v, w, rfl⟩
      | cons _ _ => simp at h
theorem list3 {vs : List V} (h : vs.length = 3) : ∃ u v w, vs = [u, v, w] := by
  cases vs with
  | nil => cases h
  | cons u vs =>
    obtain ⟨v, w, rfl⟩ := list2 (vs := vs) (by simpa using h)
    exact ⟨u, v, w, rfl⟩
theorem tA_imp {K : PySem.W.Frag} {G : GE} {C : Cxt} {e : E} {σ : L2.St} {H : Hp} {Q Q' : List V → Hp → Prop} (h : tA K G C e σ H Q) (i : ∀ v H, Q v H → Q' v H) : tA K G C e σ H Q' := by
  obtain ⟨ρ, μ, ls, rs, μ', h1, h2, h3, h4⟩ := h
  exact ⟨ρ, μ, ls, rs, μ', h1, h2, h3, fun ρ' H' vs a b c => i _ _ (h4 ρ' H' vs a b c)⟩
theorem chkS_ok {X : Cx} {G : GE} {C : Cxt} {gl : Gl} {c : CC} (hk : X.env.scope.kind = .function) (ok : OkX X G C gl) (hN : X.N = c.N) (hsc : X.env.scope = c.sc) (hgl : c.gl = gl) (hfn : c.fn = true → ∀ x, X.fn x = true) : ∀ n : Nat, (∀ (st : Stmt) (s : S), chkS n c st s = true → PS X st (tS X.K G C s)) ∧ (∀ (sts : List Stmt) (s : S), chkSs n c sts s = true → PSs X sts (tS X.K G C s)) := by
  have sub : ∀ {n e e'}, chkE n c e e' = true → Srv X G C e e' := fun {n e e'} h => chkE_ok n X c e e' ok hN hsc hgl h
  have subA : ∀ {n es as}, chkA (chkE n c) es as = true → PA X es (tA X.K G C as) := fun {n es as} h => chkA_ok (fun e e' h => (sub h).pe) h
  have subI : ∀ {n tg e e'}, chkI (chkE n c) c tg e e' = true → PI X tg e (tI X.K G C e') := fun {n tg e e'} h => chkI_ok ok hsc hgl (fun e e' h => (sub h).pe) h
  have own : PassesOwn (model X.prog X.w) X.A X.env X.xe := by rw [ok.xe]; exact PassesOwn.never
  have loc : ∀ {x}, locB c.sc x = true → X.env.scope.names.lookup x = some .local := fun {x} h => by rw [hsc]; exact locB_ok h
  have nil : ∀ n sts s, sts = [] → chkSs n c sts s = true → PSs X sts (tS X.K G C s) := fun n sts s e h => by
    subst e
    cases n <;> cases s <;> first | exact u_skip | (simp [chkSs] at h)
  intro n
  induction n with
  | zero =>
    refine ⟨fun st s h => by simp [chkS] at h, fun sts s h => ?_⟩
    cases sts with
    | nil => exact nil 0 _ _ rfl h
    | cons st r => simp [chkSs] at h
  | succ n ih =>
    refine ⟨fun st s h => ?_, fun sts s h => ?_⟩
    · unfold chkS at h
      split at h
      · exact u_pass
      · simp only [Bool.and_eq_true, Bool.not_eq_true'] at h
        exact u_expr (sub h.2).pe h.1
      · exact u_ret (sub h).pe
      · exact u_retN
      · exact u_brk
      · exact u_cont
      · exact u_raise
      · simp only [Bool.and_eq_true] at h
        exact u_if (sub h.1.1).pt (ih.2 _ _ h.1.2) (ih.2 _ _ h.2)
      · rename_i tg it body p tg' it' b'
        simp only [Bool.and_eq_true] at h
        refine (ps_for own ok.calm (subI h.1.2) ((g_both ok.calm ok.nd hN hsc hfn 8).1 tg tg' h.1.1.2) (ih.2 _ _ h.2) fun x => ?_).impZ fun D σ H h => for_end h
        cases it <;> first | rfl | (cases h.1.1.1)
      · simp only [Bool.and_eq_true] at h
        exact (ps_while own (sub h.1).pt (ih.2 _ _ h.2)).impZ fun D σ H h => whl_end h
      · simp only [Bool.and_eq_true] at h
        exact (u_set hk ok hN hsc hgl hfn h.1.1 (by simpa using h.1.2) h.2).impZ fun D σ H h => asg_end h
      · simp only [Bool.and_eq_true] at h
        exact (u_set hk ok hN hsc hgl hfn h.1.1 (by simpa using h.1.2) h.2).impZ fun D σ H h => mk_end h
      · rename_i t e pos tg e'
        simp only [Bool.and_eq_true] at h
        obtain ⟨⟨h1, h2⟩, h3⟩ := h
        refine (ps_asg (sub h3).pe ((g_both ok.calm ok.nd hN hsc hfn 8).1 t tg h2) ?_ (swn_ok hsc h1) ?_).impZ fun D σ H h => tgt_end h
        · cases t <;> first | (cases e <;> rfl) | (simp [swnB] at h1)
        · cases t <;> first | rfl | (simp [swnB] at h1)
      · rename_i o i p e pos o' i' e' 
        simp only [Bool.and_eq_true, Bool.not_eq_true'] at h
        obtain ⟨⟨⟨h1, h2⟩, h3⟩, h4⟩ := h
        refine (ps_asg (sub h4).pe (pg_sub (sub h2).pe (sub h3).pe (set_any (by have := ok.un; omega)) fun v => ?_) ?_ ?_ rfl).impZ fun D σ H h => set_end h
        · cases i <;> first | rfl | (simp [sliceB] at h1)
        · cases e <;> rfl
        · cases e <;> rfl
      · rename_i ts k p vs k2 p2 pos is as
        split at h
        · rename_i hnl
          simp only [Bool.and_eq_true, decide_eq_true_eq] at h
          have hst : ∀ e ∈ ts, starB e = false := chkN_star h.1.1
          refine (ps_asg (pe_tup (subA h.2)) (pg_tup (n := ts.length) ok.calm (chkN_ok ok hN hsc hfn h.1.1) (asgEach_plain hst _).1 (asgEach_plain hst _).2) rfl (swn_ok hsc (by
            rcases (Bool.or_eq_true _ _).mp hnl with z | z
            · simp [swnB, z]
            · simp only [swnB, z, Bool.true_or])) rfl).impZ fun D σ H h2 => ?_
          refine tA_imp (par_endT h2) fun vs2 H1 hv => ⟨?_, fun q hq => ?_⟩
          · rw [hv.1]; have := h.1.2; rw [sizeLine_eq]; omega
          · have hl := chkN_len h.1.1
            exact ⟨q, vs2, rfl, .inl (.inl upd_same), by rw [hv.1, hl], gN_of hv.1 (hv.2 q hq)⟩
        · unfold parB at h
          split at h
          · rename_i x px y py a b i bi j bj _
            simp only [Bool.and_eq_true, Bool.not_eq_true', swpB, nmI, decide_eq_true_eq] at h
            obtain ⟨⟨⟨⟨⟨⟨⟨⟨⟨⟨⟨g1, g2⟩, g3⟩, g4⟩, g5⟩, g6⟩, g7⟩, g8⟩, n1⟩, n2⟩, hij⟩, ha⟩ := h
            rw [← hsc] at g3 g4
            have hij : i ≠ j := by simpa using hij
            refine (ps_par ok.calm ok.nd (by rw [hN]; exact n1.1) (by rw [hN]; exact n2.1) hij (locB_ok g3) (locB_ok g4) (subA ha) (swp2_ok hk g1 g2 g3 g4 (by simpa using g5) g6 g7 g8)).impZ fun D σ H h => ?_
            exact tA_imp (par_end h) fun vs H1 hv => by
              obtain ⟨v, w, rfl⟩ := list2 hv.1
              exact ⟨v, w, rfl, hv.2⟩
          · rename_i x px y py z pz a b d i bi j bj l bl _
            simp only [Bool.and_eq_true, Bool.not_eq_true', swpB, nmI, decide_eq_true_eq] at h
            obtain ⟨⟨⟨⟨⟨⟨⟨⟨⟨⟨⟨⟨⟨⟨⟨⟨⟨⟨⟨g1, g2⟩, g3⟩, g4⟩, g5⟩, g6⟩, g7⟩, g8⟩, g9⟩, ga⟩, gb⟩, gc⟩, gd⟩, n1⟩, n2⟩, n3⟩, hij⟩, hil⟩, hjl⟩, ha⟩ := h
            rw [← hsc] at g4 g5 g6
            have hij : i ≠ j := by simpa using hij
            have hil : i ≠ l := by simpa using hil
            have hjl : j ≠ l := by simpa using hjl
            refine (ps_par3 ok.calm ok.nd (by rw [hN]; exact n1.1) (by rw [hN]; exact n2.1) (by rw [hN]; exact n3.1) hij hil hjl (locB_ok g4) (locB_ok g5) (locB_ok g6) (subA ha) (swp3_ok hk g1 g2 g3 g4 g5 g6 (by simpa using g7) (by simpa using g8) g9 ga gb gc gd)).impZ fun D σ H h => ?_
            exact tA_imp (par_end h) fun vs H1 hv => by
              obtain ⟨u, v, w, rfl⟩ := list3 hv.1
              exact ⟨u, v, w, rfl, hv.2⟩
          · cases h
      · cases h
    · cases sts with
      | nil => exact nil _ _ _ rfl h
      | cons st r =>
        cases s with
        | seq a b =>
          simp only [chkSs, Bool.and_eq_true] at h
          exact u_seq (ih.1 _ _ h.1) (ih.2 _ _ h.2)
        | _ => simp [chkSs] at h
end Z

set_option maxHeartbeats 8000000
/-! Z over the hand layer: defs; the whole program. -/
namespace Z
open PySem PySem.Spec L2

section
variable {K : PySem.W.Frag} {G : GE}
theorem Ext.cut {ρ ρ1 : Pr} {H H1 : Hp} (x : Ext ρ H ρ1 H1) : Ext ρ H ρ H1 := ⟨⟨[], by simp, by simp⟩, rfl, x.frame, x.dom⟩
theorem sub_cut {ρ ρ1 : Pr} {H H1 : Hp} (x : Ext ρ H ρ1 H1) : ∀ a ∈ ρ.W, a ∈ ρ1.W := fun a ha => by
  obtain ⟨n, e, _⟩ := x.more
  rcases List.mem_append.mp ha with h | h
  · exact List.mem_append_left _ (by rw [e]; exact List.mem_append_left _ h)
  · exact List.mem_append_right _ (by rw [x.fo]; exact h)
theorem RelSt.cut {st nw fo fo' : List Addr} {μ : Sto} {H : Hp} (s : RelSt K G ⟨st ++ nw, fo⟩ μ H) (hf : ∀ a ∈ fo', (a ∈ fo ∨ a ∈ nw)) : RelSt K G ⟨st, fo'⟩ (μ.take st.length) H := by
  refine ⟨(List.nodup_append.mp s.nd).1, ?_, fun a ha => ?_⟩
  · have hl := s.length
    simp only [List.length_append] at hl
    refine pair_mk (by show st.length = _; rw [List.length_take]; omega) fun i b p h1 h2 => ?_
    have hi := (List.getElem?_eq_some_iff.mp h1).1
    rw [List.getElem?_take, if_pos hi] at h2
    obtain ⟨q, u, e1, e2, e3⟩ := s.at_ (n := i) (a := b) ((List.getElem?_append_left hi).trans h1)
    rw [h2] at e1
    cases e1
    refine ⟨_, e2, e3.sub fun x hx => ?_⟩
    rcases List.mem_append.mp hx with h | h
    · exact List.mem_append_left _ (List.mem_append_left _ h)
    · rcases hf x h with h | h
      · exact List.mem_append_right _ h
      · exact List.mem_append_left _ (List.mem_append_right _ h)
  · rcases hf a ha with h | h
    · exact ⟨(s.fl a h).1, fun z => (s.fl a h).2 (List.mem_append_left _ z)⟩
    · refine ⟨?_, fun z => (List.nodup_append.mp s.nd).2.2 a z a h rfl⟩
      obtain ⟨xs, e⟩ := s.mem (a := a) (List.mem_append_right _ h)
      rw [e]; simp
theorem leave_ok {ρ ρ1 : Pr} {H H1 : Hp} {μ μ1 μ' : Sto} {r1 r : RV} {v : V} (s0 : RelSt K G ρ μ H) (x : Ext ρ H ρ1 H1) (s1 : RelSt K G ρ1 μ1 H1) (rr : RepR K G H ρ1 μ1 H1 r1 v) (e : leave μ.length r1 μ1 = .ok r μ') :
    Ext ρ H ρ H1 ∧ RelSt K G ρ μ' H1 ∧ RepR K G H ρ μ' H1 r v := by
  obtain ⟨st, fo⟩ := ρ
  obtain ⟨st1, fo1⟩ := ρ1
  obtain ⟨nw, e1, n1⟩ := x.more
  have e2 := x.fo
  simp only at e1 e2
  subst e1 e2
  have hl : st.length = μ.length := s0.length
  have hc := s1.cut (fo' := fo1) fun a h => .inl h
  have sub := sub_cut x
  refine ⟨x.cut, ?_⟩
  rw [hl] at hc
  cases r1 with
  | v p =>
    simp only [leave] at e
    cases e
    exact ⟨hc, (show Rep K G _ H1 p v from rr).sub sub⟩
  | new p =>
    simp only [leave] at e
    cases e
    obtain ⟨a, o, h1, h3, h4, h5, hf, h6, h7⟩ := rr
    refine ⟨hc, a, o, h1, h3, fun z => h4 (sub a z), h5, hf, h6.sub fun b hb => ?_, ?_⟩
    · rcases List.mem_append.mp hb with z | z
      · exact List.mem_append_left _ (List.mem_append_left _ z)
      · exact List.mem_append_right _ z
    · have := RelSt.cut (st := st) (nw := nw) (fo := a :: fo1) (fo' := a :: fo1) h7 fun b hb => .inl hb
      rw [hl] at this
      exact this
  | loc n =>
    obtain ⟨a, ha, rfl⟩ := rr
    simp only [leave] at e
    split at e
    · rename_i hn
      cases e
      refine ⟨hc, a, ?_, rfl⟩
      have hn' : n < st.length := by omega
      exact (List.getElem?_append_left hn').symm.trans ha
    · rename_i hn
      split at e
      · cases e
      · rename_i p hdf hp
        cases e
        obtain ⟨q, o, g1, g2, g3⟩ := s1.at_ ha
        rw [hp] at g1
        cases g1
        have hof : isF o = false := by
          cases g3 with
          | lst _ => rfl
          | dct _ => rfl
          | dcf _ => exact absurd rfl (hdf _)
        have han : a ∈ nw := by
          have ha' : (st ++ nw)[n]? = some a := ha
          rw [List.getElem?_append_right (by omega)] at ha'
          exact List.mem_of_getElem? ha'
        have nin : a ∉ st := fun z => (List.nodup_append.mp s1.nd).2.2 a z a han rfl
        have nfo : a ∉ fo1 := fun z => (s1.fl a z).2 (List.mem_append_right _ han)
        refine ⟨hc, a, o, rfl, n1 a han, fun z => (List.mem_append.mp z).elim nin nfo, g2, hof, g3.sub fun b hb => ?_, ?_⟩
        · rcases List.mem_append.mp hb with z | z
          · exact List.mem_append_left _ (List.mem_append_left _ z)
          · rcases List.mem_cons.mp z with z | z
            · exact List.mem_append_left _ (List.mem_append_right _ (z ▸ han))
            · exact List.mem_append_right _ z
        · have := s1.cut (fo' := a :: fo1) fun b hb => (List.mem_cons.mp hb).elim (fun z => .inr (z ▸ han)) .inl
          rw [hl] at this
          exact this
      · cases e
end

/-- a def of the text and its form here -/
structure FD where
  name : Str
  params : Arguments
  body : List Stmt
  scope : Scope
  N : List Str
  ps : List Str
  F : Fn
/-- the look at a def -/
def FD.ok (gl : Gl) (d : FD) : Bool := C8.scC d.N d.ps d.scope && chkSs 60 ⟨d.N, d.scope, gl, true⟩ d.body d.F.body && decide (d.F.ps = d.ps.length) && decide (d.F.ns = d.N.length)
def glOf (tab : List (Nat × FD)) (cl co : List (Str × Nat)) (free : List Str) (gd : Bool) : Gl := ⟨tab.map fun d => (d.2.name, d.1), cl, co, free, gd⟩
def tabT (tab : List (Nat × FD)) (f : Nat) : Option Fn := (tab.lookup f).map FD.F
/-- what the head tells of a def -/
structure Told (K : PySem.W.Frag) (mg : Str → Option Value) (a : Addr) (d : FD) : Prop where
  ex : ∃ fd, FunD K d.name d.name d.params d.body d.scope [] [] a fd ∧ Binds K fd d.ps []
  mg : mg d.name = some (.ref a)
  kp : PySem.W.keepIn K (.ref a) = true
theorem lookup_key : ∀ {tab : List (Nat × FD)} {f : Nat} {d : FD}, (tab.map (·.1)).Nodup → (f, d) ∈ tab → tab.lookup f = some d
  | (g, e) :: tab, f, d, nd, h => by
    simp only [List.map_cons, List.nodup_cons] at nd
    rcases List.mem_cons.mp h with h | h
    · cases h
      simp [List.lookup]
    · have : f ≠ g := fun z => nd.1 (z ▸ List.mem_map.mpr ⟨_, h, rfl⟩)
      have e : (f == g) = false := by simpa using this
      simp only [List.lookup, e]
      exact lookup_key nd.2 h
theorem lookup_nm {tab : List (Nat × FD)} {x : Str} {f : Nat} (nd : (tab.map (·.1)).Nodup) (h : (tab.map fun d => (d.2.name, d.1)).lookup x = some f) : ∃ d, tab.lookup f = some d ∧ d.name = x := by
  have hm := PySem.mem_of_lookup h
  obtain ⟨⟨n, d⟩, h1, h2⟩ := List.mem_map.mp hm
  simp only [Prod.mk.injEq] at h2
  obtain ⟨rfl, rfl⟩ := h2
  exact ⟨d, lookup_key nd h1, rfl⟩
theorem mem_key : ∀ {tab : List (Nat × FD)} {f : Nat} {d : FD}, tab.lookup f = some d → (f, d) ∈ tab
  | [], _, _, h => by cases h
  | (g, e) :: tab, f, d, h => by
    simp only [List.lookup] at h
    split at h
    · rename_i q
      have : f = g := by simpa using q
      cases h
      rw [this]
      exact List.mem_cons_self ..
    · exact List.mem_cons_of_mem _ (mem_key h)
theorem arg_ls {K : PySem.W.Frag} {G : GE} {ρ : Pr} {H : Hp} {rs : List RV} {vs : List V} {n : Nat} (h : Paired (fun r v => ∃ r', argL r = some r' ∧ RepL K G ρ H r' v) rs vs) : RelL K G ρ H (rs.map argL ++ List.replicate n none) (vs.map some ++ List.replicate n none) := by
  induction h with
  | nil =>
    induction n with
    | zero => exact .nil
    | succ n ih => exact .cons (fun q hq => by cases hq) ih
  | cons a b ih => exact .cons (fun q hq => by
      obtain ⟨r', e1, e2⟩ := a
      rw [e1] at hq
      cases hq
      exact ⟨_, rfl, e2⟩) ih
theorem fns_ok {P : Program} {w : World} {K : PySem.W.Frag} {mg : Str → Option Value} {base : Heap} {G : GE} {tab : List (Nat × FD)} {cl co : List (Str × Nat)} {free : List Str} {gd : Bool} {con : Nat → PV} {fuel : Nat}
    (nd : (tab.map (·.1)).Nodup) (told : ∀ (f : Nat) (d : FD), tab.lookup f = some d → Told K mg (G.fn f) d) (chk : ∀ (f : Nat) (d : FD), tab.lookup f = some d → d.ok (glOf tab cl co free gd) = true) (hfree : ∀ x ∈ free, mg x = none)
    (hcon : ∀ x c, co.lookup x = some c → ∃ u v, mg x = some u ∧ RelV v u ∧ ∀ W H, Rep K G W H (con c) v) :
    ∀ k f d fd, tab.lookup f = some d → FunD K d.name d.name d.params d.body d.scope [] [] (G.fn f) fd → FnG gd P w K mg base C8.CX0 k (G.fn f) fd d.ps (spF K G (run (tabT tab) con fuel k) f) := by
  intro k
  induction k with
  | zero =>
    intro f d fd hd F
    have no : ∀ vs H Q E, ¬ spF K G (run (tabT tab) con fuel 0) f vs H Q E := fun vs H Q E h => by
      obtain ⟨ρ, μ, rs, r, μ', _, _, e, _⟩ := h
      simp [run] at e
    exact ⟨fun vs H Q E h => (no _ _ _ _ h).elim, fun A outer s H args us vs Q E hr hgd he hb hv hs => (no _ _ _ _ hs).elim⟩
  | succ k ih =>
    intro f d fd hd F
    have hc := chk f d hd
    simp only [FD.ok, Bool.and_eq_true, decide_eq_true_eq] at hc
    obtain ⟨⟨⟨h1, h2⟩, h3⟩, h4⟩ := hc
    have S := C8.fnScope_by h1
    have len : ∀ vs H Q E, spF K G (run (tabT tab) con fuel (k + 1)) f vs H Q E → vs.length = d.ps.length := fun vs H Q E h => by
      obtain ⟨ρ, μ, rs, r, μ', _, hp, e, _⟩ := h
      simp only [run, tabT, hd, Option.map_some] at e
      split at e
      · rename_i hl
        rw [← hp.length, hl, h3]
      · cases e
    refine fnG_of F S len fun cdv A outer s H vs Q E hr hgd h => ?_
    have hl := len vs H Q E h
    obtain ⟨ρ, μ, rs, r, μ', st, hp, e, kq⟩ := h
    simp only [run, tabT, hd, Option.map_some] at e
    have ok : OkX (cxOf C8.CX0 P w K mg base d.N d.name d.scope (G.fn f) cdv A outer s H E).nox G ⟨run (tabT tab) con fuel k, con, fuel⟩ (glOf tab cl co free gd) := by
      refine ⟨rfl, S.nd, rfl, fun x g hx => ?_, hfree, hcon, ?_, hgd⟩
      · obtain ⟨d2, e2, rfl⟩ := lookup_nm nd hx
        obtain ⟨fd2, F2, b2⟩ := (told g d2 e2).ex
        exact ⟨k, fd2, d2.ps, hr, (told g d2 e2).mg, (told g d2 e2).kp, b2, ih g d2 fd2 e2 F2⟩
      · have := hr.un
        show (A.deeper _).units + 65 < cLine
        omega
    have body := (chkS_ok (X := (cxOf C8.CX0 P w K mg base d.N d.name d.scope (G.fn f) cdv A outer s H E).nox) (c := ⟨d.N, d.scope, glOf tab cl co free gd, true⟩) S.kind ok rfl rfl rfl (fun _ _ => rfl) 60).2 d.body d.F.body h2
    refine ⟨_, body.nox, ?_⟩
    split at e
    · rename_i hl2
      have hns : d.F.ns - d.F.ps = d.N.length - vs.length := by rw [h4, ← hl2, hp.length]
      rw [hns] at e
      have rl := arg_ls (n := d.N.length - vs.length) hp
      split at e
      · rename_i r1 ls1 μ1 e1
        exact ⟨ρ, μ, _, .ret r1, ls1, μ1, st, rl, e1, fun ρ1 H1 v x1 s1 r1 => by
          obtain ⟨g1, g2, g3⟩ := leave_ok st x1 s1 r1 e
          exact kq H1 v g1 g2 g3⟩
      · rename_i ls1 μ1 e1
        cases e
        exact ⟨ρ, μ, _, .nx, ls1, μ1, st, rl, e1, fun ρ1 H1 σ1 x1 s1 rl1 => by
          obtain ⟨g1, g2, g3⟩ := leave_ok (r1 := .v .non) (r := .v .non) (v := .non) st x1 s1 .non rfl
          exact kq H1 .non g1 g2 g3⟩
      · cases e
      · cases e
      · cases e
    · cases e
end Z

set_option maxHeartbeats 8000000
/-! Z over the hand layer: from the head's facts to the law's promise. -/
namespace Z
open PySem PySem.Spec L2

/-- where the defs stand: by their names -/
def G0 (K : PySem.W.Frag) (fds : List (Nat × FD)) (cls : List Str) : GE := ⟨fun f => He.ga K (((fds.lookup f).map FD.name).getD Str.empty), fun c => He.ga K (cls.getD c Str.empty)⟩
def hd (d : FD) : He.DefD := ⟨(d.name, none), d.name, d.name, d.params, d.body, d.scope, [], []⟩
/-- a def's parameters are bound one by one -/
def BndD (d : FD) : Prop := ∀ (kV doc pm : Value) (an : Option Addr) (cdv ct : Value) (us : List Value), us.length = d.ps.length → bindArgs (PySem.W.fnOf d.name d.name d.params d.body d.scope .none kV doc pm an cdv ct) ⟨us, []⟩ = pure (d.ps.zip us)
/-- a constant of the module -/
def ConOk (K : PySem.W.Frag) (mg : Str → Option Value) (G : GE) (x : Str) (p : PV) : Prop := ∃ u v, mg x = some u ∧ RelV v u ∧ ∀ W H, Rep K G W H p v
section
variable {K : PySem.W.Frag} {h : Heap} {mg : Str → Option Value} {fa : List He.Fa} {fn : List He.DefD} {fds : List (Nat × FD)} {cls : List Str}
theorem con_int {G : GE} (X : K.In h) (N : h.Ns mainGlobals mg) (c : He.SaysD fa fn K) {x : Str} {i : Int} (hm : He.Fa.int x i ∈ fa) : ConOk K mg G x (.int i) := by
  obtain ⟨t, e⟩ := He.int_ok X N (c.facts hm)
  exact ⟨_, .int i, e, ⟨t, rfl⟩, fun _ _ => .int i⟩
theorem told_all (X : K.In h) (N : h.Ns mainGlobals mg) (c : He.SaysD fa fn K) (hfn : ∀ d ∈ fds, hd d.2 ∈ fn) (hfa : ∀ d ∈ fds, He.Fa.glo d.2.name ∈ fa) (hb : ∀ d ∈ fds, BndD d.2) :
    ∀ (f : Nat) (d : FD), fds.lookup f = some d → Told K mg ((G0 K fds cls).fn f) d := fun f d hd' => by
  have hm := mem_key hd'
  have ea : (G0 K fds cls).fn f = He.ga K d.name := by
    show He.ga K (((fds.lookup f).map FD.name).getD Str.empty) = _
    rw [hd']
    rfl
  rw [ea]
  obtain ⟨fd, F⟩ := c.defs (hfn (f, d) hm)
  have F' : FunD K d.name d.name d.params d.body d.scope [] [] (He.ga K d.name) fd := F
  exact ⟨⟨fd, F', F'.bindsN (ps := d.ps) (hb (f, d) hm)⟩, He.glo_ok X N (c.facts (hfa (f, d) hm)), F'.kp⟩
theorem script_sp {G : GE} {call : Nat → List RV → Sto → R RV} {f : Nat} {H : Hp} {a : Addr} {ns : List Int} {E : XK} (hO : Only H) (hS : SqL K H a (ns.map V.int))
    (law : call f [.v (.frz (ns.map PV.int))] [] = .ok (.v (.bl true)) []) : spF K G call f [.ref a] H (fun v _ => v = .bl true) E := by
  have intz : ∀ (ns : List Int), Reps K G (⟨[], []⟩ : Pr).W H (ns.map PV.int) (ns.map V.int) := fun ns => by
    induction ns with
    | nil => exact .nil
    | cons n ns ih => exact .cons (.int n) ih
  have rs : Rep K G (⟨[], []⟩ : Pr).W H (.frz (ns.map PV.int)) (.ref a) := by
    rcases hS with (e | ⟨o, e⟩) | ⟨o, its, n, h1, h2, h3, h4, h5, h6⟩
    · rcases hO a with z | ⟨o, xs, z⟩
      · rw [z] at e; cases e
      · rw [z] at e; cases e
    · exact .frz e (by simp) (intz ns)
    · exact .frzK h1 h2 h3 h4 h5 h6 (intz ns)
  refine ⟨⟨[], []⟩, [], [.v (.frz (ns.map PV.int))], .v (.bl true), [], ⟨by simp, .nil, by simp⟩, .cons ⟨_, rfl, rs⟩ .nil, law, fun H' v _ _ r => ?_⟩
  exact bl_of (H₀ := H) (ρ := ⟨[], []⟩) (μ := []) r
end
theorem tab_map (fds : List (Nat × FD)) : tabT fds = fun f => (fds.map fun d => (d.1, d.2.F)).lookup f := by
  funext f
  unfold tabT
  induction fds with
  | nil => rfl
  | cons d fds ih =>
    simp only [List.map_cons, List.lookup]
    split
    · rfl
    · exact ih
end Z

set_option maxHeartbeats 4000000
/-! Z over the hand layer: constants of the module: texts, tuples. -/
namespace Z
open PySem PySem.Spec L2

def all2 {α β : Type} (f : α → β → Bool) : List α → List β → Bool
  | [], [] => true
  | x :: xs, y :: ys => f x y && all2 f xs ys
  | _, _ => false
/-- K's value u is p -/
def repZ (K : PySem.W.Frag) : Nat → PV → Value → Bool
  | _, .non, .none => true
  | _, .bl b, .bool c => b == c
  | _, .int i, .int j _ => decide (i = j)
  | _, .str l, .str s _ => decide (s.cps.toList = l)
  | n + 1, .tup ps, .ref a => match K.lookup a with
    | some ⟨.type c, _, .seq its _, _⟩ => decide (c = "tuple") && decide (its.size ≤ sizeLine) && all2 (repZ K n) ps its.toList
    | _ => false
  | _, _, _ => false
def conZ (K : PySem.W.Frag) (q : Str × PV) : Bool := match PySem.W.nsIn K mainGlobals q.1 with
  | some (some u) => repZ K 8 q.2 u
  | _ => false
theorem repZ_ok {K : PySem.W.Frag} {G : GE} : ∀ (n : Nat) (p : PV) (u : Value), repZ K n p u = true → ∃ v, RelV v u ∧ ∀ W H, Rep K G W H p v := by
  intro n
  have base : ∀ (n : Nat) (p : PV) (u : Value), (∀ xs, p ≠ .tup xs) → repZ K n p u = true → ∃ v, RelV v u ∧ ∀ W H, Rep K G W H p v := fun n p u hp h => by
    cases p with
    | non => cases u <;> cases n <;> first | exact ⟨.non, rfl, fun _ _ => .non⟩ | (simp [repZ] at h)
    | bl b =>
      cases u <;> cases n <;> simp [repZ] at h
      all_goals (subst h; exact ⟨.bl _, rfl, fun _ _ => .bl _⟩)
    | int i =>
      cases u <;> cases n <;> simp [repZ] at h
      all_goals (subst h; exact ⟨.int _, ⟨_, rfl⟩, fun _ _ => .int _⟩)
    | str l =>
      cases u with
      | str s t =>
        have h : s.cps.toList = l := by cases n <;> simpa [repZ] using h
        subst h
        refine ⟨.str s, ⟨_, rfl⟩, fun W H => ?_⟩
        have e : s = ⟨s.cps.toList.toArray⟩ := by cases s; simp
        have r : Rep K G W H (.str s.cps.toList) (.str ⟨s.cps.toList.toArray⟩) := .str _
        rw [← e] at r
        exact r
      | _ => cases n <;> simp [repZ] at h
    | tup xs => exact absurd rfl (hp xs)
    | _ => cases u <;> cases n <;> simp [repZ] at h
  induction n with
  | zero =>
    intro p u h
    refine base 0 p u (fun xs z => ?_) h
    subst z
    cases u <;> simp [repZ] at h
  | succ n ih =>
    intro p u h
    by_cases hp : ∀ xs, p ≠ .tup xs
    · exact base _ p u hp h
    · obtain ⟨ps, rfl⟩ : ∃ ps, p = .tup ps := by
        cases p with
        | tup xs => exact ⟨xs, rfl⟩
        | _ => exact absurd (fun xs z => by cases z) hp
      cases u with
      | ref a =>
        simp only [repZ] at h
        split at h
        · rename_i c dd its nn sl hl
          simp only [Bool.and_eq_true, decide_eq_true_eq] at h
          obtain ⟨⟨rfl, h2⟩, h3⟩ := h
          have key : ∀ (ps : List PV) (us : List Value), all2 (repZ K n) ps us = true → ∃ vs, Vals vs us ∧ ∀ W H, Reps K G W H ps vs := by
            intro ps
            induction ps with
            | nil =>
              intro us h
              cases us with
              | nil => exact ⟨[], .nil, fun _ _ => .nil⟩
              | cons _ _ => simp [all2] at h
            | cons p ps ih2 =>
              intro us h
              cases us with
              | nil => simp [all2] at h
              | cons u us =>
                simp only [all2, Bool.and_eq_true] at h
                obtain ⟨v, r, hv⟩ := ih p u h.1
                obtain ⟨vs, rs, hvs⟩ := ih2 us h.2
                exact ⟨v :: vs, .cons r rs, fun W H => .cons (hv W H) (hvs W H)⟩
          obtain ⟨vs, rv, hr⟩ := key ps its.toList h3
          exact ⟨.ref a, rfl, fun W H => .tupK hl rfl rfl h2 rv (hr W H)⟩
        · cases h
      | _ => simp [repZ] at h
theorem con_z {K : PySem.W.Frag} {h : Heap} {mg : Str → Option Value} {G : GE} (X : K.In h) (N : h.Ns mainGlobals mg) {q : Str × PV} (hz : conZ K q = true) : ConOk K mg G q.1 q.2 := by
  unfold conZ at hz
  split at hz
  · rename_i u hu
    obtain ⟨v, r, hv⟩ := repZ_ok (G := G) 8 q.2 u hz
    exact ⟨u, v, PySem.W.mg_of X N hu, r, hv⟩
  · cases hz
end Z

set_option maxHeartbeats 4000000
/-! Z: the equations as simp lemmas; loops, comprehensions, calls by values. -/
namespace Z
section
variable (C : Cxt) (ls : Lcs) (μ : Sto)
@[simp] theorem ev_var (i : Nat) : ev C (.var i) ls μ = lvR ls i μ := (rfl)
@[simp] theorem ev_int (i : Int) : ev C (.int i) ls μ = .ok (.v (.int i)) μ := (rfl)
@[simp] theorem ev_bl (i : Bool) : ev C (.bl i) ls μ = .ok (.v (.bl i)) μ := (rfl)
@[simp] theorem ev_non : ev C .non ls μ = .ok (.v .non) μ := (rfl)
@[simp] theorem ev_str (s : List Nat) : ev C (.str s) ls μ = .ok (.v (.str s)) μ := (rfl)
@[simp] theorem ev_con (c : Nat) : ev C (.con c) ls μ = .ok (.v (C.con c)) μ := (rfl)
@[simp] theorem ev_bin (o : Op2) (a b : E) : ev C (.bin o a b) ls μ = (ev C a ls μ).bind fun x μ1 => (ev C b ls μ1).bind fun y μ2 => opt2 (bin o) x y μ2 := (rfl)
@[simp] theorem ev_neg (a : E) : ev C (.neg a) ls μ = (ev C a ls μ).bind fun x μ1 => opt1 negR x μ1 := (rfl)
@[simp] theorem ev_cmp (o : OpC) (a b : E) : ev C (.cmp o a b) ls μ = (ev C a ls μ).bind fun x μ1 => (ev C b ls μ1).bind fun y μ2 => opt2 (cmpR o) x y μ2 := (rfl)
@[simp] theorem ev_chn (o o' : OpC) (a b c : E) : ev C (.chn o o' a b c) ls μ = (ev C a ls μ).bind fun x μ1 => (ev C b ls μ1).bind fun y μ2 => (opt2 (cmpR o) x y μ2).bind fun r μ3 => (toB r μ3).bind fun t μ4 =>
      iteB t ((ev C c ls μ4).bind fun z μ5 => opt2 (cmpR o') y z μ5) (.ok (.v (.bl false)) μ4) := (rfl)
@[simp] theorem ev_and (a b : E) : ev C (.and a b) ls μ = (ev C a ls μ).bind fun x μ1 => (toB x μ1).bind fun t μ2 => iteB t (ev C b ls μ2) (.ok (.v (.bl false)) μ2) := (rfl)
@[simp] theorem ev_or (a b : E) : ev C (.or a b) ls μ = (ev C a ls μ).bind fun x μ1 => (toB x μ1).bind fun t μ2 => iteB t (.ok (.v (.bl true)) μ2) (ev C b ls μ2) := (rfl)
@[simp] theorem ev_not (a : E) : ev C (.not a) ls μ = (ev C a ls μ).bind fun x μ1 => (toB x μ1).bind fun t μ2 => .ok (.v (.bl (!t))) μ2 := (rfl)
@[simp] theorem ev_ite (c a b : E) : ev C (.ite c a b) ls μ = (ev C c ls μ).bind fun x μ1 => (toB x μ1).bind fun t μ2 => iteB t (ev C a ls μ2) (ev C b ls μ2) := (rfl)
@[simp] theorem ev_tup (as : E) : ev C (.tup as) ls μ = (evs C as ls μ).bind fun rs μ1 => tupR rs μ1 := (rfl)
@[simp] theorem ev_lst (as : E) : ev C (.lst as) ls μ = (evs C as ls μ).bind fun rs μ1 => lstR rs μ1 := (rfl)
@[simp] theorem ev_idx (a b : E) : ev C (.idx a b) ls μ = (ev C a ls μ).bind fun x μ1 => (ev C b ls μ1).bind fun y μ2 => opt2 idxR x y μ2 := (rfl)
@[simp] theorem ev_slc (a lo hi : E) : ev C (.slc a lo hi) ls μ = (ev C a ls μ).bind fun x μ1 => (evo C lo ls μ1).bind fun l μ2 => (evo C hi ls μ2).bind fun h μ3 => opt1 (fun p => slc p l h) x μ3 := (rfl)
@[simp] theorem ev_rvs (a : E) : ev C (.rvs a) ls μ = (ev C a ls μ).bind fun x μ1 => opt1 rvs x μ1 := (rfl)
@[simp] theorem ev_call (f : Nat) (as : E) : ev C (.call f as) ls μ = (evs C as ls μ).bind fun rs μ1 => C.call f rs μ1 := (rfl)
@[simp] theorem ev_bi (f : Bi) (as : E) : ev C (.bi f as) ls μ = (evs C as ls μ).bind fun rs μ1 => biR f rs μ1 := (rfl)
@[simp] theorem ev_me (m : Me) (o as : E) : ev C (.me m o as) ls μ = (ev C o ls μ).bind fun x μ1 => iteB (meK m x μ1) ((evs C as ls μ1).bind fun rs μ2 => meR m x rs μ2) .no := (rfl)
@[simp] theorem meK_v (m : Me) (p : PV) : meK m (.v p) μ = true := (rfl)
@[simp] theorem meK_new (m : Me) (p : PV) : meK m (.new p) μ = true := (rfl)
@[simp] theorem ev_rng (lo hi : E) : ev C (.rng lo hi) ls μ = (ev C lo ls μ).bind fun x μ1 => (ev C hi ls μ1).bind fun y μ2 => rngR x y μ2 := (rfl)
@[simp] theorem ev_rng3 (lo hi st : E) : ev C (.rng3 lo hi st) ls μ = (ev C lo ls μ).bind fun x μ1 => (ev C hi ls μ1).bind fun y μ2 => (ev C st ls μ2).bind fun z μ3 => rng3R x y z μ3 := (rfl)
@[simp] theorem ev_enum (a : E) : ev C (.enum a) ls μ = (ev C a ls μ).bind fun x μ1 => enumR x μ1 := (rfl)
@[simp] theorem ev_zip (a b : E) : ev C (.zip a b) ls μ = (ev C a ls μ).bind fun x μ1 => (ev C b ls μ1).bind fun y μ2 => zipR x y μ2 := (rfl)
@[simp] theorem ev_lc (elt : E) (tg : Tg) (it cond : E) : ev C (.lc elt tg it cond) ls μ = (ev C it ls μ).bind fun rv μ1 => lcl rv (fun x μ => match asgT tg x (wipeL ls (tgN tg)) with
      | some ls' => (evc C cond ls' μ).bind fun b μ1 => iteB b ((ev C elt ls' μ1).bind fun r μ2 => opt ((kp r).map some) μ2) (.ok none μ1)
      | none => .no) μ1 := (rfl)
@[simp] theorem ev_dnew : ev C .dnew ls μ = .ok (.new (.dct [])) μ := (rfl)
@[simp] theorem ev_lcd (b : Bool) (elt : E) (tg : Tg) (it cond : E) : ev C (.lcd b elt tg it cond) ls μ = (ev C it ls μ).bind fun rv μ1 => lcdR b rv (fun x μ => match asgT tg x (wipeL ls (tgN tg)) with
      | some ls' => (evc C cond ls' μ).bind fun b μ1 => iteB b ((ev C elt ls' μ1).bind fun r μ2 => opt ((kp r).map some) μ2) (.ok none μ1)
      | none => .no) μ1 := (rfl)
@[simp] theorem ev_dc (b : Bool) (kx vx : E) (tg : Tg) (it cond : E) : ev C (.dc b kx vx tg it cond) ls μ = (ev C it ls μ).bind fun rv μ1 => dcR b rv (fun x μ => match asgT tg x (wipeL ls (tgN tg)) with
      | some ls' => (evc C cond ls' μ).bind fun b μ1 => iteB b ((ev C kx ls' μ1).bind fun rk μ2 => (ev C vx ls' μ2).bind fun r μ3 => opt (dcP rk r) μ3) (.ok none μ1)
      | none => .no) μ1 := (rfl)
@[simp] theorem evs_nil : evs C .nil ls μ = .ok [] μ := (rfl)
@[simp] theorem evs_cons (a as : E) : evs C (.cons a as) ls μ = (ev C a ls μ).bind fun r μ1 => (evs C as ls μ1).bind fun rs μ2 => .ok (r :: rs) μ2 := (rfl)
@[simp] theorem evo_nil : evo C .nil ls μ = .ok none μ := (rfl)
@[simp] theorem evo_cons (a as : E) : evo C (.cons a as) ls μ = (ev C a ls μ).bind fun r μ1 => opt ((toI r).map some) μ1 := (rfl)
@[simp] theorem evc_nil : evc C .nil ls μ = .ok true μ := (rfl)
@[simp] theorem evc_cons (a as : E) : evc C (.cons a as) ls μ = (ev C a ls μ).bind fun r μ1 => toB r μ1 := (rfl)
@[simp] theorem ex_skip : ex C .skip ls μ = .ok (.nx, ls) μ := (rfl)
@[simp] theorem ex_seq (a b : S) : ex C (.seq a b) ls μ = seqR (ex C a ls μ) fun ls1 μ1 => ex C b ls1 μ1 := (rfl)
@[simp] theorem ex_asg (i : Nat) (e : E) : ex C (.asg i e) ls μ = (ev C e ls μ).bind fun r μ1 => asgR i r ls μ1 := (rfl)
@[simp] theorem ex_mk (i : Nat) (e : E) : ex C (.mk i e) ls μ = (ev C e ls μ).bind fun r μ1 => mkR i r ls μ1 := (rfl)
@[simp] theorem ex_tgt (tg : Tg) (e : E) : ex C (.tgt tg e) ls μ = (ev C e ls μ).bind fun r μ1 => tgtR tg r ls μ1 := (rfl)
@[simp] theorem ex_par (is : List (Nat × Bool)) (as : E) : ex C (.par is as) ls μ = (evs C as ls μ).bind fun rs μ1 => parA is rs ls μ1 := (rfl)
@[simp] theorem ex_setI (o i e : E) : ex C (.setI o i e) ls μ = (ev C e ls μ).bind fun r μ1 => (ev C o ls μ1).bind fun x μ2 => (ev C i ls μ2).bind fun y μ3 => setR x y r ls μ3 := (rfl)
@[simp] theorem ex_expr (e : E) : ex C (.expr e) ls μ = (ev C e ls μ).bind fun _ μ1 => .ok (.nx, ls) μ1 := (rfl)
@[simp] theorem ex_ret (e : E) : ex C (.ret e) ls μ = (ev C e ls μ).bind fun r μ1 => .ok (.ret r, ls) μ1 := (rfl)
@[simp] theorem ex_retN : ex C .retN ls μ = .ok (.ret (.v .non), ls) μ := (rfl)
@[simp] theorem ex_ife (c : E) (a b : S) : ex C (.ife c a b) ls μ = (ev C c ls μ).bind fun r μ1 => (toB r μ1).bind fun t μ2 => iteB t (ex C a ls μ2) (ex C b ls μ2) := (rfl)
@[simp] theorem ex_brk : ex C .brk ls μ = .ok (.brk, ls) μ := (rfl)
@[simp] theorem ex_cont : ex C .cont ls μ = .ok (.cont, ls) μ := (rfl)
theorem ex_for (tg : Tg) (it : E) (b : S) : ex C (.for tg it b) ls μ = (ev C it ls μ).bind fun rv μ1 => loop rv (fun x ls μ => match asgT tg x ls with
    | some ls' => ex C b ls' μ
    | none => .no) ls μ1 := rfl
@[simp] theorem seqR_nx (ls : Lcs) (μ : Sto) (k : Lcs → Sto → R (Out × Lcs)) : seqR (.ok (.nx, ls) μ) k = k ls μ := (rfl)
@[simp] theorem seqR_ret (r : RV) (ls : Lcs) (μ : Sto) (k : Lcs → Sto → R (Out × Lcs)) : seqR (.ok (.ret r, ls) μ) k = .ok (.ret r, ls) μ := (rfl)
@[simp] theorem seqR_brk (ls : Lcs) (μ : Sto) (k : Lcs → Sto → R (Out × Lcs)) : seqR (.ok (.brk, ls) μ) k = .ok (.brk, ls) μ := (rfl)
@[simp] theorem seqR_cont (ls : Lcs) (μ : Sto) (k : Lcs → Sto → R (Out × Lcs)) : seqR (.ok (.cont, ls) μ) k = .ok (.cont, ls) μ := (rfl)
end
@[simp] theorem ex_forN (C : Cxt) (i : Nat) (it : E) (b : S) (ls : Lcs) (μ : Sto) : ex C (.for (.nm i) it b) ls μ = (ev C it ls μ).bind fun rv μ1 => loop rv (fun x ls μ => ex C b (ls.set i (some (.v x))) μ) ls μ1 := by
  rw [ex_for]
  simp [asgT]
/-! small steps -/
@[simp] theorem toB_v (b : Bool) (μ : Sto) : toB (.v (.bl b)) μ = .ok b μ := (rfl)
@[simp] theorem toI_v (i : Int) : toI (.v (.int i)) = some i := (rfl)
@[simp] theorem opt2_vv (f : PV → PV → Option RV) (p q : PV) (μ : Sto) : opt2 f (.v p) (.v q) μ = opt (f p q) μ := (rfl)
@[simp] theorem opt2_vn (f : PV → PV → Option RV) (p q : PV) (μ : Sto) : opt2 f (.v p) (.new q) μ = opt (f p q) μ := (rfl)
@[simp] theorem opt2_nv (f : PV → PV → Option RV) (p q : PV) (μ : Sto) : opt2 f (.new p) (.v q) μ = opt (f p q) μ := (rfl)
@[simp] theorem opt2_nn (f : PV → PV → Option RV) (p q : PV) (μ : Sto) : opt2 f (.new p) (.new q) μ = opt (f p q) μ := (rfl)
@[simp] theorem opt1_v (f : PV → Option RV) (p : PV) (μ : Sto) : opt1 f (.v p) μ = opt (f p) μ := (rfl)
@[simp] theorem opt1_n (f : PV → Option RV) (p : PV) (μ : Sto) : opt1 f (.new p) μ = opt (f p) μ := (rfl)
theorem opt2_lv {f : PV → PV → Option RV} {n : Nat} {p q : PV} {μ : Sto} (h : μ[n]? = some p) : opt2 f (.loc n) (.v q) μ = opt (f p q) μ := by simp [opt2, h]
theorem opt1_l {f : PV → Option RV} {n : Nat} {p : PV} {μ : Sto} (h : μ[n]? = some p) : opt1 f (.loc n) μ = opt (f p) μ := by simp [opt1, h]
@[simp] theorem asgR_v (i : Nat) (p : PV) (ls : Lcs) (μ : Sto) : asgR i (.v p) ls μ = .ok (.nx, ls.set i (some (.v p))) μ := (rfl)
@[simp] theorem asgR_n (i : Nat) (p : PV) (ls : Lcs) (μ : Sto) : asgR i (.new p) ls μ = .ok (.nx, ls.set i (some (.v p))) μ := (rfl)
@[simp] theorem asgR_l (i : Nat) (n : Nat) (ls : Lcs) (μ : Sto) : asgR i (.loc n) ls μ = .ok (.nx, ls.set i (some (.loc n))) μ := (rfl)
@[simp] theorem mkR_n (i : Nat) (p : PV) (ls : Lcs) (μ : Sto) : mkR i (.new p) ls μ = .ok (.nx, ls.set i (some (.loc μ.length))) (μ ++ [p]) := (rfl)
@[simp] theorem argL_v (p : PV) : argL (.v p) = some (.v p) := (rfl)
@[simp] theorem argL_n (p : PV) : argL (.new p) = some (.v p) := (rfl)
@[simp] theorem argL_l (n : Nat) : argL (.loc n) = some (.loc n) := (rfl)
@[simp] theorem rds_nil (μ : Sto) : rds μ [] = some [] := (rfl)
@[simp] theorem rds_v (μ : Sto) (p : PV) (rs : List RV) : rds μ (.v p :: rs) = (rds μ rs).map (p :: ·) := by
  cases h : rds μ rs <;> simp [rds, h]
@[simp] theorem rds_n (μ : Sto) (p : PV) (rs : List RV) : rds μ (.new p :: rs) = (rds μ rs).map (p :: ·) := by
  cases h : rds μ rs <;> simp [rds, h]
@[simp] theorem rds_l (μ : Sto) (n : Nat) (rs : List RV) : rds μ (.loc n :: rs) = μ[n]?.bind fun p => (rds μ rs).map (p :: ·) := by
  cases h : rds μ rs <;> cases h2 : μ[n]? <;> simp [rds, h, h2]
theorem biR_eq {f : Bi} {rs : List RV} {μ : Sto} {ps : List PV} (h : rds μ rs = some ps) : biR f rs μ = opt (bi f ps) μ := by simp [biR, h]
@[simp] theorem biR_1 (f : Bi) (p : PV) (μ : Sto) : biR f [.v p] μ = opt (bi f [p]) μ := (rfl)
@[simp] theorem biR_1n (f : Bi) (p : PV) (μ : Sto) : biR f [.new p] μ = opt (bi f [p]) μ := (rfl)
@[simp] theorem biR_2 (f : Bi) (p q : PV) (μ : Sto) : biR f [.v p, .v q] μ = opt (bi f [p, q]) μ := (rfl)
@[simp] theorem parA_nil (ls : Lcs) (μ : Sto) : parA [] [] ls μ = .ok (.nx, ls) μ := (rfl)
@[simp] theorem parA_v (i : Nat) (k : Bool) (is : List (Nat × Bool)) (p : PV) (rs : List RV) (ls : Lcs) (μ : Sto) : parA ((i, k) :: is) (.v p :: rs) ls μ = parA is rs (ls.set i (some (.v p))) μ := by cases k <;> rfl
@[simp] theorem parA_l (i : Nat) (k : Bool) (is : List (Nat × Bool)) (n : Nat) (rs : List RV) (ls : Lcs) (μ : Sto) : parA ((i, k) :: is) (.loc n :: rs) ls μ = parA is rs (ls.set i (some (.loc n))) μ := by cases k <;> rfl
@[simp] theorem parA_nt (i : Nat) (is : List (Nat × Bool)) (p : PV) (rs : List RV) (ls : Lcs) (μ : Sto) : parA ((i, true) :: is) (.new p :: rs) ls μ = parA is rs (ls.set i (some (.loc μ.length))) (μ ++ [p]) := (rfl)
@[simp] theorem parA_nf (i : Nat) (is : List (Nat × Bool)) (p : PV) (rs : List RV) (ls : Lcs) (μ : Sto) : parA ((i, false) :: is) (.new p :: rs) ls μ = parA is rs (ls.set i (some (.v p))) μ := (rfl)
theorem tupR_kps (rs : List RV) (μ : Sto) : tupR rs μ = match kps rs with | some ps => if ps.length ≤ SZ then .ok (.v (.tup ps)) μ else .no | none => .no := rfl
theorem lstR_kps (rs : List RV) (μ : Sto) : lstR rs μ = match kps rs with | some ps => if ps.length ≤ SZ then .ok (.new (.lst ps)) μ else .no | none => .no := rfl
theorem tupR_eq {rs : List RV} {μ : Sto} {ps : List PV} (h : kps rs = some ps) (hl : ps.length ≤ SZ) : tupR rs μ = .ok (.v (.tup ps)) μ := by simp [tupR, h, hl]
theorem lstR_eq {rs : List RV} {μ : Sto} {ps : List PV} (h : kps rs = some ps) (hl : ps.length ≤ SZ) : lstR rs μ = .ok (.new (.lst ps)) μ := by simp [lstR, h, hl]
@[simp] theorem lvR_0 (r : RV) (ls : Lcs) (μ : Sto) : lvR (some r :: ls) 0 μ = .ok r μ := (rfl)
@[simp] theorem lvR_s (o : Option RV) (ls : Lcs) (i : Nat) (μ : Sto) : lvR (o :: ls) (i + 1) μ = lvR ls i μ := by simp [lvR]
@[simp] theorem asgT_nm (i : Nat) (p : PV) (ls : Lcs) : asgT (.nm i) p ls = some (ls.set i (some (.v p))) := by simp [asgT]
@[simp] theorem tgN_nm (i : Nat) : tgN (.nm i) = [i] := (rfl)
@[simp] theorem wipeL_nil (ls : Lcs) : wipeL ls [] = ls := (rfl)
@[simp] theorem wipeL_one (ls : Lcs) (i : Nat) : wipeL ls [i] = ls.set i none := (rfl)
@[simp] theorem szl_0 : 0 ≤ SZ := by decide
@[simp] theorem szl_1 : 1 ≤ SZ := by decide
@[simp] theorem szl_2 : 2 ≤ SZ := by decide
@[simp] theorem szl_3 : 3 ≤ SZ := by decide
@[simp] theorem szl_4 : 4 ≤ SZ := by decide
@[simp] theorem szl_5 : 5 ≤ SZ := by decide
@[simp] theorem szl_6 : 6 ≤ SZ := by decide
@[simp] theorem szl_7 : 7 ≤ SZ := by decide
@[simp] theorem szl_8 : 8 ≤ SZ := by decide
@[simp] theorem szl_9 : 9 ≤ SZ := by decide
@[simp] theorem szl_10 : 10 ≤ SZ := by decide
@[simp] theorem szl_11 : 11 ≤ SZ := by decide
@[simp] theorem szl_12 : 12 ≤ SZ := by decide
@[simp] theorem szl_13 : 13 ≤ SZ := by decide
@[simp] theorem szl_14 : 14 ≤ SZ := by decide
@[simp] theorem szl_15 : 15 ≤ SZ := by decide
@[simp] theorem szl_16 : 16 ≤ SZ := by decide
@[simp] theorem szl_17 : 17 ≤ SZ := by decide
@[simp] theorem szl_18 : 18 ≤ SZ := by decide
@[simp] theorem szl_19 : 19 ≤ SZ := by decide
@[simp] theorem szl_20 : 20 ≤ SZ := by decide
@[simp] theorem szl_21 : 21 ≤ SZ := by decide
@[simp] theorem szl_22 : 22 ≤ SZ := by decide
@[simp] theorem szl_23 : 23 ≤ SZ := by decide
@[simp] theorem szt_0 : 0 < SZ := by decide
@[simp] theorem szt_1 : 1 < SZ := by decide
@[simp] theorem szt_2 : 2 < SZ := by decide
@[simp] theorem szt_3 : 3 < SZ := by decide
@[simp] theorem szt_4 : 4 < SZ := by decide
@[simp] theorem szt_5 : 5 < SZ := by decide
@[simp] theorem szt_6 : 6 < SZ := by decide
@[simp] theorem szt_7 : 7 < SZ := by decide
@[simp] theorem szt_8 : 8 < SZ := by decide
@[simp] theorem szt_9 : 9 < SZ := by decide
@[simp] theorem szt_10 : 10 < SZ := by decide
@[simp] theorem szt_11 : 11 < SZ := by decide
@[simp] theorem szt_12 : 12 < SZ := by decide
@[simp] theorem szt_13 : 13 < SZ := by decide
@[simp] theorem szt_14 : 14 < SZ := by decide
@[simp] theorem szt_15 : 15 < SZ := by decide
@[simp] theorem szt_16 : 16 < SZ := by decide
@[simp] theorem szt_17 : 17 < SZ := by decide
@[simp] theorem szt_18 : 18 < SZ := by decide
@[simp] theorem szt_19 : 19 < SZ := by decide
@[simp] theorem szt_20 : 20 < SZ := by decide
@[simp] theorem szt_21 : 21 < SZ := by decide
@[simp] theorem szt_22 : 22 < SZ := by decide
@[simp] theorem szt_23 : 23 < SZ := by decide
@[simp] theorem enumR_v (xs : List PV) (μ : Sto) : enumR (.v (.lst xs)) μ = .ok (.v (.lst (enumL 0 xs))) μ := (rfl)
@[simp] theorem enumR_n (xs : List PV) (μ : Sto) : enumR (.new (.lst xs)) μ = .ok (.v (.lst (enumL 0 xs))) μ := (rfl)
/-! operators -/
@[simp] theorem bin_addI (i j : Int) : bin .add (.int i) (.int j) = some (.v (.int (i + j))) := (rfl)
@[simp] theorem bin_subI (i j : Int) : bin .sub (.int i) (.int j) = some (.v (.int (i - j))) := (rfl)
theorem bin_mulI {i j : Int} (h : (sml i || sml j) = true) : bin .mul (.int i) (.int j) = some (.v (.int (i * j))) := by simp only [bin]; rw [if_pos h]
theorem bin_modI {i j : Int} (h : 0 < j) : bin .mod (.int i) (.int j) = some (.v (.int (i % j))) := by simp [bin, h]
theorem bin_fdivI {i j : Int} (h : 0 < j) (h2 : j < 1073741824) : bin .fdiv (.int i) (.int j) = some (.v (.int (i / j))) := by
  have h3 : j < 18446744073709551616 := by omega
  simp [bin, h, h3]
theorem bin_fdivW {i j : Int} (h : 0 < j) (h2 : j < 18446744073709551616) : bin .fdiv (.int i) (.int j) = some (.v (.int (i / j))) := by simp [bin, h, h2]
@[simp] theorem bin_xorN (a b : Nat) : bin .xor (.int a) (.int b) = some (.v (.int ((a ^^^ b : Nat) : Int))) := by simp [bin]
theorem bin_addS {a b : List Nat} (h : a.length + b.length ≤ SZ) : bin .add (.str a) (.str b) = some (.v (.str (a ++ b))) := by simp [bin, h]
theorem bin_addL {a b : List PV} (h : a.length + b.length ≤ SZ) : bin .add (.lst a) (.lst b) = some (.new (.lst (a ++ b))) := by simp [bin, h]
theorem bin_addT {a b : List PV} (h : a.length + b.length ≤ SZ) : bin .add (.tup a) (.tup b) = some (.v (.tup (a ++ b))) := by simp [bin, h]
@[simp] theorem cmpR_eqI (i j : Int) : cmpR .eq (.int i) (.int j) = some (.v (.bl (i == j))) := (rfl)
@[simp] theorem cmpR_neI (i j : Int) : cmpR .ne (.int i) (.int j) = some (.v (.bl (!(i == j)))) := (rfl)
@[simp] theorem cmpR_ltI (i j : Int) : cmpR .lt (.int i) (.int j) = some (.v (.bl (decide (i < j)))) := (rfl)
@[simp] theorem cmpR_leI (i j : Int) : cmpR .le (.int i) (.int j) = some (.v (.bl (decide (i ≤ j)))) := (rfl)
@[simp] theorem cmpR_gtI (i j : Int) : cmpR .gt (.int i) (.int j) = some (.v (.bl (decide (j < i)))) := (rfl)
@[simp] theorem cmpR_geI (i j : Int) : cmpR .ge (.int i) (.int j) = some (.v (.bl (decide (j ≤ i)))) := (rfl)
@[simp] theorem cmpR_eqS (i j : List Nat) : cmpR .eq (.str i) (.str j) = some (.v (.bl (i == j))) := (rfl)
@[simp] theorem cmpR_neS (i j : List Nat) : cmpR .ne (.str i) (.str j) = some (.v (.bl (!(i == j)))) := (rfl)
@[simp] theorem cmpR_is_n : cmpR .is .non .non = some (.v (.bl true)) := (rfl)
@[simp] theorem cmpR_is_bn (b : Bool) : cmpR .is (.bl b) .non = some (.v (.bl false)) := (rfl)
@[simp] theorem cmpR_is_in (b : Int) : cmpR .is (.int b) .non = some (.v (.bl false)) := (rfl)
@[simp] theorem cmpR_is_sn (b : List Nat) : cmpR .is (.str b) .non = some (.v (.bl false)) := (rfl)
@[simp] theorem cmpR_is_tn (b : List PV) : cmpR .is (.tup b) .non = some (.v (.bl false)) := (rfl)
@[simp] theorem cmpR_is_ln (b : List PV) : cmpR .is (.lst b) .non = some (.v (.bl false)) := (rfl)
@[simp] theorem cmpR_is_bb (a b : Bool) : cmpR .is (.bl a) (.bl b) = some (.v (.bl (a == b))) := (rfl)
@[simp] theorem cmpR_isnot_n : cmpR .isnot .non .non = some (.v (.bl false)) := (rfl)
@[simp] theorem cmpR_isnot_bn (b : Bool) : cmpR .isnot (.bl b) .non = some (.v (.bl true)) := (rfl)
@[simp] theorem cmpR_isnot_in (b : Int) : cmpR .isnot (.int b) .non = some (.v (.bl true)) := (rfl)
@[simp] theorem cmpR_isnot_sn (b : List Nat) : cmpR .isnot (.str b) .non = some (.v (.bl true)) := (rfl)
@[simp] theorem cmpR_isnot_tn (b : List PV) : cmpR .isnot (.tup b) .non = some (.v (.bl true)) := (rfl)
@[simp] theorem cmpR_isnot_ln (b : List PV) : cmpR .isnot (.lst b) .non = some (.v (.bl true)) := (rfl)
@[simp] theorem cmpR_isnot_bb (a b : Bool) : cmpR .isnot (.bl a) (.bl b) = some (.v (.bl (!(a == b)))) := (rfl)
@[simp] theorem idxR_t (xs : List PV) (i : Int) : idxR (.tup xs) (.int i) = (atI xs i).map .v := (rfl)
@[simp] theorem idxR_l (xs : List PV) (i : Int) : idxR (.lst xs) (.int i) = (atI xs i).map .v := (rfl)
@[simp] theorem negR_int (i : Int) : negR (.int i) = some (.v (.int (-i))) := (rfl)
/-! built-ins -/
@[simp] theorem bi_len_l (xs : List PV) : bi .len [.lst xs] = some (.v (.int xs.length)) := (rfl)
@[simp] theorem bi_len_t (xs : List PV) : bi .len [.tup xs] = some (.v (.int xs.length)) := (rfl)
@[simp] theorem bi_tuple_l (xs : List PV) : bi .tuple [.lst xs] = some (.v (.tup xs)) := (rfl)
@[simp] theorem bi_tuple_t (xs : List PV) : bi .tuple [.tup xs] = some (.v (.tup xs)) := (rfl)
@[simp] theorem bi_list_l (xs : List PV) : bi .list [.lst xs] = some (.new (.lst xs)) := (rfl)
@[simp] theorem bi_list_t (xs : List PV) : bi .list [.tup xs] = some (.new (.lst xs)) := (rfl)
@[simp] theorem bi_int_i (i : Int) : bi .int [.int i] = some (.v (.int i)) := (rfl)
@[simp] theorem bi_min2 (i j : Int) : bi .min2 [.int i, .int j] = some (.v (.int (if j < i then j else i))) := (rfl)
@[simp] theorem bi_max2 (i j : Int) : bi .max2 [.int i, .int j] = some (.v (.int (if j > i then j else i))) := (rfl)
@[simp] theorem bi_abs (i : Int) : bi .abs [.int i] = some (.v (.int (if i < 0 then -i else i))) := (rfl)
theorem bi_len_s {s : List Nat} (h : s.length ≤ SZ) : bi .len [.str s] = some (.v (.int s.length)) := by simp [bi, h]
/-! indices -/
theorem ixN_pos {n : Nat} {i : Int} (h : 0 ≤ i) (h2 : i < n) : ixN n i = some i.toNat := by simp [ixN, h, h2]
theorem ixN_neg {n : Nat} {i : Int} (h : i < 0) (h2 : -(n : Int) ≤ i) : ixN n i = some (i + n).toNat := by
  unfold ixN
  rw [if_neg (by omega), if_pos h2]
theorem atI_nat {α : Type} {xs : List α} {i : Nat} (h : i < xs.length) : atI xs (i : Int) = some xs[i] := by
  unfold atI
  rw [ixN_pos (by omega) (by omega)]
  simp [h]
theorem clip_nat (n d a : Nat) : clip n d (some (a : Int)) = min a n := by
  have e : clip n d (some (a : Int)) = if (a : Int) < 0 then ((a : Int) + (n : Int)).toNat else min (a : Int).toNat n := rfl
  rw [e, if_neg (by omega)]
  simp
theorem cut_pos {α : Type} {xs : List α} {a b : Nat} : cut xs (some (a : Int)) (some (b : Int)) = (xs.drop a).take (b - a) := by
  unfold cut
  rw [clip_nat, clip_nat]
  by_cases h : a ≤ xs.length
  · rw [Nat.min_eq_left h]
    by_cases h2 : b ≤ xs.length
    · rw [Nat.min_eq_left h2]
    · have e1 : (xs.drop a).take (b - a) = xs.drop a := List.take_of_length_le (by simp; omega)
      have e2 : (xs.drop a).take (xs.length - a) = xs.drop a := List.take_of_length_le (by simp)
      rw [Nat.min_eq_right (show xs.length ≤ b by omega), e1, e2]
  · rw [Nat.min_eq_right (show xs.length ≤ a by omega), List.drop_length, List.drop_eq_nil_of_le (show xs.length ≤ a by omega), List.take_nil, List.take_nil]
theorem cut_to {α : Type} {xs : List α} {b : Nat} : cut xs none (some (b : Int)) = xs.take b := by
  unfold cut
  rw [clip_nat]
  show (xs.drop 0).take (min b xs.length - 0) = _
  rw [List.drop_zero, Nat.sub_zero]
  by_cases h2 : b ≤ xs.length
  · rw [Nat.min_eq_left h2]
  · rw [Nat.min_eq_right (by omega), List.take_of_length_le (by simp), List.take_of_length_le (by omega)]
theorem cut_from {α : Type} {xs : List α} {a : Nat} : cut xs (some (a : Int)) none = xs.drop a := by
  unfold cut
  rw [clip_nat]
  show (xs.drop (min a xs.length)).take (xs.length - min a xs.length) = _
  rw [List.take_of_length_le (by simp)]
  by_cases h2 : a ≤ xs.length
  · rw [Nat.min_eq_left h2]
  · rw [Nat.min_eq_right (by omega), List.drop_eq_nil_of_le (by omega), List.drop_eq_nil_of_le (by omega)]
theorem slc_s {s : List Nat} {a b : Option Int} (h : s.length ≤ SZ) : slc (.str s) a b = some (.v (.str (cut s a b))) := by simp [slc, h]
@[simp] theorem slc_l (s : List PV) (a b : Option Int) : slc (.lst s) a b = some (.new (.lst (cut s a b))) := (rfl)
@[simp] theorem slc_t (s : List PV) (a b : Option Int) : slc (.tup s) a b = some (.v (.tup (cut s a b))) := (rfl)
@[simp] theorem atI_0 {α : Type} (x : α) (xs : List α) : atI (x :: xs) 0 = some x := atI_nat (xs := x :: xs) (i := 0) (by simp)
@[simp] theorem atI_1 {α : Type} (x y : α) (xs : List α) : atI (x :: y :: xs) 1 = some y := atI_nat (xs := x :: y :: xs) (i := 1) (by simp)
/-- a read of the store's first, second container -/
@[simp] theorem opt2_l0 (f : PV → PV → Option RV) (p q : PV) (μ : Sto) : opt2 f (.loc 0) (.v q) (p :: μ) = opt (f p q) (p :: μ) := (rfl)
@[simp] theorem opt2_l1 (f : PV → PV → Option RV) (p0 p q : PV) (μ : Sto) : opt2 f (.loc 1) (.v q) (p0 :: p :: μ) = opt (f p q) (p0 :: p :: μ) := (rfl)
@[simp] theorem setR_l0 (p : PV) (xs : List PV) (i : Int) (ls : Lcs) (μ : Sto) : setR (.loc 0) (.v (.int i)) (.v p) ls (.lst xs :: μ) = match ixN xs.length i with
    | some j => .ok (.nx, ls) (.lst (xs.set j p) :: μ)
    | none => .no := by
  cases h : ixN xs.length i <;> simp [setR, setP, h]
theorem meK_app {n : Nat} {xs : List PV} {μ : Sto} (h : μ[n]? = some (.lst xs)) : meK .append (.loc n) μ = true := by
  simp [meK, h, Me.chg]
theorem meR_app {n : Nat} {xs : List PV} {q : PV} {μ : Sto} (h : μ[n]? = some (.lst xs)) (hl : xs.length < SZ) : meR .append (.loc n) [.v q] μ = .ok (.v .non) (μ.set n (.lst (xs ++ [q]))) := by
  simp [meR, h, me, hl, Me.chg]
/-! calls -/
def fin (n : Nat) : R (Out × Lcs) → R RV
  | .ok (.ret r, _) μ1 => leave n r μ1
  | .ok (.nx, _) μ1 => .ok (.v .non) (μ1.take n)
  | .ok _ _ => .no
  | .ex x μ1 => .ex x (μ1.take n)
  | .no => .no
@[simp] theorem fin_ret (n : Nat) (r : RV) (ls : Lcs) (μ : Sto) : fin n (.ok (.ret r, ls) μ) = leave n r μ := (rfl)
@[simp] theorem fin_nx (n : Nat) (ls : Lcs) (μ : Sto) : fin n (.ok (.nx, ls) μ) = .ok (.v .non) (μ.take n) := (rfl)
@[simp] theorem leave_v (n : Nat) (p : PV) (μ : Sto) : leave n (.v p) μ = .ok (.v p) (μ.take n) := (rfl)
@[simp] theorem leave_n (n : Nat) (p : PV) (μ : Sto) : leave n (.new p) μ = .ok (.new p) (μ.take n) := (rfl)
theorem run_succ {T : Nat → Option Fn} {con : Nat → PV} {fu k f : Nat} {F : Fn} {rs : List RV} {μ : Sto} (h : T f = some F) (hl : rs.length = F.ps) :
    run T con fu (k + 1) f rs μ = fin μ.length (ex ⟨run T con fu k, con, fu⟩ F.body (rs.map argL ++ List.replicate (F.ns - F.ps) none) μ) := by
  simp only [run, h, hl, if_true]
  unfold fin
  split <;> simp_all
theorem run_nrm {T : Nat → Option Fn} {con : Nat → PV} {fu f : Nat} {rs rs' : List RV} {μ : Sto} (h : rs.map argL = rs'.map argL) : ∀ k, run T con fu k f rs μ = run T con fu k f rs' μ
  | 0 => rfl
  | k + 1 => by
    have hl : rs.length = rs'.length := by simpa using congrArg List.length h
    simp only [run, h, hl]
section
variable {T : Nat → Option Fn} {con : Nat → PV} {fu k f : Nat} {μ : Sto}
@[simp] theorem run_n1 (p : PV) (rs : List RV) : run T con fu k f (.new p :: rs) μ = run T con fu k f (.v p :: rs) μ := run_nrm (by simp) k
@[simp] theorem run_n2 (a : RV) (p : PV) (rs : List RV) : run T con fu k f (a :: .new p :: rs) μ = run T con fu k f (a :: .v p :: rs) μ := run_nrm (by simp) k
@[simp] theorem run_n3 (a b : RV) (p : PV) (rs : List RV) : run T con fu k f (a :: b :: .new p :: rs) μ = run T con fu k f (a :: b :: .v p :: rs) μ := run_nrm (by simp) k
@[simp] theorem run_n4 (a b c : RV) (p : PV) (rs : List RV) : run T con fu k f (a :: b :: c :: .new p :: rs) μ = run T con fu k f (a :: b :: c :: .v p :: rs) μ := run_nrm (by simp) k
end
/-! loops -/
theorem loopL_ok {body : PV → Lcs → Sto → R (Out × Lcs)} (I : Nat → Lcs → Sto → Prop) : ∀ (xs : List PV) (i0 : Nat) (ls : Lcs) (μ : Sto), I i0 ls μ →
    (∀ i x ls μ, xs[i]? = some x → I (i0 + i) ls μ → ∃ ls' μ', body x ls μ = .ok (.nx, ls') μ' ∧ I (i0 + i + 1) ls' μ') → ∃ ls' μ', loopL body xs ls μ = .ok (.nx, ls') μ' ∧ I (i0 + xs.length) ls' μ'
  | [], i0, ls, μ, h0, _ => ⟨ls, μ, rfl, h0⟩
  | x :: xs, i0, ls, μ, h0, st => by
    obtain ⟨ls1, μ1, e1, h1⟩ := st 0 x ls μ rfl h0
    obtain ⟨ls2, μ2, e2, h2⟩ := loopL_ok I xs (i0 + 1) ls1 μ1 h1 fun i y ls μ hy hi => by
      obtain ⟨l, m, a, b⟩ := st (i + 1) y ls μ (by simpa using hy) (by rw [show i0 + (i + 1) = i0 + 1 + i by omega]; exact hi)
      exact ⟨l, m, a, by rw [show i0 + 1 + i + 1 = i0 + (i + 1) + 1 by omega]; exact b⟩
    refine ⟨ls2, μ2, ?_, by rw [List.length_cons, show i0 + (xs.length + 1) = i0 + 1 + xs.length by omega]; exact h2⟩
    simp only [loopL, e1, turn, R.bind_ok]
    exact e2
theorem lclL_map {body : PV → Sto → R (Option PV)} {μ : Sto} (f : PV → PV) : ∀ (xs acc : List PV), (∀ x ∈ xs, body x μ = .ok (some (f x)) μ) → acc.length + xs.length ≤ SZ → lclL body xs acc μ = .ok (acc ++ xs.map f) μ
  | [], acc, _, _ => by simp [lclL]
  | x :: xs, acc, h, hl => by
    simp only [List.length_cons] at hl
    have h1 : acc.length < SZ := by omega
    simp only [lclL, h x (List.mem_cons_self ..), R.bind_ok, snoc, h1, if_true]
    rw [lclL_map f xs (acc ++ [f x]) (fun y hy => h y (List.mem_cons_of_mem _ hy)) (by simp; omega)]
    simp
theorem lclL_fil {body : PV → Sto → R (Option PV)} {μ : Sto} (f : PV → Option PV) : ∀ (xs acc : List PV), (∀ x ∈ xs, body x μ = .ok (f x) μ) → acc.length + xs.length ≤ SZ → lclL body xs acc μ = .ok (acc ++ xs.filterMap f) μ
  | [], acc, _, _ => by simp [lclL]
  | x :: xs, acc, h, hl => by
    simp only [List.length_cons] at hl
    have h1 : acc.length < SZ := by omega
    simp only [lclL, h x (List.mem_cons_self ..), R.bind_ok]
    cases hf : f x with
    | none =>
      simp only [snoc]
      rw [lclL_fil f xs acc (fun y hy => h y (List.mem_cons_of_mem _ hy)) (by omega)]
      simp [hf]
    | some y =>
      simp only [snoc, h1, if_true]
      rw [lclL_fil f xs (acc ++ [y]) (fun y hy => h y (List.mem_cons_of_mem _ hy)) (by simp; omega)]
      simp [hf]
theorem lcl_v {p : PV} {xs ys : List PV} {body : PV → Sto → R (Option PV)} {μ μ' : Sto} (h : items p = some xs) (h2 : lclL body xs [] μ = .ok ys μ') : lcl (.v p) body μ = .ok (.new (.lst ys)) μ' := by
  simp [lcl, h, h2]
theorem loop_v {p : PV} {xs : List PV} {body : PV → Lcs → Sto → R (Out × Lcs)} {ls : Lcs} {μ : Sto} (h : items p = some xs) : loop (.v p) body ls μ = loopL body xs ls μ := by
  simp [loop, h]
@[simp] theorem items_l (xs : List PV) : items (.lst xs) = some xs := (rfl)
@[simp] theorem items_t (xs : List PV) : items (.tup xs) = some xs := (rfl)
@[simp] theorem items_s (s : List Nat) : items (.str s) = some (s.map fun c => .str [c]) := (rfl)
theorem blsO_map {α : Type} (f : α → Bool) : ∀ xs : List α, blsO (xs.map fun x => .bl (f x)) = some (xs.map f)
  | [] => rfl
  | x :: xs => by simp [blsO, blsO_map f xs]
theorem intsO_map {α : Type} (f : α → Int) : ∀ xs : List α, intsO (xs.map fun x => .int (f x)) = some (xs.map f)
  | [] => rfl
  | x :: xs => by simp [intsO, intsO_map f xs]
theorem strsO_map {α : Type} (f : α → List Nat) : ∀ xs : List α, strsO (xs.map fun x => .str (f x)) = some (xs.map f)
  | [] => rfl
  | x :: xs => by simp [strsO, strsO_map f xs]
theorem lcl_map {p : PV} {xs : List PV} {body : PV → Sto → R (Option PV)} {μ : Sto} (hi : items p = some xs) (f : PV → PV) (h : ∀ x ∈ xs, body x μ = .ok (some (f x)) μ) (hl : xs.length ≤ SZ) : lcl (.v p) body μ = .ok (.new (.lst (xs.map f))) μ :=
  lcl_v hi (by simpa using lclL_map f xs [] h (by simpa using hl))
theorem lcl_fil {p : PV} {xs : List PV} {body : PV → Sto → R (Option PV)} {μ : Sto} (hi : items p = some xs) (f : PV → Option PV) (h : ∀ x ∈ xs, body x μ = .ok (f x) μ) (hl : xs.length ≤ SZ) : lcl (.v p) body μ = .ok (.new (.lst (xs.filterMap f))) μ :=
  lcl_v hi (by simpa using lclL_fil f xs [] h (by simpa using hl))
/-- over things told by a list of another kind -/
theorem lcl_of {α : Type} {p : PV} {xs : List α} {g : α → PV} {body : PV → Sto → R (Option PV)} {μ : Sto} (hi : items p = some (xs.map g)) (f : α → PV) (h : ∀ x ∈ xs, body (g x) μ = .ok (some (f x)) μ) (hl : xs.length ≤ SZ) : lcl (.v p) body μ = .ok (.new (.lst (xs.map f))) μ := by
  refine lcl_v hi ?_
  have : ∀ (xs : List α) (acc : List PV), (∀ x ∈ xs, body (g x) μ = .ok (some (f x)) μ) → acc.length + xs.length ≤ SZ → lclL body (xs.map g) acc μ = .ok (acc ++ xs.map f) μ := by
    intro xs
    induction xs with
    | nil => intro acc _ _; simp [lclL]
    | cons x xs ih =>
      intro acc h hl
      simp only [List.length_cons] at hl
      have h1 : acc.length < SZ := by omega
      simp only [List.map_cons, lclL, h x (List.mem_cons_self ..), R.bind_ok, snoc, h1, if_true]
      rw [ih (acc ++ [f x]) (fun y hy => h y (List.mem_cons_of_mem _ hy)) (by simp; omega)]
      simp
  simpa using this xs [] h (by simpa using hl)
/-- a walk whose names hold what a function of the items done tells -/
theorem loopL_fn {α β : Type} {body : PV → Lcs → Sto → R (Out × Lcs)} {g : α → PV} (st : β → Lcs) (stp : β → α → β) {μ : Sto} (P : β → List α → Prop) (h : ∀ b x r, P b (x :: r) → body (g x) (st b) μ = .ok (.nx, st (stp b x)) μ ∧ P (stp b x) r) :
    ∀ (xs : List α) (b : β), P b xs → loopL body (xs.map g) (st b) μ = .ok (.nx, st (xs.foldl stp b)) μ
  | [], b, _ => rfl
  | x :: xs, b, hp => by
    obtain ⟨e1, e2⟩ := h b x xs hp
    simp only [List.map_cons, loopL, e1, turn, R.bind_ok, List.foldl_cons]
    exact loopL_fn st stp P h xs (stp b x) e2
theorem whl_t {c : Lcs → Sto → R Bool} {body : Lcs → Sto → R (Out × Lcs)} {n : Nat} {ls ls' : Lcs} {μ μ1 μ2 : Sto} (hc : c ls μ = .ok true μ1) (hb : body ls μ1 = .ok (.nx, ls') μ2) : whl c body (n + 1) ls μ = whl c body n ls' μ2 := by
  rw [whl, hc, R.bind_ok, if_pos rfl, hb]
  rfl
theorem whl_f {c : Lcs → Sto → R Bool} {body : Lcs → Sto → R (Out × Lcs)} {n : Nat} {ls : Lcs} {μ μ1 : Sto} (hc : c ls μ = .ok false μ1) : whl c body (n + 1) ls μ = .ok (.nx, ls) μ1 := by
  rw [whl, hc, R.bind_ok, if_neg Bool.false_ne_true]
theorem rng_items (i j : Int) : items (rng i j) = some ((List.range (j - i).toNat).map fun k : Nat => .int (i + (k : Int))) := rfl
theorem rng3_items (i j c : Int) : items (rng3 i j c) = some ((List.range (rngN i j c)).map fun k : Nat => .int (i + (k : Int) * c)) := rfl
theorem r62_nat {m : Nat} (h : m ≤ SZ) : r62 0 = true ∧ r62 (m : Int) = true := by
  unfold SZ at h
  refine ⟨by decide, ?_⟩
  unfold r62
  simp only [Bool.and_eq_true, decide_eq_true_eq]
  omega
theorem rngR_ok {i j : Int} {μ : Sto} (h1 : r62 i = true) (h2 : r62 j = true) : rngR (.v (.int i)) (.v (.int j)) μ = .ok (.v (rng i j)) μ := by simp [rngR, h1, h2]
end Z

set_option maxHeartbeats 4000000
/-! the random helpers of the laws, whatever their constants. -/
namespace ZL
open Z
def Octs (xs : List Int) : Prop := ∀ x ∈ xs, 0 ≤ x ∧ x ≤ 255
def cupV (a b : Int) : PV := .lst [.int a, .int b]
structure Good (a b : Int) : Prop where
  a0 : 0 ≤ a
  b0 : 0 ≤ b
  b1 : b < 2147483648
/-- the cup at the store's head -/
def Cup (μ rest : Sto) : Prop := ∃ a b, Good a b ∧ μ = cupV a b :: rest
def CupF (p q r s t : Int) : Fn := ⟨1, 2, (.seq (.asg 1 (.bi .abs (.cons (.idx (.bin .add (.bi .list (.cons (.var 0) .nil)) (.lst (.cons (.int 0) .nil))) (.int 0)) .nil))) (.seq (.ret (.lst (.cons (.ite (.cmp .ge (.var 1) (.bin .pow (.int 10) (.int 18))) (.bin .fdiv (.var 1) (.int p)) (.int 0)) (.cons (.bin .add (.bin .mod (.bi .int (.cons (.bin .add (.bin .mul (.var 1) (.int q)) (.int r)) .nil)) (.int s)) (.int t)) .nil)))) .skip))⟩
def RollF (a b c d : Int) : Fn := ⟨2, 4, (.seq (.ife (.cmp .gt (.idx (.var 0) (.int 0)) (.int 0)) (.seq (.asg 3 (.bin .mod (.bi .int (.cons (.idx (.var 0) (.int 0)) .nil)) (.var 1))) (.seq (.setI (.var 0) (.int 0) (.bin .fdiv (.idx (.var 0) (.int 0)) (.var 1))) (.seq (.ret (.var 3)) .skip))) .skip) (.seq (.setI (.var 0) (.int 1) (.bin .mod (.bi .int (.cons (.bin .add (.bin .mul (.idx (.var 0) (.int 1)) (.int a)) (.int b)) .nil)) (.int 2147483399))) (.seq (.asg 2 (.bin .mod (.bi .int (.cons (.bin .mul (.idx (.var 0) (.int 1)) (.bin .add (.idx (.var 0) (.int 1)) (.int c))) .nil)) (.int 2147483563))) (.seq (.ret (.bin .mod (.bi .int (.cons (.bin .fdiv (.var 2) (.int d)) .nil)) (.var 1))) .skip))))⟩
def SomeF (r : Nat) : Fn := ⟨2, 2, (.seq (.ret (.idx (.var 1) (.call r (.cons (.var 0) (.cons (.bi .len (.cons (.var 1) .nil)) .nil))))) .skip)⟩
def OctL (r : Nat) : S := (.seq (.asg 5 (.bin .add (.int 1) (.call r (.cons (.var 0) (.cons (.int 12) .nil))))) (.seq (.expr (.me .append (.var 4) (.cons (.ite (.and (.cmp .le (.var 5) (.bi .len (.cons (.var 4) .nil))) (.cmp .gt (.call r (.cons (.var 0) (.cons (.int 3) .nil))) (.int 0))) (.idx (.var 4) (.neg (.var 5))) (.call r (.cons (.var 0) (.cons (.var 3) .nil)))) .nil))) .skip))
def OctF (s r : Nat) : Fn := ⟨2, 6, (.seq (.par [(3, false), (4, true)] (.cons (.call s (.cons (.var 0) (.cons (.lst (.cons (.int 2) (.cons (.int 4) (.cons (.int 256) .nil)))) .nil))) (.cons (.lst .nil) .nil))) (.seq (.for (.nm 2) (.rng (.int 0) (.call r (.cons (.var 0) (.cons (.bin .add (.var 1) (.int 1)) .nil)))) (OctL r)) (.seq (.ret (.bi .tuple (.cons (.var 4) .nil))) .skip)))⟩
/-- a law's roll -/
structure HRoll (T : Nat → Option Fn) (r : Nat) : Prop where
  ex : ∃ a b c d : Int, T r = some (RollF a b c d) ∧ sml a = true ∧ 0 ≤ c ∧ c < 4611686018427387904 ∧ 0 < d ∧ d < 1073741824
section
variable {T : Nat → Option Fn} {con : Nat → PV} {fu k r s : Nat}
theorem roll_ok (hR : HRoll T r) {μ rest : Sto} {m : Int} (c : Cup μ rest) (h0 : 0 < m) (h1 : m < 18446744073709551616) (hk : 1 ≤ k) :
    ∃ x μ', run T con fu k r [.loc 0, .v (.int m)] μ = .ok (.v (.int x)) μ' ∧ 0 ≤ x ∧ x < m ∧ Cup μ' rest := by
  obtain ⟨k, rfl⟩ := Nat.exists_eq_add_of_le' hk
  obtain ⟨a, b, g, rfl⟩ := c
  obtain ⟨ra, rb, rc, rd, hF, q1, q2, q3, q4, q5⟩ := hR.ex
  rw [run_succ hF rfl]
  by_cases ha : 0 < a
  · refine ⟨a % m, cupV (a / m) b :: rest, ?_, Int.emod_nonneg _ (by omega), Int.emod_lt_of_pos _ h0, a / m, b, ⟨Int.ediv_nonneg g.a0 (by omega), g.b0, g.b1⟩, rfl⟩
    simp [RollF, cupV, bi, bin_modI h0, bin_fdivW h0 h1, ixN, ha]
  · have e2 : bin .mul (.int b) (.int ra) = some (.v (.int (b * ra))) := bin_mulI (by simp [q1])
    obtain ⟨b', hb⟩ : ∃ b', b' = (b * ra + rb) % 2147483399 := ⟨_, rfl⟩
    have hb0 : 0 ≤ b' := by omega
    have hb1 : b' < 2147483399 := by omega
    have e3 : bin .mul (.int b') (.int (b' + rc)) = some (.v (.int (b' * (b' + rc)))) := bin_mulI (by simp [sml]; omega)
    have hd : bin .fdiv (.int (b' * (b' + rc) % 2147483563)) (.int rd) = some (.v (.int (b' * (b' + rc) % 2147483563 / rd))) := bin_fdivI q4 q5
    refine ⟨b' * (b' + rc) % 2147483563 / rd % m, cupV a b' :: rest, ?_, Int.emod_nonneg _ (by omega), Int.emod_lt_of_pos _ h0, a, b', ⟨g.a0, hb0, by omega⟩, rfl⟩
    simp [RollF, cupV, bi, bin_modI, h0, hd, e2, ixN, ha, ← hb, e3]
theorem rollN (hR : HRoll T r) {μ rest : Sto} {m : Int} (c : Cup μ rest) (h0 : 0 < m) (h1 : m < 18446744073709551616) (hk : 1 ≤ k) :
    ∃ (x : Nat) (μ' : Sto), run T con fu k r [.loc 0, .v (.int m)] μ = .ok (.v (.int x)) μ' ∧ (x : Int) < m ∧ Cup μ' rest := by
  obtain ⟨x, μ', e, r0, r1, c'⟩ := roll_ok (con := con) (fu := fu) hR c h0 h1 hk
  obtain ⟨n, rfl⟩ := Int.eq_ofNat_of_zero_le r0
  exact ⟨n, μ', e, r1, c'⟩
theorem Cup.len {μ μ' rest : Sto} (c : Cup μ rest) (c' : Cup μ' rest) : μ.length = μ'.length := by
  obtain ⟨_, _, _, rfl⟩ := c
  obtain ⟨_, _, _, rfl⟩ := c'
  simp
theorem some_ok (hS : T s = some (SomeF r)) (hR : HRoll T r) {μ rest : Sto} {xs : List PV} (c : Cup μ rest) (h0 : 0 < xs.length) (h1 : xs.length < 1073741824) (hk : 2 ≤ k) :
    ∃ x μ', run T con fu k s [.loc 0, .v (.lst xs)] μ = .ok (.v x) μ' ∧ x ∈ xs ∧ Cup μ' rest := by
  obtain ⟨k, rfl⟩ := Nat.exists_eq_add_of_le' hk
  obtain ⟨x, μ', e, r1, c'⟩ := rollN (con := con) (fu := fu) (k := k + 1) (m := xs.length) hR c (by omega) (by omega) (by omega)
  rw [run_succ hS rfl]
  have hn : x < xs.length := by omega
  refine ⟨xs[x], μ', ?_, List.getElem_mem _, c'⟩
  simp [SomeF, bi, e, atI_nat hn, c.len c']
/-- one octet more -/
theorem octet_turn (hR : HRoll T r) {μ : Sto} {kinds : Int} {xs : List Int} {m st fr : Option RV} (h0 : 0 < kinds) (h1 : kinds ≤ 256) (ho : Octs xs) (hl : xs.length < 1000) (c : Cup μ [.lst (xs.map .int)]) (hk : 1 ≤ k) :
    ∃ x μ' fr', ex ⟨run T con fu k, con, fu⟩ (OctL r) [some (.loc 0), m, st, some (.v (.int kinds)), some (.loc 1), fr] μ = .ok (.nx, [some (.loc 0), m, st, some (.v (.int kinds)), some (.loc 1), fr']) μ' ∧ 0 ≤ x ∧ x ≤ 255 ∧ Cup μ' [.lst ((xs ++ [x]).map .int)] := by
  obtain ⟨far, μ1, e1, f1, c1⟩ := rollN (con := con) (fu := fu) (k := k) (m := 12) hR c (by omega) (by omega) hk
  have app : ∀ {μ : Sto} {x : Int}, Cup μ [.lst (xs.map .int)] → 0 ≤ x → x ≤ 255 → meR .append (.loc 1) [.v (.int x)] μ = .ok (.v .non) (μ.set 1 (.lst ((xs.map .int) ++ [.int x]))) ∧ Cup (μ.set 1 (.lst ((xs.map .int) ++ [.int x]))) [.lst ((xs ++ [x]).map .int)] := fun {μ x} c _ _ => by
    obtain ⟨a, b, g, rfl⟩ := c
    exact ⟨meR_app rfl (by simp; unfold SZ; omega), a, b, g, by simp⟩
  have len1 : ∀ {μ : Sto}, Cup μ [.lst (xs.map .int)] → biR .len [.loc 1] μ = .ok (.v (.int xs.length)) μ := fun {μ} c => by
    obtain ⟨a, b, g, rfl⟩ := c
    simp [biR, bi]
  have mk1 : meK .append (.loc 1) μ1 = true := by
    obtain ⟨a, b, g, rfl⟩ := c1
    exact meK_app rfl
  by_cases hf : (1 + (far : Int)) ≤ xs.length
  · obtain ⟨rr, μ2, e2, f2, c2⟩ := rollN (con := con) (fu := fu) (k := k) (m := 3) hR c1 (by omega) (by omega) hk
    by_cases hr : 0 < rr
    · have hi : xs.length - (far + 1) < xs.length := by omega
      have ea : atI (xs.map PV.int) (-(1 + (far : Int))) = some (.int xs[xs.length - (far + 1)]) := by
        unfold atI
        rw [ixN_neg (by omega) (by simp; omega)]
        simp only [Option.bind_some]
        have : (-(1 + (far : Int)) + ((xs.map PV.int).length : Int)).toNat = xs.length - (far + 1) := by simp; omega
        rw [this]
        simp [hi]
      have hx := ho _ (List.getElem_mem hi)
      obtain ⟨p1, p2⟩ := app c2 hx.1 hx.2
      refine ⟨xs[xs.length - (far + 1)], _, some (.v (.int (1 + (far : Int)))), ?_, hx.1, hx.2, p2⟩
      have eo : opt2 idxR (.loc 1) (.v (.int (-(1 + (far : Int))))) μ2 = .ok (.v (.int xs[xs.length - (far + 1)])) μ2 := by
        obtain ⟨a, b, g, rfl⟩ := c2
        simp [ea]
      simp [OctL, mk1, e1, len1 c1, hf, e2, hr, eo, p1]
    · obtain ⟨x, μ3, e3, f3, c3⟩ := rollN (con := con) (fu := fu) (k := k) (m := kinds) hR c2 h0 (by omega) hk
      obtain ⟨p1, p2⟩ := app (x := (x : Int)) c3 (by omega) (by omega)
      refine ⟨x, _, some (.v (.int (1 + (far : Int)))), ?_, by omega, by omega, p2⟩
      simp [OctL, mk1, e1, len1 c1, hf, e2, hr, e3, p1]
  · obtain ⟨x, μ3, e3, f3, c3⟩ := rollN (con := con) (fu := fu) (k := k) (m := kinds) hR c1 h0 (by omega) hk
    obtain ⟨p1, p2⟩ := app (x := (x : Int)) c3 (by omega) (by omega)
    refine ⟨x, _, some (.v (.int (1 + (far : Int)))), ?_, by omega, by omega, p2⟩
    simp [OctL, mk1, e1, len1 c1, hf, e3, p1]
theorem octets_loop (hR : HRoll T r) {kinds : Int} {m : Option RV} (h0 : 0 < kinds) (h1 : kinds ≤ 256) (hk : 1 ≤ k) : ∀ (is : List Nat) (g : Nat → PV) (xs : List Int) (st fr : Option RV) (μ : Sto), Octs xs → xs.length + is.length < 1000 → Cup μ [.lst (xs.map .int)] →
    ∃ ys μ' st' fr', loopL (fun x ls μ => ex ⟨run T con fu k, con, fu⟩ (OctL r) (ls.set 2 (some (.v x))) μ) (is.map g) [some (.loc 0), m, st, some (.v (.int kinds)), some (.loc 1), fr] μ = .ok (.nx, [some (.loc 0), m, st', some (.v (.int kinds)), some (.loc 1), fr']) μ' ∧
      Octs ys ∧ ys.length = xs.length + is.length ∧ Cup μ' [.lst (ys.map .int)]
  | [], g, xs, st, fr, μ, ho, hl, c => ⟨xs, μ, st, fr, rfl, ho, rfl, c⟩
  | i :: is, g, xs, st, fr, μ, ho, hl, c => by
    simp only [List.length_cons] at hl
    obtain ⟨x, μ1, fr1, e1, x0, x1, c1⟩ := octet_turn (con := con) (fu := fu) (k := k) (m := m) (st := some (.v (g i))) (fr := fr) hR h0 h1 ho (by omega) c hk
    obtain ⟨ys, μ2, st2, fr2, e2, ho2, hl2, c2⟩ := octets_loop (m := m) hR h0 h1 hk is g (xs ++ [x]) (some (.v (g i))) fr1 μ1 (fun y hy => by
      rcases List.mem_append.mp hy with h | h
      · exact ho y h
      · have : y = x := by simpa using h
        rw [this]; exact ⟨x0, x1⟩) (by simp; omega) c1
    refine ⟨ys, μ2, st2, fr2, ?_, ho2, by rw [hl2]; simp; omega, c2⟩
    simp only [List.map_cons, loopL, List.set_cons_succ, List.set_cons_zero, e1, turn, R.bind_ok]
    exact e2
theorem octets_ok {o : Nat} (hO : T o = some (OctF s r)) (hS : T s = some (SomeF r)) (hR : HRoll T r) {μ : Sto} {most : Nat} (hm : most < 900) (c : Cup μ []) (hk : 3 ≤ k) :
    ∃ xs μ', run T con fu k o [.loc 0, .v (.int most)] μ = .ok (.v (.tup (xs.map .int))) μ' ∧ Octs xs ∧ xs.length ≤ most ∧ Cup μ' [] := by
  obtain ⟨k, rfl⟩ := Nat.exists_eq_add_of_le' hk
  obtain ⟨x, μ1, e1, hx, c1⟩ := some_ok (con := con) (fu := fu) (k := k + 2) (xs := [.int 2, .int 4, .int 256]) hS hR c (by decide) (by decide) (by omega)
  obtain ⟨kinds, rfl, k0, k1⟩ : ∃ kinds, x = .int kinds ∧ 0 < kinds ∧ kinds ≤ 256 := by
    simp at hx
    rcases hx with rfl | rfl | rfl <;> exact ⟨_, rfl, by decide, by decide⟩
  have c1' : Cup (μ1 ++ [.lst []]) [.lst (([] : List Int).map .int)] := by
    obtain ⟨a, b, g, rfl⟩ := c1
    exact ⟨a, b, g, rfl⟩
  obtain ⟨rr, μ2, e2, r2, c2⟩ := rollN (con := con) (fu := fu) (k := k + 2) (m := (most : Int) + 1) hR c1' (by omega) (by omega) (by omega)
  obtain ⟨ys, μ3, st3, fr3, e3, ho3, hl3, c3⟩ := octets_loop (con := con) (fu := fu) (k := k + 2) (m := some (.v (.int most))) hR k0 k1 (by omega) (List.range rr) (fun j : Nat => .int (0 + (j : Int))) [] none none μ2 (fun y hy => by cases hy) (by simp; omega) c2
  rw [run_succ hO rfl]
  have hr : rr ≤ SZ := by unfold SZ; omega
  have h62 := r62_nat hr
  have l1 : μ1.length = 1 := by obtain ⟨_, _, _, rfl⟩ := c1; rfl
  have l0 : μ.length = 1 := by obtain ⟨_, _, _, rfl⟩ := c; rfl
  refine ⟨ys, μ3.take 1, ?_, ho3, by rw [hl3]; simp; omega, ?_⟩
  · simp at e3
    simp [OctF, lstR_kps, e1, l1, e2, rngR_ok h62.1 h62.2, loop_v (rng_items _ _)]
    rw [e3]
    obtain ⟨a, b, g, rfl⟩ := c3
    simp [biR, bi, l0]
  · obtain ⟨a, b, g, rfl⟩ := c3
    exact ⟨a, b, g, rfl⟩
theorem cup_ok {f : Nat} {p q r s t : Int} (hF : T f = some (CupF p q r s t)) (h1 : 0 < p) (h2 : p < 1073741824) (h3 : sml q = true) (h4 : 0 < s) (h5 : 0 ≤ t) (h6 : s + t ≤ 2147483648) {xs : List Int} (hl : xs.length ≤ 63) (hk : 1 ≤ k) : ∃ a b, run T con fu k f [.v (.frz (xs.map .int))] [] = .ok (.new (cupV a b)) [] ∧ Good a b := by
  obtain ⟨k, rfl⟩ := Nat.exists_eq_add_of_le' hk
  rw [run_succ hF rfl]
  have hz : xs.length + 1 ≤ SZ := by unfold SZ; omega
  obtain ⟨c, hc⟩ : ∃ c : Int, atI (xs.map PV.int ++ [.int 0]) 0 = some (.int c) := by
    cases xs with
    | nil => exact ⟨0, by simp⟩
    | cons x xs => exact ⟨x, by simp⟩
  obtain ⟨d, hd, h0⟩ : ∃ d : Int, (if c < 0 then -c else c) = d ∧ 0 ≤ d := ⟨_, rfl, by split <;> omega⟩
  have e1 : bin .mul (.int d) (.int q) = some (.v (.int (d * q))) := bin_mulI (by simp [h3])
  have e2 : bin .pow (.int 10) (.int 18) = some (.v (.int 1000000000000000000)) := by simp [bin]
  have m1 := Int.emod_nonneg (d * q + r) (show s ≠ 0 by omega)
  have m2 := Int.emod_lt_of_pos (d * q + r) h4
  by_cases h : (1000000000000000000 : Int) ≤ d
  · refine ⟨d / p, (d * q + r) % s + t, ?_, Int.ediv_nonneg h0 (by omega), by omega, by omega⟩
    simp [CupF, bi, lstR_kps, bin_addL, hz, hc, hd, e1, e2, bin_modI h4, bin_fdivI h1 h2, h, cupV]
  · refine ⟨0, (d * q + r) % s + t, ?_, by omega, by omega, by omega⟩
    simp [CupF, bi, lstR_kps, bin_addL, hz, hc, hd, e1, e2, bin_modI h4, bin_fdivI h1 h2, h, cupV]
end
end ZL

/-! defs of the program as Z has them: printed by zgen.py -/
namespace ZL
open Z
def F_is_tuple_of : Fn := ⟨3, 3, (.seq (.ret (.and (.bi (.isi .tup) (.cons (.var 0) .nil)) (.chn .le .le (.var 1) (.bi .len (.cons (.var 0) .nil)) (.var 2)))) .skip)⟩
def F_is_whole : Fn := ⟨3, 3, (.seq (.ret (.and (.bi (.isi .int) (.cons (.var 0) .nil)) (.and (.not (.bi (.isi .bool) (.cons (.var 0) .nil))) (.chn .le .le (.var 1) (.var 0) (.var 2))))) .skip)⟩
def F_fits_octets : Fn := ⟨1, 2, (.seq (.ret (.and (.call 12 (.cons (.var 0) (.cons (.int 0) (.cons (.con 1) .nil)))) (.bi .all (.cons (.lc (.call 6 (.cons (.var 1) (.cons (.int 0) (.cons (.int 255) .nil)))) (.nm 1) (.var 0) .nil) .nil)))) .skip)⟩
def F_need_octets : Fn := ⟨1, 1, (.seq (.ife (.not (.call 13 (.cons (.var 0) .nil))) (.seq (.raise 0 .nil) .skip) .skip) .skip)⟩
def L_bits_for_0 : S := (.seq (.par [(2, false), (0, false)] (.cons (.bin .add (.var 2) (.ite (.cmp .eq (.bin .mod (.var 0) (.int 2)) (.int 1)) (.str [49]) (.str [48]))) (.cons (.bin .fdiv (.var 0) (.int 2)) .nil))) .skip)
def F_bits_for : Fn := ⟨2, 4, (.seq (.asg 2 (.str [])) (.seq (.for (.nm 3) (.rng (.int 0) (.var 1)) L_bits_for_0) (.seq (.ret (.var 2)) .skip)))⟩
def F_spread : Fn := ⟨1, 2, (.seq (.ret (.me .join (.str []) (.cons (.lc (.call 5 (.cons (.var 1) (.cons (.int 8) .nil))) (.nm 1) (.var 0) .nil) .nil))) .skip)⟩
def F_bits_of : Fn := ⟨1, 1, (.seq (.expr (.call 19 (.cons (.var 0) .nil))) (.seq (.ret (.call 20 (.cons (.var 0) .nil))) .skip))⟩
def F_fits_bits : Fn := ⟨1, 2, (.seq (.ret (.and (.bi (.isi .str) (.cons (.var 0) .nil)) (.and (.cmp .le (.bi .len (.cons (.var 0) .nil)) (.con 0)) (.bi .all (.cons (.lc (.cmp .isin (.var 1) (.str [48, 49])) (.nm 1) (.var 0) .nil) .nil))))) .skip)⟩
def F_need_bits : Fn := ⟨1, 1, (.seq (.ife (.not (.call 10 (.cons (.var 0) .nil))) (.seq (.raise 0 .nil) .skip) .skip) .skip)⟩
def L_number_of_0 : S := (.seq (.par [(2, false), (3, false)] (.cons (.bin .add (.var 2) (.ite (.cmp .eq (.var 1) (.str [49])) (.var 3) (.int 0))) (.cons (.bin .mul (.int 2) (.var 3)) .nil))) .skip)
def F_number_of : Fn := ⟨1, 4, (.seq (.tgt (.cons (.nm 2) (.cons (.nm 3) .nil)) (.tup (.cons (.int 0) (.cons (.int 1) .nil)))) (.seq (.for (.nm 1) (.var 0) L_number_of_0) (.seq (.ret (.var 2)) .skip)))⟩
def F_gathered : Fn := ⟨1, 2, (.seq (.ret (.bi .tuple (.cons (.lc (.call 16 (.cons (.slc (.var 0) (.cons (.var 1) .nil) (.cons (.bin .add (.var 1) (.int 8)) .nil)) .nil)) (.nm 1) (.rng3 (.int 0) (.bi .len (.cons (.var 0) .nil)) (.int 8)) .nil) .nil))) .skip)⟩
def F_octets_of : Fn := ⟨1, 1, (.seq (.expr (.call 15 (.cons (.var 0) .nil))) (.seq (.ret (.call 22 (.cons (.var 0) .nil))) .skip))⟩
def F_are_bits : Fn := ⟨1, 1, (.seq (.ret (.call 10 (.cons (.var 0) .nil))) .skip)⟩
def F_are_octets : Fn := ⟨1, 1, (.seq (.ret (.call 13 (.cons (.var 0) .nil))) .skip)⟩
def F_number_at : Fn := ⟨3, 3, (.seq (.expr (.call 15 (.cons (.var 0) .nil))) (.seq (.ife (.or (.not (.call 6 (.cons (.var 1) (.cons (.int 0) (.cons (.bi .len (.cons (.var 0) .nil)) .nil))))) (.not (.call 6 (.cons (.var 2) (.cons (.int 0) (.cons (.bin .sub (.bi .len (.cons (.var 0) .nil)) (.var 1)) .nil)))))) (.seq (.raise 0 .nil) .skip) .skip) (.seq (.ret (.call 16 (.cons (.slc (.var 0) (.cons (.var 1) .nil) (.cons (.bin .add (.var 1) (.var 2)) .nil)) .nil))) .skip)))⟩
def L_power_0 : S := (.seq (.asg 1 (.bin .mul (.int 2) (.var 1))) .skip)
def F_power : Fn := ⟨1, 3, (.seq (.asg 1 (.int 1)) (.seq (.for (.nm 2) (.rng (.int 0) (.var 0)) L_power_0) (.seq (.ret (.var 1)) .skip)))⟩
def F_with_number : Fn := ⟨2, 2, (.seq (.ife (.or (.not (.call 6 (.cons (.var 1) (.cons (.int 0) (.cons (.int 64) .nil))))) (.not (.call 6 (.cons (.var 0) (.cons (.int 0) (.cons (.bin .sub (.call 7 (.cons (.bi .min2 (.cons (.var 1) (.cons (.int 64) .nil))) .nil)) (.int 1)) .nil)))))) (.seq (.raise 0 .nil) .skip) .skip) (.seq (.ret (.call 5 (.cons (.var 0) (.cons (.var 1) .nil)))) .skip))⟩
def F__law_same : Fn := ⟨2, 3, (.seq (.ife (.bi (.isi .tup) (.cons (.var 1) .nil)) (.seq (.ife (.or (.not (.bi (.isi .tup) (.cons (.var 0) .nil))) (.cmp .ne (.bi .len (.cons (.var 0) .nil)) (.bi .len (.cons (.var 1) .nil)))) (.seq (.ret (.bl false)) .skip) .skip) (.seq (.ret (.bi .all (.cons (.lc (.call 9 (.cons (.idx (.var 0) (.var 2)) (.cons (.idx (.var 1) (.var 2)) .nil))) (.nm 2) (.rng (.int 0) (.bi .len (.cons (.var 1) .nil))) .nil) .nil))) .skip)) .skip) (.seq (.ife (.cmp .is (.var 1) .non) (.seq (.ret (.cmp .is (.var 0) .non)) .skip) .skip) (.seq (.ife (.bi (.isi .bool) (.cons (.var 1) .nil)) (.seq (.ret (.ite (.var 1) (.cmp .is (.var 0) (.bl true)) (.cmp .is (.var 0) (.bl false)))) .skip) .skip) (.seq (.ife (.bi (.isi .int) (.cons (.var 1) .nil)) (.seq (.ret (.and (.bi (.isi .int) (.cons (.var 0) .nil)) (.and (.not (.bi (.isi .bool) (.cons (.var 0) .nil))) (.cmp .eq (.bi .int (.cons (.var 0) .nil)) (.var 1))))) .skip) .skip) (.seq (.ret (.and (.bi (.isi .str) (.cons (.var 0) .nil)) (.cmp .eq (.bi .str (.cons (.var 0) .nil)) (.var 1)))) .skip)))))⟩
structure HBits (T : Nat → Option Fn) (con : Nat → PV) : Prop where
  is_tuple_of : T 12 = some F_is_tuple_of
  is_whole : T 6 = some F_is_whole
  fits_octets : T 13 = some F_fits_octets
  need_octets : T 19 = some F_need_octets
  bits_for : T 5 = some F_bits_for
  spread : T 20 = some F_spread
  bits_of : T 21 = some F_bits_of
  fits_bits : T 10 = some F_fits_bits
  need_bits : T 15 = some F_need_bits
  number_of : T 16 = some F_number_of
  gathered : T 22 = some F_gathered
  octets_of : T 23 = some F_octets_of
  are_bits : T 11 = some F_are_bits
  are_octets : T 14 = some F_are_octets
  number_at : T 17 = some F_number_at
  power : T 7 = some F_power
  with_number : T 8 = some F_with_number
  _law_same : T 9 = some F__law_same
  c_OCTETS : con 1 = (.int 70000)
  c_BITS : con 0 = (.int 630000)
end ZL

set_option maxHeartbeats 4000000
/-! what is asked of octets: the defs that all parts share. -/
namespace ZL
open Z
structure HO (T : Nat → Option Fn) (con : Nat → PV) : Prop where
  is_tuple_of : T 12 = some F_is_tuple_of
  is_whole : T 6 = some F_is_whole
  fits_octets : T 13 = some F_fits_octets
  need_octets : T 19 = some F_need_octets
  c_OCTETS : con 1 = (.int 70000)
section
variable {T : Nat → Option Fn} {con : Nat → PV} {fu k : Nat} {μ : Sto} (hT : HO T con)
include hT
theorem wholeI_ok {i lo hi : Int} (h1 : lo ≤ i) (h2 : i ≤ hi) (hk : 1 ≤ k) : run T con fu k 6 [.v (.int i), .v (.int lo), .v (.int hi)] μ = .ok (.v (.bl true)) μ := by
  obtain ⟨k, rfl⟩ := Nat.exists_eq_add_of_le' hk
  rw [run_succ hT.is_whole rfl]
  simp [F_is_whole, bi, isi, h1, h2]
theorem needO_ok {xs : List Int} (h : Octs xs) (hl : xs.length ≤ 70000) (hk : 3 ≤ k) : run T con fu k 19 [.v (.tup (xs.map .int))] μ = .ok (.v .non) μ := by
  obtain ⟨k, rfl⟩ := Nat.exists_eq_add_of_le' hk
  have hz : xs.length ≤ SZ := by unfold SZ; omega
  have e1 : ∀ {k}, 1 ≤ k → run T con fu k 12 [.v (.tup (xs.map .int)), .v (.int 0), .v (.int 70000)] μ = .ok (.v (.bl true)) μ := fun {k} hk => by
    obtain ⟨k, rfl⟩ := Nat.exists_eq_add_of_le' hk
    rw [run_succ hT.is_tuple_of rfl]
    have : (xs.length : Int) ≤ 70000 := by omega
    simp [F_is_tuple_of, bi, isi, this]
  have e2 : run T con fu (k + 2) 13 [.v (.tup (xs.map .int))] μ = .ok (.v (.bl true)) μ := by
    rw [run_succ hT.fits_octets rfl]
    simp [F_fits_octets, e1 (k := k + 1) (by omega), hT.c_OCTETS]
    rw [lcl_of (g := PV.int) (xs := xs) rfl (fun _ => .bl true) (fun x hx => by simp [wholeI_ok hT (h x hx).1 (h x hx).2]) hz]
    simp [bi, blsO_map (fun _ : Int => true)]
  rw [run_succ hT.need_octets rfl]
  simp [F_need_octets, e2]
end
/-- octets as numbers -/
def nats (xs : List Int) : List Nat := xs.map Int.toNat
theorem octs_nats {xs : List Int} (h : Octs xs) : xs = (nats xs).map (fun n : Nat => (n : Int)) := by
  unfold nats
  rw [List.map_map]
  conv => lhs; rw [← List.map_id xs]
  refine List.map_congr_left fun x hx => ?_
  have := (h x hx).1
  simp only [id, Function.comp]
  omega
theorem nats_lt {xs : List Int} (h : Octs xs) : ∀ n ∈ nats xs, n < 256 := fun n hn => by
  obtain ⟨x, hx, rfl⟩ := List.mem_map.mp hn
  have := h x hx
  omega
theorem nats_append (a b : List Int) : nats (a ++ b) = nats a ++ nats b := List.map_append
theorem nats_length (a : List Int) : (nats a).length = a.length := List.length_map _
theorem Octs.app {a b : List Int} (h : Octs a) (h2 : Octs b) : Octs (a ++ b) := fun x hx => (List.mem_append.mp hx).elim (h x) (h2 x)
theorem Octs.take {a : List Int} (h : Octs a) (n : Nat) : Octs (a.take n) := fun x hx => h x (List.mem_of_mem_take hx)
theorem Octs.drop {a : List Int} (h : Octs a) (n : Nat) : Octs (a.drop n) := fun x hx => h x (List.mem_of_mem_drop hx)
end ZL

/-! defs of the program as Z has them: printed by zgen.py -/
namespace ZL
open Z
def F_both_of : Fn := ⟨1, 1, (.seq (.ret (.tup (.cons (.bin .mod (.var 0) (.con 47)) (.cons (.bin .fdiv (.var 0) (.con 47)) .nil)))) .skip)⟩
def F_check_of : Fn := ⟨2, 2, (.seq (.ret (.bin .add (.bin .mod (.var 0) (.con 46)) (.bin .mul (.bin .mod (.var 1) (.con 46)) (.con 47)))) .skip)⟩
def L_sums_in_v2_0 : S := (.seq (.asg 3 (.bin .mod (.bin .add (.var 3) (.var 2)) (.con 46))) (.seq (.asg 4 (.bin .mod (.bin .add (.var 4) (.var 3)) (.con 46))) .skip))
def F_sums_in_v2 : Fn := ⟨2, 5, (.seq (.tgt (.cons (.nm 3) (.cons (.nm 4) .nil)) (.call 296 (.cons (.var 0) .nil))) (.seq (.for (.nm 2) (.var 1) L_sums_in_v2_0) (.seq (.ret (.call 678 (.cons (.var 3) (.cons (.var 4) .nil)))) .skip)))⟩
def F_sum_check_v2 : Fn := ⟨1, 1, (.seq (.expr (.call 19 (.cons (.var 0) .nil))) (.seq (.ret (.call 679 (.cons (.int 1) (.cons (.var 0) .nil)))) .skip))⟩
def F_stepped : Fn := ⟨1, 1, (.seq (.ret (.bin .xor (.bin .fdiv (.var 0) (.int 2)) (.ite (.cmp .eq (.bin .mod (.var 0) (.int 2)) (.int 1)) (.con 54) (.int 0)))) .skip)⟩
def L_shifted_0 : S := (.seq (.asg 0 (.call 321 (.cons (.var 0) .nil))) .skip)
def F_shifted : Fn := ⟨2, 3, (.seq (.for (.nm 2) (.rng (.int 0) (.var 1)) L_shifted_0) (.seq (.ret (.var 0)) .skip))⟩
def L_ring_in_0 : S := (.seq (.asg 0 (.call 322 (.cons (.bin .xor (.var 0) (.var 2)) (.cons (.int 8) .nil)))) .skip)
def F_ring_in : Fn := ⟨2, 3, (.seq (.for (.nm 2) (.var 1) L_ring_in_0) (.seq (.ret (.var 0)) .skip))⟩
def F_ring_check_v5 : Fn := ⟨1, 1, (.seq (.expr (.call 19 (.cons (.var 0) .nil))) (.seq (.ret (.bin .xor (.call 323 (.cons (.con 139) (.cons (.var 0) .nil))) (.con 139))) .skip))⟩
def F_need_sum_v4 : Fn := ⟨1, 1, (.seq (.ife (.or (.not (.call 6 (.cons (.var 0) (.cons (.int 0) (.cons (.con 139) .nil))))) (.or (.cmp .ge (.bin .mod (.var 0) (.con 47)) (.con 46)) (.cmp .ge (.bin .fdiv (.var 0) (.con 47)) (.con 46)))) (.seq (.raise 0 .nil) .skip) .skip) .skip)⟩
def F_sum_on : Fn := ⟨2, 2, (.seq (.expr (.call 940 (.cons (.var 0) .nil))) (.seq (.expr (.call 19 (.cons (.var 1) .nil))) (.seq (.ret (.call 679 (.cons (.var 0) (.cons (.var 1) .nil)))) .skip)))⟩
def F_need_ring_v3 : Fn := ⟨1, 1, (.seq (.ife (.not (.call 6 (.cons (.var 0) (.cons (.int 0) (.cons (.con 139) .nil))))) (.seq (.raise 0 .nil) .skip) .skip) .skip)⟩
def F_ring_on : Fn := ⟨2, 2, (.seq (.expr (.call 943 (.cons (.var 0) .nil))) (.seq (.expr (.call 19 (.cons (.var 1) .nil))) (.seq (.ret (.bin .xor (.call 323 (.cons (.bin .xor (.var 0) (.con 139)) (.cons (.var 1) .nil))) (.con 139))) .skip)))⟩
def F_need_far : Fn := ⟨1, 1, (.seq (.ife (.not (.call 6 (.cons (.var 0) (.cons (.int 0) (.cons (.con 57) .nil))))) (.seq (.raise 0 .nil) .skip) .skip) .skip)⟩
def F_sum_joined_v2 : Fn := ⟨3, 7, (.seq (.expr (.call 940 (.cons (.var 0) .nil))) (.seq (.expr (.call 940 (.cons (.var 1) .nil))) (.seq (.expr (.call 329 (.cons (.var 2) .nil))) (.seq (.tgt (.cons (.cons (.nm 3) (.cons (.nm 4) .nil)) (.cons (.cons (.nm 5) (.cons (.nm 6) .nil)) .nil)) (.tup (.cons (.call 296 (.cons (.var 0) .nil)) (.cons (.call 296 (.cons (.var 1) .nil)) .nil)))) (.seq (.ret (.call 678 (.cons (.bin .sub (.bin .add (.var 3) (.var 5)) (.int 1)) (.cons (.bin .add (.bin .add (.var 4) (.var 6)) (.bin .mul (.var 2) (.bin .sub (.var 3) (.int 1)))) .nil)))) .skip)))))⟩
def L_times_0 : S := (.seq (.ife (.cmp .eq (.bin .mod (.bin .fdiv (.var 0) (.var 3)) (.int 2)) (.int 1)) (.seq (.asg 2 (.bin .xor (.var 2) (.var 1))) .skip) .skip) (.seq (.par [(1, false), (3, false)] (.cons (.call 321 (.cons (.var 1) .nil)) (.cons (.bin .fdiv (.var 3) (.int 2)) .nil))) .skip))
def F_times : Fn := ⟨2, 4, (.seq (.par [(2, false), (3, false)] (.cons (.int 0) (.cons (.bin .fdiv (.bin .mul (.con 47) (.con 47)) (.int 2)) .nil))) (.seq (.whl (.cmp .gt (.var 3) (.int 0)) L_times_0) (.seq (.ret (.var 2)) .skip)))⟩
def L_x_to_v4_0 : S := (.seq (.ife (.cmp .eq (.bin .mod (.var 0) (.int 2)) (.int 1)) (.seq (.asg 1 (.call 330 (.cons (.var 1) (.cons (.var 2) .nil)))) .skip) .skip) (.seq (.par [(2, false), (0, false)] (.cons (.call 330 (.cons (.var 2) (.cons (.var 2) .nil))) (.cons (.bin .fdiv (.var 0) (.int 2)) .nil))) .skip))
def F_x_to_v4 : Fn := ⟨1, 3, (.seq (.par [(1, false), (2, false)] (.cons (.bin .fdiv (.con 140) (.int 2)) (.cons (.bin .fdiv (.con 140) (.int 4)) .nil))) (.seq (.whl (.cmp .gt (.var 0) (.int 0)) L_x_to_v4_0) (.seq (.ret (.var 1)) .skip)))⟩
def F_ring_joined_v5 : Fn := ⟨3, 3, (.seq (.expr (.call 943 (.cons (.var 0) .nil))) (.seq (.expr (.call 943 (.cons (.var 1) .nil))) (.seq (.expr (.call 329 (.cons (.var 2) .nil))) (.seq (.ret (.bin .xor (.call 330 (.cons (.var 0) (.cons (.call 949 (.cons (.bin .mul (.int 8) (.var 2)) .nil)) .nil))) (.var 1))) .skip))))⟩
def F_octets_in_v2 : Fn := ⟨1, 2, (.seq (.ret (.bi .tuple (.cons (.lc (.bin .mod (.bin .fdiv (.var 0) (.call 7 (.cons (.bin .mul (.int 8) (.var 1)) .nil))) (.int 256)) (.nm 1) (.rng (.int 0) (.int 4)) .nil) .nil))) .skip)⟩
def F_sum_octets_v3 : Fn := ⟨1, 1, (.seq (.expr (.call 940 (.cons (.var 0) .nil))) (.seq (.ret (.rvs (.call 941 (.cons (.var 0) .nil)))) .skip))⟩
def F_ring_octets_v3 : Fn := ⟨1, 1, (.seq (.expr (.call 943 (.cons (.var 0) .nil))) (.seq (.ret (.call 941 (.cons (.var 0) .nil))) .skip))⟩
def F_need_four : Fn := ⟨1, 1, (.seq (.expr (.call 19 (.cons (.var 0) .nil))) (.seq (.ife (.cmp .ne (.bi .len (.cons (.var 0) .nil)) (.int 4)) (.seq (.raise 0 .nil) .skip) .skip) .skip))⟩
def L_number_in_0 : S := (.seq (.asg 1 (.bin .add (.bin .mul (.int 256) (.var 1)) (.var 2))) .skip)
def F_number_in : Fn := ⟨1, 3, (.seq (.asg 1 (.int 0)) (.seq (.for (.nm 2) (.rvs (.var 0)) L_number_in_0) (.seq (.ret (.var 1)) .skip)))⟩
def F_sum_told : Fn := ⟨1, 2, (.seq (.expr (.call 327 (.cons (.var 0) .nil))) (.seq (.asg 1 (.call 275 (.cons (.rvs (.var 0)) .nil))) (.seq (.ret (.ite (.and (.cmp .lt (.bin .mod (.var 1) (.con 47)) (.con 46)) (.cmp .lt (.bin .fdiv (.var 1) (.con 47)) (.con 46))) (.var 1) .non)) .skip)))⟩
def F_ring_told_v2 : Fn := ⟨1, 1, (.seq (.expr (.call 327 (.cons (.var 0) .nil))) (.seq (.ret (.call 275 (.cons (.var 0) .nil))) .skip))⟩
structure HChk (T : Nat → Option Fn) (con : Nat → PV) : Prop where
  both_of : T 296 = some F_both_of
  check_of : T 678 = some F_check_of
  sums_in_v2 : T 679 = some F_sums_in_v2
  sum_check_v2 : T 680 = some F_sum_check_v2
  stepped : T 321 = some F_stepped
  shifted : T 322 = some F_shifted
  ring_in : T 323 = some F_ring_in
  ring_check_v5 : T 945 = some F_ring_check_v5
  need_sum_v4 : T 940 = some F_need_sum_v4
  sum_on : T 946 = some F_sum_on
  need_ring_v3 : T 943 = some F_need_ring_v3
  ring_on : T 947 = some F_ring_on
  need_far : T 329 = some F_need_far
  sum_joined_v2 : T 948 = some F_sum_joined_v2
  times : T 330 = some F_times
  x_to_v4 : T 949 = some F_x_to_v4
  ring_joined_v5 : T 950 = some F_ring_joined_v5
  octets_in_v2 : T 941 = some F_octets_in_v2
  sum_octets_v3 : T 942 = some F_sum_octets_v3
  ring_octets_v3 : T 944 = some F_ring_octets_v3
  need_four : T 327 = some F_need_four
  number_in : T 275 = some F_number_in
  sum_told : T 938 = some F_sum_told
  ring_told_v2 : T 939 = some F_ring_told_v2
  c_HALF : con 47 = (.int 65536)
  c_PRIME : con 46 = (.int 65521)
  c_RING : con 54 = (.int 3988292384)
  c_ONES : con 139 = (.int 4294967295)
  c_FAR : con 57 = (.int 1000000000000000000)
  c_WHOLE : con 140 = (.int 4294967296)
end ZL

/-! the ring of 32 bits over plain numbers; core Lean only. -/
namespace Crc
def RING : Nat := 3988292384
def E1 : Nat := 2147483648
def ONES : Nat := 4294967295
/-- one bit on -/
def st (s : Nat) : Nat := (s / 2) ^^^ (if s % 2 = 1 then RING else 0)
def sh : Nat → Nat → Nat
  | 0, s => s
  | n + 1, s => sh n (st s)
@[simp] theorem sh_0 (s : Nat) : sh 0 s = s := (rfl)
theorem st_xor (a b : Nat) : st (a ^^^ b) = st a ^^^ st b := by
  unfold st
  rw [Nat.xor_div_two]
  have h := @Nat.xor_mod_two_eq_one a b
  by_cases ha : a % 2 = 1 <;> by_cases hb : b % 2 = 1
  · have : ¬ (a ^^^ b) % 2 = 1 := by rw [h]; simp [ha, hb]
    rw [if_neg this, if_pos ha, if_pos hb]
    rw [Nat.xor_zero, Nat.xor_assoc (a / 2), Nat.xor_comm RING, Nat.xor_assoc (b / 2), Nat.xor_self, Nat.xor_zero]
  · have : (a ^^^ b) % 2 = 1 := by rw [h]; simp [ha, hb]
    rw [if_pos this, if_pos ha, if_neg hb]
    rw [Nat.xor_zero, Nat.xor_assoc, Nat.xor_assoc, Nat.xor_comm RING]
  · have : (a ^^^ b) % 2 = 1 := by rw [h]; simp [ha, hb]
    rw [if_pos this, if_neg ha, if_pos hb]
    rw [Nat.xor_zero, Nat.xor_assoc]
  · have : ¬ (a ^^^ b) % 2 = 1 := by rw [h]; simp [ha, hb]
    rw [if_neg this, if_neg ha, if_neg hb]
    simp
theorem sh_xor : ∀ (n a b : Nat), sh n (a ^^^ b) = sh n a ^^^ sh n b
  | 0, _, _ => rfl
  | n + 1, a, b => by
    simp only [sh]
    rw [st_xor, sh_xor n]
theorem sh_add : ∀ (n m a : Nat), sh (n + m) a = sh m (sh n a)
  | 0, m, a => by simp [sh]
  | n + 1, m, a => by
    rw [show n + 1 + m = (n + m) + 1 by omega]
    simp only [sh]
    exact sh_add n m _
theorem sh_succ (n a : Nat) : sh (n + 1) a = st (sh n a) := by
  rw [sh_add n 1]
  rfl
theorem st_even (a : Nat) : st (2 * a) = a := by
  unfold st
  rw [if_neg (by omega), Nat.xor_zero]
  omega
theorem sh_pow : ∀ (n a : Nat), sh n (2 ^ n * a) = a
  | 0, a => by simp [sh]
  | n + 1, a => by
    simp only [sh]
    rw [Nat.pow_succ, Nat.mul_comm (2 ^ n) 2, Nat.mul_assoc, st_even, sh_pow n]
theorem sh_zero (n : Nat) : sh n 0 = 0 := by
  have := sh_pow n 0
  simpa using this
theorem st_lt {a : Nat} (h : a < 4294967296) : st a < 4294967296 := by
  unfold st
  refine Nat.xor_lt_two_pow (n := 32) (by omega) ?_
  split <;> decide
theorem sh_lt : ∀ (n : Nat) {a : Nat}, a < 4294967296 → sh n a < 4294967296
  | 0, _, h => h
  | n + 1, _, h => sh_lt n (st_lt h)
/-- octets as a number -/
def numO : List Nat → Nat
  | [] => 0
  | o :: r => o + 256 * numO r
def ring : Nat → List Nat → Nat
  | s, [] => s
  | s, o :: r => ring (sh 8 (s ^^^ o)) r
theorem ring_append : ∀ (a b : List Nat) (s : Nat), ring s (a ++ b) = ring (ring s a) b
  | [], _, _ => rfl
  | o :: a, b, s => ring_append a b _
theorem add_xor {o m : Nat} (h : o < 256) : o + 256 * m = o ^^^ (256 * m) := by
  refine Nat.eq_of_testBit_eq fun i => ?_
  rw [Nat.testBit_xor, Nat.add_comm]
  have e : (256 * m + o).testBit i = if i < 8 then o.testBit i else m.testBit (i - 8) := Nat.testBit_two_pow_mul_add (i := 8) m (b := o) (by simpa using h) i
  have e2 : (256 * m).testBit i = if i < 8 then (0 : Nat).testBit i else m.testBit (i - 8) := by
    have := Nat.testBit_two_pow_mul_add (i := 8) m (b := 0) (by decide) i
    simpa using this
  rw [e, e2]
  by_cases hi : i < 8
  · simp [hi]
  · have : o.testBit i = false := Nat.testBit_lt_two_pow (Nat.lt_of_lt_of_le (show o < 2 ^ 8 by simpa using h) (Nat.pow_le_pow_right (by decide) (by omega)))
    simp [hi, this]
theorem ring_eq : ∀ (xs : List Nat) (d : Nat), (∀ x ∈ xs, x < 256) → ring d xs = sh (8 * xs.length) (numO xs ^^^ d)
  | [], d, _ => by simp [ring, sh, numO]
  | o :: r, d, h => by
    simp only [ring]
    rw [ring_eq r _ fun x hx => h x (List.mem_cons_of_mem _ hx)]
    have ho := h o (List.mem_cons_self ..)
    rw [List.length_cons, show 8 * (r.length + 1) = 8 + 8 * r.length by omega, sh_add]
    simp only [numO]
    rw [add_xor ho]
    have e : (o ^^^ 256 * numO r) ^^^ d = (d ^^^ o) ^^^ 256 * numO r := by
      rw [Nat.xor_comm, ← Nat.xor_assoc]
    have h8 := sh_pow 8 (numO r)
    have e2 : (2 : Nat) ^ 8 = 256 := by decide
    rw [e2] at h8
    have e3 : sh 8 (d ^^^ o ^^^ 256 * numO r) = sh 8 (d ^^^ o) ^^^ numO r := by rw [sh_xor 8 (d ^^^ o), h8]
    rw [e, e3, Nat.xor_comm (numO r)]
theorem ring_lt : ∀ (xs : List Nat) {d : Nat}, (∀ x ∈ xs, x < 256) → d < 4294967296 → ring d xs < 4294967296
  | [], _, _, h => h
  | o :: r, d, ho, h => by
    simp only [ring]
    refine ring_lt r (fun x hx => ho x (List.mem_cons_of_mem _ hx)) (sh_lt 8 ?_)
    have := ho o (List.mem_cons_self ..)
    exact Nat.xor_lt_two_pow (n := 32) h (by omega)
/-- the product, as the loop makes it -/
def tmG : Nat → Nat → Nat → Nat → Nat
  | 0, _, _, f => f
  | n + 1, a, b, f => tmG n a (st b) (if a / 2 ^ n % 2 = 1 then f ^^^ b else f)
def tm (a b : Nat) : Nat := tmG 32 a b 0
theorem tmG_xor : ∀ (n a b b' f f' : Nat), tmG n a (b ^^^ b') (f ^^^ f') = tmG n a b f ^^^ tmG n a b' f'
  | 0, _, _, _, _, _ => rfl
  | n + 1, a, b, b', f, f' => by
    simp only [tmG]
    rw [st_xor]
    by_cases h : a / 2 ^ n % 2 = 1
    · rw [if_pos h, if_pos h, if_pos h, ← tmG_xor n]
      congr 1
      rw [Nat.xor_assoc, ← Nat.xor_assoc f', Nat.xor_comm f', Nat.xor_assoc b, ← Nat.xor_assoc f]
    · rw [if_neg h, if_neg h, if_neg h, ← tmG_xor n]
theorem tmG_st : ∀ (n a b f : Nat), tmG n a (st b) (st f) = st (tmG n a b f)
  | 0, _, _, _ => rfl
  | n + 1, a, b, f => by
    simp only [tmG]
    by_cases h : a / 2 ^ n % 2 = 1
    · rw [if_pos h, if_pos h, ← st_xor, tmG_st n]
    · rw [if_neg h, if_neg h, tmG_st n]
theorem st_0 : st 0 = 0 := by decide
theorem tm_st (a b : Nat) : tm a (st b) = st (tm a b) := by
  unfold tm
  have := tmG_st 32 a b 0
  rw [st_0] at this
  exact this
theorem tm_sh (a : Nat) : ∀ n b : Nat, tm a (sh n b) = sh n (tm a b)
  | 0, _ => rfl
  | n + 1, b => by
    simp only [sh]
    rw [tm_sh a n, tm_st]
theorem bit_up (m i : Nat) : (m * 2 ^ (i + 1)) ^^^ 2 ^ i = m * 2 ^ (i + 1) + 2 ^ i := by
  refine Nat.eq_of_testBit_eq fun j => ?_
  rw [Nat.testBit_xor]
  have e : (2 ^ (i + 1) * m + 2 ^ i).testBit j = if j < i + 1 then (2 ^ i).testBit j else m.testBit (j - (i + 1)) := Nat.testBit_two_pow_mul_add m (Nat.pow_lt_pow_right (by decide) (by omega)) j
  have e2 : (2 ^ (i + 1) * m).testBit j = if j < i + 1 then (0 : Nat).testBit j else m.testBit (j - (i + 1)) := by
    have := Nat.testBit_two_pow_mul_add (i := i + 1) m (b := 0) (Nat.two_pow_pos _) j
    simpa using this
  rw [Nat.mul_comm m, e, e2]
  by_cases hj : j < i + 1
  · simp [hj]
  · have : (2 ^ i).testBit j = false := Nat.testBit_lt_two_pow (Nat.pow_lt_pow_right (by decide) (by omega))
    simp [hj, this]
theorem tmG_one : ∀ (n a : Nat), tmG n a (2 ^ n / 2) (a / 2 ^ n * 2 ^ n) = a
  | 0, a => by simp [tmG]
  | n + 1, a => by
    simp only [tmG]
    have e1 : 2 ^ (n + 1) / 2 = 2 ^ n := by rw [Nat.pow_succ]; omega
    have e2 : st (2 ^ n) = 2 ^ n / 2 ∨ n = 0 := by
      cases n with
      | zero => exact .inr rfl
      | succ k =>
        left
        rw [Nat.pow_succ, Nat.mul_comm, st_even]
        omega
    rw [e1]
    have e3 : (if a / 2 ^ n % 2 = 1 then a / 2 ^ (n + 1) * 2 ^ (n + 1) ^^^ 2 ^ n else a / 2 ^ (n + 1) * 2 ^ (n + 1)) = a / 2 ^ n * 2 ^ n := by
      have d : a / 2 ^ (n + 1) = a / 2 ^ n / 2 := by rw [Nat.pow_succ, Nat.div_div_eq_div_mul]
      obtain ⟨q, hq⟩ : ∃ q, q = a / 2 ^ n := ⟨_, rfl⟩
      rw [bit_up, d, ← hq]
      have h1 : q / 2 * 2 ^ (n + 1) = (q / 2 * 2) * 2 ^ n := by rw [Nat.pow_succ, Nat.mul_assoc, Nat.mul_comm 2]
      rw [h1]
      by_cases h : q % 2 = 1
      · rw [if_pos h, show q / 2 * 2 = q - 1 by omega]
        have : (q - 1) * 2 ^ n + 2 ^ n = (q - 1 + 1) * 2 ^ n := by rw [Nat.add_mul, Nat.one_mul]
        rw [this, show q - 1 + 1 = q by omega]
      · rw [if_neg h, show q / 2 * 2 = q by omega]
    rw [e3]
    rcases e2 with e2 | rfl
    · rw [e2, tmG_one n a]
    · simp [tmG]
theorem tm_E1 {a : Nat} (h : a < 4294967296) : tm a E1 = a := by
  have := tmG_one 32 a
  have e1 : a / 2 ^ 32 = 0 := Nat.div_eq_of_lt h
  have e2 : (2 : Nat) ^ 32 / 2 = E1 := by decide
  rw [e1, e2, Nat.zero_mul] at this
  exact this
/-- times the power x^n: n bits on -/
theorem tm_x {a : Nat} (h : a < 4294967296) (n : Nat) : tm a (sh n E1) = sh n a := by
  rw [tm_sh, tm_E1 h]
/-- x to the n by squares, as the loop makes it -/
def xtG : Nat → Nat → Nat → Nat → Nat
  | 0, _, f, _ => f
  | k + 1, n, f, o => if n = 0 then f else xtG k (n / 2) (if n % 2 = 1 then tm f o else f) (tm o o)
theorem xtG_ok : ∀ (k n a b : Nat), n < 2 ^ k → xtG k n (sh a E1) (sh b E1) = sh (a + b * n) E1
  | 0, n, a, b, h => by
    have : n = 0 := by simpa using h
    subst this
    simp [xtG]
  | k + 1, n, a, b, h => by
    simp only [xtG]
    have hE : E1 < 4294967296 := by decide
    by_cases h0 : n = 0
    · subst h0
      simp
    · have ho : tm (sh b E1) (sh b E1) = sh (b + b) E1 := by rw [tm_x (sh_lt _ hE), ← sh_add]
      rw [if_neg h0, ho]
      have hk : n / 2 < 2 ^ k := by rw [Nat.pow_succ] at h; omega
      by_cases h1 : n % 2 = 1
      · rw [if_pos h1, tm_x (sh_lt _ hE), ← sh_add, xtG_ok k _ _ _ hk]
        congr 1
        have : n = 2 * (n / 2) + 1 := by omega
        generalize n / 2 = m at this
        subst this
        rw [Nat.mul_add, Nat.mul_one, Nat.add_mul, ← Nat.mul_assoc, Nat.mul_comm b 2, Nat.two_mul, Nat.add_mul]
        omega
      · rw [if_neg h1, xtG_ok k _ _ _ hk]
        congr 1
        have : n = 2 * (n / 2) := by omega
        generalize n / 2 = m at this
        subst this
        rw [← Nat.mul_assoc, Nat.mul_comm b 2, Nat.two_mul]
theorem sh_E1_1 : sh 1 E1 = 1073741824 := by decide
/-- the ring comes round -/
theorem round0 : xtG 32 4294967295 E1 1073741824 = E1 := by decide +kernel
theorem round : sh 4294967295 E1 = E1 := by
  have h := xtG_ok 32 4294967295 0 1 (by decide)
  rw [sh_E1_1, Nat.zero_add, Nat.one_mul, sh_0, round0] at h
  exact h.symm
theorem round_a {a : Nat} (h : a < 4294967296) : sh 4294967295 a = a := by
  rw [← tm_x h, round, tm_E1 h]
theorem round_k {a : Nat} (h : a < 4294967296) : ∀ k : Nat, sh (4294967295 * k) a = a
  | 0 => rfl
  | k + 1 => by
    rw [Nat.mul_add, Nat.mul_one, sh_add, round_k h k, round_a h]
theorem sh_mod {a : Nat} (h : a < 4294967296) (n : Nat) : sh n a = sh (n % 4294967295) a := by
  have := Nat.div_add_mod n 4294967295
  conv => lhs; rw [← this]
  rw [sh_add, round_k h]
end Crc

set_option maxHeartbeats 4000000
/-! what the defs of checks do. -/
namespace ZL
open Z
theorem fdivN {a b : Nat} (h : 0 < b) (h2 : b < 18446744073709551616) : bin .fdiv (.int a) (.int b) = some (.v (.int ((a / b : Nat) : Int))) := by
  rw [bin_fdivW (by omega) (by omega)]
  simp
theorem modN {a b : Nat} (h : 0 < b) : bin .mod (.int a) (.int b) = some (.v (.int ((a % b : Nat) : Int))) := by
  rw [bin_modI (by omega)]
  simp
theorem fdiv2N (a : Nat) : bin .fdiv (.int a) (.int 2) = some (.v (.int ((a / 2 : Nat) : Int))) := fdivN (b := 2) (by decide) (by decide)
theorem mod2N (a : Nat) : bin .mod (.int a) (.int 2) = some (.v (.int ((a % 2 : Nat) : Int))) := modN (b := 2) (by decide)
theorem eq1N (a : Nat) : (((a : Nat) : Int) == 1) = decide (a = 1) := by
  by_cases h : a = 1
  · subst h; rfl
  · have : ¬ (a : Int) = 1 := by omega
    simp [h, this]
theorem one_tgt {i j : Nat} {p q : PV} {ls : Lcs} : asgT (.cons (.nm i) (.cons (.nm j) .nil)) (.tup [p, q]) ls = some ((ls.set i (some (.v p))).set j (some (.v q))) := by
  simp [asgT, asgTs]
/-- the remainder by the prime -/
theorem mod_eq {x y k : Int} (h : x = y + 65521 * k) : x % 65521 = y % 65521 := by
  subst h
  exact Int.add_mul_emod_self_left ..
/-- the two sums of octets -/
def S2 : List Int → Int
  | [] => 0
  | x :: r => ((r.length : Int) + 1) * x + S2 r
theorem S2_append : ∀ a b : List Int, S2 (a ++ b) = S2 a + S2 b + (b.length : Int) * a.sum
  | [], b => by simp [S2]
  | x :: a, b => by
    simp only [List.cons_append, S2, S2_append a b, List.length_append, List.sum_cons]
    have e : (((a.length + b.length : Nat) : Int) + 1) * x = ((a.length : Int) + 1) * x + (b.length : Int) * x := by
      rw [← Int.add_mul]
      congr 1
      omega
    rw [e, Int.mul_add]
    omega
/-- the check that two sums make -/
def ck (a b : Int) : Int := a % 65521 + b % 65521 * 65536
theorem ck_range (a b : Int) : 0 ≤ ck a b ∧ ck a b ≤ 4294967295 := by
  unfold ck; omega
theorem ck_lo (a b : Int) : ck a b % 65536 = a % 65521 := by
  unfold ck; omega
theorem ck_hi (a b : Int) : ck a b / 65536 = b % 65521 := by
  unfold ck; omega
theorem ck_eq {a b a' b' k l : Int} (h1 : a = a' + 65521 * k) (h2 : b = b' + 65521 * l) : ck a b = ck a' b' := by
  unfold ck
  rw [mod_eq h1, mod_eq h2]
def sumF (xs : List Int) : Int := ck (1 + xs.sum) ((xs.length : Int) + S2 xs)
/-- the ring's check -/
def ringF (xs : List Int) : Nat := Crc.ring Crc.ONES (nats xs) ^^^ Crc.ONES
theorem ringF_lt {xs : List Int} (h : Octs xs) : ringF xs < 4294967296 :=
  Nat.xor_lt_two_pow (n := 32) (Crc.ring_lt _ (nats_lt h) (by decide)) (by decide)
/-- the ring's own defs -/
structure HG0 (T : Nat → Option Fn) (con : Nat → PV) : Prop extends HO T con where
  stepped : T 321 = some F_stepped
  shifted : T 322 = some F_shifted
  ring_in : T 323 = some F_ring_in
  c_HALF : con 47 = (.int 65536)
  c_RING : con 54 = (.int 3988292384)
  c_ONES : con 139 = (.int 4294967295)
structure HG (T : Nat → Option Fn) (con : Nat → PV) : Prop extends HG0 T con where
  need_ring_v3 : T 943 = some F_need_ring_v3
structure HC0 (T : Nat → Option Fn) (con : Nat → PV) : Prop extends HG0 T con where
  both_of : T 296 = some F_both_of
  check_of : T 678 = some F_check_of
  sums_in_v2 : T 679 = some F_sums_in_v2
  sum_check_v2 : T 680 = some F_sum_check_v2
  ring_check_v5 : T 945 = some F_ring_check_v5
  need_sum_v4 : T 940 = some F_need_sum_v4
  c_PRIME : con 46 = (.int 65521)
structure HC (T : Nat → Option Fn) (con : Nat → PV) : Prop extends HC0 T con where
  need_ring_v3 : T 943 = some F_need_ring_v3
theorem HC.toHG {T : Nat → Option Fn} {con : Nat → PV} (h : HC T con) : HG T con := ⟨h.toHG0, h.need_ring_v3⟩
section
variable {T : Nat → Option Fn} {con : Nat → PV} {fu k : Nat} {μ : Sto}
section
variable (hT : HG0 T con)
include hT
theorem stepped_ok {n : Nat} (hk : 1 ≤ k) : run T con fu k 321 [.v (.int n)] μ = .ok (.v (.int (Crc.st n : Nat))) μ := by
  obtain ⟨k, rfl⟩ := Nat.exists_eq_add_of_le' hk
  rw [run_succ hT.stepped rfl]
  have e1 : bin .xor (.int ((n / 2 : Nat) : Int)) (.int 3988292384) = some (.v (.int ((n / 2 ^^^ Crc.RING : Nat) : Int))) := bin_xorN (n / 2) Crc.RING
  have e2 : bin .xor (.int ((n / 2 : Nat) : Int)) (.int 0) = some (.v (.int ((n / 2 ^^^ 0 : Nat) : Int))) := bin_xorN (n / 2) 0
  by_cases h : n % 2 = 1
  · simp [F_stepped, hT.c_RING, fdiv2N, mod2N, eq1N, h, Crc.st, e1, -Int.natCast_ediv, -Int.natCast_emod]
  · simp [F_stepped, hT.c_RING, fdiv2N, mod2N, eq1N, h, Crc.st, e2, -Int.natCast_ediv, -Int.natCast_emod]
theorem shifted_ok {n m : Nat} (hm : m ≤ SZ) (hk : 2 ≤ k) : run T con fu k 322 [.v (.int n), .v (.int m)] μ = .ok (.v (.int (Crc.sh m n : Nat))) μ := by
  obtain ⟨k, rfl⟩ := Nat.exists_eq_add_of_le' hk
  rw [run_succ hT.shifted rfl]
  have key : ∀ (is : List Nat) (g : Nat → PV) (n : Nat) (t v1 : Option RV), ∃ t', loopL (fun x ls μ => ex ⟨run T con fu (k + 1), con, fu⟩ L_shifted_0 (ls.set 2 (some (.v x))) μ) (is.map g) [some (.v (.int n)), v1, t] μ = .ok (.nx, [some (.v (.int (Crc.sh is.length n : Nat))), v1, t']) μ := by
    intro is g
    induction is with
    | nil => exact fun n t v1 => ⟨t, rfl⟩
    | cons i is ih =>
      intro n t v1
      obtain ⟨t', e⟩ := ih (Crc.st n) (some (.v (g i))) v1
      refine ⟨t', ?_⟩
      have : ex ⟨run T con fu (k + 1), con, fu⟩ L_shifted_0 ([some (.v (.int n)), v1, t].set 2 (some (.v (g i)))) μ = .ok (.nx, [some (.v (.int (Crc.st n : Nat))), v1, some (.v (g i))]) μ := by
        simp [L_shifted_0, stepped_ok hT]
      simp only [List.map_cons, loopL, this, turn, R.bind_ok]
      exact e
  have h62 := r62_nat hm
  obtain ⟨t', e⟩ := key (List.range m) (fun j : Nat => .int (0 + (j : Int))) n none (some (.v (.int m)))
  simp [F_shifted, rngR_ok h62.1 h62.2, loop_v (rng_items _ _)]
  simp at e
  rw [e]
  simp
theorem ringin_ok {n : Nat} {xs : List Int} (h : Octs xs) (hk : 3 ≤ k) : run T con fu k 323 [.v (.int n), .v (.tup (xs.map .int))] μ = .ok (.v (.int (Crc.ring n (nats xs) : Nat))) μ := by
  obtain ⟨k, rfl⟩ := Nat.exists_eq_add_of_le' hk
  rw [run_succ hT.ring_in rfl]
  have key : ∀ (xs : List Nat) (n : Nat) (t v1 : Option RV), ∃ t', loopL (fun x ls μ => ex ⟨run T con fu (k + 2), con, fu⟩ L_ring_in_0 (ls.set 2 (some (.v x))) μ) (xs.map fun i : Nat => .int i) [some (.v (.int n)), v1, t] μ = .ok (.nx, [some (.v (.int (Crc.ring n xs : Nat))), v1, t']) μ := by
    intro xs
    induction xs with
    | nil => exact fun n t v1 => ⟨t, rfl⟩
    | cons x xs ih =>
      intro n t v1
      obtain ⟨t', e⟩ := ih (Crc.sh 8 (n ^^^ x)) (some (.v (.int x))) v1
      refine ⟨t', ?_⟩
      have e8 : run T con fu (k + 2) 322 [.v (.int ((n ^^^ x : Nat) : Int)), .v (.int 8)] μ = .ok (.v (.int (Crc.sh 8 (n ^^^ x) : Nat))) μ := shifted_ok hT (m := 8) (by decide) (by omega)
      have : ex ⟨run T con fu (k + 2), con, fu⟩ L_ring_in_0 ([some (.v (.int n)), v1, t].set 2 (some (.v (.int x)))) μ = .ok (.nx, [some (.v (.int (Crc.sh 8 (n ^^^ x) : Nat))), v1, some (.v (.int x))]) μ := by
        simp [L_ring_in_0, e8]
      simp only [List.map_cons, loopL, this, turn, R.bind_ok]
      exact e
  obtain ⟨t', e⟩ := key (nats xs) n none (some (.v (.tup (xs.map .int))))
  have e2 : (nats xs).map (fun i : Nat => PV.int i) = xs.map .int := by
    conv => rhs; rw [octs_nats h, List.map_map]
    rfl
  rw [e2] at e
  simp [F_ring_in, loop_v (items_t _)]
  rw [e]
  simp
theorem xor1 (a : Nat) : bin .xor (.int a) (.int 4294967295) = some (.v (.int ((a ^^^ Crc.ONES : Nat) : Int))) := bin_xorN a Crc.ONES
omit hT in
theorem needring_ok (hT : HG T con) {n : Nat} (h : n < 4294967296) (hk : 2 ≤ k) : run T con fu k 943 [.v (.int n)] μ = .ok (.v .non) μ := by
  obtain ⟨k, rfl⟩ := Nat.exists_eq_add_of_le' hk
  rw [run_succ hT.need_ring_v3 rfl]
  simp [F_need_ring_v3, hT.c_ONES, wholeI_ok hT.toHO (show (0 : Int) ≤ (n : Int) by omega) (show (n : Int) ≤ 4294967295 by omega)]end
section
variable (hT : HC0 T con)
include hT
theorem both_ok {c : Int} (hk : 1 ≤ k) : run T con fu k 296 [.v (.int c)] μ = .ok (.v (.tup [.int (c % 65536), .int (c / 65536)])) μ := by
  obtain ⟨k, rfl⟩ := Nat.exists_eq_add_of_le' hk
  rw [run_succ hT.both_of rfl]
  simp [F_both_of, hT.c_HALF, bin_modI, bin_fdivI, tupR_kps]
theorem checkof_ok {a b : Int} (hk : 1 ≤ k) : run T con fu k 678 [.v (.int a), .v (.int b)] μ = .ok (.v (.int (ck a b))) μ := by
  obtain ⟨k, rfl⟩ := Nat.exists_eq_add_of_le' hk
  rw [run_succ hT.check_of rfl]
  have e : bin .mul (.int (b % 65521)) (.int 65536) = some (.v (.int (b % 65521 * 65536))) := bin_mulI (by simp [sml])
  simp [F_check_of, hT.c_HALF, hT.c_PRIME, bin_modI, e, ck]
theorem sums_ok {c : Int} {xs : List Int} (h : Octs xs) (hk : 2 ≤ k) : run T con fu k 679 [.v (.int c), .v (.tup (xs.map .int))] μ = .ok (.v (.int (ck (c % 65536 + xs.sum) (c / 65536 + (xs.length : Int) * (c % 65536) + S2 xs)))) μ := by
  obtain ⟨k, rfl⟩ := Nat.exists_eq_add_of_le' hk
  rw [run_succ hT.sums_in_v2 rfl]
  have key : ∀ (xs : List Int) (a b : Int) (t : Option RV) (v0 v1 : Option RV), ∃ t' a' b', loopL (fun x ls μ => ex ⟨run T con fu (k + 1), con, fu⟩ L_sums_in_v2_0 (ls.set 2 (some (.v x))) μ) (xs.map .int) [v0, v1, t, some (.v (.int a)), some (.v (.int b))] μ = .ok (.nx, [v0, v1, t', some (.v (.int a')), some (.v (.int b'))]) μ ∧ ck a' b' = ck (a + xs.sum) (b + (xs.length : Int) * a + S2 xs) := by
    intro xs
    induction xs with
    | nil => exact fun a b t v0 v1 => ⟨t, a, b, rfl, by simp [S2]⟩
    | cons x xs ih =>
      intro a b t v0 v1
      obtain ⟨t', a', b', e1, e2⟩ := ih ((a + x) % 65521) ((b + (a + x) % 65521) % 65521) (some (.v (.int x))) v0 v1
      refine ⟨t', a', b', ?_, ?_⟩
      · have : ex ⟨run T con fu (k + 1), con, fu⟩ L_sums_in_v2_0 ([v0, v1, t, some (.v (.int a)), some (.v (.int b))].set 2 (some (.v (.int x)))) μ = .ok (.nx, [v0, v1, some (.v (.int x)), some (.v (.int ((a + x) % 65521))), some (.v (.int ((b + (a + x) % 65521) % 65521)))]) μ := by
          simp [L_sums_in_v2_0, hT.c_PRIME, bin_modI]
        simp only [List.map_cons, loopL, this, turn, R.bind_ok]
        exact e1
      · rw [e2]
        have d1 := Int.emod_add_mul_ediv (a + x) 65521
        have d2 := Int.emod_add_mul_ediv (b + (a + x) % 65521) 65521
        generalize hu : (a + x) % 65521 = u at *
        generalize hv : (b + u) % 65521 = v at *
        generalize (a + x) / 65521 = p at *
        generalize (b + u) / 65521 = q at *
        refine ck_eq (k := -p) (l := -q - ((xs.length : Int) + 1) * p) ?_ ?_
        · simp only [List.sum_cons]; omega
        · simp only [List.length_cons, S2]
          have e3 : u = a + x - 65521 * p := by omega
          have e4 : v = b + u - 65521 * q := by omega
          subst e4
          subst e3
          have n1 : ((xs.length + 1 : Nat) : Int) = (xs.length : Int) + 1 := by omega
          rw [n1]
          generalize (xs.length : Int) = n
          simp only [Int.mul_sub, Int.mul_add, Int.add_mul, Int.sub_mul, Int.one_mul, Int.neg_mul, Int.mul_neg]
          rw [Int.mul_left_comm n 65521 p]
          omega
  obtain ⟨t', a', b', e1, e2⟩ := key xs (c % 65536) (c / 65536) none (some (.v (.int c))) (some (.v (.tup (xs.map .int))))
  simp [F_sums_in_v2, both_ok hT, tgtR, one_tgt, loop_v (items_t _)]
  rw [e1]
  simp [checkof_ok hT, e2]
theorem sumcheck_ok {xs : List Int} (h : Octs xs) (hl : xs.length ≤ 70000) (hk : 4 ≤ k) : run T con fu k 680 [.v (.tup (xs.map .int))] μ = .ok (.v (.int (sumF xs))) μ := by
  obtain ⟨k, rfl⟩ := Nat.exists_eq_add_of_le' hk
  rw [run_succ hT.sum_check_v2 rfl]
  have := sums_ok hT (fu := fu) (k := k + 3) (μ := μ) (c := 1) h (by omega)
  simp [F_sum_check_v2, needO_ok hT.toHO h hl, this, sumF]
theorem ringcheck_ok {xs : List Int} (h : Octs xs) (hl : xs.length ≤ 70000) (hk : 4 ≤ k) : run T con fu k 945 [.v (.tup (xs.map .int))] μ = .ok (.v (.int (ringF xs : Nat))) μ := by
  obtain ⟨k, rfl⟩ := Nat.exists_eq_add_of_le' hk
  rw [run_succ hT.ring_check_v5 rfl]
  have e := ringin_ok hT.toHG0 (fu := fu) (k := k + 3) (μ := μ) (n := Crc.ONES) h (by omega)
  have e0 : ((Crc.ONES : Nat) : Int) = 4294967295 := rfl
  rw [e0] at e
  simp [F_ring_check_v5, needO_ok hT.toHO h hl, hT.c_ONES, e, xor1 hT.toHG0, ringF]
theorem needsum_ok {a b : Int} (hk : 2 ≤ k) : run T con fu k 940 [.v (.int (ck a b))] μ = .ok (.v .non) μ := by
  obtain ⟨k, rfl⟩ := Nat.exists_eq_add_of_le' hk
  rw [run_succ hT.need_sum_v4 rfl]
  have r := ck_range a b
  have e1 : ¬ (65521 : Int) ≤ a % 65521 := by omega
  have e2 : ¬ (65521 : Int) ≤ b % 65521 := by omega
  simp [F_need_sum_v4, hT.c_HALF, hT.c_PRIME, hT.c_ONES, wholeI_ok hT.toHO r.1 r.2, bin_modI, bin_fdivI, ck_lo, ck_hi, e1, e2]
end
theorem needfar_ok (hT : HO T con) (h : T 329 = some F_need_far) (hc : con 57 = .int 1000000000000000000) {m : Int} (h0 : 0 ≤ m) (h1 : m ≤ 1000000000000000000) (hk : 2 ≤ k) : run T con fu k 329 [.v (.int m)] μ = .ok (.v .non) μ := by
  obtain ⟨k, rfl⟩ := Nat.exists_eq_add_of_le' hk
  rw [run_succ h rfl]
  simp [F_need_far, hc, wholeI_ok hT h0 h1]
theorem sumon_ok (hT : HC T con) (h : T 946 = some F_sum_on) {a b : Int} {xs : List Int} (ho : Octs xs) (hl : xs.length ≤ 70000) (hk : 4 ≤ k) : run T con fu k 946 [.v (.int (ck a b)), .v (.tup (xs.map .int))] μ = .ok (.v (.int (ck (a + xs.sum) (b + (xs.length : Int) * a + S2 xs)))) μ := by
  obtain ⟨k, rfl⟩ := Nat.exists_eq_add_of_le' hk
  rw [run_succ h rfl]
  have e := sums_ok hT.toHC0 (fu := fu) (k := k + 3) (μ := μ) (c := ck a b) ho (by omega)
  have e2 : ck (ck a b % 65536 + xs.sum) (ck a b / 65536 + (xs.length : Int) * (ck a b % 65536) + S2 xs) = ck (a + xs.sum) (b + (xs.length : Int) * a + S2 xs) := by
    rw [ck_lo, ck_hi]
    have d1 := Int.emod_add_mul_ediv a 65521
    have d2 := Int.emod_add_mul_ediv b 65521
    generalize a % 65521 = u at *
    generalize b % 65521 = v at *
    generalize a / 65521 = p at *
    generalize b / 65521 = q at *
    refine ck_eq (k := -p) (l := -q - (xs.length : Int) * p) (by omega) ?_
    subst d1
    subst d2
    simp only [Int.mul_sub, Int.mul_add, Int.add_mul, Int.sub_mul, Int.neg_mul, Int.mul_neg]
    rw [Int.mul_left_comm (xs.length : Int) 65521 p]
    omega
  rw [e2] at e
  simp [F_sum_on, needsum_ok hT.toHC0, needO_ok hT.toHO ho hl, e]
theorem ringon_ok (hT : HC T con) (h : T 947 = some F_ring_on) {n : Nat} {xs : List Int} (hn : n < 4294967296) (ho : Octs xs) (hl : xs.length ≤ 70000) (hk : 4 ≤ k) : run T con fu k 947 [.v (.int n), .v (.tup (xs.map .int))] μ = .ok (.v (.int ((Crc.ring (n ^^^ Crc.ONES) (nats xs) ^^^ Crc.ONES : Nat) : Int))) μ := by
  obtain ⟨k, rfl⟩ := Nat.exists_eq_add_of_le' hk
  rw [run_succ h rfl]
  simp [F_ring_on, needring_ok hT.toHG hn, needO_ok hT.toHO ho hl, hT.c_ONES, xor1 hT.toHG0, ringin_ok hT.toHG0 ho]
theorem sumjoined_ok (hT : HC T con) (h : T 948 = some F_sum_joined_v2) (hf : T 329 = some F_need_far) (hc : con 57 = .int 1000000000000000000) {a b a' b' m : Int} (h0 : 0 ≤ m) (h1 : m ≤ 1000000000000000000) (hk : 3 ≤ k) :
    run T con fu k 948 [.v (.int (ck a b)), .v (.int (ck a' b')), .v (.int m)] μ = .ok (.v (.int (ck (a + a' - 1) (b + b' + m * (a - 1))))) μ := by
  obtain ⟨k, rfl⟩ := Nat.exists_eq_add_of_le' hk
  rw [run_succ h rfl]
  have e2 : ck (a % 65521 + a' % 65521 - 1) (b % 65521 + b' % 65521 + m * (a % 65521 - 1)) = ck (a + a' - 1) (b + b' + m * (a - 1)) := by
    have d1 := Int.emod_add_mul_ediv a 65521
    have d2 := Int.emod_add_mul_ediv b 65521
    have d3 := Int.emod_add_mul_ediv a' 65521
    have d4 := Int.emod_add_mul_ediv b' 65521
    generalize a % 65521 = u at *
    generalize b % 65521 = v at *
    generalize a' % 65521 = u' at *
    generalize b' % 65521 = v' at *
    generalize a / 65521 = p at *
    generalize b / 65521 = q at *
    generalize a' / 65521 = p' at *
    generalize b' / 65521 = q' at *
    refine ck_eq (k := -p - p') (l := -q - q' - m * p) (by omega) ?_
    subst d1
    subst d2
    subst d3
    subst d4
    simp only [Int.mul_sub, Int.mul_add, Int.add_mul, Int.sub_mul, Int.neg_mul, Int.mul_neg]
    rw [Int.mul_left_comm m 65521 p]
    omega
  have em : bin .mul (.int m) (.int (a % 65521 - 1)) = some (.v (.int (m * (a % 65521 - 1)))) := bin_mulI (by simp [sml]; omega)
  simp [F_sum_joined_v2, needsum_ok hT.toHC0, needfar_ok hT.toHO hf hc h0 h1, both_ok hT.toHC0, tupR_kps, tgtR, asgT, asgTs, ck_lo, ck_hi, em, checkof_ok hT.toHC0, e2]
theorem times_ok (hT : HG T con) (h : T 330 = some F_times) {a b : Nat} (hk : 2 ≤ k) (hfu : 33 ≤ fu) : run T con fu k 330 [.v (.int a), .v (.int b)] μ = .ok (.v (.int ((Crc.tm a b : Nat) : Int))) μ := by
  obtain ⟨k, rfl⟩ := Nat.exists_eq_add_of_le' hk
  rw [run_succ h rfl]
  have key : ∀ (n b f : Nat) (fu' : Nat), n ≤ 32 → n + 1 ≤ fu' → ∃ b', whl (fun ls μ => (ev ⟨run T con fu (k + 1), con, fu⟩ (.cmp .gt (.var 3) (.int 0)) ls μ).bind toB) (fun ls μ => ex ⟨run T con fu (k + 1), con, fu⟩ L_times_0 ls μ) fu' [some (.v (.int a)), some (.v (.int b)), some (.v (.int f)), some (.v (.int ((2 ^ n / 2 : Nat) : Int)))] μ = .ok (.nx, [some (.v (.int a)), some (.v (.int b')), some (.v (.int ((Crc.tmG n a b f : Nat) : Int))), some (.v (.int 0))]) μ := by
    intro n
    induction n with
    | zero =>
      intro b f fu' _ h1
      obtain ⟨fu', rfl⟩ := Nat.exists_eq_add_of_le' h1
      exact ⟨b, by simp [whl, Crc.tmG]⟩
    | succ n ih =>
      intro b f fu' h0 h1
      obtain ⟨fu', rfl⟩ := Nat.exists_eq_add_of_le' h1
      have e1 : (2 ^ (n + 1) / 2 : Nat) = 2 ^ n := by rw [Nat.pow_succ]; omega
      have e2 : 0 < 2 ^ n := Nat.two_pow_pos n
      have e3 : 2 ^ n < 18446744073709551616 := Nat.lt_of_le_of_lt (Nat.pow_le_pow_right (by decide) (show n ≤ 32 by omega)) (by decide)
      obtain ⟨b', e⟩ := ih (Crc.st b) (if a / 2 ^ n % 2 = 1 then f ^^^ b else f) (fu' + (n + 1)) (by omega) (by omega)
      refine ⟨b', ?_⟩
      rw [e1]
      have hp : (0 : Int) < ((2 ^ n : Nat) : Int) := by omega
      generalize hg : 2 ^ n = g at *
      have body : ex ⟨run T con fu (k + 1), con, fu⟩ L_times_0 [some (.v (.int a)), some (.v (.int b)), some (.v (.int f)), some (.v (.int (g : Int)))] μ = .ok (.nx, [some (.v (.int a)), some (.v (.int (Crc.st b : Nat))), some (.v (.int ((if a / g % 2 = 1 then f ^^^ b else f : Nat) : Int))), some (.v (.int ((g / 2 : Nat) : Int)))]) μ := by
        have q1 : bin .fdiv (.int a) (.int g) = some (.v (.int ((a / g : Nat) : Int))) := fdivN e2 e3
        by_cases hb : a / g % 2 = 1
        · simp only [L_times_0]
          simp [q1, mod2N, eq1N, hb, stepped_ok hT.toHG0, fdiv2N, -Int.natCast_ediv, -Int.natCast_emod]
        · simp only [L_times_0]
          simp [q1, mod2N, eq1N, hb, stepped_ok hT.toHG0, fdiv2N, -Int.natCast_ediv, -Int.natCast_emod]
      rw [show fu' + (n + 1 + 1) = (fu' + (n + 1)) + 1 by omega]
      rw [whl_t (μ1 := μ) (by simp only [ev_cmp, ev_var, ev_int, lvR_s, lvR_0, R.bind_ok, opt2_vv, cmpR_gtI, opt_some, toB_v, decide_eq_true hp]) body, e]
      simp only [Crc.tmG, hg]
  obtain ⟨b', e⟩ := key 32 b 0 fu (by decide) hfu
  have e4 : bin .mul (.int 65536) (.int 65536) = some (.v (.int 4294967296)) := by rw [bin_mulI (by decide)]; rfl
  have e5 : bin .fdiv (.int 4294967296) (.int 2) = some (.v (.int ((2 ^ 32 / 2 : Nat) : Int))) := by rw [bin_fdivI (by decide) (by decide)]; rfl
  have e6 : ex ⟨run T con fu (k + 1), con, fu⟩ (.whl (.cmp .gt (.var 3) (.int 0)) L_times_0) [some (.v (.int a)), some (.v (.int b)), some (.v (.int 0)), some (.v (.int ((2 ^ 32 / 2 : Nat) : Int)))] μ = .ok (.nx, [some (.v (.int a)), some (.v (.int b')), some (.v (.int ((Crc.tmG 32 a b 0 : Nat) : Int))), some (.v (.int 0))]) μ := e
  have hh : con 47 = .int 65536 := hT.c_HALF
  simp only [F_times, ex_seq, ex_par, evs_cons, evs_nil, ev_int, ev_bin, ev_con, hh, R.bind_ok, opt2_vv, e4, e5, opt_some, parA_v, parA_nil, seqR_nx, List.map_cons, List.map_nil, argL_v, List.cons_append, List.nil_append, List.replicate, List.set_cons_succ, List.set_cons_zero, Nat.reduceSub]
  rw [e6]
  simp [Crc.tm]
theorem xto_ok (hT : HG T con) (h : T 330 = some F_times) (hx : T 949 = some F_x_to_v4) (hw : con 140 = .int 4294967296) {n : Nat} (hn : n < 18446744073709551616) (hk : 3 ≤ k) (hfu : 65 ≤ fu) : run T con fu k 949 [.v (.int n)] μ = .ok (.v (.int ((Crc.sh n Crc.E1 : Nat) : Int))) μ := by
  obtain ⟨k, rfl⟩ := Nat.exists_eq_add_of_le' hk
  rw [run_succ hx rfl]
  have key : ∀ (j n f o : Nat) (fu' : Nat), n < 2 ^ j → j + 1 ≤ fu' → ∃ o', whl (fun ls μ => (ev ⟨run T con fu (k + 2), con, fu⟩ (.cmp .gt (.var 0) (.int 0)) ls μ).bind toB) (fun ls μ => ex ⟨run T con fu (k + 2), con, fu⟩ L_x_to_v4_0 ls μ) fu' [some (.v (.int n)), some (.v (.int f)), some (.v (.int o))] μ = .ok (.nx, [some (.v (.int 0)), some (.v (.int ((Crc.xtG j n f o : Nat) : Int))), some (.v (.int o'))]) μ := by
    intro j
    induction j with
    | zero =>
      intro n f o fu' h0 h1
      obtain ⟨fu', rfl⟩ := Nat.exists_eq_add_of_le' h1
      have : n = 0 := by simpa using h0
      subst this
      exact ⟨o, by simp [whl, Crc.xtG]⟩
    | succ j ih =>
      intro n f o fu' h0 h1
      obtain ⟨fu', rfl⟩ := Nat.exists_eq_add_of_le' h1
      rw [show fu' + (j + 1 + 1) = (fu' + (j + 1)) + 1 by omega]
      by_cases hn : n = 0
      · subst hn
        exact ⟨o, by simp [whl, Crc.xtG]⟩
      · have hp : (0 : Int) < (n : Int) := by omega
        have hh : n / 2 < 2 ^ j := by rw [Nat.pow_succ] at h0; omega
        obtain ⟨o', e⟩ := ih (n / 2) (if n % 2 = 1 then Crc.tm f o else f) (Crc.tm o o) (fu' + (j + 1)) hh (by omega)
        refine ⟨o', ?_⟩
        have body : ex ⟨run T con fu (k + 2), con, fu⟩ L_x_to_v4_0 [some (.v (.int n)), some (.v (.int f)), some (.v (.int o))] μ = .ok (.nx, [some (.v (.int ((n / 2 : Nat) : Int))), some (.v (.int ((if n % 2 = 1 then Crc.tm f o else f : Nat) : Int))), some (.v (.int ((Crc.tm o o : Nat) : Int)))]) μ := by
          by_cases hb : n % 2 = 1
          · simp only [L_x_to_v4_0]
            simp [mod2N, eq1N, hb, times_ok hT h (k := k + 2) (by omega) (show 33 ≤ fu by omega), fdiv2N, -Int.natCast_ediv, -Int.natCast_emod]
          · simp only [L_x_to_v4_0]
            simp [mod2N, eq1N, hb, times_ok hT h (k := k + 2) (by omega) (show 33 ≤ fu by omega), fdiv2N, -Int.natCast_ediv, -Int.natCast_emod]
        rw [whl_t (μ1 := μ) (by simp only [ev_cmp, ev_var, ev_int, lvR_s, lvR_0, R.bind_ok, opt2_vv, cmpR_gtI, opt_some, toB_v, decide_eq_true hp]) body, e]
        simp only [Crc.xtG, if_neg hn]
  obtain ⟨o', e⟩ := key 64 n Crc.E1 1073741824 fu (by omega) hfu
  have ex1 : Crc.xtG 64 n Crc.E1 1073741824 = Crc.sh n Crc.E1 := by
    have := Crc.xtG_ok 64 n 0 1 (by omega)
    rw [Crc.sh_E1_1, Nat.zero_add, Nat.one_mul, Crc.sh_0] at this
    exact this
  rw [ex1] at e
  have e5 : bin .fdiv (.int 4294967296) (.int 2) = some (.v (.int ((Crc.E1 : Nat) : Int))) := by rw [bin_fdivI (by decide) (by decide)]; rfl
  have e6 : bin .fdiv (.int 4294967296) (.int 4) = some (.v (.int ((1073741824 : Nat) : Int))) := by rw [bin_fdivI (by decide) (by decide)]; rfl
  have e7 : ex ⟨run T con fu (k + 2), con, fu⟩ (.whl (.cmp .gt (.var 0) (.int 0)) L_x_to_v4_0) [some (.v (.int n)), some (.v (.int ((Crc.E1 : Nat) : Int))), some (.v (.int ((1073741824 : Nat) : Int)))] μ = .ok (.nx, [some (.v (.int 0)), some (.v (.int ((Crc.sh n Crc.E1 : Nat) : Int))), some (.v (.int o'))]) μ := e
  simp only [F_x_to_v4, ex_seq, ex_par, evs_cons, evs_nil, ev_int, ev_bin, ev_con, hw, R.bind_ok, opt2_vv, e5, e6, opt_some, parA_v, parA_nil, seqR_nx, List.map_cons, List.map_nil, argL_v, List.cons_append, List.nil_append, List.replicate, List.set_cons_succ, List.set_cons_zero, Nat.reduceSub]
  rw [e7]
  simp
theorem ringjoined_ok (hT : HC T con) (h : T 330 = some F_times) (hx : T 949 = some F_x_to_v4) (hw : con 140 = .int 4294967296) (hj : T 950 = some F_ring_joined_v5) (hf : T 329 = some F_need_far) (hc : con 57 = .int 1000000000000000000) {a b m : Nat} (ha : a < 4294967296) (hb : b < 4294967296) (hm : m ≤ 1000000000000000000) (hk : 4 ≤ k) (hfu : 65 ≤ fu) :
    run T con fu k 950 [.v (.int a), .v (.int b), .v (.int m)] μ = .ok (.v (.int ((Crc.sh (8 * m) a ^^^ b : Nat) : Int))) μ := by
  obtain ⟨k, rfl⟩ := Nat.exists_eq_add_of_le' hk
  rw [run_succ hj rfl]
  have e8 : bin .mul (.int 8) (.int m) = some (.v (.int ((8 * m : Nat) : Int))) := by rw [bin_mulI (by simp [sml])]; simp
  have ex := xto_ok hT.toHG h hx hw (fu := fu) (k := k + 3) (μ := μ) (n := 8 * m) (by omega) (by omega) hfu
  have et := times_ok hT.toHG h (fu := fu) (k := k + 3) (μ := μ) (a := a) (b := Crc.sh (8 * m) Crc.E1) (by omega) (by omega)
  rw [Crc.tm_x ha] at et
  have ef := needfar_ok hT.toHO hf hc (fu := fu) (k := k + 3) (μ := μ) (m := (m : Int)) (by omega) (by omega) (by omega)
  simp only [F_ring_joined_v5]
  simp [needring_ok hT.toHG ha, needring_ok hT.toHG hb, ef, e8, -Int.natCast_mul, ex, et]
end
end ZL

/-! defs of the program as Z has them: printed by zgen.py -/
namespace ZL
open Z
def F__law_sum : Fn := ⟨1, 5, (.seq (.asg 1 (.bi .len (.cons (.var 0) .nil))) (.seq (.par [(2, false), (3, false)] (.cons (.bin .add (.int 1) (.bi .sum (.cons (.var 0) .nil))) (.cons (.bin .add (.var 1) (.bi .sum (.cons (.lc (.bin .mul (.bin .sub (.var 1) (.var 4)) (.idx (.var 0) (.var 4))) (.nm 4) (.rng (.int 0) (.var 1)) .nil) .nil))) .nil))) (.seq (.ret (.bin .add (.bin .mod (.bi .int (.cons (.var 2) .nil)) (.int 65521)) (.bin .mul (.bin .mod (.bi .int (.cons (.var 3) .nil)) (.int 65521)) (.int 65536)))) .skip)))⟩
def L__law_number_0 : S := (.seq (.asg 1 (.bin .add (.bin .mul (.int 2) (.var 1)) (.ite (.cmp .eq (.var 2) (.str [49])) (.int 1) (.int 0)))) .skip)
def F__law_number : Fn := ⟨1, 3, (.seq (.asg 1 (.int 0)) (.seq (.for (.nm 2) (.rvs (.var 0)) L__law_number_0) (.seq (.ret (.var 1)) .skip)))⟩
def L__law_bits_0 : S := (.seq (.par [(2, false), (0, false)] (.cons (.bin .add (.var 2) (.ite (.cmp .eq (.bin .mod (.bi .int (.cons (.var 0) .nil)) (.int 2)) (.int 1)) (.str [49]) (.str [48]))) (.cons (.bin .fdiv (.var 0) (.int 2)) .nil))) .skip)
def F__law_bits : Fn := ⟨2, 4, (.seq (.asg 2 (.str [])) (.seq (.for (.nm 3) (.rng (.int 0) (.var 1)) L__law_bits_0) (.seq (.ret (.var 2)) .skip)))⟩
def F__law_spread : Fn := ⟨1, 2, (.seq (.ret (.me .join (.str []) (.cons (.lc (.call 3 (.cons (.var 1) (.cons (.int 8) .nil))) (.nm 1) (.var 0) .nil) .nil))) .skip)⟩
def L__law_ring_v2_0 : S := (.seq (.setI (.var 1) (.bin .add (.var 3) (.var 5)) (.ite (.cmp .ne (.idx (.var 1) (.bin .add (.var 3) (.var 5))) (.idx (.var 2) (.var 5))) (.int 1) (.int 0))) .skip)
def L__law_ring_v2_1 : S := (.seq (.ife (.cmp .eq (.idx (.var 1) (.var 3)) (.int 1)) (.seq (.for (.nm 5) (.rng (.int 0) (.int 33)) L__law_ring_v2_0) .skip) .skip) .skip)
def F__law_ring_v2 : Fn := ⟨1, 6, (.seq (.mk 1 (.bin .add (.lc (.bi .int (.cons (.var 4) .nil)) (.nm 4) (.call 4 (.cons (.var 0) .nil)) .nil) (.bin .mul (.lst (.cons (.int 0) .nil)) (.int 32)))) (.seq (.mk 1 (.bin .add (.lc (.bin .sub (.int 1) (.var 4)) (.nm 4) (.slc (.var 1) .nil (.cons (.int 32) .nil)) .nil) (.slc (.var 1) (.cons (.int 32) .nil) .nil))) (.seq (.asg 2 (.lc (.bi .int (.cons (.var 4) .nil)) (.nm 4) (.str [49, 48, 48, 48, 48, 48, 49, 48, 48, 49, 49, 48, 48, 48, 48, 48, 49, 48, 48, 48, 49, 49, 49, 48, 49, 49, 48, 49, 49, 48, 49, 49, 49]) .nil)) (.seq (.for (.nm 3) (.rng (.int 0) (.bin .sub (.bi .len (.cons (.var 1) .nil)) (.int 32))) L__law_ring_v2_1) (.seq (.ret (.call 18 (.cons (.me .join (.str []) (.cons (.lc (.bi .str (.cons (.bin .sub (.int 1) (.var 4)) .nil)) (.nm 4) (.slc (.var 1) (.cons (.neg (.int 32)) .nil) .nil) .nil) .nil)) .nil))) .skip)))))⟩
structure HLck (T : Nat → Option Fn) (con : Nat → PV) : Prop where
  _law_sum : T 311 = some F__law_sum
  _law_number : T 18 = some F__law_number
  _law_bits : T 3 = some F__law_bits
  _law_spread : T 4 = some F__law_spread
  _law_ring_v2 : T 601 = some F__law_ring_v2
end ZL

set_option maxHeartbeats 4000000
/-! the laws' own helpers: bits, the ring by parting, sums by how often. -/
namespace ZL
open Z
/-! bits as truth values -/
def val : List Bool → Nat
  | [] => 0
  | b :: r => (if b then 1 else 0) + 2 * val r
def bitL : Nat → Nat → List Bool
  | 0, _ => []
  | m + 1, n => decide (n % 2 = 1) :: bitL m (n / 2)
def code (b : Bool) : Nat := if b then 49 else 48
def bitP (b : Bool) : PV := .int (if b then 1 else 0)
def xorP : List Bool → List Bool → List Bool
  | r, [] => r
  | [], _ => []
  | x :: r, y :: t => (x != y) :: xorP r t
theorem bitL_len : ∀ m n : Nat, (bitL m n).length = m
  | 0, _ => rfl
  | m + 1, n => by simp [bitL, bitL_len m]
theorem xorP_len : ∀ r t : List Bool, (xorP r t).length = r.length
  | [], [] => rfl
  | _ :: _, [] => rfl
  | [], _ :: _ => rfl
  | x :: r, y :: t => by simp [xorP, xorP_len r t]
theorem xor_bits (a b x y : Nat) (hx : x < 2) (hy : y < 2) : (x + 2 * a) ^^^ (y + 2 * b) = (if x = y then 0 else 1) + 2 * (a ^^^ b) := by
  have h1 : ((x + 2 * a) ^^^ (y + 2 * b)) / 2 = a ^^^ b := by
    rw [Nat.xor_div_two]
    congr 1 <;> omega
  have h2 := @Nat.xor_mod_two_eq_one (x + 2 * a) (y + 2 * b)
  generalize (x + 2 * a) ^^^ (y + 2 * b) = z at *
  generalize a ^^^ b = u at *
  split <;> omega
theorem val_xor : ∀ r t : List Bool, t.length ≤ r.length → val (xorP r t) = val r ^^^ val t
  | [], [], _ => rfl
  | x :: r, [], _ => by simp [xorP, val]
  | [], y :: t, h => by simp at h
  | x :: r, y :: t, h => by
    have ih := val_xor r t (by simpa using h)
    simp only [xorP, val, ih]
    rw [xor_bits _ _ _ _ (by cases x <;> decide) (by cases y <;> decide)]
    cases x <;> cases y <;> simp
theorem val_append : ∀ a b : List Bool, val (a ++ b) = val a + 2 ^ a.length * val b
  | [], b => by simp [val]
  | x :: a, b => by
    simp only [List.cons_append, val, val_append a b, List.length_cons, Nat.pow_succ]
    rw [Nat.mul_add, Nat.mul_comm (2 ^ a.length) 2, Nat.mul_assoc]
    omega
theorem val_bitL : ∀ m n : Nat, n < 2 ^ m → val (bitL m n) = n
  | 0, n, h => by simp [bitL, val]; simp at h; exact h.symm
  | m + 1, n, h => by
    have ih := val_bitL m (n / 2) (by rw [Nat.pow_succ] at h; omega)
    simp only [bitL, val, ih]
    by_cases hn : n % 2 = 1
    · simp [hn]; omega
    · simp [hn]; omega
theorem val_zeros : ∀ n : Nat, val (List.replicate n false) = 0
  | 0 => rfl
  | n + 1 => by simp [List.replicate_succ, val, val_zeros n]
def octB (xs : List Nat) : List Bool := xs.flatMap (bitL 8)
theorem octB_len : ∀ xs : List Nat, (octB xs).length = 8 * xs.length
  | [] => rfl
  | x :: xs => by
    have ih := octB_len xs
    unfold octB at *
    simp only [List.flatMap_cons, List.length_append, bitL_len, ih, List.length_cons]
    omega
theorem val_octB : ∀ xs : List Nat, (∀ x ∈ xs, x < 256) → val (octB xs) = Crc.numO xs
  | [], _ => rfl
  | x :: xs, h => by
    have ih := val_octB xs fun y hy => h y (List.mem_cons_of_mem _ hy)
    have hx := h x (List.mem_cons_self ..)
    unfold octB at *
    simp only [List.flatMap_cons, val_append, bitL_len, ih, Crc.numO, val_bitL 8 x (by simpa using hx)]
/-- the ring's own bits -/
def ringB : List Bool := [true, false, false, false, false, false, true, false, false, true, true, false, false, false, false, false, true, false, false, false, true, true, true, false, true, true, false, true, true, false, true, true, true]
def ringT : List Bool := ringB.tail
theorem ringT_val : val ringT = Crc.RING := by decide
/-- one bit parted -/
def stepB : List Bool → List Bool
  | [] => []
  | b :: r => if b then xorP r ringT else r
theorem stepB_len (b : Bool) (r : List Bool) : (stepB (b :: r)).length = r.length := by
  cases b <;> simp [stepB, xorP_len]
theorem stepB_val (b : Bool) (r : List Bool) (h : 32 ≤ r.length) : val (stepB (b :: r)) = Crc.st (val (b :: r)) := by
  cases b with
  | true =>
    simp only [stepB, if_true, val]
    rw [val_xor r ringT (by have : ringT.length = 32 := by decide
                            omega), ringT_val]
    unfold Crc.st
    rw [if_pos (by omega)]
    congr 1
    omega
  | false =>
    simp only [stepB, val, Bool.false_eq_true, if_false]
    unfold Crc.st
    rw [if_neg (by omega), Nat.xor_zero]
    omega
def stepsB : Nat → List Bool → List Bool
  | 0, r => r
  | n + 1, r => stepsB n (stepB r)
theorem stepsB_len : ∀ (n : Nat) (r : List Bool), n ≤ r.length → (stepsB n r).length = r.length - n
  | 0, r, _ => rfl
  | n + 1, [], h => by simp at h
  | n + 1, b :: r, h => by
    simp only [stepsB]
    rw [stepsB_len n _ (by rw [stepB_len]; simpa using h), stepB_len]
    simp
theorem stepsB_val : ∀ (n : Nat) (r : List Bool), n + 32 ≤ r.length → val (stepsB n r) = Crc.sh n (val r)
  | 0, r, _ => rfl
  | n + 1, [], h => by simp at h
  | n + 1, b :: r, h => by
    simp only [List.length_cons] at h
    simp only [stepsB, Crc.sh]
    rw [stepsB_val n _ (by rw [stepB_len]; omega), stepB_val _ _ (by omega)]
def flip (r : List Bool) : List Bool := r.map (!·)
theorem flip_xor : ∀ r : List Bool, flip r = xorP r (List.replicate r.length true)
  | [] => rfl
  | x :: r => by
    simp only [flip, List.map_cons, List.length_cons, List.replicate_succ, xorP] at *
    rw [← flip_xor r]
    cases x <;> rfl
theorem xorP_take : ∀ (r t : List Bool), t.length ≤ r.length → xorP r t = xorP (r.take t.length) t ++ r.drop t.length
  | [], [], _ => rfl
  | x :: r, [], _ => by simp [xorP]
  | [], y :: t, h => by simp at h
  | x :: r, y :: t, h => by
    simp only [xorP, List.length_cons, List.take_succ_cons, List.drop_succ_cons, List.cons_append]
    rw [xorP_take r t (by simpa using h)]
theorem val_ones : val (List.replicate 32 true) = Crc.ONES := by decide
/-- the row at its start: the first 32 bits exchanged -/
theorem row_val {r : List Bool} (h : 32 ≤ r.length) : val (flip (r.take 32) ++ r.drop 32) = val r ^^^ Crc.ONES := by
  have hl : (r.take 32).length = 32 := by rw [List.length_take]; omega
  have e := xorP_take r (List.replicate 32 true) (by simpa using h)
  rw [List.length_replicate] at e
  rw [flip_xor, hl, ← e, val_xor _ _ (by simpa using h), val_ones]
theorem flip_val {r : List Bool} (h : r.length = 32) : val (flip r) = val r ^^^ Crc.ONES := by
  rw [flip_xor, h, val_xor _ _ (by simp [h]), val_ones]
/-- the number that a text of bits tells -/
def nO : List Nat → Int
  | [] => 0
  | c :: r => (if c = 49 then 1 else 0) + 2 * nO r
theorem nO_code : ∀ r : List Bool, nO (r.map code) = (val r : Int)
  | [] => rfl
  | b :: r => by
    have ih := nO_code r
    cases b <;> simp [nO, val, ih, code]
def bF : Nat → Int → List Nat
  | 0, _ => []
  | m + 1, n => (if n % 2 = 1 then 49 else 48) :: bF m (n / 2)
theorem bF_bitL : ∀ m n : Nat, bF m (n : Int) = (bitL m n).map code
  | 0, _ => rfl
  | m + 1, n => by
    have ih := bF_bitL m (n / 2)
    simp only [bF, bitL, List.map_cons, code]
    have e : (n : Int) / 2 = ((n / 2 : Nat) : Int) := by simp
    rw [e, ih]
    congr 1
    by_cases h : n % 2 = 1
    · have : (n : Int) % 2 = 1 := by omega
      simp [h, this]
    · have : ¬ (n : Int) % 2 = 1 := by omega
      simp [h, this]
theorem bF_len (m : Nat) (n : Int) : (bF m n).length = m := by
  induction m generalizing n with
  | zero => rfl
  | succ m ih => simp [bF, ih]
def spreadF (xs : List Int) : List Nat := xs.flatMap (bF 8)
theorem spreadF_oct {xs : List Int} (h : Octs xs) : spreadF xs = (octB (nats xs)).map code := by
  unfold spreadF octB
  conv => lhs; rw [octs_nats h]
  rw [List.flatMap_map, List.map_flatMap]
  congr 1
  funext n
  exact bF_bitL 8 n
theorem spreadF_len : ∀ xs : List Int, (spreadF xs).length = 8 * xs.length
  | [] => rfl
  | x :: xs => by
    have ih := spreadF_len xs
    unfold spreadF at *
    simp only [List.flatMap_cons, List.length_append, bF_len, ih, List.length_cons]
    omega
/-- the number, the last sign first -/
def valI : List Nat → Int → Int
  | [], a => a
  | c :: r, a => valI r (2 * a + (if c = 49 then 1 else 0))
theorem valI_snoc : ∀ (s : List Nat) (c : Nat) (a : Int), valI (s ++ [c]) a = 2 * valI s a + (if c = 49 then 1 else 0)
  | [], c, a => rfl
  | x :: s, c, a => by
    simp only [List.cons_append, valI]
    exact valI_snoc s c _
theorem valI_rev : ∀ s : List Nat, valI s.reverse 0 = nO s
  | [] => rfl
  | c :: s => by
    rw [List.reverse_cons, valI_snoc, valI_rev s]
    simp only [nO]
    omega
theorem joined_nil : ∀ xs : List (List Nat), joined [] xs = xs.flatten
  | [] => rfl
  | [a] => by simp [joined]
  | a :: b :: r => by
    unfold joined
    rw [joined_nil (b :: r)]
    simp
section
variable {T : Nat → Option Fn} {con : Nat → PV} {fu k : Nat} {μ : Sto}
theorem lbits_ok (hT : T 3 = some F__law_bits) {num : Int} {m : Nat} (hm : m ≤ SZ) (hk : 1 ≤ k) : run T con fu k 3 [.v (.int num), .v (.int m)] μ = .ok (.v (.str (bF m num))) μ := by
  obtain ⟨k, rfl⟩ := Nat.exists_eq_add_of_le' hk
  rw [run_succ hT rfl]
  have key : ∀ (xs : List Nat) (g : Nat → PV) (num : Int) (found : List Nat) (t v1 : Option RV), found.length + xs.length ≤ SZ →
      ∃ t' n', loopL (fun x ls μ => ex ⟨run T con fu k, con, fu⟩ L__law_bits_0 (ls.set 3 (some (.v x))) μ) (xs.map g) [some (.v (.int num)), v1, some (.v (.str found)), t] μ = .ok (.nx, [some (.v (.int n')), v1, some (.v (.str (found ++ bF xs.length num))), t']) μ := by
    intro xs g
    induction xs with
    | nil => exact fun num found t v1 _ => ⟨t, num, by simp [loopL, bF]⟩
    | cons x xs ih =>
      intro num found t v1 hl
      simp only [List.length_cons] at hl
      obtain ⟨t', n', e⟩ := ih (num / 2) (found ++ [if num % 2 = 1 then 49 else 48]) (some (.v (g x))) v1 (by simp; omega)
      refine ⟨t', n', ?_⟩
      have hl2 : found.length + 1 ≤ SZ := by omega
      have : ex ⟨run T con fu k, con, fu⟩ L__law_bits_0 ([some (.v (.int num)), v1, some (.v (.str found)), t].set 3 (some (.v (g x)))) μ = .ok (.nx, [some (.v (.int (num / 2))), v1, some (.v (.str (found ++ [if num % 2 = 1 then 49 else 48]))), some (.v (g x))]) μ := by
        cases h2 : num % 2 == 1
        · have h3 : ¬ num % 2 = 1 := by simpa using h2
          simp [L__law_bits_0, bi, bin_modI, bin_fdivI, h2, h3, bin_addS, hl2]
        · have h3 : num % 2 = 1 := by simpa using h2
          simp [L__law_bits_0, bi, bin_modI, bin_fdivI, h2, h3, bin_addS, hl2]
      simp only [List.map_cons, loopL, this, turn, R.bind_ok]
      rw [e]
      simp [bF]
  have h62 := r62_nat hm
  obtain ⟨t', n', e⟩ := key (List.range m) (fun j : Nat => .int (0 + (j : Int))) num [] none (some (.v (.int m))) (by simpa using hm)
  simp [F__law_bits, rngR_ok h62.1 h62.2, loop_v (rng_items _ _)]
  simp at e
  rw [e]
  simp
theorem lspread_ok (hT : T 3 = some F__law_bits) (hS : T 4 = some F__law_spread) {xs : List Int} (hl : xs.length * 8 ≤ SZ) (hk : 2 ≤ k) : run T con fu k 4 [.v (.tup (xs.map .int))] μ = .ok (.v (.str (spreadF xs))) μ := by
  obtain ⟨k, rfl⟩ := Nat.exists_eq_add_of_le' hk
  rw [run_succ hS rfl]
  have h8 : (8 : Int) = ((8 : Nat) : Int) := rfl
  simp [F__law_spread]
  rw [lcl_of (g := PV.int) (xs := xs) rfl (fun x => .str (bF 8 x)) (fun x _ => by
    rw [h8, lbits_ok hT (by decide) (by omega)]
    simp) (by omega)]
  have hs := strsO_map (bF 8) xs
  have hsum : ∀ xs : List Int, ((xs.map (bF 8)).map (·.length)).sum = 8 * xs.length := fun xs => by
    induction xs with
    | nil => rfl
    | cons x xs ih => simp only [List.map_cons, List.sum_cons, ih, bF_len, List.length_cons]; omega
  have hz : ((xs.map (bF 8)).map (·.length)).sum + (xs.map (bF 8)).length * ([] : List Nat).length ≤ SZ := by
    rw [hsum]; simp; omega
  simp only [R.bind_ok, meR, keepA, rds_n, rds_nil, Option.map_some, me, hs, Me.chg]
  rw [if_pos hz]
  simp [joined_nil, spreadF, List.flatMap]
theorem lnum_ok (hT : T 18 = some F__law_number) {s : List Nat} (hl : s.length ≤ SZ) (hk : 1 ≤ k) : run T con fu k 18 [.v (.str s)] μ = .ok (.v (.int (nO s))) μ := by
  obtain ⟨k, rfl⟩ := Nat.exists_eq_add_of_le' hk
  rw [run_succ hT rfl]
  have key : ∀ (xs : List Nat) (t v0 : Option RV) (a : Int), ∃ t', loopL (fun x ls μ => ex ⟨run T con fu k, con, fu⟩ L__law_number_0 (ls.set 2 (some (.v x))) μ) (xs.map fun c => .str [c]) [v0, some (.v (.int a)), t] μ = .ok (.nx, [v0, some (.v (.int (valI xs a))), t']) μ := by
    intro xs
    induction xs with
    | nil => exact fun t v0 a => ⟨t, rfl⟩
    | cons x xs ih =>
      intro t v0 a
      obtain ⟨t', e⟩ := ih (some (.v (.str [x]))) v0 (2 * a + (if x = 49 then 1 else 0))
      refine ⟨t', ?_⟩
      have : ex ⟨run T con fu k, con, fu⟩ L__law_number_0 ([v0, some (.v (.int a)), t].set 2 (some (.v (.str [x])))) μ = .ok (.nx, [v0, some (.v (.int (2 * a + (if x = 49 then 1 else 0)))), some (.v (.str [x]))]) μ := by
        have e : bin .mul (.int 2) (.int a) = some (.v (.int (2 * a))) := bin_mulI (by simp [sml])
        by_cases h2 : x = 49
        · simp [L__law_number_0, h2, e]
        · have h3 : (x == 49) = false := by simpa using h2
          simp [L__law_number_0, h2, h3, e]
      simp only [List.map_cons, loopL, this, turn, R.bind_ok]
      rw [e]
      rfl
  obtain ⟨t', e⟩ := key s.reverse none (some (.v (.str s))) 0
  rw [valI_rev] at e
  simp [F__law_number, rvs, hl, loop_v (items_s _)]
  rw [← List.map_reverse]
  rw [e]
  simp
theorem lsum_ok (hT : T 311 = some F__law_sum) {xs : List Int} (h : Octs xs) (hl : xs.length ≤ 70000) (hk : 1 ≤ k) : run T con fu k 311 [.v (.tup (xs.map .int))] μ = .ok (.v (.int (sumF xs))) μ := by
  obtain ⟨k, rfl⟩ := Nat.exists_eq_add_of_le' hk
  rw [run_succ hT rfl]
  have hz : xs.length ≤ SZ := by unfold SZ; omega
  have h62 := r62_nat hz
  have e1 : ∀ xs : List Int, intsO (xs.map .int) = some xs := fun xs => by
    have := intsO_map (fun x : Int => x) xs
    simpa using this
  have e2 : lcl (.v (rng 0 (xs.length : Int))) (fun x μ => match asgT (.nm 4) x (wipeL [some (.v (.tup (xs.map .int))), some (.v (.int xs.length)), none, none, none] (tgN (.nm 4))) with
      | some ls' => (evc ⟨run T con fu k, con, fu⟩ .nil ls' μ).bind fun b μ1 => iteB b ((ev ⟨run T con fu k, con, fu⟩ (.bin .mul (.bin .sub (.var 1) (.var 4)) (.idx (.var 0) (.var 4))) ls' μ1).bind fun r μ2 => opt ((kp r).map some) μ2) (.ok none μ1)
      | none => .no) μ = .ok (.new (.lst ((List.range xs.length).map fun j : Nat => .int (((xs.length : Int) - (j : Int)) * xs.getD j 0)))) μ := by
    rw [lcl_of (rng_items 0 xs.length) (fun j : Nat => .int (((xs.length : Int) - (j : Int)) * xs.getD j 0)) (fun j hj => by
      have hj : j < xs.length := by simpa using hj
      have e : (0 : Int) + (j : Int) = (j : Int) := by omega
      have ha : atI (xs.map PV.int) (j : Int) = some (.int xs[j]) := by rw [atI_nat (by simpa using hj)]; simp
      have hg : xs.getD j 0 = xs[j] := by simp [hj]
      have ho := h _ (List.getElem_mem hj)
      have em : bin .mul (.int ((xs.length : Int) - (j : Int))) (.int xs[j]) = some (.v (.int (((xs.length : Int) - (j : Int)) * xs[j]))) := bin_mulI (by simp [sml]; omega)
      rw [e, hg]
      simp [ha, em]) (by simp; exact hz)]
    simp
  have e3 : ∀ xs : List Int, ((List.range xs.length).map fun j : Nat => (((xs.length : Int) - (j : Int)) * xs.getD j 0)).sum = S2 xs := fun xs => by
    induction xs with
    | nil => rfl
    | cons x xs ih =>
      rw [List.length_cons, List.range_succ_eq_map, List.map_cons, List.sum_cons, List.map_map, S2, ← ih]
      have e0 : (((xs.length + 1 : Nat) : Int) - ((0 : Nat) : Int)) * (x :: xs).getD 0 0 = ((xs.length : Int) + 1) * x := by simp
      have e1 : ∀ j : Nat, (((xs.length + 1 : Nat) : Int) - ((j + 1 : Nat) : Int)) * (x :: xs).getD (j + 1) 0 = ((xs.length : Int) - (j : Int)) * xs.getD j 0 := fun j => by
        rw [List.getD_cons_succ]
        congr 1
        omega
      rw [e0]
      congr 2
      exact List.map_congr_left fun j hj => e1 j
  have e4 : intsO ((List.range xs.length).map fun j : Nat => PV.int (((xs.length : Int) - (j : Int)) * xs.getD j 0)) = some ((List.range xs.length).map fun j : Nat => (((xs.length : Int) - (j : Int)) * xs.getD j 0)) := intsO_map (fun j : Nat => (((xs.length : Int) - (j : Int)) * xs.getD j 0)) _
  have e5 : bin .mul (.int (((xs.length : Int) + S2 xs) % 65521)) (.int 65536) = some (.v (.int (((xs.length : Int) + S2 xs) % 65521 * 65536))) := bin_mulI (by simp [sml])
  simp only [F__law_sum, ex_seq, ex_asg, ex_par, ex_ret, ev_bi, ev_bin, evs_cons, evs_nil, ev_var, ev_int, ev_lc, ev_rng, lvR_0, lvR_s, R.bind_ok, biR_1, List.map_cons, List.map_nil, argL_v, List.cons_append, List.nil_append, List.replicate, Nat.reduceSub]
  simp [bi, e1, rngR_ok h62.1 h62.2]
  simp at e2
  rw [e2]
  simp at e3 e4
  simp [bi, e4, e3, bin_modI, e5, sumF, ck]
end
end ZL

/-! defs of the program as Z has them: printed by zgen.py -/
namespace ZL
open Z
def F_fits_lengths : Fn := ⟨1, 2, (.seq (.ret (.and (.call 12 (.cons (.var 0) (.cons (.int 1) (.cons (.con 8) .nil)))) (.bi .all (.cons (.lc (.call 6 (.cons (.var 1) (.cons (.int 0) (.cons (.con 9) .nil)))) (.nm 1) (.var 0) .nil) .nil)))) .skip)⟩
def F_need_lengths : Fn := ⟨1, 1, (.seq (.ife (.not (.call 55 (.cons (.var 0) .nil))) (.seq (.raise 0 .nil) .skip) .skip) .skip)⟩
def F_room_in : Fn := ⟨1, 2, (.seq (.ret (.bi .sum (.cons (.lc (.idx (.con 10) (.var 1)) (.nm 1) (.var 0) (.cons (.cmp .gt (.var 1) (.int 0)) .nil)) .nil))) .skip)⟩
def F_kind_in : Fn := ⟨1, 4, (.seq (.asg 1 (.lc (.var 3) (.nm 3) (.var 0) (.cons (.cmp .gt (.var 3) (.int 0)) .nil))) (.seq (.asg 2 (.call 57 (.cons (.var 1) .nil))) (.seq (.ife (.cmp .eq (.var 1) (.lst .nil)) (.seq (.ret (.str [110, 111, 110, 101])) .skip) .skip) (.seq (.ife (.cmp .eq (.var 1) (.lst (.cons (.int 1) .nil))) (.seq (.ret (.str [111, 110, 101])) .skip) .skip) (.seq (.ret (.ite (.cmp .eq (.var 2) (.con 11)) (.str [119, 104, 111, 108, 101]) (.ite (.cmp .gt (.var 2) (.con 11)) (.str [111, 118, 101, 114]) (.str [115, 104, 111, 114, 116])))) .skip)))))⟩
def F_need_codes : Fn := ⟨1, 1, (.seq (.expr (.call 56 (.cons (.var 0) .nil))) (.seq (.ife (.cmp .isin (.call 58 (.cons (.var 0) .nil)) (.tup (.cons (.str [111, 118, 101, 114]) (.cons (.str [110, 111, 110, 101]) .nil)))) (.seq (.raise 0 .nil) .skip) .skip) .skip))⟩
def L_code_bits_0 : S := (.seq (.par [(2, false), (0, false)] (.cons (.bin .add (.ite (.cmp .eq (.bin .mod (.var 0) (.int 2)) (.int 1)) (.str [49]) (.str [48])) (.var 2)) (.cons (.bin .fdiv (.var 0) (.int 2)) .nil))) .skip)
def F_code_bits : Fn := ⟨2, 4, (.seq (.asg 2 (.str [])) (.seq (.for (.nm 3) (.rng (.int 0) (.var 1)) L_code_bits_0) (.seq (.ret (.var 2)) .skip)))⟩
def L_codes_in_0 : S := (.seq (.par [(2, false), (3, false)] (.cons (.bin .mul (.var 2) (.call 7 (.cons (.bin .sub (.var 4) (.var 3)) .nil))) (.cons (.var 4) .nil))) (.seq (.setI (.var 1) (.var 5) (.call 61 (.cons (.var 2) (.cons (.var 4) .nil)))) (.seq (.asg 2 (.bin .add (.var 2) (.int 1))) .skip)))
def F_codes_in : Fn := ⟨1, 7, (.seq (.par [(1, true), (2, false), (3, false)] (.cons .dnew (.cons (.int 0) (.cons (.int 0) .nil)))) (.seq (.for (.cons (.nm 4) (.cons (.nm 5) .nil)) (.bi .sorted (.cons (.lc (.tup (.cons (.var 6) (.cons (.var 5) .nil))) (.cons (.nm 5) (.cons (.nm 6) .nil)) (.enum (.var 0)) (.cons (.cmp .gt (.var 6) (.int 0)) .nil)) .nil)) L_codes_in_0) (.seq (.ret (.var 1)) .skip)))⟩
def F_put : Fn := ⟨2, 4, (.seq (.expr (.call 60 (.cons (.var 0) .nil))) (.seq (.asg 2 (.call 62 (.cons (.var 0) .nil))) (.seq (.ife (.or (.not (.call 12 (.cons (.var 1) (.cons (.int 0) (.cons (.int 4096) .nil))))) (.not (.bi .all (.cons (.lc (.call 6 (.cons (.var 3) (.cons (.int 0) (.cons (.bin .sub (.bi .len (.cons (.var 0) .nil)) (.int 1)) .nil)))) (.nm 3) (.var 1) .nil) .nil)))) (.seq (.raise 0 .nil) .skip) .skip) (.seq (.ife (.not (.bi .all (.cons (.lc (.cmp .isin (.var 3) (.var 2)) (.nm 3) (.var 1) .nil) .nil))) (.seq (.raise 0 .nil) .skip) .skip) (.seq (.ret (.me .join (.str []) (.cons (.lc (.idx (.var 2) (.var 3)) (.nm 3) (.var 1) .nil) .nil))) .skip)))))⟩
def F_tree_in : Fn := ⟨1, 3, (.seq (.asg 1 (.call 62 (.cons (.var 0) .nil))) (.seq (.ret (.dc false (.idx (.var 1) (.var 2)) (.var 2) (.nm 2) (.var 1) .nil)) .skip))⟩
def L_got_0 : S := (.seq (.par [(5, false), (6, false)] (.cons (.bin .add (.var 5) (.ite (.cmp .lt (.var 6) (.int 15)) (.var 2) (.str []))) (.cons (.bin .add (.var 6) (.int 1)) .nil))) (.seq (.ife (.and (.cmp .lt (.var 6) (.int 16)) (.cmp .isin (.var 5) (.var 3))) (.seq (.expr (.me .append (.var 4) (.cons (.idx (.var 3) (.var 5)) .nil))) (.seq (.tgt (.cons (.nm 5) (.cons (.nm 6) .nil)) (.tup (.cons (.str []) (.cons (.int 0) .nil)))) .skip)) .skip) .skip))
def F_got : Fn := ⟨2, 7, (.seq (.expr (.call 60 (.cons (.var 0) .nil))) (.seq (.expr (.call 15 (.cons (.var 1) .nil))) (.seq (.par [(3, false), (4, true), (5, false), (6, false)] (.cons (.call 74 (.cons (.var 0) .nil)) (.cons (.lst .nil) (.cons (.str []) (.cons (.int 0) .nil))))) (.seq (.for (.nm 2) (.var 1) L_got_0) (.seq (.ret (.tup (.cons (.bi .tuple (.cons (.var 4) .nil)) (.cons (.var 6) .nil)))) .skip)))))⟩
def F_kind : Fn := ⟨1, 1, (.seq (.expr (.call 56 (.cons (.var 0) .nil))) (.seq (.ret (.call 58 (.cons (.var 0) .nil))) .skip))⟩
structure HCode (T : Nat → Option Fn) (con : Nat → PV) : Prop where
  fits_lengths : T 55 = some F_fits_lengths
  need_lengths : T 56 = some F_need_lengths
  room_in : T 57 = some F_room_in
  kind_in : T 58 = some F_kind_in
  need_codes : T 60 = some F_need_codes
  code_bits : T 61 = some F_code_bits
  codes_in : T 62 = some F_codes_in
  put : T 76 = some F_put
  tree_in : T 74 = some F_tree_in
  got : T 75 = some F_got
  kind : T 59 = some F_kind
  c_SIGNS : con 8 = (.int 320)
  c_MOST : con 9 = (.int 15)
  c_ROOMS : con 10 = (.tup [(.int 32768), (.int 16384), (.int 8192), (.int 4096), (.int 2048), (.int 1024), (.int 512), (.int 256), (.int 128), (.int 64), (.int 32), (.int 16), (.int 8), (.int 4), (.int 2), (.int 1)])
  c_WHOLE : con 11 = (.int 32768)
end ZL

/-! defs of the program as Z has them: printed by zgen.py -/
namespace ZL
open Z
def L__law_codes_0 : S := (.seq (.asg 1 (.idx (.var 0) (.var 3))) (.seq (.ife (.cmp .gt (.var 1) (.int 0)) (.seq (.setI (.var 2) (.rvs (.call 3 (.cons (.idx (.var 4) (.var 1)) (.cons (.var 1) .nil)))) (.var 3)) (.seq (.setI (.var 4) (.var 1) (.bin .add (.idx (.var 4) (.var 1)) (.int 1))) .skip)) .skip) .skip))
def L__law_codes_1 : S := (.seq (.asg 5 (.bin .mul (.int 2) (.bin .add (.var 5) (.bi .len (.cons (.lc (.int 1) (.nm 6) (.var 0) (.cons (.and (.cmp .eq (.var 6) (.bin .sub (.var 1) (.int 1))) (.cmp .gt (.var 6) (.int 0))) .nil)) .nil))))) (.seq (.setI (.var 4) (.var 1) (.var 5)) .skip))
def F__law_codes : Fn := ⟨1, 7, (.seq (.par [(4, true), (5, false)] (.cons .dnew (.cons (.int 0) .nil))) (.seq (.for (.nm 1) (.rng (.int 1) (.int 16)) L__law_codes_1) (.seq (.mk 2 .dnew) (.seq (.for (.nm 3) (.rng (.int 0) (.bi .len (.cons (.var 0) .nil))) L__law_codes_0) (.seq (.ret (.var 2)) .skip)))))⟩
def F__law_room : Fn := ⟨1, 2, (.seq (.ret (.bi .sum (.cons (.lc (.call 18 (.cons (.bin .add (.bin .mul (.str [48]) (.bin .sub (.int 15) (.var 1))) (.str [49])) .nil)) (.nm 1) (.var 0) (.cons (.cmp .gt (.var 1) (.int 0)) .nil)) .nil))) .skip)⟩
def F__law_kind : Fn := ⟨1, 4, (.seq (.par [(1, false), (2, false)] (.cons (.lc (.var 3) (.nm 3) (.var 0) (.cons (.cmp .gt (.var 3) (.int 0)) .nil)) (.cons (.call 53 (.cons (.var 0) .nil)) .nil))) (.seq (.ife (.or (.cmp .eq (.var 1) (.lst .nil)) (.cmp .eq (.var 1) (.lst (.cons (.int 1) .nil)))) (.seq (.ret (.ite (.cmp .eq (.var 1) (.lst .nil)) (.str [110, 111, 110, 101]) (.str [111, 110, 101]))) .skip) .skip) (.seq (.ret (.ite (.cmp .eq (.var 2) (.int 32768)) (.str [119, 104, 111, 108, 101]) (.ite (.cmp .gt (.var 2) (.int 32768)) (.str [111, 118, 101, 114]) (.str [115, 104, 111, 114, 116])))) .skip)))⟩
def F__law_roll_v5 : Fn := ⟨2, 4, (.seq (.ife (.cmp .gt (.idx (.var 0) (.int 0)) (.int 0)) (.seq (.asg 3 (.bin .mod (.bi .int (.cons (.idx (.var 0) (.int 0)) .nil)) (.var 1))) (.seq (.setI (.var 0) (.int 0) (.bin .fdiv (.idx (.var 0) (.int 0)) (.var 1))) (.seq (.ret (.var 3)) .skip))) .skip) (.seq (.setI (.var 0) (.int 1) (.bin .mod (.bi .int (.cons (.bin .add (.bin .mul (.idx (.var 0) (.int 1)) (.int 30869)) (.int 7873)) .nil)) (.int 2147483399))) (.seq (.asg 2 (.bin .mod (.bi .int (.cons (.bin .mul (.idx (.var 0) (.int 1)) (.bin .add (.idx (.var 0) (.int 1)) (.int 227))) .nil)) (.int 2147483563))) (.seq (.ret (.bin .mod (.bi .int (.cons (.bin .fdiv (.var 2) (.int 809)) .nil)) (.var 1))) .skip))))⟩
def L__law_turned_v2_0 : S := (.seq (.expr (.me .append (.var 4) (.cons (.me .pop1 (.var 3) (.cons (.call 69 (.cons (.var 0) (.cons (.bi .len (.cons (.var 3) .nil)) .nil))) .nil)) .nil))) .skip)
def F__law_turned_v2 : Fn := ⟨2, 5, (.seq (.par [(3, true), (4, true)] (.cons (.bi .list (.cons (.var 1) .nil)) (.cons (.lst .nil) .nil))) (.seq (.for (.nm 2) (.rng (.int 0) (.bi .len (.cons (.var 3) .nil))) L__law_turned_v2_0) (.seq (.ret (.bi .tuple (.cons (.var 4) .nil))) .skip)))⟩
def F__law_some_v4 : Fn := ⟨2, 2, (.seq (.ret (.idx (.var 1) (.call 69 (.cons (.var 0) (.cons (.bi .len (.cons (.var 1) .nil)) .nil))))) .skip)⟩
def L__law_shape_v2_0 : S := (.seq (.asg 4 (.lc (.var 5) (.nm 5) (.rng (.int 0) (.bi .len (.cons (.var 3) .nil))) (.cons (.cmp .lt (.idx (.var 3) (.var 5)) (.var 2)) .nil))) (.seq (.asg 5 (.call 71 (.cons (.var 0) (.cons (.var 4) .nil)))) (.seq (.asg 3 (.bin .add (.bin .add (.slc (.var 3) .nil (.cons (.var 5) .nil)) (.lst (.cons (.bin .add (.idx (.var 3) (.var 5)) (.int 1)) (.cons (.bin .add (.idx (.var 3) (.var 5)) (.int 1)) .nil)))) (.slc (.var 3) (.cons (.bin .add (.var 5) (.int 1)) .nil) .nil))) .skip)))
def F__law_shape_v2 : Fn := ⟨3, 6, (.seq (.asg 3 (.lst (.cons (.int 1) (.cons (.int 1) .nil)))) (.seq (.whl (.cmp .lt (.bi .len (.cons (.var 3) .nil)) (.var 1)) L__law_shape_v2_0) (.seq (.ret (.var 3)) .skip)))⟩
def L__law_dealt_v2_0 : S := (.seq (.setI (.var 4) (.var 6) (.var 7)) .skip)
def F__law_dealt_v2 : Fn := ⟨4, 8, (.seq (.par [(4, true), (5, false)] (.cons (.bin .mul (.lst (.cons (.int 0) .nil)) (.var 2)) (.cons (.ite (.cmp .eq (.bi .len (.cons (.var 1) .nil)) (.int 1)) (.lst (.cons (.int 1) .nil)) (.ite (.cmp .ne (.var 1) (.lst .nil)) (.call 70 (.cons (.var 0) (.cons (.call 72 (.cons (.var 0) (.cons (.bi .len (.cons (.var 1) .nil)) (.cons (.var 3) .nil)))) .nil))) (.lst .nil))) .nil))) (.seq (.for (.cons (.nm 6) (.cons (.nm 7) .nil)) (.zip (.var 1) (.var 5)) L__law_dealt_v2_0) (.seq (.ret (.var 4)) .skip)))⟩
structure HLcd (T : Nat → Option Fn) (con : Nat → PV) : Prop where
  _law_codes : T 65 = some F__law_codes
  _law_room : T 53 = some F__law_room
  _law_kind : T 54 = some F__law_kind
  _law_roll_v5 : T 69 = some F__law_roll_v5
  _law_turned_v2 : T 70 = some F__law_turned_v2
  _law_some_v4 : T 71 = some F__law_some_v4
  _law_shape_v2 : T 72 = some F__law_shape_v2
  _law_dealt_v2 : T 73 = some F__law_dealt_v2
end ZL

/-! canonical codes: laid one behind another in 2^15, by length, then by sign. -/
namespace ZL
open Z

/-- a number as so many bits, the greatest first -/
def cT : Nat → Nat → List Nat
  | 0, _ => []
  | m + 1, c => cT m (c / 2) ++ [if c % 2 = 1 then 49 else 48]
theorem cT_bF : ∀ (m c : Nat), (bF m (c : Int)).reverse = cT m c
  | 0, _ => rfl
  | m + 1, c => by
    have e : (c : Int) / 2 = ((c / 2 : Nat) : Int) := by simp
    simp only [bF, List.reverse_cons, e, cT_bF m (c / 2), cT]
    congr 2
    by_cases h : c % 2 = 1
    · have : (c : Int) % 2 = 1 := by omega
      simp [h, this]
    · have : ¬ (c : Int) % 2 = 1 := by omega
      simp [h, this]
theorem cT_len : ∀ (m c : Nat), (cT m c).length = m
  | 0, _ => rfl
  | m + 1, c => by simp [cT, cT_len m]
theorem cT_take : ∀ (m c j : Nat), j ≤ m → (cT m c).take j = cT j (c / 2 ^ (m - j))
  | 0, c, j, h => by
    obtain rfl : j = 0 := by omega
    rfl
  | m + 1, c, j, h => by
    by_cases hj : j = m + 1
    · subst hj
      rw [List.take_of_length_le (by rw [cT_len]; omega)]
      simp
    · have hj : j ≤ m := by omega
      rw [cT, List.take_append_of_le_length (by rw [cT_len]; exact hj), cT_take m (c / 2) j hj, Nat.div_div_eq_div_mul, show m + 1 - j = (m - j) + 1 by omega, Nat.pow_succ, Nat.mul_comm]
theorem cT_inj : ∀ (m c d : Nat), c < 2 ^ m → d < 2 ^ m → cT m c = cT m d → c = d
  | 0, c, d, h1, h2, _ => by simp at h1 h2; omega
  | m + 1, c, d, h1, h2, h => by
    rw [Nat.pow_succ] at h1 h2
    simp only [cT] at h
    have hl : (cT m (c / 2)).length = (cT m (d / 2)).length := by rw [cT_len, cT_len]
    obtain ⟨e1, e2⟩ := List.append_inj h hl
    have := cT_inj m (c / 2) (d / 2) (by omega) (by omega) e1
    have e3 : c % 2 = d % 2 := by
      have : (if c % 2 = 1 then 49 else 48) = (if d % 2 = 1 then (49 : Nat) else 48) := by simpa using e2
      split at this <;> split at this <;> omega
    omega
/-- signs of bits -/
def Bts (x : List Nat) : Prop := ∀ c ∈ x, c = 48 ∨ c = 49
theorem cT_bts : ∀ (m c : Nat), Bts (cT m c)
  | 0, _ => fun _ h => by cases h
  | m + 1, c => fun y hy => by
    rcases List.mem_append.mp hy with h | h
    · exact cT_bts m _ y h
    · have : y = if c % 2 = 1 then 49 else 48 := by simpa using h
      split at this <;> omega
/-- a text of bits by its number -/
def vB (x : List Nat) : Nat := x.foldl (fun a c => 2 * a + if c = 49 then 1 else 0) 0
theorem vB_snoc (x : List Nat) (c : Nat) : vB (x ++ [c]) = 2 * vB x + if c = 49 then 1 else 0 := by
  unfold vB
  rw [List.foldl_append]
  rfl
theorem vB_lt : ∀ (n : Nat) (x : List Nat), x.length = n → vB x < 2 ^ n ∧ (Bts x → cT n (vB x) = x)
  | 0, x, h => by
    obtain rfl := List.eq_nil_of_length_eq_zero h
    exact ⟨by decide, fun _ => rfl⟩
  | n + 1, x, h => by
    rcases List.eq_nil_or_concat x with rfl | ⟨y, c, rfl⟩
    · cases h
    · simp only [List.concat_eq_append, List.length_append, List.length_cons, List.length_nil] at h ⊢
      obtain ⟨i1, i2⟩ := vB_lt n y (by omega)
      rw [vB_snoc]
      refine ⟨?_, fun hb => ?_⟩
      · rw [Nat.pow_succ]
        split <;> omega
      · have hy := i2 fun z hz => hb z (List.mem_append_left _ hz)
        have hc := hb c (by simp)
        have e1 : (2 * vB y + if c = 49 then 1 else 0) / 2 = vB y := by split <;> omega
        rw [cT, e1, hy]
        congr 2
        rcases hc with rfl | rfl
        · simp
        · simp
/-! ### laid one behind another -/
/-- what a code of so many bits takes of 2^15 -/
abbrev rm (m : Nat) : Nat := 2 ^ (15 - m)
def rms (L : List (Nat × Nat)) : Nat := (L.map fun p => rm p.1).sum
def lay : Nat → List (Nat × Nat) → List (Nat × List Nat)
  | _, [] => []
  | S, (m, s) :: L => (s, cT m (S / rm m)) :: lay (S + rm m) L
/-- lengths from 1 to 15, ascending, from a place that they part -/
structure Lay (S : Nat) (L : List (Nat × Nat)) : Prop where
  asc : L.Pairwise fun p q => p.1 ≤ q.1
  rng : ∀ p ∈ L, 1 ≤ p.1 ∧ p.1 ≤ 15
  dvd : ∀ p ∈ L, rm p.1 ∣ S
theorem rm_dvd {m n : Nat} (h : m ≤ n) : rm n ∣ rm m := Nat.pow_dvd_pow 2 (by omega)
theorem rm_pos (m : Nat) : 0 < rm m := Nat.two_pow_pos _
theorem rm_mul {m n : Nat} (h : m ≤ n) (h2 : n ≤ 15) : 2 ^ (n - m) * rm n = rm m := by
  unfold rm
  rw [← Nat.pow_add]
  congr 1
  omega
theorem rm_15 {m : Nat} (h : m ≤ 15) : 2 ^ m * rm m = 32768 := by
  unfold rm
  rw [← Nat.pow_add, show m + (15 - m) = 15 by omega]
theorem Lay.tail {S m s : Nat} {L : List (Nat × Nat)} (h : Lay S ((m, s) :: L)) : Lay (S + rm m) L :=
  ⟨(List.pairwise_cons.mp h.asc).2, fun p hp => h.rng p (List.mem_cons_of_mem _ hp), fun p hp => Nat.dvd_add (h.dvd p (List.mem_cons_of_mem _ hp)) (rm_dvd ((List.pairwise_cons.mp h.asc).1 p hp))⟩
/-- what a laid code is -/
theorem lay_mem : ∀ {L : List (Nat × Nat)} {S : Nat}, Lay S L → ∀ p ∈ lay S L, ∃ m v, (m, p.1) ∈ L ∧ p.2 = cT m v ∧ S ≤ v * rm m ∧ (v + 1) * rm m ≤ S + rms L
  | [], _, _, p, hp => by cases hp
  | (m, s) :: L, S, h, p, hp => by
    have hr : rms ((m, s) :: L) = rm m + rms L := by simp [rms]
    obtain ⟨q, hq⟩ := h.dvd (m, s) (List.mem_cons_self ..)
    have e : S / rm m = q := by rw [hq]; exact Nat.mul_div_cancel_left _ (rm_pos m)
    rcases List.mem_cons.mp hp with rfl | hp
    · refine ⟨m, S / rm m, List.mem_cons_self .., rfl, ?_, ?_⟩
      · rw [e, hq, Nat.mul_comm]; exact Nat.le_refl _
      · rw [e, hr, Nat.add_mul, Nat.one_mul, Nat.mul_comm q, ← hq]
        omega
    · obtain ⟨m', v, h1, h2, h3, h4⟩ := lay_mem h.tail p hp
      exact ⟨m', v, List.mem_cons_of_mem _ h1, h2, by omega, by rw [hr]; omega⟩
theorem lay_lt {L : List (Nat × Nat)} {S : Nat} (h : Lay S L) (hS : S + rms L ≤ 32768) {m v : Nat} (hm : m ≤ 15) (hv : (v + 1) * rm m ≤ S + rms L) : v < 2 ^ m := by
  have : (v + 1) * rm m ≤ 2 ^ m * rm m := by rw [rm_15 hm]; omega
  have := Nat.le_of_mul_le_mul_right this (rm_pos m)
  omega
/-- no code begins another one -/
theorem lay_free : ∀ {L : List (Nat × Nat)} {S : Nat}, Lay S L → S + rms L ≤ 32768 → (lay S L).Pairwise fun p q => ¬ p.2 <+: q.2 ∧ ¬ q.2 <+: p.2
  | [], _, _, _ => .nil
  | (m, s) :: L, S, h, hS => by
    have hr : rms ((m, s) :: L) = rm m + rms L := by simp [rms]
    rw [hr] at hS
    refine .cons (fun p hp => ?_) (lay_free h.tail (by omega))
    obtain ⟨m', v, h1, h2, h3, h4⟩ := lay_mem h.tail p hp
    have hm := h.rng (m, s) (List.mem_cons_self ..)
    have hm' := h.rng (m', p.1) (List.mem_cons_of_mem _ h1)
    have hle : m ≤ m' := (List.pairwise_cons.mp h.asc).1 _ h1
    simp only at hm hm'
    obtain ⟨q, hq⟩ := h.dvd (m, s) (List.mem_cons_self ..)
    simp only at hq
    have e : S / rm m = q := by rw [hq]; exact Nat.mul_div_cancel_left _ (rm_pos m)
    have hv := lay_lt h.tail (by omega) hm'.2 h4
    have hq2 : q < 2 ^ m := by
      have : q * rm m < 2 ^ m * rm m := by rw [rm_15 hm.2, Nat.mul_comm, ← hq]; have := rm_pos m; omega
      exact Nat.lt_of_mul_lt_mul_right this
    have no : ¬ cT m q <+: p.2 := fun z => by
      rw [h2] at z
      have z1 := List.prefix_iff_eq_take.mp z
      rw [cT_len, cT_take m' v m hle] at z1
      have dv : v / 2 ^ (m' - m) < 2 ^ m := by
        rw [Nat.div_lt_iff_lt_mul (Nat.two_pow_pos _), ← Nat.pow_add]
        rw [show m + (m' - m) = m' by omega]
        exact hv
      have z2 := cT_inj m _ _ hq2 dv z1
      have z3 : (q + 1) * 2 ^ (m' - m) ≤ v := by
        have a : (q + 1) * 2 ^ (m' - m) * rm m' ≤ v * rm m' := by
          rw [Nat.mul_assoc, rm_mul hle hm'.2, Nat.add_mul, Nat.one_mul, Nat.mul_comm q, ← hq]
          exact h3
        exact Nat.le_of_mul_le_mul_right a (rm_pos m')
      have z4 : q + 1 ≤ v / 2 ^ (m' - m) := (Nat.le_div_iff_mul_le (Nat.two_pow_pos _)).mpr z3
      omega
    refine ⟨by rw [e]; exact no, fun z => ?_⟩
    rw [e] at z
    have l1 := z.length_le
    rw [h2, cT_len, cT_len] at l1
    have z' : p.2 = cT m q := z.eq_of_length (by rw [h2, cT_len, cT_len]; omega)
    exact no (by rw [z']; exact List.prefix_refl _)
/-- whole codes: each text of 15 bits begins with one -/
theorem lay_whole : ∀ {L : List (Nat × Nat)} {S : Nat}, Lay S L → S + rms L = 32768 → ∀ Y, S ≤ Y → Y < 32768 → ∃ p ∈ lay S L, p.2 <+: cT 15 Y
  | [], S, _, hS, Y, h1, h2 => by simp [rms] at hS; omega
  | (m, s) :: L, S, h, hS, Y, h1, h2 => by
    have hr : rms ((m, s) :: L) = rm m + rms L := by simp [rms]
    rw [hr] at hS
    have hm := h.rng (m, s) (List.mem_cons_self ..)
    obtain ⟨q, hq⟩ := h.dvd (m, s) (List.mem_cons_self ..)
    simp only at hm hq
    have e : S / rm m = q := by rw [hq]; exact Nat.mul_div_cancel_left _ (rm_pos m)
    by_cases hY : Y < S + rm m
    · refine ⟨_, List.mem_cons_self .., ?_⟩
      have e2 : Y / rm m = q := by
        refine Nat.div_eq_of_lt_le ?_ ?_
        · rw [Nat.mul_comm, ← hq]; exact h1
        · rw [Nat.add_mul, Nat.one_mul, Nat.mul_comm q, ← hq]; exact hY
      rw [e, List.prefix_iff_eq_take, cT_len, cT_take 15 Y m hm.2]
      exact congrArg _ e2.symm
    · obtain ⟨p, hp, h3⟩ := lay_whole h.tail (by omega) Y (by omega) h2
      exact ⟨p, List.mem_cons_of_mem _ hp, h3⟩
/-! ### the numbers of codes, in any order -/
def ltB (p q : Nat × Nat) : Bool := decide (p.1 < q.1) || (decide (p.1 = q.1) && decide (p.2 < q.2))
/-- what stands ahead of a code -/
def ahead (ps : List (Nat × Nat)) (q : Nat × Nat) : Nat := rms (ps.filter fun p => ltB p q)
def codeOf (ps : List (Nat × Nat)) (q : Nat × Nat) : Nat × List Nat := (q.2, cT q.1 (ahead ps q / rm q.1))
theorem rms_app (A B : List (Nat × Nat)) : rms (A ++ B) = rms A + rms B := by simp [rms]
theorem lay_codes : ∀ (B A : List (Nat × Nat)), (A ++ B).Pairwise (fun p q => ltB p q = true) → lay (rms A) B = B.map (codeOf (A ++ B))
  | [], A, _ => rfl
  | (m, s) :: B, A, h => by
    have ih := lay_codes B (A ++ [(m, s)]) (by simpa using h)
    have e1 : rms (A ++ [(m, s)]) = rms A + rm m := by rw [rms_app]; simp [rms]
    rw [e1] at ih
    have e2 : A ++ [(m, s)] ++ B = A ++ (m, s) :: B := by simp
    rw [e2] at ih
    simp only [lay, List.map_cons, ih, codeOf]
    have e3 : ahead (A ++ (m, s) :: B) (m, s) = rms A := by
      obtain ⟨_, hB, hAB⟩ := List.pairwise_append.mp h
      unfold ahead
      rw [List.filter_append, rms_app, List.filter_cons]
      have f1 : A.filter (fun p => ltB p (m, s)) = A := List.filter_eq_self.mpr fun p hp => hAB p hp _ (List.mem_cons_self ..)
      have f2 : B.filter (fun p => ltB p (m, s)) = [] := List.filter_eq_nil_iff.mpr fun p hp => by
        have := (List.pairwise_cons.mp hB).1 p hp
        unfold ltB at this ⊢
        simp only [Bool.or_eq_true, Bool.and_eq_true, decide_eq_true_eq] at this ⊢
        omega
      have f3 : ltB (m, s) (m, s) = false := by simp [ltB]
      rw [f1, f2, f3]
      simp [rms]
    rw [e3]
theorem rms_perm {A B : List (Nat × Nat)} (h : A.Perm B) : rms A = rms B := by
  unfold rms
  exact (h.map _).sum_nat
theorem ahead_perm {A B : List (Nat × Nat)} (h : A.Perm B) (q : Nat × Nat) : ahead A q = ahead B q := rms_perm (h.filter _)
theorem codeOf_perm {A B : List (Nat × Nat)} (h : A.Perm B) (q : Nat × Nat) : codeOf A q = codeOf B q := by
  unfold codeOf
  rw [ahead_perm h]
end ZL

set_option maxHeartbeats 4000000
/-! lengths of codes: what they take, of what kind they are. -/
namespace ZL
open Z
structure HCd (T : Nat → Option Fn) (con : Nat → PV) : Prop extends HCode T con where
  is_tuple_of : T 12 = some F_is_tuple_of
  is_whole : T 6 = some F_is_whole
  power : T 7 = some F_power
  fits_bits : T 10 = some F_fits_bits
  need_bits : T 15 = some F_need_bits
  c_BITS : con 0 = (.int 630000)
abbrev nv (ls : List Nat) : List PV := ls.map fun n : Nat => .int (n : Int)
/-- lengths that the parts serve -/
structure Lens (ls : List Nat) : Prop where
  rng : ∀ n ∈ ls, n ≤ 15
  pos : 1 ≤ ls.length
  few : ls.length ≤ 320
def used (ls : List Nat) : List Nat := ls.filter fun n => decide (0 < n)
def roomF (ls : List Nat) : Nat := ((used ls).map rm).sum
def kOver : List Nat := [111, 118, 101, 114]
def kNone : List Nat := [110, 111, 110, 101]
def kOne : List Nat := [111, 110, 101]
def kWhole : List Nat := [119, 104, 111, 108, 101]
def kShort : List Nat := [115, 104, 111, 114, 116]
def kindT (ls : List Nat) : List Nat := if used ls = [] then kNone else if used ls = [1] then kOne else if roomF ls = 32768 then kWhole else if 32768 < roomF ls then kOver else kShort
theorem used_used (ls : List Nat) : used (used ls) = used ls := by
  unfold used
  rw [List.filter_filter]
  congr 1
  funext n
  simp
theorem room_used (ls : List Nat) : roomF (used ls) = roomF ls := by
  unfold roomF
  rw [used_used]
theorem lcl_fm {α : Type} {p : PV} {xs : List α} {g : α → PV} {body : PV → Sto → R (Option PV)} {μ : Sto} (hi : items p = some (xs.map g)) (f : α → Option PV) (h : ∀ x ∈ xs, body (g x) μ = .ok (f x) μ) (hl : xs.length ≤ SZ) : lcl (.v p) body μ = .ok (.new (.lst (xs.filterMap f))) μ := by
  refine lcl_v hi ?_
  have : ∀ (xs : List α) (acc : List PV), (∀ x ∈ xs, body (g x) μ = .ok (f x) μ) → acc.length + xs.length ≤ SZ → lclL body (xs.map g) acc μ = .ok (acc ++ xs.filterMap f) μ := by
    intro xs
    induction xs with
    | nil => intro acc _ _; simp [lclL]
    | cons x xs ih =>
      intro acc h hl
      simp only [List.length_cons] at hl
      have h1 : acc.length < SZ := by omega
      simp only [List.map_cons, lclL, h x (List.mem_cons_self ..), R.bind_ok]
      cases hf : f x with
      | none =>
        simp only [snoc]
        rw [ih acc (fun y hy => h y (List.mem_cons_of_mem _ hy)) (by omega)]
        simp [hf]
      | some z =>
        simp only [snoc, h1, if_true]
        rw [ih (acc ++ [z]) (fun y hy => h y (List.mem_cons_of_mem _ hy)) (by simp; omega)]
        simp [hf]
  simpa using this xs [] h (by simpa using hl)
theorem fm_used {β : Type} (f : Nat → β) : ∀ ls : List Nat, (ls.filterMap fun n => if 0 < n then some (f n) else none) = (used ls).map f
  | [] => rfl
  | n :: ls => by
    have ih := fm_used f ls
    unfold used at ih ⊢
    by_cases h : 0 < n
    · simp [h, ih]
    · simp [h, ih]
theorem poks_nv : ∀ (d : Nat) (ls : List Nat), poks d (nv ls) = true
  | d, [] => by cases d <;> rfl
  | d, n :: ls => by
    have := poks_nv d ls
    cases d <;> simp [nv, poks, pok] <;> simpa [nv] using this
theorem peqs_nv : ∀ a b : List Nat, peqs (nv a) (nv b) = decide (a = b)
  | [], [] => rfl
  | [], b :: bs => rfl
  | a :: as, [] => rfl
  | a :: as, b :: bs => by
    have ih := peqs_nv as bs
    simp only [nv, List.map_cons, peqs, peq] at ih ⊢
    rw [ih]
    by_cases h : a = b
    · subst h; simp
    · have : ¬ (a : Int) = (b : Int) := by omega
      simp [h, this]
theorem eq_nv (a b : List Nat) : cmpR .eq (.lst (nv a)) (.lst (nv b)) = some (.v (.bl (decide (a = b)))) := by
  have h : eqB (.lst (nv a)) (.lst (nv b)) = some (decide (a = b)) := by
    have h1 : pok 60 (.lst (nv a)) = true := by simp only [pok]; exact poks_nv 59 a
    have h2 : pok 60 (.lst (nv b)) = true := by simp only [pok]; exact poks_nv 59 b
    simp only [eqB, h1, h2, Bool.and_self, if_true, peq, peqs_nv]
  simp [cmpR, cmp, h]
theorem eq_nv0 (a : List Nat) : cmpR .eq (.lst (nv a)) (.lst []) = some (.v (.bl (decide (a = [])))) := eq_nv a []
theorem eq_nv1 (a : List Nat) : cmpR .eq (.lst (nv a)) (.lst [.int 1]) = some (.v (.bl (decide (a = [1])))) := eq_nv a [1]
section
variable {T : Nat → Option Fn} {con : Nat → PV} {fu k : Nat} {μ : Sto} (hT : HCd T con)
include hT
theorem tup12 {xs : List PV} {lo hi : Int} (hk : 1 ≤ k) : run T con fu k 12 [.v (.tup xs), .v (.int lo), .v (.int hi)] μ = .ok (.v (.bl (decide (lo ≤ (xs.length : Int)) && decide ((xs.length : Int) ≤ hi)))) μ := by
  obtain ⟨k, rfl⟩ := Nat.exists_eq_add_of_le' hk
  rw [run_succ hT.is_tuple_of rfl]
  by_cases h : lo ≤ (xs.length : Int)
  · simp [F_is_tuple_of, bi, isi, h]
  · simp [F_is_tuple_of, bi, isi, h]
theorem whole6 {i lo hi : Int} (hk : 1 ≤ k) : run T con fu k 6 [.v (.int i), .v (.int lo), .v (.int hi)] μ = .ok (.v (.bl (decide (lo ≤ i) && decide (i ≤ hi)))) μ := by
  obtain ⟨k, rfl⟩ := Nat.exists_eq_add_of_le' hk
  rw [run_succ hT.is_whole rfl]
  by_cases h : lo ≤ i
  · simp [F_is_whole, bi, isi, h]
  · simp [F_is_whole, bi, isi, h]
theorem fits_ok {ls : List Nat} (h : Lens ls) (hk : 2 ≤ k) : run T con fu k 55 [.v (.tup (nv ls))] μ = .ok (.v (.bl true)) μ := by
  obtain ⟨k, rfl⟩ := Nat.exists_eq_add_of_le' hk
  rw [run_succ hT.fits_lengths rfl]
  have e1 := tup12 hT (fu := fu) (k := k + 1) (μ := μ) (xs := nv ls) (lo := 1) (hi := 320) (by omega)
  have h1 : (1 : Int) ≤ (ls.length : Int) := by have := h.pos; omega
  have h2 : (ls.length : Int) ≤ 320 := by have := h.few; omega
  simp only [List.length_map, h1, h2, decide_true, Bool.and_self] at e1
  simp [F_fits_lengths, hT.c_SIGNS, hT.c_MOST, e1]
  rw [lcl_of (g := fun n : Nat => PV.int (n : Int)) (xs := ls) rfl (fun _ => .bl true) (fun n hn => by
    have := h.rng n hn
    have a : (0 : Int) ≤ (n : Int) := by omega
    have b : (n : Int) ≤ 15 := by omega
    simp [whole6 hT, a, b]) (by have := h.few; unfold SZ; omega)]
  simp [bi, blsO_map (fun _ : Nat => true)]
theorem need_ok {ls : List Nat} (h : Lens ls) (hk : 3 ≤ k) : run T con fu k 56 [.v (.tup (nv ls))] μ = .ok (.v .non) μ := by
  obtain ⟨k, rfl⟩ := Nat.exists_eq_add_of_le' hk
  rw [run_succ hT.need_lengths rfl]
  simp [F_need_lengths, fits_ok hT h]
theorem room_ok {p : PV} {ls : List Nat} (hi : items p = some (nv ls)) (h : ∀ n ∈ ls, n ≤ 15) (hl : ls.length ≤ 1000) (hk : 1 ≤ k) : run T con fu k 57 [.v p] μ = .ok (.v (.int (roomF ls : Nat))) μ := by
  obtain ⟨k, rfl⟩ := Nat.exists_eq_add_of_le' hk
  rw [run_succ hT.room_in rfl]
  have tab : ∀ n : Fin 16, atI [PV.int 32768, .int 16384, .int 8192, .int 4096, .int 2048, .int 1024, .int 512, .int 256, .int 128, .int 64, .int 32, .int 16, .int 8, .int 4, .int 2, .int 1] ((n.val : Nat) : Int) = some (.int ((rm n.val : Nat) : Int)) := by
    intro n
    rcases n with ⟨n, hn⟩
    have : n = 0 ∨ n = 1 ∨ n = 2 ∨ n = 3 ∨ n = 4 ∨ n = 5 ∨ n = 6 ∨ n = 7 ∨ n = 8 ∨ n = 9 ∨ n = 10 ∨ n = 11 ∨ n = 12 ∨ n = 13 ∨ n = 14 ∨ n = 15 := by omega
    rcases this with rfl | rfl | rfl | rfl | rfl | rfl | rfl | rfl | rfl | rfl | rfl | rfl | rfl | rfl | rfl | rfl <;> rfl
  simp [F_room_in, hT.c_ROOMS]
  rw [lcl_fm (g := fun n : Nat => PV.int (n : Int)) (xs := ls) hi (fun n => if 0 < n then some (.int ((rm n : Nat) : Int)) else none) (fun n hn => by
    have := h n hn
    have t := tab ⟨n, by omega⟩
    simp only at t
    by_cases h0 : 0 < n
    · simp [h0, t]
    · simp [h0]) (by unfold SZ; omega)]
  rw [fm_used]
  simp only [biR_1n, bi, intsO_map (fun n : Nat => ((rm n : Nat) : Int)), Option.map_some, opt_some, R.bind_ok, fin_ret, leave_v]
  unfold roomF
  have : ∀ us : List Nat, (us.map fun n : Nat => ((rm n : Nat) : Int)).sum = (((us.map rm).sum : Nat) : Int) := fun us => by
    induction us with
    | nil => rfl
    | cons u us ih => simp only [List.map_cons, List.sum_cons, ih]; omega
  rw [this]
  simp
theorem kindin_ok {ls : List Nat} (h : ∀ n ∈ ls, n ≤ 15) (hl : ls.length ≤ 1000) (hk : 2 ≤ k) : run T con fu k 58 [.v (.tup (nv ls))] μ = .ok (.v (.str (kindT ls))) μ := by
  obtain ⟨k, rfl⟩ := Nat.exists_eq_add_of_le' hk
  rw [run_succ hT.kind_in rfl]
  have hr := room_ok hT (fu := fu) (k := k + 1) (μ := μ) (p := .lst (nv (used ls))) (ls := used ls) rfl (fun n hn => h n (List.mem_filter.mp hn).1) (Nat.le_trans (List.length_filter_le ..) hl) (by omega)
  rw [room_used] at hr
  have lc : ∀ body : PV → Sto → R (Option PV), (∀ n ∈ ls, body (.int ((n : Nat) : Int)) μ = .ok (if 0 < n then some (.int (n : Int)) else none) μ) → lcl (.v (.tup (nv ls))) body μ = .ok (.new (.lst (nv (used ls)))) μ := fun body hb => by
    rw [lcl_fm (g := fun n : Nat => PV.int (n : Int)) (xs := ls) rfl (fun n => if 0 < n then some (.int (n : Int)) else none) hb (by unfold SZ; omega), fm_used]
  simp [F_kind_in]
  rw [lc _ fun n hn => by
    by_cases h0 : 0 < n
    · simp [h0]
    · simp [h0]]
  have q : lstR [.v (.int 1)] μ = .ok (.new (.lst [.int 1])) μ := by simp [lstR_kps]
  have q0 : lstR [] μ = .ok (.new (.lst [])) μ := by simp [lstR_kps]
  unfold kindT
  obtain ⟨u, hu⟩ : ∃ u, u = used ls := ⟨_, rfl⟩
  obtain ⟨r, hr2⟩ : ∃ r, r = roomF ls := ⟨_, rfl⟩
  rw [← hu, ← hr2] at hr
  rw [← hu, ← hr2]
  have c0 : decide (u = []) = true ∨ decide (u = []) = false := by cases decide (u = []) <;> simp
  rcases c0 with h0 | h0
  · rw [decide_eq_true_eq] at h0
    have e0 : cmpR .eq (.lst (nv u)) (.lst []) = some (.v (.bl true)) := by rw [eq_nv0, h0]; rfl
    rw [if_pos h0]
    simp only [asgR_n, asgR_v, seqR_nx, List.set_cons_zero, List.set_cons_succ, lvR_0, lvR_s, R.bind_ok, hr, q0, opt2_vn, e0, opt_some, toB_v, iteB_t, seqR_ret, fin_ret, leave_v]
    simp [kNone]
  · rw [decide_eq_false_iff_not] at h0
    have e0 : cmpR .eq (.lst (nv u)) (.lst []) = some (.v (.bl false)) := by rw [eq_nv0, decide_eq_false h0]
    rw [if_neg h0]
    by_cases h1 : u = [1]
    · have e1 : cmpR .eq (.lst (nv u)) (.lst [.int 1]) = some (.v (.bl true)) := by rw [eq_nv1, decide_eq_true h1]
      rw [if_pos h1]
      simp only [asgR_n, asgR_v, seqR_nx, List.set_cons_zero, List.set_cons_succ, lvR_0, lvR_s, R.bind_ok, hr, q0, q, opt2_vn, e0, e1, opt_some, toB_v, iteB_t, iteB_f, seqR_ret, fin_ret, leave_v]
      simp [kOne]
    · have e1 : cmpR .eq (.lst (nv u)) (.lst [.int 1]) = some (.v (.bl false)) := by rw [eq_nv1, decide_eq_false h1]
      rw [if_neg h1]
      simp only [asgR_n, asgR_v, seqR_nx, List.set_cons_zero, List.set_cons_succ, lvR_0, lvR_s, R.bind_ok, hr, q0, q, opt2_vn, opt2_vv, e0, e1, opt_some, toB_v, iteB_t, iteB_f, seqR_ret, fin_ret, leave_v, hT.c_WHOLE, cmpR_eqI, cmpR_gtI]
      by_cases h2 : r = 32768
      · have : ((r : Int) == 32768) = true := by simp; omega
        rw [this, if_pos h2]
        simp [kWhole]
      · have : ((r : Int) == 32768) = false := by simp; omega
        rw [this, if_neg h2]
        by_cases h3 : 32768 < r
        · have h4 : decide ((32768 : Int) < (r : Int)) = true := by simp; omega
          simp [h4, h3, kOver]
        · have h4 : decide ((32768 : Int) < (r : Int)) = false := by simp; omega
          simp [h4, h3, kShort]
theorem needcodes_ok {ls : List Nat} (h : Lens ls) (hk1 : kindT ls ≠ kOver) (hk2 : kindT ls ≠ kNone) (hk : 4 ≤ k) : run T con fu k 60 [.v (.tup (nv ls))] μ = .ok (.v .non) μ := by
  obtain ⟨k, rfl⟩ := Nat.exists_eq_add_of_le' hk
  rw [run_succ hT.need_codes rfl]
  have e := kindin_ok hT (fu := fu) (k := k + 3) (μ := μ) (ls := ls) h.rng (by have := h.few; omega) (by omega)
  have n1 : (kindT ls == [111, 118, 101, 114]) = false := by simpa [kOver] using hk1
  have n2 : (kindT ls == [110, 111, 110, 101]) = false := by simpa [kNone] using hk2
  have c : cmpR .isin (.str (kindT ls)) (.tup [.str [111, 118, 101, 114], .str [110, 111, 110, 101]]) = some (.v (.bl false)) := by
    have m1 : peq (.str [111, 118, 101, 114]) (.str (kindT ls)) = false := by
      simp only [peq]
      simp
      intro z
      exact hk1 z.symm
    have m2 : peq (.str [110, 111, 110, 101]) (.str (kindT ls)) = false := by
      simp only [peq]
      simp
      intro z
      exact hk2 z.symm
    have m3 : inB (.str (kindT ls)) (.tup [.str [111, 118, 101, 114], .str [110, 111, 110, 101]]) = some false := by
      unfold inB
      split
      · rename_i z1 z2
        cases z2
      all_goals first
        | (rename_i z1 z2; cases z2; done)
        | (rename_i p xs z1; cases z1; simp [flat, m1, m2])
        | (rename_i p xs _ z1; cases z1; simp [flat, m1, m2])
        | (rename_i a b c d e; exact (b _ rfl).elim)
    simp only [cmpR, cmp, m3, Option.map_some]
  simp [F_need_codes, need_ok hT h, e, tupR_kps, c]
theorem kind_ok {ls : List Nat} (h : Lens ls) (hk : 4 ≤ k) : run T con fu k 59 [.v (.tup (nv ls))] μ = .ok (.v (.str (kindT ls))) μ := by
  obtain ⟨k, rfl⟩ := Nat.exists_eq_add_of_le' hk
  rw [run_succ hT.kind rfl]
  have e := kindin_ok hT (fu := fu) (k := k + 3) (μ := μ) (ls := ls) h.rng (by have := h.few; omega) (by omega)
  simp [F_kind, need_ok hT h, e]
end
end ZL

set_option maxHeartbeats 4000000
/-! the dict from signs to codes, and back. -/
namespace ZL
open Z
/-! sorted -/
theorem insB_perm {α : Type} (le : α → α → Bool) (x : α) : ∀ l : List α, (insB le x l).Perm (x :: l)
  | [] => .refl _
  | y :: l => by
    unfold insB
    split
    · exact .refl _
    · exact ((insB_perm le x l).cons y).trans (.swap x y l)
theorem srt_perm {α : Type} (le : α → α → Bool) : ∀ l : List α, (srt le l).Perm l
  | [] => .refl _
  | x :: l => (insB_perm le x _).trans ((srt_perm le l).cons x)
theorem insB_asc {α : Type} {le : α → α → Bool} (tot : ∀ a b, le a b = true ∨ le b a = true) (tr : ∀ a b c, le a b = true → le b c = true → le a c = true) (x : α) : ∀ l : List α, l.Pairwise (fun a b => le a b = true) → (insB le x l).Pairwise fun a b => le a b = true
  | [], _ => .cons (fun _ h => by cases h) .nil
  | y :: l, h => by
    obtain ⟨h1, h2⟩ := List.pairwise_cons.mp h
    unfold insB
    split
    · rename_i hx
      refine .cons (fun z hz => ?_) h
      rcases List.mem_cons.mp hz with rfl | hz
      · exact hx
      · exact tr _ _ _ hx (h1 z hz)
    · rename_i hx
      have hy : le y x = true := (tot x y).resolve_left hx
      refine .cons (fun z hz => ?_) (insB_asc tot tr x l h2)
      rcases List.mem_cons.mp ((insB_perm le x l).mem_iff.mp hz) with rfl | hz
      · exact hy
      · exact h1 z hz
theorem srt_asc {α : Type} {le : α → α → Bool} (tot : ∀ a b, le a b = true ∨ le b a = true) (tr : ∀ a b c, le a b = true → le b c = true → le a c = true) : ∀ l : List α, (srt le l).Pairwise fun a b => le a b = true
  | [] => .nil
  | x :: l => insB_asc tot tr x _ (srt_asc tot tr l)
theorem insB_map {α β : Type} (f : α → β) (le : β → β → Bool) (x : α) : ∀ l : List α, insB le (f x) (l.map f) = (insB (fun a b => le (f a) (f b)) x l).map f
  | [] => rfl
  | y :: l => by
    simp only [List.map_cons, insB]
    split
    · rfl
    · rw [insB_map f le x l]; rfl
theorem srt_map {α β : Type} (f : α → β) (le : β → β → Bool) : ∀ l : List α, srt le (l.map f) = (srt (fun a b => le (f a) (f b)) l).map f
  | [] => rfl
  | x :: l => by
    simp only [List.map_cons, srt]
    rw [srt_map f le l, insB_map]
/-! the pairs (how many bits, sign), in order -/
def cst (p : Nat × Nat) : Int × Int := ((p.1 : Int), (p.2 : Int))
def prs (ls : List Nat) : List (Nat × Nat) := ls.zipIdx.filter fun p => decide (0 < p.1)
def ord (ls : List Nat) : List (Nat × Nat) := srt (fun a b => leP (cst a) (cst b)) (prs ls)
theorem leP_cst (a b : Nat × Nat) : leP (cst a) (cst b) = true ↔ (a.1 < b.1 ∨ (a.1 = b.1 ∧ a.2 ≤ b.2)) := by
  unfold leP cst
  simp only [Bool.or_eq_true, Bool.and_eq_true, decide_eq_true_eq]
  omega
theorem prs_snd : ∀ (ls : List Nat) (k : Nat), ((ls.zipIdx k).filter fun p => decide (0 < p.1)).Pairwise fun p q => p.2 < q.2
  | [], _ => .nil
  | n :: ls, k => by
    have ih := prs_snd ls (k + 1)
    rw [List.zipIdx_cons, List.filter_cons]
    split
    · refine .cons (fun q hq => ?_) ih
      have := List.mem_zipIdx (List.mem_filter.mp hq).1
      simp only
      omega
    · exact ih
theorem prs_mem {ls : List Nat} {p : Nat × Nat} : p ∈ prs ls ↔ (0 < p.1 ∧ ls[p.2]? = some p.1) := by
  unfold prs
  rw [List.mem_filter, List.mem_zipIdx_iff_getElem?]
  simp [and_comm]
theorem ord_perm (ls : List Nat) : (ord ls).Perm (prs ls) := srt_perm _ _
theorem ord_asc (ls : List Nat) : (ord ls).Pairwise fun p q => ltB p q = true := by
  have h1 : (ord ls).Pairwise fun p q => leP (cst p) (cst q) = true := srt_asc (fun a b => by rw [leP_cst, leP_cst]; omega) (fun a b c => by rw [leP_cst, leP_cst, leP_cst]; omega) _
  have h2 : (ord ls).Pairwise fun p q => p.2 ≠ q.2 := ((ord_perm ls).pairwise_iff (R := fun p q : Nat × Nat => p.2 ≠ q.2) (fun h => h.symm)).mpr ((prs_snd ls 0).imp fun h => by omega)
  refine (h1.and h2).imp fun {p q} ⟨a, b⟩ => ?_
  rw [leP_cst] at a
  unfold ltB
  simp only [Bool.or_eq_true, Bool.and_eq_true, decide_eq_true_eq]
  omega
theorem ord_snd (ls : List Nat) : (ord ls).Pairwise fun p q => p.2 ≠ q.2 :=
  ((ord_perm ls).pairwise_iff (R := fun p q : Nat × Nat => p.2 ≠ q.2) (fun h => h.symm)).mpr ((prs_snd ls 0).imp fun h => by omega)
theorem ord_lay {ls : List Nat} (h : ∀ n ∈ ls, n ≤ 15) : Lay 0 (ord ls) := by
  refine ⟨(ord_asc ls).imp fun {p q} z => ?_, fun p hp => ?_, fun _ _ => Nat.dvd_zero _⟩
  · unfold ltB at z
    simp only [Bool.or_eq_true, Bool.and_eq_true, decide_eq_true_eq] at z
    omega
  · have hm := prs_mem.mp ((ord_perm ls).mem_iff.mp hp)
    exact ⟨hm.1, h _ (List.mem_of_getElem? hm.2)⟩
theorem rms_prs (ls : List Nat) : rms (prs ls) = roomF ls := by
  have : ∀ (ls : List Nat) (k : Nat), rms ((ls.zipIdx k).filter fun p => decide (0 < p.1)) = roomF ls := by
    intro ls
    induction ls with
    | nil => intro k; rfl
    | cons n ls ih =>
      intro k
      have := ih (k + 1)
      rw [List.zipIdx_cons, List.filter_cons]
      unfold roomF used at this ⊢
      rw [List.filter_cons]
      by_cases h : 0 < n
      · simp only [h, decide_true, if_true, List.map_cons, List.sum_cons]
        rw [← this]
        simp [rms]
      · simp only [h, decide_false, Bool.false_eq_true, if_false]
        exact this
  exact this ls 0
theorem rms_ord (ls : List Nat) : rms (ord ls) = roomF ls := (rms_perm (ord_perm ls)).trans (rms_prs ls)
/-- the codes: (sign, code) by length, then by sign -/
def cds (ls : List Nat) : List (Nat × List Nat) := lay 0 (ord ls)
theorem lay_signs : ∀ (L : List (Nat × Nat)) (S : Nat), (lay S L).map (·.1) = L.map (·.2)
  | [], _ => rfl
  | (m, s) :: L, S => by simp [lay, lay_signs L]
theorem cds_signs (ls : List Nat) : ((cds ls).map (·.1)).Nodup := by
  unfold cds
  rw [lay_signs]
  exact List.pairwise_map.mpr (ord_snd ls)
theorem cds_prs (ls : List Nat) : cds ls = (ord ls).map (codeOf (prs ls)) := by
  have h := lay_codes (ord ls) [] (ord_asc ls)
  rw [List.nil_append] at h
  unfold cds
  rw [show (0 : Nat) = rms [] from rfl, h]
  exact List.map_congr_left fun q _ => codeOf_perm (ord_perm ls) q
theorem cds_perm (ls : List Nat) : (cds ls).Perm ((prs ls).map (codeOf (prs ls))) := by
  rw [cds_prs]
  exact (ord_perm ls).map _
/-! dicts of codes -/
def kSgn (cs : List (Nat × List Nat)) : List (PV × PV) := cs.map fun q => (.int (q.1 : Int), .str q.2)
def kTxt (cs : List (Nat × List Nat)) : List (PV × PV) := cs.map fun q => (.str q.2, .int (q.1 : Int))
theorem keqI (a b : Nat) : keq (.int (a : Int)) (.int (b : Int)) = decide (a = b) := by
  simp only [keq]
  by_cases h : a = b
  · subst h; simp
  · have : ¬ (a : Int) = (b : Int) := by omega
    simp [h, this]
theorem keqS (a b : List Nat) : keq (.str a) (.str b) = decide (a = b) := by
  simp only [keq]
  by_cases h : a = b
  · subst h; simp
  · simp [h]
theorem has_sgn (cs : List (Nat × List Nat)) (s : Nat) : dhas (kSgn cs) (.int (s : Int)) = cs.any fun q => decide (q.1 = s) := by
  unfold dhas kSgn
  rw [List.any_map]
  congr 1
  funext q
  exact keqI _ _
theorem has_txt (cs : List (Nat × List Nat)) (s : List Nat) : dhas (kTxt cs) (.str s) = cs.any fun q => decide (q.2 = s) := by
  unfold dhas kTxt
  rw [List.any_map]
  congr 1
  funext q
  exact keqS _ _
theorem get_sgn (cs : List (Nat × List Nat)) (s : Nat) : dget (kSgn cs) (.int (s : Int)) = (cs.find? fun q => decide (q.1 = s)).map fun q => .str q.2 := by
  unfold dget kSgn
  rw [List.find?_map, Option.map_map]
  congr 1
  congr 1
  funext q
  exact keqI _ _
theorem get_txt (cs : List (Nat × List Nat)) (s : List Nat) : dget (kTxt cs) (.str s) = (cs.find? fun q => decide (q.2 = s)).map fun q => .int (q.1 : Int) := by
  unfold dget kTxt
  rw [List.find?_map, Option.map_map]
  congr 1
  congr 1
  funext q
  exact keqS _ _
theorem put_sgn {cs : List (Nat × List Nat)} {q : Nat × List Nat} (h : ∀ p ∈ cs, p.1 ≠ q.1) : dput (kSgn cs) (.int (q.1 : Int)) (.str q.2) = kSgn (cs ++ [q]) := by
  unfold dput
  have : cs.any (fun p => decide (p.1 = q.1)) = false := by
    rw [List.any_eq_false]
    intro p hp
    simpa using h p hp
  rw [has_sgn, this, if_neg (by decide)]
  simp [kSgn]
theorem put_txt {cs : List (Nat × List Nat)} {q : Nat × List Nat} (h : ∀ p ∈ cs, p.2 ≠ q.2) : dput (kTxt cs) (.str q.2) (.int (q.1 : Int)) = kTxt (cs ++ [q]) := by
  unfold dput
  have : cs.any (fun p => decide (p.2 = q.2)) = false := by
    rw [List.any_eq_false]
    intro p hp
    simpa using h p hp
  rw [has_txt, this, if_neg (by decide)]
  simp [kTxt]
theorem enumL_nv : ∀ (ls : List Nat) (k : Nat), enumL k (nv ls) = (ls.zipIdx k).map fun p => .tup [.int (p.2 : Int), .int (p.1 : Int)]
  | [], _ => rfl
  | n :: ls, k => by
    have ih := enumL_nv ls (k + 1)
    simp only [nv, List.map_cons, enumL] at ih ⊢
    rw [ih]
    simp
theorem fm_prs (l : List (Nat × Nat)) : (l.filterMap fun p => if 0 < p.1 then some (PV.tup [.int (p.1 : Int), .int (p.2 : Int)]) else none) = (l.filter fun p => decide (0 < p.1)).map fun p => pairV (cst p) := by
  induction l with
  | nil => rfl
  | cons p l ih =>
    by_cases h : 0 < p.1
    · simp [h, ih, pairV, cst]
    · simp [h, ih]
theorem pairsO_mapC : ∀ l : List (Int × Int), pairsO (l.map pairV) = some l
  | [] => rfl
  | p :: l => by
    have ih := pairsO_mapC l
    simp only [List.map_cons, pairV, pairsO] at ih ⊢
    rw [ih]
theorem bi_sortedC (ps : List (Int × Int)) : bi .sorted [.lst (ps.map pairV)] = some (.new (.lst ((srt leP ps).map pairV))) := by
  cases ps with
  | nil => rfl
  | cons p ps =>
    have h := pairsO_mapC (p :: ps)
    simp only [bi, h]
    simp [pairV, intsO]
section
variable {T : Nat → Option Fn} {con : Nat → PV} {fu k : Nat} {μ : Sto} (hT : HCd T con)
include hT
omit hT in
theorem pow_loop {C : Cxt} {m : Option RV} : ∀ (xs : List Nat) (g : Nat → PV) (t : Option RV) (n : Nat), 
    ∃ t', loopL (fun x ls μ => ex C L_power_0 (ls.set 2 (some (.v x))) μ) (xs.map g) [m, some (.v (.int (2 ^ n))), t] μ = .ok (.nx, [m, some (.v (.int (2 ^ (n + xs.length)))), t']) μ
  | [], g, t, n => ⟨t, by simp [loopL]⟩
  | x :: xs, g, t, n => by
    obtain ⟨t', ih⟩ := pow_loop (C := C) (m := m) xs g (some (.v (g x))) (n + 1)
    refine ⟨t', ?_⟩
    have : ex C L_power_0 ([m, some (.v (.int (2 ^ n))), t].set 2 (some (.v (g x)))) μ = .ok (.nx, [m, some (.v (.int (2 ^ (n + 1)))), some (.v (g x))]) μ := by
      simp [L_power_0, bin_mulI, sml, Int.pow_succ, Int.mul_comm]
    simp only [List.map_cons, loopL, this, turn, R.bind_ok]
    rw [ih]
    simp [Nat.add_assoc, Nat.add_comm 1]
theorem pow_ok {m : Nat} (hm : m ≤ SZ) (hk : 1 ≤ k) : run T con fu k 7 [.v (.int m)] μ = .ok (.v (.int ((2 ^ m : Nat) : Int))) μ := by
  obtain ⟨k, rfl⟩ := Nat.exists_eq_add_of_le' hk
  rw [run_succ hT.power rfl]
  have h62 := r62_nat hm
  obtain ⟨t', e⟩ := pow_loop (C := ⟨run T con fu k, con, fu⟩) (μ := μ) (m := some (.v (.int m))) (List.range m) (fun k : Nat => .int (0 + (k : Int))) none 0
  simp at e
  simp [F_power, rngR_ok h62.1 h62.2, loop_v (rng_items _ _)]
  rw [e]
  simp
omit hT in
theorem cbits_loop {C : Cxt} {m : Option RV} : ∀ (xs : List Nat) (g : Nat → PV) (n : Nat) (f : List Nat) (t : Option RV), f.length + xs.length ≤ SZ →
    ∃ t' n', loopL (fun x ls μ => ex C L_code_bits_0 (ls.set 3 (some (.v x))) μ) (xs.map g) [some (.v (.int (n : Int))), m, some (.v (.str f)), t] μ = .ok (.nx, [some (.v (.int n')), m, some (.v (.str (cT xs.length n ++ f))), t']) μ
  | [], g, n, f, t, _ => ⟨t, n, by simp [loopL, cT]⟩
  | x :: xs, g, n, f, t, h => by
    simp only [List.length_cons] at h
    obtain ⟨t', n', ih⟩ := cbits_loop (C := C) (m := m) xs g (n / 2) ((if n % 2 = 1 then 49 else 48) :: f) (some (.v (g x))) (by simp; omega)
    refine ⟨t', n', ?_⟩
    have ad : ∀ c : Nat, bin .add (.str [c]) (.str f) = some (.v (.str (c :: f))) := fun c => by
      rw [bin_addS (by simp only [List.length_cons, List.length_nil]; omega)]
      rfl
    have : ex C L_code_bits_0 ([some (.v (.int (n : Int))), m, some (.v (.str f)), t].set 3 (some (.v (g x)))) μ = .ok (.nx, [some (.v (.int ((n / 2 : Nat) : Int))), m, some (.v (.str ((if n % 2 = 1 then 49 else 48) :: f))), some (.v (g x))]) μ := by
      have e2 : ((n / 2 : Nat) : Int) = (n : Int) / 2 := by simp
      rw [e2]
      by_cases hb : n % 2 = 1
      · have hb' : (n : Int) % 2 = 1 := by omega
        simp [L_code_bits_0, bin_modI, bin_fdivI, hb', hb, ad]
      · have hb' : ((n : Int) % 2 == 1) = false := by
          rw [beq_eq_false_iff_ne]
          omega
        simp [L_code_bits_0, bin_modI, bin_fdivI, hb', hb, ad]
    simp only [List.map_cons, loopL, this, turn, R.bind_ok]
    rw [ih]
    simp [cT]
theorem cbits_ok {n m : Nat} (hm : m ≤ SZ) (hk : 1 ≤ k) : run T con fu k 61 [.v (.int (n : Int)), .v (.int (m : Int))] μ = .ok (.v (.str (cT m n))) μ := by
  obtain ⟨k, rfl⟩ := Nat.exists_eq_add_of_le' hk
  rw [run_succ hT.code_bits rfl]
  have h62 := r62_nat hm
  obtain ⟨t', n', e⟩ := cbits_loop (C := ⟨run T con fu k, con, fu⟩) (μ := μ) (m := some (.v (.int m))) (List.range m) (fun k : Nat => .int (0 + (k : Int))) n [] none (by simpa using hm)
  simp at e
  simp [F_code_bits, rngR_ok h62.1 h62.2, loop_v (rng_items _ _)]
  rw [e]
  simp
omit hT in
theorem set_last {ks : List (PV × PV)} {q p : PV} {ls : Lcs} (hq : isK q = true) (hl : ks.length < SZ) : setR (.loc μ.length) (.v q) (.v p) ls (μ ++ [.dct ks]) = .ok (.nx, ls) (μ ++ [.dct (dput ks q p)]) := by
  simp [setR, setP, hq, hl]
/-- one code more -/
theorem codes_loop (hk : 1 ≤ k) {v0 : Option RV} : ∀ (L : List (Nat × Nat)) (cs : List (Nat × List Nat)) (num last : Nat) (v4 v5 v6 : Option RV), (∀ p ∈ L, last ≤ p.1 ∧ p.1 ≤ 15) → L.Pairwise (fun p q => p.1 ≤ q.1) → (∀ p ∈ L, ∀ c ∈ cs, c.1 ≠ p.2) → L.Pairwise (fun p q => p.2 ≠ q.2) → cs.length + L.length ≤ 1000 → last ≤ 15 →
    ∃ num' last' v4' v5', loopL (fun x ls μ => match asgT (.cons (.nm 4) (.cons (.nm 5) .nil)) x ls with
      | some ls' => ex ⟨run T con fu k, con, fu⟩ L_codes_in_0 ls' μ
      | none => .no) (L.map fun p => pairV (cst p)) [v0, some (.loc μ.length), some (.v (.int (num : Nat))), some (.v (.int (last : Nat))), v4, v5, v6] (μ ++ [.dct (kSgn cs)]) =
      .ok (.nx, [v0, some (.loc μ.length), some (.v (.int num')), some (.v (.int last')), v4', v5', v6]) (μ ++ [.dct (kSgn (cs ++ lay (num * rm last) L))])
  | [], cs, num, last, v4, v5, v6, _, _, _, _, _, _ => ⟨num, last, v4, v5, by simp [loopL, lay]⟩
  | (m, s) :: L, cs, num, last, v4, v5, v6, h1, h2, h3, h4, h5, h6 => by
    obtain ⟨hm1, hm2⟩ := h1 (m, s) (List.mem_cons_self ..)
    simp only at hm1 hm2
    obtain ⟨a1, a2⟩ := List.pairwise_cons.mp h2
    obtain ⟨b1, b2⟩ := List.pairwise_cons.mp h4
    simp only [List.length_cons] at h5
    obtain ⟨n', hn'⟩ : ∃ n', n' = num * 2 ^ (m - last) := ⟨_, rfl⟩
    have hS : num * rm last = n' * rm m := by
      rw [hn', Nat.mul_assoc, rm_mul hm1 hm2]
    have hd : num * rm last / rm m = n' := by
      rw [hS, Nat.mul_div_cancel _ (rm_pos m)]
    have hp := pow_ok hT (fu := fu) (k := k) (μ := μ ++ [.dct (kSgn cs)]) (m := m - last) (by unfold SZ; omega) hk
    have hcb := cbits_ok hT (fu := fu) (k := k) (μ := μ ++ [.dct (kSgn cs)]) (n := n') (m := m) (by unfold SZ; omega) hk
    have p15 : 2 ^ (m - last) ≤ 2 ^ 15 := Nat.pow_le_pow_right (by decide) (by omega)
    obtain ⟨w, hw⟩ : ∃ w, w = 2 ^ (m - last) := ⟨_, rfl⟩
    rw [← hw] at hp p15 hn'
    have hmul : bin .mul (.int (num : Int)) (.int (w : Int)) = some (.v (.int (n' : Int))) := by
      rw [bin_mulI (by simp only [sml, Bool.or_eq_true, Bool.and_eq_true, decide_eq_true_eq]; omega), hn', Int.natCast_mul]
    have hsub : (m : Int) - (last : Int) = ((m - last : Nat) : Int) := by omega
    have pu := put_sgn (cs := cs) (q := (s, cT m n')) (fun c hc => h3 (m, s) (List.mem_cons_self ..) c hc)
    simp only at pu
    have st := set_last (μ := μ) (ks := kSgn cs) (q := .int (s : Int)) (p := .str (cT m n')) (ls := [v0, some (.loc μ.length), some (.v (.int (n' : Int))), some (.v (.int (m : Int))), some (.v (.int (m : Int))), some (.v (.int (s : Int))), v6]) rfl (by simp [kSgn]; unfold SZ; omega)
    rw [pu] at st
    obtain ⟨num', last', v4', v5', ih⟩ := codes_loop hk (v0 := v0) L (cs ++ [(s, cT m n')]) (n' + 1) m (some (.v (.int (m : Int)))) (some (.v (.int (s : Int)))) v6 (fun p hp => ⟨a1 p hp, (h1 p (List.mem_cons_of_mem _ hp)).2⟩) a2 (fun p hp c hc => by
      rcases List.mem_append.mp hc with hc | hc
      · exact h3 p (List.mem_cons_of_mem _ hp) c hc
      · have : c = (s, cT m n') := by simpa using hc
        subst this
        exact b1 p hp) b2 (by simp; omega) hm2
    refine ⟨num', last', v4', v5', ?_⟩
    have body : ex ⟨run T con fu k, con, fu⟩ L_codes_in_0 [v0, some (.loc μ.length), some (.v (.int (num : Int))), some (.v (.int (last : Int))), some (.v (.int (m : Int))), some (.v (.int (s : Int))), v6] (μ ++ [.dct (kSgn cs)]) = .ok (.nx, [v0, some (.loc μ.length), some (.v (.int ((n' + 1 : Nat) : Int))), some (.v (.int (m : Int))), some (.v (.int (m : Int))), some (.v (.int (s : Int))), v6]) (μ ++ [.dct (kSgn (cs ++ [(s, cT m n')]))]) := by
      simp [L_codes_in_0, hsub, hp, hmul, hcb, st]
    simp only [List.map_cons, loopL, pairV, cst, one_tgt, List.set_cons_zero, List.set_cons_succ, body, turn, R.bind_ok]
    simp only [pairV, cst] at ih
    rw [ih]
    simp only [lay, hd, List.append_assoc, List.singleton_append]
    rw [show (n' + 1) * rm m = num * rm last + rm m by rw [hS, Nat.add_mul, Nat.one_mul]]
end
end ZL

set_option maxHeartbeats 4000000
/-! codes_in, tree_in, put, got. -/
namespace ZL
open Z
theorem seqR_of {r : R (Out × Lcs)} {ls' : Lcs} {μ' : Sto} {k : Lcs → Sto → R (Out × Lcs)} (h : r = .ok (.nx, ls') μ') : seqR r k = k ls' μ' := by
  rw [h]
  rfl
theorem dclL_of {α : Type} {body : PV → Sto → R (Option (PV × PV))} {μ : Sto} {g : α → PV} {f : α → PV × PV} (hk : ∀ x, isK (f x).1 = true) : ∀ (xs : List α) (acc : List (PV × PV)), (∀ x ∈ xs, body (g x) μ = .ok (some (f x)) μ) → (∀ x ∈ xs, dhas acc (f x).1 = false) → xs.Pairwise (fun x y => keq (f x).1 (f y).1 = false) → acc.length + xs.length ≤ SZ → dclL body (xs.map g) acc μ = .ok (acc ++ xs.map f) μ
  | [], acc, _, _, _, _ => by simp [dclL]
  | x :: xs, acc, h, h2, h3, hl => by
    simp only [List.length_cons] at hl
    obtain ⟨a, b⟩ := List.pairwise_cons.mp h3
    have h1 : acc.length < SZ := by omega
    simp only [List.map_cons, dclL, h x (List.mem_cons_self ..), R.bind_ok, dsnoc, hk x, h1, decide_true, Bool.and_self, if_true]
    have e : dput acc (f x).1 (f x).2 = acc ++ [f x] := by
      unfold dput
      rw [h2 x (List.mem_cons_self ..), if_neg (by decide)]
    rw [e, dclL_of hk xs (acc ++ [f x]) (fun y hy => h y (List.mem_cons_of_mem _ hy)) (fun y hy => by
      have := h2 y (List.mem_cons_of_mem _ hy)
      unfold dhas at this ⊢
      rw [List.any_append, this]
      simp [a y hy]) b (by simp; omega)]
    simp
theorem find_code {cs : List (Nat × List Nat)} (hd : (cs.map (·.1)).Nodup) {q : Nat × List Nat} (h : q ∈ cs) : (cs.find? fun p => decide (p.1 = q.1)) = some q := by
  induction cs with
  | nil => cases h
  | cons c cs ih =>
    simp only [List.map_cons, List.nodup_cons] at hd
    rw [List.find?_cons]
    rcases List.mem_cons.mp h with rfl | h
    · simp
    · have : c.1 ≠ q.1 := fun z => hd.1 (z ▸ List.mem_map.mpr ⟨q, h, rfl⟩)
      simp only [this, decide_false]
      exact ih hd.2 h
/-- lengths that a part takes codes of -/
structure LGood (ls : List Nat) : Prop extends Lens ls where
  notO : kindT ls ≠ kOver
  notN : kindT ls ≠ kNone
theorem kov : kOver ≠ kNone ∧ kOver ≠ kOne ∧ kOver ≠ kWhole ∧ kOver ≠ kShort := by decide
theorem LGood.room {ls : List Nat} (h : LGood ls) : roomF ls ≤ 32768 := by
  have h1 := h.notO
  unfold kindT at h1
  by_cases a : used ls = []
  · unfold roomF; rw [a]; simp
  · by_cases b : used ls = [1]
    · unfold roomF; rw [b]; decide
    · rw [if_neg a, if_neg b] at h1
      by_cases c : roomF ls = 32768
      · omega
      · rw [if_neg c] at h1
        by_cases d : 32768 < roomF ls
        · rw [if_pos d] at h1
          exact absurd rfl h1
        · omega
theorem LGood.lay {ls : List Nat} (h : LGood ls) : Lay 0 (ord ls) := ord_lay h.rng
theorem LGood.free {ls : List Nat} (h : LGood ls) : (cds ls).Pairwise fun p q => ¬ p.2 <+: q.2 ∧ ¬ q.2 <+: p.2 :=
  lay_free h.lay (by rw [rms_ord]; have := h.room; omega)
theorem cds_len {ls : List Nat} (h : ls.length ≤ 320) : (cds ls).length ≤ 320 := by
  have : (cds ls).length = (ord ls).length := by
    have := congrArg List.length (lay_signs (ord ls) 0)
    simpa [cds] using this
  rw [this, (ord_perm ls).length_eq]
  exact Nat.le_trans (List.length_filter_le ..) (by simpa using h)
theorem LGood.code {ls : List Nat} (h : LGood ls) {q : Nat × List Nat} (hq : q ∈ cds ls) : 1 ≤ q.2.length ∧ q.2.length ≤ 15 ∧ Bts q.2 ∧ q.1 < ls.length := by
  obtain ⟨m, v, h1, h2, _, _⟩ := lay_mem h.lay q hq
  have hr := h.lay.rng _ h1
  have hm := prs_mem.mp ((ord_perm ls).mem_iff.mp h1)
  simp only at hr
  refine ⟨by rw [h2, cT_len]; exact hr.1, by rw [h2, cT_len]; exact hr.2, by rw [h2]; exact cT_bts _ _, ?_⟩
  exact (List.getElem?_eq_some_iff.mp hm.2).1
section
variable {T : Nat → Option Fn} {con : Nat → PV} {fu k : Nat} {μ : Sto} (hT : HCd T con)
include hT
theorem codesin_ok {ls : List Nat} (h : ∀ n ∈ ls, n ≤ 15) (hl : ls.length ≤ 320) (hk : 2 ≤ k) : run T con fu k 62 [.v (.tup (nv ls))] μ = .ok (.new (.dct (kSgn (cds ls)))) μ := by
  obtain ⟨k, rfl⟩ := Nat.exists_eq_add_of_le' hk
  rw [run_succ hT.codes_in rfl]
  have lc : ∀ body : PV → Sto → R (Option PV), (∀ p : Nat × Nat, body (.tup [.int (p.2 : Int), .int (p.1 : Int)]) (μ ++ [.dct []]) = .ok (if 0 < p.1 then some (.tup [.int (p.1 : Int), .int (p.2 : Int)]) else none) (μ ++ [.dct []])) →
      lcl (.v (.lst (enumL 0 (nv ls)))) body (μ ++ [.dct []]) = .ok (.new (.lst ((prs ls).map fun p => pairV (cst p)))) (μ ++ [.dct []]) := fun body hb => by
    rw [lcl_fm (g := fun p : Nat × Nat => PV.tup [.int (p.2 : Int), .int (p.1 : Int)]) (xs := ls.zipIdx) (by rw [items_l, enumL_nv]) (fun p => if 0 < p.1 then some (.tup [.int (p.1 : Int), .int (p.2 : Int)]) else none) (fun p _ => hb p) (by simp; unfold SZ; omega), fm_prs]
    rfl
  have so : bi .sorted [.lst ((prs ls).map fun p => pairV (cst p))] = some (.new (.lst ((ord ls).map fun p => pairV (cst p)))) := by
    have e := bi_sortedC ((prs ls).map cst)
    rw [List.map_map] at e
    rw [show (fun p => pairV (cst p)) = pairV ∘ cst from rfl, e, srt_map cst leP, List.map_map]
    rfl
  have lay := ord_lay h
  obtain ⟨n1, l1, v4, v5, e⟩ := codes_loop hT (fu := fu) (k := k + 1) (μ := μ) (by omega) (v0 := some (.v (.tup (nv ls)))) (ord ls) [] 0 0 none none none (fun p hp => ⟨Nat.zero_le _, (lay.rng p hp).2⟩) lay.asc (fun p hp c hc => by cases hc) (ord_snd ls) (by
    rw [(ord_perm ls).length_eq]
    have : (prs ls).length ≤ ls.zipIdx.length := List.length_filter_le ..
    simp at this
    simp
    omega) (by decide)
  simp only [Nat.zero_mul, List.nil_append] at e
  have e' : ∀ body : PV → Lcs → Sto → R (Out × Lcs), True := fun _ => trivial
  have en : enumR (.v (.tup (nv ls))) (μ ++ [.dct []]) = .ok (.v (.lst (enumL 0 (nv ls)))) (μ ++ [.dct []]) := rfl
  have hs0 : kSgn [] = [] := rfl
  rw [hs0] at e
  simp only [F_codes_in, ex_seq, ex_par, ex_for, ex_ret, evs_cons, evs_nil, ev_dnew, ev_int, R.bind_ok, parA_nt, parA_v, parA_nil, ev_bi, ev_lc, ev_enum, ev_var, lvR_0, lvR_s, List.map_cons, List.map_nil, argL_v, List.set_cons_zero, List.set_cons_succ, seqR_nx, List.cons_append, List.nil_append, List.replicate, Nat.reduceSub, en]
  rw [lc _ fun p => by
    by_cases h0 : 0 < p.1
    · simp [tgN, wipeL, one_tgt, h0, tupR_kps]
    · simp [tgN, wipeL, one_tgt, h0, tupR_kps]]
  simp only [R.bind_ok, biR_1n, so, opt_some, loop, items_l, Int.ofNat_zero] at e ⊢
  refine (congrArg (fin μ.length) (seqR_of e)).trans ?_
  simp [leave, cds]
omit hT in
theorem idxR_dI (ks : List (PV × PV)) (i : Int) : idxR (.dct ks) (.int i) = (dget ks (.int i)).map .v := rfl
omit hT in
theorem idxR_dS (ks : List (PV × PV)) (i : List Nat) : idxR (.dct ks) (.str i) = (dget ks (.str i)).map .v := rfl
omit hT in
theorem get_code {cs : List (Nat × List Nat)} (hd : (cs.map (·.1)).Nodup) {q : Nat × List Nat} (h : q ∈ cs) : idxR (.dct (kSgn cs)) (.int (q.1 : Int)) = some (.v (.str q.2)) := by
  rw [idxR_dI, get_sgn, find_code hd h]
  rfl
theorem treein_ok {ls : List Nat} (h : LGood ls) (hk : 3 ≤ k) : run T con fu k 74 [.v (.tup (nv ls))] μ = .ok (.new (.dct (kTxt (cds ls)))) μ := by
  obtain ⟨k, rfl⟩ := Nat.exists_eq_add_of_le' hk
  rw [run_succ hT.tree_in rfl]
  have e1 := codesin_ok hT (fu := fu) (k := k + 2) (μ := μ) h.rng h.few (by omega)
  have dl : ∀ body : PV → Sto → R (Option (PV × PV)), (∀ q ∈ cds ls, body (.int ((q.1 : Nat) : Int)) μ = .ok (some (.str q.2, .int (q.1 : Int))) μ) → dcR false (.v (.dct (kSgn (cds ls)))) body μ = .ok (.new (.dct (kTxt (cds ls)))) μ := fun body hb => by
    have := dclL_of (body := body) (μ := μ) (g := fun q : Nat × List Nat => PV.int (q.1 : Int)) (f := fun q => (PV.str q.2, PV.int (q.1 : Int))) (fun _ => rfl) (cds ls) [] hb (fun _ _ => rfl) (h.free.imp fun {p q} z => by
      rw [keqS, decide_eq_false_iff_not]
      intro e
      exact z.1 (by rw [e]; exact List.prefix_refl _)) (by have := cds_len h.few; simp; unfold SZ; omega)
    have w : dwk false (kSgn (cds ls)) = (cds ls).map fun q => PV.int (q.1 : Int) := by
      unfold dwk kSgn
      rw [if_neg (by decide), List.map_map]
      rfl
    simp only [dcR, w, this, R.bind_ok, List.nil_append]
    rfl
  simp [F_tree_in, e1]
  rw [dl _ fun q hq => by
    have := get_code (cds_signs ls) hq
    simp [this, dcP]]
  simp
theorem needbits_ok {s : List Nat} (h : Bts s) (hl : s.length ≤ 630000) (hk : 2 ≤ k) : run T con fu k 15 [.v (.str s)] μ = .ok (.v .non) μ := by
  obtain ⟨k, rfl⟩ := Nat.exists_eq_add_of_le' hk
  rw [run_succ hT.need_bits rfl]
  have hz : s.length ≤ SZ := by unfold SZ; omega
  have h1 : (s.length : Int) ≤ 630000 := by omega
  have e : run T con fu (k + 1) 10 [.v (.str s)] μ = .ok (.v (.bl true)) μ := by
    rw [run_succ hT.fits_bits rfl]
    simp [F_fits_bits, bi, isi, hT.c_BITS, hz, h1]
    rw [lcl_of (items_s s) (fun c => .bl true) (fun c hc => by
      have := h c hc
      have m : decide (c ∈ ([48, 49] : List Nat)) = true := by simp; omega
      simp [cmpR, cmp, inB, this]) hz]
    simp [bi, blsO_map (fun _ : Nat => true)]
  simp [F_need_bits, e]
/-- put: signs' codes, one behind another -/
theorem put_ok {ls : List Nat} (h : LGood ls) {qs : List (Nat × List Nat)} (hq : ∀ q ∈ qs, q ∈ cds ls) (hl : qs.length ≤ 4096) (hk : 5 ≤ k) : run T con fu k 76 [.v (.tup (nv ls)), .v (.tup (nv (qs.map (·.1))))] μ = .ok (.v (.str (qs.map (·.2)).flatten)) μ := by
  obtain ⟨k, rfl⟩ := Nat.exists_eq_add_of_le' hk
  rw [run_succ hT.put rfl]
  have e0 := needcodes_ok hT (fu := fu) (k := k + 4) (μ := μ) h.toLens h.notO h.notN (by omega)
  have e1 := codesin_ok hT (fu := fu) (k := k + 4) (μ := μ) h.rng h.few (by omega)
  have e2 := tup12 hT (fu := fu) (k := k + 4) (μ := μ) (xs := nv (qs.map (·.1))) (lo := 0) (hi := 4096) (by omega)
  have h2 : (qs.length : Int) ≤ 4096 := by omega
  simp only [List.length_map, h2, decide_true, Bool.and_true] at e2
  have h3 : decide ((0 : Int) ≤ (qs.length : Int)) = true := by simp
  rw [h3] at e2
  have nvq : nv (qs.map (·.1)) = qs.map fun q => PV.int (q.1 : Int) := by simp [nv]
  rw [nvq] at e2 ⊢
  have hz : qs.length ≤ SZ := by unfold SZ; omega
  have lc1 : ∀ body : PV → Sto → R (Option PV), (∀ q ∈ qs, body (.int ((q.1 : Nat) : Int)) μ = .ok (some (.bl true)) μ) → lcl (.v (.tup (qs.map fun q => PV.int (q.1 : Int)))) body μ = .ok (.new (.lst (qs.map fun _ => .bl true))) μ := fun body hb =>
    lcl_of (items_t _) (fun _ => .bl true) hb hz
  have lc2 : ∀ body : PV → Sto → R (Option PV), (∀ q ∈ qs, body (.int ((q.1 : Nat) : Int)) μ = .ok (some (.str q.2)) μ) → lcl (.v (.tup (qs.map fun q => PV.int (q.1 : Int)))) body μ = .ok (.new (.lst (qs.map fun q => .str q.2))) μ := fun body hb =>
    lcl_of (items_t _) (fun q : Nat × List Nat => .str q.2) hb hz
  have al : bi .all [.lst (qs.map fun _ => PV.bl true)] = some (.v (.bl true)) := by simp [bi, blsO_map (fun _ : Nat × List Nat => true)]
  have sm : ∀ qs : List (Nat × List Nat), (∀ q ∈ qs, q ∈ cds ls) → (qs.map fun q => q.2.length).sum ≤ 15 * qs.length := fun qs => by
    induction qs with
    | nil => intro _; simp
    | cons q qs ih =>
      intro hq
      have := ih fun p hp => hq p (List.mem_cons_of_mem _ hp)
      have c := (h.code (hq q (List.mem_cons_self ..))).2.1
      simp only [List.map_cons, List.sum_cons, List.length_cons]
      omega
  have jn : meR .join (.v (.str [])) [.new (.lst (qs.map fun q => .str q.2))] μ = .ok (.v (.str (qs.map (·.2)).flatten)) μ := by
    have e3 := sm qs hq
    have e4 : ((qs.map (·.2)).map (·.length)).sum + (qs.map (·.2)).length * ([] : List Nat).length ≤ SZ := by
      rw [List.map_map]
      simp only [List.length_nil, Nat.mul_zero, Nat.add_zero]
      unfold SZ
      have : ((qs.map ((fun x : List Nat => x.length) ∘ fun q => q.2))).sum = (qs.map fun q => q.2.length).sum := rfl
      omega
    have e5 : strsO (qs.map fun q => PV.str q.2) = some (qs.map (·.2)) := strsO_map (fun q : Nat × List Nat => q.2) qs
    have e6 : me .join (.str []) [.lst (qs.map fun q => PV.str q.2)] = some (.v (.str (qs.map (·.2)).flatten), .str []) := by
      simp only [me, e5, if_pos e4, joined_nil]
    simp [meR, e6, Me.chg, keepA]
  simp [F_put, e0, e1, e2]
  rw [lc1 _ fun q hqm => by
    have c := h.code (hq q hqm)
    have a1 : (0 : Int) ≤ (q.1 : Int) := by omega
    have a2 : (q.1 : Int) ≤ (ls.length : Int) - 1 := by omega
    simp [whole6 hT, a1, a2]]
  simp [al]
  rw [lc1 _ fun q hqm => by
    have c : cmpR .isin (.int (q.1 : Int)) (.dct (kSgn (cds ls))) = some (.v (.bl true)) := by
      have : (cds ls).any (fun p => decide (p.1 = q.1)) = true := List.any_eq_true.mpr ⟨q, hq q hqm, by simp⟩
      simp only [cmpR, cmp, inB, isK, if_true, has_sgn, this, Option.map_some]
    simp [c]]
  simp [al]
  rw [lc2 _ fun q hqm => by
    simp [get_code (cds_signs ls) (hq q hqm)]]
  simp [jn]
end
end ZL

set_option maxHeartbeats 4000000
/-! got: bits read code by code. -/
namespace ZL
open Z
/-- what bits tell: signs, and what is left, no code ahead of it -/
inductive Dec (cs : List (Nat × List Nat)) : List Nat → List Nat → List Nat → Prop
  | stop {x : List Nat} : (∀ q ∈ cs, ¬ q.2 <+: x) → Dec cs x [] x
  | go {q : Nat × List Nat} {x ss r : List Nat} : q ∈ cs → Dec cs x ss r → Dec cs (q.2 ++ x) (q.1 :: ss) r
abbrev Free (cs : List (Nat × List Nat)) : Prop := cs.Pairwise fun p q => ¬ p.2 <+: q.2 ∧ ¬ q.2 <+: p.2
theorem free_eq {cs : List (Nat × List Nat)} (hf : Free cs) {p q : Nat × List Nat} (hp : p ∈ cs) (hq : q ∈ cs) (h : p.2 <+: q.2) : p = q := by
  induction cs with
  | nil => cases hp
  | cons c cs ih =>
    obtain ⟨a, b⟩ := List.pairwise_cons.mp hf
    rcases List.mem_cons.mp hp with e | hp'
    · rcases List.mem_cons.mp hq with e2 | hq'
      · rw [e, e2]
      · exact absurd (e ▸ h) (a q hq').1
    · rcases List.mem_cons.mp hq with e2 | hq'
      · exact absurd (e2 ▸ h) (a p hp').2
      · exact ih b hp' hq'
theorem pre_two {a b x : List Nat} (h1 : a <+: x) (h2 : b <+: x) : a <+: b ∨ b <+: a := by
  rcases Nat.le_total a.length b.length with h | h
  · exact .inl (List.prefix_of_prefix_length_le h1 h2 h)
  · exact .inr (List.prefix_of_prefix_length_le h2 h1 h)
theorem Dec.stops {cs : List (Nat × List Nat)} {x ss r : List Nat} (d : Dec cs x ss r) (h : ∀ q ∈ cs, ¬ q.2 <+: x) : ss = [] ∧ r = x := by
  cases d with
  | stop _ => exact ⟨rfl, rfl⟩
  | go hq d => exact absurd (List.prefix_append _ _) (h _ hq)
theorem Dec.goes {cs : List (Nat × List Nat)} (hf : Free cs) {q : Nat × List Nat} (hq : q ∈ cs) {x y ss r : List Nat} (d : Dec cs x ss r) (e : x = q.2 ++ y) : ∃ ss', ss = q.1 :: ss' ∧ Dec cs y ss' r := by
  cases d with
  | stop h => exact absurd (e ▸ List.prefix_append _ _) (h _ hq)
  | @go p x2 ss2 _ hp d =>
    have h1 : p.2 <+: q.2 ++ y := e ▸ List.prefix_append _ _
    have : p = q := by
      rcases pre_two h1 (List.prefix_append q.2 y) with z | z
      · exact free_eq hf hp hq z
      · exact (free_eq hf hq hp z).symm
    subst this
    have : x2 = y := List.append_cancel_left e
    subst this
    exact ⟨ss2, rfl, d⟩
theorem isin_txt (ks : List (PV × PV)) (s : List Nat) : cmpR .isin (.str s) (.dct ks) = some (.v (.bl (dhas ks (.str s)))) := by
  cases s with
  | nil => rfl
  | cons a t => cases t <;> rfl
theorem find_txt {cs : List (Nat × List Nat)} (hf : Free cs) {q : Nat × List Nat} (h : q ∈ cs) : (cs.find? fun p => decide (p.2 = q.2)) = some q := by
  cases e : cs.find? fun p => decide (p.2 = q.2) with
  | none =>
    have := List.find?_eq_none.mp e q h
    simp at this
  | some p =>
    have hp := List.mem_of_find?_eq_some e
    have hq := List.find?_some e
    have : p.2 = q.2 := by simpa using hq
    rw [free_eq hf hp h (by rw [this]; exact List.prefix_refl _)]
theorem has_txt_t {cs : List (Nat × List Nat)} {q : Nat × List Nat} (h : q ∈ cs) : dhas (kTxt cs) (.str q.2) = true := by
  rw [has_txt]
  exact List.any_eq_true.mpr ⟨q, h, by simp⟩
theorem has_txt_f {cs : List (Nat × List Nat)} {s : List Nat} (h : ∀ q ∈ cs, q.2 ≠ s) : dhas (kTxt cs) (.str s) = false := by
  rw [has_txt, List.any_eq_false]
  intro q hq
  simpa using h q hq
theorem get_txt_q {cs : List (Nat × List Nat)} (hf : Free cs) {q : Nat × List Nat} (h : q ∈ cs) : idxR (.dct (kTxt cs)) (.str q.2) = some (.v (.int (q.1 : Int))) := by
  rw [idxR_dS, get_txt, find_txt hf h]
  rfl
section
variable {T : Nat → Option Fn} {con : Nat → PV} {fu k : Nat} {μ : Sto}
theorem got_loop {C : Cxt} {cs : List (Nat × List Nat)} (hf : Free cs) (hc : ∀ q ∈ cs, 1 ≤ q.2.length ∧ q.2.length ≤ 15) {v0 v1 : Option RV} : ∀ (y seen : List Nat) (found : List Nat) (v2 : Option RV) (ss r : List Nat), (∀ q ∈ cs, ¬ q.2 <+: seen) → Dec cs (seen ++ y) ss r → found.length + y.length ≤ 1000000 → seen.length + y.length ≤ 1000000 →
    ∃ v2' row', loopL (fun x ls μ => ex C L_got_0 (ls.set 2 (some (.v x))) μ) (y.map fun c => .str [c]) [v0, v1, v2, some (.v (.dct (kTxt cs))), some (.loc μ.length), some (.v (.str (seen.take 15))), some (.v (.int (seen.length : Int)))] (μ ++ [.lst (nv found)]) =
      .ok (.nx, [v0, v1, v2', some (.v (.dct (kTxt cs))), some (.loc μ.length), row', some (.v (.int (r.length : Int)))]) (μ ++ [.lst (nv (found ++ ss))])
  | [], seen, found, v2, ss, r, hn, d, _, _ => by
    rw [List.append_nil] at d
    obtain ⟨rfl, rfl⟩ := d.stops hn
    exact ⟨v2, _, by simp [loopL]; rfl⟩
  | c :: y, seen, found, v2, ss, r, hn, d, hl, hl2 => by
    simp only [List.length_cons] at hl hl2
    obtain ⟨seen', hs'⟩ : ∃ s, s = seen ++ [c] := ⟨_, rfl⟩
    have d' : Dec cs (seen' ++ y) ss r := by rw [hs']; simpa using d
    have l' : seen'.length = seen.length + 1 := by rw [hs']; simp
    have hlen : ((seen'.length : Nat) : Int) = (seen.length : Int) + 1 := by omega
    have step : ∀ (row : List Nat) (t : List Nat), row = t → True := fun _ _ _ => trivial
    by_cases h15 : seen.length < 15
    · have tk : seen.take 15 = seen := List.take_of_length_le (by omega)
      have tk' : seen'.take 15 = seen' := List.take_of_length_le (by omega)
      have a1 : decide ((seen.length : Int) < 15) = true := by simp; omega
      have a2 : decide ((seen.length : Int) + 1 < 16) = true := by simp; omega
      have ad : bin .add (.str seen) (.str [c]) = some (.v (.str seen')) := by
        rw [bin_addS (by simp; unfold SZ; omega), hs']
      by_cases hin : ∃ q ∈ cs, q.2 = seen'
      · obtain ⟨q, hq, hqe⟩ := hin
        obtain ⟨ss', rfl, d2⟩ := Dec.goes hf hq d' (by rw [hqe])
        obtain ⟨v2', row', ih⟩ := got_loop (C := C) hf hc (v0 := v0) (v1 := v1) y [] (found ++ [q.1]) (some (.v (.str [c]))) ss' r (fun p hp z => by
          have := (hc p hp).1
          rw [List.prefix_nil] at z
          rw [z] at this
          simp at this) (by simpa using d2) (by simp; omega) (by simp; omega)
        refine ⟨v2', row', ?_⟩
        have isn := isin_txt (kTxt cs) seen'
        rw [← hqe, has_txt_t hq, hqe] at isn
        have gt := get_txt_q hf hq
        rw [hqe] at gt
        have app := meR_app (n := μ.length) (xs := nv found) (q := .int (q.1 : Int)) (μ := μ ++ [.lst (nv found)]) (by simp) (by simp; unfold SZ; omega)
        have mk := meK_app (n := μ.length) (xs := nv found) (μ := μ ++ [.lst (nv found)]) (by simp)
        have st : (μ ++ [PV.lst (nv found)]).set μ.length (.lst (nv found ++ [.int (q.1 : Int)])) = μ ++ [.lst (nv (found ++ [q.1]))] := by simp [nv]
        rw [st] at app
        have body : ex C L_got_0 ([v0, v1, v2, some (.v (.dct (kTxt cs))), some (.loc μ.length), some (.v (.str (seen.take 15))), some (.v (.int (seen.length : Int)))].set 2 (some (.v (.str [c])))) (μ ++ [.lst (nv found)]) = .ok (.nx, [v0, v1, some (.v (.str [c])), some (.v (.dct (kTxt cs))), some (.loc μ.length), some (.v (.str [])), some (.v (.int 0))]) (μ ++ [.lst (nv (found ++ [q.1]))]) := by
          rw [tk]
          simp [L_got_0, a1, a2, ad, isn, gt, mk, app, tupR_kps, tgtR, one_tgt]
        simp only [List.map_cons, loopL, body, turn, R.bind_ok]
        simp only [List.take_nil, List.length_nil, Int.ofNat_zero, List.append_assoc, List.singleton_append] at ih
        exact ih
      · have hin' : ∀ q ∈ cs, q.2 ≠ seen' := fun q hq z => hin ⟨q, hq, z⟩
        have hn' : ∀ q ∈ cs, ¬ q.2 <+: seen' := fun q hq z => by
          by_cases hl : q.2.length ≤ seen.length
          · exact hn q hq (List.prefix_of_prefix_length_le z (by rw [hs']; exact List.prefix_append _ _) hl)
          · exact hin' q hq (z.eq_of_length (by have := z.length_le; omega))
        obtain ⟨v2', row', ih⟩ := got_loop (C := C) hf hc (v0 := v0) (v1 := v1) y seen' found (some (.v (.str [c]))) ss r hn' d' (by omega) (by omega)
        refine ⟨v2', row', ?_⟩
        have isn := isin_txt (kTxt cs) seen'
        rw [has_txt_f hin'] at isn
        have body : ex C L_got_0 ([v0, v1, v2, some (.v (.dct (kTxt cs))), some (.loc μ.length), some (.v (.str (seen.take 15))), some (.v (.int (seen.length : Int)))].set 2 (some (.v (.str [c])))) (μ ++ [.lst (nv found)]) = .ok (.nx, [v0, v1, some (.v (.str [c])), some (.v (.dct (kTxt cs))), some (.loc μ.length), some (.v (.str seen')), some (.v (.int ((seen.length : Int) + 1)))]) (μ ++ [.lst (nv found)]) := by
          rw [tk]
          simp [L_got_0, a1, a2, ad, isn]
        simp only [List.map_cons, loopL, body, turn, R.bind_ok]
        rw [tk', hlen] at ih
        exact ih
    · have tk' : seen'.take 15 = seen.take 15 := by rw [hs', List.take_append_of_le_length (by omega)]
      have a1 : decide ((seen.length : Int) < 15) = false := by simp; omega
      have a2 : decide ((seen.length : Int) + 1 < 16) = false := by simp; omega
      have ad : bin .add (.str (seen.take 15)) (.str []) = some (.v (.str (seen.take 15))) := by
        rw [bin_addS (by simp; unfold SZ; omega), List.append_nil]
      have hn' : ∀ q ∈ cs, ¬ q.2 <+: seen' := fun q hq z => by
        have := (hc q hq).2
        exact hn q hq (List.prefix_of_prefix_length_le z (by rw [hs']; exact List.prefix_append _ _) (by omega))
      obtain ⟨v2', row', ih⟩ := got_loop (C := C) hf hc (v0 := v0) (v1 := v1) y seen' found (some (.v (.str [c]))) ss r hn' d' (by omega) (by omega)
      refine ⟨v2', row', ?_⟩
      have body : ex C L_got_0 ([v0, v1, v2, some (.v (.dct (kTxt cs))), some (.loc μ.length), some (.v (.str (seen.take 15))), some (.v (.int (seen.length : Int)))].set 2 (some (.v (.str [c])))) (μ ++ [.lst (nv found)]) = .ok (.nx, [v0, v1, some (.v (.str [c])), some (.v (.dct (kTxt cs))), some (.loc μ.length), some (.v (.str (seen.take 15))), some (.v (.int ((seen.length : Int) + 1)))]) (μ ++ [.lst (nv found)]) := by
        obtain ⟨w, hw⟩ : ∃ w, w = seen.take 15 := ⟨_, rfl⟩
        rw [← hw] at ad ⊢
        simp [L_got_0, a1, a2, ad]
      simp only [List.map_cons, loopL, body, turn, R.bind_ok]
      rw [tk', hlen] at ih
      exact ih
theorem got_ok (hT : HCd T con) {ls : List Nat} (h : LGood ls) {x ss r : List Nat} (hx : Bts x) (hl : x.length ≤ 500000) (d : Dec (cds ls) x ss r) (hk : 5 ≤ k) : run T con fu k 75 [.v (.tup (nv ls)), .v (.str x)] μ = .ok (.v (.tup [.tup (nv ss), .int (r.length : Int)])) μ := by
  obtain ⟨k, rfl⟩ := Nat.exists_eq_add_of_le' hk
  rw [run_succ hT.got rfl]
  have e0 := needcodes_ok hT (fu := fu) (k := k + 4) (μ := μ) h.toLens h.notO h.notN (by omega)
  have e1 := needbits_ok hT (fu := fu) (k := k + 4) (μ := μ) hx (by omega) (by omega)
  have e2 := treein_ok hT (fu := fu) (k := k + 4) (μ := μ) h (by omega)
  obtain ⟨v2', row', e3⟩ := got_loop (C := ⟨run T con fu (k + 4), con, fu⟩) (μ := μ) h.free (fun q hq => ⟨(h.code hq).1, (h.code hq).2.1⟩) (v0 := some (.v (.tup (nv ls)))) (v1 := some (.v (.str x))) x [] [] none ss r (fun q hq z => by
    have := (h.code hq).1
    rw [List.prefix_nil] at z
    rw [z] at this
    simp at this) (by simpa using d) (by simp; omega) (by simp; omega)
  simp only [List.take_nil, List.length_nil, Int.ofNat_zero, List.nil_append] at e3
  have l0 : lstR [] μ = .ok (.new (.lst [])) μ := by simp [lstR_kps]
  simp [F_got, e0, e1, e2, l0, loop_v (items_s _)]
  refine (congrArg (fin μ.length) (seqR_of e3)).trans ?_
  simp [tupR_kps, biR]
end
end ZL

set_option maxHeartbeats 4000000
/-! the law's own codes, counted by length. -/
namespace ZL
open Z
/-- how many signs have so many bits -/
def cntF (ls : List Nat) (m : Nat) : Nat := ((prs ls).filter fun p => decide (p.1 = m)).length
/-- the first number of so many bits -/
def FN (ls : List Nat) : Nat → Nat
  | 0 => 0
  | m + 1 => 2 * (FN ls m + cntF ls m)
theorem rm_succ {m : Nat} (h : m < 15) : rm m = 2 * rm (m + 1) := by
  unfold rm
  rw [show 15 - m = (15 - (m + 1)) + 1 by omega, Nat.pow_succ, Nat.mul_comm]
theorem rms_split (m : Nat) (l : List (Nat × Nat)) : rms (l.filter fun p => decide (p.1 < m + 1)) = rms (l.filter fun p => decide (p.1 < m)) + (l.filter fun p => decide (p.1 = m)).length * rm m := by
  induction l with
  | nil => simp [rms]
  | cons p l ih =>
    simp only [List.filter_cons]
    unfold rms at ih ⊢
    rcases Nat.lt_trichotomy p.1 m with h | h | h
    · have a : p.1 < m + 1 := by omega
      have b : ¬ p.1 = m := by omega
      simp [h, a, b, ih, Nat.add_assoc]
    · have a : p.1 < m + 1 := by omega
      have b : ¬ p.1 < m := by omega
      simp [h, ih, Nat.add_mul]
      omega
    · have a : ¬ p.1 < m + 1 := by omega
      have b : ¬ p.1 = m := by omega
      have c : ¬ p.1 < m := by omega
      simp [a, b, c, ih]
theorem FN_rm (ls : List Nat) : ∀ m, m ≤ 15 → FN ls m * rm m = rms ((prs ls).filter fun p => decide (p.1 < m))
  | 0, _ => by
    have : (prs ls).filter (fun p => decide (p.1 < 0)) = [] := List.filter_eq_nil_iff.mpr fun p _ => by simp
    rw [this]
    simp [FN, rms]
  | m + 1, h => by
    have ih := FN_rm ls m (by omega)
    rw [rms_split, ← ih, FN]
    have := rm_succ (m := m) (by omega)
    rw [this, cntF]
    simp only [Nat.add_mul, Nat.mul_assoc, Nat.mul_left_comm, Nat.mul_comm, Nat.left_distrib]
theorem ahead_split (m s : Nat) (l : List (Nat × Nat)) : ahead l (m, s) = rms (l.filter fun p => decide (p.1 < m)) + (l.filter fun p => decide (p.1 = m) && decide (p.2 < s)).length * rm m := by
  unfold ahead
  induction l with
  | nil => simp [rms]
  | cons p l ih =>
    simp only [List.filter_cons]
    unfold rms at ih ⊢
    rcases Nat.lt_trichotomy p.1 m with h | h | h
    · have b : ¬ p.1 = m := by omega
      simp [ltB, h, b] at ih ⊢
      omega
    · by_cases h2 : p.2 < s
      · have b : ¬ p.1 < m := by omega
        simp [ltB, h, h2, Nat.add_mul] at ih ⊢
        omega
      · simp [ltB, h, h2] at ih ⊢
        omega
    · have b : ¬ p.1 = m := by omega
      have c : ¬ p.1 < m := by omega
      simp [ltB, b, c] at ih ⊢
      omega
/-- the number of a code: the first of its length, and how many signs ahead have this length -/
theorem code_num (ls : List Nat) {m s : Nat} (h : m ≤ 15) : ahead (prs ls) (m, s) / rm m = FN ls m + ((prs ls).filter fun p => decide (p.1 = m) && decide (p.2 < s)).length := by
  rw [ahead_split, ← FN_rm ls m h, ← Nat.add_mul, Nat.mul_div_cancel _ (rm_pos m)]
theorem prs_app (a b : List Nat) : ((a ++ b).zipIdx.filter fun p => decide (0 < p.1)) = prs a ++ ((b.zipIdx a.length).filter fun p => decide (0 < p.1)) := by
  rw [List.zipIdx_append, List.filter_append]
  simp [prs]
theorem prs_lt {a : List Nat} {p : Nat × Nat} (h : p ∈ prs a) : p.2 < a.length := (List.getElem?_eq_some_iff.mp (prs_mem.mp h).2).1
/-- the signs ahead of a place -/
theorem prs_take (ls : List Nat) (j : Nat) (hj : j ≤ ls.length) : prs (ls.take j) = (prs ls).filter fun p => decide (p.2 < j) := by
  have e : prs ls = prs (ls.take j) ++ (((ls.drop j).zipIdx (ls.take j).length).filter fun p => decide (0 < p.1)) := by
    have := prs_app (ls.take j) (ls.drop j)
    rw [List.take_append_drop] at this
    exact this
  have hl : (ls.take j).length = j := by rw [List.length_take]; omega
  rw [e, List.filter_append]
  have f1 : (prs (ls.take j)).filter (fun p => decide (p.2 < j)) = prs (ls.take j) := List.filter_eq_self.mpr fun p hp => by
    have := prs_lt hp
    rw [hl] at this
    simpa using this
  have f2 : (((ls.drop j).zipIdx (ls.take j).length).filter fun p => decide (0 < p.1)).filter (fun p => decide (p.2 < j)) = [] := List.filter_eq_nil_iff.mpr fun p hp => by
    have := List.mem_zipIdx (List.mem_filter.mp hp).1
    simp
    omega
  rw [f1, f2, List.append_nil]
theorem prs_step {ls : List Nat} {j : Nat} (hj : j < ls.length) : prs (ls.take (j + 1)) = prs (ls.take j) ++ (if 0 < ls[j] then [(ls[j], j)] else []) := by
  have e : ls.take (j + 1) = ls.take j ++ [ls[j]] := (List.take_append_getElem hj).symm
  have := prs_app (ls.take j) [ls[j]]
  rw [← e] at this
  have hl : (ls.take j).length = j := by rw [List.length_take]; omega
  rw [hl] at this
  unfold prs at this ⊢
  rw [this]
  congr 1
  by_cases h : 0 < ls[j]
  · simp [h]
  · simp [h]
/-- the law's tree: in the signs' own order -/
def lcd (ls : List Nat) : List (Nat × List Nat) := (prs ls).map (codeOf (prs ls))
theorem lcd_perm (ls : List Nat) : (lcd ls).Perm (cds ls) := (cds_perm ls).symm
theorem lcd_mem {ls : List Nat} {q : Nat × List Nat} : q ∈ lcd ls ↔ q ∈ cds ls := (lcd_perm ls).mem_iff
theorem LGood.lfree {ls : List Nat} (h : LGood ls) : Free (lcd ls) :=
  ((lcd_perm ls).pairwise_iff (R := fun p q : Nat × List Nat => ¬ p.2 <+: q.2 ∧ ¬ q.2 <+: p.2) (fun h => ⟨h.2, h.1⟩)).mpr h.free
/-- the dict of first numbers, up to so many bits -/
def fD (n : Nat) (f : Nat → Nat) : List (PV × PV) := (List.range n).map fun i => (.int ((i + 1 : Nat) : Int), .int (f (i + 1) : Nat))
theorem fD_get {n : Nat} {f : Nat → Nat} {m : Nat} (h1 : 1 ≤ m) (h2 : m ≤ n) : dget (fD n f) (.int (m : Int)) = some (.int (f m : Nat)) := by
  unfold dget fD
  rw [List.find?_map, Option.map_map]
  have : (List.range n).find? ((fun kv : PV × PV => keq kv.1 (.int (m : Int))) ∘ fun i => (PV.int ((i + 1 : Nat) : Int), PV.int (f (i + 1) : Nat))) = some (m - 1) := by
    rw [List.find?_eq_some_iff_getElem]
    refine ⟨?_, m - 1, by simp; omega, by simp, fun j hj => ?_⟩
    · simp only [Function.comp]
      rw [keqI]
      simp
      omega
    · simp only [Function.comp, List.getElem_range]
      rw [keqI]
      simp
      omega
  rw [this]
  simp only [Option.map_some, Function.comp]
  rw [show m - 1 + 1 = m by omega]
theorem fD_has {n : Nat} {f : Nat → Nat} {m : Nat} : dhas (fD n f) (.int (m : Int)) = decide (1 ≤ m ∧ m ≤ n) := by
  unfold dhas fD
  rw [List.any_map]
  rw [Bool.eq_iff_iff]
  simp only [List.any_eq_true, List.mem_range, Function.comp, decide_eq_true_eq]
  constructor
  · rintro ⟨i, hi, h⟩
    rw [keqI] at h
    simp at h
    omega
  · rintro ⟨h1, h2⟩
    refine ⟨m - 1, by omega, ?_⟩
    rw [keqI]
    simp
    omega
theorem fD_put {n : Nat} {f : Nat → Nat} {m v : Nat} (h1 : 1 ≤ m) (h2 : m ≤ n) : dput (fD n f) (.int (m : Int)) (.int (v : Int)) = fD n fun x => if x = m then v else f x := by
  unfold dput
  rw [fD_has, if_pos (by simp; omega)]
  unfold fD
  rw [List.map_map]
  refine List.map_congr_left fun i hi => ?_
  simp only [Function.comp]
  rw [keqI]
  by_cases h : i + 1 = m
  · simp [h]
  · simp [h]
theorem fD_new {n : Nat} {f : Nat → Nat} : dput (fD n f) (.int ((n + 1 : Nat) : Int)) (.int (f (n + 1) : Nat)) = fD (n + 1) f := by
  unfold dput
  rw [fD_has, if_neg (by simp)]
  unfold fD
  rw [List.range_succ, List.map_append]
  rfl
end ZL

set_option maxHeartbeats 4000000
/-! the law's own codes: the walk. -/
namespace ZL
open Z
theorem cnt_eq (m : Nat) : ∀ (ls : List Nat) (k : Nat), (((ls.zipIdx k).filter fun p => decide (0 < p.1)).filter fun p => decide (p.1 = m)).length = (ls.filter fun n => decide (n = m) && decide (0 < n)).length
  | [], _ => rfl
  | n :: ls, k => by
    have ih := cnt_eq m ls (k + 1)
    rw [List.filter_filter] at ih
    rw [List.zipIdx_cons, List.filter_filter, List.filter_cons, List.filter_cons]
    by_cases h : 0 < n
    · by_cases h2 : n = m
      · subst h2
        simp [h, ih]
      · simp [h2, ih]
    · simp [h, ih]
theorem cntF_eq (ls : List Nat) (m : Nat) : cntF ls m = (ls.filter fun n => decide (n = m) && decide (0 < n)).length := cnt_eq m ls 0
theorem fm_len {p : Nat → Bool} (v : PV) : ∀ ls : List Nat, (ls.filterMap fun n => if p n = true then some v else none).length = (ls.filter p).length
  | [] => rfl
  | n :: ls => by
    have ih := fm_len (p := p) v ls
    cases h : p n <;> simp [h, ih]
theorem set_two_b {μ : Sto} {a b : List (PV × PV)} {q p : PV} {ls : Lcs} (hq : isK q = true) (hl : b.length < SZ) : setR (.loc (μ.length + 1)) (.v q) (.v p) ls (μ ++ [.dct a, .dct b]) = .ok (.nx, ls) (μ ++ [.dct a, .dct (dput b q p)]) := by
  simp [setR, setP, hq, hl]
theorem set_two_a {μ : Sto} {a b : List (PV × PV)} {q p : PV} {ls : Lcs} (hq : isK q = true) (hl : a.length < SZ) : setR (.loc μ.length) (.v q) (.v p) ls (μ ++ [.dct a, .dct b]) = .ok (.nx, ls) (μ ++ [.dct (dput a q p), .dct b]) := by
  simp [setR, setP, hq, hl]
theorem get_two_a {μ : Sto} {a b : List (PV × PV)} {q : PV} : opt2 idxR (.loc μ.length) (.v q) (μ ++ [.dct a, .dct b]) = opt (idxR (.dct a) q) (μ ++ [.dct a, .dct b]) := by
  simp [opt2]
def fJ (ls : List Nat) (j m : Nat) : Nat := FN ls m + ((prs (ls.take j)).filter fun p => decide (p.1 = m)).length
theorem code_fJ {ls : List Nat} {j n : Nat} (hj : j < ls.length) (hn : n ≤ 15) : codeOf (prs ls) (n, j) = (j, cT n (fJ ls j n)) := by
  unfold codeOf fJ
  simp only
  rw [code_num ls hn, prs_take ls j (by omega), List.filter_filter]
section
variable {T : Nat → Option Fn} {con : Nat → PV} {fu k : Nat} {μ : Sto}
theorem lcodes1 {C : Cxt} {ls : List Nat} (hl : ls.length ≤ 320) {v2 v3 : Option RV} : ∀ (r i : Nat) (v1 : Option RV), i + r = 15 →
    ∃ v1', loopL (fun x l μ => ex C L__law_codes_1 (l.set 1 (some (.v x))) μ) ((List.range' i r).map fun i : Nat => .int (1 + (i : Int))) [some (.v (.tup (nv ls))), v1, v2, v3, some (.loc μ.length), some (.v (.int (FN ls i : Nat))), none] (μ ++ [.dct (fD i (FN ls))]) =
      .ok (.nx, [some (.v (.tup (nv ls))), v1', v2, v3, some (.loc μ.length), some (.v (.int (FN ls 15 : Nat))), none]) (μ ++ [.dct (fD 15 (FN ls))])
  | 0, i, v1, h => by
    obtain rfl : i = 15 := by omega
    exact ⟨v1, rfl⟩
  | r + 1, i, v1, h => by
    obtain ⟨v1', ih⟩ := lcodes1 (C := C) hl (v2 := v2) (v3 := v3) r (i + 1) (some (.v (.int (1 + (i : Int))))) (by omega)
    refine ⟨v1', ?_⟩
    obtain ⟨V, hV, lc⟩ : ∃ V : List PV, V.length = cntF ls i ∧ ev C (.lc (.int 1) (.nm 6) (.var 0) (.cons (.and (.cmp .eq (.var 6) (.bin .sub (.var 1) (.int 1))) (.cmp .gt (.var 6) (.int 0))) .nil)) [some (.v (.tup (nv ls))), some (.v (.int (1 + (i : Int)))), v2, v3, some (.loc μ.length), some (.v (.int (FN ls i : Nat))), none] (μ ++ [.dct (fD i (FN ls))]) = .ok (.new (.lst V)) (μ ++ [.dct (fD i (FN ls))]) := by
      refine ⟨ls.filterMap fun n => if (decide (n = i) && decide (0 < n)) = true then some (.int 1) else none, by rw [fm_len, cntF_eq], ?_⟩
      rw [ev_lc]
      simp only [ev_var, lvR_0, R.bind_ok]
      refine lcl_fm (g := fun n : Nat => PV.int (n : Int)) (xs := ls) rfl _ (fun n hn => ?_) (by unfold SZ; omega)
      have e2 : (1 : Int) + (i : Int) - 1 = (i : Int) := by omega
      by_cases h1 : n = i
      · subst h1
        by_cases h0 : 0 < n
        · simp [e2, h0]
        · simp [e2, h0]
      · have : ((n : Int) == (i : Int)) = false := by
          rw [beq_eq_false_iff_ne]
          omega
        simp [e2, h1, this]
    have hm : bin .mul (.int 2) (.int ((FN ls i : Int) + (cntF ls i : Int))) = some (.v (.int (FN ls (i + 1) : Nat))) := by
      rw [bin_mulI (by simp [sml])]
      congr 3
    have body : ex C L__law_codes_1 ([some (.v (.tup (nv ls))), v1, v2, v3, some (.loc μ.length), some (.v (.int (FN ls i : Nat))), none].set 1 (some (.v (.int (1 + (i : Int)))))) (μ ++ [.dct (fD i (FN ls))]) = .ok (.nx, [some (.v (.tup (nv ls))), some (.v (.int (1 + (i : Int)))), v2, v3, some (.loc μ.length), some (.v (.int (FN ls (i + 1) : Nat))), none]) (μ ++ [.dct (fD (i + 1) (FN ls))]) := by
      have st := set_last (μ := μ) (ks := fD i (FN ls)) (q := .int (1 + (i : Int))) (p := .int (FN ls (i + 1) : Nat)) (ls := [some (.v (.tup (nv ls))), some (.v (.int (1 + (i : Int)))), v2, v3, some (.loc μ.length), some (.v (.int (FN ls (i + 1) : Nat))), none]) rfl (by simp [fD]; unfold SZ; omega)
      have e1 : (1 : Int) + (i : Int) = ((i + 1 : Nat) : Int) := by omega
      have fn := fD_new (n := i) (f := FN ls)
      rw [← e1] at fn
      rw [fn] at st
      simp only [L__law_codes_1, ex_seq, ex_asg, ex_setI, ex_skip, ev_bin, ev_int, ev_var, ev_bi, evs_cons, evs_nil, List.set_cons_succ, List.set_cons_zero, lvR_0, lvR_s, R.bind_ok, lc, biR_1n, bi_len_l, hV, opt_some, opt2_vv, bin_addI, hm, asgR_v, seqR_nx, st]
    simp only [List.range'_succ, List.map_cons, loopL, body, turn, R.bind_ok]
    exact ih
theorem lcodes2 (hB : T 3 = some F__law_bits) (hk : 1 ≤ k) {ls : List Nat} (h : LGood ls) {v5 v6 : Option RV} : ∀ (r j : Nat) (v1 v3 : Option RV) (f : Nat → Nat), j + r = ls.length → (∀ m, 1 ≤ m → m ≤ 15 → f m = fJ ls j m) →
    ∃ v1' v3' f', loopL (fun x l μ => ex ⟨run T con fu k, con, fu⟩ L__law_codes_0 (l.set 3 (some (.v x))) μ) ((List.range' j r).map fun i : Nat => .int (0 + (i : Int))) [some (.v (.tup (nv ls))), v1, some (.loc (μ.length + 1)), v3, some (.loc μ.length), v5, v6] (μ ++ [.dct (fD 15 f), .dct (kTxt ((prs (ls.take j)).map (codeOf (prs ls))))]) =
      .ok (.nx, [some (.v (.tup (nv ls))), v1', some (.loc (μ.length + 1)), v3', some (.loc μ.length), v5, v6]) (μ ++ [.dct (fD 15 f'), .dct (kTxt (lcd ls))])
  | 0, j, v1, v3, f, hj, _ => by
    obtain rfl : j = ls.length := by omega
    exact ⟨v1, v3, f, by simp [loopL, lcd]⟩
  | r + 1, j, v1, v3, f, hj, hf => by
    have hjl : j < ls.length := by omega
    obtain ⟨n, hn⟩ : ∃ n, n = ls[j] := ⟨_, rfl⟩
    have hn15 : n ≤ 15 := by rw [hn]; exact h.rng _ (List.getElem_mem hjl)
    have ps := prs_step hjl
    rw [← hn] at ps
    have ix : atI (nv ls) (j : Int) = some (.int (n : Int)) := by
      rw [atI_nat (by simpa using hjl)]
      simp [hn]
    have e0 : (0 : Int) + (j : Int) = (j : Int) := by omega
    by_cases h0 : 0 < n
    · rw [if_pos h0] at ps
      have hc := code_fJ (ls := ls) (j := j) hjl hn15
      obtain ⟨f', hf'⟩ : ∃ f', f' = fun x => if x = n then f n + 1 else f x := ⟨_, rfl⟩
      obtain ⟨v1', v3', f2, ih⟩ := lcodes2 hB hk h (v5 := v5) (v6 := v6) r (j + 1) (some (.v (.int (n : Int)))) (some (.v (.int (j : Int)))) f' (by omega) (fun m h1 h2 => by
        rw [hf']
        unfold fJ
        rw [ps, List.filter_append, List.length_append]
        by_cases hm : m = n
        · subst hm
          have := hf m h1 h2
          unfold fJ at this
          simp
          omega
        · have := hf m h1 h2
          unfold fJ at this
          have nm : ¬ n = m := fun z => hm z.symm
          simp [hm, nm]
          omega)
      refine ⟨v1', v3', f2, ?_⟩
      have g1 := fD_get (n := 15) (f := f) (m := n) (by omega) hn15
      have gi : idxR (.dct (fD 15 f)) (.int (n : Int)) = some (.v (.int (f n : Nat))) := by rw [idxR_dI, g1]; rfl
      have lb := lbits_ok (T := T) (con := con) (fu := fu) (k := k) (μ := μ ++ [.dct (fD 15 f), .dct (kTxt ((prs (ls.take j)).map (codeOf (prs ls))))]) hB (num := (f n : Int)) (m := n) (by unfold SZ; omega) hk
      have cT_ : (bF n (f n : Int)).reverse = cT n (fJ ls j n) := by rw [cT_bF, hf n (by omega) hn15]
      have lz : (bF n (f n : Int)).length ≤ SZ := by rw [bF_len]; unfold SZ; omega
      have nw : dput (kTxt ((prs (ls.take j)).map (codeOf (prs ls)))) (.str (cT n (fJ ls j n))) (.int (j : Int)) = kTxt ((prs (ls.take (j + 1))).map (codeOf (prs ls))) := by
        have := put_txt (cs := (prs (ls.take j)).map (codeOf (prs ls))) (q := (j, cT n (fJ ls j n))) (fun p hp z => by
          obtain ⟨p0, hp0, rfl⟩ := List.mem_map.mp hp
          have hp1 : p0 ∈ prs ls := by
            rw [prs_take ls j (by omega)] at hp0
            exact (List.mem_filter.mp hp0).1
          have hlt := prs_lt hp0
          rw [List.length_take] at hlt
          have m1 : codeOf (prs ls) p0 ∈ lcd ls := List.mem_map.mpr ⟨p0, hp1, rfl⟩
          have m2 : (j, cT n (fJ ls j n)) ∈ lcd ls := by
            rw [← hc]
            exact List.mem_map.mpr ⟨(n, j), prs_mem.mpr ⟨h0, by rw [hn]; exact List.getElem?_eq_getElem hjl⟩, rfl⟩
          have := free_eq h.lfree m1 m2 (by rw [z]; exact List.prefix_refl _)
          have := congrArg Prod.fst this
          simp only [codeOf] at this
          omega)
        rw [ps, List.map_append, List.map_cons, List.map_nil, hc]
        exact this
      have sb := set_two_b (μ := μ) (a := fD 15 f) (b := kTxt ((prs (ls.take j)).map (codeOf (prs ls)))) (q := .str (cT n (fJ ls j n))) (p := .int (j : Int)) (ls := [some (.v (.tup (nv ls))), some (.v (.int (n : Int))), some (.loc (μ.length + 1)), some (.v (.int (j : Int))), some (.loc μ.length), v5, v6]) rfl (by
        have : (prs (ls.take j)).length ≤ (ls.take j).zipIdx.length := List.length_filter_le ..
        simp at this
        have := h.few
        simp [kTxt]
        unfold SZ
        omega)
      rw [nw] at sb
      have sa := set_two_a (μ := μ) (a := fD 15 f) (b := kTxt ((prs (ls.take (j + 1))).map (codeOf (prs ls)))) (q := .int (n : Int)) (p := .int ((f n + 1 : Nat) : Int)) (ls := [some (.v (.tup (nv ls))), some (.v (.int (n : Int))), some (.loc (μ.length + 1)), some (.v (.int (j : Int))), some (.loc μ.length), v5, v6]) rfl (by simp [fD])
      rw [fD_put (by omega) hn15, ← hf'] at sa
      have hgt : decide ((0 : Int) < (n : Int)) = true := by simp; omega
      have ga := get_two_a (μ := μ) (a := fD 15 f) (b := kTxt ((prs (ls.take j)).map (codeOf (prs ls)))) (q := .int (n : Int))
      have gb := get_two_a (μ := μ) (a := fD 15 f) (b := kTxt ((prs (ls.take (j + 1))).map (codeOf (prs ls)))) (q := .int (n : Int))
      rw [gi] at ga gb
      have rv : rvs (.str (bF n (f n : Int))) = some (.v (.str (cT n (fJ ls j n)))) := by simp only [rvs, if_pos lz, cT_]
      have en : (f n : Int) + 1 = ((f n + 1 : Nat) : Int) := by omega
      have body : ex ⟨run T con fu k, con, fu⟩ L__law_codes_0 ([some (.v (.tup (nv ls))), v1, some (.loc (μ.length + 1)), v3, some (.loc μ.length), v5, v6].set 3 (some (.v (.int (0 + (j : Int)))))) (μ ++ [.dct (fD 15 f), .dct (kTxt ((prs (ls.take j)).map (codeOf (prs ls))))]) = .ok (.nx, [some (.v (.tup (nv ls))), some (.v (.int (n : Int))), some (.loc (μ.length + 1)), some (.v (.int (j : Int))), some (.loc μ.length), v5, v6]) (μ ++ [.dct (fD 15 f'), .dct (kTxt ((prs (ls.take (j + 1))).map (codeOf (prs ls))))]) := by
        rw [e0]
        simp only [L__law_codes_0, ex_seq, ex_asg, ex_ife, ex_setI, ex_skip, ev_idx, ev_var, ev_cmp, ev_int, ev_rvs, ev_call, ev_bin, evs_cons, evs_nil, List.set_cons_succ, List.set_cons_zero, lvR_0, lvR_s, R.bind_ok, opt2_vv, idxR_t, ix, Option.map_some, opt_some, asgR_v, seqR_nx, cmpR_gtI, hgt, toB_v, iteB_t, ga, lb, opt1_v, rv, sb, gb, bin_addI, en, sa]
      simp only [List.range'_succ, List.map_cons, loopL, body, turn, R.bind_ok]
      exact ih
    · rw [if_neg h0, List.append_nil] at ps
      obtain rfl : n = 0 := by omega
      obtain ⟨v1', v3', f2, ih⟩ := lcodes2 hB hk h (v5 := v5) (v6 := v6) r (j + 1) (some (.v (.int 0))) (some (.v (.int (j : Int)))) f (by omega) (fun m h1 h2 => by
        rw [hf m h1 h2]
        unfold fJ
        rw [ps])
      refine ⟨v1', v3', f2, ?_⟩
      have body : ex ⟨run T con fu k, con, fu⟩ L__law_codes_0 ([some (.v (.tup (nv ls))), v1, some (.loc (μ.length + 1)), v3, some (.loc μ.length), v5, v6].set 3 (some (.v (.int (0 + (j : Int)))))) (μ ++ [.dct (fD 15 f), .dct (kTxt ((prs (ls.take j)).map (codeOf (prs ls))))]) = .ok (.nx, [some (.v (.tup (nv ls))), some (.v (.int 0)), some (.loc (μ.length + 1)), some (.v (.int (j : Int))), some (.loc μ.length), v5, v6]) (μ ++ [.dct (fD 15 f), .dct (kTxt ((prs (ls.take j)).map (codeOf (prs ls))))]) := by
        rw [e0]
        simp [L__law_codes_0, ix]
      simp only [List.range'_succ, List.map_cons, loopL, body, turn, R.bind_ok]
      rw [ps] at ih
      exact ih
theorem lcodes_ok (hT : HLcd T con) (hB : T 3 = some F__law_bits) {ls : List Nat} (h : LGood ls) (hk : 2 ≤ k) : run T con fu k 65 [.v (.tup (nv ls))] μ = .ok (.new (.dct (kTxt (lcd ls)))) μ := by
  obtain ⟨k, rfl⟩ := Nat.exists_eq_add_of_le' hk
  rw [run_succ hT._law_codes rfl]
  obtain ⟨v1', e1⟩ := lcodes1 (C := ⟨run T con fu (k + 1), con, fu⟩) (μ := μ) (ls := ls) h.few (v2 := none) (v3 := none) 15 0 none rfl
  obtain ⟨v1'', v3', f', e2⟩ := lcodes2 (con := con) (fu := fu) (k := k + 1) (μ := μ) hB (by omega) h (v5 := some (.v (.int (FN ls 15 : Nat)))) (v6 := none) ls.length 0 v1' none (FN ls) (by omega) (fun m h1 h2 => by
    unfold fJ
    simp [prs])
  have h62 := r62_nat (m := 16) (by decide)
  have h1 : r62 1 = true := by decide
  have hl := r62_nat (m := ls.length) (by have := h.few; unfold SZ; omega)
  rw [← List.range_eq_range'] at e1 e2
  have f0 : fD 0 (FN ls) = [] := rfl
  have n0 : ((FN ls 0 : Nat) : Int) = 0 := rfl
  have t0 : kTxt ((prs (ls.take 0)).map (codeOf (prs ls))) = [] := by simp [prs, kTxt]
  rw [f0, n0] at e1
  rw [t0] at e2
  have i1 : items (rng 1 16) = some ((List.range 15).map fun i : Nat => .int (1 + (i : Int))) := rng_items 1 16
  have i2 : items (rng 0 (ls.length : Int)) = some ((List.range ls.length).map fun i : Nat => .int (0 + (i : Int))) := by
    rw [rng_items]
    simp
  have r1 := rngR_ok (μ := μ ++ [.dct []]) h1 h62.2
  have r2 := rngR_ok (μ := μ ++ [.dct (fD 15 (FN ls)), .dct []]) hl.1 hl.2
  simp only [F__law_codes, ex_seq, ex_par, ex_mk, ex_ret, ex_forN, ex_skip, evs_cons, evs_nil, ev_dnew, ev_int, ev_rng, ev_var, ev_bi, R.bind_ok, parA_nt, parA_v, parA_nil, List.map_cons, List.map_nil, argL_v, List.set_cons_zero, List.set_cons_succ, seqR_nx, List.cons_append, List.nil_append, List.replicate, Nat.reduceSub]
  have r1' : rngR (.v (.int 1)) (.v (.int 16)) (μ ++ [.dct []]) = .ok (.v (rng 1 16)) (μ ++ [.dct []]) := r1
  rw [r1']
  simp only [R.bind_ok, loop_v i1]
  rw [e1]
  have al : (μ ++ [PV.dct (fD 15 (FN ls))]).length = μ.length + 1 := by simp
  have ap : (μ ++ [PV.dct (fD 15 (FN ls))]) ++ [.dct []] = μ ++ [.dct (fD 15 (FN ls)), .dct []] := by simp
  simp only [seqR_nx, mkR_n, al, ap, lvR_0, lvR_s, List.set_cons_zero, List.set_cons_succ, R.bind_ok, biR_1, bi_len_t, opt_some, List.length_map, r2, loop_v i2]
  rw [e2]
  simp [leave]
end
end ZL

set_option maxHeartbeats 4000000
/-! the law's own lengths: what they take, of what kind; drawn at random. -/
namespace ZL
open Z
theorem nO_one : ∀ a : Nat, nO (List.replicate a 48 ++ [49]) = ((2 ^ a : Nat) : Int)
  | 0 => rfl
  | a + 1 => by
    have ih := nO_one a
    rw [List.replicate_succ, List.cons_append, nO, ih, Nat.pow_succ]
    simp
    omega
theorem rep48 {n : Nat} (h : n ≤ 15) : bin .mul (.str [48]) (.int ((15 : Int) - (n : Int))) = some (.v (.str (List.replicate (15 - n) 48))) := by
  have : n = 0 ∨ n = 1 ∨ n = 2 ∨ n = 3 ∨ n = 4 ∨ n = 5 ∨ n = 6 ∨ n = 7 ∨ n = 8 ∨ n = 9 ∨ n = 10 ∨ n = 11 ∨ n = 12 ∨ n = 13 ∨ n = 14 ∨ n = 15 := by omega
  rcases this with rfl | rfl | rfl | rfl | rfl | rfl | rfl | rfl | rfl | rfl | rfl | rfl | rfl | rfl | rfl | rfl <;> rfl
section
variable {T : Nat → Option Fn} {con : Nat → PV} {fu k : Nat} {μ : Sto}
theorem lroom_ok (hT : HLcd T con) (hN : T 18 = some F__law_number) {ls : List Nat} (h : ∀ n ∈ ls, n ≤ 15) (hl : ls.length ≤ 1000) (hk : 2 ≤ k) : run T con fu k 53 [.v (.tup (nv ls))] μ = .ok (.v (.int (roomF ls : Nat))) μ := by
  obtain ⟨k, rfl⟩ := Nat.exists_eq_add_of_le' hk
  rw [run_succ hT._law_room rfl]
  simp [F__law_room]
  rw [lcl_fm (g := fun n : Nat => PV.int (n : Int)) (xs := ls) rfl (fun n => if 0 < n then some (.int ((rm n : Nat) : Int)) else none) (fun n hn => by
    have h15 := h n hn
    by_cases h0 : 0 < n
    · have e := lnum_ok (T := T) (con := con) (fu := fu) (k := k + 1) (μ := μ) hN (s := List.replicate (15 - n) 48 ++ [49]) (by simp; unfold SZ; omega) (by omega)
      rw [nO_one] at e
      have ad : bin .add (.str (List.replicate (15 - n) 48)) (.str [49]) = some (.v (.str (List.replicate (15 - n) 48 ++ [49]))) := bin_addS (by simp; unfold SZ; omega)
      have e' : run T con fu (k + 1) 18 [.v (.str (List.replicate (15 - n) 48 ++ [49]))] μ = .ok (.v (.int ((rm n : Nat) : Int))) μ := e
      simp only [wipeL_one, tgN_nm, asgT_nm, evc_cons, ev_cmp, ev_var, ev_int, List.set_cons_succ, List.set_cons_zero, lvR_0, lvR_s, R.bind_ok, opt2_vv, cmpR_gtI, opt_some, toB_v, ev_call, evs_cons, evs_nil, ev_bin, ev_str, bin_subI, rep48 h15, ad, e', kp_v, Option.map_some]
      have : decide ((0 : Int) < (n : Int)) = true := by simp; omega
      simp [this, h0]
    · simp [h0]) (by unfold SZ; omega)]
  rw [fm_used]
  simp only [biR_1n, bi, intsO_map (fun n : Nat => ((rm n : Nat) : Int)), Option.map_some, opt_some, R.bind_ok, fin_ret, leave_v]
  unfold roomF
  have : ∀ us : List Nat, (us.map fun n : Nat => ((rm n : Nat) : Int)).sum = (((us.map rm).sum : Nat) : Int) := fun us => by
    induction us with
    | nil => rfl
    | cons u us ih => simp only [List.map_cons, List.sum_cons, ih]; omega
  rw [this]
  simp
theorem lkind_ok (hT : HLcd T con) (hN : T 18 = some F__law_number) {ls : List Nat} (h : ∀ n ∈ ls, n ≤ 15) (hl : ls.length ≤ 1000) (hk : 3 ≤ k) : run T con fu k 54 [.v (.tup (nv ls))] μ = .ok (.v (.str (kindT ls))) μ := by
  obtain ⟨k, rfl⟩ := Nat.exists_eq_add_of_le' hk
  rw [run_succ hT._law_kind rfl]
  have hr := lroom_ok (con := con) (fu := fu) (k := k + 2) (μ := μ) hT hN h hl (by omega)
  have lc : ev ⟨run T con fu (k + 2), con, fu⟩ (.lc (.var 3) (.nm 3) (.var 0) (.cons (.cmp .gt (.var 3) (.int 0)) .nil)) [some (.v (.tup (nv ls))), none, none, none] μ = .ok (.new (.lst (nv (used ls)))) μ := by
    rw [ev_lc]
    simp only [ev_var, lvR_0, R.bind_ok]
    rw [lcl_fm (g := fun n : Nat => PV.int (n : Int)) (xs := ls) rfl (fun n => if 0 < n then some (.int (n : Int)) else none) (fun n hn => by
      by_cases h0 : 0 < n
      · simp [h0]
      · simp [h0]) (by unfold SZ; omega), fm_used]
  have q : lstR [.v (.int 1)] μ = .ok (.new (.lst [.int 1])) μ := by simp [lstR_kps]
  have q0 : lstR [] μ = .ok (.new (.lst [])) μ := by simp [lstR_kps]
  unfold kindT
  obtain ⟨u, hu⟩ : ∃ u, u = used ls := ⟨_, rfl⟩
  obtain ⟨r, hr2⟩ : ∃ r, r = roomF ls := ⟨_, rfl⟩
  rw [← hr2] at hr
  rw [← hu] at lc
  rw [← hu, ← hr2]
  have e0 := eq_nv0 u
  have e1 := eq_nv1 u
  simp only [F__law_kind, ex_seq, ex_par, ex_ife, ex_ret, ex_skip, evs_cons, evs_nil, ev_call, ev_var, ev_or, ev_cmp, ev_lst, ev_int, ev_ite, ev_str, lvR_0, lvR_s, R.bind_ok, List.map_cons, List.map_nil, argL_v, List.cons_append, List.nil_append, List.replicate, Nat.reduceSub, lc, hr, parA_nf, parA_v, parA_nil, List.set_cons_zero, List.set_cons_succ, seqR_nx, q0, q, opt2_vn, opt2_vv, e0, e1, opt_some, toB_v, cmpR_eqI, cmpR_gtI]
  by_cases h0 : u = []
  · rw [if_pos h0]
    have d0 : decide (u = []) = true := decide_eq_true h0
    simp [d0, q0, q, e0, e1, kNone]
  · rw [if_neg h0]
    have d0 : decide (u = []) = false := decide_eq_false h0
    by_cases h1 : u = [1]
    · rw [if_pos h1]
      have d1 : decide (u = [1]) = true := decide_eq_true h1
      simp [d0, d1, q0, q, e0, e1, kOne]
    · rw [if_neg h1]
      have d1 : decide (u = [1]) = false := decide_eq_false h1
      by_cases h2 : r = 32768
      · have : ((r : Int) == 32768) = true := by simp; omega
        rw [if_pos h2]
        simp [d0, d1, q0, q, e0, e1, this, kWhole]
      · have n2 : ((r : Int) == 32768) = false := by
          rw [beq_eq_false_iff_ne]
          omega
        rw [if_neg h2]
        by_cases h3 : 32768 < r
        · have h4 : decide ((32768 : Int) < (r : Int)) = true := by simp; omega
          rw [if_pos h3]
          simp [d0, d1, q0, q, e0, e1, n2, h4, kOver]
        · have h4 : decide ((32768 : Int) < (r : Int)) = false := by simp; omega
          rw [if_neg h3]
          simp [d0, d1, q0, q, e0, e1, n2, h4, kShort]
end
end ZL

set_option maxHeartbeats 4000000
/-! lengths drawn at random. -/
namespace ZL
open Z
abbrev E15 (L : List Nat) : Prop := ∀ x ∈ L, x ≤ 15
theorem cup2_len {μ : Sto} {L F : List Nat} (c : Cup μ [.lst (nv L), .lst (nv F)]) : biR .len [.loc 1] μ = .ok (.v (.int (L.length : Int))) μ := by
  obtain ⟨a, b, g, rfl⟩ := c
  simp [biR, bi]
theorem cup2_mk {μ : Sto} {L F : List Nat} (c : Cup μ [.lst (nv L), .lst (nv F)]) : meK .append (.loc 2) μ = true ∧ meK .pop1 (.loc 1) μ = true := by
  obtain ⟨a, b, g, rfl⟩ := c
  simp [meK, Me.chg]
theorem erase_map {α β : Type} (f : α → β) : ∀ (l : List α) (i : Nat), (l.map f).eraseIdx i = (l.eraseIdx i).map f
  | [], _ => rfl
  | _ :: _, 0 => rfl
  | x :: l, i + 1 => by
    simp only [List.map_cons, List.eraseIdx_cons_succ]
    rw [erase_map f l i]
theorem cup2_pop {μ : Sto} {L F : List Nat} (c : Cup μ [.lst (nv L), .lst (nv F)]) {x : Nat} (hx : x < L.length) : ∃ μ', meR .pop1 (.loc 1) [.v (.int (x : Int))] μ = .ok (.v (.int (L[x] : Int))) μ' ∧ Cup μ' [.lst (nv (L.eraseIdx x)), .lst (nv F)] := by
  obtain ⟨a, b, g, rfl⟩ := c
  refine ⟨[cupV a b, .lst (nv (L.eraseIdx x)), .lst (nv F)], ?_, a, b, g, rfl⟩
  have e1 : ixN (nv L).length (x : Int) = some x := by rw [ixN_pos (by omega) (by simp; omega)]; simp
  have e2 : (nv L)[x]? = some (.int (L[x] : Int)) := by simp [nv, hx]
  have e3 : (nv L).eraseIdx x = nv (L.eraseIdx x) := erase_map _ _ _
  have e4 : me .pop1 (.lst (nv L)) [.int (x : Int)] = some (.v (.int (L[x] : Int)), .lst (nv (L.eraseIdx x))) := by simp only [me, e1, e2, e3]
  simp [meR, e4, Me.chg]
theorem cup2_app {μ : Sto} {L F : List Nat} (c : Cup μ [.lst (nv L), .lst (nv F)]) (hl : F.length < 1000) (y : Nat) : ∃ μ', meR .append (.loc 2) [.v (.int (y : Int))] μ = .ok (.v .non) μ' ∧ Cup μ' [.lst (nv L), .lst (nv (F ++ [y]))] := by
  obtain ⟨a, b, g, rfl⟩ := c
  refine ⟨[cupV a b, .lst (nv L), .lst (nv (F ++ [y]))], ?_, a, b, g, rfl⟩
  rw [meR_app (xs := nv F) rfl (by simp; unfold SZ; omega)]
  simp [nv]
section
variable {T : Nat → Option Fn} {con : Nat → PV} {fu k : Nat}
theorem turned_loop (hR : HRoll T 69) (hk : 1 ≤ k) {v0 v1 : Option RV} : ∀ (is : List Nat) (g : Nat → PV) (L F : List Nat) (t : Option RV) (μ : Sto), Cup μ [.lst (nv L), .lst (nv F)] → is.length ≤ L.length → L.length + F.length ≤ 500 → E15 L → E15 F →
    ∃ L' F' t' μ', loopL (fun x ls μ => ex ⟨run T con fu k, con, fu⟩ L__law_turned_v2_0 (ls.set 2 (some (.v x))) μ) (is.map g) [some (.loc 0), v1, t, some (.loc 1), some (.loc 2)] μ = .ok (.nx, [some (.loc 0), v1, t', some (.loc 1), some (.loc 2)]) μ' ∧ Cup μ' [.lst (nv L'), .lst (nv F')] ∧ E15 F' ∧ F'.length ≤ 500
  | [], g, L, F, t, μ, c, _, hl, h1, h2 => ⟨L, F, t, μ, rfl, c, h2, by omega⟩
  | i :: is, g, L, F, t, μ, c, hi, hl, h1, h2 => by
    simp only [List.length_cons] at hi
    obtain ⟨x, μ1, e1, r1, c1⟩ := rollN (con := con) (fu := fu) (k := k) (r := 69) (m := (L.length : Int)) hR c (by omega) (by omega) hk
    have hx : x < L.length := by omega
    obtain ⟨μ2, e2, c2⟩ := cup2_pop c1 hx
    obtain ⟨μ3, e3, c3⟩ := cup2_app c2 (by omega) L[x]
    have hy := h1 _ (List.getElem_mem hx)
    obtain ⟨L', F', t', μ', e4, c4, h4, h5⟩ := turned_loop hR hk (v0 := v0) (v1 := v1) is g (L.eraseIdx x) (F ++ [L[x]]) (some (.v (g i))) μ3 c3 (by rw [List.length_eraseIdx, if_pos hx]; omega) (by rw [List.length_eraseIdx, if_pos hx]; simp; omega) (fun z hz => h1 z (List.mem_of_mem_eraseIdx hz)) (fun z hz => by
      rcases List.mem_append.mp hz with hz | hz
      · exact h2 z hz
      · have : z = L[x] := by simpa using hz
        omega)
    refine ⟨L', F', t', μ', ?_, c4, h4, h5⟩
    have m1 := (cup2_mk c).1
    have m2 := (cup2_mk c).2
    have body : ex ⟨run T con fu k, con, fu⟩ L__law_turned_v2_0 ([some (.loc 0), v1, t, some (.loc 1), some (.loc 2)].set 2 (some (.v (g i)))) μ = .ok (.nx, [some (.loc 0), v1, some (.v (g i)), some (.loc 1), some (.loc 2)]) μ3 := by
      simp [L__law_turned_v2_0, m1, m2, cup2_len c, e1, e2, e3]
    simp only [List.map_cons, loopL, body, turn, R.bind_ok]
    exact e4
theorem turned_ok (hT : T 70 = some F__law_turned_v2) (hR : HRoll T 69) {μ : Sto} {L : List Nat} (hL : E15 L) (hl : L.length ≤ 400) (c : Cup μ []) (hk : 2 ≤ k) :
    ∃ F μ', run T con fu k 70 [.loc 0, .v (.lst (nv L))] μ = .ok (.v (.tup (nv F))) μ' ∧ E15 F ∧ F.length ≤ 500 ∧ Cup μ' [] := by
  obtain ⟨k, rfl⟩ := Nat.exists_eq_add_of_le' hk
  rw [run_succ hT rfl]
  obtain ⟨a, b, g, rfl⟩ := c
  have c1 : Cup [cupV a b, .lst (nv L), .lst (nv [])] [.lst (nv L), .lst (nv [])] := ⟨a, b, g, rfl⟩
  obtain ⟨L', F', t', μ', e, c2, h4, h5⟩ := turned_loop (con := con) (fu := fu) (k := k + 1) hR (by omega) (v0 := none) (v1 := some (.v (.lst (nv L)))) (List.range L.length) (fun j : Nat => .int (0 + (j : Int))) L [] none _ c1 (by simp) (by simp; omega) hL (fun x hx => by cases hx)
  obtain ⟨a', b', g', rfl⟩ := c2
  refine ⟨F', [cupV a' b'], ?_, h4, h5, a', b', g', rfl⟩
  have h62 := r62_nat (m := L.length) (by unfold SZ; omega)
  have q0 : lstR [] [cupV a b] = .ok (.new (.lst [])) [cupV a b] := by simp [lstR_kps]
  have ln := cup2_len c1
  have it : items (rng 0 (L.length : Int)) = some ((List.range L.length).map fun i : Nat => .int (0 + (i : Int))) := by
    rw [rng_items]
    simp
  have n0 : nv [] = [] := rfl
  rw [n0] at ln e
  have r1 := rngR_ok (μ := [cupV a b, .lst (nv L), .lst []]) h62.1 h62.2
  simp only [F__law_turned_v2, ex_seq, ex_par, ex_ret, ex_forN, ex_skip, evs_cons, evs_nil, ev_bi, ev_var, ev_lst, ev_rng, ev_int, lvR_0, lvR_s, R.bind_ok, List.map_cons, List.map_nil, argL_v, argL_l, List.cons_append, List.nil_append, List.replicate, Nat.reduceSub, biR_1, bi_list_l, opt_some, q0, parA_nt, parA_nil, List.set_cons_zero, List.set_cons_succ, seqR_nx]
  simp only [List.length_cons, List.length_nil, List.length_append, Nat.reduceAdd, ln, R.bind_ok, r1, loop_v it]
  rw [e]
  simp [biR]
end
end ZL

set_option maxHeartbeats 4000000
/-! whole codes drawn at random, dealt to signs. -/
namespace ZL
open Z
theorem sum_at15 : ∀ L : List Nat, (∀ x ∈ L, ¬ x < 15) → (L.map rm).sum ≤ L.length
  | [], _ => by simp
  | x :: L, h => by
    have ih := sum_at15 L fun y hy => h y (List.mem_cons_of_mem _ hy)
    have hx := h x (List.mem_cons_self ..)
    have : rm x = 1 := by
      unfold rm
      rw [show 15 - x = 0 by omega]
    simp only [List.map_cons, List.sum_cons, List.length_cons, this]
    omega
theorem sum_part {L : List Nat} {i : Nat} (h : i < L.length) (h15 : L[i] < 15) : ((L.take i ++ ([L[i] + 1, L[i] + 1] ++ L.drop (i + 1))).map rm).sum = (L.map rm).sum := by
  have e : L = L.take i ++ (L[i] :: L.drop (i + 1)) := by
    rw [← List.drop_eq_getElem_cons h, List.take_append_drop]
  conv => rhs; rw [e]
  have := rm_succ h15
  simp only [List.map_append, List.map_cons, List.map_nil, List.sum_append, List.sum_cons, List.sum_nil]
  omega
section
variable {T : Nat → Option Fn} {con : Nat → PV} {fu k : Nat}
theorem shape_body (hS : T 71 = some (SomeF 69)) (hR : HRoll T 69) (hk : 2 ≤ k) {m : Nat} {L : List Nat} (h15 : E15 L) (hs : (L.map rm).sum = 32768) (hl : L.length ≤ 400) {v1 v4 v5 : Option RV} {μ : Sto} (c : Cup μ []) :
    ∃ L' v4' v5' μ', ex ⟨run T con fu k, con, fu⟩ L__law_shape_v2_0 [some (.loc 0), v1, some (.v (.int 15)), some (.v (.lst (nv L))), v4, v5] μ = .ok (.nx, [some (.loc 0), v1, some (.v (.int 15)), some (.v (.lst (nv L'))), v4', v5']) μ' ∧ Cup μ' [] ∧ E15 L' ∧ (L'.map rm).sum = 32768 ∧ L'.length = L.length + 1 := by
  obtain ⟨G, hG⟩ : ∃ G, G = (List.range L.length).filter fun j => decide (L.getD j 0 < 15) := ⟨_, rfl⟩
  have ne : G ≠ [] := fun z => by
    rw [hG, List.filter_eq_nil_iff] at z
    have := sum_at15 L fun x hx h => by
      obtain ⟨i, hi, rfl⟩ := List.mem_iff_getElem.mp hx
      exact z i (by simpa using hi) (by simp [hi, h])
    omega
  have gl : G.length ≤ 400 := by
    rw [hG]
    exact Nat.le_trans (List.length_filter_le ..) (by simpa using hl)
  have g0 : 0 < G.length := List.length_pos_iff.mpr ne
  obtain ⟨x, μ1, e1, hx, c1⟩ := some_ok (con := con) (fu := fu) (k := k) (xs := nv G) hS hR c (by simpa using g0) (by simp; omega) hk
  obtain ⟨i, hi, rfl⟩ := List.mem_map.mp hx
  rw [hG] at hi
  have hi1 : i < L.length := by simpa using (List.mem_filter.mp hi).1
  have hi2 : L[i] < 15 := by
    have := (List.mem_filter.mp hi).2
    simpa [hi1] using this
  have lc : ev ⟨run T con fu k, con, fu⟩ (.lc (.var 5) (.nm 5) (.rng (.int 0) (.bi .len (.cons (.var 3) .nil))) (.cons (.cmp .lt (.idx (.var 3) (.var 5)) (.var 2)) .nil)) [some (.loc 0), v1, some (.v (.int 15)), some (.v (.lst (nv L))), v4, v5] μ = .ok (.new (.lst (nv G))) μ := by
    rw [ev_lc]
    have h62 := r62_nat (m := L.length) (by unfold SZ; omega)
    have it : items (rng 0 (L.length : Int)) = some ((List.range L.length).map fun j : Nat => .int (0 + (j : Int))) := by
      rw [rng_items]
      simp
    simp only [ev_rng, ev_int, ev_bi, evs_cons, evs_nil, ev_var, lvR_0, lvR_s, R.bind_ok, biR_1, bi_len_l, opt_some, List.length_map, rngR_ok h62.1 h62.2]
    rw [lcl_fm (g := fun j : Nat => PV.int (0 + (j : Int))) (xs := List.range L.length) it (fun j => if L.getD j 0 < 15 then some (.int (j : Int)) else none) (fun j hj => by
      have hj : j < L.length := by simpa using hj
      have a : atI (nv L) (j : Int) = some (.int (L[j] : Int)) := by rw [atI_nat (by simpa using hj)]; simp
      have gd : L.getD j 0 = L[j] := by simp [hj]
      rw [gd]
      by_cases h : L[j] < 15
      · have d : decide ((L[j] : Int) < 15) = true := by simp; omega
        simp [a, d, h]
      · have d : decide ((L[j] : Int) < 15) = false := by simp; omega
        simp [a, d, h]) (by simp; unfold SZ; omega)]
    have fm : ∀ l : List Nat, (l.filterMap fun j => if L.getD j 0 < 15 then some (PV.int (j : Int)) else none) = nv (l.filter fun j => decide (L.getD j 0 < 15)) := fun l => by
      induction l with
      | nil => rfl
      | cons j l ih =>
        by_cases h : L.getD j 0 < 15
        · simp only [List.filterMap_cons, h, if_true, List.filter_cons, decide_true, ih, nv, List.map_cons]
        · simp only [List.filterMap_cons, h, if_false, List.filter_cons, decide_false, ih, Bool.false_eq_true]
    rw [fm, ← hG]
  have a : atI (nv L) (i : Int) = some (.int (L[i] : Int)) := by rw [atI_nat (by simpa using hi1)]; simp
  have c_ : cut (nv L) none (some (i : Int)) = nv (L.take i) := by rw [cut_to]; simp [nv]
  have d_ : cut (nv L) (some ((i : Int) + 1)) none = nv (L.drop (i + 1)) := by
    have := cut_from (xs := nv L) (a := i + 1)
    rw [show (((i + 1 : Nat) : Int)) = (i : Int) + 1 by omega] at this
    rw [this]
    simp [nv]
  obtain ⟨L', hL'⟩ : ∃ L', L' = L.take i ++ ([L[i] + 1, L[i] + 1] ++ L.drop (i + 1)) := ⟨_, rfl⟩
  have hL'l : L'.length = L.length + 1 := by
    rw [hL']
    simp
    omega
  have b1 : bin .add (.lst (nv (L.take i))) (.lst [.int ((L[i] : Int) + 1), .int ((L[i] : Int) + 1)]) = some (.new (.lst (nv (L.take i ++ [L[i] + 1, L[i] + 1])))) := by
    rw [bin_addL (by simp; unfold SZ; omega)]
    simp [nv]
  have b2 : bin .add (.lst (nv (L.take i ++ [L[i] + 1, L[i] + 1]))) (.lst (nv (L.drop (i + 1)))) = some (.new (.lst (nv L'))) := by
    rw [bin_addL (by simp; unfold SZ; omega), hL']
    simp [nv]
  refine ⟨L', some (.v (.lst (nv G))), some (.v (.int (i : Int))), μ1, ?_, c1, fun x hx => ?_, ?_, hL'l⟩
  · have l2 : lstR [.v (.int ((L[i] : Int) + 1)), .v (.int ((L[i] : Int) + 1))] μ1 = .ok (.new (.lst [.int ((L[i] : Int) + 1), .int ((L[i] : Int) + 1)])) μ1 := by simp [lstR_kps]
    simp only [L__law_shape_v2_0, ex_seq, ex_asg, ex_skip, lc, R.bind_ok, asgR_n, asgR_v, List.set_cons_succ, List.set_cons_zero, seqR_nx, ev_call, evs_cons, evs_nil, ev_var, lvR_0, lvR_s, e1, ev_bin, ev_slc, evo_nil, evo_cons, toI_v, Option.map_some, opt_some, opt1_v, slc_l, c_, ev_lst, ev_idx, opt2_vv, idxR_l, a, ev_int, bin_addI, l2, opt2_nn, b1, d_, b2]
  · rw [hL'] at hx
    simp only [List.mem_append, List.mem_cons, List.not_mem_nil, or_false] at hx
    rcases hx with hx | (hx | hx) | hx
    · exact h15 x (List.mem_of_mem_take hx)
    · omega
    · omega
    · exact h15 x (List.mem_of_mem_drop hx)
  · rw [hL', sum_part hi1 hi2, hs]
theorem shape_loop (hS : T 71 = some (SomeF 69)) (hR : HRoll T 69) (hk : 2 ≤ k) {m : Nat} (hm : m ≤ 390) : ∀ (n : Nat) (L : List Nat) (v4 v5 : Option RV) (μ : Sto), Cup μ [] → E15 L → (L.map rm).sum = 32768 → L.length ≤ 391 → 1 ≤ n → m + 1 ≤ L.length + n →
    ∃ L' v4' v5' μ', whl (fun ls μ => (ev ⟨run T con fu k, con, fu⟩ (.cmp .lt (.bi .len (.cons (.var 3) .nil)) (.var 1)) ls μ).bind toB) (fun ls μ => ex ⟨run T con fu k, con, fu⟩ L__law_shape_v2_0 ls μ) n [some (.loc 0), some (.v (.int (m : Int))), some (.v (.int 15)), some (.v (.lst (nv L))), v4, v5] μ =
      .ok (.nx, [some (.loc 0), some (.v (.int (m : Int))), some (.v (.int 15)), some (.v (.lst (nv L'))), v4', v5']) μ' ∧ Cup μ' [] ∧ E15 L' ∧ L'.length ≤ 391
  | 0, L, v4, v5, μ, c, h1, h2, h3, h0, h4 => by omega
  | n + 1, L, v4, v5, μ, c, h1, h2, h3, h0, h4 => by
    by_cases hlt : L.length < m
    · obtain ⟨L1, w4, w5, μ1, e1, c1, a1, a2, a3⟩ := shape_body (con := con) (fu := fu) hS hR hk (m := m) h1 h2 (by omega) (v1 := some (.v (.int (m : Int)))) (v4 := v4) (v5 := v5) c
      obtain ⟨L', v4', v5', μ', e2, c2, b1, b2⟩ := shape_loop hS hR hk hm n L1 w4 w5 μ1 c1 a1 a2 (by omega) (by omega) (by omega)
      refine ⟨L', v4', v5', μ', ?_, c2, b1, b2⟩
      rw [whl_t (μ1 := μ) (by
        simp
        omega) e1]
      exact e2
    · refine ⟨L, v4, v5, μ, ?_, c, h1, h3⟩
      rw [whl_f (μ1 := μ) (by
        simp
        omega)]
theorem shape_ok (hT : T 72 = some F__law_shape_v2) (hS : T 71 = some (SomeF 69)) (hR : HRoll T 69) {m : Nat} (hm : m ≤ 390) (hf : m ≤ fu) (h2 : 2 ≤ fu) {μ : Sto} (c : Cup μ []) (hk : 3 ≤ k) :
    ∃ L μ', run T con fu k 72 [.loc 0, .v (.int (m : Int)), .v (.int 15)] μ = .ok (.v (.lst (nv L))) μ' ∧ E15 L ∧ L.length ≤ 391 ∧ Cup μ' [] := by
  obtain ⟨k, rfl⟩ := Nat.exists_eq_add_of_le' hk
  rw [run_succ hT rfl]
  obtain ⟨L', v4', v5', μ', e, c2, b1, b2⟩ := shape_loop (con := con) (fu := fu) (k := k + 2) hS hR (by omega) (m := m) hm fu [1, 1] none none μ c (fun x hx => by simp at hx; omega) rfl (by decide) (by omega) (by simp; omega)
  refine ⟨L', μ', ?_, b1, b2, c2⟩
  have l2 : lstR [.v (.int 1), .v (.int 1)] μ = .ok (.new (.lst [.int 1, .int 1])) μ := by simp [lstR_kps]
  have n2 : nv [1, 1] = [.int 1, .int 1] := rfl
  rw [n2] at e
  have hl : μ'.length = μ.length := (Cup.len c2 c)
  have wh : ex ⟨run T con fu (k + 2), con, fu⟩ (.whl (.cmp .lt (.bi .len (.cons (.var 3) .nil)) (.var 1)) L__law_shape_v2_0) [some (.loc 0), some (.v (.int (m : Int))), some (.v (.int 15)), some (.v (.lst [.int 1, .int 1])), none, none] μ = .ok (.nx, [some (.loc 0), some (.v (.int (m : Int))), some (.v (.int 15)), some (.v (.lst (nv L'))), v4', v5']) μ' := e
  simp only [F__law_shape_v2, ex_seq, ex_asg, ex_ret, ex_skip, ev_lst, evs_cons, evs_nil, ev_int, ev_var, R.bind_ok, l2, asgR_n, List.map_cons, List.map_nil, argL_v, argL_l, List.cons_append, List.nil_append, List.replicate, Nat.reduceSub, List.set_cons_succ, List.set_cons_zero, seqR_nx, wh, lvR_0, lvR_s, seqR_ret, fin_ret, leave_v, ← hl, List.take_length]
/-- own codes stored at signs -/
theorem dealt_loop {C : Cxt} {μ0 : Sto} {v1 v2 v3 v5 : Option RV} {n : Nat} : ∀ (ps : List (Nat × Nat)) (D : List Nat) (v6 v7 : Option RV) (cv : PV), D.length = n → E15 D → (∀ p ∈ ps, p.1 < n ∧ p.2 ≤ 15) →
    ∃ D' v6' v7', loopL (fun x ls μ => match asgT (.cons (.nm 6) (.cons (.nm 7) .nil)) x ls with
      | some ls' => ex C L__law_dealt_v2_0 ls' μ
      | none => .no) (ps.map fun p => .tup [.int (p.1 : Int), .int (p.2 : Int)]) [some (.loc 0), v1, v2, v3, some (.loc 1), v5, v6, v7] [cv, .lst (nv D)] = .ok (.nx, [some (.loc 0), v1, v2, v3, some (.loc 1), v5, v6', v7']) [cv, .lst (nv D')] ∧ D'.length = n ∧ E15 D'
  | [], D, v6, v7, cv, h1, h2, _ => ⟨D, v6, v7, rfl, h1, h2⟩
  | p :: ps, D, v6, v7, cv, h1, h2, h3 => by
    obtain ⟨p1, p2⟩ := h3 p (List.mem_cons_self ..)
    obtain ⟨D', v6', v7', e, a1, a2⟩ := dealt_loop (C := C) (μ0 := μ0) (v1 := v1) (v2 := v2) (v3 := v3) (v5 := v5) ps (D.set p.1 p.2) (some (.v (.int (p.1 : Int)))) (some (.v (.int (p.2 : Int)))) cv (by simpa using h1) (fun x hx => by
      rcases List.mem_or_eq_of_mem_set hx with hx | hx
      · exact h2 x hx
      · omega) (fun q hq => h3 q (List.mem_cons_of_mem _ hq))
    refine ⟨D', v6', v7', ?_, a1, a2⟩
    have ix : ixN D.length (p.1 : Int) = some p.1 := by rw [ixN_pos (by omega) (by omega)]; simp
    have st : (nv D).set p.1 (.int (p.2 : Int)) = nv (D.set p.1 p.2) := by simp [nv, List.map_set]
    have body : ex C L__law_dealt_v2_0 [some (.loc 0), v1, v2, v3, some (.loc 1), v5, some (.v (.int (p.1 : Int))), some (.v (.int (p.2 : Int)))] [cv, .lst (nv D)] = .ok (.nx, [some (.loc 0), v1, v2, v3, some (.loc 1), v5, some (.v (.int (p.1 : Int))), some (.v (.int (p.2 : Int)))]) [cv, .lst (nv (D.set p.1 p.2))] := by
      have sp : setP (.lst (nv D)) (.int (p.1 : Int)) (.int (p.2 : Int)) = some (.lst (nv (D.set p.1 p.2))) := by
        simp only [setP, List.length_map, ix, Option.map_some, st]
      simp [L__law_dealt_v2_0, setR, sp]
    simp only [List.map_cons, loopL, one_tgt, List.set_cons_succ, List.set_cons_zero, body, turn, R.bind_ok]
    exact e
end
end ZL

set_option maxHeartbeats 4000000
/-! whole codes dealt to signs, bent at a place. -/
namespace ZL
open Z
theorem zip_nv : ∀ (S F : List Nat), ((nv S).zip (nv F)).map (fun p => PV.tup [p.1, p.2]) = (S.zip F).map fun p => .tup [.int (p.1 : Int), .int (p.2 : Int)]
  | [], _ => rfl
  | _ :: _, [] => rfl
  | s :: S, f :: F => by
    have ih := zip_nv S F
    simp only [nv] at ih ⊢
    simp only [List.map_cons, List.zip_cons_cons, ih]
theorem ne_nv0 (S : List Nat) : cmpR .ne (.lst (nv S)) (.lst []) = some (.v (.bl (!decide (S = [])))) := by
  have h := eq_nv0 S
  simp only [cmpR, cmp] at h ⊢
  obtain ⟨b, h1, h2⟩ := Option.map_eq_some_iff.mp h
  rw [h1]
  simp only [Option.map_some]
  have : b = decide (S = []) := by simpa using h2
  rw [this]
section
variable {T : Nat → Option Fn} {con : Nat → PV} {fu k : Nat}
theorem dealt_for {C : Cxt} {v2 v3 : Option RV} {S F : List Nat} {shp : PV} (hz : shp = .lst (nv F) ∨ shp = .tup (nv F)) {D : List Nat} {n : Nat} (h1 : D.length = n) (h2 : E15 D) (hS : ∀ s ∈ S, s < n) (hF : E15 F) (cv : PV) :
    ∃ D' v6' v7', ex C (.for (.cons (.nm 6) (.cons (.nm 7) .nil)) (.zip (.var 1) (.var 5)) L__law_dealt_v2_0) [some (.loc 0), some (.v (.lst (nv S))), v2, v3, some (.loc 1), some (.v shp), none, none] [cv, .lst (nv D)] = .ok (.nx, [some (.loc 0), some (.v (.lst (nv S))), v2, v3, some (.loc 1), some (.v shp), v6', v7']) [cv, .lst (nv D')] ∧ D'.length = n ∧ E15 D' := by
  obtain ⟨D', v6', v7', e, a1, a2⟩ := dealt_loop (C := C) (μ0 := []) (v1 := some (.v (.lst (nv S)))) (v2 := v2) (v3 := v3) (v5 := some (.v shp)) (S.zip F) D none none cv h1 h2 (fun p hp => by
    have := List.of_mem_zip (a := p.1) (b := p.2) hp
    exact ⟨hS _ this.1, hF _ this.2⟩)
  refine ⟨D', v6', v7', ?_, a1, a2⟩
  have zr : zipR (.v (.lst (nv S))) (.v shp) [cv, .lst (nv D)] = .ok (.v (.lst ((S.zip F).map fun p => .tup [.int (p.1 : Int), .int (p.2 : Int)]))) [cv, .lst (nv D)] := by
    rw [← zip_nv]
    rcases hz with rfl | rfl <;> rfl
  rw [ex_for]
  simp only [ev_zip, ev_var, lvR_0, lvR_s, R.bind_ok, zr, loop_v (items_l _)]
  exact e
theorem dealt_ok (hT : HLcd T con) (hR : HRoll T 69) (hS : T 71 = some (SomeF 69)) {S : List Nat} {n : Nat} (hn : n ≤ 380) (hS1 : ∀ s ∈ S, s < n) (hl : S.length ≤ 380) (hf : 390 ≤ fu) {μ : Sto} (c : Cup μ []) (hk : 5 ≤ k) :
    ∃ D μ', run T con fu k 73 [.loc 0, .v (.lst (nv S)), .v (.int (n : Int)), .v (.int 15)] μ = .ok (.new (.lst (nv D))) μ' ∧ D.length = n ∧ E15 D ∧ Cup μ' [] := by
  obtain ⟨k, rfl⟩ := Nat.exists_eq_add_of_le' hk
  rw [run_succ hT._law_dealt_v2 rfl]
  -- the shape
  have sh : ∃ shp F μ1 r, ev ⟨run T con fu (k + 4), con, fu⟩ (.ite (.cmp .eq (.bi .len (.cons (.var 1) .nil)) (.int 1)) (.lst (.cons (.int 1) .nil)) (.ite (.cmp .ne (.var 1) (.lst .nil)) (.call 70 (.cons (.var 0) (.cons (.call 72 (.cons (.var 0) (.cons (.bi .len (.cons (.var 1) .nil)) (.cons (.var 3) .nil)))) .nil))) (.lst .nil))) [some (.loc 0), some (.v (.lst (nv S))), some (.v (.int (n : Int))), some (.v (.int 15)), none, none, none, none] μ = .ok r μ1 ∧ (r = .v shp ∨ r = .new shp) ∧ (shp = .lst (nv F) ∨ shp = .tup (nv F)) ∧ E15 F ∧ Cup μ1 [] := by
    by_cases h1 : S.length = 1
    · refine ⟨.lst [.int 1], [1], μ, .new (.lst [.int 1]), ?_, .inr rfl, .inl rfl, (fun x hx => by simp at hx; omega), c⟩
      have : ((S.length : Int) == 1) = true := by simp; omega
      simp [this, lstR_kps]
    · have h1' : ((S.length : Int) == 1) = false := by
        rw [beq_eq_false_iff_ne]
        omega
      have l0 : lstR [] μ = .ok (.new (.lst [])) μ := by simp [lstR_kps]
      by_cases h0 : S = []
      · refine ⟨.lst [], [], μ, .new (.lst []), ?_, .inr rfl, .inl rfl, (fun x hx => by cases hx), c⟩
        have d0 : (!decide (S = [])) = false := by simp [h0]
        have nn := ne_nv0 S
        rw [d0] at nn
        simp [h1', l0, nn]
      · obtain ⟨L, μ1, e1, a1, a2, c1⟩ := shape_ok (con := con) (fu := fu) (k := k + 4) hT._law_shape_v2 hS hR (m := S.length) (by omega) (by omega) (by omega) c (by omega)
        obtain ⟨F, μ2, e2, b1, b2, c2⟩ := turned_ok (con := con) (fu := fu) (k := k + 4) hT._law_turned_v2 hR a1 (by omega) c1 (by omega)
        refine ⟨.tup (nv F), F, μ2, .v (.tup (nv F)), ?_, .inl rfl, .inr rfl, b1, c2⟩
        have d0 : (!decide (S = [])) = true := by simp [h0]
        have nn := ne_nv0 S
        rw [d0] at nn
        simp [h1', l0, nn, e1, e2]
  obtain ⟨shp, F, μ1, r, e1, hr, hz, hF, c1⟩ := sh
  obtain ⟨a, b, g, rfl⟩ := c1
  have e0 : ev ⟨run T con fu (k + 4), con, fu⟩ (.bin .mul (.lst (.cons (.int 0) .nil)) (.var 2)) [some (.loc 0), some (.v (.lst (nv S))), some (.v (.int (n : Int))), some (.v (.int 15)), none, none, none, none] μ = .ok (.new (.lst (nv (List.replicate n 0)))) μ := by
    have l1 : lstR [.v (.int 0)] μ = .ok (.new (.lst [.int 0])) μ := by simp [lstR_kps]
    have mu : bin .mul (.lst [.int 0]) (.int (n : Int)) = some (.new (.lst (nv (List.replicate n 0)))) := by
      have c1 : (decide (-(2 ^ 63 : Int) ≤ (n : Int)) && decide ((n : Int) < 2 ^ 63) && decide (([PV.int 0] : List PV).length * (n : Int).toNat ≤ SZ)) = true := by
        simp only [Bool.and_eq_true, decide_eq_true_eq]
        refine ⟨⟨by omega, by omega⟩, ?_⟩
        simp
        unfold SZ
        omega
      have e : rep [PV.int 0] (n : Int) = nv (List.replicate n 0) := by
        unfold rep nv
        rw [Int.toNat_natCast]
        have : ∀ m : Nat, (List.replicate m [PV.int 0]).flatten = (List.replicate m 0).map fun n : Nat => PV.int (n : Int) := fun m => by
          induction m with
          | zero => rfl
          | succ m ih => simp [List.replicate_succ, ih]
        exact this n
      simp only [bin]
      rw [if_pos c1, e]
    simp [l1, mu]
  have pa : ∀ ls : Lcs, parA [(5, false)] [r] ls ([cupV a b] ++ [.lst (nv (List.replicate n 0))]) = .ok (.nx, ls.set 5 (some (.v shp))) ([cupV a b] ++ [.lst (nv (List.replicate n 0))]) := fun ls => by
    rcases hr with rfl | rfl
    · rw [parA_v, parA_nil]
    · rw [parA_nf, parA_nil]
  obtain ⟨D', v6', v7', e2, a1, a2⟩ := dealt_for (C := ⟨run T con fu (k + 4), con, fu⟩) (v2 := some (.v (.int (n : Int)))) (v3 := some (.v (.int 15))) hz (D := List.replicate n 0) (n := n) (by simp) (fun x hx => by
    have := List.eq_of_mem_replicate hx
    omega) hS1 hF (cupV a b)
  refine ⟨D', [cupV a b], ?_, a1, a2, a, b, g, rfl⟩
  have ml : μ.length = 1 := by obtain ⟨_, _, _, rfl⟩ := c; rfl
  simp only [F__law_dealt_v2, ex_seq, ex_par, ex_ret, ex_skip, evs_cons, evs_nil, e0, e1, R.bind_ok, List.map_cons, List.map_nil, argL_v, argL_l, List.cons_append, List.nil_append, List.replicate, Nat.reduceSub, parA_nt, List.length_cons, List.length_nil, Nat.reduceAdd, List.set_cons_succ, List.set_cons_zero]
  simp only [List.cons_append, List.nil_append] at pa
  rw [pa]
  simp only [List.set_cons_succ, List.set_cons_zero, seqR_nx, e2, ev_var, lvR_0, lvR_s, R.bind_ok, seqR_ret, fin_ret, ml]
  simp [leave]
end
end ZL

set_option maxHeartbeats 4000000
/-! what the law's loops see: words of signs, codes that begin bits. -/
namespace ZL
open Z
theorem lcdR_v {ks : List (PV × PV)} {body : PV → Sto → R (Option PV)} {μ μ' : Sto} {ys : List PV} (h : lclL body (dwk false ks) [] μ = .ok ys μ') : lcdR false (.v (.dct ks)) body μ = .ok (.new (.lst ys)) μ' := by
  simp only [lcdR, h, R.bind_ok]
theorem dwk_txt (cs : List (Nat × List Nat)) : dwk false (kTxt cs) = cs.map fun q => PV.str q.2 := by
  unfold dwk kTxt
  rw [if_neg (by decide), List.map_map]
  rfl
theorem lclL_fm {α : Type} {g : α → PV} {body : PV → Sto → R (Option PV)} {μ : Sto} (f : α → Option PV) : ∀ (xs : List α) (acc : List PV), (∀ x ∈ xs, body (g x) μ = .ok (f x) μ) → acc.length + xs.length ≤ SZ → lclL body (xs.map g) acc μ = .ok (acc ++ xs.filterMap f) μ
  | [], acc, _, _ => by simp [lclL]
  | x :: xs, acc, h, hl => by
    simp only [List.length_cons] at hl
    have h1 : acc.length < SZ := by omega
    simp only [List.map_cons, lclL, h x (List.mem_cons_self ..), R.bind_ok]
    cases hf : f x with
    | none =>
      simp only [snoc]
      rw [lclL_fm f xs acc (fun y hy => h y (List.mem_cons_of_mem _ hy)) (by omega)]
      simp [hf]
    | some z =>
      simp only [snoc, h1, if_true]
      rw [lclL_fm f xs (acc ++ [z]) (fun y hy => h y (List.mem_cons_of_mem _ hy)) (by simp; omega)]
      simp [hf]
/-- a walk of a tree of codes -/
theorem lcd_txt {cs : List (Nat × List Nat)} {body : PV → Sto → R (Option PV)} {μ : Sto} (f : Nat × List Nat → Option PV) (h : ∀ q ∈ cs, body (.str q.2) μ = .ok (f q) μ) (hl : cs.length ≤ 1000) : lcdR false (.v (.dct (kTxt cs))) body μ = .ok (.new (.lst (cs.filterMap f))) μ := by
  refine lcdR_v ?_
  rw [dwk_txt]
  have := lclL_fm (g := fun q : Nat × List Nat => PV.str q.2) f cs [] h (by simp; unfold SZ; omega)
  simpa using this
theorem fm_all {α β : Type} (f : α → β) (l : List α) : (l.filterMap fun x => some (f x)) = l.map f := by
  rw [List.filterMap_eq_map']
theorem fm_if {α β : Type} (p : α → Bool) (f : α → β) (l : List α) : (l.filterMap fun x => if p x = true then some (f x) else none) = (l.filter p).map f := by
  induction l with
  | nil => rfl
  | cons x l ih => cases h : p x <;> simp [h, ih]
theorem dmerge_sgn : ∀ (cs acc : List (Nat × List Nat)), (∀ q ∈ cs, ∀ p ∈ acc, p.1 ≠ q.1) → (cs.map (·.1)).Nodup → dmerge (kSgn acc) (cs.map fun q => .tup [.int (q.1 : Int), .str q.2]) = some (kSgn (acc ++ cs))
  | [], acc, _, _ => by simp [dmerge]
  | q :: cs, acc, h, hd => by
    simp only [List.map_cons, List.nodup_cons] at hd
    simp only [List.map_cons, dmerge, isK, if_true]
    rw [put_sgn (fun p hp => h q (List.mem_cons_self ..) p hp), dmerge_sgn cs (acc ++ [q]) (fun z hz p hp => by
      rcases List.mem_append.mp hp with hp | hp
      · exact h z (List.mem_cons_of_mem _ hz) p hp
      · have : p = q := by simpa using hp
        subst this
        exact fun e => hd.1 (e ▸ List.mem_map.mpr ⟨z, hz, rfl⟩)) hd.2]
    simp
theorem poks_str : ∀ (d : Nat) (l : List (List Nat)), (∀ s ∈ l, Bts s) → poks d (l.map .str) = true
  | d, [], _ => by cases d <;> rfl
  | d, s :: l, h => by
    have ih := poks_str d l fun t ht => h t (List.mem_cons_of_mem _ ht)
    have hs : s.all (fun x => decide (x < 1114112)) = true := List.all_eq_true.mpr fun c hc => by
      have := h s (List.mem_cons_self ..) c hc
      simp
      omega
    cases d <;> simp [poks, pok, ih] <;> simpa using hs
theorem eq_strs {l : List (List Nat)} (h : ∀ s ∈ l, Bts s) : eqB (.lst (l.map .str)) (.lst []) = some (decide (l = [])) := by
  have h1 : pok 60 (.lst (l.map PV.str)) = true := by simp only [pok]; exact poks_str 59 l h
  have h2 : pok 60 (.lst []) = true := rfl
  simp only [eqB, h1, h2, Bool.and_self, if_true, peq]
  cases l <;> simp [peqs]
theorem cmp_strs {l : List (List Nat)} (h : ∀ s ∈ l, Bts s) : cmpR .eq (.lst (l.map .str)) (.lst []) = some (.v (.bl (decide (l = [])))) ∧ cmpR .ne (.lst (l.map .str)) (.lst []) = some (.v (.bl (!decide (l = [])))) := by
  have e := eq_strs h
  simp [cmpR, cmp, e]
/-! decoding -/
theorem Dec.qs {cs : List (Nat × List Nat)} {x ss r : List Nat} (d : Dec cs x ss r) : ∃ qs : List (Nat × List Nat), (∀ q ∈ qs, q ∈ cs) ∧ ss = qs.map (·.1) ∧ x = (qs.map (·.2)).flatten ++ r ∧ ∀ q ∈ cs, ¬ q.2 <+: r := by
  induction d with
  | stop h => exact ⟨[], (fun q hq => by cases hq), rfl, by simp, h⟩
  | @go q x ss r hq d ih =>
    obtain ⟨qs, a, b, c, e⟩ := ih
    exact ⟨q :: qs, (fun p hp => (List.mem_cons.mp hp).elim (fun z => z ▸ hq) (a p)), by simp [b], by simp [c], e⟩
theorem dec_all {cs : List (Nat × List Nat)} (hc : ∀ q ∈ cs, 1 ≤ q.2.length) : ∀ qs : List (Nat × List Nat), (∀ q ∈ qs, q ∈ cs) → Dec cs (qs.map (·.2)).flatten (qs.map (·.1)) []
  | [], _ => .stop fun q hq z => by
    have := hc q hq
    simp at z
    rw [z] at this
    simp at this
  | q :: qs, h => by
    simp only [List.map_cons, List.flatten_cons]
    exact .go (h q (List.mem_cons_self ..)) (dec_all hc qs fun p hp => h p (List.mem_cons_of_mem _ hp))
theorem bts_app {a b : List Nat} (h : Bts a) (h2 : Bts b) : Bts (a ++ b) := fun c hc => (List.mem_append.mp hc).elim (h c) (h2 c)
theorem bts_flat {qs : List (Nat × List Nat)} (h : ∀ q ∈ qs, Bts q.2) : Bts (qs.map (·.2)).flatten := fun c hc => by
  obtain ⟨s, hs, hc⟩ := List.mem_flatten.mp hc
  obtain ⟨q, hq, rfl⟩ := List.mem_map.mp hs
  exact h q hq c hc
theorem flat_len {qs : List (Nat × List Nat)} {n : Nat} (h : ∀ q ∈ qs, q.2.length ≤ n) : (qs.map (·.2)).flatten.length ≤ n * qs.length := by
  induction qs with
  | nil => simp
  | cons q qs ih =>
    have := ih fun p hp => h p (List.mem_cons_of_mem _ hp)
    have := h q (List.mem_cons_self ..)
    simp only [List.map_cons, List.flatten_cons, List.length_append, List.length_cons, Nat.mul_add, Nat.mul_one]
    omega
theorem flat_ge {qs : List (Nat × List Nat)} (h : ∀ q ∈ qs, 1 ≤ q.2.length) : qs.length ≤ (qs.map (·.2)).flatten.length := by
  induction qs with
  | nil => simp
  | cons q qs ih =>
    have := ih fun p hp => h p (List.mem_cons_of_mem _ hp)
    have := h q (List.mem_cons_self ..)
    simp only [List.map_cons, List.flatten_cons, List.length_append, List.length_cons]
    omega
theorem bF_bts (m : Nat) (n : Int) : Bts (bF m n) := by
  induction m generalizing n with
  | zero => exact fun c hc => by cases hc
  | succ m ih =>
    intro c hc
    rcases List.mem_cons.mp hc with h | h
    · split at h <;> omega
    · exact ih _ c h
/-- whole codes: what is left begins one -/
theorem whole_left {ls : List Nat} (h : LGood ls) (hw : kindT ls = kWhole) {r : List Nat} (hb : Bts r) (hn : ∀ q ∈ cds ls, ¬ q.2 <+: r) : ∃ q ∈ cds ls, r <+: q.2 := by
  have hr : roomF ls = 32768 := by
    unfold kindT at hw
    by_cases a : used ls = []
    · rw [if_pos a] at hw; exact absurd hw (by decide)
    · rw [if_neg a] at hw
      by_cases b : used ls = [1]
      · rw [if_pos b] at hw; exact absurd hw (by decide)
      · rw [if_neg b] at hw
        by_cases c : roomF ls = 32768
        · exact c
        · rw [if_neg c] at hw
          by_cases d : 32768 < roomF ls
          · rw [if_pos d] at hw; exact absurd hw (by decide)
          · rw [if_neg d] at hw; exact absurd hw (by decide)
  -- bits laid out to 15
  obtain ⟨y, hy⟩ : ∃ y, y = r.take 15 ++ List.replicate (15 - r.length) 48 := ⟨_, rfl⟩
  have hyl : y.length = 15 := by rw [hy]; simp; omega
  have hyb : Bts y := by
    rw [hy]
    refine bts_app (fun c hc => hb c (List.mem_of_mem_take hc)) fun c hc => .inl (List.eq_of_mem_replicate hc)
  obtain ⟨v1, v2⟩ := vB_lt 15 y hyl
  have v3 := v2 hyb
  obtain ⟨q, hq, hp⟩ := lay_whole h.lay (by rw [rms_ord, hr]) (vB y) (Nat.zero_le _) v1
  rw [v3] at hp
  refine ⟨q, hq, ?_⟩
  by_cases h15 : r.length ≤ 15
  · have : r <+: y := by
      rw [hy, List.take_of_length_le h15]
      exact List.prefix_append _ _
    rcases pre_two hp this with z | z
    · exact absurd z (hn q hq)
    · exact z
  · exfalso
    have : y = r.take 15 := by
      rw [hy, show 15 - r.length = 0 by omega]
      simp
    rw [this] at hp
    exact hn q hq (hp.trans (List.take_prefix _ _))
end ZL

set_option maxHeartbeats 4000000
/-! _law_same: a value against itself. -/
namespace ZL
open Z
/-- values that _law_same takes apart -/
def sameV : Nat → PV → Bool
  | _, .non => true
  | _, .bl _ => true
  | _, .int _ => true
  | _, .str _ => true
  | n + 1, .tup xs => decide (xs.length ≤ SZ) && xs.all (sameV n)
  | _, _ => false
section
variable {T : Nat → Option Fn} {con : Nat → PV} {fu k : Nat} {μ : Sto} (hT : T 9 = some F__law_same)
include hT
theorem lsame_sc {p : PV} (h : sameV 0 p = true) (hk : 1 ≤ k) : run T con fu k 9 [.v p, .v p] μ = .ok (.v (.bl true)) μ := by
  obtain ⟨k, rfl⟩ := Nat.exists_eq_add_of_le' hk
  rw [run_succ hT rfl]
  cases p <;> simp [sameV] at h <;> simp [F__law_same, bi, isi]
  rename_i b
  cases b <;> simp
theorem lsame_tup {xs : List PV} (h : ∀ x ∈ xs, run T con fu k 9 [.v x, .v x] μ = .ok (.v (.bl true)) μ) (hz : xs.length ≤ SZ) : run T con fu (k + 1) 9 [.v (.tup xs), .v (.tup xs)] μ = .ok (.v (.bl true)) μ := by
  rw [run_succ hT rfl]
  have h62 := r62_nat hz
  simp [F__law_same, bi, isi, rngR_ok h62.1 h62.2]
  rw [lcl_of (rng_items 0 xs.length) (fun _ => .bl true) (fun j hj => by
    have hj : j < xs.length := by simpa using hj
    have e : (0 : Int) + (j : Int) = (j : Int) := by omega
    rw [e]
    simp [atI_nat hj, h _ (List.getElem_mem hj)]) (by simp; exact hz)]
  simp [bi, blsO_map (fun _ : Nat => true)]
theorem lsame_ok : ∀ (n k : Nat) (p : PV), sameV n p = true → n + 1 ≤ k → run T con fu k 9 [.v p, .v p] μ = .ok (.v (.bl true)) μ := by
  intro n
  induction n with
  | zero => exact fun k p h hk => lsame_sc hT h hk
  | succ n ih =>
    intro k p h hk
    obtain ⟨k, rfl⟩ := Nat.exists_eq_add_of_le' hk
    cases p with
    | tup xs =>
      simp only [sameV, Bool.and_eq_true, decide_eq_true_eq, List.all_eq_true] at h
      rw [show k + (n + 1 + 1) = (k + n + 1) + 1 by omega]
      exact lsame_tup hT (fun x hx => ih _ x (h.2 x hx) (by omega)) h.1
    | _ => first | exact lsame_sc hT rfl (by omega) | (simp [sameV] at h)
end
end ZL

/-! the defs of tightstreams_k04_whole_signs_put_and_got as Z has them: printed by zgen.py -/
namespace ZL
open Z
end ZL
namespace K04Z
open Z ZL
def F__law_cup : Fn := ⟨1, 2, (.seq (.asg 1 (.bi .abs (.cons (.idx (.bin .add (.bi .list (.cons (.var 0) .nil)) (.lst (.cons (.int 0) .nil))) (.int 0)) .nil))) (.seq (.ret (.lst (.cons (.ite (.cmp .ge (.var 1) (.bin .pow (.int 10) (.int 18))) (.bin .fdiv (.var 1) (.int 71)) (.int 0)) (.cons (.bin .add (.bin .mod (.bi .int (.cons (.bin .add (.bin .mul (.var 1) (.int 307)) (.int 4013)) .nil)) (.int 2077498285)) (.int 151)) .nil)))) .skip))⟩
def F__law_lengths : Fn := ⟨3, 8, (.seq (.asg 3 (.bin .add (.int 1) (.call 69 (.cons (.var 0) (.cons (.var 1) .nil))))) (.seq (.asg 4 (.lc (.var 7) (.nm 7) (.rng (.int 0) (.var 3)) (.cons (.cmp .gt (.call 69 (.cons (.var 0) (.cons (.int 3) .nil))) (.int 0)) .nil))) (.seq (.mk 5 (.call 73 (.cons (.var 0) (.cons (.var 4) (.cons (.var 3) (.cons (.var 2) .nil)))))) (.seq (.ife (.cmp .eq (.call 69 (.cons (.var 0) (.cons (.int 3) .nil))) (.int 0)) (.seq (.asg 6 (.call 69 (.cons (.var 0) (.cons (.var 3) .nil)))) (.seq (.setI (.var 5) (.var 6) (.call 69 (.cons (.var 0) (.cons (.int 5) .nil)))) .skip)) .skip) (.seq (.ret (.bi .tuple (.cons (.var 5) .nil))) .skip)))))⟩
def L_law_0 : S := (.seq (.asg 14 (.idx (.lcd false (.var 16) (.nm 16) (.var 7) (.cons (.me .startswith (.var 13) (.cons (.var 16) .nil)) .nil)) (.int 0))) (.seq (.par [(12, false), (13, false)] (.cons (.bin .add (.var 12) (.tup (.cons (.idx (.var 7) (.var 14)) .nil))) (.cons (.slc (.var 13) (.cons (.bi .len (.cons (.var 14) .nil)) .nil) .nil) .nil))) .skip))
def L_law_1 : S := (.seq (.asg 4 (.call 5001 (.cons (.var 1) (.cons (.call 71 (.cons (.var 1) (.cons (.lst (.cons (.int 6) (.cons (.int 30) .nil))) .nil))) (.cons (.int 15) .nil))))) (.seq (.ife (.cmp .notin (.call 54 (.cons (.var 4) .nil)) (.tup (.cons (.str [110, 111, 110, 101]) (.cons (.str [111, 118, 101, 114]) .nil)))) (.seq (.asg 7 (.call 65 (.cons (.var 4) .nil))) (.seq (.asg 8 (.bi .dict (.cons (.lcd false (.tup (.cons (.idx (.var 7) (.var 14)) (.cons (.var 14) .nil))) (.nm 14) (.var 7) .nil) .nil))) (.seq (.asg 9 (.bi .tuple (.cons (.lc (.call 71 (.cons (.var 1) (.cons (.bi .sorted (.cons (.var 8) .nil)) .nil))) (.nm 15) (.rng (.int 0) (.call 69 (.cons (.var 1) (.cons (.int 20) .nil)))) .nil) .nil))) (.seq (.asg 10 (.me .join (.str []) (.cons (.lc (.idx (.var 8) (.var 5)) (.nm 5) (.var 9) .nil) .nil))) (.seq (.ife (.not (.call 9 (.cons (.tup (.cons (.call 76 (.cons (.var 4) (.cons (.var 9) .nil))) (.cons (.call 75 (.cons (.var 4) (.cons (.var 10) .nil))) .nil))) (.cons (.tup (.cons (.var 10) (.cons (.tup (.cons (.var 9) (.cons (.int 0) .nil))) .nil))) .nil)))) (.seq (.ret (.bl false)) .skip) .skip) (.seq (.asg 11 (.bin .add (.slc (.var 10) .nil (.cons (.call 69 (.cons (.var 1) (.cons (.bin .add (.bi .len (.cons (.var 10) .nil)) (.int 1)) .nil))) .nil)) (.call 3 (.cons (.call 69 (.cons (.var 1) (.cons (.int 4096) .nil))) (.cons (.int 12) .nil))))) (.seq (.par [(12, false), (13, false)] (.cons (.tup .nil) (.cons (.var 11) .nil))) (.seq (.whl (.cmp .ne (.lcd false (.var 14) (.nm 14) (.var 7) (.cons (.me .startswith (.var 13) (.cons (.var 14) .nil)) .nil)) (.lst .nil)) L_law_0) (.seq (.ife (.or (.not (.call 9 (.cons (.call 75 (.cons (.var 4) (.cons (.var 11) .nil))) (.cons (.tup (.cons (.var 12) (.cons (.bi .len (.cons (.var 13) .nil)) .nil))) .nil)))) (.cmp .ne (.bin .add (.call 76 (.cons (.var 4) (.cons (.var 12) .nil))) (.slc (.var 11) (.cons (.bin .sub (.bi .len (.cons (.var 11) .nil)) (.bi .len (.cons (.var 13) .nil))) .nil) .nil)) (.var 11))) (.seq (.ret (.bl false)) .skip) .skip) (.seq (.ife (.and (.cmp .eq (.call 59 (.cons (.var 4) .nil)) (.str [119, 104, 111, 108, 101])) (.and (.cmp .ne (.var 13) (.str [])) (.cmp .eq (.lcd false (.var 14) (.nm 14) (.var 7) (.cons (.me .startswith (.var 14) (.cons (.var 13) .nil)) .nil)) (.lst .nil)))) (.seq (.ret (.bl false)) .skip) .skip) .skip)))))))))) .skip) .skip))
def F_law : Fn := ⟨1, 17, (.seq (.mk 1 (.call 5000 (.cons (.var 0) .nil))) (.seq (.for (.nm 2) (.rng (.int 0) (.int 8)) L_law_1) (.seq (.par [(5, false), (6, false)] (.cons (.call 69 (.cons (.var 1) (.cons (.int 9) .nil))) (.cons (.call 69 (.cons (.var 1) (.cons (.int 20) .nil))) .nil))) (.seq (.asg 3 (.bin .add (.bin .mul (.tup (.cons (.int 0) .nil)) (.var 5)) (.tup (.cons (.int 1) .nil)))) (.seq (.ret (.call 9 (.cons (.tup (.cons (.call 75 (.cons (.var 3) (.cons (.bin .add (.bin .mul (.str [48]) (.var 6)) (.str [49, 48])) .nil))) (.cons (.call 76 (.cons (.var 3) (.cons (.bin .mul (.tup (.cons (.var 5) .nil)) (.var 6)) .nil))) (.cons (.call 59 (.cons (.var 3) .nil)) .nil)))) (.cons (.tup (.cons (.tup (.cons (.bin .mul (.tup (.cons (.var 5) .nil)) (.var 6)) (.cons (.int 2) .nil))) (.cons (.bin .mul (.str [48]) (.var 6)) (.cons (.str [111, 110, 101]) .nil)))) .nil)))) .skip)))))⟩
def con : Nat → PV
  | 8 => (.int 320)
  | 9 => (.int 15)
  | 10 => (.tup [(.int 32768), (.int 16384), (.int 8192), (.int 4096), (.int 2048), (.int 1024), (.int 512), (.int 256), (.int 128), (.int 64), (.int 32), (.int 16), (.int 8), (.int 4), (.int 2), (.int 1)])
  | 11 => (.int 32768)
  | 0 => (.int 630000)
  | _ => .non
def tab : List (Nat × Fn) := [(5000, F__law_cup), (9, F__law_same), (69, F__law_roll_v5), (70, F__law_turned_v2), (71, F__law_some_v4), (72, F__law_shape_v2), (73, F__law_dealt_v2), (5001, F__law_lengths), (18, F__law_number), (53, F__law_room), (54, F__law_kind), (3, F__law_bits), (65, F__law_codes), (12, F_is_tuple_of), (6, F_is_whole), (55, F_fits_lengths), (56, F_need_lengths), (57, F_room_in), (58, F_kind_in), (60, F_need_codes), (10, F_fits_bits), (15, F_need_bits), (61, F_code_bits), (7, F_power), (62, F_codes_in), (74, F_tree_in), (75, F_got), (76, F_put), (59, F_kind), (5002, F_law)]
abbrev T (f : Nat) : Option Fn := tab.lookup f
def LA : Nat := 5002
end K04Z

set_option maxHeartbeats 8000000
/-! law k04 in plain Lean. -/
namespace K04Z
open Z ZL
theorem hC : HCd T con := ⟨⟨rfl, rfl, rfl, rfl, rfl, rfl, rfl, rfl, rfl, rfl, rfl, rfl, rfl, rfl, rfl⟩, rfl, rfl, rfl, rfl, rfl, rfl⟩
theorem hL : HLcd T con := ⟨rfl, rfl, rfl, rfl, rfl, rfl, rfl, rfl⟩
theorem hR : HRoll T 69 := ⟨_, _, _, _, rfl, by decide, by decide, by decide, by decide, by decide⟩
theorem hS : T 71 = some (SomeF 69) := rfl
theorem hB : T 3 = some F__law_bits := rfl
theorem hN : T 18 = some F__law_number := rfl
theorem hM : T 9 = some F__law_same := rfl
/-- signs drawn, each or not -/
theorem draws_used {k : Nat} (hk : 1 ≤ k) {n : Nat} {body : PV → Sto → R (Option PV)} (hb : ∀ (p : PV) (μ : Sto) (x : Nat) (μ1 : Sto), run T con 400 k 69 [.loc 0, .v (.int 3)] μ = .ok (.v (.int (x : Int))) μ1 → body p μ = .ok (if 0 < x then some p else none) μ1) : ∀ (is : List Nat) (acc : List Nat) (μ : Sto), Cup μ [] → (∀ i ∈ is, i < n) → (∀ s ∈ acc, s < n) → acc.length + is.length ≤ 380 → ∃ (S : List Nat) (μ' : Sto), lclL body (is.map fun i : Nat => .int (0 + (i : Int))) (nv acc) μ = .ok (nv S) μ' ∧ (∀ s ∈ S, s < n) ∧ S.length ≤ 380 ∧ Cup μ' []
  | [], acc, μ, c, _, h2, h3 => ⟨acc, μ, rfl, h2, by simpa using h3, c⟩
  | i :: is, acc, μ, c, h1, h2, h3 => by
    obtain ⟨x, μ1, e1, r1, c1⟩ := rollN (con := con) (fu := 400) (k := k) (r := 69) (m := 3) hR c (by omega) (by omega) hk
    simp only [List.length_cons] at h3
    have e0 : (0 : Int) + (i : Int) = (i : Int) := by omega
    have eb := hb (.int (0 + (i : Int))) μ x μ1 e1
    by_cases hx : 0 < x
    · obtain ⟨S, μ', e, a1, a2, a3⟩ := draws_used hk hb is (acc ++ [i]) μ1 c1 (fun j hj => h1 j (List.mem_cons_of_mem _ hj)) (fun s hs => by
        rcases List.mem_append.mp hs with hs | hs
        · exact h2 s hs
        · have : s = i := by simpa using hs
          subst this
          exact h1 _ (List.mem_cons_self ..)) (by simp; omega)
      refine ⟨S, μ', ?_, a1, a2, a3⟩
      have hz : (nv acc).length < SZ := by simp; unfold SZ; omega
      have na : nv acc ++ [PV.int (i : Int)] = nv (acc ++ [i]) := by simp [nv]
      rw [if_pos hx, e0] at eb
      simp only [List.map_cons, e0, lclL, eb, R.bind_ok, snoc, if_pos hz, e0, na]
      exact e
    · obtain ⟨S, μ', e, a1, a2, a3⟩ := draws_used hk hb is acc μ1 c1 (fun j hj => h1 j (List.mem_cons_of_mem _ hj)) h2 (by omega)
      refine ⟨S, μ', ?_, a1, a2, a3⟩
      rw [if_neg hx] at eb
      simp only [List.map_cons, lclL, eb, R.bind_ok, snoc]
      exact e
theorem lengths_ok {k : Nat} {m : Nat} (h0 : 1 ≤ m) (hm : m ≤ 370) {μ : Sto} (c : Cup μ []) (hk : 6 ≤ k) :
    ∃ ls μ', run T con 400 k 5001 [.loc 0, .v (.int (m : Int)), .v (.int 15)] μ = .ok (.v (.tup (nv ls))) μ' ∧ 1 ≤ ls.length ∧ ls.length ≤ m ∧ E15 ls ∧ Cup μ' [] := by
  obtain ⟨k, rfl⟩ := Nat.exists_eq_add_of_le' hk
  rw [run_succ (F := F__law_lengths) rfl rfl]
  obtain ⟨x, μ1, e1, r1, c1⟩ := rollN (con := con) (fu := 400) (k := k + 5) (r := 69) (m := (m : Int)) hR c (by omega) (by omega) (by omega)
  obtain ⟨n, hn⟩ : ∃ n, n = 1 + x := ⟨_, rfl⟩
  have en : (1 : Int) + (x : Int) = (n : Int) := by omega
  have h62 := r62_nat (m := n) (by unfold SZ; omega)
  have it : items (rng 0 (n : Int)) = some ((List.range n).map fun j : Nat => .int (0 + (j : Int))) := by
    rw [rng_items]
    simp
  obtain ⟨S, μ2, s1, s2, c2, lc⟩ : ∃ (S : List Nat) (μ2 : Sto), (∀ s ∈ S, s < n) ∧ S.length ≤ 380 ∧ Cup μ2 [] ∧ ev ⟨run T con 400 (k + 5), con, 400⟩ (.lc (.var 7) (.nm 7) (.rng (.int 0) (.var 3)) (.cons (.cmp .gt (.call 69 (.cons (.var 0) (.cons (.int 3) .nil))) (.int 0)) .nil)) [some (.loc 0), some (.v (.int (m : Int))), some (.v (.int 15)), some (.v (.int (n : Int))), none, none, none, none] μ1 = .ok (.new (.lst (nv S))) μ2 := by
    rw [ev_lc]
    simp only [ev_rng, ev_int, ev_var, lvR_0, lvR_s, R.bind_ok, rngR_ok h62.1 h62.2]
    have key : ∀ {body : PV → Sto → R (Option PV)}, (∀ (p : PV) (μ : Sto) (x : Nat) (μ1 : Sto), run T con 400 (k + 5) 69 [.loc 0, .v (.int 3)] μ = .ok (.v (.int (x : Int))) μ1 → body p μ = .ok (if 0 < x then some p else none) μ1) → ∃ (S : List Nat) (μ2 : Sto), (∀ s ∈ S, s < n) ∧ S.length ≤ 380 ∧ Cup μ2 [] ∧ lcl (.v (rng 0 (n : Int))) body μ1 = .ok (.new (.lst (nv S))) μ2 := fun hb => by
      obtain ⟨S, μ2, e2, s1, s2, c2⟩ := draws_used (k := k + 5) (by omega) (n := n) hb (List.range n) [] μ1 c1 (fun i hi => by simpa using hi) (fun s hs => by cases hs) (by simp; omega)
      exact ⟨S, μ2, s1, s2, c2, lcl_v it e2⟩
    refine key fun p μ x μ1 h => ?_
    by_cases hx : 0 < x
    · simp [h, hx]
    · simp [h, hx]
  obtain ⟨D, μ3, e3, d1, d2, c3⟩ := dealt_ok (fu := 400) (k := k + 5) hL hR hS (n := n) (by omega) s1 s2 (by omega) c2 (by omega)
  -- bent, or not
  obtain ⟨a, b, g, rfl⟩ := c3
  have ml : μ.length = 1 := by obtain ⟨_, _, _, rfl⟩ := c; rfl
  have c4 : Cup [cupV a b, .lst (nv D)] [.lst (nv D)] := ⟨a, b, g, rfl⟩
  obtain ⟨y, μ5, e5, r5, c5⟩ := rollN (con := con) (fu := 400) (k := k + 5) (r := 69) (m := 3) hR c4 (by omega) (by omega) (by omega)
  by_cases hy : y = 0
  · obtain ⟨at_, μ6, e6, r6, c6⟩ := rollN (con := con) (fu := 400) (k := k + 5) (r := 69) (m := (n : Int)) hR c5 (by omega) (by omega) (by omega)
    obtain ⟨v, μ7, e7, r7, c7⟩ := rollN (con := con) (fu := 400) (k := k + 5) (r := 69) (m := 5) hR c6 (by omega) (by omega) (by omega)
    obtain ⟨a', b', g', rfl⟩ := c7
    have hat : at_ < D.length := by omega
    have ix : ixN D.length (at_ : Int) = some at_ := by rw [ixN_pos (by omega) (by omega)]; simp
    have st : (nv D).set at_ (.int (v : Int)) = nv (D.set at_ v) := by simp [nv, List.map_set]
    have sp : setP (.lst (nv D)) (.int (at_ : Int)) (.int (v : Int)) = some (.lst (nv (D.set at_ v))) := by
      simp only [setP, List.length_map, ix, Option.map_some, st]
    refine ⟨D.set at_ v, [cupV a' b'], ?_, by simp; omega, by simp; omega, fun z hz => ?_, a', b', g', rfl⟩
    · subst hy
      simp [F__law_lengths, e1, en, lc, e3, e5, e6, e7, setR, sp, biR, ml, -ev_lc]
    · rcases List.mem_or_eq_of_mem_set hz with hz | hz
      · exact d2 z hz
      · omega
  · obtain ⟨a', b', g', rfl⟩ := c5
    refine ⟨D, [cupV a' b'], ?_, by omega, by omega, d2, a', b', g', rfl⟩
    have hy' : ((y : Int) == 0) = false := by
      rw [beq_eq_false_iff_ne]
      omega
    simp [F__law_lengths, e1, en, lc, e3, e5, hy', biR, ml, -ev_lc]
/-! one turn -/
def Nx (v0 : Option RV) (x : R (Out × Lcs)) : Prop := ∃ r' μ', x = .ok (.nx, v0 :: some (.loc 0) :: r') μ' ∧ r'.length = 15 ∧ Cup μ' []
theorem seqN {v0 : Option RV} {C : Cxt} {a b : S} {ls ls' : Lcs} {μ μ' : Sto} (h : ex C a ls μ = .ok (.nx, ls') μ') (h2 : Nx v0 (ex C b ls' μ')) : Nx v0 (ex C (.seq a b) ls μ) := by
  rw [ex_seq, h, seqR_nx]
  exact h2
theorem skipN {v0 : Option RV} {C : Cxt} {μ : Sto} {r : List (Option RV)} (h : r.length = 15) (c : Cup μ []) : Nx v0 (ex C .skip (v0 :: some (.loc 0) :: r) μ) := ⟨r, μ, rfl, h, c⟩
theorem seq_skip {v0 : Option RV} {C : Cxt} {a : S} {ls : Lcs} {μ : Sto} (h : Nx v0 (ex C a ls μ)) : Nx v0 (ex C (.seq a .skip) ls μ) := by
  obtain ⟨r', μ', e, h1, h2⟩ := h
  refine ⟨r', μ', ?_, h1, h2⟩
  rw [ex_seq, e, seqR_nx]
  rfl
theorem notin_kind (K : List Nat) : cmpR .notin (.str K) (.tup [.str [110, 111, 110, 101], .str [111, 118, 101, 114]]) = some (.v (.bl (!(decide (K = kNone) || decide (K = kOver))))) := by
  have m3 : inB (.str K) (.tup [.str [110, 111, 110, 101], .str [111, 118, 101, 114]]) = some (decide (K = kNone) || decide (K = kOver)) := by
    have a1 : peq (.str [110, 111, 110, 101]) (.str K) = decide (K = kNone) := by
      simp only [peq]
      by_cases h : K = kNone
      · subst h; rfl
      · rw [decide_eq_false h, beq_eq_false_iff_ne]
        exact fun z => h z.symm
    have a2 : peq (.str [111, 118, 101, 114]) (.str K) = decide (K = kOver) := by
      simp only [peq]
      by_cases h : K = kOver
      · subst h; rfl
      · rw [decide_eq_false h, beq_eq_false_iff_ne]
        exact fun z => h z.symm
    unfold inB
    split
    · rename_i z1 z2
      cases z2
    all_goals first
      | (rename_i z1 z2; cases z2; done)
      | (rename_i p xs z1; cases z1; simp [flat, a1, a2])
      | (rename_i p xs _ z1; cases z1; simp [flat, a1, a2])
      | (rename_i a b c d e; exact (b _ rfl).elim)
  simp only [cmpR, cmp, m3, Option.map_some]
theorem lcd_nodup (ls : List Nat) : ((lcd ls).map (·.1)).Nodup := (((lcd_perm ls).map (·.1)).nodup_iff).mpr (cds_signs ls)
theorem lcd_few {ls : List Nat} : (lcd ls).length ≤ ls.length := by
  unfold lcd prs
  rw [List.length_map]
  exact Nat.le_trans (List.length_filter_le ..) (by simp)
theorem lcd_ne {ls : List Nat} (h : LGood ls) : lcd ls ≠ [] := fun z => by
  have h1 := h.notN
  have : prs ls = [] := by simpa [lcd] using z
  have hr := rms_prs ls
  rw [this] at hr
  have hu : used ls = [] := by
    unfold roomF at hr
    cases e : used ls with
    | nil => rfl
    | cons n u =>
      rw [e] at hr
      have := rm_pos n
      simp [rms] at hr
      omega
  unfold kindT at h1
  rw [if_pos hu] at h1
  exact h1 rfl
theorem join_q {μ : Sto} {qs : List (Nat × List Nat)} (h : ∀ q ∈ qs, q.2.length ≤ 15) (hl : qs.length ≤ 4096) : meR .join (.v (.str [])) [.new (.lst (qs.map fun q => .str q.2))] μ = .ok (.v (.str (qs.map (·.2)).flatten)) μ := by
  have sm : (qs.map fun q => q.2.length).sum ≤ 15 * qs.length := by
    clear hl
    induction qs with
    | nil => simp
    | cons q qs ih =>
      have := ih fun p hp => h p (List.mem_cons_of_mem _ hp)
      have c := h q (List.mem_cons_self ..)
      simp only [List.map_cons, List.sum_cons, List.length_cons]
      omega
  have e4 : ((qs.map (·.2)).map (·.length)).sum + (qs.map (·.2)).length * ([] : List Nat).length ≤ SZ := by
    rw [List.map_map]
    simp only [List.length_nil, Nat.mul_zero, Nat.add_zero]
    unfold SZ
    have : ((qs.map ((fun x : List Nat => x.length) ∘ fun q => q.2))).sum = (qs.map fun q => q.2.length).sum := rfl
    omega
  have e5 : strsO (qs.map fun q => PV.str q.2) = some (qs.map (·.2)) := strsO_map (fun q : Nat × List Nat => q.2) qs
  have e6 : me .join (.str []) [.lst (qs.map fun q => PV.str q.2)] = some (.v (.str (qs.map (·.2)).flatten), .str []) := by
    simp only [me, e5, if_pos e4, joined_nil]
  simp [meR, e6, Me.chg, keepA]
/-- signs drawn -/
theorem draws_signs {k : Nat} (hk : 2 ≤ k) {SL : List PV} {cs : List (Nat × List Nat)} (h0 : 0 < SL.length) (h1 : SL.length < 1000) (hs : ∀ x ∈ SL, ∃ q ∈ cs, x = .int (q.1 : Int)) {body : PV → Sto → R (Option PV)} (hb : ∀ (p : PV) (μ : Sto) (x : PV) (μ1 : Sto), run T con 400 k 71 [.loc 0, .v (.lst SL)] μ = .ok (.v x) μ1 → body p μ = .ok (some x) μ1) : ∀ (is : List PV) (acc : List (Nat × List Nat)) (μ : Sto), Cup μ [] → (∀ q ∈ acc, q ∈ cs) → acc.length + is.length ≤ 1000 →
    ∃ (qs : List (Nat × List Nat)) (μ' : Sto), lclL body is (acc.map fun q => .int (q.1 : Int)) μ = .ok (qs.map fun q => .int (q.1 : Int)) μ' ∧ (∀ q ∈ qs, q ∈ cs) ∧ qs.length = acc.length + is.length ∧ Cup μ' []
  | [], acc, μ, c, h2, _ => ⟨acc, μ, rfl, h2, by simp, c⟩
  | i :: is, acc, μ, c, h2, hl => by
    obtain ⟨x, μ1, e1, hx, c1⟩ := some_ok (con := con) (fu := 400) (k := k) (xs := SL) hS hR c h0 (by omega) hk
    obtain ⟨q, hq, rfl⟩ := hs x hx
    simp only [List.length_cons] at hl
    obtain ⟨qs, μ', e, a1, a2, a3⟩ := draws_signs hk h0 h1 hs hb is (acc ++ [q]) μ1 c1 (fun p hp => by
      rcases List.mem_append.mp hp with hp | hp
      · exact h2 p hp
      · have : p = q := by simpa using hp
        rw [this]
        exact hq) (by simp; omega)
    refine ⟨qs, μ', ?_, a1, by simp at a2; simp; omega, a3⟩
    have hz : (acc.map fun q => PV.int (q.1 : Int)).length < SZ := by simp; unfold SZ; omega
    have eb := hb i μ _ μ1 e1
    simp only [lclL, eb, R.bind_ok, snoc, if_pos hz]
    rw [← e]
    simp
abbrev LW (v0 v2 v3 v4 v5 v6 v7 v8 v9 v10 v11 v12 v13 v14 v15 v16 : Option RV) : Lcs := v0 :: some (.loc 0) :: [v2, v3, v4, v5, v6, v7, v8, v9, v10, v11, v12, v13, v14, v15, v16]
/-- codes taken off the front, one by one -/
theorem lloop {C : Cxt} {cs : List (Nat × List Nat)} (hf : Free cs) (hc : ∀ q ∈ cs, 1 ≤ q.2.length ∧ q.2.length ≤ 15 ∧ Bts q.2) (hcl : cs.length ≤ 1000) {μ : Sto} {v0 v2 v3 v4 v5 v6 v8 v9 v10 v11 v15 v16 : Option RV} : ∀ (n : Nat) (x : List Nat) (found : List Nat) (v14 : Option RV), x.length < n → x.length ≤ 100000 → found.length + x.length ≤ 100000 →
    ∃ ss r v14', whl (fun ls μ => (ev C (.cmp .ne (.lcd false (.var 14) (.nm 14) (.var 7) (.cons (.me .startswith (.var 13) (.cons (.var 14) .nil)) .nil)) (.lst .nil)) ls μ).bind toB) (fun ls μ => ex C L_law_0 ls μ) n (LW v0 v2 v3 v4 v5 v6 (some (.v (.dct (kTxt cs)))) v8 v9 v10 v11 (some (.v (.tup (nv found)))) (some (.v (.str x))) v14 v15 v16) μ =
      .ok (.nx, LW v0 v2 v3 v4 v5 v6 (some (.v (.dct (kTxt cs)))) v8 v9 v10 v11 (some (.v (.tup (nv (found ++ ss))))) (some (.v (.str r))) v14' v15 v16) μ ∧ Dec cs x ss r
  | 0, x, found, v14, h, _, _ => by omega
  | n + 1, x, found, v14, h, hx, hl => by
    have st : ∀ t : List Nat, meR .startswith (.v (.str x)) [.v (.str t)] μ = .ok (.v (.bl (t.isPrefixOf x))) μ := fun t => by
      simp [meR, me, Me.chg, keepA]
    obtain ⟨W, hW⟩ : ∃ W, W = cs.filter fun q => q.2.isPrefixOf x := ⟨_, rfl⟩
    have e1 : ev C (.lcd false (.var 14) (.nm 14) (.var 7) (.cons (.me .startswith (.var 13) (.cons (.var 14) .nil)) .nil)) (LW v0 v2 v3 v4 v5 v6 (some (.v (.dct (kTxt cs)))) v8 v9 v10 v11 (some (.v (.tup (nv found)))) (some (.v (.str x))) v14 v15 v16) μ = .ok (.new (.lst (W.map fun q => .str q.2))) μ := by
      rw [ev_lcd]
      simp only [LW, ev_var, lvR_0, lvR_s, R.bind_ok]
      rw [lcd_txt (fun q => if q.2.isPrefixOf x = true then some (.str q.2) else none) (fun q hq => by
        cases hp : q.2.isPrefixOf x
        · simp [st, hp]
        · simp [st, hp]) hcl, fm_if, ← hW]
    have e2 : ev C (.lcd false (.var 16) (.nm 16) (.var 7) (.cons (.me .startswith (.var 13) (.cons (.var 16) .nil)) .nil)) (LW v0 v2 v3 v4 v5 v6 (some (.v (.dct (kTxt cs)))) v8 v9 v10 v11 (some (.v (.tup (nv found)))) (some (.v (.str x))) v14 v15 v16) μ = .ok (.new (.lst (W.map fun q => .str q.2))) μ := by
      rw [ev_lcd]
      simp only [LW, ev_var, lvR_0, lvR_s, R.bind_ok]
      rw [lcd_txt (fun q => if q.2.isPrefixOf x = true then some (.str q.2) else none) (fun q hq => by
        cases hp : q.2.isPrefixOf x
        · simp [st, hp]
        · simp [st, hp]) hcl, fm_if, ← hW]
    have hWm : ∀ q ∈ W, q ∈ cs ∧ q.2 <+: x := fun q hq => by
      rw [hW] at hq
      have := List.mem_filter.mp hq
      exact ⟨this.1, List.isPrefixOf_iff_prefix.mp this.2⟩
    have wm : (W.map fun q => PV.str q.2) = (W.map (·.2)).map .str := by rw [List.map_map]; rfl
    have cm := (cmp_strs (l := W.map (·.2)) fun s hs => by
      obtain ⟨q, hq, rfl⟩ := List.mem_map.mp hs
      exact (hc q (hWm q hq).1).2.2).2
    rw [← wm] at cm
    have l0 : lstR [] μ = .ok (.new (.lst [])) μ := by simp [lstR_kps]
    cases hWc : W with
    | nil =>
      have stop : ∀ q ∈ cs, ¬ q.2 <+: x := fun q hq z => by
        have : q ∈ W := by rw [hW]; exact List.mem_filter.mpr ⟨hq, List.isPrefixOf_iff_prefix.mpr z⟩
        rw [hWc] at this
        cases this
      refine ⟨[], x, v14, ?_, .stop stop⟩
      rw [whl_f (μ1 := μ) (by
        have d : (!decide (W.map (·.2) = [])) = false := by simp [hWc]
        rw [d] at cm
        rw [ev_cmp, e1]
        simp [l0, cm]), List.append_nil]
    | cons q W' =>
      obtain ⟨hq, hp⟩ := hWm q (by rw [hWc]; exact List.mem_cons_self ..)
      obtain ⟨y, rfl⟩ := hp
      obtain ⟨c1, c2, c3⟩ := hc q hq
      have hlen : (q.2 ++ y).length = q.2.length + y.length := by simp
      obtain ⟨ss, r, v14', e, d⟩ := lloop (C := C) hf hc hcl (μ := μ) (v0 := v0) (v2 := v2) (v3 := v3) (v4 := v4) (v5 := v5) (v6 := v6) (v8 := v8) (v9 := v9) (v10 := v10) (v11 := v11) (v15 := v15) (v16 := v16) n y (found ++ [q.1]) (some (.v (.str q.2))) (by omega) (by omega) (by simp; omega)
      refine ⟨q.1 :: ss, r, v14', ?_, .go hq d⟩
      have gt := get_txt_q hf hq
      have ad : bin .add (.tup (nv found)) (.tup [.int (q.1 : Int)]) = some (.v (.tup (nv (found ++ [q.1])))) := by
        rw [bin_addT (by simp; unfold SZ; omega)]
        simp [nv]
      have lz : q.2.length ≤ SZ := by unfold SZ; omega
      have lzx : (q.2 ++ y).length ≤ SZ := by unfold SZ; omega
      have ct : cut (q.2 ++ y) (some (q.2.length : Int)) none = y := by rw [cut_from]; simp
      have body : ex C L_law_0 (LW v0 v2 v3 v4 v5 v6 (some (.v (.dct (kTxt cs)))) v8 v9 v10 v11 (some (.v (.tup (nv found)))) (some (.v (.str (q.2 ++ y)))) v14 v15 v16) μ = .ok (.nx, LW v0 v2 v3 v4 v5 v6 (some (.v (.dct (kTxt cs)))) v8 v9 v10 v11 (some (.v (.tup (nv (found ++ [q.1]))))) (some (.v (.str y))) (some (.v (.str q.2))) v15 v16) μ := by
        rw [hWc, List.map_cons] at e2
        have sl : slc (.str (q.2 ++ y)) (some (q.2.length : Int)) none = some (.v (.str y)) := by rw [slc_s lzx, ct]
        have bl := bi_len_s lz
        have t1 : tupR [.v (.int (q.1 : Int))] μ = .ok (.v (.tup [.int (q.1 : Int)])) μ := by simp [tupR_kps]
        simp only [L_law_0, ex_seq, ex_asg, ex_par, ex_skip, ev_idx, e2, R.bind_ok, ev_int, opt2_nv, idxR_l, atI_0, Option.map_some, opt_some, asgR_v]
        simp only [LW, List.set_cons_succ, List.set_cons_zero, seqR_nx, evs_cons, evs_nil, ev_bin, ev_tup, ev_idx, ev_slc, ev_bi, evo_cons, evo_nil, ev_var, lvR_0, lvR_s, R.bind_ok, opt2_vv, gt, opt_some, t1, ad, biR_1, bl, toI_v, Option.map_some, opt1_v, sl, parA_v, parA_nil]
      rw [whl_t (μ1 := μ) (by
        have d : (!decide (W.map (·.2) = [])) = true := by simp [hWc]
        rw [d] at cm
        rw [ev_cmp, e1]
        simp [l0, cm]) body, e, List.append_assoc, List.singleton_append]
theorem ex_whl (C : Cxt) (c : E) (b : S) (ls : Lcs) (μ : Sto) : ex C (.whl c b) ls μ = whl (fun ls μ => (ev C c ls μ).bind toB) (fun ls μ => ex C b ls μ) C.fuel ls μ := by
  simp only [ex]
theorem Dec.to {cs cs' : List (Nat × List Nat)} (h : ∀ q, q ∈ cs ↔ q ∈ cs') {x ss r : List Nat} (d : Dec cs x ss r) : Dec cs' x ss r := by
  induction d with
  | stop n => exact .stop fun q hq => n q ((h q).mpr hq)
  | go hq d ih => exact .go ((h _).mp hq) ih
theorem same_nv (ss : List Nat) : ((nv ss).all (sameV 0)) = true := by simp [sameV]
theorem turn_ok {k : Nat} (hk : 8 ≤ k) {v0 v2 v3 v4 v5 v6 v7 v8 v9 v10 v11 v12 v13 v14 v15 v16 : Option RV} {μ : Sto} (c : Cup μ []) : Nx v0 (ex ⟨run T con 400 k, con, 400⟩ L_law_1 (LW v0 v2 v3 v4 v5 v6 v7 v8 v9 v10 v11 v12 v13 v14 v15 v16) μ) := by
  unfold L_law_1
  obtain ⟨x, μ1, e1, hx, c1⟩ := some_ok (con := con) (fu := 400) (k := k) (xs := [.int 6, .int 30]) hS hR c (by decide) (by decide) (by omega)
  obtain ⟨m, hm, rfl⟩ : ∃ m : Nat, (m = 6 ∨ m = 30) ∧ x = .int (m : Int) := by
    simp only [List.mem_cons, List.not_mem_nil, or_false] at hx
    rcases hx with rfl | rfl
    · exact ⟨6, .inl rfl, rfl⟩
    · exact ⟨30, .inr rfl, rfl⟩
  obtain ⟨ls, μ2, e2, l1, l2, l3, c2⟩ := lengths_ok (k := k) (m := m) (by omega) (by omega) c1 (by omega)
  have l0 : lstR [.v (.int 6), .v (.int 30)] μ = .ok (.new (.lst [.int 6, .int 30])) μ := by simp [lstR_kps]
  refine seqN (ls' := LW v0 v2 v3 (some (.v (.tup (nv ls)))) v5 v6 v7 v8 v9 v10 v11 v12 v13 v14 v15 v16) (μ' := μ2) (by simp [LW, l0, e1, e2]) (seq_skip ?_)
  have kd := lkind_ok (con := con) (fu := 400) (k := k) (μ := μ2) hL hN l3 (by omega) (by omega)
  have nk := notin_kind (kindT ls)
  have t2 : tupR [.v (.str [110, 111, 110, 101]), .v (.str [111, 118, 101, 114])] μ2 = .ok (.v (.tup [.str [110, 111, 110, 101], .str [111, 118, 101, 114]])) μ2 := by simp [tupR_kps]
  have cond : ev ⟨run T con 400 k, con, 400⟩ (.cmp .notin (.call 54 (.cons (.var 4) .nil)) (.tup (.cons (.str [110, 111, 110, 101]) (.cons (.str [111, 118, 101, 114]) .nil)))) (LW v0 v2 v3 (some (.v (.tup (nv ls)))) v5 v6 v7 v8 v9 v10 v11 v12 v13 v14 v15 v16) μ2 = .ok (.v (.bl (!(decide (kindT ls = kNone) || decide (kindT ls = kOver))))) μ2 := by
    simp only [LW, ev_cmp, ev_call, ev_tup, ev_str, ev_var, evs_cons, evs_nil, lvR_0, lvR_s, R.bind_ok, kd, t2, opt2_vv, nk, opt_some]
  rw [ex_ife, cond, R.bind_ok, toB_v, R.bind_ok]
  by_cases bad : kindT ls = kNone ∨ kindT ls = kOver
  · have : (!(decide (kindT ls = kNone) || decide (kindT ls = kOver))) = false := by
      rcases bad with b | b <;> simp [b]
    rw [this, iteB_f]
    exact skipN rfl c2
  have gb : (!(decide (kindT ls = kNone) || decide (kindT ls = kOver))) = true := by simpa using bad
  rw [gb, iteB_t]
  have h : LGood ls := ⟨⟨l3, l1, by omega⟩, fun z => bad (.inr z), fun z => bad (.inl z)⟩
  -- the tree, the words
  have e3 := lcodes_ok (con := con) (fu := 400) (k := k) (μ := μ2) hL hB h (by omega)
  have hf := h.lfree
  have hc : ∀ q ∈ lcd ls, 1 ≤ q.2.length ∧ q.2.length ≤ 15 ∧ Bts q.2 := fun q hq => by
    have := h.code (lcd_mem.mp hq)
    exact ⟨this.1, this.2.1, this.2.2.1⟩
  have hcl : (lcd ls).length ≤ 30 := Nat.le_trans lcd_few (by omega)
  refine seqN (ls' := LW v0 v2 v3 (some (.v (.tup (nv ls)))) v5 v6 (some (.v (.dct (kTxt (lcd ls))))) v8 v9 v10 v11 v12 v13 v14 v15 v16) (μ' := μ2) (by simp [LW, e3]) ?_
  have e4 : ev ⟨run T con 400 k, con, 400⟩ (.lcd false (.tup (.cons (.idx (.var 7) (.var 14)) (.cons (.var 14) .nil))) (.nm 14) (.var 7) .nil) (LW v0 v2 v3 (some (.v (.tup (nv ls)))) v5 v6 (some (.v (.dct (kTxt (lcd ls))))) v8 v9 v10 v11 v12 v13 v14 v15 v16) μ2 = .ok (.new (.lst ((lcd ls).map fun q => .tup [.int (q.1 : Int), .str q.2]))) μ2 := by
    rw [ev_lcd]
    simp only [LW, ev_var, lvR_0, lvR_s, R.bind_ok]
    rw [lcd_txt (fun q => some (.tup [.int (q.1 : Int), .str q.2])) (fun q hq => by
      simp [get_txt_q hf hq, tupR_kps]) (by omega), fm_all]
  have d4 : bi .dict [.lst ((lcd ls).map fun q => .tup [.int (q.1 : Int), .str q.2])] = some (.new (.dct (kSgn (lcd ls)))) := by
    have := dmerge_sgn (lcd ls) [] (fun q _ p hp => by cases hp) (lcd_nodup ls)
    simp only [bi, dpairs]
    rw [show kSgn [] = [] from rfl, List.nil_append] at this
    rw [this]
    rfl
  refine seqN (ls' := LW v0 v2 v3 (some (.v (.tup (nv ls)))) v5 v6 (some (.v (.dct (kTxt (lcd ls))))) (some (.v (.dct (kSgn (lcd ls))))) v9 v10 v11 v12 v13 v14 v15 v16) (μ' := μ2) (by
    rw [ex_asg, ev_bi, evs_cons, e4]
    simp [LW, d4]) ?_
  -- signs
  obtain ⟨SL, hSL⟩ : ∃ SL, SL = (srt leI ((lcd ls).map fun q => (q.1 : Int))).map PV.int := ⟨_, rfl⟩
  have so : bi .sorted [.dct (kSgn (lcd ls))] = some (.new (.lst SL)) := by
    have e : intsO ((kSgn (lcd ls)).map (·.1)) = some ((lcd ls).map fun q => (q.1 : Int)) := by
      unfold kSgn
      rw [List.map_map]
      exact intsO_map (fun q : Nat × List Nat => (q.1 : Int)) (lcd ls)
    simp only [bi, e]
    rw [if_pos (by rw [List.length_map]; omega), ← hSL]
  have sp := ZL.srt_perm leI ((lcd ls).map fun q => (q.1 : Int))
  have sl1 : SL.length = (lcd ls).length := by rw [hSL, List.length_map, sp.length_eq, List.length_map]
  have sl0 : 0 < SL.length := by
    rw [sl1]
    exact List.length_pos_iff.mpr (lcd_ne h)
  have slm : ∀ x ∈ SL, ∃ q ∈ lcd ls, x = .int (q.1 : Int) := fun x hx => by
    rw [hSL] at hx
    obtain ⟨i, hi, rfl⟩ := List.mem_map.mp hx
    obtain ⟨q, hq, rfl⟩ := List.mem_map.mp (sp.mem_iff.mp hi)
    exact ⟨q, hq, rfl⟩
  obtain ⟨w, μ3, e5, r5, c3⟩ := rollN (con := con) (fu := 400) (k := k) (r := 69) (m := 20) hR c2 (by omega) (by omega) (by omega)
  have h62 := r62_nat (m := w) (by unfold SZ; omega)
  have it : items (rng 0 (w : Int)) = some ((List.range w).map fun j : Nat => .int (0 + (j : Int))) := by
    rw [rng_items]
    simp
  obtain ⟨qs, μ4, q1, q2, c4, e6⟩ : ∃ (qs : List (Nat × List Nat)) (μ4 : Sto), (∀ q ∈ qs, q ∈ lcd ls) ∧ qs.length = w ∧ Cup μ4 [] ∧ ev ⟨run T con 400 k, con, 400⟩ (.lc (.call 71 (.cons (.var 1) (.cons (.bi .sorted (.cons (.var 8) .nil)) .nil))) (.nm 15) (.rng (.int 0) (.call 69 (.cons (.var 1) (.cons (.int 20) .nil)))) .nil) (LW v0 v2 v3 (some (.v (.tup (nv ls)))) v5 v6 (some (.v (.dct (kTxt (lcd ls))))) (some (.v (.dct (kSgn (lcd ls))))) v9 v10 v11 v12 v13 v14 v15 v16) μ2 = .ok (.new (.lst (qs.map fun q => .int (q.1 : Int)))) μ4 := by
    rw [ev_lc]
    simp only [LW, ev_rng, ev_int, ev_var, ev_call, evs_cons, evs_nil, lvR_0, lvR_s, R.bind_ok, e5, rngR_ok h62.1 h62.2]
    have key : ∀ {body : PV → Sto → R (Option PV)}, (∀ (p : PV) (μ : Sto) (x : PV) (μ1 : Sto), run T con 400 k 71 [.loc 0, .v (.lst SL)] μ = .ok (.v x) μ1 → body p μ = .ok (some x) μ1) → ∃ (qs : List (Nat × List Nat)) (μ4 : Sto), (∀ q ∈ qs, q ∈ lcd ls) ∧ qs.length = w ∧ Cup μ4 [] ∧ lcl (.v (rng 0 (w : Int))) body μ3 = .ok (.new (.lst (qs.map fun q => .int (q.1 : Int)))) μ4 := fun hb => by
      obtain ⟨qs, μ4, e, a1, a2, a3⟩ := draws_signs (k := k) (by omega) sl0 (by omega) slm hb ((List.range w).map fun j : Nat => .int (0 + (j : Int))) [] μ3 c3 (fun q hq => by cases hq) (by simp; omega)
      exact ⟨qs, μ4, a1, by simpa using a2, a3, lcl_v it e⟩
    refine key fun p μ x μ1 hr => ?_
    simp [so, hr]
  have nvq : nv (qs.map (·.1)) = qs.map fun q => PV.int (q.1 : Int) := by simp [nv]
  rw [← nvq] at e6
  refine seqN (ls' := LW v0 v2 v3 (some (.v (.tup (nv ls)))) v5 v6 (some (.v (.dct (kTxt (lcd ls))))) (some (.v (.dct (kSgn (lcd ls))))) (some (.v (.tup (nv (qs.map (·.1)))))) v10 v11 v12 v13 v14 v15 v16) (μ' := μ4) (by
    rw [ex_asg, ev_bi, evs_cons, e6]
    simp [LW]) ?_
  -- bits
  obtain ⟨B, hB'⟩ : ∃ B, B = (qs.map (·.2)).flatten := ⟨_, rfl⟩
  have e7 : ev ⟨run T con 400 k, con, 400⟩ (.lc (.idx (.var 8) (.var 5)) (.nm 5) (.var 9) .nil) (LW v0 v2 v3 (some (.v (.tup (nv ls)))) v5 v6 (some (.v (.dct (kTxt (lcd ls))))) (some (.v (.dct (kSgn (lcd ls))))) (some (.v (.tup (nv (qs.map (·.1)))))) v10 v11 v12 v13 v14 v15 v16) μ4 = .ok (.new (.lst (qs.map fun q => .str q.2))) μ4 := by
    rw [ev_lc]
    simp only [LW, ev_var, lvR_0, lvR_s, R.bind_ok]
    rw [nvq]
    exact lcl_of (g := fun q : Nat × List Nat => PV.int (q.1 : Int)) (xs := qs) (items_t _) (fun q => .str q.2) (fun q hq => by
      have := get_code (lcd_nodup ls) (q1 q hq)
      simp [this]) (by unfold SZ; omega)
  have jn := join_q (μ := μ4) (qs := qs) (fun q hq => (hc q (q1 q hq)).2.1) (by omega)
  rw [← hB'] at jn
  refine seqN (ls' := LW v0 v2 v3 (some (.v (.tup (nv ls)))) v5 v6 (some (.v (.dct (kTxt (lcd ls))))) (some (.v (.dct (kSgn (lcd ls))))) (some (.v (.tup (nv (qs.map (·.1)))))) (some (.v (.str B))) v11 v12 v13 v14 v15 v16) (μ' := μ4) (by
    rw [ex_asg, ev_me, ev_str, R.bind_ok, meK_v, iteB_t, evs_cons, e7]
    simp [LW, jn]) ?_
  -- put and got
  have qc : ∀ q ∈ qs, q ∈ cds ls := fun q hq => lcd_mem.mp (q1 q hq)
  have Bb : Bts B := by
    rw [hB']
    exact bts_flat fun q hq => (hc q (q1 q hq)).2.2
  have Bl : B.length ≤ 15 * w := by
    rw [hB', ← q2]
    exact flat_len fun q hq => (hc q (q1 q hq)).2.1
  have pt := put_ok hC (fu := 400) (k := k) (μ := μ4) h qc (by omega) (by omega)
  rw [← hB'] at pt
  have dB : Dec (cds ls) B (qs.map (·.1)) [] := by
    rw [hB']
    exact dec_all (fun q hq => (h.code hq).1) qs qc
  have gt := got_ok hC (fu := 400) (k := k) (μ := μ4) h Bb (by omega) dB (by omega)
  have sv : sameV 3 (.tup [.str B, .tup [.tup (nv (qs.map (·.1))), .int 0]]) = true := by
    have z : qs.length ≤ SZ := by unfold SZ; omega
    simp [sameV, z]
  have sm := lsame_ok hM (con := con) (fu := 400) (μ := μ4) 3 k _ sv (by omega)
  have t3 : tupR [.v (.tup (nv (qs.map (·.1)))), .v (.int 0)] μ4 = .ok (.v (.tup [.tup (nv (qs.map (·.1))), .int 0])) μ4 := by simp [tupR_kps]
  have t4 : ∀ p : PV, tupR [.v (.str B), .v p] μ4 = .ok (.v (.tup [.str B, p])) μ4 := fun p => by simp [tupR_kps]
  have gz : (((([] : List Nat).length : Nat)) : Int) = 0 := rfl
  rw [gz] at gt
  refine seqN (ls' := LW v0 v2 v3 (some (.v (.tup (nv ls)))) v5 v6 (some (.v (.dct (kTxt (lcd ls))))) (some (.v (.dct (kSgn (lcd ls))))) (some (.v (.tup (nv (qs.map (·.1)))))) (some (.v (.str B))) v11 v12 v13 v14 v15 v16) (μ' := μ4) (by
    simp only [LW, ex_ife, ex_skip, ev_not, ev_call, ev_tup, ev_int, ev_var, evs_cons, evs_nil, lvR_0, lvR_s, R.bind_ok, pt, gt, t3, t4, sm, toB_v, Bool.not_true, iteB_f]) ?_
  -- other bits
  have Bz : B.length ≤ SZ := by unfold SZ; omega
  obtain ⟨cutN, μ5, e8, r8, c5⟩ := rollN (con := con) (fu := 400) (k := k) (r := 69) (m := (B.length : Int) + 1) hR c4 (by omega) (by omega) (by omega)
  obtain ⟨w2, μ6, e9, r9, c6⟩ := rollN (con := con) (fu := 400) (k := k) (r := 69) (m := 4096) hR c5 (by omega) (by omega) (by omega)
  have lb := lbits_ok (T := T) (con := con) (fu := 400) (k := k) (μ := μ6) hB (num := (w2 : Int)) (m := 12) (by decide) (by omega)
  obtain ⟨X, hX⟩ : ∃ X, X = B.take cutN ++ bF 12 (w2 : Int) := ⟨_, rfl⟩
  have Xl : X.length ≤ 15 * w + 12 := by
    rw [hX, List.length_append, bF_len, List.length_take]
    omega
  have Xb : Bts X := by
    rw [hX]
    exact bts_app (fun y hy => Bb y (List.mem_of_mem_take hy)) (bF_bts _ _)
  have sl : slc (.str B) none (some (cutN : Int)) = some (.v (.str (B.take cutN))) := by rw [slc_s Bz, cut_to]
  have ad : bin .add (.str (B.take cutN)) (.str (bF 12 (w2 : Int))) = some (.v (.str X)) := by
    rw [bin_addS (by rw [bF_len, List.length_take]; unfold SZ; omega), hX]
  have bl := bi_len_s Bz
  have lb' : run T con 400 k 3 [.v (.int (w2 : Int)), .v (.int 12)] μ6 = .ok (.v (.str (bF 12 (w2 : Int)))) μ6 := lb
  refine seqN (ls' := LW v0 v2 v3 (some (.v (.tup (nv ls)))) v5 v6 (some (.v (.dct (kTxt (lcd ls))))) (some (.v (.dct (kSgn (lcd ls))))) (some (.v (.tup (nv (qs.map (·.1)))))) (some (.v (.str B))) (some (.v (.str X))) v12 v13 v14 v15 v16) (μ' := μ6) (by
    simp only [LW, ex_asg, ev_bin, ev_slc, ev_call, ev_bi, ev_int, ev_var, evs_cons, evs_nil, evo_nil, evo_cons, lvR_0, lvR_s, R.bind_ok, biR_1, bl, opt_some, opt2_vv, bin_addI, e8, toI_v, Option.map_some, opt1_v, sl, e9, lb', ad, asgR_v, List.set_cons_succ, List.set_cons_zero]) ?_
  have tn : tupR [] μ6 = .ok (.v (.tup (nv []))) μ6 := by simp [tupR_kps]
  refine seqN (ls' := LW v0 v2 v3 (some (.v (.tup (nv ls)))) v5 v6 (some (.v (.dct (kTxt (lcd ls))))) (some (.v (.dct (kSgn (lcd ls))))) (some (.v (.tup (nv (qs.map (·.1)))))) (some (.v (.str B))) (some (.v (.str X))) (some (.v (.tup (nv [])))) (some (.v (.str X))) v14 v15 v16) (μ' := μ6) (by
    simp only [LW, ex_par, ev_tup, ev_var, evs_cons, evs_nil, lvR_0, lvR_s, R.bind_ok, tn, parA_v, parA_nil, List.set_cons_succ, List.set_cons_zero]) ?_
  obtain ⟨ss, r, v14', e10, dX⟩ := lloop (C := ⟨run T con 400 k, con, 400⟩) hf hc (by omega) (μ := μ6) (v0 := v0) (v2 := v2) (v3 := v3) (v4 := some (.v (.tup (nv ls)))) (v5 := v5) (v6 := v6) (v8 := some (.v (.dct (kSgn (lcd ls))))) (v9 := some (.v (.tup (nv (qs.map (·.1)))))) (v10 := some (.v (.str B))) (v11 := some (.v (.str X))) (v15 := v15) (v16 := v16) 400 X [] v14 (by omega) (by omega) (by simp; omega)
  rw [List.nil_append] at e10
  refine seqN (ls' := LW v0 v2 v3 (some (.v (.tup (nv ls)))) v5 v6 (some (.v (.dct (kTxt (lcd ls))))) (some (.v (.dct (kSgn (lcd ls))))) (some (.v (.tup (nv (qs.map (·.1)))))) (some (.v (.str B))) (some (.v (.str X))) (some (.v (.tup (nv ss)))) (some (.v (.str r))) v14' v15 v16) (μ' := μ6) (by rw [ex_whl]; exact e10) ?_
  -- the same by got; put gives them back
  have dX' := Dec.to (fun q => lcd_mem (ls := ls)) dX
  have gt2 := got_ok hC (fu := 400) (k := k) (μ := μ6) h Xb (by omega) dX' (by omega)
  obtain ⟨qs2, a1, a2, a3, a4⟩ := dX'.qs
  have ql : qs2.length ≤ X.length := by
    have := flat_ge (qs := qs2) fun q hq => (h.code (a1 q hq)).1
    have := congrArg List.length a3
    simp only [List.length_append] at this
    omega
  have pt2 := put_ok hC (fu := 400) (k := k) (μ := μ6) h a1 (by omega) (by omega)
  rw [← a2] at pt2
  have rl : r.length ≤ X.length := by
    have := congrArg List.length a3
    simp only [List.length_append] at this
    omega
  have sl0 : ss.length = qs2.length := by rw [a2, List.length_map]
  have sv2 : sameV 3 (.tup [.tup (nv ss), .int (r.length : Int)]) = true := by
    have z : ss.length ≤ SZ := by unfold SZ; omega
    simp [sameV, z]
  have sm2 := lsame_ok hM (con := con) (fu := 400) (μ := μ6) 3 k _ sv2 (by omega)
  have t5 : tupR [.v (.tup (nv ss)), .v (.int (r.length : Int))] μ6 = .ok (.v (.tup [.tup (nv ss), .int (r.length : Int)])) μ6 := by simp [tupR_kps]
  have Xz : X.length ≤ SZ := by unfold SZ; omega
  have rz : r.length ≤ SZ := by omega
  have bl1 := bi_len_s Xz
  have bl2 := bi_len_s rz
  have sl2 : slc (.str X) (some ((X.length : Int) - (r.length : Int))) none = some (.v (.str r)) := by
    have e : (X.length : Int) - (r.length : Int) = ((X.length - r.length : Nat) : Int) := by omega
    rw [slc_s Xz, e, cut_from, a3]
    have : ((qs2.map (·.2)).flatten ++ r).length - r.length = (qs2.map (·.2)).flatten.length := by simp
    rw [this, List.drop_left]
  have ad2 : bin .add (.str (qs2.map (·.2)).flatten) (.str r) = some (.v (.str X)) := by
    rw [bin_addS (by
      have := congrArg List.length a3
      simp only [List.length_append] at this
      omega), ← a3]
  have ne : cmpR .ne (.str X) (.str X) = some (.v (.bl false)) := by simp
  refine seqN (ls' := LW v0 v2 v3 (some (.v (.tup (nv ls)))) v5 v6 (some (.v (.dct (kTxt (lcd ls))))) (some (.v (.dct (kSgn (lcd ls))))) (some (.v (.tup (nv (qs.map (·.1)))))) (some (.v (.str B))) (some (.v (.str X))) (some (.v (.tup (nv ss)))) (some (.v (.str r))) v14' v15 v16) (μ' := μ6) (by
    simp only [LW, ex_ife, ex_skip, ev_or, ev_not, ev_cmp, ev_bin, ev_slc, ev_call, ev_tup, ev_bi, ev_int, ev_var, evs_cons, evs_nil, evo_nil, evo_cons, lvR_0, lvR_s, R.bind_ok, gt2, pt2, biR_1, bl1, bl2, opt_some, t5, sm2, toB_v, Bool.not_true, iteB_f, opt2_vv, bin_subI, toI_v, Option.map_some, opt1_v, sl2, ad2, ne]) ?_
  -- what is left begins a code
  have kd2 := kind_ok hC (fu := 400) (k := k) (μ := μ6) h.toLens (by omega)
  obtain ⟨W, hW⟩ : ∃ W, W = (lcd ls).filter fun q => r.isPrefixOf q.2 := ⟨_, rfl⟩
  have e11 : ev ⟨run T con 400 k, con, 400⟩ (.lcd false (.var 14) (.nm 14) (.var 7) (.cons (.me .startswith (.var 14) (.cons (.var 13) .nil)) .nil)) (LW v0 v2 v3 (some (.v (.tup (nv ls)))) v5 v6 (some (.v (.dct (kTxt (lcd ls))))) (some (.v (.dct (kSgn (lcd ls))))) (some (.v (.tup (nv (qs.map (·.1)))))) (some (.v (.str B))) (some (.v (.str X))) (some (.v (.tup (nv ss)))) (some (.v (.str r))) v14' v15 v16) μ6 = .ok (.new (.lst (W.map fun q => .str q.2))) μ6 := by
    have st : ∀ t : List Nat, meR .startswith (.v (.str t)) [.v (.str r)] μ6 = .ok (.v (.bl (r.isPrefixOf t))) μ6 := fun t => by
      simp [meR, me, Me.chg, keepA]
    rw [ev_lcd]
    simp only [LW, ev_var, lvR_0, lvR_s, R.bind_ok]
    rw [lcd_txt (fun q => if r.isPrefixOf q.2 = true then some (.str q.2) else none) (fun q hq => by
      cases hp : r.isPrefixOf q.2
      · simp [st, hp]
      · simp [st, hp]) (by omega), fm_if, ← hW]
  have wm : (W.map fun q => PV.str q.2) = (W.map (·.2)).map .str := by rw [List.map_map]; rfl
  have cm := (cmp_strs (l := W.map (·.2)) fun s hs => by
    obtain ⟨q, hq, rfl⟩ := List.mem_map.mp hs
    rw [hW] at hq
    exact (hc q (List.mem_filter.mp hq).1).2.2).1
  rw [← wm] at cm
  have l9 : lstR [] μ6 = .ok (.new (.lst [])) μ6 := by simp [lstR_kps]
  obtain ⟨b1, hb1⟩ : ∃ b1, b1 = (kindT ls == [119, 104, 111, 108, 101]) := ⟨_, rfl⟩
  obtain ⟨b2, hb2⟩ : ∃ b2, b2 = !(r == ([] : List Nat)) := ⟨_, rfl⟩
  have all : b1 = true → b2 = true → decide (W.map (·.2) = []) = false := fun z1 z2 => by
    rw [hb1] at z1
    have kw : kindT ls = kWhole := eq_of_beq z1
    have rb : Bts r := fun y hy => Xb y (by rw [a3]; exact List.mem_append_right _ hy)
    obtain ⟨q, hq, hp⟩ := whole_left h kw rb a4
    have : q ∈ W := by
      rw [hW]
      exact List.mem_filter.mpr ⟨lcd_mem.mpr hq, List.isPrefixOf_iff_prefix.mpr hp⟩
    simp only [decide_eq_false_iff_not]
    intro z
    have := List.mem_map_of_mem (f := (·.2)) this
    rw [z] at this
    cases this
  have fin_ : ev ⟨run T con 400 k, con, 400⟩ (.and (.cmp .eq (.call 59 (.cons (.var 4) .nil)) (.str [119, 104, 111, 108, 101])) (.and (.cmp .ne (.var 13) (.str [])) (.cmp .eq (.lcd false (.var 14) (.nm 14) (.var 7) (.cons (.me .startswith (.var 14) (.cons (.var 13) .nil)) .nil)) (.lst .nil)))) (LW v0 v2 v3 (some (.v (.tup (nv ls)))) v5 v6 (some (.v (.dct (kTxt (lcd ls))))) (some (.v (.dct (kSgn (lcd ls))))) (some (.v (.tup (nv (qs.map (·.1)))))) (some (.v (.str B))) (some (.v (.str X))) (some (.v (.tup (nv ss)))) (some (.v (.str r))) v14' v15 v16) μ6 = .ok (.v (.bl false)) μ6 := by
    simp only [LW] at e11 ⊢
    simp only [ev_and, ev_cmp, e11, ev_call, ev_var, ev_str, ev_lst, evs_cons, evs_nil, lvR_0, lvR_s, R.bind_ok, kd2, opt2_vv, cmpR_eqS, cmpR_neS, opt_some, toB_v, ← hb1, ← hb2, l9, opt2_nn, cm]
    cases b1 with
    | false => rfl
    | true =>
      cases b2 with
      | false => rfl
      | true =>
        have d := all rfl rfl
        simp
        simpa using d
  rw [ex_seq, ex_ife, fin_, R.bind_ok, toB_v, R.bind_ok, iteB_f, ex_skip, seqR_nx]
  exact skipN rfl c6
theorem list15 {α : Type} : ∀ {r : List α}, r.length = 15 → ∃ a b c d e f g h i j k l m n o, r = [a, b, c, d, e, f, g, h, i, j, k, l, m, n, o]
  | [a, b, c, d, e, f, g, h, i, j, k, l, m, n, o], _ => ⟨a, b, c, d, e, f, g, h, i, j, k, l, m, n, o, rfl⟩
theorem law_loop {k : Nat} (hk : 8 ≤ k) {v0 : Option RV} : ∀ (is : List Nat) (g : Nat → PV) (r : List (Option RV)) (μ : Sto), r.length = 15 → Cup μ [] →
    ∃ r' μ', loopL (fun x ls μ => ex ⟨run T con 400 k, con, 400⟩ L_law_1 (ls.set 2 (some (.v x))) μ) (is.map g) (v0 :: some (.loc 0) :: r) μ = .ok (.nx, v0 :: some (.loc 0) :: r') μ' ∧ r'.length = 15 ∧ Cup μ' []
  | [], g, r, μ, h, c => ⟨r, μ, rfl, h, c⟩
  | i :: is, g, r, μ, h, c => by
    obtain ⟨v2, v3, v4, v5, v6, v7, v8, v9, v10, v11, v12, v13, v14, v15, v16, rfl⟩ := list15 h
    obtain ⟨r1, μ1, e1, h1, c1⟩ := turn_ok hk (v0 := v0) (v2 := some (.v (g i))) (v3 := v3) (v4 := v4) (v5 := v5) (v6 := v6) (v7 := v7) (v8 := v8) (v9 := v9) (v10 := v10) (v11 := v11) (v12 := v12) (v13 := v13) (v14 := v14) (v15 := v15) (v16 := v16) c
    obtain ⟨r', μ', e2, h2, c2⟩ := law_loop hk (v0 := v0) is g r1 μ1 h1 c1
    refine ⟨r', μ', ?_, h2, c2⟩
    have e1' : ex ⟨run T con 400 k, con, 400⟩ L_law_1 ((v0 :: some (.loc 0) :: [v2, v3, v4, v5, v6, v7, v8, v9, v10, v11, v12, v13, v14, v15, v16]).set 2 (some (.v (g i)))) μ = .ok (.nx, v0 :: some (.loc 0) :: r1) μ1 := e1
    simp only [List.map_cons, loopL, e1', turn, R.bind_ok]
    exact e2
theorem rep1 {α : Type} (a : α) (n : Nat) : rep [a] (n : Int) = List.replicate n a := by
  unfold rep
  rw [Int.toNat_natCast]
  induction n with
  | zero => rfl
  | succ n ih => simp [List.replicate_succ] at ih ⊢
/-- a code alone -/
theorem lone_prs (x : Nat) : prs (List.replicate x 0 ++ [1]) = [(1, x)] := by
  have := prs_app (List.replicate x 0) [1]
  unfold prs at this ⊢
  rw [this]
  have z : ((List.replicate x 0).zipIdx.filter fun p => decide (0 < p.1)) = [] := List.filter_eq_nil_iff.mpr fun p hp => by
    have := List.mem_zipIdx hp
    have e := this.2.2
    simp at e
    simp [e]
  rw [z]
  simp
theorem lone_cds (x : Nat) : cds (List.replicate x 0 ++ [1]) = [(x, [48])] := by
  have h := ord_perm (List.replicate x 0 ++ [1])
  rw [lone_prs] at h
  unfold cds
  rw [List.perm_singleton.mp h]
  have : 0 / rm 1 = 0 := Nat.zero_div _
  simp [lay, cT]
theorem lone_used (x : Nat) : used (List.replicate x 0 ++ [1]) = [1] := by
  unfold used
  rw [List.filter_append]
  have z : (List.replicate x 0).filter (fun n => decide (0 < n)) = [] := List.filter_eq_nil_iff.mpr fun p hp => by
    have := List.eq_of_mem_replicate hp
    simp [this]
  rw [z]
  rfl
theorem lone_good {x : Nat} (h : x < 9) : LGood (List.replicate x 0 ++ [1]) := by
  refine ⟨⟨fun n hn => ?_, by simp, by simp; omega⟩, ?_, ?_⟩
  · rcases List.mem_append.mp hn with hn | hn
    · have := List.eq_of_mem_replicate hn
      omega
    · have : n = 1 := by simpa using hn
      omega
  · unfold kindT
    rw [lone_used, if_neg (by simp), if_pos rfl]
    decide
  · unfold kindT
    rw [lone_used, if_neg (by simp), if_pos rfl]
    decide
theorem lone_kind (x : Nat) : kindT (List.replicate x 0 ++ [1]) = kOne := by
  unfold kindT
  rw [lone_used, if_neg (by simp), if_pos rfl]
theorem lone_dec (x : Nat) : ∀ y : Nat, Dec [(x, [48])] (List.replicate y 48 ++ [49, 48]) (List.replicate y x) [49, 48]
  | 0 => .stop fun q hq => by
    have : q = (x, [48]) := by simpa using hq
    subst this
    show ¬ [48] <+: [49, 48]
    decide
  | y + 1 => by
    have ih := lone_dec x y
    exact .go (q := (x, [48])) (List.mem_cons_self ..) ih
def KK : Nat := 12
def FU : Nat := 400
theorem law_true (xs : List Int) (hl : xs.length ≤ 63) : run T con FU KK LA [.v (.frz (xs.map PV.int))] [] = .ok (.v (.bl true)) [] := by
  unfold FU KK LA
  rw [run_succ (F := F_law) rfl rfl]
  obtain ⟨a, b, e1, g⟩ := cup_ok (T := T) (con := con) (fu := 400) (k := 11) (f := 5000) rfl (by decide) (by decide) (by decide) (by decide) (by decide) (by decide) hl (by omega)
  have c0 : Cup [cupV a b] [] := ⟨a, b, g, rfl⟩
  obtain ⟨r', μ1, e2, h15, c1⟩ := law_loop (k := 11) (by omega) (v0 := some (.v (.frz (xs.map PV.int)))) (List.range 8) (fun j : Nat => .int (0 + (j : Int))) (List.replicate 15 none) [cupV a b] (by simp) c0
  obtain ⟨v2, v3, v4, v5, v6, v7, v8, v9, v10, v11, v12, v13, v14, v15, v16, rfl⟩ := list15 h15
  obtain ⟨x, μ2, e3, r3, c2⟩ := rollN (con := con) (fu := 400) (k := 11) (r := 69) (m := 9) hR c1 (by omega) (by omega) (by omega)
  obtain ⟨y, μ3, e4, r4, c3⟩ := rollN (con := con) (fu := 400) (k := 11) (r := 69) (m := 20) hR c2 (by omega) (by omega) (by omega)
  obtain ⟨ls, hls⟩ : ∃ ls, ls = List.replicate x 0 ++ [1] := ⟨_, rfl⟩
  have h : LGood ls := by rw [hls]; exact lone_good (by omega)
  have hc : cds ls = [(x, [48])] := by rw [hls]; exact lone_cds x
  have ml : μ3.length = 1 := by obtain ⟨_, _, _, rfl⟩ := c3; rfl
  have mulOk : ∀ n : Nat, n < 100 → (decide (-(2 ^ 63 : Int) ≤ (n : Int)) && decide ((n : Int) < 2 ^ 63) && decide (1 * (n : Int).toNat ≤ SZ)) = true := fun n hn => by
    simp only [Bool.and_eq_true, decide_eq_true_eq]
    refine ⟨⟨by omega, by omega⟩, ?_⟩
    unfold SZ
    omega
  have mt : ∀ (p : PV) (n : Nat), n < 100 → bin .mul (.tup [p]) (.int (n : Int)) = some (.v (.tup (List.replicate n p))) := fun p n hn => by
    have := mulOk n hn
    simp only [bin, List.length_cons, List.length_nil, Nat.zero_add]
    rw [if_pos this, rep1]
  have ms : ∀ n : Nat, n < 100 → bin .mul (.str [48]) (.int (n : Int)) = some (.v (.str (List.replicate n 48))) := fun n hn => by
    have := mulOk n hn
    simp only [bin, List.length_cons, List.length_nil, Nat.zero_add]
    rw [if_pos this, rep1]
  have nr : ∀ (n v : Nat), List.replicate n (PV.int (v : Int)) = nv (List.replicate n v) := fun n v => by simp [nv]
  have m1 := mt (.int 0) x (by omega)
  have m2 := mt (.int (x : Int)) y (by omega)
  have m3 := ms y (by omega)
  rw [nr y x] at m2
  have n0 : List.replicate x (PV.int 0) = nv (List.replicate x 0) := by simp [nv]
  rw [n0] at m1
  have ad1 : bin .add (.tup (nv (List.replicate x 0))) (.tup [.int 1]) = some (.v (.tup (nv ls))) := by
    rw [bin_addT (by simp; unfold SZ; omega), hls]
    simp [nv]
  have ad2 : bin .add (.str (List.replicate y 48)) (.str [49, 48]) = some (.v (.str (List.replicate y 48 ++ [49, 48]))) := bin_addS (by simp; unfold SZ; omega)
  have gt := got_ok hC (fu := 400) (k := 11) (μ := μ3) h (x := List.replicate y 48 ++ [49, 48]) (ss := List.replicate y x) (r := [49, 48]) (bts_app (fun z hz => .inl (List.eq_of_mem_replicate hz)) (fun z hz => by simp at hz; omega)) (by simp; omega) (by rw [hc]; exact lone_dec x y) (by omega)
  have pt := put_ok hC (fu := 400) (k := 11) (μ := μ3) h (qs := List.replicate y (x, [48])) (fun q hq => by
    rw [hc, List.eq_of_mem_replicate hq]
    exact List.mem_cons_self ..) (by simp; omega) (by omega)
  have p1 : (List.replicate y (x, [48])).map (·.1) = List.replicate y x := by simp
  have p2 : ((List.replicate y (x, [48])).map (·.2)).flatten = List.replicate y 48 := by
    simp
  rw [p1, p2] at pt
  have kd := kind_ok hC (fu := 400) (k := 11) (μ := μ3) h.toLens (by omega)
  have kd1 : kindT ls = kOne := by rw [hls]; exact lone_kind x
  rw [kd1] at kd
  have sv : sameV 3 (.tup [.tup [.tup (nv (List.replicate y x)), .int 2], .str (List.replicate y 48), .str [111, 110, 101]]) = true := by
    have z : y ≤ SZ := by unfold SZ; omega
    simp [sameV, z]
  have sm := lsame_ok hM (con := con) (fu := 400) (μ := μ3) 3 11 _ sv (by omega)
  have h62 := r62_nat (m := 8) (by decide)
  have g2 : ((([49, 48] : List Nat).length : Nat) : Int) = 2 := rfl
  rw [g2] at gt
  have t1 : tupR [.v (.int 0)] μ3 = .ok (.v (.tup [.int 0])) μ3 := by simp [tupR_kps]
  have t2 : tupR [.v (.int 1)] μ3 = .ok (.v (.tup [.int 1])) μ3 := by simp [tupR_kps]
  have t3 : tupR [.v (.int (x : Int))] μ3 = .ok (.v (.tup [.int (x : Int)])) μ3 := by simp [tupR_kps]
  have t4 : ∀ p : PV, tupR [.v p, .v (.int 2)] μ3 = .ok (.v (.tup [p, .int 2])) μ3 := fun p => by simp [tupR_kps]
  have t5 : ∀ p q r : PV, tupR [.v p, .v q, .v r] μ3 = .ok (.v (.tup [p, q, r])) μ3 := fun p q r => by simp [tupR_kps]
  have k1 : kOne = [111, 110, 101] := rfl
  rw [k1] at kd
  simp at e2 h62
  simp [F_law, e1, rngR_ok h62.1 h62.2, loop_v (rng_items _ _)]
  rw [e2]
  simp only [seqR_nx, ex_par, evs_cons, evs_nil, ev_call, ev_var, ev_int, lvR_0, lvR_s, R.bind_ok, e3, e4, parA_v, parA_nil, List.set_cons_succ, List.set_cons_zero, ex_asg, ev_bin, ev_tup, t1, t2, m1, ad1, opt2_vv, opt_some, asgR_v, ev_str, m3, ad2, gt, t3, m2, pt, kd, t4, t5, sm, seqR_ret, fin_ret, leave_v]
  obtain ⟨_, _, _, rfl⟩ := c3
  rfl
end K04Z

namespace K04Z
open Z ZL PySem PySem.Spec L2
def top (i : Nat) : Stmt := PySem.Challenge.pw_tightstreams_k04_whole_signs_put_and_got.main.body.getD i (.Pass ⟨0, 0, 0, 0⟩)
def D__law_cup : FD := ⟨"_law_cup", defArgs (top 30), defBody (top 30), defScope (top 30), ["script", "cell"], ["script"], F__law_cup⟩
def D__law_same : FD := ⟨"_law_same", defArgs (top 33), defBody (top 33), defScope (top 33), ["told", "due", "at"], ["told", "due"], F__law_same⟩
def D__law_roll : FD := ⟨"_law_roll", defArgs (top 31), defBody (top 31), defScope (top 31), ["cup", "many", "deep", "found"], ["cup", "many"], F__law_roll_v5⟩
def D__law_turned : FD := ⟨"_law_turned", defArgs (top 34), defBody (top 34), defScope (top 34), ["cup", "things", "turn", "left", "found"], ["cup", "things"], F__law_turned_v2⟩
def D__law_some : FD := ⟨"_law_some", defArgs (top 32), defBody (top 32), defScope (top 32), ["cup", "things"], ["cup", "things"], F__law_some_v4⟩
def D__law_shape : FD := ⟨"_law_shape", defArgs (top 38), defBody (top 38), defScope (top 38), ["cup", "signs", "most", "found", "good", "at"], ["cup", "signs", "most"], F__law_shape_v2⟩
def D__law_dealt : FD := ⟨"_law_dealt", defArgs (top 39), defBody (top 39), defScope (top 39), ["cup", "signs", "size", "most", "found", "shape", "sign", "own"], ["cup", "signs", "size", "most"], F__law_dealt_v2⟩
def D__law_lengths : FD := ⟨"_law_lengths", defArgs (top 40), defBody (top 40), defScope (top 40), ["cup", "signs", "most", "many", "used", "found", "at", "sign"], ["cup", "signs", "most"], F__law_lengths⟩
def D__law_number : FD := ⟨"_law_number", defArgs (top 35), defBody (top 35), defScope (top 35), ["bits", "found", "sign"], ["bits"], F__law_number⟩
def D__law_room : FD := ⟨"_law_room", defArgs (top 41), defBody (top 41), defScope (top 41), ["lengths", "own"], ["lengths"], F__law_room⟩
def D__law_kind : FD := ⟨"_law_kind", defArgs (top 42), defBody (top 42), defScope (top 42), ["lengths", "used", "whole", "own"], ["lengths"], F__law_kind⟩
def D__law_bits : FD := ⟨"_law_bits", defArgs (top 36), defBody (top 36), defScope (top 36), ["number", "many", "found", "turn"], ["number", "many"], F__law_bits⟩
def D__law_codes : FD := ⟨"_law_codes", defArgs (top 37), defBody (top 37), defScope (top 37), ["lengths", "many", "found", "sign", "first", "number", "one"], ["lengths"], F__law_codes⟩
def D_is_tuple_of : FD := ⟨"is_tuple_of", defArgs (top 9), defBody (top 9), defScope (top 9), ["value", "low", "high"], ["value", "low", "high"], F_is_tuple_of⟩
def D_is_whole : FD := ⟨"is_whole", defArgs (top 8), defBody (top 8), defScope (top 8), ["value", "low", "high"], ["value", "low", "high"], F_is_whole⟩
def D_fits_lengths : FD := ⟨"fits_lengths", defArgs (top 18), defBody (top 18), defScope (top 18), ["value", "one"], ["value"], F_fits_lengths⟩
def D_need_lengths : FD := ⟨"need_lengths", defArgs (top 19), defBody (top 19), defScope (top 19), ["lengths"], ["lengths"], F_need_lengths⟩
def D_room_in : FD := ⟨"room_in", defArgs (top 20), defBody (top 20), defScope (top 20), ["lengths", "one"], ["lengths"], F_room_in⟩
def D_kind_in : FD := ⟨"kind_in", defArgs (top 21), defBody (top 21), defScope (top 21), ["lengths", "used", "room", "one"], ["lengths"], F_kind_in⟩
def D_need_codes : FD := ⟨"need_codes", defArgs (top 25), defBody (top 25), defScope (top 25), ["lengths"], ["lengths"], F_need_codes⟩
def D_fits_bits : FD := ⟨"fits_bits", defArgs (top 10), defBody (top 10), defScope (top 10), ["value", "sign"], ["value"], F_fits_bits⟩
def D_need_bits : FD := ⟨"need_bits", defArgs (top 11), defBody (top 11), defScope (top 11), ["bits"], ["bits"], F_need_bits⟩
def D_code_bits : FD := ⟨"code_bits", defArgs (top 22), defBody (top 22), defScope (top 22), ["number", "many", "found", "turn"], ["number", "many"], F_code_bits⟩
def D_power : FD := ⟨"power", defArgs (top 12), defBody (top 12), defScope (top 12), ["many", "found", "turn"], ["many"], F_power⟩
def D_codes_in : FD := ⟨"codes_in", defArgs (top 23), defBody (top 23), defScope (top 23), ["lengths", "found", "number", "last", "many", "sign", "one"], ["lengths"], F_codes_in⟩
def D_tree_in : FD := ⟨"tree_in", defArgs (top 24), defBody (top 24), defScope (top 24), ["lengths", "codes", "sign"], ["lengths"], F_tree_in⟩
def D_got : FD := ⟨"got", defArgs (top 28), defBody (top 28), defScope (top 28), ["lengths", "bits", "sign", "tree", "found", "row", "left"], ["lengths", "bits"], F_got⟩
def D_put : FD := ⟨"put", defArgs (top 27), defBody (top 27), defScope (top 27), ["lengths", "signs", "table", "one"], ["lengths", "signs"], F_put⟩
def D_kind : FD := ⟨"kind", defArgs (top 26), defBody (top 26), defScope (top 26), ["lengths"], ["lengths"], F_kind⟩
def D_law : FD := ⟨"law", defArgs (top 43), defBody (top 43), defScope (top 43), ["script", "cup", "turn", "lone", "lengths", "sign", "many", "tree", "words", "signs", "bits", "some", "found", "left", "code", "step", "own"], ["script"], F_law⟩
def fds : List (Nat × FD) := [(5000, D__law_cup), (9, D__law_same), (69, D__law_roll), (70, D__law_turned), (71, D__law_some), (72, D__law_shape), (73, D__law_dealt), (5001, D__law_lengths), (18, D__law_number), (53, D__law_room), (54, D__law_kind), (3, D__law_bits), (65, D__law_codes), (12, D_is_tuple_of), (6, D_is_whole), (55, D_fits_lengths), (56, D_need_lengths), (57, D_room_in), (58, D_kind_in), (60, D_need_codes), (10, D_fits_bits), (15, D_need_bits), (61, D_code_bits), (7, D_power), (62, D_codes_in), (74, D_tree_in), (75, D_got), (76, D_put), (59, D_kind), (5002, D_law)]
def cos : List (Str × Nat) := [("SIGNS", 8), ("MOST", 9), ("ROOMS", 10), ("WHOLE", 11), ("BITS", 0)]
def frs : List Str := ["abs", "list", "int", "range", "isinstance", "tuple", "bool", "all", "str", "len", "zip", "sum", "dict", "sorted", "enumerate"]
theorem k__law_cup : D__law_cup.ok (glOf fds [] cos frs true) = true := by decide +kernel
theorem k__law_same : D__law_same.ok (glOf fds [] cos frs true) = true := by decide +kernel
theorem k__law_roll : D__law_roll.ok (glOf fds [] cos frs true) = true := by decide +kernel
theorem k__law_turned : D__law_turned.ok (glOf fds [] cos frs true) = true := by decide +kernel
theorem k__law_some : D__law_some.ok (glOf fds [] cos frs true) = true := by decide +kernel
theorem k__law_shape : D__law_shape.ok (glOf fds [] cos frs true) = true := by decide +kernel
theorem k__law_dealt : D__law_dealt.ok (glOf fds [] cos frs true) = true := by decide +kernel
theorem k__law_lengths : D__law_lengths.ok (glOf fds [] cos frs true) = true := by decide +kernel
theorem k__law_number : D__law_number.ok (glOf fds [] cos frs true) = true := by decide +kernel
theorem k__law_room : D__law_room.ok (glOf fds [] cos frs true) = true := by decide +kernel
theorem k__law_kind : D__law_kind.ok (glOf fds [] cos frs true) = true := by decide +kernel
theorem k__law_bits : D__law_bits.ok (glOf fds [] cos frs true) = true := by decide +kernel
theorem k__law_codes : D__law_codes.ok (glOf fds [] cos frs true) = true := by decide +kernel
theorem k_is_tuple_of : D_is_tuple_of.ok (glOf fds [] cos frs true) = true := by decide +kernel
theorem k_is_whole : D_is_whole.ok (glOf fds [] cos frs true) = true := by decide +kernel
theorem k_fits_lengths : D_fits_lengths.ok (glOf fds [] cos frs true) = true := by decide +kernel
theorem k_need_lengths : D_need_lengths.ok (glOf fds [] cos frs true) = true := by decide +kernel
theorem k_room_in : D_room_in.ok (glOf fds [] cos frs true) = true := by decide +kernel
theorem k_kind_in : D_kind_in.ok (glOf fds [] cos frs true) = true := by decide +kernel
theorem k_need_codes : D_need_codes.ok (glOf fds [] cos frs true) = true := by decide +kernel
theorem k_fits_bits : D_fits_bits.ok (glOf fds [] cos frs true) = true := by decide +kernel
theorem k_need_bits : D_need_bits.ok (glOf fds [] cos frs true) = true := by decide +kernel
theorem k_code_bits : D_code_bits.ok (glOf fds [] cos frs true) = true := by decide +kernel
theorem k_power : D_power.ok (glOf fds [] cos frs true) = true := by decide +kernel
theorem k_codes_in : D_codes_in.ok (glOf fds [] cos frs true) = true := by decide +kernel
theorem k_tree_in : D_tree_in.ok (glOf fds [] cos frs true) = true := by decide +kernel
theorem k_got : D_got.ok (glOf fds [] cos frs true) = true := by decide +kernel
theorem k_put : D_put.ok (glOf fds [] cos frs true) = true := by decide +kernel
theorem k_kind : D_kind.ok (glOf fds [] cos frs true) = true := by decide +kernel
theorem k_law : D_law.ok (glOf fds [] cos frs true) = true := by decide +kernel
def ls0 : List Str := ["TightError", "InvalidBits", "InvalidNumber", "InvalidLengths", "OCTETS", "BITS", "is_whole", "is_tuple_of", "fits_bits", "need_bits", "power", "MOST", "SIGNS", "WHOLE", "ROOMS", "fits_lengths", "need_lengths", "room_in", "kind_in", "code_bits", "codes_in", "tree_in", "need_codes", "kind", "put", "got", "_law_cup", "_law_roll", "_law_some", "_law_same"]
def ls1 : List Str := ["_law_turned", "_law_number", "_law_bits", "_law_codes", "_law_shape", "_law_dealt", "_law_lengths", "_law_room", "_law_kind"]
def loose : List Str := ls0 ++ ls1
def fn : List He.DefD := fds.map fun d => hd d.2
def conl : List (Str × PV) := [("SIGNS", con 8), ("MOST", con 9), ("ROOMS", con 10), ("WHOLE", con 11), ("BITS", con 0)]
def fa : List He.Fa := fds.map (fun d => .glo d.2.name) ++ frs.map .free
def exK (K : PySem.W.Frag) : Bool := conl.all (conZ K)
abbrev R : PySem.W.OpenRow := PySem.W.OpenLaw.row PySem.Challenge.rw_tightstreams_k04_whole_signs_put_and_got
abbrev hk : PySem.W.Hook := He.hookX 5 fa fn [] [] exK
def ob (s : PySem.W.SharedT) : He.AlX := He.obsX 5 fa fn [] [] exK (HandSHeadRun.getT s)
theorem ob_eq (s : PySem.W.SharedT) : ob s = hk.obs s.abs := He.obsX_eq (HandSHeadRun.getT_eq s)
theorem run0 (w : World) : HandSHeadRun.RunEq R (PySem.W.view R.prog [43]) hk ob 6000 loose w := by
  intro os
  kernel_rfl
theorem b__law_cup : BndD D__law_cup := fun kV doc pm an cdv ct us hl => match us, hl with
  | [_], _ => rfl
theorem b__law_same : BndD D__law_same := fun kV doc pm an cdv ct us hl => match us, hl with
  | [_, _], _ => rfl
theorem b__law_roll : BndD D__law_roll := fun kV doc pm an cdv ct us hl => match us, hl with
  | [_, _], _ => rfl
theorem b__law_turned : BndD D__law_turned := fun kV doc pm an cdv ct us hl => match us, hl with
  | [_, _], _ => rfl
theorem b__law_some : BndD D__law_some := fun kV doc pm an cdv ct us hl => match us, hl with
  | [_, _], _ => rfl
theorem b__law_shape : BndD D__law_shape := fun kV doc pm an cdv ct us hl => match us, hl with
  | [_, _, _], _ => rfl
theorem b__law_dealt : BndD D__law_dealt := fun kV doc pm an cdv ct us hl => match us, hl with
  | [_, _, _, _], _ => rfl
theorem b__law_lengths : BndD D__law_lengths := fun kV doc pm an cdv ct us hl => match us, hl with
  | [_, _, _], _ => rfl
theorem b__law_number : BndD D__law_number := fun kV doc pm an cdv ct us hl => match us, hl with
  | [_], _ => rfl
theorem b__law_room : BndD D__law_room := fun kV doc pm an cdv ct us hl => match us, hl with
  | [_], _ => rfl
theorem b__law_kind : BndD D__law_kind := fun kV doc pm an cdv ct us hl => match us, hl with
  | [_], _ => rfl
theorem b__law_bits : BndD D__law_bits := fun kV doc pm an cdv ct us hl => match us, hl with
  | [_, _], _ => rfl
theorem b__law_codes : BndD D__law_codes := fun kV doc pm an cdv ct us hl => match us, hl with
  | [_], _ => rfl
theorem b_is_tuple_of : BndD D_is_tuple_of := fun kV doc pm an cdv ct us hl => match us, hl with
  | [_, _, _], _ => rfl
theorem b_is_whole : BndD D_is_whole := fun kV doc pm an cdv ct us hl => match us, hl with
  | [_, _, _], _ => rfl
theorem b_fits_lengths : BndD D_fits_lengths := fun kV doc pm an cdv ct us hl => match us, hl with
  | [_], _ => rfl
theorem b_need_lengths : BndD D_need_lengths := fun kV doc pm an cdv ct us hl => match us, hl with
  | [_], _ => rfl
theorem b_room_in : BndD D_room_in := fun kV doc pm an cdv ct us hl => match us, hl with
  | [_], _ => rfl
theorem b_kind_in : BndD D_kind_in := fun kV doc pm an cdv ct us hl => match us, hl with
  | [_], _ => rfl
theorem b_need_codes : BndD D_need_codes := fun kV doc pm an cdv ct us hl => match us, hl with
  | [_], _ => rfl
theorem b_fits_bits : BndD D_fits_bits := fun kV doc pm an cdv ct us hl => match us, hl with
  | [_], _ => rfl
theorem b_need_bits : BndD D_need_bits := fun kV doc pm an cdv ct us hl => match us, hl with
  | [_], _ => rfl
theorem b_code_bits : BndD D_code_bits := fun kV doc pm an cdv ct us hl => match us, hl with
  | [_, _], _ => rfl
theorem b_power : BndD D_power := fun kV doc pm an cdv ct us hl => match us, hl with
  | [_], _ => rfl
theorem b_codes_in : BndD D_codes_in := fun kV doc pm an cdv ct us hl => match us, hl with
  | [_], _ => rfl
theorem b_tree_in : BndD D_tree_in := fun kV doc pm an cdv ct us hl => match us, hl with
  | [_], _ => rfl
theorem b_got : BndD D_got := fun kV doc pm an cdv ct us hl => match us, hl with
  | [_, _], _ => rfl
theorem b_put : BndD D_put := fun kV doc pm an cdv ct us hl => match us, hl with
  | [_, _], _ => rfl
theorem b_kind : BndD D_kind := fun kV doc pm an cdv ct us hl => match us, hl with
  | [_], _ => rfl
theorem b_law : BndD D_law := fun kV doc pm an cdv ct us hl => match us, hl with
  | [_], _ => rfl
theorem bnds : ∀ d ∈ fds, BndD d.2 := List.forall_mem_cons.mpr ⟨b__law_cup, List.forall_mem_cons.mpr ⟨b__law_same, List.forall_mem_cons.mpr ⟨b__law_roll, List.forall_mem_cons.mpr ⟨b__law_turned, List.forall_mem_cons.mpr ⟨b__law_some, List.forall_mem_cons.mpr ⟨b__law_shape, List.forall_mem_cons.mpr ⟨b__law_dealt, List.forall_mem_cons.mpr ⟨b__law_lengths, List.forall_mem_cons.mpr ⟨b__law_number, List.forall_mem_cons.mpr ⟨b__law_room, List.forall_mem_cons.mpr ⟨b__law_kind, List.forall_mem_cons.mpr ⟨b__law_bits, List.forall_mem_cons.mpr ⟨b__law_codes, List.forall_mem_cons.mpr ⟨b_is_tuple_of, List.forall_mem_cons.mpr ⟨b_is_whole, List.forall_mem_cons.mpr ⟨b_fits_lengths, List.forall_mem_cons.mpr ⟨b_need_lengths, List.forall_mem_cons.mpr ⟨b_room_in, List.forall_mem_cons.mpr ⟨b_kind_in, List.forall_mem_cons.mpr ⟨b_need_codes, List.forall_mem_cons.mpr ⟨b_fits_bits, List.forall_mem_cons.mpr ⟨b_need_bits, List.forall_mem_cons.mpr ⟨b_code_bits, List.forall_mem_cons.mpr ⟨b_power, List.forall_mem_cons.mpr ⟨b_codes_in, List.forall_mem_cons.mpr ⟨b_tree_in, List.forall_mem_cons.mpr ⟨b_got, List.forall_mem_cons.mpr ⟨b_put, List.forall_mem_cons.mpr ⟨b_kind, List.forall_mem_cons.mpr ⟨b_law, List.forall_mem_nil _⟩⟩⟩⟩⟩⟩⟩⟩⟩⟩⟩⟩⟩⟩⟩⟩⟩⟩⟩⟩⟩⟩⟩⟩⟩⟩⟩⟩⟩⟩
theorem chks : ∀ d ∈ fds, d.2.ok (glOf fds [] cos frs true) = true := List.forall_mem_cons.mpr ⟨k__law_cup, List.forall_mem_cons.mpr ⟨k__law_same, List.forall_mem_cons.mpr ⟨k__law_roll, List.forall_mem_cons.mpr ⟨k__law_turned, List.forall_mem_cons.mpr ⟨k__law_some, List.forall_mem_cons.mpr ⟨k__law_shape, List.forall_mem_cons.mpr ⟨k__law_dealt, List.forall_mem_cons.mpr ⟨k__law_lengths, List.forall_mem_cons.mpr ⟨k__law_number, List.forall_mem_cons.mpr ⟨k__law_room, List.forall_mem_cons.mpr ⟨k__law_kind, List.forall_mem_cons.mpr ⟨k__law_bits, List.forall_mem_cons.mpr ⟨k__law_codes, List.forall_mem_cons.mpr ⟨k_is_tuple_of, List.forall_mem_cons.mpr ⟨k_is_whole, List.forall_mem_cons.mpr ⟨k_fits_lengths, List.forall_mem_cons.mpr ⟨k_need_lengths, List.forall_mem_cons.mpr ⟨k_room_in, List.forall_mem_cons.mpr ⟨k_kind_in, List.forall_mem_cons.mpr ⟨k_need_codes, List.forall_mem_cons.mpr ⟨k_fits_bits, List.forall_mem_cons.mpr ⟨k_need_bits, List.forall_mem_cons.mpr ⟨k_code_bits, List.forall_mem_cons.mpr ⟨k_power, List.forall_mem_cons.mpr ⟨k_codes_in, List.forall_mem_cons.mpr ⟨k_tree_in, List.forall_mem_cons.mpr ⟨k_got, List.forall_mem_cons.mpr ⟨k_put, List.forall_mem_cons.mpr ⟨k_kind, List.forall_mem_cons.mpr ⟨k_law, List.forall_mem_nil _⟩⟩⟩⟩⟩⟩⟩⟩⟩⟩⟩⟩⟩⟩⟩⟩⟩⟩⟩⟩⟩⟩⟩⟩⟩⟩⟩⟩⟩⟩
def G (K : PySem.W.Frag) : GE := G0 K fds []
section
variable {P : Program} {w : World} {K : PySem.W.Frag} {h : Heap} {mg : Str → Option Value}
theorem cons_ (X : K.In h) (N : h.Ns mainGlobals mg) (c : exK K = true) : ∀ q ∈ cos, ConOk K mg (G K) q.1 (con q.2) := List.forall_mem_cons.mpr ⟨con_z (q := ("SIGNS", con 8)) X N (List.all_eq_true.mp c _ (by simp [conl])), List.forall_mem_cons.mpr ⟨con_z (q := ("MOST", con 9)) X N (List.all_eq_true.mp c _ (by simp [conl])), List.forall_mem_cons.mpr ⟨con_z (q := ("ROOMS", con 10)) X N (List.all_eq_true.mp c _ (by simp [conl])), List.forall_mem_cons.mpr ⟨con_z (q := ("WHOLE", con 11)) X N (List.all_eq_true.mp c _ (by simp [conl])), List.forall_mem_cons.mpr ⟨con_z (q := ("BITS", con 0)) X N (List.all_eq_true.mp c _ (by simp [conl])), List.forall_mem_nil _⟩⟩⟩⟩⟩
theorem facts {f : Addr} {k fuel : Nat} (X : K.In h) (N : h.Ns mainGlobals mg) (hfa : mg ("law" : Str) = some (.ref f)) (c : He.SaysD fa fn K) (c2 : exK K = true) :
    ∃ fd : FuncData, (∀ (s : Shared) (v : Value), BindsTo s fd ⟨[v], []⟩ [("script", v)]) ∧ ∀ base : Heap, K.In base → base.Ns mainGlobals mg → FnG true P w K mg base C8.CX0 k f fd ["script"] (spF K (G K) (run (tabT fds) con fuel k) LA) := by
  have told := told_all (fds := fds) (cls := []) X N c (fun d hd => List.mem_map.mpr ⟨d, hd, rfl⟩) (fun d hd => List.mem_append_left _ (List.mem_map.mpr ⟨d, hd, rfl⟩)) bnds
  have T := told LA D_law rfl
  have e := T.mg.symm.trans hfa
  cases e
  obtain ⟨fd, F, _⟩ := T.ex
  have b := FunD.bindsA (ps := D_law.ps) F b_law
  refine ⟨fd, fun s v => b s [v] rfl, fun base _ _ => fns_ok (G := G K) (by decide) told (fun f d hd => chks (f, d) (mem_key hd)) (fun x hx => He.free_ok X N (c.facts (List.mem_append_right _ (List.mem_map.mpr ⟨x, hx, rfl⟩)))) (fun x q hq => cons_ X N c2 (x, q) (PySem.mem_of_lookup hq)) k LA D_law fd rfl F⟩
end
theorem tab_eq : tabT fds = T := tab_map fds
end K04Z
open PySem PySem.W PySem.Calls PyProof.Rows
theorem PySem.Challenge.cw_tightstreams_k04_whole_signs_put_and_got_holds : PySem.Challenge.rw_tightstreams_k04_whole_signs_put_and_got.Holds := by
  w_on; o_law
  refine HandSHeadRun.head_any (r := OpenLaw.row PySem.Challenge.rw_tightstreams_k04_whole_signs_put_and_got) (q := view (OpenLaw.row PySem.Challenge.rw_tightstreams_k04_whole_signs_put_and_got).prog [43]) (H := K04Z.hk) (ob := K04Z.ob) (M := 6000) (loose := K04Z.loose) (d := HandSHeadRun.topDef (OpenLaw.row PySem.Challenge.rw_tightstreams_k04_whole_signs_put_and_got).prog 43) (kwd := []) K04Z.ob_eq
    (by kernel_rfl) (fun s => by kernel_rfl) K04Z.run0 (by kernel_rfl) (by kernel_rfl) (by kernel_rfl) (by rfl) (by first | assumption | decide +kernel) (by decide +kernel) ⟨rfl, rfl, rfl, rfl, rfl, by decide +kernel⟩ ?hw ?hc
  case hw => w_witness2
  case hc =>
    refine Z.walk_ofG (gd := true) (l := PySem.Challenge.rw_tightstreams_k04_whole_signs_put_and_got) (n := 63) (k := K04Z.KK) (x := "script") (CX := fun _ => C8.CX0) rfl (by decide) (by kernel_rfl) ⟨rfl, by decide, by decide⟩ ?F (fun _ _ _ _ _ z => z)
    intro w mg fa h Y N hmg0
    obtain ⟨K, KX, c⟩ := Y
    have hmg : mg ("law" : PySem.Str) = some (.ref fa) := by
      have e : (HandSHeadRun.topDef (OpenLaw.row PySem.Challenge.rw_tightstreams_k04_whole_signs_put_and_got).prog 43).name = ("law" : PySem.Str) := by kernel_rfl
      rw [← e]
      exact hmg0
    obtain ⟨fd, hb, hF⟩ := K04Z.facts (P := (PySem.Challenge.rw_tightstreams_k04_whole_signs_put_and_got).prog) (w := w) (k := K04Z.KK) (fuel := K04Z.FU) KX N hmg c.t.d c.more
    exact ⟨K, fd, Z.spF K (K04Z.G K) (Z.run (Z.tabT K04Z.fds) K04Z.con K04Z.FU K04Z.KK) K04Z.LA, KX, hb, fun H a xs hl hO hS => Z.script_sp hO hS (by rw [K04Z.tab_eq]; exact K04Z.law_true xs hl), hF⟩

